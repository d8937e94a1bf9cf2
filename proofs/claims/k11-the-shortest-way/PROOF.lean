import PyProof.Rows.All
import Wide.All
import OpenK.AllK
import Wide.FinOn
import HandS.ForMost
import HandS.ForExc
import HandS.IsInst
import HandS.Walk
import HandS.Zip
import HandS.Wide
import HandS.Flow
import HandS.Small
import HandS.Rev
import HandS.More
import HandS.Steps
import HandS.WideBits
import HandS.TupAny
import KE.GoesEnum
import HandS.ExcInit
import HandS.ExcIs
import HandS.ExcField
import HandS.ClsMeth
import KE.KExcIs
import HandS.TryOnly
import KE.RegKIsAll
import PyProof.Rows.ChunkEnd
import HandS.Replace
import HandS.Text
import HandS.ReplaceList
import KE.KDictCopyH
import HandS.Strs
import HandS.SetFor
import HandS.TupLe
import PyProof.Rows.SetFrom
import HandS.ListEq
import KE.SortKeyHeap
import HandS.SortKw
import HandS.Conv
import KE.KMinBuiltin
import KE.KMinKey
import HandS.SortInts
import PyProof.P3Eq
import PySem.Challenge.RW_pillarstore_k11_the_shortest_way
set_option Elab.async false
set_option linter.all false
set_option maxRecDepth 100000
set_option maxHeartbeats 4000000
namespace Ps
open PySem PySem.Spec PyProof.Rows L2
theorem opr_or {X : Cx} {f : Value → Value → Sem Value} {r r' : R2} (h : OpR X f r) (h' : OpR X f r') : OpR X f (fun x y H Q => r x y H Q ∨ r' x y H Q) := by
  intro pins s σ H x y v u Q I rx ry q
  rcases q with q | q
  · exact h pins s σ H x y v u Q I rx ry q
  · exact h' pins s σ H x y v u Q I rx ry q
theorem callr_or {X : Cx} {f : Value} {r r' : List V → Hp → VK → Prop} (h : CallR X f r) (h' : CallR X f r') : CallR X f (fun xs H Q => r xs H Q ∨ r' xs H Q) := by
  intro pins s σ H xs us Q I r q
  rcases q with q | q
  · exact h pins s σ H xs us Q I r q
  · exact h' pins s σ H xs us Q I r q
theorem pset_or {X : Cx} {r r' : TSet} (h : PSet X r) (h' : PSet X r') : PSet X (fun o i v H Q => r o i v H Q ∨ r' o i v H Q) := by
  intro pins s σ H o i v ov iv u Q I ro ri rv q
  rcases q with q | q
  · exact h pins s σ H o i v ov iv u Q I ro ri rv q
  · exact h' pins s σ H o i v ov iv u Q I ro ri rv q
def rStrAdd : R2 := fun x y H Q => ∃ i j, x = .str i ∧ y = .str j ∧ i.length + j.length ≤ sizeLine ∧ Q (.str (i ++ j)) H
def rAddU (K : PySem.W.Frag) : R2 := fun x y H Q => (rI0 (fun i j => .int (i + j)) x y H Q ∨ rStrAdd x y H Q) ∨ (rCat x y H Q ∨ rCatA K x y H Q)
def rMulU : R2 := fun x y H Q => (rI CMul (fun i j => .int (i * j)) x y H Q ∨ rI CMulW (fun i j => .int (i * j)) x y H Q) ∨ rRep x y H Q
def rDivU : R2 := fun x y H Q => rI CDiv (fun i j => .int (i / j)) x y H Q ∨ rI CDivW (fun i j => .int (i / j)) x y H Q
def rModU : R2 := rI (fun _ j => 0 < j) fun i j => .int (i % j)
def rPowU : R2 := rI CPow fun i j => .int (i ^ j.toNat)
def rSubU : R2 := rI0 fun i j => .int (i - j)
def rIxD : R2 := fun x y H Q => ∃ a v, x = .ref a ∧ DGet H a y (some v) ∧ Q v H
def rIxU (K : PySem.W.Frag) : R2 := fun x y H Q => (rIxL K x y H Q ∨ rIxT K x y H Q) ∨ (rIxS x y H Q ∨ rIxD x y H Q)
def rEqU (K : PySem.W.Frag) : R2 := fun x y H Q => rEq x y H Q ∨ rEqD K x y H Q
def rNeU (K : PySem.W.Frag) : R2 := fun x y H Q => rNe x y H Q ∨ rNeD K x y H Q
def rLtS : R2 := fun x y H Q => ∃ i j, x = .str i ∧ y = .str j ∧ Q (.bl (decide (i.cps.toList < j.cps.toList))) H
def rLtU (K : PySem.W.Frag) : R2 := fun x y H Q => rI0 (fun i j => .bl (decide (i < j))) x y H Q ∨ rLtS x y H Q
def rLeU : R2 := rI0 fun i j => .bl (decide (i ≤ j))
def rGtU : R2 := rI0 fun i j => .bl (decide (j < i))
def rGeU : R2 := rI0 fun i j => .bl (decide (j ≤ i))
def rIsN : R2 := fun x y H Q => y = .non ∧ Q (.bl (decide (x = .non))) H
def rNotN : R2 := fun x y H Q => y = .non ∧ Q (.bl (!decide (x = .non))) H
section
variable {X : Cx}
theorem op_addU : OpR X (binaryOp .Add) (rAddU X.K) := opr_or (opr_or op_add op_add_str) (opr_or op_cat op_catA)
theorem op_mulU : OpR X (binaryOp .Mult) rMulU := opr_or (opr_or op_mul op_mulW) op_rep
theorem op_divU : OpR X (binaryOp .FloorDiv) rDivU := opr_or op_fdiv op_fdivW
theorem op_modU : OpR X (binaryOp .Mod) rModU := op_mod
theorem op_powU : OpR X (binaryOp .Pow) rPowU := op_pow
theorem op_subU : OpR X (binaryOp .Sub) rSubU := op_sub
theorem op_eqU (hu : X.A.units + 64 < cLine) : OpR X (compareOp .Eq) (rEqU X.K) := opr_or op_eq (op_eqD hu)
theorem op_neU (hu : X.A.units + 64 < cLine) : OpR X (compareOp .NotEq) (rNeU X.K) := opr_or op_ne (op_neD hu)
theorem op_ltU : OpR X (compareOp .Lt) (rLtU X.K) := opr_or op_lt op_lt_str
theorem op_gtU : OpR X (compareOp .Gt) rGtU := op_gt
theorem op_geU : OpR X (compareOp .GtE) rGeU := op_ge
theorem op_isNU : OpR X (compareOp .Is) rIsN := op_isN
theorem op_notNU : OpR X (compareOp .IsNot) rNotN := op_notN
theorem ix_dict (hu : X.A.units + 1 < cLine) : IxR X rIxD := by
  intro value slice pins s σ H x y v u Q I rx ry h hs
  obtain ⟨a, z, rfl, g, q⟩ := h
  cases rx
  have hT := dict_typeIs I g
  have h2 : wpAny (model X.prog X.w) X.A (getItem (.ref a) u) (EP X pins σ Q) X.xe s := d_getItem hu I g ry fun w' s3 I3 rw' => ⟨z, H, I3, rw', q⟩
  unfold subscriptTail
  refine wpAny_bind ?_
  rw [getitemInPython_of_ne hT.not_modules]
  refine wpAny_bind (wpAny_specialOf hT PySem.F.slot_dict_getitem.lookup ?_)
  have fin : wpAny (model X.prog X.w) X.A (subscripted slice false (.ref a) u) (fun r s₃ => wpAny (model X.prog X.w) X.A (letTemporaryGo value (.ref a) r >>= fun _ => pure r) (EP X pins σ Q) X.xe s₃) X.xe s := by
    rw [hs]
    exact wpAny_operating (wpAny_mono h2 (fun r s₃ h₃ => wpAny_bind (wpAny_letTemporaryGo (wpAny_pure h₃))) fun _ _ x => x)
  first
    | exact wpAny_pure (wpAny_bind fin)
    | exact wpAny_bind (wpAny_pure (wpAny_bind fin))
    | exact wpAny_bind fin
theorem ix_u (hu : X.A.units + 1 < cLine) : IxR X (rIxU X.K) := (ix_list.or ix_tup).or (ix_str.or (ix_dict hu))
end
def rLenU (K : PySem.W.Frag) : List V → Hp → VK → Prop := fun xs H Q => (∃ x n, xs = [x] ∧ LenV K x H n ∧ Q (.int n) H) ∨ ∃ a kvs, xs = [V.ref a] ∧ Rd H a (.dK kvs) ∧ Q (.int kvs.length) H
def rListU (K : PySem.W.Frag) : List V → Hp → VK → Prop := fun xs H Q => (∃ p ys, xs = [.ref p] ∧ (SqL K H p ys ∨ SqT K H p ys) ∧ ∀ l, H l = none → Q (.ref l) (upd H l (.lst ys))) ∨
  ∃ (a : Addr) (kvs : List (Key × V)), xs = [.ref a] ∧ Rd H a (.dK kvs) ∧ ∀ p, H p = none → Q (.ref p) (upd H p (.lst (kvs.map fun kv => kV kv.1)))
def rTupU (K : PySem.W.Frag) : List V → Hp → VK → Prop := fun xs H Q => ∃ p ys, xs = [.ref p] ∧ ((SqL K H p ys ∧ ∀ l, H l = none → Q (.ref l) (upd H l (.tup ys))) ∨ (SqT K H p ys ∧ Q (.ref p) H))
def rIntU : List V → Hp → VK → Prop := fun xs H Q => (∃ i, xs = [.int i] ∧ Q (.int i) H) ∨ ∃ k, xs = [.bl k] ∧ Q (.int (if k then 1 else 0)) H
def rDivmod : List V → Hp → VK → Prop := fun xs H Q => ∃ i j, xs = [.int i, .int j] ∧ CDivP i j ∧ ∀ p, H p = none → Q (.ref p) (upd H p (.tup [.int (i / j), .int (i % j)]))
def rMax2 : List V → Hp → VK → Prop := fun xs H Q => ∃ i j, xs = [.int i, .int j] ∧ Q (.int (if j > i then j else i)) H
def rSetU : TSet := fun o i v H Q => rSetL o i v H Q ∨ rSetD o i v H Q
def rSlU (K : PySem.W.Frag) : V → Option Int → Option Int → Hp → VK → Prop := fun x lo hi H Q => (rSlL K x lo hi H Q ∨ rSlA K x lo hi H Q) ∨ ∃ z, x = .str z ∧ z.length ≤ sizeLine ∧ Q (.str (cutS z lo hi)) H
section
variable {X : Cx}
theorem call_lenDk : CallR X (.builtin "len") (fun xs H Q => ∃ a kvs, xs = [V.ref a] ∧ Rd H a (.dK kvs) ∧ Q (.int kvs.length) H) := by
  intro pins s σ H xs us Q I r h
  obtain ⟨a, kvs, rfl, ha, q⟩ := h
  obtain ⟨u, rfl, ru⟩ := vals1 r
  cases ru
  exact d_len I ha fun t s' I' => ⟨.int kvs.length, H, I', ⟨t, rfl⟩, q⟩
theorem call_lenU : CallR X (.builtin "len") (rLenU X.K) := callr_or call_len call_lenDk
theorem call_listU (hc : X.calm = true) : CallR X (.type "list") (rListU X.K) := callr_or call_list_of (call_listD hc)
theorem call_tupU : CallR X (.type "tuple") (rTupU X.K) := call_tuple_of
theorem call_divmodU : CallR X (.builtin "divmod") rDivmod := call_divmodW
theorem set_u (hu : X.A.units + 1 < cLine) : PSet X rSetU := pset_or set_list (set_dict hu)
theorem sl_u : SlR X (rSlU X.K) := (sl_list.or sl_tupA).or sl_str
end
def iSeqV (K : PySem.W.Frag) (tl : TE) : TI := fun σ H R => tl σ H fun x H1 => (∃ a xs, x = .ref a ∧ SqL K H1 a xs ∧ R (Itl K a) H1) ∨ (∃ a xs, x = .ref a ∧ SqT K H1 a xs ∧ R (Itt K a) H1) ∨ ∃ z, x = .str z ∧ R (Its z) H1
section
variable {X : Cx} {tg : Expr}
theorem pi_seqV {l : Expr} {tl : TE} (hl : PE X l tl) : PI X tg l (iSeqV X.K tl) := by
  refine ⟨fun pins s σ H R I h => ?_⟩
  have hA : ∀ (a : Addr) (s1 : Shared) (H1 : Hp), Inv X pins σ H1 s1 → ∀ xs, SqL X.K H1 a xs → R (Itl X.K a) H1 → wpAny (model X.prog X.w) X.A (pyIter (.ref a)) (PIE X pins σ tg R) X.xe s1 := by
    intro a s1 H1 I1 xs hq q
    obtain ⟨its, rv, p, hz⟩ := I1.list hq
    refine wpAny_pyIter_list p.isList ?_
    refine ⟨s1.heap.objs.size, [s1.heap.objs.size], _, _, H1, rfl, I1.kept (t' := s1.toks) fun b o e => Heap.get?_push_of_some _ e, turn_list a _, ⟨_, Heap.get?_push_size _ rfl, rfl, rfl⟩, fun b hb => ?_, q⟩
    have e : b = s1.heap.objs.size := by simpa using hb
    subst e
    exact I1.fpOk (Nat.le_refl _) (I1.hok.fresh (Nat.le_refl _))
  have hB : ∀ (a : Addr) (s1 : Shared) (H1 : Hp), Inv X pins σ H1 s1 → ∀ xs, SqT X.K H1 a xs → R (Itt X.K a) H1 → wpAny (model X.prog X.w) X.A (pyIter (.ref a)) (PIE X pins σ tg R) X.xe s1 := by
    intro a s1 H1 I1 xs hq q
    obtain ⟨its, rv, p, hz⟩ := I1.tuple hq
    refine wpAny_pyIter_tuple (show s1.heap.IsTuple a its.toArray from p) ?_
    refine ⟨s1.heap.objs.size, [s1.heap.objs.size], _, _, H1, rfl, I1.kept (t' := s1.toks) fun b o e => Heap.get?_push_of_some _ e, turn_tuple a _, ⟨_, Heap.get?_push_size _ rfl, rfl, rfl⟩, fun b hb => ?_, q⟩
    have e : b = s1.heap.objs.size := by simpa using hb
    subst e
    exact I1.fpOk (Nat.le_refl _) (I1.hok.fresh (Nat.le_refl _))
  have hC : ∀ (z : Str) (s1 : Shared) (H1 : Hp) (u : Value), Inv X pins σ H1 s1 → RelV (.str z) u → R (Its z) H1 → wpAny (model X.prog X.w) X.A (pyIter u) (PIE X pins σ tg R) X.xe s1 := by
    intro z s1 H1 u I1 ru q
    obtain ⟨t, rfl⟩ := ru
    cases ha : z.cps.all (· < 128)
    · exact wpAny_pyIter_wide ha (pi_one (tk := s1.toks) I1 _ (turn_str _ z t "str_iterator" (.inr rfl)) ⟨_, Heap.get?_push_size _ rfl, rfl, rfl⟩ q)
    · exact wpAny_pyIter_ascii ha (pi_one (tk := s1.toks) I1 _ (turn_str _ z t "str_ascii_iterator" (.inl rfl)) ⟨_, Heap.get?_push_size _ rfl, rfl, rfl⟩ q)
  exact thn (hl.run pins s σ H _ I h) fun v s1 ⟨x, H1, I1, r1, q1⟩ => by
    rcases q1 with ⟨a, xs, e, hq, q⟩ | ⟨a, xs, e, hq, q⟩ | ⟨z, e, q⟩
    · subst e
      cases r1
      exact hA a s1 H1 I1 xs hq q
    · subst e
      cases r1
      exact hB a s1 H1 I1 xs hq q
    · subst e
      exact hC z s1 H1 v I1 r1 q
end
theorem bt_len : bootBuiltins "len" = some (.builtin "len") := by decide +kernel
theorem bt_isinstance : bootBuiltins "isinstance" = some (.builtin "isinstance") := by decide +kernel
theorem bt_all : bootBuiltins "all" = some (.builtin "all") := by decide +kernel
theorem bt_any : bootBuiltins "any" = some (.builtin "any") := by decide +kernel
theorem bt_sum : bootBuiltins "sum" = some (.builtin "sum") := by decide +kernel
theorem bt_divmod : bootBuiltins "divmod" = some (.builtin "divmod") := by decide +kernel
theorem bt_max : bootBuiltins "max" = some (.builtin "max") := by decide +kernel
theorem bt_min : bootBuiltins "min" = some (.builtin "min") := by decide +kernel
theorem bt_sorted : bootBuiltins "sorted" = some (.builtin "sorted") := by decide +kernel
theorem bt_int : bootBuiltins "int" = some (.type "int") := by decide +kernel
theorem bt_bool : bootBuiltins "bool" = some (.type "bool") := by decide +kernel
theorem bt_str : bootBuiltins "str" = some (.type "str") := by decide +kernel
theorem bt_list : bootBuiltins "list" = some (.type "list") := by decide +kernel
theorem bt_tuple : bootBuiltins "tuple" = some (.type "tuple") := by decide +kernel
theorem bt_dict : bootBuiltins "dict" = some (.type "dict") := by decide +kernel
def rIsiU (K : PySem.W.Frag) : List V → Hp → VK → Prop := fun xs H Q => rIsi K xs H Q ∨ rIsiT K xs H Q
def rNeg : V → Hp → VK → Prop := rU fun i => .int (-i)
def ipAddU (K : PySem.W.Frag) : TIp := fun x y H Q => (∃ i j, x = .int i ∧ y = .int j ∧ Q (.int (i + j)) H) ∨ ∃ i j, x = .str i ∧ y = .str j ∧ i.length + j.length ≤ sizeLine ∧ Q (.str (i ++ j)) H
def ipMulU : TIp := fun x y H Q => ∃ i j, x = .int i ∧ y = .int j ∧ (CMul i j ∨ CMulW i j) ∧ Q (.int (i * j)) H
section
variable {X : Cx}
theorem call_isiU : CallR X (.builtin "isinstance") (rIsiU X.K) := callr_or call_isi call_isiT
theorem un_negU : UnR X (unaryOp .USub) rNeg := un_neg
theorem ip_addU : PIp X .Add (ipAddU X.K) := by
  intro pins s σ H x y v u Q I rx ry h
  rcases h with h | h
  · exact ip_add pins s σ H x y v u Q I rx ry h
  · exact iop_add_str pins s σ H x y v u Q I rx ry h
theorem ip_mulU : PIp X .Mult ipMulU := by
  intro pins s σ H x y v u Q I rx ry h
  obtain ⟨i, j, rfl, rfl, hc, q⟩ := h
  obtain ⟨t, rfl⟩ := rx
  obtain ⟨t', rfl⟩ := ry
  refine imul_int ⟨.int _, H, I.tok _, ⟨_, rfl⟩, q⟩ ?_
  rcases hc with hc | hc
  · exact hc.ok
  · exact hc.ok
theorem pt_truU {a : Expr} {ta : TE} (ha : PE X a ta) (he : ∀ whole, isTrue a X.env whole = (do let v ← whole; standAt a.pos; holding [v] (truthy v))) : PT X a (tTru X.K ta) := pt_truth ha he
end
end Ps
namespace Ps
open PySem PySem.Spec PyProof.Rows L2
theorem meets_enum1B {v : Value} {o : Obj} {H : Heap → Prop} (B : Begins v o H) :
    Meets (Builtin.«enumerate.__new__» ⟨[.type "enumerate", v], []⟩) (fun _ R s => H s.heap ∧
      R (.ok (.ret (.ref (s.heap.push o).objs.size))) { s with heap := (s.heap.push o).push { cls := .type "enumerate", data := .fields #[.none, .bool false, .ref s.heap.objs.size, rawInt 0, .none, .none] } }) :=
  .of_wp fun prog w A R s h => by
    obtain ⟨hp, g, d, tk, os⟩ := s; obtain ⟨h1, h⟩ := h
    have hsub := sub_enumerate
    have q1 : ∀ {A' : Around} {E : Value → Shared → Prop} {Q : Value → Shared → Prop}, Q (.ref hp.objs.size) ⟨hp.push o, g, d, tk, os⟩ → wpAny (model prog w) A' (pyIter v) Q E ⟨hp, g, d, tk, os⟩ :=
      fun q => B.iter prog w _ _ ⟨hp, g, d, tk, os⟩ _ h1 q
    wp_walk using q1
    refine wpAny_stack_any fun st => wpAny_pure ?_
    split
    · rename_i c _ _ _ _ _
      cases (c == Value.type "enumerate")
      · wp_walk using q1
        exact ⟨_, rfl, h⟩
      · wp_walk using q1
        exact ⟨_, rfl, h⟩
    · wp_walk using q1
      exact ⟨_, rfl, h⟩
section
variable {prog : Program} {w : World} {A : Around} {E : Value → Shared → Prop} {s : Shared}
theorem call_enumB {v : Value} {o : Obj} {H : Heap → Prop} {Q : Value → Shared → Prop} (B : Begins v o H) (h1 : H s.heap)
    (h : ∀ h', IsEnum h' (s.heap.objs.size + 1) s.heap.objs.size 0 .none → h'.get? s.heap.objs.size = some o → h'.objs.size = s.heap.objs.size + 2 →
      (∀ b o, s.heap.get? b = some o → h'.get? b = some o) → Q (.ref (s.heap.objs.size + 1)) { s with heap := h' }) :
    wpAny (model prog w) A (call (.type "enumerate") [v]) Q E s := by
  refine callType_new F.called_enumerate (by decide) (F.typeCall_enumerate_1 _) (F.newCall_enumerate_1 _) (fun obj => F.args_object_init_2 obj _) F.entry_enumerate_new
    (meets_enum1B B) ⟨h1, ?_⟩
  have hz : (s.heap.push o).objs.size = s.heap.objs.size + 1 := Heap.size_push ..
  show _ ∧ _
  rw [hz]
  have he : IsEnum ((s.heap.push o).push { cls := .type "enumerate", data := .fields #[.none, .bool false, .ref s.heap.objs.size, rawInt 0, .none, .none] }) (s.heap.objs.size + 1) s.heap.objs.size 0 .none := by
    have := Heap.get?_push_size (s.heap.push o) (o := { cls := .type "enumerate", data := .fields #[.none, .bool false, .ref s.heap.objs.size, rawInt 0, .none, .none] }) rfl
    rw [hz] at this; exact this
  refine ⟨⟨_, he, rfl⟩, h _ he (Heap.get?_push_of_some _ (Heap.get?_push_size _ B.free)) (by rw [Heap.size_push, hz]) fun b o x => Heap.get?_push_of_some _ (Heap.get?_push_of_some _ x)⟩
end
section
variable {prog : Program} {w : World} {A : Around} {E : Value → Shared → Prop} {s : Shared}
theorem enumT_end {e it l : Addr} {i : Nat} {items : Array Value} {old : Value} {Q : Option Value → Shared → Prop} (hh : A.handled = none)
    (he : IsEnum s.heap e it i old) (hit : s.heap.IsTupleIter it l i) (hl : s.heap.IsTuple l items) (hx : items[i]? = none)
    (hQ : ∀ h', Heap.ExtBut it s.heap h' → Q none { s with heap := h' }) : wpAny (model prog w) A (pyNext (.ref e)) Q E s := by
  have hT : s.TypeIs (.ref e) "enumerate" := ⟨_, he, rfl⟩
  unfold pyNext
  refine wpAny_bind (wpAny_attempt (wpAny_callSpecial?_slot (name := Str.ofString "__next__") hT F.slot_enumerate_next
    (wpAny_call_entry F.slot_enumerate_next hT F.entry_enumerate_next ?_ (F.args_enumerate_next_1 _))))
  show wpAny _ _ (field (.ref e) 2 >>= _) _ _ _
  refine wpAny_bind (wpAny_field he rfl (x := .ref it) rfl ?_)
  refine wpAny_bind (wpAny_nextOf_tuple_end hh hit hl hx fun h' x he' hx' => ?_)
  obtain ⟨o, ho, hc⟩ := hx'
  refine wpAny_bind (wpAny_isInstance (T := "StopIteration") (b := true) ⟨o, ho, hc⟩ isSubtype_stop ?_)
  exact wpAny_pure (hQ _ he')
end
def IteT (K : PySem.W.Frag) (a : Addr) : It :=
  ⟨fun i H => ∃ (xs : List V) (x : V), SqT K H a xs ∧ xs[i]? = some x, fun i H v H' => ∃ T x, v = .ref T ∧ H T = none ∧ H' = upd H T (.tup [.int (i : Nat), x]) ∧ ∀ xs, SqT K H a xs → xs[i]? = some x, fun i H => ∃ xs : List V, SqT K H a xs ∧ xs.length ≤ i⟩
theorem turn_enumT {P : Program} {w : World} {K : PySem.W.Frag} {elts : List Expr} {kk : Nat} {tpos : Pos} (a e it : Addr) :
    Turn P w K (.Tuple elts kk tpos) (IteT K a) [e, it] e (fun i h => (∃ old, IsEnum h e it ((i : Nat) : Int) old) ∧ h.IsTupleIter it a i ∧ e ≠ it ∧ a ≠ it ∧ a ≠ e) where
  mem := by simp
  obj := fun i h st b hb => by
    obtain ⟨⟨old, he⟩, ⟨o, ho, hc, hd⟩, _⟩ := st
    have e' : b = e ∨ b = it := by simpa using hb
    rcases e' with z | z
    · rw [z]; exact ⟨_, he, fun v q => nomatch q⟩
    · rw [z]; exact ⟨o, ho, fun v q => by rw [hd] at q; cases q⟩
  keep := fun i h h' st k => let ⟨⟨old, he⟩, hi, hne⟩ := st; ⟨⟨old, k e (by simp) _ he⟩, hi.at fun o q => k it (by simp) o q, hne⟩
  item := by
    intro X hP hw hK hc i pins s σ H E I hf st hg
    subst hP hw hK
    obtain ⟨⟨old, he⟩, hit, hne, nai, nae⟩ := st
    obtain ⟨xs, x, hq, hx⟩ := hg
    obtain ⟨its, rv, p, hz⟩ := I.tuple hq
    obtain ⟨u, hu, ru⟩ := rv.get hx
    have hel : e < s.heap.objs.size := Heap.lt_size he
    have hil : it < s.heap.objs.size := by obtain ⟨_, q, _⟩ := hit; exact Heap.lt_size q
    have hlt : i < its.toArray.size := by
      have q := (List.getElem?_eq_some_iff.mp hu).1
      simpa using q
    refine wpAny_pyNext_enum_itemD (Draws.tuple (prog := X.prog) (w := X.w) (A := X.A.in1) (I.ok.hd hc) it a nai its.toArray) he ⟨hit, p⟩ hlt hne (by simp [hne, Ne.symm nae]) fun x' h' tk hx' ho st' hT hsz hk => ?_
    have ex : x' = u := by
      have q : its[i]? = some x' := by simpa using hx'
      rw [hu] at q
      exact (Option.some.inj q).symm
    subst ex
    refine ⟨_, rfl, wpAny_letOwnedTupleGo_enum (s := { s with heap := h', toks := tk + 1 }) ho fun h'' he' sb => ?_⟩
    have hT2 : h''.get? s.heap.objs.size = some { cls := .type "tuple", data := .seq #[.int i tk, x'] } := (sb.2 _ (Nat.ne_of_gt hel)).trans hT
    have new : ObjOk X.prog X.w (upd H s.heap.objs.size (.tup [.int (i : Nat), x])) h'' s.heap.objs.size (.tup [.int (i : Nat), x]) :=
      ⟨by show 2 ≤ sizeLine; decide, [.int i tk, x'], .cons ⟨_, rfl⟩ (.cons ru .nil), ⟨_, hT2, rfl, _, rfl⟩⟩
    have I1 : Inv X pins σ (upd H s.heap.objs.size (.tup [.int (i : Nat), x])) { s with heap := h'', toks := tk + 1 } :=
      I.turnedNew (ch := [e, it]) (fun b ob hb q => (sb.2 b (fun z => hb (by simp [z]))).trans (hk b ob (fun z => hb (by simp [z])) (fun z => hb (by simp [z])) q)) hf (Nat.le_refl _) new
    refine ⟨.ref s.heap.objs.size, _, I1, rfl, ⟨_, x, rfl, I.hok.fresh (Nat.le_refl _), rfl, fun ys hy => by rw [I.tuple_inj hy hq]; exact hx⟩, ⟨⟨x', ?_⟩, st'.1.at fun o q => (sb.2 it (Ne.symm hne)).trans q, hne, nai, nae⟩, fun b hb => ?_⟩
    · have e1 : ((i + 1 : Nat) : Int) = (i : Int) + 1 := by omega
      rw [e1]; exact he'
    · have hb' : b < s.heap.objs.size := by
        have e' : b = e ∨ b = it := by simpa using hb
        rcases e' with z | z
        · rw [z]; exact hel
        · rw [z]; exact hil
      rw [upd_ne (Nat.ne_of_lt hb')]
      exact (hf b hb).1
  done := by
    intro X hP hw hK hc i pins s σ H E I hf st hg
    subst hP hw hK
    obtain ⟨⟨old, he⟩, hit, hne, nai, nae⟩ := st
    obtain ⟨xs, hq, hx⟩ := hg
    obtain ⟨its, rv, p, hz⟩ := I.tuple hq
    obtain ⟨f0, f1, f2, f3, f4, f5⟩ := hf it (by simp)
    have hl := rv.length
    exact enumT_end (I.ok.hd hc) he hit p (by simp; omega) fun h' eb => ⟨rfl, I.turned (t' := s.toks) (fun b o hb q => eb b o hb q) f0 f1 f3 f4 f5⟩
  self := fun A i s Q E st h => let ⟨⟨_, he⟩, _⟩ := st; wpAny_pyIter_enum he h
def iEnumU (K : PySem.W.Frag) (ta : TA) : TI := fun σ H R => ta σ H fun vs H1 => ∃ a xs, vs = [.ref a] ∧ ((SqL K H1 a xs ∧ R (Ite K a) H1) ∨ (SqT K H1 a xs ∧ R (IteT K a) H1))
theorem walk_enumT {K : PySem.W.Frag} {a : Addr} {xs : List V} : Walk (IteT K a) xs.length (fun H => SqT K H a xs) (YPair (fun i => some (.int (i : Nat))) (fun i => xs[i]?)) := by
  refine ⟨fun i _ hi q => ⟨xs, xs[i], q, by simp [hi]⟩, fun _ q => ⟨xs, q, Nat.le_refl _⟩, fun i H v H' _ q y => ?_⟩
  obtain ⟨T, x, h1, h2, h3, h4⟩ := y
  exact ⟨T, .int (i : Nat), x, h1, h2, h3, rfl, h4 xs q⟩
theorem walk_zipT {K : PySem.W.Frag} {a b : Addr} {xs ys : List V} {n : Nat} (hn : n = min xs.length ys.length) : Walk (RZ.ItzT K a b) n (fun H => SqT K H a xs ∧ SqT K H b ys) (YPair (fun i => xs[i]?) (fun i => ys[i]?)) := by
  subst hn
  refine ⟨fun i _ hi q => ?_, fun _ q => ⟨xs, ys, q.1, q.2, by omega⟩, fun i H v H' _ q y => ?_⟩
  · have h1 : i < xs.length := by omega
    have h2 : i < ys.length := by omega
    exact ⟨xs, ys, xs[i], ys[i], q.1, q.2, by simp [h1], by simp [h2]⟩
  · obtain ⟨T, x, z, h1, h2, h3, h4, h5⟩ := y
    exact ⟨T, x, z, h1, h2, h3, h4 xs q.1, h5 ys q.2⟩
end Ps
namespace Ps
open PySem PySem.Spec PyProof.Rows L2
def Wd (S : List (Addr × HO)) (G H : Hp) : Prop := Same G H ∧ (∀ x ∈ S, H x.1 = some x.2 ∧ G x.1 = none) ∧ (S.map Prod.fst).Nodup
structure Grow (H G H' G' : Hp) : Prop where
  gg : Same G G'
  gh : Same G' H'
  hh : Same H H'
  nn : ∀ a, H a ≠ none → G a = none → G' a = none
section
variable {S A B : List (Addr × HO)} {G G' G'' H H' H'' : Hp} {a p l : Addr} {o o' : HO} {x : Addr × HO} {K : PySem.W.Frag} {xs : List V}
theorem same_new (hp : H p = none) : Same H (upd H p o) := fun b u e => by
  rw [upd_ne (ne_of_none e hp)]
  exact e
theorem same_mut (v : Same G H) (h : G l = none) : Same G (upd H l o) := fun b u e => by
  rw [upd_ne (ne_of_none e h)]
  exact v b u e
theorem same_l (e : Same H H') (h : SqL K H a xs) : SqL K H' a xs := e.seq h
theorem same_t (e : Same H H') (h : SqT K H a xs) : SqT K H' a xs := by
  rcases h with (h | ⟨o, h⟩) | h
  · exact .inl (.inl (e _ _ h))
  · exact .inl (.inr ⟨o, e _ _ h⟩)
  · exact .inr h
theorem Grow.refl (v : Same G H) : Grow H G H G := ⟨Same.refl _, v, Same.refl _, fun _ _ h => h⟩
theorem Grow.same (v : Same G H) (s : Same H H') : Grow H G H' G := ⟨Same.refl _, v.trans s, s, fun _ _ h => h⟩
theorem Grow.new (v : Same G H) (hp : H p = none) : Grow H G (upd H p o) (upd G p o) := by
  have gp : G p = none := v.free hp
  refine ⟨same_new gp, fun b u e => ?_, same_new hp, fun b hb hg => ?_⟩
  · by_cases q : b = p
    · subst q; rw [upd_same] at e ⊢; exact e
    · rw [upd_ne q] at e ⊢; exact v b u e
  · have q : b ≠ p := fun z => hb (z ▸ hp)
    rw [upd_ne q]; exact hg
theorem Grow.trans (a : Grow H G H' G') (b : Grow H' G' H'' G'') : Grow H G H'' G'' :=
  ⟨a.gg.trans b.gg, b.gh, a.hh.trans b.hh, fun c hc hg => b.nn c (fun z => hc (a.hh.free z)) (a.nn c hc hg)⟩
theorem Wd.v (w : Wd S G H) : Same G H := w.1
theorem Wd.nil (v : Same G H) : Wd [] G H := ⟨v, fun x h => absurd h (by simp), List.nodup_nil⟩
theorem Wd.mem (w : Wd S G H) (h : (a, o) ∈ S) : H a = some o := (w.2.1 _ h).1
theorem Wd.hd (w : Wd ((a, o) :: S) G H) : H a = some o := w.mem List.mem_cons_self
theorem Wd.sd (w : Wd (x :: (a, o) :: S) G H) : H a = some o := w.mem (List.mem_cons_of_mem _ List.mem_cons_self)
theorem Wd.td {y : Addr × HO} (w : Wd (x :: y :: (a, o) :: S) G H) : H a = some o := w.mem (List.mem_cons_of_mem _ (List.mem_cons_of_mem _ List.mem_cons_self))
theorem Wd.same (w : Wd S G H) (s : Same H H') : Wd S G H' := ⟨w.1.trans s, fun y hy => ⟨s _ _ (w.2.1 y hy).1, (w.2.1 y hy).2⟩, w.2.2⟩
theorem Wd.grow (w : Wd S G H) (g : Grow H G H' G') : Wd S G' H' :=
  ⟨g.gh, fun y hy => ⟨g.hh _ _ (w.2.1 y hy).1, g.nn _ (by rw [(w.2.1 y hy).1]; simp) (w.2.1 y hy).2⟩, w.2.2⟩
theorem Wd.own' (w : Wd S G H) (s : Same H H') (hp : H p = none) (h : H' p = some o) : Wd ((p, o) :: S) G H' := by
  refine ⟨w.1.trans s, fun y hy => ?_, ?_⟩
  · rcases List.mem_cons.mp hy with rfl | hy
    · exact ⟨h, w.1.free hp⟩
    · exact ⟨s _ _ (w.2.1 y hy).1, (w.2.1 y hy).2⟩
  · rw [List.map_cons]
    refine List.nodup_cons.mpr ⟨fun m => ?_, w.2.2⟩
    obtain ⟨y, hy, e⟩ := List.mem_map.mp m
    have q := (w.2.1 y hy).1
    rw [e, hp] at q; cases q
theorem Wd.own (w : Wd S G H) (hp : H p = none) : Wd ((p, o) :: S) G (upd H p o) := w.own' (same_new hp) hp upd_same
theorem Wd.new (w : Wd S G H) (hp : H p = none) : Wd S (upd G p o) (upd H p o) := w.grow (Grow.new w.1 hp)
theorem Wd.perm (w : Wd S G H) (h : B.Perm S) : Wd B G H := ⟨w.1, fun y hy => w.2.1 y (h.mem_iff.mp hy), (h.map _).nodup_iff.mpr w.2.2⟩
theorem Wd.drop (w : Wd (x :: S) G H) : Wd S G H := ⟨w.1, fun y hy => w.2.1 y (List.mem_cons_of_mem _ hy), (List.nodup_cons.mp w.2.2).2⟩
theorem Wd.dropR (w : Wd (A ++ B) G H) : Wd A G H := ⟨w.1, fun y hy => w.2.1 y (List.mem_append_left _ hy), by
  have h := w.2.2
  rw [List.map_append] at h
  exact (List.nodup_append.mp h).1⟩
theorem Wd.put (w : Wd ((l, o) :: S) G H) : Wd ((l, o') :: S) G (upd H l o') := by
  have hl := (w.2.1 _ List.mem_cons_self).2
  have nd := List.nodup_cons.mp w.2.2
  refine ⟨same_mut w.1 hl, fun y hy => ?_, w.2.2⟩
  rcases List.mem_cons.mp hy with rfl | hy
  · exact ⟨upd_same, hl⟩
  · have q : y.1 ≠ l := fun z => nd.1 (List.mem_map.mpr ⟨y, hy, z⟩)
    rw [upd_ne q]
    exact w.2.1 y (List.mem_cons_of_mem _ hy)
theorem Wd.swap {y : Addr × HO} (w : Wd (x :: y :: S) G H) : Wd (y :: x :: S) G H := w.perm (List.Perm.swap _ _ _)
theorem Wd.put2 (w : Wd (x :: (l, o) :: S) G H) : Wd (x :: (l, o') :: S) G (upd H l o') := w.swap.put.swap
theorem Wd.rot3 {y z : Addr × HO} (w : Wd (x :: y :: z :: S) G H) : Wd (z :: x :: y :: S) G H :=
  w.perm ((List.Perm.swap _ _ _).trans (List.Perm.cons _ (List.Perm.swap _ _ _)))
theorem Wd.rot3' {y z : Addr × HO} (w : Wd (z :: x :: y :: S) G H) : Wd (x :: y :: z :: S) G H :=
  w.perm ((List.Perm.cons _ (List.Perm.swap _ _ _)).trans (List.Perm.swap _ _ _))
theorem Wd.put3 {y : Addr × HO} (w : Wd (x :: y :: (l, o) :: S) G H) : Wd (x :: y :: (l, o') :: S) G (upd H l o') := w.rot3.put.rot3'
theorem Wd.share (w : Wd ((p, o) :: S) G H) : Wd S (upd G p o) H := by
  have nd := List.nodup_cons.mp w.2.2
  refine ⟨fun b u e => ?_, fun y hy => ⟨(w.2.1 y (List.mem_cons_of_mem _ hy)).1, ?_⟩, nd.2⟩
  · by_cases q : b = p
    · subst q; rw [upd_same] at e; rw [← e]; exact w.hd
    · rw [upd_ne q] at e; exact w.1 b u e
  · have q : y.1 ≠ p := fun z => nd.1 (List.mem_map.mpr ⟨y, hy, z⟩)
    rw [upd_ne q]
    exact (w.2.1 y (List.mem_cons_of_mem _ hy)).2
theorem Wd.gp (w : Wd ((p, o) :: S) G H) : G p = none := (w.2.1 _ List.mem_cons_self).2
theorem Wd.gsame (w : Wd ((p, o) :: S) G H) (o' : HO) : Same G (upd G p o') := same_new w.gp
theorem Wd.own3 {y : Addr × HO} (w : Wd (x :: y :: S) G H) (s : Same H H') (hp : H p = none) (h : H' p = some o) : Wd (x :: y :: (p, o) :: S) G H' := (w.own' s hp h).rot3'
end
section
variable {K : PySem.W.Frag} {H H' : Hp}
mutual
theorem dp_mono (s : Same H H') : ∀ (d : PyData) (v : V), Dp K H v d → Dp K H' v d
  | _, _, .non => .non
  | _, _, .bl b => .bl b
  | _, _, .int i => .int i
  | _, _, .str x => .str x
  | .list ds, _, .lst hq ha => .lst (same_l s hq) (dpAll_mono s ds _ ha)
  | .tuple ds, _, .tup hq ha => .tup (same_t s hq) (dpAll_mono s ds _ ha)
theorem dpAll_mono (s : Same H H') : ∀ (ds : List PyData) (vs : List V), DpAll K H vs ds → DpAll K H' vs ds
  | [], _, .nil => .nil
  | d :: ds, _, .cons h t => .cons (dp_mono s d _ h) (dpAll_mono s ds _ t)
end
theorem dpAll_len : ∀ {vs : List V} {ds : List PyData}, DpAll K H vs ds → vs.length = ds.length
  | _, _, .nil => rfl
  | _, _, .cons _ t => by rw [List.length_cons, List.length_cons, dpAll_len t]
theorem dpAll_get : ∀ {vs : List V} {ds : List PyData} {i : Nat} {v : V} {d : PyData}, DpAll K H vs ds → vs[i]? = some v → ds[i]? = some d → Dp K H v d
  | _, _, _, _, _, .nil, h, _ => by simp at h
  | _, _, 0, _, _, .cons h _, e, e' => by
    simp at e e'; subst e; subst e'; exact h
  | _, _, i + 1, _, _, .cons _ t, e, e' => dpAll_get (i := i) t (by simpa using e) (by simpa using e')
theorem dpAll_ints : ∀ (ns : List Int), DpAll K H (ns.map V.int) (ns.map PyData.int)
  | [] => .nil
  | _ :: r => .cons (.int _) (dpAll_ints r)
def dI (ns : List Int) : PyData := .list (ns.map PyData.int)
theorem dp_ints {a : Addr} {ns : List Int} (h : H a = some (.lst (ns.map V.int))) : Dp K H (.ref a) (dI ns) := .lst (SqL.of h) (dpAll_ints ns)
end
section
variable {t u : TS} {D : Ends} {σ : L2.St} {H : Hp} {te : TE} {g : TG} {i : Nat} {v x y : V} {K : PySem.W.Frag}
theorem w_seq (h : t ⟨u D, D.rt, D.bk, D.ct⟩ σ H) : tSeq t u D σ H := h
theorem w_asg (h : te σ H fun x H1 => g x σ H1 D.nx) : tAsg te g D σ H := h
theorem w_ret (h : te σ H D.rt) : tRet te D σ H := h
theorem w_retN (h : D.rt .non H) : tRetN D σ H := h
theorem w_drop (h : te σ H fun _ H1 => D.nx σ H1) : tDrop te D σ H := h
theorem w_ifs {c : TT} (h : c σ H fun b H1 => if b = true then t D σ H1 else u D σ H1) : tIfS c t u D σ H := h
theorem w_next (h : D.nx σ H) : tNext D σ H := h
theorem w_brk (h : D.bk σ H) : tBreak D σ H := h
theorem w_cont (h : D.ct σ H) : tCont D σ H := h
theorem w_aug {ti : TIp} (hx : σ[i]? = some (some x)) (h : te σ H fun y H1 => ti x y H1 fun z H2 => D.nx (σ.set i (some z)) H2) : tAug i te ti D σ H := ⟨x, hx, h⟩
theorem w_par {ta : TA} {j : Nat} (h : ta σ H fun vs H1 => ∃ v w, vs = [v, w] ∧ D.nx ((σ.set i (some v)).set j (some w)) H1) : tPar i j ta D σ H := h
theorem w_par2 {j : Nat} {v w : V} (h : D.nx ((σ.set i (some v)).set j (some w)) H) : ∃ v' w', [v, w] = [v', w'] ∧ D.nx ((σ.set i (some v')).set j (some w')) H := ⟨v, w, rfl, h⟩
theorem w_for {wi : TI} {tb : TS} (h : wi σ H fun J H1 => ∃ W : Nat → Nat → L2.St → Hp → Prop, (∃ m, W 0 m σ H1) ∧ ∀ i m σ H, W i m σ H →
    (J.stop i H ∧ D.nx σ H) ∨ (J.go i H ∧ ∃ N : L2.St → Hp → Prop, (∀ σ' H', N σ' H' → ∃ m', m' < m ∧ W (i + 1) m' σ' H') ∧ ∀ x H', J.yld i H x H' → g x σ H' fun σ2 H2 => tb { D with nx := N, ct := N, bk := D.nx } σ2 H2)) : tFor wi g tb D σ H := h
theorem w_gname {Q : L2.St → Hp → Prop} (h : Q (σ.set i (some v)) H) : gName i v σ H Q := h
theorem w_gnil {Q : L2.St → Hp → Prop} (h : Q σ H) : gNil [] σ H Q := ⟨rfl, h⟩
theorem w_gcons {gs : TGs} {r : List V} {Q : L2.St → Hp → Prop} (h : g v σ H fun σ' H' => gs r σ' H' Q) : gCons g gs (v :: r) σ H Q := ⟨v, r, rfl, h⟩
theorem w_gtup {gs : TGs} {n : Nat} {a : Addr} {xs : List V} {Q : L2.St → Hp → Prop} (ht : SqT K H a xs) (hn : xs.length = n) (h : gs xs σ H Q) : gTup K n gs (.ref a) σ H Q := ⟨a, xs, rfl, ht, hn, h⟩
theorem w_gsub {to ti : TE} {s : TSet} {Q : L2.St → Hp → Prop} (h : to σ H fun o H1 => ti σ H1 fun i H2 => s o i v H2 fun H3 => Q σ H3) : gSub to ti s v σ H Q := h
variable {Q : VK} {ta tb tc : TE} {r : R2}
theorem w_var (hx : σ[i]? = some (some v)) (h : Q v H) : tVar i σ H Q := ⟨v, hx, h⟩
theorem w_c (h : Q v H) : tC v σ H Q := h
theorem w_op (h : ta σ H fun x H1 => tb σ H1 fun y H2 => r x y H2 Q) : tOp r ta tb σ H Q := h
theorem w_un {r1 : V → Hp → VK → Prop} (h : ta σ H fun x H1 => r1 x H1 Q) : tUn r1 ta σ H Q := h
theorem w_cb {tl : TA} {rc : List V → Hp → VK → Prop} (h : tl σ H fun vs H1 => rc vs H1 Q) : tCB rc tl σ H Q := h
theorem w_bm {tl : TA} {T : String} {rm : V → List V → Hp → VK → Prop} (h : ta σ H fun x H1 => tyV K T x H1 ∧ tl σ H1 fun xs H2 => rm x xs H2 Q) : tBM K T rm ta tl σ H Q := h
theorem w_bm0 {T : String} {rm : V → List V → Hp → VK → Prop} (h : ta σ H fun x H1 => tyV K T x H1 ∧ rm x [] H1 Q) : tBM0 K T rm ta σ H Q := h
theorem w_lst {tl : TA} (h : tl σ H fun xs H1 => xs.length ≤ sizeLine ∧ ∀ p, H1 p = none → Q (.ref p) (upd H1 p (.lst xs))) : tLst tl σ H Q := h
theorem w_tup {tl : TA} (h : tl σ H fun xs H1 => xs.length ≤ sizeLine ∧ ∀ p, H1 p = none → Q (.ref p) (upd H1 p (.tup xs))) : tTup tl σ H Q := h
theorem w_call {tl : TA} {sp : Sp} {dvs : List V} {E : XK} (h : tl σ H fun vs H1 => sp (vs ++ dvs) H1 Q E) : tCall sp dvs E tl σ H Q := h
theorem w_callS {tl : TA} {sp : Sp} {E : L2.St → XK} (h : tl σ H fun vs H1 => sp vs H1 Q (E σ)) : tCallS sp E tl σ H Q := h
theorem w_sl {tl th : TO} {rs : V → Option Int → Option Int → Hp → VK → Prop} (h : te σ H fun x H1 => tl σ H1 fun l H2 => th σ H2 fun u H3 => rs x l u H3 Q) : tSl rs te tl th σ H Q := h
theorem w_nopart {P : Option Int → Hp → Prop} (h : P none H) : tNoPart σ H P := h
theorem w_part {P : Option Int → Hp → Prop} (h : te σ H fun x H1 => ∃ i, x = .int i ∧ P (some i) H1) : tPart te σ H P := h
theorem w_partI {P : Int → Prop} {i : Int} (h : P i) : ∃ j, V.int i = .int j ∧ P j := ⟨i, rfl, h⟩
theorem w_nil {P : List V → Hp → Prop} (h : P [] H) : tNil σ H P := h
theorem w_cons {tl : TA} {P : List V → Hp → Prop} (h : ta σ H fun x H1 => tl σ H1 fun xs H2 => P (x :: xs) H2) : tCons ta tl σ H P := h
theorem w_tif {c : TT} (h : c σ H fun b H1 => if b = true then ta σ H1 Q else tb σ H1 Q) : tIf c ta tb σ H Q := h
theorem w_andV (h : ta σ H fun x H1 => ∃ c, x = .bl c ∧ if c = true then tb σ H1 Q else Q (.bl false) H1) : tAndV ta tb σ H Q := h
theorem w_orV (h : ta σ H fun x H1 => ∃ c, x = .bl c ∧ if c = true then Q (.bl true) H1 else tb σ H1 Q) : tOrV ta tb σ H Q := h
theorem w_notV (h : ta σ H fun x H1 => ∃ c, x = .bl c ∧ Q (.bl (!c)) H1) : tNotV ta σ H Q := h
theorem w_blE {P : Bool → Prop} {b : Bool} (h : P b) : ∃ c, V.bl b = .bl c ∧ P c := ⟨b, rfl, h⟩
variable {P : Bool → Hp → Prop} {c d : TT}
theorem w_test (h : te σ H fun x H' => ∃ k, x = .bl k ∧ P k H') : tTest te σ H P := h
theorem w_tru (h : te σ H fun x H' => ∃ k, TruV K x H' k ∧ P k H') : tTru K te σ H P := h
theorem w_truB {b : Bool} {P : Bool → Prop} (h : P b) : ∃ k, TruV K (.bl b) H k ∧ P k := ⟨b, rfl, h⟩
theorem w_and (h : c σ H fun b H1 => if b = true then d σ H1 P else P false H1) : tAnd c d σ H P := h
theorem w_or (h : c σ H fun b H1 => if b = true then P true H1 else d σ H1 P) : tOr c d σ H P := h
theorem w_not (h : c σ H fun b H1 => P (!b) H1) : tNot c σ H P := h
theorem w_yes (h : P true H) : tYes σ H P := h
end
section
variable {H : Hp} {Q : VK} {K : PySem.W.Frag} {i j : Int} {a b : Addr} {xs ys : List V} {v : V}
theorem w_addI (h : Q (.int (i + j)) H) : rAddU K (.int i) (.int j) H Q := .inl (.inl ⟨i, j, rfl, rfl, h⟩)
theorem w_addS {x y : Str} (hz : x.length + y.length ≤ sizeLine) (h : Q (.str (x ++ y)) H) : rAddU K (.str x) (.str y) H Q := .inl (.inr ⟨x, y, rfl, rfl, hz, h⟩)
theorem w_addL (ha : H a = some (.lst xs)) (hb : H b = some (.lst ys)) (hz : xs.length + ys.length ≤ sizeLine) (h : ∀ p, H p = none → Q (.ref p) (upd H p (.lst (xs ++ ys)))) : rAddU K (.ref a) (.ref b) H Q :=
  .inr (.inl ⟨a, b, xs, ys, rfl, rfl, ha, hb, hz, h⟩)
theorem w_subI (h : Q (.int (i - j)) H) : rSubU (.int i) (.int j) H Q := ⟨i, j, rfl, rfl, h⟩
theorem w_mulI (hc : CMul i j) (h : Q (.int (i * j)) H) : rMulU (.int i) (.int j) H Q := .inl (.inl ⟨i, j, rfl, rfl, hc, h⟩)
theorem w_mulW (hc : CMulW i j) (h : Q (.int (i * j)) H) : rMulU (.int i) (.int j) H Q := .inl (.inr ⟨i, j, rfl, rfl, hc, h⟩)
theorem w_divI (hc : CDiv i j) (h : Q (.int (i / j)) H) : rDivU (.int i) (.int j) H Q := .inl ⟨i, j, rfl, rfl, hc, h⟩
theorem w_divW (hc : CDivW i j) (h : Q (.int (i / j)) H) : rDivU (.int i) (.int j) H Q := .inr ⟨i, j, rfl, rfl, hc, h⟩
theorem w_modI (hc : 0 < j) (h : Q (.int (i % j)) H) : rModU (.int i) (.int j) H Q := ⟨i, j, rfl, rfl, hc, h⟩
theorem w_modF (hc : 0 < j) (h : ∀ z, 0 ≤ z → z < j → Q (.int z) H) : rModU (.int i) (.int j) H Q := w_modI hc (h _ (Int.emod_nonneg _ (by omega)) (Int.emod_lt_of_pos _ hc))
theorem w_powI (hc : CPow i j) (h : Q (.int (i ^ j.toNat)) H) : rPowU (.int i) (.int j) H Q := ⟨i, j, rfl, rfl, hc, h⟩
theorem w_negI (h : Q (.int (-i)) H) : rNeg (.int i) H Q := ⟨i, rfl, h⟩
theorem w_ixL (hl : SqL K H a xs) (hi : atI xs i = some v) (h : Q v H) : rIxU K (.ref a) (.int i) H Q := .inl (.inl ⟨a, xs, i, v, rfl, rfl, hl, hi, h⟩)
theorem w_ixT (hl : SqT K H a xs) (hi : atI xs i = some v) (h : Q v H) : rIxU K (.ref a) (.int i) H Q := .inl (.inr ⟨a, xs, i, v, rfl, rfl, hl, hi, h⟩)
theorem w_ixS {z : Str} {c : Nat} (hz : z.length ≤ sizeLine) (hi : atI z.cps.toList i = some c) (h : Q (.str ⟨#[c]⟩) H) : rIxU K (.str z) (.int i) H Q := .inr (.inl ⟨z, i, c, rfl, rfl, hz, hi, h⟩)
theorem w_ixDs {kvs : List (Key × V)} {x : Str} (hd : H a = some (.dK kvs)) (hv : valV kvs (Sum.inr x) = some v) (h : Q v H) : rIxU K (.ref a) (.str x) H Q :=
  .inr (.inr ⟨a, v, rfl, by have g := DGet.k (k := Sum.inr x) hd; rw [hv] at g; exact g, h⟩)
theorem w_setDs {kvs : List (Key × V)} {x : Str} {P : Hp → Prop} (hd : H a = some (.dK kvs)) (hz : kvs.length < sizeLine) (h : P (upd H a (.dK (putK kvs (Sum.inr x) v)))) : rSetU (.ref a) (.str x) v H P :=
  .inr ⟨a, _, rfl, DPut.k (k := Sum.inr x) hd hz, h⟩
theorem w_setL {P : Hp → Prop} {k : Nat} (hd : H a = some (.lst xs)) (hi : ixN xs.length i = some k) (h : P (upd H a (.lst (xs.set k v)))) : rSetU (.ref a) (.int i) v H P :=
  .inl ⟨a, xs, i, k, rfl, rfl, hd, hi, h⟩
theorem w_eqI (h : Q (.bl (decide (i = j))) H) : rEqU K (.int i) (.int j) H Q := .inl ⟨rfl, by
  have e : decide (V.int i = V.int j) = decide (i = j) := by simp
  rw [e]; exact h⟩
theorem w_neI (h : Q (.bl (!decide (i = j))) H) : rNeU K (.int i) (.int j) H Q := .inl ⟨rfl, by
  have e : decide (V.int i = V.int j) = decide (i = j) := by simp
  rw [e]; exact h⟩
theorem w_eqS {x y : Str} (h : Q (.bl (decide (x = y))) H) : rEqU K (.str x) (.str y) H Q := .inl ⟨rfl, by
  have e : decide (V.str x = V.str y) = decide (x = y) := by simp
  rw [e]; exact h⟩
theorem w_neS {x y : Str} (h : Q (.bl (!decide (x = y))) H) : rNeU K (.str x) (.str y) H Q := .inl ⟨rfl, by
  have e : decide (V.str x = V.str y) = decide (x = y) := by simp
  rw [e]; exact h⟩
theorem w_eqD {x y : V} {d e : PyData} (hd : Dp K H x d) (he : Dp K H y e) (sd : SeqAt.shaped d = true) (se : SeqAt.shaped e = true) (h : Q (.bl (PyData.eqv d e)) H) : rEqU K x y H Q := .inr ⟨d, e, hd, he, sd, se, h⟩
theorem w_ltI (h : Q (.bl (decide (i < j))) H) : rLtU K (.int i) (.int j) H Q := .inl ⟨i, j, rfl, rfl, h⟩
theorem w_leI (h : Q (.bl (decide (i ≤ j))) H) : rLeU (.int i) (.int j) H Q := ⟨i, j, rfl, rfl, h⟩
theorem w_gtI (h : Q (.bl (decide (j < i))) H) : rGtU (.int i) (.int j) H Q := ⟨i, j, rfl, rfl, h⟩
theorem w_geI (h : Q (.bl (decide (j ≤ i))) H) : rGeU (.int i) (.int j) H Q := ⟨i, j, rfl, rfl, h⟩
theorem w_isN {x : V} (h : Q (.bl (decide (x = .non))) H) : rIsN x .non H Q := ⟨rfl, h⟩
theorem w_isNn (h : Q (.bl true) H) : rIsN .non .non H Q := ⟨rfl, by rw [decide_eq_true rfl]; exact h⟩
theorem w_isNi (h : Q (.bl false) H) : rIsN (.int i) .non H Q := ⟨rfl, by rw [decide_eq_false (by simp)]; exact h⟩
theorem w_isNs {z : Str} (h : Q (.bl false) H) : rIsN (.str z) .non H Q := ⟨rfl, by rw [decide_eq_false (by simp)]; exact h⟩
theorem w_isNr (h : Q (.bl false) H) : rIsN (.ref a) .non H Q := ⟨rfl, by rw [decide_eq_false (by simp)]; exact h⟩
theorem w_ntNn (h : Q (.bl false) H) : rNotN .non .non H Q := ⟨rfl, by rw [decide_eq_true rfl]; exact h⟩
theorem w_ntNi (h : Q (.bl true) H) : rNotN (.int i) .non H Q := ⟨rfl, by rw [decide_eq_false (by simp)]; exact h⟩
theorem w_ntNs {z : Str} (h : Q (.bl true) H) : rNotN (.str z) .non H Q := ⟨rfl, by rw [decide_eq_false (by simp)]; exact h⟩
theorem w_ntNr (h : Q (.bl true) H) : rNotN (.ref a) .non H Q := ⟨rfl, by rw [decide_eq_false (by simp)]; exact h⟩
theorem w_neBf {x y : Bool} (e : x = y) (h : Q (.bl false) H) : rNeU K (.bl x) (.bl y) H Q := .inl ⟨rfl, by subst e; rw [decide_eq_true rfl]; exact h⟩
theorem w_notN {x : V} (h : Q (.bl (!decide (x = .non))) H) : rNotN x .non H Q := ⟨rfl, h⟩
theorem w_ipaI (h : Q (.int (i + j)) H) : ipAddU K (.int i) (.int j) H Q := .inl ⟨i, j, rfl, rfl, h⟩
theorem w_ipsI {f : Int → Int → Int} (h : Q (.int (f i j)) H) : ipI f (.int i) (.int j) H Q := ⟨i, j, rfl, rfl, h⟩
theorem w_ipm (hc : CMul i j ∨ CMulW i j) (h : Q (.int (i * j)) H) : ipMulU (.int i) (.int j) H Q := ⟨i, j, rfl, rfl, hc, h⟩
theorem w_lenL (hl : SqL K H a xs) (h : Q (.int xs.length) H) : rLenU K [.ref a] H Q := .inl ⟨_, _, rfl, .inl ⟨xs, hl, rfl⟩, h⟩
theorem w_lenT (hl : SqT K H a xs) (h : Q (.int xs.length) H) : rLenU K [.ref a] H Q := .inl ⟨_, _, rfl, .inr ⟨xs, hl, rfl⟩, h⟩
theorem w_lenS {z : Str} (hz : z.length ≤ sizeLine) (h : Q (.int z.length) H) : rLenU K [.str z] H Q := .inl ⟨_, _, rfl, ⟨hz, rfl⟩, h⟩
theorem w_lenD {kvs : List (Key × V)} (hl : H a = some (.dK kvs)) (h : Q (.int kvs.length) H) : rLenU K [.ref a] H Q := .inr ⟨a, kvs, rfl, .inl hl, h⟩
theorem w_listL (hl : SqL K H a xs) (h : ∀ p, H p = none → Q (.ref p) (upd H p (.lst xs))) : rListU K [.ref a] H Q := .inl ⟨a, xs, rfl, .inl hl, h⟩
theorem w_listT (hl : SqT K H a xs) (h : ∀ p, H p = none → Q (.ref p) (upd H p (.lst xs))) : rListU K [.ref a] H Q := .inl ⟨a, xs, rfl, .inr hl, h⟩
theorem w_tupL (hl : SqL K H a xs) (h : ∀ p, H p = none → Q (.ref p) (upd H p (.tup xs))) : rTupU K [.ref a] H Q := ⟨a, xs, rfl, .inl ⟨hl, h⟩⟩
theorem w_tupT (hl : SqT K H a xs) (h : Q (.ref a) H) : rTupU K [.ref a] H Q := ⟨a, xs, rfl, .inr ⟨hl, h⟩⟩
theorem w_intI (h : Q (.int i) H) : rIntU [.int i] H Q := .inl ⟨i, rfl, h⟩
theorem w_intB {k : Bool} (h : Q (.int (if k then 1 else 0)) H) : rIntU [.bl k] H Q := .inr ⟨k, rfl, h⟩
theorem w_divmod (hc : CDivW i j) (h : ∀ p, H p = none → Q (.ref p) (upd H p (.tup [.int (i / j), .int (i % j)]))) : rDivmod [.int i, .int j] H Q := ⟨i, j, rfl, ⟨hc.1, PyProof.noPylong_of_log2 hc.2⟩, h⟩
theorem w_sum {ns : List Int} (hl : SqL K H a (ns.map V.int)) (h : Q (.int ns.sum) H) : rSum K [.ref a] H Q := ⟨a, ns, rfl, hl, h⟩
theorem w_all {bs : List Bool} (hl : SqL K H a (bs.map V.bl)) (h : Q (.bl (bs.all id)) H) : rAll K [.ref a] H Q := ⟨a, bs, rfl, hl, h⟩
theorem w_any {bs : List Bool} (hl : SqL K H a (bs.map V.bl)) (h : Q (.bl (bs.any id)) H) : rAny K [.ref a] H Q := ⟨a, bs, rfl, hl, h⟩
theorem w_isi {x : V} {n : String} {t : Value} {k : Bool} (ht : TyX K H x t) (hk : PySem.W.kitOne K t (.type n) = some k) (h : Q (.bl k) H) : rIsiU K [x, .ty n] H Q := .inl ⟨x, .ty n, t, .type n, k, rfl, .ty n, ht, hk, h⟩
theorem ty_l (h : SqL K H a xs) : TyX K H (.ref a) (.type "list") := by
  rcases h with (h | ⟨o, h⟩) | ⟨o, its, n, h, c, _⟩
  · exact .base (.lst h)
  · exact .base (.frz h)
  · exact .kList h c
theorem ty_t (h : SqT K H a xs) : TyX K H (.ref a) (.type "tuple") := by
  rcases h with (h | ⟨o, h⟩) | ⟨o, its, n, h, c, _⟩
  · exact .base (.tup h)
  · exact .fTuple h
  · exact .kTuple h c
theorem w_is_int_dict {i : Int} (h : Q (.bl false) H) : rIsiU K [.int i, .ty "dict"] H Q := w_isi (.base (.int i)) (kit_ty (r := false) (by decide +kernel)) h
theorem w_is_int_list {i : Int} (h : Q (.bl false) H) : rIsiU K [.int i, .ty "list"] H Q := w_isi (.base (.int i)) (kit_ty (r := false) (by decide +kernel)) h
theorem w_is_int_tuple {i : Int} (h : Q (.bl false) H) : rIsiU K [.int i, .ty "tuple"] H Q := w_isi (.base (.int i)) (kit_ty (r := false) (by decide +kernel)) h
theorem w_is_int_str {i : Int} (h : Q (.bl false) H) : rIsiU K [.int i, .ty "str"] H Q := w_isi (.base (.int i)) (kit_ty (r := false) (by decide +kernel)) h
theorem w_is_int_int {i : Int} (h : Q (.bl true) H) : rIsiU K [.int i, .ty "int"] H Q := w_isi (.base (.int i)) (kit_ty (r := true) (by decide +kernel)) h
theorem w_is_int_bool {i : Int} (h : Q (.bl false) H) : rIsiU K [.int i, .ty "bool"] H Q := w_isi (.base (.int i)) (kit_ty (r := false) (by decide +kernel)) h
theorem w_is_bool_dict {kk : Bool} (h : Q (.bl false) H) : rIsiU K [.bl kk, .ty "dict"] H Q := w_isi (.base (.bl kk)) (kit_ty (r := false) (by decide +kernel)) h
theorem w_is_bool_list {kk : Bool} (h : Q (.bl false) H) : rIsiU K [.bl kk, .ty "list"] H Q := w_isi (.base (.bl kk)) (kit_ty (r := false) (by decide +kernel)) h
theorem w_is_bool_tuple {kk : Bool} (h : Q (.bl false) H) : rIsiU K [.bl kk, .ty "tuple"] H Q := w_isi (.base (.bl kk)) (kit_ty (r := false) (by decide +kernel)) h
theorem w_is_bool_str {kk : Bool} (h : Q (.bl false) H) : rIsiU K [.bl kk, .ty "str"] H Q := w_isi (.base (.bl kk)) (kit_ty (r := false) (by decide +kernel)) h
theorem w_is_bool_int {kk : Bool} (h : Q (.bl true) H) : rIsiU K [.bl kk, .ty "int"] H Q := w_isi (.base (.bl kk)) (kit_ty (r := true) (by decide +kernel)) h
theorem w_is_bool_bool {kk : Bool} (h : Q (.bl true) H) : rIsiU K [.bl kk, .ty "bool"] H Q := w_isi (.base (.bl kk)) (kit_ty (r := true) (by decide +kernel)) h
theorem w_is_str_dict {zz : Str} (h : Q (.bl false) H) : rIsiU K [.str zz, .ty "dict"] H Q := w_isi (.base (.str zz)) (kit_ty (r := false) (by decide +kernel)) h
theorem w_is_str_list {zz : Str} (h : Q (.bl false) H) : rIsiU K [.str zz, .ty "list"] H Q := w_isi (.base (.str zz)) (kit_ty (r := false) (by decide +kernel)) h
theorem w_is_str_tuple {zz : Str} (h : Q (.bl false) H) : rIsiU K [.str zz, .ty "tuple"] H Q := w_isi (.base (.str zz)) (kit_ty (r := false) (by decide +kernel)) h
theorem w_is_str_str {zz : Str} (h : Q (.bl true) H) : rIsiU K [.str zz, .ty "str"] H Q := w_isi (.base (.str zz)) (kit_ty (r := true) (by decide +kernel)) h
theorem w_is_str_int {zz : Str} (h : Q (.bl false) H) : rIsiU K [.str zz, .ty "int"] H Q := w_isi (.base (.str zz)) (kit_ty (r := false) (by decide +kernel)) h
theorem w_is_str_bool {zz : Str} (h : Q (.bl false) H) : rIsiU K [.str zz, .ty "bool"] H Q := w_isi (.base (.str zz)) (kit_ty (r := false) (by decide +kernel)) h
theorem w_is_list_dict (hl : SqL K H a xs) (h : Q (.bl false) H) : rIsiU K [.ref a, .ty "dict"] H Q := w_isi (ty_l hl) (kit_ty (r := false) (by decide +kernel)) h
theorem w_is_list_list (hl : SqL K H a xs) (h : Q (.bl true) H) : rIsiU K [.ref a, .ty "list"] H Q := w_isi (ty_l hl) (kit_ty (r := true) (by decide +kernel)) h
theorem w_is_list_tuple (hl : SqL K H a xs) (h : Q (.bl false) H) : rIsiU K [.ref a, .ty "tuple"] H Q := w_isi (ty_l hl) (kit_ty (r := false) (by decide +kernel)) h
theorem w_is_tuple_dict (hl : SqT K H a xs) (h : Q (.bl false) H) : rIsiU K [.ref a, .ty "dict"] H Q := w_isi (ty_t hl) (kit_ty (r := false) (by decide +kernel)) h
theorem w_is_tuple_list (hl : SqT K H a xs) (h : Q (.bl false) H) : rIsiU K [.ref a, .ty "list"] H Q := w_isi (ty_t hl) (kit_ty (r := false) (by decide +kernel)) h
theorem w_is_tuple_tuple (hl : SqT K H a xs) (h : Q (.bl true) H) : rIsiU K [.ref a, .ty "tuple"] H Q := w_isi (ty_t hl) (kit_ty (r := true) (by decide +kernel)) h
theorem w_slL {lo hi : Option Int} (hl : SqL K H a xs) (h : ∀ p, H p = none → Q (.ref p) (upd H p (.lst (cutV xs lo hi)))) : rSlU K (.ref a) lo hi H Q := .inl (.inl ⟨a, xs, rfl, hl, h⟩)
theorem w_rep {k : Int} (hl : H a = some (.lst xs)) (h1 : -(2 ^ 63) ≤ k) (h2 : k < 2 ^ 63) (h3 : xs.length * k.toNat ≤ sizeLine) (h : ∀ p, H p = none → Q (.ref p) (upd H p (.lst ((List.replicate k.toNat xs).flatten)))) : rMulU (.ref a) (.int k) H Q := by
  refine .inr ?_
  exact ⟨a, k, xs, rfl, rfl, hl, h1, h2, h3, h⟩
theorem w_ifd {p A B : Prop} [Decidable p] (h1 : p → A) (h2 : ¬ p → B) : if decide p = true then A else B := by
  by_cases h : p
  · rw [if_pos (decide_eq_true h)]; exact h1 h
  · rw [if_neg (by simp [h])]; exact h2 h
theorem w_ifn {p A B : Prop} [Decidable p] (h1 : ¬ p → A) (h2 : p → B) : if (!decide p) = true then A else B := by
  by_cases h : p
  · rw [if_neg (by simp [h])]; exact h2 h
  · rw [if_pos (by simp [h])]; exact h1 h
theorem w_ifNF {A B : Prop} (h : A) : if (!false) = true then A else B := by simpa using h
theorem w_ifNT {A B : Prop} (h : B) : if (!true) = true then A else B := by simpa using h
theorem w_ifT {A B : Prop} (h : A) : if true = true then A else B := by rw [if_pos rfl]; exact h
theorem w_ifF {A B : Prop} (h : B) : if false = true then A else B := by rw [if_neg Bool.false_ne_true]; exact h
end
section
variable {σ : L2.St} {H : Hp} {Q : VK} {K : PySem.W.Frag} {R : It → Hp → Prop} {ta : TA} {te : TE}
theorem w_lc {wi : TI} {g : TG} {tt : TT} {te : TE} {vs : List Nat} (h : wi σ H fun J H1 => ∀ D, H1 D = none → ∃ W : Nat → Nat → Hp → Prop, (∃ m, W 0 m (upd H1 D (.lst []))) ∧ ∀ i m H, W i m H →
  (J.stop i H ∧ Q (.ref D) H) ∨ (J.go i H ∧ ∃ Nx : Hp → Prop, (∀ H', Nx H' → ∃ m', m' < m ∧ W (i + 1) m' H') ∧ ∀ x H', J.yld i H x H' → g x (wipe σ vs) H' fun σ2 H2 => wipe σ2 vs = wipe σ vs ∧ tt σ2 H2 fun b H3 =>
    if b = true then te σ2 H3 fun y H4 => ∃ acc, H4 D = some (.lst acc) ∧ acc.length < sizeLine ∧ Nx (upd H4 D (.lst (acc ++ [y]))) else Nx H3)) : tLc wi g tt te vs σ H Q := h
def ZipK (K : PySem.W.Frag) (R : It → Hp → Prop) (vs : List V) (H1 : Hp) : Prop := ∃ a b xs ys, vs = [.ref a, .ref b] ∧ ((SqL K H1 a xs ∧ SqL K H1 b ys ∧ R (Itz K a b) H1) ∨ (SqT K H1 a xs ∧ SqT K H1 b ys ∧ R (RZ.ItzT K a b) H1))
def SeqK (K : PySem.W.Frag) (R : It → Hp → Prop) (x : V) (H1 : Hp) : Prop := (∃ a xs, x = .ref a ∧ SqL K H1 a xs ∧ R (Itl K a) H1) ∨ (∃ a xs, x = .ref a ∧ SqT K H1 a xs ∧ R (Itt K a) H1) ∨ ∃ z, x = .str z ∧ R (Its z) H1
def Rng1K (R : It → Hp → Prop) (vs : List V) (H1 : Hp) : Prop := ∃ j : Int, vs = [.int j] ∧ -(2 ^ 62) ≤ j ∧ j < 2 ^ 62 ∧ R (Itr 0 j.toNat) H1
def Rng2K (R : It → Hp → Prop) (vs : List V) (H1 : Hp) : Prop := ∃ i j : Int, vs = [.int i, .int j] ∧ (-(2 ^ 62) ≤ i ∧ i < 2 ^ 62 ∧ -(2 ^ 62) ≤ j ∧ j < 2 ^ 62) ∧ R (Itr i (j - i).toNat) H1
def EnumK (K : PySem.W.Frag) (R : It → Hp → Prop) (vs : List V) (H1 : Hp) : Prop := ∃ a xs, vs = [.ref a] ∧ ((SqL K H1 a xs ∧ R (Ite K a) H1) ∨ (SqT K H1 a xs ∧ R (IteT K a) H1))
def RevK (K : PySem.W.Frag) (R : It → Hp → Prop) (v : V) (H1 : Hp) : Prop := ∃ (a : Addr) (xs : List V), v = .ref a ∧ ((SqL K H1 a xs ∧ R (Itv K a xs.length) H1) ∨ (SqT K H1 a xs ∧ R (RT.ItvT K a xs.length) H1))
theorem w_zip (h : ta σ H fun vs H1 => ZipK K R vs H1) : RZ.iZipA K ta σ H R := h
theorem w_seqv (h : te σ H fun x H1 => SeqK K R x H1) : iSeqV K te σ H R := h
theorem w_rng1 (h : ta σ H fun vs H1 => Rng1K R vs H1) : iRng1 ta σ H R := h
theorem w_rng2 (h : ta σ H fun vs H1 => Rng2K R vs H1) : iRng2 ta σ H R := h
theorem w_enum (h : ta σ H fun vs H1 => EnumK K R vs H1) : iEnumU K ta σ H R := h
theorem w_rev (h : te σ H fun v H1 => RevK K R v H1) : RT.iRevA K te σ H R := h
theorem w_itZL {a b : Addr} {xs ys : List V} (ha : SqL K H a xs) (hb : SqL K H b ys) (h : R (Itz K a b) H) : ZipK K R [.ref a, .ref b] H := ⟨a, b, xs, ys, rfl, .inl ⟨ha, hb, h⟩⟩
theorem w_itZT {a b : Addr} {xs ys : List V} (ha : SqT K H a xs) (hb : SqT K H b ys) (h : R (RZ.ItzT K a b) H) : ZipK K R [.ref a, .ref b] H := ⟨a, b, xs, ys, rfl, .inr ⟨ha, hb, h⟩⟩
end
theorem sz_le {n : Nat} (h : n ≤ 16777216) : n ≤ sizeLine := by rw [sizeLine_eq]; exact h
theorem sz_lt {n : Nat} (h : n < 16777216) : n < sizeLine := by rw [sizeLine_eq]; exact h
end Ps
namespace Ps
open PySem PySem.Spec PyProof.Rows L2
def exv (a C : Addr) (d : Option Addr) : HO := .ext fun h => ∃ vs sl, h.get? a = some ({ cls := .ref C, dict := d, data := .fields vs, slots := sl } : Obj)
section
variable {X : Cx} {pins : List (Addr × Obj)} {σ : L2.St} {H : Hp} {s : Shared}
end
section
variable {X : Cx} {x n y : Str} {c : Value} {i j : Nat} {body : List Stmt} {np pos pos' p1 p2 p3 : Pos} {tb : WX → TS} {Wout : WX}
end
end Ps
namespace Ps
open PySem PySem.Spec PyProof.Rows L2
section
variable {X : Cx} {CX : CXT} {k : Nat} {f C : Addr} {fd : FuncData} {ps : List Str} {sp : Sp} {E : L2.St → XK} {x m : Str} {p pos apos : Pos} {e o : Expr} {es : List Expr} {ta : TE} {t : TA}
def tMethQ (C : Addr) (m : Str) (sp : Sp) (E : L2.St → XK) (ta : TE) (t : TA) : TE := fun σ H Q => ta σ H fun x H1 => ∃ a dx fs, x = .ref a ∧ H1 a = some (.ins C dx fs) ∧ fs.lookup m = none ∧ t σ H1 fun vs H2 => sp (x :: vs) H2 Q (E σ)
def tMakeQ (C : Addr) (sp : Sp) (E : L2.St → XK) (t : TA) : TE := fun σ H Q => t σ H fun vs H1 => ∀ x dx, H1 x = none → H1 dx = none → dx ≠ x →
  sp (.ref x :: vs) (upd (upd H1 dx (.own x)) x (.ins C dx [])) (fun v H2 => v = .non ∧ Q (.ref x) H2) (E σ)
end
theorem pe_or {X : Cx} {e : Expr} {t1 t2 : TE} (h1 : PE X e t1) (h2 : PE X e t2) : PE X e (fun σ H Q => t1 σ H Q ∨ t2 σ H Q) :=
  ⟨fun pins s σ H Q I h => h.elim (h1.run pins s σ H Q I) (h2.run pins s σ H Q I)⟩
end Ps
namespace Ps
open PySem PySem.Spec PyProof.Rows L2
section
variable {X : Cx} {pins : List (Addr × Obj)} {σ : L2.St} {H : Hp} {s : Shared}
end
end Ps
namespace Ps
open PySem PySem.Spec PyProof.Rows L2
def tRz (W : WX) (cls : Value) : TS := fun _ σ H => W cls none σ H
section
variable {K : PySem.W.Frag} {H H1 : Hp} {σ : L2.St} {D : Ends} {ta tv : TE} {f m : Str} {Q : VK} {a C dx : Addr} {fs : List (Str × V)} {fl : List Str} {v y : V} {t : TA} {sp : Sp} {E : L2.St → XK}
def FldK (K : PySem.W.Frag) (f : Str) (x : V) (H1 : Hp) (Q : VK) : Prop := ∃ a C dx fs v, x = .ref a ∧ H1 a = some (.ins C dx fs) ∧ Cls K C ∧ NoAttr K C f ∧ fs.lookup f = some v ∧ Q v H1
theorem w_fld (h : ta σ H fun x H1 => FldK K f x H1 Q) : tFld K ta f σ H Q := h
def SFldK (K : PySem.W.Frag) (f : Str) (D : Ends) (σ : L2.St) (y x : V) (H2 : Hp) : Prop := ∃ a C dx fs, x = .ref a ∧ H2 a = some (.ins C dx fs) ∧ Cls K C ∧ NoAttr K C f ∧ fs.length < 1000 ∧ D.nx σ (upd H2 a (.ins C dx (putF f y fs)))
theorem w_sfld (h : tv σ H fun y H1 => ta σ H1 fun x H2 => SFldK K f D σ y x H2) : sFld K ta tv f D σ H := h
def AFldK (K : PySem.W.Frag) (f : Str) (rd : V → V → Hp → VK → Prop) (tv : TE) (D : Ends) (σ : L2.St) (x : V) (H1 : Hp) : Prop := ∃ a C dx fs v, x = .ref a ∧ H1 a = some (.ins C dx fs) ∧ Cls K C ∧ NoAttr K C f ∧ fs.lookup f = some v ∧
  tv σ H1 fun y H2 => rd v y H2 fun z H3 => ∃ dx' fs', H3 a = some (.ins C dx' fs') ∧ fs'.length < 1000 ∧ D.nx σ (upd H3 a (.ins C dx' (putF f z fs')))
theorem w_afld {rd : V → V → Hp → VK → Prop} (h : ta σ H fun x H1 => AFldK K f rd tv D σ x H1) : sFldAug K ta tv rd f D σ H := h
theorem w_rAdd {i j : Int} (h : Q (.int (i + j)) H) : rAdd (.int i) (.int j) H Q := ⟨i, j, rfl, rfl, h⟩
theorem w_rSub {i j : Int} (h : Q (.int (i - j)) H) : rSub (.int i) (.int j) H Q := ⟨i, j, rfl, rfl, h⟩
def MethK (C : Addr) (m : Str) (sp : Sp) (E : XK) (t : TA) (σ : L2.St) (x : V) (H1 : Hp) (Q : VK) : Prop := ∃ a dx fs, x = .ref a ∧ H1 a = some (.ins C dx fs) ∧ fs.lookup m = none ∧ t σ H1 fun vs H2 => sp (x :: vs) H2 Q E
theorem w_meth (h : ta σ H fun x H1 => MethK C m sp (E σ) t σ x H1 Q) : tMethQ C m sp E ta t σ H Q := h
theorem w_make (h : t σ H fun vs H1 => ∀ x dx, H1 x = none → H1 dx = none → dx ≠ x → sp (.ref x :: vs) (upd (upd H1 dx (.own x)) x (.ins C dx [])) (fun v H2 => v = .non ∧ Q (.ref x) H2) (E σ)) : tMakeQ C sp E t σ H Q := h
theorem w_rz {W : WX} {cls : Value} (h : W cls none σ H) : tRz W cls D σ H := h
theorem w_vei {ta : TA} (h : ta σ H fun vs H1 => ∃ (a C : Addr) (ws : List V), vs = .ref a :: ws ∧ ws.length ≤ 1000 ∧ OexC K C ∧ H1 a = some (exo a C none) ∧ Q .non H1) : tVeI K ta σ H Q := h
theorem w_ost {to te : TE} (h : te σ H fun y H1 => to σ H1 fun x H2 => ∃ a C : Addr, x = .ref a ∧ OexC K C ∧ PySem.W.findIn K (.ref C) f = some none ∧
  ((H2 a = some (exo a C none) ∧ ∀ dx, H2 dx = none → dx ≠ a → D.nx σ (upd (upd H2 dx (exd dx [(f, y)])) a (exo a C (some dx)))) ∨
    ∃ (dx : Addr) (fs : List (Str × V)), H2 a = some (exo a C (some dx)) ∧ H2 dx = some (exd dx fs) ∧ fs.length ≤ 900 ∧ D.nx σ (upd H2 dx (exd dx ((f, y) :: fs))))) : tOst K f to te D σ H := h
theorem w_max2 {i j : Int} (h : Q (.int (if j > i then j else i)) H) : rMax2 [.int i, .int j] H Q := ⟨i, j, rfl, h⟩
end
end Ps
namespace Ps
open PySem PySem.Spec PyProof.Rows L2
def gTupU (K : PySem.W.Frag) (n : Nat) (t : TGs) : TG := fun v σ H Q => gTup K n t v σ H Q ∨ gLst K n t v σ H Q
theorem pg_or {X : Cx} {e : Expr} {t1 t2 : TG} (h1 : PG X e t1) (h2 : PG X e t2) : PG X e (fun v σ H Q => t1 v σ H Q ∨ t2 v σ H Q) :=
  ⟨fun pins s σ H v u Q I r h => h.elim (h1.run pins s σ H v u Q I r) (h2.run pins s σ H v u Q I r)⟩
theorem pg_tupU {X : Cx} {pos : Pos} {es : List Expr} {k : Nat} {t : TGs} {n : Nat} (hc : X.calm = true) (h : PGs X es t)
    (hn : (assignEach es X.env).length = n := by rfl) (hst : (assignEach es X.env).findIdx? (·.1) = none := by rfl) : PG X (.Tuple es k pos) (gTupU X.K n t) := pg_or (pg_tup hc h hn hst) (pg_lst hc h hn hst)
theorem w_gtL {K : PySem.W.Frag} {gs : TGs} {n : Nat} {a : Addr} {xs : List V} {σ : L2.St} {H : Hp} {Q : L2.St → Hp → Prop} (ht : SqL K H a xs) (hn : xs.length = n) (h : gs xs σ H Q) : gTupU K n gs (.ref a) σ H Q := .inr ⟨a, xs, rfl, ht, hn, h⟩
theorem w_gtT {K : PySem.W.Frag} {gs : TGs} {n : Nat} {a : Addr} {xs : List V} {σ : L2.St} {H : Hp} {Q : L2.St → Hp → Prop} (ht : SqT K H a xs) (hn : xs.length = n) (h : gs xs σ H Q) : gTupU K n gs (.ref a) σ H Q := .inl ⟨a, xs, rfl, ht, hn, h⟩
end Ps
namespace Ps
open PySem PySem.Spec PyProof.Rows L2
local macro_rules | `(tactic| walk_at "s1") => `(tactic| first
  | (with_reducible refine w_seq ?_) | (with_reducible refine w_asg ?_) | (with_reducible refine w_op ?_) | (with_reducible refine w_c ?_)
  | ((with_reducible refine' w_var ?hx ?_); (case hx => exact rfl))
  | (with_reducible refine w_gname ?_) | (with_reducible refine w_cons ?_) | (with_reducible refine w_nil ?_) | (with_reducible refine w_cb ?_) | (with_reducible refine w_call ?_)
  | (with_reducible refine w_ret ?_) | (with_reducible refine w_drop ?_) | (with_reducible refine w_ifs ?_) | (with_reducible refine w_test ?_) | (with_reducible refine w_next ?_)
  | (with_reducible refine w_addI ?_) | (with_reducible refine w_subI ?_) | (with_reducible refine w_negI ?_) | (with_reducible refine w_eqI ?_) | (with_reducible refine w_neI ?_) | (with_reducible refine w_ltI ?_) | (with_reducible refine w_leI ?_)
  | (with_reducible refine w_gtI ?_) | (with_reducible refine w_geI ?_) | (with_reducible refine w_isNn ?_) | (with_reducible refine w_isNi ?_) | (with_reducible refine w_isNs ?_) | (with_reducible refine w_isNr ?_) | (with_reducible refine w_ntNn ?_) | (with_reducible refine w_ntNi ?_) | (with_reducible refine w_ntNs ?_) | (with_reducible refine w_ntNr ?_) | (with_reducible refine w_isN ?_) | (with_reducible refine w_notN ?_) | (with_reducible refine w_ipaI ?_) | (with_reducible refine w_eqS ?_) | (with_reducible refine w_neS ?_)
  | (with_reducible refine w_blE ?_) | (with_reducible refine w_truB ?_) | (with_reducible refine w_intI ?_) | (with_reducible refine w_intB ?_)
  | (with_reducible refine w_bm ?_) | (with_reducible refine w_bm0 ?_) | (with_reducible refine w_lst ?_) | (with_reducible refine w_tup ?_) | (with_reducible refine w_un ?_) | (with_reducible refine w_sl ?_) | (with_reducible refine w_nopart ?_) | (with_reducible refine w_part ?_) | (with_reducible refine w_partI ?_)
  | (with_reducible refine w_gsub ?_) | (with_reducible refine w_gcons ?_) | (with_reducible refine w_gnil ?_) | (with_reducible refine w_and ?_) | (with_reducible refine w_or ?_) | (with_reducible refine w_not ?_) | (with_reducible refine w_tru ?_) | (with_reducible refine w_yes ?_)
  | (with_reducible refine w_andV ?_) | (with_reducible refine w_orV ?_) | (with_reducible refine w_notV ?_) | (with_reducible refine w_tif ?_) | (with_reducible refine w_callS ?_) | (with_reducible refine w_for ?_)
  | (with_reducible refine w_par ?_) | (with_reducible refine w_par2 ?_) | (with_reducible refine w_retN ?_) | (with_reducible refine w_brk ?_) | (with_reducible refine w_cont ?_)
  | ((with_reducible refine' w_aug ?hx ?_); (case hx => exact rfl)) | (with_reducible refine w_ipsI ?_)
  | (with_reducible refine w_is_int_dict ?_) | (with_reducible refine w_is_int_list ?_) | (with_reducible refine w_is_int_tuple ?_) | (with_reducible refine w_is_int_str ?_) | (with_reducible refine w_is_int_int ?_) | (with_reducible refine w_is_int_bool ?_) | (with_reducible refine w_is_bool_dict ?_) | (with_reducible refine w_is_bool_list ?_) | (with_reducible refine w_is_bool_tuple ?_) | (with_reducible refine w_is_bool_str ?_) | (with_reducible refine w_is_bool_int ?_) | (with_reducible refine w_is_bool_bool ?_) | (with_reducible refine w_is_str_dict ?_) | (with_reducible refine w_is_str_list ?_) | (with_reducible refine w_is_str_tuple ?_) | (with_reducible refine w_is_str_str ?_) | (with_reducible refine w_is_str_int ?_) | (with_reducible refine w_is_str_bool ?_)
  | (with_reducible refine w_ifT ?_) | (with_reducible refine w_ifF ?_) | (with_reducible refine w_ifNF ?_) | (with_reducible refine w_ifNT ?_)
  | (with_reducible refine w_tys ?_) | (with_reducible refine w_chain ?_) | (with_reducible refine w_ost ?_) | (with_reducible refine w_vei ?_) | (with_reducible refine w_rzO ?_) | (with_reducible refine w_fld ?_) | (with_reducible refine w_sfld ?_) | (with_reducible refine w_afld ?_) | (with_reducible refine w_meth ?_) | (with_reducible refine w_make ?_) | (with_reducible refine w_rz ?_) | (with_reducible refine w_rAdd ?_) | (with_reducible refine w_rSub ?_) | (with_reducible refine w_max2 ?_) | (with_reducible refine w_lc ?_) | (with_reducible refine w_zip ?_) | (with_reducible refine w_seqv ?_) | (with_reducible refine w_rng1 ?_) | (with_reducible refine w_rng2 ?_) | (with_reducible refine w_rng3 ?_) | (with_reducible refine w_enum ?_) | (with_reducible refine w_rev ?_))
local macro_rules | `(tactic| walk_at "go") => `(tactic| repeat (walk_at "s1"))
def t_begin (K : PySem.W.Frag) : TS :=
      (tSeq (tAsg (tCB (rListU K) (tCons (tSl (rSlU K) (tVar 0) tNoPart (tPart (tC (.int 63)))) tNil)) (gName 1))
      (tSeq (tIfS (tTest (tOp (rEqU K) (tVar 1) (tLst tNil)))
      (tAsg (tLst (tCons (tC (.int 7)) tNil)) (gName 1))
      tNext)
      (tRet (tDisp [((tC (.str ("cells" : Str))), (tVar 1)), ((tC (.str ("turn" : Str))), (tC (.int 0)))]))))
abbrev N_begin : List Str := [("_law_script" : Str), ("_law_cells" : Str)]
def t_take (K : PySem.W.Frag) : TS :=
      (tSeq (tAsg (tOp (rAddU K) (tOp (rIxU K) (tVar 0) (tC (.str ("turn" : Str)))) (tC (.int 1))) (gName 2))
      (tSeq (tAsg (tVar 2) (gSub (tVar 0) (tC (.str ("turn" : Str))) rSetU))
      (tSeq (tAsg (tOp (rModU) (tVar 2) (tCB (rLenU K) (tCons (tOp (rIxU K) (tVar 0) (tC (.str ("cells" : Str)))) tNil))) (gName 3))
      (tSeq (tAsg (tOp (rIxU K) (tOp (rIxU K) (tVar 0) (tC (.str ("cells" : Str)))) (tVar 3)) (gName 4))
      (tSeq (tIfS (tTest (tOp (rGeU) (tVar 4) (tOp (rPowU) (tC (.int 10)) (tC (.int 18)))))
      (tSeq (tAsg (tCB (rDivmod) (tCons (tVar 4) (tCons (tVar 1) tNil))) (gTup K 2 (gCons (gSub (tOp (rIxU K) (tVar 0) (tC (.str ("cells" : Str)))) (tVar 3) rSetU) (gCons (gName 5) gNil))))
      (tRet (tVar 5)))
      tNext)
      (tSeq (tAsg (tOp (rModU) (tOp (rMulU) (tOp (rAddU K) (tOp (rAddU K) (tOp (rModU) (tVar 4) (tC (.int 2147483629))) (tOp (rMulU) (tOp (rMulU) (tVar 2) (tVar 2)) (tC (.int 7919)))) (tC (.int 11))) (tC (.int 48271))) (tC (.int 2147483647))) (gName 6))
      (tSeq (tAsg (tOp (rModU) (tOp (rMulU) (tVar 6) (tVar 6)) (tC (.int 2147483587))) (gName 6))
      (tRet (tOp (rModU) (tOp (rDivU) (tOp (rModU) (tOp (rMulU) (tOp (rAddU K) (tVar 6) (tOp (rMulU) (tVar 2) (tC (.int 104729)))) (tC (.int 69621))) (tC (.int 2147483629))) (tC (.int 7))) (tVar 1))))))))))
abbrev N_take : List Str := [("_law_state" : Str), ("_law_many" : Str), ("_law_turn" : Str), ("_law_place" : Str), ("_law_cell" : Str), ("_law_digit" : Str), ("_law_mixed" : Str)]
def stD (c : Addr) (t : Int) : HO := .dK [(.inr "cells", .ref c), (.inr "turn", .int t)]
def LW (m : Nat) (a : Addr) (R : List (Addr × HO)) (G H : Hp) : Prop := ∃ (c : Addr) (t : Int) (ns : List Int), Wd ((a, stD c t) :: (c, .lst (ns.map V.int)) :: R) G H ∧ 0 < ns.length ∧ 0 ≤ t ∧ t + m ≤ 2 ^ 50
section
variable {m m' : Nat} {a p l : Addr} {R : List (Addr × HO)} {G G' H H' : Hp} {o o' : HO} {x : Addr × HO}
theorem LW.le (h : LW m a R G H) (l : m' ≤ m) : LW m' a R G H := by
  obtain ⟨c, t, ns, w, h1, h2, h3⟩ := h
  exact ⟨c, t, ns, w, h1, h2, by omega⟩
theorem LW.v (h : LW m a R G H) : Same G H := by
  obtain ⟨c, t, ns, w, _⟩ := h
  exact w.v
theorem LW.same (h : LW m a R G H) (s : Same H H') : LW m a R G H' := by
  obtain ⟨c, t, ns, w, r⟩ := h
  exact ⟨c, t, ns, w.same s, r⟩
theorem LW.grow (h : LW m a R G H) (g : Grow H G H' G') : LW m a R G' H' := by
  obtain ⟨c, t, ns, w, r⟩ := h
  exact ⟨c, t, ns, w.grow g, r⟩
theorem LW.own (h : LW m a R G H) (s : Same H H') (hp : H p = none) (e : H' p = some o) : LW m a ((p, o) :: R) G H' := by
  obtain ⟨c, t, ns, w, r⟩ := h
  exact ⟨c, t, ns, w.own3 s hp e, r⟩
theorem LW.new (h : LW m a R G H) (hp : H p = none) : LW m a R (upd G p o) (upd H p o) := h.grow (Grow.new h.v hp)
theorem LW.put (h : LW m a ((l, o) :: R) G H) : LW m a ((l, o') :: R) G (upd H l o') := by
  obtain ⟨c, t, ns, w, r⟩ := h
  exact ⟨c, t, ns, w.put3, r⟩
theorem LW.hd (h : LW m a ((l, o) :: R) G H) : H l = some o := by
  obtain ⟨c, t, ns, w, r⟩ := h
  exact w.td
theorem LW.drop (h : LW m a (x :: R) G H) : LW m a R G H := by
  obtain ⟨c, t, ns, w, r⟩ := h
  exact ⟨c, t, ns, w.rot3.drop, r⟩
theorem LW.share (h : LW m a ((l, o) :: R) G H) : LW m a R (upd G l o) H := by
  obtain ⟨c, t, ns, w, r⟩ := h
  exact ⟨c, t, ns, w.rot3.share, r⟩
theorem LW.gsame (h : LW m a ((l, o) :: R) G H) (o' : HO) : Same G (upd G l o') := by
  obtain ⟨c, t, ns, w, r⟩ := h
  exact w.rot3.gsame o'
end
theorem ne_ct : ¬ (Str.ofString "cells" = Str.ofString "turn") := by decide +kernel
theorem st_turn {c : Addr} {t : Int} : valV [((.inr "cells" : Key), V.ref c), (.inr "turn", V.int t)] (.inr "turn") = some (.int t) := by
  simp [valV, ne_ct]
theorem st_cells {c : Addr} {t : Int} : valV [((.inr "cells" : Key), V.ref c), (.inr "turn", V.int t)] (.inr "cells") = some (.ref c) := by
  simp [valV]
theorem st_len {c : Addr} {t : Int} : [((.inr "cells" : Key), V.ref c), (.inr "turn", V.int t)].length < sizeLine := by
  show 2 < sizeLine
  decide
theorem st_put {c : Addr} {t u : Int} : HO.dK (putK [((.inr "cells" : Key), V.ref c), (.inr "turn", V.int t)] (.inr "turn") (.int u)) = stD c u := by
  simp [putK, stD, ne_ct]
theorem ixN_nat {n j : Nat} (hj : j < n) : ixN n (j : Int) = some j := by
  unfold ixN
  rw [if_pos (by omega), if_pos (by omega)]
  simp
def spTake : Sp := fun vs H Q _ => ∃ (m : Nat) (a : Addr) (n : Int) (R : List (Addr × HO)) (G : Hp), vs = [.ref a, .int n] ∧ LW (m + 1) a R G H ∧ 0 < n ∧ n < 2 ^ 62 ∧
  ∀ (v : Int) (H' : Hp), LW m a R G H' → 0 ≤ v → v < n → Q (.int v) H'
theorem pure_take {K : PySem.W.Frag} (vs : List V) (H : Hp) (Q : VK) (E : XK) (h : spTake vs H Q E) : t_take K { nx := fun _ H' => Q .non H', rt := Q } (start N_take vs) H := by
  obtain ⟨m, a, n, R, G, rfl, ⟨c, t, ns, w, hns, ht0, htm⟩, hn0, hn1, k⟩ := h
  unfold t_take
  walk_at "go"
  refine w_ixDs w.hd st_turn ?_
  walk_at "go"
  refine w_setDs w.hd st_len ?_
  rw [st_put]
  have w1 : Wd ((a, stD c (t + 1)) :: (c, .lst (ns.map V.int)) :: R) G (upd H a (stD c (t + 1))) := w.put
  revert w1
  generalize upd H a (stD c (t + 1)) = H1
  intro w1
  walk_at "go"
  refine w_ixDs w1.hd st_cells ?_
  walk_at "go"
  refine w_lenL (SqL.of w1.sd) ?_
  walk_at "go"
  refine w_modI (by rw [List.length_map]; omega) ?_
  rw [List.length_map]
  obtain ⟨j, hj, ej⟩ : ∃ j : Nat, j < ns.length ∧ (t + 1) % (ns.length : Int) = (j : Int) := ⟨((t + 1) % (ns.length : Int)).toNat, by
    have h1 := Int.emod_nonneg (t + 1) (show (ns.length : Int) ≠ 0 by omega)
    have h2 := Int.emod_lt_of_pos (t + 1) (show (0 : Int) < ns.length by omega)
    omega, by
    have h1 := Int.emod_nonneg (t + 1) (show (ns.length : Int) ≠ 0 by omega)
    omega⟩
  rw [ej]
  walk_at "go"
  refine w_ixDs w1.hd st_cells ?_
  walk_at "go"
  refine w_ixL (v := V.int ns[j]) (SqL.of w1.sd) (atI_nat (by simp [hj])) ?_
  walk_at "go"
  refine w_powI ⟨by decide, by decide, by decide⟩ ?_
  walk_at "go"
  refine w_ifd (fun hc => ?_) (fun hc => ?_)
  · walk_at "go"
    refine w_divmod (wide_div (b := 62) hn0 (by omega) (by decide) (by decide)) fun p hp => ?_
    have w2 := w1.new (o := .tup [.int (ns[j] / n), .int (ns[j] % n)]) hp
    walk_at "go"
    refine w_gtup (SqT.of upd_same) rfl ?_
    walk_at "go"
    refine w_ixDs w2.hd st_cells ?_
    walk_at "go"
    refine w_setL (k := j) w2.sd (by rw [List.length_map]; exact ixN_nat hj) ?_
    have w3 := w2.put2 (o' := .lst ((ns.map V.int).set j (.int (ns[j] / n))))
    walk_at "go"
    have el : (ns.map V.int).set j (.int (ns[j] / n)) = (ns.set j (ns[j] / n)).map V.int := by rw [List.map_set]
    rw [el] at w3 ⊢
    refine k _ _ ?_ (Int.emod_nonneg _ (by omega)) (Int.emod_lt_of_pos _ hn0)
    obtain ⟨v3, o3, n3⟩ := w3
    exact ⟨c, t + 1, ns.set j (ns[j] / n), ⟨(same_new (w1.v.free hp)).trans v3, fun y hy => ⟨(o3 y hy).1, (same_new (w1.v.free hp)).free (o3 y hy).2⟩, n3⟩, by rw [List.length_set]; exact hns, by omega, by omega⟩
  · have ht : -(2 ^ 64) < t + 1 ∧ t + 1 < 2 ^ 64 := by omega
    walk_at "go"
    refine w_modF (by decide) fun z1 h1 h2 => ?_
    walk_at "go"
    refine w_mulI (.inl ht) ?_
    walk_at "go"
    refine w_mulI (.inr ⟨by decide, by decide⟩) ?_
    walk_at "go"
    refine w_mulI (.inr ⟨by decide, by decide⟩) ?_
    walk_at "go"
    refine w_modF (by decide) fun z2 h3 h4 => ?_
    walk_at "go"
    refine w_mulI (.inl ⟨by omega, by omega⟩) ?_
    walk_at "go"
    refine w_modF (by decide) fun z3 h5 h6 => ?_
    walk_at "go"
    refine w_mulI (.inr ⟨by decide, by decide⟩) ?_
    walk_at "go"
    refine w_mulI (.inr ⟨by decide, by decide⟩) ?_
    walk_at "go"
    refine w_modF (by decide) fun z4 h7 h8 => ?_
    walk_at "go"
    refine w_divI ⟨by decide, by decide⟩ ?_
    walk_at "go"
    refine w_modF hn0 fun z5 h9 h10 => ?_
    exact k _ _ ⟨c, t + 1, ns, w1, hns, by omega, by omega⟩ h9 h10
end Ps
namespace Ps
open PySem PySem.Spec PyProof.Rows L2
local macro_rules | `(tactic| walk_at "s1") => `(tactic| first
  | (with_reducible refine w_seq ?_) | (with_reducible refine w_asg ?_) | (with_reducible refine w_op ?_) | (with_reducible refine w_c ?_)
  | ((with_reducible refine' w_var ?hx ?_); (case hx => exact rfl))
  | (with_reducible refine w_gname ?_) | (with_reducible refine w_cons ?_) | (with_reducible refine w_nil ?_) | (with_reducible refine w_cb ?_) | (with_reducible refine w_call ?_)
  | (with_reducible refine w_ret ?_) | (with_reducible refine w_drop ?_) | (with_reducible refine w_ifs ?_) | (with_reducible refine w_test ?_) | (with_reducible refine w_next ?_)
  | (with_reducible refine w_addI ?_) | (with_reducible refine w_subI ?_) | (with_reducible refine w_negI ?_) | (with_reducible refine w_eqI ?_) | (with_reducible refine w_neI ?_) | (with_reducible refine w_ltI ?_) | (with_reducible refine w_leI ?_)
  | (with_reducible refine w_gtI ?_) | (with_reducible refine w_geI ?_) | (with_reducible refine w_isNn ?_) | (with_reducible refine w_isNi ?_) | (with_reducible refine w_isNs ?_) | (with_reducible refine w_isNr ?_) | (with_reducible refine w_ntNn ?_) | (with_reducible refine w_ntNi ?_) | (with_reducible refine w_ntNs ?_) | (with_reducible refine w_ntNr ?_) | (with_reducible refine w_isN ?_) | (with_reducible refine w_notN ?_) | (with_reducible refine w_ipaI ?_) | (with_reducible refine w_eqS ?_) | (with_reducible refine w_neS ?_)
  | (with_reducible refine w_blE ?_) | (with_reducible refine w_truB ?_) | (with_reducible refine w_intI ?_) | (with_reducible refine w_intB ?_)
  | (with_reducible refine w_bm ?_) | (with_reducible refine w_bm0 ?_) | (with_reducible refine w_lst ?_) | (with_reducible refine w_tup ?_) | (with_reducible refine w_un ?_) | (with_reducible refine w_sl ?_) | (with_reducible refine w_nopart ?_) | (with_reducible refine w_part ?_) | (with_reducible refine w_partI ?_)
  | (with_reducible refine w_gsub ?_) | (with_reducible refine w_gcons ?_) | (with_reducible refine w_gnil ?_) | (with_reducible refine w_and ?_) | (with_reducible refine w_or ?_) | (with_reducible refine w_not ?_) | (with_reducible refine w_tru ?_) | (with_reducible refine w_yes ?_)
  | (with_reducible refine w_andV ?_) | (with_reducible refine w_orV ?_) | (with_reducible refine w_notV ?_) | (with_reducible refine w_tif ?_) | (with_reducible refine w_callS ?_) | (with_reducible refine w_for ?_)
  | (with_reducible refine w_par ?_) | (with_reducible refine w_par2 ?_) | (with_reducible refine w_retN ?_) | (with_reducible refine w_brk ?_) | (with_reducible refine w_cont ?_)
  | ((with_reducible refine' w_aug ?hx ?_); (case hx => exact rfl)) | (with_reducible refine w_ipsI ?_)
  | (with_reducible refine w_is_int_dict ?_) | (with_reducible refine w_is_int_list ?_) | (with_reducible refine w_is_int_tuple ?_) | (with_reducible refine w_is_int_str ?_) | (with_reducible refine w_is_int_int ?_) | (with_reducible refine w_is_int_bool ?_) | (with_reducible refine w_is_bool_dict ?_) | (with_reducible refine w_is_bool_list ?_) | (with_reducible refine w_is_bool_tuple ?_) | (with_reducible refine w_is_bool_str ?_) | (with_reducible refine w_is_bool_int ?_) | (with_reducible refine w_is_bool_bool ?_) | (with_reducible refine w_is_str_dict ?_) | (with_reducible refine w_is_str_list ?_) | (with_reducible refine w_is_str_tuple ?_) | (with_reducible refine w_is_str_str ?_) | (with_reducible refine w_is_str_int ?_) | (with_reducible refine w_is_str_bool ?_)
  | (with_reducible refine w_ifT ?_) | (with_reducible refine w_ifF ?_) | (with_reducible refine w_ifNF ?_) | (with_reducible refine w_ifNT ?_)
  | (with_reducible refine w_tys ?_) | (with_reducible refine w_chain ?_) | (with_reducible refine w_ost ?_) | (with_reducible refine w_vei ?_) | (with_reducible refine w_rzO ?_) | (with_reducible refine w_fld ?_) | (with_reducible refine w_sfld ?_) | (with_reducible refine w_afld ?_) | (with_reducible refine w_meth ?_) | (with_reducible refine w_make ?_) | (with_reducible refine w_rz ?_) | (with_reducible refine w_rAdd ?_) | (with_reducible refine w_rSub ?_) | (with_reducible refine w_max2 ?_) | (with_reducible refine w_lc ?_) | (with_reducible refine w_zip ?_) | (with_reducible refine w_seqv ?_) | (with_reducible refine w_rng1 ?_) | (with_reducible refine w_rng2 ?_) | (with_reducible refine w_rng3 ?_) | (with_reducible refine w_enum ?_) | (with_reducible refine w_rev ?_))
local macro_rules | `(tactic| walk_at "go") => `(tactic| repeat (walk_at "s1"))
def t_same (K : PySem.W.Frag) (s_same_ : Sp) : TS :=
      (tSeq (tIfS (tTest (tOp (rIsN) (tVar 1) (tC .non)))
      (tRet (tOp (rIsN) (tVar 0) (tC .non)))
      tNext)
      (tSeq (tIfS (tTru K (tCB (rIsiU K) (tCons (tVar 1) (tCons (tC (.ty "dict")) tNil))))
      (tSeq tNever
      tNever)
      tNext)
      (tSeq (tIfS (tOr (tTru K (tCB (rIsiU K) (tCons (tVar 1) (tCons (tC (.ty "list")) tNil)))) (tTru K (tCB (rIsiU K) (tCons (tVar 1) (tCons (tC (.ty "tuple")) tNil)))))
      (tSeq (tIfS (tTest (tOp (rNeU K) (tCB (rIsiU K) (tCons (tVar 0) (tCons (tC (.ty "list")) tNil))) (tCB (rIsiU K) (tCons (tVar 1) (tCons (tC (.ty "list")) tNil)))))
      (tRet (tC (.bl false)))
      tNext)
      (tSeq (tIfS (tOr (tTest (tOp (rNeU K) (tCB (rIsiU K) (tCons (tVar 0) (tCons (tC (.ty "tuple")) tNil))) (tCB (rIsiU K) (tCons (tVar 1) (tCons (tC (.ty "tuple")) tNil))))) (tTest (tOp (rNeU K) (tCB (rLenU K) (tCons (tVar 0) tNil)) (tCB (rLenU K) (tCons (tVar 1) tNil)))))
      (tRet (tC (.bl false)))
      tNext)
      (tRet (tCB (rAll K) (tCons (tLc (RZ.iZipA K (tCons (tVar 0) (tCons (tVar 1) tNil))) (gTup K 2 (gCons (gName 3) (gCons (gName 4) gNil))) tYes (tCall s_same_ [] E0 (tCons (tVar 3) (tCons (tVar 4) tNil))) [3, 4]) tNil)))))
      tNext)
      (tSeq (tIfS (tTru K (tCB (rIsiU K) (tCons (tVar 1) (tCons (tC (.ty "str")) tNil))))
      (tRet (tAndV (tCB (rIsiU K) (tCons (tVar 0) (tCons (tC (.ty "str")) tNil))) (tOp (rEqU K) (tVar 0) (tVar 1))))
      tNext)
      (tRet (tAndV (tCB (rIsiU K) (tCons (tVar 0) (tCons (tC (.ty "int")) tNil))) (tAndV (tNotV (tCB (rIsiU K) (tCons (tVar 0) (tCons (tC (.ty "bool")) tNil)))) (tOp (rEqU K) (tVar 0) (tVar 1)))))))))
abbrev N_same : List Str := [("_law_found" : Str), ("_law_due" : Str), ("_law_name" : Str), ("_law_one" : Str), ("_law_other" : Str)]
theorem canLayAll_ints : ∀ ns : List Int, PyData.canLayAll0 (ns.map PyData.int) = true
  | [] => rfl
  | n :: r => by
    rw [List.map_cons, PyData.canLayAll0, canLayAll_ints r]
    rfl
theorem depthAll_ints : ∀ ns : List Int, PyData.depthAll (ns.map PyData.int) = 0
  | [] => rfl
  | n :: r => by
    rw [List.map_cons, PyData.depthAll, depthAll_ints r]
    rfl
theorem shaped_dI (ns : List Int) : SeqAt.shaped (dI ns) = true := by
  unfold SeqAt.shaped dI
  rw [PyData.canLay0, PyData.depth, canLayAll_ints, depthAll_ints]
  rfl
theorem eqvAll_ints : ∀ ns ms : List Int, PyData.eqvAll (ns.map PyData.int) (ms.map PyData.int) = decide (ns = ms)
  | [], [] => by simp [PyData.eqvAll]
  | [], _ :: _ => by simp [PyData.eqvAll]
  | _ :: _, [] => by simp [PyData.eqvAll]
  | n :: r, m :: q => by
    rw [List.map_cons, List.map_cons, PyData.eqvAll, eqvAll_ints r q, PyData.eqv]
    by_cases h : n = m
    · subst h; simp
    · simp [h]
theorem eqv_dI (ns ms : List Int) : PyData.eqv (dI ns) (dI ms) = decide (ns = ms) := by
  unfold dI
  rw [PyData.eqv]
  exact eqvAll_ints ns ms
section
variable {H : Hp} {Q : VK} {K : PySem.W.Frag} {σ : L2.St} {a : Addr}
theorem w_eqLI {b : Addr} {ns ms : List Int} (ha : H a = some (.lst (ns.map V.int))) (hb : H b = some (.lst (ms.map V.int))) (h : Q (.bl (decide (ns = ms))) H) : rEqU K (.ref a) (.ref b) H Q :=
  w_eqD (dp_ints ha) (dp_ints hb) (shaped_dI _) (shaped_dI _) (by rw [eqv_dI]; exact h)
theorem w_disp {trs : List (TE × TE)} (h : ∀ p, H p = none → tPairs trs σ (upd H p (.dK [])) fun ps H2 => H2 p = some (.dK []) ∧ ∃ kvs : List (Key × V), ps = kvs.map (fun kv => (kV kv.1, kv.2)) ∧ kvs.length ≤ 15 ∧ Q (.ref p) (upd H2 p (.dK (mergeK [] kvs)))) : tDisp trs σ H Q := h
theorem w_pcons {tk tv : TE} {r : List (TE × TE)} {P : List (V × V) → Hp → Prop} (h : tk σ H fun x H1 => tv σ H1 fun y H2 => tPairs r σ H2 fun ps H3 => P ((x, y) :: ps) H3) : tPairs ((tk, tv) :: r) σ H P := h
theorem w_pnil {P : List (V × V) → Hp → Prop} (h : P [] H) : tPairs [] σ H P := h
theorem cutV_to (xs : List V) (n : Nat) : cutV xs none (some (n : Int)) = xs.take n := by
  unfold cutV
  rw [HT.sIx_none, HT.sIx_nat, List.drop_zero, Nat.sub_zero]
  by_cases h : n ≤ xs.length
  · rw [Nat.min_eq_left h]
  · rw [Nat.min_eq_right (by omega), List.take_of_length_le (Nat.le_refl _), List.take_of_length_le (by omega)]
end
def spBegin (K : PySem.W.Frag) : Sp := fun vs H Q _ => ∃ (s : Addr) (ns : List Int), vs = [.ref s] ∧ SqL K H s (ns.map V.int) ∧ ns.length ≤ 63 ∧ ∀ a H', LW (2 ^ 50) a [] H H' → Q (.ref a) H'
theorem pure_begin {K : PySem.W.Frag} (vs : List V) (H : Hp) (Q : VK) (E : XK) (h : spBegin K vs H Q E) : t_begin K { nx := fun _ H' => Q .non H', rt := Q } (start N_begin vs) H := by
  obtain ⟨s, ns, rfl, hs, hl, k⟩ := h
  unfold t_begin
  walk_at "go"
  refine w_slL hs fun p hp => ?_
  have e1 : cutV (ns.map V.int) none (some 63) = ns.map V.int := by
    have q := cutV_to (ns.map V.int) 63
    rw [List.take_of_length_le (by rw [List.length_map]; exact hl)] at q
    exact q
  rw [e1]
  have s1 : Same H (upd H p (.lst (ns.map V.int))) := same_new hp
  walk_at "go"
  refine w_listL (SqL.of upd_same) fun c hc => ?_
  have s2 := s1.trans (same_new (o := .lst (ns.map V.int)) hc)
  have c2 : upd (upd H p (.lst (ns.map V.int))) c (.lst (ns.map V.int)) c = some (.lst (ns.map V.int)) := upd_same
  have hc0 : H c = none := s1.free hc
  revert c2 s2
  generalize upd (upd H p (.lst (ns.map V.int))) c (.lst (ns.map V.int)) = H2
  intro s2 c2
  walk_at "go"
  refine ⟨Nat.zero_le _, fun q hq => ?_⟩
  have s3 := s2.trans (same_new (o := .lst []) hq)
  have c3 := same_new (o := .lst []) hq _ _ c2
  refine w_eqLI (ns := ns) (ms := []) c3 upd_same ?_
  walk_at "go"
  have fin : ∀ (H3 : Hp) (c' : Addr) (ms : List Int), Same H H3 → H c' = none → H3 c' = some (.lst (ms.map V.int)) → 0 < ms.length → ∀ p, H3 p = none → Q (.ref p) (upd (upd H3 p (.dK [])) p (.dK (mergeK [] [(.inr "cells", .ref c'), (.inr "turn", .int 0)]))) := by
    intro H3 c' ms s3 h1 h2 h3 p hp
    have e : HO.dK (mergeK [] [(.inr "cells", .ref c'), (.inr "turn", .int 0)]) = stD c' 0 := by
      show HO.dK (putK (putK [] (.inr "cells") (.ref c')) (.inr "turn") (.int 0)) = stD c' 0
      simp [putK, stD, ne_ct]
    rw [e, upd_upd]
    have w := ((Wd.nil (Same.refl H)).own' s3 h1 h2).own (p := p) (o := stD c' 0) hp
    exact k p _ ⟨c', 0, ms, w, h3, by decide, by decide⟩
  refine w_ifd (fun he => ?_) (fun he => ?_)
  · walk_at "go"
    refine ⟨by decide, fun r hr => ?_⟩
    walk_at "go"
    refine w_disp fun p hp => ?_
    refine w_pcons ?_
    walk_at "go"
    refine w_pcons ?_
    walk_at "go"
    refine w_pnil ?_
    exact ⟨upd_same, [(.inr "cells", .ref r), (.inr "turn", .int 0)], rfl, by show 2 ≤ 15; decide, fin _ r [7] (s3.trans (same_new hr)) (s3.free hr) upd_same (by decide) p hp⟩
  · walk_at "go"
    refine w_disp fun p hp => ?_
    refine w_pcons ?_
    walk_at "go"
    refine w_pcons ?_
    walk_at "go"
    refine w_pnil ?_
    refine ⟨upd_same, [(.inr "cells", .ref c), (.inr "turn", .int 0)], rfl, by show 2 ≤ 15; decide, fin _ c ns s3 hc0 c3 ?_ p hp⟩
    cases ns with
    | nil => exact absurd rfl he
    | cons _ _ => exact Nat.succ_pos _
def okD : Nat → PyData → Bool
  | 0, _ => false
  | _ + 1, .none => true
  | _ + 1, .int _ => true
  | _ + 1, .str _ => true
  | n + 1, .list ds => decide (ds.length ≤ 16777216) && ds.all (okD n)
  | n + 1, .tuple ds => decide (ds.length ≤ 16777216) && ds.all (okD n)
  | _ + 1, .bool _ => false
  | _ + 1, .dict _ => false
def spSame (K : PySem.W.Frag) (n : Nat) : Sp := fun vs H Q _ => ∃ (x y : V) (d : PyData), vs = [x, y] ∧ Dp K H x d ∧ Dp K H y d ∧ okD n d = true ∧ ∀ H', Same H H' → Q (.bl true) H'
theorem all_rep (n : Nat) : (List.replicate n true).all id = true := by
  induction n with
  | zero => rfl
  | succ n ih => rw [List.replicate_succ, List.all_cons, ih]; rfl
theorem pure_same {K : PySem.W.Frag} {n : Nat} (vs : List V) (H : Hp) (Q : VK) (E : XK) (h : spSame K (n + 1) vs H Q E) : t_same K (spSame K n) { nx := fun _ H' => Q .non H', rt := Q } (start N_same vs) H := by
  obtain ⟨x, y, d, rfl, hx, hy, hd, k⟩ := h
  unfold t_same
  have zip_turn : ∀ (ds : List PyData) (xs ys : List V), DpAll K H xs ds → DpAll K H ys ds → ds.all (okD n) = true → ∀ (σ : L2.St) (i : Nat) (u : V) (D : Addr) (Hi H' : Hp), H D = none → Same H Hi → Hi D = some (.lst (List.replicate i (.bl true))) → i < ds.length → ds.length ≤ 16777216 → σ.length = 5 →
      YPair (fun i => xs[i]?) (fun i => ys[i]?) i Hi u H' → (gTup K 2 (gCons (gName 3) (gCons (gName 4) gNil))) u (wipe σ [3, 4]) H' fun σ2 H2 => wipe σ2 [3, 4] = wipe σ [3, 4] ∧ tYes σ2 H2 fun b H3 =>
        if b = true then (tCall (spSame K n) [] E0 (tCons (tVar 3) (tCons (tVar 4) tNil))) σ2 H3 fun y H4 => ∃ acc, H4 D = some (.lst acc) ∧ acc.length < sizeLine ∧ (Same H (upd H4 D (.lst (acc ++ [y]))) ∧ upd H4 D (.lst (acc ++ [y])) D = some (.lst (List.replicate (i + 1) (.bl true)))) else (Same H H3 ∧ H3 D = some (.lst (List.replicate (i + 1) (.bl true)))) := by
    intro ds xs ys ax ay ok σ i u D Hi H' hD si hi hlt hsz hσ hY
    obtain ⟨T, x1, y1, rfl, hT, rfl, ex, ey⟩ := hY
    have s2 := si.trans (same_new (o := .tup [x1, y1]) hT)
    have d2 := same_new (o := .tup [x1, y1]) hT _ _ hi
    refine w_gtup (SqT.of upd_same) rfl ?_
    obtain ⟨s0, s1, s2', s3, s4, rfl⟩ : ∃ s0 s1 s2' s3 s4, σ = [s0, s1, s2', s3, s4] := by
      match σ, hσ with
      | [s0, s1, s2', s3, s4], _ => exact ⟨s0, s1, s2', s3, s4, rfl⟩
    walk_at "go"
    refine ⟨rfl, ?_⟩
    walk_at "go"
    have hd1 : ds[i]? = some ds[i] := List.getElem?_eq_getElem hlt
    refine ⟨x1, y1, ds[i], rfl, dp_mono s2 _ _ (dpAll_get ax ex hd1), dp_mono s2 _ _ (dpAll_get ay ey hd1), List.all_eq_true.mp ok _ (List.getElem_mem hlt), fun H4 s4 => ?_⟩
    refine ⟨_, s4 _ _ d2, by rw [List.length_replicate]; exact sz_lt (by omega), same_mut (s2.trans s4) hD, ?_⟩
    rw [upd_same, List.replicate_succ']
  cases hx with
  | non =>
    cases hy
    walk_at "go"
    exact k _ (Same.refl _)
  | bl b => exact absurd hd (by simp [okD])
  | int i =>
    cases hy
    walk_at "go"
    rw [decide_eq_true rfl]
    exact k _ (Same.refl _)
  | str z =>
    cases hy
    walk_at "go"
    rw [decide_eq_true rfl]
    exact k _ (Same.refl _)
  | @lst a xs ds ha ax =>
    cases hy with
    | @lst b ys _ hb ay =>
      walk_at "go"
      refine w_is_list_dict hb ?_
      walk_at "go"
      refine w_is_list_list hb ?_
      walk_at "go"
      refine w_is_list_list ha ?_
      walk_at "go"
      refine w_is_list_list hb ?_
      walk_at "go"
      refine w_neBf rfl ?_
      walk_at "go"
      refine w_is_list_tuple ha ?_
      walk_at "go"
      refine w_is_list_tuple hb ?_
      walk_at "go"
      refine w_neBf rfl ?_
      walk_at "go"
      refine w_lenL ha ?_
      walk_at "go"
      refine w_lenL hb ?_
      walk_at "go"
      have lx := dpAll_len ax
      have ly := dpAll_len ay
      refine w_ifn (fun q => absurd (by rw [lx, ly]) q) (fun _ => ?_)
      walk_at "go"
      refine w_itZL ha hb ?_
      intro D hD
      have hz : ds.length ≤ 16777216 ∧ ds.all (okD n) = true := by simpa [okD] using hd
      refine lc_it (walk_zip (xs := xs) (ys := ys) (n := ds.length) (by omega)) (fun i H' => Same H H' ∧ H' D = some (.lst (List.replicate i (.bl true)))) ⟨same_new hD, upd_same⟩ (fun i H' _ p => ⟨same_l p.1 ha, same_l p.1 hb⟩) (fun i u Hi H' hi p y => ?_) (fun H' p => ?_)
      · exact zip_turn ds xs ys ax ay hz.2 _ i u D Hi H' hD p.1 p.2 hi hz.1 rfl y
      · walk_at "go"
        refine w_all (bs := List.replicate ds.length true) (SqL.of (by rw [p.2, List.map_replicate])) ?_
        rw [all_rep]
        exact k _ p.1
  | @tup a xs ds ha ax =>
    cases hy with
    | @tup b ys _ hb ay =>
      walk_at "go"
      refine w_is_tuple_dict hb ?_
      walk_at "go"
      refine w_is_tuple_list hb ?_
      walk_at "go"
      refine w_is_tuple_tuple hb ?_
      walk_at "go"
      refine w_is_tuple_list ha ?_
      walk_at "go"
      refine w_is_tuple_list hb ?_
      walk_at "go"
      refine w_neBf rfl ?_
      walk_at "go"
      refine w_is_tuple_tuple ha ?_
      walk_at "go"
      refine w_is_tuple_tuple hb ?_
      walk_at "go"
      refine w_neBf rfl ?_
      walk_at "go"
      refine w_lenT ha ?_
      walk_at "go"
      refine w_lenT hb ?_
      walk_at "go"
      have lx := dpAll_len ax
      have ly := dpAll_len ay
      refine w_ifn (fun q => absurd (by rw [lx, ly]) q) (fun _ => ?_)
      walk_at "go"
      refine w_itZT ha hb ?_
      intro D hD
      have hz : ds.length ≤ 16777216 ∧ ds.all (okD n) = true := by simpa [okD] using hd
      refine lc_it (walk_zipT (xs := xs) (ys := ys) (n := ds.length) (by omega)) (fun i H' => Same H H' ∧ H' D = some (.lst (List.replicate i (.bl true)))) ⟨same_new hD, upd_same⟩ (fun i H' _ p => ⟨same_t p.1 ha, same_t p.1 hb⟩) (fun i u Hi H' hi p y => ?_) (fun H' p => ?_)
      · exact zip_turn ds xs ys ax ay hz.2 _ i u D Hi H' hD p.1 p.2 hi hz.1 rfl y
      · walk_at "go"
        refine w_all (bs := List.replicate ds.length true) (SqL.of (by rw [p.2, List.map_replicate])) ?_
        rw [all_rep]
        exact k _ p.1
end Ps
namespace Ps
open PySem PySem.Spec PyProof.Rows L2
def Sq (K : PySem.W.Frag) (H : Hp) (a : Addr) (xs : List V) : Prop := SqL K H a xs ∨ SqT K H a xs
section
variable {K : PySem.W.Frag} {H H' Hi H4 : Hp} {a b D p : Addr} {xs ys vs : List V} {R : It → Hp → Prop} {v y : V} {i n : Nat}
theorem Sq.same (s : Same H H') (h : Sq K H a xs) : Sq K H' a xs := h.elim (fun h => .inl (same_l s h)) fun h => .inr (same_t s h)
theorem Sq.l (h : H a = some (.lst xs)) : Sq K H a xs := .inl (SqL.of h)
theorem Sq.t (h : H a = some (.tup xs)) : Sq K H a xs := .inr (SqT.of h)
theorem take_snoc {α : Type} : ∀ {l : List α} {i : Nat} {x : α}, l[i]? = some x → l.take (i + 1) = l.take i ++ [x] := fun {l i x} h => by
  rw [List.take_add_one, h]
  rfl
end
theorem fn_no {P : Program} {w : World} {K : PySem.W.Frag} {mg : Str → Option Value} {base : Heap} {CX : CXT} {k : Nat} {f : Addr} {fd : FuncData} {ps : List Str} {sp : Sp} (h : ∀ vs H Q E, ¬ sp vs H Q E) : FnOk P w K mg base CX k f fd ps sp :=
  ⟨fun vs H Q E q => (h _ _ _ _ q).elim, fun _ _ _ _ _ _ _ _ _ _ _ _ _ q => (h _ _ _ _ q).elim⟩
theorem same_no {K : PySem.W.Frag} (vs : List V) (H : Hp) (Q : VK) (E : XK) : ¬ spSame K 0 vs H Q E := by
  rintro ⟨x, y, d, _, _, _, hd, _⟩
  cases hd
section
variable {m : Nat} {a l : Addr} {R : List (Addr × HO)} {G H : Hp} {o : HO} {n : Int} {Q : VK} {E : XK} {K : PySem.W.Frag}
theorem LW.at (h : LW m a R G H) (q : (l, o) ∈ R) : H l = some o := by
  obtain ⟨c, t, ns, w, r⟩ := h
  exact w.mem (List.mem_cons_of_mem _ (List.mem_cons_of_mem _ q))
theorem LW.sd {x : Addr × HO} (h : LW m a (x :: (l, o) :: R) G H) : H l = some o := h.at (List.mem_cons_of_mem _ List.mem_cons_self)
theorem LW.td {x y : Addr × HO} (h : LW m a (x :: y :: (l, o) :: R) G H) : H l = some o := h.at (List.mem_cons_of_mem _ (List.mem_cons_of_mem _ List.mem_cons_self))
theorem LW.perm {R' : List (Addr × HO)} (h : LW m a R G H) (p : R'.Perm R) : LW m a R' G H := by
  obtain ⟨c, t, ns, w, r⟩ := h
  exact ⟨c, t, ns, w.perm ((p.cons _).cons _), r⟩
end
def spLaw (K : PySem.W.Frag) : Sp := fun vs H Q _ => ∃ (a : Addr) (ns : List Int), vs = [.ref a] ∧ SqL K H a (ns.map V.int) ∧ ns.length ≤ 63 ∧ ∀ H', Q (.bl true) H'
end Ps
namespace Ps
open PySem PySem.Spec PyProof.Rows L2
section
variable {K : PySem.W.Frag} {H H' H1 Hi H4 : Hp} {a b D p : Addr} {xs ys vs : List V} {R : It → Hp → Prop} {v y : V} {i n m : Nat}
end
theorem sIx_none (n d : Nat) : HT.sIx n d none = d := rfl
theorem sIx_nat {n d j : Nat} : HT.sIx n d (some (j : Int)) = min j n := by
  unfold HT.sIx
  simp
  intro h
  omega
def RngCK (R : It → Hp → Prop) (vs : List V) (H1 : Hp) : Prop := ∃ (i j c : Int) (n : Nat), vs = [.int i, .int j, .int c] ∧ RgC i j c n ∧ R (Itc i c n) H1
theorem w_rng3 {ta : TA} {σ : L2.St} {H : Hp} {R : It → Hp → Prop} (h : ta σ H fun vs H1 => RngCK R vs H1) : iRng3 ta σ H R := h
theorem rgC_up {n c k : Nat} (hn : n < 2 ^ 61) (h0 : 0 < c) (h1 : c < 1073741824) (hk : k = (n + c - 1) / c) : RgC 0 n c k := by
  have hs : Builtin.Range.rangeSize 0 n c = k := by
    rw [rangeSize_pos (by omega) (by omega), hk]
    push_cast
    rw [Int.ofNat_sub (by omega)]
    push_cast
    rfl
  have hb : (k : Int) * c ≤ n + c := by
    have := Nat.div_mul_le_self (n + c - 1) c
    rw [← hk] at this
    have h2 : ((k * c : Nat) : Int) ≤ n + c := by omega
    rw [Int.natCast_mul] at h2
    exact h2
  refine ⟨by omega, by omega, ?_, hs⟩
  unfold Builtin.Range.small
  rw [hs]
  simp only [Builtin.Range.rangeFitsLong, Bool.and_eq_true, Bool.or_eq_true, decide_eq_true_eq, beq_iff_eq, show (c : Int) > 0 by omega, if_true]
  have hk2 : k ≤ n + c := by
    rw [hk]
    exact Nat.le_trans (Nat.div_le_self _ _) (by omega)
  omega
theorem split_at {α : Type} {l : List α} {i : Nat} {x : α} (h : l[i]? = some x) : ∃ A B, l = A ++ x :: B ∧ A.length = i := by
  obtain ⟨h1, h2⟩ := List.getElem?_eq_some_iff.mp h
  refine ⟨l.take i, l.drop (i + 1), ?_, by rw [List.length_take]; omega⟩
  rw [← h2, List.getElem_cons_drop, List.take_append_drop]
theorem set_mid {α : Type} (A B : List α) (x y : α) : (A ++ x :: B).set A.length y = A ++ y :: B := by
  rw [List.set_append_right _ _ (Nat.le_refl _), Nat.sub_self, List.set_cons_zero]
section
variable {m : Nat} {a l p : Addr} {R : List (Addr × HO)} {G H : Hp} {o o' : HO} {i : Nat}
theorem LW.set (h : LW m a R G H) (e : R[i]? = some (l, o)) : LW m a (R.set i (l, o')) G (upd H l o') := by
  obtain ⟨A, B, rfl, rfl⟩ := split_at e
  rw [set_mid]
  have h1 := h.perm (R' := (l, o) :: (A ++ B)) List.perm_middle.symm
  exact (h1.put (o' := o')).perm List.perm_middle
theorem LW.get (h : LW m a R G H) (e : R[i]? = some (l, o)) : H l = some o := h.at (List.mem_of_getElem? e)
end
end Ps
namespace Ps
open PySem PySem.Spec PyProof.Rows L2
section
variable {K : PySem.W.Frag} {H H' : Hp} {a : Addr} {xs : List V} {R : It → Hp → Prop}
theorem sql_at (e : H' a = H a) (h : SqL K H a xs) : SqL K H' a xs := h.imp (fun h => by unfold L2.Rd at h ⊢; rw [e]; exact h) id
theorem sqt_at (e : H' a = H a) (h : SqT K H a xs) : SqT K H' a xs := h.imp (fun h => by unfold L2.Rd at h ⊢; rw [e]; exact h) id
theorem Sq.at (h : Sq K H a xs) (e : H' a = H a) : Sq K H' a xs := h.imp (sql_at e) (sqt_at e)
end
theorem w_chain {r r' : R2} {ta tb tc : TE} {σ : L2.St} {H : Hp} {Q : VK} (h : ta σ H fun x H1 => tb σ H1 fun y H2 => r x y H2 fun z H3 => ∃ k, z = .bl k ∧ (if k = true then tc σ H3 fun w' H4 => r' y w' H4 Q else Q (.bl false) H3)) : tChain r r' ta tb tc σ H Q := h
end Ps
namespace Ps
open PySem PySem.Spec PyProof.Rows L2
def repS (z : Str) (k : Nat) : Str := ⟨(List.replicate k z.cps).foldl (· ++ ·) #[]⟩
def rSMul : R2 := fun x y H Q => ∃ (z : Str) (k : Nat), x = .str z ∧ y = .int (k : Int) ∧ 2 ≤ k ∧ z.length ≠ 0 ∧ z.length * k ≤ 16777216 ∧ Q (.str (repS z k)) H
theorem op_smul {X : Cx} : OpR X (binaryOp .Mult) rSMul := by
  intro pins s σ H x y v u Q I rx ry h
  obtain ⟨z, k, rfl, rfl, hk, h0, hz, q⟩ := h
  obtain ⟨t, rfl⟩ := rx
  obtain ⟨t', rfl⟩ := ry
  have hk2 : k ≤ 16777216 := Nat.le_trans (Nat.le_mul_of_pos_left k (by omega)) hz
  have hl : Builtin.Str.tooLong (z.length * k) = false := by
    unfold Builtin.Str.tooLong
    exact decide_eq_false (by rw [sizeLine_eq]; omega)
  refine PySem.P.mul_str (by rw [decide_eq_false (by omega), decide_eq_false (by omega)]; rfl) (fun _ _ => ?_) (fun _ _ => by rw [Int.toNat_natCast]; exact hl) ?_
  · have : (z.length : Int) * k ≤ 16777216 := by
      have h2 : ((z.length * k : Nat) : Int) ≤ 16777216 := by omega
      rw [Int.natCast_mul] at h2
      exact h2
    have := Int.le_ediv_of_mul_le (c := (k : Int)) (a := (z.length : Int)) (b := 2 ^ 63 - 1) (by omega) (by omega)
    omega
  · rw [if_neg (by omega), if_neg (by
      have e1 : ((k : Int) == 1) = false := beq_false_of_ne (by omega)
      have e2 : (z.length == 0) = false := beq_false_of_ne h0
      rw [e1, e2]
      exact Bool.false_ne_true), Int.toNat_natCast]
    exact ⟨PySem.fits_reps hl, ⟨.str (repS z k), H, I.tok _, ⟨_, rfl⟩, q⟩⟩
def rMulT : R2 := fun x y H Q => rMulU x y H Q ∨ rSMul x y H Q
theorem op_mulT {X : Cx} : OpR X (binaryOp .Mult) rMulT := opr_or op_mulU op_smul
def rJoinS (K : PySem.W.Frag) : V → List V → Hp → VK → Prop := fun x xs H Q => ∃ a p, ∃ ys : List Str, x = .str a ∧ xs = [.ref p] ∧ (SqL K H p (ys.map V.str) ∨ SqT K H p (ys.map V.str)) ∧
  (ys.map (·.length)).sum + ys.length * a.length ≤ 16777216 ∧ Q (.str (Txt.join a ys)) H
theorem mt_joinS {X : Cx} : MtR X "str.join" (rJoinS X.K) := mt_join
def rSIdx : V → List V → Hp → VK → Prop := fun x xs H Q => ∃ a b i rest, x = .str a ∧ xs = [.str b] ∧ Builtin.Str.occurrences a b 0 a.length 1 = i :: rest ∧ Q (.int (i : Nat)) H
theorem mt_sidx {X : Cx} : MtR X "str.index" rSIdx := mt_sindex
theorem join_one (cs : List Nat) : Txt.join Str.empty (cs.map fun c => (⟨#[c]⟩ : Str)) = ⟨cs.toArray⟩ := by
  show Builtin.Str.glued Str.empty _ = _
  cases cs with
  | nil => rfl
  | cons c r =>
    have e := PySem.StrLaws.glued_list Str.empty ⟨#[c]⟩ (r.map fun c => (⟨#[c]⟩ : Str))
    have g : ∀ l : List Nat, PySem.StrLaws.glueL [] (l.map fun c => (⟨#[c]⟩ : Str)) = l := fun l => by
      induction l with
      | nil => rfl
      | cons x l ih =>
        show [] ++ ([x] ++ PySem.StrLaws.glueL [] (l.map fun c => (⟨#[c]⟩ : Str))) = _
        rw [ih]; rfl
    have e2 : (Builtin.Str.glued Str.empty ((c :: r).map fun c => (⟨#[c]⟩ : Str))).cps.toList = c :: r := by
      rw [List.map_cons, e]
      show [c] ++ PySem.StrLaws.glueL [] (r.map fun c => (⟨#[c]⟩ : Str)) = _
      rw [g]; rfl
    generalize Builtin.Str.glued Str.empty ((c :: r).map fun c => (⟨#[c]⟩ : Str)) = z at *
    obtain ⟨arr⟩ := z
    congr 1
    rw [← e2]
section
variable {K : PySem.W.Frag} {H : Hp} {Q : VK} {p : Addr}
theorem w_tys {z : Str} {P : Prop} (h : P) : tyV K "str" (.str z) H ∧ P := ⟨rfl, h⟩
end
end Ps
namespace Ps
open PySem PySem.Spec PyProof.Rows L2
section
variable {prog : Program} {w : World} {A : Around} {E : Value → Shared → Prop} {s : Shared}
theorem enumS_end {e it : Addr} {z : Str} {t : Tok} {i : Nat} {old : Value} {Q : Option Value → Shared → Prop} (hh : A.handled = none)
    (he : IsEnum s.heap e it i old) (hit : s.heap.IsStrIter it (strIterType z) z t z.cps.size)
    (hQ : ∀ h', Heap.ExtBut it s.heap h' → Q none { s with heap := h' }) : wpAny (model prog w) A (pyNext (.ref e)) Q E s := by
  have hT : s.TypeIs (.ref e) "enumerate" := ⟨_, he, rfl⟩
  unfold pyNext
  refine wpAny_bind (wpAny_attempt (wpAny_callSpecial?_slot (name := Str.ofString "__next__") hT F.slot_enumerate_next
    (wpAny_call_entry F.slot_enumerate_next hT F.entry_enumerate_next ?_ (F.args_enumerate_next_1 _))))
  show wpAny _ _ (field (.ref e) 2 >>= _) _ _ _
  refine wpAny_bind (wpAny_field he rfl (x := .ref it) rfl ?_)
  refine wpAny_bind ((Draws.text (prog := prog) (w := w) (A := A.in1) hh it z t).done _ _ _ hit fun h' x he' hx' => ?_)
  obtain ⟨o, ho, hc⟩ := hx'
  refine wpAny_bind (wpAny_isInstance (T := "StopIteration") (b := true) ⟨o, ho, hc⟩ isSubtype_stop ?_)
  exact wpAny_pure (hQ _ he')
end
def IteS (z : Str) : It :=
  ⟨fun i _ => i < z.cps.size, fun i H v H' => ∃ T c, v = .ref T ∧ H T = none ∧ H' = upd H T (.tup [.int (i : Nat), .str ⟨#[c]⟩]) ∧ z.cps[i]? = some c, fun i _ => i = z.cps.size⟩
theorem turn_enumS {P : Program} {w : World} {K : PySem.W.Frag} {elts : List Expr} {kk : Nat} {tpos : Pos} (z : Str) (t : Tok) (e it : Addr) :
    Turn P w K (.Tuple elts kk tpos) (IteS z) [e, it] e (fun i h => (∃ old, IsEnum h e it ((i : Nat) : Int) old) ∧ h.IsStrIter it (strIterType z) z t i ∧ e ≠ it) where
  mem := by simp
  obj := fun i h st b hb => by
    obtain ⟨⟨old, he⟩, ⟨o, ho, hc, hd⟩, _⟩ := st
    have e' : b = e ∨ b = it := by simpa using hb
    rcases e' with z | z
    · rw [z]; exact ⟨_, he, fun v q => nomatch q⟩
    · rw [z]; exact ⟨o, ho, fun v q => by rw [hd] at q; cases q⟩
  keep := fun i h h' st k => let ⟨⟨old, he⟩, ⟨o, ho, r⟩, hne⟩ := st; ⟨⟨old, k e (by simp) _ he⟩, ⟨o, k it (by simp) o ho, r⟩, hne⟩
  item := by
    intro X hP hw hK hc i pins s σ H E I hf st hg
    subst hP hw hK
    obtain ⟨⟨old, he⟩, hit, hne⟩ := st
    have hel : e < s.heap.objs.size := Heap.lt_size he
    have hil : it < s.heap.objs.size := by obtain ⟨_, q, _⟩ := hit; exact Heap.lt_size q
    refine wpAny_pyNext_enum_itemD (Draws.text (prog := X.prog) (w := X.w) (A := X.A.in1) (I.ok.hd hc) it z t) he hit hg hne (by simp [hne]) fun x' h' tk hx' ho st' hT hsz hk => ?_
    obtain ⟨c, u, hcx, rfl⟩ := hx'
    refine ⟨_, rfl, wpAny_letOwnedTupleGo_enum (s := { s with heap := h', toks := tk + 1 }) ho fun h'' he' sb => ?_⟩
    have hT2 : h''.get? s.heap.objs.size = some { cls := .type "tuple", data := .seq #[.int i tk, .str ⟨#[c]⟩ u] } := (sb.2 _ (Nat.ne_of_gt hel)).trans hT
    have new : ObjOk X.prog X.w (upd H s.heap.objs.size (.tup [.int (i : Nat), .str ⟨#[c]⟩])) h'' s.heap.objs.size (.tup [.int (i : Nat), .str ⟨#[c]⟩]) :=
      ⟨by show 2 ≤ sizeLine; decide, [.int i tk, .str ⟨#[c]⟩ u], .cons ⟨_, rfl⟩ (.cons ⟨_, rfl⟩ .nil), ⟨_, hT2, rfl, _, rfl⟩⟩
    have I1 : Inv X pins σ (upd H s.heap.objs.size (.tup [.int (i : Nat), .str ⟨#[c]⟩])) { s with heap := h'', toks := tk + 1 } :=
      I.turnedNew (ch := [e, it]) (fun b ob hb q => (sb.2 b (fun z => hb (by simp [z]))).trans (hk b ob (fun z => hb (by simp [z])) (fun z => hb (by simp [z])) q)) hf (Nat.le_refl _) new
    refine ⟨.ref s.heap.objs.size, _, I1, rfl, ⟨_, c, rfl, I.hok.fresh (Nat.le_refl _), rfl, hcx⟩, ⟨⟨.str ⟨#[c]⟩ u, ?_⟩, ?_, hne⟩, fun b hb => ?_⟩
    · have e1 : ((i + 1 : Nat) : Int) = (i : Int) + 1 := by omega
      rw [e1]; exact he'
    · obtain ⟨o, ho', r⟩ := st'
      exact ⟨o, (sb.2 it (Ne.symm hne)).trans ho', r⟩
    · have hb' : b < s.heap.objs.size := by
        have e' : b = e ∨ b = it := by simpa using hb
        rcases e' with z | z
        · rw [z]; exact hel
        · rw [z]; exact hil
      rw [upd_ne (Nat.ne_of_lt hb')]
      exact (hf b hb).1
  done := by
    intro X hP hw hK hc i pins s σ H E I hf st hg
    subst hP hw hK
    obtain ⟨⟨old, he⟩, hit, hne⟩ := st
    obtain ⟨f0, f1, f2, f3, f4, f5⟩ := hf it (by simp)
    have hg : i = z.cps.size := hg
    subst hg
    exact enumS_end (I.ok.hd hc) he hit fun h' eb => ⟨rfl, I.turned (t' := s.toks) (fun b o hb q => eb b o hb q) f0 f1 f3 f4 f5⟩
  self := fun A i s Q E st h => let ⟨⟨_, he⟩, _⟩ := st; wpAny_pyIter_enum he h
def iEnumV (K : PySem.W.Frag) (ta : TA) : TI := fun σ H R => ta σ H fun vs H1 => (∃ a xs, vs = [.ref a] ∧ ((SqL K H1 a xs ∧ R (Ite K a) H1) ∨ (SqT K H1 a xs ∧ R (IteT K a) H1))) ∨ ∃ z, vs = [.str z] ∧ R (IteS z) H1
theorem pi_enumV {X : Cx} {e : Expr} {ta : TA} {p pos tpos : Pos} {elts : List Expr} {kk : Nat} (hg : Gl X "enumerate") (hm : X.mg "enumerate" = none) (ha : PA X [e] ta) (hs : starEach [e] X.env = [(false, eval e X.env)] := by rfl) :
    PI X (.Tuple elts kk tpos) (.Call (.Name "enumerate" p) [e] [] pos) (iEnumV X.K ta) := by
  refine ⟨fun pins s σ H R I h => ?_⟩
  refine Call_ (ld_blt I hg hm boot_enumerate (PyProof.Rows.callWith_type1 (thn (ha.run pos pins s σ H _ I h) fun us s1 ⟨vs, H1, I1, r1, q1⟩ => ?_) hs rfl))
  have fr : ∀ b, b ∈ [s1.heap.objs.size + 1, s1.heap.objs.size] → FpOk X pins H1 b := fun b hb => by
    have e' : b = s1.heap.objs.size + 1 ∨ b = s1.heap.objs.size := by simpa using hb
    have hle : s1.heap.objs.size ≤ b := by
      rcases e' with z | z
      · rw [z]; exact Nat.le_add_right _ _
      · rw [z]; exact Nat.le_refl _
    exact I1.fpOk hle (I1.hok.fresh hle)
  rcases q1 with ⟨a, xs, ex, q1⟩ | ⟨z, ex, q⟩
  · subst ex
    cases r1 with
    | cons r rr =>
      cases rr
      cases r
      rcases q1 with ⟨hq, q⟩ | ⟨hq, q⟩
      · obtain ⟨its, rv, p', hz⟩ := I1.list hq
        refine call_enumerate_list p'.isList fun h' he hit hsz hk => wpAny_pyIter_enum he ?_
        have I2 : Inv X pins σ H1 { s1 with heap := h' } := I1.kept (t' := s1.toks) hk
        exact ⟨s1.heap.objs.size + 1, [s1.heap.objs.size + 1, s1.heap.objs.size], _, _, H1, rfl, I2, turn_enum a (s1.heap.objs.size + 1) s1.heap.objs.size, ⟨⟨.none, he⟩, hit, Nat.succ_ne_self _⟩, fr, q⟩
      · obtain ⟨its, rv, p', hz⟩ := I1.tuple hq
        have la : a < s1.heap.objs.size := p'.lt
        refine call_enumB (begins_tuple a its.toArray) (show s1.heap.IsTuple a its.toArray from p') fun h' he hit hsz hk => wpAny_pyIter_enum he ?_
        have I2 : Inv X pins σ H1 { s1 with heap := h' } := I1.kept (t' := s1.toks) hk
        exact ⟨s1.heap.objs.size + 1, [s1.heap.objs.size + 1, s1.heap.objs.size], _, _, H1, rfl, I2, turn_enumT a (s1.heap.objs.size + 1) s1.heap.objs.size, ⟨⟨.none, he⟩, ⟨_, hit, rfl, rfl⟩, Nat.succ_ne_self _, Nat.ne_of_lt la, Nat.ne_of_lt (Nat.lt_succ_of_lt la)⟩, fr, q⟩
  · subst ex
    cases r1 with
    | cons r rr =>
      cases rr
      obtain ⟨t, rfl⟩ := r
      refine call_enumB (begins_text z t) trivial fun h' he hit hsz hk => wpAny_pyIter_enum he ?_
      have I2 : Inv X pins σ H1 { s1 with heap := h' } := I1.kept (t' := s1.toks) hk
      exact ⟨s1.heap.objs.size + 1, [s1.heap.objs.size + 1, s1.heap.objs.size], _, _, H1, rfl, I2, turn_enumS z t (s1.heap.objs.size + 1) s1.heap.objs.size, ⟨⟨.none, he⟩, ⟨_, hit, rfl, rfl⟩, Nat.succ_ne_self _⟩, fr, q⟩
theorem walk_enumS {z : Str} : Walk (IteS z) z.cps.size (fun _ => True) (fun i H v H' => ∃ T c, v = .ref T ∧ H T = none ∧ H' = upd H T (.tup [.int (i : Nat), .str ⟨#[c]⟩]) ∧ z.cps[i]? = some c) :=
  ⟨fun i _ hi _ => hi, fun _ _ => rfl, fun i H v H' _ _ y => y⟩
end Ps
namespace Ps
open PySem PySem.Spec PyProof.Rows L2
inductive D where
  | non
  | bl (b : Bool)
  | int (i : Int)
  | str (s : Str)
  | adr (a : Addr)
  | ty (n : String)
  | scr (ns : List Int)
  | lst (ds : List D)
  | tup (ds : List D)
  | dic (kvs : List (Key × D))
  | obj (C : Addr) (fs : List (Str × D))
  | exc (C : Addr) (fs : List (Str × D))
  | dcl (w : World) (kvs : List (Leaf × D))
  | dct (w : World) (kvs : List (List Leaf × D))
def TupAt (K : PySem.W.Frag) (G : Hp) (a : Addr) (vs : List V) : Prop := G a = some (.tup vs) ∨
  ∃ (o : Obj) (its : Array Value) (n : Nat), K.lookup a = some o ∧ o.cls = .type "tuple" ∧ o.data = .seq its n ∧ its.size ≤ sizeLine ∧ Vals vs its.toList
theorem TupAt.sq {K : PySem.W.Frag} {G : Hp} {a : Addr} {vs : List V} (h : TupAt K G a vs) : SqT K G a vs := h.elim (fun h => SqT.of h) fun h => .inr h
theorem TupAt.mono {K : PySem.W.Frag} {G G' : Hp} {a : Addr} {vs : List V} (s : Same G G') (h : TupAt K G a vs) : TupAt K G' a vs := h.elim (fun h => .inl (s _ _ h)) fun h => .inr h
def lfV : Leaf → V
  | .none => .non
  | .num i => .int i
  | .text x => .str x
def lfD : Leaf → D
  | .none => .non
  | .num i => .int i
  | .text x => .str x
def noBl : Value → Bool
  | .bool _ => false
  | _ => true
def cellIs (k : Leaf) (v : Value) : Bool := Leaf.isOf k v && noBl v
theorem cellIs_leaf {k : Leaf} {v : Value} (h : cellIs k v = true) : Leaf.isOf k v = true := (Bool.and_eq_true _ _ ▸ h).1
def cellKind (prog : Program) (w : World) : KeyKind prog w Leaf where
  is := cellIs
  hash := (leafKind prog w).hash
  inj := fun v a b ha hb => (leafKind prog w).inj v a b (cellIs_leaf ha) (cellIs_leaf hb)
  byValue := fun k v h => (leafKind prog w).byValue k v (cellIs_leaf h)
  pyHash := fun hv h => (leafKind prog w).pyHash (cellIs_leaf hv) h
  eqBool := fun hu hv h => (leafKind prog w).eqBool (cellIs_leaf hu) (cellIs_leaf hv) h
  «strs» := fun k x t v h => by
    have e := (leafKind prog w).strs k x t v (cellIs_leaf h)
    have e2 : (leafKind prog w).is k v = Leaf.isOf k v := rfl
    unfold cellIs
    rw [← e2, e]
    cases v <;> first | rfl | simp [noBl] | skip
theorem cellIs_rel {k : Leaf} {v : Value} (h : cellIs k v = true) : RelV (match k with | .none => .non | .num i => .int i | .text x => .str x) v := by
  obtain ⟨h1, h2⟩ := (Bool.and_eq_true _ _).mp h
  cases k with
  | none => cases v <;> first | exact True.intro | rfl | exact absurd h1 Bool.false_ne_true
  | num i =>
    cases v with
    | int j t => exact ⟨t, by rw [of_decide_eq_true (show decide (j = i) = true from h1)]⟩
    | bool b => exact absurd h2 Bool.false_ne_true
    | _ => exact absurd h1 Bool.false_ne_true
  | text x =>
    obtain ⟨t, rfl⟩ := Value.isStrOf_shape (show Value.isStrOf x v = true from h1)
    exact ⟨t, rfl⟩
def DictL (w : World) (a : Addr) (kvs : List (Leaf × V)) (h : Heap) : Prop := kvs.length ≤ sizeLine ∧ (a == sysModules) = false ∧ ∃ (P : Program) (vs : List (Leaf × Value)), KV kvs vs ∧ h.DictOf (cellKind P w) a vs
def DL (w : World) (a : Addr) (kvs : List (Leaf × V)) : HO := .ext (DictL w a kvs)
def DictT (w : World) (a : Addr) (kvs : List ((List Leaf × Addr) × V)) (h : Heap) : Prop := kvs.length ≤ sizeLine ∧ (a == sysModules) = false ∧ ∃ (P : Program) (xs : List (List Leaf × Addr × Value)),
  Paired (fun (p : (List Leaf × Addr) × V) (q : List Leaf × Addr × Value) => p.1.1 = q.1 ∧ p.1.2 = q.2.1 ∧ RelV p.2 q.2.2) kvs xs ∧
  ∃ o es ep, h.get? a = some o ∧ o.ExactDict ∧ o.data = .dict es ep ∧ es.toList = xs.map (entryOfKey (tupleKind (cellKind P w))) ∧ (xs.map (·.1)).Nodup
def DT (w : World) (a : Addr) (kvs : List ((List Leaf × Addr) × V)) : HO := .ext (DictT w a kvs)
mutual
inductive Dd (K : PySem.W.Frag) (G : Hp) : V → D → Prop
  | non : Dd K G .non .non
  | bl (b : Bool) : Dd K G (.bl b) (.bl b)
  | int (i : Int) : Dd K G (.int i) (.int i)
  | str (x : Str) : Dd K G (.str x) (.str x)
  | adr (a : Addr) : Dd K G (.ref a) (.adr a)
  | ty (n : String) : Dd K G (.ty n) (.ty n)
  | scr {a : Addr} {ns : List Int} : SqL K G a (ns.map V.int) → Dd K G (.ref a) (.scr ns)
  | lst {a : Addr} {vs : List V} {ds : List D} : G a = some (.lst vs) → DdAll K G vs ds → Dd K G (.ref a) (.lst ds)
  | tup {a : Addr} {vs : List V} {ds : List D} : TupAt K G a vs → DdAll K G vs ds → Dd K G (.ref a) (.tup ds)
  | dic {a : Addr} {kvs : List (Key × V)} {kds : List (Key × D)} {ks : List Key} {vs : List V} {ds : List D} : G a = some (.dK kvs) → kvs.map Prod.fst = ks → kds.map Prod.fst = ks → kvs.map Prod.snd = vs → kds.map Prod.snd = ds → DdAll K G vs ds → Dd K G (.ref a) (.dic kds)
  | obj {a C dx : Addr} {fs : List (Str × V)} {gs : List (Str × D)} {ks : List Str} {vs : List V} {ds : List D} : G a = some (.ins C dx fs) → G dx = some (.own a) → fs.map Prod.fst = ks → gs.map Prod.fst = ks → fs.map Prod.snd = vs → gs.map Prod.snd = ds → DdAll K G vs ds → Dd K G (.ref a) (.obj C gs)
  | exc0 {a C : Addr} : G a = some (exv a C none) → Dd K G (.ref a) (.exc C [])
  | exc1 {a C b : Addr} {fs : List (Str × V)} {gs : List (Str × D)} {ks : List Str} {vs : List V} {ds : List D} : G a = some (exv a C (some b)) → G b = some (.xd fs) → fs.map Prod.fst = ks → gs.map Prod.fst = ks → fs.map Prod.snd = vs → gs.map Prod.snd = ds → DdAll K G vs ds → Dd K G (.ref a) (.exc C gs)
  | dcl {a : Addr} {w : World} {kvs : List (Leaf × V)} {kds : List (Leaf × D)} {ks : List Leaf} {vs : List V} {ds : List D} : G a = some (DL w a kvs) → kvs.map Prod.fst = ks → kds.map Prod.fst = ks → kvs.map Prod.snd = vs → kds.map Prod.snd = ds → DdAll K G vs ds → Dd K G (.ref a) (.dcl w kds)
  | dct {a : Addr} {w : World} {kvs : List ((List Leaf × Addr) × V)} {kds : List (List Leaf × D)} {ks : List (List Leaf)} {vs : List V} {ds : List D} : G a = some (DT w a kvs) → (kvs.map fun p => p.1.1) = ks → (∀ p ∈ kvs, G p.1.2 = some (.tup (p.1.1.map lfV))) → kds.map Prod.fst = ks → kvs.map Prod.snd = vs → kds.map Prod.snd = ds → DdAll K G vs ds → Dd K G (.ref a) (.dct w kds)
inductive DdAll (K : PySem.W.Frag) (G : Hp) : List V → List D → Prop
  | nil : DdAll K G [] []
  | cons {v : V} {vs : List V} {d : D} {ds : List D} : Dd K G v d → DdAll K G vs ds → DdAll K G (v :: vs) (d :: ds)
end
section
variable {K : PySem.W.Frag} {G G' H H' : Hp}
mutual
theorem Dd.mono (s : Same G G') : ∀ {v : V} {d : D}, Dd K G v d → Dd K G' v d
  | _, _, .non => .non
  | _, _, .bl b => .bl b
  | _, _, .int i => .int i
  | _, _, .str x => .str x
  | _, _, .adr a => .adr a
  | _, _, .ty n => .ty n
  | _, _, .scr h => .scr (same_l s h)
  | _, _, .lst h a => .lst (s _ _ h) (DdAll.mono s a)
  | _, _, .tup h a => .tup (h.mono s) (DdAll.mono s a)
  | _, _, .dic h e1 e2 e3 e4 a => .dic (s _ _ h) e1 e2 e3 e4 (DdAll.mono s a)
  | _, _, .obj h1 h2 e1 e2 e3 e4 a => .obj (s _ _ h1) (s _ _ h2) e1 e2 e3 e4 (DdAll.mono s a)
  | _, _, .dcl h e1 e2 e3 e4 a => .dcl (s _ _ h) e1 e2 e3 e4 (DdAll.mono s a)
  | _, _, .dct h e1 e0 e2 e3 e4 a => .dct (s _ _ h) e1 (fun p hp => s _ _ (e0 p hp)) e2 e3 e4 (DdAll.mono s a)
  | _, _, .exc0 h1 => .exc0 (s _ _ h1)
  | _, _, .exc1 h1 h2 e1 e2 e3 e4 a => .exc1 (s _ _ h1) (s _ _ h2) e1 e2 e3 e4 (DdAll.mono s a)
theorem DdAll.mono (s : Same G G') : ∀ {vs : List V} {ds : List D}, DdAll K G vs ds → DdAll K G' vs ds
  | _, _, .nil => .nil
  | _, _, .cons h t => .cons (Dd.mono s h) (DdAll.mono s t)
end
theorem DdAll.len : ∀ {vs : List V} {ds : List D}, DdAll K G vs ds → vs.length = ds.length
  | _, _, .nil => rfl
  | _, _, .cons _ t => by rw [List.length_cons, List.length_cons, DdAll.len t]
theorem DdAll.get : ∀ {vs : List V} {ds : List D} {i : Nat} {d : D}, DdAll K G vs ds → ds[i]? = some d → ∃ v, vs[i]? = some v ∧ Dd K G v d
  | _, _, _, _, .nil, h => by simp at h
  | _, _, 0, _, .cons h _, e => by simp at e; subst e; exact ⟨_, rfl, h⟩
  | _, _, i + 1, _, .cons _ t, e => by
    obtain ⟨v, h1, h2⟩ := DdAll.get (i := i) t (by simpa using e)
    exact ⟨v, by simpa using h1, h2⟩
theorem DdAll.getV : ∀ {vs : List V} {ds : List D} {i : Nat} {v : V}, DdAll K G vs ds → vs[i]? = some v → ∃ d, ds[i]? = some d ∧ Dd K G v d
  | _, _, _, _, .nil, h => by simp at h
  | _, _, 0, _, .cons h _, e => by simp at e; subst e; exact ⟨_, rfl, h⟩
  | _, _, i + 1, _, .cons _ t, e => by
    obtain ⟨v, h1, h2⟩ := DdAll.getV (i := i) t (by simpa using e)
    exact ⟨v, by simpa using h1, h2⟩
theorem DdAll.app : ∀ {vs ws : List V} {ds es : List D}, DdAll K G vs ds → DdAll K G ws es → DdAll K G (vs ++ ws) (ds ++ es)
  | _, _, _, _, .nil, s => s
  | _, _, _, _, .cons h t, s => .cons h (DdAll.app t s)
theorem DdAll.one {v : V} {d : D} (h : Dd K G v d) : DdAll K G [v] [d] := .cons h .nil
theorem DdAll.set : ∀ {vs : List V} {ds : List D} {v : V} {d : D} (i : Nat), DdAll K G vs ds → Dd K G v d → DdAll K G (vs.set i v) (ds.set i d)
  | _, _, _, _, _, .nil, _ => .nil
  | _, _, _, _, 0, .cons _ t, h => .cons h t
  | _, _, _, _, i + 1, .cons q t, h => .cons q (DdAll.set i t h)
theorem DdAll.take : ∀ {vs : List V} {ds : List D} (n : Nat), DdAll K G vs ds → DdAll K G (vs.take n) (ds.take n)
  | _, _, 0, _ => by simp; exact .nil
  | _, _, _ + 1, .nil => .nil
  | _, _, n + 1, .cons h t => .cons h (DdAll.take n t)
theorem DdAll.drop : ∀ {vs : List V} {ds : List D} (n : Nat), DdAll K G vs ds → DdAll K G (vs.drop n) (ds.drop n)
  | _, _, 0, r => r
  | _, _, _ + 1, .nil => .nil
  | _, _, n + 1, .cons _ t => DdAll.drop n t
theorem DdAll.rev : ∀ {vs : List V} {ds : List D}, DdAll K G vs ds → DdAll K G vs.reverse ds.reverse
  | _, _, .nil => .nil
  | _, _, .cons h t => by
    rw [List.reverse_cons, List.reverse_cons]
    exact (DdAll.rev t).app (.one h)
theorem DdAll.flat {vs : List V} {ds : List D} (h : DdAll K G vs ds) : ∀ n : Nat, DdAll K G (List.replicate n vs).flatten (List.replicate n ds).flatten
  | 0 => .nil
  | n + 1 => by rw [List.replicate_succ, List.replicate_succ, List.flatten_cons, List.flatten_cons]; exact h.app (DdAll.flat h n)
inductive OT where
  | F
  | O
  deriving DecidableEq
def OwnTop (K : PySem.W.Frag) (G : Hp) : List (Addr × HO) → V → D → Prop
  | S, v, .lst ds => ∃ a vs, v = .ref a ∧ S = [(a, .lst vs)] ∧ DdAll K G vs ds
  | S, v, .dic kds => ∃ a kvs, v = .ref a ∧ S = [(a, .dK kvs)] ∧ kvs.map Prod.fst = kds.map Prod.fst ∧ DdAll K G (kvs.map Prod.snd) (kds.map Prod.snd)
  | S, v, d => S = [] ∧ Dd K G v d
def Own (K : PySem.W.Frag) (G : Hp) : OT → List (Addr × HO) → V → D → Prop
  | .F, S, v, d => S = [] ∧ Dd K G v d
  | .O, S, v, d => OwnTop K G S v d
theorem OwnTop.mono (s : Same G G') {S : List (Addr × HO)} {v : V} {d : D} (h : OwnTop K G S v d) : OwnTop K G' S v d := by
  cases d with
  | lst ds => obtain ⟨a, vs, e1, e2, h⟩ := h; exact ⟨a, vs, e1, e2, h.mono s⟩
  | dic kds => obtain ⟨a, vs, e1, e2, e3, h⟩ := h; exact ⟨a, vs, e1, e2, e3, h.mono s⟩
  | _ => exact ⟨h.1, h.2.mono s⟩
theorem Own.mono (s : Same G G') {t : OT} {S : List (Addr × HO)} {v : V} {d : D} (h : Own K G t S v d) : Own K G' t S v d := by
  cases t with
  | F => exact ⟨h.1, h.2.mono s⟩
  | O => exact OwnTop.mono s h
theorem Own.freeze {t : OT} {S R : List (Addr × HO)} {v : V} {d : D} (w : Wd (S ++ R) G H) (h : Own K G t S v d) : ∃ G', Same G G' ∧ Wd R G' H ∧ Dd K G' v d := by
  cases t with
  | F =>
    obtain ⟨rfl, h⟩ := h
    exact ⟨G, Same.refl G, w, h⟩
  | O =>
    cases d with
    | lst ds =>
      obtain ⟨a, vs, rfl, rfl, h⟩ := h
      exact ⟨_, w.gsame _, w.share, .lst upd_same (h.mono (w.gsame _))⟩
    | dic kds =>
      obtain ⟨a, kvs, rfl, rfl, e, h⟩ := h
      exact ⟨_, w.gsame _, w.share, .dic upd_same e rfl rfl rfl (h.mono (w.gsame _))⟩
    | _ =>
      obtain ⟨rfl, h⟩ := h
      exact ⟨G, Same.refl G, w, h⟩
def Bo (K : PySem.W.Frag) (G : Hp) (S : List (Addr × HO)) (t : OT) (v : V) (d : D) : Prop := ∃ S', (∀ x ∈ S', x ∈ S) ∧ Own K G t S' v d
theorem Bo.mono (s : Same G G') {S S2 : List (Addr × HO)} (hs : ∀ x ∈ S, x ∈ S2) {t : OT} {v : V} {d : D} (h : Bo K G S t v d) : Bo K G' S2 t v d := by
  obtain ⟨S', h1, h2⟩ := h
  exact ⟨S', fun x hx => hs x (h1 x hx), h2.mono s⟩
inductive Tp (K : PySem.W.Frag) (G H : Hp) : V → D → Prop
  | dd {v : V} {d : D} : Dd K G v d → Tp K G H v d
  | lst {a : Addr} {vs : List V} {ds : List D} : H a = some (.lst vs) → DdAll K G vs ds → Tp K G H (.ref a) (.lst ds)
  | dic {a : Addr} {kvs : List (Key × V)} {kds : List (Key × D)} : H a = some (.dK kvs) → kvs.map Prod.fst = kds.map Prod.fst → DdAll K G (kvs.map Prod.snd) (kds.map Prod.snd) → Tp K G H (.ref a) (.dic kds)
theorem Bo.tp {S R : List (Addr × HO)} {t : OT} {v : V} {d : D} (w : Wd (S ++ R) G H) (h : Bo K G S t v d) : Tp K G H v d := by
  obtain ⟨S', h1, h2⟩ := h
  have hm : ∀ x ∈ S', H x.1 = some x.2 := fun x hx => w.mem (List.mem_append_left _ (h1 x hx))
  cases t with
  | F => exact .dd h2.2
  | O =>
    cases d with
    | lst ds =>
      obtain ⟨a, vs, rfl, rfl, h⟩ := h2
      exact .lst (hm _ List.mem_cons_self) h
    | dic kds =>
      obtain ⟨a, kvs, rfl, rfl, e, h⟩ := h2
      exact .dic (hm _ List.mem_cons_self) e h
    | _ => exact .dd h2.2
theorem Tp.deep {v : V} {d : D} (s : Same G H) (h : Tp K G H v d) : Dd K H v d := by
  cases h with
  | dd h => exact h.mono s
  | lst h1 h2 => exact .lst h1 (h2.mono s)
  | dic h1 h2 h3 => exact .dic h1 h2 rfl rfl rfl (h3.mono s)
theorem Tp.l {v : V} {ds : List D} (s : Same G H) (h : Tp K G H v (.lst ds)) : ∃ a vs, v = .ref a ∧ H a = some (.lst vs) ∧ DdAll K G vs ds := by
  cases h with
  | dd h => cases h with | lst h1 h2 => exact ⟨_, _, rfl, s _ _ h1, h2⟩
  | lst h1 h2 => exact ⟨_, _, rfl, h1, h2⟩
theorem Tp.t {v : V} {ds : List D} (s : Same G H) (h : Tp K G H v (.tup ds)) : ∃ a vs, v = .ref a ∧ TupAt K G a vs ∧ SqT K H a vs ∧ DdAll K G vs ds := by
  cases h with
  | dd h => cases h with | tup h1 h2 => exact ⟨_, _, rfl, h1, same_t s h1.sq, h2⟩
theorem Tp.dk {v : V} {kds : List (Key × D)} (s : Same G H) (h : Tp K G H v (.dic kds)) : ∃ a kvs, v = .ref a ∧ H a = some (.dK kvs) ∧ kvs.map Prod.fst = kds.map Prod.fst ∧ DdAll K G (kvs.map Prod.snd) (kds.map Prod.snd) := by
  cases h with
  | dd h => cases h with | dic h1 e1 e2 e3 e4 h2 => exact ⟨_, _, rfl, s _ _ h1, by rw [e1, e2], by rw [e3, e4]; exact h2⟩
  | dic h1 h2 h3 => exact ⟨_, _, rfl, h1, h2, h3⟩
def D.sc : D → Bool
  | .non | .bl _ | .int _ | .str _ | .ty _ | .adr _ => true
  | _ => false
theorem Tp.s {v : V} {d : D} (h : Tp K G H v d) (e : d.sc = true) : Dd K G v d := by
  cases h with
  | dd h => exact h
  | lst _ _ => cases e
  | dic _ _ _ => cases e
abbrev Env := List (Option D)
inductive Slots (K : PySem.W.Frag) (G : Hp) : List OT → List (Addr × HO) → Env → L2.St → Prop
  | nil : Slots K G [] [] [] []
  | no {t : OT} {Γ : List OT} {S : List (Addr × HO)} {env : Env} {o : Option V} {σ : L2.St} : Slots K G Γ S env σ → Slots K G (t :: Γ) S (none :: env) (o :: σ)
  | yes {t : OT} {Γ : List OT} {S1 S : List (Addr × HO)} {env : Env} {d : D} {v : V} {σ : L2.St} : Own K G t S1 v d → Slots K G Γ S env σ → Slots K G (t :: Γ) (S1 ++ S) (some d :: env) (some v :: σ)
variable {Γ : List OT} {S S1 S2 R : List (Addr × HO)} {env : Env} {σ : L2.St}
theorem Slots.mono (s : Same G G') (h : Slots K G Γ S env σ) : Slots K G' Γ S env σ := by
  induction h with
  | nil => exact .nil
  | no _ ih => exact .no ih
  | yes h _ ih => exact .yes (h.mono s) ih
theorem Slots.len (h : Slots K G Γ S env σ) : σ.length = env.length ∧ Γ.length = env.length := by
  induction h with
  | nil => exact ⟨rfl, rfl⟩
  | no _ ih => exact ⟨by simp [ih.1], by simp [ih.2]⟩
  | yes _ _ ih => exact ⟨by simp [ih.1], by simp [ih.2]⟩
theorem Slots.at (h : Slots K G Γ S env σ) : ∀ {i : Nat} {d : D} {t : OT}, env[i]? = some (some d) → Γ[i]? = some t → ∃ v S1 S2 S3, σ[i]? = some (some v) ∧ S = S1 ++ (S2 ++ S3) ∧ Own K G t S2 v d ∧
    ∀ (G' : Hp) (S2' : List (Addr × HO)) (t' : OT) (o' : Option D) (v' : Option V), Same G G' → ((o' = none ∧ S2' = []) ∨ ∃ d' v'', o' = some d' ∧ v' = some v'' ∧ Own K G' t' S2' v'' d') → Slots K G' (Γ.set i t') (S1 ++ (S2' ++ S3)) (env.set i o') (σ.set i v') := by
  induction h with
  | nil => intro i d t h1 h2; simp at h1
  | @no t0 Γ S env o σ h ih =>
    intro i d t h1 h2
    cases i with
    | zero => simp at h1
    | succ i =>
      obtain ⟨v, S1, S2, S3, e1, e2, e3, e4⟩ := ih (i := i) (by simpa using h1) (by simpa using h2)
      refine ⟨v, S1, S2, S3, by simpa using e1, e2, e3, fun G' S2' t' o' v' s q => ?_⟩
      rw [List.set_cons_succ, List.set_cons_succ, List.set_cons_succ]
      exact .no (e4 G' S2' t' o' v' s q)
  | @yes t0 Γ S1 S env d0 v0 σ h hs ih =>
    intro i d t h1 h2
    cases i with
    | zero =>
      simp at h1 h2
      subst h1; subst h2
      refine ⟨v0, [], S1, S, rfl, rfl, h, fun G' S2' t' o' v' s q => ?_⟩
      rw [List.set_cons_zero, List.set_cons_zero, List.set_cons_zero]
      rcases q with ⟨rfl, rfl⟩ | ⟨d', v'', rfl, rfl, q⟩
      · exact .no (hs.mono s)
      · exact (Slots.yes (S := S) q (hs.mono s))
    | succ i =>
      obtain ⟨v, T1, T2, T3, e1, e2, e3, e4⟩ := ih (i := i) (by simpa using h1) (by simpa using h2)
      refine ⟨v, S1 ++ T1, T2, T3, by simpa using e1, by rw [e2, List.append_assoc], e3, fun G' S2' t' o' v' s q => ?_⟩
      rw [List.set_cons_succ, List.set_cons_succ, List.set_cons_succ, List.append_assoc]
      exact .yes (h.mono s) (e4 G' S2' t' o' v' s q)
theorem Slots.put (h : Slots K G Γ S env σ) : ∀ {i : Nat}, i < env.length → ∃ S1 S2 S3, S = S1 ++ (S2 ++ S3) ∧
    ∀ (G' : Hp) (S2' : List (Addr × HO)) (t' : OT) (o' : Option D) (v' : Option V), Same G G' → ((o' = none ∧ S2' = []) ∨ ∃ d' v'', o' = some d' ∧ v' = some v'' ∧ Own K G' t' S2' v'' d') → Slots K G' (Γ.set i t') (S1 ++ (S2' ++ S3)) (env.set i o') (σ.set i v') := by
  induction h with
  | nil => intro i hi; simp at hi
  | @no t0 Γ S env o σ h ih =>
    intro i hi
    cases i with
    | zero =>
      refine ⟨[], [], S, rfl, fun G' S2' t' o' v' s q => ?_⟩
      rw [List.set_cons_zero, List.set_cons_zero, List.set_cons_zero]
      rcases q with ⟨rfl, rfl⟩ | ⟨d', v'', rfl, rfl, q⟩
      · exact .no (h.mono s)
      · exact (Slots.yes (S := S) q (h.mono s))
    | succ i =>
      obtain ⟨S1, S2, S3, e2, e4⟩ := ih (i := i) (by simpa using hi)
      refine ⟨S1, S2, S3, e2, fun G' S2' t' o' v' s q => ?_⟩
      rw [List.set_cons_succ, List.set_cons_succ, List.set_cons_succ]
      exact .no (e4 G' S2' t' o' v' s q)
  | @yes t0 Γ S1 S env d0 v0 σ h hs ih =>
    intro i hi
    cases i with
    | zero =>
      refine ⟨[], S1, S, rfl, fun G' S2' t' o' v' s q => ?_⟩
      rw [List.set_cons_zero, List.set_cons_zero, List.set_cons_zero]
      rcases q with ⟨rfl, rfl⟩ | ⟨d', v'', rfl, rfl, q⟩
      · exact .no (hs.mono s)
      · exact (Slots.yes (S := S) q (hs.mono s))
    | succ i =>
      obtain ⟨T1, T2, T3, e2, e4⟩ := ih (i := i) (by simpa using hi)
      refine ⟨S1 ++ T1, T2, T3, by rw [e2, List.append_assoc], fun G' S2' t' o' v' s q => ?_⟩
      rw [List.set_cons_succ, List.set_cons_succ, List.set_cons_succ, List.append_assoc]
      exact .yes (h.mono s) (e4 G' S2' t' o' v' s q)
end
abbrev Sto := Addr → Option D
def emp : Sto := fun _ => none
def sput (s : Sto) (a : Addr) (d : D) : Sto := fun b => if b = a then some d else s b
theorem sput_same {s : Sto} {a : Addr} {d : D} : sput s a d a = some d := if_pos rfl
theorem sput_ne {s : Sto} {a b : Addr} {d : D} (h : b ≠ a) : sput s a d b = s b := if_neg h
abbrev Mst := Option (Addr × Nat) × Sto
def AmbD : Option (Addr × Nat) → List (Addr × HO) → Prop
  | none, C => C = []
  | some (a, m), C => ∃ (c : Addr) (t : Int) (ns : List Int), C = [(a, stD c t), (c, .lst (ns.map V.int))] ∧ 0 < ns.length ∧ 0 ≤ t ∧ t + m ≤ 2 ^ 50
def Cell (K : PySem.W.Frag) (G : Hp) (a : Addr) : D → List (Addr × HO) → Prop
  | .lst ds, C => ∃ vs, C = [(a, .lst vs)] ∧ DdAll K G vs ds
  | .dic kds, C => ∃ kvs, C = [(a, .dK kvs)] ∧ kvs.map Prod.fst = kds.map Prod.fst ∧ DdAll K G (kvs.map Prod.snd) (kds.map Prod.snd)
  | .obj Cl gs, C => ∃ dx fs, C = [(a, .ins Cl dx fs), (dx, .own a)] ∧ fs.map Prod.fst = gs.map Prod.fst ∧ DdAll K G (fs.map Prod.snd) (gs.map Prod.snd)
  | .dcl w kds, C => ∃ kvs, C = [(a, DL w a kvs)] ∧ kvs.map Prod.fst = kds.map Prod.fst ∧ DdAll K G (kvs.map Prod.snd) (kds.map Prod.snd)
  | .dct w kds, C => ∃ kvs, C = [(a, DT w a kvs)] ∧ (kvs.map fun p => p.1.1) = kds.map Prod.fst ∧ (∀ p ∈ kvs, G p.1.2 = some (.tup (p.1.1.map lfV))) ∧ DdAll K G (kvs.map Prod.snd) (kds.map Prod.snd)
  | _, _ => False
inductive Cells (K : PySem.W.Frag) (G : Hp) : List (Addr × D) → List (Addr × HO) → Prop
  | nil : Cells K G [] []
  | cons {a : Addr} {d : D} {L : List (Addr × D)} {C1 C2 : List (Addr × HO)} : Cell K G a d C1 → Cells K G L C2 → Cells K G ((a, d) :: L) (C1 ++ C2)
def StoC (K : PySem.W.Frag) (G : Hp) (s : Sto) (C : List (Addr × HO)) : Prop := ∃ L : List (Addr × D), (∀ a, s a = L.lookup a) ∧ Cells K G L C
def Amb (K : PySem.W.Frag) (G : Hp) (m : Mst) (C : List (Addr × HO)) : Prop := ∃ C1 C2, C = C1 ++ C2 ∧ AmbD m.1 C1 ∧ StoC K G m.2 C2
theorem Cell.mono {K : PySem.W.Frag} {G G' : Hp} {a : Addr} {d : D} {C : List (Addr × HO)} (s : Same G G') (h : Cell K G a d C) : Cell K G' a d C := by
  cases d with
  | lst ds => obtain ⟨vs, e, q⟩ := h; exact ⟨vs, e, q.mono s⟩
  | dic ds => obtain ⟨vs, e, e2, q⟩ := h; exact ⟨vs, e, e2, q.mono s⟩
  | obj Cl ds => obtain ⟨dx, vs, e, e2, q⟩ := h; exact ⟨dx, vs, e, e2, q.mono s⟩
  | dcl w ds => obtain ⟨vs, e, e2, q⟩ := h; exact ⟨vs, e, e2, q.mono s⟩
  | dct w ds => obtain ⟨vs, e, e2, e3, q⟩ := h; exact ⟨vs, e, e2, fun p hp => s _ _ (e3 p hp), q.mono s⟩
  | _ => exact h.elim
theorem Cells.mono {K : PySem.W.Frag} {G G' : Hp} {L : List (Addr × D)} {C : List (Addr × HO)} (s : Same G G') (h : Cells K G L C) : Cells K G' L C := by
  induction h with
  | nil => exact .nil
  | cons h _ ih => exact .cons (h.mono s) ih
theorem Amb.mono {K : PySem.W.Frag} {G G' : Hp} {m : Mst} {C : List (Addr × HO)} (s : Same G G') (h : Amb K G m C) : Amb K G' m C := by
  obtain ⟨C1, C2, e, a, L, l, c⟩ := h
  exact ⟨C1, C2, e, a, L, l, c.mono s⟩
theorem Amb.none {K : PySem.W.Frag} {G : Hp} : Amb K G (none, emp) [] := ⟨[], [], rfl, rfl, [], fun _ => rfl, .nil⟩
theorem Cells.nil_of {K : PySem.W.Frag} {G : Hp} {L : List (Addr × D)} {C : List (Addr × HO)} (h : Cells K G L C) (e : ∀ a, L.lookup a = Option.none) : L = [] ∧ C = [] := by
  cases h with
  | nil => exact ⟨rfl, rfl⟩
  | @cons a d L C1 C2 _ _ =>
    have q := e a
    rw [List.lookup_cons, beq_self_eq_true] at q
    cases q
theorem Amb.none_inv {K : PySem.W.Frag} {G : Hp} {C : List (Addr × HO)} (h : Amb K G (Option.none, emp) C) : C = [] := by
  obtain ⟨C1, C2, rfl, a, L, l, c⟩ := h
  obtain rfl : C1 = [] := a
  exact (c.nil_of fun a => (l a).symm).2
structure JC where
  K : PySem.W.Frag
  R : List (Addr × HO)
  G0 : Hp
def Stx (c : JC) (Γ : List OT) (G H : Hp) (S1 S : List (Addr × HO)) (env : Env) (σ : L2.St) (m : Mst) : Prop :=
  Same c.G0 G ∧ ∃ C, Wd (S1 ++ (S ++ (C ++ c.R))) G H ∧ Amb c.K G m C ∧ Slots c.K G Γ S env σ
abbrev Stt (c : JC) (Γ : List OT) (G H : Hp) (S : List (Addr × HO)) (env : Env) (σ : L2.St) (m : Mst) : Prop := Stx c Γ G H [] S env σ m
section
variable {c : JC} {Γ : List OT} {G G' H H' : Hp} {S S1 S2 R : List (Addr × HO)} {env : Env} {σ : L2.St} {m : Mst} {t : OT} {d : D} {p : Addr} {o : HO}
theorem Wd.dropL {A B : List (Addr × HO)} (w : Wd (A ++ B) G H) : Wd B G H := ⟨w.1, fun y hy => w.2.1 y (List.mem_append_right _ hy), by
  have h := w.2.2
  rw [List.map_append] at h
  exact (List.nodup_append.mp h).2.1⟩
theorem Wd.dropM {A B C : List (Addr × HO)} (w : Wd (A ++ (B ++ C)) G H) : Wd (A ++ C) G H :=
  (w.perm (B := B ++ (A ++ C)) (by rw [← List.append_assoc, ← List.append_assoc]; exact List.Perm.append_right _ List.perm_append_comm)).dropL
theorem Stx.drop (h : Stx c Γ G H S1 S env σ m) : Stt c Γ G H S env σ m := by
  obtain ⟨s, C, w, a, z⟩ := h
  exact ⟨s, C, w.dropL, a, z⟩
theorem Stx.v (h : Stx c Γ G H S1 S env σ m) : Same G H := by
  obtain ⟨s, C, w, a, z⟩ := h
  exact w.v
theorem Stx.len (h : Stx c Γ G H S1 S env σ m) : σ.length = env.length ∧ Γ.length = env.length := by
  obtain ⟨s, C, w, a, z⟩ := h
  exact z.len
theorem Stx.new (h : Stx c Γ G H S1 S env σ m) (hp : H p = none) : Stx c Γ G (upd H p o) ((p, o) :: S1) S env σ m := by
  obtain ⟨s, C, w, a, z⟩ := h
  exact ⟨s, C, w.own hp, a, z⟩
theorem Stx.newS (h : Stx c Γ G H S1 S env σ m) (hp : H p = none) : Stx c Γ (upd G p o) (upd H p o) S1 S env σ m ∧ Same G (upd G p o) := by
  obtain ⟨s, C, w, a, z⟩ := h
  have g := Grow.new (o := o) w.v hp
  exact ⟨⟨s.trans g.gg, C, w.grow g, a.mono g.gg, z.mono g.gg⟩, g.gg⟩
theorem Stx.freeze {v : V} (h : Stx c Γ G H (S2 ++ S1) S env σ m) (q : Own c.K G t S2 v d) : ∃ G', Same G G' ∧ Stx c Γ G' H S1 S env σ m ∧ Dd c.K G' v d := by
  obtain ⟨s, C, w, a, z⟩ := h
  rw [List.append_assoc] at w
  obtain ⟨G', s', w', q'⟩ := q.freeze w
  exact ⟨G', s', ⟨s.trans s', C, w', a.mono s', z.mono s'⟩, q'⟩
def leO : OT → OT → Bool
  | .O, _ => true
  | .F, .F => true
  | .F, .O => false
theorem Slots.weak {Ga : Hp} (h : Slots c.K Ga Γ S env σ) : ∀ {Γ' : List OT} {R : List (Addr × HO)} {G : Hp}, Same Ga G → Γ'.length = Γ.length → (Γ.zip Γ').all (fun p => leO p.1 p.2) = true → Wd (S ++ R) G H → ∃ G' S', Same G G' ∧ Wd (S' ++ R) G' H ∧ Slots c.K G' Γ' S' env σ := by
  induction h with
  | nil =>
    intro Γ' R G s hl hz w
    cases Γ' with
    | nil => exact ⟨G, [], Same.refl G, w, .nil⟩
    | cons _ _ => simp at hl
  | @no t0 Γ S env o σ h ih =>
    intro Γ' R G s hl hz w
    cases Γ' with
    | nil => simp at hl
    | cons t' Γ' =>
      rw [List.zip_cons_cons, List.all_cons, Bool.and_eq_true] at hz
      obtain ⟨G', S', s, w', q⟩ := ih s (by simpa using hl) hz.2 w
      exact ⟨G', S', s, w', .no q⟩
  | @yes t0 Γ S1 S env d0 v0 σ h hs ih =>
    intro Γ' R G s hl hz w
    cases Γ' with
    | nil => simp at hl
    | cons t' Γ' =>
      rw [List.zip_cons_cons, List.all_cons, Bool.and_eq_true] at hz
      rw [List.append_assoc] at w
      by_cases e : t0 = t'
      · subst e
        have w2 : Wd (S ++ (S1 ++ R)) G H := w.perm (by rw [← List.append_assoc, ← List.append_assoc]; exact List.Perm.append_right _ List.perm_append_comm)
        obtain ⟨G', S', s', w', q⟩ := ih s (by simpa using hl) hz.2 w2
        exact ⟨G', S1 ++ S', s', w'.perm (by rw [← List.append_assoc]; exact List.Perm.append_right _ List.perm_append_comm), .yes (h.mono (s.trans s')) q⟩
      · have et : t' = .F := by
          cases t0 <;> cases t' <;> first | rfl | exact absurd rfl e | cases hz.1
        subst et
        obtain ⟨G1, s1, w1, q1⟩ := (h.mono s).freeze w
        obtain ⟨G', S', s', w', q⟩ := ih (s.trans s1) (by simpa using hl) hz.2 w1
        exact ⟨G', S', s1.trans s', w', .yes (S1 := []) ⟨rfl, q1.mono s'⟩ q⟩
end
end Ps
namespace Ps
open PySem PySem.Spec PyProof.Rows L2
abbrev VE := Env → Mst → (D → Mst → Prop) → Prop
abbrev VT := Env → Mst → (Bool → Mst → Prop) → Prop
abbrev VA := Env → Mst → (List D → Mst → Prop) → Prop
structure VEnds where
  nx : Env → Mst → Prop
  rt : D → Mst → Prop
  bk : Env → Mst → Prop := fun _ _ => False
  ct : Env → Mst → Prop := fun _ _ => False
abbrev VS := VEnds → Env → Mst → Prop
abbrev XV := Addr → List (Str × D) → Mst → Prop
abbrev XW := Addr → List (Str × D) → Env → Mst → Prop
abbrev VSp := List D → Mst → (D → Mst → Prop) → XV → Prop
def ExcAt (K : PySem.W.Frag) (G : Hp) (d : Option Addr) (fs : List (Str × D)) : Prop :=
  (d = none ∧ fs = []) ∨ ∃ b xs, d = some b ∧ G b = some (.xd xs) ∧ xs.map Prod.fst = fs.map Prod.fst ∧ DdAll K G (xs.map Prod.snd) (fs.map Prod.snd)
def spV (K : PySem.W.Frag) (t : OT) (vsp : VSp) : Sp := fun vs H Q E => ∃ (ds : List D) (G : Hp) (R C : List (Addr × HO)) (m : Mst) (P : D → Mst → Prop) (X : XV), Wd (C ++ R) G H ∧ Amb K G m C ∧ DdAll K G vs ds ∧ vsp ds m P X ∧
  (∀ d m' v H' G' S1 C', P d m' → Same G G' → Wd (S1 ++ (C' ++ R)) G' H' → Amb K G' m' C' → Own K G' t S1 v d → Q v H') ∧
  ∀ c fs m' dd H' G' C', X c fs m' → Same G G' → Wd (C' ++ R) G' H' → Amb K G' m' C' → ExcAt K G' dd fs → E (.ref c) dd H'
section
variable (c : JC) (Γ : List OT)
def SF (te : TE) (ve : VE) : Prop := ∀ (T : List (Addr × HO)) (G H : Hp) (S : List (Addr × HO)) (env : Env) (σ : L2.St) (m : Mst) (P : D → Mst → Prop) (Q : VK), Stx c Γ G H T S env σ m → ve env m P →
  (∀ d m' v G' H', P d m' → Same G G' → Stx c Γ G' H' T S env σ m' → Dd c.K G' v d → Q v H') → te σ H Q
def SO (te : TE) (ve : VE) : Prop := ∀ (T : List (Addr × HO)) (G H : Hp) (S : List (Addr × HO)) (env : Env) (σ : L2.St) (m : Mst) (P : D → Mst → Prop) (Q : VK), Stx c Γ G H T S env σ m → ve env m P →
  (∀ d m' v G' H' S1, P d m' → Same G G' → Stx c Γ G' H' (S1 ++ T) S env σ m' → OwnTop c.K G' S1 v d → Q v H') → te σ H Q
def SB (te : TE) (ve : VE) : Prop := ∀ (T : List (Addr × HO)) (G H : Hp) (S : List (Addr × HO)) (env : Env) (σ : L2.St) (m : Mst) (P : D → Mst → Prop) (Q : VK), Stx c Γ G H T S env σ m → ve env m P →
  (∀ d m' v G' H' S1, P d m' → Same G G' → Stx c Γ G' H' (S1 ++ T) S env σ m' → (∃ t, Bo c.K G' (S1 ++ S) t v d) → Q v H') → te σ H Q
def ST (tt : TT) (vt : VT) : Prop := ∀ (T : List (Addr × HO)) (G H : Hp) (S : List (Addr × HO)) (env : Env) (σ : L2.St) (m : Mst) (P : Bool → Mst → Prop) (Q : Bool → Hp → Prop), Stx c Γ G H T S env σ m → vt env m P →
  (∀ b m' G' H' S1, P b m' → Same G G' → Stx c Γ G' H' (S1 ++ T) S env σ m' → Q b H') → tt σ H Q
inductive BoAll (K : PySem.W.Frag) (G : Hp) (S : List (Addr × HO)) : List V → List D → Prop
  | nil : BoAll K G S [] []
  | cons {v : V} {d : D} {vs : List V} {ds : List D} : (∃ t, Bo K G S t v d) → BoAll K G S vs ds → BoAll K G S (v :: vs) (d :: ds)
def SA (ta : TA) (va : VA) : Prop := ∀ (T : List (Addr × HO)) (G H : Hp) (S : List (Addr × HO)) (env : Env) (σ : L2.St) (m : Mst) (P : List D → Mst → Prop) (Q : List V → Hp → Prop), Stx c Γ G H T S env σ m → va env m P →
  (∀ ds m' vs G' H' S1, P ds m' → Same G G' → Stx c Γ G' H' (S1 ++ T) S env σ m' → BoAll c.K G' (S1 ++ S) vs ds → Q vs H') → ta σ H Q
def SG (ta : TA) (va : VA) : Prop := ∀ (T : List (Addr × HO)) (G H : Hp) (S : List (Addr × HO)) (env : Env) (σ : L2.St) (m : Mst) (P : List D → Mst → Prop) (Q : List V → Hp → Prop), Stx c Γ G H T S env σ m → va env m P →
  (∀ ds m' vs G' H', P ds m' → Same G G' → Stx c Γ G' H' T S env σ m' → DdAll c.K G' vs ds → Q vs H') → ta σ H Q
def ExOk (W : WX) (VW : XW) : Prop := ∀ (G H : Hp) (S : List (Addr × HO)) (env : Env) (σ : L2.St) (m : Mst) (C : Addr) (fs : List (Str × D)) (d : Option Addr), Stt c Γ G H S env σ m → ExcAt c.K G d fs → VW C fs env m → W (.ref C) d σ H
end
def vVar (i : Nat) : VE := fun env m P => ∃ d, env[i]? = some (some d) ∧ P d m
def vC (d : D) : VE := fun _ m P => P d m
def vNil : VA := fun _ m P => P [] m
def vCons (ve : VE) (va : VA) : VA := fun env m P => ve env m fun d m1 => va env m1 fun ds m2 => P (d :: ds) m2
def vOp (f : D → D → (D → Prop) → Prop) (va vb : VE) : VE := fun env m P => va env m fun x m1 => vb env m1 fun y m2 => f x y fun z => P z m2
def vUn (f : D → (D → Prop) → Prop) (va : VE) : VE := fun env m P => va env m fun x m1 => f x fun z => P z m1
def vCB (f : List D → (D → Prop) → Prop) (va : VA) : VE := fun env m P => va env m fun xs m1 => f xs fun z => P z m1
def vLst (va : VA) : VE := fun env m P => va env m fun xs m1 => xs.length ≤ sizeLine ∧ P (.lst xs) m1
def vTup (va : VA) : VE := fun env m P => va env m fun xs m1 => xs.length ≤ sizeLine ∧ P (.tup xs) m1
def vIfE (vt : VT) (va vb : VE) : VE := fun env m P => vt env m fun b m1 => if b = true then va env m1 P else vb env m1 P
def vAndV (va vb : VE) : VE := fun env m P => va env m fun x m1 => ∃ b, x = .bl b ∧ if b = true then vb env m1 P else P (.bl false) m1
def vOrV (va vb : VE) : VE := fun env m P => va env m fun x m1 => ∃ b, x = .bl b ∧ if b = true then P (.bl true) m1 else vb env m1 P
def vNotV (va : VE) : VE := fun env m P => va env m fun x m1 => ∃ b, x = .bl b ∧ P (.bl (!b)) m1
def vChain (f g : D → D → (D → Prop) → Prop) (va vb vc : VE) : VE := fun env m P => va env m fun x m1 => vb env m1 fun y m2 => f x y fun z => ∃ b, z = .bl b ∧ if b = true then vc env m2 fun w m3 => g y w fun u => P u m3 else P (.bl false) m2
def vTest (ve : VE) : VT := fun env m P => ve env m fun x m1 => ∃ b, x = .bl b ∧ P b m1
def truD : D → (Bool → Mst → Prop) → Mst → Prop
  | .non, P, m1 => P false m1
  | .bl b, P, m1 => P b m1
  | .int i, P, m1 => P (i != 0) m1
  | .str z, P, m1 => z.length ≤ sizeLine ∧ P ((z.length : Int) != 0) m1
  | .lst ds, P, m1 => P (!ds.isEmpty) m1
  | .tup ds, P, m1 => P (!ds.isEmpty) m1
  | .dic kds, P, m1 => P (!kds.isEmpty) m1
  | _, _, _ => False
def vTru (ve : VE) : VT := fun env m P => ve env m fun x m1 => truD x P m1
def vAnd (a b : VT) : VT := fun env m P => a env m fun x m1 => if x = true then b env m1 P else P false m1
def vOr (a b : VT) : VT := fun env m P => a env m fun x m1 => if x = true then P true m1 else b env m1 P
def vNot (a : VT) : VT := fun env m P => a env m fun x m1 => P (!x) m1
def vYes : VT := fun _ m P => P true m
def vCall (vsp : VSp) (va : VA) : VE := fun env m P => va env m fun ds m1 => vsp ds m1 P fun _ _ _ => False
def vCallS (vsp : VSp) (VW : XW) (va : VA) : VE := fun env m P => va env m fun ds m1 => vsp ds m1 P fun C fs m2 => VW C fs env m2
section
variable {c : JC} {Γ : List OT} {G G' H H' : Hp} {T S S1 S2 R : List (Addr × HO)} {env : Env} {σ : L2.St} {m : Mst} {t : OT} {v : V} {d : D} {p : Addr} {o : HO} {i : Nat}
theorem Stx.dropT (st : Stx c Γ G H (S1 ++ T) S env σ m) : Stx c Γ G H T S env σ m := by
  obtain ⟨s, C, w, a, z⟩ := st
  exact ⟨s, C, by rw [List.append_assoc] at w; exact w.dropL, a, z⟩
theorem bo_sub {K : PySem.W.Frag} {A B : List (Addr × HO)} (s : Same G G') (hs : ∀ x ∈ A, x ∈ B) (h : ∃ t, Bo K G A t v d) : ∃ t, Bo K G' B t v d := h.elim fun t h => ⟨t, h.mono s hs⟩
theorem bo_tp (h : Stx c Γ G H T S env σ m) (b : ∃ t, Bo c.K G (T ++ S) t v d) : Tp c.K G H v d := by
  obtain ⟨s, C, w, a, z⟩ := h
  obtain ⟨t, b⟩ := b
  rw [← List.append_assoc] at w
  exact b.tp w
theorem BoAll.mono {K : PySem.W.Frag} {A B : List (Addr × HO)} (s : Same G G') (hs : ∀ x ∈ A, x ∈ B) {vs : List V} {ds : List D} (h : BoAll K G A vs ds) : BoAll K G' B vs ds := by
  induction h with
  | nil => exact .nil
  | cons h _ ih => exact .cons (bo_sub s hs h) ih
inductive TpAll (K : PySem.W.Frag) (G H : Hp) : List V → List D → Prop
  | nil : TpAll K G H [] []
  | cons {v : V} {d : D} {vs : List V} {ds : List D} : Tp K G H v d → TpAll K G H vs ds → TpAll K G H (v :: vs) (d :: ds)
theorem BoAll.tp (h : Stx c Γ G H T S env σ m) {vs : List V} {ds : List D} (b : BoAll c.K G (T ++ S) vs ds) : TpAll c.K G H vs ds := by
  induction b with
  | nil => exact .nil
  | cons b _ ih => exact .cons (bo_tp h b) ih
theorem SO.f {te : TE} {ve : VE} (h : SO c Γ te ve) : SF c Γ te ve := fun T G H S env σ m P Q st hv k =>
  h T G H S env σ m P Q st hv fun d m' v G' H' S1 p s st' q => by
    obtain ⟨G2, s2, st2, q2⟩ := Stx.freeze (t := .O) st' q
    exact k d m' v G2 H' p (s.trans s2) st2 q2
theorem SF.b {te : TE} {ve : VE} (h : SF c Γ te ve) : SB c Γ te ve := fun T G H S env σ m P Q st hv k =>
  h T G H S env σ m P Q st hv fun d m' v G' H' p s st' q => k d m' v G' H' [] p s st' ⟨.F, [], fun _ h => absurd h (by simp), rfl, q⟩
theorem SO.b {te : TE} {ve : VE} (h : SO c Γ te ve) : SB c Γ te ve := fun T G H S env σ m P Q st hv k =>
  h T G H S env σ m P Q st hv fun d m' v G' H' S1 p s st' q => k d m' v G' H' S1 p s st' ⟨.O, S1, fun _ h => List.mem_append_left _ h, q⟩
theorem s_varF (hi : Γ[i]? = some .F) : SF c Γ (tVar i) (vVar i) := fun T G H S env σ m P Q st hv k => by
  obtain ⟨d, e, p⟩ := hv
  obtain ⟨s, C, w, a, z⟩ := id st
  obtain ⟨v, A1, A2, A3, e1, e2, e3, e4⟩ := z.at e hi
  exact ⟨v, e1, k d m v G H p (Same.refl G) st e3.2⟩
theorem s_varB {t : OT} (hi : Γ[i]? = some t) : SB c Γ (tVar i) (vVar i) := fun T G H S env σ m P Q st hv k => by
  obtain ⟨d, e, p⟩ := hv
  obtain ⟨s, C, w, a, z⟩ := id st
  obtain ⟨v, A1, A2, A3, e1, e2, e3, e4⟩ := z.at e hi
  exact ⟨v, e1, k d m v G H [] p (Same.refl G) st ⟨t, A2, fun x hx => by
    rw [e2, List.nil_append]; exact List.mem_append_right _ (List.mem_append_left _ hx), e3⟩⟩
theorem s_non : SO c Γ (tC .non) (vC .non) := fun T G H S env σ m P Q st hv k => k .non m .non G H [] hv (Same.refl G) st ⟨rfl, .non⟩
theorem s_bl {b : Bool} : SO c Γ (tC (.bl b)) (vC (.bl b)) := fun T G H S env σ m P Q st hv k => k _ m _ G H [] hv (Same.refl G) st ⟨rfl, .bl b⟩
theorem s_int {b : Int} : SO c Γ (tC (.int b)) (vC (.int b)) := fun T G H S env σ m P Q st hv k => k _ m _ G H [] hv (Same.refl G) st ⟨rfl, .int b⟩
theorem s_str {b : Str} : SO c Γ (tC (.str b)) (vC (.str b)) := fun T G H S env σ m P Q st hv k => k _ m _ G H [] hv (Same.refl G) st ⟨rfl, .str b⟩
theorem s_ty {b : String} : SO c Γ (tC (.ty b)) (vC (.ty b)) := fun T G H S env σ m P Q st hv k => k _ m _ G H [] hv (Same.refl G) st ⟨rfl, .ty b⟩
theorem a_nil : SA c Γ tNil vNil := fun T G H S env σ m P Q st hv k => k [] m [] G H [] hv (Same.refl G) st .nil
theorem a_cons {te : TE} {ve : VE} {ta : TA} {va : VA} (h : SB c Γ te ve) (t : SA c Γ ta va) : SA c Γ (tCons te ta) (vCons ve va) := fun T G H S env σ m P Q st hv k =>
  h T G H S env σ m _ _ st hv fun d m1 v G1 H1 S1 p1 s1 st1 b1 => t (S1 ++ T) G1 H1 S env σ m1 _ _ st1 p1 fun ds m2 vs G2 H2 S2 p2 s2 st2 b2 =>
    k (d :: ds) m2 (v :: vs) G2 H2 (S2 ++ S1) p2 (s1.trans s2) (by rw [List.append_assoc]; exact st2)
      (.cons (bo_sub s2 (fun x hx => by rcases List.mem_append.mp hx with q | q <;> simp [q]) b1) (b2.mono (Same.refl _) fun x hx => by rcases List.mem_append.mp hx with q | q <;> simp [q]))
theorem g_nil : SG c Γ tNil vNil := fun T G H S env σ m P Q st hv k => k [] m [] G H hv (Same.refl G) st .nil
theorem g_cons {te : TE} {ve : VE} {ta : TA} {va : VA} (h : SF c Γ te ve) (t : SG c Γ ta va) : SG c Γ (tCons te ta) (vCons ve va) := fun T G H S env σ m P Q st hv k =>
  h T G H S env σ m _ _ st hv fun d m1 v G1 H1 p1 s1 st1 b1 => t T G1 H1 S env σ m1 _ _ st1 p1 fun ds m2 vs G2 H2 p2 s2 st2 b2 =>
    k (d :: ds) m2 (v :: vs) G2 H2 p2 (s1.trans s2) st2 (.cons (b1.mono s2) b2)
def D.im : D → Bool
  | .lst _ | .dic _ => false
  | _ => true
theorem ownTop_im {K : PySem.W.Frag} (h : Dd K G v d) (e : d.im = true) : OwnTop K G [] v d := by
  cases d <;> first | exact ⟨rfl, h⟩ | cases e
inductive Nw (K : PySem.W.Frag) (G H : Hp) : V → Hp → D → Prop
  | old {v : V} {d : D} : Dd K G v d → d.im = true → Nw K G H v H d
  | lst {p : Addr} {vs : List V} {ds : List D} : H p = none → DdAll K G vs ds → Nw K G H (.ref p) (upd H p (.lst vs)) (.lst ds)
  | tup {p : Addr} {vs : List V} {ds : List D} : H p = none → DdAll K G vs ds → Nw K G H (.ref p) (upd H p (.tup vs)) (.tup ds)
  | dic {p : Addr} {kvs : List (Key × V)} {kds : List (Key × D)} : H p = none → kvs.map Prod.fst = kds.map Prod.fst → DdAll K G (kvs.map Prod.snd) (kds.map Prod.snd) → Nw K G H (.ref p) (upd H p (.dK kvs)) (.dic kds)
theorem Nw.own (st : Stx c Γ G H T S env σ m) (n : Nw c.K G H v H' d) : ∃ G' S1, Same G G' ∧ Stx c Γ G' H' (S1 ++ T) S env σ m ∧ OwnTop c.K G' S1 v d := by
  cases n with
  | old h e => exact ⟨G, [], Same.refl G, st, ownTop_im h e⟩
  | lst hp h => exact ⟨G, [(_, _)], Same.refl G, st.new hp, _, _, rfl, rfl, h⟩
  | tup hp h =>
    obtain ⟨st', s⟩ := st.newS hp
    exact ⟨_, [], s, st', rfl, .tup (.inl upd_same) (h.mono s)⟩
  | dic hp e h => exact ⟨G, [(_, _)], Same.refl G, st.new hp, _, _, rfl, rfl, e, h⟩
theorem Stx.ext (st : Stx c Γ G H T S env σ m) {S1 : List (Addr × HO)} {G' H' : Hp} (st' : Stx c Γ G' H' (S1 ++ T) S env σ m) : Stx c Γ G' H' (S1 ++ T) S env σ m := st'
def OpV (K : PySem.W.Frag) (r : R2) (f : D → D → (D → Prop) → Prop) : Prop := ∀ (G H : Hp) (x y : V) (d e : D) (P : D → Prop) (Q : VK), Same G H → Tp K G H x d → Tp K G H y e → f d e P → (∀ z v H', P z → Nw K G H v H' z → Q v H') → r x y H Q
def OpF (K : PySem.W.Frag) (r : R2) (f : D → D → (D → Prop) → Prop) : Prop := ∀ (G H : Hp) (x y : V) (d e : D) (P : D → Prop) (Q : VK), Same G H → Tp K G H x d → Tp K G H y e → f d e P → (∀ z v, P z → Dd K G v z → Q v H) → r x y H Q
def UnV (K : PySem.W.Frag) (r : V → Hp → VK → Prop) (f : D → (D → Prop) → Prop) : Prop := ∀ (G H : Hp) (x : V) (d : D) (P : D → Prop) (Q : VK), Same G H → Tp K G H x d → f d P → (∀ z v H', P z → Nw K G H v H' z → Q v H') → r x H Q
def ClV (K : PySem.W.Frag) (r : List V → Hp → VK → Prop) (f : List D → (D → Prop) → Prop) : Prop := ∀ (G H : Hp) (xs : List V) (ds : List D) (P : D → Prop) (Q : VK), Same G H → TpAll K G H xs ds → f ds P → (∀ z v H', P z → Nw K G H v H' z → Q v H') → r xs H Q
def MtV (K : PySem.W.Frag) (T : String) (r : V → List V → Hp → VK → Prop) (f : D → List D → (D → Prop) → Prop) : Prop := ∀ (G H : Hp) (x : V) (d : D) (xs : List V) (ds : List D) (P : D → Prop) (Q : VK), Same G H → Tp K G H x d → TpAll K G H xs ds → f d ds P → (∀ z v H', P z → Nw K G H v H' z → Q v H') → r x xs H Q
theorem s_op {r : R2} {f : D → D → (D → Prop) → Prop} {ta tb : TE} {va vb : VE} (o : OpV c.K r f) (ha : SB c Γ ta va) (hb : SB c Γ tb vb) : SO c Γ (tOp r ta tb) (vOp f va vb) := fun T G H S env σ m P Q st hv k =>
  ha T G H S env σ m _ _ st hv fun x m1 v G1 H1 S1 p1 s1 st1 b1 => hb (S1 ++ T) G1 H1 S env σ m1 _ _ st1 p1 fun y m2 u G2 H2 S2 p2 s2 st2 b2 => by
    have t1 := bo_tp (T := S2 ++ (S1 ++ T)) st2 (bo_sub s2 (B := S2 ++ (S1 ++ T) ++ S) (fun x hx => by rcases List.mem_append.mp hx with q | q <;> simp [q]) b1)
    have t2 := bo_tp (T := S2 ++ (S1 ++ T)) st2 (bo_sub (Same.refl _) (B := S2 ++ (S1 ++ T) ++ S) (fun x hx => by rcases List.mem_append.mp hx with q | q <;> simp [q]) b2)
    refine o G2 H2 v u x y _ _ st2.v t1 t2 p2 fun z w H' pz n => ?_
    obtain ⟨G3, S3, s3, st3, q3⟩ := Nw.own (T := T) (by
      exact st2.dropT.dropT) n
    exact k z m2 w G3 H' S3 pz (s1.trans (s2.trans s3)) st3 q3
theorem s_opF {r : R2} {f : D → D → (D → Prop) → Prop} {ta tb : TE} {va vb : VE} (o : OpF c.K r f) (ha : SB c Γ ta va) (hb : SB c Γ tb vb) : SF c Γ (tOp r ta tb) (vOp f va vb) := fun T G H S env σ m P Q st hv k =>
  ha T G H S env σ m _ _ st hv fun x m1 v G1 H1 S1 p1 s1 st1 b1 => hb (S1 ++ T) G1 H1 S env σ m1 _ _ st1 p1 fun y m2 u G2 H2 S2 p2 s2 st2 b2 => by
    have t1 := bo_tp (T := S2 ++ (S1 ++ T)) st2 (bo_sub s2 (B := S2 ++ (S1 ++ T) ++ S) (fun x hx => by rcases List.mem_append.mp hx with q | q <;> simp [q]) b1)
    have t2 := bo_tp (T := S2 ++ (S1 ++ T)) st2 (bo_sub (Same.refl _) (B := S2 ++ (S1 ++ T) ++ S) (fun x hx => by rcases List.mem_append.mp hx with q | q <;> simp [q]) b2)
    refine o G2 H2 v u x y _ _ st2.v t1 t2 p2 fun z w pz n => ?_
    exact k z m2 w G2 H2 pz (s1.trans s2) st2.dropT.dropT n
theorem s_un {r : V → Hp → VK → Prop} {f : D → (D → Prop) → Prop} {ta : TE} {va : VE} (o : UnV c.K r f) (ha : SB c Γ ta va) : SO c Γ (tUn r ta) (vUn f va) := fun T G H S env σ m P Q st hv k =>
  ha T G H S env σ m _ _ st hv fun x m1 v G1 H1 S1 p1 s1 st1 b1 => by
    have t1 := bo_tp (T := S1 ++ T) st1 (bo_sub (Same.refl _) (B := S1 ++ T ++ S) (fun x hx => by rcases List.mem_append.mp hx with q | q <;> simp [q]) b1)
    refine o G1 H1 v x _ _ st1.v t1 p1 fun z w H' pz n => ?_
    obtain ⟨G3, S3, s3, st3, q3⟩ := Nw.own (T := T) (by
      obtain ⟨s, C, w, a, z⟩ := st1
      exact ⟨s, C, by rw [List.append_assoc] at w; exact w.dropL, a, z⟩) n
    exact k z m1 w G3 H' S3 pz (s1.trans s3) st3 q3
theorem s_cb {r : List V → Hp → VK → Prop} {f : List D → (D → Prop) → Prop} {ta : TA} {va : VA} (o : ClV c.K r f) (ha : SA c Γ ta va) : SO c Γ (tCB r ta) (vCB f va) := fun T G H S env σ m P Q st hv k =>
  ha T G H S env σ m _ _ st hv fun x m1 v G1 H1 S1 p1 s1 st1 b1 => by
    have t1 := BoAll.tp (T := S1 ++ T) st1 (b1.mono (Same.refl _) (B := S1 ++ T ++ S) (fun x hx => by rcases List.mem_append.mp hx with q | q <;> simp [q]))
    refine o G1 H1 v x _ _ st1.v t1 p1 fun z w H' pz n => ?_
    obtain ⟨G3, S3, s3, st3, q3⟩ := Nw.own (T := T) (by
      obtain ⟨s, C, w, a, z⟩ := st1
      exact ⟨s, C, by rw [List.append_assoc] at w; exact w.dropL, a, z⟩) n
    exact k z m1 w G3 H' S3 pz (s1.trans s3) st3 q3
theorem s_lst {ta : TA} {va : VA} (ha : SG c Γ ta va) : SO c Γ (tLst ta) (vLst va) := fun T G H S env σ m P Q st hv k =>
  ha T G H S env σ m _ _ st hv fun ds m1 vs G1 H1 p1 s1 st1 b1 => ⟨by rw [b1.len]; exact p1.1, fun p hp => by
    obtain ⟨G3, S3, s3, st3, q3⟩ := Nw.own st1 (.lst hp b1)
    exact k _ m1 _ G3 _ S3 p1.2 (s1.trans s3) st3 q3⟩
theorem s_tup {ta : TA} {va : VA} (ha : SG c Γ ta va) : SO c Γ (tTup ta) (vTup va) := fun T G H S env σ m P Q st hv k =>
  ha T G H S env σ m _ _ st hv fun ds m1 vs G1 H1 p1 s1 st1 b1 => ⟨by rw [b1.len]; exact p1.1, fun p hp => by
    obtain ⟨G3, S3, s3, st3, q3⟩ := Nw.own st1 (.tup hp b1)
    exact k _ m1 _ G3 _ S3 p1.2 (s1.trans s3) st3 q3⟩
theorem Dd.blInv {K : PySem.W.Frag} {b : Bool} (h : Dd K G v (.bl b)) : v = .bl b := by cases h; rfl
theorem Tp.blInv {K : PySem.W.Frag} {b : Bool} (h : Tp K G H v (.bl b)) : v = .bl b := by cases h with | dd h => exact h.blInv
theorem s_test {ta : TE} {va : VE} (ha : SB c Γ ta va) : ST c Γ (tTest ta) (vTest va) := fun T G H S env σ m P Q st hv k =>
  ha T G H S env σ m _ _ st hv fun x m1 v G1 H1 S1 p1 s1 st1 b1 => by
    obtain ⟨b, rfl, p⟩ := p1
    have t1 := bo_tp (T := S1 ++ T) st1 (bo_sub (Same.refl _) (B := S1 ++ T ++ S) (fun x hx => by rcases List.mem_append.mp hx with q | q <;> simp [q]) b1)
    exact ⟨b, t1.blInv, k b m1 G1 H1 S1 p s1 st1⟩
theorem s_and {a b : TT} {x y : VT} (ha : ST c Γ a x) (hb : ST c Γ b y) : ST c Γ (tAnd a b) (vAnd x y) := fun T G H S env σ m P Q st hv k =>
  ha T G H S env σ m _ _ st hv fun z m1 G1 H1 S1 p1 s1 st1 => by
    cases z with
    | true =>
      rw [if_pos rfl] at p1 ⊢
      exact hb (S1 ++ T) G1 H1 S env σ m1 _ _ st1 p1 fun b m2 G2 H2 S2 p2 s2 st2 => k b m2 G2 H2 (S2 ++ S1) p2 (s1.trans s2) (by rw [List.append_assoc]; exact st2)
    | false =>
      rw [if_neg Bool.false_ne_true] at p1 ⊢
      exact k _ m1 G1 H1 S1 p1 s1 st1
theorem s_or {a b : TT} {x y : VT} (ha : ST c Γ a x) (hb : ST c Γ b y) : ST c Γ (tOr a b) (vOr x y) := fun T G H S env σ m P Q st hv k =>
  ha T G H S env σ m _ _ st hv fun z m1 G1 H1 S1 p1 s1 st1 => by
    cases z with
    | true =>
      rw [if_pos rfl] at p1 ⊢
      exact k _ m1 G1 H1 S1 p1 s1 st1
    | false =>
      rw [if_neg Bool.false_ne_true] at p1 ⊢
      exact hb (S1 ++ T) G1 H1 S env σ m1 _ _ st1 p1 fun b m2 G2 H2 S2 p2 s2 st2 => k b m2 G2 H2 (S2 ++ S1) p2 (s1.trans s2) (by rw [List.append_assoc]; exact st2)
theorem s_not {a : TT} {x : VT} (ha : ST c Γ a x) : ST c Γ (tNot a) (vNot x) := fun T G H S env σ m P Q st hv k =>
  ha T G H S env σ m _ _ st hv fun z m1 G1 H1 S1 p1 s1 st1 => k (!z) m1 G1 H1 S1 p1 s1 st1
theorem s_yes : ST c Γ tYes vYes := fun T G H S env σ m P Q st hv k => k true m G H [] hv (Same.refl G) st
theorem s_tru {ta : TE} {va : VE} (ha : SB c Γ ta va) : ST c Γ (tTru c.K ta) (vTru va) := fun T G H S env σ m P Q st hv k =>
  ha T G H S env σ m _ _ st hv fun x m1 v G1 H1 S1 p1 s1 st1 b1 => by
    have t1 := bo_tp (T := S1 ++ T) st1 (bo_sub (Same.refl _) (B := S1 ++ T ++ S) (fun x hx => by rcases List.mem_append.mp hx with q | q <;> simp [q]) b1)
    have sv := st1.v
    have em : ∀ {vs : List V} {ds : List D} {G : Hp}, DdAll c.K G vs ds → vs.isEmpty = ds.isEmpty := fun h => by cases h <;> rfl
    cases x with
    | non => cases t1 with | dd h => cases h; exact ⟨false, rfl, k _ m1 G1 H1 S1 p1 s1 st1⟩
    | bl b => cases t1 with | dd h => cases h; exact ⟨b, rfl, k _ m1 G1 H1 S1 p1 s1 st1⟩
    | int b => cases t1 with | dd h => cases h; exact ⟨_, rfl, k _ m1 G1 H1 S1 p1 s1 st1⟩
    | str b => cases t1 with | dd h => cases h; exact ⟨_, ⟨p1.1, rfl⟩, k _ m1 G1 H1 S1 p1.2 s1 st1⟩
    | lst ds =>
      obtain ⟨a, vs, rfl, h1, h2⟩ := t1.l sv
      exact ⟨_, .inl ⟨vs, SqL.of h1, rfl⟩, by rw [em h2]; exact k _ m1 G1 H1 S1 p1 s1 st1⟩
    | tup ds =>
      obtain ⟨a, vs, rfl, _, h1, h2⟩ := t1.t sv
      exact ⟨_, .inr (.inl ⟨vs, h1, rfl⟩), by rw [em h2]; exact k _ m1 G1 H1 S1 p1 s1 st1⟩
    | dic kds =>
      obtain ⟨a, kvs, rfl, h1, e, h2⟩ := t1.dk sv
      have ek : kvs.isEmpty = kds.isEmpty := by
        cases kvs <;> cases kds <;> first | rfl | simp at e
      exact ⟨_, .inr (.inr ⟨kvs, h1, rfl⟩), by rw [ek]; exact k _ m1 G1 H1 S1 p1 s1 st1⟩
    | _ => exact p1.elim
end
end Ps
namespace Ps
open PySem PySem.Spec PyProof.Rows L2
abbrev VO := Env → Mst → (Option Int → Mst → Prop) → Prop
def vNoPart : VO := fun _ m P => P none m
def vPart (ve : VE) : VO := fun env m P => ve env m fun x m1 => ∃ i, x = .int i ∧ P (some i) m1
def vSl (f : D → Option Int → Option Int → (D → Prop) → Prop) (ve : VE) (vl vh : VO) : VE := fun env m P => ve env m fun x m1 => vl env m1 fun l m2 => vh env m2 fun h m3 => f x l h fun z => P z m3
def isTy : String → D → Bool
  | "str", .str _ => true
  | "list", .lst _ => true
  | "dict", .dic _ => true
  | _, _ => false
def vBMt (T : String) (f : D → List D → (D → Prop) → Prop) (ve : VE) (va : VA) : VE := fun env m P => ve env m fun x m1 => isTy T x = true ∧ va env m1 fun xs m2 => f x xs fun z => P z m2
def vBM0 (T : String) (f : D → List D → (D → Prop) → Prop) (ve : VE) : VE := fun env m P => ve env m fun x m1 => isTy T x = true ∧ f x [] fun z => P z m1
section
variable {c : JC} {Γ : List OT} {G G' H H' : Hp} {T S S1 S2 R : List (Addr × HO)} {env : Env} {σ : L2.St} {m : Mst} {v : V} {d : D}
theorem tp_ty {K : PySem.W.Frag} {T : String} (s : Same G H) (h : Tp K G H v d) (e : isTy T d = true) : tyV K T v H := by
  unfold isTy at e
  split at e
  · cases h with | dd h => cases h; rfl
  · obtain ⟨a, vs, rfl, h1, h2⟩ := h.l s; exact .inl ⟨rfl, _, SqL.of h1⟩
  · obtain ⟨a, kvs, rfl, h1, h2⟩ := h.dk s; exact .inr (.inr (.inl ⟨rfl, .inl ⟨_, h1⟩⟩))
  · cases e
theorem s_bm {T : String} {r : V → List V → Hp → VK → Prop} {f : D → List D → (D → Prop) → Prop} {te : TE} {ve : VE} {ta : TA} {va : VA} (o : MtV c.K T r f) (he : SB c Γ te ve) (ha : SA c Γ ta va) : SO c Γ (tBM c.K T r te ta) (vBMt T f ve va) := fun T' G H S env σ m P Q st hv k =>
  he T' G H S env σ m _ _ st hv fun x m1 v G1 H1 S1 p1 s1 st1 b1 => by
    have t0 := bo_tp (T := S1 ++ T') st1 (bo_sub (Same.refl _) (B := S1 ++ T' ++ S) (fun x hx => by rcases List.mem_append.mp hx with q | q <;> simp [q]) b1)
    refine ⟨tp_ty st1.v t0 p1.1, ha (S1 ++ T') G1 H1 S env σ m1 _ _ st1 p1.2 fun xs m2 vs G2 H2 S2 p2 s2 st2 b2 => ?_⟩
    have t1 := bo_tp (T := S2 ++ (S1 ++ T')) st2 (bo_sub s2 (B := S2 ++ (S1 ++ T') ++ S) (fun x hx => by rcases List.mem_append.mp hx with q | q <;> simp [q]) b1)
    have t2 := BoAll.tp (T := S2 ++ (S1 ++ T')) st2 (b2.mono (Same.refl _) (B := S2 ++ (S1 ++ T') ++ S) (fun x hx => by rcases List.mem_append.mp hx with q | q <;> simp [q]))
    refine o G2 H2 v x vs xs _ _ st2.v t1 t2 p2 fun z w H' pz n => ?_
    obtain ⟨G3, S3, s3, st3, q3⟩ := Nw.own (T := T') st2.dropT.dropT n
    exact k z m2 w G3 H' S3 pz (s1.trans (s2.trans s3)) st3 q3
theorem s_ifO {tt : TT} {vt : VT} {ta tb : TE} {va vb : VE} (ht : ST c Γ tt vt) (ha : SO c Γ ta va) (hb : SO c Γ tb vb) : SO c Γ (tIf tt ta tb) (vIfE vt va vb) := fun T G H S env σ m P Q st hv k =>
  ht T G H S env σ m _ _ st hv fun b m1 G1 H1 S1 p1 s1 st1 => by
    cases b with
    | true =>
      rw [if_pos rfl] at p1 ⊢
      exact ha T G1 H1 S env σ m1 _ _ st1.dropT p1 fun d m' v G' H' S2 p s st' q => k d m' v G' H' S2 p (s1.trans s) st' q
    | false =>
      rw [if_neg Bool.false_ne_true] at p1 ⊢
      exact hb T G1 H1 S env σ m1 _ _ st1.dropT p1 fun d m' v G' H' S2 p s st' q => k d m' v G' H' S2 p (s1.trans s) st' q
theorem s_ifF {tt : TT} {vt : VT} {ta tb : TE} {va vb : VE} (ht : ST c Γ tt vt) (ha : SF c Γ ta va) (hb : SF c Γ tb vb) : SF c Γ (tIf tt ta tb) (vIfE vt va vb) := fun T G H S env σ m P Q st hv k =>
  ht T G H S env σ m _ _ st hv fun b m1 G1 H1 S1 p1 s1 st1 => by
    cases b with
    | true =>
      rw [if_pos rfl] at p1 ⊢
      exact ha T G1 H1 S env σ m1 _ _ st1.dropT p1 fun d m' v G' H' p s st' q => k d m' v G' H' p (s1.trans s) st' q
    | false =>
      rw [if_neg Bool.false_ne_true] at p1 ⊢
      exact hb T G1 H1 S env σ m1 _ _ st1.dropT p1 fun d m' v G' H' p s st' q => k d m' v G' H' p (s1.trans s) st' q
theorem SB.tp {te : TE} {ve : VE} (h : SB c Γ te ve) {P : D → Mst → Prop} {Q : VK} (st : Stx c Γ G H T S env σ m) (hv : ve env m P)
    (k : ∀ d m' v G' H' S1, P d m' → Same G G' → Stx c Γ G' H' (S1 ++ T) S env σ m' → Tp c.K G' H' v d → Q v H') : te σ H Q :=
  h T G H S env σ m _ _ st hv fun x m1 v G1 H1 S1 p1 s1 st1 b1 => k x m1 v G1 H1 S1 p1 s1 st1
    (bo_tp (T := S1 ++ T) st1 (bo_sub (Same.refl _) (B := S1 ++ T ++ S) (fun x hx => by rcases List.mem_append.mp hx with q | q <;> simp [q]) b1))
theorem s_andV {ta tb : TE} {va vb : VE} (ha : SB c Γ ta va) (hb : SO c Γ tb vb) : SO c Γ (tAndV ta tb) (vAndV va vb) := fun T G H S env σ m P Q st hv k =>
  ha.tp st hv fun x m1 v G1 H1 S1 p1 s1 st1 t1 => by
    obtain ⟨b, rfl, p⟩ := p1
    refine ⟨b, t1.blInv, ?_⟩
    cases b with
    | true =>
      rw [if_pos rfl] at p ⊢
      exact hb T G1 H1 S env σ m1 _ _ st1.dropT p fun d m' v G' H' S2 p s st' q => k d m' v G' H' S2 p (s1.trans s) st' q
    | false =>
      rw [if_neg Bool.false_ne_true] at p ⊢
      exact k _ m1 _ G1 H1 [] p s1 st1.dropT ⟨rfl, .bl _⟩
theorem s_orV {ta tb : TE} {va vb : VE} (ha : SB c Γ ta va) (hb : SO c Γ tb vb) : SO c Γ (tOrV ta tb) (vOrV va vb) := fun T G H S env σ m P Q st hv k =>
  ha.tp st hv fun x m1 v G1 H1 S1 p1 s1 st1 t1 => by
    obtain ⟨b, rfl, p⟩ := p1
    refine ⟨b, t1.blInv, ?_⟩
    cases b with
    | true =>
      rw [if_pos rfl] at p ⊢
      exact k _ m1 _ G1 H1 [] p s1 st1.dropT ⟨rfl, .bl _⟩
    | false =>
      rw [if_neg Bool.false_ne_true] at p ⊢
      exact hb T G1 H1 S env σ m1 _ _ st1.dropT p fun d m' v G' H' S2 p s st' q => k d m' v G' H' S2 p (s1.trans s) st' q
theorem s_notV {ta : TE} {va : VE} (ha : SB c Γ ta va) : SO c Γ (tNotV ta) (vNotV va) := fun T G H S env σ m P Q st hv k =>
  ha.tp st hv fun x m1 v G1 H1 S1 p1 s1 st1 t1 => by
    obtain ⟨b, rfl, p⟩ := p1
    exact ⟨b, t1.blInv, k _ m1 _ G1 H1 [] p s1 st1.dropT ⟨rfl, .bl _⟩⟩
def SP (c : JC) (Γ : List OT) (tl : TO) (vl : VO) : Prop := ∀ (T : List (Addr × HO)) (G H : Hp) (S : List (Addr × HO)) (env : Env) (σ : L2.St) (m : Mst) (P : Option Int → Mst → Prop) (Q : Option Int → Hp → Prop), Stx c Γ G H T S env σ m → vl env m P →
  (∀ x m' G' H' S1, P x m' → Same G G' → Stx c Γ G' H' (S1 ++ T) S env σ m' → Q x H') → tl σ H Q
theorem s_nopart : SP c Γ tNoPart vNoPart := fun T G H S env σ m P Q st hv k => k none m G H [] hv (Same.refl G) st
theorem Tp.intInv {K : PySem.W.Frag} {i : Int} (h : Tp K G H v (.int i)) : v = .int i := by cases h with | dd h => cases h; rfl
theorem Tp.strInv {K : PySem.W.Frag} {i : Str} (h : Tp K G H v (.str i)) : v = .str i := by cases h with | dd h => cases h; rfl
theorem s_part {te : TE} {ve : VE} (he : SB c Γ te ve) : SP c Γ (tPart te) (vPart ve) := fun T G H S env σ m P Q st hv k =>
  he.tp st hv fun x m1 v G1 H1 S1 p1 s1 st1 t1 => by
    obtain ⟨i, rfl, p⟩ := p1
    exact ⟨i, t1.intInv, k _ m1 G1 H1 S1 p s1 st1⟩
def SlV (K : PySem.W.Frag) (r : V → Option Int → Option Int → Hp → VK → Prop) (f : D → Option Int → Option Int → (D → Prop) → Prop) : Prop :=
  ∀ (G H : Hp) (x : V) (d : D) (lo hi : Option Int) (P : D → Prop) (Q : VK), Same G H → Tp K G H x d → f d lo hi P → (∀ z v H', P z → Nw K G H v H' z → Q v H') → r x lo hi H Q
theorem s_sl {r : V → Option Int → Option Int → Hp → VK → Prop} {f : D → Option Int → Option Int → (D → Prop) → Prop} {te : TE} {ve : VE} {tl th : TO} {vl vh : VO} (o : SlV c.K r f) (he : SB c Γ te ve) (hl : SP c Γ tl vl) (hh : SP c Γ th vh) : SO c Γ (tSl r te tl th) (vSl f ve vl vh) := fun T G H S env σ m P Q st hv k =>
  he T G H S env σ m _ _ st hv fun x m1 v G1 H1 S1 p1 s1 st1 b1 => hl (S1 ++ T) G1 H1 S env σ m1 _ _ st1 p1 fun lo m2 G2 H2 S2 p2 s2 st2 => hh (S2 ++ (S1 ++ T)) G2 H2 S env σ m2 _ _ st2 p2 fun hi m3 G3 H3 S3 p3 s3 st3 => by
    have t1 := bo_tp (T := S3 ++ (S2 ++ (S1 ++ T))) st3 (bo_sub (s2.trans s3) (B := S3 ++ (S2 ++ (S1 ++ T)) ++ S) (fun x hx => by rcases List.mem_append.mp hx with q | q <;> simp [q]) b1)
    refine o G3 H3 v x lo hi _ _ st3.v t1 p3 fun z w H' pz n => ?_
    obtain ⟨G4, S4, s4, st4, q4⟩ := Nw.own (T := T) st3.dropT.dropT.dropT n
    exact k z m3 w G4 H' S4 pz (s1.trans (s2.trans (s3.trans s4))) st4 q4
theorem Wd.toC {A B C R : List (Addr × HO)} (w : Wd (A ++ (B ++ (C ++ R))) G H) : Wd (C ++ (A ++ (B ++ R))) G H := w.perm (by
  have h1 : (C ++ (A ++ (B ++ R))).Perm (A ++ (C ++ (B ++ R))) := List.perm_append_comm_assoc C A (B ++ R)
  have h2 : (C ++ (B ++ R)).Perm (B ++ (C ++ R)) := List.perm_append_comm_assoc C B R
  exact h1.trans (h2.append_left A))
theorem Wd.ofC {A B C R : List (Addr × HO)} (w : Wd (C ++ (A ++ (B ++ R))) G H) : Wd (A ++ (B ++ (C ++ R))) G H := w.perm (by
  have h1 : (C ++ (A ++ (B ++ R))).Perm (A ++ (C ++ (B ++ R))) := List.perm_append_comm_assoc C A (B ++ R)
  have h2 : (C ++ (B ++ R)).Perm (B ++ (C ++ R)) := List.perm_append_comm_assoc C B R
  exact (h1.trans (h2.append_left A)).symm)
theorem run_spV {t : OT} {vsp : VSp} {W : XK} {VX : XV} (st : Stx c Γ G H T S env σ m) {vs : List V} {ds : List D} (h : DdAll c.K G vs ds) {P : D → Mst → Prop} {Q : VK} (hv : vsp ds m P VX)
    (k : ∀ d m' v G' H' S1, P d m' → Same G G' → Stx c Γ G' H' (S1 ++ T) S env σ m' → Own c.K G' t S1 v d → Q v H')
    (kx : ∀ C fs m' dd G' H', VX C fs m' → Same G G' → Stx c Γ G' H' T S env σ m' → ExcAt c.K G' dd fs → W (.ref C) dd H') : spV c.K t vsp vs H Q W := by
  obtain ⟨s, C, w, a, z⟩ := st
  refine ⟨ds, G, T ++ (S ++ c.R), C, m, P, VX, w.toC, a, h, hv, fun d m' v H' G' S1 C' p s' w' a' o => ?_, fun cl fs m' dd H' G' C' p s' w' a' o => ?_⟩
  · refine k d m' v G' H' S1 p s' ⟨s.trans s', C', ?_, a', z.mono s'⟩ o
    rw [List.append_assoc]
    refine w'.perm (List.Perm.append_left S1 ?_)
    have h1 : (C' ++ (T ++ (S ++ c.R))).Perm (T ++ (C' ++ (S ++ c.R))) := List.perm_append_comm_assoc C' T (S ++ c.R)
    have h2 : (C' ++ (S ++ c.R)).Perm (S ++ (C' ++ c.R)) := List.perm_append_comm_assoc C' S c.R
    exact (h1.trans (h2.append_left T)).symm
  · exact kx cl fs m' dd G' H' p s' ⟨s.trans s', C', w'.ofC, a', z.mono s'⟩ o
theorem s_callF {vsp : VSp} {E : XK} {ta : TA} {va : VA} (ha : SG c Γ ta va) : SF c Γ (tCall (spV c.K .F vsp) [] E ta) (vCall vsp va) := fun T G H S env σ m P Q st hv k =>
  ha T G H S env σ m _ _ st hv fun ds m1 vs G1 H1 p1 s1 st1 b1 => by
    rw [List.append_nil]
    exact run_spV st1 b1 p1 (fun d m' v G' H' S1 p s st' o => by
      obtain ⟨rfl, o⟩ := o
      exact k d m' v G' H' p (s1.trans s) st' o) fun _ _ _ _ _ _ h => h.elim
theorem s_callO {vsp : VSp} {E : XK} {ta : TA} {va : VA} (ha : SG c Γ ta va) : SO c Γ (tCall (spV c.K .O vsp) [] E ta) (vCall vsp va) := fun T G H S env σ m P Q st hv k =>
  ha T G H S env σ m _ _ st hv fun ds m1 vs G1 H1 p1 s1 st1 b1 => by
    rw [List.append_nil]
    exact run_spV st1 b1 p1 (fun d m' v G' H' S1 p s st' o => k d m' v G' H' S1 p (s1.trans s) st' o) fun _ _ _ _ _ _ h => h.elim
noncomputable def allBut (H : Hp) (C : List (Addr × HO)) : Hp := fun a => open Classical in if a ∈ C.map Prod.fst then none else H a
theorem allBut_of {C : List (Addr × HO)} {a : Addr} (h : a ∉ C.map Prod.fst) : allBut H C a = H a := by unfold allBut; rw [if_neg h]
theorem allBut_in {C : List (Addr × HO)} {a : Addr} (h : a ∈ C.map Prod.fst) : allBut H C a = none := by unfold allBut; rw [if_pos h]
theorem allBut_le (C : List (Addr × HO)) : Same (allBut H C) H := fun a o e => by
  by_cases h : a ∈ C.map Prod.fst
  · rw [allBut_in h] at e; cases e
  · rw [allBut_of h] at e; exact e
theorem allBut_ge {C : List (Addr × HO)} (w : Wd C G H) : Same G (allBut H C) := fun a o e => by
  by_cases h : a ∈ C.map Prod.fst
  · obtain ⟨x, hx, rfl⟩ := List.mem_map.mp h
    rw [(w.2.1 x hx).2] at e; cases e
  · rw [allBut_of h]; exact w.1 _ _ e
theorem allBut_wd {C : List (Addr × HO)} (w : Wd C G H) : Wd C (allBut H C) H := ⟨allBut_le C, fun x hx => ⟨(w.2.1 x hx).1, allBut_in (List.mem_map.mpr ⟨x, hx, rfl⟩)⟩, w.2.2⟩
theorem wd_apart {A B : List (Addr × HO)} (w : Wd (A ++ B) G H) {x : Addr × HO} (hx : x ∈ A) : x.1 ∉ B.map Prod.fst := fun h => by
  have nd := w.2.2
  rw [List.map_append] at nd
  exact (List.nodup_append.mp nd).2.2 x.1 (List.mem_map.mpr ⟨x, hx, rfl⟩) x.1 h rfl
theorem Bo.all {A B : List (Addr × HO)} {t : OT} (w : Wd (A ++ B) G H) {K : PySem.W.Frag} (b : Bo K G A t v d) : Dd K (allBut H B) v d := by
  have hg : Same G (allBut H B) := allBut_ge w.dropL
  obtain ⟨S', h1, h2⟩ := b
  have hm : ∀ x ∈ S', allBut H B x.1 = some x.2 := fun x hx => by
    rw [allBut_of (wd_apart w (h1 x hx))]
    exact w.mem (List.mem_append_left _ (h1 x hx))
  cases t with
  | F => exact h2.2.mono hg
  | O =>
    cases d with
    | lst ds =>
      obtain ⟨a, vs, rfl, rfl, h⟩ := h2
      exact .lst (hm _ List.mem_cons_self) (h.mono hg)
    | dic kds =>
      obtain ⟨a, vs, rfl, rfl, e, h⟩ := h2
      exact .dic (hm _ List.mem_cons_self) e rfl rfl rfl (h.mono hg)
    | _ => exact h2.2.mono hg
theorem BoAll.all {A B : List (Addr × HO)} (w : Wd (A ++ B) G H) {K : PySem.W.Frag} {vs : List V} {ds : List D} (b : BoAll K G A vs ds) : DdAll K (allBut H B) vs ds := by
  induction b with
  | nil => exact .nil
  | cons b _ ih => exact .cons (b.elim fun t b => b.all w) ih
inductive D.Im : D → Prop
  | non : D.Im .non
  | bl (b : Bool) : D.Im (.bl b)
  | int (i : Int) : D.Im (.int i)
  | str (s : Str) : D.Im (.str s)
  | ty (n : String) : D.Im (.ty n)
  | adr (a : Addr) : D.Im (.adr a)
  | tup {ds : List D} : (∀ d ∈ ds, D.Im d) → D.Im (.tup ds)
def D.Fr (d : D) : Prop := D.Im d ∨ ∃ ds, d = .lst ds ∧ ∀ x ∈ ds, D.Im x
inductive Chg : HO → Prop
  | lst (vs : List V) : Chg (.lst vs)
  | dK (kvs : List (Key × V)) : Chg (.dK kvs)
  | ins (C dx : Addr) (fs : List (Str × V)) : Chg (.ins C dx fs)
  | own (a : Addr) : Chg (.own a)
  | ext (φ : Heap → Prop) : Chg (.ext φ)
def TupS (G G' : Hp) : Prop := ∀ a o, G a = some o → ¬ Chg o → G' a = some o
theorem TupS.tup (s : TupS G G') {a : Addr} {vs : List V} (h : G a = some (.tup vs)) : G' a = some (.tup vs) := s _ _ h (fun z => by cases z)
theorem TupS.xd (s : TupS G G') {a : Addr} {vs : List (Str × V)} (h : G a = some (.xd vs)) : G' a = some (.xd vs) := s _ _ h (fun z => by cases z)
mutual
theorem dd_im {K : PySem.W.Frag} (s : TupS G G') : ∀ {v : V} {d : D}, Dd K G v d → D.Im d → Dd K G' v d
  | _, _, .non, _ => .non
  | _, _, .bl b, _ => .bl b
  | _, _, .int i, _ => .int i
  | _, _, .str x, _ => .str x
  | _, _, .adr a, _ => .adr a
  | _, _, .ty n, _ => .ty n
  | _, _, .tup h a, e => .tup (h.elim (fun h => .inl (s.tup h)) .inr) (dd_ims s a (by cases e with | tup e => exact e))
  | _, _, .scr h, e => by cases e
  | _, _, .lst h a, e => by cases e
  | _, _, .dic h e1 e2 e3 e4 a, e => by cases e
  | _, _, .obj h1 h2 e1 e2 e3 e4 a, e => by cases e
  | _, _, .dcl h1 e1 e2 e3 e4 a, e => by cases e
  | _, _, .dct h1 e0 e1 e2 e3 e4 a, e => by cases e
  | _, _, .exc0 h1, e => by cases e
  | _, _, .exc1 h1 h2 e1 e2 e3 e4 a, e => by cases e
theorem dd_ims {K : PySem.W.Frag} (s : TupS G G') : ∀ {vs : List V} {ds : List D}, DdAll K G vs ds → (∀ d ∈ ds, D.Im d) → DdAll K G' vs ds
  | _, _, .nil, _ => .nil
  | _, _, .cons h t, e => .cons (dd_im s h (e _ List.mem_cons_self)) (dd_ims s t fun d hd => e d (List.mem_cons_of_mem _ hd))
end
def AllChg (S : List (Addr × HO)) : Prop := ∀ x ∈ S, Chg x.2
theorem Slots.chg {K : PySem.W.Frag} (h : Slots K G Γ S env σ) : AllChg S := by
  induction h with
  | nil => exact fun x hx => absurd hx (by simp)
  | no _ ih => exact ih
  | @yes t Γ S1 S env d v σ q _ ih =>
    intro x hx
    rcases List.mem_append.mp hx with h | h
    · cases t with
      | F => obtain ⟨rfl, _⟩ := q; exact absurd h (by simp)
      | O =>
        cases d with
        | lst ds => obtain ⟨a, vs, _, rfl, _⟩ := q; rw [List.mem_singleton] at h; subst h; exact .lst _
        | dic ds => obtain ⟨a, vs, _, rfl, _⟩ := q; rw [List.mem_singleton] at h; subst h; exact .dK _
        | _ => obtain ⟨rfl, _⟩ := q; exact absurd h (by simp)
    · exact ih x h
theorem Cell.chg {K : PySem.W.Frag} {a : Addr} {d : D} {C : List (Addr × HO)} (q : Cell K G a d C) : AllChg C := by
  intro x h
  cases d with
  | lst ds => obtain ⟨vs, rfl, _⟩ := q; rw [List.mem_singleton] at h; subst h; exact .lst _
  | dic ds => obtain ⟨vs, rfl, _⟩ := q; rw [List.mem_singleton] at h; subst h; exact .dK _
  | obj Cl gs =>
    obtain ⟨dx, fs, rfl, _⟩ := q
    rcases List.mem_cons.mp h with rfl | h
    · exact .ins _ _ _
    · rw [List.mem_singleton] at h; subst h; exact .own _
  | dcl w ds => obtain ⟨vs, rfl, _⟩ := q; rw [List.mem_singleton] at h; subst h; exact .ext _
  | dct w ds => obtain ⟨vs, rfl, _⟩ := q; rw [List.mem_singleton] at h; subst h; exact .ext _
  | _ => exact q.elim
theorem Cells.chg {K : PySem.W.Frag} {L : List (Addr × D)} {C : List (Addr × HO)} (h : Cells K G L C) : AllChg C := by
  induction h with
  | nil => exact fun x hx => absurd hx (by simp)
  | @cons a d L C1 C2 q _ ih =>
    intro x hx
    rcases List.mem_append.mp hx with h | h
    · exact q.chg x h
    · exact ih x h
theorem Amb.chg {K : PySem.W.Frag} {C : List (Addr × HO)} (h : Amb K G m C) : AllChg C := by
  obtain ⟨C1, C2, rfl, a, L, l, c⟩ := h
  intro x hx
  rcases List.mem_append.mp hx with h | h
  · obtain ⟨md, ms⟩ := m
    cases md with
    | none => obtain rfl : C1 = [] := a; exact absurd h (by simp)
    | some p =>
      obtain ⟨c, t, ns, rfl, _⟩ := a
      rcases List.mem_cons.mp h with rfl | h
      · exact .dK _
      · rw [List.mem_singleton] at h; subst h; exact .lst _
  · exact c.chg x h
inductive Rs (s : Sto) : D → D → Prop
  | refl (d : D) : Rs s d d
  | lst {ds es : List D} : ds.length = es.length → (∀ (i : Nat) (d e : D), ds[i]? = some d → es[i]? = some e → Rs s d e) → Rs s (.lst ds) (.lst es)
  | tup {ds es : List D} : ds.length = es.length → (∀ (i : Nat) (d e : D), ds[i]? = some d → es[i]? = some e → Rs s d e) → Rs s (.tup ds) (.tup es)
  | ptr {a : Addr} {d e : D} : s a = some d → Rs s d e → Rs s (.adr a) e
  | dic {ks : List Key} {ds es : List (Key × D)} : ds.map Prod.fst = ks → es.map Prod.fst = ks → (∀ (i : Nat) (d e : Key × D), ds[i]? = some d → es[i]? = some e → Rs s d.2 e.2) → Rs s (.dic ds) (.dic es)
def RsAll (s : Sto) (ds es : List D) : Prop := ds.length = es.length ∧ ∀ (i : Nat) (d e : D), ds[i]? = some d → es[i]? = some e → Rs s d e
theorem RsAll.refl (s : Sto) (ds : List D) : RsAll s ds ds := ⟨rfl, fun i d e h1 h2 => by rw [h1] at h2; cases h2; exact .refl d⟩
theorem RsAll.nil {s : Sto} : RsAll s [] [] := .refl _ _
theorem RsAll.cons {s : Sto} {d e : D} {ds es : List D} (h : Rs s d e) (t : RsAll s ds es) : RsAll s (d :: ds) (e :: es) :=
  ⟨by rw [List.length_cons, List.length_cons, t.1], fun i x y h1 h2 => by
    cases i with
    | zero => simp at h1 h2; subst h1; subst h2; exact h
    | succ i => exact t.2 i x y (by simpa using h1) (by simpa using h2)⟩
theorem DdAll.of_get {K : PySem.W.Frag} : ∀ {vs : List V} {es : List D}, vs.length = es.length → (∀ (i : Nat) (v : V) (e : D), vs[i]? = some v → es[i]? = some e → Dd K G v e) → DdAll K G vs es
  | [], [], _, _ => .nil
  | [], _ :: _, h, _ => by simp at h
  | _ :: _, [], h, _ => by simp at h
  | v :: vs, e :: es, h, f => .cons (f 0 v e rfl rfl) (DdAll.of_get (by simpa using h) fun i v e h1 h2 => f (i + 1) v e (by simpa using h1) (by simpa using h2))
theorem rs_dd {K : PySem.W.Frag} {s : Sto} (hs : ∀ a d, s a = some d → Dd K G (.ref a) d) {d e : D} (h : Rs s d e) : ∀ {v : V}, Dd K G v d → Dd K G v e := by
  induction h with
  | refl d => exact fun q => q
  | @lst ds es hl _ ih =>
    intro v q
    cases q with
    | lst h1 h2 =>
      refine .lst h1 (DdAll.of_get (by rw [h2.len, hl]) fun i v e h3 h4 => ?_)
      obtain ⟨d, h5, h6⟩ := h2.getV h3
      exact ih i d e h5 h4 h6
  | @tup ds es hl _ ih =>
    intro v q
    cases q with
    | tup h1 h2 =>
      refine .tup h1 (DdAll.of_get (by rw [h2.len, hl]) fun i v e h3 h4 => ?_)
      obtain ⟨d, h5, h6⟩ := h2.getV h3
      exact ih i d e h5 h4 h6
  | ptr e _ ih =>
    intro v q
    cases q
    exact ih (hs _ _ e)
  | @dic ks ds es e1 e2 _ ih =>
    intro v q
    cases q with
    | dic h1 k1 k2 k3 k4 h2 =>
      subst k3; subst k4
      have hl : ds.length = es.length := by have := congrArg List.length (e1.trans e2.symm); simpa using this
      refine .dic h1 k1 (by rw [e2, ← k2, e1]) rfl rfl (DdAll.of_get (by rw [h2.len, List.length_map, List.length_map, hl]) fun i v e h3 h4 => ?_)
      obtain ⟨d, h5, h6⟩ := h2.getV h3
      rw [List.getElem?_map] at h5 h4
      obtain ⟨x, hx, rfl⟩ := Option.map_eq_some_iff.mp h5
      obtain ⟨y, hy, rfl⟩ := Option.map_eq_some_iff.mp h4
      exact ih i x y hx hy h6
theorem Cells.at {K : PySem.W.Frag} {L : List (Addr × D)} {C : List (Addr × HO)} (h : Cells K G L C) : ∀ {a : Addr} {d : D}, L.lookup a = some d → ∃ A C1 B, C = A ++ (C1 ++ B) ∧ Cell K G a d C1 ∧
    ∀ (d' : D) (C1' : List (Addr × HO)), Cell K G a d' C1' → ∃ L', (∀ b, L'.lookup b = if b = a then some d' else L.lookup b) ∧ Cells K G L' (A ++ (C1' ++ B)) := by
  induction h with
  | nil => intro a d e; cases e
  | @cons b d0 L C1 C2 q r ih =>
    intro a d e
    rw [List.lookup_cons] at e
    by_cases z : a = b
    · subst z
      rw [beq_self_eq_true] at e
      cases e
      refine ⟨[], C1, C2, rfl, q, fun d' C1' q' => ⟨(a, d') :: L, fun b => ?_, by rw [List.nil_append]; exact .cons q' r⟩⟩
      rw [List.lookup_cons, List.lookup_cons]
      by_cases z : b = a
      · subst z; rw [beq_self_eq_true, if_pos rfl]
      · rw [beq_eq_false_iff_ne.mpr z, if_neg z]
    · rw [beq_eq_false_iff_ne.mpr z] at e
      obtain ⟨A, D1, B, e1, e2, e3⟩ := ih e
      refine ⟨C1 ++ A, D1, B, by rw [e1, List.append_assoc], e2, fun d' C1' q' => ?_⟩
      obtain ⟨L', e4, e5⟩ := e3 d' C1' q'
      refine ⟨(b, d0) :: L', fun x => ?_, by rw [List.append_assoc]; exact .cons q e5⟩
      rw [List.lookup_cons, List.lookup_cons]
      by_cases y : x = b
      · subst y; rw [beq_self_eq_true, if_neg (fun w => z w.symm)]
      · rw [beq_eq_false_iff_ne.mpr y]; exact e4 x
theorem Amb.at {K : PySem.W.Frag} {C : List (Addr × HO)} (h : Amb K G m C) {a : Addr} {d : D} (e : m.2 a = some d) : ∃ A C1 B, C = A ++ (C1 ++ B) ∧ Cell K G a d C1 ∧ ∀ (d' : D) (C1' : List (Addr × HO)), Cell K G a d' C1' → Amb K G (m.1, sput m.2 a d') (A ++ (C1' ++ B)) := by
  obtain ⟨D1, D2, rfl, am, L, l, c⟩ := h
  obtain ⟨A, C1, B, rfl, q, f⟩ := c.at (by rw [← l a]; exact e)
  refine ⟨D1 ++ A, C1, B, by rw [List.append_assoc], q, fun d' C1' q' => ?_⟩
  obtain ⟨L', e4, e5⟩ := f d' C1' q'
  refine ⟨D1, A ++ (C1' ++ B), by rw [List.append_assoc], am, L', fun b => ?_, e5⟩
  show sput m.2 a d' b = _
  unfold sput
  rw [e4 b, l b]
theorem Cell.dd {K : PySem.W.Frag} {G' : Hp} (s : Same G G') {a : Addr} {d : D} {C : List (Addr × HO)} (q : Cell K G a d C) (h : ∀ x ∈ C, G' x.1 = some x.2) : Dd K G' (.ref a) d := by
  cases d with
  | lst ds => obtain ⟨vs, rfl, e⟩ := q; exact .lst (h _ List.mem_cons_self) (e.mono s)
  | dic ds => obtain ⟨vs, rfl, e1, e⟩ := q; exact .dic (h _ List.mem_cons_self) e1 rfl rfl rfl (e.mono s)
  | obj Cl gs => obtain ⟨dx, fs, rfl, e1, e⟩ := q; exact .obj (h _ List.mem_cons_self) (h _ (List.mem_cons_of_mem _ List.mem_cons_self)) e1 rfl rfl rfl (e.mono s)
  | dcl w ds => obtain ⟨vs, rfl, e1, e⟩ := q; exact .dcl (h _ List.mem_cons_self) e1 rfl rfl rfl (e.mono s)
  | dct w ds => obtain ⟨vs, rfl, e1, e0, e⟩ := q; exact .dct (h _ List.mem_cons_self) e1 (fun p hp => s _ _ (e0 p hp)) rfl rfl rfl (e.mono s)
  | _ => exact q.elim
theorem wd_allBut {L : List (Addr × HO)} (h : ∀ x ∈ L, H x.1 = some x.2) (nd : (L.map Prod.fst).Nodup) : Wd L (allBut H L) H := ⟨allBut_le L, fun x hx => ⟨h x hx, allBut_in (List.mem_map.mpr ⟨x, hx, rfl⟩)⟩, nd⟩
def frOk : OT → D → Prop
  | .F, d => D.Im d
  | .O, d => D.Fr d
def vCallB (t : OT) (vsp : VSp) (va : VA) : VE := fun env m P => va env m fun ds m1 => ∃ es, RsAll m1.2 ds es ∧ vsp es (none, emp) (fun d _ => frOk t d ∧ P d m1) fun _ _ _ => False
def vCallBS (t : OT) (vsp : VSp) (VW : XW) (va : VA) : VE := fun env m P => va env m fun ds m1 => ∃ es, RsAll m1.2 ds es ∧ vsp es (none, emp) (fun d _ => frOk t d ∧ P d m1) fun C fs _ => (∀ f ∈ fs, D.Im f.2) ∧ VW C fs env m1
theorem Im.im {d : D} (h : D.Im d) : d.im = true := by cases h <;> rfl
theorem run_look {vsp : VSp} {t : OT} {W : XK} {VX : XV} (st : Stx c Γ G H (S1 ++ T) S env σ m) {vs : List V} {ds es : List D} (b : BoAll c.K G (S1 ++ S) vs ds) (hr : RsAll m.2 ds es) {P : D → Prop} {Q : VK} (hv : vsp es (none, emp) (fun d _ => frOk t d ∧ P d) VX)
    (k : ∀ d v G' H' S2, P d → Same G G' → Stx c Γ G' H' (S2 ++ T) S env σ m → OwnTop c.K G' S2 v d → Q v H')
    (kx : ∀ C fs m' dd G' H', VX C fs m' → (∀ f ∈ fs, D.Im f.2) → Same G G' → Stx c Γ G' H' T S env σ m → ExcAt c.K G' dd fs → W (.ref C) dd H') (hx : ∀ C fs m', VX C fs m' → ∀ f ∈ fs, D.Im f.2) : spV c.K t vsp vs H Q W := by
  obtain ⟨s, C, w, a, z⟩ := st
  have w1 : Wd ((S1 ++ (S ++ C)) ++ (T ++ c.R)) G H := w.perm (by
    have h1 : ((S1 ++ (S ++ C)) ++ (T ++ c.R)).Perm (S1 ++ (T ++ (S ++ (C ++ c.R)))) := by
      rw [List.append_assoc]
      refine List.Perm.append_left S1 ?_
      have : ((S ++ C) ++ (T ++ c.R)).Perm (T ++ ((S ++ C) ++ c.R)) := List.perm_append_comm_assoc _ _ _
      rw [List.append_assoc (as := S) (bs := C) (cs := c.R)] at this
      exact this
    rw [List.append_assoc (as := S1) (bs := T)]
    exact h1)
  -- what the call sees
  have g0 : Same G (allBut H (T ++ c.R)) := allBut_ge w1.dropL
  have inA : ∀ x ∈ S1 ++ (S ++ C), allBut H (T ++ c.R) x.1 = some x.2 := fun x hx => by
    rw [allBut_of (wd_apart w1 hx)]
    exact w1.mem (List.mem_append_left _ hx)
  have hs : ∀ b e, m.2 b = some e → Dd c.K (allBut H (T ++ c.R)) (.ref b) e := fun b e he => by
    obtain ⟨A, C1, B, rfl, q, _⟩ := a.at he
    exact q.dd g0 fun x hx => inA x (by simp [hx])
  have w2 : Wd ((S1 ++ S) ++ (C ++ (T ++ c.R))) G H := by
    rw [← List.append_assoc, List.append_assoc S1 S C]; exact w1
  have dall : DdAll c.K (allBut H (T ++ c.R)) vs es := by
    have q := b.all w2
    have sm : Same (allBut H (C ++ (T ++ c.R))) (allBut H (T ++ c.R)) := fun x o e => by
      by_cases h : x ∈ (C ++ (T ++ c.R)).map Prod.fst
      · rw [allBut_in h] at e; cases e
      · rw [allBut_of h] at e
        rw [allBut_of fun h' => h (by rw [List.map_append]; exact List.mem_append_right _ h')]; exact e
    have q := q.mono sm
    refine DdAll.of_get (by rw [q.len, hr.1]) fun i v e h1 h2 => ?_
    obtain ⟨d, h3, h4⟩ := q.getV h1
    exact rs_dd hs (hr.2 i d e h3 h2) h4
  have nd : ((T ++ (S ++ (C ++ c.R))).map Prod.fst).Nodup := by
    rw [List.append_assoc] at w
    exact w.dropL.2.2
  have chg : AllChg (S ++ C) := fun x hx => by
    rcases List.mem_append.mp hx with h | h
    · exact z.chg x h
    · exact a.chg x h
  -- what is behind it
  have behind : ∀ {G' H' : Hp} {S2 C' : List (Addr × HO)}, Same (allBut H (T ++ c.R)) G' → Wd (S2 ++ (C' ++ (T ++ c.R))) G' H' → ∃ G2, Same G G2 ∧ Stx c Γ G2 H' (S2 ++ T) S env σ m ∧ TupS G' G2 := by
    intro G' H' S2 C' s' w'
    have w3 : Wd (S2 ++ (T ++ c.R)) G' H' := w'.dropM
    have mem : ∀ x ∈ S2 ++ (T ++ (S ++ (C ++ c.R))), H' x.1 = some x.2 := fun x hx => by
      rcases List.mem_append.mp hx with h | h
      · exact (w3.2.1 x (List.mem_append_left _ h)).1
      · rcases List.mem_append.mp h with h | h
        · exact (w3.2.1 x (by simp [h])).1
        · rw [← List.append_assoc] at h
          rcases List.mem_append.mp h with h | h
          · exact w3.1 _ _ (s' _ _ (inA x (List.mem_append_right _ h)))
          · exact (w3.2.1 x (by simp [h])).1
    have nd2 : ((S2 ++ (T ++ (S ++ (C ++ c.R)))).map Prod.fst).Nodup := by
      rw [List.map_append]
      refine List.nodup_append.mpr ⟨w3.dropR.2.2, nd, fun p hp p' hp' e => ?_⟩
      subst e
      obtain ⟨x, hx, rfl⟩ := List.mem_map.mp hp
      obtain ⟨y, hy, e⟩ := List.mem_map.mp hp'
      have q := (w3.2.1 x (List.mem_append_left _ hx)).2
      have tr : y ∈ T ++ c.R → False := fun h => by
        have nd3 := w3.2.2
        rw [List.map_append] at nd3
        exact (List.nodup_append.mp nd3).2.2 _ (List.mem_map.mpr ⟨x, hx, rfl⟩) _ (List.mem_map.mpr ⟨y, h, rfl⟩) e.symm
      rcases List.mem_append.mp hy with h | h
      · exact tr (List.mem_append_left _ h)
      · rw [← List.append_assoc] at h
        rcases List.mem_append.mp h with h | h
        · have := s' _ _ (inA y (List.mem_append_right _ h))
          rw [e, q] at this; cases this
        · exact tr (List.mem_append_right _ h)
    have notin : ∀ b o, G' b = some o → (∀ x ∈ S ++ C, x.1 ≠ b) → b ∉ (S2 ++ (T ++ (S ++ (C ++ c.R)))).map Prod.fst := fun b o e hn hb => by
      obtain ⟨x, hx, rfl⟩ := List.mem_map.mp hb
      have tr : x ∈ S2 ++ (T ++ c.R) → False := fun h => by rw [(w3.2.1 x h).2] at e; cases e
      rcases List.mem_append.mp hx with h | h
      · exact tr (List.mem_append_left _ h)
      · rcases List.mem_append.mp h with h | h
        · exact tr (by simp [h])
        · rw [← List.append_assoc] at h
          rcases List.mem_append.mp h with h | h
          · exact hn x h rfl
          · exact tr (by simp [h])
    have w4 := wd_allBut mem nd2
    have up : Same G (allBut H' (S2 ++ (T ++ (S ++ (C ++ c.R))))) := fun b o e => by
      have e1 : G' b = some o := s' _ _ (g0 _ _ e)
      rw [allBut_of (notin b o e1 fun x hx q => ?_)]
      · exact w3.1 _ _ e1
      · have := (w1.2.1 x (List.mem_append_left _ (List.mem_append_right _ hx))).2
        rw [q, e] at this; cases this
    refine ⟨_, up, ⟨s.trans up, C, by rw [List.append_assoc]; exact w4, a.mono up, z.mono up⟩, fun b o e hc => ?_⟩
    rw [allBut_of (notin b o e fun x hx q => ?_)]
    · exact w3.1 _ _ e
    · have e2 := w3.1 _ _ (s' _ _ (inA x (List.mem_append_right _ hx)))
      rw [q, w3.1 _ _ e] at e2
      cases e2
      exact hc (chg x hx)
  refine ⟨es, allBut H (T ++ c.R), T ++ c.R, [], (none, emp), _, VX, allBut_wd w1.dropL, Amb.none, dall, hv, fun d m' v H' G' S2 C' p s' w' a' o => ?_, fun cl fs m' dd H' G' C' p s' w' a' o => ?_⟩
  · obtain ⟨G2, s2, st2, tu⟩ := behind s' w'
    refine k d v G2 H' S2 p.2 s2 st2 ?_
    have im : D.Im d → S2 = [] ∧ Dd c.K G' v d → OwnTop c.K G2 S2 v d := fun hd q => by
      obtain ⟨rfl, q⟩ := q
      exact ownTop_im (dd_im tu q hd) (Im.im hd)
    cases t with
    | F => exact im p.1 o
    | O =>
      rcases p.1 with hd | ⟨xs, rfl, hd⟩
      · refine im hd ?_
        cases hd <;> exact o
      · obtain ⟨b, vs, rfl, rfl, q⟩ := o
        exact ⟨b, vs, rfl, rfl, dd_ims tu q hd⟩
  · obtain ⟨G2, s2, st2, tu⟩ := behind (S2 := []) s' w'
    refine kx cl fs m' dd G2 H' p (hx _ _ _ p) s2 st2 ?_
    rcases o with ⟨rfl, rfl⟩ | ⟨b, xs, rfl, e1, e2, q⟩
    · exact .inl ⟨rfl, rfl⟩
    · refine .inr ⟨b, xs, rfl, tu.xd e1, e2, dd_ims tu q fun d hd => ?_⟩
      obtain ⟨f, hf, rfl⟩ := List.mem_map.mp hd
      exact hx _ _ _ p f hf
theorem s_callB {vsp : VSp} {t : OT} {E : XK} {ta : TA} {va : VA} (ha : SA c Γ ta va) : SO c Γ (tCall (spV c.K t vsp) [] E ta) (vCallB t vsp va) := fun T G H S env σ m P Q st hv k =>
  ha T G H S env σ m _ _ st hv fun ds m1 vs G1 H1 S1 p1 s1 st1 b1 => by
    rw [List.append_nil]
    obtain ⟨es, hr, p1⟩ := p1
    exact run_look (P := fun d => P d m1) st1 b1 hr p1 (fun d v G' H' S2 p s st' o => k d m1 v G' H' S2 p (s1.trans s) st' o) (fun _ _ _ _ _ _ h => h.elim) fun _ _ _ h => h.elim
def YD (K : PySem.W.Frag) (G : Hp) (ds : List D) : Nat → Hp → V → Hp → Prop := fun i H x H' => ∃ d, ds[i]? = some d ∧ ((H' = H ∧ Dd K G x d) ∨ ∃ p vs es, d = .tup es ∧ x = .ref p ∧ H p = none ∧ H' = upd H p (.tup vs) ∧ DdAll K G vs es)
def SI (c : JC) (Γ : List OT) (wi : TI) (vi : VA) : Prop := ∀ (T : List (Addr × HO)) (G H : Hp) (S : List (Addr × HO)) (env : Env) (σ : L2.St) (m : Mst) (P : List D → Mst → Prop) (R : It → Hp → Prop), Stx c Γ G H T S env σ m → vi env m P →
  (∀ ds m' J G' H', P ds m' → Same G G' → Stx c Γ G' H' T S env σ m' → Walk J ds.length (Same G') (YD c.K G' ds) → R J H') → wi σ H R
def signsOf (z : Str) : List D := z.cps.toList.map fun c => .str ⟨#[c]⟩
def itSeq : D → (List D → Mst → Prop) → Mst → Prop
  | .lst ds, P, m => P ds m
  | .tup ds, P, m => P ds m
  | .str z, P, m => P (signsOf z) m
  | _, _, _ => False
def vSeq (ve : VE) : VA := fun env m P => ve env m fun x m1 => itSeq x P m1
theorem DdAll.yat {K : PySem.W.Frag} {vs : List V} {ds : List D} (h : DdAll K G vs ds) {i : Nat} {x : V} {H H' : Hp} (y : YAt vs i H x H') : YD K G ds i H x H' := by
  obtain ⟨d, e, q⟩ := h.getV y.2
  exact ⟨d, e, .inl ⟨y.1, q⟩⟩
theorem i_seq {te : TE} {ve : VE} (he : SF c Γ te ve) : SI c Γ (iSeqV c.K te) (vSeq ve) := fun T G H S env σ m P R st hv k =>
  he T G H S env σ m _ _ st hv fun x m1 v G1 H1 p1 s1 st1 q1 => by
    cases q1 with
    | lst h1 h2 =>
      refine .inl ⟨_, _, rfl, SqL.of (st1.v _ _ h1), k _ m1 _ G1 H1 p1 s1 st1 ?_⟩
      rw [← h2.len]
      exact walk_list.mono (fun _ s => SqL.of (s _ _ h1)) fun i H x H' _ _ y => h2.yat y
    | tup h1 h2 =>
      refine .inr (.inl ⟨_, _, rfl, same_t st1.v h1.sq, k _ m1 _ G1 H1 p1 s1 st1 ?_⟩)
      rw [← h2.len]
      exact walk_tup.mono (fun _ s => same_t s h1.sq) fun i H x H' _ _ y => h2.yat y
    | str z =>
      refine .inr (.inr ⟨z, rfl, k _ m1 _ G1 H1 p1 s1 st1 ?_⟩)
      rw [show (signsOf z).length = z.cps.size by unfold signsOf; simp]
      refine walk_str.mono (fun _ _ => trivial) fun i H x H' _ _ y => ?_
      obtain ⟨rfl, c', ec, rfl⟩ := y
      refine ⟨.str ⟨#[c']⟩, ?_, .inl ⟨rfl, .str _⟩⟩
      unfold signsOf
      rw [List.getElem?_map, Array.getElem?_toList, ec]
      rfl
    | _ => exact p1.elim
def rangeD (lo : Int) (n : Nat) : List D := (List.range n).map fun (k : Nat) => .int (lo + (k : Int))
theorem rangeD_get {lo : Int} {n i : Nat} (h : i < n) : (rangeD lo n)[i]? = some (.int (lo + (i : Int))) := by
  unfold rangeD
  rw [List.getElem?_map, List.getElem?_range h]
  rfl
theorem rangeD_len {lo : Int} {n : Nat} : (rangeD lo n).length = n := by unfold rangeD; simp
def itRng : List D → (List D → Mst → Prop) → Mst → Prop
  | [.int j], P, m1 => (-(2 ^ 62) ≤ j ∧ j < 2 ^ 62) ∧ P (rangeD 0 j.toNat) m1
  | [.int i, .int j], P, m1 => (-(2 ^ 62) ≤ i ∧ i < 2 ^ 62 ∧ -(2 ^ 62) ≤ j ∧ j < 2 ^ 62) ∧ P (rangeD i (j - i).toNat) m1
  | _, _, _ => False
def vRng1 (va : VA) : VA := fun env m P => va env m fun xs m1 => ∃ j, xs = [.int j] ∧ itRng xs P m1
def vRng2 (va : VA) : VA := fun env m P => va env m fun xs m1 => ∃ i j, xs = [.int i, .int j] ∧ itRng xs P m1
def stepD (lo c : Int) (n : Nat) : List D := (List.range n).map fun (k : Nat) => .int (lo + (k : Int) * c)
def itRng3 : List D → (List D → Mst → Prop) → Mst → Prop
  | [.int i, .int j, .int c], P, m1 => ∃ n, RgC i j c n ∧ P (stepD i c n) m1
  | _, _, _ => False
def vRng3 (va : VA) : VA := fun env m P => va env m fun xs m1 => itRng3 xs P m1
theorem BoAll.inv1 {K : PySem.W.Frag} {d : D} {vs : List V} (h : DdAll K G vs [d]) : ∃ v, vs = [v] ∧ Dd K G v d := by
  cases h with | cons h t => cases t; exact ⟨_, rfl, h⟩
theorem BoAll.inv2 {K : PySem.W.Frag} {d e : D} {vs : List V} (h : DdAll K G vs [d, e]) : ∃ v u, vs = [v, u] ∧ Dd K G v d ∧ Dd K G u e := by
  cases h with | cons h t => cases t with | cons h2 t => cases t; exact ⟨_, _, rfl, h, h2⟩
theorem BoAll.inv3 {K : PySem.W.Frag} {d e f : D} {vs : List V} (h : DdAll K G vs [d, e, f]) : ∃ v u w, vs = [v, u, w] ∧ Dd K G v d ∧ Dd K G u e ∧ Dd K G w f := by
  cases h with | cons h t => cases t with | cons h2 t => cases t with | cons h3 t => cases t; exact ⟨_, _, _, rfl, h, h2, h3⟩
theorem Dd.intInv {K : PySem.W.Frag} {i : Int} (h : Dd K G v (.int i)) : v = .int i := by cases h; rfl
theorem i_rng1 {ta : TA} {va : VA} (ha : SG c Γ ta va) : SI c Γ (iRng1 ta) (vRng1 va) := fun T G H S env σ m P R st hv k =>
  ha T G H S env σ m (fun ds m1 => ∃ j, ds = [.int j] ∧ itRng ds P m1) _ st hv fun ds m1 vs G1 H1 p1 s1 st1 q1 => by
    obtain ⟨j, rfl, p1⟩ := p1
    obtain ⟨v, rfl, h⟩ := BoAll.inv1 q1
    obtain rfl := h.intInv
    have p1 : (-(2 ^ 62) ≤ j ∧ j < 2 ^ 62) ∧ P (rangeD 0 j.toNat) m1 := p1
    refine ⟨j, rfl, p1.1.1, p1.1.2, k _ m1 _ G1 H1 p1.2 s1 st1 ?_⟩
    rw [rangeD_len]
    exact walk_range.mono (fun _ _ => trivial) fun i H x H' hi _ y => ⟨_, rangeD_get hi, .inl ⟨y.1, by rw [y.2]; exact .int _⟩⟩
theorem i_rng3 {ta : TA} {va : VA} (ha : SG c Γ ta va) : SI c Γ (iRng3 ta) (vRng3 va) := fun T G H S env σ m P R st hv k =>
  ha T G H S env σ m _ _ st hv fun ds m1 vs G1 H1 p1 s1 st1 q1 => by
    unfold itRng3 at p1
    split at p1
    · rename_i i j s
      obtain ⟨v, u, w, rfl, h, h2, h3⟩ := BoAll.inv3 q1
      obtain rfl := h.intInv
      obtain rfl := h2.intInv
      obtain rfl := h3.intInv
      obtain ⟨n, hn, p⟩ := p1
      refine ⟨i, j, s, n, rfl, hn, k _ m1 _ G1 H1 p s1 st1 ?_⟩
      rw [show (stepD i s n).length = n by unfold stepD; simp]
      refine walk_rangeC.mono (fun _ _ => trivial) fun k H x H' hi _ y => ⟨.int (i + (k : Int) * s), ?_, .inl ⟨y.1, by rw [y.2]; exact .int _⟩⟩
      unfold stepD
      rw [List.getElem?_map, List.getElem?_range hi]
      rfl
    · exact p1.elim
def zipD (a b : List D) : List D := List.zipWith (fun x y => D.tup [x, y]) a b
theorem zipD_len (a b : List D) : (zipD a b).length = min a.length b.length := by unfold zipD; simp
def itZip : List D → (List D → Mst → Prop) → Mst → Prop
  | [.lst a, .lst b], P, m1 => P (zipD a b) m1
  | [.tup a, .tup b], P, m1 => P (zipD a b) m1
  | _, _, _ => False
def vZip (va : VA) : VA := fun env m P => va env m fun xs m1 => itZip xs P m1
theorem ypair_d {K : PySem.W.Frag} {xs ys : List V} {a b : List D} (h1 : DdAll K G xs a) (h2 : DdAll K G ys b) {i : Nat} {H : Hp} {x : V} {H' : Hp} (y : YPair (fun i => xs[i]?) (fun i => ys[i]?) i H x H') : YD K G (zipD a b) i H x H' := by
  obtain ⟨T, x1, y1, rfl, hT, rfl, ex, ey⟩ := y
  obtain ⟨d, ed, hd⟩ := h1.getV ex
  obtain ⟨e, ee, he⟩ := h2.getV ey
  refine ⟨.tup [d, e], ?_, .inr ⟨T, [x1, y1], [d, e], rfl, rfl, hT, rfl, .cons hd (.one he)⟩⟩
  unfold zipD
  rw [List.getElem?_zipWith, ed, ee]
theorem i_zip {ta : TA} {va : VA} (ha : SG c Γ ta va) : SI c Γ (RZ.iZipA c.K ta) (vZip va) := fun T G H S env σ m P R st hv k =>
  ha T G H S env σ m _ _ st hv fun ds m1 vs G1 H1 p1 s1 st1 q1 => by
    unfold itZip at p1
    split at p1
    · rename_i a b
      obtain ⟨v, u, rfl, h, h2⟩ := BoAll.inv2 q1
      cases h with
      | lst e1 l1 =>
        cases h2 with
        | lst e2 l2 =>
          refine ⟨_, _, _, _, rfl, .inl ⟨SqL.of (st1.v _ _ e1), SqL.of (st1.v _ _ e2), k _ m1 _ G1 H1 p1 s1 st1 ?_⟩⟩
          exact (walk_zip (by rw [zipD_len, l1.len, l2.len])).mono (fun _ s => ⟨SqL.of (s _ _ e1), SqL.of (s _ _ e2)⟩) fun i H x H' _ _ y => ypair_d l1 l2 y
    · rename_i a b
      obtain ⟨v, u, rfl, h, h2⟩ := BoAll.inv2 q1
      cases h with
      | tup e1 l1 =>
        cases h2 with
        | tup e2 l2 =>
          refine ⟨_, _, _, _, rfl, .inr ⟨same_t st1.v e1.sq, same_t st1.v e2.sq, k _ m1 _ G1 H1 p1 s1 st1 ?_⟩⟩
          exact (walk_zipT (by rw [zipD_len, l1.len, l2.len])).mono (fun _ s => ⟨same_t s e1.sq, same_t s e2.sq⟩) fun i H x H' _ _ y => ypair_d l1 l2 y
    · exact p1.elim
def enumD (a : List D) : List D := zipD (rangeD 0 a.length) a
theorem enumD_len (a : List D) : (enumD a).length = a.length := by unfold enumD; rw [zipD_len, rangeD_len, Nat.min_self]
def itEnum : List D → (List D → Mst → Prop) → Mst → Prop
  | [.lst a], P, m1 => P (enumD a) m1
  | [.tup a], P, m1 => P (enumD a) m1
  | [.str z], P, m1 => P (enumD (signsOf z)) m1
  | _, _, _ => False
def vEnum (va : VA) : VA := fun env m P => va env m fun xs m1 => itEnum xs P m1
theorem yenum_d {K : PySem.W.Frag} {xs : List V} {a : List D} (h1 : DdAll K G xs a) {i : Nat} {H : Hp} {x : V} {H' : Hp} (y : YPair (fun i => some (.int (i : Nat))) (fun i => xs[i]?) i H x H') : YD K G (enumD a) i H x H' := by
  obtain ⟨T, x1, y1, rfl, hT, rfl, ex, ey⟩ := y
  cases ex
  obtain ⟨d, ed, hd⟩ := h1.getV ey
  refine ⟨.tup [.int (i : Nat), d], ?_, .inr ⟨T, _, [.int (i : Nat), d], rfl, rfl, hT, rfl, .cons (.int _) (.one hd)⟩⟩
  have hi : i < a.length := (List.getElem?_eq_some_iff.mp ed).1
  unfold enumD zipD
  rw [List.getElem?_zipWith, rangeD_get hi, ed, Int.zero_add]
theorem i_enum {ta : TA} {va : VA} (ha : SG c Γ ta va) : SI c Γ (iEnumV c.K ta) (vEnum va) := fun T G H S env σ m P R st hv k =>
  ha T G H S env σ m _ _ st hv fun ds m1 vs G1 H1 p1 s1 st1 q1 => by
    unfold itEnum at p1
    split at p1
    · rename_i a
      obtain ⟨v, rfl, h⟩ := BoAll.inv1 q1
      cases h with
      | lst e1 l1 =>
        refine .inl ⟨_, _, rfl, .inl ⟨SqL.of (st1.v _ _ e1), k _ m1 _ G1 H1 p1 s1 st1 ?_⟩⟩
        rw [enumD_len, ← l1.len]
        exact walk_enum.mono (fun _ s => SqL.of (s _ _ e1)) fun i H x H' _ _ y => yenum_d l1 y
    · rename_i a
      obtain ⟨v, rfl, h⟩ := BoAll.inv1 q1
      cases h with
      | tup e1 l1 =>
        refine .inl ⟨_, _, rfl, .inr ⟨same_t st1.v e1.sq, k _ m1 _ G1 H1 p1 s1 st1 ?_⟩⟩
        rw [enumD_len, ← l1.len]
        exact walk_enumT.mono (fun _ s => same_t s e1.sq) fun i H x H' _ _ y => yenum_d l1 y
    · rename_i z
      obtain ⟨v, rfl, h⟩ := BoAll.inv1 q1
      cases h
      refine .inr ⟨z, rfl, k _ m1 _ G1 H1 p1 s1 st1 ?_⟩
      rw [enumD_len, show (signsOf z).length = z.cps.size by unfold signsOf; simp]
      refine walk_enumS.mono (fun _ _ => trivial) fun i H x H' hi _ y => ?_
      obtain ⟨T, c', rfl, hT, rfl, ec⟩ := y
      have es : (signsOf z)[i]? = some (.str ⟨#[c']⟩) := by
        unfold signsOf
        rw [List.getElem?_map, Array.getElem?_toList, ec]
        rfl
      refine ⟨.tup [.int (i : Nat), .str ⟨#[c']⟩], ?_, .inr ⟨T, _, _, rfl, rfl, hT, rfl, .cons (.int _) (.one (.str _))⟩⟩
      have hi2 : i < (signsOf z).length := (List.getElem?_eq_some_iff.mp es).1
      unfold enumD zipD
      rw [List.getElem?_zipWith, rangeD_get hi2, es, Int.zero_add]
    · exact p1.elim
def itRev : D → (List D → Mst → Prop) → Mst → Prop
  | .lst a, P, m1 => P a.reverse m1
  | .tup a, P, m1 => P a.reverse m1
  | _, _, _ => False
def vRev (ve : VE) : VA := fun env m P => ve env m fun x m1 => itRev x P m1
theorem yrev_d {K : PySem.W.Frag} {xs : List V} {a : List D} (h1 : DdAll K G xs a) {i : Nat} {H : Hp} {x : V} {H' : Hp} (hi : i < xs.length) (y : H' = H ∧ xs[xs.length - 1 - i]? = some x) : YD K G a.reverse i H x H' := by
  obtain ⟨d, ed, hd⟩ := h1.getV y.2
  refine ⟨d, ?_, .inl ⟨y.1, hd⟩⟩
  rw [h1.len] at hi ed
  rw [List.getElem?_reverse hi, ← ed]
theorem i_rev {te : TE} {ve : VE} (he : SF c Γ te ve) : SI c Γ (RT.iRevA c.K te) (vRev ve) := fun T G H S env σ m P R st hv k =>
  he T G H S env σ m _ _ st hv fun x m1 v G1 H1 p1 s1 st1 q1 => by
    cases q1 with
    | lst h1 h2 =>
      refine ⟨_, _, rfl, .inl ⟨SqL.of (st1.v _ _ h1), k _ m1 _ G1 H1 p1 s1 st1 ?_⟩⟩
      rw [List.length_reverse, ← h2.len]
      exact walk_rev.mono (fun _ s => SqL.of (s _ _ h1)) fun i H x H' hi _ y => yrev_d h2 hi y
    | tup h1 h2 =>
      rename_i a vs ds
      refine ⟨a, vs, rfl, .inr ⟨same_t st1.v h1.sq, k _ m1 _ G1 H1 p1 s1 st1 ?_⟩⟩
      rw [List.length_reverse, ← h2.len]
      exact ⟨fun i _ hi s => ⟨hi, vs, vs[vs.length - 1 - i]'(by omega), same_t s h1.sq, by simp [show vs.length - 1 - i < vs.length by omega]⟩, fun _ _ => Nat.le_refl _, fun i H x H' hi s y => yrev_d h2 hi ⟨y.1, y.2 vs (same_t s h1.sq)⟩⟩
    | _ => exact p1.elim
end
end Ps
namespace Ps
open PySem PySem.Spec PyProof.Rows L2
abbrev VG := D → Env → (Env → Prop) → Prop
abbrev VGs := List D → Env → (Env → Prop) → Prop
def vgName (i : Nat) : VG := fun d env P => P (env.set i (some d))
def vgNil : VGs := fun ds env P => ds = [] ∧ P env
def vgCons (g : VG) (gs : VGs) : VGs := fun ds env P => match ds with
  | d :: r => g d env fun e => gs r e P
  | [] => False
def vgTup (n : Nat) (gs : VGs) : VG := fun d env P => match d with
  | .tup ds => ds.length = n ∧ gs ds env P
  | _ => False
def vgTupU (n : Nat) (gs : VGs) : VG := fun d env P => match d with
  | .tup ds => ds.length = n ∧ gs ds env P
  | .lst ds => ds.length = n ∧ gs ds env P
  | _ => False
def wipeE (env : Env) : List Nat → Env
  | [] => env
  | v :: vs => (wipeE env vs).set v none
def lcD (items : List D) (vg : VG) (vt : VT) (ve : VE) (vs : List Nat) (env : Env) (m1 : Mst) (P : D → Mst → Prop) : Prop := ∃ W : Nat → List D → Mst → Prop, W 0 [] m1 ∧
  (∀ i acc m' d, W i acc m' → items[i]? = some d → vg d (wipeE env vs) fun e1 => vt e1 m' fun b m2 => if b = true then ve e1 m2 fun y m3 => acc.length < sizeLine ∧ W (i + 1) (acc ++ [y]) m3 else W (i + 1) acc m2) ∧
  ∀ acc m', W items.length acc m' → P (.lst acc) m'
def vLc (vi : VA) (vg : VG) (vt : VT) (ve : VE) (vs : List Nat) : VE := fun env m P => vi env m fun items m1 => lcD items vg vt ve vs env m1 P
def vNext : VS := fun V env m => V.nx env m
def vBrk : VS := fun V env m => V.bk env m
def vCont : VS := fun V env m => V.ct env m
def vSeqS (a b : VS) : VS := fun V env m => a { V with nx := b V } env m
def vAsg (ve : VE) (vg : VG) : VS := fun V env m => ve env m fun d m1 => vg d env fun e1 => V.nx e1 m1
def vDrop (ve : VE) : VS := fun V env m => ve env m fun _ m1 => V.nx env m1
def vRet (ve : VE) : VS := fun V env m => ve env m V.rt
def vRetN : VS := fun V _ m => V.rt .non m
def vIf (vt : VT) (a b : VS) : VS := fun V env m => vt env m fun x m1 => if x = true then a V env m1 else b V env m1
def forD (ws : List Nat) (items : List D) (vg : VG) (vb : VS) (V : VEnds) (env : Env) (m1 : Mst) : Prop := ∃ W : Nat → Env → Mst → Prop, W 0 (wipeE env ws) m1 ∧
  (∀ i e m' d, W i e m' → items[i]? = some d → vg d e fun e1 => vb { V with nx := fun e2 m2 => W (i + 1) (wipeE e2 ws) m2, ct := fun e2 m2 => W (i + 1) (wipeE e2 ws) m2, bk := fun e2 m2 => V.nx (wipeE e2 ws) m2 } e1 m') ∧ ∀ e m', W items.length e m' → V.nx e m'
def vFor (ws : List Nat) (vi : VA) (vg : VG) (vb : VS) : VS := fun V env m => vi env m fun items m1 => forD ws items vg vb V env m1
def vWhile (ws : List Nat) (vt : VT) (vb : VS) : VS := fun V env m => ∃ W : Nat → Env → Mst → Prop, (∃ n, W n (wipeE env ws) m) ∧
  ∀ n e m', W n e m' → vt e m' fun b m1 => if b = true then vb { V with nx := fun e2 m2 => ∃ n', n' < n ∧ W n' (wipeE e2 ws) m2, ct := fun e2 m2 => ∃ n', n' < n ∧ W n' (wipeE e2 ws) m2, bk := fun e2 m2 => V.nx (wipeE e2 ws) m2 } e m1 else V.nx e m1
def vAug (i : Nat) (f : D → D → (D → Prop) → Prop) (ve : VE) : VS := fun V env m => ∃ x, env[i]? = some (some x) ∧ ve env m fun y m1 => f x y fun z => V.nx (env.set i (some z)) m1
def vPar (i j : Nat) (va : VA) : VS := fun V env m => va env m fun ds m1 => match ds with
  | [d, e] => V.nx ((env.set i (some d)).set j (some e)) m1
  | _ => False
def vMut (i : Nat) (f : List D → List D → (List D → D → Prop) → Prop) (va : VA) : VS := fun V env m => ∃ ds, env[i]? = some (some (.lst ds)) ∧ va env m fun xs m1 => f ds xs fun ds' z => V.nx (env.set i (some (.lst ds'))) m1
def dKey : D → Option Key
  | .int i => some (.inl i)
  | .str s => some (.inr s)
  | _ => none
def dput (kvs : List (Key × D)) (k : Key) (d : D) : List (Key × D) := if (kvs.any fun kv => decide (kv.1 = k)) = true then kvs.map (fun kv => if kv.1 = k then (kv.1, d) else kv) else kvs ++ [(k, d)]
def dget (kvs : List (Key × D)) (k : Key) : Option D := (kvs.find? fun kv => decide (kv.1 = k)).map (·.2)
def vPut (i : Nat) (ve vk : VE) : VS := fun V env m => ve env m fun d m1 => ∃ x, env[i]? = some (some x) ∧ vk env m1 fun y m2 => match x, y with
  | .lst ds, .int k => ∃ j, ixN ds.length k = some j ∧ V.nx (env.set i (some (.lst (ds.set j d)))) m2
  | .dic kds, y => ∃ k, dKey y = some k ∧ kds.length < sizeLine ∧ V.nx (env.set i (some (.dic (dput kds k d)))) m2
  | _, _ => False
def vRaise (VW : XW) (C : Addr) (fs : List (Str × D)) : VS := fun _ env m => VW C fs env m
section
variable {c : JC} {Γ Γ1 Γ2 Γn Γb Γc : List OT} {G G' H H' : Hp} {T S S1 S2 R : List (Addr × HO)} {env : Env} {σ : L2.St} {m : Mst} {v : V} {d : D} {t : OT} {i j : Nat} {is : List Nat}
theorem Slots.setF {K : PySem.W.Frag} (h : Slots K G Γ S env σ) : ∀ {i : Nat} {o : Option D} {o' : Option V}, Γ[i]? = some .F → (o = none ∨ ∃ d v, o = some d ∧ o' = some v ∧ Dd K G v d) → Slots K G Γ S (env.set i o) (σ.set i o') := by
  induction h with
  | nil => intro i o o' h1 h2; simp at h1
  | @no t0 Γ S env o0 σ h ih =>
    intro i o o' h1 h2
    cases i with
    | zero =>
      simp at h1
      subst h1
      rw [List.set_cons_zero, List.set_cons_zero]
      rcases h2 with rfl | ⟨d, v, rfl, rfl, q⟩
      · exact .no h
      · exact .yes (S1 := []) ⟨rfl, q⟩ h
    | succ i =>
      rw [List.set_cons_succ, List.set_cons_succ]
      exact .no (ih (by simpa using h1) h2)
  | @yes t0 Γ S1 S env d0 v0 σ h hs ih =>
    intro i o o' h1 h2
    cases i with
    | zero =>
      simp at h1
      subst h1
      obtain ⟨rfl, h⟩ := h
      rw [List.set_cons_zero, List.set_cons_zero]
      rcases h2 with rfl | ⟨d, v, rfl, rfl, q⟩
      · exact .no hs
      · exact .yes (S1 := []) ⟨rfl, q⟩ hs
    | succ i =>
      rw [List.set_cons_succ, List.set_cons_succ]
      exact .yes h (ih (by simpa using h1) h2)
theorem Slots.wipeF {K : PySem.W.Frag} (h : Slots K G Γ S env σ) : ∀ {vs : List Nat}, (vs.all fun i => decide (Γ[i]? = some .F)) = true → Slots K G Γ S (wipeE env vs) (wipe σ vs)
  | [], _ => h
  | v :: vs, e => by
    rw [List.all_cons, Bool.and_eq_true] at e
    exact (Slots.wipeF h e.2).setF (of_decide_eq_true e.1) (.inl rfl)
theorem wipe_in {σ : L2.St} {i : Nat} : ∀ {vs : List Nat}, i ∈ vs → i < σ.length → (wipe σ vs)[i]? = some none
  | [], h, _ => absurd h (by simp)
  | v :: vs, h, hl => by
    unfold wipe
    by_cases e : v = i
    · subst e
      rw [List.getElem?_set_self (by rw [wipe_length]; exact hl)]
    · rw [List.getElem?_set_ne e]
      exact wipe_in (by rcases List.mem_cons.mp h with q | q; exact absurd q.symm e; exact q) hl
theorem wipe_eq {σ σ' : L2.St} {vs : List Nat} (hl : σ'.length = σ.length) (h : ∀ j, j ∉ vs → σ'[j]? = σ[j]?) : wipe σ' vs = wipe σ vs := by
  refine List.ext_getElem? fun j => ?_
  by_cases e : j ∈ vs
  · by_cases hj : j < σ.length
    · rw [wipe_in e (by omega), wipe_in e hj]
    · rw [List.getElem?_eq_none (by rw [wipe_length]; omega), List.getElem?_eq_none (by rw [wipe_length]; omega)]
  · rw [wipe_out e, wipe_out e, h j e]
theorem wipe_wipe (σ : L2.St) (vs : List Nat) : wipe (wipe σ vs) vs = wipe σ vs := wipe_eq (wipe_length σ vs) fun j h => wipe_out h
def SGt (c : JC) (Γ : List OT) (is : List Nat) (tg : TG) (vg : VG) : Prop := ∀ (G H : Hp) (S : List (Addr × HO)) (env : Env) (σ : L2.St) (v : V) (d : D) (P : Env → Prop) (Q : L2.St → Hp → Prop), Slots c.K G Γ S env σ → Same G H → Dd c.K G v d → vg d env P →
  (∀ env' σ', P env' → Slots c.K G Γ S env' σ' → σ'.length = σ.length → (∀ j, j ∉ is → σ'[j]? = σ[j]?) → Q σ' H) → tg v σ H Q
def SGs (c : JC) (Γ : List OT) (is : List Nat) (tg : TGs) (vg : VGs) : Prop := ∀ (G H : Hp) (S : List (Addr × HO)) (env : Env) (σ : L2.St) (vs : List V) (ds : List D) (P : Env → Prop) (Q : L2.St → Hp → Prop), Slots c.K G Γ S env σ → Same G H → DdAll c.K G vs ds → vg ds env P →
  (∀ env' σ', P env' → Slots c.K G Γ S env' σ' → σ'.length = σ.length → (∀ j, j ∉ is → σ'[j]? = σ[j]?) → Q σ' H) → tg vs σ H Q
theorem tg_name (h : Γ[i]? = some .F) (hi : i ∈ is) : SGt c Γ is (gName i) (vgName i) := fun G H S env σ v d P Q sl sg hd hv k =>
  k _ _ hv (sl.setF h (.inr ⟨d, v, rfl, rfl, hd⟩)) (List.length_set ..) fun j hj => List.getElem?_set_ne (fun e => hj (by rw [← e]; exact hi))
theorem tg_nil : SGs c Γ is gNil vgNil := fun G H S env σ vs ds P Q sl sg hd hv k => by
  obtain ⟨rfl, p⟩ := hv
  cases hd
  exact ⟨rfl, k env σ p sl rfl fun _ _ => rfl⟩
theorem tg_cons {g : TG} {gs : TGs} {vg : VG} {vgs : VGs} (h : SGt c Γ is g vg) (t : SGs c Γ is gs vgs) : SGs c Γ is (gCons g gs) (vgCons vg vgs) := fun G H S env σ vs ds P Q sl sg hd hv k => by
  cases hd with
  | nil => exact hv.elim
  | cons h1 h2 =>
    exact ⟨_, _, rfl, h G H S env σ _ _ _ _ sl sg h1 hv fun e1 σ1 p1 sl1 l1 n1 => t G H S e1 σ1 _ _ _ _ sl1 sg h2 p1 fun e2 σ2 p2 sl2 l2 n2 => k e2 σ2 p2 sl2 (l2.trans l1) fun j hj => (n2 j hj).trans (n1 j hj)⟩
theorem tg_tup {gs : TGs} {vgs : VGs} {n : Nat} (t : SGs c Γ is gs vgs) : SGt c Γ is (gTup c.K n gs) (vgTup n vgs) := fun G H S env σ v d P Q sl sg hd hv k => by
  cases hd with
  | tup h1 h2 => exact ⟨_, _, rfl, same_t sg h1.sq, by rw [h2.len]; exact hv.1, t G H S env σ _ _ _ _ sl sg h2 hv.2 k⟩
  | _ => exact hv.elim
theorem tg_tupU {gs : TGs} {vgs : VGs} {n : Nat} (t : SGs c Γ is gs vgs) : SGt c Γ is (gTupU c.K n gs) (vgTupU n vgs) := fun G H S env σ v d P Q sl sg hd hv k => by
  cases hd with
  | tup h1 h2 => exact w_gtT (same_t sg h1.sq) (by rw [h2.len]; exact hv.1) (t G H S env σ _ _ _ _ sl sg h2 hv.2 k)
  | lst h1 h2 => exact w_gtL (SqL.of (sg _ _ h1)) (by rw [h2.len]; exact hv.1) (t G H S env σ _ _ _ _ sl sg h2 hv.2 k)
  | _ => exact hv.elim
theorem Stx.item (st : Stx c Γ G H T S env σ m) {ds : List D} {G0 : Hp} (s0 : Same G0 G) {x : V} (y : YD c.K G0 ds i H x H') : ∃ d G', ds[i]? = some d ∧ Same G G' ∧ Stx c Γ G' H' T S env σ m ∧ Dd c.K G' x d := by
  obtain ⟨d, e, q⟩ := y
  rcases q with ⟨rfl, q⟩ | ⟨p, vs, es, rfl, rfl, hp, rfl, q⟩
  · exact ⟨d, G, e, Same.refl G, st, q.mono s0⟩
  · obtain ⟨st', s⟩ := st.newS (o := .tup vs) hp
    exact ⟨.tup es, _, e, s, st', .tup (.inl upd_same) (q.mono (s0.trans s))⟩
theorem Stx.push {acc : List V} {D : Addr} {y : V} (st : Stx c Γ G H ((D, .lst acc) :: T) S env σ m) : H D = some (.lst acc) ∧ Stx c Γ G (upd H D (.lst (acc ++ [y]))) ((D, .lst (acc ++ [y])) :: T) S env σ m := by
  obtain ⟨s, C, w, a, z⟩ := st
  exact ⟨w.hd, s, C, w.put, a, z⟩
theorem Stx.slots {env' : Env} {σ' : L2.St} (st : Stx c Γ G H T S env σ m) (z : Slots c.K G Γ S env' σ') : Stx c Γ G H T S env' σ' m := by
  obtain ⟨s, C, w, a, _⟩ := st
  exact ⟨s, C, w, a, z⟩
theorem s_lc {wi : TI} {vi : VA} {tg : TG} {vg : VG} {tt : TT} {vt : VT} {te : TE} {ve : VE} {vs : List Nat} (hi : SI c Γ wi vi) (hF : (vs.all fun i => decide (Γ[i]? = some .F)) = true) (hg : SGt c Γ vs tg vg) (ht : ST c Γ tt vt) (he : SF c Γ te ve) :
    SO c Γ (tLc wi tg tt te vs) (vLc vi vg vt ve vs) := fun T G H S env σ m P Q st hv k =>
  hi T G H S env σ m _ _ st hv fun items m1 J G1 H1 p1 s1 st1 wk => by
    obtain ⟨W, w0, wn, wd⟩ := p1
    intro D hD
    refine lc_it wk (fun i H' => ∃ G2 accV acc m', Same G1 G2 ∧ Stx c Γ G2 H' ((D, .lst accV) :: T) S env σ m' ∧ DdAll c.K G2 accV acc ∧ W i acc m') ⟨G1, [], [], m1, Same.refl _, st1.new hD, .nil, w0⟩ (fun i H' _ p => ?_) (fun i x Hi H' hi p y => ?_) (fun H' p => ?_)
    · obtain ⟨G2, accV, acc, m', s2, st2, _⟩ := p
      exact s2.trans st2.v
    · obtain ⟨G2, accV, acc, m', s2, st2, hacc, hw⟩ := p
      obtain ⟨d, G3, ed, s3, st3, hd⟩ := st2.item s2 y
      obtain ⟨q0, C0, q1, q2, z3⟩ := id st3
      refine hg G3 H' S (wipeE env vs) (wipe σ vs) x d _ _ (z3.wipeF hF) st3.v hd (wn i acc m' d hw ed) fun e1 σ1 pe sl1 l1 n1 => ⟨?_, ?_⟩
      · rw [wipe_eq l1 n1, wipe_wipe]
      · have st4 := st3.slots sl1
        refine ht _ G3 H' S e1 σ1 m' _ _ st4 pe fun b m2 G4 H4 S4 p4 s4 st5 => ?_
        cases b with
        | true =>
          rw [if_pos rfl] at p4 ⊢
          refine he _ G4 H4 S e1 σ1 m2 _ _ st5.dropT p4 fun y m3 u G5 H5 p5 s5 st6 hy => ?_
          have st7 := st6.slots (z3.mono (s4.trans s5))
          refine ⟨accV, st7.push (y := u).1, by rw [hacc.len]; exact p5.1, G5, accV ++ [u], acc ++ [y], m3, s2.trans (s3.trans (s4.trans s5)), st7.push.2, ?_, p5.2⟩
          exact (hacc.mono (s3.trans (s4.trans s5))).app (.one hy)
        | false =>
          rw [if_neg Bool.false_ne_true] at p4 ⊢
          exact ⟨G4, accV, acc, m2, s2.trans (s3.trans s4), st5.dropT.slots (z3.mono s4), hacc.mono (s3.trans s4), p4⟩
    · obtain ⟨G2, accV, acc, m', s2, st2, hacc, hw⟩ := p
      exact k (.lst acc) m' (.ref D) G2 H' [(D, .lst accV)] (wd acc m' hw) (s1.trans s2) st2 ⟨D, accV, rfl, rfl, hacc⟩
structure EndsOk (c : JC) (t : OT) (Γn Γb Γc : List OT) (Gs : Hp) (De : Ends) (Ve : VEnds) : Prop where
  nx : ∀ (G H : Hp) (S : List (Addr × HO)) (env : Env) (σ : L2.St) (m : Mst), Same Gs G → Stt c Γn G H S env σ m → Ve.nx env m → De.nx σ H
  rt : ∀ (G H : Hp) (S1 C : List (Addr × HO)) (m : Mst) (v : V) (d : D), Same Gs G → Same c.G0 G → Wd (S1 ++ (C ++ c.R)) G H → Amb c.K G m C → Own c.K G t S1 v d → Ve.rt d m → De.rt v H
  bk : ∀ (G H : Hp) (S : List (Addr × HO)) (env : Env) (σ : L2.St) (m : Mst), Same Gs G → Stt c Γb G H S env σ m → Ve.bk env m → De.bk σ H
  ct : ∀ (G H : Hp) (S : List (Addr × HO)) (env : Env) (σ : L2.St) (m : Mst), Same Gs G → Stt c Γc G H S env σ m → Ve.ct env m → De.ct σ H
theorem EndsOk.up {Gs G : Hp} {De : Ends} {Ve : VEnds} (s : Same Gs G) (e : EndsOk c t Γn Γb Γc Gs De Ve) : EndsOk c t Γn Γb Γc G De Ve :=
  ⟨fun G H S env σ m q => e.nx G H S env σ m (s.trans q), fun G H S1 C m v d q => e.rt G H S1 C m v d (s.trans q), fun G H S env σ m q => e.bk G H S env σ m (s.trans q), fun G H S env σ m q => e.ct G H S env σ m (s.trans q)⟩
def SS (c : JC) (t : OT) (Γ Γn Γb Γc : List OT) (ts : TS) (vs : VS) : Prop := ∀ (G H : Hp) (S : List (Addr × HO)) (env : Env) (σ : L2.St) (m : Mst) (De : Ends) (Ve : VEnds), EndsOk c t Γn Γb Γc G De Ve → Stt c Γ G H S env σ m → vs Ve env m → ts De σ H
theorem x_next : SS c t Γ Γ Γb Γc tNext vNext := fun G H S env σ m De Ve e st hv => e.nx G H S env σ m (Same.refl _) st hv
theorem x_seq {a b : TS} {x y : VS} (ha : SS c t Γ Γ1 Γb Γc a x) (hb : SS c t Γ1 Γn Γb Γc b y) : SS c t Γ Γn Γb Γc (tSeq a b) (vSeqS x y) := fun G H S env σ m De Ve e st hv =>
  ha G H S env σ m { De with nx := b De } { Ve with nx := y Ve } ⟨fun G H S env σ m s st hv => hb G H S env σ m De Ve (e.up s) st hv, e.rt, e.bk, e.ct⟩ st hv
theorem x_retF {te : TE} {ve : VE} (h : SF c Γ te ve) : SS c .F Γ Γn Γb Γc (tRet te) (vRet ve) := fun G H S env σ m De Ve e st hv =>
  h [] G H S env σ m _ _ st hv fun d m' v G' H' p s st' q => by
    obtain ⟨s', C, w, a, z⟩ := st'
    exact e.rt G' H' [] C m' v d s s' w.dropL.dropL a ⟨rfl, q⟩ p
theorem x_retO {te : TE} {ve : VE} (h : SO c Γ te ve) : SS c .O Γ Γn Γb Γc (tRet te) (vRet ve) := fun G H S env σ m De Ve e st hv =>
  h [] G H S env σ m _ _ st hv fun d m' v G' H' S1 p s st' q => by
    obtain ⟨s', C, w, a, z⟩ := st'
    rw [List.append_nil] at w
    exact e.rt G' H' S1 C m' v d s s' w.dropM a q p
theorem x_retV (hi : Γ[i]? = some t) : SS c t Γ Γn Γb Γc (tRet (tVar i)) (vRet (vVar i)) := fun G H S env σ m De Ve e st hv => by
  obtain ⟨d, ed, p⟩ := hv
  obtain ⟨s', C, w, a, z⟩ := st
  obtain ⟨v, A1, A2, A3, e1, rfl, e3, e4⟩ := z.at ed hi
  refine ⟨v, e1, e.rt G H A2 C m v d (Same.refl _) s' ?_ a e3 p⟩
  have w1 : Wd (A1 ++ (A2 ++ (A3 ++ (C ++ c.R)))) G H := by
    rw [List.nil_append, List.append_assoc, List.append_assoc] at w
    exact w
  exact w1.dropL.dropM
theorem own_non {K : PySem.W.Frag} : Own K G t [] .non .non := by cases t <;> exact ⟨rfl, .non⟩
theorem x_if {tt : TT} {vt : VT} {a b : TS} {x y : VS} (ht : ST c Γ tt vt) (ha : SS c t Γ Γn Γb Γc a x) (hb : SS c t Γ Γn Γb Γc b y) : SS c t Γ Γn Γb Γc (tIfS tt a b) (vIf vt x y) := fun G H S env σ m De Ve e st hv =>
  ht [] G H S env σ m _ _ st hv fun q m1 G1 H1 S1 p1 s1 st1 => by
    cases q with
    | true =>
      rw [if_pos rfl] at p1 ⊢
      exact ha G1 H1 S env σ m1 De Ve (e.up s1) st1.drop p1
    | false =>
      rw [if_neg Bool.false_ne_true] at p1 ⊢
      exact hb G1 H1 S env σ m1 De Ve (e.up s1) st1.drop p1
theorem Stt.weak (hl : Γ1.length = Γ.length) (hz : (Γ.zip Γ1).all (fun p => leO p.1 p.2) = true) (st : Stt c Γ G H S env σ m) : ∃ G' S', Same G G' ∧ Stt c Γ1 G' H S' env σ m := by
  obtain ⟨s, C, w, a, z⟩ := st
  obtain ⟨G', S', s', w', z'⟩ := z.weak (Same.refl G) hl hz w
  exact ⟨G', S', s', s.trans s', C, w', a.mono s', z'⟩
theorem x_pre {a : TS} {x : VS} (h : SS c t Γ1 Γn Γb Γc a x) (hl : Γ1.length = Γ.length := by rfl) (hz : (Γ.zip Γ1).all (fun p => leO p.1 p.2) = true := by rfl) : SS c t Γ Γn Γb Γc a x := fun G H S env σ m De Ve e st hv => by
  obtain ⟨G', S', s, st'⟩ := st.weak hl hz
  exact h G' H S' env σ m De Ve (e.up s) st' hv
theorem x_post {a : TS} {x : VS} (h : SS c t Γ Γ1 Γb Γc a x) (hl : Γn.length = Γ1.length := by rfl) (hz : (Γ1.zip Γn).all (fun p => leO p.1 p.2) = true := by rfl) : SS c t Γ Γn Γb Γc a x := fun G H S env σ m De Ve e st hv =>
  h G H S env σ m De Ve ⟨fun G H S env σ m s st hv => by
    obtain ⟨G', S', s', st'⟩ := st.weak hl hz
    exact e.nx G' H S' env σ m (s.trans s') st' hv, e.rt, e.bk, e.ct⟩ st hv
theorem Slots.wipe1 {K : PySem.W.Frag} (h : Slots K G Γ S env σ) {i : Nat} (hi : i < env.length) {t' : OT} (w : Wd (S ++ R) G H) : ∃ S', Wd (S' ++ R) G H ∧ Slots K G (Γ.set i t') S' (env.set i none) σ := by
  obtain ⟨S1, S2, S3, rfl, q⟩ := h.put hi
  refine ⟨S1 ++ ([] ++ S3), ?_, ?_⟩
  · rw [List.append_assoc, List.append_assoc] at w
    rw [List.append_assoc, List.nil_append]
    exact w.dropM
  · have q2 := q G [] t' none (σ[i]'(by rw [h.len.1]; exact hi)) (Same.refl G) (.inl ⟨rfl, rfl⟩)
    rw [List.set_getElem_self] at q2
    exact q2
def wipeΓ (Γ : List OT) : List Nat → List OT
  | [] => Γ
  | v :: vs => (wipeΓ Γ vs).set v .F
theorem wipeE_len (env : Env) : ∀ vs : List Nat, (wipeE env vs).length = env.length
  | [] => rfl
  | v :: vs => by unfold wipeE; rw [List.length_set, wipeE_len env vs]
theorem Slots.wipes {K : PySem.W.Frag} (h : Slots K G Γ S env σ) (w : Wd (S ++ R) G H) : ∀ {vs : List Nat}, (vs.all fun i => decide (i < Γ.length)) = true → ∃ S', Wd (S' ++ R) G H ∧ Slots K G (wipeΓ Γ vs) S' (wipeE env vs) σ
  | [], _ => ⟨S, w, h⟩
  | v :: vs, e => by
    rw [List.all_cons, Bool.and_eq_true] at e
    obtain ⟨S', w', h'⟩ := Slots.wipes h w e.2
    exact h'.wipe1 (by rw [wipeE_len, ← h.len.2]; exact of_decide_eq_true e.1) w'
theorem Stx.wipes (st : Stt c Γ G H S env σ m) {ws : List Nat} (hv : (ws.all fun i => decide (i < Γ.length)) = true) : ∃ S', Stt c (wipeΓ Γ ws) G H S' (wipeE env ws) σ m := by
  obtain ⟨s, C, w, a, z⟩ := st
  obtain ⟨S', w', z'⟩ := z.wipes w hv
  exact ⟨S', s, C, w', a, z'⟩
theorem x_for {Γ' : List OT} {ws : List Nat} {wi : TI} {vi : VA} {tg : TG} {vg : VG} {b : TS} {y : VS} (hi : SI c Γ wi vi) (hg : SGt c Γ' is tg vg) (hb : SS c t Γ' Γ' Γ' Γ' b y) (hw : wipeΓ Γ ws = Γ' := by rfl) (hw' : wipeΓ Γ' ws = Γ' := by rfl)
    (hv : (ws.all fun i => decide (i < Γ.length)) = true := by rfl) (hv' : (ws.all fun i => decide (i < Γ'.length)) = true := by rfl) : SS c t Γ Γ' Γb Γc (tFor wi tg b) (vFor ws vi vg y) := fun G H S env σ m De Ve e st hv0 =>
  hi [] G H S env σ m _ _ st hv0 fun items m1 J G1 H1 p1 s1 st1 wk => by
    obtain ⟨W, w0, wn, wd⟩ := p1
    obtain ⟨S1, st1⟩ := Stx.wipes st1 hv
    rw [hw] at st1
    have wp : ∀ {G H : Hp} {S : List (Addr × HO)} {env : Env} {σ : L2.St} {m : Mst}, Stt c Γ' G H S env σ m → ∃ S', Stt c Γ' G H S' (wipeE env ws) σ m := fun st => by
      have q := Stx.wipes st hv'
      rw [hw'] at q
      exact q
    refine for_it wk (fun i σ H' => ∃ G2 S2 env2 m2, Same G1 G2 ∧ Stt c Γ' G2 H' S2 env2 σ m2 ∧ W i env2 m2) ⟨G1, S1, _, m1, Same.refl _, st1, w0⟩ (fun i σ H' _ p => ?_) (fun i x σ Hi H' hi p y => ?_) (fun σ H' p => ?_)
    · obtain ⟨G2, S2, env2, m2, s2, st2, _⟩ := p
      exact s2.trans st2.v
    · obtain ⟨G2, S2, env2, m2, s2, st2, hw⟩ := p
      obtain ⟨d, G3, ed, s3, st3, hd⟩ := st2.item s2 y
      obtain ⟨q0, C0, q1, q2, z3⟩ := id st3
      refine hg G3 H' S2 env2 σ x d _ _ z3 st3.v hd (wn i env2 m2 d hw ed) fun e1 σ1 pe sl1 _ _ => ?_
      have up : Same G G3 := s1.trans (s2.trans s3)
      exact hb G3 H' S2 e1 σ1 m2 _ { Ve with nx := fun e2 m2 => W (i + 1) (wipeE e2 ws) m2, ct := fun e2 m2 => W (i + 1) (wipeE e2 ws) m2, bk := fun e2 m2 => Ve.nx (wipeE e2 ws) m2 } ⟨fun G H S env σ m s st hv => by
        obtain ⟨S', st'⟩ := wp st
        exact ⟨G, S', _, m, s2.trans (s3.trans s), st', hv⟩, (e.up up).rt, fun G H S env σ m s st hv => by
        obtain ⟨S', st'⟩ := wp st
        exact (e.up up).nx G H S' _ σ m s st' hv, fun G H S env σ m s st hv => by
        obtain ⟨S', st'⟩ := wp st
        exact ⟨G, S', _, m, s2.trans (s3.trans s), st', hv⟩⟩ (st3.slots sl1) pe
    · obtain ⟨G2, S2, env2, m2, s2, st2, hw⟩ := p
      exact e.nx G2 H' S2 env2 σ m2 (s1.trans s2) st2 (wd env2 m2 hw)
theorem x_while {Γ' : List OT} {ws : List Nat} {tt : TT} {vt : VT} {b : TS} {y : VS} (ht : ST c Γ' tt vt) (hb : SS c t Γ' Γ' Γ' Γ' b y) (hw : wipeΓ Γ ws = Γ' := by rfl) (hw' : wipeΓ Γ' ws = Γ' := by rfl)
    (hv : (ws.all fun i => decide (i < Γ.length)) = true := by rfl) (hv' : (ws.all fun i => decide (i < Γ'.length)) = true := by rfl) : SS c t Γ Γ' Γb Γc (tWhile tt b) (vWhile ws vt y) := fun G H S env σ m De Ve e st hv0 => by
  obtain ⟨W, ⟨n0, w0⟩, wn⟩ := hv0
  obtain ⟨S1, st1⟩ := Stx.wipes st hv
  rw [hw] at st1
  have wp : ∀ {G H : Hp} {S : List (Addr × HO)} {env : Env} {σ : L2.St} {m : Mst}, Stt c Γ' G H S env σ m → ∃ S', Stt c Γ' G H S' (wipeE env ws) σ m := fun st => by
    have q := Stx.wipes st hv'
    rw [hw'] at q
    exact q
  refine ⟨fun n σ H' => ∃ G2 S2 env2 m2, Same G G2 ∧ Stt c Γ' G2 H' S2 env2 σ m2 ∧ W n env2 m2, ⟨n0, G, S1, _, m, Same.refl _, st1, w0⟩, ?_⟩
  rintro n σ H' ⟨G2, S2, env2, m2, s2, st2, hw⟩
  refine ht [] G2 H' S2 env2 σ m2 _ _ st2 (wn n env2 m2 hw) fun q m3 G3 H3 S3 p3 s3 st3 => ?_
  have up : Same G G3 := s2.trans s3
  cases q with
  | true =>
    rw [if_pos rfl] at p3 ⊢
    refine ⟨fun σ H' => ∃ n', n' < n ∧ ∃ G2 S2 env2 m2, Same G G2 ∧ Stt c Γ' G2 H' S2 env2 σ m2 ∧ W n' env2 m2, fun σ' H' h => h, ?_⟩
    exact hb G3 H3 S2 env2 σ m3 _ { Ve with nx := fun e2 m2 => ∃ n', n' < n ∧ W n' (wipeE e2 ws) m2, ct := fun e2 m2 => ∃ n', n' < n ∧ W n' (wipeE e2 ws) m2, bk := fun e2 m2 => Ve.nx (wipeE e2 ws) m2 } ⟨fun G H S env σ m s st ⟨n', l, hv⟩ => by
      obtain ⟨S', st'⟩ := wp st
      exact ⟨n', l, G, S', _, m, up.trans s, st', hv⟩, (e.up up).rt, fun G H S env σ m s st hv => by
      obtain ⟨S', st'⟩ := wp st
      exact (e.up up).nx G H S' _ σ m s st' hv, fun G H S env σ m s st ⟨n', l, hv⟩ => by
      obtain ⟨S', st'⟩ := wp st
      exact ⟨n', l, G, S', _, m, up.trans s, st', hv⟩⟩ st3.drop p3
  | false =>
    rw [if_neg Bool.false_ne_true] at p3 ⊢
    exact e.nx G3 H3 S2 env2 σ m3 up st3.drop p3
theorem Stx.put (st : Stx c Γ G H S1 S env σ m) (hi : i < Γ.length) (q : Own c.K G t S1 v d) : ∃ S', Stt c (Γ.set i t) G H S' (env.set i (some d)) (σ.set i (some v)) m := by
  obtain ⟨s, C, w, a, z⟩ := st
  obtain ⟨A1, A2, A3, rfl, p⟩ := z.put (i := i) (by rw [← z.len.2]; exact hi)
  refine ⟨A1 ++ (S1 ++ A3), s, C, ?_, a, p G S1 t (some d) (some v) (Same.refl G) (.inr ⟨d, v, rfl, rfl, q⟩)⟩
  rw [List.append_assoc, List.append_assoc] at w
  have w2 : Wd (A1 ++ (S1 ++ (A2 ++ (A3 ++ (C ++ c.R))))) G H := w.perm (List.perm_append_comm_assoc A1 S1 _)
  rw [List.nil_append, List.append_assoc, List.append_assoc]
  rw [← List.append_assoc] at w2
  have w3 := w2.dropM
  rw [List.append_assoc] at w3
  exact w3
theorem x_asgF {te : TE} {ve : VE} (h : SF c Γ te ve) (hi : i < Γ.length := by decide) : SS c t Γ (Γ.set i .F) Γb Γc (tAsg te (gName i)) (vAsg ve (vgName i)) := fun G H S env σ m De Ve e st hv =>
  h [] G H S env σ m _ _ st hv fun d m' v G' H' p s st' q => by
    obtain ⟨S', st2⟩ := Stx.put (i := i) (t := .F) st' hi ⟨rfl, q⟩
    exact e.nx G' H' S' _ _ m' s st2 p
theorem x_asgO {te : TE} {ve : VE} (h : SO c Γ te ve) (hi : i < Γ.length := by decide) : SS c t Γ (Γ.set i .O) Γb Γc (tAsg te (gName i)) (vAsg ve (vgName i)) := fun G H S env σ m De Ve e st hv =>
  h [] G H S env σ m _ _ st hv fun d m' v G' H' S1 p s st' q => by
    rw [List.append_nil] at st'
    obtain ⟨S', st2⟩ := Stx.put (i := i) (t := .O) st' hi q
    exact e.nx G' H' S' _ _ m' s st2 p
end
end Ps
namespace Ps
open PySem PySem.Spec PyProof.Rows L2
section
variable {c : JC} {Γ Γ1 Γ2 Γn Γb Γc : List OT} {G G' H H' : Hp} {T S S1 S2 R : List (Addr × HO)} {env : Env} {σ : L2.St} {m : Mst} {v : V} {d : D} {t : OT} {i j : Nat} {is : List Nat}
theorem Wd.putM {A B : List (Addr × HO)} {l : Addr} {o o' : HO} (w : Wd (A ++ ((l, o) :: B)) G H) : Wd (A ++ ((l, o') :: B)) G (upd H l o') :=
  ((w.perm (List.perm_middle.symm)).put (o' := o')).perm List.perm_middle
theorem set_self {α : Type} : ∀ {l : List α} {i : Nat} {x : α}, l[i]? = some x → l.set i x = l
  | [], _, _, h => by simp at h
  | _ :: _, 0, _, h => by simp at h; subst h; rfl
  | y :: l, i + 1, x, h => by rw [List.set_cons_succ, set_self (l := l) (i := i) (by simpa using h)]
theorem Stx.mutL {ds : List D} (st : Stx c Γ G H T S env σ m) (he : env[i]? = some (some (.lst ds))) (hi : Γ[i]? = some .O) : ∃ a vs, σ[i]? = some (some (.ref a)) ∧ H a = some (.lst vs) ∧ DdAll c.K G vs ds ∧
    ∀ vs' ds', DdAll c.K G vs' ds' → ∃ S', Stx c Γ G (upd H a (.lst vs')) T S' (env.set i (some (.lst ds'))) σ m := by
  obtain ⟨s, C, w, a, z⟩ := st
  obtain ⟨v, A1, A2, A3, e1, rfl, ⟨l, vs, rfl, rfl, q⟩, e4⟩ := z.at he hi
  have w1 : Wd (T ++ A1 ++ ((l, .lst vs) :: (A3 ++ (C ++ c.R)))) G H := by
    simpa [List.append_assoc] using w
  refine ⟨l, vs, e1, w1.mem (by simp), q, fun vs' ds' q' => ⟨A1 ++ ([(l, .lst vs')] ++ A3), s, C, ?_, a, ?_⟩⟩
  · simpa [List.append_assoc] using w1.putM (o' := .lst vs')
  · have z2 := e4 G [(l, .lst vs')] .O (some (.lst ds')) (some (.ref l)) (Same.refl G) (.inr ⟨_, _, rfl, rfl, l, vs', rfl, rfl, q'⟩)
    rw [set_self hi, set_self e1] at z2
    exact z2
theorem Stx.mutD {kds : List (Key × D)} (st : Stx c Γ G H T S env σ m) (he : env[i]? = some (some (.dic kds))) (hi : Γ[i]? = some .O) : ∃ a kvs, σ[i]? = some (some (.ref a)) ∧ H a = some (.dK kvs) ∧ kvs.map Prod.fst = kds.map Prod.fst ∧ DdAll c.K G (kvs.map Prod.snd) (kds.map Prod.snd) ∧
    ∀ kvs' kds', kvs'.map Prod.fst = kds'.map Prod.fst → DdAll c.K G (kvs'.map Prod.snd) (kds'.map Prod.snd) → ∃ S', Stx c Γ G (upd H a (.dK kvs')) T S' (env.set i (some (.dic kds'))) σ m := by
  obtain ⟨s, C, w, a, z⟩ := st
  obtain ⟨v, A1, A2, A3, e1, rfl, ⟨l, vs, rfl, rfl, q0, q⟩, e4⟩ := z.at he hi
  have w1 : Wd (T ++ A1 ++ ((l, .dK vs) :: (A3 ++ (C ++ c.R)))) G H := by
    simpa [List.append_assoc] using w
  refine ⟨l, vs, e1, w1.mem (by simp), q0, q, fun vs' ds' q0' q' => ⟨A1 ++ ([(l, .dK vs')] ++ A3), s, C, ?_, a, ?_⟩⟩
  · simpa [List.append_assoc] using w1.putM (o' := .dK vs')
  · have z2 := e4 G [(l, .dK vs')] .O (some (.dic ds')) (some (.ref l)) (Same.refl G) (.inr ⟨_, _, rfl, rfl, l, vs', rfl, rfl, q0', q'⟩)
    rw [set_self hi, set_self e1] at z2
    exact z2
def MuV (K : PySem.W.Frag) (r : V → List V → Hp → VK → Prop) (f : List D → List D → (List D → D → Prop) → Prop) : Prop := ∀ (G H : Hp) (a : Addr) (vs : List V) (ds : List D) (xs : List V) (es : List D) (P : List D → D → Prop) (Q : VK), Same G H → H a = some (.lst vs) → DdAll K G vs ds → TpAll K G H xs es → f ds es P →
  (∀ ds' z vs' v, P ds' z → DdAll K G vs' ds' → Q v (upd H a (.lst vs'))) → r (.ref a) xs H Q
theorem x_mut {r : V → List V → Hp → VK → Prop} {f : List D → List D → (List D → D → Prop) → Prop} {ta : TA} {va : VA} (o : MuV c.K r f) (hi : Γ[i]? = some .O) (ha : SA c Γ ta va) : SS c t Γ Γ Γb Γc (tDrop (tBM c.K "list" r (tVar i) ta)) (vMut i f va) := fun G H S env σ m De Ve e st hv => by
  obtain ⟨ds, ed, p⟩ := hv
  obtain ⟨a, vs, e1, e2, _, _⟩ := st.mutL ed hi
  refine ⟨_, e1, .inl ⟨rfl, vs, SqL.of e2⟩, ha [] G H S env σ m _ _ st p fun xs m1 us G1 H1 S1 p1 s1 st1 b1 => ?_⟩
  obtain ⟨a', vs', e1', e2', q', k'⟩ := st1.mutL ed hi
  obtain rfl : a = a' := by rw [e1] at e1'; cases e1'; rfl
  refine o G1 H1 a vs' ds us xs _ _ st1.v e2' q' (BoAll.tp (T := S1 ++ []) st1 (b1.mono (Same.refl _) (B := S1 ++ [] ++ S) (fun x hx => by rcases List.mem_append.mp hx with q | q <;> simp [q]))) p1 fun ds' z vs2 u pz q2 => ?_
  obtain ⟨S', st2⟩ := k' vs2 ds' q2
  exact e.nx G1 _ S' _ σ m1 s1 st2.drop pz
def vApp (i : Nat) (ve : VE) : VS := fun V env m => ∃ ds, env[i]? = some (some (.lst ds)) ∧ ve env m fun d m1 => ds.length < sizeLine ∧ V.nx (env.set i (some (.lst (ds ++ [d])))) m1
theorem x_app {te : TE} {ve : VE} (hi : Γ[i]? = some .O) (h : SF c Γ te ve) : SS c t Γ Γ Γb Γc (tDrop (tBM c.K "list" rAppend (tVar i) (tCons te tNil))) (vApp i ve) := fun G H S env σ m De Ve e st hv => by
  obtain ⟨ds, ed, p⟩ := hv
  obtain ⟨a, vs, e1, e2, _, _⟩ := st.mutL ed hi
  refine ⟨_, e1, .inl ⟨rfl, vs, SqL.of e2⟩, h [] G H S env σ m _ _ st p fun d m1 u G1 H1 p1 s1 st1 q1 => ?_⟩
  obtain ⟨a', vs', e1', e2', q', k'⟩ := st1.mutL ed hi
  obtain rfl : a = a' := by rw [e1] at e1'; cases e1'; rfl
  obtain ⟨S', st2⟩ := k' (vs' ++ [u]) (ds ++ [d]) (q'.app (.one q1))
  exact ⟨a, vs', u, rfl, rfl, e2', by rw [q'.len]; exact p1.1, e.nx G1 _ S' _ σ m1 s1 st2 p1.2⟩
theorem kV_of {K : PySem.W.Frag} {y : D} {u : V} {k : Key} (h : Tp K G H u y) (e : dKey y = some k) : u = kV k := by
  cases y with
  | int i => cases e; exact h.intInv
  | str z => cases e; exact h.strInv
  | _ => cases e
theorem any_fst {α β : Type} (p : Key → Bool) : ∀ {l : List (Key × α)} {r : List (Key × β)}, l.map Prod.fst = r.map Prod.fst → (l.any fun kv => p kv.1) = (r.any fun kv => p kv.1)
  | [], [], _ => rfl
  | [], _ :: _, h => by simp at h
  | _ :: _, [], h => by simp at h
  | x :: l, y :: r, h => by
    rw [List.map_cons, List.map_cons] at h
    obtain ⟨h1, h2⟩ := List.cons.inj h
    rw [List.any_cons, List.any_cons, h1, any_fst p h2]
theorem put_fst {k : Key} {v : V} {d : D} {kvs : List (Key × V)} {kds : List (Key × D)} (e : kvs.map Prod.fst = kds.map Prod.fst) : (putK kvs k v).map Prod.fst = (dput kds k d).map Prod.fst := by
  unfold putK dput
  rw [any_fst (fun x => decide (x = k)) e]
  split
  · rw [List.map_map, List.map_map]
    have h1 : (Prod.fst ∘ fun (kv : Key × V) => if kv.1 = k then (kv.1, v) else kv) = Prod.fst := by funext x; simp only [Function.comp]; split <;> rfl
    have h2 : (Prod.fst ∘ fun (kv : Key × D) => if kv.1 = k then (kv.1, d) else kv) = Prod.fst := by funext x; simp only [Function.comp]; split <;> rfl
    rw [h1, h2, e]
  · rw [List.map_append, List.map_append, e]; rfl
theorem map_put {K : PySem.W.Frag} {k : Key} {v : V} {d : D} (h : Dd K G v d) : ∀ {kvs : List (Key × V)} {kds : List (Key × D)}, kvs.map Prod.fst = kds.map Prod.fst → DdAll K G (kvs.map Prod.snd) (kds.map Prod.snd) →
    DdAll K G ((kvs.map (fun kv => if kv.1 = k then (kv.1, v) else kv)).map Prod.snd) ((kds.map (fun kv => if kv.1 = k then (kv.1, d) else kv)).map Prod.snd)
  | [], [], _, _ => .nil
  | [], _ :: _, e, _ => by simp at e
  | _ :: _, [], e, _ => by simp at e
  | x :: l, y :: r, e, q => by
    rw [List.map_cons, List.map_cons] at e
    obtain ⟨h1, h2⟩ := List.cons.inj e
    rw [List.map_cons, List.map_cons] at q
    cases q with
    | cons q1 q2 =>
      rw [List.map_cons, List.map_cons, List.map_cons, List.map_cons, h1]
      refine .cons ?_ (map_put h h2 q2)
      by_cases z : y.1 = k
      · rw [if_pos z, if_pos z]; exact h
      · rw [if_neg z, if_neg z]; exact q1
theorem put_snd {K : PySem.W.Frag} {k : Key} {v : V} {d : D} (h : Dd K G v d) {kvs : List (Key × V)} {kds : List (Key × D)} (e : kvs.map Prod.fst = kds.map Prod.fst) (q : DdAll K G (kvs.map Prod.snd) (kds.map Prod.snd)) : DdAll K G ((putK kvs k v).map Prod.snd) ((dput kds k d).map Prod.snd) := by
  unfold putK dput
  rw [any_fst (fun x => decide (x = k)) e]
  split
  · exact map_put h e q
  · rw [List.map_append, List.map_append]; exact q.app (.one h)
theorem get_snd {K : PySem.W.Frag} {k : Key} : ∀ {kvs : List (Key × V)} {kds : List (Key × D)}, kvs.map Prod.fst = kds.map Prod.fst → DdAll K G (kvs.map Prod.snd) (kds.map Prod.snd) →
    (valV kvs k = none ∧ dget kds k = none) ∨ ∃ v d, valV kvs k = some v ∧ dget kds k = some d ∧ Dd K G v d
  | [], [], _, _ => .inl ⟨rfl, rfl⟩
  | [], _ :: _, e, _ => by simp at e
  | _ :: _, [], e, _ => by simp at e
  | x :: l, y :: r, e, q => by
    rw [List.map_cons, List.map_cons] at e
    obtain ⟨h1, h2⟩ := List.cons.inj e
    rw [List.map_cons, List.map_cons] at q
    cases q with
    | cons q1 q2 =>
      by_cases z : y.1 = k
      · refine .inr ⟨x.2, y.2, ?_, ?_, q1⟩
        · rw [valV_pos (by rw [h1]; exact z)]
        · unfold dget; rw [List.find?_cons_of_pos (by simp [z])]; rfl
      · rcases get_snd (k := k) h2 q2 with ⟨h3, h4⟩ | ⟨v, d, h3, h4, h5⟩
        · refine .inl ⟨by rw [valV_neg (by rw [h1]; exact z)]; exact h3, ?_⟩
          unfold dget; rw [List.find?_cons_of_neg (by simp [z])]; exact h4
        · refine .inr ⟨v, d, by rw [valV_neg (by rw [h1]; exact z)]; exact h3, ?_, h5⟩
          unfold dget; rw [List.find?_cons_of_neg (by simp [z])]; exact h4
theorem x_put {te tk : TE} {ve vk : VE} (hi : Γ[i]? = some .O) (h : SF c Γ te ve) (hk : SF c Γ tk vk) : SS c t Γ Γ Γb Γc (tAsg te (gSub (tVar i) tk rSetU)) (vPut i ve vk) := fun G H S env σ m De Ve e st hv =>
  h [] G H S env σ m _ _ st hv fun d m1 u G1 H1 p1 s1 st1 q1 => by
    obtain ⟨x, ed, p⟩ := p1
    have e1 : ∃ v, σ[i]? = some (some v) := by
      obtain ⟨s, C, w, a, z⟩ := st1
      obtain ⟨v, A1, A2, A3, e1, _⟩ := z.at ed hi
      exact ⟨v, e1⟩
    obtain ⟨v, e1⟩ := e1
    refine ⟨v, e1, hk [] G1 H1 S env σ m1 _ _ st1 p fun y m2 w G2 H2 p2 s2 st2 q2 => ?_⟩
    have q1' := q1.mono s2
    split at p2
    · rename_i ds k
      obtain ⟨j, hj, p3⟩ := p2
      obtain ⟨a, vs, e1', e2, q, kk⟩ := st2.mutL ed hi
      obtain rfl : v = .ref a := by rw [e1] at e1'; cases e1'; rfl
      obtain rfl := q2.intInv
      obtain ⟨S', st3⟩ := kk (vs.set j u) (ds.set j d) (q.set j q1')
      exact .inl ⟨a, vs, k, j, rfl, rfl, e2, by rw [q.len]; exact hj, e.nx G2 _ S' _ σ m2 (s1.trans s2) st3 p3⟩
    · rename_i kds
      obtain ⟨k, ek, hz, p3⟩ := p2
      obtain ⟨a, kvs, e1', e2, e3, q, kk⟩ := st2.mutD ed hi
      obtain rfl : v = .ref a := by rw [e1] at e1'; cases e1'; rfl
      obtain rfl := kV_of (.dd q2 : Tp c.K G2 H2 w y) ek
      obtain ⟨S', st3⟩ := kk (putK kvs k u) (dput kds k d) (put_fst e3) (put_snd q1' e3 q)
      have el : kvs.length = kds.length := by simpa using congrArg List.length e3
      exact .inr ⟨a, _, rfl, DPut.k (k := k) e2 (by rw [el]; exact hz), e.nx G2 _ S' _ σ m2 (s1.trans s2) st3 p3⟩
    · exact p2.elim
def IpV (K : PySem.W.Frag) (r : TIp) (f : D → D → (D → Prop) → Prop) : Prop := ∀ (G H : Hp) (x y : V) (d e : D) (P : D → Prop) (Q : VK), Same G H → Tp K G H x d → Tp K G H y e → f d e P → (∀ z v H', P z → Nw K G H v H' z → Q v H') → r x y H Q
theorem Stx.var (st : Stx c Γ G H T S env σ m) (he : env[i]? = some (some d)) (hi : Γ[i]? = some t) : ∃ v, σ[i]? = some (some v) ∧ Tp c.K G H v d := by
  obtain ⟨s, C, w, a, z⟩ := id st
  obtain ⟨v, A1, A2, A3, e1, rfl, q, _⟩ := z.at he hi
  exact ⟨v, e1, bo_tp st ⟨t, A2, fun x hx => by simp [hx], q⟩⟩
theorem x_aug {r : TIp} {f : D → D → (D → Prop) → Prop} {te : TE} {ve : VE} (o : IpV c.K r f) {t0 : OT} (hi : Γ[i]? = some t0) (h : SB c Γ te ve) : SS c t Γ (Γ.set i .O) Γb Γc (tAug i te r) (vAug i f ve) := fun G H S env σ m De Ve e st hv => by
  obtain ⟨x, ex, p⟩ := hv
  obtain ⟨v, e1, _⟩ := st.var ex hi
  refine ⟨v, e1, h.tp st p fun y m1 u G1 H1 S1 p1 s1 st1 t1 => ?_⟩
  obtain ⟨v', e1', t2⟩ := st1.var ex hi
  obtain rfl : v = v' := by rw [e1] at e1'; cases e1'; rfl
  refine o G1 H1 v u x y _ _ st1.v t2 t1 p1 fun z w H' pz n => ?_
  obtain ⟨G2, S2, s2, st2, q2⟩ := Nw.own (T := []) st1.dropT n
  rw [List.append_nil] at st2
  obtain ⟨S', st3⟩ := Stx.put (i := i) (t := .O) st2 (by exact (List.getElem?_eq_some_iff.mp hi).1) q2
  exact e.nx G2 H' S' _ _ m1 (s1.trans s2) st3 pz
theorem Slots.put2 {u w : V} {x y : D} (st : Stt c Γ G H S env σ m) (hi : Γ[i]? = some .F) (hj : Γ[j]? = some .F) (hx : Dd c.K G u x) (hy : Dd c.K G w y) : Stt c Γ G H S ((env.set i (some x)).set j (some y)) ((σ.set i (some u)).set j (some w)) m := by
  obtain ⟨s, C, w', a, z⟩ := st
  exact ⟨s, C, w', a, (z.setF hi (.inr ⟨x, u, rfl, rfl, hx⟩)).setF hj (.inr ⟨y, w, rfl, rfl, hy⟩)⟩
def vRz1 (VW : XW) (C : Addr) (f : Str) (va : VA) : VS := fun _ env m => va env m fun ds m1 => match ds with
  | [d] => VW C [(f, d)] env m1
  | _ => False
def vTryK (K : PySem.W.Frag) (x : Value) (i j : Nat) (vb : XW → VS) (VWo : XW) : VS := fun V env m => vb (fun C fs e m' => ∃ b, PySem.W.exmOne K (.ref C) x = some b ∧ if b = true then V.nx (((e.set i (some (.exc C fs))).set j (some (.exc C fs))).set i none) m' else VWo C fs e m') V env m
def vstart (N : Nat) (ds : List D) : Env := ds.map some ++ List.replicate (N - ds.length) none
theorem slots_nones {K : PySem.W.Frag} : ∀ n : Nat, Slots K G (List.replicate n .F) [] (List.replicate n none) (List.replicate n (none : Option V))
  | 0 => .nil
  | n + 1 => .no (slots_nones n)
theorem slots_args {K : PySem.W.Frag} {r : Nat} : ∀ {vs : List V} {ds : List D}, DdAll K G vs ds → Slots K G (List.replicate (ds.length + r) .F) [] (ds.map some ++ List.replicate r none) (vs.map some ++ List.replicate r none)
  | _, _, .nil => by rw [List.length_nil, Nat.zero_add]; exact slots_nones r
  | _, _, .cons (ds := ds) h t => by
    rw [show (_ :: ds).length + r = (ds.length + r) + 1 by rw [List.length_cons]; omega, List.replicate_succ]
    exact .yes (S1 := []) ⟨rfl, h⟩ (slots_args t)
theorem slots_start {K : PySem.W.Frag} {N : List Str} {vs : List V} {ds : List D} (h : DdAll K G vs ds) (hl : ds.length ≤ N.length) : Slots K G (List.replicate N.length .F) [] (vstart N.length ds) (L2.start N vs) := by
  unfold vstart L2.start
  rw [h.len]
  have q := slots_args (r := N.length - ds.length) h
  rw [show ds.length + (N.length - ds.length) = N.length by omega] at q
  exact q
abbrev vends (P : D → Mst → Prop) : VEnds := { nx := fun _ m => P .non m, rt := P }
theorem sim_def {K : PySem.W.Frag} {t : OT} {N : List Str} {Γn Γb Γc : List OT} {ts : XK → TS} {vs : XV → VS} {n : Nat} (hn : n ≤ N.length)
    (h : ∀ (c : JC) (W : XK) (VX : XV), c.K = K → (∀ Γ, ExOk c Γ (fun cls d _ H => W cls d H) (fun C fs _ m => VX C fs m)) → SS c t (List.replicate N.length .F) Γn Γb Γc (ts W) (vs VX))
    {vsp : VSp} (hv : ∀ ds m P X, vsp ds m P X → ds.length = n ∧ vs X (vends P) (vstart N.length ds) m) :
    ∀ us H Q E, spV K t vsp us H Q E → ts E { nx := fun _ H' => Q .non H', rt := Q } (L2.start N us) H := by
  rintro us H Q E ⟨ds, G, R, C, m, P, X, w, a, q, hs, k, kx⟩
  obtain ⟨hl, hb⟩ := hv ds m P X hs
  have w0 : Wd ([] ++ ([] ++ (C ++ R))) G H := w
  refine h ⟨K, R, G⟩ E X rfl (fun Γ G' H' S env σ m' C' fs d st ex hx => ?_) G H [] (vstart N.length ds) (L2.start N us) m _ (vends P) ⟨?_, ?_, fun _ _ _ _ _ _ _ _ h => h.elim, fun _ _ _ _ _ _ _ _ h => h.elim⟩ ⟨Same.refl G, C, w0, a, slots_start q (by omega)⟩ hb
  · obtain ⟨s, C2, w2, a2, z2⟩ := st
    exact kx C' fs m' d H' G' C2 hx s w2.dropL.dropL a2 ex
  · rintro G' H' S env σ m' s ⟨_, C2, w2, a2, z2⟩ hp
    exact k .non m' .non H' G' [] C2 hp s w2.dropL.dropL a2 own_non
  · intro G' H' S1 C2 m' v d s _ w2 a2 o hp
    exact k d m' v H' G' S1 C2 hp s w2 a2 o
end
end Ps
namespace Ps
open PySem PySem.Spec PyProof.Rows L2
mutual
def D.py : D → PyData
  | .non => .none
  | .bl b => .bool b
  | .int i => .int i
  | .str s => .str s
  | .lst ds => .list (D.pys ds)
  | .tup ds => .tuple (D.pys ds)
  | _ => .dict []
def D.pys : List D → List PyData
  | [] => []
  | d :: ds => d.py :: D.pys ds
end
mutual
/-- data without dicts, instances, classes -/
def D.pl : D → Bool
  | .non | .bl _ | .int _ | .str _ => true
  | .lst ds => D.pls ds
  | .tup ds => D.pls ds
  | _ => false
def D.pls : List D → Bool
  | [] => true
  | d :: ds => d.pl && D.pls ds
end
section
variable {K : PySem.W.Frag} {G H : Hp}
mutual
theorem Dd.dp : ∀ {d : D} {v : V}, Dd K G v d → d.pl = true → Dp K G v d.py
  | .non, _, h, _ => by cases h; exact .non
  | .bl b, _, h, _ => by cases h; exact .bl b
  | .int b, _, h, _ => by cases h; exact .int b
  | .str b, _, h, _ => by cases h; exact .str b
  | .lst ds, _, h, e => by
    cases h with | lst h1 h2 => exact .lst (SqL.of h1) (DdAll.dp h2 (by simpa [D.pl] using e))
  | .tup ds, _, h, e => by
    cases h with | tup h1 h2 => exact .tup h1.sq (DdAll.dp h2 (by simpa [D.pl] using e))
  | .adr _, _, _, e => by simp [D.pl] at e
  | .ty _, _, _, e => by simp [D.pl] at e
  | .scr _, _, _, e => by simp [D.pl] at e
  | .dic _, _, _, e => by simp [D.pl] at e
  | .obj _ _, _, _, e => by simp [D.pl] at e
  | .exc _ _, _, _, e => by simp [D.pl] at e
theorem DdAll.dp : ∀ {ds : List D} {vs : List V}, DdAll K G vs ds → D.pls ds = true → DpAll K G vs (D.pys ds)
  | [], _, h, _ => by cases h; exact .nil
  | d :: ds, _, h, e => by
    rw [D.pls, Bool.and_eq_true] at e
    cases h with | cons h1 h2 => exact .cons (h1.dp e.1) (h2.dp e.2)
end
def D.fl : D → Bool
  | .non | .bl _ | .int _ | .str _ => true
  | _ => false
def scD : D → D → Bool
  | .non, .non => true | .non, .int _ => true | .int _, .non => true | .non, .bl _ => true | .bl _, .non => true | .non, .str _ => true | .str _, .non => true
  | .int _, .int _ => true | .bl _, .bl _ => true | .str _, .str _ => true
  | .int _, .str _ => true | .str _, .int _ => true | .bl _, .str _ => true | .str _, .bl _ => true
  | _, _ => false
def eqS : D → D → Bool
  | .non, .non => true
  | .bl a, .bl b => decide (a = b)
  | .int a, .int b => decide (a = b)
  | .str a, .str b => decide (a = b)
  | _, _ => false
theorem scD_v {x y : D} {u v : V} (h : Dd K G u x) (h' : Dd K G v y) (e : scD x y = true) : scal u v = true ∧ decide (u = v) = eqS x y := by
  unfold scD at e
  split at e <;> first | exact absurd e Bool.false_ne_true | (cases h; cases h'; exact ⟨rfl, by simp [eqS]⟩)
def vAdd : D → D → (D → Prop) → Prop
  | .int i, .int j, P => P (.int (i + j))
  | .str a, .str b, P => a.length + b.length ≤ sizeLine ∧ P (.str (a ++ b))
  | .lst a, .lst b, P => a.length + b.length ≤ sizeLine ∧ P (.lst (a ++ b))
  | .tup a, .tup b, P => a.length + b.length ≤ sizeLine ∧ P (.tup (a ++ b))
  | _, _, _ => False
def vSub : D → D → (D → Prop) → Prop
  | .int i, .int j, P => P (.int (i - j))
  | _, _, _ => False
def vMul : D → D → (D → Prop) → Prop
  | .int i, .int j, P => (CMul i j ∨ CMulW i j) ∧ P (.int (i * j))
  | .lst a, .int k, P => (-(2 ^ 63) ≤ k ∧ k < 2 ^ 63 ∧ a.length * k.toNat ≤ sizeLine) ∧ P (.lst (List.replicate k.toNat a).flatten)
  | .str z, .int k, P => (2 ≤ k ∧ z.length ≠ 0 ∧ z.length * k.toNat ≤ 16777216) ∧ P (.str (repS z k.toNat))
  | _, _, _ => False
def vDiv : D → D → (D → Prop) → Prop
  | .int i, .int j, P => (CDiv i j ∨ CDivW i j) ∧ P (.int (i / j))
  | _, _, _ => False
def vMod : D → D → (D → Prop) → Prop
  | .int i, .int j, P => 0 < j ∧ P (.int (i % j))
  | _, _, _ => False
def vPow : D → D → (D → Prop) → Prop
  | .int i, .int j, P => CPow i j ∧ P (.int (i ^ j.toNat))
  | _, _, _ => False
def vEqC : D → D → (D → Prop) → Prop := fun x y P => if scD x y = true then P (.bl (eqS x y)) else (x.pl = true ∧ y.pl = true ∧ SeqAt.shaped x.py = true ∧ SeqAt.shaped y.py = true) ∧ P (.bl (PyData.eqv x.py y.py))
def vNeC : D → D → (D → Prop) → Prop := fun x y P => if scD x y = true then P (.bl (!eqS x y)) else (x.pl = true ∧ y.pl = true ∧ SeqAt.shaped x.py = true ∧ SeqAt.shaped y.py = true) ∧ P (.bl (!PyData.eqv x.py y.py))
def vLt : D → D → (D → Prop) → Prop
  | .int i, .int j, P => P (.bl (decide (i < j)))
  | .str i, .str j, P => P (.bl (decide (i.cps.toList < j.cps.toList)))
  | _, _, _ => False
def vLe : D → D → (D → Prop) → Prop
  | .int i, .int j, P => P (.bl (decide (i ≤ j)))
  | .str i, .str j, P => P (.bl (!decide (j.cps.toList < i.cps.toList)))
  | _, _, _ => False
def vGt : D → D → (D → Prop) → Prop
  | .int i, .int j, P => P (.bl (decide (j < i)))
  | .str i, .str j, P => P (.bl (decide (j.cps.toList < i.cps.toList)))
  | _, _, _ => False
def vGe : D → D → (D → Prop) → Prop
  | .int i, .int j, P => P (.bl (decide (j ≤ i)))
  | .str i, .str j, P => P (.bl (!decide (i.cps.toList < j.cps.toList)))
  | _, _, _ => False
def D.isN : D → Bool
  | .non => true
  | _ => false
def vIsN : D → D → (D → Prop) → Prop
  | x, .non, P => P (.bl x.isN)
  | _, _, _ => False
def vNotN : D → D → (D → Prop) → Prop
  | x, .non, P => P (.bl (!x.isN))
  | _, _, _ => False
def eqF : D → D → Bool
  | .non, .non => true
  | .bl a, .bl b => a == b
  | .int a, .int b => a == b
  | .str a, .str b => a == b
  | .bl a, .int b => (if a then 1 else 0) == b
  | .int a, .bl b => a == (if b then 1 else 0)
  | _, _ => false
def vIx : D → D → (D → Prop) → Prop
  | .lst ds, .int i, P => ∃ d, atI ds i = some d ∧ P d
  | .tup ds, .int i, P => ∃ d, atI ds i = some d ∧ P d
  | .str z, .int i, P => z.length ≤ sizeLine ∧ ∃ c, atI z.cps.toList i = some c ∧ P (.str ⟨#[c]⟩)
  | .dic kds, y, P => ∃ k d, dKey y = some k ∧ dget kds k = some d ∧ P d
  | _, _, _ => False
theorem o_add : OpV K (rAddU K) vAdd := fun G H x y d e P Q s h h' f k => by
  unfold vAdd at f
  split at f
  · obtain rfl := h.intInv; obtain rfl := h'.intInv
    exact w_addI (k _ _ _ f (.old (.int _) rfl))
  · obtain rfl := h.strInv; obtain rfl := h'.strInv
    exact w_addS f.1 (k _ _ _ f.2 (.old (.str _) rfl))
  · obtain ⟨a, vs, rfl, h1, q1⟩ := h.l s
    obtain ⟨b, ws, rfl, h2, q2⟩ := h'.l s
    exact w_addL h1 h2 (by rw [q1.len, q2.len]; exact f.1) fun p hp => k _ _ _ f.2 (.lst hp (q1.app q2))
  · obtain ⟨a, vs, rfl, g1, h1, q1⟩ := h.t s
    obtain ⟨b, ws, rfl, g2, h2, q2⟩ := h'.t s
    refine .inr (.inr ⟨a, b, vs, ws, rfl, rfl, h1, h2, by rw [q1.len, q2.len]; exact f.1, fun e => ?_, fun _ e => ?_, fun _ _ p hp => k _ _ _ f.2 (.tup hp (q1.app q2))⟩)
    · subst e
      cases q1
      exact k _ _ _ f.2 (.old (.tup g2 q2) rfl)
    · subst e
      cases q2
      rw [List.append_nil] at f
      exact k _ _ _ f.2 (.old (.tup g1 q1) rfl)
  · exact f.elim
theorem o_sub : OpV K rSubU vSub := fun G H x y d e P Q s h h' f k => by
  unfold vSub at f
  split at f
  · obtain rfl := h.intInv; obtain rfl := h'.intInv
    exact w_subI (k _ _ _ f (.old (.int _) rfl))
  · exact f.elim
theorem o_mul : OpV K rMulT vMul := fun G H x y d e P Q s h h' f k => by
  unfold vMul at f
  split at f
  · obtain rfl := h.intInv; obtain rfl := h'.intInv
    refine .inl ?_
    rcases f.1 with q | q
    · exact w_mulI q (k _ _ _ f.2 (.old (.int _) rfl))
    · exact w_mulW q (k _ _ _ f.2 (.old (.int _) rfl))
  · obtain ⟨a, vs, rfl, h1, q1⟩ := h.l s
    obtain rfl := h'.intInv
    exact .inl (w_rep h1 f.1.1 f.1.2.1 (by rw [q1.len]; exact f.1.2.2) fun p hp => k _ _ _ f.2 (.lst hp (q1.flat _)))
  · obtain rfl := h.strInv; obtain rfl := h'.intInv
    rename_i z j
    obtain ⟨n, rfl⟩ : ∃ n : Nat, j = (n : Int) := ⟨j.toNat, by omega⟩
    rw [Int.toNat_natCast] at f
    exact .inr ⟨_, n, rfl, rfl, by omega, f.1.2.1, f.1.2.2, k _ _ _ f.2 (.old (.str _) rfl)⟩
  · exact f.elim
theorem o_div : OpV K rDivU vDiv := fun G H x y d e P Q s h h' f k => by
  unfold vDiv at f
  split at f
  · obtain rfl := h.intInv; obtain rfl := h'.intInv
    rcases f.1 with q | q
    · exact w_divI q (k _ _ _ f.2 (.old (.int _) rfl))
    · exact w_divW q (k _ _ _ f.2 (.old (.int _) rfl))
  · exact f.elim
theorem o_mod : OpV K rModU vMod := fun G H x y d e P Q s h h' f k => by
  unfold vMod at f
  split at f
  · obtain rfl := h.intInv; obtain rfl := h'.intInv
    exact w_modI f.1 (k _ _ _ f.2 (.old (.int _) rfl))
  · exact f.elim
theorem o_pow : OpV K rPowU vPow := fun G H x y d e P Q s h h' f k => by
  unfold vPow at f
  split at f
  · obtain rfl := h.intInv; obtain rfl := h'.intInv
    exact w_powI f.1 (k _ _ _ f.2 (.old (.int _) rfl))
  · exact f.elim
theorem scD_fl {x y : D} (e : scD x y = true) : x.sc = true ∧ y.sc = true := by
  unfold scD at e
  split at e <;> first | exact absurd e Bool.false_ne_true | exact ⟨rfl, rfl⟩
theorem o_eq : OpV K (rEqU K) vEqC := fun G H x y d e P Q s h h' f k => by
  unfold vEqC at f
  split at f
  · rename_i z
    obtain ⟨z1, z2⟩ := scD_v (h.s (scD_fl z).1) (h'.s (scD_fl z).2) z
    exact .inl ⟨z1, by rw [z2]; exact k _ _ _ f (.old (.bl _) rfl)⟩
  · exact .inr ⟨_, _, (h.deep s).dp f.1.1, (h'.deep s).dp f.1.2.1, f.1.2.2.1, f.1.2.2.2, k _ _ _ f.2 (.old (.bl _) rfl)⟩
theorem o_ne : OpV K (rNeU K) vNeC := fun G H x y d e P Q s h h' f k => by
  unfold vNeC at f
  split at f
  · rename_i z
    obtain ⟨z1, z2⟩ := scD_v (h.s (scD_fl z).1) (h'.s (scD_fl z).2) z
    exact .inl ⟨z1, by rw [z2]; exact k _ _ _ f (.old (.bl _) rfl)⟩
  · exact .inr ⟨_, _, (h.deep s).dp f.1.1, (h'.deep s).dp f.1.2.1, f.1.2.2.1, f.1.2.2.2, k _ _ _ f.2 (.old (.bl _) rfl)⟩
def rGtV : R2 := fun x y H Q => rGtU x y H Q ∨ ∃ i j, x = .str i ∧ y = .str j ∧ Q (.bl (decide (j.cps.toList < i.cps.toList))) H
def rGeV : R2 := fun x y H Q => rGeU x y H Q ∨ ∃ i j, x = .str i ∧ y = .str j ∧ Q (.bl (!decide (i.cps.toList < j.cps.toList))) H
theorem op_gtV {X : Cx} : OpR X (compareOp .Gt) rGtV := opr_or op_gtU op_gt_str
theorem op_geV {X : Cx} : OpR X (compareOp .GtE) rGeV := opr_or op_geU op_ge_str
theorem o_lt : OpV K (rLtU K) vLt := fun G H x y d e P Q s h h' f k => by
  unfold vLt at f
  split at f
  · obtain rfl := h.intInv; obtain rfl := h'.intInv
    exact w_ltI (k _ _ _ f (.old (.bl _) rfl))
  · obtain rfl := h.strInv; obtain rfl := h'.strInv
    exact .inr ⟨_, _, rfl, rfl, k _ _ _ f (.old (.bl _) rfl)⟩
  · exact f.elim
theorem o_gt : OpV K rGtV vGt := fun G H x y d e P Q s h h' f k => by
  unfold vGt at f
  split at f
  · obtain rfl := h.intInv; obtain rfl := h'.intInv
    exact .inl (w_gtI (k _ _ _ f (.old (.bl _) rfl)))
  · obtain rfl := h.strInv; obtain rfl := h'.strInv
    exact .inr ⟨_, _, rfl, rfl, k _ _ _ f (.old (.bl _) rfl)⟩
  · exact f.elim
theorem o_ge : OpV K rGeV vGe := fun G H x y d e P Q s h h' f k => by
  unfold vGe at f
  split at f
  · obtain rfl := h.intInv; obtain rfl := h'.intInv
    exact .inl (w_geI (k _ _ _ f (.old (.bl _) rfl)))
  · obtain rfl := h.strInv; obtain rfl := h'.strInv
    exact .inr ⟨_, _, rfl, rfl, k _ _ _ f (.old (.bl _) rfl)⟩
  · exact f.elim
theorem Dd.isN {v : V} {d : D} (h : Dd K G v d) : decide (v = V.non) = d.isN := by cases h <;> simp [D.isN]
theorem Tp.isN {v : V} {d : D} (h : Tp K G H v d) : decide (v = V.non) = d.isN := by
  cases h with
  | dd h => exact h.isN
  | lst _ _ => simp [D.isN]
  | dic _ _ _ => simp [D.isN]
theorem Tp.nonInv {v : V} (h : Tp K G H v .non) : v = .non := by cases h with | dd h => cases h; rfl
theorem o_isN : OpV K rIsN vIsN := fun G H x y d e P Q s h h' f k => by
  unfold vIsN at f
  split at f
  · obtain rfl := h'.nonInv
    exact ⟨rfl, by rw [h.isN]; exact k _ _ _ f (.old (.bl _) rfl)⟩
  · exact f.elim
theorem o_notN : OpV K rNotN vNotN := fun G H x y d e P Q s h h' f k => by
  unfold vNotN at f
  split at f
  · obtain rfl := h'.nonInv
    exact ⟨rfl, by rw [h.isN]; exact k _ _ _ f (.old (.bl _) rfl)⟩
  · exact f.elim
theorem fl_v {v : V} {d : D} (h : Dd K G v d) (e : d.fl = true) : flatV v = true := by cases h <;> first | rfl | cases e
theorem eqF_v {u v : V} {x y : D} (h : Dd K G u x) (h' : Dd K G v y) (e : x.fl = true) (e' : y.fl = true) : eqV u v = eqF x y := by
  cases h <;> cases h' <;> first | rfl | cases e | cases e'
theorem fls_v {vs : List V} : ∀ {ds : List D}, DdAll K G vs ds → ds.all D.fl = true → vs.all flatV = true := by
  induction vs with
  | nil => intro ds h e; rfl
  | cons v vs ih =>
    intro ds h e
    cases h with
    | cons h1 h2 =>
      rw [List.all_cons, Bool.and_eq_true] at e
      rw [List.all_cons, fl_v h1 e.1, ih h2 e.2]; rfl
theorem fl_sc {d : D} (e : d.fl = true) : d.sc = true := by cases d <;> first | rfl | cases e
theorem DGet.of {a : Addr} {kvs : List (Key × V)} {k : Key} {r : Option V} (h : H a = some (.dK kvs)) (e : valV kvs k = r) : DGet H a (kV k) r := by rw [← e]; exact DGet.k h
theorem DdAll.atI {vs : List V} {ds : List D} (h : DdAll K G vs ds) {i : Int} {d : D} (e : L2.atI ds i = some d) : ∃ v, L2.atI vs i = some v ∧ Dd K G v d := by
  unfold L2.atI at e ⊢
  rw [h.len]
  cases q : ixN ds.length i with
  | none => rw [q] at e; cases e
  | some j =>
    rw [q] at e
    exact h.get e
theorem o_ix : OpF K (rIxU K) vIx := fun G H x y d e P Q s h h' f k => by
  unfold vIx at f
  split at f
  · obtain ⟨z, ez, f⟩ := f
    obtain ⟨a, vs, rfl, h1, q1⟩ := h.l s
    obtain rfl := h'.intInv
    obtain ⟨v, ev, hv⟩ := q1.atI ez
    exact w_ixL (SqL.of h1) ev (k _ _ f hv)
  · obtain ⟨z, ez, f⟩ := f
    obtain ⟨a, vs, rfl, _, h1, q1⟩ := h.t s
    obtain rfl := h'.intInv
    obtain ⟨v, ev, hv⟩ := q1.atI ez
    exact w_ixT h1 ev (k _ _ f hv)
  · obtain ⟨hz, c, ec, f⟩ := f
    obtain rfl := h.strInv; obtain rfl := h'.intInv
    exact w_ixS hz ec (k _ _ f (.str _))
  · obtain ⟨kk, z, ek, ez, f⟩ := f
    obtain ⟨a, kvs, rfl, h1, e1, q1⟩ := h.dk s
    obtain rfl := kV_of h' ek
    rcases get_snd (k := kk) e1 q1 with ⟨z1, z2⟩ | ⟨v, d', z1, z2, z3⟩
    · rw [z2] at ez; cases ez
    · rw [z2] at ez
      cases ez
      exact .inr (.inr ⟨a, v, rfl, DGet.of h1 z1, k _ _ f z3⟩)
  · exact f.elim
def vNeg : D → (D → Prop) → Prop
  | .int i, P => P (.int (-i))
  | _, _ => False
theorem o_neg : UnV K rNeg vNeg := fun G H x d P Q s h f k => by
  unfold vNeg at f
  split at f
  · obtain rfl := h.intInv
    exact w_negI (k _ _ _ f (.old (.int _) rfl))
  · exact f.elim
def vIpAdd : D → D → (D → Prop) → Prop
  | .int i, .int j, P => P (.int (i + j))
  | .str a, .str b, P => a.length + b.length ≤ sizeLine ∧ P (.str (a ++ b))
  | _, _, _ => False
def vIpMul : D → D → (D → Prop) → Prop
  | .int i, .int j, P => (CMul i j ∨ CMulW i j) ∧ P (.int (i * j))
  | _, _, _ => False
theorem ip_addV : IpV K (ipAddU K) vIpAdd := fun G H x y d e P Q s h h' f k => by
  unfold vIpAdd at f
  split at f
  · obtain rfl := h.intInv; obtain rfl := h'.intInv
    exact w_ipaI (k _ _ _ f (.old (.int _) rfl))
  · obtain rfl := h.strInv; obtain rfl := h'.strInv
    exact .inr ⟨_, _, rfl, rfl, f.1, k _ _ _ f.2 (.old (.str _) rfl)⟩
  · exact f.elim
theorem ip_mulV : IpV K ipMulU vIpMul := fun G H x y d e P Q s h h' f k => by
  unfold vIpMul at f
  split at f
  · obtain rfl := h.intInv; obtain rfl := h'.intInv
    exact w_ipm f.1 (k _ _ _ f.2 (.old (.int _) rfl))
  · exact f.elim
def cutD (xs : List D) (lo hi : Option Int) : List D := (xs.drop (HT.sIx xs.length 0 lo)).take (HT.sIx xs.length xs.length hi - HT.sIx xs.length 0 lo)
theorem DdAll.cut {vs : List V} {ds : List D} (h : DdAll K G vs ds) (lo hi : Option Int) : DdAll K G (cutV vs lo hi) (cutD ds lo hi) := by
  unfold cutV cutD
  rw [h.len]
  exact (h.drop _).take _
def vCut : D → Option Int → Option Int → (D → Prop) → Prop
  | .lst ds, lo, hi, P => P (.lst (cutD ds lo hi))
  | .tup ds, lo, hi, P => P (.tup (cutD ds lo hi))
  | .str z, lo, hi, P => z.length ≤ sizeLine ∧ P (.str (cutS z lo hi))
  | _, _, _, _ => False
theorem cut_whole {ds : List D} {lo hi : Option Int} (h : HT.sIx ds.length 0 lo = 0 ∧ HT.sIx ds.length ds.length hi = ds.length) : cutD ds lo hi = ds := by
  unfold cutD
  rw [h.1, h.2, List.drop_zero, Nat.sub_zero, List.take_length]
theorem o_cut : SlV K (rSlU K) vCut := fun G H x d lo hi P Q s h f k => by
  cases d with
  | lst ds =>
    obtain ⟨a, vs, rfl, h1, q1⟩ := h.l s
    exact w_slL (SqL.of h1) fun p hp => k _ _ _ f (.lst hp (q1.cut lo hi))
  | tup ds =>
    obtain ⟨a, vs, rfl, g1, h1, q1⟩ := h.t s
    refine .inl (.inr ⟨a, vs, rfl, h1, fun e => ?_, fun _ p hp => k _ _ _ f (.tup hp (q1.cut lo hi))⟩)
    rw [q1.len] at e
    have f : P (.tup (cutD ds lo hi)) := f
    rw [cut_whole e] at f
    exact k _ _ _ f (.old (.tup g1 q1) rfl)
  | str z =>
    obtain rfl := h.strInv
    exact .inr ⟨z, rfl, f.1, k _ _ _ f.2 (.old (.str _) rfl)⟩
  | _ => exact f.elim
theorem TpAll.inv1 {d : D} {vs : List V} (h : TpAll K G H vs [d]) : ∃ v, vs = [v] ∧ Tp K G H v d := by
  cases h with | cons h t => cases t; exact ⟨_, rfl, h⟩
theorem TpAll.inv2 {d e : D} {vs : List V} (h : TpAll K G H vs [d, e]) : ∃ v u, vs = [v, u] ∧ Tp K G H v d ∧ Tp K G H u e := by
  cases h with | cons h t => cases t with | cons h2 t => cases t; exact ⟨_, _, rfl, h, h2⟩
def vLen : List D → (D → Prop) → Prop
  | [.lst ds], P => P (.int ds.length)
  | [.tup ds], P => P (.int ds.length)
  | [.dic ds], P => P (.int ds.length)
  | [.str z], P => z.length ≤ sizeLine ∧ P (.int z.length)
  | [.scr ns], P => P (.int ns.length)
  | _, _ => False
theorem l_len : ClV K (rLenU K) vLen := fun G H xs ds P Q s h f k => by
  unfold vLen at f
  split at f
  · obtain ⟨v, rfl, hv⟩ := h.inv1
    replace h := hv
    obtain ⟨a, vs, rfl, h1, q1⟩ := h.l s
    exact w_lenL (SqL.of h1) (by rw [q1.len]; exact k _ _ _ f (.old (.int _) rfl))
  · obtain ⟨v, rfl, hv⟩ := h.inv1
    replace h := hv
    obtain ⟨a, vs, rfl, _, h1, q1⟩ := h.t s
    exact w_lenT h1 (by rw [q1.len]; exact k _ _ _ f (.old (.int _) rfl))
  · obtain ⟨v, rfl, hv⟩ := h.inv1
    replace h := hv
    obtain ⟨a, kvs, rfl, h1, e1, q1⟩ := h.dk s
    have el := congrArg List.length e1
    rw [List.length_map, List.length_map] at el
    exact w_lenD h1 (by rw [el]; exact k _ _ _ f (.old (.int _) rfl))
  · obtain ⟨v, rfl, hv⟩ := h.inv1
    replace h := hv
    obtain rfl := h.strInv
    exact w_lenS f.1 (k _ _ _ f.2 (.old (.int _) rfl))
  · obtain ⟨v, rfl, hv⟩ := h.inv1
    cases hv with | dd hv => cases hv with | scr h1 => exact w_lenL (same_l s h1) (by rw [List.length_map]; exact k _ _ _ f (.old (.int _) rfl))
  · exact f.elim
def kD : Key → D
  | .inl i => .int i
  | .inr s => .str s
theorem dd_kD {k : Key} : Dd K G (kV k) (kD k) := by cases k; exact .int _; exact .str _
theorem keys_d : ∀ {kvs : List (Key × V)} {kds : List (Key × D)}, kvs.map Prod.fst = kds.map Prod.fst → DdAll K G (kvs.map fun kv => kV kv.1) (kds.map fun kv => kD kv.1)
  | [], [], _ => .nil
  | [], _ :: _, e => by simp at e
  | _ :: _, [], e => by simp at e
  | x :: l, y :: r, e => by
    rw [List.map_cons, List.map_cons] at e
    obtain ⟨h1, h2⟩ := List.cons.inj e
    rw [List.map_cons, List.map_cons, h1]
    exact .cons dd_kD (keys_d h2)
def vList : List D → (D → Prop) → Prop
  | [.lst ds], P => P (.lst ds)
  | [.tup ds], P => P (.lst ds)
  | [.dic kds], P => P (.lst (kds.map fun kv => kD kv.1))
  | _, _ => False
theorem l_list : ClV K (rListU K) vList := fun G H xs ds P Q s h f k => by
  unfold vList at f
  split at f
  · obtain ⟨v, rfl, hv⟩ := h.inv1
    replace h := hv
    obtain ⟨a, vs, rfl, h1, q1⟩ := h.l s
    exact w_listL (SqL.of h1) fun p hp => k _ _ _ f (.lst hp q1)
  · obtain ⟨v, rfl, hv⟩ := h.inv1
    replace h := hv
    obtain ⟨a, vs, rfl, _, h1, q1⟩ := h.t s
    exact w_listT h1 fun p hp => k _ _ _ f (.lst hp q1)
  · obtain ⟨v, rfl, hv⟩ := h.inv1
    replace h := hv
    obtain ⟨a, kvs, rfl, h1, e1, q1⟩ := h.dk s
    exact .inr ⟨a, kvs, rfl, .inl h1, fun p hp => k _ _ _ f (.lst hp (keys_d e1))⟩
  · exact f.elim
def vTupC : List D → (D → Prop) → Prop
  | [.lst ds], P => P (.tup ds)
  | [.tup ds], P => P (.tup ds)
  | _, _ => False
theorem l_tup : ClV K (rTupU K) vTupC := fun G H xs ds P Q s h f k => by
  unfold vTupC at f
  split at f
  · obtain ⟨v, rfl, hv⟩ := h.inv1
    replace h := hv
    obtain ⟨a, vs, rfl, h1, q1⟩ := h.l s
    exact w_tupL (SqL.of h1) fun p hp => k _ _ _ f (.tup hp q1)
  · obtain ⟨v, rfl, hv⟩ := h.inv1
    replace h := hv
    obtain ⟨a, vs, rfl, g1, h1, q1⟩ := h.t s
    exact w_tupT h1 (k _ _ _ f (.old (.tup g1 q1) rfl))
  · exact f.elim
def vInt : List D → (D → Prop) → Prop
  | [.int i], P => P (.int i)
  | [.bl b], P => P (.int (if b then 1 else 0))
  | _, _ => False
def vAbs : List D → (D → Prop) → Prop
  | [.int i], P => P (.int (if i < 0 then -i else i))
  | _, _ => False
def vMax2 : List D → (D → Prop) → Prop
  | [.int i, .int j], P => P (.int (if j > i then j else i))
  | _, _ => False
def vMin2 : List D → (D → Prop) → Prop
  | [.int i, .int j], P => P (.int (if j < i then j else i))
  | _, _ => False
theorem ints_v {ns : List Int} : ∀ {vs : List V}, DdAll K G vs (ns.map D.int) → vs = ns.map V.int := by
  induction ns with
  | nil => intro vs h; cases h; rfl
  | cons n ns ih =>
    intro vs h
    cases h with | cons h1 h2 => rw [List.map_cons, h1.intInv, ih h2]
theorem bls_v {ns : List Bool} : ∀ {vs : List V}, DdAll K G vs (ns.map D.bl) → vs = ns.map V.bl := by
  induction ns with
  | nil => intro vs h; cases h; rfl
  | cons n ns ih =>
    intro vs h
    cases h with | cons h1 h2 => rw [List.map_cons, h1.blInv, ih h2]
def vSum : List D → (D → Prop) → Prop
  | [.lst ds], P => ∃ ns : List Int, ds = ns.map D.int ∧ P (.int ns.sum)
  | _, _ => False
theorem l_sum : ClV K (rSum K) vSum := fun G H xs ds P Q s h f k => by
  unfold vSum at f
  split at f
  · obtain ⟨v, rfl, hv⟩ := h.inv1
    replace h := hv
    obtain ⟨ns, rfl, f⟩ := f
    obtain ⟨a, vs, rfl, h1, q1⟩ := h.l s
    rw [ints_v q1] at h1
    exact w_sum (SqL.of h1) (k _ _ _ f (.old (.int _) rfl))
  · exact f.elim
def vAll : List D → (D → Prop) → Prop
  | [.lst ds], P => ∃ ns : List Bool, ds = ns.map D.bl ∧ P (.bl (ns.all id))
  | _, _ => False
theorem l_all : ClV K (rAll K) vAll := fun G H xs ds P Q s h f k => by
  unfold vAll at f
  split at f
  · obtain ⟨v, rfl, hv⟩ := h.inv1
    replace h := hv
    obtain ⟨ns, rfl, f⟩ := f
    obtain ⟨a, vs, rfl, h1, q1⟩ := h.l s
    rw [bls_v q1] at h1
    exact w_all (SqL.of h1) (k _ _ _ f (.old (.bl _) rfl))
  · exact f.elim
def vAny : List D → (D → Prop) → Prop
  | [.lst ds], P => ∃ ns : List Bool, ds = ns.map D.bl ∧ P (.bl (ns.any id))
  | _, _ => False
theorem l_any : ClV K (rAny K) vAny := fun G H xs ds P Q s h f k => by
  unfold vAny at f
  split at f
  · obtain ⟨v, rfl, hv⟩ := h.inv1
    replace h := hv
    obtain ⟨ns, rfl, f⟩ := f
    obtain ⟨a, vs, rfl, h1, q1⟩ := h.l s
    rw [bls_v q1] at h1
    exact w_any (SqL.of h1) (k _ _ _ f (.old (.bl _) rfl))
  · exact f.elim
def vMax1 : List D → (D → Prop) → Prop
  | [.lst ds], P => ∃ ns : List Int, ds = ns.map D.int ∧ 0 < ns.length ∧ ∀ m, m ∈ ns → (∀ y, y ∈ ns → y ≤ m) → P (.int m)
  | _, _ => False
theorem l_max1 : ClV K (rMax K) vMax1 := fun G H xs ds P Q s h f k => by
  unfold vMax1 at f
  split at f
  · obtain ⟨v, rfl, hv⟩ := h.inv1
    replace h := hv
    obtain ⟨ns, rfl, h0, f⟩ := f
    obtain ⟨a, vs, rfl, h1, q1⟩ := h.l s
    rw [ints_v q1] at h1
    exact ⟨a, ns, rfl, SqL.of h1, h0, fun m hm hy => k _ _ _ (f m hm hy) (.old (.int _) rfl)⟩
  · exact f.elim
def vMin1 : List D → (D → Prop) → Prop
  | [.lst ds], P => ∃ ns : List Int, ds = ns.map D.int ∧ 0 < ns.length ∧ ∀ m, m ∈ ns → (∀ y, y ∈ ns → m ≤ y) → P (.int m)
  | _, _ => False
theorem l_min1 : ClV K (rMin K) vMin1 := fun G H xs ds P Q s h f k => by
  unfold vMin1 at f
  split at f
  · obtain ⟨v, rfl, hv⟩ := h.inv1
    replace h := hv
    obtain ⟨ns, rfl, h0, f⟩ := f
    obtain ⟨a, vs, rfl, h1, q1⟩ := h.l s
    rw [ints_v q1] at h1
    exact ⟨a, ns, rfl, SqL.of h1, h0, fun m hm hy => k _ _ _ (f m hm hy) (.old (.int _) rfl)⟩
  · exact f.elim
def D.tyN : D → Option String
  | .non => some "NoneType"
  | .bl _ => some "bool"
  | .int _ => some "int"
  | .str _ => some "str"
  | .lst _ => some "list"
  | .tup _ => some "tuple"
  | .dic _ => some "dict"
  | _ => none
def subT : String → String → Option Bool
  | "bool", "int" => some true
  | a, b => if ["int", "bool", "str", "list", "tuple", "dict"].contains b = true then some (a == b) else none
def vIsi : List D → (D → Prop) → Prop
  | [x, .ty n], P => ∃ a b, x.tyN = some a ∧ subT a n = some b ∧ P (.bl b)
  | _, _ => False
theorem tp_tyX {v : V} {d : D} {a : String} (s : Same G H) (h : Tp K G H v d) (e : d.tyN = some a) : TyX K H v (.type a) := by
  cases d with
  | non => cases e; obtain rfl := h.nonInv; exact .base .non
  | bl b => cases e; obtain rfl := h.blInv; exact .base (.bl b)
  | int b => cases e; obtain rfl := h.intInv; exact .base (.int b)
  | str b => cases e; obtain rfl := h.strInv; exact .base (.str b)
  | lst ds => cases e; obtain ⟨p, vs, rfl, h1, _⟩ := h.l s; exact .base (.lst h1)
  | tup ds => cases e; obtain ⟨p, vs, rfl, _, h1, _⟩ := h.t s; exact ty_t h1
  | dic kds => cases e; obtain ⟨p, kvs, rfl, h1, _⟩ := h.dk s; exact .base (.dK h1)
  | _ => cases e
theorem kit_sub {K : PySem.W.Frag} {d : D} {a n : String} {b : Bool} (ha : d.tyN = some a) (h : subT a n = some b) : PySem.W.kitOne K (.type a) (.type n) = some b := by
  have hn : n = "int" ∨ n = "bool" ∨ n = "str" ∨ n = "list" ∨ n = "tuple" ∨ n = "dict" := by
    unfold subT at h
    split at h
    · exact .inl rfl
    · split at h
      · rename_i q
        simpa using q
      · cases h
  have hT : a = "NoneType" ∨ a = "bool" ∨ a = "int" ∨ a = "str" ∨ a = "list" ∨ a = "tuple" ∨ a = "dict" := by
    cases d <;> simp [D.tyN] at ha <;> simp [← ha]
  rcases hT with rfl | rfl | rfl | rfl | rfl | rfl | rfl <;> rcases hn with rfl | rfl | rfl | rfl | rfl | rfl
  · obtain rfl : b = false := by simpa [subT] using h.symm
    exact kit_ty (by decide +kernel)
  · obtain rfl : b = false := by simpa [subT] using h.symm
    exact kit_ty (by decide +kernel)
  · obtain rfl : b = false := by simpa [subT] using h.symm
    exact kit_ty (by decide +kernel)
  · obtain rfl : b = false := by simpa [subT] using h.symm
    exact kit_ty (by decide +kernel)
  · obtain rfl : b = false := by simpa [subT] using h.symm
    exact kit_ty (by decide +kernel)
  · obtain rfl : b = false := by simpa [subT] using h.symm
    exact kit_ty (by decide +kernel)
  · obtain rfl : b = true := by simpa [subT] using h.symm
    exact kit_ty (by decide +kernel)
  · obtain rfl : b = true := by simpa [subT] using h.symm
    exact kit_ty (by decide +kernel)
  · obtain rfl : b = false := by simpa [subT] using h.symm
    exact kit_ty (by decide +kernel)
  · obtain rfl : b = false := by simpa [subT] using h.symm
    exact kit_ty (by decide +kernel)
  · obtain rfl : b = false := by simpa [subT] using h.symm
    exact kit_ty (by decide +kernel)
  · obtain rfl : b = false := by simpa [subT] using h.symm
    exact kit_ty (by decide +kernel)
  · obtain rfl : b = true := by simpa [subT] using h.symm
    exact kit_ty (by decide +kernel)
  · obtain rfl : b = false := by simpa [subT] using h.symm
    exact kit_ty (by decide +kernel)
  · obtain rfl : b = false := by simpa [subT] using h.symm
    exact kit_ty (by decide +kernel)
  · obtain rfl : b = false := by simpa [subT] using h.symm
    exact kit_ty (by decide +kernel)
  · obtain rfl : b = false := by simpa [subT] using h.symm
    exact kit_ty (by decide +kernel)
  · obtain rfl : b = false := by simpa [subT] using h.symm
    exact kit_ty (by decide +kernel)
  · obtain rfl : b = false := by simpa [subT] using h.symm
    exact kit_ty (by decide +kernel)
  · obtain rfl : b = false := by simpa [subT] using h.symm
    exact kit_ty (by decide +kernel)
  · obtain rfl : b = true := by simpa [subT] using h.symm
    exact kit_ty (by decide +kernel)
  · obtain rfl : b = false := by simpa [subT] using h.symm
    exact kit_ty (by decide +kernel)
  · obtain rfl : b = false := by simpa [subT] using h.symm
    exact kit_ty (by decide +kernel)
  · obtain rfl : b = false := by simpa [subT] using h.symm
    exact kit_ty (by decide +kernel)
  · obtain rfl : b = false := by simpa [subT] using h.symm
    exact kit_ty (by decide +kernel)
  · obtain rfl : b = false := by simpa [subT] using h.symm
    exact kit_ty (by decide +kernel)
  · obtain rfl : b = false := by simpa [subT] using h.symm
    exact kit_ty (by decide +kernel)
  · obtain rfl : b = true := by simpa [subT] using h.symm
    exact kit_ty (by decide +kernel)
  · obtain rfl : b = false := by simpa [subT] using h.symm
    exact kit_ty (by decide +kernel)
  · obtain rfl : b = false := by simpa [subT] using h.symm
    exact kit_ty (by decide +kernel)
  · obtain rfl : b = false := by simpa [subT] using h.symm
    exact kit_ty (by decide +kernel)
  · obtain rfl : b = false := by simpa [subT] using h.symm
    exact kit_ty (by decide +kernel)
  · obtain rfl : b = false := by simpa [subT] using h.symm
    exact kit_ty (by decide +kernel)
  · obtain rfl : b = false := by simpa [subT] using h.symm
    exact kit_ty (by decide +kernel)
  · obtain rfl : b = true := by simpa [subT] using h.symm
    exact kit_ty (by decide +kernel)
  · obtain rfl : b = false := by simpa [subT] using h.symm
    exact kit_ty (by decide +kernel)
  · obtain rfl : b = false := by simpa [subT] using h.symm
    exact kit_ty (by decide +kernel)
  · obtain rfl : b = false := by simpa [subT] using h.symm
    exact kit_ty (by decide +kernel)
  · obtain rfl : b = false := by simpa [subT] using h.symm
    exact kit_ty (by decide +kernel)
  · obtain rfl : b = false := by simpa [subT] using h.symm
    exact kit_ty (by decide +kernel)
  · obtain rfl : b = false := by simpa [subT] using h.symm
    exact kit_ty (by decide +kernel)
  · obtain rfl : b = true := by simpa [subT] using h.symm
    exact kit_ty (by decide +kernel)
theorem l_isi : ClV K (rIsiU K) vIsi := fun G H xs ds P Q s h f k => by
  unfold vIsi at f
  split at f
  · obtain ⟨v, u, rfl, hv, h'⟩ := h.inv2
    replace h := hv
    obtain ⟨a, b, ea, eb, f⟩ := f
    cases h' with
    | dd h' =>
    cases h'
    exact w_isi (tp_tyX s h ea) (kit_sub ea eb) (k _ _ _ f (.old (.bl _) rfl))
  · exact f.elim
def vJoin : D → List D → (D → Prop) → Prop
  | .str a, [.lst ds], P => ∃ ys : List Str, ds = ys.map D.str ∧ (ys.map (·.length)).sum + ys.length * a.length ≤ 16777216 ∧ P (.str (Txt.join a ys))
  | _, _, _ => False
theorem strs_v {ns : List Str} : ∀ {vs : List V}, DdAll K G vs (ns.map D.str) → vs = ns.map V.str := by
  induction ns with
  | nil => intro vs h; cases h; rfl
  | cons n ns ih =>
    intro vs h
    cases h with
    | cons h1 h2 =>
      cases h1
      rw [List.map_cons, ih h2]
theorem m_join : MtV K "str" (rJoinS K) vJoin := fun G H x d xs ds P Q s h hs f k => by
  unfold vJoin at f
  split at f
  · obtain rfl := h.strInv
    obtain ⟨v, rfl, h'⟩ := hs.inv1
    obtain ⟨ys, rfl, hz, f⟩ := f
    obtain ⟨a, vs, rfl, h1, q1⟩ := h'.l s
    rw [strs_v q1] at h1
    exact ⟨_, a, ys, rfl, rfl, .inl (SqL.of h1), hz, k _ _ _ f (.old (.str _) rfl)⟩
  · exact f.elim
def vSIdx : D → List D → (D → Prop) → Prop
  | .str a, [.str b], P => ∃ i rest, Builtin.Str.occurrences a b 0 a.length 1 = i :: rest ∧ P (.int (i : Nat))
  | _, _, _ => False
theorem m_sidx : MtV K "str" rSIdx vSIdx := fun G H x d xs ds P Q s h hs f k => by
  unfold vSIdx at f
  split at f
  · obtain rfl := h.strInv
    obtain ⟨v, rfl, h'⟩ := hs.inv1
    obtain rfl := h'.strInv
    obtain ⟨i, rest, e, f⟩ := f
    exact ⟨_, _, i, rest, rfl, rfl, e, k _ _ _ f (.old (.int _) rfl)⟩
  · exact f.elim
def vIdx : D → List D → (D → Prop) → Prop
  | .lst ds, [y], P => y.fl = true ∧ ds.all D.fl = true ∧ ∃ j z, ds[j]? = some z ∧ eqF z y = true ∧ (∀ (m : Nat) (z' : D), m < j → ds[m]? = some z' → eqF z' y = false) ∧ P (.int (j : Nat))
  | _, _, _ => False
theorem m_idx : MtV K "list" (rIndex K) vIdx := fun G H x d xs ds P Q s h hs f k => by
  unfold vIdx at f
  split at f
  · obtain ⟨v, rfl, h'⟩ := hs.inv1
    obtain ⟨fy, fs, j, z, ez, e1, e2, f⟩ := f
    obtain ⟨a, vs, rfl, h1, q1⟩ := h.l s
    have hv := h'.s (fl_sc fy)
    obtain ⟨u, eu, hu⟩ := q1.get ez
    have fz : z.fl = true := List.all_eq_true.mp fs z (List.mem_of_getElem? ez)
    refine ⟨a, vs, v, j, u, rfl, rfl, SqL.of h1, fl_v hv fy, fls_v q1 fs, eu, ?_, fun m z' hm hz' => ?_, k _ _ _ f (.old (.int _) rfl)⟩
    · rw [eqF_v hu hv fz fy]; exact e1
    · obtain ⟨d', ed, hd⟩ := q1.getV hz'
      rw [eqF_v hd hv (List.all_eq_true.mp fs d' (List.mem_of_getElem? ed)) fy]
      exact e2 m d' hm ed
  · exact f.elim
def vExtend : List D → List D → (List D → D → Prop) → Prop
  | ds, [.lst es], P => ds.length + es.length ≤ sizeLine ∧ P (ds ++ es) .non
  | _, _, _ => False
theorem u_extend : MuV K rExtend vExtend := fun G H a vs ds xs es P Q s e q h f k => by
  unfold vExtend at f
  split at f
  · obtain ⟨v, rfl, hv⟩ := h.inv1
    replace h := hv
    obtain ⟨b, ws, rfl, h1, q1⟩ := h.l s
    exact ⟨a, b, vs, ws, rfl, rfl, e, h1, by rw [q.len, q1.len]; exact f.1, k _ _ _ _ f.2 (q.app q1)⟩
  · exact f.elim
def vReverse : List D → List D → (List D → D → Prop) → Prop
  | ds, [], P => P ds.reverse .non
  | _, _, _ => False
theorem u_reverse : MuV K rReverse vReverse := fun G H a vs ds xs es P Q s e q h f k => by
  cases h with
  | nil => exact ⟨a, vs, rfl, rfl, e, k _ _ _ _ f q.rev⟩
  | cons _ _ => exact f.elim
def vClear : List D → List D → (List D → D → Prop) → Prop
  | _, [], P => P [] .non
  | _, _, _ => False
end
end Ps
namespace Ps
open PySem PySem.Spec PyProof.Rows L2
section
variable {K : PySem.W.Frag} {G G' H H' : Hp} {R S X C : List (Addr × HO)} {m : Nat} {a : Addr}
def vTake : VSp := fun ds m P _ => ∃ (a : Addr) (n : Int) (k : Nat) (s : Sto), ds = [.adr a, .int n] ∧ m = (some (a, k + 1), s) ∧ 0 < n ∧ n < 2 ^ 62 ∧ ∀ v : Int, 0 ≤ v → v < n → P (.int v) (some (a, k), s)
theorem amb_lw {a : Addr} {k : Nat} {s : Sto} (w : Wd (C ++ R) G H) (h : Amb K G (some (a, k), s) C) : ∃ C2, StoC K G s C2 ∧ LW k a (C2 ++ R) G H := by
  obtain ⟨C1, C2, rfl, ⟨c, t, ns, rfl, h1, h2, h3⟩, st⟩ := h
  exact ⟨C2, st, c, t, ns, by rw [List.append_assoc] at w; exact w, h1, h2, h3⟩
theorem lw_amb {a : Addr} {k : Nat} (h : LW k a R G H) : ∃ C, Wd (C ++ R) G H ∧ AmbD (some (a, k)) C := by
  obtain ⟨c, t, ns, w, h1, h2, h3⟩ := h
  exact ⟨[(a, stD c t), (c, .lst (ns.map V.int))], w, c, t, ns, rfl, h1, h2, h3⟩
theorem dd_adr {v : V} {a : Addr} (h : Dd K G v (.adr a)) : v = .ref a := by cases h; rfl
theorem cv_take {vs : List V} {Q : VK} {E : XK} (h : spV K .O vTake vs H Q E) : spTake vs H Q E := by
  obtain ⟨ds, G, R, C, m, P, X, w, am, q, ⟨a, n, k, s, rfl, rfl, h1, h2, h3⟩, hk, _⟩ := h
  obtain ⟨u, v, rfl, q1, q2⟩ := BoAll.inv2 q
  obtain rfl := dd_adr q1
  obtain rfl := q2.intInv
  obtain ⟨C2, st, lw0⟩ := amb_lw w am
  refine ⟨k, a, n, C2 ++ R, G, rfl, lw0, h1, h2, fun v H' lw h4 h5 => ?_⟩
  obtain ⟨C', w', am'⟩ := lw_amb lw
  exact hk _ _ _ _ G [] (C' ++ C2) (h3 v h4 h5) (Same.refl _) (by rw [List.nil_append, List.append_assoc]; exact w') ⟨C', C2, rfl, am', st⟩ ⟨rfl, .int v⟩
theorem Wd.join (w : Wd R G H) (x : Wd X H H') : Wd (X ++ R) G H' := by
  refine ⟨w.1.trans x.1, fun y hy => ?_, ?_⟩
  · rcases List.mem_append.mp hy with h | h
    · exact ⟨(x.2.1 y h).1, w.1.free (x.2.1 y h).2⟩
    · exact ⟨x.1 _ _ (w.2.1 y h).1, (w.2.1 y h).2⟩
  · rw [List.map_append]
    refine List.nodup_append.mpr ⟨x.2.2, w.2.2, fun b hb b' hb' e => ?_⟩
    subst e
    obtain ⟨y, hy, rfl⟩ := List.mem_map.mp hb
    obtain ⟨z, hz, e⟩ := List.mem_map.mp hb'
    have := (w.2.1 z hz).1
    rw [e, (x.2.1 y hy).2] at this
    cases this
def vBegin : VSp := fun ds m P _ => ∃ ns : List Int, ds = [.scr ns] ∧ ns.length ≤ 63 ∧ m = (none, emp) ∧ ∀ a, P (.adr a) (some (a, 2 ^ 50), emp)
theorem cv_begin {vs : List V} {Q : VK} {E : XK} (h : spV K .O vBegin vs H Q E) : spBegin K vs H Q E := by
  obtain ⟨ds, G, R, C, m, P, X, w, am, q, ⟨ns, rfl, hl, rfl, h3⟩, hk, _⟩ := h
  obtain ⟨u, rfl, q1⟩ := BoAll.inv1 q
  obtain rfl := am.none_inv
  cases q1 with
  | scr q1 =>
    refine ⟨_, ns, rfl, same_l w.1 q1, hl, fun a H' lw => ?_⟩
    obtain ⟨C', w', am'⟩ := lw_amb lw
    rw [List.append_nil] at w'
    exact hk _ _ _ _ G [] C' (h3 a) (Same.refl _) (w.join w') ⟨C', [], (List.append_nil _).symm, am', [], fun _ => rfl, .nil⟩ ⟨rfl, .adr a⟩
def vSame (n : Nat) : VSp := fun ds m P _ => ∃ x y : D, ds = [x, y] ∧ x.pl = true ∧ y.pl = true ∧ x.py = y.py ∧ okD n y.py = true ∧ P (.bl true) m
theorem cv_same {n : Nat} {vs : List V} {Q : VK} {E : XK} (h : spV K .O (vSame n) vs H Q E) : spSame K n vs H Q E := by
  obtain ⟨ds, G, R, C, m, P, X, w, am, q, ⟨x, y, rfl, px, py, e, hn, h3⟩, hk, _⟩ := h
  obtain ⟨u, v, rfl, q1, q2⟩ := BoAll.inv2 q
  refine ⟨u, v, y.py, rfl, e ▸ dp_mono w.1 _ _ (q1.dp px), dp_mono w.1 _ _ (q2.dp py), hn, fun H' s => ?_⟩
  exact hk _ _ _ _ G [] C h3 (Same.refl _) (w.same s) am ⟨rfl, .bl true⟩
def vLaw : VSp := fun ds m P _ => ∃ ns : List Int, ds = [.scr ns] ∧ ns.length ≤ 63 ∧ m = (none, emp) ∧ ∀ m', P (.bl true) m'
theorem cv_law {t : OT} {vs : List V} {Q : VK} {E : XK} (h : spLaw K vs H Q E) : spV K t vLaw vs H Q E := by
  obtain ⟨a, ns, rfl, hs, hl, k⟩ := h
  refine ⟨[.scr ns], H, [], [], (none, emp), fun d _ => d = .bl true, fun _ _ _ => False, Wd.nil (Same.refl _), Amb.none, .one (.scr hs), ⟨ns, rfl, hl, rfl, fun _ => rfl⟩, ?_, fun _ _ _ _ _ _ _ h => h.elim⟩
  rintro d m' v H' G' S1 C' rfl s w am o
  have : v = .bl true := by
    cases t with
    | F => exact o.2.blInv
    | O => exact Dd.blInv o.2
  subst this
  exact k H'
theorem spV.imp {t : OT} {a b : VSp} (h : ∀ ds m P X, a ds m P X → b ds m P X) {vs : List V} {Q : VK} {E : XK} (q : spV K t a vs H Q E) : spV K t b vs H Q E := by
  obtain ⟨ds, G, R, C, m, P, X, w, am, q, hs, k⟩ := q
  exact ⟨ds, G, R, C, m, P, X, w, am, q, h _ _ _ _ hs, k⟩
theorem spV.len {t : OT} {a : VSp} {n : Nat} (h : ∀ ds m P X, a ds m P X → ds.length = n) {vs : List V} {Q : VK} {E : XK} (q : spV K t a vs H Q E) : vs.length = n := by
  obtain ⟨ds, G, R, C, m, P, X, w, am, q, hs, k⟩ := q
  rw [q.len]; exact h _ _ _ _ hs
end
end Ps
namespace Ps
open PySem PySem.Spec PyProof.Rows L2
section
variable {c : JC} {K : PySem.W.Frag} {Γ : List OT} {G G' H H' : Hp} {T S S1 S2 R : List (Addr × HO)} {env : Env} {σ : L2.St} {m : Mst} {v : V} {d : D}
def vDNew : VE := fun _ m P => P (.dic []) m
abbrev VP := Env → Mst → (List (D × D) → Mst → Prop) → Prop
def vpNil : VP := fun _ m P => P [] m
def vpCons (a b : VE) (r : VP) : VP := fun env m P => a env m fun x m1 => b env m1 fun y m2 => r env m2 fun ps m3 => P ((x, y) :: ps) m3
inductive DdPairs (K : PySem.W.Frag) (G : Hp) : List (V × V) → List (D × D) → Prop
  | nil : DdPairs K G [] []
  | cons {u v : V} {d e : D} {us : List (V × V)} {ds : List (D × D)} : Dd K G u d → Dd K G v e → DdPairs K G us ds → DdPairs K G ((u, v) :: us) ((d, e) :: ds)
theorem DdPairs.mono (s : Same G G') {us : List (V × V)} {ds : List (D × D)} (h : DdPairs K G us ds) : DdPairs K G' us ds := by
  induction h with
  | nil => exact .nil
  | cons h1 h2 _ ih => exact .cons (h1.mono s) (h2.mono s) ih
def pairsK : List (D × D) → Option (List (Key × D))
  | [] => some []
  | (x, y) :: r => match dKey x, pairsK r with
    | some k, some ks => some ((k, y) :: ks)
    | _, _ => none
def mergeD (kds more : List (Key × D)) : List (Key × D) := more.foldl (fun acc kv => dput acc kv.1 kv.2) kds
def vDisp (vp : VP) : VE := fun env m P => vp env m fun ps m1 => ∃ ks, pairsK ps = some ks ∧ ks.length ≤ 15 ∧ P (.dic (mergeD [] ks)) m1
def vFldX (K : PySem.W.Frag) (ve : VE) (f : Str) : VE := fun env m P => ve env m fun x m1 => match x with
  | .exc C fs => ∃ d, XfC K C ∧ PySem.W.findIn K (.ref C) f = some none ∧ fs.lookup f = some d ∧ P d m1
  | _ => False
end
end Ps
namespace Ps
open PySem PySem.Spec PyProof.Rows L2
section
variable {V : VEnds} {env : Env} {m : Mst} {a b : VS} {ve va vb vc : VE} {vl : VA} {vt vu : VT} {vg : VG} {vgs : VGs} {i j : Nat} {d e : D} {ds : List D} {P : D → Mst → Prop} {B : Bool → Mst → Prop} {A : List D → Mst → Prop} {E : Env → Prop} {Z : D → Prop} {n k : Int} {s t : Str}
theorem e_seq (h : a { V with nx := b V } env m) : vSeqS a b V env m := h
theorem e_seqO (h : ∀ N : Env → Mst → Prop, (∀ e m, b V e m → N e m) → a { V with nx := N } env m) : vSeqS a b V env m := h (b V) fun _ _ h => h
theorem e_seqAsg {vi : VE} {g : VG} (h : (vAsg vi g) { V with nx := b V } env m) : vSeqS (vAsg vi g) b V env m := h
theorem e_seqDrop {vi : VE} (h : (vDrop vi) { V with nx := b V } env m) : vSeqS (vDrop vi) b V env m := h
theorem e_seqAug {f : D → D → (D → Prop) → Prop} {vi : VE} (h : (vAug i f vi) { V with nx := b V } env m) : vSeqS (vAug i f vi) b V env m := h
theorem e_seqApp {vi : VE} (h : (vApp i vi) { V with nx := b V } env m) : vSeqS (vApp i vi) b V env m := h
theorem e_seqMut {f : List D → List D → (List D → D → Prop) → Prop} (h : (vMut i f vl) { V with nx := b V } env m) : vSeqS (vMut i f vl) b V env m := h
theorem e_seqPut {vi vk : VE} (h : (vPut i vi vk) { V with nx := b V } env m) : vSeqS (vPut i vi vk) b V env m := h
theorem e_seqPar  (h : (vPar i j vl) { V with nx := b V } env m) : vSeqS (vPar i j vl) b V env m := h
theorem e_seqFor {ws : List Nat} {vi : VA} (h : (vFor ws vi vg a) { V with nx := b V } env m) : vSeqS (vFor ws vi vg a) b V env m := h
theorem e_seqWhile {ws : List Nat} (h : (vWhile ws vt a) { V with nx := b V } env m) : vSeqS (vWhile ws vt a) b V env m := h
theorem e_seqNext  (h : (vNext) { V with nx := b V } env m) : vSeqS (vNext) b V env m := h
theorem e_seqSeq {x y : VS} (h : (vSeqS x y) { V with nx := b V } env m) : vSeqS (vSeqS x y) b V env m := h
theorem e_asg (h : ve env m fun d m1 => vg d env fun e1 => V.nx e1 m1) : vAsg ve vg V env m := h
theorem e_drop (h : ve env m fun _ m1 => V.nx env m1) : vDrop ve V env m := h
theorem e_ret (h : ve env m V.rt) : vRet ve V env m := h
theorem e_retN (h : V.rt .non m) : vRetN V env m := h
theorem e_if (h : vt env m fun x m1 => if x = true then a V env m1 else b V env m1) : vIf vt a b V env m := h
theorem e_next (h : V.nx env m) : vNext V env m := h
theorem e_brk (h : V.bk env m) : vBrk V env m := h
theorem e_cont (h : V.ct env m) : vCont V env m := h
theorem e_aug {f : D → D → (D → Prop) → Prop} (hx : env[i]? = some (some d)) (h : ve env m fun y m1 => f d y fun z => V.nx (env.set i (some z)) m1) : vAug i f ve V env m := ⟨d, hx, h⟩
theorem e_par (h : vl env m fun ds m1 => match ds with | [d, e] => V.nx ((env.set i (some d)).set j (some e)) m1 | _ => False) : vPar i j vl V env m := h
theorem e_app (hx : env[i]? = some (some (.lst ds))) (h : ve env m fun d m1 => ds.length < sizeLine ∧ V.nx (env.set i (some (.lst (ds ++ [d])))) m1) : vApp i ve V env m := ⟨ds, hx, h⟩
theorem e_mut {f : List D → List D → (List D → D → Prop) → Prop} (hx : env[i]? = some (some (.lst ds))) (h : vl env m fun xs m1 => f ds xs fun ds' z => V.nx (env.set i (some (.lst ds'))) m1) : vMut i f vl V env m := ⟨ds, hx, h⟩
theorem e_put {vk : VE} (h : ve env m fun d m1 => ∃ x, env[i]? = some (some x) ∧ vk env m1 fun y m2 => match x, y with
  | .lst ds, .int k => ∃ j, ixN ds.length k = some j ∧ V.nx (env.set i (some (.lst (ds.set j d)))) m2
  | .dic kds, y => ∃ k, dKey y = some k ∧ kds.length < sizeLine ∧ V.nx (env.set i (some (.dic (dput kds k d)))) m2
  | _, _ => False) : vPut i ve vk V env m := h
theorem e_gname (h : E (env.set i (some d))) : vgName i d env E := h
theorem e_gtup {n : Nat} (hl : ds.length = n) (h : vgs ds env E) : vgTup n vgs (.tup ds) env E := ⟨hl, h⟩
theorem e_gtupU {n : Nat} (hl : ds.length = n) (h : vgs ds env E) : vgTupU n vgs (.tup ds) env E := ⟨hl, h⟩
theorem e_gtupL {n : Nat} (hl : ds.length = n) (h : vgs ds env E) : vgTupU n vgs (.lst ds) env E := ⟨hl, h⟩
theorem e_gcons (h : vg d env fun e => vgs ds e E) : vgCons vg vgs (d :: ds) env E := h
theorem e_gnil (h : E env) : vgNil [] env E := ⟨rfl, h⟩
theorem e_var (hx : env[i]? = some (some d)) (h : P d m) : vVar i env m P := ⟨d, hx, h⟩
theorem e_c (h : P d m) : vC d env m P := h
theorem e_nil (h : A [] m) : vNil env m A := h
theorem e_cons (h : ve env m fun d m1 => vl env m1 fun ds m2 => A (d :: ds) m2) : vCons ve vl env m A := h
theorem e_op {f : D → D → (D → Prop) → Prop} (h : va env m fun x m1 => vb env m1 fun y m2 => f x y fun z => P z m2) : vOp f va vb env m P := h
theorem e_un {f : D → (D → Prop) → Prop} (h : va env m fun x m1 => f x fun z => P z m1) : vUn f va env m P := h
theorem e_cb {f : List D → (D → Prop) → Prop} (h : vl env m fun xs m1 => f xs fun z => P z m1) : vCB f vl env m P := h
theorem e_bm {T : String} {f : D → List D → (D → Prop) → Prop} (h : ve env m fun x m1 => isTy T x = true ∧ vl env m1 fun xs m2 => f x xs fun z => P z m2) : vBMt T f ve vl env m P := h
theorem e_bm0 {T : String} {f : D → List D → (D → Prop) → Prop} (h : ve env m fun x m1 => isTy T x = true ∧ f x [] fun z => P z m1) : vBM0 T f ve env m P := h
theorem e_tyS {Q : Prop} (h : Q) : isTy "str" (.str s) = true ∧ Q := ⟨rfl, h⟩
theorem e_tyL {Q : Prop} (h : Q) : isTy "list" (.lst ds) = true ∧ Q := ⟨rfl, h⟩
theorem e_tyD {Q : Prop} {kds : List (Key × D)} (h : Q) : isTy "dict" (.dic kds) = true ∧ Q := ⟨rfl, h⟩
theorem e_lst (h : vl env m fun xs m1 => xs.length ≤ sizeLine ∧ P (.lst xs) m1) : vLst vl env m P := h
theorem e_tup (h : vl env m fun xs m1 => xs.length ≤ sizeLine ∧ P (.tup xs) m1) : vTup vl env m P := h
theorem e_len (hz : Nat.ble ds.length 16777216 = true) {Q : Prop} (h : Q) : ds.length ≤ sizeLine ∧ Q := ⟨sz_le (Nat.le_of_ble_eq_true hz), h⟩
theorem e_ifE (h : vt env m fun b m1 => if b = true then va env m1 P else vb env m1 P) : vIfE vt va vb env m P := h
theorem e_andV (h : va env m fun x m1 => ∃ b, x = .bl b ∧ if b = true then vb env m1 P else P (.bl false) m1) : vAndV va vb env m P := h
theorem e_orV (h : va env m fun x m1 => ∃ b, x = .bl b ∧ if b = true then P (.bl true) m1 else vb env m1 P) : vOrV va vb env m P := h
theorem e_notV (h : va env m fun x m1 => ∃ b, x = .bl b ∧ P (.bl (!b)) m1) : vNotV va env m P := h
theorem e_blE {b : Bool} {Q : Bool → Prop} (h : Q b) : ∃ c, D.bl b = .bl c ∧ Q c := ⟨b, rfl, h⟩
theorem e_chain {f g : D → D → (D → Prop) → Prop} (h : va env m fun x m1 => vb env m1 fun y m2 => f x y fun z => ∃ b, z = .bl b ∧ if b = true then vc env m2 fun w m3 => g y w fun u => P u m3 else P (.bl false) m2) : vChain f g va vb vc env m P := h
theorem e_test (h : ve env m fun x m1 => ∃ b, x = .bl b ∧ B b m1) : vTest ve env m B := h
theorem e_tru (h : ve env m fun x m1 => truD x B m1) : vTru ve env m B := h
theorem e_truB {b : Bool} (h : B b m) : truD (.bl b) B m := h
theorem e_truN (h : B false m) : truD .non B m := h
theorem e_truI (h : B (n != 0) m) : truD (.int n) B m := h
theorem e_truL (h : B (!ds.isEmpty) m) : truD (.lst ds) B m := h
theorem e_truT (h : B (!ds.isEmpty) m) : truD (.tup ds) B m := h
theorem e_and (h : vt env m fun x m1 => if x = true then vu env m1 B else B false m1) : vAnd vt vu env m B := h
theorem e_or (h : vt env m fun x m1 => if x = true then B true m1 else vu env m1 B) : vOr vt vu env m B := h
theorem e_not (h : vt env m fun x m1 => B (!x) m1) : vNot vt env m B := h
theorem e_yes (h : B true m) : vYes env m B := h
theorem e_call {vsp : VSp} (h : vl env m fun ds m1 => vsp ds m1 P fun _ _ _ => False) : vCall vsp vl env m P := h
theorem e_callB {vsp : VSp} {t : OT} (h : vl env m fun ds m1 => ∃ es, RsAll m1.2 ds es ∧ vsp es (none, emp) (fun d _ => frOk t d ∧ P d m1) fun _ _ _ => False) : vCallB t vsp vl env m P := h
theorem e_callBS {vsp : VSp} {t : OT} {VW : XW} (h : vl env m fun ds m1 => ∃ es, RsAll m1.2 ds es ∧ vsp es (none, emp) (fun d _ => frOk t d ∧ P d m1) fun C fs _ => (∀ f ∈ fs, D.Im f.2) ∧ VW C fs env m1) : vCallBS t vsp VW vl env m P := h
theorem frOk_bl {t : OT} {b : Bool} : frOk t (.bl b) := by cases t; exact .bl b; exact .inl (.bl b)
theorem frOk_int {t : OT} {b : Int} : frOk t (.int b) := by cases t; exact .int b; exact .inl (.int b)
theorem e_frB {t : OT} {b : Bool} {Q : Prop} (h : Q) : frOk t (.bl b) ∧ Q := ⟨frOk_bl, h⟩
theorem e_frI {t : OT} {b : Int} {Q : Prop} (h : Q) : frOk t (.int b) ∧ Q := ⟨frOk_int, h⟩
theorem e_callS {vsp : VSp} {VW : XW} (h : vl env m fun ds m1 => vsp ds m1 P fun C fs m2 => VW C fs env m2) : vCallS vsp VW vl env m P := h
theorem e_sl {f : D → Option Int → Option Int → (D → Prop) → Prop} {vlo vhi : VO} (h : ve env m fun x m1 => vlo env m1 fun l m2 => vhi env m2 fun h m3 => f x l h fun z => P z m3) : vSl f ve vlo vhi env m P := h
theorem e_nopart {Q : Option Int → Mst → Prop} (h : Q none m) : vNoPart env m Q := h
theorem e_part {Q : Option Int → Mst → Prop} (h : ve env m fun x m1 => ∃ i, x = .int i ∧ Q (some i) m1) : vPart ve env m Q := h
theorem e_intE {Q : Int → Prop} (h : Q n) : ∃ i, D.int n = .int i ∧ Q i := ⟨n, rfl, h⟩
theorem e_dnew (h : P (.dic []) m) : vDNew env m P := h
theorem e_rz1 {VW : XW} {C : Addr} {f : Str} (h : vl env m fun ds m1 => match ds with | [d] => VW C [(f, d)] env m1 | _ => False) : vRz1 VW C f vl V env m := h
theorem e_rz0 {VW : XW} {C : Addr} (h : VW C [] env m) : vRaise VW C [] V env m := h
theorem e_addI (h : Z (.int (n + k))) : vAdd (.int n) (.int k) Z := h
theorem e_addL {x y : List D} (hz : x.length + y.length ≤ 16777216) (h : Z (.lst (x ++ y))) : vAdd (.lst x) (.lst y) Z := ⟨sz_le hz, h⟩
theorem e_subI (h : Z (.int (n - k))) : vSub (.int n) (.int k) Z := h
theorem e_mulI (hc : CMul n k ∨ CMulW n k) (h : Z (.int (n * k))) : vMul (.int n) (.int k) Z := ⟨hc, h⟩
theorem e_divI (hc : CDiv n k ∨ CDivW n k) (h : Z (.int (n / k))) : vDiv (.int n) (.int k) Z := ⟨hc, h⟩
theorem e_modI (hc : 0 < k) (h : Z (.int (n % k))) : vMod (.int n) (.int k) Z := ⟨hc, h⟩
theorem e_powI (hc : CPow n k) (h : Z (.int (n ^ k.toNat))) : vPow (.int n) (.int k) Z := ⟨hc, h⟩
theorem e_negI (h : Z (.int (-n))) : vNeg (.int n) Z := h
theorem e_eqI (h : Z (.bl (decide (n = k)))) : vEqC (.int n) (.int k) Z := h
theorem e_eqS (h : Z (.bl (decide (s = t)))) : vEqC (.str s) (.str t) Z := h
theorem e_eqB {x y : Bool} (h : Z (.bl (decide (x = y)))) : vEqC (.bl x) (.bl y) Z := h
theorem e_neI (h : Z (.bl (!decide (n = k)))) : vNeC (.int n) (.int k) Z := h
theorem e_neS (h : Z (.bl (!decide (s = t)))) : vNeC (.str s) (.str t) Z := h
theorem e_neB {x y : Bool} (h : Z (.bl (!decide (x = y)))) : vNeC (.bl x) (.bl y) Z := h
theorem e_eqX (hs : scD d e = true) (h : Z (.bl (eqS d e))) : vEqC d e Z := by unfold vEqC; rw [if_pos hs]; exact h
theorem e_neX (hs : scD d e = true) (h : Z (.bl (!eqS d e))) : vNeC d e Z := by unfold vNeC; rw [if_pos hs]; exact h
theorem e_neD (hs : scD d e = false) (hd : d.pl = true ∧ e.pl = true ∧ SeqAt.shaped d.py = true ∧ SeqAt.shaped e.py = true) (h : Z (.bl (!PyData.eqv d.py e.py))) : vNeC d e Z := by unfold vNeC; rw [if_neg (by rw [hs]; exact Bool.false_ne_true)]; exact ⟨hd, h⟩
theorem e_ltI (h : Z (.bl (decide (n < k)))) : vLt (.int n) (.int k) Z := h
theorem e_leI (h : Z (.bl (decide (n ≤ k)))) : vLe (.int n) (.int k) Z := h
theorem e_gtI (h : Z (.bl (decide (k < n)))) : vGt (.int n) (.int k) Z := h
theorem e_geI (h : Z (.bl (decide (k ≤ n)))) : vGe (.int n) (.int k) Z := h
theorem e_isNn (h : Z (.bl true)) : vIsN .non .non Z := h
theorem e_isNi (h : Z (.bl false)) : vIsN (.int n) .non Z := h
theorem e_isNs (h : Z (.bl false)) : vIsN (.str s) .non Z := h
theorem e_isNl (h : Z (.bl false)) : vIsN (.lst ds) .non Z := h
theorem e_isNt (h : Z (.bl false)) : vIsN (.tup ds) .non Z := h
theorem e_isNb {b : Bool} (h : Z (.bl false)) : vIsN (.bl b) .non Z := h
theorem e_ntNn (h : Z (.bl false)) : vNotN .non .non Z := h
theorem e_ntNi (h : Z (.bl true)) : vNotN (.int n) .non Z := h
theorem e_ntNs (h : Z (.bl true)) : vNotN (.str s) .non Z := h
theorem e_ntNl (h : Z (.bl true)) : vNotN (.lst ds) .non Z := h
theorem e_ntNt (h : Z (.bl true)) : vNotN (.tup ds) .non Z := h
theorem e_isN (h : Z (.bl d.isN)) : vIsN d .non Z := by cases d <;> exact h
theorem e_notN (h : Z (.bl (!d.isN))) : vNotN d .non Z := by cases d <;> exact h
theorem e_ixL {x : D} (he : atI ds n = some x) (h : Z x) : vIx (.lst ds) (.int n) Z := ⟨x, he, h⟩
theorem e_ixT {x : D} (he : atI ds n = some x) (h : Z x) : vIx (.tup ds) (.int n) Z := ⟨x, he, h⟩
theorem e_ixS {c : Nat} (hz : s.length ≤ 16777216) (he : atI s.cps.toList n = some c) (h : Z (.str ⟨#[c]⟩)) : vIx (.str s) (.int n) Z := ⟨sz_le hz, c, he, h⟩
theorem e_ipaI (h : Z (.int (n + k))) : vIpAdd (.int n) (.int k) Z := h
theorem e_ipmI (hc : CMul n k ∨ CMulW n k) (h : Z (.int (n * k))) : vIpMul (.int n) (.int k) Z := ⟨hc, h⟩
theorem e_lenL (h : Z (.int ds.length)) : vLen [.lst ds] Z := h
theorem e_lenT (h : Z (.int ds.length)) : vLen [.tup ds] Z := h
theorem e_lenD {kds : List (Key × D)} (h : Z (.int kds.length)) : vLen [.dic kds] Z := h
theorem e_lenS (hz : s.length ≤ 16777216) (h : Z (.int s.length)) : vLen [.str s] Z := ⟨sz_le hz, h⟩
theorem e_listL (h : Z (.lst ds)) : vList [.lst ds] Z := h
theorem e_listT (h : Z (.lst ds)) : vList [.tup ds] Z := h
theorem e_tupL (h : Z (.tup ds)) : vTupC [.lst ds] Z := h
theorem e_tupT (h : Z (.tup ds)) : vTupC [.tup ds] Z := h
theorem e_intI (h : Z (.int n)) : vInt [.int n] Z := h
theorem e_intB {b : Bool} (h : Z (.int (if b then 1 else 0))) : vInt [.bl b] Z := h
theorem e_abs (h : Z (.int (if n < 0 then -n else n))) : vAbs [.int n] Z := h
theorem e_max2 (h : Z (.int (if k > n then k else n))) : vMax2 [.int n, .int k] Z := h
theorem e_min2 (h : Z (.int (if k < n then k else n))) : vMin2 [.int n, .int k] Z := h
theorem e_isi {x : D} {ty a : String} {b : Bool} (ha : x.tyN = some a) (hb : subT a ty = some b) (h : Z (.bl b)) : vIsi [x, .ty ty] Z := ⟨a, b, ha, hb, h⟩
theorem e_cutL {lo hi : Option Int} (h : Z (.lst (cutD ds lo hi))) : vCut (.lst ds) lo hi Z := h
theorem e_cutT {lo hi : Option Int} (h : Z (.tup (cutD ds lo hi))) : vCut (.tup ds) lo hi Z := h
theorem e_cutS {lo hi : Option Int} (hz : s.length ≤ 16777216) (h : Z (.str (cutS s lo hi))) : vCut (.str s) lo hi Z := ⟨sz_le hz, h⟩
theorem e_ext {es : List D} {Y : List D → D → Prop} (hz : ds.length + es.length ≤ 16777216) (h : Y (ds ++ es) .non) : vExtend ds [.lst es] Y := ⟨sz_le hz, h⟩
theorem e_revm {Y : List D → D → Prop} (h : Y ds.reverse .non) : vReverse ds [] Y := h
theorem e_clrm {Y : List D → D → Prop} (h : Y [] .non) : vClear ds [] Y := h
theorem e_sum {ns : List Int} (h : Z (.int ns.sum)) : vSum [.lst (ns.map D.int)] Z := ⟨ns, rfl, h⟩
theorem e_all {ns : List Bool} (h : Z (.bl (ns.all id))) : vAll [.lst (ns.map D.bl)] Z := ⟨ns, rfl, h⟩
theorem e_any {ns : List Bool} (h : Z (.bl (ns.any id))) : vAny [.lst (ns.map D.bl)] Z := ⟨ns, rfl, h⟩
theorem e_take {x : Addr} {r : Nat} {s0 : Sto} {VX : XV} (hl : 1 ≤ r) (h0 : 0 < n) (h1 : n < 2 ^ 62) (h : ∀ (v : Int) (r' : Nat), 0 ≤ v → v < n → r ≤ r' + 1 → P (.int v) (some (x, r'), s0)) : vTake [.adr x, .int n] (some (x, r), s0) P VX := ⟨x, n, r - 1, s0, rfl, by rw [Nat.sub_add_cancel (by omega)], h0, h1, fun v q1 q2 => h v _ q1 q2 (by omega)⟩
theorem e_sc {b : Bool} {Q : Prop} (h : Q) : (D.bl b).sc = true ∧ Q := ⟨rfl, h⟩
theorem e_scI {Q : Prop} (h : Q) : (D.int n).sc = true ∧ Q := ⟨rfl, h⟩
theorem e_same {k : Nat} {VX : XV} (hd : d.pl = true) (he : e.pl = true) (hq : d.py = e.py) (hk : okD k e.py = true) (h : P (.bl true) m) : vSame k [d, e] m P VX := ⟨d, e, rfl, hd, he, hq, hk, h⟩
end
section
variable {va : VA} {ve : VE} {env : Env} {m : Mst} {A : List D → Mst → Prop} {ds es : List D} {n k : Int}
theorem e_seqv (h : ve env m fun x m1 => itSeq x A m1) : vSeq ve env m A := h
theorem e_itL (h : A ds m) : itSeq (.lst ds) A m := h
theorem e_itT (h : A ds m) : itSeq (.tup ds) A m := h
theorem e_itS {z : Str} (h : A (signsOf z) m) : itSeq (.str z) A m := h
theorem e_rng1 (h : va env m fun xs m1 => ∃ j, xs = [.int j] ∧ itRng xs A m1) : vRng1 va env m A := h
theorem e_rng2 (h : va env m fun xs m1 => ∃ i j, xs = [.int i, .int j] ∧ itRng xs A m1) : vRng2 va env m A := h
theorem e_rg1 (h : itRng [.int n] A m) : ∃ j, [D.int n] = [.int j] ∧ itRng [.int n] A m := ⟨n, rfl, h⟩
theorem e_rg2 (h : itRng [.int n, .int k] A m) : ∃ i j, [D.int n, D.int k] = [.int i, .int j] ∧ itRng [.int n, .int k] A m := ⟨n, k, rfl, h⟩
theorem e_itR {j : Nat} (hj : j < 2 ^ 62) (h : A (rangeD 0 j) m) : itRng [.int (j : Int)] A m := ⟨⟨by omega, by omega⟩, by rw [Int.toNat_natCast]; exact h⟩
theorem e_zip (h : va env m fun xs m1 => itZip xs A m1) : vZip va env m A := h
theorem e_itZL (h : A (zipD ds es) m) : itZip [.lst ds, .lst es] A m := h
theorem e_itZT (h : A (zipD ds es) m) : itZip [.tup ds, .tup es] A m := h
theorem e_enum (h : va env m fun xs m1 => itEnum xs A m1) : vEnum va env m A := h
theorem e_itEL (h : A (enumD ds) m) : itEnum [.lst ds] A m := h
theorem e_itES {z : Str} (h : A (enumD (signsOf z)) m) : itEnum [.str z] A m := h
theorem e_itET (h : A (enumD ds) m) : itEnum [.tup ds] A m := h
theorem e_rev (h : ve env m fun x m1 => itRev x A m1) : vRev ve env m A := h
theorem e_itVL (h : A ds.reverse m) : itRev (.lst ds) A m := h
theorem e_itVT (h : A ds.reverse m) : itRev (.tup ds) A m := h
theorem rangeD_at {lo : Int} {n i : Nat} {d : D} (h : (rangeD lo n)[i]? = some d) : i < n ∧ d = .int (lo + (i : Int)) := by
  have hi : i < n := by
    have := (List.getElem?_eq_some_iff.mp h).1
    rw [rangeD_len] at this
    exact this
  rw [rangeD_get hi] at h
  exact ⟨hi, (Option.some.inj h).symm⟩
theorem map_at {α : Type} {f : α → D} {xs : List α} {i : Nat} {d : D} (h : (xs.map f)[i]? = some d) : ∃ x, xs[i]? = some x ∧ d = f x := by
  rw [List.getElem?_map] at h
  cases e : xs[i]? with
  | none => rw [e] at h; cases h
  | some c => rw [e] at h; exact ⟨c, rfl, (Option.some.inj h).symm⟩
theorem zipD_at {a b : List D} {i : Nat} {d : D} (h : (zipD a b)[i]? = some d) : ∃ x y, a[i]? = some x ∧ b[i]? = some y ∧ d = .tup [x, y] := by
  unfold zipD at h
  rw [List.getElem?_zipWith] at h
  split at h
  · rename_i x y e1 e2
    exact ⟨x, y, e1, e2, (Option.some.inj h).symm⟩
  · cases h
theorem enumD_at {a : List D} {i : Nat} {d : D} (h : (enumD a)[i]? = some d) : ∃ y, a[i]? = some y ∧ d = .tup [.int (i : Nat), y] := by
  obtain ⟨x, y, e1, e2, rfl⟩ := zipD_at h
  obtain ⟨_, rfl⟩ := rangeD_at e1
  exact ⟨y, e2, by rw [Int.zero_add]⟩
end
section
variable {ve : VE} {vt : VT} {vg : VG} {vb : VS} {env : Env} {m : Mst} {V : VEnds} {ws vs : List Nat} {items : List D} {P : D → Mst → Prop}
theorem e_for {vi : VA} (h : vi env m fun items m1 => forD ws items vg vb V env m1) : vFor ws vi vg vb V env m := h
theorem e_lc {vi : VA} (h : vi env m fun items m1 => lcD items vg vt ve vs env m1 P) : vLc vi vg vt ve vs env m P := h
theorem for_inv (W : Nat → Env → Mst → Prop) (h0 : W 0 (wipeE env ws) m) (hs : ∀ i e m' d, i < items.length → W i e m' → items[i]? = some d → vg d e fun e1 => vb { V with nx := fun e2 m2 => W (i + 1) (wipeE e2 ws) m2, ct := fun e2 m2 => W (i + 1) (wipeE e2 ws) m2, bk := fun e2 m2 => V.nx (wipeE e2 ws) m2 } e1 m')
  (hd : ∀ e m', W items.length e m' → V.nx e m') : forD ws items vg vb V env m := ⟨W, h0, fun i e m' d hw ed => hs i e m' d (List.getElem?_eq_some_iff.mp ed).1 hw ed, hd⟩
theorem lc_map {f : Nat → D} (hz : items.length ≤ 16777216) (hs : ∀ i d (Q : D → Mst → Prop), items[i]? = some d → Q (f i) m → vg d (wipeE env vs) fun e1 => ve e1 m Q)
  (k : P (.lst ((List.range items.length).map f)) m) : lcD items vg vYes ve vs env m P := by
  refine ⟨fun i acc m' => acc = (List.range i).map f ∧ m' = m, ⟨rfl, rfl⟩, ?_, ?_⟩
  · rintro i acc m' d ⟨rfl, rfl⟩ e
    have hi := (List.getElem?_eq_some_iff.mp e).1
    refine hs i d _ e ⟨by rw [List.length_map, List.length_range]; exact sz_lt (by omega), ?_, rfl⟩
    rw [List.range_succ, List.map_append]
    rfl
  · rintro acc m' ⟨rfl, rfl⟩
    exact k
theorem lc_mapL {α : Type} {xs : List α} {g h : α → D} (hz : xs.length ≤ 16777216) (hs : ∀ (i : Nat) (x : α) (Q : D → Mst → Prop), xs[i]? = some x → Q (h x) m → vg (g x) (wipeE env vs) fun e1 => ve e1 m Q)
  (k : P (.lst (xs.map h)) m) : lcD (xs.map g) vg vYes ve vs env m P := by
  refine ⟨fun i acc m' => acc = (xs.take i).map h ∧ m' = m, ⟨by rw [List.take_zero]; rfl, rfl⟩, ?_, ?_⟩
  · rintro i acc m' d ⟨rfl, rfl⟩ e
    obtain ⟨x, ex, rfl⟩ := map_at e
    have hi := (List.getElem?_eq_some_iff.mp ex).1
    refine hs i x _ ex ⟨by rw [List.length_map, List.length_take]; exact sz_lt (by omega), ?_, rfl⟩
    rw [take_snoc ex, List.map_append]
    rfl
  · rintro acc m' ⟨rfl, rfl⟩
    rw [List.length_map, List.take_length]
    exact k
theorem lc_fltL {α : Type} {xs : List α} {g h : α → D} {p : α → Bool} (hz : xs.length ≤ 16777216) (hs : ∀ (i : Nat) (x : α) (Q : D → Mst → Prop) (R : Mst → Prop), xs[i]? = some x → (p x = true → Q (h x) m) → (p x = false → R m) → vg (g x) (wipeE env vs) fun e1 => vt e1 m fun b m2 => if b = true then ve e1 m2 Q else R m2)
  (k : P (.lst ((xs.filter p).map h)) m) : lcD (xs.map g) vg vt ve vs env m P := by
  refine ⟨fun i acc m' => acc = ((xs.take i).filter p).map h ∧ m' = m, ⟨by rw [List.take_zero]; rfl, rfl⟩, ?_, ?_⟩
  · rintro i acc m' d ⟨rfl, rfl⟩ e
    obtain ⟨x, ex, rfl⟩ := map_at e
    have hi := (List.getElem?_eq_some_iff.mp ex).1
    have hl : (((xs.take i).filter p).map h).length ≤ i := by
      rw [List.length_map]
      exact Nat.le_trans (List.length_filter_le _ _) (by rw [List.length_take]; omega)
    refine hs i x _ _ ex (fun e => ⟨sz_lt (by omega), ?_, rfl⟩) (fun e => ⟨?_, rfl⟩)
    · rw [take_snoc ex, List.filter_append, List.map_append, List.filter_cons_of_pos e]
      rfl
    · rw [take_snoc ex, List.filter_append, List.filter_cons_of_neg (by rw [e]; exact Bool.false_ne_true), List.filter_nil, List.append_nil]
  · rintro acc m' ⟨rfl, rfl⟩
    rw [List.length_map, List.take_length]
    exact k
end
end Ps
namespace Ps
open PySem PySem.Spec PyProof.Rows L2
def lookS (s : Sto) (a : Addr) : D := match s a with
  | some (.lst ds) => .lst ds
  | some (.dic kds) => .dic kds
  | _ => .adr a
@[reducible] def look (s : Sto) : D → D
  | .adr a => lookS s a
  | d => d
theorem lookS_lst {s : Sto} {a : Addr} {ds : List D} (h : s a = some (.lst ds)) : lookS s a = .lst ds := by unfold lookS; rw [h]
section
variable {c : JC} {K : PySem.W.Frag} {Γ Γ1 Γn Γb Γc : List OT} {G G' H H' : Hp} {T S S1 S2 R C : List (Addr × HO)} {env : Env} {σ : L2.St} {m : Mst} {v : V} {d : D} {t : OT} {i j : Nat} {a : Addr} {is : List Nat}
theorem Cell.hd (h : Cell K G a d C) : ∃ x ∈ C, x.1 = a := by
  cases d with
  | lst ds => obtain ⟨vs, rfl, _⟩ := h; exact ⟨_, List.mem_cons_self, rfl⟩
  | dic ds => obtain ⟨vs, rfl, _⟩ := h; exact ⟨_, List.mem_cons_self, rfl⟩
  | obj Cl ds => obtain ⟨dx, vs, rfl, _⟩ := h; exact ⟨_, List.mem_cons_self, rfl⟩
  | dcl w ds => obtain ⟨vs, rfl, _⟩ := h; exact ⟨_, List.mem_cons_self, rfl⟩
  | dct w ds => obtain ⟨vs, rfl, _⟩ := h; exact ⟨_, List.mem_cons_self, rfl⟩
  | _ => exact h.elim
theorem Stx.stored (st : Stx c Γ G H T S env σ m) (e : m.2 a = some d) : ∃ C1, Cell c.K G a d C1 ∧ ∀ x ∈ C1, H x.1 = some x.2 := by
  obtain ⟨s, C, w, am, z⟩ := st
  obtain ⟨A, C1, B, rfl, q, _⟩ := am.at e
  exact ⟨C1, q, fun x hx => w.mem (o := x.2) (by simp [hx])⟩
theorem Stx.storedL {ds : List D} (st : Stx c Γ G H T S env σ m) (e : m.2 a = some (.lst ds)) : ∃ vs, H a = some (.lst vs) ∧ DdAll c.K G vs ds := by
  obtain ⟨C1, ⟨vs, rfl, q⟩, h⟩ := st.stored e
  exact ⟨vs, h _ List.mem_cons_self, q⟩
theorem Stx.storedD {ds : List (Key × D)} (st : Stx c Γ G H T S env σ m) (e : m.2 a = some (.dic ds)) : ∃ kvs, H a = some (.dK kvs) ∧ kvs.map Prod.fst = ds.map Prod.fst ∧ DdAll c.K G (kvs.map Prod.snd) (ds.map Prod.snd) := by
  obtain ⟨C1, ⟨vs, rfl, e1, q⟩, h⟩ := st.stored e
  exact ⟨vs, h _ List.mem_cons_self, e1, q⟩
theorem Stx.setL {ds ds' : List D} {vs' : List V} (st : Stx c Γ G H T S env σ m) (e : m.2 a = some (.lst ds)) (q : DdAll c.K G vs' ds') : Stx c Γ G (upd H a (.lst vs')) T S env σ (m.1, sput m.2 a (.lst ds')) := by
  obtain ⟨s, C, w, am, z⟩ := st
  obtain ⟨A, C1, B, rfl, ⟨vs, rfl, _⟩, f⟩ := am.at e
  have w2 : Wd ((T ++ (S ++ A)) ++ ((a, .lst vs) :: (B ++ c.R))) G H := by simpa [List.append_assoc] using w
  exact ⟨s, A ++ ([(a, .lst vs')] ++ B), by simpa [List.append_assoc] using w2.putM (o' := .lst vs'), f _ _ ⟨vs', rfl, q⟩, z⟩
theorem Stx.setD {ds ds' : List (Key × D)} {vs' : List (Key × V)} (st : Stx c Γ G H T S env σ m) (e : m.2 a = some (.dic ds)) (q0 : vs'.map Prod.fst = ds'.map Prod.fst) (q : DdAll c.K G (vs'.map Prod.snd) (ds'.map Prod.snd)) : Stx c Γ G (upd H a (.dK vs')) T S env σ (m.1, sput m.2 a (.dic ds')) := by
  obtain ⟨s, C, w, am, z⟩ := st
  obtain ⟨A, C1, B, rfl, ⟨vs, rfl, _⟩, f⟩ := am.at e
  have w2 : Wd ((T ++ (S ++ A)) ++ ((a, .dK vs) :: (B ++ c.R))) G H := by simpa [List.append_assoc] using w
  exact ⟨s, A ++ ([(a, .dK vs')] ++ B), by simpa [List.append_assoc] using w2.putM (o' := .dK vs'), f _ _ ⟨vs', rfl, q0, q⟩, z⟩
theorem Stx.storeN {C1 : List (Addr × HO)} (st : Stx c Γ G H (C1 ++ T) S env σ m) (q : Cell c.K G a d C1) : m.2 a = none ∧ Stx c Γ G H T S env σ (m.1, sput m.2 a d) := by
  obtain ⟨s, C, w, am, z⟩ := st
  have hn : m.2 a = none := by
    cases e : m.2 a with
    | none => rfl
    | some d' =>
      obtain ⟨A, C2, B, rfl, q2, _⟩ := am.at e
      obtain ⟨x, hx, e1⟩ := q.hd
      obtain ⟨y, hy, e2⟩ := q2.hd
      have w2 : Wd (C1 ++ (T ++ (S ++ (A ++ (C2 ++ B) ++ c.R)))) G H := by rw [List.append_assoc] at w; exact w
      exact absurd (List.mem_map.mpr ⟨y, by simp [hy], e2.trans e1.symm⟩) (wd_apart w2 hx)
  refine ⟨hn, ?_⟩
  obtain ⟨D1, D2, rfl, am, L, l, cs⟩ := am
  refine ⟨s, D1 ++ (C1 ++ D2), w.perm ?_, ⟨D1, C1 ++ D2, rfl, am, (a, d) :: L, fun b => ?_, .cons q cs⟩, z⟩
  · have h1 : (C1 ++ (T ++ (S ++ D1 ++ (D2 ++ c.R)))).Perm (T ++ (S ++ D1 ++ (C1 ++ (D2 ++ c.R)))) := by
      refine (List.perm_append_comm_assoc C1 T _).trans (List.Perm.append_left T ?_)
      exact List.perm_append_comm_assoc C1 (S ++ D1) _
    have := h1.symm
    simpa [List.append_assoc] using this
  · show sput m.2 a d b = _
    unfold sput
    rw [List.lookup_cons]
    by_cases z : b = a
    · subst z; rw [if_pos rfl, beq_self_eq_true]
    · rw [if_neg z, beq_eq_false_iff_ne.mpr z]; exact l b
def boxD : D → Mst → (D → Mst → Prop) → Prop
  | .lst ds, m, P => ∀ y, m.2 y = none → P (.adr y) (m.1, sput m.2 y (.lst ds))
  | .dic kds, m, P => ∀ y, m.2 y = none → P (.adr y) (m.1, sput m.2 y (.dic kds))
  | d, m, P => P d m
def vBox (ve : VE) : VE := fun env m P => ve env m fun d m1 => boxD d m1 P
theorem s_box {te : TE} {ve : VE} (h : SO c Γ te ve) : SF c Γ te (vBox ve) := fun T G H S env σ m P Q st hv k =>
  h T G H S env σ m _ _ st hv fun d m' v G' H' S1 p s st' q => by
    cases d with
    | lst ds =>
      obtain ⟨a, vs, rfl, rfl, q⟩ := q
      obtain ⟨hn, st2⟩ := Stx.storeN (d := .lst ds) st' ⟨vs, rfl, q⟩
      exact k _ _ _ G' H' (p a hn) s st2 (.adr a)
    | dic ds =>
      obtain ⟨a, vs, rfl, rfl, e, q⟩ := q
      obtain ⟨hn, st2⟩ := Stx.storeN (d := .dic ds) st' ⟨vs, rfl, e, q⟩
      exact k _ _ _ G' H' (p a hn) s st2 (.adr a)
    | _ => obtain ⟨rfl, q⟩ := q; exact k _ _ _ G' H' p s st' q
theorem tp_look (st : Stx c Γ G H T S env σ m) (h : Tp c.K G H v d) : Tp c.K G H v (look m.2 d) := by
  cases d with
  | adr a =>
    obtain rfl : v = .ref a := by cases h with | dd h => exact dd_adr h
    show Tp c.K G H (.ref a) (lookS m.2 a)
    unfold lookS
    split
    · rename_i ds e; obtain ⟨vs, h1, h2⟩ := st.storedL e; exact .lst h1 h2
    · rename_i ds e; obtain ⟨vs, h1, h2, h3⟩ := st.storedD e; exact .dic h1 h2 h3
    · exact h
  | _ => exact h
def vOpL (f : D → D → (D → Prop) → Prop) (va vb : VE) : VE := fun env m P => va env m fun x m1 => vb env m1 fun y m2 => f (look m2.2 x) (look m2.2 y) fun z => P z m2
def vUnL (f : D → (D → Prop) → Prop) (va : VE) : VE := fun env m P => va env m fun x m1 => f (look m1.2 x) fun z => P z m1
def vCBL (f : List D → (D → Prop) → Prop) (va : VA) : VE := fun env m P => va env m fun xs m1 => f (xs.map (look m1.2)) fun z => P z m1
def vBMtL (T : String) (f : D → List D → (D → Prop) → Prop) (ve : VE) (va : VA) : VE := fun env m P => ve env m fun x m1 => isTy T (look m1.2 x) = true ∧ va env m1 fun xs m2 => f (look m2.2 x) (xs.map (look m2.2)) fun z => P z m2
def vBM0L (T : String) (f : D → List D → (D → Prop) → Prop) (ve : VE) : VE := fun env m P => ve env m fun x m1 => isTy T (look m1.2 x) = true ∧ f (look m1.2 x) [] fun z => P z m1
def vTruL (ve : VE) : VT := fun env m P => ve env m fun x m1 => truD (look m1.2 x) P m1
def vSlL (f : D → Option Int → Option Int → (D → Prop) → Prop) (ve : VE) (vl vh : VO) : VE := fun env m P => ve env m fun x m1 => vl env m1 fun l m2 => vh env m2 fun h m3 => f (look m3.2 x) l h fun z => P z m3
theorem s_opFL {r : R2} {f : D → D → (D → Prop) → Prop} {ta tb : TE} {va vb : VE} (o : OpF c.K r f) (ha : SB c Γ ta va) (hb : SB c Γ tb vb) : SF c Γ (tOp r ta tb) (vOpL f va vb) := fun T G H S env σ m P Q st hv k =>
  ha T G H S env σ m _ _ st hv fun x m1 v G1 H1 S1 p1 s1 st1 b1 => hb (S1 ++ T) G1 H1 S env σ m1 _ _ st1 p1 fun y m2 u G2 H2 S2 p2 s2 st2 b2 => by
    have t1 := tp_look st2 (bo_tp (T := S2 ++ (S1 ++ T)) st2 (bo_sub s2 (B := S2 ++ (S1 ++ T) ++ S) (fun x hx => by rcases List.mem_append.mp hx with q | q <;> simp [q]) b1))
    have t2 := tp_look st2 (bo_tp (T := S2 ++ (S1 ++ T)) st2 (bo_sub (Same.refl _) (B := S2 ++ (S1 ++ T) ++ S) (fun x hx => by rcases List.mem_append.mp hx with q | q <;> simp [q]) b2))
    refine o G2 H2 v u _ _ _ _ st2.v t1 t2 p2 fun z w pz n => ?_
    exact k z m2 w G2 H2 pz (s1.trans s2) st2.dropT.dropT n
def vFld (C : Addr) (f : Str) (ve : VE) : VE := fun env m P => ve env m fun x m1 => ∃ a fs d, x = .adr a ∧ m1.2 a = some (.obj C fs) ∧ fs.lookup f = some d ∧ P d m1
def dputF (f : Str) (d : D) : List (Str × D) → List (Str × D)
  | [] => [(f, d)]
  | (g, e) :: r => if g = f then (g, d) :: r else (g, e) :: dputF f d r
def vSetF (C : Addr) (f : Str) (vo ve : VE) : VS := fun V env m => ve env m fun d m1 => vo env m1 fun x m2 => ∃ a fs, x = .adr a ∧ m2.2 a = some (.obj C fs) ∧ fs.length < 1000 ∧ V.nx env (m2.1, sput m2.2 a (.obj C (dputF f d fs)))
def vAugF (C : Addr) (f : Str) (g : D → D → (D → Prop) → Prop) (vo ve : VE) : VS := fun V env m => vo env m fun x m1 => ∃ a fs x0, x = .adr a ∧ m1.2 a = some (.obj C fs) ∧ fs.lookup f = some x0 ∧ ve env m1 fun y m2 => g x0 y fun z => ∃ fs', m2.2 a = some (.obj C fs') ∧ fs'.length < 1000 ∧ V.nx env (m2.1, sput m2.2 a (.obj C (dputF f z fs')))
def vMeth (C : Addr) (mn : Str) (vsp : VSp) (VW : XW) (ve : VE) (va : VA) : VE := fun env m P => ve env m fun x m1 => ∃ a fs, x = .adr a ∧ m1.2 a = some (.obj C fs) ∧ fs.lookup mn = none ∧ va env m1 fun ds m2 => vsp (.adr a :: ds) m2 P fun Cx fx m3 => VW Cx fx env m3
def vMake (C : Addr) (vsp : VSp) (VW : XW) (va : VA) : VE := fun env m P => va env m fun ds m1 => ∀ y, m1.2 y = none → vsp (.adr y :: ds) (m1.1, sput m1.2 y (.obj C [])) (fun d m2 => d = .non ∧ P (.adr y) m2) fun Cx fx m3 => VW Cx fx env m3
def vMutS (f : List D → List D → (List D → D → Prop) → Prop) (ve : VE) (va : VA) : VS := fun V env m => ve env m fun x m1 => ∃ a ds0, x = .adr a ∧ m1.2 a = some (.lst ds0) ∧ va env m1 fun xs m2 => ∃ ds, m2.2 a = some (.lst ds) ∧ f ds (xs.map (look m2.2)) fun ds' z => V.nx env (m2.1, sput m2.2 a (.lst ds'))
theorem x_mutS0 {r : V → List V → Hp → VK → Prop} {f : List D → List D → (List D → D → Prop) → Prop} {te : TE} {ve : VE} (o : MuV c.K r f) (he : SF c Γ te ve) : SS c t Γ Γ Γb Γc (tDrop (tBM0 c.K "list" r te)) (vMutS f ve vNil) := fun G H S env σ m De Ve e st hv =>
  he [] G H S env σ m _ _ st hv fun x m1 v G1 H1 p1 s1 st1 q1 => by
    obtain ⟨a, ds0, rfl, ea, ds, ea2, p2⟩ := p1
    obtain rfl := dd_adr q1
    obtain ⟨vs, h1, q⟩ := st1.storedL ea2
    refine ⟨.inl ⟨rfl, vs, SqL.of h1⟩, ?_⟩
    refine o G1 H1 a vs ds [] [] _ _ st1.v h1 q .nil p2 fun ds' z vs2 u pz q2 => ?_
    exact e.nx G1 _ S env σ _ s1 (st1.setL ea2 q2) pz
def vAppS (ve vx : VE) : VS := fun V env m => ve env m fun x m1 => ∃ a ds0, x = .adr a ∧ m1.2 a = some (.lst ds0) ∧ vx env m1 fun d m2 => ∃ ds, m2.2 a = some (.lst ds) ∧ ds.length < sizeLine ∧ V.nx env (m2.1, sput m2.2 a (.lst (ds ++ [d])))
def vPutS (vo ve vk : VE) : VS := fun V env m => ve env m fun d m1 => vo env m1 fun x m2 => ∃ a, x = .adr a ∧ vk env m2 fun y m3 => (∃ ds k j, m3.2 a = some (.lst ds) ∧ y = .int k ∧ ixN ds.length k = some j ∧ V.nx env (m3.1, sput m3.2 a (.lst (ds.set j d)))) ∨
  ∃ kds k, m3.2 a = some (.dic kds) ∧ dKey y = some k ∧ kds.length < sizeLine ∧ V.nx env (m3.1, sput m3.2 a (.dic (dput kds k d)))
theorem x_putS {to te tk : TE} {vo ve vk : VE} (ho : SF c Γ to vo) (h : SF c Γ te ve) (hk : SF c Γ tk vk) : SS c t Γ Γ Γb Γc (tAsg te (gSub to tk rSetU)) (vPutS vo ve vk) := fun G H S env σ m De Ve e st hv =>
  h [] G H S env σ m _ _ st hv fun d m1 u G1 H1 p1 s1 st1 q1 => ho [] G1 H1 S env σ m1 _ _ st1 p1 fun x m2 v G2 H2 p2 s2 st2 q2 => by
    obtain ⟨a, rfl, p⟩ := p2
    obtain rfl := dd_adr q2
    refine hk [] G2 H2 S env σ m2 _ _ st2 p fun y m3 w G3 H3 p3 s3 st3 q3 => ?_
    have q1' := q1.mono (s2.trans s3)
    rcases p3 with ⟨ds, k, j, ea, rfl, hj, p3⟩ | ⟨kds, k, ea, ek, hz, p3⟩
    · obtain ⟨vs, h1, q⟩ := st3.storedL ea
      obtain rfl := q3.intInv
      exact .inl ⟨a, vs, k, j, rfl, rfl, h1, by rw [q.len]; exact hj, e.nx G3 _ S env σ _ (s1.trans (s2.trans s3)) (st3.setL ea (q.set j q1')) p3⟩
    · obtain ⟨kvs, h1, e1, q⟩ := st3.storedD ea
      obtain rfl := kV_of (.dd q3 : Tp c.K G3 H3 w y) ek
      have el : kvs.length = kds.length := by simpa using congrArg List.length e1
      exact .inr ⟨a, _, rfl, DPut.k (k := k) h1 (by rw [el]; exact hz), e.nx G3 _ S env σ _ (s1.trans (s2.trans s3)) (st3.setD ea (put_fst e1) (put_snd q1' e1 q)) p3⟩
end
end Ps
namespace Ps
open PySem PySem.Spec PyProof.Rows L2
abbrev VAB := Env → Mst → (List D → List (Addr × D) → Mst → Prop) → Prop
section
variable {c : JC} {K : PySem.W.Frag} {Γ Γ1 Γn Γb Γc : List OT} {G G0 G' H H' : Hp} {T S S1 S2 R C : List (Addr × HO)} {env : Env} {σ : L2.St} {m : Mst} {v : V} {d : D} {t : OT} {i j : Nat} {a b : Addr} {is : List Nat} {bs cs : List (Addr × D)} {ds es : List D}
def HasL (K : PySem.W.Frag) (G0 : Hp) (bs : List (Addr × D)) (a : Addr) (ds : List D) : Prop := ∀ G H, Same G0 G → Same G H → (∀ p ∈ bs, Tp K G H (.ref p.1) p.2) → Tp K G H (.ref a) (.lst ds)
theorem HasL.at {vs : List V} (h : HasL K G0 bs a ds) (s1 : Same G0 G) (s2 : Same G H) (q : ∀ p ∈ bs, Tp K G H (.ref p.1) p.2) (e : H a = some (.lst vs)) : DdAll K G vs ds := by
  obtain ⟨a', vs', e', h1, h2⟩ := (h G H s1 s2 q).l s2
  cases e'
  rw [e] at h1; cases h1
  exact h2
theorem HasL.frz (h : G0 a = some (.lst vs)) (q : DdAll K G0 vs ds) : HasL K G0 [] a ds := fun G H s1 s2 _ => .dd (.lst (s1 _ _ h) (q.mono s1))
theorem HasL.l (h : HasL K G0 bs a ds) : HasL K G0 (bs ++ cs) a ds := fun G H s1 s2 q => h G H s1 s2 fun p hp => q p (List.mem_append_left _ hp)
theorem HasL.r (h : HasL K G0 cs a ds) : HasL K G0 (bs ++ cs) a ds := fun G H s1 s2 q => h G H s1 s2 fun p hp => q p (List.mem_append_right _ hp)
def itSeqB : D → (List D → List (Addr × D) → Mst → Prop) → Mst → Prop
  | .adr a, P, m => ∃ ds, m.2 a = some (.lst ds) ∧ P ds [(a, .lst ds)] m
  | .lst ds, P, m => P ds [] m
  | .tup ds, P, m => P ds [] m
  | _, _, _ => False
def itLstB : D → (List D → List (Addr × D) → Mst → Prop) → Mst → Prop
  | .adr a, P, m => ∃ ds, m.2 a = some (.lst ds) ∧ P ds [(a, .lst ds)] m
  | .lst ds, P, m => P ds [] m
  | _, _, _ => False
def vSeqB (ve : VE) : VAB := fun env m P => ve env m fun x m1 => itSeqB x P m1
def vEnumB (va : VA) : VAB := fun env m P => va env m fun xs m1 => match xs with
  | [x] => itLstB x (fun ds bs m2 => P (enumD ds) bs m2) m1
  | _ => False
def vRevB (ve : VE) : VAB := fun env m P => ve env m fun x m1 => itLstB x (fun ds bs m2 => P ds.reverse bs m2) m1
def vZipB (va : VA) : VAB := fun env m P => va env m fun xs m1 => match xs with
  | [x, y] => itLstB x (fun ds bs m2 => itLstB y (fun es cs m3 => P (zipD ds es) (bs ++ cs) m3) m2) m1
  | _ => False
def Stand (bs : List (Addr × D)) (s : Sto) : Prop := ∀ p ∈ bs, s p.1 = some p.2 ∧ ∃ ds, p.2 = .lst ds
def lcDB (items : List D) (bs : List (Addr × D)) (vg : VG) (vt : VT) (ve : VE) (vs : List Nat) (env : Env) (m1 : Mst) (P : D → Mst → Prop) : Prop := ∃ W : Nat → List D → Mst → Prop, W 0 [] m1 ∧ (∀ i acc m', W i acc m' → Stand bs m'.2) ∧
  (∀ i acc m' d, W i acc m' → items[i]? = some d → vg d (wipeE env vs) fun e1 => vt e1 m' fun b m2 => if b = true then ve e1 m2 fun y m3 => acc.length < sizeLine ∧ W (i + 1) (acc ++ [y]) m3 else W (i + 1) acc m2) ∧
  ∀ acc m', W items.length acc m' → P (.lst acc) m'
def vLcB (vi : VAB) (vg : VG) (vt : VT) (ve : VE) (vs : List Nat) : VE := fun env m P => vi env m fun items bs m1 => lcDB items bs vg vt ve vs env m1 P
def forDB (ws : List Nat) (items : List D) (bs : List (Addr × D)) (vg : VG) (vb : VS) (V : VEnds) (env : Env) (m1 : Mst) : Prop := ∃ W : Nat → Env → Mst → Prop, W 0 (wipeE env ws) m1 ∧ (∀ i e m', W i e m' → Stand bs m'.2) ∧
  (∀ i e m' d, W i e m' → items[i]? = some d → vg d e fun e1 => vb { V with nx := fun e2 m2 => W (i + 1) (wipeE e2 ws) m2, ct := fun e2 m2 => W (i + 1) (wipeE e2 ws) m2, bk := fun e2 m2 => V.nx (wipeE e2 ws) m2 } e1 m') ∧ ∀ e m', W items.length e m' → V.nx e m'
def vForB (ws : List Nat) (vi : VAB) (vg : VG) (vb : VS) : VS := fun V env m => vi env m fun items bs m1 => forDB ws items bs vg vb V env m1
def vPopS (ve : VE) : VE := fun env m P => ve env m fun x m1 => ∃ a ds d, x = .adr a ∧ m1.2 a = some (.lst ds) ∧ ds[ds.length - 1]? = some d ∧ P d (m1.1, sput m1.2 a (.lst ds.dropLast))
theorem DdAll.dropLast : ∀ {vs : List V} {ds : List D}, DdAll K G vs ds → DdAll K G vs.dropLast ds.dropLast
  | _, _, .nil => .nil
  | _, _, .cons _ .nil => .nil
  | _, _, .cons h (.cons h2 t) => .cons h (DdAll.dropLast (.cons h2 t))
theorem DdAll.ins {v : V} {d : D} (h : Dd K G v d) : ∀ {vs : List V} {ds : List D} (k : Nat), DdAll K G vs ds → DdAll K G (vs.take k ++ v :: vs.drop k) (ds.take k ++ d :: ds.drop k) := fun k q => (q.take k).app (.cons h (q.drop k))
def ddrop (kds : List (Key × D)) (k : Key) : List (Key × D) := kds.filter fun kv => !decide (kv.1 = k)
end
end Ps
namespace Ps
open PySem PySem.Spec PyProof.Rows L2
section
variable {X : Cx} {CX : CXT} {k : Nat} {f C : Addr} {fd : FuncData} {ps : List Str} {sp : Sp} {E : L2.St → XK} {x m : Str} {p pos apos : Pos}
end
section
variable {c : JC} {K : PySem.W.Frag} {Γ Γ1 Γn Γb Γc : List OT} {G G0 G' H H' : Hp} {T S S1 S2 R C : List (Addr × HO)} {env : Env} {σ : L2.St} {m : Mst} {v : V} {d : D} {t : OT} {i j : Nat} {a b : Addr}
def vAddI : D → D → (D → Prop) → Prop
  | .int i, .int j, P => P (.int (i + j))
  | _, _, _ => False
def vSubI : D → D → (D → Prop) → Prop
  | .int i, .int j, P => P (.int (i - j))
  | _, _, _ => False
def vGet2 (ve vk vx : VE) : VE := fun env m P => ve env m fun x m1 => (∃ kds, look m1.2 x = .dic kds) ∧ vk env m1 fun y m2 => vx env m2 fun z m3 => ∃ kds k, look m3.2 x = .dic kds ∧ dKey y = some k ∧ P ((dget kds k).getD z) m3
def vDPopS (ve vk : VE) : VE := fun env m P => ve env m fun x m1 => ∃ a kds0, x = .adr a ∧ m1.2 a = some (.dic kds0) ∧ vk env m1 fun y m2 => ∃ kds k d, m2.2 a = some (.dic kds) ∧ dKey y = some k ∧ dget kds k = some d ∧ P d (m2.1, sput m2.2 a (.dic (ddrop kds k)))
def vAugS (f : D → D → (D → Prop) → Prop) (vo vk ve : VE) : VS := fun V env m => vo env m fun x m1 => ∃ a, x = .adr a ∧ vk env m1 fun y m2 => ∃ ds k d, m2.2 a = some (.lst ds) ∧ y = .int k ∧ atI ds k = some d ∧ ve env m2 fun z m3 => f d z fun w => ∃ ds' j, m3.2 a = some (.lst ds') ∧ ixN ds'.length k = some j ∧ V.nx env (m3.1, sput m3.2 a (.lst (ds'.set j w)))
end
section
variable {V : VEnds} {env : Env} {m : Mst} {ve va vb vo vk vx : VE} {vl : VA} {P : D → Mst → Prop} {B : Bool → Mst → Prop} {Z : D → Prop} {ds es : List D} {a C : Addr} {fs : List (Str × D)} {f : Str} {d : D} {s : Sto} {A : List D → List (Addr × D) → Mst → Prop}
theorem e_opL {f : D → D → (D → Prop) → Prop} (h : va env m fun x m1 => vb env m1 fun y m2 => f (look m2.2 x) (look m2.2 y) fun z => P z m2) : vOpL f va vb env m P := h
theorem e_unL {f : D → (D → Prop) → Prop} (h : va env m fun x m1 => f (look m1.2 x) fun z => P z m1) : vUnL f va env m P := h
theorem e_cbL {f : List D → (D → Prop) → Prop} (h : vl env m fun xs m1 => f (xs.map (look m1.2)) fun z => P z m1) : vCBL f vl env m P := h
theorem e_bmL {T : String} {f : D → List D → (D → Prop) → Prop} (h : ve env m fun x m1 => isTy T (look m1.2 x) = true ∧ vl env m1 fun xs m2 => f (look m2.2 x) (xs.map (look m2.2)) fun z => P z m2) : vBMtL T f ve vl env m P := h
theorem e_bm0L {T : String} {f : D → List D → (D → Prop) → Prop} (h : ve env m fun x m1 => isTy T (look m1.2 x) = true ∧ f (look m1.2 x) [] fun z => P z m1) : vBM0L T f ve env m P := h
theorem e_truLk (h : ve env m fun x m1 => truD (look m1.2 x) B m1) : vTruL ve env m B := h
theorem e_slL {f : D → Option Int → Option Int → (D → Prop) → Prop} {vlo vhi : VO} (h : ve env m fun x m1 => vlo env m1 fun l m2 => vhi env m2 fun h m3 => f (look m3.2 x) l h fun z => P z m3) : vSlL f ve vlo vhi env m P := h
theorem e_fld (h : ve env m fun x m1 => ∃ a fs d, x = .adr a ∧ m1.2 a = some (.obj C fs) ∧ fs.lookup f = some d ∧ P d m1) : vFld C f ve env m P := h
theorem e_setF (h : ve env m fun d m1 => vo env m1 fun x m2 => ∃ a fs, x = .adr a ∧ m2.2 a = some (.obj C fs) ∧ fs.length < 1000 ∧ V.nx env (m2.1, sput m2.2 a (.obj C (dputF f d fs)))) : vSetF C f vo ve V env m := h
theorem e_augF {g : D → D → (D → Prop) → Prop} (h : vo env m fun x m1 => ∃ a fs x0, x = .adr a ∧ m1.2 a = some (.obj C fs) ∧ fs.lookup f = some x0 ∧ ve env m1 fun y m2 => g x0 y fun z => ∃ fs', m2.2 a = some (.obj C fs') ∧ fs'.length < 1000 ∧ V.nx env (m2.1, sput m2.2 a (.obj C (dputF f z fs')))) : vAugF C f g vo ve V env m := h
theorem e_addII {n k : Int} (h : Z (.int (n + k))) : vAddI (.int n) (.int k) Z := h
theorem e_subII {n k : Int} (h : Z (.int (n - k))) : vSubI (.int n) (.int k) Z := h
theorem e_meth {mn : Str} {vsp : VSp} {VW : XW} (h : ve env m fun x m1 => ∃ a fs, x = .adr a ∧ m1.2 a = some (.obj C fs) ∧ fs.lookup mn = none ∧ vl env m1 fun ds m2 => vsp (.adr a :: ds) m2 P fun Cx fx m3 => VW Cx fx env m3) : vMeth C mn vsp VW ve vl env m P := h
theorem e_make {vsp : VSp} {VW : XW} (h : vl env m fun ds m1 => ∀ y, m1.2 y = none → vsp (.adr y :: ds) (m1.1, sput m1.2 y (.obj C [])) (fun d m2 => d = .non ∧ P (.adr y) m2) fun Cx fx m3 => VW Cx fx env m3) : vMake C vsp VW vl env m P := h
theorem e_appS (h : ve env m fun x m1 => ∃ a ds0, x = .adr a ∧ m1.2 a = some (.lst ds0) ∧ vx env m1 fun d m2 => ∃ ds, m2.2 a = some (.lst ds) ∧ ds.length < sizeLine ∧ V.nx env (m2.1, sput m2.2 a (.lst (ds ++ [d])))) : vAppS ve vx V env m := h
theorem e_mutS {f : List D → List D → (List D → D → Prop) → Prop} (h : ve env m fun x m1 => ∃ a ds0, x = .adr a ∧ m1.2 a = some (.lst ds0) ∧ vl env m1 fun xs m2 => ∃ ds, m2.2 a = some (.lst ds) ∧ f ds (xs.map (look m2.2)) fun ds' z => V.nx env (m2.1, sput m2.2 a (.lst ds'))) : vMutS f ve vl V env m := h
theorem e_putS (h : ve env m fun d m1 => vo env m1 fun x m2 => ∃ a, x = .adr a ∧ vk env m2 fun y m3 => (∃ ds k j, m3.2 a = some (.lst ds) ∧ y = .int k ∧ ixN ds.length k = some j ∧ V.nx env (m3.1, sput m3.2 a (.lst (ds.set j d)))) ∨
  ∃ kds k, m3.2 a = some (.dic kds) ∧ dKey y = some k ∧ kds.length < sizeLine ∧ V.nx env (m3.1, sput m3.2 a (.dic (dput kds k d)))) : vPutS vo ve vk V env m := h
theorem e_box (h : ve env m fun d m1 => boxD d m1 P) : vBox ve env m P := h
theorem e_boxL (h : ∀ y, m.2 y = none → P (.adr y) (m.1, sput m.2 y (.lst ds))) : boxD (.lst ds) m P := h
theorem e_boxDi {kds : List (Key × D)} (h : ∀ y, m.2 y = none → P (.adr y) (m.1, sput m.2 y (.dic kds))) : boxD (.dic kds) m P := h
theorem e_seqB (h : ve env m fun x m1 => itSeqB x A m1) : vSeqB ve env m A := h
theorem e_enumB (h : vl env m fun xs m1 => match xs with
  | [x] => itLstB x (fun ds bs m2 => A (enumD ds) bs m2) m1
  | _ => False) : vEnumB vl env m A := h
theorem e_revB (h : ve env m fun x m1 => itLstB x (fun ds bs m2 => A ds.reverse bs m2) m1) : vRevB ve env m A := h
theorem e_zipB (h : vl env m fun xs m1 => match xs with
  | [x, y] => itLstB x (fun ds bs m2 => itLstB y (fun es cs m3 => A (zipD ds es) (bs ++ cs) m3) m2) m1
  | _ => False) : vZipB vl env m A := h
theorem e_lcB {vi : VAB} {vg : VG} {vt : VT} {vs : List Nat} (h : vi env m fun items bs m1 => lcDB items bs vg vt ve vs env m1 P) : vLcB vi vg vt ve vs env m P := h
theorem e_forB {vi : VAB} {vg : VG} {vb : VS} {ws : List Nat} (h : vi env m fun items bs m1 => forDB ws items bs vg vb V env m1) : vForB ws vi vg vb V env m := h
theorem e_popS (h : ve env m fun x m1 => ∃ a ds d, x = .adr a ∧ m1.2 a = some (.lst ds) ∧ ds[ds.length - 1]? = some d ∧ P d (m1.1, sput m1.2 a (.lst ds.dropLast))) : vPopS ve env m P := h
theorem e_dpopS (h : ve env m fun x m1 => ∃ a kds0, x = .adr a ∧ m1.2 a = some (.dic kds0) ∧ vk env m1 fun y m2 => ∃ kds k d, m2.2 a = some (.dic kds) ∧ dKey y = some k ∧ dget kds k = some d ∧ P d (m2.1, sput m2.2 a (.dic (ddrop kds k)))) : vDPopS ve vk env m P := h
theorem e_get2 (h : ve env m fun x m1 => (∃ kds, look m1.2 x = .dic kds) ∧ vk env m1 fun y m2 => vx env m2 fun z m3 => ∃ kds k, look m3.2 x = .dic kds ∧ dKey y = some k ∧ P ((dget kds k).getD z) m3) : vGet2 ve vk vx env m P := h
theorem e_seqSetF {b : VS} (h : (vSetF C f vo ve) { V with nx := b V } env m) : vSeqS (vSetF C f vo ve) b V env m := h
theorem e_seqAugF {b : VS} {g : D → D → (D → Prop) → Prop} (h : (vAugF C f g vo ve) { V with nx := b V } env m) : vSeqS (vAugF C f g vo ve) b V env m := h
theorem e_seqAppS {b : VS} (h : (vAppS ve vx) { V with nx := b V } env m) : vSeqS (vAppS ve vx) b V env m := h
theorem e_seqMutS {b : VS} {f : List D → List D → (List D → D → Prop) → Prop} (h : (vMutS f ve vl) { V with nx := b V } env m) : vSeqS (vMutS f ve vl) b V env m := h
theorem e_seqPutS {b : VS} (h : (vPutS vo ve vk) { V with nx := b V } env m) : vSeqS (vPutS vo ve vk) b V env m := h
theorem e_seqAugS {b : VS} {f : D → D → (D → Prop) → Prop} (h : (vAugS f vo vk ve) { V with nx := b V } env m) : vSeqS (vAugS f vo vk ve) b V env m := h
theorem e_seqForB {b a : VS} {vg : VG} {ws : List Nat} {vi : VAB} (h : (vForB ws vi vg a) { V with nx := b V } env m) : vSeqS (vForB ws vi vg a) b V env m := h
end
end Ps
namespace Ps
open PySem PySem.Spec PyProof.Rows L2
def vIsB : D → D → (D → Prop) → Prop
  | .bl a, .bl b, P => P (.bl (decide (a = b)))
  | _, _, _ => False
def vNotB : D → D → (D → Prop) → Prop
  | .bl a, .bl b, P => P (.bl (!decide (a = b)))
  | _, _, _ => False
theorem e_isB {a b : Bool} {Z : D → Prop} (h : Z (.bl (decide (a = b)))) : vIsB (.bl a) (.bl b) Z := h
theorem e_notB {a b : Bool} {Z : D → Prop} (h : Z (.bl (!decide (a = b)))) : vNotB (.bl a) (.bl b) Z := h
section
variable {c : JC} {Γ Γ1 Γ2 Γn Γb Γc : List OT} {G G' H H' : Hp} {T S S1 S2 R : List (Addr × HO)} {env : Env} {σ : L2.St} {m : Mst} {v : V} {d : D} {t : OT} {i j : Nat} {is : List Nat}
def vUpd (i : Nat) (ve : VE) : VS := fun V env m => ∃ kds, env[i]? = some (some (.dic kds)) ∧ ve env m fun x m1 => ∃ more, x = .dic more ∧ kds.length + more.length ≤ 16777216 ∧ V.nx (env.set i (some (.dic (mergeD kds more)))) m1
theorem e_disp {vp : VP} {P : D → Mst → Prop} (h : vp env m fun ps m1 => ∃ ks, pairsK ps = some ks ∧ ks.length ≤ 15 ∧ P (.dic (mergeD [] ks)) m1) : vDisp vp env m P := h
theorem e_pcons {a b : VE} {r : VP} {P : List (D × D) → Mst → Prop} (h : a env m fun x m1 => b env m1 fun y m2 => r env m2 fun ps m3 => P ((x, y) :: ps) m3) : vpCons a b r env m P := h
theorem e_pnil {P : List (D × D) → Mst → Prop} (h : P [] m) : vpNil env m P := h
theorem e_seqUpd {ve : VE} {b : VS} {V : VEnds} (h : (vUpd i ve) { V with nx := b V } env m) : vSeqS (vUpd i ve) b V env m := h
theorem e_upd {ve : VE} {V : VEnds} {kds : List (Key × D)} (hx : env[i]? = some (some (.dic kds))) (h : ve env m fun x m1 => ∃ more, x = .dic more ∧ kds.length + more.length ≤ 16777216 ∧ V.nx (env.set i (some (.dic (mergeD kds more)))) m1) : vUpd i ve V env m := ⟨kds, hx, h⟩
end
end Ps
namespace Ps
open PySem PySem.Spec PyProof.Rows L2
section
variable {P : Program} {w : World} {A : Around} {E : Value → Shared → Prop} {s : Shared}
end
def vSortSet (va : VE) : VE := fun env m P => va env m fun x m1 => ∃ ns : List Int, x = .lst (ns.map D.int) ∧ ns.length ≤ 60 ∧ ∀ ms : List Int, ms.Pairwise (· < ·) → (∀ k, k ∈ ms ↔ k ∈ ns) → P (.lst (ms.map D.int)) m1
theorem ints_ddZ {K : PySem.W.Frag} {G : Hp} : ∀ {vs : List V} {ns : List Int}, DdAll K G vs (ns.map D.int) → vs = ns.map V.int
  | _, [], .nil => rfl
  | _, n :: ns, .cons h t => by rw [h.intInv, ints_ddZ t]; rfl
section
variable {c : JC} {Γ : List OT} {env : Env} {m : Mst}
theorem e_rng3 {va : VA} {P : List D → Mst → Prop} (h : va env m fun xs m1 => itRng3 xs P m1) : vRng3 va env m P := h
theorem e_lenScr {ns : List Int} {Z : D → Prop} (h : Z (.int ns.length)) : vLen [.scr ns] Z := h
theorem e_sortSet {va : VE} {P : D → Mst → Prop} (h : va env m fun x m1 => ∃ ns : List Int, x = .lst (ns.map D.int) ∧ ns.length ≤ 60 ∧ ∀ ms : List Int, ms.Pairwise (· < ·) → (∀ k, k ∈ ms ↔ k ∈ ns) → P (.lst (ms.map D.int)) m1) : vSortSet va env m P := h
end
end Ps
namespace Ps
open PySem PySem.Spec PyProof.Rows L2
section
variable {prog : Program} {w : World}
theorem list_eq_lens (l b : Addr) (items items2 : Array Value) (n n2 : Nat) (dd dd2 : Option Addr) (sl sl2 : Array (Option Value)) (hsz : items.size ≠ items2.size) :
    MeetsIn prog w (Builtin.«list.__eq__» ⟨[.ref l, .ref b], []⟩)
      (fun A R s => s.heap.get? l = some { cls := .type "list", dict := dd, data := .seq items n, slots := sl } ∧ s.heap.get? b = some { cls := .type "list", dict := dd2, data := .seq items2 n2, slots := sl2 } ∧ R (.ok (.ret (.bool false))) s) := by
  intro A R s h
  obtain ⟨hp, g, d, tk, os⟩ := s; obtain ⟨hl, hb, h⟩ := h
  have f3 := AutoSeq1.sub_list_list
  have hne : (items.size != items2.size) = true := by simp [hsz]
  wp_walk using wpAny_loadPart' hl, wpAny_loadPart' hb
  exact h
end
def rEqNil (K : PySem.W.Frag) : R2 := fun x y H Q => ∃ (a b : Addr) (xs : List V), x = .ref a ∧ y = .ref b ∧ SqL K H a xs ∧ SqL K H b [] ∧ Q (.bl xs.isEmpty) H
theorem op_eqNil {X : Cx} (hu : X.A.units + 64 < cLine) : OpR X (compareOp .Eq) (rEqNil X.K) := by
  intro pins s σ H x y v u Q I rx ry h
  obtain ⟨a, b, xs, rfl, rfl, ha, hb, q⟩ := h
  cases rx; cases ry
  obtain ⟨us, r1, p1, _⟩ := I.list ha
  obtain ⟨ws, r2, p2, _⟩ := I.list hb
  cases r2
  show wpAny (model X.prog X.w) X.A (richCompare .Eq (.ref a) (.ref b)) _ _ _
  cases r1 with
  | nil => exact SeqAt.rcP_lists (e := fun _ => true) p1.isList p2.isList rfl (by omega) (fun j h1 _ => absurd h1 (by simp)) _ _ ⟨.bl true, H, I, rfl, q⟩
  | cons r t =>
    obtain ⟨⟨cls, dd, data, sl⟩, ho, hc, n, hd⟩ := p1.isList
    obtain ⟨⟨cls2, dd2, data2, sl2⟩, ho2, hc2, n2, hd2⟩ := p2.isList
    simp only at hc hd hc2 hd2
    subst hc hd hc2 hd2
    have ta : s.TypeIs (.ref a) "list" := ⟨_, ho, rfl⟩
    have tb : s.TypeIs (.ref b) "list" := ⟨_, ho2, rfl⟩
    exact wpAny_richCompare_same_room (op := .Eq) ta tb F.slot_list_eq (call_meetsIn F.slot_list_eq ta F.entry_list_eq (F.args_list_eq_2 _ _) (list_eq_lens a b _ _ n n2 dd dd2 sl sl2 (by simp))
      ⟨ho, ho2, ⟨(fun x => nomatch x), ⟨.bl false, H, I, rfl, q⟩⟩⟩) (by omega)
def vEqNil : D → D → (D → Prop) → Prop
  | .lst ds, .lst [], P => P (.bl ds.isEmpty)
  | _, _, _ => False
theorem o_eqNil {K : PySem.W.Frag} : OpV K (rEqNil K) vEqNil := fun G H x y d e P Q s h h' f k => by
  unfold vEqNil at f
  split at f
  · obtain ⟨a, vs, rfl, h1, q1⟩ := h.l s
    obtain ⟨b, ws, rfl, h2, q2⟩ := h'.l s
    cases q2
    refine ⟨a, b, vs, rfl, rfl, SqL.of h1, SqL.of h2, ?_⟩
    cases q1 with
    | nil => exact k _ _ _ f (.old (.bl _) rfl)
    | cons _ _ => exact k _ _ _ f (.old (.bl _) rfl)
  · exact f.elim
theorem e_eqNil' {ds : List D} {Z : D → Prop} (h : Z (.bl ds.isEmpty)) : vEqNil (.lst ds) (.lst []) Z := h
def rFind : V → List V → Hp → VK → Prop := fun x xs H Q => ∃ a b : Str, x = .str a ∧ xs = [.str b] ∧ Q (.int (Txt.find a b)) H
theorem mt_findU {X : Cx} : MtR X "str.find" rFind := mt_find
def vFind : D → List D → (D → Prop) → Prop
  | .str a, [.str b], P => P (.int (Txt.find a b))
  | _, _, _ => False
theorem m_find {K : PySem.W.Frag} : MtV K "str" rFind vFind := fun G H x d xs ds P Q s h hs f k => by
  unfold vFind at f
  split at f
  · obtain ⟨v, rfl, h'⟩ := hs.inv1
    obtain rfl := h.strInv
    obtain rfl := h'.strInv
    exact ⟨_, _, rfl, rfl, k _ _ _ f (.old (.int _) rfl)⟩
  · exact f.elim
theorem e_find {a b : Str} {Z : D → Prop} (h : Z (.int (Txt.find a b))) : vFind (.str a) [.str b] Z := h
def sdel (s : Sto) (a : Addr) : Sto := fun b => if b = a then none else s b
theorem sdel_same {s : Sto} {a : Addr} : sdel s a a = none := if_pos rfl
theorem sdel_ne {s : Sto} {a b : Addr} (h : b ≠ a) : sdel s a b = s b := if_neg h
section
variable {c : JC} {K : PySem.W.Frag} {Γ : List OT} {G G' H H' : Hp} {T S S1 R C : List (Addr × HO)} {env : Env} {σ : L2.St} {m : Mst} {v : V} {d : D}
theorem Cells.out {L : List (Addr × D)} (h : Cells K G L C) {y : Addr} : L.lookup y = some d → ∃ A C1 B L', C = A ++ (C1 ++ B) ∧ Cell K G y d C1 ∧ Cells K G L' (A ++ B) ∧ ∀ b, b ≠ y → L'.lookup b = L.lookup b := by
  induction h with
  | nil => intro e; cases e
  | @cons a d0 L C1 C2 q cs ih =>
    intro e
    by_cases z : y = a
    · subst z
      rw [List.lookup_cons, beq_self_eq_true] at e
      cases e
      exact ⟨[], C1, C2, L, rfl, q, cs, fun b hb => by rw [List.lookup_cons, beq_eq_false_iff_ne.mpr hb]⟩
    · rw [List.lookup_cons, beq_eq_false_iff_ne.mpr z] at e
      obtain ⟨A, D1, B, L', rfl, q2, cs2, f⟩ := ih e
      refine ⟨C1 ++ A, D1, B, (a, d0) :: L', by rw [List.append_assoc], q2, by rw [List.append_assoc]; exact .cons q cs2, fun b hb => ?_⟩
      rw [List.lookup_cons, List.lookup_cons, f b hb]
theorem Stx.unb1 {ds : List D} {y : Addr} (st : Stx c Γ G H T S env σ m) (e : m.2 y = some (.lst ds)) : ∃ G', Same G G' ∧ Dd c.K G' (.ref y) (.lst ds) ∧ Stx c Γ G' H T S env σ (m.1, sdel m.2 y) := by
  obtain ⟨s, C, w, ⟨C1, C2, rfl, am, L, l, cs⟩, z⟩ := st
  obtain ⟨A, D1, B, L', rfl, ⟨vs, rfl, q⟩, cs2, f⟩ := cs.out (y := y) (by rw [← l y]; exact e)
  have w2 : Wd ((y, .lst vs) :: (T ++ (S ++ ((C1 ++ (A ++ B)) ++ c.R)))) G H := w.perm (by
    have h1 : ((y, HO.lst vs) :: (T ++ (S ++ (C1 ++ (A ++ B) ++ c.R)))).Perm ((T ++ (S ++ (C1 ++ A))) ++ ((y, .lst vs) :: (B ++ c.R))) := by
      refine (List.Perm.trans ?_ List.perm_middle.symm)
      simp [List.append_assoc]
    simpa [List.append_assoc] using h1)
  have gs := w2.gsame (.lst vs)
  have w3 := w2.share
  have hn : L'.lookup y = none := by
    cases e2 : L'.lookup y with
    | none => rfl
    | some d2 =>
      obtain ⟨A2, D2, B2, _, e3, q3, _⟩ := cs2.out e2
      obtain ⟨x, hx, hxy⟩ := q3.hd
      have nd := (List.nodup_cons.mp w2.2.2).1
      refine absurd (List.mem_map.mpr ⟨x, ?_, hxy⟩) nd
      rw [e3]
      simp [hx]
  refine ⟨upd G y (.lst vs), gs, .lst upd_same (q.mono gs), s.trans gs, C1 ++ (A ++ B), w3, ⟨C1, A ++ B, rfl, am, L', fun b => ?_, cs2.mono gs⟩, z.mono gs⟩
  show sdel m.2 y b = _
  unfold sdel
  by_cases hb : b = y
  · subst hb; rw [if_pos rfl, hn]
  · rw [if_neg hb, f b hb]; exact l b
def sdels (s : Sto) : List Addr → Sto
  | [] => s
  | y :: ys => sdels (sdel s y) ys
def AtAll : Sto → List Addr → List (List D) → Prop
  | _, [], [] => True
  | s, y :: ys, ds :: dss => s y = some (.lst ds) ∧ AtAll (sdel s y) ys dss
  | _, _, _ => False
theorem Stx.unbs : ∀ {ys : List Addr} {dss : List (List D)} {G : Hp} {m : Mst}, Stx c Γ G H T S env σ m → AtAll m.2 ys dss → ∃ G', Same G G' ∧ DdAll c.K G' (ys.map V.ref) (dss.map D.lst) ∧ Stx c Γ G' H T S env σ (m.1, sdels m.2 ys)
  | [], [], G, m, st, _ => ⟨G, Same.refl _, .nil, st⟩
  | [], _ :: _, _, _, _, h => h.elim
  | _ :: _, [], _, _, _, h => h.elim
  | y :: ys, ds :: dss, G, m, st, h => by
    obtain ⟨G1, s1, q1, st1⟩ := st.unb1 h.1
    obtain ⟨G2, s2, q2, st2⟩ := Stx.unbs (ys := ys) (dss := dss) st1 h.2
    exact ⟨G2, s1.trans s2, .cons (q1.mono s2) q2, st2⟩
def vUnb (ve : VE) : VE := fun env m P => ve env m fun x m1 => ∃ ys dss, x = .lst (ys.map D.adr) ∧ AtAll m1.2 ys dss ∧ P (.lst (dss.map D.lst)) (m1.1, sdels m1.2 ys)
theorem adrs_refs : ∀ {vs : List V} {ys : List Addr}, DdAll K G vs (ys.map D.adr) → vs = ys.map V.ref
  | _, [], .nil => rfl
  | _, y :: ys, .cons h t => by rw [dd_adr h, adrs_refs t]; rfl
theorem s_unb {te : TE} {ve : VE} (h : SF c Γ te ve) : SF c Γ te (vUnb ve) := fun T G H S env σ m P Q st hv k =>
  h T G H S env σ m _ _ st hv fun x m1 v G1 H1 p s st1 q => by
    obtain ⟨ys, dss, rfl, ha, p⟩ := p
    cases q with
    | lst h1 h2 =>
      obtain rfl := adrs_refs h2
      obtain ⟨G2, s2, q2, st2⟩ := st1.unbs ha
      exact k _ _ _ G2 H1 p (s.trans s2) st2 (.lst (s2 _ _ h1) q2)
theorem e_unb {ve : VE} {P : D → Mst → Prop} (h : ve env m fun x m1 => ∃ ys dss, x = .lst (ys.map D.adr) ∧ AtAll m1.2 ys dss ∧ P (.lst (dss.map D.lst)) (m1.1, sdels m1.2 ys)) : vUnb ve env m P := h
end
end Ps
namespace PySem.W
open PySem PySem.Calls PyProof.Rows
section
variable {prog : Program} {w : World} {A : Around} {E : Value → Shared → Prop} {s : Shared} {a kS : Addr} {b : Bool} {vs : List Value} {keys : Array Value} {e e1 : Nat} {P : PySem.Fin → Shared → Prop}
def kjHeap (h : Heap) (kS a : Addr) (out : List Value) : Heap := (h.update kS (Obj.mapSeq fun _ => (#[] : Array Value))).update a (Obj.mapSeq fun _ => out.toArray)
theorem kj_tail {st : SortSt} {out : List Value} (nk : s.heap.get? kS = some (seqObj "list" keys e)) (na : s.heap.get? a = some (seqObj "list" #[] e1)) (hka : kS ≠ a)
    (hsz : keys.size ≤ sizeLine) (hz : out.length ≤ sizeLine) (hfl : failedOf st = none) (ho : (if b = true then ((arrOf st).map (·.2)).reverse else (arrOf st).map (·.2)) = out.toArray)
    (h : ∀ tk c, (kjHeap s.heap kS a out).get? a = some (seqObj "list" out.toArray c) → P (.done (.ret .none)) { s with heap := kjHeap s.heap kS a out, toks := tk }) :
    wpAny (model prog w) A (ksk_tail a b e1 (.ref kS) st) P E s := by
  have s1 := Heap.SameBut.update s.heap kS (Obj.mapSeq fun _ => (#[] : Array Value))
  have na1 : (s.heap.update kS (Obj.mapSeq fun _ => (#[] : Array Value))).get? a = some (seqObj "list" #[] e1) := (s1.2 a hka.symm).trans na
  obtain ⟨c2, hc2⟩ : ∃ c2, ((s.heap.update kS (Obj.mapSeq fun _ => (#[] : Array Value))).update a (Obj.mapSeq fun _ => out.toArray)).get? a = some (seqObj "list" out.toArray c2) :=
    ⟨_, get?_update_seq na1 fun _ => out.toArray⟩
  have hz2 : out.toArray.size ≤ sizeLine + 1 := by
    rw [List.size_toArray]
    exact Nat.le_succ_of_le hz
  unfold ksk_tail
  try dsimp only
  rw [ho]
  refine wpAny_bind (listUpdate_at nk rfl ?_ hsz (Nat.zero_le _))
  refine wpAny_bind (wpAny_letGo ?_)
  refine wpAny_bind (seqEpoch_at na1 rfl ?_)
  refine wpAny_bind (listUpdate_at na1 rfl ?_ (Nat.zero_le _) hz2)
  rw [hfl]
  simp only [bne_self_eq_false, Bool.false_eq_true, if_false]
  exact wpAny_pure (h _ c2 hc2)
theorem kj_end {κ : PyProof.Rows.KeyKind} (nk : s.heap.get? kS = some (seqObj "list" keys e)) (na : s.heap.get? a = some (seqObj "list" #[] e1)) (hka : kS ≠ a)
    (S : SortsAt prog w A s κ keys.toList) (hsz : keys.size = vs.length) (hZ : vs.length ≤ sizeLine)
    (h : ∀ tk c, (kjHeap s.heap kS a (sortVals κ b keys.toList vs)).get? a = some (seqObj "list" (sortVals κ b keys.toList vs).toArray c) → P (.done (.ret .none)) { s with heap := kjHeap s.heap kS a (sortVals κ b keys.toList vs), toks := tk }) :
    wpAny (model prog w) A (ksk_end a b vs.toArray e1 (.ref kS) keys) P E s := by
  obtain ⟨kd, h1, h2⟩ := S.kind
  have hkl : keys.toList.length = vs.length := by
    rw [Array.length_toList]
    exact hsz
  have hK : PyProof.Rows.KeysOf κ (keys.zip vs.toArray) := keysOf_zip S.keys
  have hol : (sortVals κ b keys.toList vs).length = vs.length := sortVals_length b hkl
  have hstart : (if b = true then (keys.zip vs.toArray).reverse else keys.zip vs.toArray).Perm (keys.zip vs.toArray) := by
    cases b with
    | false => exact Array.Perm.refl _
    | true => exact Array.perm_iff_toList_perm.mpr (by rw [if_pos rfl, Array.toList_reverse]; exact List.reverse_perm _)
  have hss : (if b = true then (keys.zip vs.toArray).reverse else keys.zip vs.toArray).size = vs.length := by rw [hstart.size_eq, Array.size_zip, hsz, List.size_toArray, Nat.min_self]
  have fin : ∀ st' : SortSt, (arrOf st').Perm (if b = true then (keys.zip vs.toArray).reverse else keys.zip vs.toArray) → SortedToK κ (arrOf st') (if b = true then (keys.zip vs.toArray).reverse else keys.zip vs.toArray).size →
      Stable κ (arrOf st') (if b = true then (keys.zip vs.toArray).reverse else keys.zip vs.toArray) → (if b = true then ((arrOf st').map (·.2)).reverse else (arrOf st').map (·.2)) = (sortVals κ b keys.toList vs).toArray := by
    intro st' hp hs ht
    have e := sort_out (rev := b) (keys := keys) (items := vs.toArray) (xs := arrOf st') (κ := κ) hK hp hs ht
    have e' := congrArg List.toArray e
    rw [Array.toArray_toList] at e'
    exact e'
  have step : ∀ t : Sem PySem.Fin, wpAny (model prog w) A t P E s → wpAny (model prog w) A (if b = true then (do let _ ← rule "list.sort.reverse"; t) else t) P E s := by
    intro t ht
    split
    · exact wpAny_bind (wpAny_rule ht)
    · exact ht
  unfold ksk_end
  try dsimp only
  refine step _ ?_
  by_cases hl2 : vs.toArray.size < 2
  · rw [if_pos hl2, if_pos hl2]
    refine wpAny_bind (wpAny_pure ?_)
    rw [StateT.run_pure]
    refine wpAny_bind (wpAny_pure ?_)
    try dsimp only
    refine kj_tail (st := SortSt.mk' general' (if b = true then (keys.zip vs.toArray).reverse else keys.zip vs.toArray) #[] 7 none) nk na hka (by rw [hsz]; exact hZ) (by rw [hol]; exact hZ) rfl (fin _ (Array.Perm.refl _) ?_ (Stable.refl _)) h
    intro i j hij hj
    rw [hss] at hj
    rw [List.size_toArray] at hl2
    have : i = j := by omega
    subst this
    exact KeyOrd.kle_refl _
  · rw [if_neg hl2, if_neg hl2]
    rw [List.size_toArray] at hl2
    refine wpAny_bind (h2 (by omega) _ ?_)
    refine wpAny_bind (wpAny_mono (H.wpS_sortRunsSt (κ := κ) (kd := kd) (a₀ := if b = true then (keys.zip vs.toArray).reverse else keys.zip vs.toArray)
      (st := SortSt.mk' kd (if b = true then (keys.zip vs.toArray).reverse else keys.zip vs.toArray) #[] 7 none)
      (Q := fun _ st' => failedOf st' = none ∧ (if b = true then ((arrOf st').map (·.2)).reverse else (arrOf st').map (·.2)) = (sortVals κ b keys.toList vs).toArray)
      h1 (hK.perm hstart) ⟨Array.Perm.refl _, rfl, rfl⟩ rfl (Stable.refl _) (by rw [hss]; omega) fun st' a1 a2 a3 a4 => ⟨a2, fin st' a1 a3 a4⟩) ?_ fun _ _ e => e)
    rintro ⟨⟨⟩, st'⟩ s' ⟨rfl, hf, ho⟩
    try dsimp only at ho ⊢
    exact kj_tail nk na hka (by rw [hsz]; exact hZ) (by rw [hol]; exact hZ) hf ho h
theorem kj_rest {f : Value} {W : Nat → Array Value → Shared → Prop} (w0 : W 0 #[] s) (nk : ∀ i ks s', W i ks s' → ks.size = i ∧ ∃ e, s'.heap.get? kS = some (seqObj "list" ks e)) (hZ : vs.length ≤ sizeLine)
    (turn : ∀ (i : Nat) (v : Value) (ks : Array Value) (s' : Shared), vs[i]? = some v → W i ks s' → wpAny (model prog w) A (call f [v]) (fun u s'' => (∃ e, s''.heap.get? kS = some (seqObj "list" ks e)) ∧ W (i + 1) (ks.push u) { s'' with heap := s''.heap.update kS (Obj.mapSeq (·.push u)) }) (fun _ _ => False) s')
    (done : ∀ ks s', W vs.length ks s' → wpAny (model prog w) A (ksk_end a b vs.toArray e1 (.ref kS) ks) P E s') :
    wpAny (model prog w) A (ksk_rest a f b vs.toArray e1 (.ref kS)) P E s := by
  unfold ksk_rest
  refine wpAny_bind (wpAny_rule ?_)
  first
    | rw [List.forIn_toArray]
    | (rw [← Array.forIn_toList]; simp only [List.toList_toArray])
    | rw [← Array.forIn_toList]
  refine wpAny_bind (ksk_fold (fun i s' => ∃ ks, W i ks s') vs 0 s ⟨#[], w0⟩ ?step ?done)
  case step =>
    rintro j x s' hx ⟨ks, hw⟩
    simp only [Nat.zero_add] at hw ⊢
    have hj : j < vs.length := (List.getElem?_eq_some_iff.mp hx).1
    have hks := (nk _ _ _ hw).1
    refine wpAny_bind (wpAny_attempt (wpAny_mono (turn j x ks s' hx hw) (fun v s'' he => ?_) fun _ _ hF => hF.elim))
    obtain ⟨⟨e, nk'⟩, hw'⟩ := he
    try dsimp only
    refine wpAny_bind (listUpdate_at nk' rfl ?_ (by rw [hks]; omega) (by rw [Array.size_push, hks]; omega))
    exact wpAny_pure ⟨rfl, ks.push v, hw'⟩
  case done =>
    rintro s' ⟨ks, hw⟩
    simp only [Nat.zero_add] at hw
    obtain ⟨_, e, nk'⟩ := nk _ _ _ hw
    try dsimp only
    refine wpAny_bind (listItems_at nk' rfl ?_)
    exact done ks s' hw
end
end PySem.W
namespace Ps
open PySem PySem.Spec PyProof.Rows L2
section
variable {X : Cx} {pins : List (Addr × Obj)} {σ : L2.St} {k : Nat} {f : Addr} {fd : FuncData} {p : Str} {sp : Sp} {H : Hp} {s : Shared}
theorem kj_call (F : FnOk X.prog X.w X.K X.mg X.base CX0 k f fd [p] sp) (hr : Room (k + 2) X.A) (hb : Binds X.K fd [p] []) (I : Inv X pins σ H s) {x : V} {u : Value} (r : RelV x u) {Q : VK} (h : sp [x] H Q E0) :
    wpAny (model X.prog X.w) X.A.in1.in1 (call (.ref f) [u]) (EP X pins σ Q) (fun _ _ => False) s := by
  have r2 : Vals [x] [u] := .cons r .nil
  refine wpAny_call (codeAny_mono (F.run X.A.in1.in1 X.stack s H ⟨[u], []⟩ [u] [x] Q E0 (Room.in1 (Room.in1 hr)) I.env0.in1.in1 (hb s [u] I.kIn rfl) r2 h) fun r s' hq => ?_)
  cases r with
  | error e => exact hq
  | ok fl =>
    cases fl with
    | ret u => exact I.after hq
    | next => exact hq
    | brk => exact hq
    | cont => exact hq
def keyLe {α : Type} (p q : PyData × α) : Bool := PySem.W.dataLe false Prod.fst p q
def sortBy {α : Type} (ks : List PyData) (xs : List α) : List α := ((ks.zip xs).mergeSort keyLe).map Prod.snd
def rSortK (K : PySem.W.Frag) (sp : Sp) (f : Addr) : List V → List V → Hp → VK → Prop := fun vs zs H Q => ∃ (a : Addr) (xs : List V) (W : Nat → List V → Hp → Prop), vs = [.ref a] ∧ zs = [.ref f] ∧ SqL K H a xs ∧ W 0 [] H ∧
  (∀ i y zs H2, xs[i]? = some y → zs.length = i → W i zs H2 → sp [y] H2 (fun z H3 => W (i + 1) (zs ++ [z]) H3) E0) ∧
  (∀ zs H2, zs.length = xs.length → W xs.length zs H2 → ∃ ks : List PyData, DpAll K H2 zs ks ∧ PySem.W.AllAlike ks ∧ PySem.W.Sortable ks ∧ (∀ d ∈ ks, d.depth ≤ 64) ∧ ∀ q, H2 q = none → Q (.ref q) (upd H2 q (.lst (sortBy ks xs))))
theorem readsAll_each' {h : Heap} : ∀ {vs : List Value} {ds : List PyData} {as : List Addr}, ReadsAll h vs ds as → PySem.W.EachIs (fun v d => ∃ as, Reads h v d as) vs ds
  | [], [], _, _ => .nil
  | [], _ :: _, _, h => by cases h
  | _ :: _, [], _, h => by cases h
  | _ :: _, _ :: _, _, h => by cases h with | cons h1 h2 => exact .cons ⟨_, h1⟩ (readsAll_each' h2)
theorem each_zip : ∀ {vs : List Value} {xs : List V} {ks : List PyData}, Vals xs vs → ks.length = xs.length → PySem.W.EachIs (fun v (p : PyData × V) => RelV p.2 v) vs (ks.zip xs)
  | _, [], [], .nil, _ => .nil
  | _, [], _ :: _, _, h => by simp at h
  | _, _ :: _, [], _, h => by simp at h
  | _, _ :: _, _ :: _, .cons r t, h => .cons r (each_zip t (by simpa using h))
theorem vals_each : ∀ {vs : List Value} {ps : List (PyData × V)}, PySem.W.EachIs (fun v (p : PyData × V) => RelV p.2 v) vs ps → Vals (ps.map Prod.snd) vs
  | _, _, .nil => .nil
  | _, _, .cons r t => .cons r (vals_each t)
theorem cr_sortK (F : FnOk X.prog X.w X.K X.mg X.base CX0 k f fd [p] sp) (hr : Room (k + 2) X.A) (hb : Binds X.K fd [p] []) : CallRK X (.builtin "sorted") [Str.ofString "key"] (rSortK X.K sp f) := by
  intro pins s σ H vs zs us ws Q I r rz h
  obtain ⟨a, xs, W, rfl, rfl, hs, w0, st, fin⟩ := h
  obtain rfl := Vals.ref1 r
  obtain ⟨w1, rfl, e1⟩ := vals1 rz
  obtain rfl : w1 = Value.ref f := e1
  obtain ⟨its, rv, hl, hz⟩ := I.list hs
  have hzi : its.length ≤ sizeLine := by rw [← rv.length]; exact hz
  refine PySem.W.sorted_of_sort (vs := its) hl.isList hzi (PyProof.Rows.ksk_s1 _ _) (fun _ => PyProof.Rows.ksk_l1 _ _) fun E' => ?_
  show wpAny _ _ (Builtin.«list.sort» ⟨[.ref (s.heap.objs.size + 1)], [(Str.ofString "key", .ref f)]⟩) _ _ _
  rw [PyProof.Rows.ksk_t1]
  have ho := PySem.W.copyHeap_at s.heap its
  obtain ⟨e1, ho1⟩ : ∃ e1, ((PySem.W.copyHeap s.heap its).update (s.heap.objs.size + 1) (Obj.mapSeq fun _ => (#[] : Array Value))).get? (s.heap.objs.size + 1) = some (PyProof.Rows.seqObj "list" #[] e1) := ⟨_, PyProof.Rows.get?_update_seq ho fun _ => #[]⟩
  have hlt : s.heap.objs.size + 1 < (PySem.W.copyHeap s.heap its).objs.size := Heap.lt_size ho
  obtain ⟨g0, hg0⟩ : ∃ g0, g0 = ((PySem.W.copyHeap s.heap its).update (s.heap.objs.size + 1) (Obj.mapSeq fun _ => (#[] : Array Value))).push (PyProof.Rows.seqObj "tuple" its.toArray 0) := ⟨_, rfl⟩
  have hsz : s.heap.objs.size + 1 < g0.objs.size := by rw [hg0]; exact Heap.lt_size (Heap.get?_push_of_some _ ho1)
  have hkeep0 : ∀ b o, s.heap.get? b = some o → g0.get? b = some o := fun b o q => by
    rw [hg0]
    refine Heap.get?_push_of_some _ ?_
    rw [Heap.get?_update_ne _ _ _ _ (Nat.ne_of_lt (Nat.lt_succ_of_lt (Heap.lt_size q)))]
    exact PySem.W.copyHeap_old q
  have hD0 : g0.get? (s.heap.objs.size + 1) = some (PyProof.Rows.seqObj "list" #[] e1) := by rw [hg0]; exact Heap.get?_push_of_some _ ho1
  unfold PyProof.Rows.ksk_tree
  refine wpAny_bind (PyProof.Rows.listItems_at ho rfl ?_)
  refine wpAny_bind (PyProof.Rows.listUpdate_at ho rfl ?_ (by rw [List.size_toArray]; exact hzi) (Nat.zero_le _))
  refine wpAny_bind (PyProof.Rows.seqEpoch_at ho1 rfl ?_)
  refine wpAny_bind (wpAny_newTuple ?_ (by show its.length ≤ _; exact hzi))
  refine wpAny_bind (wpAny_newList ?_ (Nat.zero_le _))
  refine wpAny_holding ?_
  show wpAny _ _ (PyProof.Rows.ksk_rest (s.heap.objs.size + 1) (.ref f) false its.toArray e1 (.ref (((PySem.W.copyHeap s.heap its).update (s.heap.objs.size + 1) (Obj.mapSeq fun _ => (#[] : Array Value))).push (PyProof.Rows.seqObj "tuple" its.toArray 0)).objs.size)) _ _ { s with heap := (((PySem.W.copyHeap s.heap its).update (s.heap.objs.size + 1) (Obj.mapSeq fun _ => (#[] : Array Value))).push (PyProof.Rows.seqObj "tuple" its.toArray 0)).push (PyProof.Rows.seqObj "list" #[] 0) }
  rw [← hg0]
  have hn : H (s.heap.objs.size + 1) = none := I.hok.fresh (Nat.le_succ _)
  have hkn : H g0.objs.size = none := I.hok.fresh (by omega)
  have hkeep : ∀ b o, s.heap.get? b = some o → (g0.push (PyProof.Rows.seqObj "list" #[] 0)).get? b = some o := fun b o q => Heap.get?_push_of_some _ (hkeep0 b o q)
  have hD : (g0.push (PyProof.Rows.seqObj "list" #[] 0)).get? (s.heap.objs.size + 1) = some (PyProof.Rows.seqObj "list" #[] e1) := Heap.get?_push_of_some _ hD0
  have hS : (g0.push (PyProof.Rows.seqObj "list" #[] 0)).get? g0.objs.size = some (PyProof.Rows.seqObj "list" #[] 0) := Heap.get?_push_size _ rfl
  have I1 : Inv X pins σ H { s with heap := g0.push (PyProof.Rows.seqObj "list" #[] 0) } := I.kept (t' := s.toks) hkeep
  have hka : g0.objs.size ≠ s.heap.objs.size + 1 := by omega
  have young : ∀ b, s.heap.objs.size ≤ b → b ≠ X.env.locals ∧ b ∉ X.fs ∧ (b ∈ X.ex ∨ X.s_0.heap.objs.size ≤ b) ∧ (∀ x c, X.env.cells.lookup x = some c → c ≠ b) ∧ ∀ q ∈ X.pn ++ pins, q.1 ≠ b := fun b hb => by
    refine ⟨Nat.ne_of_gt (Nat.lt_of_lt_of_le I.lt hb), I.nofs hb, .inr (Nat.le_trans I.sz hb), fun x c e => ?_, fun q hq => ?_⟩
    · obtain ⟨v, o, hc, _⟩ := I.cell x c e
      exact Nat.ne_of_lt (Nat.lt_of_lt_of_le (Heap.lt_size hc) hb)
    · exact Nat.ne_of_lt (Nat.lt_of_lt_of_le (Heap.lt_size (I.pin q hq).1) hb)
  obtain ⟨ya1, ya2, ya3, ya4, ya5⟩ := young (s.heap.objs.size + 1) (Nat.le_succ _)
  obtain ⟨yk1, yk2, yk3, yk4, yk5⟩ := young g0.objs.size (by omega)
  have unp : ∀ {H' : Hp} {s' : Shared} {r r2 : Addr × Obj}, Inv X (r :: r2 :: pins) σ H' s' → Inv X pins σ H' s' := fun J => J.pins_of fun q hq => J.pin q (List.mem_append_right _ (List.mem_cons_of_mem _ (List.mem_cons_of_mem _ hq)))
  refine PySem.W.kj_rest (W := fun i ks s' => ∃ zs H2 e, zs.length = i ∧ Vals zs ks.toList ∧ W i zs H2 ∧ Inv X ((g0.objs.size, PyProof.Rows.seqObj "list" ks e) :: (s.heap.objs.size + 1, PyProof.Rows.seqObj "list" #[] e1) :: pins) σ H2 s') ⟨[], _, 0, rfl, .nil, w0, ?_⟩ ?_ hzi ?_ ?_
  · refine I1.pins_of fun q hq => ?_
    rcases List.mem_cons.mp hq with rfl | hq
    · exact ⟨hS, hkn, yk1, yk2, fun v z => by cases z⟩
    · rcases List.mem_cons.mp hq with rfl | hq
      · exact ⟨hD, hn, ya1, ya2, fun v z => by cases z⟩
      · exact I1.pin q (List.mem_append_right _ hq)
  · rintro i ks s' ⟨zs, H2, e, rfl, rz, _, J⟩
    exact ⟨by rw [rz.length]; simp, e, (J.pin _ (List.mem_append_right _ List.mem_cons_self)).1⟩
  · rintro i v ks s' hv ⟨zs, H2, e, hzl, rz, hw, J⟩
    obtain ⟨y, hy, ry⟩ : ∃ y, xs[i]? = some y ∧ RelV y v := by
      have hi : i < xs.length := by rw [rv.length]; exact (List.getElem?_eq_some_iff.mp hv).1
      obtain ⟨u, h1, h2⟩ := rv.get (List.getElem?_eq_getElem hi)
      rw [hv] at h1; cases h1
      exact ⟨_, List.getElem?_eq_getElem hi, h2⟩
    refine wpAny_mono (kj_call F hr hb J ry (st i y zs H2 hy hzl hw)) (fun u s'' hq => ?_) fun _ _ z => z
    obtain ⟨z, H3, J3, rzu, hw3⟩ := hq
    have pk := J3.pin (g0.objs.size, PyProof.Rows.seqObj "list" ks e) (List.mem_append_right _ List.mem_cons_self)
    have pa := J3.pin (s.heap.objs.size + 1, PyProof.Rows.seqObj "list" #[] e1) (List.mem_append_right _ (List.mem_cons_of_mem _ List.mem_cons_self))
    obtain ⟨e2, he2⟩ : ∃ e2, (s''.heap.update g0.objs.size (Obj.mapSeq (·.push u))).get? g0.objs.size = some (PyProof.Rows.seqObj "list" (ks.push u) e2) := ⟨_, PyProof.Rows.get?_update_seq pk.1 (·.push u)⟩
    have sb := Heap.SameBut.update s''.heap g0.objs.size (Obj.mapSeq (·.push u))
    have J4 : Inv X pins σ H3 { s'' with heap := s''.heap.update g0.objs.size (Obj.mapSeq (·.push u)), toks := s''.toks } := (unp J3).turned (it := g0.objs.size) (fun b o hb q => (sb.2 b hb).trans q) pk.2.1 yk1 yk3 yk4 yk5
    refine ⟨⟨e, pk.1⟩, zs ++ [z], H3, e2, by rw [List.length_append, hzl]; rfl, by rw [Array.toList_push]; exact rz.append (.cons rzu .nil), hw3, J4.pins_of fun q hq => ?_⟩
    rcases List.mem_cons.mp hq with rfl | hq
    · exact ⟨he2, pk.2.1, yk1, yk2, fun v z => by cases z⟩
    · rcases List.mem_cons.mp hq with rfl | hq
      · exact ⟨(sb.2 _ hka.symm).trans pa.1, pa.2.1, ya1, ya2, fun v z => by cases z⟩
      · exact J4.pin q (List.mem_append_right _ hq)
  · rintro ks s' ⟨zs, H2, e, hzl, rz, hw, J⟩
    rw [← rv.length] at hzl hw
    obtain ⟨kz, hdp, hal, hsk, hdep, hQ⟩ := fin zs H2 hzl hw
    have pk := J.pin (g0.objs.size, PyProof.Rows.seqObj "list" ks e) (List.mem_append_right _ List.mem_cons_self)
    have pa := J.pin (s.heap.objs.size + 1, PyProof.Rows.seqObj "list" #[] e1) (List.mem_append_right _ (List.mem_cons_of_mem _ List.mem_cons_self))
    obtain ⟨as, hra⟩ := Dp.readsAll J kz zs ks.toList hdp rz
    have hea := readsAll_each' hra
    have hkl : kz.length = xs.length := by rw [← dpAll_len hdp, hzl]
    have hSA : PySem.W.SortsAt X.prog X.w X.A.in1.in1 s' (PySem.W.dataKind s'.heap kz) ks.toList := PySem.W.SortsAt.data hea hal hsk fun d hd => by
      have h1 := hdep d hd
      have h2 := hr.un
      show X.A.units + 1 + 1 + d.depth < cLine
      omega
    have hks : ks.size = its.length := by
      exact (Array.length_toList (xs := ks)).symm.trans (rz.length.symm.trans (hzl.trans rv.length))
    refine PySem.W.kj_end (κ := PySem.W.dataKind s'.heap kz) (keys := ks) (vs := its) (e := e) (e1 := e1) pk.1 pa.1 hka hSA hks hzi fun tk c hc => ⟨rfl, ?_⟩
    obtain ⟨out, eo⟩ : ∃ out, out = PySem.W.sortVals (PySem.W.dataKind s'.heap kz) false ks.toList its := ⟨_, rfl⟩
    rw [← eo] at hc ⊢
    have ko : PySem.W.KeyedOut false kz its out := ⟨s'.heap, ks.toList, hal, eo, hea⟩
    have hez : (kz.zip xs).map Prod.fst = kz := List.map_fst_zip (by omega)
    have hvo : Vals (sortBy kz xs) out := by
      refine vals_each (PySem.W.keyedOut_each (bs := kz.zip xs) (R := fun v (p : PyData × V) => RelV p.2 v) Prod.fst ?_ (each_zip rv hkl))
      rw [hez]; exact ko
    have hol : (sortBy kz xs).length ≤ sizeLine := by
      unfold sortBy
      rw [List.length_map, List.length_mergeSort, List.length_zip, hkl, Nat.min_self]
      exact hz
    have sb1 := Heap.SameBut.update s'.heap g0.objs.size (Obj.mapSeq fun _ => (#[] : Array Value))
    have sb2 := Heap.SameBut.update (s'.heap.update g0.objs.size (Obj.mapSeq fun _ => (#[] : Array Value))) (s.heap.objs.size + 1) (Obj.mapSeq fun _ => out.toArray)
    have kp : ∀ b o, b ≠ g0.objs.size → b ≠ s.heap.objs.size + 1 → s'.heap.get? b = some o → (PySem.W.kjHeap s'.heap g0.objs.size (s.heap.objs.size + 1) out).get? b = some o := fun b o h1 h2 q => (sb2.2 b h2).trans ((sb1.2 b h1).trans q)
    have tr : ∀ b u, H2 b = some u → b ≠ g0.objs.size ∧ b ≠ s.heap.objs.size + 1 := fun b u q => ⟨(fun z => by rw [z, pk.2.1] at q; cases q), (fun z => by rw [z, pa.2.1] at q; cases q)⟩
    have un : Un (frs X.stack) [g0.objs.size, s.heap.objs.size + 1] H2 (upd H2 (s.heap.objs.size + 1) (.lst (sortBy kz xs))) s'.heap (PySem.W.kjHeap s'.heap g0.objs.size (s.heap.objs.size + 1) out) :=
      { keep := fun b o q _ _ hx => kp b o (fun z => hx (by simp [z])) (fun z => hx (by simp [z])) q
        slot := fun b o q _ _ hx => ⟨o.slots, kp b o (fun z => hx (by simp [z])) (fun z => hx (by simp [z])) q⟩
        free := fun b o _ n hx => by rw [upd_ne (fun z => hx (by simp [z]))]; exact n
        there := fun b o q hx => ⟨o, kp b o (fun z => hx (by simp [z])) (fun z => hx (by simp [z])) q⟩
        tups := fun b ys q => by rw [upd_ne (tr b _ q).2]; exact q
        frzs := fun b o u q => by rw [upd_ne (tr b _ q).2]; exact q
        tbls := fun b ps q => ⟨#[], by rw [upd_ne (tr b _ q).2]; simpa using q⟩ }
    have hok : HOk X.prog X.w (upd H2 (s.heap.objs.size + 1) (.lst (sortBy kz xs))) (PySem.W.kjHeap s'.heap g0.objs.size (s.heap.objs.size + 1) out) := fun b u q => by
      by_cases hb : b = s.heap.objs.size + 1
      · subst hb
        rw [upd_same] at q
        cases q
        exact ⟨hol, out, c, hvo, hc⟩
      · rw [upd_ne hb] at q
        refine (J.hok b u q).stay (fun d v hd y => ?_) (fun d y => ?_) fun d ys y => ?_
        · have : d ≠ g0.objs.size ∧ d ≠ s.heap.objs.size + 1 := by
            rcases hd with z | z
            · subst z; exact tr _ _ q
            · exact tr _ _ z
          exact kp d v this.1 this.2 y
        · rw [upd_ne (tr d _ y).2]; exact y
        · rw [upd_ne (tr d _ y).2]; exact y
    have J5 : Inv X pins σ (upd H2 (s.heap.objs.size + 1) (.lst (sortBy kz xs))) { s' with heap := PySem.W.kjHeap s'.heap g0.objs.size (s.heap.objs.size + 1) out, gens := s'.gens, drawn := s'.drawn, toks := tk } := (unp J).call un hok J.bare fun b hb => by
      rcases List.mem_cons.mp hb with rfl | hb
      · exact ⟨yk3, yk1, yk4, yk5⟩
      · rw [List.mem_singleton.mp hb]
        exact ⟨ya3, ya1, ya4, ya5⟩
    exact ⟨.ref (s.heap.objs.size + 1), _, J5, rfl, hQ _ pa.2.1⟩
end
theorem sortBy_map {α β : Type} {l : List (PyData × α × β)} : sortBy (l.map fun p => p.1) (l.map fun p => p.2.1) = (l.mergeSort fun p q => PySem.W.dataLe false Prod.fst p q).map (fun p => p.2.1) ∧
    sortBy (l.map fun p => p.1) (l.map fun p => p.2.2) = (l.mergeSort fun p q => PySem.W.dataLe false Prod.fst p q).map (fun p => p.2.2) := by
  constructor
  · unfold sortBy
    rw [List.zip_map', ← List.map_mergeSort (r := fun p q => PySem.W.dataLe false Prod.fst p q) (s := keyLe) (f := fun p : PyData × α × β => (p.1, p.2.1)) (l := l) (fun a _ b _ => rfl), List.map_map]
    rfl
  · unfold sortBy
    rw [List.zip_map', ← List.map_mergeSort (r := fun p q => PySem.W.dataLe false Prod.fst p q) (s := keyLe) (f := fun p : PyData × α × β => (p.1, p.2.2)) (l := l) (fun a _ b _ => rfl), List.map_map]
    rfl
theorem ddAll_mem {K : PySem.W.Frag} {G : Hp} : ∀ {vs : List V} {ds : List D}, (∀ p ∈ vs.zip ds, Dd K G p.1 p.2) → vs.length = ds.length → DdAll K G vs ds
  | [], [], _, _ => .nil
  | [], _ :: _, _, h => by simp at h
  | _ :: _, [], _, h => by simp at h
  | v :: vs, d :: ds, h, e => .cons (h (v, d) (by simp)) (ddAll_mem (fun p hp => h p (by simp [hp])) (by simpa using e))
theorem mem_ddAll {K : PySem.W.Frag} {G : Hp} : ∀ {vs : List V} {ds : List D}, DdAll K G vs ds → ∀ p ∈ vs.zip ds, Dd K G p.1 p.2
  | _, _, .nil, p, h => by simp at h
  | _, _, .cons q t, p, h => by
    rw [List.zip_cons_cons] at h
    rcases List.mem_cons.mp h with rfl | h
    · exact q
    · exact mem_ddAll t p h
theorem ddAll_sort {K : PySem.W.Frag} {G : Hp} {vs : List V} {ds : List D} {ks : List PyData} (h : DdAll K G vs ds) (hk : ks.length = ds.length) : DdAll K G (sortBy ks vs) (sortBy ks ds) := by
  have hl := h.len
  obtain ⟨l, el⟩ : ∃ l, l = ks.zip (vs.zip ds) := ⟨_, rfl⟩
  have e1 : l.map (fun p => p.1) = ks := by rw [el]; exact List.map_fst_zip (by rw [List.length_zip]; omega)
  have e2 : l.map (fun p => p.2) = vs.zip ds := by rw [el]; exact List.map_snd_zip (by rw [List.length_zip]; omega)
  have e3 : l.map (fun p => p.2.1) = vs := by
    rw [show (fun p : PyData × V × D => p.2.1) = Prod.fst ∘ (fun p => p.2) from rfl, ← List.map_map, e2]
    exact List.map_fst_zip (by omega)
  have e4 : l.map (fun p => p.2.2) = ds := by
    rw [show (fun p : PyData × V × D => p.2.2) = Prod.snd ∘ (fun p => p.2) from rfl, ← List.map_map, e2]
    exact List.map_snd_zip (by omega)
  obtain ⟨h1, h2⟩ := sortBy_map (l := l)
  rw [e1, e3] at h1
  rw [e1, e4] at h2
  rw [h1, h2]
  refine ddAll_mem (fun p hp => ?_) (by rw [List.length_map, List.length_map])
  rw [List.zip_map'] at hp
  obtain ⟨q, hq, rfl⟩ := List.mem_map.mp hp
  have hq2 : q ∈ l := (List.mergeSort_perm _ _).mem_iff.mp hq
  refine mem_ddAll h (q.2.1, q.2.2) ?_
  rw [← e2]
  exact List.mem_map.mpr ⟨q, hq2, rfl⟩
theorem pys_map : ∀ ds : List D, D.pys ds = ds.map D.py
  | [] => rfl
  | d :: ds => by rw [D.pys, List.map_cons, pys_map ds]
theorem pls_mem : ∀ {ds : List D}, (∀ d ∈ ds, d.pl = true) → D.pls ds = true
  | [], _ => rfl
  | d :: ds, h => by rw [D.pls, h d List.mem_cons_self, pls_mem fun x hx => h x (List.mem_cons_of_mem _ hx)]; rfl
def vSortK (t : OT) (vsp : VSp) (va : VA) : VE := fun env m P => va env m fun xs m1 => ∃ ds ks : List D, xs = [.lst ds] ∧ ks.length = ds.length ∧ (∀ (i : Nat) (d k : D), ds[i]? = some d → ks[i]? = some k → vsp [d] (none, emp) (fun z _ => frOk t z ∧ z = k) (fun _ _ _ => False)) ∧
  (∀ k ∈ ks, k.pl = true) ∧ PySem.W.AllAlike (ks.map D.py) ∧ PySem.W.Sortable (ks.map D.py) ∧ (∀ k ∈ ks, k.py.depth ≤ 64) ∧ P (.lst (sortBy (ks.map D.py) ds)) m1
theorem bo_all2 {K : PySem.W.Frag} {G G2 : Hp} {S : List (Addr × HO)} {y : V} {d : D} (h : Dd K G y d) (s : Same G G2) : BoAll K G2 S [y] [d] := .cons ⟨.F, [], fun _ h => absurd h (by simp), rfl, h.mono s⟩ .nil
section
variable {c : JC} {Γ : List OT} {env : Env} {m : Mst}
theorem s_sortK {vsp : VSp} {t : OT} {f : Addr} {ta : TA} {va : VA} (ha : SA c Γ ta va) : SO c Γ (tCKw (rSortK c.K (spV c.K t vsp) f) ta (tCons (tC (.ref f)) tNil)) (vSortK t vsp va) := fun T G H S env σ m P Q st hv k =>
  ha T G H S env σ m _ _ st hv fun xs m1 vs G1 H1 S1 p1 s1 st1 b1 => by
    obtain ⟨ds, ks, rfl, hl, hc, hp, hal, hso, hde, p⟩ := p1
    cases b1 with
    | @cons v _ vs _ b bt =>
      cases bt
      have t1 := bo_tp (T := S1 ++ T) st1 (bo_sub (Same.refl _) (B := S1 ++ T ++ S) (fun x hx => by rcases List.mem_append.mp hx with q | q <;> simp [q]) b)
      obtain ⟨a, vs, rfl, h1, h2⟩ := t1.l st1.v
      refine ⟨a, vs, fun i zs H2 => ∃ G2, Same G1 G2 ∧ Stx c Γ G2 H2 (S1 ++ T) S env σ m1 ∧ DdAll c.K G2 zs (ks.take i), rfl, rfl, SqL.of h1, ⟨G1, Same.refl _, st1, .nil⟩, ?_, ?_⟩
      · rintro i y zs H2 hy hzl ⟨G2, s2, st2, hz⟩
        obtain ⟨d, hd, hyd⟩ := h2.getV hy
        have hi : i < ks.length := by rw [hl]; exact (List.getElem?_eq_some_iff.mp hd).1
        have hk := List.getElem?_eq_getElem hi
        have b2 : BoAll c.K G2 (S1 ++ T ++ S) [y] [d] := .cons ⟨.F, [], fun _ h => absurd h (by simp), rfl, hyd.mono s2⟩ .nil
        refine run_look (S1 := []) (T := S1 ++ T) (P := fun z => z = ks[i]) (VX := fun _ _ _ => False) (W := E0) (by simpa using st2) (bo_all2 hyd s2) (.refl _ _) (hc i d _ hd hk) (fun z v G' H' S2 p s st' o => ?_) (fun _ _ _ _ _ _ (h : False) => h.elim) fun _ _ _ (h : False) => h.elim
        subst p
        have e1 : ks.take (i + 1) = ks.take i ++ [ks[i]] := by rw [List.take_add_one, hk]; rfl
        obtain ⟨G3, s3, st3, q3⟩ := Stx.freeze (t := .O) (S1 := S1 ++ T) st' o
        exact ⟨G3, (s2.trans s).trans s3, st3, by rw [e1]; exact (hz.mono (s.trans s3)).app (.one q3)⟩
      · rintro zs H2 hzl ⟨G2, s2, st2, hz⟩
        have hvl := h2.len
        rw [hvl, ← hl, List.take_length] at hz
        refine ⟨ks.map D.py, ?_, hal, hso, fun d hd => ?_, fun q hq => ?_⟩
        · rw [← pys_map]
          exact dpAll_mono st2.v _ _ (hz.dp (pls_mem hp))
        · obtain ⟨x, hx, rfl⟩ := List.mem_map.mp hd
          exact hde x hx
        · obtain ⟨G3, S3, s3, st3, q3⟩ := Nw.own (T := T) st2.dropT (.lst hq (ddAll_sort (ks := ks.map D.py) (h2.mono s2) (by rw [List.length_map]; exact hl)))
          exact k _ m1 _ G3 _ S3 p (s1.trans (s2.trans s3)) st3 q3
theorem e_sortK {t : OT} {vsp : VSp} {va : VA} {P : D → Mst → Prop} (h : va env m fun xs m1 => ∃ ds ks : List D, xs = [.lst ds] ∧ ks.length = ds.length ∧ (∀ (i : Nat) (d k : D), ds[i]? = some d → ks[i]? = some k → vsp [d] (none, emp) (fun z _ => frOk t z ∧ z = k) (fun _ _ _ => False)) ∧
    (∀ k ∈ ks, k.pl = true) ∧ PySem.W.AllAlike (ks.map D.py) ∧ PySem.W.Sortable (ks.map D.py) ∧ (∀ k ∈ ks, k.py.depth ≤ 64) ∧ P (.lst (sortBy (ks.map D.py) ds)) m1) : vSortK t vsp va env m P := h
end
theorem sortBy_maps {α β : Type} (f : α → PyData) (g : α → β) (l : List α) : sortBy (l.map f) (l.map g) = (l.mergeSort (PySem.W.dataLe false f)).map g := by
  have h := (sortBy_map (l := l.map fun x => (f x, g x, ()))).1
  rw [List.map_map, List.map_map] at h
  rw [show l.map f = l.map ((fun p : PyData × β × Unit => p.1) ∘ fun x => (f x, g x, ())) from rfl, show l.map g = l.map ((fun p : PyData × β × Unit => p.2.1) ∘ fun x => (f x, g x, ())) from rfl, h,
    ← List.map_mergeSort (r := PySem.W.dataLe false f) (s := fun p q : PyData × β × Unit => PySem.W.dataLe false Prod.fst p q) (f := fun x => (f x, g x, ())) (l := l) (fun a _ b _ => rfl), List.map_map]
  rfl
theorem e_sortKf {t : OT} {vsp : VSp} {α : Type} {l : List α} {g : α → D} (kd : α → D) {Q : D → Prop} (hc : ∀ a ∈ l, vsp [g a] (none, emp) (fun z _ => frOk t z ∧ z = kd a) (fun _ _ _ => False)) (hp : ∀ a ∈ l, (kd a).pl = true)
    (hal : ∀ a ∈ l, ∀ b ∈ l, PySem.W.alike (kd a).py (kd b).py = true) (hs : ∀ a ∈ l, ∃ x r, (kd a).py = .tuple (x :: r)) (hd : ∀ a ∈ l, (kd a).py.depth ≤ 64) (h : Q (.lst ((l.mergeSort (PySem.W.dataLe false fun a => (kd a).py)).map g))) :
    ∃ ds ks : List D, [D.lst (l.map g)] = [.lst ds] ∧ ks.length = ds.length ∧ (∀ (i : Nat) (d k : D), ds[i]? = some d → ks[i]? = some k → vsp [d] (none, emp) (fun z _ => frOk t z ∧ z = k) (fun _ _ _ => False)) ∧
    (∀ k ∈ ks, k.pl = true) ∧ PySem.W.AllAlike (ks.map D.py) ∧ PySem.W.Sortable (ks.map D.py) ∧ (∀ k ∈ ks, k.py.depth ≤ 64) ∧ Q (.lst (sortBy (ks.map D.py) ds)) := by
  have mem : ∀ {x : D}, x ∈ l.map kd → ∃ a ∈ l, x = kd a := fun hx => by obtain ⟨a, h1, h2⟩ := List.mem_map.mp hx; exact ⟨a, h1, h2.symm⟩
  refine ⟨l.map g, l.map kd, rfl, by rw [List.length_map, List.length_map], fun i d k h1 h2 => ?_, fun k hk => ?_, fun d h1 d' h2 => ?_, .inl fun d h1 => ?_, fun k hk => ?_, ?_⟩
  · rw [List.getElem?_map] at h1 h2
    obtain ⟨a, e, rfl⟩ := Option.map_eq_some_iff.mp h1
    rw [e] at h2
    cases h2
    exact hc a (List.mem_of_getElem? e)
  · obtain ⟨a, ha, rfl⟩ := mem hk; exact hp a ha
  · obtain ⟨x, hx, rfl⟩ := List.mem_map.mp h1
    obtain ⟨y, hy, rfl⟩ := List.mem_map.mp h2
    obtain ⟨a, ha, rfl⟩ := mem hx
    obtain ⟨b, hb, rfl⟩ := mem hy
    exact hal a ha b hb
  · obtain ⟨x, hx, rfl⟩ := List.mem_map.mp h1
    obtain ⟨a, ha, rfl⟩ := mem hx
    exact hs a ha
  · obtain ⟨a, ha, rfl⟩ := mem hk; exact hd a ha
  · rw [List.map_map]
    rw [show (D.py ∘ kd) = fun a => (kd a).py from rfl, sortBy_maps]
    exact h
end Ps
namespace Ps
open PySem PySem.Spec PyProof.Rows L2
theorem lf_is {P : Program} {w : World} {k : Leaf} {u : Value} (r : RelV (lfV k) u) : (cellKind P w).is k u = true := by
  cases k with
  | none => obtain rfl : u = Value.none := r; rfl
  | num i => obtain ⟨t, rfl⟩ := (show ∃ t, u = Value.int i t from r); show (decide (i = i) && true) = true; simp
  | text x =>
    obtain ⟨t, rfl⟩ := (show ∃ t, u = Value.str x t from r)
    show (Value.isStrOf x (.str x t) && true) = true
    simp [Value.isStrOf]
theorem pairs_any {P P2 : Program} {w : World} {es : List DictEntry} {vs : List (Leaf × Value)} (h : Pairs (cellKind P w) es vs) : Pairs (cellKind P2 w) es vs := by
  induction h with
  | nil => exact .nil
  | cons h1 h2 _ ih => exact .cons h1 h2 ih
theorem dl_any {P P2 : Program} {w : World} {h : Heap} {a : Addr} {vs : List (Leaf × Value)} (x : h.DictOf (cellKind P w) a vs) : h.DictOf (cellKind P2 w) a vs := by
  obtain ⟨o, es, ep, h1, h2, h3, h4, h5, h6⟩ := x
  exact ⟨o, es, ep, h1, h2, h3, h4, pairs_any h5, h6⟩
theorem dl_ok {P : Program} {w : World} {H : Hp} {h : Heap} {a : Addr} {kvs : List (Leaf × V)} {vs : List (Leaf × Value)} (z : kvs.length ≤ sizeLine) (hd : (a == sysModules) = false) (rel : KV kvs vs) (dd : h.DictOf (cellKind P w) a vs) : ObjOk P w H h a (DL w a kvs) := by
  refine ⟨⟨z, hd, P, vs, rel, dd⟩, ?_, fun h1 h2 q st => ?_⟩
  · obtain ⟨o, es, ep, ho, _⟩ := dd
    exact ⟨o, ho⟩
  · obtain ⟨z, hd, P2, vs2, rel2, o, es, ep, ho, r⟩ := q
    exact ⟨z, hd, P2, vs2, rel2, o, es, ep, st o ho, r⟩
section
variable {X : Cx} {pins : List (Addr × Obj)} {σ : L2.St} {H : Hp} {s : Shared} {a : Addr} {kvs : List (Leaf × V)} {k : Leaf} {v : V} {u r : Value} {A : Around} {E : Value → Shared → Prop}
theorem dl_of (I : Inv X pins σ H s) (e : H a = some (DL X.w a kvs)) : kvs.length ≤ sizeLine ∧ (a == sysModules) = false ∧ ∃ vs, KV kvs vs ∧ s.heap.DictOf (cellKind X.prog X.w) a vs := by
  obtain ⟨⟨z, hd, P, vs, rel, dd⟩, _⟩ := (show ObjOk X.prog X.w H s.heap a (DL X.w a kvs) from I.hok a _ e)
  exact ⟨z, hd, vs, rel, dl_any dd⟩
theorem dl_getItem {Q : Value → Shared → Prop} (I : Inv X pins σ H s) (e : H a = some (DL X.w a kvs)) (l : valV kvs k = some v) (ry : RelV (lfV k) u) (h : ∀ w' s', Inv X pins σ H s' → RelV v w' → Q w' s') :
    wpAny (model X.prog X.w) A (getItem (.ref a) u) Q E s := by
  obtain ⟨z, hd, vs, rel, dd⟩ := dl_of I e
  obtain ⟨w', hw, rw'⟩ := RelO.some_of (v := v) (o := valueAt vs k) (by rw [← l]; exact rel.val k)
  exact wpAny_getItem_of (lf_is ry) dd.mapOf hw (h w' _ (I.tok _) rw')
theorem dl_setItem {Q : Unit → Shared → Prop} (I : Inv X pins σ H s) (e : H a = some (DL X.w a kvs)) (hl : kvs.length < sizeLine) (ry : RelV (lfV k) u) (rv : RelV v r) (h : ∀ s', Inv X pins σ (upd H a (DL X.w a (putK kvs k v))) s' → Q () s') :
    wpAny (model X.prog X.w) A (setItem (.ref a) u r) Q E s := by
  obtain ⟨z, hd, vs, rel, dd⟩ := dl_of I e
  have hz : vs.length ≤ sizeLine := by rw [← rel.length]; exact z
  have hl2 : (putK kvs k v).length ≤ sizeLine := by have := length_putK kvs k v; omega
  refine wpAny_setItem_pairs (hsz := hz) (lf_is ry) dd fun h' dd' hs => h _ ?_
  have he : ∃ q, h'.get? a = some q := let ⟨q, _, _, hq, _⟩ := dd'; ⟨q, hq⟩
  exact d_write I (by rw [e]; exact True.intro) hs he (dl_ok hl2 hd (rel.put k rv) dd')
def tDNewC (w : World) : TE := fun _ H Q => ∀ p, H p = none → Q (.ref p) (upd H p (DL w p []))
theorem pe_dnewC {pos : Pos} : PE X (.Dict [] [] pos) (tDNewC X.w) := ⟨fun pins s σ H Q I h => by
  have hd : (s.heap.objs.size == sysModules) = false := beq_false_of_ne (Nat.ne_of_gt I.big)
  exact wpAny_Dict_empty ⟨.ref s.heap.objs.size, _, I.laid (a := s.heap.objs.size) (o := DL X.w s.heap.objs.size []) (t' := s.toks) (fun _ _ q => Heap.get?_push_of_some _ q) (Nat.le_refl _) (dl_ok (P := X.prog) (Nat.zero_le _) hd .nil (Heap.DictOf.new s.heap)), rfl, h _ (I.hok.fresh (Nat.le_refl _))⟩⟩
def rSetC (w : World) : TSet := fun o i v H Q => ∃ a kvs k, o = .ref a ∧ H a = some (DL w a kvs) ∧ i = lfV k ∧ kvs.length < sizeLine ∧ Q (upd H a (DL w a (putK kvs k v)))
theorem set_c : PSet X (rSetC X.w) := by
  intro pins s σ H o i v ov iv u Q I ro ri rv h
  obtain ⟨a, kvs, k, rfl, e, rfl, hl, q⟩ := h
  cases (show ov = Value.ref a from ro)
  exact dl_setItem I e hl ri rv fun s' I' => ⟨_, I', q⟩
def rIxC (w : World) : R2 := fun x y H Q => ∃ a kvs k v, x = .ref a ∧ H a = some (DL w a kvs) ∧ y = lfV k ∧ valV kvs k = some v ∧ Q v H
theorem dl_type (I : Inv X pins σ H s) (e : H a = some (DL X.w a kvs)) : s.TypeIs (.ref a) "dict" := by
  obtain ⟨z, hd, vs, rel, dd⟩ := dl_of I e
  exact dd.typeIs
theorem ix_c : IxR X (rIxC X.w) := by
  intro value slice pins s σ H x y v u Q I rx ry h hs
  obtain ⟨a, kvs, k, z, rfl, e, rfl, l, q⟩ := h
  cases rx
  have hT := dl_type I e
  exact tail_any hT PySem.F.slot_dict_getitem.lookup (dl_getItem I e l ry fun w' s3 I3 rw' => ⟨z, H, I3, rw', q⟩) hs
def rListC (w : World) : List V → Hp → VK → Prop := fun xs H Q => ∃ p kvs, xs = [.ref p] ∧ H p = some (DL w p kvs) ∧ ∀ q, H q = none → Q (.ref q) (upd H q (.lst (kvs.map fun kv => lfV kv.1)))
theorem call_listC (hc : X.calm = true) : CallR X (.type "list") (rListC X.w) := by
  intro pins s σ H xs us Q I r h
  obtain ⟨p, kvs, rfl, hk, q⟩ := h
  obtain ⟨u, rfl, rx⟩ := vals1 r
  obtain rfl : u = Value.ref p := rx
  obtain ⟨z, lo, vs, rk, hd⟩ := dl_of I hk
  obtain ⟨ep, hat⟩ := hd.dictAt
  have hl : kvs.length = vs.length := Paired.length rk
  refine PySem.W.kdl_call (PySem.W.kdl_dict (knd := cellKind X.prog X.w) (kvs := vs) (ep := ep) lo) (I.ok.hd hc) hat (by rw [← hl]; exact z) fun h' tk acc' c' hkeep hS hacc => ?_
  refine ⟨.ref s.heap.objs.size, upd H s.heap.objs.size (.lst (kvs.map fun kv => lfV kv.1)), I.laid hkeep (Nat.le_refl _) (show ObjOk X.prog X.w _ _ _ (.lst (kvs.map fun kv => lfV kv.1)) from ⟨?_, acc'.toList, c', ?_, ?_⟩), rfl, q _ (I.hok.fresh (Nat.le_refl _))⟩
  · rw [List.length_map]; exact z
  · have el : acc'.toList.length = acc'.size := by simp
    refine vals_of_at (by rw [List.length_map, el, hacc.1, hl]) fun j x w h1 h2 => ?_
    obtain ⟨k, y, hky, hi⟩ := hacc.2 j w (by rw [← Array.getElem?_toList]; exact h2)
    have e1 : (kvs.map (·.1))[j]? = some k := by
      rw [KV.keys rk, List.getElem?_map, hky]; rfl
    have e2 : (kvs.map fun kv => lfV kv.1)[j]? = some (lfV k) := by
      have e3 : (kvs.map fun kv => lfV kv.1) = (kvs.map (·.1)).map lfV := by rw [List.map_map]; rfl
      rw [e3, List.getElem?_map, e1]; rfl
    rw [e2] at h1
    cases h1
    have := cellIs_rel (show cellIs k w = true from hi)
    cases k <;> exact this
  · rw [Array.toArray_toList]; exact hS
end
def lfKey : D → Option Leaf
  | .non => some .none
  | .int i => some (.num i)
  | .str s => some (.text s)
  | _ => none
section
variable {κ : Type} [DecidableEq κ] {K : PySem.W.Frag} {G : Hp}
def dputG (kds : List (κ × D)) (k : κ) (d : D) : List (κ × D) := if (kds.any fun kv => decide (kv.1 = k)) = true then kds.map (fun kv => if kv.1 = k then (kv.1, d) else kv) else kds ++ [(k, d)]
def dgetG (kds : List (κ × D)) (k : κ) : Option D := (kds.find? fun kv => decide (kv.1 = k)).map (·.2)
theorem any_fstG {k : κ} : ∀ {kvs : List (κ × V)} {kds : List (κ × D)}, kvs.map Prod.fst = kds.map Prod.fst → (kvs.any fun kv => decide (kv.1 = k)) = (kds.any fun kv => decide (kv.1 = k))
  | [], [], _ => rfl
  | [], _ :: _, e => by simp at e
  | _ :: _, [], e => by simp at e
  | x :: l, y :: r, e => by
    rw [List.map_cons, List.map_cons] at e
    obtain ⟨h1, h2⟩ := List.cons.inj e
    rw [List.any_cons, List.any_cons, h1, any_fstG h2]
theorem repl_fstG {k : κ} {v : V} {d : D} : ∀ {kvs : List (κ × V)} {kds : List (κ × D)}, kvs.map Prod.fst = kds.map Prod.fst → DdAll K G (kvs.map Prod.snd) (kds.map Prod.snd) → Dd K G v d →
    ((kvs.map fun kv => if kv.1 = k then (kv.1, v) else kv).map Prod.fst = (kds.map fun kv => if kv.1 = k then (kv.1, d) else kv).map Prod.fst ∧ DdAll K G ((kvs.map fun kv => if kv.1 = k then (kv.1, v) else kv).map Prod.snd) ((kds.map fun kv => if kv.1 = k then (kv.1, d) else kv).map Prod.snd))
  | [], [], _, _, _ => ⟨rfl, .nil⟩
  | [], _ :: _, e, _, _ => by simp at e
  | _ :: _, [], e, _, _ => by simp at e
  | x :: l, y :: r, e, q, hd => by
    rw [List.map_cons, List.map_cons] at e q
    obtain ⟨h1, h2⟩ := List.cons.inj e
    cases q with
    | cons q1 q2 =>
      obtain ⟨i1, i2⟩ := repl_fstG (k := k) h2 q2 hd
      rw [List.map_cons, List.map_cons, List.map_cons, List.map_cons, List.map_cons, List.map_cons]
      by_cases z : y.1 = k
      · rw [if_pos z, if_pos (h1.trans z)]
        exact ⟨by rw [i1]; exact congrArg (· :: _) h1, .cons hd i2⟩
      · rw [if_neg z, if_neg (fun w => z (h1.symm.trans w))]
        exact ⟨by rw [i1, h1], .cons q1 i2⟩
theorem putG_of {k : κ} {v : V} {d : D} {kvs : List (κ × V)} {kds : List (κ × D)} (e : kvs.map Prod.fst = kds.map Prod.fst) (q : DdAll K G (kvs.map Prod.snd) (kds.map Prod.snd)) (hd : Dd K G v d) :
    (putK kvs k v).map Prod.fst = (dputG kds k d).map Prod.fst ∧ DdAll K G ((putK kvs k v).map Prod.snd) ((dputG kds k d).map Prod.snd) := by
  unfold putK dputG
  rw [any_fstG e]
  by_cases z : (kds.any fun kv => decide (kv.1 = k)) = true
  · rw [if_pos z, if_pos z]; exact repl_fstG e q hd
  · rw [if_neg z, if_neg z, List.map_append, List.map_append, List.map_append, List.map_append, e]
    exact ⟨rfl, q.app (.one hd)⟩
theorem getG_of {k : κ} : ∀ {kvs : List (κ × V)} {kds : List (κ × D)}, kvs.map Prod.fst = kds.map Prod.fst → DdAll K G (kvs.map Prod.snd) (kds.map Prod.snd) → (valV kvs k = none ∧ dgetG kds k = none) ∨ ∃ v d, valV kvs k = some v ∧ dgetG kds k = some d ∧ Dd K G v d
  | [], [], _, _ => .inl ⟨rfl, rfl⟩
  | [], _ :: _, e, _ => by simp at e
  | _ :: _, [], e, _ => by simp at e
  | x :: l, y :: r, e, q => by
    rw [List.map_cons, List.map_cons] at e q
    obtain ⟨h1, h2⟩ := List.cons.inj e
    cases q with
    | cons q1 q2 =>
      by_cases z : y.1 = k
      · refine .inr ⟨x.2, y.2, valV_pos (h1.trans z), ?_, q1⟩
        unfold dgetG
        rw [List.find?_cons, decide_eq_true z]; rfl
      · have e2 : dgetG (y :: r) k = dgetG r k := by unfold dgetG; rw [List.find?_cons, decide_eq_false z]
        rw [e2, valV_neg (fun w => z (h1.symm.trans w))]
        exact getG_of h2 q2
end
theorem lf_of {K : PySem.W.Frag} {G : Hp} {v : V} {d : D} {k : Leaf} (h : Dd K G v d) (e : lfKey d = some k) : v = lfV k := by
  cases d <;> cases e <;> cases h <;> rfl
theorem lf_dd {K : PySem.W.Frag} {G : Hp} (k : Leaf) : Dd K G (lfV k) (lfD k) := by
  cases k <;> constructor
theorem tp_leaf {K : PySem.W.Frag} {G H : Hp} {v : V} {d : D} {k : Leaf} (h : Tp K G H v d) (e : lfKey d = some k) : v = lfV k := by
  cases h with
  | dd h => exact lf_of h e
  | lst _ _ => cases e
  | dic _ _ _ => cases e
section
variable {c : JC} {Γ Γ1 Γn Γb Γc : List OT} {G G' H H' : Hp} {T S S1 S2 R C : List (Addr × HO)} {env : Env} {σ : L2.St} {m : Mst} {v : V} {d : D} {t : OT} {i j : Nat} {a : Addr} {w : World}
theorem Stx.storedC {kds : List (Leaf × D)} (st : Stx c Γ G H T S env σ m) (e : m.2 a = some (.dcl w kds)) : ∃ kvs, H a = some (DL w a kvs) ∧ kvs.map Prod.fst = kds.map Prod.fst ∧ DdAll c.K G (kvs.map Prod.snd) (kds.map Prod.snd) := by
  obtain ⟨C1, ⟨vs, rfl, e1, q⟩, h⟩ := st.stored e
  exact ⟨vs, h _ List.mem_cons_self, e1, q⟩
theorem Stx.setC {ds ds' : List (Leaf × D)} {vs' : List (Leaf × V)} (st : Stx c Γ G H T S env σ m) (e : m.2 a = some (.dcl w ds)) (q0 : vs'.map Prod.fst = ds'.map Prod.fst) (q : DdAll c.K G (vs'.map Prod.snd) (ds'.map Prod.snd)) : Stx c Γ G (upd H a (DL w a vs')) T S env σ (m.1, sput m.2 a (.dcl w ds')) := by
  obtain ⟨s, C, w0, am, z⟩ := st
  obtain ⟨A, C1, B, rfl, ⟨vs, rfl, _⟩, f⟩ := am.at e
  have w2 : Wd ((T ++ (S ++ A)) ++ ((a, DL w a vs) :: (B ++ c.R))) G H := by simpa [List.append_assoc] using w0
  exact ⟨s, A ++ ([(a, DL w a vs')] ++ B), by simpa [List.append_assoc] using w2.putM (o' := DL w a vs'), f _ _ ⟨vs', rfl, q0, q⟩, z⟩
def vDNewC (w : World) : VE := fun _ m P => ∀ y, m.2 y = none → P (.adr y) (m.1, sput m.2 y (.dcl w []))
theorem s_dnewC : SF c Γ (tDNewC w) (vDNewC w) := fun T G H S env σ m P Q st hv k => fun p hp => by
  obtain ⟨hn, st2⟩ := Stx.storeN (C1 := [(p, DL w p [])]) (d := .dcl w []) (st.new (o := DL w p []) hp) ⟨[], rfl, rfl, .nil⟩
  exact k _ _ _ G _ (hv p hn) (Same.refl _) st2 (.adr p)
def vPutC (w : World) (vo ve vk : VE) : VS := fun V env m => ve env m fun d m1 => vo env m1 fun x m2 => ∃ a, x = .adr a ∧ vk env m2 fun y m3 => ∃ kds k, m3.2 a = some (.dcl w kds) ∧ lfKey y = some k ∧ kds.length < 16777216 ∧ V.nx env (m3.1, sput m3.2 a (.dcl w (dputG kds k d)))
theorem x_putC {to te tk : TE} {vo ve vk : VE} (ho : SF c Γ to vo) (h : SF c Γ te ve) (hk : SF c Γ tk vk) : SS c t Γ Γ Γb Γc (tAsg te (gSub to tk (rSetC w))) (vPutC w vo ve vk) := fun G H S env σ m De Ve e st hv =>
  h [] G H S env σ m _ _ st hv fun d m1 u G1 H1 p1 s1 st1 q1 => ho [] G1 H1 S env σ m1 _ _ st1 p1 fun x m2 v G2 H2 p2 s2 st2 q2 => by
    obtain ⟨a, rfl, p⟩ := p2
    obtain rfl := dd_adr q2
    refine hk [] G2 H2 S env σ m2 _ _ st2 p fun y m3 w' G3 H3 p3 s3 st3 q3 => ?_
    obtain ⟨kds, k, ea, ek, hz, p3⟩ := p3
    obtain ⟨kvs, h1, e1, q⟩ := st3.storedC ea
    obtain rfl := lf_of q3 ek
    have el : kvs.length = kds.length := by simpa using congrArg List.length e1
    obtain ⟨f1, f2⟩ := putG_of (k := k) e1 q (q1.mono (s2.trans s3))
    exact ⟨a, kvs, k, rfl, h1, rfl, by rw [el, sizeLine_eq]; exact hz, e.nx G3 _ S env σ _ (s1.trans (s2.trans s3)) (st3.setC ea f1 f2) p3⟩
def vIxC (w : World) (va vb : VE) : VE := fun env m P => va env m fun x m1 => ∃ a, x = .adr a ∧ vb env m1 fun y m2 => ∃ kds k d, m2.2 a = some (.dcl w kds) ∧ lfKey y = some k ∧ dgetG kds k = some d ∧ P d m2
theorem s_ixC {ta tb : TE} {va vb : VE} (ha : SF c Γ ta va) (hb : SB c Γ tb vb) : SF c Γ (tOp (rIxC w) ta tb) (vIxC w va vb) := fun T G H S env σ m P Q st hv kk =>
  ha T G H S env σ m _ _ st hv fun x m1 v G1 H1 p1 s1 st1 q1 => by
    obtain ⟨a, rfl, p⟩ := p1
    obtain rfl := dd_adr q1
    refine hb T G1 H1 S env σ m1 _ _ st1 p fun y m2 u G2 H2 S2 p2 s2 st2 b2 => ?_
    obtain ⟨kds, k, d, ea, ek, eg, p2⟩ := p2
    obtain ⟨kvs, h1, e1, q⟩ := st2.storedC ea
    have t2 := bo_tp (T := S2 ++ T) st2 (bo_sub (Same.refl _) (B := S2 ++ T ++ S) (fun x hx => by rcases List.mem_append.mp hx with q | q <;> simp [q]) b2)
    obtain rfl := tp_leaf t2 ek
    rcases getG_of (k := k) e1 q with ⟨_, f⟩ | ⟨v, d', f1, f2, f3⟩
    · rw [f] at eg; cases eg
    · rw [f2] at eg; cases eg
      exact ⟨a, kvs, k, v, rfl, h1, rfl, f1, kk d m2 v G2 H2 p2 (s1.trans s2) st2.dropT f3⟩
def vInC (w : World) (neg : Bool) (vb va : VE) : VE := fun env m P => vb env m fun y m1 => va env m1 fun x m2 => ∃ a kds k, x = .adr a ∧ m2.2 a = some (.dcl w kds) ∧ lfKey y = some k ∧ P (.bl (if neg then !(dgetG kds k).isSome else (dgetG kds k).isSome)) m2
theorem keys_dd {K : PySem.W.Frag} : ∀ {kvs : List (Leaf × V)} {kds : List (Leaf × D)}, kvs.map Prod.fst = kds.map Prod.fst → DdAll K G (kvs.map fun kv => lfV kv.1) (kds.map fun kv => lfD kv.1)
  | [], [], _ => .nil
  | [], _ :: _, e => by simp at e
  | _ :: _, [], e => by simp at e
  | x :: l, y :: r, e => by
    rw [List.map_cons, List.map_cons] at e
    obtain ⟨h1, h2⟩ := List.cons.inj e
    rw [List.map_cons, List.map_cons, h1]
    exact .cons (lf_dd _) (keys_dd h2)
def vListC (w : World) (ve : VE) : VE := fun env m P => ve env m fun x m1 => ∃ a kds, x = .adr a ∧ m1.2 a = some (.dcl w kds) ∧ P (.lst (kds.map fun kv => lfD kv.1)) m1
theorem s_listC {te : TE} {ve : VE} (he : SF c Γ te ve) : SO c Γ (tCB (rListC w) (tCons te tNil)) (vListC w ve) := fun T G H S env σ m P Q st hv k =>
  he T G H S env σ m _ _ st hv fun x m1 v G1 H1 p1 s1 st1 q1 => by
    obtain ⟨a, kds, rfl, ea, p⟩ := p1
    obtain rfl := dd_adr q1
    obtain ⟨kvs, h1, e1, q⟩ := st1.storedC ea
    refine ⟨a, kvs, rfl, h1, fun q hq => ?_⟩
    obtain ⟨G3, S3, s3, st3, q3⟩ := Nw.own st1 (.lst hq (keys_dd e1))
    exact k _ m1 _ G3 _ S3 p (s1.trans s3) st3 q3
theorem e_dnewC {P : D → Mst → Prop} (h : ∀ y, m.2 y = none → P (.adr y) (m.1, sput m.2 y (.dcl w []))) : vDNewC w env m P := h
theorem e_putC {vo ve vk : VE} {V : VEnds} (h : ve env m fun d m1 => vo env m1 fun x m2 => ∃ a, x = .adr a ∧ vk env m2 fun y m3 => ∃ kds k, m3.2 a = some (.dcl w kds) ∧ lfKey y = some k ∧ kds.length < 16777216 ∧ V.nx env (m3.1, sput m3.2 a (.dcl w (dputG kds k d)))) : vPutC w vo ve vk V env m := h
theorem e_seqPutC {vo ve vk : VE} {b : VS} {V : VEnds} (h : (vPutC w vo ve vk) { V with nx := b V } env m) : vSeqS (vPutC w vo ve vk) b V env m := h
theorem e_ixC {va vb : VE} {P : D → Mst → Prop} (h : va env m fun x m1 => ∃ a, x = .adr a ∧ vb env m1 fun y m2 => ∃ kds k d, m2.2 a = some (.dcl w kds) ∧ lfKey y = some k ∧ dgetG kds k = some d ∧ P d m2) : vIxC w va vb env m P := h
theorem e_inC {neg : Bool} {va vb : VE} {P : D → Mst → Prop} (h : vb env m fun y m1 => va env m1 fun x m2 => ∃ a kds k, x = .adr a ∧ m2.2 a = some (.dcl w kds) ∧ lfKey y = some k ∧ P (.bl (if neg then !(dgetG kds k).isSome else (dgetG kds k).isSome)) m2) : vInC w neg vb va env m P := h
theorem e_listC {ve : VE} {P : D → Mst → Prop} (h : ve env m fun x m1 => ∃ a kds, x = .adr a ∧ m1.2 a = some (.dcl w kds) ∧ P (.lst (kds.map fun kv => lfD kv.1)) m1) : vListC w ve env m P := h
def SubS (s' s : Sto) : Prop := ∀ a d, s' a = some d → s a = some d
theorem Wd.sub {A B : List (Addr × HO)} (w : Wd B G H) (s : A.Sublist B) : Wd A G H := ⟨w.1, fun y hy => w.2.1 y (s.subset hy), (s.map _).nodup w.2.2⟩
theorem Cells.sub {K : PySem.W.Frag} {L : List (Addr × D)} {C : List (Addr × HO)} (h : Cells K G L C) (p : Addr → Bool) : ∃ C', C'.Sublist C ∧ Cells K G (L.filter fun x => p x.1) C' := by
  induction h with
  | nil => exact ⟨[], List.Sublist.refl _, .nil⟩
  | @cons a d L C1 C2 q _ ih =>
    obtain ⟨C', s, cs⟩ := ih
    rw [List.filter_cons]
    by_cases z : p a = true
    · rw [if_pos z]
      exact ⟨C1 ++ C', (List.Sublist.refl _).append s, .cons q cs⟩
    · rw [if_neg z]
      exact ⟨C', s.trans (List.sublist_append_right _ _), cs⟩
theorem lookup_filter {L : List (Addr × D)} {p : Addr → Bool} {b : Addr} : (L.filter fun x => p x.1).lookup b = if p b = true then L.lookup b else none := by
  induction L with
  | nil => simp
  | cons x L ih =>
    rw [List.filter_cons]
    by_cases z : p x.1 = true
    · rw [if_pos z, List.lookup_cons, List.lookup_cons]
      by_cases e : b = x.1
      · subst e; rw [beq_self_eq_true, if_pos z]
      · rw [beq_eq_false_iff_ne.mpr e]; exact ih
    · rw [if_neg z, ih, List.lookup_cons]
      by_cases e : b = x.1
      · subst e; rw [if_neg z, if_neg z]
      · rw [beq_eq_false_iff_ne.mpr e]
theorem Amb.forget {K : PySem.W.Frag} (h : Amb K G m C) {s' : Sto} (hs : SubS s' m.2) : ∃ C', C'.Sublist C ∧ Amb K G (m.1, s') C' := by
  obtain ⟨C1, C2, rfl, am, L, l, cs⟩ := h
  obtain ⟨C', s, cs2⟩ := cs.sub fun b => (s' b).isSome
  refine ⟨C1 ++ C', (List.Sublist.refl _).append s, C1, C', rfl, am, _, fun b => ?_, cs2⟩
  rw [lookup_filter (p := fun b => (s' b).isSome)]
  show s' b = _
  cases e : s' b with
  | none => rfl
  | some d => rw [show (some d).isSome = true from rfl, if_pos rfl, ← l b, hs b d e]
abbrev vendsG (P : D → Mst → Prop) : VEnds := { nx := fun _ m => ∃ s', SubS s' m.2 ∧ P .non (m.1, s'), rt := fun d m => ∃ s', SubS s' m.2 ∧ P d (m.1, s') }
theorem spV_forget {K : PySem.W.Frag} {vsp vsp' : VSp} (h : ∀ ds m P X, vsp ds m P X → vsp' ds m (fun d m1 => ∃ s', SubS s' m1.2 ∧ P d (m1.1, s')) X) {us : List V} {Q : VK} {E : XK} (q : spV K t vsp us H Q E) : spV K t vsp' us H Q E := by
  obtain ⟨ds, G, R, C, m, P, X, w, a, q, hs, k, kx⟩ := q
  refine ⟨ds, G, R, C, m, _, X, w, a, q, h _ _ _ _ hs, fun d m' v H' G' S1 C' p s w' a' o => ?_, kx⟩
  obtain ⟨s', hs', p⟩ := p
  obtain ⟨C2, hc, a2⟩ := a'.forget hs'
  exact k d _ v H' G' S1 C2 p s (w'.sub ((List.Sublist.refl _).append (hc.append (List.Sublist.refl _)))) a2 o
def forg (vsp : VSp) : VSp := fun ds m P' X => ∃ P : D → Mst → Prop, P' = (fun d m1 => ∃ s', SubS s' m1.2 ∧ P d (m1.1, s')) ∧ vsp ds m P X
theorem to_forg {K : PySem.W.Frag} {vsp : VSp} {us : List V} {Q : VK} {E : XK} (q : spV K t vsp us H Q E) : spV K t (forg vsp) us H Q E := spV_forget (fun _ _ _ _ h => ⟨_, rfl, h⟩) q
theorem SubS.refl (s : Sto) : SubS s s := fun _ _ h => h
theorem SubS.new {s : Sto} {y : Addr} {d : D} (h : s y = none) : SubS s (sput s y d) := fun a e h2 => by
  have : a ≠ y := fun z => by subst z; rw [h] at h2; cases h2
  rw [sput_ne this]; exact h2
theorem SubS.put {s s' : Sto} {y : Addr} {d : D} (h : SubS s s') (hy : s y = none) : SubS s (sput s' y d) := fun a e h2 => by
  have : a ≠ y := fun z => by subst z; rw [hy] at h2; cases h2
  rw [sput_ne this]; exact h a e h2
end
end Ps
namespace PyProof.Rows
open PySem
section
variable {prog : Program} {w : World} {A : Around} {E : Value → Shared → Prop} {s : Shared} {h₀ : Heap} {l I S : Addr} {kid : String} {vs : List Value} {R : Result → Shared → Prop} {Q : Value → Shared → Prop}
abbrev KpA (h₀ h : Heap) : Prop := ∀ b o, h₀.get? b = some o → h.get? b = some o
theorem kpA_same {h₀ h h' : Heap} {S : Addr} (K : KpA h₀ h) (s1 : Heap.SameBut S h h') (z : h₀.get? S = none) : KpA h₀ h' := fun b o e => by
  have : b ≠ S := fun q => by rw [q, z] at e; cases e
  exact (s1.2 b this).trans (K b o e)
theorem kpA_but {h₀ h h' : Heap} {I : Addr} (K : KpA h₀ h) (hk : ∀ b o, b ∉ [I] → h.get? b = some o → h'.get? b = some o) (z : h₀.get? I = none) : KpA h₀ h' := fun b o e => hk b o (fun q => by rw [List.mem_singleton.mp q, z] at e; cases e) (K b o e)
theorem mlen_loop (kf : Nat → Int) (hh : A.handled = none) (hl : h₀.IsList l vs.toArray) (hlI : l ≠ I) (hSI : S ≠ I) (zI : h₀.get? I = none) (zS : h₀.get? S = none)
    (turn : ∀ (i : Nat) (v : Value), vs[i]? = some v → ∀ (h : Heap) (tk : Nat), KpA h₀ h → wpAny (model prog w) A.in1 (call (.builtin kid) [v]) (fun u s'' => ∃ tk2 t2, u = .int (kf i) t2 ∧ s'' = { s with heap := h, toks := tk2 }) (fun _ _ => False) { s with heap := h, toks := tk })
    (hR : ∀ i v h' tk', vs[i]? = some v → (∀ j, j < vs.length → kf i ≤ kf j ∧ (j < i → kf i < kf j)) → KpA h₀ h' → R (.ok (.ret v)) { s with heap := h', toks := tk' }) :
    ∀ (r j i : Nat) (h : Heap) (tk : Nat) (vb : Value) (tb : Tok) (c : Nat), vs.length - (j + 1) = r → j + 1 ≤ vs.length → KpA h₀ h → h.get? S = some (seqObj "list" #[vb, .int (kf i) tb] c) →
      h.IsListIter I l (j + 1) → vs[i]? = some vb → i ≤ j → (∀ j', j' ≤ j → kf i ≤ kf j' ∧ (j' < i → kf i < kf j')) →
      codeAny (model prog w) A (.builtin "min.loop" ⟨[.ref I, .builtin kid, .ref S], []⟩) R { s with heap := h, toks := tk } := by
  have hname : (toString "min" ++ toString ".loop" : String) = "min.loop" := by decide
  have W := Walks.list (prog := prog) (w := w) (A := A.in1) hh I l hlI vs.toArray
  have hsz : vs.toArray.size = vs.length := List.size_toArray ..
  have lst : ∀ {h : Heap}, KpA h₀ h → h.IsList l vs.toArray := fun K => let ⟨o, ho, x⟩ := hl; ⟨o, K _ _ ho, x⟩
  intro r
  induction r with
  | zero =>
    intro j i h tk vb tb c hr hj F gS hit hvb hij hbest
    have hin : j + 1 = vs.length := by omega
    refine codeAny_builtin PySem.F.entry_min_loop ?_
    rw [Around.under_plainId PySem.F.plain_min_loop _]
    show wpAny _ A.in1 (seqItems? (.ref S) >>= _) _ _ _
    refine wpAny_bind (wpAny_seqItems gS rfl ?_)
    show wpAny _ A.in1 (tryCatch (pyNext (.ref I)) _ >>= _) _ _ _
    refine wpAny_bind (wpAny_tryCatch (W.done _ _ _ ⟨by rw [hsz, ← hin]; exact hit, lst F⟩ fun h' tk' hk' => ?_))
    have F1 := kpA_but F hk' zI
    have hS' := hk' S _ (by simpa using hSI) gS
    have s1 := Heap.SameBut.update h' S (Obj.mapSeq fun _ => (#[] : Array Value))
    show wpAny _ A.in1 (updateSeq S (fun _ => #[]) >>= _) _ _ _
    refine wpAny_bind ?_
    refine wpAny_updateSeq hS' rfl (wpAny_bind (wpAny_letGo (wpAny_pure ?_)))
    exact hR i vb _ _ hvb (fun j' hj' => hbest j' (by omega)) (kpA_same F1 s1 zS)
  | succ r ih =>
    intro j i h tk vb tb c hr hj F gS hit hvb hij hbest
    have hlt : j + 1 < vs.length := by omega
    refine codeAny_builtin PySem.F.entry_min_loop ?_
    rw [Around.under_plainId PySem.F.plain_min_loop _]
    show wpAny _ A.in1 (seqItems? (.ref S) >>= _) _ _ _
    refine wpAny_bind (wpAny_seqItems gS rfl ?_)
    show wpAny _ A.in1 (tryCatch (pyNext (.ref I)) _ >>= _) _ _ _
    refine wpAny_bind (wpAny_tryCatch (W.item (j + 1) _ _ _ (by rw [hsz]; exact hlt) ⟨hit, lst F⟩ fun v h' tk' hP hst' hk' => ?_))
    have hv : vs[j + 1]? = some v := by simpa using hP
    obtain ⟨oI', hoI', hoc, hod⟩ := id hst'.1
    have F1 := kpA_but F hk' zI
    have gS1 := hk' S _ (by simpa using hSI) gS
    show wpAny _ A.in1 (tryCatch (holding [v] (call (.builtin kid) [v])) _ >>= _) _ _ _
    refine wpAny_bind (wpAny_tryCatch (wpAny_holding (wpAny_mono (turn (j + 1) v hv h' tk' F1) (fun x s'' he => ?_) fun _ _ hF => hF.elim)))
    obtain ⟨tk2, t2, rfl, rfl⟩ := he
    have hit2 : h'.IsListIter I l (j + 1 + 1) := ⟨oI', hoI', hoc, hod⟩
    show wpAny _ A.in1 (tryCatch (holding [v, .int (kf (j + 1)) t2] (richCompare .Lt (.int (kf (j + 1)) t2) (.int (kf i) tb) >>= _)) _ >>= _) _ _ _
    refine wpAny_bind (wpAny_tryCatch (wpAny_holding (wpAny_bind (CmpOf.ints_lt (prog := prog) (w := w) (A := A.in1) (P := fun i v => ∃ t, v = .int (kf i) t) kf (fun i v h => h) (j + 1) i _ _ _ _ _ ⟨t2, rfl⟩ ⟨tb, rfl⟩ ?_))))
    refine wpAny_bind (wpAny_holding (wpAny_truthy_bool ?_))
    refine wpAny_bind (wpAny_letGo (wpAny_pure ?_))
    by_cases hb' : kf (j + 1) < kf i
    · have s1 := Heap.SameBut.update h' S (Obj.mapSeq fun _ => #[v, .int (kf (j + 1)) t2])
      obtain ⟨c2, hc2⟩ : ∃ c2, (h'.update S (Obj.mapSeq fun _ => #[v, .int (kf (j + 1)) t2])).get? S = some (seqObj "list" #[v, .int (kf (j + 1)) t2] c2) := ⟨_, get?_update_seq gS1 fun _ => #[v, .int (kf (j + 1)) t2]⟩
      simp only [hb', decide_true, if_true]
      refine wpAny_bind ?_
      refine wpAny_updateSeq gS1 rfl (wpAny_bind (wpAny_letGo ?_))
      rw [hname]
      refine wpAny_pure ⟨plainId_quiet PySem.F.plain_min_loop _, ih (j + 1) (j + 1) _ _ v t2 c2 (by omega) hlt (kpA_same F1 s1 zS) hc2 ⟨oI', (s1.2 I hSI.symm).trans hoI', hoc, hod⟩ hv (Nat.le_refl _) fun j' hj' => ?_⟩
      by_cases e : j' = j + 1
      · subst e
        exact ⟨by omega, fun _ => by omega⟩
      · have hb1 := hbest j' (by omega)
        have hb2 := hb1.1
        exact ⟨by omega, fun _ => by omega⟩
    · simp only [hb', decide_false, Bool.false_eq_true, if_false]
      refine wpAny_bind (wpAny_letGo ?_)
      rw [hname]
      refine wpAny_pure ⟨plainId_quiet PySem.F.plain_min_loop _, ih (j + 1) i _ _ vb tb c (by omega) hlt F1 gS1 hit2 hvb (by omega) fun j' hj' => ?_⟩
      by_cases e : j' = j + 1
      · subst e
        exact ⟨by omega, fun _ => by omega⟩
      · exact hbest j' (by omega)
theorem mlen_min (kf : Nat → Int) (hh : A.handled = none) (hls : s.heap.IsList l vs.toArray) (hne : 0 < vs.length)
    (turn : ∀ (i : Nat) (v : Value), vs[i]? = some v → ∀ (h : Heap) (tk : Nat), KpA s.heap h → wpAny (model prog w) A.in1 (call (.builtin kid) [v]) (fun u s'' => ∃ tk2 t2, u = .int (kf i) t2 ∧ s'' = { s with heap := h, toks := tk2 }) (fun _ _ => False) { s with heap := h, toks := tk })
    (hQ : ∀ i v h' tk', vs[i]? = some v → (∀ j, j < vs.length → kf i ≤ kf j ∧ (j < i → kf i < kf j)) → KpA s.heap h' → Q v { s with heap := h', toks := tk' }) :
    wpAny (model prog w) A (call (.builtin "min") [.ref l] [(Str.ofString "key", .builtin kid)]) Q E s := by
  have hname : (toString "min" ++ toString ".loop" : String) = "min.loop" := by decide
  obtain ⟨ol, hol, _⟩ := id hls
  have hll : l < s.heap.objs.size := Heap.lt_size hol
  refine kmb_tree PySem.F.kind_min PySem.F.plain_min PySem.F.entry_min (kmb_min_key _ _) ?_
  show wpAny _ A.in1 (Builtin.Builtins.bindParams "min" ["key", "default"] 0 ⟨[], [(Str.ofString "key", .builtin kid)]⟩ >>= _) _ _ s
  refine wpAny_bind (wpAny_of_eq (show Builtin.Builtins.bindParams "min" ["key", "default"] 0 ⟨[], [(Str.ofString "key", .builtin kid)]⟩ = pure [some (.builtin kid), none] from rfl) ?_)
  refine wpAny_bind (wpAny_pure ?_)
  refine wpAny_bind (wpAny_pyIter_list hls ?_)
  refine wpAny_bind (wpAny_newList ?_ (Nat.zero_le _))
  rw [hname]
  have hS : (s.heap.push { cls := .type "list_iterator", data := .fields #[.ref l, .int 0 0] }).objs.size = s.heap.objs.size + 1 := size_push' ..
  have hlI : l ≠ s.heap.objs.size := Nat.ne_of_lt hll
  have hSI : (s.heap.push { cls := .type "list_iterator", data := .fields #[.ref l, .int 0 0] }).objs.size ≠ s.heap.objs.size := by rw [hS]; exact Nat.ne_of_gt (Nat.lt_succ_self _)
  refine wpAny_pure ⟨plainId_quiet PySem.F.plain_min_loop _, ?_⟩
  have zI : s.heap.get? s.heap.objs.size = none := Heap.get?_none_of_le (Nat.le_refl _)
  have zS : s.heap.get? (s.heap.push { cls := .type "list_iterator", data := .fields #[.ref l, .int 0 0] }).objs.size = none := Heap.get?_none_of_le (by rw [hS]; exact Nat.le_succ _)
  have FH : KpA s.heap ((s.heap.push { cls := .type "list_iterator", data := .fields #[.ref l, .int 0 0] }).push (seqObj "list" #[] 0)) := fun b o e => Heap.get?_push_of_some _ (Heap.get?_push_of_some _ e)
  have gI : ((s.heap.push { cls := .type "list_iterator", data := .fields #[.ref l, .int 0 0] }).push (seqObj "list" #[] 0)).get? s.heap.objs.size = some { cls := .type "list_iterator", data := .fields #[.ref l, .int 0 0] } :=
    Heap.get?_push_of_some _ (Heap.get?_push_size _ rfl)
  have gS : ((s.heap.push { cls := .type "list_iterator", data := .fields #[.ref l, .int 0 0] }).push (seqObj "list" #[] 0)).get? (s.heap.push { cls := .type "list_iterator", data := .fields #[.ref l, .int 0 0] }).objs.size = some (seqObj "list" #[] 0) := Heap.get?_push_size _ rfl
  have W := Walks.list (prog := prog) (w := w) (A := A.in1) hh s.heap.objs.size l hlI vs.toArray
  have hsz : vs.toArray.size = vs.length := List.size_toArray ..
  refine codeAny_builtin PySem.F.entry_min_loop ?_
  rw [Around.under_plainId PySem.F.plain_min_loop _]
  show wpAny _ A.in1 (seqItems? (.ref _) >>= _) _ _ _
  refine wpAny_bind (wpAny_seqItems gS rfl ?_)
  show wpAny _ A.in1 (tryCatch (pyNext (.ref s.heap.objs.size)) _ >>= _) _ _ _
  refine wpAny_bind (wpAny_tryCatch (W.item 0 _ _ _ (by rw [hsz]; exact hne) ⟨⟨_, gI, rfl, rfl⟩, let ⟨o, ho, x⟩ := hls; ⟨o, FH _ _ ho, x⟩⟩ fun v h' tk' hP hst' hk' => ?_))
  have hv : vs[0]? = some v := by simpa using hP
  obtain ⟨oI', hoI', hoc, hod⟩ := id hst'.1
  have F1 := kpA_but FH hk' zI
  have gS1 := hk' _ _ (by simpa using hSI) gS
  show wpAny _ A.in1 (tryCatch (holding [v] (call (.builtin kid) [v])) _ >>= _) _ _ _
  refine wpAny_bind (wpAny_tryCatch (wpAny_holding (wpAny_mono (turn 0 v hv h' tk' F1) (fun x s'' he => ?_) fun _ _ hF => hF.elim)))
  obtain ⟨tk2, t2, rfl, rfl⟩ := he
  have s1 := Heap.SameBut.update h' (s.heap.push { cls := .type "list_iterator", data := .fields #[.ref l, .int 0 0] }).objs.size (Obj.mapSeq fun _ => #[v, .int (kf 0) t2])
  obtain ⟨c2, hc2⟩ : ∃ c2, (h'.update (s.heap.push { cls := .type "list_iterator", data := .fields #[.ref l, .int 0 0] }).objs.size (Obj.mapSeq fun _ => #[v, .int (kf 0) t2])).get? (s.heap.push { cls := .type "list_iterator", data := .fields #[.ref l, .int 0 0] }).objs.size = some (seqObj "list" #[v, .int (kf 0) t2] c2) := ⟨_, get?_update_seq gS1 fun _ => #[v, .int (kf 0) t2]⟩
  show wpAny _ A.in1 (updateSeq (s.heap.push { cls := .type "list_iterator", data := .fields #[.ref l, .int 0 0] }).objs.size (fun _ => #[v, .int (kf 0) t2]) >>= _) _ _ _
  refine wpAny_bind ?_
  refine wpAny_updateSeq gS1 rfl ?_
  rw [hname]
  refine wpAny_pure ⟨plainId_quiet PySem.F.plain_min_loop _, mlen_loop kf hh hls hlI hSI zI zS turn hQ _ 0 0 _ _ v t2 c2 rfl hne (kpA_same F1 s1 zS) hc2 ⟨oI', (s1.2 _ hSI.symm).trans hoI', hoc, hod⟩ hv (Nat.le_refl _) fun j' hj' => ?_⟩
  have e : j' = 0 := by omega
  subst e
  exact ⟨by omega, fun h => absurd h (Nat.lt_irrefl _)⟩
end
end PyProof.Rows
namespace Ps
open PySem PySem.Spec PyProof.Rows L2
def rMinLen (K : PySem.W.Frag) : List V → Hp → VK → Prop := fun vs H Q => ∃ (a : Addr) (xs : List V) (ls : List (List V)), vs = [.ref a] ∧ SqL K H a xs ∧ xs.length = ls.length ∧ 0 < ls.length ∧
  (∀ (i : Nat) (x : V) (l : List V), xs[i]? = some x → ls[i]? = some l → ∃ p, x = .ref p ∧ SqL K H p l) ∧ ∀ (i : Nat) (x : V) (l : List V), xs[i]? = some x → ls[i]? = some l → (∀ (j : Nat) (l' : List V), ls[j]? = some l' → l.length ≤ l'.length ∧ (j < i → l.length < l'.length)) → Q x H
def tMinLen (K : PySem.W.Frag) (ta : TA) : TE := fun σ H Q => ta σ H fun vs H1 => rMinLen K vs H1 Q
section
variable {X : Cx} {e : Expr} {p p2 pos kpos : Pos} {t : TA}
theorem pe_minLen (hc : X.calm = true) (hg : Gl X "min") (hm : X.mg "min" = none) (hg2 : Gl X "len") (hm2 : X.mg "len" = none) (ha : PA X [e] t)
    (he : backTo pos (starEach [e] X.env) = (false, eval e X.env) :: backTo pos (starEach [] X.env) := by rfl) (hpl : (backTo pos (starEach [e] X.env)).any (·.1) = false := by rfl) :
    PE X (.Call (.Name "min" p) [e] [⟨some "key", .Name "len" p2, kpos⟩] pos) (tMinLen X.K t) := by
  refine ⟨fun pins s σ H Q I h => ?_⟩
  refine wpAny_Call_Name_kw (ld_blt I hg hm PyProof.Rows.boot_min ?_)
  refine PyProof.Rows.callWith_kw (thn (ha.run pos pins s σ H _ I h) fun us s1 ⟨vs, H1, I1, r1, q1⟩ => ?_) he hpl rfl rfl
  show wpAny _ _ (evalAll ((do let v ← eval (.Name "len" p2) X.env; standAt pos; pure v) :: [])) _ _ s1
  refine wpAny_evalAll_cons (wpAny_bind (ld_blt I1 hg2 hm2 PySem.boot_len (wpAny_bind (wpAny_standAt (wpAny_pure ?_)))))
  refine wpAny_evalAll_nil ?_
  show wpAny _ _ (call (.builtin "min") us [(Str.ofString "key", .builtin "len")]) _ _ s1
  obtain ⟨a, xs, ls, rfl, hs, hl, hne, hrd, hq⟩ := q1
  obtain rfl := Vals.ref1 r1
  obtain ⟨its, rv, hpl2, hz⟩ := I1.list hs
  have lens : ∀ (i : Nat) (v : Value), its[i]? = some v → ∃ l p us, ls[i]? = some l ∧ v = .ref p ∧ PlainL s1.heap p us ∧ us.size = l.length ∧ l.length ≤ sizeLine := fun i v hv => by
    have hi : i < xs.length := by rw [rv.length]; exact (List.getElem?_eq_some_iff.mp hv).1
    obtain ⟨u, h1, h2⟩ := rv.get (List.getElem?_eq_getElem hi)
    rw [hv] at h1; cases h1
    obtain ⟨p, e1, e2⟩ := hrd i _ _ (List.getElem?_eq_getElem hi) (List.getElem?_eq_getElem (by omega))
    rw [e1] at h2
    cases h2
    obtain ⟨us, ru, pl, hz2⟩ := I1.list e2
    exact ⟨_, p, us.toArray, List.getElem?_eq_getElem (by omega), rfl, pl, by rw [List.size_toArray, ru.length], hz2⟩
  refine PyProof.Rows.mlen_min (fun i => ((ls[i]?).map fun l => (l.length : Int)).getD 0) (I1.ok.hd hc) hpl2.isList (by rw [← rv.length]; omega) (fun i v hv h' tk hk => ?_) fun i v h' tk hv hbest hk => ?_
  · obtain ⟨l, p, us, e1, rfl, pl, hu, hz2⟩ := lens i v hv
    have pl2 : ({ s1 with heap := h', toks := tk } : Shared).heap.IsList p us := let ⟨o, ho, x⟩ := pl.isList; ⟨o, hk _ _ ho, x⟩
    refine PySem.Calls.call_len_list pl2 (by rw [sizeLine_eq] at hz2; omega) ⟨tk + 1 + 1, tk + 1, ?_, rfl⟩
    rw [e1, hu]; rfl
  · obtain ⟨l, p, us, e1, rfl, pl, hu, hz2⟩ := lens i _ hv
    have hi : i < xs.length := by rw [rv.length]; exact (List.getElem?_eq_some_iff.mp hv).1
    obtain ⟨u, h1, h2⟩ := rv.get (List.getElem?_eq_getElem hi)
    rw [hv] at h1; cases h1
    refine ⟨xs[i], H1, I1.kept (t' := tk) hk, h2, hq i _ l (List.getElem?_eq_getElem hi) e1 fun j l' ej => ?_⟩
    have hj : j < its.length := by have := (List.getElem?_eq_some_iff.mp ej).1; have := rv.length; omega
    obtain ⟨b1, b2⟩ := hbest j hj
    rw [e1, ej] at b1 b2
    have b1 : (l.length : Int) ≤ (l'.length : Int) := b1
    exact ⟨by omega, fun hji => by have b3 : (l.length : Int) < (l'.length : Int) := b2 hji; omega⟩
end
def vMinLen (va : VE) : VE := fun env m P => va env m fun x m1 => ∃ ls : List (List D), x = .lst (ls.map D.lst) ∧ 0 < ls.length ∧ ∀ (i : Nat) (l : List D), ls[i]? = some l → (∀ (j : Nat) (l' : List D), ls[j]? = some l' → l.length ≤ l'.length ∧ (j < i → l.length < l'.length)) → P (.lst l) m1
section
variable {c : JC} {Γ : List OT} {env : Env} {m : Mst}
theorem e_minLen {ve : VE} {P : D → Mst → Prop} (h : ve env m fun x m1 => ∃ ls : List (List D), x = .lst (ls.map D.lst) ∧ 0 < ls.length ∧ ∀ (i : Nat) (l : List D), ls[i]? = some l → (∀ (j : Nat) (l' : List D), ls[j]? = some l' → l.length ≤ l'.length ∧ (j < i → l.length < l'.length)) → P (.lst l) m1) : vMinLen ve env m P := h
end
end Ps
namespace Ps
open PySem PySem.Spec PyProof.Rows L2
local macro_rules | `(tactic| walk_at "s1") => `(tactic| first
  | (with_reducible refine w_seq ?_) | (with_reducible refine w_asg ?_) | (with_reducible refine w_op ?_) | (with_reducible refine w_c ?_)
  | ((with_reducible refine' w_var ?hx ?_); (case hx => exact rfl))
  | (with_reducible refine w_gname ?_) | (with_reducible refine w_cons ?_) | (with_reducible refine w_nil ?_) | (with_reducible refine w_cb ?_) | (with_reducible refine w_call ?_)
  | (with_reducible refine w_ret ?_) | (with_reducible refine w_drop ?_) | (with_reducible refine w_ifs ?_) | (with_reducible refine w_test ?_) | (with_reducible refine w_next ?_)
  | (with_reducible refine w_addI ?_) | (with_reducible refine w_subI ?_) | (with_reducible refine w_negI ?_) | (with_reducible refine w_eqI ?_) | (with_reducible refine w_neI ?_) | (with_reducible refine w_ltI ?_) | (with_reducible refine w_leI ?_)
  | (with_reducible refine w_gtI ?_) | (with_reducible refine w_geI ?_) | (with_reducible refine w_isNn ?_) | (with_reducible refine w_isNi ?_) | (with_reducible refine w_isNs ?_) | (with_reducible refine w_isNr ?_) | (with_reducible refine w_ntNn ?_) | (with_reducible refine w_ntNi ?_) | (with_reducible refine w_ntNs ?_) | (with_reducible refine w_ntNr ?_) | (with_reducible refine w_isN ?_) | (with_reducible refine w_notN ?_) | (with_reducible refine w_ipaI ?_) | (with_reducible refine w_eqS ?_) | (with_reducible refine w_neS ?_)
  | (with_reducible refine w_blE ?_) | (with_reducible refine w_truB ?_) | (with_reducible refine w_intI ?_) | (with_reducible refine w_intB ?_)
  | (with_reducible refine w_bm ?_) | (with_reducible refine w_bm0 ?_) | (with_reducible refine w_lst ?_) | (with_reducible refine w_tup ?_) | (with_reducible refine w_un ?_) | (with_reducible refine w_sl ?_) | (with_reducible refine w_nopart ?_) | (with_reducible refine w_part ?_) | (with_reducible refine w_partI ?_)
  | (with_reducible refine w_gsub ?_) | (with_reducible refine w_gcons ?_) | (with_reducible refine w_gnil ?_) | (with_reducible refine w_and ?_) | (with_reducible refine w_or ?_) | (with_reducible refine w_not ?_) | (with_reducible refine w_tru ?_) | (with_reducible refine w_yes ?_)
  | (with_reducible refine w_andV ?_) | (with_reducible refine w_orV ?_) | (with_reducible refine w_notV ?_) | (with_reducible refine w_tif ?_) | (with_reducible refine w_callS ?_) | (with_reducible refine w_for ?_)
  | (with_reducible refine w_par ?_) | (with_reducible refine w_par2 ?_) | (with_reducible refine w_retN ?_) | (with_reducible refine w_brk ?_) | (with_reducible refine w_cont ?_)
  | ((with_reducible refine' w_aug ?hx ?_); (case hx => exact rfl)) | (with_reducible refine w_ipsI ?_)
  | (with_reducible refine w_is_int_dict ?_) | (with_reducible refine w_is_int_list ?_) | (with_reducible refine w_is_int_tuple ?_) | (with_reducible refine w_is_int_str ?_) | (with_reducible refine w_is_int_int ?_) | (with_reducible refine w_is_int_bool ?_) | (with_reducible refine w_is_bool_dict ?_) | (with_reducible refine w_is_bool_list ?_) | (with_reducible refine w_is_bool_tuple ?_) | (with_reducible refine w_is_bool_str ?_) | (with_reducible refine w_is_bool_int ?_) | (with_reducible refine w_is_bool_bool ?_) | (with_reducible refine w_is_str_dict ?_) | (with_reducible refine w_is_str_list ?_) | (with_reducible refine w_is_str_tuple ?_) | (with_reducible refine w_is_str_str ?_) | (with_reducible refine w_is_str_int ?_) | (with_reducible refine w_is_str_bool ?_)
  | (with_reducible refine w_ifT ?_) | (with_reducible refine w_ifF ?_) | (with_reducible refine w_ifNF ?_) | (with_reducible refine w_ifNT ?_)
  | (with_reducible refine w_tys ?_) | (with_reducible refine w_chain ?_) | (with_reducible refine w_ost ?_) | (with_reducible refine w_vei ?_) | (with_reducible refine w_rzO ?_) | (with_reducible refine w_fld ?_) | (with_reducible refine w_sfld ?_) | (with_reducible refine w_afld ?_) | (with_reducible refine w_meth ?_) | (with_reducible refine w_make ?_) | (with_reducible refine w_rz ?_) | (with_reducible refine w_rAdd ?_) | (with_reducible refine w_rSub ?_) | (with_reducible refine w_max2 ?_) | (with_reducible refine w_lc ?_) | (with_reducible refine w_zip ?_) | (with_reducible refine w_seqv ?_) | (with_reducible refine w_rng1 ?_) | (with_reducible refine w_rng2 ?_) | (with_reducible refine w_rng3 ?_) | (with_reducible refine w_enum ?_) | (with_reducible refine w_rev ?_))
local macro_rules | `(tactic| walk_at "go") => `(tactic| repeat (walk_at "s1"))
end Ps
namespace Ps
open PySem PySem.Spec PyProof.Rows L2
section
variable {X : Cx} {CX : CXT} {k : Nat} {f : Addr} {fd : FuncData} {ps : List Str} {sp : Sp} {dvs : List V} {ds : List Value} {E : XK} {fe : Expr} {p pos : Pos} {e : Expr} {es : List Expr} {t : TA} {te : TE} {L : List (Addr × TE)}
end
def vCallE (ve : VE) (L : List (Addr × VE)) : VE := fun env m P => ve env m fun x m1 => ∃ p ∈ L, x = .adr p.1 ∧ p.2 env m1 P
section
variable {c : JC} {Γ : List OT} {G G' H H' : Hp} {T S : List (Addr × HO)} {env : Env} {σ : L2.St} {m : Mst} {v : V} {d : D}
inductive Cls2 (c : JC) (Γ : List OT) : List (Addr × TE) → List (Addr × VE) → Prop where
  | nil : Cls2 c Γ [] []
  | cons {f : Addr} {tc : TE} {vc : VE} {L : List (Addr × TE)} {M : List (Addr × VE)} (h : SF c Γ tc vc) (r : Cls2 c Γ L M) : Cls2 c Γ ((f, tc) :: L) ((f, vc) :: M)
theorem Cls2.at {L : List (Addr × TE)} {M : List (Addr × VE)} (h : Cls2 c Γ L M) : ∀ q ∈ M, ∃ p ∈ L, p.1 = q.1 ∧ SF c Γ p.2 q.2 := by
  induction h with
  | nil => exact fun q hq => absurd hq (by simp)
  | cons h r ih =>
    intro q hq
    rcases List.mem_cons.mp hq with rfl | hq
    · exact ⟨_, List.mem_cons_self, rfl, h⟩
    · obtain ⟨p, hp, z⟩ := ih q hq
      exact ⟨p, List.mem_cons_of_mem _ hp, z⟩
end
def vIsiT (K : PySem.W.Frag) (ve : VE) (cs : List Addr) : VE := fun env m P => ve env m fun x m1 => ∃ C fs b, x = .exc C fs ∧ ExcC K C ∧ PySem.W.kitAny K (.ref C) (cs.map Value.ref) = some b ∧ P (.bl b) m1
section
variable {c : JC} {Γ : List OT}
end
section
variable {ve : VE} {env : Env} {m : Mst} {P : D → Mst → Prop} {K : PySem.W.Frag}
theorem e_isiT {cs : List Addr} (h : ve env m fun x m1 => ∃ C fs b, x = .exc C fs ∧ ExcC K C ∧ PySem.W.kitAny K (.ref C) (cs.map Value.ref) = some b ∧ P (.bl b) m1) : vIsiT K ve cs env m P := h
theorem e_fldX {f : Str} (h : ve env m fun x m1 => match x with
  | .exc C fs => ∃ d, XfC K C ∧ PySem.W.findIn K (.ref C) f = some none ∧ fs.lookup f = some d ∧ P d m1
  | _ => False) : vFldX K ve f env m P := h
theorem e_tryK {x : Value} {i j : Nat} {vb : XW → VS} {VWo : XW} {V : VEnds} (h : vb (fun C fs e m' => ∃ b, PySem.W.exmOne K (.ref C) x = some b ∧ if b = true then V.nx (((e.set i (some (.exc C fs))).set j (some (.exc C fs))).set i none) m' else VWo C fs e m') V env m) : vTryK K x i j vb VWo V env m := h
end
section
variable {ve : VE} {env : Env} {m : Mst} {P : D → Mst → Prop} {M : List (Addr × VE)}
theorem e_callE (h : ve env m fun x m1 => ∃ p ∈ M, x = .adr p.1 ∧ p.2 env m1 P) : vCallE ve M env m P := h
end
end Ps
namespace Ps
open PySem PySem.Spec PyProof.Rows L2
open PySem
section
variable {prog : Program} {w : World} {A : Around} {s : Shared} {I S l : Addr} {vs : List Value} {kw : List (Str × Value)} {R : Result → Shared → Prop}
structure Mm (prog : Program) (w : World) (A : Around) (op : CmpOp) (vs : List Value) (bt : Value → Value → Bool) : Prop where
  cmp : ∀ (u v : Value) (s : Shared) (Q E : Value → Shared → Prop), u ∈ vs → v ∈ vs → Q (.bool (bt u v)) s → wpAny (model prog w) A (richCompare op u v) Q E s
  tr : ∀ x y z, bt x y = true → bt y z = true → bt x z = true
  ir : ∀ x, x ∈ vs → bt x x = false
theorem min_loop {bt : Value → Value → Bool} (hh : A.handled = none) (M : Mm prog w A.in1 .Lt vs bt) (hlI : l ≠ I) (hSI : S ≠ I) (hlS : l ≠ S) :
    ∀ (r j : Nat) (s : Shared) (vb : Value) (c : Nat), vs.length - (j + 1) = r → j + 1 ≤ vs.length → s.heap.IsListIter I l (j + 1) → s.heap.IsList l vs.toArray → vb ∈ vs → (∀ u ∈ vs.take (j + 1), bt u vb = false) →
    s.heap.get? S = some { cls := .type "list", dict := none, data := .seq #[vb, vb] c, slots := #[] } →
    (∀ v h' tk, v ∈ vs → (∀ u ∈ vs, bt u v = false) → (∀ b o, b ≠ I → b ≠ S → s.heap.get? b = some o → h'.get? b = some o) → R (.ok (.ret v)) { s with heap := h', toks := tk }) →
    codeAny (model prog w) A (.builtin "min.loop" ⟨[.ref I, .none, .ref S], kw⟩) R s := by
  have hname : (toString "min" ++ toString ".loop" : String) = "min.loop" := by decide
  have W := Walks.list (prog := prog) (w := w) (A := A.in1) hh I l hlI vs.toArray
  have hsz : vs.toArray.size = vs.length := List.size_toArray ..
  have nw : ∀ b, b ≠ I → b ∉ [I] := fun b h q => h (List.mem_singleton.mp q)
  intro r
  induction r with
  | zero =>
    intro j s vb c hr hj hit hl hm hb hS hR
    have hin : j + 1 = vs.length := by omega
    refine codeAny_builtin F.entry_min_loop ?_
    rw [Around.under_plainId F.plain_min_loop _]
    show wpAny _ A.in1 (seqItems? (.ref S) >>= _) _ _ s
    refine wpAny_bind (wpAny_seqItems hS rfl ?_)
    show wpAny _ A.in1 (tryCatch (pyNext (.ref I)) _ >>= _) _ _ s
    refine wpAny_bind (wpAny_tryCatch (W.done s _ _ ⟨by rw [hsz, ← hin]; exact hit, hl⟩ fun h' tk hk' => ?_))
    have hS' := hk' S _ (nw S hSI) hS
    show wpAny _ A.in1 (updateSeq S (fun _ => #[]) >>= _) _ _ _
    refine wpAny_bind ?_
    refine wpAny_updateSeq hS' rfl (wpAny_bind (wpAny_letGo (wpAny_pure ?_)))
    refine hR vb _ tk hm (by rw [hin, List.take_length] at hb; exact hb) fun b o hbI hbS e => (Heap.get?_update_other _ _ (Ne.symm hbS)).trans (hk' b o (nw b hbI) e)
  | succ r ih =>
    intro j s vb c hr hj hit hl hm hb hS hR
    have hlt : j + 1 < vs.length := by omega
    refine codeAny_builtin F.entry_min_loop ?_
    rw [Around.under_plainId F.plain_min_loop _]
    show wpAny _ A.in1 (seqItems? (.ref S) >>= _) _ _ s
    refine wpAny_bind (wpAny_seqItems hS rfl ?_)
    show wpAny _ A.in1 (tryCatch (pyNext (.ref I)) _ >>= _) _ _ s
    refine wpAny_bind (wpAny_tryCatch (W.item (j + 1) s _ _ (by rw [hsz]; exact hlt) ⟨hit, hl⟩ fun v h' tk hP hst' hk' => ?_))
    have hP : vs[j + 1]? = some v := by simpa using hP
    have hv : v ∈ vs := List.mem_of_getElem? hP
    obtain ⟨hit', hl'⟩ := hst'
    have hS' := hk' S _ (nw S hSI) hS
    have ht : vs.take (j + 1 + 1) = vs.take (j + 1) ++ [v] := by rw [List.take_add_one, hP]; rfl
    show wpAny _ A.in1 (tryCatch (holding [v, v] (richCompare .Lt v vb >>= _)) _ >>= _) _ _ _
    refine wpAny_bind (wpAny_tryCatch (wpAny_holding (wpAny_bind (M.cmp v vb _ _ _ hv hm ?_))))
    refine wpAny_bind (wpAny_holding (wpAny_truthy_bool ?_))
    refine wpAny_bind (wpAny_letGo (wpAny_pure ?_))
    cases hbt : bt v vb with
    | true =>
      simp only [if_true]
      refine wpAny_bind ?_
      refine wpAny_updateSeq hS' rfl (wpAny_bind (wpAny_letGo ?_))
      rw [hname]
      refine wpAny_pure ⟨plainId_quiet F.plain_min_loop _, ih (j + 1) _ v _ (by omega) (by omega) (hit'.at fun o e => (Heap.get?_update_other _ _ hSI).trans e) (hl'.at fun o e => (Heap.get?_update_other _ _ (Ne.symm hlS)).trans e) hv (fun u hu => ?_) (Heap.get?_update_self _ hS' rfl)
        fun v' h'' tk'' p1 p2 hk'' => ?_⟩
      · rw [ht] at hu
        rcases List.mem_append.mp hu with hu | hu
        · cases q : bt u v with
          | false => rfl
          | true => exact absurd (hb u hu) (by rw [M.tr _ _ _ q hbt]; decide)
        · rw [List.mem_singleton.mp hu]; exact M.ir v hv
      · exact hR v' h'' tk'' p1 p2 fun b o hbI hbS e => hk'' b o hbI hbS ((Heap.get?_update_other _ _ (Ne.symm hbS)).trans (hk' b o (nw b hbI) e))
    | false =>
      simp only [Bool.false_eq_true, if_false]
      refine wpAny_bind (wpAny_letGo ?_)
      rw [hname]
      refine wpAny_pure ⟨plainId_quiet F.plain_min_loop _, ih (j + 1) _ vb c (by omega) (by omega) hit' hl' hm (fun u hu => ?_) hS' fun v' h'' tk'' p1 p2 hk'' => ?_⟩
      · rw [ht] at hu
        rcases List.mem_append.mp hu with hu | hu
        · exact hb u hu
        · rw [List.mem_singleton.mp hu]; exact hbt
      · exact hR v' h'' tk'' p1 p2 fun b o hbI hbS e => hk'' b o hbI hbS (hk' b o (nw b hbI) e)
theorem min_args (a v : Value) : argsOk "min" ⟨[a], [(Str.ofString "default", v)]⟩ := by unfold argsOk; kernel_rfl
theorem min_dflt {bt : Value → Value → Bool} {d : Value} {Q E : Value → Shared → Prop} (hh : A.handled = none) (hl : s.heap.IsList l vs.toArray) (M : Mm prog w A.in1 .Lt vs bt)
    (h0 : vs = [] → ∀ h' tk, (∀ b o, s.heap.get? b = some o → h'.get? b = some o) → Q d { s with heap := h', toks := tk })
    (hQ : ∀ v h' tk, v ∈ vs → (∀ u ∈ vs, bt u v = false) → (∀ b o, s.heap.get? b = some o → h'.get? b = some o) → Q v { s with heap := h', toks := tk }) :
    wpAny (model prog w) A (call (.builtin "min") [.ref l] [(Str.ofString "default", d)]) Q E s := by
  have hname : (toString "min" ++ toString ".loop" : String) = "min.loop" := by decide
  obtain ⟨ol, hol, _⟩ := id hl
  have hll : l < s.heap.objs.size := Heap.lt_size hol
  refine kmk_tree F.kind_min F.plain_min F.entry_min (min_args _ _) ?_
  show wpAny _ A.in1 (Builtin.Builtins.bindParams "min" ["key", "default"] 0 ⟨[], [(Str.ofString "default", d)]⟩ >>= _) _ _ s
  refine wpAny_bind (wpAny_of_eq (show Builtin.Builtins.bindParams "min" ["key", "default"] 0 ⟨[], [(Str.ofString "default", d)]⟩ = pure [none, some d] from rfl) ?_)
  refine wpAny_bind (wpAny_pure ?_)
  refine wpAny_bind (wpAny_pyIter_list hl ?_)
  refine wpAny_bind (wpAny_newList ?_ (Nat.zero_le _))
  rw [hname]
  have hS : (s.heap.push { cls := .type "list_iterator", data := .fields #[.ref l, .int 0 0] }).objs.size = s.heap.objs.size + 1 := Heap.size_push ..
  have hlI : l ≠ s.heap.objs.size := Nat.ne_of_lt hll
  have hSI : (s.heap.push { cls := .type "list_iterator", data := .fields #[.ref l, .int 0 0] }).objs.size ≠ s.heap.objs.size := by rw [hS]; exact Nat.ne_of_gt (Nat.lt_succ_self _)
  have hlS : l ≠ (s.heap.push { cls := .type "list_iterator", data := .fields #[.ref l, .int 0 0] }).objs.size := by rw [hS]; exact Nat.ne_of_lt (Nat.lt_succ_of_lt hll)
  refine wpAny_pure ⟨plainId_quiet F.plain_min_loop _, ?_⟩
  have gI : ((s.heap.push { cls := .type "list_iterator", data := .fields #[.ref l, .int 0 0] }).push (seqObj "list" #[] 0)).get? s.heap.objs.size = some { cls := .type "list_iterator", data := .fields #[.ref l, .int 0 0] } :=
    Heap.get?_push_of_some _ (Heap.get?_push_size _ rfl)
  have gS : ((s.heap.push { cls := .type "list_iterator", data := .fields #[.ref l, .int 0 0] }).push (seqObj "list" #[] 0)).get? (s.heap.push { cls := .type "list_iterator", data := .fields #[.ref l, .int 0 0] }).objs.size = some (seqObj "list" #[] 0) := Heap.get?_push_size _ rfl
  have old : ∀ b o, s.heap.get? b = some o → ((s.heap.push { cls := .type "list_iterator", data := .fields #[.ref l, .int 0 0] }).push (seqObj "list" #[] 0)).get? b = some o := fun b o e => Heap.get?_push_of_some _ (Heap.get?_push_of_some _ e)
  have oldI : ∀ b o, s.heap.get? b = some o → b ≠ s.heap.objs.size := fun b o e => Nat.ne_of_lt (Heap.lt_size e)
  have oldS : ∀ b o, s.heap.get? b = some o → b ≠ (s.heap.push { cls := .type "list_iterator", data := .fields #[.ref l, .int 0 0] }).objs.size := fun b o e => by rw [hS]; exact Nat.ne_of_lt (Nat.lt_succ_of_lt (Heap.lt_size e))
  have hit0 : ((s.heap.push { cls := .type "list_iterator", data := .fields #[.ref l, .int 0 0] }).push (seqObj "list" #[] 0)).IsListIter s.heap.objs.size l 0 := ⟨_, gI, rfl, rfl⟩
  have hl0 : ((s.heap.push { cls := .type "list_iterator", data := .fields #[.ref l, .int 0 0] }).push (seqObj "list" #[] 0)).IsList l vs.toArray := hl.at fun o e => old _ _ e
  have nw : ∀ b, b ≠ s.heap.objs.size → b ∉ [s.heap.objs.size] := fun b h q => h (List.mem_singleton.mp q)
  generalize (s.heap.push { cls := .type "list_iterator", data := .fields #[.ref l, .int 0 0] }).objs.size = S at *
  generalize ((s.heap.push { cls := .type "list_iterator", data := .fields #[.ref l, .int 0 0] }).push (seqObj "list" #[] 0)) = h1 at *
  generalize s.heap.objs.size = I at *
  have W := Walks.list (prog := prog) (w := w) (A := A.in1) hh I l hlI vs.toArray
  refine codeAny_builtin F.entry_min_loop ?_
  rw [Around.under_plainId F.plain_min_loop _]
  show wpAny _ A.in1 (seqItems? (.ref S) >>= _) _ _ _
  refine wpAny_bind (wpAny_seqItems gS rfl ?_)
  show wpAny _ A.in1 (tryCatch (pyNext (.ref I)) _ >>= _) _ _ _
  cases hvs : vs with
  | nil =>
    subst hvs
    refine wpAny_bind (wpAny_tryCatch (W.done _ _ _ ⟨hit0, hl0⟩ fun h' tk hk' => ?_))
    refine wpAny_bind (wpAny_rule ?_)
    refine wpAny_pure ?_
    exact h0 rfl _ tk fun b o e => hk' b o (nw b (oldI b o e)) (old b o e)
  | cons v0 vr =>
    have hpos : 0 < vs.toArray.size := by rw [hvs]; simp
    refine wpAny_bind (wpAny_tryCatch (W.item 0 _ _ _ hpos ⟨hit0, hl0⟩ fun v h' tk hP hst' hk' => ?_))
    have hP : vs[0]? = some v := by simpa using hP
    have hv : v ∈ vs := List.mem_of_getElem? hP
    obtain ⟨hit', hl'⟩ := hst'
    have hS' := hk' S _ (nw S hSI) gS
    show wpAny _ A.in1 (updateSeq S (fun _ => #[v, v]) >>= _) _ _ _
    refine wpAny_bind ?_
    refine wpAny_updateSeq hS' rfl ?_
    rw [hname]
    refine wpAny_pure ⟨plainId_quiet F.plain_min_loop _, min_loop hh M hlI hSI hlS _ 0 _ v _ rfl (by rw [hvs]; simp) (hit'.at fun o e => (Heap.get?_update_other _ _ hSI).trans e) (hl'.at fun o e => (Heap.get?_update_other _ _ (Ne.symm hlS)).trans e) hv (fun u hu => ?_) (Heap.get?_update_self _ hS' rfl) fun v' h'' tk'' p1 p2 hk'' => ?_⟩
    · rw [List.take_add_one, List.take_zero, hP] at hu
      rw [List.mem_singleton.mp hu]; exact M.ir v hv
    · exact hQ v' h'' tk'' p1 p2 fun b o e => hk'' b o (oldI b o e) (oldS b o e) ((Heap.get?_update_other _ _ (Ne.symm (oldS b o e))).trans (hk' b o (nw b (oldI b o e)) (old b o e)))
theorem max_loop {bt : Value → Value → Bool} (hh : A.handled = none) (M : Mm prog w A.in1 .Gt vs bt) (hlI : l ≠ I) (hSI : S ≠ I) (hlS : l ≠ S) :
    ∀ (r j : Nat) (s : Shared) (vb : Value) (c : Nat), vs.length - (j + 1) = r → j + 1 ≤ vs.length → s.heap.IsListIter I l (j + 1) → s.heap.IsList l vs.toArray → vb ∈ vs → (∀ u ∈ vs.take (j + 1), bt u vb = false) →
    s.heap.get? S = some { cls := .type "list", dict := none, data := .seq #[vb, vb] c, slots := #[] } →
    (∀ v h' tk, v ∈ vs → (∀ u ∈ vs, bt u v = false) → (∀ b o, b ≠ I → b ≠ S → s.heap.get? b = some o → h'.get? b = some o) → R (.ok (.ret v)) { s with heap := h', toks := tk }) →
    codeAny (model prog w) A (.builtin "max.loop" ⟨[.ref I, .none, .ref S], kw⟩) R s := by
  have hname : (toString "max" ++ toString ".loop" : String) = "max.loop" := by decide
  have W := Walks.list (prog := prog) (w := w) (A := A.in1) hh I l hlI vs.toArray
  have hsz : vs.toArray.size = vs.length := List.size_toArray ..
  have nw : ∀ b, b ≠ I → b ∉ [I] := fun b h q => h (List.mem_singleton.mp q)
  intro r
  induction r with
  | zero =>
    intro j s vb c hr hj hit hl hm hb hS hR
    have hin : j + 1 = vs.length := by omega
    refine codeAny_builtin F.entry_max_loop ?_
    rw [Around.under_plainId F.plain_max_loop _]
    show wpAny _ A.in1 (seqItems? (.ref S) >>= _) _ _ s
    refine wpAny_bind (wpAny_seqItems hS rfl ?_)
    show wpAny _ A.in1 (tryCatch (pyNext (.ref I)) _ >>= _) _ _ s
    refine wpAny_bind (wpAny_tryCatch (W.done s _ _ ⟨by rw [hsz, ← hin]; exact hit, hl⟩ fun h' tk hk' => ?_))
    have hS' := hk' S _ (nw S hSI) hS
    show wpAny _ A.in1 (updateSeq S (fun _ => #[]) >>= _) _ _ _
    refine wpAny_bind ?_
    refine wpAny_updateSeq hS' rfl (wpAny_bind (wpAny_letGo (wpAny_pure ?_)))
    refine hR vb _ tk hm (by rw [hin, List.take_length] at hb; exact hb) fun b o hbI hbS e => (Heap.get?_update_other _ _ (Ne.symm hbS)).trans (hk' b o (nw b hbI) e)
  | succ r ih =>
    intro j s vb c hr hj hit hl hm hb hS hR
    have hlt : j + 1 < vs.length := by omega
    refine codeAny_builtin F.entry_max_loop ?_
    rw [Around.under_plainId F.plain_max_loop _]
    show wpAny _ A.in1 (seqItems? (.ref S) >>= _) _ _ s
    refine wpAny_bind (wpAny_seqItems hS rfl ?_)
    show wpAny _ A.in1 (tryCatch (pyNext (.ref I)) _ >>= _) _ _ s
    refine wpAny_bind (wpAny_tryCatch (W.item (j + 1) s _ _ (by rw [hsz]; exact hlt) ⟨hit, hl⟩ fun v h' tk hP hst' hk' => ?_))
    have hP : vs[j + 1]? = some v := by simpa using hP
    have hv : v ∈ vs := List.mem_of_getElem? hP
    obtain ⟨hit', hl'⟩ := hst'
    have hS' := hk' S _ (nw S hSI) hS
    have ht : vs.take (j + 1 + 1) = vs.take (j + 1) ++ [v] := by rw [List.take_add_one, hP]; rfl
    show wpAny _ A.in1 (tryCatch (holding [v, v] (richCompare .Gt v vb >>= _)) _ >>= _) _ _ _
    refine wpAny_bind (wpAny_tryCatch (wpAny_holding (wpAny_bind (M.cmp v vb _ _ _ hv hm ?_))))
    refine wpAny_bind (wpAny_holding (wpAny_truthy_bool ?_))
    refine wpAny_bind (wpAny_letGo (wpAny_pure ?_))
    cases hbt : bt v vb with
    | true =>
      simp only [if_true]
      refine wpAny_bind ?_
      refine wpAny_updateSeq hS' rfl (wpAny_bind (wpAny_letGo ?_))
      rw [hname]
      refine wpAny_pure ⟨plainId_quiet F.plain_max_loop _, ih (j + 1) _ v _ (by omega) (by omega) (hit'.at fun o e => (Heap.get?_update_other _ _ hSI).trans e) (hl'.at fun o e => (Heap.get?_update_other _ _ (Ne.symm hlS)).trans e) hv (fun u hu => ?_) (Heap.get?_update_self _ hS' rfl)
        fun v' h'' tk'' p1 p2 hk'' => ?_⟩
      · rw [ht] at hu
        rcases List.mem_append.mp hu with hu | hu
        · cases q : bt u v with
          | false => rfl
          | true => exact absurd (hb u hu) (by rw [M.tr _ _ _ q hbt]; decide)
        · rw [List.mem_singleton.mp hu]; exact M.ir v hv
      · exact hR v' h'' tk'' p1 p2 fun b o hbI hbS e => hk'' b o hbI hbS ((Heap.get?_update_other _ _ (Ne.symm hbS)).trans (hk' b o (nw b hbI) e))
    | false =>
      simp only [Bool.false_eq_true, if_false]
      refine wpAny_bind (wpAny_letGo ?_)
      rw [hname]
      refine wpAny_pure ⟨plainId_quiet F.plain_max_loop _, ih (j + 1) _ vb c (by omega) (by omega) hit' hl' hm (fun u hu => ?_) hS' fun v' h'' tk'' p1 p2 hk'' => ?_⟩
      · rw [ht] at hu
        rcases List.mem_append.mp hu with hu | hu
        · exact hb u hu
        · rw [List.mem_singleton.mp hu]; exact hbt
      · exact hR v' h'' tk'' p1 p2 fun b o hbI hbS e => hk'' b o hbI hbS (hk' b o (nw b hbI) e)
theorem max_args (a v : Value) : argsOk "max" ⟨[a], [(Str.ofString "default", v)]⟩ := by unfold argsOk; kernel_rfl
theorem max_dflt {bt : Value → Value → Bool} {d : Value} {Q E : Value → Shared → Prop} (hh : A.handled = none) (hl : s.heap.IsList l vs.toArray) (M : Mm prog w A.in1 .Gt vs bt)
    (h0 : vs = [] → ∀ h' tk, (∀ b o, s.heap.get? b = some o → h'.get? b = some o) → Q d { s with heap := h', toks := tk })
    (hQ : ∀ v h' tk, v ∈ vs → (∀ u ∈ vs, bt u v = false) → (∀ b o, s.heap.get? b = some o → h'.get? b = some o) → Q v { s with heap := h', toks := tk }) :
    wpAny (model prog w) A (call (.builtin "max") [.ref l] [(Str.ofString "default", d)]) Q E s := by
  have hname : (toString "max" ++ toString ".loop" : String) = "max.loop" := by decide
  obtain ⟨ol, hol, _⟩ := id hl
  have hll : l < s.heap.objs.size := Heap.lt_size hol
  refine kmk_tree F.kind_max F.plain_max F.entry_max (max_args _ _) ?_
  show wpAny _ A.in1 (Builtin.Builtins.bindParams "max" ["key", "default"] 0 ⟨[], [(Str.ofString "default", d)]⟩ >>= _) _ _ s
  refine wpAny_bind (wpAny_of_eq (show Builtin.Builtins.bindParams "max" ["key", "default"] 0 ⟨[], [(Str.ofString "default", d)]⟩ = pure [none, some d] from rfl) ?_)
  refine wpAny_bind (wpAny_pure ?_)
  refine wpAny_bind (wpAny_pyIter_list hl ?_)
  refine wpAny_bind (wpAny_newList ?_ (Nat.zero_le _))
  rw [hname]
  have hS : (s.heap.push { cls := .type "list_iterator", data := .fields #[.ref l, .int 0 0] }).objs.size = s.heap.objs.size + 1 := Heap.size_push ..
  have hlI : l ≠ s.heap.objs.size := Nat.ne_of_lt hll
  have hSI : (s.heap.push { cls := .type "list_iterator", data := .fields #[.ref l, .int 0 0] }).objs.size ≠ s.heap.objs.size := by rw [hS]; exact Nat.ne_of_gt (Nat.lt_succ_self _)
  have hlS : l ≠ (s.heap.push { cls := .type "list_iterator", data := .fields #[.ref l, .int 0 0] }).objs.size := by rw [hS]; exact Nat.ne_of_lt (Nat.lt_succ_of_lt hll)
  refine wpAny_pure ⟨plainId_quiet F.plain_max_loop _, ?_⟩
  have gI : ((s.heap.push { cls := .type "list_iterator", data := .fields #[.ref l, .int 0 0] }).push (seqObj "list" #[] 0)).get? s.heap.objs.size = some { cls := .type "list_iterator", data := .fields #[.ref l, .int 0 0] } :=
    Heap.get?_push_of_some _ (Heap.get?_push_size _ rfl)
  have gS : ((s.heap.push { cls := .type "list_iterator", data := .fields #[.ref l, .int 0 0] }).push (seqObj "list" #[] 0)).get? (s.heap.push { cls := .type "list_iterator", data := .fields #[.ref l, .int 0 0] }).objs.size = some (seqObj "list" #[] 0) := Heap.get?_push_size _ rfl
  have old : ∀ b o, s.heap.get? b = some o → ((s.heap.push { cls := .type "list_iterator", data := .fields #[.ref l, .int 0 0] }).push (seqObj "list" #[] 0)).get? b = some o := fun b o e => Heap.get?_push_of_some _ (Heap.get?_push_of_some _ e)
  have oldI : ∀ b o, s.heap.get? b = some o → b ≠ s.heap.objs.size := fun b o e => Nat.ne_of_lt (Heap.lt_size e)
  have oldS : ∀ b o, s.heap.get? b = some o → b ≠ (s.heap.push { cls := .type "list_iterator", data := .fields #[.ref l, .int 0 0] }).objs.size := fun b o e => by rw [hS]; exact Nat.ne_of_lt (Nat.lt_succ_of_lt (Heap.lt_size e))
  have hit0 : ((s.heap.push { cls := .type "list_iterator", data := .fields #[.ref l, .int 0 0] }).push (seqObj "list" #[] 0)).IsListIter s.heap.objs.size l 0 := ⟨_, gI, rfl, rfl⟩
  have hl0 : ((s.heap.push { cls := .type "list_iterator", data := .fields #[.ref l, .int 0 0] }).push (seqObj "list" #[] 0)).IsList l vs.toArray := hl.at fun o e => old _ _ e
  have nw : ∀ b, b ≠ s.heap.objs.size → b ∉ [s.heap.objs.size] := fun b h q => h (List.mem_singleton.mp q)
  generalize (s.heap.push { cls := .type "list_iterator", data := .fields #[.ref l, .int 0 0] }).objs.size = S at *
  generalize ((s.heap.push { cls := .type "list_iterator", data := .fields #[.ref l, .int 0 0] }).push (seqObj "list" #[] 0)) = h1 at *
  generalize s.heap.objs.size = I at *
  have W := Walks.list (prog := prog) (w := w) (A := A.in1) hh I l hlI vs.toArray
  refine codeAny_builtin F.entry_max_loop ?_
  rw [Around.under_plainId F.plain_max_loop _]
  show wpAny _ A.in1 (seqItems? (.ref S) >>= _) _ _ _
  refine wpAny_bind (wpAny_seqItems gS rfl ?_)
  show wpAny _ A.in1 (tryCatch (pyNext (.ref I)) _ >>= _) _ _ _
  cases hvs : vs with
  | nil =>
    subst hvs
    refine wpAny_bind (wpAny_tryCatch (W.done _ _ _ ⟨hit0, hl0⟩ fun h' tk hk' => ?_))
    refine wpAny_bind (wpAny_rule ?_)
    refine wpAny_pure ?_
    exact h0 rfl _ tk fun b o e => hk' b o (nw b (oldI b o e)) (old b o e)
  | cons v0 vr =>
    have hpos : 0 < vs.toArray.size := by rw [hvs]; simp
    refine wpAny_bind (wpAny_tryCatch (W.item 0 _ _ _ hpos ⟨hit0, hl0⟩ fun v h' tk hP hst' hk' => ?_))
    have hP : vs[0]? = some v := by simpa using hP
    have hv : v ∈ vs := List.mem_of_getElem? hP
    obtain ⟨hit', hl'⟩ := hst'
    have hS' := hk' S _ (nw S hSI) gS
    show wpAny _ A.in1 (updateSeq S (fun _ => #[v, v]) >>= _) _ _ _
    refine wpAny_bind ?_
    refine wpAny_updateSeq hS' rfl ?_
    rw [hname]
    refine wpAny_pure ⟨plainId_quiet F.plain_max_loop _, max_loop hh M hlI hSI hlS _ 0 _ v _ rfl (by rw [hvs]; simp) (hit'.at fun o e => (Heap.get?_update_other _ _ hSI).trans e) (hl'.at fun o e => (Heap.get?_update_other _ _ (Ne.symm hlS)).trans e) hv (fun u hu => ?_) (Heap.get?_update_self _ hS' rfl) fun v' h'' tk'' p1 p2 hk'' => ?_⟩
    · rw [List.take_add_one, List.take_zero, hP] at hu
      rw [List.mem_singleton.mp hu]; exact M.ir v hv
    · exact hQ v' h'' tk'' p1 p2 fun b o e => hk'' b o (oldI b o e) (oldS b o e) ((Heap.get?_update_other _ _ (Ne.symm (oldS b o e))).trans (hk' b o (nw b (oldI b o e)) (old b o e)))
end
end Ps
namespace Ps
open PySem PySem.Spec PyProof.Rows L2
section
variable {prog : Program} {w : World} {A : Around} {E : Value → Shared → Prop} {s : Shared}
end
def ltIB (u v : Value) : Bool := match u, v with
  | .int i _, .int j _ => decide (i < j)
  | _, _ => false
def gtIB (u v : Value) : Bool := ltIB v u
def ltSB (u v : Value) : Bool := match u, v with
  | .str i _, .str j _ => decide (i.cps.toList < j.cps.toList)
  | _, _ => false
def gtSB (u v : Value) : Bool := ltSB v u
theorem ltIB_tr (x y z : Value) (h1 : ltIB x y = true) (h2 : ltIB y z = true) : ltIB x z = true := by
  cases x <;> try (exact absurd h1 Bool.false_ne_true)
  cases y <;> try (exact absurd h1 Bool.false_ne_true)
  cases z <;> try (exact absurd h2 Bool.false_ne_true)
  simp only [ltIB, decide_eq_true_eq] at *
  omega
theorem ltSB_tr (x y z : Value) (h1 : ltSB x y = true) (h2 : ltSB y z = true) : ltSB x z = true := by
  cases x <;> try (exact absurd h1 Bool.false_ne_true)
  cases y <;> try (exact absurd h1 Bool.false_ne_true)
  cases z <;> try (exact absurd h2 Bool.false_ne_true)
  simp only [ltSB, decide_eq_true_eq] at *
  exact List.lt_trans h1 h2
theorem ltIB_ir (x : Value) : ltIB x x = false := by
  cases x <;> try rfl
  exact decide_eq_false (Int.lt_irrefl _)
theorem ltSB_ir (x : Value) : ltSB x x = false := by
  cases x <;> try rfl
  exact decide_eq_false (List.lt_irrefl _)
section
variable {prog : Program} {w : World} {A : Around} {vs : List Value}
theorem mm_ints_lt (h : ∀ u ∈ vs, ∃ i t, u = Value.int i t) : Mm prog w A .Lt vs ltIB := ⟨fun u v s Q E hu hv q => by
  obtain ⟨i, t, rfl⟩ := h u hu
  obtain ⟨j, r, rfl⟩ := h v hv
  exact richCompare_gives (op := .Lt) (typeIs_int s _ t) (typeIs_int s _ r) F.slot_int_lt F.entry_int_lt (F.args_int_lt_2 _ _) (gives_int_lt _ _ t r) (fun x => nomatch x) q, ltIB_tr, fun x _ => ltIB_ir x⟩
theorem mm_ints_gt (h : ∀ u ∈ vs, ∃ i t, u = Value.int i t) : Mm prog w A .Gt vs gtIB := ⟨fun u v s Q E hu hv q => by
  obtain ⟨i, t, rfl⟩ := h u hu
  obtain ⟨j, r, rfl⟩ := h v hv
  exact richCompare_gives (op := .Gt) (typeIs_int s _ t) (typeIs_int s _ r) F.slot_int_gt F.entry_int_gt (F.args_int_gt_2 _ _) (gives_int_gt _ _ t r) (fun x => nomatch x) q, fun x y z a b => ltIB_tr z y x b a, fun x _ => ltIB_ir x⟩
theorem mm_strs_lt (h : ∀ u ∈ vs, ∃ i t, u = Value.str i t) : Mm prog w A .Lt vs ltSB := ⟨fun u v s Q E hu hv q => by
  obtain ⟨i, t, rfl⟩ := h u hu
  obtain ⟨j, r, rfl⟩ := h v hv
  exact richCompare_gives (op := .Lt) (typeIs_str s _ t) (typeIs_str s _ r) F.slot_str_lt F.entry_str_lt (F.args_str_lt_2 _ _) (gives_str_lt _ _ t r) (fun x => nomatch x) q, ltSB_tr, fun x _ => ltSB_ir x⟩
theorem mm_strs_gt (h : ∀ u ∈ vs, ∃ i t, u = Value.str i t) : Mm prog w A .Gt vs gtSB := ⟨fun u v s Q E hu hv q => by
  obtain ⟨i, t, rfl⟩ := h u hu
  obtain ⟨j, r, rfl⟩ := h v hv
  exact richCompare_gives (op := .Gt) (typeIs_str s _ t) (typeIs_str s _ r) F.slot_str_gt F.entry_str_gt (F.args_str_gt_2 _ _) (gives_str_gt _ _ t r) (fun x => nomatch x) q, fun x y z a b => ltSB_tr z y x b a, fun x _ => ltSB_ir x⟩
end
theorem vals_int : ∀ {ns : List Int} {us : List Value}, Vals (ns.map V.int) us → (∀ u ∈ us, ∃ i t, u = Value.int i t ∧ i ∈ ns) ∧ ∀ i ∈ ns, ∃ t, Value.int i t ∈ us
  | [], _, .nil => ⟨fun u h => absurd h (by simp), fun i h => absurd h (by simp)⟩
  | n :: ns, _, .cons ⟨t, e⟩ r => by
    subst e
    obtain ⟨h1, h2⟩ := vals_int r
    refine ⟨fun u h => ?_, fun i h => ?_⟩
    · rcases List.mem_cons.mp h with rfl | h
      · exact ⟨n, t, rfl, List.mem_cons_self⟩
      · obtain ⟨i, t, e, h⟩ := h1 u h
        exact ⟨i, t, e, List.mem_cons_of_mem _ h⟩
    · rcases List.mem_cons.mp h with rfl | h
      · exact ⟨t, List.mem_cons_self⟩
      · obtain ⟨t, h⟩ := h2 i h
        exact ⟨t, List.mem_cons_of_mem _ h⟩
theorem vals_str : ∀ {ns : List Str} {us : List Value}, Vals (ns.map V.str) us → (∀ u ∈ us, ∃ i t, u = Value.str i t ∧ i ∈ ns) ∧ ∀ i ∈ ns, ∃ t, Value.str i t ∈ us
  | [], _, .nil => ⟨fun u h => absurd h (by simp), fun i h => absurd h (by simp)⟩
  | n :: ns, _, .cons ⟨t, e⟩ r => by
    subst e
    obtain ⟨h1, h2⟩ := vals_str r
    refine ⟨fun u h => ?_, fun i h => ?_⟩
    · rcases List.mem_cons.mp h with rfl | h
      · exact ⟨n, t, rfl, List.mem_cons_self⟩
      · obtain ⟨i, t, e, h⟩ := h1 u h
        exact ⟨i, t, e, List.mem_cons_of_mem _ h⟩
    · rcases List.mem_cons.mp h with rfl | h
      · exact ⟨t, List.mem_cons_self⟩
      · obtain ⟨t, h⟩ := h2 i h
        exact ⟨t, List.mem_cons_of_mem _ h⟩
def rMinD (K : PySem.W.Frag) : List V → List V → Hp → VK → Prop := fun xs zs H Q => ∃ (a : Addr) (d : V) (ys : List V), xs = [.ref a] ∧ zs = [d] ∧ SqL K H a ys ∧ ((ys = [] ∧ Q d H) ∨
  (∃ ns : List Int, ys = ns.map V.int ∧ ns ≠ [] ∧ ∀ m ∈ ns, (∀ y ∈ ns, m ≤ y) → Q (.int m) H) ∨ ∃ ns : List Str, ys = ns.map V.str ∧ ns ≠ [] ∧ ∀ m ∈ ns, (∀ y ∈ ns, ¬ y.cps.toList < m.cps.toList) → Q (.str m) H)
def rMaxD (K : PySem.W.Frag) : List V → List V → Hp → VK → Prop := fun xs zs H Q => ∃ (a : Addr) (d : V) (ys : List V), xs = [.ref a] ∧ zs = [d] ∧ SqL K H a ys ∧ ((ys = [] ∧ Q d H) ∨
  (∃ ns : List Int, ys = ns.map V.int ∧ ns ≠ [] ∧ ∀ m ∈ ns, (∀ y ∈ ns, y ≤ m) → Q (.int m) H) ∨ ∃ ns : List Str, ys = ns.map V.str ∧ ns ≠ [] ∧ ∀ m ∈ ns, (∀ y ∈ ns, ¬ m.cps.toList < y.cps.toList) → Q (.str m) H)
theorem ck_min {X : Cx} (hc : X.calm = true) : CallRK X (.builtin "min") [Str.ofString "default"] (rMinD X.K) := by
  intro pins s σ H vs zs us ws Q I r rz h
  obtain ⟨a, d, ys, rfl, rfl, hs, q⟩ := h
  obtain rfl := Vals.ref1 r
  obtain ⟨w1, rfl, e1⟩ := vals1 rz
  obtain ⟨its, rv, hl, hz⟩ := I.list hs
  rcases q with ⟨rfl, q⟩ | ⟨ns, rfl, hne, q⟩ | ⟨ns, rfl, hne, q⟩
  · cases rv
    exact min_dflt (vs := []) (I.ok.hd hc) hl.isList (mm_ints_lt fun u h => absurd h (by simp)) (fun _ h' tk hk => ⟨d, H, I.kept hk, e1, q⟩) fun v h' tk h => absurd h (by simp)
  · obtain ⟨h1, h2⟩ := vals_int rv
    refine min_dflt (I.ok.hd hc) hl.isList (mm_ints_lt fun u h => let ⟨i, t, e, _⟩ := h1 u h; ⟨i, t, e⟩) (fun e => ?_) fun v h' tk hv hb hk => ?_
    · subst e
      cases ns with
      | nil => exact absurd rfl hne
      | cons n ns => cases rv
    · obtain ⟨i, t, rfl, hi⟩ := h1 v hv
      refine ⟨.int i, H, I.kept hk, ⟨t, rfl⟩, q i hi fun y hy => ?_⟩
      obtain ⟨t', hy⟩ := h2 y hy
      have := hb _ hy
      exact Int.not_lt.mp (of_decide_eq_false (p := y < i) this)
  · obtain ⟨h1, h2⟩ := vals_str rv
    refine min_dflt (I.ok.hd hc) hl.isList (mm_strs_lt fun u h => let ⟨i, t, e, _⟩ := h1 u h; ⟨i, t, e⟩) (fun e => ?_) fun v h' tk hv hb hk => ?_
    · subst e
      cases ns with
      | nil => exact absurd rfl hne
      | cons n ns => cases rv
    · obtain ⟨i, t, rfl, hi⟩ := h1 v hv
      refine ⟨.str i, H, I.kept hk, ⟨t, rfl⟩, q i hi fun y hy => ?_⟩
      obtain ⟨t', hy⟩ := h2 y hy
      have := hb _ hy
      exact of_decide_eq_false (p := y.cps.toList < i.cps.toList) this
theorem ck_max {X : Cx} (hc : X.calm = true) : CallRK X (.builtin "max") [Str.ofString "default"] (rMaxD X.K) := by
  intro pins s σ H vs zs us ws Q I r rz h
  obtain ⟨a, d, ys, rfl, rfl, hs, q⟩ := h
  obtain rfl := Vals.ref1 r
  obtain ⟨w1, rfl, e1⟩ := vals1 rz
  obtain ⟨its, rv, hl, hz⟩ := I.list hs
  rcases q with ⟨rfl, q⟩ | ⟨ns, rfl, hne, q⟩ | ⟨ns, rfl, hne, q⟩
  · cases rv
    exact max_dflt (vs := []) (I.ok.hd hc) hl.isList (mm_ints_gt fun u h => absurd h (by simp)) (fun _ h' tk hk => ⟨d, H, I.kept hk, e1, q⟩) fun v h' tk h => absurd h (by simp)
  · obtain ⟨h1, h2⟩ := vals_int rv
    refine max_dflt (I.ok.hd hc) hl.isList (mm_ints_gt fun u h => let ⟨i, t, e, _⟩ := h1 u h; ⟨i, t, e⟩) (fun e => ?_) fun v h' tk hv hb hk => ?_
    · subst e
      cases ns with
      | nil => exact absurd rfl hne
      | cons n ns => cases rv
    · obtain ⟨i, t, rfl, hi⟩ := h1 v hv
      refine ⟨.int i, H, I.kept hk, ⟨t, rfl⟩, q i hi fun y hy => ?_⟩
      obtain ⟨t', hy⟩ := h2 y hy
      have := hb _ hy
      exact Int.not_lt.mp (of_decide_eq_false (p := i < y) this)
  · obtain ⟨h1, h2⟩ := vals_str rv
    refine max_dflt (I.ok.hd hc) hl.isList (mm_strs_gt fun u h => let ⟨i, t, e, _⟩ := h1 u h; ⟨i, t, e⟩) (fun e => ?_) fun v h' tk hv hb hk => ?_
    · subst e
      cases ns with
      | nil => exact absurd rfl hne
      | cons n ns => cases rv
    · obtain ⟨i, t, rfl, hi⟩ := h1 v hv
      refine ⟨.str i, H, I.kept hk, ⟨t, rfl⟩, q i hi fun y hy => ?_⟩
      obtain ⟨t', hy⟩ := h2 y hy
      have := hb _ hy
      exact of_decide_eq_false (p := i.cps.toList < y.cps.toList) this
def ClK (K : PySem.W.Frag) (r : List V → List V → Hp → VK → Prop) (f : List D → List D → (D → Prop) → Prop) : Prop :=
  ∀ (G H : Hp) (xs zs : List V) (ds es : List D) (P : D → Prop) (Q : VK), Same G H → TpAll K G H xs ds → TpAll K G H zs es → f ds es P → (∀ z v H', P z → Nw K G H v H' z → Q v H') → r xs zs H Q
def vCKw (f : List D → List D → (D → Prop) → Prop) (va vk : VA) : VE := fun env m P => va env m fun xs m1 => vk env m1 fun zs m2 => f xs zs fun z => P z m2
section
variable {c : JC} {Γ : List OT}
theorem s_ckw {r : List V → List V → Hp → VK → Prop} {f : List D → List D → (D → Prop) → Prop} {ta tk : TA} {va vk : VA} (o : ClK c.K r f) (ha : SA c Γ ta va) (hk : SA c Γ tk vk) : SO c Γ (tCKw r ta tk) (vCKw f va vk) := fun T G H S env σ m P Q st hv k =>
  ha T G H S env σ m _ _ st hv fun xs m1 vs G1 H1 S1 p1 s1 st1 b1 => hk (S1 ++ T) G1 H1 S env σ m1 _ _ st1 p1 fun zs m2 us G2 H2 S2 p2 s2 st2 b2 => by
    have t1 := BoAll.tp (T := S2 ++ (S1 ++ T)) st2 (b1.mono s2 (B := S2 ++ (S1 ++ T) ++ S) (fun x hx => by rcases List.mem_append.mp hx with q | q <;> simp [q]))
    have t2 := BoAll.tp (T := S2 ++ (S1 ++ T)) st2 (b2.mono (Same.refl _) (B := S2 ++ (S1 ++ T) ++ S) (fun x hx => by rcases List.mem_append.mp hx with q | q <;> simp [q]))
    refine o G2 H2 vs us xs zs _ _ st2.v t1 t2 p2 fun z w H' pz n => ?_
    obtain ⟨G3, S3, s3, st3, q3⟩ := Nw.own (T := T) st2.dropT.dropT n
    exact k z m2 w G3 H' S3 pz (s1.trans (s2.trans s3)) st3 q3
end
section
variable {K : PySem.W.Frag} {G H H' : Hp}
def D.df : D → Bool
  | .non => true
  | .int _ => true
  | _ => false
def vMinD : List D → List D → (D → Prop) → Prop
  | [.lst ds], [d], P => (ds = [] ∧ d.df = true ∧ P d) ∨ (∃ ns : List Int, ds = ns.map D.int ∧ ns ≠ [] ∧ ∀ m ∈ ns, (∀ y ∈ ns, m ≤ y) → P (.int m)) ∨ ∃ ns : List Str, ds = ns.map D.str ∧ ns ≠ [] ∧ ∀ m ∈ ns, (∀ y ∈ ns, ¬ y.cps.toList < m.cps.toList) → P (.str m)
  | _, _, _ => False
def vMaxD : List D → List D → (D → Prop) → Prop
  | [.lst ds], [d], P => (ds = [] ∧ d.df = true ∧ P d) ∨ (∃ ns : List Int, ds = ns.map D.int ∧ ns ≠ [] ∧ ∀ m ∈ ns, (∀ y ∈ ns, y ≤ m) → P (.int m)) ∨ ∃ ns : List Str, ds = ns.map D.str ∧ ns ≠ [] ∧ ∀ m ∈ ns, (∀ y ∈ ns, ¬ m.cps.toList < y.cps.toList) → P (.str m)
  | _, _, _ => False
theorem nw_df {v : V} {d : D} (h : Tp K G H v d) (e : d.df = true) : Nw K G H v H d := by
  cases d <;> first | exact absurd e Bool.false_ne_true | skip
  · cases h with | dd h => cases h; exact .old .non rfl
  · cases h with | dd h => cases h; exact .old (.int _) rfl
theorem k_minD : ClK K (rMinD K) vMinD := fun G H xs zs ds es P Q s h hz f k => by
  unfold vMinD at f
  split at f
  · obtain ⟨v, rfl, hv⟩ := h.inv1
    obtain ⟨u, rfl, hu⟩ := hz.inv1
    obtain ⟨a, vs, rfl, h1, q1⟩ := hv.l s
    rcases f with ⟨rfl, e, f⟩ | ⟨ns, rfl, hne, f⟩ | ⟨ns, rfl, hne, f⟩
    · cases q1
      exact ⟨a, u, [], rfl, rfl, SqL.of h1, .inl ⟨rfl, k _ _ _ f (nw_df hu e)⟩⟩
    · rw [ints_v q1] at h1
      exact ⟨a, u, _, rfl, rfl, SqL.of h1, .inr (.inl ⟨ns, rfl, hne, fun m hm hy => k _ _ _ (f m hm hy) (.old (.int _) rfl)⟩)⟩
    · rw [strs_v q1] at h1
      exact ⟨a, u, _, rfl, rfl, SqL.of h1, .inr (.inr ⟨ns, rfl, hne, fun m hm hy => k _ _ _ (f m hm hy) (.old (.str _) rfl)⟩)⟩
  · exact f.elim
theorem k_maxD : ClK K (rMaxD K) vMaxD := fun G H xs zs ds es P Q s h hz f k => by
  unfold vMaxD at f
  split at f
  · obtain ⟨v, rfl, hv⟩ := h.inv1
    obtain ⟨u, rfl, hu⟩ := hz.inv1
    obtain ⟨a, vs, rfl, h1, q1⟩ := hv.l s
    rcases f with ⟨rfl, e, f⟩ | ⟨ns, rfl, hne, f⟩ | ⟨ns, rfl, hne, f⟩
    · cases q1
      exact ⟨a, u, [], rfl, rfl, SqL.of h1, .inl ⟨rfl, k _ _ _ f (nw_df hu e)⟩⟩
    · rw [ints_v q1] at h1
      exact ⟨a, u, _, rfl, rfl, SqL.of h1, .inr (.inl ⟨ns, rfl, hne, fun m hm hy => k _ _ _ (f m hm hy) (.old (.int _) rfl)⟩)⟩
    · rw [strs_v q1] at h1
      exact ⟨a, u, _, rfl, rfl, SqL.of h1, .inr (.inr ⟨ns, rfl, hne, fun m hm hy => k _ _ _ (f m hm hy) (.old (.str _) rfl)⟩)⟩
  · exact f.elim
end
end Ps
namespace Ps
open PySem PySem.Spec PyProof.Rows L2
open PySem
section
variable {prog : Program} {w : World} {A : Around} {s : Shared} {I S l : Addr} {vs : List Value} {kw : List (Str × Value)} {R : Result → Shared → Prop}
theorem minT_loop {bt : Value → Value → Bool} (hh : A.handled = none) (M : Mm prog w A.in1 .Lt vs bt) (hlI : l ≠ I) (hSI : S ≠ I) (hlS : l ≠ S) :
    ∀ (r j : Nat) (s : Shared) (vb : Value) (c : Nat), vs.length - (j + 1) = r → j + 1 ≤ vs.length → s.heap.IsTupleIter I l (j + 1) → s.heap.IsTuple l vs.toArray → vb ∈ vs → (∀ u ∈ vs.take (j + 1), bt u vb = false) →
    s.heap.get? S = some { cls := .type "list", dict := none, data := .seq #[vb, vb] c, slots := #[] } →
    (∀ v h' tk, v ∈ vs → (∀ u ∈ vs, bt u v = false) → (∀ b o, b ≠ I → b ≠ S → s.heap.get? b = some o → h'.get? b = some o) → R (.ok (.ret v)) { s with heap := h', toks := tk }) →
    codeAny (model prog w) A (.builtin "min.loop" ⟨[.ref I, .none, .ref S], kw⟩) R s := by
  have hname : (toString "min" ++ toString ".loop" : String) = "min.loop" := by decide
  have W := Walks.tuple (prog := prog) (w := w) (A := A.in1) hh I l hlI vs.toArray
  have hsz : vs.toArray.size = vs.length := List.size_toArray ..
  have nw : ∀ b, b ≠ I → b ∉ [I] := fun b h q => h (List.mem_singleton.mp q)
  intro r
  induction r with
  | zero =>
    intro j s vb c hr hj hit hl hm hb hS hR
    have hin : j + 1 = vs.length := by omega
    refine codeAny_builtin F.entry_min_loop ?_
    rw [Around.under_plainId F.plain_min_loop _]
    show wpAny _ A.in1 (seqItems? (.ref S) >>= _) _ _ s
    refine wpAny_bind (wpAny_seqItems hS rfl ?_)
    show wpAny _ A.in1 (tryCatch (pyNext (.ref I)) _ >>= _) _ _ s
    refine wpAny_bind (wpAny_tryCatch (W.done s _ _ ⟨by rw [hsz, ← hin]; exact hit, hl⟩ fun h' tk hk' => ?_))
    have hS' := hk' S _ (nw S hSI) hS
    show wpAny _ A.in1 (updateSeq S (fun _ => #[]) >>= _) _ _ _
    refine wpAny_bind ?_
    refine wpAny_updateSeq hS' rfl (wpAny_bind (wpAny_letGo (wpAny_pure ?_)))
    refine hR vb _ tk hm (by rw [hin, List.take_length] at hb; exact hb) fun b o hbI hbS e => (Heap.get?_update_other _ _ (Ne.symm hbS)).trans (hk' b o (nw b hbI) e)
  | succ r ih =>
    intro j s vb c hr hj hit hl hm hb hS hR
    have hlt : j + 1 < vs.length := by omega
    refine codeAny_builtin F.entry_min_loop ?_
    rw [Around.under_plainId F.plain_min_loop _]
    show wpAny _ A.in1 (seqItems? (.ref S) >>= _) _ _ s
    refine wpAny_bind (wpAny_seqItems hS rfl ?_)
    show wpAny _ A.in1 (tryCatch (pyNext (.ref I)) _ >>= _) _ _ s
    refine wpAny_bind (wpAny_tryCatch (W.item (j + 1) s _ _ (by rw [hsz]; exact hlt) ⟨hit, hl⟩ fun v h' tk hP hst' hk' => ?_))
    have hP : vs[j + 1]? = some v := by simpa using hP
    have hv : v ∈ vs := List.mem_of_getElem? hP
    obtain ⟨hit', hl'⟩ := hst'
    have hS' := hk' S _ (nw S hSI) hS
    have ht : vs.take (j + 1 + 1) = vs.take (j + 1) ++ [v] := by rw [List.take_add_one, hP]; rfl
    show wpAny _ A.in1 (tryCatch (holding [v, v] (richCompare .Lt v vb >>= _)) _ >>= _) _ _ _
    refine wpAny_bind (wpAny_tryCatch (wpAny_holding (wpAny_bind (M.cmp v vb _ _ _ hv hm ?_))))
    refine wpAny_bind (wpAny_holding (wpAny_truthy_bool ?_))
    refine wpAny_bind (wpAny_letGo (wpAny_pure ?_))
    cases hbt : bt v vb with
    | true =>
      simp only [if_true]
      refine wpAny_bind ?_
      refine wpAny_updateSeq hS' rfl (wpAny_bind (wpAny_letGo ?_))
      rw [hname]
      refine wpAny_pure ⟨plainId_quiet F.plain_min_loop _, ih (j + 1) _ v _ (by omega) (by omega) (hit'.at fun o e => (Heap.get?_update_other _ _ hSI).trans e) (hl'.at fun o e => (Heap.get?_update_other _ _ (Ne.symm hlS)).trans e) hv (fun u hu => ?_) (Heap.get?_update_self _ hS' rfl)
        fun v' h'' tk'' p1 p2 hk'' => ?_⟩
      · rw [ht] at hu
        rcases List.mem_append.mp hu with hu | hu
        · cases q : bt u v with
          | false => rfl
          | true => exact absurd (hb u hu) (by rw [M.tr _ _ _ q hbt]; decide)
        · rw [List.mem_singleton.mp hu]; exact M.ir v hv
      · exact hR v' h'' tk'' p1 p2 fun b o hbI hbS e => hk'' b o hbI hbS ((Heap.get?_update_other _ _ (Ne.symm hbS)).trans (hk' b o (nw b hbI) e))
    | false =>
      simp only [Bool.false_eq_true, if_false]
      refine wpAny_bind (wpAny_letGo ?_)
      rw [hname]
      refine wpAny_pure ⟨plainId_quiet F.plain_min_loop _, ih (j + 1) _ vb c (by omega) (by omega) hit' hl' hm (fun u hu => ?_) hS' fun v' h'' tk'' p1 p2 hk'' => ?_⟩
      · rw [ht] at hu
        rcases List.mem_append.mp hu with hu | hu
        · exact hb u hu
        · rw [List.mem_singleton.mp hu]; exact hbt
      · exact hR v' h'' tk'' p1 p2 fun b o hbI hbS e => hk'' b o hbI hbS (hk' b o (nw b hbI) e)
theorem minT_args (a : Value) : argsOk "min" ⟨[a], []⟩ := by unfold argsOk; kernel_rfl
theorem minT_all {bt : Value → Value → Bool} {Q E : Value → Shared → Prop} (hh : A.handled = none) (hl : s.heap.IsTuple l vs.toArray) (M : Mm prog w A.in1 .Lt vs bt)
    (h0 : vs ≠ [])
    (hQ : ∀ v h' tk, v ∈ vs → (∀ u ∈ vs, bt u v = false) → (∀ b o, s.heap.get? b = some o → h'.get? b = some o) → Q v { s with heap := h', toks := tk }) :
    wpAny (model prog w) A (call (.builtin "min") [.ref l]) Q E s := by
  have hname : (toString "min" ++ toString ".loop" : String) = "min.loop" := by decide
  obtain ⟨ol, hol, _⟩ := id hl
  have hll : l < s.heap.objs.size := Heap.lt_size hol
  refine kmk_tree F.kind_min F.plain_min F.entry_min (minT_args _) ?_
  show wpAny _ A.in1 (Builtin.Builtins.bindParams "min" ["key", "default"] 0 ⟨[], []⟩ >>= _) _ _ s
  refine wpAny_bind (wpAny_of_eq (show Builtin.Builtins.bindParams "min" ["key", "default"] 0 ⟨[], []⟩ = pure [none, none] from rfl) ?_)
  refine wpAny_bind (wpAny_pure ?_)
  refine wpAny_bind (wpAny_pyIter_tuple hl ?_)
  refine wpAny_bind (wpAny_newList ?_ (Nat.zero_le _))
  rw [hname]
  have hS : (s.heap.push { cls := .type "tuple_iterator", data := .fields #[.ref l, .int 0 0] }).objs.size = s.heap.objs.size + 1 := Heap.size_push ..
  have hlI : l ≠ s.heap.objs.size := Nat.ne_of_lt hll
  have hSI : (s.heap.push { cls := .type "tuple_iterator", data := .fields #[.ref l, .int 0 0] }).objs.size ≠ s.heap.objs.size := by rw [hS]; exact Nat.ne_of_gt (Nat.lt_succ_self _)
  have hlS : l ≠ (s.heap.push { cls := .type "tuple_iterator", data := .fields #[.ref l, .int 0 0] }).objs.size := by rw [hS]; exact Nat.ne_of_lt (Nat.lt_succ_of_lt hll)
  refine wpAny_pure ⟨plainId_quiet F.plain_min_loop _, ?_⟩
  have gI : ((s.heap.push { cls := .type "tuple_iterator", data := .fields #[.ref l, .int 0 0] }).push (seqObj "list" #[] 0)).get? s.heap.objs.size = some { cls := .type "tuple_iterator", data := .fields #[.ref l, .int 0 0] } :=
    Heap.get?_push_of_some _ (Heap.get?_push_size _ rfl)
  have gS : ((s.heap.push { cls := .type "tuple_iterator", data := .fields #[.ref l, .int 0 0] }).push (seqObj "list" #[] 0)).get? (s.heap.push { cls := .type "tuple_iterator", data := .fields #[.ref l, .int 0 0] }).objs.size = some (seqObj "list" #[] 0) := Heap.get?_push_size _ rfl
  have old : ∀ b o, s.heap.get? b = some o → ((s.heap.push { cls := .type "tuple_iterator", data := .fields #[.ref l, .int 0 0] }).push (seqObj "list" #[] 0)).get? b = some o := fun b o e => Heap.get?_push_of_some _ (Heap.get?_push_of_some _ e)
  have oldI : ∀ b o, s.heap.get? b = some o → b ≠ s.heap.objs.size := fun b o e => Nat.ne_of_lt (Heap.lt_size e)
  have oldS : ∀ b o, s.heap.get? b = some o → b ≠ (s.heap.push { cls := .type "tuple_iterator", data := .fields #[.ref l, .int 0 0] }).objs.size := fun b o e => by rw [hS]; exact Nat.ne_of_lt (Nat.lt_succ_of_lt (Heap.lt_size e))
  have hit0 : ((s.heap.push { cls := .type "tuple_iterator", data := .fields #[.ref l, .int 0 0] }).push (seqObj "list" #[] 0)).IsTupleIter s.heap.objs.size l 0 := ⟨_, gI, rfl, rfl⟩
  have hl0 : ((s.heap.push { cls := .type "tuple_iterator", data := .fields #[.ref l, .int 0 0] }).push (seqObj "list" #[] 0)).IsTuple l vs.toArray := hl.at fun o e => old _ _ e
  have nw : ∀ b, b ≠ s.heap.objs.size → b ∉ [s.heap.objs.size] := fun b h q => h (List.mem_singleton.mp q)
  generalize (s.heap.push { cls := .type "tuple_iterator", data := .fields #[.ref l, .int 0 0] }).objs.size = S at *
  generalize ((s.heap.push { cls := .type "tuple_iterator", data := .fields #[.ref l, .int 0 0] }).push (seqObj "list" #[] 0)) = h1 at *
  generalize s.heap.objs.size = I at *
  have W := Walks.tuple (prog := prog) (w := w) (A := A.in1) hh I l hlI vs.toArray
  refine codeAny_builtin F.entry_min_loop ?_
  rw [Around.under_plainId F.plain_min_loop _]
  show wpAny _ A.in1 (seqItems? (.ref S) >>= _) _ _ _
  refine wpAny_bind (wpAny_seqItems gS rfl ?_)
  show wpAny _ A.in1 (tryCatch (pyNext (.ref I)) _ >>= _) _ _ _
  cases hvs : vs with
  | nil =>
    exact absurd hvs h0
  | cons v0 vr =>
    have hpos : 0 < vs.toArray.size := by rw [hvs]; simp
    refine wpAny_bind (wpAny_tryCatch (W.item 0 _ _ _ hpos ⟨hit0, hl0⟩ fun v h' tk hP hst' hk' => ?_))
    have hP : vs[0]? = some v := by simpa using hP
    have hv : v ∈ vs := List.mem_of_getElem? hP
    obtain ⟨hit', hl'⟩ := hst'
    have hS' := hk' S _ (nw S hSI) gS
    show wpAny _ A.in1 (updateSeq S (fun _ => #[v, v]) >>= _) _ _ _
    refine wpAny_bind ?_
    refine wpAny_updateSeq hS' rfl ?_
    rw [hname]
    refine wpAny_pure ⟨plainId_quiet F.plain_min_loop _, minT_loop hh M hlI hSI hlS _ 0 _ v _ rfl (by rw [hvs]; simp) (hit'.at fun o e => (Heap.get?_update_other _ _ hSI).trans e) (hl'.at fun o e => (Heap.get?_update_other _ _ (Ne.symm hlS)).trans e) hv (fun u hu => ?_) (Heap.get?_update_self _ hS' rfl) fun v' h'' tk'' p1 p2 hk'' => ?_⟩
    · rw [List.take_add_one, List.take_zero, hP] at hu
      rw [List.mem_singleton.mp hu]; exact M.ir v hv
    · exact hQ v' h'' tk'' p1 p2 fun b o e => hk'' b o (oldI b o e) (oldS b o e) ((Heap.get?_update_other _ _ (Ne.symm (oldS b o e))).trans (hk' b o (nw b (oldI b o e)) (old b o e)))
theorem maxT_loop {bt : Value → Value → Bool} (hh : A.handled = none) (M : Mm prog w A.in1 .Gt vs bt) (hlI : l ≠ I) (hSI : S ≠ I) (hlS : l ≠ S) :
    ∀ (r j : Nat) (s : Shared) (vb : Value) (c : Nat), vs.length - (j + 1) = r → j + 1 ≤ vs.length → s.heap.IsTupleIter I l (j + 1) → s.heap.IsTuple l vs.toArray → vb ∈ vs → (∀ u ∈ vs.take (j + 1), bt u vb = false) →
    s.heap.get? S = some { cls := .type "list", dict := none, data := .seq #[vb, vb] c, slots := #[] } →
    (∀ v h' tk, v ∈ vs → (∀ u ∈ vs, bt u v = false) → (∀ b o, b ≠ I → b ≠ S → s.heap.get? b = some o → h'.get? b = some o) → R (.ok (.ret v)) { s with heap := h', toks := tk }) →
    codeAny (model prog w) A (.builtin "max.loop" ⟨[.ref I, .none, .ref S], kw⟩) R s := by
  have hname : (toString "max" ++ toString ".loop" : String) = "max.loop" := by decide
  have W := Walks.tuple (prog := prog) (w := w) (A := A.in1) hh I l hlI vs.toArray
  have hsz : vs.toArray.size = vs.length := List.size_toArray ..
  have nw : ∀ b, b ≠ I → b ∉ [I] := fun b h q => h (List.mem_singleton.mp q)
  intro r
  induction r with
  | zero =>
    intro j s vb c hr hj hit hl hm hb hS hR
    have hin : j + 1 = vs.length := by omega
    refine codeAny_builtin F.entry_max_loop ?_
    rw [Around.under_plainId F.plain_max_loop _]
    show wpAny _ A.in1 (seqItems? (.ref S) >>= _) _ _ s
    refine wpAny_bind (wpAny_seqItems hS rfl ?_)
    show wpAny _ A.in1 (tryCatch (pyNext (.ref I)) _ >>= _) _ _ s
    refine wpAny_bind (wpAny_tryCatch (W.done s _ _ ⟨by rw [hsz, ← hin]; exact hit, hl⟩ fun h' tk hk' => ?_))
    have hS' := hk' S _ (nw S hSI) hS
    show wpAny _ A.in1 (updateSeq S (fun _ => #[]) >>= _) _ _ _
    refine wpAny_bind ?_
    refine wpAny_updateSeq hS' rfl (wpAny_bind (wpAny_letGo (wpAny_pure ?_)))
    refine hR vb _ tk hm (by rw [hin, List.take_length] at hb; exact hb) fun b o hbI hbS e => (Heap.get?_update_other _ _ (Ne.symm hbS)).trans (hk' b o (nw b hbI) e)
  | succ r ih =>
    intro j s vb c hr hj hit hl hm hb hS hR
    have hlt : j + 1 < vs.length := by omega
    refine codeAny_builtin F.entry_max_loop ?_
    rw [Around.under_plainId F.plain_max_loop _]
    show wpAny _ A.in1 (seqItems? (.ref S) >>= _) _ _ s
    refine wpAny_bind (wpAny_seqItems hS rfl ?_)
    show wpAny _ A.in1 (tryCatch (pyNext (.ref I)) _ >>= _) _ _ s
    refine wpAny_bind (wpAny_tryCatch (W.item (j + 1) s _ _ (by rw [hsz]; exact hlt) ⟨hit, hl⟩ fun v h' tk hP hst' hk' => ?_))
    have hP : vs[j + 1]? = some v := by simpa using hP
    have hv : v ∈ vs := List.mem_of_getElem? hP
    obtain ⟨hit', hl'⟩ := hst'
    have hS' := hk' S _ (nw S hSI) hS
    have ht : vs.take (j + 1 + 1) = vs.take (j + 1) ++ [v] := by rw [List.take_add_one, hP]; rfl
    show wpAny _ A.in1 (tryCatch (holding [v, v] (richCompare .Gt v vb >>= _)) _ >>= _) _ _ _
    refine wpAny_bind (wpAny_tryCatch (wpAny_holding (wpAny_bind (M.cmp v vb _ _ _ hv hm ?_))))
    refine wpAny_bind (wpAny_holding (wpAny_truthy_bool ?_))
    refine wpAny_bind (wpAny_letGo (wpAny_pure ?_))
    cases hbt : bt v vb with
    | true =>
      simp only [if_true]
      refine wpAny_bind ?_
      refine wpAny_updateSeq hS' rfl (wpAny_bind (wpAny_letGo ?_))
      rw [hname]
      refine wpAny_pure ⟨plainId_quiet F.plain_max_loop _, ih (j + 1) _ v _ (by omega) (by omega) (hit'.at fun o e => (Heap.get?_update_other _ _ hSI).trans e) (hl'.at fun o e => (Heap.get?_update_other _ _ (Ne.symm hlS)).trans e) hv (fun u hu => ?_) (Heap.get?_update_self _ hS' rfl)
        fun v' h'' tk'' p1 p2 hk'' => ?_⟩
      · rw [ht] at hu
        rcases List.mem_append.mp hu with hu | hu
        · cases q : bt u v with
          | false => rfl
          | true => exact absurd (hb u hu) (by rw [M.tr _ _ _ q hbt]; decide)
        · rw [List.mem_singleton.mp hu]; exact M.ir v hv
      · exact hR v' h'' tk'' p1 p2 fun b o hbI hbS e => hk'' b o hbI hbS ((Heap.get?_update_other _ _ (Ne.symm hbS)).trans (hk' b o (nw b hbI) e))
    | false =>
      simp only [Bool.false_eq_true, if_false]
      refine wpAny_bind (wpAny_letGo ?_)
      rw [hname]
      refine wpAny_pure ⟨plainId_quiet F.plain_max_loop _, ih (j + 1) _ vb c (by omega) (by omega) hit' hl' hm (fun u hu => ?_) hS' fun v' h'' tk'' p1 p2 hk'' => ?_⟩
      · rw [ht] at hu
        rcases List.mem_append.mp hu with hu | hu
        · exact hb u hu
        · rw [List.mem_singleton.mp hu]; exact hbt
      · exact hR v' h'' tk'' p1 p2 fun b o hbI hbS e => hk'' b o hbI hbS (hk' b o (nw b hbI) e)
theorem maxT_args (a : Value) : argsOk "max" ⟨[a], []⟩ := by unfold argsOk; kernel_rfl
theorem maxT_all {bt : Value → Value → Bool} {Q E : Value → Shared → Prop} (hh : A.handled = none) (hl : s.heap.IsTuple l vs.toArray) (M : Mm prog w A.in1 .Gt vs bt)
    (h0 : vs ≠ [])
    (hQ : ∀ v h' tk, v ∈ vs → (∀ u ∈ vs, bt u v = false) → (∀ b o, s.heap.get? b = some o → h'.get? b = some o) → Q v { s with heap := h', toks := tk }) :
    wpAny (model prog w) A (call (.builtin "max") [.ref l]) Q E s := by
  have hname : (toString "max" ++ toString ".loop" : String) = "max.loop" := by decide
  obtain ⟨ol, hol, _⟩ := id hl
  have hll : l < s.heap.objs.size := Heap.lt_size hol
  refine kmk_tree F.kind_max F.plain_max F.entry_max (maxT_args _) ?_
  show wpAny _ A.in1 (Builtin.Builtins.bindParams "max" ["key", "default"] 0 ⟨[], []⟩ >>= _) _ _ s
  refine wpAny_bind (wpAny_of_eq (show Builtin.Builtins.bindParams "max" ["key", "default"] 0 ⟨[], []⟩ = pure [none, none] from rfl) ?_)
  refine wpAny_bind (wpAny_pure ?_)
  refine wpAny_bind (wpAny_pyIter_tuple hl ?_)
  refine wpAny_bind (wpAny_newList ?_ (Nat.zero_le _))
  rw [hname]
  have hS : (s.heap.push { cls := .type "tuple_iterator", data := .fields #[.ref l, .int 0 0] }).objs.size = s.heap.objs.size + 1 := Heap.size_push ..
  have hlI : l ≠ s.heap.objs.size := Nat.ne_of_lt hll
  have hSI : (s.heap.push { cls := .type "tuple_iterator", data := .fields #[.ref l, .int 0 0] }).objs.size ≠ s.heap.objs.size := by rw [hS]; exact Nat.ne_of_gt (Nat.lt_succ_self _)
  have hlS : l ≠ (s.heap.push { cls := .type "tuple_iterator", data := .fields #[.ref l, .int 0 0] }).objs.size := by rw [hS]; exact Nat.ne_of_lt (Nat.lt_succ_of_lt hll)
  refine wpAny_pure ⟨plainId_quiet F.plain_max_loop _, ?_⟩
  have gI : ((s.heap.push { cls := .type "tuple_iterator", data := .fields #[.ref l, .int 0 0] }).push (seqObj "list" #[] 0)).get? s.heap.objs.size = some { cls := .type "tuple_iterator", data := .fields #[.ref l, .int 0 0] } :=
    Heap.get?_push_of_some _ (Heap.get?_push_size _ rfl)
  have gS : ((s.heap.push { cls := .type "tuple_iterator", data := .fields #[.ref l, .int 0 0] }).push (seqObj "list" #[] 0)).get? (s.heap.push { cls := .type "tuple_iterator", data := .fields #[.ref l, .int 0 0] }).objs.size = some (seqObj "list" #[] 0) := Heap.get?_push_size _ rfl
  have old : ∀ b o, s.heap.get? b = some o → ((s.heap.push { cls := .type "tuple_iterator", data := .fields #[.ref l, .int 0 0] }).push (seqObj "list" #[] 0)).get? b = some o := fun b o e => Heap.get?_push_of_some _ (Heap.get?_push_of_some _ e)
  have oldI : ∀ b o, s.heap.get? b = some o → b ≠ s.heap.objs.size := fun b o e => Nat.ne_of_lt (Heap.lt_size e)
  have oldS : ∀ b o, s.heap.get? b = some o → b ≠ (s.heap.push { cls := .type "tuple_iterator", data := .fields #[.ref l, .int 0 0] }).objs.size := fun b o e => by rw [hS]; exact Nat.ne_of_lt (Nat.lt_succ_of_lt (Heap.lt_size e))
  have hit0 : ((s.heap.push { cls := .type "tuple_iterator", data := .fields #[.ref l, .int 0 0] }).push (seqObj "list" #[] 0)).IsTupleIter s.heap.objs.size l 0 := ⟨_, gI, rfl, rfl⟩
  have hl0 : ((s.heap.push { cls := .type "tuple_iterator", data := .fields #[.ref l, .int 0 0] }).push (seqObj "list" #[] 0)).IsTuple l vs.toArray := hl.at fun o e => old _ _ e
  have nw : ∀ b, b ≠ s.heap.objs.size → b ∉ [s.heap.objs.size] := fun b h q => h (List.mem_singleton.mp q)
  generalize (s.heap.push { cls := .type "tuple_iterator", data := .fields #[.ref l, .int 0 0] }).objs.size = S at *
  generalize ((s.heap.push { cls := .type "tuple_iterator", data := .fields #[.ref l, .int 0 0] }).push (seqObj "list" #[] 0)) = h1 at *
  generalize s.heap.objs.size = I at *
  have W := Walks.tuple (prog := prog) (w := w) (A := A.in1) hh I l hlI vs.toArray
  refine codeAny_builtin F.entry_max_loop ?_
  rw [Around.under_plainId F.plain_max_loop _]
  show wpAny _ A.in1 (seqItems? (.ref S) >>= _) _ _ _
  refine wpAny_bind (wpAny_seqItems gS rfl ?_)
  show wpAny _ A.in1 (tryCatch (pyNext (.ref I)) _ >>= _) _ _ _
  cases hvs : vs with
  | nil =>
    exact absurd hvs h0
  | cons v0 vr =>
    have hpos : 0 < vs.toArray.size := by rw [hvs]; simp
    refine wpAny_bind (wpAny_tryCatch (W.item 0 _ _ _ hpos ⟨hit0, hl0⟩ fun v h' tk hP hst' hk' => ?_))
    have hP : vs[0]? = some v := by simpa using hP
    have hv : v ∈ vs := List.mem_of_getElem? hP
    obtain ⟨hit', hl'⟩ := hst'
    have hS' := hk' S _ (nw S hSI) gS
    show wpAny _ A.in1 (updateSeq S (fun _ => #[v, v]) >>= _) _ _ _
    refine wpAny_bind ?_
    refine wpAny_updateSeq hS' rfl ?_
    rw [hname]
    refine wpAny_pure ⟨plainId_quiet F.plain_max_loop _, maxT_loop hh M hlI hSI hlS _ 0 _ v _ rfl (by rw [hvs]; simp) (hit'.at fun o e => (Heap.get?_update_other _ _ hSI).trans e) (hl'.at fun o e => (Heap.get?_update_other _ _ (Ne.symm hlS)).trans e) hv (fun u hu => ?_) (Heap.get?_update_self _ hS' rfl) fun v' h'' tk'' p1 p2 hk'' => ?_⟩
    · rw [List.take_add_one, List.take_zero, hP] at hu
      rw [List.mem_singleton.mp hu]; exact M.ir v hv
    · exact hQ v' h'' tk'' p1 p2 fun b o e => hk'' b o (oldI b o e) (oldS b o e) ((Heap.get?_update_other _ _ (Ne.symm (oldS b o e))).trans (hk' b o (nw b (oldI b o e)) (old b o e)))
end
def rMinU (K : PySem.W.Frag) : List V → Hp → VK → Prop := fun vs H Q => rMin K vs H Q ∨ ∃ (a : Addr) (ns : List Int), vs = [V.ref a] ∧ SqT K H a (ns.map V.int) ∧ 0 < ns.length ∧ ∀ m, m ∈ ns → (∀ y, y ∈ ns → m ≤ y) → Q (.int m) H
theorem cr_minU {X : Cx} (hc : X.calm = true) : CallR X (.builtin "min") (rMinU X.K) := callr_or (cr_min hc) (by
  intro pins s σ H vs us Q I r h
  obtain ⟨a, ns, rfl, hs, hne, q⟩ := h
  obtain rfl := Vals.ref1 r
  obtain ⟨its, rv, hl, hz⟩ := I.tuple hs
  obtain ⟨h1, h2⟩ := vals_int rv
  obtain ⟨o, ho, hcl, n, hd⟩ := id hl
  refine minT_all (I.ok.hd hc) ⟨o, ho, hcl, n, hd⟩ (mm_ints_lt fun u h => let ⟨i, t, e, _⟩ := h1 u h; ⟨i, t, e⟩) (fun e => ?_) fun v h' tk hv hb hk => ?_
  · subst e
    cases ns with
    | nil => exact absurd hne (Nat.lt_irrefl _)
    | cons n ns => cases rv
  · obtain ⟨i, t, rfl, him⟩ := h1 v hv
    refine ⟨.int i, H, I.kept (t' := tk) hk, ⟨t, rfl⟩, q i him fun y hy => ?_⟩
    obtain ⟨t2, hy2⟩ := h2 y hy
    have := hb _ hy2
    exact Int.not_lt.mp (of_decide_eq_false (p := y < i) this))
def vMinU : List D → (D → Prop) → Prop
  | [.lst ds], P => vMin1 [.lst ds] P
  | [.tup ds], P => vMin1 [.lst ds] P
  | _, _ => False
theorem l_minU {K : PySem.W.Frag} : ClV K (rMinU K) vMinU := fun G H xs ds P Q s h f k => by
  unfold vMinU at f
  split at f
  · exact .inl (l_min1 G H xs _ P Q s h f k)
  · obtain ⟨v, rfl, h'⟩ := h.inv1
    obtain ⟨ns, rfl, h0, f⟩ := f
    obtain ⟨a, vs, rfl, _, h1, h2⟩ := h'.t s
    obtain rfl := ints_ddZ h2
    exact .inr ⟨a, ns, rfl, h1, h0, fun m h3 h4 => k _ _ _ (f m h3 h4) (.old (.int _) rfl)⟩
  · exact f.elim
theorem e_minUL {ds : List D} {Z : D → Prop} (h : vMin1 [.lst ds] Z) : vMinU [.lst ds] Z := h
theorem e_minUT {ds : List D} {Z : D → Prop} (h : vMin1 [.lst ds] Z) : vMinU [.tup ds] Z := h
def rMaxU (K : PySem.W.Frag) : List V → Hp → VK → Prop := fun vs H Q => rMax K vs H Q ∨ ∃ (a : Addr) (ns : List Int), vs = [V.ref a] ∧ SqT K H a (ns.map V.int) ∧ 0 < ns.length ∧ ∀ m, m ∈ ns → (∀ y, y ∈ ns → y ≤ m) → Q (.int m) H
theorem cr_maxU {X : Cx} (hc : X.calm = true) : CallR X (.builtin "max") (rMaxU X.K) := callr_or (cr_max hc) (by
  intro pins s σ H vs us Q I r h
  obtain ⟨a, ns, rfl, hs, hne, q⟩ := h
  obtain rfl := Vals.ref1 r
  obtain ⟨its, rv, hl, hz⟩ := I.tuple hs
  obtain ⟨h1, h2⟩ := vals_int rv
  obtain ⟨o, ho, hcl, n, hd⟩ := id hl
  refine maxT_all (I.ok.hd hc) ⟨o, ho, hcl, n, hd⟩ (mm_ints_gt fun u h => let ⟨i, t, e, _⟩ := h1 u h; ⟨i, t, e⟩) (fun e => ?_) fun v h' tk hv hb hk => ?_
  · subst e
    cases ns with
    | nil => exact absurd hne (Nat.lt_irrefl _)
    | cons n ns => cases rv
  · obtain ⟨i, t, rfl, him⟩ := h1 v hv
    refine ⟨.int i, H, I.kept (t' := tk) hk, ⟨t, rfl⟩, q i him fun y hy => ?_⟩
    obtain ⟨t2, hy2⟩ := h2 y hy
    have := hb _ hy2
    exact Int.not_lt.mp (of_decide_eq_false (p := i < y) this))
def vMaxU : List D → (D → Prop) → Prop
  | [.lst ds], P => vMax1 [.lst ds] P
  | [.tup ds], P => vMax1 [.lst ds] P
  | _, _ => False
theorem l_maxU {K : PySem.W.Frag} : ClV K (rMaxU K) vMaxU := fun G H xs ds P Q s h f k => by
  unfold vMaxU at f
  split at f
  · exact .inl (l_max1 G H xs _ P Q s h f k)
  · obtain ⟨v, rfl, h'⟩ := h.inv1
    obtain ⟨ns, rfl, h0, f⟩ := f
    obtain ⟨a, vs, rfl, _, h1, h2⟩ := h'.t s
    obtain rfl := ints_ddZ h2
    exact .inr ⟨a, ns, rfl, h1, h0, fun m h3 h4 => k _ _ _ (f m h3 h4) (.old (.int _) rfl)⟩
  · exact f.elim
theorem e_maxUL {ds : List D} {Z : D → Prop} (h : vMax1 [.lst ds] Z) : vMaxU [.lst ds] Z := h
theorem e_maxUT {ds : List D} {Z : D → Prop} (h : vMax1 [.lst ds] Z) : vMaxU [.tup ds] Z := h
end Ps
namespace Ps
open PySem PySem.Spec PyProof.Rows L2
def vMinLenS (va : VE) : VE := fun env m P => va env m fun x m1 => ∃ ps : List (Addr × List D), x = .lst (ps.map fun p => .adr p.1) ∧ 0 < ps.length ∧ (∀ p ∈ ps, m1.2 p.1 = some (.lst p.2)) ∧ ∀ (i : Nat) (p : Addr × List D), ps[i]? = some p → (∀ (j : Nat) (p' : Addr × List D), ps[j]? = some p' → p.2.length ≤ p'.2.length ∧ (j < i → p.2.length < p'.2.length)) → P (.adr p.1) m1
section
variable {c : JC} {Γ : List OT} {env : Env} {m : Mst}
theorem s_minLenS {te : TE} {ve : VE} (he : SB c Γ te ve) : SF c Γ (tMinLen c.K (tCons te tNil)) (vMinLenS ve) := fun T G H S env σ m P Q st hv k =>
  he.tp st hv fun x m1 v G1 H1 S1 p1 s1 st1 t1 => by
    obtain ⟨ps, rfl, hne, hst, p⟩ := p1
    obtain ⟨a, vs, rfl, h1, h2⟩ := t1.l st1.v
    have hlen := h2.len
    rw [List.length_map] at hlen
    have at1 : ∀ (i : Nat) (q : Addr × List D), ps[i]? = some q → vs[i]? = some (.ref q.1) ∧ ∃ us, H1 q.1 = some (.lst us) ∧ us.length = q.2.length := fun i q e => by
      obtain ⟨u, hu, hq⟩ := h2.get (i := i) (d := .adr q.1) (by rw [List.getElem?_map, e]; rfl)
      obtain rfl := dd_adr hq
      obtain ⟨us, g1, g2⟩ := st1.storedL (hst q (List.mem_of_getElem? e))
      exact ⟨hu, us, g1, g2.len⟩
    let f : Addr × List D → List V := fun q => match H1 q.1 with | some (.lst us) => us | _ => []
    have at2 : ∀ (i : Nat) (q : Addr × List D), ps[i]? = some q → H1 q.1 = some (.lst (f q)) ∧ (f q).length = q.2.length := fun i q e => by
      obtain ⟨_, us, g1, g2⟩ := at1 i q e
      have ef : f q = us := by show (match H1 q.1 with | some (.lst us) => us | _ => []) = us; rw [g1]
      rw [ef]; exact ⟨g1, g2⟩
    refine ⟨a, vs, ps.map f, rfl, SqL.of h1, by rw [List.length_map]; omega, by first | omega | (rw [List.length_map]; omega), fun i x l hx hl => ?_, fun i x l hx hl hb => ?_⟩
    · rw [List.getElem?_map] at hl
      obtain ⟨q, e, rfl⟩ := Option.map_eq_some_iff.mp hl
      obtain ⟨g, _⟩ := at1 i q e
      rw [hx] at g; cases g
      exact ⟨_, rfl, SqL.of (at2 i q e).1⟩
    · rw [List.getElem?_map] at hl
      obtain ⟨q, e, rfl⟩ := Option.map_eq_some_iff.mp hl
      obtain ⟨g, _⟩ := at1 i q e
      rw [hx] at g; cases g
      refine k _ m1 _ G1 H1 (p i q e fun j q' ej => ?_) s1 st1.dropT (.adr q.1)
      obtain ⟨b1, b2⟩ := hb j (f q') (by rw [List.getElem?_map, ej]; rfl)
      have l1 := (at2 i q e).2
      have l2 := (at2 j q' ej).2
      exact ⟨by omega, fun h => by have := b2 h; omega⟩
theorem e_minLenS {ve : VE} {P : D → Mst → Prop} (h : ve env m fun x m1 => ∃ ps : List (Addr × List D), x = .lst (ps.map fun p => .adr p.1) ∧ 0 < ps.length ∧ (∀ p ∈ ps, m1.2 p.1 = some (.lst p.2)) ∧ ∀ (i : Nat) (p : Addr × List D), ps[i]? = some p → (∀ (j : Nat) (p' : Addr × List D), ps[j]? = some p' → p.2.length ≤ p'.2.length ∧ (j < i → p.2.length < p'.2.length)) → P (.adr p.1) m1) : vMinLenS ve env m P := h
end
end Ps
namespace Ps
open PySem PySem.Spec PyProof.Rows L2
def sev (r : Nat) : List Int := if r < 128 then [(r : Int)] else ((r % 128 + 128 : Nat) : Int) :: sev (r / 128)
termination_by r
decreasing_by omega
theorem sev_lt {r : Nat} (h : r < 128) : sev r = [(r : Int)] := by rw [sev, if_pos h]
theorem sev_ge {r : Nat} (h : ¬ r < 128) : sev r = ((r % 128 + 128 : Nat) : Int) :: sev (r / 128) := by rw [sev, if_neg h]
def zz (n : Int) : Nat := if n < 0 then (-2 * n - 1).toNat else (2 * n).toNat
def nb (n : Int) : List Int := sev (zz n)
theorem sev_len : ∀ (k r : Nat), r < 128 ^ (k + 1) → (sev r).length ≤ k + 1
  | k, r, h => by
    by_cases c : r < 128
    · rw [sev_lt c]; simp
    · cases k with
      | zero => omega
      | succ k =>
        rw [sev_ge c, List.length_cons]
        have q := sev_len k (r / 128) (by rw [Nat.pow_succ] at h; exact Nat.div_lt_of_lt_mul (by rw [Nat.mul_comm]; exact h))
        omega
theorem nb_len {n : Int} (h : n.natAbs < 2 ^ 200) : (nb n).length ≤ 30 := by
  refine sev_len 29 _ ?_
  have : (2 : Nat) * 2 ^ 200 ≤ 128 ^ 30 := by decide
  unfold zz
  split <;> omega
inductive Rd (α : Type) where
  | got (x : α) (j : Nat)
  | bad (w : Str)
end Ps
namespace Ps
open PySem PySem.Spec PyProof.Rows L2
def signs : Str := (" !\"#$&'()*+,-./0123456789:;<=>?@ABCDEFGHIJKLMNOPQRSTUVWXYZ[\\]^_`abcdefghijklmnopqrstuvwxyz{|}~" : Str)
def sg (k : Nat) : Nat := signs.cps.toList.getD k 0
def txt (ks : List Nat) : Str := ⟨(ks.map sg).toArray⟩
theorem signs_list : signs.cps.toList.length = 94 := by decide +kernel
theorem sg_occ : ∀ k : Fin 94, Builtin.Str.occurrences signs ⟨#[sg k.val]⟩ 0 signs.length 1 = [k.val] := by decide +kernel
theorem txt_len (ks : List Nat) : (txt ks).length = ks.length := by
  show (ks.map sg).toArray.size = _
  rw [List.size_toArray, List.length_map]
theorem txt_cps (ks : List Nat) : (txt ks).cps.toList = ks.map sg := by simp [txt]
theorem sg_inj : ∀ k l : Fin 94, sg k.val = sg l.val → k = l := by decide +kernel
def IsT (n : Nat) (z : Str) : Prop := ∃ ks : List Nat, z = txt ks ∧ ks.length ≤ n ∧ ∀ k ∈ ks, k < 94
def okT (n : Nat) (z : Str) : Bool := z.cps.toList.all (fun c => signs.cps.toList.contains c) && decide (z.length ≤ n)
theorem sg_of {c : Nat} (h : signs.cps.toList.contains c = true) : ∃ k, k < 94 ∧ sg k = c := by
  have hm : c ∈ signs.cps.toList := by simpa using h
  obtain ⟨k, hk, e⟩ := List.getElem_of_mem hm
  refine ⟨k, by rw [signs_list] at hk; exact hk, ?_⟩
  unfold sg
  rw [List.getD_eq_getElem?_getD, List.getElem?_eq_getElem hk, e]
  rfl
theorem isT_list : ∀ cs : List Nat, (∀ c ∈ cs, signs.cps.toList.contains c = true) → ∃ ks : List Nat, cs = ks.map sg ∧ ∀ k ∈ ks, k < 94
  | [], _ => ⟨[], rfl, by simp⟩
  | c :: r, h => by
    obtain ⟨k, hk, e⟩ := sg_of (h c List.mem_cons_self)
    obtain ⟨ks, e2, h2⟩ := isT_list r fun x hx => h x (List.mem_cons_of_mem _ hx)
    exact ⟨k :: ks, by rw [List.map_cons, e, ← e2], fun x hx => (List.mem_cons.mp hx).elim (fun z => z ▸ hk) (h2 x)⟩
theorem okT_is {n : Nat} {z : Str} (h : okT n z = true) : IsT n z := by
  unfold okT at h
  obtain ⟨h1, h2⟩ := Bool.and_eq_true_iff.mp h
  obtain ⟨ks, e, hk⟩ := isT_list z.cps.toList (List.all_eq_true.mp h1)
  have hz : z = txt ks := by
    obtain ⟨arr⟩ := z
    unfold txt
    rw [← e]
  refine ⟨ks, hz, ?_, hk⟩
  have := of_decide_eq_true h2
  rw [hz, txt_len] at this
  exact this
end Ps
namespace Ps
open PySem PySem.Spec PyProof.Rows L2
def num (b : Nat) : List Nat → Nat
  | [] => 0
  | x :: r => x + b * num b r
def dig (b : Nat) : Nat → Nat → List Nat
  | 0, _ => []
  | k + 1, r => r % b :: dig b k (r / b)
theorem dig_len (b : Nat) : ∀ k r, (dig b k r).length = k
  | 0, _ => rfl
  | k + 1, r => by rw [dig, List.length_cons, dig_len b k]
theorem dig_lt {b : Nat} (hb : 0 < b) : ∀ k r, ∀ x ∈ dig b k r, x < b
  | 0, _, x, h => by cases h
  | k + 1, r, x, h => by
    rcases List.mem_cons.mp h with e | h
    · rw [e]; exact Nat.mod_lt _ hb
    · exact dig_lt hb k _ x h
theorem num_lt {b : Nat} (hb : 0 < b) : ∀ xs : List Nat, (∀ x ∈ xs, x < b) → num b xs < b ^ xs.length
  | [], _ => by simp [num]
  | x :: r, h => by
    have q := num_lt hb r fun y hy => h y (List.mem_cons_of_mem _ hy)
    have q2 := h x List.mem_cons_self
    rw [num, List.length_cons, Nat.pow_succ, Nat.mul_comm _ b]
    calc x + b * num b r < b + b * num b r := by omega
      _ = b * (num b r + 1) := by rw [Nat.mul_add, Nat.mul_one, Nat.add_comm]
      _ ≤ b * b ^ r.length := Nat.mul_le_mul_left _ q
theorem num_dig {b : Nat} (hb : 0 < b) : ∀ k r, num b (dig b k r) = r % b ^ k
  | 0, r => by rw [dig, num, Nat.pow_zero, Nat.mod_one]
  | k + 1, r => by rw [dig, num, num_dig hb k, Nat.pow_succ, Nat.mul_comm _ b, Nat.mod_mul]
theorem num_append (b : Nat) : ∀ xs ys : List Nat, num b (xs ++ ys) = num b xs + b ^ xs.length * num b ys
  | [], ys => by simp [num]
  | x :: r, ys => by
    rw [List.cons_append, num, num, num_append b r ys, List.length_cons, Nat.pow_succ, Nat.mul_add, Nat.mul_comm _ b, Nat.mul_assoc]
    omega
theorem dig_snoc (b : Nat) : ∀ k r, dig b (k + 1) r = dig b k r ++ [r / b ^ k % b]
  | 0, r => by simp [dig]
  | k + 1, r => by
    show r % b :: dig b (k + 1) (r / b) = (r % b :: dig b k (r / b)) ++ _
    rw [dig_snoc b k, List.cons_append, Nat.div_div_eq_div_mul, ← Nat.pow_succ']
theorem num_two (w : Nat) : ∀ xs : List Nat, (∀ x ∈ xs, x < 2 ^ w) → num 2 (xs.flatMap (dig 2 w)) = num (2 ^ w) xs
  | [], _ => rfl
  | x :: r, h => by
    rw [List.flatMap_cons, num_append, num_dig (by decide), dig_len, Nat.mod_eq_of_lt (h x List.mem_cons_self), num_two w r fun y hy => h y (List.mem_cons_of_mem _ hy), num]
def bcn (n w : Nat) : Nat := (n * w + 7) / 8
def pk (xs : List Nat) (w : Nat) : List Nat := dig 256 (bcn xs.length w) (num (2 ^ w) xs)
theorem pk_len (xs : List Nat) (w : Nat) : (pk xs w).length = bcn xs.length w := dig_len _ _ _
theorem num_split (b : Nat) (xs : List Nat) (k : Nat) : num b xs = num b (xs.take k) + b ^ (xs.take k).length * num b (xs.drop k) := by
  conv => lhs; rw [← List.take_append_drop k xs]
  exact num_append b _ _
def bytesOf (bits : List Nat) (n : Nat) : List Nat := (List.range n).map fun i => num 2 ((bits.drop (8 * i)).take 8)
theorem bytes_dig : ∀ (n : Nat) (bits : List Nat), (∀ x ∈ bits, x < 2) → bytesOf bits n = dig 256 n (num 2 bits)
  | 0, _, _ => rfl
  | n + 1, bits, h => by
    unfold bytesOf
    rw [List.range_succ_eq_map, List.map_cons, List.map_map, dig]
    have h1 : num 2 (bits.take 8) < 256 := by
      have := num_lt (by decide : 0 < 2) (bits.take 8) fun x hx => h x (List.mem_of_mem_take hx)
      have h2 : 2 ^ (bits.take 8).length ≤ 2 ^ 8 := Nat.pow_le_pow_right (by decide) (by rw [List.length_take]; omega)
      omega
    have e : num 2 bits = num 2 (bits.take 8) + 256 * num 2 (bits.drop 8) := by
      by_cases c : bits.length ≤ 8
      · rw [List.drop_eq_nil_of_le c, List.take_of_length_le c, num, Nat.mul_zero, Nat.add_zero]
      · have q := num_split 2 bits 8
        rw [show (bits.take 8).length = 8 by rw [List.length_take]; omega] at q
        exact q
    congr 1
    · rw [Nat.mul_zero, List.drop_zero, e]; omega
    · have e2 : num 2 bits / 256 = num 2 (bits.drop 8) := by rw [e]; omega
      rw [e2, ← bytes_dig n (bits.drop 8) fun x hx => h x (List.mem_of_mem_drop hx)]
      unfold bytesOf
      refine List.map_congr_left fun i _ => ?_
      show num 2 ((bits.drop (8 * (i + 1))).take 8) = _
      rw [List.drop_drop, show 8 * (i + 1) = 8 + 8 * i by omega]
theorem bits_len (w : Nat) : ∀ xs : List Nat, (xs.flatMap (dig 2 w)).length = xs.length * w
  | [] => by simp
  | x :: r => by rw [List.flatMap_cons, List.length_append, dig_len, bits_len w r, List.length_cons, Nat.add_mul, Nat.one_mul, Nat.add_comm]
theorem bits_two (w : Nat) (xs : List Nat) : ∀ x ∈ xs.flatMap (dig 2 w), x < 2 := fun x hx => by
  obtain ⟨y, _, h⟩ := List.mem_flatMap.mp hx
  exact dig_lt (by decide) _ _ x h
theorem pk_bits {xs : List Nat} {w : Nat} (h : ∀ x ∈ xs, x < 2 ^ w) : bytesOf (xs.flatMap (dig 2 w)) (bcn xs.length w) = pk xs w := by
  rw [bytes_dig _ _ (bits_two w xs), num_two w xs h]
  rfl
def bl (n : Nat) : Nat := if n = 0 then 0 else bl (n / 2) + 1
termination_by n
decreasing_by omega
theorem bl_zero : bl 0 = 0 := by rw [bl, if_pos rfl]
theorem bl_pos {n : Nat} (h : 0 < n) : bl n = bl (n / 2) + 1 := by rw [bl, if_neg (by omega)]
theorem bl_le : ∀ (w n : Nat), n < 2 ^ w → bl n ≤ w
  | w, n, h => by
    by_cases c : n = 0
    · rw [c, bl_zero]; omega
    · cases w with
      | zero => simp at h; omega
      | succ w =>
        rw [bl_pos (by omega)]
        have := bl_le w (n / 2) (by rw [Nat.pow_succ] at h; omega)
        omega
theorem bl_lt (n : Nat) : n < 2 ^ bl n := by
  by_cases c : n = 0
  · rw [c, bl_zero]; decide
  · rw [bl_pos (by omega), Nat.pow_succ]
    have := bl_lt (n / 2)
    omega
termination_by n
decreasing_by omega
def ins (xs : List Nat) : List Int := xs.map fun x : Nat => (x : Int)
theorem ins_len (xs : List Nat) : (ins xs).length = xs.length := List.length_map _
theorem ins_get {xs : List Nat} {i : Nat} {b : Int} (h : (ins xs)[i]? = some b) : ∃ x : Nat, xs[i]? = some x ∧ b = x := by
  unfold ins at h
  rw [List.getElem?_map] at h
  cases e : xs[i]? with
  | none => rw [e] at h; cases h
  | some x => rw [e] at h; exact ⟨x, rfl, (Option.some.inj h).symm⟩
theorem ins_append (xs ys : List Nat) : ins (xs ++ ys) = ins xs ++ ins ys := List.map_append
theorem num_cut {b : Nat} {xs : List Nat} {i x : Nat} (h : xs[xs.length - 1 - i]? = some x) (hi : i < xs.length) : num b (xs.drop (xs.length - (i + 1))) = num b (xs.drop (xs.length - i)) * b + x := by
  have e : xs.length - 1 - i = xs.length - (i + 1) := by omega
  rw [e] at h
  obtain ⟨h1, h2⟩ := List.getElem?_eq_some_iff.mp h
  rw [List.drop_eq_getElem_cons h1, num, h2, show xs.length - (i + 1) + 1 = xs.length - i by omega, Nat.mul_comm b]
  omega
end Ps
namespace Ps
open PySem PySem.Spec PyProof.Rows L2
inductive Cel where
  | non
  | num (z : Int)
  | txt (ks : List Nat)
  deriving DecidableEq
def tb (ks : List Nat) : List Int := nb ks.length ++ ins ks
def cb : Cel → List Int
  | .non => [0]
  | .num z => 1 :: nb z
  | .txt ks => 2 :: tb ks
def okC : Cel → Prop
  | .non => True
  | .num z => z.natAbs < 2 ^ 200
  | .txt ks => ks.length ≤ 1000 ∧ ∀ k ∈ ks, k < 94
theorem tb_len {ks : List Nat} (h : ks.length ≤ 1000) : (tb ks).length ≤ 1030 := by
  unfold tb
  rw [List.length_append, ins_len]
  have := nb_len (n := (ks.length : Int)) (by rw [Int.natAbs_natCast]; exact Nat.lt_of_le_of_lt h (by decide))
  omega
end Ps
namespace Ps
open PySem PySem.Spec PyProof.Rows L2
local macro_rules | `(tactic| walk_at "v1") => `(tactic| first
  | ((with_reducible refine' e_ipmI ?hx ?_); (case hx => first | exact .inl (.inr ⟨by decide, by decide⟩) | exact .inl (.inl ⟨by decide, by decide⟩)))
  | (with_reducible refine e_isN ?_)
  | (with_reducible refine e_notN ?_)
  | fail)
local macro_rules | `(tactic| walk_at "v1") => `(tactic| first
  | ((with_reducible refine' e_isi (b := false) ?hx ?hy ?_); (case hx => exact rfl); (case hy => first | exact rfl | decide))
  | ((with_reducible refine' e_modI ?hx ?_); (case hx => decide))
  | ((with_reducible refine' e_divI ?hx ?_); (case hx => exact .inl ⟨by decide, by decide⟩))
  | ((with_reducible refine' e_mulI ?hx ?_); (case hx => first | exact .inl (.inr ⟨by decide, by decide⟩) | exact .inl (.inl ⟨by decide, by decide⟩)))
  | fail)
local macro_rules | `(tactic| walk_at "v1") => `(tactic| first
  | ((with_reducible refine' e_gtup ?hx ?_); (case hx => exact rfl))
  | ((with_reducible refine' e_gtupU ?hx ?_); (case hx => exact rfl))
  | ((with_reducible refine' e_gtupL ?hx ?_); (case hx => exact rfl))
  | ((with_reducible refine' e_isi (b := true) ?hx ?hy ?_); (case hx => exact rfl); (case hy => first | exact rfl | decide))
  | fail)
local macro_rules | `(tactic| walk_at "v1") => `(tactic| first
  | ((with_reducible refine' e_aug ?hx ?_); (case hx => exact rfl))
  | ((with_reducible refine' e_app ?hx ?_); (case hx => exact rfl))
  | ((with_reducible refine' e_mut ?hx ?_); (case hx => exact rfl))
  | ((with_reducible refine' e_len ?hx ?_); (case hx => exact rfl))
  | fail)
local macro_rules | `(tactic| walk_at "v1") => `(tactic| first
  | (with_reducible refine w_ifT ?_)
  | (with_reducible refine w_ifF ?_)
  | (with_reducible refine w_ifNF ?_)
  | (with_reducible refine w_ifNT ?_)
  | fail)
local macro_rules | `(tactic| walk_at "v1") => `(tactic| first
  | (with_reducible refine e_enum ?_)
  | (with_reducible refine e_rev ?_)
  | (with_reducible refine e_for ?_)
  | (with_reducible refine e_lc ?_)
  | fail)
local macro_rules | `(tactic| walk_at "v1") => `(tactic| first
  | (with_reducible refine e_ntNt ?_)
  | (with_reducible refine e_rng1 ?_)
  | (with_reducible refine e_rng2 ?_)
  | (with_reducible refine e_zip ?_)
  | fail)
local macro_rules | `(tactic| walk_at "v1") => `(tactic| first
  | (with_reducible refine e_ntNn ?_)
  | (with_reducible refine e_ntNi ?_)
  | (with_reducible refine e_ntNs ?_)
  | (with_reducible refine e_ntNl ?_)
  | fail)
local macro_rules | `(tactic| walk_at "v1") => `(tactic| first
  | (with_reducible refine e_isNs ?_)
  | (with_reducible refine e_isNl ?_)
  | (with_reducible refine e_isNt ?_)
  | (with_reducible refine e_isNb ?_)
  | fail)
local macro_rules | `(tactic| walk_at "v1") => `(tactic| first
  | (with_reducible refine e_truL ?_)
  | (with_reducible refine e_truT ?_)
  | (with_reducible refine e_isNn ?_)
  | (with_reducible refine e_isNi ?_)
  | fail)
local macro_rules | `(tactic| walk_at "v1") => `(tactic| first
  | (with_reducible refine e_tru ?_)
  | (with_reducible refine e_truB ?_)
  | (with_reducible refine e_truN ?_)
  | (with_reducible refine e_truI ?_)
  | fail)
local macro_rules | `(tactic| walk_at "v1") => `(tactic| first
  | (with_reducible refine e_itET ?_)
  | (with_reducible refine e_itES ?_)
  | (with_reducible refine e_itVL ?_)
  | (with_reducible refine e_itVT ?_)
  | fail)
local macro_rules | `(tactic| walk_at "v1") => `(tactic| first
  | (with_reducible refine e_rg2 ?_)
  | (with_reducible refine e_itZL ?_)
  | (with_reducible refine e_itZT ?_)
  | (with_reducible refine e_itEL ?_)
  | fail)
local macro_rules | `(tactic| walk_at "v1") => `(tactic| first
  | (with_reducible refine e_itL ?_)
  | (with_reducible refine e_itT ?_)
  | (with_reducible refine e_itS ?_)
  | (with_reducible refine e_rg1 ?_)
  | fail)
local macro_rules | `(tactic| walk_at "v1") => `(tactic| first
  | (with_reducible refine e_clrm ?_)
  | (with_reducible refine e_gcons ?_)
  | (with_reducible refine e_gnil ?_)
  | (with_reducible refine e_seqv ?_)
  | fail)
local macro_rules | `(tactic| walk_at "v1") => `(tactic| first
  | (with_reducible refine e_abs ?_)
  | (with_reducible refine e_cutL ?_)
  | (with_reducible refine e_cutT ?_)
  | (with_reducible refine e_revm ?_)
  | fail)
local macro_rules | `(tactic| walk_at "v1") => `(tactic| first
  | (with_reducible refine e_tupL ?_)
  | (with_reducible refine e_tupT ?_)
  | (with_reducible refine e_intI ?_)
  | (with_reducible refine e_intB ?_)
  | fail)
local macro_rules | `(tactic| walk_at "v1") => `(tactic| first
  | (with_reducible refine e_lenT ?_)
  | (with_reducible refine e_lenD ?_)
  | (with_reducible refine e_listL ?_)
  | (with_reducible refine e_listT ?_)
  | fail)
local macro_rules | `(tactic| walk_at "v1") => `(tactic| first
  | (with_reducible refine e_gtI ?_)
  | (with_reducible refine e_geI ?_)
  | (with_reducible refine e_ipaI ?_)
  | (with_reducible refine e_lenL ?_)
  | fail)
local macro_rules | `(tactic| walk_at "v1") => `(tactic| first
  | (with_reducible refine e_neS ?_)
  | (with_reducible refine e_neB ?_)
  | (with_reducible refine e_ltI ?_)
  | (with_reducible refine e_leI ?_)
  | fail)
local macro_rules | `(tactic| walk_at "v1") => `(tactic| first
  | (with_reducible refine e_eqI ?_)
  | (with_reducible refine e_eqS ?_)
  | (with_reducible refine e_eqB ?_)
  | (with_reducible refine e_neI ?_)
  | fail)
local macro_rules | `(tactic| walk_at "v1") => `(tactic| first
  | (with_reducible refine e_put ?_)
  | (with_reducible refine e_addI ?_)
  | (with_reducible refine e_subI ?_)
  | (with_reducible refine e_negI ?_)
  | fail)
local macro_rules | `(tactic| walk_at "v1") => `(tactic| first
  | (with_reducible refine e_dnew ?_)
  | (with_reducible refine e_rz1 ?_)
  | (with_reducible refine e_rz0 ?_)
  | (with_reducible refine e_par ?_)
  | fail)
local macro_rules | `(tactic| walk_at "v1") => `(tactic| first
  | (with_reducible refine e_sl ?_)
  | (with_reducible refine e_nopart ?_)
  | (with_reducible refine e_part ?_)
  | (with_reducible refine e_intE ?_)
  | fail)
local macro_rules | `(tactic| walk_at "v1") => `(tactic| first
  | (with_reducible refine e_addII ?_)
  | (with_reducible refine e_subII ?_)
  | (with_reducible refine e_sc ?_)
  | (with_reducible refine e_scI ?_)
  | fail)
local macro_rules | `(tactic| walk_at "v1") => `(tactic| first
  | (with_reducible refine e_forB ?_)
  | (with_reducible refine e_popS ?_)
  | (with_reducible refine e_dpopS ?_)
  | (with_reducible refine e_get2 ?_)
  | fail)
local macro_rules | `(tactic| walk_at "v1") => `(tactic| first
  | (with_reducible refine e_enumB ?_)
  | (with_reducible refine e_revB ?_)
  | (with_reducible refine e_zipB ?_)
  | (with_reducible refine e_lcB ?_)
  | fail)
local macro_rules | `(tactic| walk_at "v1") => `(tactic| first
  | (with_reducible refine e_box ?_)
  | (with_reducible refine e_boxL ?_)
  | (with_reducible refine e_boxDi ?_)
  | (with_reducible refine e_seqB ?_)
  | fail)
local macro_rules | `(tactic| walk_at "v1") => `(tactic| first
  | (with_reducible refine e_make ?_)
  | (with_reducible refine e_appS ?_)
  | (with_reducible refine e_mutS ?_)
  | (with_reducible refine e_putS ?_)
  | fail)
local macro_rules | `(tactic| walk_at "v1") => `(tactic| first
  | (with_reducible refine e_fld ?_)
  | (with_reducible refine e_setF ?_)
  | (with_reducible refine e_augF ?_)
  | (with_reducible refine e_meth ?_)
  | fail)
local macro_rules | `(tactic| walk_at "v1") => `(tactic| first
  | (with_reducible refine e_bmL ?_)
  | (with_reducible refine e_bm0L ?_)
  | (with_reducible refine e_truLk ?_)
  | (with_reducible refine e_slL ?_)
  | fail)
local macro_rules | `(tactic| walk_at "v1") => `(tactic| first
  | (with_reducible refine e_frI ?_)
  | (with_reducible refine e_opL ?_)
  | (with_reducible refine e_unL ?_)
  | (with_reducible refine e_cbL ?_)
  | fail)
local macro_rules | `(tactic| walk_at "v1") => `(tactic| first
  | (with_reducible refine e_callS ?_)
  | (with_reducible refine e_callB ?_)
  | (with_reducible refine e_callBS ?_)
  | (with_reducible refine e_frB ?_)
  | fail)
local macro_rules | `(tactic| walk_at "v1") => `(tactic| first
  | (with_reducible refine e_or ?_)
  | (with_reducible refine e_not ?_)
  | (with_reducible refine e_yes ?_)
  | (with_reducible refine e_call ?_)
  | fail)
local macro_rules | `(tactic| walk_at "v1") => `(tactic| first
  | (with_reducible refine e_blE ?_)
  | (with_reducible refine e_chain ?_)
  | (with_reducible refine e_test ?_)
  | (with_reducible refine e_and ?_)
  | fail)
local macro_rules | `(tactic| walk_at "v1") => `(tactic| first
  | (with_reducible refine e_tup ?_)
  | (with_reducible refine e_andV ?_)
  | (with_reducible refine e_orV ?_)
  | (with_reducible refine e_notV ?_)
  | fail)
local macro_rules | `(tactic| walk_at "v1") => `(tactic| first
  | (with_reducible refine e_tyS ?_)
  | (with_reducible refine e_tyL ?_)
  | (with_reducible refine e_tyD ?_)
  | (with_reducible refine e_lst ?_)
  | fail)
local macro_rules | `(tactic| walk_at "v1") => `(tactic| first
  | (with_reducible refine e_un ?_)
  | (with_reducible refine e_cb ?_)
  | (with_reducible refine e_bm ?_)
  | (with_reducible refine e_bm0 ?_)
  | fail)
local macro_rules | `(tactic| walk_at "v1") => `(tactic| first
  | (with_reducible refine e_c ?_)
  | (with_reducible refine e_nil ?_)
  | (with_reducible refine e_cons ?_)
  | (with_reducible refine e_op ?_)
  | fail)
local macro_rules | `(tactic| walk_at "v1") => `(tactic| first
  | (with_reducible refine e_next ?_)
  | (with_reducible refine e_brk ?_)
  | (with_reducible refine e_cont ?_)
  | (with_reducible refine e_gname ?_)
  | fail)
local macro_rules | `(tactic| walk_at "v1") => `(tactic| first
  | (with_reducible refine e_drop ?_)
  | (with_reducible refine e_ret ?_)
  | (with_reducible refine e_retN ?_)
  | (with_reducible refine e_if ?_)
  | fail)
local macro_rules | `(tactic| walk_at "v1") => `(tactic| first
  | (with_reducible refine e_seqForB ?_)
  | (with_reducible refine e_seqAugS ?_)
  | (with_reducible refine e_seqSeq ?_)
  | (with_reducible refine e_asg ?_)
  | fail)
local macro_rules | `(tactic| walk_at "v1") => `(tactic| first
  | (with_reducible refine e_seqAugF ?_)
  | (with_reducible refine e_seqAppS ?_)
  | (with_reducible refine e_seqMutS ?_)
  | (with_reducible refine e_seqPutS ?_)
  | fail)
local macro_rules | `(tactic| walk_at "v1") => `(tactic| first
  | (with_reducible refine e_seqFor ?_)
  | (with_reducible refine e_seqWhile ?_)
  | (with_reducible refine e_seqNext ?_)
  | (with_reducible refine e_seqSetF ?_)
  | fail)
local macro_rules | `(tactic| walk_at "v1") => `(tactic| first
  | (with_reducible refine e_seqApp ?_)
  | (with_reducible refine e_seqMut ?_)
  | (with_reducible refine e_seqPut ?_)
  | (with_reducible refine e_seqPar ?_)
  | fail)
local macro_rules | `(tactic| walk_at "v1") => `(tactic| first
  | ((with_reducible refine' e_var ?hx ?_); (case hx => exact rfl))
  | (with_reducible refine e_seqAsg ?_)
  | (with_reducible refine e_seqDrop ?_)
  | (with_reducible refine e_seqAug ?_)
  | fail)
local macro_rules | `(tactic| walk_at "vv") => `(tactic| repeat (walk_at "v1"))
local macro_rules | `(tactic| walk_at "vi") => `(tactic| ((with_reducible refine e_seq ?_); repeat (walk_at "v1")))
local macro_rules | `(tactic| walk_at "ve") => `(tactic| ((with_reducible refine e_ifE ?_); repeat (walk_at "v1")))
def t_number_bytes (K : PySem.W.Frag) : TS :=
      (tSeq (tAsg (tOp (rMulT) (tC (.int 2)) (tVar 0)) (gName 1))
      (tSeq (tIfS (tTest (tOp (rLtU K) (tVar 0) (tC (.int 0))))
      (tAsg (tOp (rSubU) (tOp (rMulT) (tUn rNeg (tC (.int 2))) (tVar 0)) (tC (.int 1))) (gName 1))
      tNext)
      (tSeq (tAsg (tLst tNil) (gName 2))
      (tSeq (tWhile (tTest (tOp (rGeV) (tVar 1) (tC (.int 128))))
      (tSeq (tDrop (tBM K "list" (rAppend) (tVar 2) (tCons (tOp (rAddU K) (tOp (rModU) (tVar 1) (tC (.int 128))) (tC (.int 128))) tNil)))
      (tAsg (tOp (rDivU) (tVar 1) (tC (.int 128))) (gName 1))))
      (tRet (tOp (rAddU K) (tVar 2) (tLst (tCons (tVar 1) tNil))))))))
abbrev N_number_bytes : List Str := [("number" : Str), ("rest" : Str), ("made" : Str)]
def v_number_bytes (K : PySem.W.Frag) : VS :=
      (vSeqS (vAsg (vOp vMul (vC (.int 2)) (vVar 0)) (vgName 1))
      (vSeqS (vIf (vTest (vOp vLt (vVar 0) (vC (.int 0))))
      (vAsg (vOp vSub (vOp vMul (vUn vNeg (vC (.int 2))) (vVar 0)) (vC (.int 1))) (vgName 1))
      vNext)
      (vSeqS (vAsg (vLst vNil) (vgName 2))
      (vSeqS (vWhile [0] (vTest (vOp vGe (vVar 1) (vC (.int 128))))
      (vSeqS (vApp 2 (vOp vAdd (vOp vMod (vVar 1) (vC (.int 128))) (vC (.int 128))))
      (vAsg (vOp vDiv (vVar 1) (vC (.int 128))) (vgName 1))))
      (vRet (vOp vAdd (vVar 2) (vLst (vCons (vVar 1) vNil))))))))
theorem sim_number_bytes {K : PySem.W.Frag} {vsp : VSp} (hv : ∀ ds m P VX, vsp ds m P VX → ds.length = 1 ∧ v_number_bytes K (vends P) (vstart N_number_bytes.length ds) m) :
    ∀ us H Q E, spV K .O vsp us H Q E → t_number_bytes K { nx := fun _ H' => Q .non H', rt := Q } (L2.start N_number_bytes us) H :=
  sim_def (n := 1) (t := .O) (N := N_number_bytes) (Γn := [.F, .F, .F]) (Γb := []) (Γc := []) (ts := fun E => t_number_bytes K) (vs := fun VX => v_number_bytes K) (by decide) (fun c W VX hK hx => by
    subst hK
    exact (x_seq (x_asgO (i := 1) (s_op o_mul (SO.b s_int) (SF.b (s_varF (by rfl)))))
      (x_seq (x_if (Γn := [.F, .O, .F]) (s_test (SO.b (s_op o_lt (SF.b (s_varF (by rfl))) (SO.b s_int))))
      (x_asgO (i := 1) (s_op o_sub (SO.b (s_op o_mul (SO.b (s_un o_neg (SO.b s_int))) (SF.b (s_varF (by rfl))))) (SO.b s_int)))
      x_next)
      (x_seq (x_asgO (i := 2) (s_lst g_nil))
      (x_seq (x_while (Γ' := [.F, .O, .O]) (ws := [0]) (s_test (SO.b (s_op o_ge (s_varB (t := .O) (by rfl)) (SO.b s_int))))
      (x_seq (x_app (by rfl) (SO.f (s_op o_add (SO.b (s_op o_mod (s_varB (t := .O) (by rfl)) (SO.b s_int))) (SO.b s_int))))
      (x_asgO (i := 1) (s_op o_div (s_varB (t := .O) (by rfl)) (SO.b s_int)))))
      (x_pre (Γ1 := [.F, .F, .O]) (x_retO (s_op o_add (s_varB (t := .O) (by rfl)) (SO.b (s_lst (g_cons (s_varF (by rfl)) g_nil))))))))))) hv
def t_text_bytes (K : PySem.W.Frag) (s_number_bytes_ : Sp) : TS :=
      (tRet (tOp (rAddU K) (tCall s_number_bytes_ [] E0 (tCons (tCB (rLenU K) (tCons (tVar 0) tNil)) tNil)) (tLc (iSeqV K (tVar 0)) (gName 1) tYes (tBM K "str" (rSIdx) (tC (.str (" !\"#$&'()*+,-./0123456789:;<=>?@ABCDEFGHIJKLMNOPQRSTUVWXYZ[\\]^_`abcdefghijklmnopqrstuvwxyz{|}~" : Str))) (tCons (tVar 1) tNil)) [1])))
abbrev N_text_bytes : List Str := [("text" : Str), ("sign" : Str)]
def v_text_bytes (K : PySem.W.Frag) (vs_number_bytes : VSp) : VS :=
      (vRet (vOp vAdd (vCall vs_number_bytes (vCons (vCB vLen (vCons (vVar 0) vNil)) vNil)) (vLc (vSeq (vVar 0)) (vgName 1) vYes (vBMt "str" vSIdx (vC (.str (" !\"#$&'()*+,-./0123456789:;<=>?@ABCDEFGHIJKLMNOPQRSTUVWXYZ[\\]^_`abcdefghijklmnopqrstuvwxyz{|}~" : Str))) (vCons (vVar 1) vNil)) [1])))
theorem sim_text_bytes {K : PySem.W.Frag} {vs_number_bytes : VSp} {vsp : VSp} (hv : ∀ ds m P VX, vsp ds m P VX → ds.length = 1 ∧ v_text_bytes K vs_number_bytes (vends P) (vstart N_text_bytes.length ds) m) :
    ∀ us H Q E, spV K .O vsp us H Q E → t_text_bytes K (spV K .O vs_number_bytes) { nx := fun _ H' => Q .non H', rt := Q } (L2.start N_text_bytes us) H :=
  sim_def (n := 1) (t := .O) (N := N_text_bytes) (Γn := [.F, .F]) (Γb := []) (Γc := []) (ts := fun E => t_text_bytes K (spV K .O vs_number_bytes)) (vs := fun VX => v_text_bytes K vs_number_bytes) (by decide) (fun c W VX hK hx => by
    subst hK
    exact (x_retO (s_op o_add (SO.b (s_callO (g_cons (SO.f (s_cb l_len (a_cons (SF.b (s_varF (by rfl))) a_nil))) g_nil))) (SO.b (s_lc (vs := [1]) (i_seq (s_varF (by rfl))) (by rfl) (tg_name (is := [1]) (by rfl) (by decide)) s_yes (SO.f (s_bm m_sidx (SO.b s_str) (a_cons (SF.b (s_varF (by rfl))) a_nil)))))))) hv
def t_cell_bytes (K : PySem.W.Frag) (s_text_bytes_ : Sp) (s_number_bytes_ : Sp) : TS :=
      (tSeq (tIfS (tTest (tOp (rIsN) (tVar 0) (tC .non)))
      (tRet (tLst (tCons (tC (.int 0)) tNil)))
      tNext)
      (tSeq (tIfS (tTru K (tCB (rIsiU K) (tCons (tVar 0) (tCons (tC (.ty "str")) tNil))))
      (tRet (tOp (rAddU K) (tLst (tCons (tC (.int 2)) tNil)) (tCall s_text_bytes_ [] E0 (tCons (tVar 0) tNil))))
      tNext)
      (tRet (tOp (rAddU K) (tLst (tCons (tC (.int 1)) tNil)) (tCall s_number_bytes_ [] E0 (tCons (tVar 0) tNil))))))
abbrev N_cell_bytes : List Str := [("cell" : Str)]
def v_cell_bytes (K : PySem.W.Frag) (vs_text_bytes : VSp) (vs_number_bytes : VSp) : VS :=
      (vSeqS (vIf (vTest (vOp vIsN (vVar 0) (vC .non)))
      (vRet (vLst (vCons (vC (.int 0)) vNil)))
      vNext)
      (vSeqS (vIf (vTru (vCB vIsi (vCons (vVar 0) (vCons (vC (.ty "str")) vNil))))
      (vRet (vOp vAdd (vLst (vCons (vC (.int 2)) vNil)) (vCall vs_text_bytes (vCons (vVar 0) vNil))))
      vNext)
      (vRet (vOp vAdd (vLst (vCons (vC (.int 1)) vNil)) (vCall vs_number_bytes (vCons (vVar 0) vNil))))))
theorem sim_cell_bytes {K : PySem.W.Frag} {vs_text_bytes : VSp} {vs_number_bytes : VSp} {vsp : VSp} (hv : ∀ ds m P VX, vsp ds m P VX → ds.length = 1 ∧ v_cell_bytes K vs_text_bytes vs_number_bytes (vends P) (vstart N_cell_bytes.length ds) m) :
    ∀ us H Q E, spV K .O vsp us H Q E → t_cell_bytes K (spV K .O vs_text_bytes) (spV K .O vs_number_bytes) { nx := fun _ H' => Q .non H', rt := Q } (L2.start N_cell_bytes us) H :=
  sim_def (n := 1) (t := .O) (N := N_cell_bytes) (Γn := [.F]) (Γb := []) (Γc := []) (ts := fun E => t_cell_bytes K (spV K .O vs_text_bytes) (spV K .O vs_number_bytes)) (vs := fun VX => v_cell_bytes K vs_text_bytes vs_number_bytes) (by decide) (fun c W VX hK hx => by
    subst hK
    exact (x_seq (x_if (Γn := [.F]) (s_test (SO.b (s_op o_isN (SF.b (s_varF (by rfl))) (SO.b s_non))))
      (x_retO (s_lst (g_cons (SO.f s_int) g_nil)))
      x_next)
      (x_seq (x_if (Γn := [.F]) (s_tru (SO.b (s_cb l_isi (a_cons (SF.b (s_varF (by rfl))) (a_cons (SO.b s_ty) a_nil)))))
      (x_retO (s_op o_add (SO.b (s_lst (g_cons (SO.f s_int) g_nil))) (SO.b (s_callO (g_cons (s_varF (by rfl)) g_nil)))))
      x_next)
      (x_retO (s_op o_add (SO.b (s_lst (g_cons (SO.f s_int) g_nil))) (SO.b (s_callO (g_cons (s_varF (by rfl)) g_nil)))))))) hv
abbrev dL (ns : List Int) : D := .lst (ns.map D.int)
def wNb : VSp := fun ds m P _ => ∃ n : Int, ds = [.int n] ∧ n.natAbs < 2 ^ 200 ∧ P (dL (nb n)) m
theorem dl_snoc (a : List Int) (b : Int) : D.lst (a.map D.int ++ [D.int b]) = dL (a ++ [b]) := by rw [dL, List.map_append]; rfl
theorem dl_app (a b : List Int) : D.lst (a.map D.int ++ b.map D.int) = dL (a ++ b) := by rw [dL, List.map_append]
theorem dl_cons (a : Int) (b : List Int) : D.lst ([D.int a] ++ b.map D.int) = dL (a :: b) := rfl
theorem p_number_bytes {K : PySem.W.Frag} (ds : List D) (m : Mst) (P : D → Mst → Prop) (VX : XV) (h : wNb ds m P VX) : ds.length = 1 ∧ v_number_bytes K (vends P) (vstart N_number_bytes.length ds) m := by
  obtain ⟨n, rfl, hb, k⟩ := h
  have hlen := nb_len hb
  refine ⟨rfl, ?_⟩
  unfold v_number_bytes
  walk_at "vv"
  with_reducible refine e_seqO fun N hN => ?_
  have main : ∀ r : Int, r = (zz n : Nat) → N [some (.int n), some (.int r), none] m := by
    rintro r rfl
    refine hN _ _ ?_
    walk_at "vv"
    refine ⟨fun (s : Nat) e m' => ∃ pre : List Int, e = [none, some (.int (s : Int)), some (dL pre)] ∧ m' = m ∧ nb n = pre ++ sev s, ⟨zz n, [], rfl, rfl, rfl⟩, ?_⟩
    rintro s e m' ⟨pre, rfl, rfl, e2⟩
    have hpl : pre.length ≤ 30 := by
      have := congrArg List.length e2
      rw [List.length_append] at this
      omega
    walk_at "vv"
    refine w_ifd (fun c => ?_) (fun c => ?_)
    · walk_at "vv"
      refine ⟨by rw [List.length_map]; exact sz_lt (by omega), ?_⟩
      rw [dl_snoc]
      walk_at "vv"
      refine ⟨s / 128, by omega, pre ++ [((s % 128 + 128 : Nat) : Int)], rfl, rfl, ?_⟩
      · rw [e2, sev_ge (by omega), List.append_assoc]; rfl
    · walk_at "vv"
      refine e_addL (by rw [List.length_map]; show pre.length + 1 ≤ _; omega) ?_
      rw [e2, sev_lt (by omega)] at k
      rw [dl_snoc]
      exact k
  walk_at "vv"
  refine w_ifd (fun c => ?_) (fun c => ?_)
  · walk_at "vv"
    refine main _ ?_
    unfold zz
    rw [if_pos c]; omega
  · walk_at "vv"
    refine main _ ?_
    unfold zz
    rw [if_neg c]; omega
def cvD : Cel → D
  | .non => .non
  | .num z => .int z
  | .txt ks => .str (txt ks)
def wTb : VSp := fun ds m P _ => ∃ ks : List Nat, ds = [.str (txt ks)] ∧ ks.length ≤ 1000 ∧ (∀ k ∈ ks, k < 94) ∧ P (dL (tb ks)) m
theorem signs_txt (ks : List Nat) : signsOf (txt ks) = ks.map fun k => D.str ⟨#[sg k]⟩ := by
  unfold signsOf
  rw [txt_cps, List.map_map]
  rfl
theorem ins_d (ks : List Nat) : (ks.map fun k : Nat => D.int k) = (ins ks).map D.int := by
  unfold ins
  rw [List.map_map]
  rfl
theorem p_text_bytes {K : PySem.W.Frag} (ds : List D) (m : Mst) (P : D → Mst → Prop) (VX : XV) (h : wTb ds m P VX) : ds.length = 1 ∧ v_text_bytes K wNb (vends P) (vstart N_text_bytes.length ds) m := by
  obtain ⟨ks, rfl, hl, hk, k⟩ := h
  refine ⟨rfl, ?_⟩
  have hn : ((ks.length : Nat) : Int).natAbs < 2 ^ 200 := by
    rw [Int.natAbs_natCast]
    exact Nat.lt_of_le_of_lt hl (by decide)
  have hlen := nb_len hn
  unfold v_text_bytes
  walk_at "vv"
  refine e_lenS (by rw [txt_len]; omega) ?_
  rw [txt_len]
  walk_at "vv"
  refine ⟨ks.length, rfl, hn, ?_⟩
  walk_at "vv"
  rw [signs_txt]
  refine lc_mapL (h := fun k : Nat => .int k) (by omega) (fun i x Q ex hQ => ?_) ?_
  · walk_at "vv"
    have hx := hk x (List.mem_of_getElem? ex)
    exact ⟨x, [], sg_occ ⟨x, hx⟩, hQ⟩
  · rw [ins_d]
    refine e_addL (by rw [List.length_map, List.length_map, ins_len]; omega) ?_
    rw [dl_app]
    exact k
def wCb : VSp := fun ds m P _ => ∃ c : Cel, ds = [cvD c] ∧ okC c ∧ P (dL (cb c)) m
theorem p_cell_bytes {K : PySem.W.Frag} (ds : List D) (m : Mst) (P : D → Mst → Prop) (VX : XV) (h : wCb ds m P VX) : ds.length = 1 ∧ v_cell_bytes K wTb wNb (vends P) (vstart N_cell_bytes.length ds) m := by
  obtain ⟨c, rfl, hc, k⟩ := h
  refine ⟨rfl, ?_⟩
  unfold v_cell_bytes
  cases c with
  | non =>
    show (vSeqS _ _ : VS) _ [some D.non] _
    walk_at "vi"
    exact k
  | num z =>
    have hl := nb_len hc
    show (vSeqS _ _ : VS) _ [some (D.int z)] _
    walk_at "vi"
    walk_at "vi"
    refine ⟨z, rfl, hc, ?_⟩
    refine e_addL (by rw [List.length_map]; show 1 + _ ≤ _; omega) ?_
    rw [dl_cons]
    exact k
  | txt ks =>
    have hl := tb_len hc.1
    show (vSeqS _ _ : VS) _ [some (D.str (txt ks))] _
    walk_at "vi"
    walk_at "vi"
    refine ⟨ks, rfl, hc.1, hc.2, ?_⟩
    refine e_addL (by rw [List.length_map]; show 1 + _ ≤ _; omega) ?_
    rw [dl_cons]
    exact k
abbrev bad (X : XV) (C : Addr) (w : Str) (m : Mst) : Prop := X C [("why", .str w)] m
def t_number (K : PySem.W.Frag) (s_take_ : Sp) : TS :=
      (tSeq (tAsg (tCall s_take_ [] E0 (tCons (tVar 0) (tCons (tC (.int 6)) tNil))) (gName 1))
      (tSeq (tAsg (tCall s_take_ [] E0 (tCons (tVar 0) (tCons (tC (.int 12)) tNil))) (gName 2))
      (tSeq (tIfS (tTest (tOp (rEqU K) (tVar 1) (tC (.int 1))))
      (tAsg (tOp (rIxU K) (tLst (tCons (tC (.int 0)) (tCons (tC (.int 1)) (tCons (tC (.int 63)) (tCons (tC (.int 64)) (tCons (tC (.int 127)) (tCons (tC (.int 128)) (tCons (tC (.int 8191)) (tCons (tC (.int 8192)) (tCons (tOp (rSubU) (tOp (rPowU) (tC (.int 10)) (tC (.int 18))) (tC (.int 1))) (tCons (tOp (rPowU) (tC (.int 10)) (tC (.int 17))) (tCons (tC (.int 255)) (tCons (tC (.int 256)) tNil))))))))))))) (tVar 2)) (gName 2))
      tNext)
      (tSeq (tIfS (tTest (tOp (rEqU K) (tVar 1) (tC (.int 2))))
      (tAsg (tOp (rAddU K) (tOp (rMulT) (tCall s_take_ [] E0 (tCons (tVar 0) (tCons (tOp (rPowU) (tC (.int 10)) (tC (.int 9))) tNil))) (tOp (rPowU) (tC (.int 10)) (tC (.int 9)))) (tCall s_take_ [] E0 (tCons (tVar 0) (tCons (tOp (rPowU) (tC (.int 10)) (tC (.int 9))) tNil)))) (gName 2))
      tNext)
      (tSeq (tIfS (tTest (tOp (rEqU K) (tVar 1) (tC (.int 3))))
      (tAsg (tCall s_take_ [] E0 (tCons (tVar 0) (tCons (tC (.int 2000)) tNil))) (gName 2))
      tNext)
      (tRet (tOp (rMulT) (tVar 2) (tOp (rIxU K) (tLst (tCons (tC (.int 1)) (tCons (tUn rNeg (tC (.int 1))) tNil))) (tCall s_take_ [] E0 (tCons (tVar 0) (tCons (tC (.int 2)) tNil)))))))))))
abbrev N_number : List Str := [("_law_state" : Str), ("_law_way" : Str), ("_law_number_here" : Str)]
def v_number (K : PySem.W.Frag) (vs_take : VSp) : VS :=
      (vSeqS (vAsg (vCall vs_take (vCons (vVar 0) (vCons (vC (.int 6)) vNil))) (vgName 1))
      (vSeqS (vAsg (vCall vs_take (vCons (vVar 0) (vCons (vC (.int 12)) vNil))) (vgName 2))
      (vSeqS (vIf (vTest (vOp vEqC (vVar 1) (vC (.int 1))))
      (vAsg (vOp vIx (vLst (vCons (vC (.int 0)) (vCons (vC (.int 1)) (vCons (vC (.int 63)) (vCons (vC (.int 64)) (vCons (vC (.int 127)) (vCons (vC (.int 128)) (vCons (vC (.int 8191)) (vCons (vC (.int 8192)) (vCons (vOp vSub (vOp vPow (vC (.int 10)) (vC (.int 18))) (vC (.int 1))) (vCons (vOp vPow (vC (.int 10)) (vC (.int 17))) (vCons (vC (.int 255)) (vCons (vC (.int 256)) vNil))))))))))))) (vVar 2)) (vgName 2))
      vNext)
      (vSeqS (vIf (vTest (vOp vEqC (vVar 1) (vC (.int 2))))
      (vAsg (vOp vAdd (vOp vMul (vCall vs_take (vCons (vVar 0) (vCons (vOp vPow (vC (.int 10)) (vC (.int 9))) vNil))) (vOp vPow (vC (.int 10)) (vC (.int 9)))) (vCall vs_take (vCons (vVar 0) (vCons (vOp vPow (vC (.int 10)) (vC (.int 9))) vNil)))) (vgName 2))
      vNext)
      (vSeqS (vIf (vTest (vOp vEqC (vVar 1) (vC (.int 3))))
      (vAsg (vCall vs_take (vCons (vVar 0) (vCons (vC (.int 2000)) vNil))) (vgName 2))
      vNext)
      (vRet (vOp vMul (vVar 2) (vOp vIx (vLst (vCons (vC (.int 1)) (vCons (vUn vNeg (vC (.int 1))) vNil))) (vCall vs_take (vCons (vVar 0) (vCons (vC (.int 2)) vNil)))))))))))
theorem sim_number {K : PySem.W.Frag} {vs_take : VSp} {vsp : VSp} (hv : ∀ ds m P VX, vsp ds m P VX → ds.length = 1 ∧ v_number K vs_take (vends P) (vstart N_number.length ds) m) :
    ∀ us H Q E, spV K .O vsp us H Q E → t_number K (spV K .O vs_take) { nx := fun _ H' => Q .non H', rt := Q } (L2.start N_number us) H :=
  sim_def (n := 1) (t := .O) (N := N_number) (Γn := [.F, .F, .F]) (Γb := []) (Γc := []) (ts := fun E => t_number K (spV K .O vs_take)) (vs := fun VX => v_number K vs_take) (by decide) (fun c W VX hK hx => by
    subst hK
    exact (x_seq (x_asgO (i := 1) (s_callO (g_cons (s_varF (by rfl)) (g_cons (SO.f s_int) g_nil))))
      (x_seq (x_asgO (i := 2) (s_callO (g_cons (s_varF (by rfl)) (g_cons (SO.f s_int) g_nil))))
      (x_seq (x_if (Γn := [.F, .O, .F]) (s_test (SO.b (s_op o_eq (s_varB (t := .O) (by rfl)) (SO.b s_int))))
      (x_asgF (i := 2) (s_opF o_ix (SO.b (s_lst (g_cons (SO.f s_int) (g_cons (SO.f s_int) (g_cons (SO.f s_int) (g_cons (SO.f s_int) (g_cons (SO.f s_int) (g_cons (SO.f s_int) (g_cons (SO.f s_int) (g_cons (SO.f s_int) (g_cons (SO.f (s_op o_sub (SO.b (s_op o_pow (SO.b s_int) (SO.b s_int))) (SO.b s_int))) (g_cons (SO.f (s_op o_pow (SO.b s_int) (SO.b s_int))) (g_cons (SO.f s_int) (g_cons (SO.f s_int) g_nil)))))))))))))) (s_varB (t := .O) (by rfl))))
      (x_post (Γ1 := [.F, .O, .O]) (Γn := [.F, .O, .F]) x_next))
      (x_seq (x_if (Γn := [.F, .O, .F]) (s_test (SO.b (s_op o_eq (s_varB (t := .O) (by rfl)) (SO.b s_int))))
      (x_post (Γ1 := [.F, .O, .O]) (Γn := [.F, .O, .F]) (x_asgO (i := 2) (s_op o_add (SO.b (s_op o_mul (SO.b (s_callO (g_cons (s_varF (by rfl)) (g_cons (SO.f (s_op o_pow (SO.b s_int) (SO.b s_int))) g_nil)))) (SO.b (s_op o_pow (SO.b s_int) (SO.b s_int))))) (SO.b (s_callO (g_cons (s_varF (by rfl)) (g_cons (SO.f (s_op o_pow (SO.b s_int) (SO.b s_int))) g_nil)))))))
      x_next)
      (x_seq (x_if (Γn := [.F, .O, .F]) (s_test (SO.b (s_op o_eq (s_varB (t := .O) (by rfl)) (SO.b s_int))))
      (x_post (Γ1 := [.F, .O, .O]) (Γn := [.F, .O, .F]) (x_asgO (i := 2) (s_callO (g_cons (s_varF (by rfl)) (g_cons (SO.f s_int) g_nil)))))
      x_next)
      (x_retO (s_op o_mul (SF.b (s_varF (by rfl))) (SF.b (s_opF o_ix (SO.b (s_lst (g_cons (SO.f s_int) (g_cons (SO.f (s_un o_neg (SO.b s_int))) g_nil)))) (SO.b (s_callO (g_cons (s_varF (by rfl)) (g_cons (SO.f s_int) g_nil)))))))))))))) hv
def t_text (K : PySem.W.Frag) (s_take_ : Sp) : TS :=
      (tSeq (tAsg (tLst (tCons (tC (.str ("a" : Str))) (tCons (tC (.str ("" : Str))) (tCons (tC (.str ("aa" : Str))) (tCons (tC (.str ("b" : Str))) (tCons (tC (.str ("ab" : Str))) (tCons (tC (.str ("~" : Str))) (tCons (tC (.str (" " : Str))) (tCons (tC (.str ("zz top" : Str))) (tCons (tC (.str ("Aa" : Str))) (tCons (tC (.str ("0" : Str))) (tCons (tOp (rMulT) (tC (.str ("a" : Str))) (tC (.int 20))) (tCons (tSl (rSlU K) (tC (.str ("the twenty signs of it" : Str))) tNoPart (tPart (tC (.int 20)))) tNil))))))))))))) (gName 1))
      (tSeq (tIfS (tTest (tOp (rGtV) (tCall s_take_ [] E0 (tCons (tVar 0) (tCons (tC (.int 4)) tNil))) (tC (.int 0))))
      (tRet (tOp (rIxU K) (tVar 1) (tCall s_take_ [] E0 (tCons (tVar 0) (tCons (tC (.int 12)) tNil)))))
      tNext)
      (tSeq (tAsg (tC (.str (" !\"#$&'()*+,-./0123456789:;<=>?@ABCXYZ[]^_`abcxyz{|}~" : Str))) (gName 2))
      (tRet (tBM K "str" (rJoinS K) (tC (.str ("" : Str))) (tCons (tLc (iRng1 (tCons (tCall s_take_ [] E0 (tCons (tVar 0) (tCons (tC (.int 21)) tNil))) tNil)) (gName 3) tYes (tOp (rIxU K) (tVar 2) (tCall s_take_ [] E0 (tCons (tVar 0) (tCons (tCB (rLenU K) (tCons (tVar 2) tNil)) tNil)))) [3]) tNil))))))
abbrev N_text : List Str := [("_law_state" : Str), ("_law_words" : Str), ("_law_signs_here" : Str), ("_law_turn" : Str)]
def v_text (K : PySem.W.Frag) (vs_take : VSp) : VS :=
      (vSeqS (vAsg (vLst (vCons (vC (.str ("a" : Str))) (vCons (vC (.str ("" : Str))) (vCons (vC (.str ("aa" : Str))) (vCons (vC (.str ("b" : Str))) (vCons (vC (.str ("ab" : Str))) (vCons (vC (.str ("~" : Str))) (vCons (vC (.str (" " : Str))) (vCons (vC (.str ("zz top" : Str))) (vCons (vC (.str ("Aa" : Str))) (vCons (vC (.str ("0" : Str))) (vCons (vOp vMul (vC (.str ("a" : Str))) (vC (.int 20))) (vCons (vSl vCut (vC (.str ("the twenty signs of it" : Str))) vNoPart (vPart (vC (.int 20)))) vNil))))))))))))) (vgName 1))
      (vSeqS (vIf (vTest (vOp vGt (vCall vs_take (vCons (vVar 0) (vCons (vC (.int 4)) vNil))) (vC (.int 0))))
      (vRet (vOp vIx (vVar 1) (vCall vs_take (vCons (vVar 0) (vCons (vC (.int 12)) vNil)))))
      vNext)
      (vSeqS (vAsg (vC (.str (" !\"#$&'()*+,-./0123456789:;<=>?@ABCXYZ[]^_`abcxyz{|}~" : Str))) (vgName 2))
      (vRet (vBMt "str" vJoin (vC (.str ("" : Str))) (vCons (vLc (vRng1 (vCons (vCall vs_take (vCons (vVar 0) (vCons (vC (.int 21)) vNil))) vNil)) (vgName 3) vYes (vOp vIx (vVar 2) (vCall vs_take (vCons (vVar 0) (vCons (vCB vLen (vCons (vVar 2) vNil)) vNil)))) [3]) vNil))))))
theorem sim_text {K : PySem.W.Frag} {vs_take : VSp} {vsp : VSp} (hv : ∀ ds m P VX, vsp ds m P VX → ds.length = 1 ∧ v_text K vs_take (vends P) (vstart N_text.length ds) m) :
    ∀ us H Q E, spV K .F vsp us H Q E → t_text K (spV K .O vs_take) { nx := fun _ H' => Q .non H', rt := Q } (L2.start N_text us) H :=
  sim_def (n := 1) (t := .F) (N := N_text) (Γn := [.F, .F, .F, .F]) (Γb := []) (Γc := []) (ts := fun E => t_text K (spV K .O vs_take)) (vs := fun VX => v_text K vs_take) (by decide) (fun c W VX hK hx => by
    subst hK
    exact (x_seq (x_asgO (i := 1) (s_lst (g_cons (SO.f s_str) (g_cons (SO.f s_str) (g_cons (SO.f s_str) (g_cons (SO.f s_str) (g_cons (SO.f s_str) (g_cons (SO.f s_str) (g_cons (SO.f s_str) (g_cons (SO.f s_str) (g_cons (SO.f s_str) (g_cons (SO.f s_str) (g_cons (SO.f (s_op o_mul (SO.b s_str) (SO.b s_int))) (g_cons (SO.f (s_sl o_cut (SO.b s_str) s_nopart (s_part (SO.b s_int)))) g_nil))))))))))))))
      (x_seq (x_if (Γn := [.F, .O, .F, .F]) (s_test (SO.b (s_op o_gt (SO.b (s_callO (g_cons (s_varF (by rfl)) (g_cons (SO.f s_int) g_nil)))) (SO.b s_int))))
      (x_retF (s_opF o_ix (s_varB (t := .O) (by rfl)) (SO.b (s_callO (g_cons (s_varF (by rfl)) (g_cons (SO.f s_int) g_nil))))))
      x_next)
      (x_seq (x_asgO (i := 2) s_str)
      (x_retF (SO.f (s_bm m_join (SO.b s_str) (a_cons (SO.b (s_lc (vs := [3]) (i_rng1 (g_cons (SO.f (s_callO (g_cons (s_varF (by rfl)) (g_cons (SO.f s_int) g_nil)))) g_nil)) (by rfl) (tg_name (is := [3]) (by rfl) (by decide)) s_yes (s_opF o_ix (s_varB (t := .O) (by rfl)) (SO.b (s_callO (g_cons (s_varF (by rfl)) (g_cons (SO.f (s_cb l_len (a_cons (s_varB (t := .O) (by rfl)) a_nil))) g_nil))))))) a_nil)))))))) hv
theorem at_litD (l : List Int) {v : Int} (h0 : 0 ≤ v) (h1 : v < l.length) : ∃ z, z ∈ l ∧ L2.atI (l.map D.int) v = some (.int z) := by
  obtain ⟨j, rfl⟩ : ∃ j : Nat, v = (j : Int) := ⟨v.toNat, by omega⟩
  have hj : j < l.length := by omega
  exact ⟨l[j], List.getElem_mem hj, atI_nat (by rw [List.getElem?_map, List.getElem?_eq_getElem hj]; rfl)⟩
theorem at_litS (l : List Str) {v : Int} (h0 : 0 ≤ v) (h1 : v < l.length) : ∃ z, z ∈ l ∧ L2.atI (l.map D.str) v = some (.str z) := by
  obtain ⟨j, rfl⟩ : ∃ j : Nat, v = (j : Int) := ⟨v.toNat, by omega⟩
  have hj : j < l.length := by omega
  exact ⟨l[j], List.getElem_mem hj, atI_nat (by rw [List.getElem?_map, List.getElem?_eq_getElem hj]; rfl)⟩
def wNumber : VSp := fun ds m P _ => ∃ (x : Addr) (r : Nat) (s0 : Sto), ds = [.adr x] ∧ m = (some (x, r), s0) ∧ 8 ≤ r ∧ ∀ (n : Int) (r' : Nat), n.natAbs < 10 ^ 18 → r ≤ r' + 8 → P (.int n) ((some (x, r'), s0))
theorem p_number {K : PySem.W.Frag} (ds : List D) (m : Mst) (P : D → Mst → Prop) (VX : XV) (h : wNumber ds m P VX) : ds.length = 1 ∧ v_number K vTake (vends P) (vstart N_number.length ds) m := by
  obtain ⟨x, r, s0, rfl, rfl, hr, k⟩ := h
  refine ⟨rfl, ?_⟩
  unfold v_number
  walk_at "vv"
  refine e_take (by omega) (by decide) (by decide) fun way r1 h1 h2 hr1 => ?_
  walk_at "vv"
  refine e_take (by omega) (by decide) (by decide) fun z1 r2 h3 h4 hr2 => ?_
  walk_at "vv"
  with_reducible refine e_seqO fun N1 hN1 => ?_
  have f1 : ∀ (n : Int) (r' : Nat), n.natAbs < 10 ^ 18 → r ≤ r' + 2 → N1 [some (.adr x), some (.int way), some (.int n)] ((some (x, r'), s0)) := by
    intro n r3 hn hr3
    refine hN1 _ _ ?_
    with_reducible refine e_seqO fun N2 hN2 => ?_
    have f2 : ∀ (n : Int) (r' : Nat), n.natAbs < 10 ^ 18 → r ≤ r' + 4 → N2 [some (.adr x), some (.int way), some (.int n)] ((some (x, r'), s0)) := by
      intro n r4 hn hr4
      refine hN2 _ _ ?_
      with_reducible refine e_seqO fun N3 hN3 => ?_
      have f3 : ∀ (n : Int) (r' : Nat), n.natAbs < 10 ^ 18 → r ≤ r' + 5 → N3 [some (.adr x), some (.int way), some (.int n)] ((some (x, r'), s0)) := by
        intro n r5 hn hr5
        refine hN3 _ _ ?_
        walk_at "vv"
        refine e_take (by omega) (by decide) (by decide) fun z r6 h5 h6 hr6 => ?_
        obtain ⟨s, hm, em⟩ := at_litD [1, -1] h5 h6
        refine e_ixL em ?_
        simp at hm
        refine e_mulI (.inl (.inr ⟨by omega, by omega⟩)) ?_
        refine k _ _ ?_ (by omega)
        rcases hm with rfl | rfl <;> omega
      walk_at "vv"
      refine w_ifd (fun c => ?_) (fun c => ?_)
      · walk_at "vv"
        refine e_take (by omega) (by decide) (by decide) fun z3 r5 h5 h6 hr5 => ?_
        walk_at "vv"
        exact f3 _ _ (by omega) (by omega)
      · exact f3 _ _ hn (by omega)
    walk_at "vv"
    refine w_ifd (fun c => ?_) (fun c => ?_)
    · walk_at "vv"
      refine e_powI ⟨by decide, by decide, by decide⟩ ?_
      rw [show (10 : Int) ^ (9 : Int).toNat = 1000000000 from rfl]
      walk_at "vv"
      refine e_take (by omega) (by decide) (by decide) fun z3 r5 h5 h6 hr5 => ?_
      walk_at "vv"
      refine e_powI ⟨by decide, by decide, by decide⟩ ?_
      rw [show (10 : Int) ^ (9 : Int).toNat = 1000000000 from rfl]
      walk_at "vv"
      refine e_powI ⟨by decide, by decide, by decide⟩ ?_
      rw [show (10 : Int) ^ (9 : Int).toNat = 1000000000 from rfl]
      walk_at "vv"
      refine e_take (by omega) (by decide) (by decide) fun z4 r6 h7 h8 hr6 => ?_
      walk_at "vv"
      exact f2 _ _ (by omega) (by omega)
    · exact f2 _ _ hn (by omega)
  walk_at "vv"
  refine w_ifd (fun c => ?_) (fun c => ?_)
  · walk_at "vv"
    refine e_powI ⟨by decide, by decide, by decide⟩ ?_
    walk_at "vv"
    refine e_powI ⟨by decide, by decide, by decide⟩ ?_
    rw [show (10 : Int) ^ (17 : Int).toNat = 100000000000000000 from rfl, show (10 : Int) ^ (18 : Int).toNat = 1000000000000000000 from rfl]
    walk_at "vv"
    obtain ⟨s, hm, em⟩ := at_litD [0, 1, 63, 64, 127, 128, 8191, 8192, 1000000000000000000 - 1, 100000000000000000, 255, 256] h3 h4
    refine e_ixL em ?_
    have hs : s.natAbs < 10 ^ 18 := by
      simp at hm
      omega
    walk_at "vv"
    exact f1 _ _ hs (by omega)
  · exact f1 _ _ (by omega) (by omega)
theorem isT_all {l : List Str} {n : Nat} (h : l.all (okT n) = true) {z : Str} (hz : z ∈ l) : IsT n z := okT_is (List.all_eq_true.mp h z hz)
def wText : VSp := fun ds m P _ => ∃ (x : Addr) (r : Nat) (s0 : Sto), ds = [.adr x] ∧ m = (some (x, r), s0) ∧ 30 ≤ r ∧ ∀ (z : Str) (r' : Nat), IsT 20 z → r ≤ r' + 30 → P (.str z) ((some (x, r'), s0))
theorem atI_lt {α : Type} {l : List α} {v : Int} (h0 : 0 ≤ v) (h1 : v < l.length) : ∃ x, x ∈ l ∧ L2.atI l v = some x := by
  obtain ⟨j, rfl⟩ : ∃ j : Nat, v = (j : Int) := ⟨v.toNat, by omega⟩
  have hj : j < l.length := by omega
  exact ⟨l[j], List.getElem_mem hj, atI_nat (List.getElem?_eq_getElem hj)⟩
theorem join_signs {cs : List Nat} (n : Nat) (h : ∀ c ∈ cs, signs.cps.toList.contains c = true) (hl : cs.length ≤ n) : IsT n (Txt.join Str.empty (cs.map fun c => (⟨#[c]⟩ : Str))) := by
  rw [join_one]
  refine okT_is ?_
  unfold okT
  rw [Bool.and_eq_true]
  refine ⟨List.all_eq_true.mpr (by simpa using h), decide_eq_true ?_⟩
  show cs.toArray.size ≤ n
  simpa using hl
theorem sg_in {z : Str} {l : Nat} (hz : okT l z = true) {c : Nat} (hc : c ∈ z.cps.toList) : signs.cps.toList.contains c = true := by
  unfold okT at hz
  rw [Bool.and_eq_true] at hz
  exact List.all_eq_true.mp hz.1 c hc
theorem sum_ones (cs : List Nat) : ((cs.map fun c => (⟨#[c]⟩ : Str)).map (·.length)).sum = cs.length := by
  induction cs with
  | nil => rfl
  | cons c r ih => rw [List.map_cons, List.map_cons, List.sum_cons, ih, List.length_cons]; show 1 + _ = _; omega
theorem e_joinC {cs : List Nat} {Z : D → Prop} (hl : cs.length ≤ 1000) (h : Z (.str (Txt.join Str.empty (cs.map fun c => (⟨#[c]⟩ : Str))))) : vJoin (.str (Str.ofString "")) [.lst (cs.map fun c => D.str ⟨#[c]⟩)] Z := by
  refine ⟨cs.map fun c => (⟨#[c]⟩ : Str), ?_, ?_, h⟩
  · rw [List.map_map]; rfl
  · rw [sum_ones, List.length_map]
    show cs.length + cs.length * 0 ≤ _
    omega
theorem p_text {K : PySem.W.Frag} (ds : List D) (m : Mst) (P : D → Mst → Prop) (VX : XV) (h : wText ds m P VX) : ds.length = 1 ∧ v_text K vTake (vends P) (vstart N_text.length ds) m := by
  obtain ⟨x, r, s0, rfl, rfl, hr, k⟩ := h
  refine ⟨rfl, ?_⟩
  unfold v_text
  walk_at "vv"
  refine ⟨⟨by decide, by decide +kernel, by decide +kernel⟩, ?_⟩
  walk_at "vv"
  refine e_cutS (by decide) ?_
  walk_at "vv"
  walk_at "vi"
  refine e_take (by omega) (by decide) (by decide) fun z1 r1 h1 h2 hr1 => ?_
  walk_at "vv"
  refine w_ifd (fun c => ?_) (fun c => ?_)
  · walk_at "vv"
    refine e_take (by omega) (by decide) (by decide) fun z2 r2 h3 h4 hr2 => ?_
    obtain ⟨s, hm, em⟩ := at_litS [("a" : Str), ("" : Str), ("aa" : Str), ("b" : Str), ("ab" : Str), ("~" : Str), (" " : Str), ("zz top" : Str), ("Aa" : Str), ("0" : Str), repS ("a" : Str) 20, cutS ("the twenty signs of it" : Str) none (some 20)] h3 h4
    refine e_ixL em ?_
    exact k s _ (isT_all (by decide +kernel) hm) (by omega)
  · walk_at "vv"
    refine e_take (by omega) (by decide) (by decide) fun z2 r2 h3 h4 hr2 => ?_
    obtain ⟨j, rfl⟩ : ∃ j : Nat, z2 = (j : Int) := ⟨z2.toNat, by omega⟩
    walk_at "vv"
    refine e_itR (by omega) ?_
    have hz : okT 53 (" !\"#$&'()*+,-./0123456789:;<=>?@ABCXYZ[]^_`abcxyz{|}~" : Str) = true := by decide +kernel
    refine ⟨fun i acc m' => i ≤ j ∧ ∃ cs : List Nat, acc = cs.map (fun c => D.str ⟨#[c]⟩) ∧ cs.length = i ∧ (∀ c ∈ cs, signs.cps.toList.contains c = true) ∧ ∃ r' : Nat, m' = (some (x, r'), s0) ∧ r2 ≤ r' + i, ⟨Nat.zero_le _, [], rfl, rfl, by simp, r2, rfl, by omega⟩, ?_, ?_⟩
    · rintro i acc m' d ⟨hi0, cs, rfl, hcs, hc, r3, rfl, hr3⟩ ed
      obtain ⟨hi, rfl⟩ := rangeD_at ed
      walk_at "vv"
      refine e_lenS (by decide) ?_
      walk_at "vv"
      refine e_take (by omega) (by decide) (by decide) fun z3 r4 h5 h6 hr4 => ?_
      obtain ⟨c', hm, em⟩ := atI_lt (l := (" !\"#$&'()*+,-./0123456789:;<=>?@ABCXYZ[]^_`abcxyz{|}~" : Str).cps.toList) h5 (by rw [Array.length_toList]; exact h6)
      refine e_ixS (by decide) em ⟨by rw [List.length_map]; exact sz_lt (by omega), by omega, cs ++ [c'], by rw [List.map_append]; rfl, by simp [hcs], fun c h => ?_, r4, rfl, by omega⟩
      rcases List.mem_append.mp h with h | h
      · exact hc c h
      · rw [List.mem_singleton.mp h]; exact sg_in hz hm
    · rintro acc m' ⟨hi0, cs, rfl, hcs, hc, r3, rfl, hr3⟩
      rw [rangeD_len] at hcs hr3
      walk_at "vv"
      refine e_joinC (by omega) ?_
      exact k _ _ (join_signs 20 hc (by omega)) (by omega)
end Ps
namespace Ps
open PySem PySem.Spec PyProof.Rows L2
theorem cutD_from (xs : List D) (n : Nat) : cutD xs (some (n : Int)) none = xs.drop n := by
  unfold cutD
  rw [HT.sIx_none, HT.sIx_nat]
  by_cases h : n ≤ xs.length
  · rw [Nat.min_eq_left h, List.take_of_length_le (by rw [List.length_drop]; exact Nat.le_refl _)]
  · rw [Nat.min_eq_right (by omega), Nat.sub_self, List.take_zero, List.drop_of_length_le (by omega)]
theorem cutD_mid (xs : List D) (n k : Nat) : cutD xs (some (n : Int)) (some (k : Int)) = (xs.drop n).take (k - n) := by
  unfold cutD
  rw [HT.sIx_nat, HT.sIx_nat]
  have hl : (xs.drop n).length = xs.length - n := List.length_drop
  by_cases h : n ≤ xs.length
  · rw [Nat.min_eq_left h]
    by_cases h2 : k ≤ xs.length
    · rw [Nat.min_eq_left h2]
    · rw [Nat.min_eq_right (by omega : xs.length ≤ k), List.take_of_length_le (by omega), List.take_of_length_le (by omega)]
  · rw [Nat.min_eq_right (by omega : xs.length ≤ n), List.drop_of_length_le (Nat.le_refl _), List.drop_of_length_le (by omega : xs.length ≤ n), List.take_nil, List.take_nil]
section
variable {P : D → Mst → Prop} {m : Mst} {VX : XV} {k : Nat} {Z : D → Prop}
end
end Ps
namespace Ps
open PySem PySem.Spec PyProof.Rows L2
def Gd : Nat → D → Prop
  | 0, _ => False
  | _ + 1, .non => True
  | _ + 1, .int _ => True
  | _ + 1, .str s => PyData.strOk s = true
  | n + 1, .lst ds => ds.length ≤ 16777216 ∧ ∀ d ∈ ds, Gd n d
  | n + 1, .tup ds => ds.length ≤ 16777216 ∧ ∀ d ∈ ds, Gd n d
  | _ + 1, _ => False
theorem Gd.up : ∀ {n : Nat} {d : D}, Gd n d → Gd (n + 1) d
  | 0, _, h => h.elim
  | n + 1, d, h => by
    cases d with
    | lst ds => exact ⟨h.1, fun x hx => Gd.up (h.2 x hx)⟩
    | tup ds => exact ⟨h.1, fun x hx => Gd.up (h.2 x hx)⟩
    | non => exact h
    | int i => exact h
    | str s => exact h
    | _ => exact h.elim
theorem Gd.le {n k : Nat} {d : D} (hk : n ≤ k) (h : Gd n d) : Gd k d := by
  induction hk with
  | refl => exact h
  | step _ ih => exact ih.up
theorem pls_of : ∀ {ds : List D}, (∀ d ∈ ds, d.pl = true) → D.pls ds = true
  | [], _ => rfl
  | d :: ds, h => by rw [D.pls, h d List.mem_cons_self, pls_of fun x hx => h x (List.mem_cons_of_mem _ hx)]; rfl
theorem lays_of : ∀ {ds : List D}, (∀ d ∈ ds, PyData.canLay0 d.py = true) → PyData.canLayAll0 (D.pys ds) = true
  | [], _ => rfl
  | d :: ds, h => by rw [D.pys, PyData.canLayAll0, h d List.mem_cons_self, lays_of fun x hx => h x (List.mem_cons_of_mem _ hx)]; rfl
theorem depths_of {n : Nat} : ∀ {ds : List D}, (∀ d ∈ ds, PyData.depth d.py ≤ n) → PyData.depthAll (D.pys ds) ≤ n
  | [], _ => by rw [D.pys, PyData.depthAll]; exact Nat.zero_le _
  | d :: ds, h => by
    rw [D.pys, PyData.depthAll]
    exact Nat.max_le.mpr ⟨h d List.mem_cons_self, depths_of fun x hx => h x (List.mem_cons_of_mem _ hx)⟩
theorem pys_len : ∀ ds : List D, (D.pys ds).length = ds.length
  | [] => rfl
  | d :: ds => by rw [D.pys, List.length_cons, List.length_cons, pys_len ds]
theorem okDs_of {n : Nat} : ∀ {ds : List D}, (∀ d ∈ ds, okD n d.py = true) → (D.pys ds).all (okD n) = true
  | [], _ => rfl
  | d :: ds, h => by rw [D.pys, List.all_cons, h d List.mem_cons_self, okDs_of fun x hx => h x (List.mem_cons_of_mem _ hx)]; rfl
theorem Gd.pl : ∀ {n : Nat} {d : D}, Gd n d → d.pl = true
  | 0, _, h => h.elim
  | n + 1, d, h => by
    cases d with
    | lst ds => rw [D.pl]; exact pls_of fun x hx => Gd.pl (h.2 x hx)
    | tup ds => rw [D.pl]; exact pls_of fun x hx => Gd.pl (h.2 x hx)
    | non => rfl
    | int i => rfl
    | str s => rfl
    | _ => exact h.elim
theorem Gd.lay : ∀ {n : Nat} {d : D}, Gd n d → PyData.canLay0 d.py = true ∧ PyData.depth d.py ≤ n
  | 0, _, h => h.elim
  | n + 1, d, h => by
    cases d with
    | lst ds =>
      rw [D.py, PyData.canLay0, PyData.depth]
      exact ⟨lays_of fun x hx => (Gd.lay (h.2 x hx)).1, Nat.succ_le_succ (depths_of fun x hx => (Gd.lay (h.2 x hx)).2)⟩
    | tup ds =>
      rw [D.py, PyData.canLay0, PyData.depth]
      exact ⟨lays_of fun x hx => (Gd.lay (h.2 x hx)).1, Nat.succ_le_succ (depths_of fun x hx => (Gd.lay (h.2 x hx)).2)⟩
    | non => exact ⟨rfl, by rw [D.py, PyData.depth]; omega⟩
    | int i => exact ⟨rfl, by rw [D.py, PyData.depth]; omega⟩
    | str s => exact ⟨by rw [D.py, PyData.canLay0]; exact h, by rw [D.py, PyData.depth]; omega⟩
    | _ => exact h.elim
theorem Gd.okD : ∀ {n : Nat} {d : D}, Gd n d → Ps.okD n d.py = true
  | 0, _, h => h.elim
  | n + 1, d, h => by
    cases d with
    | lst ds => rw [D.py, Ps.okD, pys_len, decide_eq_true h.1, okDs_of fun x hx => Gd.okD (h.2 x hx)]; rfl
    | tup ds => rw [D.py, Ps.okD, pys_len, decide_eq_true h.1, okDs_of fun x hx => Gd.okD (h.2 x hx)]; rfl
    | non => rfl
    | int i => rfl
    | str s => rfl
    | _ => exact h.elim
theorem Gd.shaped {n : Nat} {d : D} (hn : n ≤ 64) (h : Gd n d) : SeqAt.shaped d.py = true := by
  unfold SeqAt.shaped
  rw [h.lay.1, decide_eq_true (Nat.le_trans h.lay.2 hn)]; rfl
section
variable {d e : D} {n k : Nat} {P : D → Mst → Prop} {m : Mst} {VX : XV} {Z : D → Prop}
theorem e_sameG (h : Gd k d) (q : P (.bl true) m) : vSame k [d, d] m P VX := e_same h.pl h.pl rfl h.okD q
theorem e_neG (hs : scD d e = false) (hn : n ≤ 64) (hd : Gd n d) (he : Gd n e) (h : Z (.bl (!PyData.eqv d.py e.py))) : vNeC d e Z := e_neD hs ⟨hd.pl, he.pl, hd.shaped hn, he.shaped hn⟩ h
theorem e_neR (hs : scD d d = false) (hn : n ≤ 64) (hd : Gd n d) (h : Z (.bl false)) : vNeC d d Z := e_neG hs hn hd hd (by rw [SeqAt.eqv_refl _ hd.lay.1]; exact h)
end
theorem sg_small : ∀ k : Fin 94, sg k.val < 1114112 := by decide +kernel
theorem strOk_is {z : Str} {n : Nat} (h : IsT n z) : PyData.strOk z = true := by
  obtain ⟨ks, rfl, _, hk⟩ := h
  unfold PyData.strOk
  rw [← Array.all_toList, txt_cps]
  refine List.all_eq_true.mpr fun c hc => ?_
  obtain ⟨k, hm, rfl⟩ := List.mem_map.mp hc
  exact decide_eq_true (sg_small ⟨k, hk k hm⟩)
theorem gd_isT {z : Str} {n k : Nat} (h : IsT n z) (hk : 1 ≤ k) : Gd k (.str z) := by
  obtain ⟨k, rfl⟩ : ∃ j, k = j + 1 := ⟨k - 1, by omega⟩
  exact strOk_is h
theorem gd_int {i : Int} {k : Nat} (hk : 1 ≤ k) : Gd k (.int i) := by
  obtain ⟨k, rfl⟩ : ∃ j, k = j + 1 := ⟨k - 1, by omega⟩
  trivial
theorem gd_non {k : Nat} (hk : 1 ≤ k) : Gd k .non := by
  obtain ⟨k, rfl⟩ : ∃ j, k = j + 1 := ⟨k - 1, by omega⟩
  trivial
theorem gd_lst {ds : List D} {k : Nat} (hl : ds.length ≤ 16777216) (h : ∀ d ∈ ds, Gd k d) : Gd (k + 1) (.lst ds) := ⟨hl, h⟩
end Ps
namespace Ps
open PySem PySem.Spec PyProof.Rows L2
inductive Kd where
  | num
  | txt
def Kd.isT : Kd → Bool
  | .num => false
  | .txt => true
def kdD : Kd → D
  | .num => .str "number"
  | .txt => .str "text"
def Val : Kd → D → Prop
  | .num, d => ∃ z : Int, d = .int z ∧ z.natAbs < 2 ^ 100
  | .txt, d => ∃ s : Str, d = .str s ∧ IsT 40 s
def CellK (k : Kd) (d : D) : Prop := d = .non ∨ Val k d
section
variable {k : Kd} {x y z : D}
variable {Z : D → Prop}
theorem e_kT (h : Z (.bl k.isT)) : vEqC (kdD k) (.str "text") Z := by
  cases k with
  | num => exact e_eqS (by rw [decide_eq_false (by decide +kernel)]; exact h)
  | txt => exact e_eqS (by rw [decide_eq_true rfl]; exact h)
theorem e_kN (h : Z (.bl (!k.isT))) : vEqC (kdD k) (.str "number") Z := by
  cases k with
  | num => exact e_eqS (by rw [decide_eq_true rfl]; exact h)
  | txt => exact e_eqS (by rw [decide_eq_false (by decide +kernel)]; exact h)
end
section
variable {k : Kd} {l : List D} {Z : D → Prop}
end
theorem e_ckw {f : List D → List D → (D → Prop) → Prop} {va vk : VA} {env : Env} {m : Mst} {P : D → Mst → Prop} (h : va env m fun xs m1 => vk env m1 fun zs m2 => f xs zs fun z => P z m2) : vCKw f va vk env m P := h
end Ps
namespace Ps
open PySem PySem.Spec PyProof.Rows L2
local macro_rules | `(tactic| walk_at "v1") => `(tactic| first
  | ((with_reducible refine' e_mulI ?hx ?_); (case hx => first | exact .inl (.inr ⟨by decide, by decide⟩) | exact .inl (.inl ⟨by decide, by decide⟩)))
  | ((with_reducible refine' e_ipmI ?hx ?_); (case hx => first | exact .inl (.inr ⟨by decide, by decide⟩) | exact .inl (.inl ⟨by decide, by decide⟩)))
  | (with_reducible refine e_isN ?_)
  | (with_reducible refine e_notN ?_)
  | fail)
local macro_rules | `(tactic| walk_at "v1") => `(tactic| first
  | ((with_reducible refine' e_isi (b := true) ?hx ?hy ?_); (case hx => exact rfl); (case hy => first | exact rfl | decide))
  | ((with_reducible refine' e_isi (b := false) ?hx ?hy ?_); (case hx => exact rfl); (case hy => first | exact rfl | decide))
  | ((with_reducible refine' e_modI ?hx ?_); (case hx => decide))
  | ((with_reducible refine' e_divI ?hx ?_); (case hx => exact .inl ⟨by decide, by decide⟩))
  | fail)
local macro_rules | `(tactic| walk_at "v1") => `(tactic| first
  | ((with_reducible refine' e_len ?hx ?_); (case hx => exact rfl))
  | ((with_reducible refine' e_gtup ?hx ?_); (case hx => exact rfl))
  | ((with_reducible refine' e_gtupU ?hx ?_); (case hx => exact rfl))
  | ((with_reducible refine' e_gtupL ?hx ?_); (case hx => exact rfl))
  | fail)
local macro_rules | `(tactic| walk_at "v1") => `(tactic| first
  | (with_reducible refine w_ifNT ?_)
  | ((with_reducible refine' e_aug ?hx ?_); (case hx => exact rfl))
  | ((with_reducible refine' e_app ?hx ?_); (case hx => exact rfl))
  | ((with_reducible refine' e_mut ?hx ?_); (case hx => exact rfl))
  | fail)
local macro_rules | `(tactic| walk_at "v1") => `(tactic| first
  | (with_reducible refine e_lc ?_)
  | (with_reducible refine w_ifT ?_)
  | (with_reducible refine w_ifF ?_)
  | (with_reducible refine w_ifNF ?_)
  | fail)
local macro_rules | `(tactic| walk_at "v1") => `(tactic| first
  | (with_reducible refine e_zip ?_)
  | (with_reducible refine e_enum ?_)
  | (with_reducible refine e_rev ?_)
  | (with_reducible refine e_for ?_)
  | fail)
local macro_rules | `(tactic| walk_at "v1") => `(tactic| first
  | (with_reducible refine e_ntNl ?_)
  | (with_reducible refine e_ntNt ?_)
  | (with_reducible refine e_rng1 ?_)
  | (with_reducible refine e_rng2 ?_)
  | fail)
local macro_rules | `(tactic| walk_at "v1") => `(tactic| first
  | (with_reducible refine e_isNb ?_)
  | (with_reducible refine e_ntNn ?_)
  | (with_reducible refine e_ntNi ?_)
  | (with_reducible refine e_ntNs ?_)
  | fail)
local macro_rules | `(tactic| walk_at "v1") => `(tactic| first
  | (with_reducible refine e_isNi ?_)
  | (with_reducible refine e_isNs ?_)
  | (with_reducible refine e_isNl ?_)
  | (with_reducible refine e_isNt ?_)
  | fail)
local macro_rules | `(tactic| walk_at "v1") => `(tactic| first
  | (with_reducible refine e_truI ?_)
  | (with_reducible refine e_truL ?_)
  | (with_reducible refine e_truT ?_)
  | (with_reducible refine e_isNn ?_)
  | fail)
local macro_rules | `(tactic| walk_at "v1") => `(tactic| first
  | (with_reducible refine e_itVT ?_)
  | (with_reducible refine e_tru ?_)
  | (with_reducible refine e_truB ?_)
  | (with_reducible refine e_truN ?_)
  | fail)
local macro_rules | `(tactic| walk_at "v1") => `(tactic| first
  | (with_reducible refine e_itEL ?_)
  | (with_reducible refine e_itET ?_)
  | (with_reducible refine e_itES ?_)
  | (with_reducible refine e_itVL ?_)
  | fail)
local macro_rules | `(tactic| walk_at "v1") => `(tactic| first
  | (with_reducible refine e_rg1 ?_)
  | (with_reducible refine e_rg2 ?_)
  | (with_reducible refine e_itZL ?_)
  | (with_reducible refine e_itZT ?_)
  | fail)
local macro_rules | `(tactic| walk_at "v1") => `(tactic| first
  | (with_reducible refine e_seqv ?_)
  | (with_reducible refine e_itL ?_)
  | (with_reducible refine e_itT ?_)
  | (with_reducible refine e_itS ?_)
  | fail)
local macro_rules | `(tactic| walk_at "v1") => `(tactic| first
  | (with_reducible refine e_revm ?_)
  | (with_reducible refine e_clrm ?_)
  | (with_reducible refine e_gcons ?_)
  | (with_reducible refine e_gnil ?_)
  | fail)
local macro_rules | `(tactic| walk_at "v1") => `(tactic| first
  | (with_reducible refine e_intB ?_)
  | (with_reducible refine e_abs ?_)
  | (with_reducible refine e_cutL ?_)
  | (with_reducible refine e_cutT ?_)
  | fail)
local macro_rules | `(tactic| walk_at "v1") => `(tactic| first
  | (with_reducible refine e_listT ?_)
  | (with_reducible refine e_tupL ?_)
  | (with_reducible refine e_tupT ?_)
  | (with_reducible refine e_intI ?_)
  | fail)
local macro_rules | `(tactic| walk_at "v1") => `(tactic| first
  | (with_reducible refine e_lenL ?_)
  | (with_reducible refine e_lenT ?_)
  | (with_reducible refine e_lenD ?_)
  | (with_reducible refine e_listL ?_)
  | fail)
local macro_rules | `(tactic| walk_at "v1") => `(tactic| first
  | (with_reducible refine e_leI ?_)
  | (with_reducible refine e_gtI ?_)
  | (with_reducible refine e_geI ?_)
  | (with_reducible refine e_ipaI ?_)
  | fail)
local macro_rules | `(tactic| walk_at "v1") => `(tactic| first
  | (with_reducible refine e_neI ?_)
  | (with_reducible refine e_neS ?_)
  | (with_reducible refine e_neB ?_)
  | (with_reducible refine e_ltI ?_)
  | fail)
local macro_rules | `(tactic| walk_at "v1") => `(tactic| first
  | (with_reducible refine e_negI ?_)
  | (with_reducible refine e_eqI ?_)
  | (with_reducible refine e_eqS ?_)
  | (with_reducible refine e_eqB ?_)
  | fail)
local macro_rules | `(tactic| walk_at "v1") => `(tactic| first
  | (with_reducible refine e_par ?_)
  | (with_reducible refine e_put ?_)
  | (with_reducible refine e_addI ?_)
  | (with_reducible refine e_subI ?_)
  | fail)
local macro_rules | `(tactic| walk_at "v1") => `(tactic| first
  | (with_reducible refine e_intE ?_)
  | (with_reducible refine e_dnew ?_)
  | (with_reducible refine e_rz1 ?_)
  | (with_reducible refine e_rz0 ?_)
  | fail)
local macro_rules | `(tactic| walk_at "v1") => `(tactic| first
  | (with_reducible refine e_ckw ?_)
  | (with_reducible refine e_max2 ?_)
  | (with_reducible refine e_min2 ?_)
  | (with_reducible refine e_part ?_)
  | fail)
local macro_rules | `(tactic| walk_at "v1") => `(tactic| first
  | (with_reducible refine e_fldX ?_)
  | (with_reducible refine e_tryK ?_)
  | (with_reducible refine e_kT ?_)
  | (with_reducible refine e_kN ?_)
  | fail)
local macro_rules | `(tactic| walk_at "v1") => `(tactic| first
  | (with_reducible refine e_sl ?_)
  | (with_reducible refine e_nopart ?_)
  | (with_reducible refine e_callE ?_)
  | (with_reducible refine e_isiT ?_)
  | fail)
local macro_rules | `(tactic| walk_at "v1") => `(tactic| first
  | (with_reducible refine e_addII ?_)
  | (with_reducible refine e_subII ?_)
  | (with_reducible refine e_sc ?_)
  | (with_reducible refine e_scI ?_)
  | fail)
local macro_rules | `(tactic| walk_at "v1") => `(tactic| first
  | (with_reducible refine e_forB ?_)
  | (with_reducible refine e_popS ?_)
  | (with_reducible refine e_dpopS ?_)
  | (with_reducible refine e_get2 ?_)
  | fail)
local macro_rules | `(tactic| walk_at "v1") => `(tactic| first
  | (with_reducible refine e_enumB ?_)
  | (with_reducible refine e_revB ?_)
  | (with_reducible refine e_zipB ?_)
  | (with_reducible refine e_lcB ?_)
  | fail)
local macro_rules | `(tactic| walk_at "v1") => `(tactic| first
  | (with_reducible refine e_box ?_)
  | (with_reducible refine e_boxL ?_)
  | (with_reducible refine e_boxDi ?_)
  | (with_reducible refine e_seqB ?_)
  | fail)
local macro_rules | `(tactic| walk_at "v1") => `(tactic| first
  | (with_reducible refine e_make ?_)
  | (with_reducible refine e_appS ?_)
  | (with_reducible refine e_mutS ?_)
  | (with_reducible refine e_putS ?_)
  | fail)
local macro_rules | `(tactic| walk_at "v1") => `(tactic| first
  | (with_reducible refine e_fld ?_)
  | (with_reducible refine e_setF ?_)
  | (with_reducible refine e_augF ?_)
  | (with_reducible refine e_meth ?_)
  | fail)
local macro_rules | `(tactic| walk_at "v1") => `(tactic| first
  | (with_reducible refine e_bmL ?_)
  | (with_reducible refine e_bm0L ?_)
  | (with_reducible refine e_truLk ?_)
  | (with_reducible refine e_slL ?_)
  | fail)
local macro_rules | `(tactic| walk_at "v1") => `(tactic| first
  | (with_reducible refine e_frI ?_)
  | (with_reducible refine e_opL ?_)
  | (with_reducible refine e_unL ?_)
  | (with_reducible refine e_cbL ?_)
  | fail)
local macro_rules | `(tactic| walk_at "v1") => `(tactic| first
  | (with_reducible refine e_callS ?_)
  | (with_reducible refine e_callB ?_)
  | (with_reducible refine e_callBS ?_)
  | (with_reducible refine e_frB ?_)
  | fail)
local macro_rules | `(tactic| walk_at "v1") => `(tactic| first
  | (with_reducible refine e_or ?_)
  | (with_reducible refine e_not ?_)
  | (with_reducible refine e_yes ?_)
  | (with_reducible refine e_call ?_)
  | fail)
local macro_rules | `(tactic| walk_at "v1") => `(tactic| first
  | (with_reducible refine e_blE ?_)
  | (with_reducible refine e_chain ?_)
  | (with_reducible refine e_test ?_)
  | (with_reducible refine e_and ?_)
  | fail)
local macro_rules | `(tactic| walk_at "v1") => `(tactic| first
  | (with_reducible refine e_tup ?_)
  | (with_reducible refine e_andV ?_)
  | (with_reducible refine e_orV ?_)
  | (with_reducible refine e_notV ?_)
  | fail)
local macro_rules | `(tactic| walk_at "v1") => `(tactic| first
  | (with_reducible refine e_tyS ?_)
  | (with_reducible refine e_tyL ?_)
  | (with_reducible refine e_tyD ?_)
  | (with_reducible refine e_lst ?_)
  | fail)
local macro_rules | `(tactic| walk_at "v1") => `(tactic| first
  | (with_reducible refine e_un ?_)
  | (with_reducible refine e_cb ?_)
  | (with_reducible refine e_bm ?_)
  | (with_reducible refine e_bm0 ?_)
  | fail)
local macro_rules | `(tactic| walk_at "v1") => `(tactic| first
  | (with_reducible refine e_c ?_)
  | (with_reducible refine e_nil ?_)
  | (with_reducible refine e_cons ?_)
  | (with_reducible refine e_op ?_)
  | fail)
local macro_rules | `(tactic| walk_at "v1") => `(tactic| first
  | (with_reducible refine e_next ?_)
  | (with_reducible refine e_brk ?_)
  | (with_reducible refine e_cont ?_)
  | (with_reducible refine e_gname ?_)
  | fail)
local macro_rules | `(tactic| walk_at "v1") => `(tactic| first
  | (with_reducible refine e_drop ?_)
  | (with_reducible refine e_ret ?_)
  | (with_reducible refine e_retN ?_)
  | (with_reducible refine e_if ?_)
  | fail)
local macro_rules | `(tactic| walk_at "v1") => `(tactic| first
  | (with_reducible refine e_seqForB ?_)
  | (with_reducible refine e_seqAugS ?_)
  | (with_reducible refine e_seqSeq ?_)
  | (with_reducible refine e_asg ?_)
  | fail)
local macro_rules | `(tactic| walk_at "v1") => `(tactic| first
  | (with_reducible refine e_seqAugF ?_)
  | (with_reducible refine e_seqAppS ?_)
  | (with_reducible refine e_seqMutS ?_)
  | (with_reducible refine e_seqPutS ?_)
  | fail)
local macro_rules | `(tactic| walk_at "v1") => `(tactic| first
  | (with_reducible refine e_seqFor ?_)
  | (with_reducible refine e_seqWhile ?_)
  | (with_reducible refine e_seqNext ?_)
  | (with_reducible refine e_seqSetF ?_)
  | fail)
local macro_rules | `(tactic| walk_at "v1") => `(tactic| first
  | (with_reducible refine e_seqApp ?_)
  | (with_reducible refine e_seqMut ?_)
  | (with_reducible refine e_seqPut ?_)
  | (with_reducible refine e_seqPar ?_)
  | fail)
local macro_rules | `(tactic| walk_at "v1") => `(tactic| first
  | ((with_reducible refine' e_var ?hx ?_); (case hx => exact rfl))
  | (with_reducible refine e_seqAsg ?_)
  | (with_reducible refine e_seqDrop ?_)
  | (with_reducible refine e_seqAug ?_)
  | fail)
local macro_rules | `(tactic| walk_at "vv") => `(tactic| repeat (walk_at "v1"))
local macro_rules | `(tactic| walk_at "vi") => `(tactic| ((with_reducible refine e_seq ?_); repeat (walk_at "v1")))
local macro_rules | `(tactic| walk_at "ve") => `(tactic| ((with_reducible refine e_ifE ?_); repeat (walk_at "v1")))
def t_cells (K : PySem.W.Frag) (s_take_ : Sp) (s_text_ : Sp) (s_number_ : Sp) : TS :=
      (tSeq (tAsg (tCall s_take_ [] E0 (tCons (tVar 0) (tCons (tC (.int 5)) tNil))) (gName 3))
      (tSeq (tAsg (tOp (rIxU K) (tLst (tCons (tC (.int 0)) (tCons (tC (.int 4)) (tCons (tC (.int 9)) tNil)))) (tCall s_take_ [] E0 (tCons (tVar 0) (tCons (tC (.int 3)) tNil)))) (gName 4))
      (tSeq (tAsg (tLc (iRng1 (tCons (tOp (rAddU K) (tC (.int 1)) (tCall s_take_ [] E0 (tCons (tVar 0) (tCons (tC (.int 8)) tNil)))) tNil)) (gName 5) tYes (tIf (tTest (tOp (rEqU K) (tVar 1) (tC (.str ("text" : Str))))) (tCall s_text_ [] E0 (tCons (tVar 0) tNil)) (tCall s_number_ [] E0 (tCons (tVar 0) tNil))) [5]) (gName 6))
      (tSeq (tAsg (tOp (rIxU K) (tLst (tCons (tOp (rSubU) (tCall s_take_ [] E0 (tCons (tVar 0) (tCons (tC (.int 9)) tNil))) (tC (.int 4))) (tCons (tCall s_take_ [] E0 (tCons (tVar 0) (tCons (tOp (rPowU) (tC (.int 10)) (tC (.int 6))) tNil))) tNil))) (tCall s_take_ [] E0 (tCons (tVar 0) (tCons (tC (.int 2)) tNil)))) (gName 7))
      (tSeq (tAsg (tLst tNil) (gName 8))
      (tSeq (tFor (iRng1 (tCons (tVar 2) tNil)) (gName 9)
      (tSeq (tAsg (tOp (rIxU K) (tVar 6) (tCall s_take_ [] E0 (tCons (tVar 0) (tCons (tCB (rLenU K) (tCons (tVar 6) tNil)) tNil)))) (gName 10))
      (tSeq (tIfS (tAnd (tTest (tOp (rEqU K) (tVar 3) (tC (.int 1)))) (tAnd (tTest (tOp (rGtV) (tVar 9) (tC (.int 0)))) (tTest (tOp (rGtV) (tCall s_take_ [] E0 (tCons (tVar 0) (tCons (tC (.int 5)) tNil))) (tC (.int 0))))))
      (tAsg (tOp (rIxU K) (tVar 8) (tUn rNeg (tC (.int 1)))) (gName 10))
      (tIfS (tAnd (tTest (tOp (rEqU K) (tVar 3) (tC (.int 2)))) (tTest (tOp (rEqU K) (tVar 1) (tC (.str ("number" : Str))))))
      (tAsg (tOp (rAddU K) (tOp (rModU) (tOp (rIxU K) (tVar 6) (tC (.int 0))) (tOp (rPowU) (tC (.int 10)) (tC (.int 12)))) (tOp (rMulT) (tVar 9) (tVar 7))) (gName 10))
      (tIfS (tAnd (tTest (tOp (rEqU K) (tVar 3) (tC (.int 3)))) (tTest (tOp (rEqU K) (tVar 1) (tC (.str ("number" : Str))))))
      (tAsg (tCall s_number_ [] E0 (tCons (tVar 0) tNil)) (gName 10))
      tNext)))
      (tSeq (tIfS (tAnd (tTest (tOp (rGtV) (tVar 4) (tC (.int 0)))) (tAnd (tTest (tOp (rNeU K) (tVar 3) (tC (.int 2)))) (tTest (tOp (rEqU K) (tCall s_take_ [] E0 (tCons (tVar 0) (tCons (tVar 4) tNil))) (tC (.int 0))))))
      (tAsg (tC .non) (gName 10))
      tNext)
      (tDrop (tBM K "list" (rAppend) (tVar 8) (tCons (tVar 10) tNil)))))))
      (tRet (tVar 8))))))))
abbrev N_cells : List Str := [("_law_state" : Str), ("_law_kind_here" : Str), ("_law_many" : Str), ("_law_way" : Str), ("_law_open_in" : Str), ("_law_turn" : Str), ("_law_some" : Str), ("_law_step" : Str), ("_law_cells_here" : Str), ("_law_place" : Str), ("_law_cell" : Str)]
def v_cells (K : PySem.W.Frag) (vs_take : VSp) (vs_text : VSp) (vs_number : VSp) : VS :=
      (vSeqS (vAsg (vCall vs_take (vCons (vVar 0) (vCons (vC (.int 5)) vNil))) (vgName 3))
      (vSeqS (vAsg (vOp vIx (vLst (vCons (vC (.int 0)) (vCons (vC (.int 4)) (vCons (vC (.int 9)) vNil)))) (vCall vs_take (vCons (vVar 0) (vCons (vC (.int 3)) vNil)))) (vgName 4))
      (vSeqS (vAsg (vLc (vRng1 (vCons (vOp vAdd (vC (.int 1)) (vCall vs_take (vCons (vVar 0) (vCons (vC (.int 8)) vNil)))) vNil)) (vgName 5) vYes (vIfE (vTest (vOp vEqC (vVar 1) (vC (.str ("text" : Str))))) (vCall vs_text (vCons (vVar 0) vNil)) (vCall vs_number (vCons (vVar 0) vNil))) [5]) (vgName 6))
      (vSeqS (vAsg (vOp vIx (vLst (vCons (vOp vSub (vCall vs_take (vCons (vVar 0) (vCons (vC (.int 9)) vNil))) (vC (.int 4))) (vCons (vCall vs_take (vCons (vVar 0) (vCons (vOp vPow (vC (.int 10)) (vC (.int 6))) vNil))) vNil))) (vCall vs_take (vCons (vVar 0) (vCons (vC (.int 2)) vNil)))) (vgName 7))
      (vSeqS (vAsg (vLst vNil) (vgName 8))
      (vSeqS (vFor [2, 5, 9, 10] (vRng1 (vCons (vVar 2) vNil)) (vgName 9)
      (vSeqS (vAsg (vOp vIx (vVar 6) (vCall vs_take (vCons (vVar 0) (vCons (vCB vLen (vCons (vVar 6) vNil)) vNil)))) (vgName 10))
      (vSeqS (vIf (vAnd (vTest (vOp vEqC (vVar 3) (vC (.int 1)))) (vAnd (vTest (vOp vGt (vVar 9) (vC (.int 0)))) (vTest (vOp vGt (vCall vs_take (vCons (vVar 0) (vCons (vC (.int 5)) vNil))) (vC (.int 0))))))
      (vAsg (vOp vIx (vVar 8) (vUn vNeg (vC (.int 1)))) (vgName 10))
      (vIf (vAnd (vTest (vOp vEqC (vVar 3) (vC (.int 2)))) (vTest (vOp vEqC (vVar 1) (vC (.str ("number" : Str))))))
      (vAsg (vOp vAdd (vOp vMod (vOp vIx (vVar 6) (vC (.int 0))) (vOp vPow (vC (.int 10)) (vC (.int 12)))) (vOp vMul (vVar 9) (vVar 7))) (vgName 10))
      (vIf (vAnd (vTest (vOp vEqC (vVar 3) (vC (.int 3)))) (vTest (vOp vEqC (vVar 1) (vC (.str ("number" : Str))))))
      (vAsg (vCall vs_number (vCons (vVar 0) vNil)) (vgName 10))
      vNext)))
      (vSeqS (vIf (vAnd (vTest (vOp vGt (vVar 4) (vC (.int 0)))) (vAnd (vTest (vOp vNeC (vVar 3) (vC (.int 2)))) (vTest (vOp vEqC (vCall vs_take (vCons (vVar 0) (vCons (vVar 4) vNil))) (vC (.int 0))))))
      (vAsg (vC .non) (vgName 10))
      vNext)
      (vApp 8 (vVar 10))))))
      (vRet (vVar 8))))))))
theorem sim_cells {K : PySem.W.Frag} {vs_take : VSp} {vs_text : VSp} {vs_number : VSp} {vsp : VSp} (hv : ∀ ds m P VX, vsp ds m P VX → ds.length = 3 ∧ v_cells K vs_take vs_text vs_number (vends P) (vstart N_cells.length ds) m) :
    ∀ us H Q E, spV K .O vsp us H Q E → t_cells K (spV K .O vs_take) (spV K .F vs_text) (spV K .O vs_number) { nx := fun _ H' => Q .non H', rt := Q } (L2.start N_cells us) H :=
  sim_def (n := 3) (t := .O) (N := N_cells) (Γn := [.F, .F, .F, .F, .F, .F, .F, .F, .F, .F, .F]) (Γb := []) (Γc := []) (ts := fun E => t_cells K (spV K .O vs_take) (spV K .F vs_text) (spV K .O vs_number)) (vs := fun VX => v_cells K vs_take vs_text vs_number) (by decide) (fun c W VX hK hx => by
    subst hK
    exact (x_seq (x_asgO (i := 3) (s_callO (g_cons (s_varF (by rfl)) (g_cons (SO.f s_int) g_nil))))
      (x_seq (x_asgF (i := 4) (s_opF o_ix (SO.b (s_lst (g_cons (SO.f s_int) (g_cons (SO.f s_int) (g_cons (SO.f s_int) g_nil))))) (SO.b (s_callO (g_cons (s_varF (by rfl)) (g_cons (SO.f s_int) g_nil))))))
      (x_seq (x_asgO (i := 6) (s_lc (vs := [5]) (i_rng1 (g_cons (SO.f (s_op o_add (SO.b s_int) (SO.b (s_callO (g_cons (s_varF (by rfl)) (g_cons (SO.f s_int) g_nil)))))) g_nil)) (by rfl) (tg_name (is := [5]) (by rfl) (by decide)) s_yes (s_ifF (s_test (SO.b (s_op o_eq (SF.b (s_varF (by rfl))) (SO.b s_str)))) (s_callF (g_cons (s_varF (by rfl)) g_nil)) (SO.f (s_callO (g_cons (s_varF (by rfl)) g_nil))))))
      (x_seq (x_asgF (i := 7) (s_opF o_ix (SO.b (s_lst (g_cons (SO.f (s_op o_sub (SO.b (s_callO (g_cons (s_varF (by rfl)) (g_cons (SO.f s_int) g_nil)))) (SO.b s_int))) (g_cons (SO.f (s_callO (g_cons (s_varF (by rfl)) (g_cons (SO.f (s_op o_pow (SO.b s_int) (SO.b s_int))) g_nil)))) g_nil)))) (SO.b (s_callO (g_cons (s_varF (by rfl)) (g_cons (SO.f s_int) g_nil))))))
      (x_seq (x_asgO (i := 8) (s_lst g_nil))
      (x_seq (x_for (Γ' := [.F, .F, .F, .O, .F, .F, .O, .F, .O, .F, .F]) (ws := [2, 5, 9, 10]) (i_rng1 (g_cons (s_varF (by rfl)) g_nil)) (tg_name (is := [9]) (by rfl) (by decide))
      (x_seq (x_asgF (i := 10) (s_opF o_ix (s_varB (t := .O) (by rfl)) (SO.b (s_callO (g_cons (s_varF (by rfl)) (g_cons (SO.f (s_cb l_len (a_cons (s_varB (t := .O) (by rfl)) a_nil))) g_nil))))))
      (x_seq (x_if (Γn := [.F, .F, .F, .O, .F, .F, .O, .F, .O, .F, .F]) (s_and (s_test (SO.b (s_op o_eq (s_varB (t := .O) (by rfl)) (SO.b s_int)))) (s_and (s_test (SO.b (s_op o_gt (SF.b (s_varF (by rfl))) (SO.b s_int)))) (s_test (SO.b (s_op o_gt (SO.b (s_callO (g_cons (s_varF (by rfl)) (g_cons (SO.f s_int) g_nil)))) (SO.b s_int))))))
      (x_asgF (i := 10) (s_opF o_ix (s_varB (t := .O) (by rfl)) (SO.b (s_un o_neg (SO.b s_int)))))
      (x_if (Γn := [.F, .F, .F, .O, .F, .F, .O, .F, .O, .F, .F]) (s_and (s_test (SO.b (s_op o_eq (s_varB (t := .O) (by rfl)) (SO.b s_int)))) (s_test (SO.b (s_op o_eq (SF.b (s_varF (by rfl))) (SO.b s_str)))))
      (x_post (Γ1 := [.F, .F, .F, .O, .F, .F, .O, .F, .O, .F, .O]) (Γn := [.F, .F, .F, .O, .F, .F, .O, .F, .O, .F, .F]) (x_asgO (i := 10) (s_op o_add (SO.b (s_op o_mod (SF.b (s_opF o_ix (s_varB (t := .O) (by rfl)) (SO.b s_int))) (SO.b (s_op o_pow (SO.b s_int) (SO.b s_int))))) (SO.b (s_op o_mul (SF.b (s_varF (by rfl))) (SF.b (s_varF (by rfl))))))))
      (x_if (Γn := [.F, .F, .F, .O, .F, .F, .O, .F, .O, .F, .F]) (s_and (s_test (SO.b (s_op o_eq (s_varB (t := .O) (by rfl)) (SO.b s_int)))) (s_test (SO.b (s_op o_eq (SF.b (s_varF (by rfl))) (SO.b s_str)))))
      (x_post (Γ1 := [.F, .F, .F, .O, .F, .F, .O, .F, .O, .F, .O]) (Γn := [.F, .F, .F, .O, .F, .F, .O, .F, .O, .F, .F]) (x_asgO (i := 10) (s_callO (g_cons (s_varF (by rfl)) g_nil))))
      x_next)))
      (x_seq (x_if (Γn := [.F, .F, .F, .O, .F, .F, .O, .F, .O, .F, .F]) (s_and (s_test (SO.b (s_op o_gt (SF.b (s_varF (by rfl))) (SO.b s_int)))) (s_and (s_test (SO.b (s_op o_ne (s_varB (t := .O) (by rfl)) (SO.b s_int)))) (s_test (SO.b (s_op o_eq (SO.b (s_callO (g_cons (s_varF (by rfl)) (g_cons (s_varF (by rfl)) g_nil)))) (SO.b s_int))))))
      (x_post (Γ1 := [.F, .F, .F, .O, .F, .F, .O, .F, .O, .F, .O]) (Γn := [.F, .F, .F, .O, .F, .F, .O, .F, .O, .F, .F]) (x_asgO (i := 10) s_non))
      x_next)
      (x_app (by rfl) (s_varF (by rfl)))))))
      (x_retV (by rfl))))))))) hv
def wCells : VSp := fun ds m P _ => ∃ (x : Addr) (r : Nat) (s0 : Sto) (n : Nat) (k : Kd), ds = [.adr x, kdD k, .int n] ∧ n ≤ 10000 ∧ m = (some (x, r), s0) ∧ 300 + 12 * n ≤ r ∧ ∀ (cs : List D) (r' : Nat), cs.length = n → (∀ c ∈ cs, CellK k c) → r ≤ r' + (300 + 12 * n) → P (.lst cs) ((some (x, r'), s0))
theorem atI_last {α : Type} (l : List α) (x : α) : L2.atI (l ++ [x]) (-1) = some x := by
  unfold L2.atI ixN
  rw [if_neg (by decide), List.length_append, List.length_singleton, if_pos (by omega)]
  show (l ++ [x])[(-1 + ((l.length + 1 : Nat) : Int)).toNat]? = _
  rw [show (-1 + ((l.length + 1 : Nat) : Int)).toNat = l.length by omega, List.getElem?_append_right (Nat.le_refl _), Nat.sub_self]
  rfl
theorem val_num {z : Int} (h : z.natAbs < 2 ^ 100) : Val .num (.int z) := ⟨z, rfl, h⟩
theorem val_txt {z : Str} (h : IsT 20 z) : Val .txt (.str z) := by
  obtain ⟨ks, rfl, hl, hk⟩ := h
  exact ⟨_, rfl, ks, rfl, by omega, hk⟩
theorem val_any {K : PySem.W.Frag} {x : Addr} {r : Nat} {k : Kd} {env : Env} {P : D → Mst → Prop} (hr : 30 ≤ r) (he : env[0]? = some (some (.adr x))) (h : ∀ (d : D) (r' : Nat), Val k d → r ≤ r' + 30 → P d ((some (x, r'), s0))) :
    if k.isT = true then vCall wText (vCons (vVar 0) vNil) env ((some (x, r), s0)) P else vCall wNumber (vCons (vVar 0) vNil) env ((some (x, r), s0)) P := by
  cases k with
  | num => exact e_call (e_cons (e_var he (e_nil ⟨x, r, s0, rfl, rfl, by omega, fun n r' hn hr' => h _ r' (val_num (Nat.lt_trans hn (by decide))) (by omega)⟩)))
  | txt => exact e_call (e_cons (e_var he (e_nil ⟨x, r, s0, rfl, rfl, by omega, fun z r' hz hr' => h _ r' (val_txt hz) (by omega)⟩)))
theorem p_cells {K : PySem.W.Frag} (ds : List D) (m : Mst) (P : D → Mst → Prop) (VX : XV) (h : wCells ds m P VX) : ds.length = 3 ∧ v_cells K vTake wText wNumber (vends P) (vstart N_cells.length ds) m := by
  obtain ⟨x, r, s0, n, k, rfl, hn, rfl, hr, hP⟩ := h
  refine ⟨rfl, ?_⟩
  unfold v_cells
  walk_at "vv"
  refine e_take (by omega) (by decide) (by decide) fun way r1 h1 h2 hr1 => ?_
  walk_at "vv"
  refine e_take (by omega) (by decide) (by decide) fun z2 r2 h3 h4 hr2 => ?_
  obtain ⟨open_, hm, em⟩ := at_litD [(0 : Int), 4, 9] h3 h4
  refine e_ixL em ?_
  walk_at "vv"
  refine e_take (by omega) (by decide) (by decide) fun z3 r3 h5 h6 hr3 => ?_
  obtain ⟨l, rfl⟩ : ∃ l : Nat, z3 = (l : Int) := ⟨z3.toNat, by omega⟩
  walk_at "vv"
  rw [show (1 : Int) + (l : Int) = ((1 + l : Nat) : Int) by push_cast; rfl]
  refine e_itR (by omega) ?_
  refine ⟨fun i acc m' => i ≤ 1 + l ∧ acc.length = i ∧ (∀ c ∈ acc, Val k c) ∧ ∃ r', m' = (some (x, r'), s0) ∧ r3 ≤ r' + 30 * i, ⟨by omega, rfl, by simp, r3, rfl, by omega⟩, ?_, ?_⟩
  · rintro i acc m' d ⟨hi0, hl, hv, r4, rfl, hr4⟩ ed
    obtain ⟨hi, rfl⟩ := rangeD_at ed
    walk_at "vv"
    walk_at "ve"
    refine val_any (K := K) (by omega) rfl fun d r5 hd hr5 => ⟨sz_lt (by omega), by omega, by simp [hl], fun c hc => ?_, r5, rfl, by omega⟩
    rcases List.mem_append.mp hc with hc | hc
    · exact hv c hc
    · rw [List.mem_singleton.mp hc]; exact hd
  · rintro ss m' ⟨hi0, hsl, hv, r4, rfl, hr4⟩
    rw [rangeD_len] at hsl hr4
    walk_at "vv"
    refine e_take (by omega) (by decide) (by decide) fun z4 r5 h7 h8 hr5 => ?_
    walk_at "vv"
    refine e_powI ⟨by decide, by decide, by decide⟩ ?_
    rw [show (10 : Int) ^ (6 : Int).toNat = 1000000 from rfl]
    walk_at "vv"
    refine e_take (by omega) (by decide) (by decide) fun z5 r6 h9 h10 hr6 => ?_
    walk_at "vv"
    refine e_take (by omega) (by decide) (by decide) fun z6 r7 h11 h12 hr7 => ?_
    obtain ⟨step, hstep, estep⟩ := at_litD [z4 - 4, z5] h11 h12
    refine e_ixL estep ?_
    have hst : step.natAbs ≤ 1000000 := by simp at hstep; omega
    walk_at "vv"
    refine e_itR (by omega) ?_
    refine for_inv (fun i e m' => i ≤ n ∧ ∃ (acc : List D) (r' : Nat), e = [some (.adr x), some (kdD k), none, some (.int way), some (.int open_), none, some (.lst ss), some (.int step), some (.lst acc), none, none] ∧ acc.length = i ∧ (∀ c ∈ acc, CellK k c) ∧ m' = (some (x, r'), s0) ∧ r7 ≤ r' + 12 * i) ⟨by omega, [], r7, rfl, rfl, by simp, rfl, by omega⟩ ?_ ?_
    · rintro i e m' d hi ⟨_, acc, r8, rfl, hal, hac, rfl, hr8⟩ ed
      obtain ⟨hi, rfl⟩ := rangeD_at ed
      rw [Int.zero_add]
      walk_at "vv"
      refine e_take (by omega) (by omega) (by omega) fun z7 r9 h13 h14 hr9 => ?_
      obtain ⟨c0, hc0, ec0⟩ := atI_lt (l := ss) h13 h14
      refine e_ixL ec0 ?_
      have hv0 := hv c0 hc0
      walk_at "vv"
      with_reducible refine e_seqO fun N hN => ?_
      have fin : ∀ (c : D) (r' : Nat), CellK k c → r9 ≤ r' + 9 → N [some (.adr x), some (kdD k), none, some (.int way), some (.int open_), none, some (.lst ss), some (.int step), some (.lst acc), some (.int (i : Int)), some c] ((some (x, r'), s0)) := by
        intro c r10 hc hr10
        refine hN _ _ ?_
        have app : ∀ (c : D) (r' : Nat), CellK k c → r9 ≤ r' + 10 → i + 1 ≤ n ∧ ∃ (acc' : List D) (r'' : Nat), [some (D.adr x), some (kdD k), none, some (.int way), some (.int open_), none, some (.lst ss), some (.int step), some (.lst (acc ++ [c])), none, none] = [some (.adr x), some (kdD k), none, some (.int way), some (.int open_), none, some (.lst ss), some (.int step), some (.lst acc'), none, none] ∧ acc'.length = i + 1 ∧ (∀ c ∈ acc', CellK k c) ∧ ((some (x, r'), s0) : Mst) = (some (x, r''), s0) ∧ r7 ≤ r'' + 12 * (i + 1) := fun c r' hc hr' => by
          refine ⟨by omega, acc ++ [c], r', rfl, by simp [hal], fun u hu => ?_, rfl, by omega⟩
          rcases List.mem_append.mp hu with hu | hu
          · exact hac u hu
          · rw [List.mem_singleton.mp hu]; exact hc
        walk_at "vi"
        refine w_ifd (fun q1 => ?_) (fun q1 => ?_)
        · walk_at "vv"
          refine w_ifn (fun q2 => ?_) (fun q2 => ?_)
          · walk_at "vv"
            have ho : open_ = 4 ∨ open_ = 9 := by simp at hm; omega
            refine e_take (by omega) (by omega) (by omega) fun z8 r11 h15 h16 hr11 => ?_
            walk_at "vv"
            refine w_ifd (fun q3 => ?_) (fun q3 => ?_)
            · walk_at "vv"
              exact ⟨sz_lt (by omega), app .non r11 (.inl rfl) (by omega)⟩
            · walk_at "vv"
              exact ⟨sz_lt (by omega), app c r11 hc (by omega)⟩
          · walk_at "vv"
            exact ⟨sz_lt (by omega), app c r10 hc (by omega)⟩
        · walk_at "vv"
          exact ⟨sz_lt (by omega), app c r10 hc (by omega)⟩
      have other : ∀ (V : VEnds) (r' : Nat), V.nx = N → r9 ≤ r' + 1 → vIf (vAnd (vTest (vOp vEqC (vVar 3) (vC (.int 2)))) (vTest (vOp vEqC (vVar 1) (vC (.str ("number" : Str))))))
          (vAsg (vOp vAdd (vOp vMod (vOp vIx (vVar 6) (vC (.int 0))) (vOp vPow (vC (.int 10)) (vC (.int 12)))) (vOp vMul (vVar 9) (vVar 7))) (vgName 10))
          (vIf (vAnd (vTest (vOp vEqC (vVar 3) (vC (.int 3)))) (vTest (vOp vEqC (vVar 1) (vC (.str ("number" : Str))))))
          (vAsg (vCall wNumber (vCons (vVar 0) vNil)) (vgName 10))
          vNext) V [some (.adr x), some (kdD k), none, some (.int way), some (.int open_), none, some (.lst ss), some (.int step), some (.lst acc), some (.int (i : Int)), some c0] ((some (x, r'), s0)) := by
        intro V r10 hV hr10
        have third : vIf (vAnd (vTest (vOp vEqC (vVar 3) (vC (.int 3)))) (vTest (vOp vEqC (vVar 1) (vC (.str ("number" : Str))))))
          (vAsg (vCall wNumber (vCons (vVar 0) vNil)) (vgName 10))
          vNext V [some (.adr x), some (kdD k), none, some (.int way), some (.int open_), none, some (.lst ss), some (.int step), some (.lst acc), some (.int (i : Int)), some c0] ((some (x, r10), s0)) := by
          refine e_if (e_and (e_test (e_op (e_var rfl (e_c ?_)))))
          walk_at "vv"
          refine w_ifd (fun q1 => ?_) (fun q1 => ?_)
          · walk_at "vv"
            cases hk : k with
            | num =>
              subst hk
              refine w_ifT ?_
              walk_at "vv"
              refine ⟨x, r10, s0, rfl, rfl, by omega, fun z r11 hz hr11 => ?_⟩
              walk_at "vv"
              rw [hV]
              exact fin _ r11 (.inr (val_num (Nat.lt_trans hz (by decide)))) (by omega)
            | txt =>
              subst hk
              refine w_ifF ?_
              walk_at "vv"
              rw [hV]
              exact fin c0 r10 (.inr hv0) (by omega)
          · walk_at "vv"
            rw [hV]
            exact fin c0 r10 (.inr hv0) (by omega)
        refine e_if (e_and (e_test (e_op (e_var rfl (e_c ?_)))))
        walk_at "vv"
        refine w_ifd (fun q1 => ?_) (fun q1 => ?_)
        · walk_at "vv"
          cases hk : k with
          | num =>
            subst hk
            refine w_ifT ?_
            obtain ⟨c1, hc1, ec1⟩ := atI_lt (l := ss) (v := 0) (by decide) (by omega)
            obtain ⟨z, rfl, hz⟩ := hv c1 hc1
            walk_at "vv"
            refine e_ixL ec1 ?_
            walk_at "vv"
            refine e_powI ⟨by decide, by decide, by decide⟩ ?_
            rw [show (10 : Int) ^ (12 : Int).toNat = 1000000000000 from rfl]
            walk_at "vv"
            refine e_mulI (.inl (.inl ⟨by omega, by omega⟩)) ?_
            walk_at "vv"
            rw [hV]
            refine fin _ r10 (.inr (val_num ?_)) (by omega)
            have hmul : ((i : Int) * step).natAbs ≤ 10000 * 1000000 := by
              rw [Int.natAbs_mul, Int.natAbs_natCast]
              exact Nat.mul_le_mul (by omega) hst
            have : (z % 1000000000000 + (i : Int) * step).natAbs ≤ 10000000000000 := by omega
            exact Nat.lt_of_le_of_lt this (by decide)
          | txt =>
            subst hk
            refine w_ifF ?_
            exact third
        · refine w_ifF ?_
          exact third
      refine e_if (e_and (e_test (e_op (e_var rfl (e_c ?_)))))
      walk_at "vv"
      refine w_ifd (fun q1 => ?_) (fun q1 => ?_)
      · walk_at "vv"
        refine w_ifd (fun q2 => ?_) (fun q2 => ?_)
        · walk_at "vv"
          refine e_take (by omega) (by decide) (by decide) fun z8 r10 h15 h16 hr10 => ?_
          walk_at "vv"
          refine w_ifd (fun q3 => ?_) (fun q3 => ?_)
          · walk_at "vv"
            have hne : acc ≠ [] := fun e => by rw [e] at hal; simp at hal; omega
            obtain ⟨r, c1, rfl⟩ : ∃ r c1, acc = r ++ [c1] := ⟨acc.dropLast, acc.getLast hne, (List.dropLast_concat_getLast hne).symm⟩
            refine e_ixL (x := c1) (atI_last _ _) ?_
            walk_at "vv"
            exact fin c1 r10 (hac c1 (by simp)) (by omega)
          · exact other _ r10 rfl (by omega)
        · refine w_ifF ?_
          exact other _ r9 rfl (by omega)
      · refine w_ifF ?_
        exact other _ r9 rfl (by omega)
    · rintro e m' ⟨_, acc, r8, rfl, hal, hac, rfl, hr8⟩
      rw [rangeD_len] at hal hr8
      walk_at "vv"
      exact hP acc r8 hal hac (by omega)
theorem w_ifTd {p A B : Prop} [Decidable p] (h : p) (a : A) : if decide p = true then A else B := by rw [decide_eq_true h, if_pos rfl]; exact a
theorem w_ifFd {p A B : Prop} [Decidable p] (h : ¬ p) (b : B) : if decide p = true then A else B := by rw [decide_eq_false h, if_neg Bool.false_ne_true]; exact b
local macro_rules | `(tactic| walk_at "lit") => `(tactic| first | refine w_ifFd (by decide +kernel) ?_ | refine w_ifTd (by decide +kernel) ?_)
local macro_rules | `(tactic| walk_at "vw") => `(tactic| repeat (first | walk_at "v1" | (with_reducible refine e_seq ?_) | walk_at "lit"))
section
variable {Z : D → Prop} {x y : D} {ds : List D} {env : Env} {m : Mst} {P : D → Mst → Prop} {va vb : VE} {k : Kd}
end
end Ps
namespace Ps
open PySem PySem.Spec PyProof.Rows L2
local macro_rules | `(tactic| walk_at "v1") => `(tactic| first
  | ((with_reducible refine' e_ipmI ?hx ?_); (case hx => first | exact .inl (.inr ⟨by decide, by decide⟩) | exact .inl (.inl ⟨by decide, by decide⟩)))
  | (with_reducible refine e_isN ?_)
  | (with_reducible refine e_notN ?_)
  | fail)
local macro_rules | `(tactic| walk_at "v1") => `(tactic| first
  | ((with_reducible refine' e_isi (b := false) ?hx ?hy ?_); (case hx => exact rfl); (case hy => first | exact rfl | decide))
  | ((with_reducible refine' e_modI ?hx ?_); (case hx => decide))
  | ((with_reducible refine' e_divI ?hx ?_); (case hx => exact .inl ⟨by decide, by decide⟩))
  | ((with_reducible refine' e_mulI ?hx ?_); (case hx => first | exact .inl (.inr ⟨by decide, by decide⟩) | exact .inl (.inl ⟨by decide, by decide⟩)))
  | fail)
local macro_rules | `(tactic| walk_at "v1") => `(tactic| first
  | ((with_reducible refine' e_gtup ?hx ?_); (case hx => exact rfl))
  | ((with_reducible refine' e_gtupU ?hx ?_); (case hx => exact rfl))
  | ((with_reducible refine' e_gtupL ?hx ?_); (case hx => exact rfl))
  | ((with_reducible refine' e_isi (b := true) ?hx ?hy ?_); (case hx => exact rfl); (case hy => first | exact rfl | decide))
  | fail)
local macro_rules | `(tactic| walk_at "v1") => `(tactic| first
  | ((with_reducible refine' e_aug ?hx ?_); (case hx => exact rfl))
  | ((with_reducible refine' e_app ?hx ?_); (case hx => exact rfl))
  | ((with_reducible refine' e_mut ?hx ?_); (case hx => exact rfl))
  | ((with_reducible refine' e_len ?hx ?_); (case hx => exact rfl))
  | fail)
local macro_rules | `(tactic| walk_at "v1") => `(tactic| first
  | (with_reducible refine w_ifT ?_)
  | (with_reducible refine w_ifF ?_)
  | (with_reducible refine w_ifNF ?_)
  | (with_reducible refine w_ifNT ?_)
  | fail)
local macro_rules | `(tactic| walk_at "v1") => `(tactic| first
  | (with_reducible refine e_enum ?_)
  | (with_reducible refine e_rev ?_)
  | (with_reducible refine e_for ?_)
  | (with_reducible refine e_lc ?_)
  | fail)
local macro_rules | `(tactic| walk_at "v1") => `(tactic| first
  | (with_reducible refine e_ntNt ?_)
  | (with_reducible refine e_rng1 ?_)
  | (with_reducible refine e_rng2 ?_)
  | (with_reducible refine e_zip ?_)
  | fail)
local macro_rules | `(tactic| walk_at "v1") => `(tactic| first
  | (with_reducible refine e_ntNn ?_)
  | (with_reducible refine e_ntNi ?_)
  | (with_reducible refine e_ntNs ?_)
  | (with_reducible refine e_ntNl ?_)
  | fail)
local macro_rules | `(tactic| walk_at "v1") => `(tactic| first
  | (with_reducible refine e_isNs ?_)
  | (with_reducible refine e_isNl ?_)
  | (with_reducible refine e_isNt ?_)
  | (with_reducible refine e_isNb ?_)
  | fail)
local macro_rules | `(tactic| walk_at "v1") => `(tactic| first
  | (with_reducible refine e_truL ?_)
  | (with_reducible refine e_truT ?_)
  | (with_reducible refine e_isNn ?_)
  | (with_reducible refine e_isNi ?_)
  | fail)
local macro_rules | `(tactic| walk_at "v1") => `(tactic| first
  | (with_reducible refine e_tru ?_)
  | (with_reducible refine e_truB ?_)
  | (with_reducible refine e_truN ?_)
  | (with_reducible refine e_truI ?_)
  | fail)
local macro_rules | `(tactic| walk_at "v1") => `(tactic| first
  | (with_reducible refine e_itET ?_)
  | (with_reducible refine e_itES ?_)
  | (with_reducible refine e_itVL ?_)
  | (with_reducible refine e_itVT ?_)
  | fail)
local macro_rules | `(tactic| walk_at "v1") => `(tactic| first
  | (with_reducible refine e_rg2 ?_)
  | (with_reducible refine e_itZL ?_)
  | (with_reducible refine e_itZT ?_)
  | (with_reducible refine e_itEL ?_)
  | fail)
local macro_rules | `(tactic| walk_at "v1") => `(tactic| first
  | (with_reducible refine e_itL ?_)
  | (with_reducible refine e_itT ?_)
  | (with_reducible refine e_itS ?_)
  | (with_reducible refine e_rg1 ?_)
  | fail)
local macro_rules | `(tactic| walk_at "v1") => `(tactic| first
  | (with_reducible refine e_clrm ?_)
  | (with_reducible refine e_gcons ?_)
  | (with_reducible refine e_gnil ?_)
  | (with_reducible refine e_seqv ?_)
  | fail)
local macro_rules | `(tactic| walk_at "v1") => `(tactic| first
  | (with_reducible refine e_abs ?_)
  | (with_reducible refine e_cutL ?_)
  | (with_reducible refine e_cutT ?_)
  | (with_reducible refine e_revm ?_)
  | fail)
local macro_rules | `(tactic| walk_at "v1") => `(tactic| first
  | (with_reducible refine e_tupL ?_)
  | (with_reducible refine e_tupT ?_)
  | (with_reducible refine e_intI ?_)
  | (with_reducible refine e_intB ?_)
  | fail)
local macro_rules | `(tactic| walk_at "v1") => `(tactic| first
  | (with_reducible refine e_lenT ?_)
  | (with_reducible refine e_lenD ?_)
  | (with_reducible refine e_listL ?_)
  | (with_reducible refine e_listT ?_)
  | fail)
local macro_rules | `(tactic| walk_at "v1") => `(tactic| first
  | (with_reducible refine e_gtI ?_)
  | (with_reducible refine e_geI ?_)
  | (with_reducible refine e_ipaI ?_)
  | (with_reducible refine e_lenL ?_)
  | fail)
local macro_rules | `(tactic| walk_at "v1") => `(tactic| first
  | (with_reducible refine e_neS ?_)
  | (with_reducible refine e_neB ?_)
  | (with_reducible refine e_ltI ?_)
  | (with_reducible refine e_leI ?_)
  | fail)
local macro_rules | `(tactic| walk_at "v1") => `(tactic| first
  | (with_reducible refine e_eqI ?_)
  | (with_reducible refine e_eqS ?_)
  | (with_reducible refine e_eqB ?_)
  | (with_reducible refine e_neI ?_)
  | fail)
local macro_rules | `(tactic| walk_at "v1") => `(tactic| first
  | (with_reducible refine e_put ?_)
  | (with_reducible refine e_addI ?_)
  | (with_reducible refine e_subI ?_)
  | (with_reducible refine e_negI ?_)
  | fail)
local macro_rules | `(tactic| walk_at "v1") => `(tactic| first
  | (with_reducible refine e_dnew ?_)
  | (with_reducible refine e_rz1 ?_)
  | (with_reducible refine e_rz0 ?_)
  | (with_reducible refine e_par ?_)
  | fail)
local macro_rules | `(tactic| walk_at "v1") => `(tactic| first
  | (with_reducible refine e_max2 ?_)
  | (with_reducible refine e_min2 ?_)
  | (with_reducible refine e_part ?_)
  | (with_reducible refine e_intE ?_)
  | fail)
local macro_rules | `(tactic| walk_at "v1") => `(tactic| first
  | (with_reducible refine e_tryK ?_)
  | (with_reducible refine e_kT ?_)
  | (with_reducible refine e_kN ?_)
  | (with_reducible refine e_ckw ?_)
  | fail)
local macro_rules | `(tactic| walk_at "v1") => `(tactic| first
  | (with_reducible refine e_nopart ?_)
  | (with_reducible refine e_callE ?_)
  | (with_reducible refine e_isiT ?_)
  | (with_reducible refine e_fldX ?_)
  | fail)
local macro_rules | `(tactic| walk_at "v1") => `(tactic| first
  | (with_reducible refine e_subII ?_)
  | (with_reducible refine e_sc ?_)
  | (with_reducible refine e_scI ?_)
  | (with_reducible refine e_sl ?_)
  | fail)
local macro_rules | `(tactic| walk_at "v1") => `(tactic| first
  | (with_reducible refine e_popS ?_)
  | (with_reducible refine e_dpopS ?_)
  | (with_reducible refine e_get2 ?_)
  | (with_reducible refine e_addII ?_)
  | fail)
local macro_rules | `(tactic| walk_at "v1") => `(tactic| first
  | (with_reducible refine e_revB ?_)
  | (with_reducible refine e_zipB ?_)
  | (with_reducible refine e_lcB ?_)
  | (with_reducible refine e_forB ?_)
  | fail)
local macro_rules | `(tactic| walk_at "v1") => `(tactic| first
  | (with_reducible refine e_boxL ?_)
  | (with_reducible refine e_boxDi ?_)
  | (with_reducible refine e_seqB ?_)
  | (with_reducible refine e_enumB ?_)
  | fail)
local macro_rules | `(tactic| walk_at "v1") => `(tactic| first
  | (with_reducible refine e_appS ?_)
  | (with_reducible refine e_mutS ?_)
  | (with_reducible refine e_putS ?_)
  | (with_reducible refine e_box ?_)
  | fail)
local macro_rules | `(tactic| walk_at "v1") => `(tactic| first
  | (with_reducible refine e_setF ?_)
  | (with_reducible refine e_augF ?_)
  | (with_reducible refine e_meth ?_)
  | (with_reducible refine e_make ?_)
  | fail)
local macro_rules | `(tactic| walk_at "v1") => `(tactic| first
  | (with_reducible refine e_bm0L ?_)
  | (with_reducible refine e_truLk ?_)
  | (with_reducible refine e_slL ?_)
  | (with_reducible refine e_fld ?_)
  | fail)
local macro_rules | `(tactic| walk_at "v1") => `(tactic| first
  | (with_reducible refine e_opL ?_)
  | (with_reducible refine e_unL ?_)
  | (with_reducible refine e_cbL ?_)
  | (with_reducible refine e_bmL ?_)
  | fail)
local macro_rules | `(tactic| walk_at "v1") => `(tactic| first
  | (with_reducible refine e_callB ?_)
  | (with_reducible refine e_callBS ?_)
  | (with_reducible refine e_frB ?_)
  | (with_reducible refine e_frI ?_)
  | fail)
local macro_rules | `(tactic| walk_at "v1") => `(tactic| first
  | (with_reducible refine e_not ?_)
  | (with_reducible refine e_yes ?_)
  | (with_reducible refine e_call ?_)
  | (with_reducible refine e_callS ?_)
  | fail)
local macro_rules | `(tactic| walk_at "v1") => `(tactic| first
  | (with_reducible refine e_chain ?_)
  | (with_reducible refine e_test ?_)
  | (with_reducible refine e_and ?_)
  | (with_reducible refine e_or ?_)
  | fail)
local macro_rules | `(tactic| walk_at "v1") => `(tactic| first
  | (with_reducible refine e_andV ?_)
  | (with_reducible refine e_orV ?_)
  | (with_reducible refine e_notV ?_)
  | (with_reducible refine e_blE ?_)
  | fail)
local macro_rules | `(tactic| walk_at "v1") => `(tactic| first
  | (with_reducible refine e_tyL ?_)
  | (with_reducible refine e_tyD ?_)
  | (with_reducible refine e_lst ?_)
  | (with_reducible refine e_tup ?_)
  | fail)
local macro_rules | `(tactic| walk_at "v1") => `(tactic| first
  | (with_reducible refine e_cb ?_)
  | (with_reducible refine e_bm ?_)
  | (with_reducible refine e_bm0 ?_)
  | (with_reducible refine e_tyS ?_)
  | fail)
local macro_rules | `(tactic| walk_at "v1") => `(tactic| first
  | (with_reducible refine e_nil ?_)
  | (with_reducible refine e_cons ?_)
  | (with_reducible refine e_op ?_)
  | (with_reducible refine e_un ?_)
  | fail)
local macro_rules | `(tactic| walk_at "v1") => `(tactic| first
  | (with_reducible refine e_brk ?_)
  | (with_reducible refine e_cont ?_)
  | (with_reducible refine e_gname ?_)
  | (with_reducible refine e_c ?_)
  | fail)
local macro_rules | `(tactic| walk_at "v1") => `(tactic| first
  | (with_reducible refine e_ret ?_)
  | (with_reducible refine e_retN ?_)
  | (with_reducible refine e_if ?_)
  | (with_reducible refine e_next ?_)
  | fail)
local macro_rules | `(tactic| walk_at "v1") => `(tactic| first
  | (with_reducible refine e_seqAugS ?_)
  | (with_reducible refine e_seqSeq ?_)
  | (with_reducible refine e_asg ?_)
  | (with_reducible refine e_drop ?_)
  | fail)
local macro_rules | `(tactic| walk_at "v1") => `(tactic| first
  | (with_reducible refine e_seqAppS ?_)
  | (with_reducible refine e_seqMutS ?_)
  | (with_reducible refine e_seqPutS ?_)
  | (with_reducible refine e_seqForB ?_)
  | fail)
local macro_rules | `(tactic| walk_at "v1") => `(tactic| first
  | (with_reducible refine e_seqWhile ?_)
  | (with_reducible refine e_seqNext ?_)
  | (with_reducible refine e_seqSetF ?_)
  | (with_reducible refine e_seqAugF ?_)
  | fail)
local macro_rules | `(tactic| walk_at "v1") => `(tactic| first
  | (with_reducible refine e_seqMut ?_)
  | (with_reducible refine e_seqPut ?_)
  | (with_reducible refine e_seqPar ?_)
  | (with_reducible refine e_seqFor ?_)
  | fail)
local macro_rules | `(tactic| walk_at "v1") => `(tactic| first
  | (with_reducible refine e_seqAsg ?_)
  | (with_reducible refine e_seqDrop ?_)
  | (with_reducible refine e_seqAug ?_)
  | (with_reducible refine e_seqApp ?_)
  | fail)
local macro_rules | `(tactic| walk_at "v1") => `(tactic| first
  | ((with_reducible refine' e_upd ?hx ?_); (case hx => exact rfl))
  | (with_reducible refine e_isB ?_)
  | (with_reducible refine e_notB ?_)
  | (with_reducible refine e_seqUpd ?_)
  | fail)
local macro_rules | `(tactic| walk_at "v1") => `(tactic| first
  | ((with_reducible refine' e_var ?hx ?_); (case hx => exact rfl))
  | (with_reducible refine e_disp ?_)
  | (with_reducible refine e_pcons ?_)
  | (with_reducible refine e_pnil ?_)
  | fail)
local macro_rules | `(tactic| walk_at "vv") => `(tactic| repeat (walk_at "v1"))
local macro_rules | `(tactic| walk_at "vi") => `(tactic| ((with_reducible refine e_seq ?_); repeat (walk_at "v1")))
local macro_rules | `(tactic| walk_at "ve") => `(tactic| ((with_reducible refine e_ifE ?_); repeat (walk_at "v1")))
local macro_rules | `(tactic| walk_at "lit") => `(tactic| first | refine w_ifFd (by decide +kernel) ?_ | refine w_ifTd (by decide +kernel) ?_)
local macro_rules | `(tactic| walk_at "vw") => `(tactic| repeat (first | walk_at "v1" | (with_reducible refine e_seq ?_) | walk_at "lit"))
theorem e_ixX {x c : D} {row : List D} {n : Int} {Z : D → Prop} (hx : x = .lst row ∨ x = .tup row) (he : atI row n = some c) (h : Z c) : vIx x (.int n) Z := by
  rcases hx with rfl | rfl
  · exact e_ixL he h
  · exact e_ixT he h
end Ps
namespace Ps
open PySem PySem.Spec PyProof.Rows L2
local macro_rules | `(tactic| walk_at "v1") => `(tactic| first
  | (with_reducible refine e_isN ?_)
  | (with_reducible refine e_notN ?_)
  | fail)
local macro_rules | `(tactic| walk_at "v1") => `(tactic| first
  | ((with_reducible refine' e_modI ?hx ?_); (case hx => decide))
  | ((with_reducible refine' e_divI ?hx ?_); (case hx => exact .inl ⟨by decide, by decide⟩))
  | ((with_reducible refine' e_mulI ?hx ?_); (case hx => first | exact .inl (.inr ⟨by decide, by decide⟩) | exact .inl (.inl ⟨by decide, by decide⟩)))
  | ((with_reducible refine' e_ipmI ?hx ?_); (case hx => first | exact .inl (.inr ⟨by decide, by decide⟩) | exact .inl (.inl ⟨by decide, by decide⟩)))
  | fail)
local macro_rules | `(tactic| walk_at "v1") => `(tactic| first
  | ((with_reducible refine' e_gtupU ?hx ?_); (case hx => exact rfl))
  | ((with_reducible refine' e_gtupL ?hx ?_); (case hx => exact rfl))
  | ((with_reducible refine' e_isi (b := true) ?hx ?hy ?_); (case hx => exact rfl); (case hy => first | exact rfl | decide))
  | ((with_reducible refine' e_isi (b := false) ?hx ?hy ?_); (case hx => exact rfl); (case hy => first | exact rfl | decide))
  | fail)
local macro_rules | `(tactic| walk_at "v1") => `(tactic| first
  | ((with_reducible refine' e_app ?hx ?_); (case hx => exact rfl))
  | ((with_reducible refine' e_mut ?hx ?_); (case hx => exact rfl))
  | ((with_reducible refine' e_len ?hx ?_); (case hx => exact rfl))
  | ((with_reducible refine' e_gtup ?hx ?_); (case hx => exact rfl))
  | fail)
local macro_rules | `(tactic| walk_at "v1") => `(tactic| first
  | (with_reducible refine w_ifF ?_)
  | (with_reducible refine w_ifNF ?_)
  | (with_reducible refine w_ifNT ?_)
  | ((with_reducible refine' e_aug ?hx ?_); (case hx => exact rfl))
  | fail)
local macro_rules | `(tactic| walk_at "v1") => `(tactic| first
  | (with_reducible refine e_rev ?_)
  | (with_reducible refine e_for ?_)
  | (with_reducible refine e_lc ?_)
  | (with_reducible refine w_ifT ?_)
  | fail)
local macro_rules | `(tactic| walk_at "v1") => `(tactic| first
  | (with_reducible refine e_rng1 ?_)
  | (with_reducible refine e_rng2 ?_)
  | (with_reducible refine e_zip ?_)
  | (with_reducible refine e_enum ?_)
  | fail)
local macro_rules | `(tactic| walk_at "v1") => `(tactic| first
  | (with_reducible refine e_ntNi ?_)
  | (with_reducible refine e_ntNs ?_)
  | (with_reducible refine e_ntNl ?_)
  | (with_reducible refine e_ntNt ?_)
  | fail)
local macro_rules | `(tactic| walk_at "v1") => `(tactic| first
  | (with_reducible refine e_isNl ?_)
  | (with_reducible refine e_isNt ?_)
  | (with_reducible refine e_isNb ?_)
  | (with_reducible refine e_ntNn ?_)
  | fail)
local macro_rules | `(tactic| walk_at "v1") => `(tactic| first
  | (with_reducible refine e_truT ?_)
  | (with_reducible refine e_isNn ?_)
  | (with_reducible refine e_isNi ?_)
  | (with_reducible refine e_isNs ?_)
  | fail)
local macro_rules | `(tactic| walk_at "v1") => `(tactic| first
  | (with_reducible refine e_truB ?_)
  | (with_reducible refine e_truN ?_)
  | (with_reducible refine e_truI ?_)
  | (with_reducible refine e_truL ?_)
  | fail)
local macro_rules | `(tactic| walk_at "v1") => `(tactic| first
  | (with_reducible refine e_itES ?_)
  | (with_reducible refine e_itVL ?_)
  | (with_reducible refine e_itVT ?_)
  | (with_reducible refine e_tru ?_)
  | fail)
local macro_rules | `(tactic| walk_at "v1") => `(tactic| first
  | (with_reducible refine e_itZL ?_)
  | (with_reducible refine e_itZT ?_)
  | (with_reducible refine e_itEL ?_)
  | (with_reducible refine e_itET ?_)
  | fail)
local macro_rules | `(tactic| walk_at "v1") => `(tactic| first
  | (with_reducible refine e_itT ?_)
  | (with_reducible refine e_itS ?_)
  | (with_reducible refine e_rg1 ?_)
  | (with_reducible refine e_rg2 ?_)
  | fail)
local macro_rules | `(tactic| walk_at "v1") => `(tactic| first
  | (with_reducible refine e_gcons ?_)
  | (with_reducible refine e_gnil ?_)
  | (with_reducible refine e_seqv ?_)
  | (with_reducible refine e_itL ?_)
  | fail)
local macro_rules | `(tactic| walk_at "v1") => `(tactic| first
  | (with_reducible refine e_cutL ?_)
  | (with_reducible refine e_cutT ?_)
  | (with_reducible refine e_revm ?_)
  | (with_reducible refine e_clrm ?_)
  | fail)
local macro_rules | `(tactic| walk_at "v1") => `(tactic| first
  | (with_reducible refine e_tupT ?_)
  | (with_reducible refine e_intI ?_)
  | (with_reducible refine e_intB ?_)
  | (with_reducible refine e_abs ?_)
  | fail)
local macro_rules | `(tactic| walk_at "v1") => `(tactic| first
  | (with_reducible refine e_lenD ?_)
  | (with_reducible refine e_listL ?_)
  | (with_reducible refine e_listT ?_)
  | (with_reducible refine e_tupL ?_)
  | fail)
local macro_rules | `(tactic| walk_at "v1") => `(tactic| first
  | (with_reducible refine e_geI ?_)
  | (with_reducible refine e_ipaI ?_)
  | (with_reducible refine e_lenL ?_)
  | (with_reducible refine e_lenT ?_)
  | fail)
local macro_rules | `(tactic| walk_at "v1") => `(tactic| first
  | (with_reducible refine e_neB ?_)
  | (with_reducible refine e_ltI ?_)
  | (with_reducible refine e_leI ?_)
  | (with_reducible refine e_gtI ?_)
  | fail)
local macro_rules | `(tactic| walk_at "v1") => `(tactic| first
  | (with_reducible refine e_eqS ?_)
  | (with_reducible refine e_eqB ?_)
  | (with_reducible refine e_neI ?_)
  | (with_reducible refine e_neS ?_)
  | fail)
local macro_rules | `(tactic| walk_at "v1") => `(tactic| first
  | (with_reducible refine e_addI ?_)
  | (with_reducible refine e_subI ?_)
  | (with_reducible refine e_negI ?_)
  | (with_reducible refine e_eqI ?_)
  | fail)
local macro_rules | `(tactic| walk_at "v1") => `(tactic| first
  | (with_reducible refine e_rz1 ?_)
  | (with_reducible refine e_rz0 ?_)
  | (with_reducible refine e_par ?_)
  | (with_reducible refine e_put ?_)
  | fail)
local macro_rules | `(tactic| walk_at "v1") => `(tactic| first
  | (with_reducible refine e_min2 ?_)
  | (with_reducible refine e_part ?_)
  | (with_reducible refine e_intE ?_)
  | (with_reducible refine e_dnew ?_)
  | fail)
local macro_rules | `(tactic| walk_at "v1") => `(tactic| first
  | (with_reducible refine e_kT ?_)
  | (with_reducible refine e_kN ?_)
  | (with_reducible refine e_ckw ?_)
  | (with_reducible refine e_max2 ?_)
  | fail)
local macro_rules | `(tactic| walk_at "v1") => `(tactic| first
  | (with_reducible refine e_callE ?_)
  | (with_reducible refine e_isiT ?_)
  | (with_reducible refine e_fldX ?_)
  | (with_reducible refine e_tryK ?_)
  | fail)
local macro_rules | `(tactic| walk_at "v1") => `(tactic| first
  | (with_reducible refine e_sc ?_)
  | (with_reducible refine e_scI ?_)
  | (with_reducible refine e_sl ?_)
  | (with_reducible refine e_nopart ?_)
  | fail)
local macro_rules | `(tactic| walk_at "v1") => `(tactic| first
  | (with_reducible refine e_dpopS ?_)
  | (with_reducible refine e_get2 ?_)
  | (with_reducible refine e_addII ?_)
  | (with_reducible refine e_subII ?_)
  | fail)
local macro_rules | `(tactic| walk_at "v1") => `(tactic| first
  | (with_reducible refine e_zipB ?_)
  | (with_reducible refine e_lcB ?_)
  | (with_reducible refine e_forB ?_)
  | (with_reducible refine e_popS ?_)
  | fail)
local macro_rules | `(tactic| walk_at "v1") => `(tactic| first
  | (with_reducible refine e_boxDi ?_)
  | (with_reducible refine e_seqB ?_)
  | (with_reducible refine e_enumB ?_)
  | (with_reducible refine e_revB ?_)
  | fail)
local macro_rules | `(tactic| walk_at "v1") => `(tactic| first
  | (with_reducible refine e_mutS ?_)
  | (with_reducible refine e_putS ?_)
  | (with_reducible refine e_box ?_)
  | (with_reducible refine e_boxL ?_)
  | fail)
local macro_rules | `(tactic| walk_at "v1") => `(tactic| first
  | (with_reducible refine e_augF ?_)
  | (with_reducible refine e_meth ?_)
  | (with_reducible refine e_make ?_)
  | (with_reducible refine e_appS ?_)
  | fail)
local macro_rules | `(tactic| walk_at "v1") => `(tactic| first
  | (with_reducible refine e_truLk ?_)
  | (with_reducible refine e_slL ?_)
  | (with_reducible refine e_fld ?_)
  | (with_reducible refine e_setF ?_)
  | fail)
local macro_rules | `(tactic| walk_at "v1") => `(tactic| first
  | (with_reducible refine e_unL ?_)
  | (with_reducible refine e_cbL ?_)
  | (with_reducible refine e_bmL ?_)
  | (with_reducible refine e_bm0L ?_)
  | fail)
local macro_rules | `(tactic| walk_at "v1") => `(tactic| first
  | (with_reducible refine e_callBS ?_)
  | (with_reducible refine e_frB ?_)
  | (with_reducible refine e_frI ?_)
  | (with_reducible refine e_opL ?_)
  | fail)
local macro_rules | `(tactic| walk_at "v1") => `(tactic| first
  | (with_reducible refine e_yes ?_)
  | (with_reducible refine e_call ?_)
  | (with_reducible refine e_callS ?_)
  | (with_reducible refine e_callB ?_)
  | fail)
local macro_rules | `(tactic| walk_at "v1") => `(tactic| first
  | (with_reducible refine e_test ?_)
  | (with_reducible refine e_and ?_)
  | (with_reducible refine e_or ?_)
  | (with_reducible refine e_not ?_)
  | fail)
local macro_rules | `(tactic| walk_at "v1") => `(tactic| first
  | (with_reducible refine e_orV ?_)
  | (with_reducible refine e_notV ?_)
  | (with_reducible refine e_blE ?_)
  | (with_reducible refine e_chain ?_)
  | fail)
local macro_rules | `(tactic| walk_at "v1") => `(tactic| first
  | (with_reducible refine e_tyD ?_)
  | (with_reducible refine e_lst ?_)
  | (with_reducible refine e_tup ?_)
  | (with_reducible refine e_andV ?_)
  | fail)
local macro_rules | `(tactic| walk_at "v1") => `(tactic| first
  | (with_reducible refine e_bm ?_)
  | (with_reducible refine e_bm0 ?_)
  | (with_reducible refine e_tyS ?_)
  | (with_reducible refine e_tyL ?_)
  | fail)
local macro_rules | `(tactic| walk_at "v1") => `(tactic| first
  | (with_reducible refine e_cons ?_)
  | (with_reducible refine e_op ?_)
  | (with_reducible refine e_un ?_)
  | (with_reducible refine e_cb ?_)
  | fail)
local macro_rules | `(tactic| walk_at "v1") => `(tactic| first
  | (with_reducible refine e_cont ?_)
  | (with_reducible refine e_gname ?_)
  | (with_reducible refine e_c ?_)
  | (with_reducible refine e_nil ?_)
  | fail)
local macro_rules | `(tactic| walk_at "v1") => `(tactic| first
  | (with_reducible refine e_retN ?_)
  | (with_reducible refine e_if ?_)
  | (with_reducible refine e_next ?_)
  | (with_reducible refine e_brk ?_)
  | fail)
local macro_rules | `(tactic| walk_at "v1") => `(tactic| first
  | (with_reducible refine e_seqSeq ?_)
  | (with_reducible refine e_asg ?_)
  | (with_reducible refine e_drop ?_)
  | (with_reducible refine e_ret ?_)
  | fail)
local macro_rules | `(tactic| walk_at "v1") => `(tactic| first
  | (with_reducible refine e_seqMutS ?_)
  | (with_reducible refine e_seqPutS ?_)
  | (with_reducible refine e_seqForB ?_)
  | (with_reducible refine e_seqAugS ?_)
  | fail)
local macro_rules | `(tactic| walk_at "v1") => `(tactic| first
  | (with_reducible refine e_seqNext ?_)
  | (with_reducible refine e_seqSetF ?_)
  | (with_reducible refine e_seqAugF ?_)
  | (with_reducible refine e_seqAppS ?_)
  | fail)
local macro_rules | `(tactic| walk_at "v1") => `(tactic| first
  | (with_reducible refine e_seqPut ?_)
  | (with_reducible refine e_seqPar ?_)
  | (with_reducible refine e_seqFor ?_)
  | (with_reducible refine e_seqWhile ?_)
  | fail)
local macro_rules | `(tactic| walk_at "v1") => `(tactic| first
  | (with_reducible refine e_seqDrop ?_)
  | (with_reducible refine e_seqAug ?_)
  | (with_reducible refine e_seqApp ?_)
  | (with_reducible refine e_seqMut ?_)
  | fail)
local macro_rules | `(tactic| walk_at "v1") => `(tactic| first
  | (with_reducible refine e_isB ?_)
  | (with_reducible refine e_notB ?_)
  | (with_reducible refine e_seqUpd ?_)
  | (with_reducible refine e_seqAsg ?_)
  | fail)
local macro_rules | `(tactic| walk_at "v1") => `(tactic| first
  | (with_reducible refine e_disp ?_)
  | (with_reducible refine e_pcons ?_)
  | (with_reducible refine e_pnil ?_)
  | ((with_reducible refine' e_upd ?hx ?_); (case hx => exact rfl))
  | fail)
local macro_rules | `(tactic| walk_at "v1") => `(tactic| first
  | ((with_reducible refine' e_var ?hx ?_); (case hx => exact rfl))
  | (with_reducible refine e_sortSet ?_)
  | (with_reducible refine e_rng3 ?_)
  | (with_reducible refine e_lenScr ?_)
  | fail)
local macro_rules | `(tactic| walk_at "vv") => `(tactic| repeat (walk_at "v1"))
local macro_rules | `(tactic| walk_at "vi") => `(tactic| ((with_reducible refine e_seq ?_); repeat (walk_at "v1")))
local macro_rules | `(tactic| walk_at "ve") => `(tactic| ((with_reducible refine e_ifE ?_); repeat (walk_at "v1")))
local macro_rules | `(tactic| walk_at "lit") => `(tactic| first | refine w_ifFd (by decide +kernel) ?_ | refine w_ifTd (by decide +kernel) ?_)
local macro_rules | `(tactic| walk_at "vw") => `(tactic| repeat (first | walk_at "v1" | (with_reducible refine e_seq ?_) | walk_at "lit"))
def t_is_number (K : PySem.W.Frag) : TS :=
      (tRet (tAndV (tCB (rIsiU K) (tCons (tVar 0) (tCons (tC (.ty "int")) tNil))) (tNotV (tCB (rIsiU K) (tCons (tVar 0) (tCons (tC (.ty "bool")) tNil))))))
abbrev N_is_number : List Str := [("thing" : Str)]
def v_is_number (K : PySem.W.Frag) : VS :=
      (vRet (vAndV (vCB vIsi (vCons (vVar 0) (vCons (vC (.ty "int")) vNil))) (vNotV (vCB vIsi (vCons (vVar 0) (vCons (vC (.ty "bool")) vNil))))))
theorem sim_is_number {K : PySem.W.Frag} {vsp : VSp} (hv : ∀ ds m P VX, vsp ds m P VX → ds.length = 1 ∧ v_is_number K (vends P) (vstart N_is_number.length ds) m) :
    ∀ us H Q E, spV K .O vsp us H Q E → t_is_number K { nx := fun _ H' => Q .non H', rt := Q } (L2.start N_is_number us) H :=
  sim_def (n := 1) (t := .O) (N := N_is_number) (Γn := [.F]) (Γb := []) (Γc := []) (ts := fun E => t_is_number K) (vs := fun VX => v_is_number K) (by decide) (fun c W VX hK hx => by
    subst hK
    exact (x_retO (s_andV (SO.b (s_cb l_isi (a_cons (SF.b (s_varF (by rfl))) (a_cons (SO.b s_ty) a_nil)))) (s_notV (SO.b (s_cb l_isi (a_cons (SF.b (s_varF (by rfl))) (a_cons (SO.b s_ty) a_nil)))))))) hv
def t_bits_for (K : PySem.W.Frag) : TS :=
      (tSeq (tAsg (tC (.int 0)) (gName 1))
      (tSeq (tWhile (tTest (tOp (rGtV) (tVar 0) (tC (.int 0))))
      (tSeq (tAsg (tOp (rDivU) (tVar 0) (tC (.int 2))) (gName 0))
      (tAug 1 (tC (.int 1)) (ipAddU K))))
      (tRet (tVar 1))))
abbrev N_bits_for : List Str := [("number" : Str), ("wide" : Str)]
def v_bits_for (K : PySem.W.Frag) : VS :=
      (vSeqS (vAsg (vC (.int 0)) (vgName 1))
      (vSeqS (vWhile [] (vTest (vOp vGt (vVar 0) (vC (.int 0))))
      (vSeqS (vAsg (vOp vDiv (vVar 0) (vC (.int 2))) (vgName 0))
      (vAug 1 vIpAdd (vC (.int 1)))))
      (vRet (vVar 1))))
theorem sim_bits_for {K : PySem.W.Frag} {vsp : VSp} (hv : ∀ ds m P VX, vsp ds m P VX → ds.length = 1 ∧ v_bits_for K (vends P) (vstart N_bits_for.length ds) m) :
    ∀ us H Q E, spV K .O vsp us H Q E → t_bits_for K { nx := fun _ H' => Q .non H', rt := Q } (L2.start N_bits_for us) H :=
  sim_def (n := 1) (t := .O) (N := N_bits_for) (Γn := [.F, .F]) (Γb := []) (Γc := []) (ts := fun E => t_bits_for K) (vs := fun VX => v_bits_for K) (by decide) (fun c W VX hK hx => by
    subst hK
    exact (x_seq (x_asgO (i := 1) s_int)
      (x_seq (x_while (Γ' := [.F, .O]) (ws := []) (s_test (SO.b (s_op o_gt (SF.b (s_varF (by rfl))) (SO.b s_int))))
      (x_post (Γ1 := [.O, .O]) (Γn := [.F, .O]) (x_seq (x_asgO (i := 0) (s_op o_div (SF.b (s_varF (by rfl))) (SO.b s_int)))
      (x_aug (i := 1) ip_addV (by rfl) (SO.b s_int)))))
      (x_retV (by rfl))))) hv
def t_power_of (K : PySem.W.Frag) : TS :=
      (tSeq (tAsg (tC (.int 1)) (gName 1))
      (tSeq (tFor (iRng1 (tCons (tVar 0) tNil)) (gName 2)
      (tAug 1 (tC (.int 2)) (ipMulU)))
      (tRet (tVar 1))))
abbrev N_power_of : List Str := [("wide" : Str), ("power" : Str), ("turn" : Str)]
def v_power_of (K : PySem.W.Frag) : VS :=
      (vSeqS (vAsg (vC (.int 1)) (vgName 1))
      (vSeqS (vFor [0, 2] (vRng1 (vCons (vVar 0) vNil)) (vgName 2)
      (vAug 1 vIpMul (vC (.int 2))))
      (vRet (vVar 1))))
theorem sim_power_of {K : PySem.W.Frag} {vsp : VSp} (hv : ∀ ds m P VX, vsp ds m P VX → ds.length = 1 ∧ v_power_of K (vends P) (vstart N_power_of.length ds) m) :
    ∀ us H Q E, spV K .O vsp us H Q E → t_power_of K { nx := fun _ H' => Q .non H', rt := Q } (L2.start N_power_of us) H :=
  sim_def (n := 1) (t := .O) (N := N_power_of) (Γn := [.F, .F, .F]) (Γb := []) (Γc := []) (ts := fun E => t_power_of K) (vs := fun VX => v_power_of K) (by decide) (fun c W VX hK hx => by
    subst hK
    exact (x_seq (x_asgO (i := 1) s_int)
      (x_seq (x_for (Γ' := [.F, .O, .F]) (ws := [0, 2]) (i_rng1 (g_cons (s_varF (by rfl)) g_nil)) (tg_name (is := [2]) (by rfl) (by decide))
      (x_aug (i := 1) ip_mulV (by rfl) (SO.b s_int)))
      (x_retV (by rfl))))) hv
def t_byte_count (K : PySem.W.Frag) : TS :=
      (tRet (tOp (rDivU) (tOp (rSubU) (tOp (rAddU K) (tOp (rMulT) (tVar 0) (tVar 1)) (tC (.int 8))) (tC (.int 1))) (tC (.int 8))))
abbrev N_byte_count : List Str := [("many" : Str), ("wide" : Str)]
def v_byte_count (K : PySem.W.Frag) : VS :=
      (vRet (vOp vDiv (vOp vSub (vOp vAdd (vOp vMul (vVar 0) (vVar 1)) (vC (.int 8))) (vC (.int 1))) (vC (.int 8))))
theorem sim_byte_count {K : PySem.W.Frag} {vsp : VSp} (hv : ∀ ds m P VX, vsp ds m P VX → ds.length = 2 ∧ v_byte_count K (vends P) (vstart N_byte_count.length ds) m) :
    ∀ us H Q E, spV K .O vsp us H Q E → t_byte_count K { nx := fun _ H' => Q .non H', rt := Q } (L2.start N_byte_count us) H :=
  sim_def (n := 2) (t := .O) (N := N_byte_count) (Γn := [.F, .F]) (Γb := []) (Γc := []) (ts := fun E => t_byte_count K) (vs := fun VX => v_byte_count K) (by decide) (fun c W VX hK hx => by
    subst hK
    exact (x_retO (s_op o_div (SO.b (s_op o_sub (SO.b (s_op o_add (SO.b (s_op o_mul (SF.b (s_varF (by rfl))) (SF.b (s_varF (by rfl))))) (SO.b s_int))) (SO.b s_int))) (SO.b s_int)))) hv
def t_packed (K : PySem.W.Frag) (s_power_of_ : Sp) (s_byte_count_ : Sp) : TS :=
      (tSeq (tAsg (tCall s_power_of_ [] E0 (tCons (tVar 1) tNil)) (gName 2))
      (tSeq (tAsg (tC (.int 0)) (gName 3))
      (tSeq (tFor (RT.iRevA K (tVar 0)) (gName 4)
      (tAsg (tOp (rAddU K) (tOp (rMulT) (tVar 3) (tVar 2)) (tVar 4)) (gName 3)))
      (tSeq (tAsg (tLst tNil) (gName 5))
      (tSeq (tFor (iRng1 (tCons (tCall s_byte_count_ [] E0 (tCons (tCB (rLenU K) (tCons (tVar 0) tNil)) (tCons (tVar 1) tNil))) tNil)) (gName 6)
      (tSeq (tDrop (tBM K "list" (rAppend) (tVar 5) (tCons (tOp (rModU) (tVar 3) (tC (.int 256))) tNil)))
      (tAsg (tOp (rDivU) (tVar 3) (tC (.int 256))) (gName 3))))
      (tRet (tVar 5)))))))
abbrev N_packed : List Str := [("numbers" : Str), ("wide" : Str), ("power" : Str), ("rest" : Str), ("number" : Str), ("made" : Str), ("turn" : Str)]
def v_packed (K : PySem.W.Frag) (vs_power_of : VSp) (vs_byte_count : VSp) : VS :=
      (vSeqS (vAsg (vCall vs_power_of (vCons (vVar 1) vNil)) (vgName 2))
      (vSeqS (vAsg (vC (.int 0)) (vgName 3))
      (vSeqS (vFor [4, 5, 6] (vRev (vVar 0)) (vgName 4)
      (vAsg (vOp vAdd (vOp vMul (vVar 3) (vVar 2)) (vVar 4)) (vgName 3)))
      (vSeqS (vAsg (vLst vNil) (vgName 5))
      (vSeqS (vFor [0, 1, 2, 4, 6] (vRng1 (vCons (vCall vs_byte_count (vCons (vCB vLen (vCons (vVar 0) vNil)) (vCons (vVar 1) vNil))) vNil)) (vgName 6)
      (vSeqS (vApp 5 (vOp vMod (vVar 3) (vC (.int 256))))
      (vAsg (vOp vDiv (vVar 3) (vC (.int 256))) (vgName 3))))
      (vRet (vVar 5)))))))
theorem sim_packed {K : PySem.W.Frag} {vs_power_of : VSp} {vs_byte_count : VSp} {vsp : VSp} (hv : ∀ ds m P VX, vsp ds m P VX → ds.length = 2 ∧ v_packed K vs_power_of vs_byte_count (vends P) (vstart N_packed.length ds) m) :
    ∀ us H Q E, spV K .O vsp us H Q E → t_packed K (spV K .O vs_power_of) (spV K .O vs_byte_count) { nx := fun _ H' => Q .non H', rt := Q } (L2.start N_packed us) H :=
  sim_def (n := 2) (t := .O) (N := N_packed) (Γn := [.F, .F, .F, .F, .F, .F, .F]) (Γb := []) (Γc := []) (ts := fun E => t_packed K (spV K .O vs_power_of) (spV K .O vs_byte_count)) (vs := fun VX => v_packed K vs_power_of vs_byte_count) (by decide) (fun c W VX hK hx => by
    subst hK
    exact (x_seq (x_asgO (i := 2) (s_callO (g_cons (s_varF (by rfl)) g_nil)))
      (x_seq (x_asgO (i := 3) s_int)
      (x_seq (x_for (Γ' := [.F, .F, .O, .O, .F, .F, .F]) (ws := [4, 5, 6]) (i_rev (s_varF (by rfl))) (tg_name (is := [4]) (by rfl) (by decide))
      (x_asgO (i := 3) (s_op o_add (SO.b (s_op o_mul (s_varB (t := .O) (by rfl)) (s_varB (t := .O) (by rfl)))) (SF.b (s_varF (by rfl))))))
      (x_seq (x_asgO (i := 5) (s_lst g_nil))
      (x_seq (x_for (Γ' := [.F, .F, .F, .O, .F, .O, .F]) (ws := [0, 1, 2, 4, 6]) (i_rng1 (g_cons (SO.f (s_callO (g_cons (SO.f (s_cb l_len (a_cons (SF.b (s_varF (by rfl))) a_nil))) (g_cons (s_varF (by rfl)) g_nil)))) g_nil)) (tg_name (is := [6]) (by rfl) (by decide))
      (x_seq (x_app (by rfl) (SO.f (s_op o_mod (s_varB (t := .O) (by rfl)) (SO.b s_int))))
      (x_asgO (i := 3) (s_op o_div (s_varB (t := .O) (by rfl)) (SO.b s_int)))))
      (x_retV (by rfl)))))))) hv
def t_own_bits (K : PySem.W.Frag) : TS :=
      (tSeq (tAsg (tC (.int 0)) (gName 1))
      (tSeq (tWhile (tTest (tOp (rGtV) (tVar 0) (tC (.int 0))))
      (tSeq (tAsg (tOp (rDivU) (tVar 0) (tC (.int 2))) (gName 0))
      (tAsg (tOp (rAddU K) (tVar 1) (tC (.int 1))) (gName 1))))
      (tRet (tVar 1))))
abbrev N_own_bits : List Str := [("_law_number_here" : Str), ("_law_wide" : Str)]
def v_own_bits (K : PySem.W.Frag) : VS :=
      (vSeqS (vAsg (vC (.int 0)) (vgName 1))
      (vSeqS (vWhile [] (vTest (vOp vGt (vVar 0) (vC (.int 0))))
      (vSeqS (vAsg (vOp vDiv (vVar 0) (vC (.int 2))) (vgName 0))
      (vAsg (vOp vAdd (vVar 1) (vC (.int 1))) (vgName 1))))
      (vRet (vVar 1))))
theorem sim_own_bits {K : PySem.W.Frag} {vsp : VSp} (hv : ∀ ds m P VX, vsp ds m P VX → ds.length = 1 ∧ v_own_bits K (vends P) (vstart N_own_bits.length ds) m) :
    ∀ us H Q E, spV K .O vsp us H Q E → t_own_bits K { nx := fun _ H' => Q .non H', rt := Q } (L2.start N_own_bits us) H :=
  sim_def (n := 1) (t := .O) (N := N_own_bits) (Γn := [.F, .F]) (Γb := []) (Γc := []) (ts := fun E => t_own_bits K) (vs := fun VX => v_own_bits K) (by decide) (fun c W VX hK hx => by
    subst hK
    exact (x_seq (x_asgO (i := 1) s_int)
      (x_seq (x_while (Γ' := [.F, .O]) (ws := []) (s_test (SO.b (s_op o_gt (SF.b (s_varF (by rfl))) (SO.b s_int))))
      (x_post (Γ1 := [.O, .O]) (Γn := [.F, .O]) (x_seq (x_asgO (i := 0) (s_op o_div (SF.b (s_varF (by rfl))) (SO.b s_int)))
      (x_asgO (i := 1) (s_op o_add (s_varB (t := .O) (by rfl)) (SO.b s_int))))))
      (x_retV (by rfl))))) hv
def t_own_packed (K : PySem.W.Frag) : TS :=
      (tSeq (tAsg (tLst tNil) (gName 2))
      (tSeq (tFor (iSeqV K (tVar 0)) (gName 3)
      (tFor (iRng1 (tCons (tVar 1) tNil)) (gName 4)
      (tSeq (tDrop (tBM K "list" (rAppend) (tVar 2) (tCons (tOp (rModU) (tVar 3) (tC (.int 2))) tNil)))
      (tAsg (tOp (rDivU) (tVar 3) (tC (.int 2))) (gName 3)))))
      (tSeq (tAsg (tOp (rAddU K) (tVar 2) (tOp (rMulT) (tLst (tCons (tC (.int 0)) tNil)) (tOp (rModU) (tUn rNeg (tCB (rLenU K) (tCons (tVar 2) tNil))) (tC (.int 8))))) (gName 2))
      (tSeq (tAsg (tLst tNil) (gName 5))
      (tSeq (tFor (iRng3 (tCons (tC (.int 0)) (tCons (tCB (rLenU K) (tCons (tVar 2) tNil)) (tCons (tC (.int 8)) tNil)))) (gName 6)
      (tDrop (tBM K "list" (rAppend) (tVar 5) (tCons (tCB (rSum K) (tCons (tLc (RZ.iZipA K (tCons (tSl (rSlU K) (tVar 2) (tPart (tVar 6)) (tPart (tOp (rAddU K) (tVar 6) (tC (.int 8))))) (tCons (tLst (tCons (tC (.int 1)) (tCons (tC (.int 2)) (tCons (tC (.int 4)) (tCons (tC (.int 8)) (tCons (tC (.int 16)) (tCons (tC (.int 32)) (tCons (tC (.int 64)) (tCons (tC (.int 128)) tNil))))))))) tNil))) (gTup K 2 (gCons (gName 7) (gCons (gName 8) gNil))) tYes (tOp (rMulT) (tVar 7) (tVar 8)) [7, 8]) tNil)) tNil))))
      (tRet (tVar 5)))))))
abbrev N_own_packed : List Str := [("_law_numbers" : Str), ("_law_wide" : Str), ("_law_bits" : Str), ("_law_number_here" : Str), ("_law_turn" : Str), ("_law_made" : Str), ("_law_at" : Str), ("_law_bit" : Str), ("_law_part" : Str)]
def v_own_packed (K : PySem.W.Frag) : VS :=
      (vSeqS (vAsg (vLst vNil) (vgName 2))
      (vSeqS (vFor [0, 3, 4, 5, 6, 7, 8] (vSeq (vVar 0)) (vgName 3)
      (vFor [0, 4, 5, 6, 7, 8] (vRng1 (vCons (vVar 1) vNil)) (vgName 4)
      (vSeqS (vApp 2 (vOp vMod (vVar 3) (vC (.int 2))))
      (vAsg (vOp vDiv (vVar 3) (vC (.int 2))) (vgName 3)))))
      (vSeqS (vAsg (vOp vAdd (vVar 2) (vOp vMul (vLst (vCons (vC (.int 0)) vNil)) (vOp vMod (vUn vNeg (vCB vLen (vCons (vVar 2) vNil))) (vC (.int 8))))) (vgName 2))
      (vSeqS (vAsg (vLst vNil) (vgName 5))
      (vSeqS (vFor [0, 1, 3, 4, 6, 7, 8] (vRng3 (vCons (vC (.int 0)) (vCons (vCB vLen (vCons (vVar 2) vNil)) (vCons (vC (.int 8)) vNil)))) (vgName 6)
      (vApp 5 (vCB vSum (vCons (vLc (vZip (vCons (vSl vCut (vVar 2) (vPart (vVar 6)) (vPart (vOp vAdd (vVar 6) (vC (.int 8))))) (vCons (vLst (vCons (vC (.int 1)) (vCons (vC (.int 2)) (vCons (vC (.int 4)) (vCons (vC (.int 8)) (vCons (vC (.int 16)) (vCons (vC (.int 32)) (vCons (vC (.int 64)) (vCons (vC (.int 128)) vNil))))))))) vNil))) (vgTup 2 (vgCons (vgName 7) (vgCons (vgName 8) vgNil))) vYes (vOp vMul (vVar 7) (vVar 8)) [7, 8]) vNil))))
      (vRet (vVar 5)))))))
theorem sim_own_packed {K : PySem.W.Frag} {vsp : VSp} (hv : ∀ ds m P VX, vsp ds m P VX → ds.length = 2 ∧ v_own_packed K (vends P) (vstart N_own_packed.length ds) m) :
    ∀ us H Q E, spV K .O vsp us H Q E → t_own_packed K { nx := fun _ H' => Q .non H', rt := Q } (L2.start N_own_packed us) H :=
  sim_def (n := 2) (t := .O) (N := N_own_packed) (Γn := [.F, .F, .F, .F, .F, .F, .F, .F, .F]) (Γb := []) (Γc := []) (ts := fun E => t_own_packed K) (vs := fun VX => v_own_packed K) (by decide) (fun c W VX hK hx => by
    subst hK
    exact (x_seq (x_asgO (i := 2) (s_lst g_nil))
      (x_seq (x_for (Γ' := [.F, .F, .O, .F, .F, .F, .F, .F, .F]) (ws := [0, 3, 4, 5, 6, 7, 8]) (i_seq (s_varF (by rfl))) (tg_name (is := [3]) (by rfl) (by decide))
      (x_for (Γ' := [.F, .F, .O, .F, .F, .F, .F, .F, .F]) (ws := [0, 4, 5, 6, 7, 8]) (i_rng1 (g_cons (s_varF (by rfl)) g_nil)) (tg_name (is := [4]) (by rfl) (by decide))
      (x_post (Γ1 := [.F, .F, .O, .O, .F, .F, .F, .F, .F]) (Γn := [.F, .F, .O, .F, .F, .F, .F, .F, .F]) (x_seq (x_app (by rfl) (SO.f (s_op o_mod (SF.b (s_varF (by rfl))) (SO.b s_int))))
      (x_asgO (i := 3) (s_op o_div (SF.b (s_varF (by rfl))) (SO.b s_int)))))))
      (x_seq (x_asgO (i := 2) (s_op o_add (s_varB (t := .O) (by rfl)) (SO.b (s_op o_mul (SO.b (s_lst (g_cons (SO.f s_int) g_nil))) (SO.b (s_op o_mod (SO.b (s_un o_neg (SO.b (s_cb l_len (a_cons (s_varB (t := .O) (by rfl)) a_nil))))) (SO.b s_int)))))))
      (x_seq (x_asgO (i := 5) (s_lst g_nil))
      (x_seq (x_for (Γ' := [.F, .F, .O, .F, .F, .O, .F, .F, .F]) (ws := [0, 1, 3, 4, 6, 7, 8]) (i_rng3 (g_cons (SO.f s_int) (g_cons (SO.f (s_cb l_len (a_cons (s_varB (t := .O) (by rfl)) a_nil))) (g_cons (SO.f s_int) g_nil)))) (tg_name (is := [6]) (by rfl) (by decide))
      (x_app (by rfl) (SO.f (s_cb l_sum (a_cons (SO.b (s_lc (vs := [7, 8]) (i_zip (g_cons (SO.f (s_sl o_cut (s_varB (t := .O) (by rfl)) (s_part (SF.b (s_varF (by rfl)))) (s_part (SO.b (s_op o_add (SF.b (s_varF (by rfl))) (SO.b s_int)))))) (g_cons (SO.f (s_lst (g_cons (SO.f s_int) (g_cons (SO.f s_int) (g_cons (SO.f s_int) (g_cons (SO.f s_int) (g_cons (SO.f s_int) (g_cons (SO.f s_int) (g_cons (SO.f s_int) (g_cons (SO.f s_int) g_nil)))))))))) g_nil))) (by rfl) (tg_tup (tg_cons (tg_name (is := [7, 8]) (by rfl) (by decide)) (tg_cons (tg_name (is := [7, 8]) (by rfl) (by decide)) tg_nil))) s_yes (SO.f (s_op o_mul (SF.b (s_varF (by rfl))) (SF.b (s_varF (by rfl))))))) a_nil)))))
      (x_retV (by rfl)))))))) hv
def wBits : VSp := fun ds m P _ => ∃ n : Nat, ds = [.int n] ∧ P (.int (bl n)) m
theorem p_bits_for {K : PySem.W.Frag} (ds : List D) (m : Mst) (P : D → Mst → Prop) (VX : XV) (h : wBits ds m P VX) : ds.length = 1 ∧ v_bits_for K (vends P) (vstart N_bits_for.length ds) m := by
  obtain ⟨n, rfl, k⟩ := h
  refine ⟨rfl, ?_⟩
  unfold v_bits_for
  walk_at "vv"
  refine ⟨fun (s : Nat) e m' => ∃ c : Nat, e = [some (.int (s : Int)), some (.int (c : Int))] ∧ m' = m ∧ bl n = c + bl s, ⟨n, 0, rfl, rfl, (Nat.zero_add _).symm⟩, ?_⟩
  rintro s e m' ⟨c, rfl, rfl, e2⟩
  walk_at "vv"
  refine w_ifd (fun q => ?_) (fun q => ?_)
  · walk_at "vv"
    exact ⟨s / 2, by omega, c + 1, rfl, rfl, by rw [e2, bl_pos (by omega : 0 < s)]; omega⟩
  · walk_at "vv"
    rw [show s = 0 by omega, bl_zero, Nat.add_zero] at e2
    rw [e2] at k
    exact k
theorem p_own_bits {K : PySem.W.Frag} (ds : List D) (m : Mst) (P : D → Mst → Prop) (VX : XV) (h : wBits ds m P VX) : ds.length = 1 ∧ v_own_bits K (vends P) (vstart N_own_bits.length ds) m := by
  obtain ⟨n, rfl, k⟩ := h
  refine ⟨rfl, ?_⟩
  unfold v_own_bits
  walk_at "vv"
  refine ⟨fun (s : Nat) e m' => ∃ c : Nat, e = [some (.int (s : Int)), some (.int (c : Int))] ∧ m' = m ∧ bl n = c + bl s, ⟨n, 0, rfl, rfl, (Nat.zero_add _).symm⟩, ?_⟩
  rintro s e m' ⟨c, rfl, rfl, e2⟩
  walk_at "vv"
  refine w_ifd (fun q => ?_) (fun q => ?_)
  · walk_at "vv"
    exact ⟨s / 2, by omega, c + 1, rfl, rfl, by rw [e2, bl_pos (by omega : 0 < s)]; omega⟩
  · walk_at "vv"
    rw [show s = 0 by omega, bl_zero, Nat.add_zero] at e2
    rw [e2] at k
    exact k
def wPow : VSp := fun ds m P _ => ∃ w : Nat, ds = [.int w] ∧ w ≤ 5000 ∧ P (.int ((2 ^ w : Nat) : Int)) m
theorem p_power_of {K : PySem.W.Frag} (ds : List D) (m : Mst) (P : D → Mst → Prop) (VX : XV) (h : wPow ds m P VX) : ds.length = 1 ∧ v_power_of K (vends P) (vstart N_power_of.length ds) m := by
  obtain ⟨w, rfl, hw, k⟩ := h
  refine ⟨rfl, ?_⟩
  unfold v_power_of
  walk_at "vw"
  refine e_itR (by omega) ?_
  refine for_inv (fun i e m' => m' = m ∧ e = [none, some (.int ((2 ^ i : Nat) : Int)), none]) ⟨rfl, by kernel_rfl⟩ ?_ ?_
  · rintro i e m' d hi ⟨rfl, rfl⟩ ed
    obtain ⟨hi, rfl⟩ := rangeD_at ed
    walk_at "vw"
    refine ⟨rfl, ?_⟩
    rw [Nat.pow_succ]
    push_cast
    rfl
  · rintro e m' ⟨rfl, rfl⟩
    rw [rangeD_len]
    walk_at "vw"
    exact k
def wBc : VSp := fun ds m P _ => ∃ n w : Nat, ds = [.int n, .int w] ∧ w < 2 ^ 60 ∧ P (.int (bcn n w)) m
theorem p_byte_count {K : PySem.W.Frag} (ds : List D) (m : Mst) (P : D → Mst → Prop) (VX : XV) (h : wBc ds m P VX) : ds.length = 2 ∧ v_byte_count K (vends P) (vstart N_byte_count.length ds) m := by
  obtain ⟨n, w, rfl, hw, k⟩ := h
  refine ⟨rfl, ?_⟩
  unfold v_byte_count
  walk_at "vw"
  refine e_mulI (.inl (.inr ⟨by omega, by omega⟩)) ?_
  walk_at "vw"
  have e : ((n : Int) * (w : Int) + 8 - 1) / 8 = (bcn n w : Nat) := by
    unfold bcn
    push_cast
    congr 1
    omega
  rw [e]
  exact k
theorem numw_big {w : Nat} {xs : List Nat} (h : ∀ x ∈ xs, x < 2 ^ w) (hw : w ≤ 300) (hl : xs.length ≤ 1000) (i : Nat) : num (2 ^ w) (xs.drop i) < 2 ^ 300000 := by
  refine Nat.lt_of_lt_of_le (num_lt (Nat.two_pow_pos w) _ fun x hx => h x (List.mem_of_mem_drop hx)) ?_
  rw [← Nat.pow_mul]
  refine Nat.pow_le_pow_right (by decide) ?_
  have h1 : w * (xs.drop i).length ≤ 300 * 1000 := Nat.mul_le_mul hw (by rw [List.length_drop]; omega)
  omega
theorem mulw_ok {x y : Nat} (hx : x < 2 ^ 900000) (hy : y < 2 ^ 301) : CMulW (x : Int) (y : Int) := wide_mul (a := 900000) (b := 301) (by rw [Int.natAbs_natCast]; exact hx) (by rw [Int.natAbs_natCast]; exact hy) (by decide) (by decide) (by decide)
def wPacked : VSp := fun ds m P _ => ∃ (xs : List Nat) (w : Nat), ds = [dL (ins xs), .int w] ∧ w ≤ 300 ∧ xs.length ≤ 1000 ∧ (∀ x ∈ xs, x < 2 ^ w) ∧ P (dL (ins (pk xs w))) m
theorem insD_at {xs : List Nat} {i : Nat} {d : D} (h : ((ins xs).map D.int)[i]? = some d) : ∃ x : Nat, xs[i]? = some x ∧ d = .int x := by
  rw [List.getElem?_map] at h
  obtain ⟨b, h1, rfl⟩ := Option.map_eq_some_iff.mp h
  obtain ⟨x, h2, rfl⟩ := ins_get h1
  exact ⟨x, h2, rfl⟩
theorem rev_at {α : Type} {l : List α} {i : Nat} {x : α} (h : l.reverse[i]? = some x) : l[l.length - 1 - i]? = some x ∧ i < l.length := by
  have hi : i < l.length := by have := (List.getElem?_eq_some_iff.mp h).1; simpa using this
  rw [List.getElem?_reverse hi] at h
  exact ⟨h, hi⟩
theorem dl_insnoc (xs : List Nat) (x : Nat) : D.lst ((ins xs).map D.int ++ [.int (x : Int)]) = dL (ins (xs ++ [x])) := by
  rw [ins_append]
  show _ = D.lst _
  rw [List.map_append]; rfl
theorem bcn_le {n w : Nat} (hn : n ≤ 1000) (hw : w ≤ 300) : bcn n w ≤ 40000 := by
  have := Nat.mul_le_mul hn hw
  unfold bcn
  omega
theorem p_packed {K : PySem.W.Frag} (ds : List D) (m : Mst) (P : D → Mst → Prop) (VX : XV) (h : wPacked ds m P VX) : ds.length = 2 ∧ v_packed K wPow wBc (vends P) (vstart N_packed.length ds) m := by
  obtain ⟨xs, w, rfl, hw, hl, hx, hP⟩ := h
  refine ⟨rfl, ?_⟩
  have hbc := bcn_le hl hw
  unfold v_packed
  walk_at "vw"
  refine ⟨w, rfl, by omega, ?_⟩
  walk_at "vw"
  refine for_inv (fun i e m' => m' = m ∧ e = [some (dL (ins xs)), some (.int w), some (.int ((2 ^ w : Nat) : Int)), some (.int (num (2 ^ w) (xs.drop (xs.length - i)) : Nat)), none, none, none]) ⟨rfl, ?_⟩ ?_ ?_
  · rw [Nat.sub_zero, List.drop_length]; kernel_rfl
  · rintro i e m' d hi ⟨rfl, rfl⟩ ed
    obtain ⟨ed, hi⟩ := rev_at ed
    rw [List.length_map, ins_len] at ed hi
    obtain ⟨z, ez, rfl⟩ := insD_at ed
    walk_at "vw"
    refine e_mulI (.inr (mulw_ok (Nat.lt_of_lt_of_le (numw_big hx hw hl _) (Nat.pow_le_pow_right (by decide) (by decide))) (Nat.pow_lt_pow_right (by decide) (by omega)))) ?_
    walk_at "vw"
    refine ⟨rfl, ?_⟩
    rw [num_cut ez hi]
    push_cast
    rfl
  · rintro e m' ⟨rfl, rfl⟩
    rw [List.length_reverse, List.length_map, ins_len, Nat.sub_self, List.drop_zero]
    walk_at "vw"
    rw [List.length_map, ins_len]
    refine ⟨xs.length, w, rfl, by omega, ?_⟩
    walk_at "vw"
    refine e_itR (by omega) ?_
    refine for_inv (fun i e m2 => m2 = m' ∧ e = [none, none, none, some (.int (num (2 ^ w) xs / 256 ^ i : Nat)), none, some (dL (ins (dig 256 i (num (2 ^ w) xs)))), none]) ⟨rfl, ?_⟩ ?_ ?_
    · rw [Nat.pow_zero, Nat.div_one]; kernel_rfl
    · rintro i e m' d hi ⟨rfl, rfl⟩ ed
      obtain ⟨hi, rfl⟩ := rangeD_at ed
      walk_at "vw"
      refine ⟨sz_lt (by rw [List.length_map, ins_len, dig_len]; omega), ?_⟩
      walk_at "vw"
      refine ⟨rfl, ?_⟩
      have e1 : ((num (2 ^ w) xs / 256 ^ i : Nat) : Int) % 256 = ((num (2 ^ w) xs / 256 ^ i % 256 : Nat) : Int) := by push_cast; rfl
      have e2 : ((num (2 ^ w) xs / 256 ^ i : Nat) : Int) / 256 = ((num (2 ^ w) xs / 256 ^ (i + 1) : Nat) : Int) := by rw [Nat.pow_succ, ← Nat.div_div_eq_div_mul]; push_cast; rfl
      rw [e1, e2, dl_insnoc, ← dig_snoc]
      rfl
    · rintro e m' ⟨rfl, rfl⟩
      rw [rangeD_len]
      walk_at "vw"
      exact hP
theorem num_zeros (b : Nat) : ∀ r : Nat, num b (List.replicate r 0) = 0
  | 0 => rfl
  | r + 1 => by rw [List.replicate_succ, num, num_zeros b r]; simp
theorem bytes_pad (bits : List Nat) (r n : Nat) (h : ∀ x ∈ bits, x < 2) : bytesOf (bits ++ List.replicate r 0) n = bytesOf bits n := by
  rw [bytes_dig n bits h, bytes_dig n _ fun x hx => by
    rcases List.mem_append.mp hx with hx | hx
    · exact h x hx
    · rw [List.eq_of_mem_replicate hx]; decide]
  rw [num_append, num_zeros, Nat.mul_zero, Nat.add_zero]
def parts8 : List Int := [1, 2, 4, 8, 16, 32, 64, 128]
theorem sum8 {cs : List Nat} (h : cs.length ≤ 8) : (((ins cs).zip parts8).map fun p => p.1 * p.2).sum = (num 2 cs : Nat) := by
  unfold ins parts8
  rcases cs with _ | ⟨a, cs⟩
  · rfl
  rcases cs with _ | ⟨b, cs⟩
  · simp [num]
  rcases cs with _ | ⟨c, cs⟩
  · simp [num]; omega
  rcases cs with _ | ⟨d, cs⟩
  · simp [num]; omega
  rcases cs with _ | ⟨e, cs⟩
  · simp [num]; omega
  rcases cs with _ | ⟨f, cs⟩
  · simp [num]; omega
  rcases cs with _ | ⟨g, cs⟩
  · simp [num]; omega
  rcases cs with _ | ⟨i, cs⟩
  · simp [num]; omega
  rcases cs with _ | ⟨j, cs⟩
  · simp [num]; omega
  · simp at h
theorem zip_ints (a b : List Int) : zipD (a.map D.int) (b.map D.int) = (a.zip b).map fun p => D.tup [.int p.1, .int p.2] := by
  unfold zipD
  rw [List.zipWith_map, ← List.map_uncurry_zip_eq_zipWith]
  rfl
theorem flat_one (r : Nat) (x : D) : (List.replicate r [x]).flatten = List.replicate r x := by
  induction r with
  | zero => rfl
  | succ r ih => rw [List.replicate_succ, List.flatten_cons, ih, List.replicate_succ]; rfl
theorem stepD_at {lo c : Int} {n i : Nat} {d : D} (h : (stepD lo c n)[i]? = some d) : i < n ∧ d = .int (lo + (i : Int) * c) := by
  unfold stepD at h
  rw [List.getElem?_map] at h
  obtain ⟨k, hk, rfl⟩ := Option.map_eq_some_iff.mp h
  obtain ⟨h1, h2⟩ := List.getElem?_eq_some_iff.mp hk
  rw [List.getElem_range] at h2
  rw [List.length_range] at h1
  exact ⟨h1, by rw [h2]⟩
theorem stepD_len {lo c : Int} {n : Nat} : (stepD lo c n).length = n := by unfold stepD; simp
theorem p_own_packed {K : PySem.W.Frag} (ds : List D) (m : Mst) (P : D → Mst → Prop) (VX : XV) (h : wPacked ds m P VX) : ds.length = 2 ∧ v_own_packed K (vends P) (vstart N_own_packed.length ds) m := by
  obtain ⟨xs, w, rfl, hw, hl, hx, hP⟩ := h
  refine ⟨rfl, ?_⟩
  have hbc := bcn_le hl hw
  have hpk := pk_bits hx
  have hb2 := bits_two w xs
  have hbl := bits_len w xs
  have hbig : xs.length * w ≤ 300000 := Nat.mul_le_mul hl hw
  unfold v_own_packed
  walk_at "vw"
  refine for_inv (fun i e m' => m' = m ∧ e = [none, some (.int w), some (dL (ins ((xs.take i).flatMap (dig 2 w)))), none, none, none, none, none, none]) ⟨rfl, by kernel_rfl⟩ ?_ ?_
  · rintro i e m' d hi ⟨rfl, rfl⟩ ed
    obtain ⟨z, ez, rfl⟩ := insD_at ed
    have hlt : ((xs.take i).flatMap (dig 2 w)).length ≤ 300000 := by
      rw [bits_len, List.length_take]
      exact Nat.le_trans (Nat.mul_le_mul_right _ (Nat.min_le_right _ _)) hbig
    have esn : (xs.take (i + 1)).flatMap (dig 2 w) = (xs.take i).flatMap (dig 2 w) ++ dig 2 w z := by
      rw [List.take_succ, ez, List.flatMap_append]; simp
    rw [esn]
    generalize (xs.take i).flatMap (dig 2 w) = pre at *
    walk_at "vw"
    refine e_itR (by omega) ?_
    refine for_inv (fun j e m2 => m2 = m' ∧ e = [none, some (.int w), some (dL (ins (pre ++ dig 2 j z))), some (.int (z / 2 ^ j : Nat)), none, none, none, none, none]) ⟨rfl, ?_⟩ ?_ ?_
    · rw [Nat.pow_zero, Nat.div_one, show pre ++ dig 2 0 z = pre from List.append_nil _]; kernel_rfl
    · rintro j e m' d hj ⟨rfl, rfl⟩ ed
      obtain ⟨hj, rfl⟩ := rangeD_at ed
      walk_at "vw"
      refine ⟨sz_lt (by rw [List.length_map, ins_len, List.length_append, dig_len]; omega), ?_⟩
      walk_at "vw"
      refine ⟨rfl, ?_⟩
      have e1 : ((z / 2 ^ j : Nat) : Int) % 2 = ((z / 2 ^ j % 2 : Nat) : Int) := by push_cast; rfl
      have e2 : ((z / 2 ^ j : Nat) : Int) / 2 = ((z / 2 ^ (j + 1) : Nat) : Int) := by rw [Nat.pow_succ, ← Nat.div_div_eq_div_mul]; push_cast; rfl
      rw [e1, e2, dl_insnoc, List.append_assoc, ← dig_snoc]
      rfl
    · rintro e m' ⟨rfl, rfl⟩
      rw [rangeD_len]
      exact ⟨rfl, by kernel_rfl⟩
  · rintro e m' ⟨rfl, rfl⟩
    rw [List.length_map, ins_len, List.take_length]
    generalize hbits : xs.flatMap (dig 2 w) = bits at *
    walk_at "vw"
    rw [List.length_map, ins_len]
    obtain ⟨r, hr, er⟩ : ∃ r : Nat, r < 8 ∧ (-(bits.length : Int)) % 8 = r := ⟨((-(bits.length : Int)) % 8).toNat, by omega, by omega⟩
    rw [er]
    refine ⟨⟨by omega, by omega, by rw [List.length_singleton, Int.toNat_natCast]; exact sz_le (by omega)⟩, ?_⟩
    rw [Int.toNat_natCast, flat_one]
    refine e_addL (by rw [List.length_map, ins_len, List.length_replicate]; omega) ?_
    have eB : (ins bits).map D.int ++ List.replicate r (D.int 0) = (ins (bits ++ List.replicate r 0)).map D.int := by
      rw [ins_append, List.map_append]
      congr 1
      unfold ins
      rw [List.map_replicate, List.map_replicate]; rfl
    rw [eB]
    have hpk2 := bytes_pad bits r (bcn xs.length w) hb2
    rw [hpk] at hpk2
    have hBl : (bits ++ List.replicate r 0).length = 8 * bcn xs.length w := by
      rw [List.length_append, List.length_replicate]
      unfold bcn
      rw [← hbl]
      omega
    generalize bits ++ List.replicate r 0 = B at *
    walk_at "vw"
    rw [List.length_map, ins_len]
    refine ⟨bcn xs.length w, rgC_up (n := B.length) (c := 8) (by omega) (by decide) (by decide) (by omega), ?_⟩
    refine for_inv (fun i e m2 => m2 = m' ∧ e = [none, none, some (dL (ins B)), none, none, some (dL (ins (bytesOf B i))), none, none, none]) ⟨rfl, by kernel_rfl⟩ ?_ ?_
    · rintro i e m2 d hi ⟨rfl, rfl⟩ ed
      obtain ⟨hi, rfl⟩ := stepD_at ed
      rw [show (0 : Int) + (i : Int) * 8 = ((8 * i : Nat) : Int) by push_cast; omega]
      walk_at "vw"
      rw [show ((8 * i : Nat) : Int) + 8 = ((8 * i + 8 : Nat) : Int) by push_cast; rfl, cutD_mid, Nat.add_sub_cancel_left, ← List.map_drop, ← List.map_take]
      have e5 : ((ins B).drop (8 * i)).take 8 = ins ((B.drop (8 * i)).take 8) := by unfold ins; rw [List.map_take, List.map_drop]
      rw [e5]
      have hcl : ((B.drop (8 * i)).take 8).length ≤ 8 := by rw [List.length_take]; omega
      have hby : bytesOf B (i + 1) = bytesOf B i ++ [num 2 ((B.drop (8 * i)).take 8)] := by
        unfold bytesOf
        rw [List.range_succ, List.map_append, List.map_singleton]
      generalize (B.drop (8 * i)).take 8 = cs at *
      walk_at "vw"
      rw [show ([.int 1, .int 2, .int 4, .int 8, .int 16, .int 32, .int 64, .int 128] : List D) = parts8.map D.int from rfl, zip_ints]
      refine lc_mapL (h := fun p => .int (p.1 * p.2)) (by rw [List.length_zip, ins_len]; omega) (fun j p Q ep hQ => ?_) ?_
      · walk_at "vw"
        have h1 := List.of_mem_zip (List.mem_of_getElem? ep)
        refine e_mulI (.inl (.inr ?_)) hQ
        have h2 := h1.2
        unfold parts8 at h2
        simp at h2
        omega
      · rw [show ((ins cs).zip parts8).map (fun p : Int × Int => D.int (p.1 * p.2)) = (((ins cs).zip parts8).map fun p => p.1 * p.2).map D.int by rw [List.map_map]; rfl]
        walk_at "vw"
        refine e_sum ?_
        rw [sum8 hcl]
        refine ⟨sz_lt (by unfold bytesOf; rw [List.length_map, ins_len, List.length_map, List.length_range]; omega), ?_⟩
        refine ⟨rfl, ?_⟩
        rw [hby, ← dl_insnoc]
        rfl
    · rintro e m2 ⟨rfl, rfl⟩
      rw [stepD_len, hpk2]
      walk_at "vw"
      exact hP
def t_runs_of (K : PySem.W.Frag) : TS :=
      (tSeq (tAsg (tLst tNil) (gName 1))
      (tSeq (tFor (iSeqV K (tVar 0)) (gName 2)
      (tIfS (tAnd (tTest (tOp (rGtV) (tCB (rLenU K) (tCons (tVar 1) tNil)) (tC (.int 0)))) (tTest (tOp (rEqU K) (tOp (rIxU K) (tOp (rIxU K) (tVar 1) (tUn rNeg (tC (.int 1)))) (tC (.int 0))) (tVar 2))))
      (tAsg (tTup (tCons (tVar 2) (tCons (tOp (rAddU K) (tOp (rIxU K) (tOp (rIxU K) (tVar 1) (tUn rNeg (tC (.int 1)))) (tC (.int 1))) (tC (.int 1))) tNil))) (gSub (tVar 1) (tUn rNeg (tC (.int 1))) rSetU))
      (tDrop (tBM K "list" (rAppend) (tVar 1) (tCons (tTup (tCons (tVar 2) (tCons (tC (.int 1)) tNil))) tNil)))))
      (tRet (tVar 1))))
abbrev N_runs_of : List Str := [("cells" : Str), ("runs" : Str), ("cell" : Str)]
def v_runs_of (K : PySem.W.Frag) : VS :=
      (vSeqS (vAsg (vLst vNil) (vgName 1))
      (vSeqS (vFor [0, 2] (vSeq (vVar 0)) (vgName 2)
      (vIf (vAnd (vTest (vOp vGt (vCB vLen (vCons (vVar 1) vNil)) (vC (.int 0)))) (vTest (vOp vEqC (vOp vIx (vOp vIx (vVar 1) (vUn vNeg (vC (.int 1)))) (vC (.int 0))) (vVar 2))))
      (vPut 1 (vTup (vCons (vVar 2) (vCons (vOp vAdd (vOp vIx (vOp vIx (vVar 1) (vUn vNeg (vC (.int 1)))) (vC (.int 1))) (vC (.int 1))) vNil))) (vUn vNeg (vC (.int 1))))
      (vApp 1 (vTup (vCons (vVar 2) (vCons (vC (.int 1)) vNil))))))
      (vRet (vVar 1))))
theorem sim_runs_of {K : PySem.W.Frag} {vsp : VSp} (hv : ∀ ds m P VX, vsp ds m P VX → ds.length = 1 ∧ v_runs_of K (vends P) (vstart N_runs_of.length ds) m) :
    ∀ us H Q E, spV K .O vsp us H Q E → t_runs_of K { nx := fun _ H' => Q .non H', rt := Q } (L2.start N_runs_of us) H :=
  sim_def (n := 1) (t := .O) (N := N_runs_of) (Γn := [.F, .F, .F]) (Γb := []) (Γc := []) (ts := fun E => t_runs_of K) (vs := fun VX => v_runs_of K) (by decide) (fun c W VX hK hx => by
    subst hK
    exact (x_seq (x_asgO (i := 1) (s_lst g_nil))
      (x_seq (x_for (Γ' := [.F, .O, .F]) (ws := [0, 2]) (i_seq (s_varF (by rfl))) (tg_name (is := [2]) (by rfl) (by decide))
      (x_if (Γn := [.F, .O, .F]) (s_and (s_test (SO.b (s_op o_gt (SO.b (s_cb l_len (a_cons (s_varB (t := .O) (by rfl)) a_nil))) (SO.b s_int)))) (s_test (SO.b (s_op o_eq (SF.b (s_opF o_ix (SF.b (s_opF o_ix (s_varB (t := .O) (by rfl)) (SO.b (s_un o_neg (SO.b s_int))))) (SO.b s_int))) (SF.b (s_varF (by rfl)))))))
      (x_put (by rfl) (SO.f (s_tup (g_cons (s_varF (by rfl)) (g_cons (SO.f (s_op o_add (SF.b (s_opF o_ix (SF.b (s_opF o_ix (s_varB (t := .O) (by rfl)) (SO.b (s_un o_neg (SO.b s_int))))) (SO.b s_int))) (SO.b s_int))) g_nil)))) (SO.f (s_un o_neg (SO.b s_int))))
      (x_app (by rfl) (SO.f (s_tup (g_cons (s_varF (by rfl)) (g_cons (SO.f s_int) g_nil)))))))
      (x_retV (by rfl))))) hv
def t_all_bytes (K : PySem.W.Frag) (s_cell_bytes_ : Sp) : TS :=
      (tSeq (tAsg (tLst tNil) (gName 1))
      (tSeq (tFor (iSeqV K (tVar 0)) (gName 2)
      (tDrop (tBM K "list" (rExtend) (tVar 1) (tCons (tCall s_cell_bytes_ [] E0 (tCons (tVar 2) tNil)) tNil))))
      (tRet (tVar 1))))
abbrev N_all_bytes : List Str := [("cells" : Str), ("made" : Str), ("cell" : Str)]
def v_all_bytes (K : PySem.W.Frag) (vs_cell_bytes : VSp) : VS :=
      (vSeqS (vAsg (vLst vNil) (vgName 1))
      (vSeqS (vFor [0, 2] (vSeq (vVar 0)) (vgName 2)
      (vMut 1 vExtend (vCons (vCall vs_cell_bytes (vCons (vVar 2) vNil)) vNil)))
      (vRet (vVar 1))))
theorem sim_all_bytes {K : PySem.W.Frag} {vs_cell_bytes : VSp} {vsp : VSp} (hv : ∀ ds m P VX, vsp ds m P VX → ds.length = 1 ∧ v_all_bytes K vs_cell_bytes (vends P) (vstart N_all_bytes.length ds) m) :
    ∀ us H Q E, spV K .O vsp us H Q E → t_all_bytes K (spV K .O vs_cell_bytes) { nx := fun _ H' => Q .non H', rt := Q } (L2.start N_all_bytes us) H :=
  sim_def (n := 1) (t := .O) (N := N_all_bytes) (Γn := [.F, .F, .F]) (Γb := []) (Γc := []) (ts := fun E => t_all_bytes K (spV K .O vs_cell_bytes)) (vs := fun VX => v_all_bytes K vs_cell_bytes) (by decide) (fun c W VX hK hx => by
    subst hK
    exact (x_seq (x_asgO (i := 1) (s_lst g_nil))
      (x_seq (x_for (Γ' := [.F, .O, .F]) (ws := [0, 2]) (i_seq (s_varF (by rfl))) (tg_name (is := [2]) (by rfl) (by decide))
      (x_mut u_extend (by rfl) (a_cons (SO.b (s_callO (g_cons (s_varF (by rfl)) g_nil))) a_nil)))
      (x_retV (by rfl))))) hv
def t_run_bytes (K : PySem.W.Frag) (s_runs_of_ : Sp) (s_number_bytes_ : Sp) (s_cell_bytes_ : Sp) : TS :=
      (tSeq (tAsg (tCall s_runs_of_ [] E0 (tCons (tVar 0) tNil)) (gName 1))
      (tSeq (tAsg (tCall s_number_bytes_ [] E0 (tCons (tCB (rLenU K) (tCons (tVar 1) tNil)) tNil)) (gName 2))
      (tSeq (tFor (iSeqV K (tVar 1)) (gTup K 2 (gCons (gName 3) (gCons (gName 4) gNil)))
      (tDrop (tBM K "list" (rExtend) (tVar 2) (tCons (tOp (rAddU K) (tCall s_cell_bytes_ [] E0 (tCons (tVar 3) tNil)) (tCall s_number_bytes_ [] E0 (tCons (tVar 4) tNil))) tNil))))
      (tRet (tVar 2)))))
abbrev N_run_bytes : List Str := [("cells" : Str), ("runs" : Str), ("made" : Str), ("cell" : Str), ("length" : Str)]
def v_run_bytes (K : PySem.W.Frag) (vs_runs_of : VSp) (vs_number_bytes : VSp) (vs_cell_bytes : VSp) : VS :=
      (vSeqS (vAsg (vCall vs_runs_of (vCons (vVar 0) vNil)) (vgName 1))
      (vSeqS (vAsg (vCall vs_number_bytes (vCons (vCB vLen (vCons (vVar 1) vNil)) vNil)) (vgName 2))
      (vSeqS (vFor [0, 1, 3, 4] (vSeq (vVar 1)) (vgTup 2 (vgCons (vgName 3) (vgCons (vgName 4) vgNil)))
      (vMut 2 vExtend (vCons (vOp vAdd (vCall vs_cell_bytes (vCons (vVar 3) vNil)) (vCall vs_number_bytes (vCons (vVar 4) vNil))) vNil)))
      (vRet (vVar 2)))))
theorem sim_run_bytes {K : PySem.W.Frag} {vs_runs_of : VSp} {vs_number_bytes : VSp} {vs_cell_bytes : VSp} {vsp : VSp} (hv : ∀ ds m P VX, vsp ds m P VX → ds.length = 1 ∧ v_run_bytes K vs_runs_of vs_number_bytes vs_cell_bytes (vends P) (vstart N_run_bytes.length ds) m) :
    ∀ us H Q E, spV K .O vsp us H Q E → t_run_bytes K (spV K .O vs_runs_of) (spV K .O vs_number_bytes) (spV K .O vs_cell_bytes) { nx := fun _ H' => Q .non H', rt := Q } (L2.start N_run_bytes us) H :=
  sim_def (n := 1) (t := .O) (N := N_run_bytes) (Γn := [.F, .F, .F, .F, .F]) (Γb := []) (Γc := []) (ts := fun E => t_run_bytes K (spV K .O vs_runs_of) (spV K .O vs_number_bytes) (spV K .O vs_cell_bytes)) (vs := fun VX => v_run_bytes K vs_runs_of vs_number_bytes vs_cell_bytes) (by decide) (fun c W VX hK hx => by
    subst hK
    exact (x_seq (x_asgO (i := 1) (s_callO (g_cons (s_varF (by rfl)) g_nil)))
      (x_seq (x_asgO (i := 2) (s_callO (g_cons (SO.f (s_cb l_len (a_cons (s_varB (t := .O) (by rfl)) a_nil))) g_nil)))
      (x_seq (x_pre (Γ1 := [.F, .F, .O, .F, .F]) (x_for (Γ' := [.F, .F, .O, .F, .F]) (ws := [0, 1, 3, 4]) (i_seq (s_varF (by rfl))) (tg_tup (tg_cons (tg_name (is := [3, 4]) (by rfl) (by decide)) (tg_cons (tg_name (is := [3, 4]) (by rfl) (by decide)) tg_nil)))
      (x_mut u_extend (by rfl) (a_cons (SO.b (s_op o_add (SO.b (s_callO (g_cons (s_varF (by rfl)) g_nil))) (SO.b (s_callO (g_cons (s_varF (by rfl)) g_nil))))) a_nil))))
      (x_retV (by rfl)))))) hv
def t_stretch (K : PySem.W.Frag) (s_take_ : Sp) (s_cells_ : Sp) : TS :=
      (tSeq (tAsg (tOp (rIxU K) (tLst (tCons (tC (.str ("number" : Str))) (tCons (tC (.str ("number" : Str))) (tCons (tC (.str ("text" : Str))) tNil)))) (tCall s_take_ [] E0 (tCons (tVar 0) (tCons (tC (.int 3)) tNil)))) (gName 1))
      (tSeq (tAsg (tOp (rIxU K) (tLst (tCons (tOp (rAddU K) (tC (.int 1)) (tCall s_take_ [] E0 (tCons (tVar 0) (tCons (tC (.int 8)) tNil)))) (tCons (tOp (rAddU K) (tC (.int 1)) (tCall s_take_ [] E0 (tCons (tVar 0) (tCons (tC (.int 64)) tNil)))) (tCons (tOp (rAddU K) (tC (.int 63)) (tCall s_take_ [] E0 (tCons (tVar 0) (tCons (tC (.int 2)) tNil)))) tNil)))) (tOp (rDivU) (tCall s_take_ [] E0 (tCons (tVar 0) (tCons (tC (.int 5)) tNil))) (tC (.int 2)))) (gName 2))
      (tRet (tCall s_cells_ [] E0 (tCons (tVar 0) (tCons (tVar 1) (tCons (tVar 2) tNil)))))))
abbrev N_stretch : List Str := [("_law_state" : Str), ("_law_kind" : Str), ("_law_many" : Str)]
def v_stretch (K : PySem.W.Frag) (vs_take : VSp) (vs_cells : VSp) : VS :=
      (vSeqS (vAsg (vOp vIx (vLst (vCons (vC (.str ("number" : Str))) (vCons (vC (.str ("number" : Str))) (vCons (vC (.str ("text" : Str))) vNil)))) (vCall vs_take (vCons (vVar 0) (vCons (vC (.int 3)) vNil)))) (vgName 1))
      (vSeqS (vAsg (vOp vIx (vLst (vCons (vOp vAdd (vC (.int 1)) (vCall vs_take (vCons (vVar 0) (vCons (vC (.int 8)) vNil)))) (vCons (vOp vAdd (vC (.int 1)) (vCall vs_take (vCons (vVar 0) (vCons (vC (.int 64)) vNil)))) (vCons (vOp vAdd (vC (.int 63)) (vCall vs_take (vCons (vVar 0) (vCons (vC (.int 2)) vNil)))) vNil)))) (vOp vDiv (vCall vs_take (vCons (vVar 0) (vCons (vC (.int 5)) vNil))) (vC (.int 2)))) (vgName 2))
      (vRet (vCall vs_cells (vCons (vVar 0) (vCons (vVar 1) (vCons (vVar 2) vNil)))))))
theorem sim_stretch {K : PySem.W.Frag} {vs_take : VSp} {vs_cells : VSp} {vsp : VSp} (hv : ∀ ds m P VX, vsp ds m P VX → ds.length = 1 ∧ v_stretch K vs_take vs_cells (vends P) (vstart N_stretch.length ds) m) :
    ∀ us H Q E, spV K .O vsp us H Q E → t_stretch K (spV K .O vs_take) (spV K .O vs_cells) { nx := fun _ H' => Q .non H', rt := Q } (L2.start N_stretch us) H :=
  sim_def (n := 1) (t := .O) (N := N_stretch) (Γn := [.F, .F, .F]) (Γb := []) (Γc := []) (ts := fun E => t_stretch K (spV K .O vs_take) (spV K .O vs_cells)) (vs := fun VX => v_stretch K vs_take vs_cells) (by decide) (fun c W VX hK hx => by
    subst hK
    exact (x_seq (x_asgF (i := 1) (s_opF o_ix (SO.b (s_lst (g_cons (SO.f s_str) (g_cons (SO.f s_str) (g_cons (SO.f s_str) g_nil))))) (SO.b (s_callO (g_cons (s_varF (by rfl)) (g_cons (SO.f s_int) g_nil))))))
      (x_seq (x_asgF (i := 2) (s_opF o_ix (SO.b (s_lst (g_cons (SO.f (s_op o_add (SO.b s_int) (SO.b (s_callO (g_cons (s_varF (by rfl)) (g_cons (SO.f s_int) g_nil)))))) (g_cons (SO.f (s_op o_add (SO.b s_int) (SO.b (s_callO (g_cons (s_varF (by rfl)) (g_cons (SO.f s_int) g_nil)))))) (g_cons (SO.f (s_op o_add (SO.b s_int) (SO.b (s_callO (g_cons (s_varF (by rfl)) (g_cons (SO.f s_int) g_nil)))))) g_nil))))) (SO.b (s_op o_div (SO.b (s_callO (g_cons (s_varF (by rfl)) (g_cons (SO.f s_int) g_nil)))) (SO.b s_int)))))
      (x_retO (s_callO (g_cons (s_varF (by rfl)) (g_cons (s_varF (by rfl)) (g_cons (s_varF (by rfl)) g_nil)))))))) hv
def t_own_nb (K : PySem.W.Frag) : TS :=
      (tSeq (tAsg (tOp (rMulT) (tC (.int 2)) (tVar 0)) (gName 1))
      (tSeq (tIfS (tTest (tOp (rLtU K) (tVar 0) (tC (.int 0))))
      (tAsg (tOp (rSubU) (tOp (rMulT) (tUn rNeg (tC (.int 2))) (tVar 0)) (tC (.int 1))) (gName 1))
      tNext)
      (tSeq (tAsg (tLst tNil) (gName 2))
      (tSeq (tWhile (tTest (tOp (rGtV) (tVar 1) (tC (.int 127))))
      (tSeq (tDrop (tBM K "list" (rAppend) (tVar 2) (tCons (tOp (rAddU K) (tOp (rModU) (tVar 1) (tC (.int 128))) (tC (.int 128))) tNil)))
      (tAsg (tOp (rDivU) (tVar 1) (tC (.int 128))) (gName 1))))
      (tRet (tOp (rAddU K) (tVar 2) (tLst (tCons (tVar 1) tNil))))))))
abbrev N_own_nb : List Str := [("_law_number_here" : Str), ("_law_rest" : Str), ("_law_made" : Str)]
def v_own_nb (K : PySem.W.Frag) : VS :=
      (vSeqS (vAsg (vOp vMul (vC (.int 2)) (vVar 0)) (vgName 1))
      (vSeqS (vIf (vTest (vOp vLt (vVar 0) (vC (.int 0))))
      (vAsg (vOp vSub (vOp vMul (vUn vNeg (vC (.int 2))) (vVar 0)) (vC (.int 1))) (vgName 1))
      vNext)
      (vSeqS (vAsg (vLst vNil) (vgName 2))
      (vSeqS (vWhile [0] (vTest (vOp vGt (vVar 1) (vC (.int 127))))
      (vSeqS (vApp 2 (vOp vAdd (vOp vMod (vVar 1) (vC (.int 128))) (vC (.int 128))))
      (vAsg (vOp vDiv (vVar 1) (vC (.int 128))) (vgName 1))))
      (vRet (vOp vAdd (vVar 2) (vLst (vCons (vVar 1) vNil))))))))
theorem sim_own_nb {K : PySem.W.Frag} {vsp : VSp} (hv : ∀ ds m P VX, vsp ds m P VX → ds.length = 1 ∧ v_own_nb K (vends P) (vstart N_own_nb.length ds) m) :
    ∀ us H Q E, spV K .O vsp us H Q E → t_own_nb K { nx := fun _ H' => Q .non H', rt := Q } (L2.start N_own_nb us) H :=
  sim_def (n := 1) (t := .O) (N := N_own_nb) (Γn := [.F, .F, .F]) (Γb := []) (Γc := []) (ts := fun E => t_own_nb K) (vs := fun VX => v_own_nb K) (by decide) (fun c W VX hK hx => by
    subst hK
    exact (x_seq (x_asgO (i := 1) (s_op o_mul (SO.b s_int) (SF.b (s_varF (by rfl)))))
      (x_seq (x_if (Γn := [.F, .O, .F]) (s_test (SO.b (s_op o_lt (SF.b (s_varF (by rfl))) (SO.b s_int))))
      (x_asgO (i := 1) (s_op o_sub (SO.b (s_op o_mul (SO.b (s_un o_neg (SO.b s_int))) (SF.b (s_varF (by rfl))))) (SO.b s_int)))
      x_next)
      (x_seq (x_asgO (i := 2) (s_lst g_nil))
      (x_seq (x_while (Γ' := [.F, .O, .O]) (ws := [0]) (s_test (SO.b (s_op o_gt (s_varB (t := .O) (by rfl)) (SO.b s_int))))
      (x_seq (x_app (by rfl) (SO.f (s_op o_add (SO.b (s_op o_mod (s_varB (t := .O) (by rfl)) (SO.b s_int))) (SO.b s_int))))
      (x_asgO (i := 1) (s_op o_div (s_varB (t := .O) (by rfl)) (SO.b s_int)))))
      (x_pre (Γ1 := [.F, .F, .O]) (x_retO (s_op o_add (s_varB (t := .O) (by rfl)) (SO.b (s_lst (g_cons (s_varF (by rfl)) g_nil))))))))))) hv
def t_sign_number (K : PySem.W.Frag) : TS :=
      (tSeq (tAsg (tC (.str (" !\"#$&'()*+,-./0123456789:;<=>?@ABCDEFGHIJKLMNOPQRSTUVWXYZ[\\]^_`abcdefghijklmnopqrstuvwxyz{|}~" : Str))) (gName 1))
      (tRet (tBM K "str" (rFind) (tVar 1) (tCons (tVar 0) tNil))))
abbrev N_sign_number : List Str := [("_law_sign" : Str), ("_law_signs" : Str)]
def v_sign_number (K : PySem.W.Frag) : VS :=
      (vSeqS (vAsg (vC (.str (" !\"#$&'()*+,-./0123456789:;<=>?@ABCDEFGHIJKLMNOPQRSTUVWXYZ[\\]^_`abcdefghijklmnopqrstuvwxyz{|}~" : Str))) (vgName 1))
      (vRet (vBMt "str" vFind (vVar 1) (vCons (vVar 0) vNil))))
theorem sim_sign_number {K : PySem.W.Frag} {vsp : VSp} (hv : ∀ ds m P VX, vsp ds m P VX → ds.length = 1 ∧ v_sign_number K (vends P) (vstart N_sign_number.length ds) m) :
    ∀ us H Q E, spV K .O vsp us H Q E → t_sign_number K { nx := fun _ H' => Q .non H', rt := Q } (L2.start N_sign_number us) H :=
  sim_def (n := 1) (t := .O) (N := N_sign_number) (Γn := [.F, .F]) (Γb := []) (Γc := []) (ts := fun E => t_sign_number K) (vs := fun VX => v_sign_number K) (by decide) (fun c W VX hK hx => by
    subst hK
    exact (x_seq (x_asgO (i := 1) s_str)
      (x_retO (s_bm m_find (s_varB (t := .O) (by rfl)) (a_cons (SF.b (s_varF (by rfl))) a_nil))))) hv
def t_own_cb8 (K : PySem.W.Frag) (s_own_nb_ : Sp) (s_sign_number_ : Sp) : TS :=
      (tSeq (tIfS (tTest (tOp (rIsN) (tVar 0) (tC .non)))
      (tRet (tLst (tCons (tC (.int 0)) tNil)))
      tNext)
      (tSeq (tIfS (tTru K (tCB (rIsiU K) (tCons (tVar 0) (tCons (tC (.ty "str")) tNil))))
      (tRet (tOp (rAddU K) (tOp (rAddU K) (tLst (tCons (tC (.int 2)) tNil)) (tCall s_own_nb_ [] E0 (tCons (tCB (rLenU K) (tCons (tVar 0) tNil)) tNil))) (tLc (iSeqV K (tVar 0)) (gName 1) tYes (tCall s_sign_number_ [] E0 (tCons (tVar 1) tNil)) [1])))
      tNext)
      (tRet (tOp (rAddU K) (tLst (tCons (tC (.int 1)) tNil)) (tCall s_own_nb_ [] E0 (tCons (tVar 0) tNil))))))
abbrev N_own_cb8 : List Str := [("_law_cell" : Str), ("_law_sign" : Str)]
def v_own_cb8 (K : PySem.W.Frag) (vs_own_nb : VSp) (vs_sign_number : VSp) : VS :=
      (vSeqS (vIf (vTest (vOp vIsN (vVar 0) (vC .non)))
      (vRet (vLst (vCons (vC (.int 0)) vNil)))
      vNext)
      (vSeqS (vIf (vTru (vCB vIsi (vCons (vVar 0) (vCons (vC (.ty "str")) vNil))))
      (vRet (vOp vAdd (vOp vAdd (vLst (vCons (vC (.int 2)) vNil)) (vCall vs_own_nb (vCons (vCB vLen (vCons (vVar 0) vNil)) vNil))) (vLc (vSeq (vVar 0)) (vgName 1) vYes (vCall vs_sign_number (vCons (vVar 1) vNil)) [1])))
      vNext)
      (vRet (vOp vAdd (vLst (vCons (vC (.int 1)) vNil)) (vCall vs_own_nb (vCons (vVar 0) vNil))))))
theorem sim_own_cb8 {K : PySem.W.Frag} {vs_own_nb : VSp} {vs_sign_number : VSp} {vsp : VSp} (hv : ∀ ds m P VX, vsp ds m P VX → ds.length = 1 ∧ v_own_cb8 K vs_own_nb vs_sign_number (vends P) (vstart N_own_cb8.length ds) m) :
    ∀ us H Q E, spV K .O vsp us H Q E → t_own_cb8 K (spV K .O vs_own_nb) (spV K .O vs_sign_number) { nx := fun _ H' => Q .non H', rt := Q } (L2.start N_own_cb8 us) H :=
  sim_def (n := 1) (t := .O) (N := N_own_cb8) (Γn := [.F, .F]) (Γb := []) (Γc := []) (ts := fun E => t_own_cb8 K (spV K .O vs_own_nb) (spV K .O vs_sign_number)) (vs := fun VX => v_own_cb8 K vs_own_nb vs_sign_number) (by decide) (fun c W VX hK hx => by
    subst hK
    exact (x_seq (x_if (Γn := [.F, .F]) (s_test (SO.b (s_op o_isN (SF.b (s_varF (by rfl))) (SO.b s_non))))
      (x_retO (s_lst (g_cons (SO.f s_int) g_nil)))
      x_next)
      (x_seq (x_if (Γn := [.F, .F]) (s_tru (SO.b (s_cb l_isi (a_cons (SF.b (s_varF (by rfl))) (a_cons (SO.b s_ty) a_nil)))))
      (x_retO (s_op o_add (SO.b (s_op o_add (SO.b (s_lst (g_cons (SO.f s_int) g_nil))) (SO.b (s_callO (g_cons (SO.f (s_cb l_len (a_cons (SF.b (s_varF (by rfl))) a_nil))) g_nil))))) (SO.b (s_lc (vs := [1]) (i_seq (s_varF (by rfl))) (by rfl) (tg_name (is := [1]) (by rfl) (by decide)) s_yes (SO.f (s_callO (g_cons (s_varF (by rfl)) g_nil)))))))
      x_next)
      (x_retO (s_op o_add (SO.b (s_lst (g_cons (SO.f s_int) g_nil))) (SO.b (s_callO (g_cons (s_varF (by rfl)) g_nil)))))))) hv
def t_own_runs (K : PySem.W.Frag) (s_own_nb_ : Sp) (s_own_cb8_ : Sp) : TS :=
      (tSeq (tAsg (tLst tNil) (gName 1))
      (tSeq (tFor (iSeqV K (tVar 0)) (gName 2)
      (tSeq (tIfS (tOr (tTest (tOp (rEqNil K) (tVar 1) (tLst tNil))) (tTest (tOp (rNeU K) (tOp (rIxU K) (tOp (rIxU K) (tVar 1) (tUn rNeg (tC (.int 1)))) (tC (.int 0))) (tVar 2))))
      (tDrop (tBM K "list" (rAppend) (tVar 1) (tCons (tLst (tCons (tVar 2) (tCons (tC (.int 0)) tNil))) tNil)))
      tNext)
      (tAsg (tOp (rAddU K) (tOp (rIxU K) (tOp (rIxU K) (tVar 1) (tUn rNeg (tC (.int 1)))) (tC (.int 1))) (tC (.int 1))) (gSub (tOp (rIxU K) (tVar 1) (tUn rNeg (tC (.int 1)))) (tC (.int 1)) rSetU))))
      (tSeq (tAsg (tCall s_own_nb_ [] E0 (tCons (tCB (rLenU K) (tCons (tVar 1) tNil)) tNil)) (gName 3))
      (tSeq (tFor (iSeqV K (tVar 1)) (gTupU K 2 (gCons (gName 2) (gCons (gName 4) gNil)))
      (tAsg (tOp (rAddU K) (tOp (rAddU K) (tVar 3) (tCall s_own_cb8_ [] E0 (tCons (tVar 2) tNil))) (tCall s_own_nb_ [] E0 (tCons (tVar 4) tNil))) (gName 3)))
      (tRet (tVar 3))))))
abbrev N_own_runs : List Str := [("_law_cells_here" : Str), ("_law_runs" : Str), ("_law_cell" : Str), ("_law_made" : Str), ("_law_length" : Str)]
def v_own_runs (K : PySem.W.Frag) (vs_own_nb : VSp) (vs_own_cb8 : VSp) : VS :=
      (vSeqS (vAsg (vLst vNil) (vgName 1))
      (vSeqS (vFor [0, 2, 3, 4] (vSeq (vVar 0)) (vgName 2)
      (vSeqS (vIf (vOr (vTest (vOp vEqNil (vVar 1) (vLst vNil))) (vTest (vOp vNeC (vOpL vIx (vOp vIx (vVar 1) (vUn vNeg (vC (.int 1)))) (vC (.int 0))) (vVar 2))))
      (vApp 1 (vBox (vLst (vCons (vVar 2) (vCons (vC (.int 0)) vNil)))))
      vNext)
      (vPutS (vOp vIx (vVar 1) (vUn vNeg (vC (.int 1)))) (vOp vAdd (vOpL vIx (vOp vIx (vVar 1) (vUn vNeg (vC (.int 1)))) (vC (.int 1))) (vC (.int 1))) (vC (.int 1)))))
      (vSeqS (vAsg (vCall vs_own_nb (vCons (vCB vLen (vCons (vVar 1) vNil)) vNil)) (vgName 3))
      (vSeqS (vFor [0, 1, 2, 4] (vSeq (vUnb (vVar 1))) (vgTupU 2 (vgCons (vgName 2) (vgCons (vgName 4) vgNil)))
      (vAsg (vOp vAdd (vOp vAdd (vVar 3) (vCall vs_own_cb8 (vCons (vVar 2) vNil))) (vCall vs_own_nb (vCons (vVar 4) vNil))) (vgName 3)))
      (vRet (vVar 3))))))
theorem sim_own_runs {K : PySem.W.Frag} {vs_own_nb : VSp} {vs_own_cb8 : VSp} {vsp : VSp} (hv : ∀ ds m P VX, vsp ds m P VX → ds.length = 1 ∧ v_own_runs K vs_own_nb vs_own_cb8 (vends P) (vstart N_own_runs.length ds) m) :
    ∀ us H Q E, spV K .O vsp us H Q E → t_own_runs K (spV K .O vs_own_nb) (spV K .O vs_own_cb8) { nx := fun _ H' => Q .non H', rt := Q } (L2.start N_own_runs us) H :=
  sim_def (n := 1) (t := .O) (N := N_own_runs) (Γn := [.F, .F, .F, .F, .F]) (Γb := []) (Γc := []) (ts := fun E => t_own_runs K (spV K .O vs_own_nb) (spV K .O vs_own_cb8)) (vs := fun VX => v_own_runs K vs_own_nb vs_own_cb8) (by decide) (fun c W VX hK hx => by
    subst hK
    exact (x_seq (x_asgO (i := 1) (s_lst g_nil))
      (x_seq (x_for (Γ' := [.F, .O, .F, .F, .F]) (ws := [0, 2, 3, 4]) (i_seq (s_varF (by rfl))) (tg_name (is := [2]) (by rfl) (by decide))
      (x_seq (x_if (Γn := [.F, .O, .F, .F, .F]) (s_or (s_test (SO.b (s_op o_eqNil (s_varB (t := .O) (by rfl)) (SO.b (s_lst g_nil))))) (s_test (SO.b (s_op o_ne (SF.b (s_opFL o_ix (SF.b (s_opF o_ix (s_varB (t := .O) (by rfl)) (SO.b (s_un o_neg (SO.b s_int))))) (SO.b s_int))) (SF.b (s_varF (by rfl)))))))
      (x_app (by rfl) (s_box (s_lst (g_cons (s_varF (by rfl)) (g_cons (SO.f s_int) g_nil)))))
      x_next)
      (x_putS (s_opF o_ix (s_varB (t := .O) (by rfl)) (SO.b (s_un o_neg (SO.b s_int)))) (SO.f (s_op o_add (SF.b (s_opFL o_ix (SF.b (s_opF o_ix (s_varB (t := .O) (by rfl)) (SO.b (s_un o_neg (SO.b s_int))))) (SO.b s_int))) (SO.b s_int))) (SO.f s_int))))
      (x_seq (x_asgO (i := 3) (s_callO (g_cons (SO.f (s_cb l_len (a_cons (s_varB (t := .O) (by rfl)) a_nil))) g_nil)))
      (x_seq (x_pre (Γ1 := [.F, .F, .F, .O, .F]) (x_for (Γ' := [.F, .F, .F, .O, .F]) (ws := [0, 1, 2, 4]) (i_seq (s_unb (s_varF (by rfl)))) (tg_tupU (tg_cons (tg_name (is := [2, 4]) (by rfl) (by decide)) (tg_cons (tg_name (is := [2, 4]) (by rfl) (by decide)) tg_nil)))
      (x_asgO (i := 3) (s_op o_add (SO.b (s_op o_add (s_varB (t := .O) (by rfl)) (SO.b (s_callO (g_cons (s_varF (by rfl)) g_nil))))) (SO.b (s_callO (g_cons (s_varF (by rfl)) g_nil)))))))
      (x_retV (by rfl))))))) hv
theorem cel_of {k : Kd} {d : D} (h : CellK k d) : ∃ c : Cel, d = cvD c ∧ okC c := by
  rcases h with rfl | h
  · exact ⟨.non, rfl, trivial⟩
  · cases k with
    | num => obtain ⟨z, rfl, hz⟩ := h; exact ⟨.num z, rfl, Nat.lt_of_lt_of_le hz (Nat.pow_le_pow_right (by decide) (by decide))⟩
    | txt => obtain ⟨s, rfl, ks, rfl, hl, hk⟩ := h; exact ⟨.txt ks, rfl, by omega, hk⟩
theorem cels_of {k : Kd} : ∀ {ds : List D}, (∀ d ∈ ds, CellK k d) → ∃ l : List Cel, ds = l.map cvD ∧ ∀ c ∈ l, okC c
  | [], _ => ⟨[], rfl, by simp⟩
  | d :: ds, h => by
    obtain ⟨c, rfl, hc⟩ := cel_of (h d List.mem_cons_self)
    obtain ⟨l, rfl, hl⟩ := cels_of fun x hx => h x (List.mem_cons_of_mem _ hx)
    refine ⟨c :: l, rfl, fun x hx => ?_⟩
    rcases List.mem_cons.mp hx with rfl | hx
    · exact hc
    · exact hl x hx
theorem txt_inj : ∀ {a b : List Nat}, (∀ k ∈ a, k < 94) → (∀ k ∈ b, k < 94) → txt a = txt b → a = b := by
  intro a b ha hb h
  have h2 : a.map sg = b.map sg := by
    have := congrArg (fun s : Str => s.cps.toList) h
    simpa [txt] using this
  clear h
  induction a generalizing b with
  | nil =>
    cases b with
    | nil => rfl
    | cons y b => simp at h2
  | cons x a ih =>
    cases b with
    | nil => simp at h2
    | cons y b =>
      rw [List.map_cons, List.map_cons] at h2
      obtain ⟨e1, e2⟩ := List.cons.inj h2
      have e3 := sg_inj ⟨x, ha x List.mem_cons_self⟩ ⟨y, hb y List.mem_cons_self⟩ e1
      have e4 : x = y := by simpa using e3
      rw [e4, ih (fun k hk => ha k (List.mem_cons_of_mem _ hk)) (fun k hk => hb k (List.mem_cons_of_mem _ hk)) e2]
theorem cv_sc (a b : Cel) : scD (cvD a) (cvD b) = true := by cases a <;> cases b <;> rfl
theorem cv_eq {a b : Cel} (ha : okC a) (hb : okC b) : eqS (cvD a) (cvD b) = decide (a = b) := by
  cases a <;> cases b <;> try rfl
  · rename_i x y
    show decide (x = y) = _
    exact decide_eq_decide.mpr ⟨fun h => by rw [h], fun h => by cases h; rfl⟩
  · rename_i x y
    show decide (txt x = txt y) = _
    exact decide_eq_decide.mpr ⟨fun h => by rw [txt_inj ha.2 hb.2 h], fun h => by cases h; rfl⟩
theorem gd_cel {c : Cel} (h : okC c) : Gd 1 (cvD c) := by
  cases c with
  | non => exact gd_non (by decide)
  | num z => exact gd_int (by decide)
  | txt ks => exact gd_isT (n := 1000) ⟨ks, rfl, h.1, h.2⟩ (by decide)
theorem nil_or_snoc {α : Type} (l : List α) : l = [] ∨ ∃ pre x, l = pre ++ [x] := by
  rcases List.eq_nil_or_concat l with h | ⟨a, b, h⟩
  · exact .inl h
  · exact .inr ⟨a, b, by rw [h, List.concat_eq_append]⟩
def stepR (rs : List (Cel × Nat)) (c : Cel) : List (Cel × Nat) := match rs.getLast? with
  | some p => if p.1 = c then rs.dropLast ++ [(c, p.2 + 1)] else rs ++ [(c, 1)]
  | none => [(c, 1)]
def runsC (l : List Cel) : List (Cel × Nat) := l.foldl stepR []
theorem stepR_nil (c : Cel) : stepR [] c = [(c, 1)] := rfl
theorem stepR_same (pre : List (Cel × Nat)) (c : Cel) (n : Nat) : stepR (pre ++ [(c, n)]) c = pre ++ [(c, n + 1)] := by
  unfold stepR
  rw [List.getLast?_concat]
  simp
theorem stepR_new (pre : List (Cel × Nat)) (p : Cel × Nat) (c : Cel) (h : p.1 ≠ c) : stepR (pre ++ [p]) c = (pre ++ [p]) ++ [(c, 1)] := by
  unfold stepR
  rw [List.getLast?_concat]
  simp [h]
theorem runs_succ {l : List Cel} {i : Nat} {c : Cel} (e : l[i]? = some c) : runsC (l.take (i + 1)) = stepR (runsC (l.take i)) c := by
  unfold runsC
  rw [List.take_succ, e, List.foldl_append]
  rfl
def OkRuns (i : Nat) (rs : List (Cel × Nat)) : Prop := rs.length ≤ i ∧ ∀ p ∈ rs, okC p.1 ∧ p.2 ≤ i
theorem okRuns_step {i : Nat} {rs : List (Cel × Nat)} {c : Cel} (h : OkRuns i rs) (hc : okC c) : OkRuns (i + 1) (stepR rs c) := by
  have hup : ∀ p ∈ rs, okC p.1 ∧ p.2 ≤ i + 1 := fun p hp => ⟨(h.2 p hp).1, by have := (h.2 p hp).2; omega⟩
  rcases nil_or_snoc rs with rfl | ⟨pre, p, rfl⟩
  · rw [stepR_nil]
    exact ⟨by simp, fun p hp => by rw [List.mem_singleton.mp hp]; exact ⟨hc, by show 1 ≤ i + 1; omega⟩⟩
  · obtain ⟨d, n⟩ := p
    have hl := h.1
    rw [List.length_append, List.length_singleton] at hl
    have hn := (h.2 (d, n) (by simp)).2
    by_cases e : d = c
    · subst e
      rw [stepR_same]
      refine ⟨by simp; omega, fun p hp => ?_⟩
      rcases List.mem_append.mp hp with hp | hp
      · exact hup p (List.mem_append_left _ hp)
      · rw [List.mem_singleton.mp hp]
        exact ⟨hc, by show n + 1 ≤ i + 1; have : n ≤ i := hn; omega⟩
    · rw [stepR_new _ _ _ e]
      refine ⟨by simp; omega, fun p hp => ?_⟩
      rcases List.mem_append.mp hp with hp | hp
      · exact hup p hp
      · rw [List.mem_singleton.mp hp]; exact ⟨hc, by show 1 ≤ i + 1; omega⟩
theorem okRuns : ∀ {l : List Cel} (i : Nat), (∀ c ∈ l, okC c) → i ≤ l.length → OkRuns i (runsC (l.take i))
  | l, 0, _, _ => ⟨by simp [runsC], by simp [runsC]⟩
  | l, i + 1, h, hi => by
    rw [runs_succ (List.getElem?_eq_getElem (show i < l.length by omega))]
    exact okRuns_step (okRuns i h (by omega)) (h _ (List.getElem_mem _))
def rnT (p : Cel × Nat) : D := .tup [cvD p.1, .int p.2]
def rnL (p : Cel × Nat) : D := .lst [cvD p.1, .int p.2]
theorem e_itX {x : D} {ds : List D} {m : Mst} {A : List D → Mst → Prop} (hx : x = .lst ds ∨ x = .tup ds) (h : A ds m) : itSeq x A m := by
  rcases hx with rfl | rfl <;> exact h
theorem cel_at {l : List Cel} {i : Nat} {d : D} (e : (l.map cvD)[i]? = some d) : ∃ c, l[i]? = some c ∧ d = cvD c := by
  rw [List.getElem?_map] at e
  obtain ⟨c, h1, h2⟩ := Option.map_eq_some_iff.mp e
  exact ⟨c, h1, h2.symm⟩
theorem ixN_last {n : Nat} : ixN (n + 1) (-1) = some n := by
  unfold ixN
  rw [if_neg (by decide), if_pos (by omega)]
  congr 1
  omega
theorem set_last {α : Type} (l : List α) (x y : α) : (l ++ [x]).set l.length y = l ++ [y] := by
  rw [List.set_append_right _ _ (Nat.le_refl _), Nat.sub_self]; rfl
def wRunsOf : VSp := fun ds m P _ => ∃ (l : List Cel) (x : D), ds = [x] ∧ (x = .lst (l.map cvD) ∨ x = .tup (l.map cvD)) ∧ l.length ≤ 100 ∧ (∀ c ∈ l, okC c) ∧ P (.lst ((runsC l).map rnT)) m
theorem p_runs_of {K : PySem.W.Frag} (ds : List D) (m : Mst) (P : D → Mst → Prop) (VX : XV) (h : wRunsOf ds m P VX) : ds.length = 1 ∧ v_runs_of K (vends P) (vstart N_runs_of.length ds) m := by
  obtain ⟨l, x, rfl, hx, hl, hc, hP⟩ := h
  refine ⟨rfl, ?_⟩
  unfold v_runs_of
  walk_at "vw"
  refine e_itX hx ?_
  refine for_inv (fun i e m' => m' = m ∧ e = [none, some (.lst ((runsC (l.take i)).map rnT)), none]) ⟨rfl, by kernel_rfl⟩ ?_ ?_
  · rintro i e m' d hi ⟨rfl, rfl⟩ ed
    obtain ⟨c, ec, rfl⟩ := cel_at ed
    rw [List.length_map] at hi
    have hok := okRuns i hc (by omega)
    have hcc := hc c (List.mem_of_getElem? ec)
    rw [runs_succ ec]
    generalize runsC (l.take i) = rs at *
    rcases nil_or_snoc rs with rfl | ⟨pre, ⟨d, n⟩, rfl⟩
    · walk_at "vw"
      refine ⟨sz_lt (by simp), ?_⟩
      exact ⟨rfl, by kernel_rfl⟩
    · have hl2 := hok.1
      rw [List.length_append, List.length_singleton] at hl2
      have hd := (hok.2 (d, n) (by simp)).1
      rw [List.map_append]
      walk_at "vw"
      refine w_ifTd (by simp) ?_
      walk_at "vw"
      refine e_ixL (atI_last _ _) ?_
      refine e_ixT (x := cvD d) rfl ?_
      walk_at "vw"
      refine e_eqX (cv_sc d c) ?_
      rw [cv_eq hd hcc]
      walk_at "vw"
      refine w_ifd (fun q => ?_) (fun q => ?_)
      · subst q
        walk_at "vw"
        refine e_ixL (atI_last _ _) ?_
        refine e_ixT (x := .int (n : Int)) rfl ?_
        walk_at "vw"
        refine ⟨_, rfl, ?_⟩
        walk_at "vw"
        refine ⟨pre.length, by simpa using ixN_last (n := pre.length), ?_⟩
        refine ⟨rfl, ?_⟩
        rw [stepR_same, List.map_append]
        have e := set_last (pre.map rnT) (rnT (d, n)) (.tup [cvD d, .int ((n : Int) + 1)])
        rw [List.length_map] at e
        show [none, some (D.lst (((pre.map rnT) ++ [rnT (d, n)]).set pre.length _)), none] = _
        rw [e]
        rfl
      · walk_at "vw"
        refine ⟨sz_lt (by simp; omega), ?_⟩
        refine ⟨rfl, ?_⟩
        rw [stepR_new _ _ _ q, List.map_append, List.map_append]
        rfl
  · rintro e m' ⟨rfl, rfl⟩
    rw [List.length_map, List.take_length]
    walk_at "vw"
    exact hP
def allC (l : List Cel) : List Int := l.flatMap cb
def rbC (rs : List (Cel × Nat)) : List Int := nb rs.length ++ rs.flatMap fun p => cb p.1 ++ nb p.2
theorem nbn_len {n : Nat} (h : n ≤ 10000) : (nb (n : Int)).length ≤ 30 := nb_len (by rw [Int.natAbs_natCast]; exact Nat.lt_of_le_of_lt h (by decide))
theorem nbn_ok {n : Nat} (h : n ≤ 10000) : (n : Int).natAbs < 2 ^ 200 := by rw [Int.natAbs_natCast]; exact Nat.lt_of_le_of_lt h (by decide)
theorem cb_len {c : Cel} (h : okC c) : (cb c).length ≤ 1040 := by
  cases c with
  | non => simp [cb]
  | num z => have := nb_len (n := z) h; simp [cb]; omega
  | txt ks => have := tb_len h.1; simp [cb]; omega
theorem flat_len {α : Type} {f : α → List Int} {b : Nat} : ∀ {l : List α}, (∀ x ∈ l, (f x).length ≤ b) → (l.flatMap f).length ≤ b * l.length
  | [], _ => by simp
  | x :: l, h => by
    have h1 := h x List.mem_cons_self
    have h2 := flat_len (l := l) fun y hy => h y (List.mem_cons_of_mem _ hy)
    rw [List.flatMap_cons, List.length_append, List.length_cons, Nat.mul_succ]
    omega
theorem flat_succ {α : Type} {f : α → List Int} {l : List α} {i : Nat} {x : α} (e : l[i]? = some x) : (l.take (i + 1)).flatMap f = (l.take i).flatMap f ++ f x := by
  rw [List.take_succ, e, List.flatMap_append]
  simp
def wAllBytes : VSp := fun ds m P _ => ∃ (l : List Cel) (x : D), ds = [x] ∧ (x = .lst (l.map cvD) ∨ x = .tup (l.map cvD)) ∧ l.length ≤ 100 ∧ (∀ c ∈ l, okC c) ∧ P (dL (allC l)) m
theorem p_all_bytes {K : PySem.W.Frag} (ds : List D) (m : Mst) (P : D → Mst → Prop) (VX : XV) (h : wAllBytes ds m P VX) : ds.length = 1 ∧ v_all_bytes K wCb (vends P) (vstart N_all_bytes.length ds) m := by
  obtain ⟨l, x, rfl, hx, hl, hc, hP⟩ := h
  refine ⟨rfl, ?_⟩
  unfold v_all_bytes
  walk_at "vw"
  refine e_itX hx ?_
  refine for_inv (fun i e m' => m' = m ∧ e = [none, some (dL (allC (l.take i))), none]) ⟨rfl, by kernel_rfl⟩ ?_ ?_
  · rintro i e m' d hi ⟨rfl, rfl⟩ ed
    obtain ⟨c, ec, rfl⟩ := cel_at ed
    rw [List.length_map] at hi
    have hcc := hc c (List.mem_of_getElem? ec)
    have h1 : (allC (l.take i)).length ≤ 1040 * (l.take i).length := flat_len fun c hm => cb_len (hc c (List.mem_of_mem_take hm))
    rw [List.length_take] at h1
    have h2 := cb_len hcc
    walk_at "vw"
    refine ⟨c, rfl, hcc, ?_⟩
    walk_at "vw"
    refine e_ext (ds := (allC (l.take i)).map D.int) (es := (cb c).map D.int) (by rw [List.length_map, List.length_map]; omega) ?_
    refine ⟨rfl, ?_⟩
    show [none, some (D.lst ((allC (l.take i)).map D.int ++ (cb c).map D.int)), none] = _
    rw [dl_app]
    unfold allC
    rw [flat_succ ec]
  · rintro e m' ⟨rfl, rfl⟩
    rw [List.length_map, List.take_length]
    walk_at "vw"
    exact hP
def wRunBytes : VSp := fun ds m P _ => ∃ (l : List Cel) (x : D), ds = [x] ∧ (x = .lst (l.map cvD) ∨ x = .tup (l.map cvD)) ∧ l.length ≤ 100 ∧ (∀ c ∈ l, okC c) ∧ P (dL (rbC (runsC l))) m
theorem okRuns_all {l : List Cel} (hl : l.length ≤ 100) (h : ∀ c ∈ l, okC c) : (runsC l).length ≤ 100 ∧ ∀ p ∈ runsC l, okC p.1 ∧ p.2 ≤ 100 := by
  have := okRuns (l := l) l.length h (Nat.le_refl _)
  rw [List.take_length] at this
  exact ⟨by have := this.1; omega, fun p hp => ⟨(this.2 p hp).1, by have := (this.2 p hp).2; omega⟩⟩
theorem rb_piece {p : Cel × Nat} (h : okC p.1 ∧ p.2 ≤ 100) : (cb p.1 ++ nb (p.2 : Int)).length ≤ 1070 := by
  have h1 := cb_len h.1
  have h2 := nbn_len (n := p.2) (by omega)
  rw [List.length_append]; omega
theorem p_run_bytes {K : PySem.W.Frag} (ds : List D) (m : Mst) (P : D → Mst → Prop) (VX : XV) (h : wRunBytes ds m P VX) : ds.length = 1 ∧ v_run_bytes K wRunsOf wNb wCb (vends P) (vstart N_run_bytes.length ds) m := by
  obtain ⟨l, x, rfl, hx, hl, hc, hP⟩ := h
  refine ⟨rfl, ?_⟩
  unfold v_run_bytes
  walk_at "vw"
  refine ⟨l, x, rfl, hx, hl, hc, ?_⟩
  obtain ⟨hrl, hr⟩ := okRuns_all hl hc
  generalize runsC l = rs at *
  walk_at "vw"
  rw [List.length_map]
  have hn0 := nbn_len (n := rs.length) (by omega)
  refine ⟨_, rfl, nbn_ok (by omega), ?_⟩
  walk_at "vw"
  refine for_inv (fun i e m' => m' = m ∧ e = [none, none, some (dL (nb rs.length ++ (rs.take i).flatMap fun p => cb p.1 ++ nb p.2)), none, none]) ⟨rfl, ?_⟩ ?_ ?_
  · rw [List.take_zero, List.flatMap_nil, List.append_nil]; kernel_rfl
  · rintro i e m' d hi ⟨rfl, rfl⟩ ed
    rw [List.getElem?_map] at ed
    obtain ⟨⟨c, n⟩, ec, rfl⟩ := Option.map_eq_some_iff.mp ed
    rw [List.length_map] at hi
    have hp := hr _ (List.mem_of_getElem? ec)
    have h1 : ((rs.take i).flatMap fun p => cb p.1 ++ nb (p.2 : Int)).length ≤ 1070 * (rs.take i).length := flat_len fun p hm => rb_piece (hr p (List.mem_of_mem_take hm))
    rw [List.length_take] at h1
    have h2 := rb_piece hp
    have h3 := cb_len hp.1
    have h4 := nbn_len (n := n) (by have := hp.2; omega)
    walk_at "vw"
    refine ⟨rfl, ?_⟩
    walk_at "vw"
    refine ⟨c, rfl, hp.1, ?_⟩
    walk_at "vw"
    refine ⟨(n : Int), rfl, nbn_ok (by have : n ≤ 100 := hp.2; omega), ?_⟩
    have h3 : (cb c).length ≤ 1040 := h3
    refine e_addL (x := (cb c).map D.int) (y := (nb (n : Int)).map D.int) (by rw [List.length_map, List.length_map]; omega) ?_
    walk_at "vw"
    refine e_ext (ds := (nb rs.length ++ (rs.take i).flatMap fun p => cb p.1 ++ nb p.2).map D.int) (es := (cb c).map D.int ++ (nb (n : Int)).map D.int) (by simp only [List.length_map, List.length_append] at *; omega) ?_
    refine ⟨rfl, ?_⟩
    rw [flat_succ ec]
    show [none, none, some (D.lst (_ ++ ((cb c).map D.int ++ (nb (n : Int)).map D.int))), none, none] = _
    rw [← List.map_append, dl_app, List.append_assoc]
  · rintro e m' ⟨rfl, rfl⟩
    rw [List.length_map, List.take_length]
    walk_at "vw"
    exact hP
theorem prC_len {way : Nat} {l : List Cel} (hl : l.length ≤ 100) (h : ∀ c ∈ l, okC c) : (nb (l.length : Int)).length ≤ 30 ∧ (allC l).length ≤ 104000 ∧ (rbC (runsC l)).length ≤ 110000 := by
  refine ⟨nbn_len (by omega), ?_, ?_⟩
  · have : (allC l).length ≤ 1040 * l.length := flat_len fun c hm => cb_len (h c hm)
    omega
  · obtain ⟨hrl, hr⟩ := okRuns_all hl h
    have h1 : ((runsC l).flatMap fun p => cb p.1 ++ nb (p.2 : Int)).length ≤ 1070 * (runsC l).length := flat_len fun p hm => rb_piece (hr p hm)
    have h2 := nbn_len (n := (runsC l).length) (by omega)
    unfold rbC
    rw [List.length_append]; omega
theorem e_lenX {x : D} {ds : List D} {Z : D → Prop} (hx : x = .lst ds ∨ x = .tup ds) (h : Z (.int ds.length)) : vLen [x] Z := by
  rcases hx with rfl | rfl <;> exact h
theorem p_own_nb {K : PySem.W.Frag} (ds : List D) (m : Mst) (P : D → Mst → Prop) (VX : XV) (h : wNb ds m P VX) : ds.length = 1 ∧ v_own_nb K (vends P) (vstart N_own_nb.length ds) m := by
  obtain ⟨n, rfl, hb, k⟩ := h
  have hlen := nb_len hb
  refine ⟨rfl, ?_⟩
  unfold v_own_nb
  walk_at "vv"
  with_reducible refine e_seqO fun N hN => ?_
  have main : ∀ r : Int, r = (zz n : Nat) → N [some (.int n), some (.int r), none] m := by
    rintro r rfl
    refine hN _ _ ?_
    walk_at "vv"
    refine ⟨fun (s : Nat) e m' => ∃ pre : List Int, e = [none, some (.int (s : Int)), some (dL pre)] ∧ m' = m ∧ nb n = pre ++ sev s, ⟨zz n, [], rfl, rfl, rfl⟩, ?_⟩
    rintro s e m' ⟨pre, rfl, rfl, e2⟩
    have hpl : pre.length ≤ 30 := by
      have := congrArg List.length e2
      rw [List.length_append] at this
      omega
    walk_at "vv"
    refine w_ifd (fun c => ?_) (fun c => ?_)
    · walk_at "vv"
      refine ⟨by rw [List.length_map]; exact sz_lt (by omega), ?_⟩
      rw [dl_snoc]
      walk_at "vv"
      refine ⟨s / 128, by omega, pre ++ [((s % 128 + 128 : Nat) : Int)], rfl, rfl, ?_⟩
      · rw [e2, sev_ge (by omega), List.append_assoc]; rfl
    · walk_at "vv"
      refine e_addL (by rw [List.length_map]; show pre.length + 1 ≤ _; omega) ?_
      rw [e2, sev_lt (by omega)] at k
      rw [dl_snoc]
      exact k
  walk_at "vv"
  refine w_ifd (fun c => ?_) (fun c => ?_)
  · walk_at "vv"
    refine main _ ?_
    unfold zz
    rw [if_pos c]; omega
  · walk_at "vv"
    refine main _ ?_
    unfold zz
    rw [if_neg c]; omega
def wSignNo : VSp := fun ds m P _ => ∃ k : Nat, ds = [.str ⟨#[sg k]⟩] ∧ k < 94 ∧ P (.int k) m
theorem p_sign_number {K : PySem.W.Frag} (ds : List D) (m : Mst) (P : D → Mst → Prop) (VX : XV) (h : wSignNo ds m P VX) : ds.length = 1 ∧ v_sign_number K (vends P) (vstart N_sign_number.length ds) m := by
  obtain ⟨k, rfl, hk, hP⟩ := h
  refine ⟨rfl, ?_⟩
  unfold v_sign_number
  walk_at "vw"
  refine e_find ?_
  have e : Txt.find signs ⟨#[sg k]⟩ = (k : Int) := by
    unfold Txt.find
    rw [sg_occ ⟨k, hk⟩]
  have e2 : Txt.find (Str.ofString " !\"#$&'()*+,-./0123456789:;<=>?@ABCDEFGHIJKLMNOPQRSTUVWXYZ[\\]^_`abcdefghijklmnopqrstuvwxyz{|}~") ⟨#[sg k]⟩ = (k : Int) := e
  rw [e2]
  exact hP
theorem p_own_cb8 {K : PySem.W.Frag} (ds : List D) (m : Mst) (P : D → Mst → Prop) (VX : XV) (h : wCb ds m P VX) : ds.length = 1 ∧ v_own_cb8 K wNb wSignNo (vends P) (vstart N_own_cb8.length ds) m := by
  obtain ⟨c, rfl, hc, k⟩ := h
  refine ⟨rfl, ?_⟩
  unfold v_own_cb8
  cases c with
  | non =>
    show (vSeqS _ _ : VS) _ [some D.non, none] _
    walk_at "vw"
    exact k
  | num z =>
    have hl := nb_len (n := z) hc
    show (vSeqS _ _ : VS) _ [some (D.int z), none] _
    walk_at "vw"
    refine ⟨z, rfl, hc, ?_⟩
    refine e_addL (by rw [List.length_map]; show 1 + _ ≤ _; omega) ?_
    rw [dl_cons]
    exact k
  | txt ks =>
    have hl := tb_len hc.1
    have hn := nbn_len (n := ks.length) (by have := hc.1; omega)
    have hkl := hc.1
    show (vSeqS _ _ : VS) _ [some (D.str (txt ks)), none] _
    walk_at "vw"
    refine e_lenS (by rw [txt_len]; omega) ?_
    rw [txt_len]
    walk_at "vw"
    refine ⟨_, rfl, nbn_ok (by omega), ?_⟩
    refine e_addL (by rw [List.length_map]; show 1 + _ ≤ _; omega) ?_
    rw [dl_cons]
    walk_at "vw"
    rw [signs_txt]
    refine lc_mapL (h := fun k : Nat => .int k) (by omega) (fun i x Q ex hQ => ?_) ?_
    · walk_at "vw"
      exact ⟨x, rfl, hc.2 x (List.mem_of_getElem? ex), hQ⟩
    · rw [ins_d]
      refine e_addL (by rw [List.length_map, List.length_map, ins_len, List.length_cons]; omega) ?_
      rw [dl_app]
      exact k
structure RunSt (s0 s : Sto) (ys : List Addr) (rs : List (Cel × Nat)) : Prop where
  nd : ys.Nodup
  len : ys.length = rs.length
  on : ∀ (i : Nat) (y : Addr) (r : Cel × Nat), ys[i]? = some y → rs[i]? = some r → s y = some (rnL r)
  off : ∀ b, b ∉ ys → s b = s0 b
  nw : ∀ b, b ∈ ys → s0 b = none
theorem runSt_nil {s0 : Sto} : RunSt s0 s0 [] [] := ⟨List.nodup_nil, rfl, fun i y r h => by simp at h, fun _ _ => rfl, by simp⟩
theorem runSt_fresh {s0 s : Sto} {ys : List Addr} {rs : List (Cel × Nat)} {y : Addr} (h : RunSt s0 s ys rs) (hy : s y = none) : y ∉ ys := fun hm => by
  obtain ⟨i, hi, e⟩ := List.mem_iff_getElem.mp hm
  have := h.on i y (rs[i]'(by rw [← h.len]; exact hi)) (by rw [List.getElem?_eq_getElem hi, e]) (List.getElem?_eq_getElem _)
  rw [hy] at this
  cases this
theorem runSt_new {s0 s : Sto} {ys : List Addr} {rs : List (Cel × Nat)} {y : Addr} {r : Cel × Nat} (h : RunSt s0 s ys rs) (hy : s y = none) : RunSt s0 (sput s y (rnL r)) (ys ++ [y]) (rs ++ [r]) := by
  have hn := runSt_fresh h hy
  refine ⟨?_, by simp [h.len], fun i z q e1 e2 => ?_, fun b hb => ?_, fun b hb => ?_⟩
  · rw [List.nodup_append]
    refine ⟨h.nd, by simp, fun a ha b hb e => ?_⟩
    rw [List.mem_singleton.mp hb] at e
    subst e; exact hn ha
  · by_cases hi : i < ys.length
    · rw [List.getElem?_append_left hi] at e1
      rw [List.getElem?_append_left (by rw [← h.len]; exact hi)] at e2
      have hz : z ≠ y := fun e => hn (by subst e; exact List.mem_of_getElem? e1)
      rw [sput_ne hz]
      exact h.on i z q e1 e2
    · have hi2 : i = ys.length := by
        have := (List.getElem?_eq_some_iff.mp e1).1
        rw [List.length_append, List.length_singleton] at this
        omega
      subst hi2
      rw [List.getElem?_append_right (Nat.le_refl _), Nat.sub_self] at e1
      rw [h.len, List.getElem?_append_right (Nat.le_refl _), Nat.sub_self] at e2
      cases e1; cases e2
      exact sput_same
  · rw [List.mem_append, List.mem_singleton, not_or] at hb
    rw [sput_ne hb.2]
    exact h.off b hb.1
  · rcases List.mem_append.mp hb with hb | hb
    · exact h.nw b hb
    · rw [List.mem_singleton.mp hb, ← h.off y hn]; exact hy
theorem runSt_last {s0 s : Sto} {ys : List Addr} {pre : List (Cel × Nat)} {r : Cel × Nat} (h : RunSt s0 s ys (pre ++ [r])) : ∃ ps y, ys = ps ++ [y] ∧ ps.length = pre.length ∧ s y = some (rnL r) := by
  rcases nil_or_snoc ys with rfl | ⟨ps, y, rfl⟩
  · have := h.len; simp at this
  · have hl : ps.length = pre.length := by have := h.len; simpa using this
    refine ⟨ps, y, rfl, hl, h.on ps.length y r (by simp) (by rw [hl]; simp)⟩
theorem runSt_put {s0 s : Sto} {ps : List Addr} {y : Addr} {pre : List (Cel × Nat)} {r q : Cel × Nat} (h : RunSt s0 s (ps ++ [y]) (pre ++ [r])) : RunSt s0 (sput s y (rnL q)) (ps ++ [y]) (pre ++ [q]) := by
  have hl : ps.length = pre.length := by have := h.len; simpa using this
  refine ⟨h.nd, by simp [hl], fun i z u e1 e2 => ?_, fun b hb => ?_, h.nw⟩
  · by_cases hi : i < ps.length
    · have hz : z ≠ y := fun e => by
        subst e
        rw [List.getElem?_append_left hi] at e1
        have := List.nodup_append.mp h.nd
        exact this.2.2 z (List.mem_of_getElem? e1) z (by simp) rfl
      rw [sput_ne hz]
      refine h.on i z u e1 ?_
      rw [List.getElem?_append_left (by omega)] at e2 ⊢
      exact e2
    · have hi2 : i = ps.length := by
        have := (List.getElem?_eq_some_iff.mp e1).1
        rw [List.length_append, List.length_singleton] at this
        omega
      subst hi2
      rw [List.getElem?_append_right (Nat.le_refl _), Nat.sub_self] at e1
      rw [hl, List.getElem?_append_right (Nat.le_refl _), Nat.sub_self] at e2
      cases e1; cases e2
      exact sput_same
  · have hb2 : b ≠ y := fun e => hb (by subst e; simp)
    rw [sput_ne hb2]
    exact h.off b hb
theorem runSt_all : ∀ {ys : List Addr} {rs : List (Cel × Nat)} {s0 s : Sto}, RunSt s0 s ys rs → AtAll s ys (rs.map fun p => [cvD p.1, .int p.2]) ∧ sdels s ys = s0
  | [], [], s0, s, h => ⟨trivial, funext fun b => h.off b (by simp)⟩
  | [], _ :: _, _, _, h => by have := h.len; simp at this
  | _ :: _, [], _, _, h => by have := h.len; simp at this
  | y :: ys, r :: rs, s0, s, h => by
    have nd := List.nodup_cons.mp h.nd
    have h2 : RunSt s0 (sdel s y) ys rs := ⟨nd.2, by have := h.len; simpa using this, fun i z q e1 e2 => by
        have hz : z ≠ y := fun e => nd.1 (by subst e; exact List.mem_of_getElem? e1)
        rw [sdel_ne hz]
        exact h.on (i + 1) z q (by simpa using e1) (by simpa using e2), fun b hb => by
        by_cases e : b = y
        · subst e; rw [h.nw b (by simp)]; exact sdel_same
        · rw [sdel_ne e]; exact h.off b (by simp [e, hb]), fun b hb => h.nw b (by simp [hb])⟩
    obtain ⟨a1, a2⟩ := runSt_all h2
    exact ⟨⟨h.on 0 y r rfl rfl, a1⟩, a2⟩
def wOwnRuns : VSp := fun ds m P _ => ∃ (l : List Cel) (x : D), ds = [x] ∧ x = .lst (l.map cvD) ∧ l.length ≤ 100 ∧ (∀ c ∈ l, okC c) ∧ P (dL (rbC (runsC l))) m
theorem cv_ne {a b : Cel} (ha : okC a) (hb : okC b) {Z : D → Prop} (h : Z (.bl (!decide (a = b)))) : vNeC (cvD a) (cvD b) Z := e_neX (cv_sc a b) (by rw [cv_eq ha hb]; exact h)
theorem p_own_runs {K : PySem.W.Frag} (ds : List D) (m : Mst) (P : D → Mst → Prop) (VX : XV) (h : wOwnRuns ds m P VX) : ds.length = 1 ∧ v_own_runs K wNb wCb (vends P) (vstart N_own_runs.length ds) m := by
  obtain ⟨l, x, rfl, rfl, hl, hc, hP⟩ := h
  obtain ⟨q0, s0⟩ := m
  refine ⟨rfl, ?_⟩
  unfold v_own_runs
  walk_at "vw"
  refine for_inv (fun i e m' => ∃ (s : Sto) (ys : List Addr), m' = (q0, s) ∧ RunSt s0 s ys (runsC (l.take i)) ∧ e = [none, some (.lst (ys.map D.adr)), none, none, none]) ⟨s0, [], rfl, runSt_nil, by kernel_rfl⟩ ?_ ?_
  · rintro i e m' d hi ⟨s, ys, rfl, hst, rfl⟩ ed
    obtain ⟨c, ec, rfl⟩ := cel_at ed
    rw [List.length_map] at hi
    have hok := okRuns i hc (by omega)
    have hcc := hc c (List.mem_of_getElem? ec)
    rw [runs_succ ec]
    generalize runsC (l.take i) = rs at *
    walk_at "vv"
    with_reducible refine e_seqO fun N hN => ?_
    have fin : ∀ (s : Sto) (ys : List Addr) (pre : List (Cel × Nat)) (n : Nat), RunSt s0 s ys (pre ++ [(c, n)]) → pre.length ≤ 100 → stepR rs c = pre ++ [(c, n + 1)] → N [none, some (.lst (ys.map D.adr)), some (cvD c), none, none] (q0, s) := by
      intro s ys pre n hst hpl hstep
      refine hN _ _ ?_
      obtain ⟨ps, y, rfl, hps, hy⟩ := runSt_last hst
      rw [List.map_append]
      walk_at "vw"
      refine e_ixL (atI_last _ _) ?_
      walk_at "vw"
      show vIx (lookS s y) (.int 1) _
      rw [lookS_lst hy]
      refine e_ixL (x := .int (n : Int)) rfl ?_
      walk_at "vw"
      refine e_ixL (atI_last _ _) ?_
      refine ⟨y, rfl, ?_⟩
      walk_at "vw"
      refine .inl ⟨[cvD c, .int n], 1, 1, hy, rfl, rfl, ?_⟩
      refine ⟨_, ps ++ [y], rfl, ?_, by rw [List.map_append]; rfl⟩
      rw [hstep]
      exact runSt_put (q := (c, n + 1)) hst
    walk_at "vw"
    refine e_eqNil' ?_
    rcases nil_or_snoc rs with rfl | ⟨pre, ⟨d, n⟩, rfl⟩
    · have hy0 : ys = [] := List.eq_nil_of_length_eq_zero hst.len
      subst hy0
      walk_at "vw"
      refine w_ifT (w_ifT ?_)
      walk_at "vw"
      intro y hy
      walk_at "vw"
      refine ⟨sz_lt (by simp), ?_⟩
      exact fin _ [y] [] 0 (runSt_new (r := (c, 0)) hst hy) (by simp) rfl
    · obtain ⟨ps, y, rfl, hps, hy⟩ := runSt_last hst
      have hd := (hok.2 (d, n) (by simp)).1
      have hl2 := hok.1
      rw [List.length_append, List.length_singleton] at hl2
      rw [show ((ps ++ [y]).map D.adr).isEmpty = false by simp]
      refine ⟨false, rfl, w_ifF ?_⟩
      rw [List.map_append]
      walk_at "vw"
      refine e_ixL (atI_last _ _) ?_
      walk_at "vw"
      show vIx (lookS s y) (.int 0) _
      rw [lookS_lst hy]
      refine e_ixL (x := cvD d) rfl ?_
      walk_at "vw"
      refine cv_ne hd hcc ?_
      walk_at "vw"
      refine w_ifn (fun q => ?_) (fun q => ?_)
      · walk_at "vw"
        intro y2 hy2
        walk_at "vw"
        refine ⟨sz_lt (by simp; omega), ?_⟩
        have := fin _ ((ps ++ [y]) ++ [y2]) (pre ++ [(d, n)]) 0 (runSt_new (r := (c, 0)) hst hy2) (by simp; omega) (stepR_new _ _ _ q)
        rw [List.map_append, List.map_append] at this
        exact this
      · have q : d = c := q
        subst q
        walk_at "vw"
        have := fin s (ps ++ [y]) pre n hst (by omega) (stepR_same _ _ _)
        rw [List.map_append] at this
        exact this
  · rintro e m' ⟨s, ys, rfl, hst, rfl⟩
    rw [List.length_map, List.take_length] at hst
    obtain ⟨hrl, hr⟩ := okRuns_all hl hc
    generalize runsC l = rs at *
    have hn0 := nbn_len (n := rs.length) (by omega)
    obtain ⟨a1, a2⟩ := runSt_all hst
    walk_at "vw"
    rw [List.length_map, hst.len]
    refine ⟨_, rfl, nbn_ok (by omega), ?_⟩
    walk_at "vw"
    refine e_unb ?_
    walk_at "vw"
    refine ⟨ys, _, rfl, a1, ?_⟩
    rw [a2, List.map_map]
    walk_at "vw"
    refine for_inv (fun i e m' => m' = (q0, s0) ∧ e = [none, none, none, some (dL (nb rs.length ++ (rs.take i).flatMap fun p => cb p.1 ++ nb p.2)), none]) ⟨rfl, ?_⟩ ?_ ?_
    · rw [List.take_zero, List.flatMap_nil, List.append_nil]; kernel_rfl
    · rintro i e m' d hi ⟨rfl, rfl⟩ ed
      rw [List.getElem?_map] at ed
      obtain ⟨⟨c, n⟩, ec, rfl⟩ := Option.map_eq_some_iff.mp ed
      rw [List.length_map] at hi
      have hp := hr _ (List.mem_of_getElem? ec)
      have h1 : ((rs.take i).flatMap fun p => cb p.1 ++ nb (p.2 : Int)).length ≤ 1070 * (rs.take i).length := flat_len fun p hm => rb_piece (hr p (List.mem_of_mem_take hm))
      rw [List.length_take] at h1
      have h3 : (cb c).length ≤ 1040 := cb_len hp.1
      have hn : n ≤ 100 := hp.2
      have h4 := nbn_len (n := n) (by omega)
      walk_at "vw"
      refine ⟨rfl, ?_⟩
      walk_at "vw"
      refine ⟨c, rfl, hp.1, ?_⟩
      refine e_addL (x := (nb rs.length ++ (rs.take i).flatMap fun p => cb p.1 ++ nb p.2).map D.int) (y := (cb c).map D.int) (by simp only [List.length_map, List.length_append] at *; omega) ?_
      walk_at "vw"
      refine ⟨(n : Int), rfl, nbn_ok (by omega), ?_⟩
      refine e_addL (x := (nb rs.length ++ (rs.take i).flatMap fun p => cb p.1 ++ nb p.2).map D.int ++ (cb c).map D.int) (y := (nb (n : Int)).map D.int) (by simp only [List.length_map, List.length_append] at *; omega) ?_
      refine ⟨rfl, ?_⟩
      rw [flat_succ ec, ← List.append_assoc, ← List.append_assoc]
      show [none, none, none, some (D.lst (_ ++ _ ++ _)), none] = _
      rw [← List.map_append, ← List.map_append]
    · rintro e m' ⟨rfl, rfl⟩
      rw [List.length_map, List.take_length]
      walk_at "vw"
      exact hP
end Ps
namespace Ps
open PySem PySem.Spec PyProof.Rows L2
local macro_rules | `(tactic| walk_at "v1") => `(tactic| first
  | (with_reducible refine e_isN ?_)
  | (with_reducible refine e_notN ?_)
  | fail)
local macro_rules | `(tactic| walk_at "v1") => `(tactic| first
  | ((with_reducible refine' e_modI ?hx ?_); (case hx => decide))
  | ((with_reducible refine' e_divI ?hx ?_); (case hx => exact .inl ⟨by decide, by decide⟩))
  | ((with_reducible refine' e_mulI ?hx ?_); (case hx => first | exact .inl (.inr ⟨by decide, by decide⟩) | exact .inl (.inl ⟨by decide, by decide⟩)))
  | ((with_reducible refine' e_ipmI ?hx ?_); (case hx => first | exact .inl (.inr ⟨by decide, by decide⟩) | exact .inl (.inl ⟨by decide, by decide⟩)))
  | fail)
local macro_rules | `(tactic| walk_at "v1") => `(tactic| first
  | ((with_reducible refine' e_gtupU ?hx ?_); (case hx => exact rfl))
  | ((with_reducible refine' e_gtupL ?hx ?_); (case hx => exact rfl))
  | ((with_reducible refine' e_isi (b := true) ?hx ?hy ?_); (case hx => exact rfl); (case hy => first | exact rfl | decide))
  | ((with_reducible refine' e_isi (b := false) ?hx ?hy ?_); (case hx => exact rfl); (case hy => first | exact rfl | decide))
  | fail)
local macro_rules | `(tactic| walk_at "v1") => `(tactic| first
  | ((with_reducible refine' e_app ?hx ?_); (case hx => exact rfl))
  | ((with_reducible refine' e_mut ?hx ?_); (case hx => exact rfl))
  | ((with_reducible refine' e_len ?hx ?_); (case hx => exact rfl))
  | ((with_reducible refine' e_gtup ?hx ?_); (case hx => exact rfl))
  | fail)
local macro_rules | `(tactic| walk_at "v1") => `(tactic| first
  | (with_reducible refine w_ifF ?_)
  | (with_reducible refine w_ifNF ?_)
  | (with_reducible refine w_ifNT ?_)
  | ((with_reducible refine' e_aug ?hx ?_); (case hx => exact rfl))
  | fail)
local macro_rules | `(tactic| walk_at "v1") => `(tactic| first
  | (with_reducible refine e_rev ?_)
  | (with_reducible refine e_for ?_)
  | (with_reducible refine e_lc ?_)
  | (with_reducible refine w_ifT ?_)
  | fail)
local macro_rules | `(tactic| walk_at "v1") => `(tactic| first
  | (with_reducible refine e_rng1 ?_)
  | (with_reducible refine e_rng2 ?_)
  | (with_reducible refine e_zip ?_)
  | (with_reducible refine e_enum ?_)
  | fail)
local macro_rules | `(tactic| walk_at "v1") => `(tactic| first
  | (with_reducible refine e_ntNi ?_)
  | (with_reducible refine e_ntNs ?_)
  | (with_reducible refine e_ntNl ?_)
  | (with_reducible refine e_ntNt ?_)
  | fail)
local macro_rules | `(tactic| walk_at "v1") => `(tactic| first
  | (with_reducible refine e_isNl ?_)
  | (with_reducible refine e_isNt ?_)
  | (with_reducible refine e_isNb ?_)
  | (with_reducible refine e_ntNn ?_)
  | fail)
local macro_rules | `(tactic| walk_at "v1") => `(tactic| first
  | (with_reducible refine e_truT ?_)
  | (with_reducible refine e_isNn ?_)
  | (with_reducible refine e_isNi ?_)
  | (with_reducible refine e_isNs ?_)
  | fail)
local macro_rules | `(tactic| walk_at "v1") => `(tactic| first
  | (with_reducible refine e_truB ?_)
  | (with_reducible refine e_truN ?_)
  | (with_reducible refine e_truI ?_)
  | (with_reducible refine e_truL ?_)
  | fail)
local macro_rules | `(tactic| walk_at "v1") => `(tactic| first
  | (with_reducible refine e_itES ?_)
  | (with_reducible refine e_itVL ?_)
  | (with_reducible refine e_itVT ?_)
  | (with_reducible refine e_tru ?_)
  | fail)
local macro_rules | `(tactic| walk_at "v1") => `(tactic| first
  | (with_reducible refine e_itZL ?_)
  | (with_reducible refine e_itZT ?_)
  | (with_reducible refine e_itEL ?_)
  | (with_reducible refine e_itET ?_)
  | fail)
local macro_rules | `(tactic| walk_at "v1") => `(tactic| first
  | (with_reducible refine e_itT ?_)
  | (with_reducible refine e_itS ?_)
  | (with_reducible refine e_rg1 ?_)
  | (with_reducible refine e_rg2 ?_)
  | fail)
local macro_rules | `(tactic| walk_at "v1") => `(tactic| first
  | (with_reducible refine e_gcons ?_)
  | (with_reducible refine e_gnil ?_)
  | (with_reducible refine e_seqv ?_)
  | (with_reducible refine e_itL ?_)
  | fail)
local macro_rules | `(tactic| walk_at "v1") => `(tactic| first
  | (with_reducible refine e_cutL ?_)
  | (with_reducible refine e_cutT ?_)
  | (with_reducible refine e_revm ?_)
  | (with_reducible refine e_clrm ?_)
  | fail)
local macro_rules | `(tactic| walk_at "v1") => `(tactic| first
  | (with_reducible refine e_tupT ?_)
  | (with_reducible refine e_intI ?_)
  | (with_reducible refine e_intB ?_)
  | (with_reducible refine e_abs ?_)
  | fail)
local macro_rules | `(tactic| walk_at "v1") => `(tactic| first
  | (with_reducible refine e_lenD ?_)
  | (with_reducible refine e_listL ?_)
  | (with_reducible refine e_listT ?_)
  | (with_reducible refine e_tupL ?_)
  | fail)
local macro_rules | `(tactic| walk_at "v1") => `(tactic| first
  | (with_reducible refine e_geI ?_)
  | (with_reducible refine e_ipaI ?_)
  | (with_reducible refine e_lenL ?_)
  | (with_reducible refine e_lenT ?_)
  | fail)
local macro_rules | `(tactic| walk_at "v1") => `(tactic| first
  | (with_reducible refine e_neB ?_)
  | (with_reducible refine e_ltI ?_)
  | (with_reducible refine e_leI ?_)
  | (with_reducible refine e_gtI ?_)
  | fail)
local macro_rules | `(tactic| walk_at "v1") => `(tactic| first
  | (with_reducible refine e_eqS ?_)
  | (with_reducible refine e_eqB ?_)
  | (with_reducible refine e_neI ?_)
  | (with_reducible refine e_neS ?_)
  | fail)
local macro_rules | `(tactic| walk_at "v1") => `(tactic| first
  | (with_reducible refine e_addI ?_)
  | (with_reducible refine e_subI ?_)
  | (with_reducible refine e_negI ?_)
  | (with_reducible refine e_eqI ?_)
  | fail)
local macro_rules | `(tactic| walk_at "v1") => `(tactic| first
  | (with_reducible refine e_rz1 ?_)
  | (with_reducible refine e_rz0 ?_)
  | (with_reducible refine e_par ?_)
  | (with_reducible refine e_put ?_)
  | fail)
local macro_rules | `(tactic| walk_at "v1") => `(tactic| first
  | (with_reducible refine e_min2 ?_)
  | (with_reducible refine e_part ?_)
  | (with_reducible refine e_intE ?_)
  | (with_reducible refine e_dnew ?_)
  | fail)
local macro_rules | `(tactic| walk_at "v1") => `(tactic| first
  | (with_reducible refine e_kT ?_)
  | (with_reducible refine e_kN ?_)
  | (with_reducible refine e_ckw ?_)
  | (with_reducible refine e_max2 ?_)
  | fail)
local macro_rules | `(tactic| walk_at "v1") => `(tactic| first
  | (with_reducible refine e_callE ?_)
  | (with_reducible refine e_isiT ?_)
  | (with_reducible refine e_fldX ?_)
  | (with_reducible refine e_tryK ?_)
  | fail)
local macro_rules | `(tactic| walk_at "v1") => `(tactic| first
  | (with_reducible refine e_sc ?_)
  | (with_reducible refine e_scI ?_)
  | (with_reducible refine e_sl ?_)
  | (with_reducible refine e_nopart ?_)
  | fail)
local macro_rules | `(tactic| walk_at "v1") => `(tactic| first
  | (with_reducible refine e_dpopS ?_)
  | (with_reducible refine e_get2 ?_)
  | (with_reducible refine e_addII ?_)
  | (with_reducible refine e_subII ?_)
  | fail)
local macro_rules | `(tactic| walk_at "v1") => `(tactic| first
  | (with_reducible refine e_zipB ?_)
  | (with_reducible refine e_lcB ?_)
  | (with_reducible refine e_forB ?_)
  | (with_reducible refine e_popS ?_)
  | fail)
local macro_rules | `(tactic| walk_at "v1") => `(tactic| first
  | (with_reducible refine e_boxDi ?_)
  | (with_reducible refine e_seqB ?_)
  | (with_reducible refine e_enumB ?_)
  | (with_reducible refine e_revB ?_)
  | fail)
local macro_rules | `(tactic| walk_at "v1") => `(tactic| first
  | (with_reducible refine e_mutS ?_)
  | (with_reducible refine e_putS ?_)
  | (with_reducible refine e_box ?_)
  | (with_reducible refine e_boxL ?_)
  | fail)
local macro_rules | `(tactic| walk_at "v1") => `(tactic| first
  | (with_reducible refine e_augF ?_)
  | (with_reducible refine e_meth ?_)
  | (with_reducible refine e_make ?_)
  | (with_reducible refine e_appS ?_)
  | fail)
local macro_rules | `(tactic| walk_at "v1") => `(tactic| first
  | (with_reducible refine e_truLk ?_)
  | (with_reducible refine e_slL ?_)
  | (with_reducible refine e_fld ?_)
  | (with_reducible refine e_setF ?_)
  | fail)
local macro_rules | `(tactic| walk_at "v1") => `(tactic| first
  | (with_reducible refine e_unL ?_)
  | (with_reducible refine e_cbL ?_)
  | (with_reducible refine e_bmL ?_)
  | (with_reducible refine e_bm0L ?_)
  | fail)
local macro_rules | `(tactic| walk_at "v1") => `(tactic| first
  | (with_reducible refine e_callBS ?_)
  | (with_reducible refine e_frB ?_)
  | (with_reducible refine e_frI ?_)
  | (with_reducible refine e_opL ?_)
  | fail)
local macro_rules | `(tactic| walk_at "v1") => `(tactic| first
  | (with_reducible refine e_yes ?_)
  | (with_reducible refine e_call ?_)
  | (with_reducible refine e_callS ?_)
  | (with_reducible refine e_callB ?_)
  | fail)
local macro_rules | `(tactic| walk_at "v1") => `(tactic| first
  | (with_reducible refine e_test ?_)
  | (with_reducible refine e_and ?_)
  | (with_reducible refine e_or ?_)
  | (with_reducible refine e_not ?_)
  | fail)
local macro_rules | `(tactic| walk_at "v1") => `(tactic| first
  | (with_reducible refine e_orV ?_)
  | (with_reducible refine e_notV ?_)
  | (with_reducible refine e_blE ?_)
  | (with_reducible refine e_chain ?_)
  | fail)
local macro_rules | `(tactic| walk_at "v1") => `(tactic| first
  | (with_reducible refine e_tyD ?_)
  | (with_reducible refine e_lst ?_)
  | (with_reducible refine e_tup ?_)
  | (with_reducible refine e_andV ?_)
  | fail)
local macro_rules | `(tactic| walk_at "v1") => `(tactic| first
  | (with_reducible refine e_bm ?_)
  | (with_reducible refine e_bm0 ?_)
  | (with_reducible refine e_tyS ?_)
  | (with_reducible refine e_tyL ?_)
  | fail)
local macro_rules | `(tactic| walk_at "v1") => `(tactic| first
  | (with_reducible refine e_cons ?_)
  | (with_reducible refine e_op ?_)
  | (with_reducible refine e_un ?_)
  | (with_reducible refine e_cb ?_)
  | fail)
local macro_rules | `(tactic| walk_at "v1") => `(tactic| first
  | (with_reducible refine e_cont ?_)
  | (with_reducible refine e_gname ?_)
  | (with_reducible refine e_c ?_)
  | (with_reducible refine e_nil ?_)
  | fail)
local macro_rules | `(tactic| walk_at "v1") => `(tactic| first
  | (with_reducible refine e_retN ?_)
  | (with_reducible refine e_if ?_)
  | (with_reducible refine e_next ?_)
  | (with_reducible refine e_brk ?_)
  | fail)
local macro_rules | `(tactic| walk_at "v1") => `(tactic| first
  | (with_reducible refine e_seqSeq ?_)
  | (with_reducible refine e_asg ?_)
  | (with_reducible refine e_drop ?_)
  | (with_reducible refine e_ret ?_)
  | fail)
local macro_rules | `(tactic| walk_at "v1") => `(tactic| first
  | (with_reducible refine e_seqMutS ?_)
  | (with_reducible refine e_seqPutS ?_)
  | (with_reducible refine e_seqForB ?_)
  | (with_reducible refine e_seqAugS ?_)
  | fail)
local macro_rules | `(tactic| walk_at "v1") => `(tactic| first
  | (with_reducible refine e_seqNext ?_)
  | (with_reducible refine e_seqSetF ?_)
  | (with_reducible refine e_seqAugF ?_)
  | (with_reducible refine e_seqAppS ?_)
  | fail)
local macro_rules | `(tactic| walk_at "v1") => `(tactic| first
  | (with_reducible refine e_seqPut ?_)
  | (with_reducible refine e_seqPar ?_)
  | (with_reducible refine e_seqFor ?_)
  | (with_reducible refine e_seqWhile ?_)
  | fail)
local macro_rules | `(tactic| walk_at "v1") => `(tactic| first
  | (with_reducible refine e_seqDrop ?_)
  | (with_reducible refine e_seqAug ?_)
  | (with_reducible refine e_seqApp ?_)
  | (with_reducible refine e_seqMut ?_)
  | fail)
local macro_rules | `(tactic| walk_at "v1") => `(tactic| first
  | (with_reducible refine e_isB ?_)
  | (with_reducible refine e_notB ?_)
  | (with_reducible refine e_seqUpd ?_)
  | (with_reducible refine e_seqAsg ?_)
  | fail)
local macro_rules | `(tactic| walk_at "v1") => `(tactic| first
  | (with_reducible refine e_disp ?_)
  | (with_reducible refine e_pcons ?_)
  | (with_reducible refine e_pnil ?_)
  | ((with_reducible refine' e_upd ?hx ?_); (case hx => exact rfl))
  | fail)
local macro_rules | `(tactic| walk_at "v1") => `(tactic| first
  | (with_reducible refine e_maxUT ?_)
  | (with_reducible refine e_sortSet ?_)
  | (with_reducible refine e_rng3 ?_)
  | (with_reducible refine e_lenScr ?_)
  | fail)
local macro_rules | `(tactic| walk_at "v1") => `(tactic| first
  | (with_reducible refine e_minLen ?_)
  | (with_reducible refine e_minUL ?_)
  | (with_reducible refine e_minUT ?_)
  | (with_reducible refine e_maxUL ?_)
  | fail)
local macro_rules | `(tactic| walk_at "v1") => `(tactic| first
  | (with_reducible refine e_inC ?_)
  | (with_reducible refine e_listC ?_)
  | (with_reducible refine e_dnewC ?_)
  | (with_reducible refine e_sortK ?_)
  | fail)
local macro_rules | `(tactic| walk_at "v1") => `(tactic| first
  | ((with_reducible refine' e_var ?hx ?_); (case hx => exact rfl))
  | (with_reducible refine e_putC ?_)
  | (with_reducible refine e_seqPutC ?_)
  | (with_reducible refine e_ixC ?_)
  | fail)
local macro_rules | `(tactic| walk_at "vv") => `(tactic| repeat (walk_at "v1"))
local macro_rules | `(tactic| walk_at "vi") => `(tactic| ((with_reducible refine e_seq ?_); repeat (walk_at "v1")))
local macro_rules | `(tactic| walk_at "ve") => `(tactic| ((with_reducible refine e_ifE ?_); repeat (walk_at "v1")))
local macro_rules | `(tactic| walk_at "lit") => `(tactic| first | refine w_ifFd (by decide +kernel) ?_ | refine w_ifTd (by decide +kernel) ?_)
local macro_rules | `(tactic| walk_at "vw") => `(tactic| repeat (first | walk_at "v1" | (with_reducible refine e_seq ?_) | walk_at "lit"))
def t_cell_key (K : PySem.W.Frag) (s_is_number_ : Sp) : TS :=
      (tSeq (tIfS (tTest (tOp (rIsN) (tVar 0) (tC .non)))
      (tRet (tTup (tCons (tC (.int 0)) (tCons (tC (.int 0)) (tCons (tC (.str ("" : Str))) tNil)))))
      tNext)
      (tSeq (tIfS (tTru K (tCall s_is_number_ [] E0 (tCons (tVar 0) tNil)))
      (tRet (tTup (tCons (tC (.int 1)) (tCons (tVar 0) (tCons (tC (.str ("" : Str))) tNil)))))
      tNext)
      (tRet (tTup (tCons (tC (.int 2)) (tCons (tC (.int 0)) (tCons (tVar 0) tNil)))))))
abbrev N_cell_key : List Str := [("cell" : Str)]
def v_cell_key (K : PySem.W.Frag) (vs_is_number : VSp) : VS :=
      (vSeqS (vIf (vTest (vOp vIsN (vVar 0) (vC .non)))
      (vRet (vTup (vCons (vC (.int 0)) (vCons (vC (.int 0)) (vCons (vC (.str ("" : Str))) vNil)))))
      vNext)
      (vSeqS (vIf (vTru (vCall vs_is_number (vCons (vVar 0) vNil)))
      (vRet (vTup (vCons (vC (.int 1)) (vCons (vVar 0) (vCons (vC (.str ("" : Str))) vNil)))))
      vNext)
      (vRet (vTup (vCons (vC (.int 2)) (vCons (vC (.int 0)) (vCons (vVar 0) vNil)))))))
theorem sim_cell_key {K : PySem.W.Frag} {vs_is_number : VSp} {vsp : VSp} (hv : ∀ ds m P VX, vsp ds m P VX → ds.length = 1 ∧ v_cell_key K vs_is_number (vends P) (vstart N_cell_key.length ds) m) :
    ∀ us H Q E, spV K .O vsp us H Q E → t_cell_key K (spV K .O vs_is_number) { nx := fun _ H' => Q .non H', rt := Q } (L2.start N_cell_key us) H :=
  sim_def (n := 1) (t := .O) (N := N_cell_key) (Γn := [.F]) (Γb := []) (Γc := []) (ts := fun E => t_cell_key K (spV K .O vs_is_number)) (vs := fun VX => v_cell_key K vs_is_number) (by decide) (fun c W VX hK hx => by
    subst hK
    exact (x_seq (x_if (Γn := [.F]) (s_test (SO.b (s_op o_isN (SF.b (s_varF (by rfl))) (SO.b s_non))))
      (x_retO (s_tup (g_cons (SO.f s_int) (g_cons (SO.f s_int) (g_cons (SO.f s_str) g_nil)))))
      x_next)
      (x_seq (x_if (Γn := [.F]) (s_tru (SO.b (s_callO (g_cons (s_varF (by rfl)) g_nil))))
      (x_retO (s_tup (g_cons (SO.f s_int) (g_cons (s_varF (by rfl)) (g_cons (SO.f s_str) g_nil)))))
      x_next)
      (x_retO (s_tup (g_cons (SO.f s_int) (g_cons (SO.f s_int) (g_cons (s_varF (by rfl)) g_nil)))))))) hv
def t_book_of (K : PySem.W.Frag) (w : World) (s_cell_key_ : Sp) (f_cell_key : Addr) : TS :=
      (tSeq (tAsg (tDNewC w) (gName 1))
      (tSeq (tFor (iSeqV K (tVar 0)) (gName 2)
      (tAsg (tC (.bl true)) (gSub (tVar 1) (tVar 2) (rSetC w))))
      (tRet (tCKw (rSortK K s_cell_key_ f_cell_key) (tCons (tCB (rListC w) (tCons (tVar 1) tNil)) tNil) (tCons (tC (.ref f_cell_key)) tNil)))))
abbrev N_book_of : List Str := [("cells" : Str), ("met" : Str), ("cell" : Str)]
def v_book_of (K : PySem.W.Frag) (w : World) (vs_cell_key : VSp) (f_cell_key : Addr) : VS :=
      (vSeqS (vAsg (vDNewC w) (vgName 1))
      (vSeqS (vFor [0, 2] (vSeq (vVar 0)) (vgName 2)
      (vPutC w (vVar 1) (vC (.bl true)) (vVar 2)))
      (vRet (vSortK .O vs_cell_key (vCons (vListC w (vVar 1)) vNil)))))
theorem sim_book_of {K : PySem.W.Frag} {w : World} {vs_cell_key : VSp} {f_cell_key : Addr} {vsp : VSp} (hv : ∀ ds m P VX, vsp ds m P VX → ds.length = 1 ∧ v_book_of K w vs_cell_key f_cell_key (vends P) (vstart N_book_of.length ds) m) :
    ∀ us H Q E, spV K .O vsp us H Q E → t_book_of K w (spV K .O vs_cell_key) f_cell_key { nx := fun _ H' => Q .non H', rt := Q } (L2.start N_book_of us) H :=
  sim_def (n := 1) (t := .O) (N := N_book_of) (Γn := [.F, .F, .F]) (Γb := []) (Γc := []) (ts := fun E => t_book_of K w (spV K .O vs_cell_key) f_cell_key) (vs := fun VX => v_book_of K w vs_cell_key f_cell_key) (by decide) (fun c W VX hK hx => by
    subst hK
    exact (x_seq (x_asgF (i := 1) s_dnewC)
      (x_seq (x_for (Γ' := [.F, .F, .F]) (ws := [0, 2]) (i_seq (s_varF (by rfl))) (tg_name (is := [2]) (by rfl) (by decide))
      (x_putC (s_varF (by rfl)) (SO.f s_bl) (s_varF (by rfl))))
      (x_retO (s_sortK (a_cons (SO.b (s_listC (s_varF (by rfl)))) a_nil)))))) hv
def t_book_bytes (K : PySem.W.Frag) (w : World) (s_book_of_ : Sp) (s_packed_ : Sp) (s_bits_for_ : Sp) (s_number_bytes_ : Sp) (s_all_bytes_ : Sp) : TS :=
      (tSeq (tAsg (tCall s_book_of_ [] E0 (tCons (tVar 0) tNil)) (gName 1))
      (tSeq (tAsg (tDNewC w) (gName 2))
      (tSeq (tFor (iEnumV K (tCons (tVar 1) tNil)) (gTup K 2 (gCons (gName 3) (gCons (gName 4) gNil)))
      (tAsg (tVar 3) (gSub (tVar 2) (tVar 4) (rSetC w))))
      (tSeq (tAsg (tCall s_packed_ [] E0 (tCons (tLc (iSeqV K (tVar 0)) (gName 4) tYes (tOp (rIxC w) (tVar 2) (tVar 4)) [4]) (tCons (tCall s_bits_for_ [] E0 (tCons (tOp (rSubU) (tCB (rLenU K) (tCons (tVar 1) tNil)) (tC (.int 1))) tNil)) tNil))) (gName 5))
      (tRet (tOp (rAddU K) (tOp (rAddU K) (tCall s_number_bytes_ [] E0 (tCons (tCB (rLenU K) (tCons (tVar 1) tNil)) tNil)) (tCall s_all_bytes_ [] E0 (tCons (tVar 1) tNil))) (tVar 5)))))))
abbrev N_book_bytes : List Str := [("cells" : Str), ("book" : Str), ("places" : Str), ("place" : Str), ("cell" : Str), ("told" : Str)]
def v_book_bytes (K : PySem.W.Frag) (w : World) (vs_book_of : VSp) (vs_packed : VSp) (vs_bits_for : VSp) (vs_number_bytes : VSp) (vs_all_bytes : VSp) : VS :=
      (vSeqS (vAsg (vCall vs_book_of (vCons (vVar 0) vNil)) (vgName 1))
      (vSeqS (vAsg (vDNewC w) (vgName 2))
      (vSeqS (vFor [3, 4, 5] (vEnum (vCons (vVar 1) vNil)) (vgTup 2 (vgCons (vgName 3) (vgCons (vgName 4) vgNil)))
      (vPutC w (vVar 2) (vVar 3) (vVar 4)))
      (vSeqS (vAsg (vCall vs_packed (vCons (vLc (vSeq (vVar 0)) (vgName 4) vYes (vIxC w (vVar 2) (vVar 4)) [4]) (vCons (vCall vs_bits_for (vCons (vOp vSub (vCB vLen (vCons (vVar 1) vNil)) (vC (.int 1))) vNil)) vNil))) (vgName 5))
      (vRet (vOp vAdd (vOp vAdd (vCall vs_number_bytes (vCons (vCB vLen (vCons (vVar 1) vNil)) vNil)) (vCall vs_all_bytes (vCons (vVar 1) vNil))) (vVar 5)))))))
theorem sim_book_bytes {K : PySem.W.Frag} {w : World} {vs_book_of : VSp} {vs_packed : VSp} {vs_bits_for : VSp} {vs_number_bytes : VSp} {vs_all_bytes : VSp} {vsp : VSp} (hv : ∀ ds m P VX, vsp ds m P VX → ds.length = 1 ∧ v_book_bytes K w vs_book_of vs_packed vs_bits_for vs_number_bytes vs_all_bytes (vends P) (vstart N_book_bytes.length ds) m) :
    ∀ us H Q E, spV K .O vsp us H Q E → t_book_bytes K w (spV K .O vs_book_of) (spV K .O vs_packed) (spV K .O vs_bits_for) (spV K .O vs_number_bytes) (spV K .O vs_all_bytes) { nx := fun _ H' => Q .non H', rt := Q } (L2.start N_book_bytes us) H :=
  sim_def (n := 1) (t := .O) (N := N_book_bytes) (Γn := [.F, .F, .F, .F, .F, .F]) (Γb := []) (Γc := []) (ts := fun E => t_book_bytes K w (spV K .O vs_book_of) (spV K .O vs_packed) (spV K .O vs_bits_for) (spV K .O vs_number_bytes) (spV K .O vs_all_bytes)) (vs := fun VX => v_book_bytes K w vs_book_of vs_packed vs_bits_for vs_number_bytes vs_all_bytes) (by decide) (fun c W VX hK hx => by
    subst hK
    exact (x_seq (x_asgO (i := 1) (s_callO (g_cons (s_varF (by rfl)) g_nil)))
      (x_seq (x_asgF (i := 2) s_dnewC)
      (x_seq (x_pre (Γ1 := [.F, .F, .F, .F, .F, .F]) (x_for (Γ' := [.F, .F, .F, .F, .F, .F]) (ws := [3, 4, 5]) (i_enum (g_cons (s_varF (by rfl)) g_nil)) (tg_tup (tg_cons (tg_name (is := [3, 4]) (by rfl) (by decide)) (tg_cons (tg_name (is := [3, 4]) (by rfl) (by decide)) tg_nil)))
      (x_putC (s_varF (by rfl)) (s_varF (by rfl)) (s_varF (by rfl)))))
      (x_seq (x_asgO (i := 5) (s_callO (g_cons (SO.f (s_lc (vs := [4]) (i_seq (s_varF (by rfl))) (by rfl) (tg_name (is := [4]) (by rfl) (by decide)) s_yes (s_ixC (s_varF (by rfl)) (SF.b (s_varF (by rfl)))))) (g_cons (SO.f (s_callO (g_cons (SO.f (s_op o_sub (SO.b (s_cb l_len (a_cons (SF.b (s_varF (by rfl))) a_nil))) (SO.b s_int))) g_nil))) g_nil))))
      (x_retO (s_op o_add (SO.b (s_op o_add (SO.b (s_callO (g_cons (SO.f (s_cb l_len (a_cons (SF.b (s_varF (by rfl))) a_nil))) g_nil))) (SO.b (s_callO (g_cons (s_varF (by rfl)) g_nil))))) (s_varB (t := .O) (by rfl))))))))) hv
def t_own_key (K : PySem.W.Frag) : TS :=
      (tSeq (tIfS (tTest (tOp (rIsN) (tVar 0) (tC .non)))
      (tRet (tTup (tCons (tC (.int 0)) (tCons (tC (.int 0)) (tCons (tC (.str ("" : Str))) tNil)))))
      tNext)
      (tSeq (tIfS (tTru K (tCB (rIsiU K) (tCons (tVar 0) (tCons (tC (.ty "str")) tNil))))
      (tRet (tTup (tCons (tC (.int 2)) (tCons (tC (.int 0)) (tCons (tVar 0) tNil)))))
      tNext)
      (tRet (tTup (tCons (tC (.int 1)) (tCons (tVar 0) (tCons (tC (.str ("" : Str))) tNil)))))))
abbrev N_own_key : List Str := [("_law_cell" : Str)]
def v_own_key (K : PySem.W.Frag) : VS :=
      (vSeqS (vIf (vTest (vOp vIsN (vVar 0) (vC .non)))
      (vRet (vTup (vCons (vC (.int 0)) (vCons (vC (.int 0)) (vCons (vC (.str ("" : Str))) vNil)))))
      vNext)
      (vSeqS (vIf (vTru (vCB vIsi (vCons (vVar 0) (vCons (vC (.ty "str")) vNil))))
      (vRet (vTup (vCons (vC (.int 2)) (vCons (vC (.int 0)) (vCons (vVar 0) vNil)))))
      vNext)
      (vRet (vTup (vCons (vC (.int 1)) (vCons (vVar 0) (vCons (vC (.str ("" : Str))) vNil)))))))
theorem sim_own_key {K : PySem.W.Frag} {vsp : VSp} (hv : ∀ ds m P VX, vsp ds m P VX → ds.length = 1 ∧ v_own_key K (vends P) (vstart N_own_key.length ds) m) :
    ∀ us H Q E, spV K .O vsp us H Q E → t_own_key K { nx := fun _ H' => Q .non H', rt := Q } (L2.start N_own_key us) H :=
  sim_def (n := 1) (t := .O) (N := N_own_key) (Γn := [.F]) (Γb := []) (Γc := []) (ts := fun E => t_own_key K) (vs := fun VX => v_own_key K) (by decide) (fun c W VX hK hx => by
    subst hK
    exact (x_seq (x_if (Γn := [.F]) (s_test (SO.b (s_op o_isN (SF.b (s_varF (by rfl))) (SO.b s_non))))
      (x_retO (s_tup (g_cons (SO.f s_int) (g_cons (SO.f s_int) (g_cons (SO.f s_str) g_nil)))))
      x_next)
      (x_seq (x_if (Γn := [.F]) (s_tru (SO.b (s_cb l_isi (a_cons (SF.b (s_varF (by rfl))) (a_cons (SO.b s_ty) a_nil)))))
      (x_retO (s_tup (g_cons (SO.f s_int) (g_cons (SO.f s_int) (g_cons (s_varF (by rfl)) g_nil)))))
      x_next)
      (x_retO (s_tup (g_cons (SO.f s_int) (g_cons (s_varF (by rfl)) (g_cons (SO.f s_str) g_nil)))))))) hv
def t_own_book (K : PySem.W.Frag) (s_own_key_ : Sp) (s_own_nb_ : Sp) (s_own_cb8_ : Sp) (s_own_packed_ : Sp) (s_own_bits_ : Sp) (f_own_key : Addr) : TS :=
      (tSeq (tAsg (tLst tNil) (gName 1))
      (tSeq (tFor (iSeqV K (tCKw (rSortK K s_own_key_ f_own_key) (tCons (tVar 0) tNil) (tCons (tC (.ref f_own_key)) tNil))) (gName 2)
      (tIfS (tOr (tTest (tOp (rEqNil K) (tVar 1) (tLst tNil))) (tTest (tOp (rNeU K) (tOp (rIxU K) (tVar 1) (tUn rNeg (tC (.int 1)))) (tVar 2))))
      (tDrop (tBM K "list" (rAppend) (tVar 1) (tCons (tVar 2) tNil)))
      tNext))
      (tSeq (tAsg (tCall s_own_nb_ [] E0 (tCons (tCB (rLenU K) (tCons (tVar 1) tNil)) tNil)) (gName 3))
      (tSeq (tFor (iSeqV K (tVar 1)) (gName 2)
      (tAsg (tOp (rAddU K) (tVar 3) (tCall s_own_cb8_ [] E0 (tCons (tVar 2) tNil))) (gName 3)))
      (tRet (tOp (rAddU K) (tVar 3) (tCall s_own_packed_ [] E0 (tCons (tLc (iSeqV K (tVar 0)) (gName 2) tYes (tBM K "list" (rIndex K) (tVar 1) (tCons (tVar 2) tNil)) [2]) (tCons (tCall s_own_bits_ [] E0 (tCons (tOp (rSubU) (tCB (rLenU K) (tCons (tVar 1) tNil)) (tC (.int 1))) tNil)) tNil)))))))))
abbrev N_own_book : List Str := [("_law_cells_here" : Str), ("_law_book" : Str), ("_law_cell" : Str), ("_law_made" : Str)]
def v_own_book (K : PySem.W.Frag) (vs_own_key : VSp) (vs_own_nb : VSp) (vs_own_cb8 : VSp) (vs_own_packed : VSp) (vs_own_bits : VSp) (f_own_key : Addr) : VS :=
      (vSeqS (vAsg (vLst vNil) (vgName 1))
      (vSeqS (vFor [2, 3] (vSeq (vSortK .O vs_own_key (vCons (vVar 0) vNil))) (vgName 2)
      (vIf (vOr (vTest (vOp vEqNil (vVar 1) (vLst vNil))) (vTest (vOp vNeC (vOp vIx (vVar 1) (vUn vNeg (vC (.int 1)))) (vVar 2))))
      (vApp 1 (vVar 2))
      vNext))
      (vSeqS (vAsg (vCall vs_own_nb (vCons (vCB vLen (vCons (vVar 1) vNil)) vNil)) (vgName 3))
      (vSeqS (vFor [2] (vSeq (vVar 1)) (vgName 2)
      (vAsg (vOp vAdd (vVar 3) (vCall vs_own_cb8 (vCons (vVar 2) vNil))) (vgName 3)))
      (vRet (vOp vAdd (vVar 3) (vCall vs_own_packed (vCons (vLc (vSeq (vVar 0)) (vgName 2) vYes (vBMt "list" vIdx (vVar 1) (vCons (vVar 2) vNil)) [2]) (vCons (vCall vs_own_bits (vCons (vOp vSub (vCB vLen (vCons (vVar 1) vNil)) (vC (.int 1))) vNil)) vNil)))))))))
theorem sim_own_book {K : PySem.W.Frag} {vs_own_key : VSp} {vs_own_nb : VSp} {vs_own_cb8 : VSp} {vs_own_packed : VSp} {vs_own_bits : VSp} {f_own_key : Addr} {vsp : VSp} (hv : ∀ ds m P VX, vsp ds m P VX → ds.length = 1 ∧ v_own_book K vs_own_key vs_own_nb vs_own_cb8 vs_own_packed vs_own_bits f_own_key (vends P) (vstart N_own_book.length ds) m) :
    ∀ us H Q E, spV K .O vsp us H Q E → t_own_book K (spV K .O vs_own_key) (spV K .O vs_own_nb) (spV K .O vs_own_cb8) (spV K .O vs_own_packed) (spV K .O vs_own_bits) f_own_key { nx := fun _ H' => Q .non H', rt := Q } (L2.start N_own_book us) H :=
  sim_def (n := 1) (t := .O) (N := N_own_book) (Γn := [.F, .F, .F, .F]) (Γb := []) (Γc := []) (ts := fun E => t_own_book K (spV K .O vs_own_key) (spV K .O vs_own_nb) (spV K .O vs_own_cb8) (spV K .O vs_own_packed) (spV K .O vs_own_bits) f_own_key) (vs := fun VX => v_own_book K vs_own_key vs_own_nb vs_own_cb8 vs_own_packed vs_own_bits f_own_key) (by decide) (fun c W VX hK hx => by
    subst hK
    exact (x_seq (x_asgO (i := 1) (s_lst g_nil))
      (x_seq (x_for (Γ' := [.F, .O, .F, .F]) (ws := [2, 3]) (i_seq (SO.f (s_sortK (a_cons (SF.b (s_varF (by rfl))) a_nil)))) (tg_name (is := [2]) (by rfl) (by decide))
      (x_if (Γn := [.F, .O, .F, .F]) (s_or (s_test (SO.b (s_op o_eqNil (s_varB (t := .O) (by rfl)) (SO.b (s_lst g_nil))))) (s_test (SO.b (s_op o_ne (SF.b (s_opF o_ix (s_varB (t := .O) (by rfl)) (SO.b (s_un o_neg (SO.b s_int))))) (SF.b (s_varF (by rfl)))))))
      (x_app (by rfl) (s_varF (by rfl)))
      x_next))
      (x_seq (x_asgO (i := 3) (s_callO (g_cons (SO.f (s_cb l_len (a_cons (s_varB (t := .O) (by rfl)) a_nil))) g_nil)))
      (x_seq (x_pre (Γ1 := [.F, .F, .F, .O]) (x_for (Γ' := [.F, .F, .F, .O]) (ws := [2]) (i_seq (s_varF (by rfl))) (tg_name (is := [2]) (by rfl) (by decide))
      (x_asgO (i := 3) (s_op o_add (s_varB (t := .O) (by rfl)) (SO.b (s_callO (g_cons (s_varF (by rfl)) g_nil)))))))
      (x_retO (s_op o_add (s_varB (t := .O) (by rfl)) (SO.b (s_callO (g_cons (SO.f (s_lc (vs := [2]) (i_seq (s_varF (by rfl))) (by rfl) (tg_name (is := [2]) (by rfl) (by decide)) s_yes (SO.f (s_bm m_idx (SF.b (s_varF (by rfl))) (a_cons (SF.b (s_varF (by rfl))) a_nil))))) (g_cons (SO.f (s_callO (g_cons (SO.f (s_op o_sub (SO.b (s_cb l_len (a_cons (SF.b (s_varF (by rfl))) a_nil))) (SO.b s_int))) g_nil))) g_nil))))))))))) hv
theorem sput_sput {s : Sto} {y : Addr} {d e : D} : sput (sput s y d) y e = sput s y e := by
  funext b; unfold sput; split <;> rfl
def ckD : Cel → D
  | .non => .tup [.int 0, .int 0, .str ""]
  | .num z => .tup [.int 1, .int z, .str ""]
  | .txt ks => .tup [.int 2, .int 0, .str (txt ks)]
def leC (a b : Cel) : Bool := PySem.W.dataLe false (fun c => (ckD c).py) a b
theorem leC_tot : PySem.W.TotalLe leC := PySem.W.sortLe_total (listOrd itemOrd) false fun c : Cel => PySem.W.keyToks (ckD c).py
theorem leC_trans {a b c : Cel} (h1 : leC a b = true) (h2 : leC b c = true) : leC a c = true := leC_tot.trans a b c h1 h2
theorem leC_total (a b : Cel) : (leC a b || leC b a) = true := by
  rcases leC_tot.total a b with h | h <;> rw [h] <;> simp
theorem leC_anti {a b : Cel} (ha : okC a) (hb : okC b) (h1 : leC a b = true) (h2 : leC b a = true) : a = b := by
  have e : PySem.W.keyToks (ckD a).py = PySem.W.keyToks (ckD b).py := by
    refine KeyOrd.kle_antisymm (O := listOrd itemOrd) ?_ ?_
    · show PyProof.Rows.lexLt itemOrd _ _ = false
      have : (!PyProof.Rows.lexLt itemOrd (PySem.W.keyToks (ckD b).py) (PySem.W.keyToks (ckD a).py)) = true := h1
      simpa using this
    · show PyProof.Rows.lexLt itemOrd _ _ = false
      have : (!PyProof.Rows.lexLt itemOrd (PySem.W.keyToks (ckD a).py) (PySem.W.keyToks (ckD b).py)) = true := h2
      simpa using this
  cases a <;> cases b <;> simp [ckD, D.py, D.pys, PySem.W.keyToks, PySem.W.keyToksAll] at e <;> try rfl
  · rw [e]
  · rename_i x y
    have e2 : txt x = txt y := PySem.W.str_of_cps (by rw [e])
    rw [txt_inj ha.2 hb.2 e2]
def sortC (l : List Cel) : List Cel := l.mergeSort leC
theorem sortC_mem {l : List Cel} {c : Cel} : c ∈ sortC l ↔ c ∈ l := (List.mergeSort_perm _ _).mem_iff
theorem sortC_len (l : List Cel) : (sortC l).length = l.length := List.length_mergeSort _
theorem sortC_pw (l : List Cel) : (sortC l).Pairwise fun a b => leC a b = true := List.pairwise_mergeSort (le := leC) (fun a b c => @leC_trans a b c) leC_total l
def Ris (l : List Cel) : Prop := l.Pairwise fun a b => leC a b = true ∧ a ≠ b
theorem ris_uniq : ∀ {as bs : List Cel}, Ris as → Ris bs → (∀ x, x ∈ as ↔ x ∈ bs) → (∀ x ∈ as, okC x) → as = bs
  | [], [], _, _, _, _ => rfl
  | [], b :: _, _, _, h, _ => absurd ((h b).mpr List.mem_cons_self) (by simp)
  | a :: _, [], _, _, h, _ => absurd ((h a).mp List.mem_cons_self) (by simp)
  | a :: as, b :: bs, ha, hb, h, ok => by
    obtain ⟨a1, a2⟩ := List.pairwise_cons.mp ha
    obtain ⟨b1, b2⟩ := List.pairwise_cons.mp hb
    have e : a = b := by
      rcases List.mem_cons.mp ((h a).mp List.mem_cons_self) with e | h1
      · exact e
      · rcases List.mem_cons.mp ((h b).mpr List.mem_cons_self) with e | h2
        · exact e.symm
        · exact leC_anti (ok a List.mem_cons_self) (ok b (List.mem_cons_of_mem _ h2)) (a1 b h2).1 (b1 a h1).1
    subst e
    rw [ris_uniq a2 b2 (fun x => ⟨fun hx => ?_, fun hx => ?_⟩) fun x hx => ok x (List.mem_cons_of_mem _ hx)]
    · rcases List.mem_cons.mp ((h x).mp (List.mem_cons_of_mem _ hx)) with e | h1
      · exact absurd e.symm (a1 x hx).2
      · exact h1
    · rcases List.mem_cons.mp ((h x).mpr (List.mem_cons_of_mem _ hx)) with e | h1
      · exact absurd e.symm (b1 x hx).2
      · exact h1
def stepF (acc : List Cel) (c : Cel) : List Cel := if c ∈ acc then acc else acc ++ [c]
def firsts (l : List Cel) : List Cel := l.foldl stepF []
theorem firsts_succ {l : List Cel} {i : Nat} {c : Cel} (e : l[i]? = some c) : firsts (l.take (i + 1)) = stepF (firsts (l.take i)) c := by
  unfold firsts
  rw [List.take_succ, e, List.foldl_append]; rfl
theorem firsts_is : ∀ {l : List Cel} (i : Nat), i ≤ l.length → (firsts (l.take i)).Nodup ∧ (∀ x, x ∈ firsts (l.take i) ↔ x ∈ l.take i) ∧ (firsts (l.take i)).length ≤ i
  | l, 0, _ => ⟨by simp [firsts], by simp [firsts], by simp [firsts]⟩
  | l, i + 1, hi => by
    obtain ⟨h1, h2, h3⟩ := firsts_is (l := l) i (by omega)
    have ec : l[i]? = some l[i] := List.getElem?_eq_getElem (by omega)
    rw [firsts_succ ec]
    have et : l.take (i + 1) = l.take i ++ [l[i]] := by rw [List.take_succ, ec]; rfl
    unfold stepF
    by_cases z : l[i] ∈ firsts (l.take i)
    · rw [if_pos z, et]
      refine ⟨h1, fun x => ?_, by omega⟩
      rw [List.mem_append, List.mem_singleton, ← h2 x]
      exact ⟨.inl, fun h => h.elim id fun e => e ▸ z⟩
    · rw [if_neg z, et]
      refine ⟨?_, fun x => by rw [List.mem_append, List.mem_append, h2 x], by simp; omega⟩
      rw [List.nodup_append]
      refine ⟨h1, by simp, fun a ha b hb e => ?_⟩
      rw [List.mem_singleton.mp hb] at e
      exact z (e ▸ ha)
def bookC (l : List Cel) : List Cel := sortC (firsts l)
theorem bookC_is (l : List Cel) : Ris (bookC l) ∧ (∀ x, x ∈ bookC l ↔ x ∈ l) ∧ (bookC l).length ≤ l.length ∧ (bookC l).Nodup := by
  obtain ⟨h1, h2, h3⟩ := firsts_is (l := l) l.length (Nat.le_refl _)
  rw [List.take_length] at h1 h2 h3
  have nd : (bookC l).Nodup := (List.mergeSort_perm _ _).nodup_iff.mpr h1
  refine ⟨?_, fun x => by unfold bookC; rw [sortC_mem, h2 x], by unfold bookC; rw [sortC_len]; exact h3, nd⟩
  have := sortC_pw (firsts l)
  exact List.Pairwise.imp₂ (fun a b h1 h2 => ⟨h1, h2⟩) this nd
def stepA (acc : List Cel) (c : Cel) : List Cel := match acc.getLast? with
  | none => [c]
  | some d => if d = c then acc else acc ++ [c]
def adjC (l : List Cel) : List Cel := l.foldl stepA []
theorem adjC_succ {l : List Cel} {i : Nat} {c : Cel} (e : l[i]? = some c) : adjC (l.take (i + 1)) = stepA (adjC (l.take i)) c := by
  unfold adjC
  rw [List.take_succ, e, List.foldl_append]; rfl
theorem adjC_is : ∀ {l : List Cel} (i : Nat), i ≤ l.length → (l.Pairwise fun a b => leC a b = true) → (∀ x ∈ l, okC x) → Ris (adjC (l.take i)) ∧ (∀ x, x ∈ adjC (l.take i) ↔ x ∈ l.take i) ∧ (adjC (l.take i)).length ≤ i
  | l, 0, _, _, _ => ⟨List.Pairwise.nil, by simp [adjC], by simp [adjC]⟩
  | l, i + 1, hi, hp, ok => by
    obtain ⟨h1, h2, h3⟩ := adjC_is (l := l) i (by omega) hp ok
    have ec : l[i]? = some l[i] := List.getElem?_eq_getElem (by omega)
    rw [adjC_succ ec]
    have et : l.take (i + 1) = l.take i ++ [l[i]] := by rw [List.take_succ, ec]; rfl
    have up : ∀ x ∈ l.take i, leC x l[i] = true := fun x hx => by
      obtain ⟨j, hj, rfl⟩ := List.mem_iff_getElem.mp hx
      rw [List.length_take] at hj
      rw [List.getElem_take]
      exact List.pairwise_iff_getElem.mp hp j i (by omega) (by omega) (by omega)
    have okx : ∀ x ∈ l.take i, okC x := fun x hx => ok x (List.mem_of_mem_take hx)
    generalize adjC (l.take i) = acc at *
    rcases nil_or_snoc acc with rfl | ⟨pre, d, rfl⟩
    · refine ⟨List.pairwise_singleton _ _, fun x => ?_, by simp [stepA]⟩
      rw [et, List.mem_append, ← h2 x]
      simp [stepA]
    · have hs : stepA (pre ++ [d]) l[i] = if d = l[i] then pre ++ [d] else (pre ++ [d]) ++ [l[i]] := by
        unfold stepA
        rw [List.getLast?_concat]
      rw [hs, et]
      by_cases z : d = l[i]
      · rw [if_pos z]
        refine ⟨h1, fun x => ?_, by omega⟩
        rw [List.mem_append (t := [l[i]]), List.mem_singleton, ← h2 x]
        exact ⟨.inl, fun h => h.elim id fun e => by rw [e, ← z]; simp⟩
      · rw [if_neg z]
        refine ⟨?_, fun x => by rw [List.mem_append (t := [l[i]]), List.mem_append (t := [l[i]]), h2 x], by simp at h3 ⊢; omega⟩
        refine List.pairwise_append.mpr ⟨h1, List.pairwise_singleton _ _, fun a ha b hb => ?_⟩
        rw [List.mem_singleton.mp hb]
        have ha2 := (h2 a).mp ha
        refine ⟨up a ha2, fun e => ?_⟩
        have hd2 := (h2 d).mp (by simp)
        rcases List.mem_append.mp ha with ha | ha
        · obtain ⟨_, _, h4⟩ := List.pairwise_append.mp h1
          obtain ⟨h5, h6⟩ := h4 a ha d (by simp)
          exact h6 (leC_anti (okx a ha2) (okx d hd2) h5 (by rw [e]; exact up d hd2))
        · rw [List.mem_singleton.mp ha] at e
          exact z e
theorem adj_book {l : List Cel} (ok : ∀ x ∈ l, okC x) : adjC (sortC l) = bookC l := by
  obtain ⟨h1, h2, _⟩ := adjC_is (l := sortC l) (sortC l).length (Nat.le_refl _) (sortC_pw l) fun x hx => ok x (sortC_mem.mp hx)
  rw [List.take_length] at h1 h2
  obtain ⟨b1, b2, _, _⟩ := bookC_is l
  exact ris_uniq h1 b1 (fun x => by rw [h2 x, b2 x, sortC_mem]) fun x hx => ok x (sortC_mem.mp ((h2 x).mp hx))
def lfC : Cel → Leaf
  | .non => .none
  | .num z => .num z
  | .txt ks => .text (txt ks)
theorem lfC_key (c : Cel) : lfKey (cvD c) = some (lfC c) := by cases c <;> rfl
theorem lfC_cv (c : Cel) : lfD (lfC c) = cvD c := by cases c <;> rfl
theorem lfC_inj {a b : Cel} (ha : okC a) (hb : okC b) (h : lfC a = lfC b) : a = b := by
  cases a <;> cases b <;> simp [lfC] at h <;> try rfl
  · rw [h]
  · rw [txt_inj ha.2 hb.2 h]
theorem putG_new {κ : Type} [DecidableEq κ] {kds : List (κ × D)} {k : κ} {d : D} (h : ∀ p ∈ kds, p.1 ≠ k) : dputG kds k d = kds ++ [(k, d)] := by
  unfold dputG
  rw [if_neg]
  intro z
  obtain ⟨p, hp, e⟩ := List.any_eq_true.mp z
  exact h p hp (of_decide_eq_true e)
theorem putG_old {κ : Type} [DecidableEq κ] {kds : List (κ × D)} {k : κ} {d : D} (h : ∃ p ∈ kds, p.1 = k) (hd : ∀ p ∈ kds, p.1 = k → p.2 = d) : dputG kds k d = kds := by
  unfold dputG
  rw [if_pos (List.any_eq_true.mpr (by obtain ⟨p, hp, e⟩ := h; exact ⟨p, hp, decide_eq_true e⟩))]
  conv => rhs; rw [← List.map_id kds]
  refine List.map_congr_left fun p hp => ?_
  by_cases e : p.1 = k
  · rw [if_pos e, ← hd p hp e]; rfl
  · rw [if_neg e]; rfl
def plC (b : List Cel) : List (Leaf × D) := b.zipIdx.map fun p => (lfC p.1, .int (p.2 : Int))
theorem plC_snoc (b : List Cel) (c : Cel) : plC (b ++ [c]) = plC b ++ [(lfC c, .int (b.length : Int))] := by
  unfold plC
  rw [List.zipIdx_append, List.map_append]
  simp
theorem getG_app {κ : Type} [DecidableEq κ] {a b : List (κ × D)} {k : κ} : dgetG (a ++ b) k = (dgetG a k).or (dgetG b k) := by
  unfold dgetG
  rw [List.find?_append]
  cases a.find? fun kv => decide (kv.1 = k) <;> rfl
theorem plC_get : ∀ (n : Nat) {b : List Cel} {c : Cel}, b.length = n → (∀ x ∈ b, okC x) → okC c → c ∈ b → dgetG (plC b) (lfC c) = some (.int (b.idxOf c : Int))
  | 0, b, c, hl, _, _, h => by rw [List.eq_nil_of_length_eq_zero hl] at h; simp at h
  | n + 1, b, c, hl, hb, hc, hm => by
    rcases nil_or_snoc b with rfl | ⟨b, x, rfl⟩
    · simp at hl
    rw [plC_snoc, getG_app]
    by_cases z : c ∈ b
    · rw [plC_get n (by simpa using hl) (fun y hy => hb y (List.mem_append_left _ hy)) hc z, List.idxOf_append, if_pos z]; rfl
    · have e : c = x := by
        rcases List.mem_append.mp hm with h | h
        · exact absurd h z
        · exact List.mem_singleton.mp h
      subst e
      have e1 : dgetG (plC b) (lfC c) = none := by
        unfold dgetG plC
        rw [Option.map_eq_none_iff, List.find?_eq_none]
        intro p hp hd
        obtain ⟨q, hq, rfl⟩ := List.mem_map.mp hp
        have hqm : q.1 ∈ b := by
          obtain ⟨h1, h2, h3⟩ := List.mem_zipIdx hq
          rw [h3]; exact List.getElem_mem _
        have := lfC_inj (hb _ (List.mem_append_left _ hqm)) hc (of_decide_eq_true hd)
        exact z (this ▸ hqm)
      rw [e1, List.idxOf_append]
      simp [dgetG, z]
def isNum : Cel → Bool
  | .num _ => true
  | _ => false
def wIsNum : VSp := fun ds m P _ => ∃ c : Cel, ds = [cvD c] ∧ P (.bl (isNum c)) m
theorem p_is_number {K : PySem.W.Frag} (ds : List D) (m : Mst) (P : D → Mst → Prop) (VX : XV) (h : wIsNum ds m P VX) : ds.length = 1 ∧ v_is_number K (vends P) (vstart N_is_number.length ds) m := by
  obtain ⟨c, rfl, hP⟩ := h
  refine ⟨rfl, ?_⟩
  unfold v_is_number
  cases c with
  | non =>
    show (vRet _ : VS) _ [some D.non] _
    walk_at "vw"
    exact hP
  | num z =>
    show (vRet _ : VS) _ [some (D.int z)] _
    walk_at "vw"
    exact hP
  | txt ks =>
    show (vRet _ : VS) _ [some (D.str (txt ks))] _
    walk_at "vw"
    exact hP
def wKey : VSp := fun ds m P _ => ∃ c : Cel, ds = [cvD c] ∧ P (ckD c) m
theorem p_cell_key {K : PySem.W.Frag} (ds : List D) (m : Mst) (P : D → Mst → Prop) (VX : XV) (h : wKey ds m P VX) : ds.length = 1 ∧ v_cell_key K wIsNum (vends P) (vstart N_cell_key.length ds) m := by
  obtain ⟨c, rfl, hP⟩ := h
  refine ⟨rfl, ?_⟩
  unfold v_cell_key
  cases c with
  | non =>
    show (vSeqS _ _ : VS) _ [some D.non] _
    walk_at "vw"
    exact hP
  | num z =>
    show (vSeqS _ _ : VS) _ [some (D.int z)] _
    walk_at "vw"
    refine ⟨.num z, rfl, ?_⟩
    rw [show isNum (.num z) = true from rfl]
    walk_at "vw"
    exact hP
  | txt ks =>
    show (vSeqS _ _ : VS) _ [some (D.str (txt ks))] _
    walk_at "vw"
    refine ⟨.txt ks, rfl, ?_⟩
    rw [show isNum (.txt ks) = false from rfl]
    walk_at "vw"
    exact hP
theorem p_own_key {K : PySem.W.Frag} (ds : List D) (m : Mst) (P : D → Mst → Prop) (VX : XV) (h : wKey ds m P VX) : ds.length = 1 ∧ v_own_key K (vends P) (vstart N_own_key.length ds) m := by
  obtain ⟨c, rfl, hP⟩ := h
  refine ⟨rfl, ?_⟩
  unfold v_own_key
  cases c with
  | non =>
    show (vSeqS _ _ : VS) _ [some D.non] _
    walk_at "vw"
    exact hP
  | num z =>
    show (vSeqS _ _ : VS) _ [some (D.int z)] _
    walk_at "vw"
    exact hP
  | txt ks =>
    show (vSeqS _ _ : VS) _ [some (D.str (txt ks))] _
    walk_at "vw"
    exact hP
theorem frOk_key {t : OT} (c : Cel) : frOk t (ckD c) := by
  have h : D.Im (ckD c) := by
    cases c <;> refine .tup fun d hd => ?_ <;> simp [ckD] at hd <;> rcases hd with rfl | rfl | rfl <;> constructor
  cases t with
  | F => exact h
  | O => exact .inl h
theorem sort_cells {t : OT} {l : List Cel} {Q : D → Prop} (h : Q (.lst ((sortC l).map cvD))) : ∃ ds ks : List D, [D.lst (l.map cvD)] = [.lst ds] ∧ ks.length = ds.length ∧ (∀ (i : Nat) (d k : D), ds[i]? = some d → ks[i]? = some k → wKey [d] (none, emp) (fun z _ => frOk t z ∧ z = k) (fun _ _ _ => False)) ∧
    (∀ k ∈ ks, k.pl = true) ∧ PySem.W.AllAlike (ks.map D.py) ∧ PySem.W.Sortable (ks.map D.py) ∧ (∀ k ∈ ks, k.py.depth ≤ 64) ∧ Q (.lst (sortBy (ks.map D.py) ds)) :=
  e_sortKf ckD (fun a _ => ⟨a, rfl, frOk_key a, rfl⟩) (fun a _ => by cases a <;> rfl) (fun a _ b _ => by cases a <;> cases b <;> rfl) (fun a _ => by cases a <;> exact ⟨_, _, rfl⟩) (fun a _ => by cases a <;> simp [ckD, D.py, D.pys, PyData.depth, PyData.depthAll]) h
def wBookOf : VSp := fun ds m P _ => ∃ (l : List Cel) (x : D), ds = [x] ∧ (x = .lst (l.map cvD) ∨ x = .tup (l.map cvD)) ∧ l.length ≤ 100 ∧ (∀ c ∈ l, okC c) ∧ P (.lst ((bookC l).map cvD)) m
theorem p_book_of {K : PySem.W.Frag} {w : World} {f : Addr} (ds : List D) (m : Mst) (P : D → Mst → Prop) (VX : XV) (h : wBookOf ds m P VX) : ds.length = 1 ∧ v_book_of K w wKey f (vendsG P) (vstart N_book_of.length ds) m := by
  obtain ⟨l, x, rfl, hx, hl, hc, hP⟩ := h
  refine ⟨rfl, ?_⟩
  unfold v_book_of
  walk_at "vw"
  intro y hy
  walk_at "vw"
  refine e_itX hx ?_
  refine for_inv (fun i e m' => m' = (m.1, sput m.2 y (.dcl w ((firsts (l.take i)).map fun c => (lfC c, .bl true)))) ∧ e = [none, some (.adr y), none]) ⟨rfl, by kernel_rfl⟩ ?_ ?_
  · rintro i e m' d hi ⟨rfl, rfl⟩ ed
    obtain ⟨c, ec, rfl⟩ := cel_at ed
    rw [List.length_map] at hi
    obtain ⟨h1, h2, h3⟩ := firsts_is (l := l) i (by omega)
    have hcc := hc c (List.mem_of_getElem? ec)
    have hfo : ∀ x ∈ firsts (l.take i), okC x := fun x hx => hc x (List.mem_of_mem_take ((h2 x).mp hx))
    rw [firsts_succ ec]
    generalize firsts (l.take i) = fs at *
    walk_at "vw"
    refine ⟨y, rfl, ?_⟩
    walk_at "vw"
    refine ⟨_, lfC c, sput_same, lfC_key c, by rw [List.length_map]; omega, ?_⟩
    refine ⟨?_, by kernel_rfl⟩
    rw [sput_sput]
    congr 3
    unfold stepF
    by_cases z : c ∈ fs
    · rw [if_pos z]
      refine putG_old ⟨_, List.mem_map.mpr ⟨c, z, rfl⟩, rfl⟩ fun p hp _ => ?_
      obtain ⟨q, _, rfl⟩ := List.mem_map.mp hp
      rfl
    · rw [if_neg z, List.map_append]
      refine putG_new fun p hp e => ?_
      obtain ⟨q, hq, rfl⟩ := List.mem_map.mp hp
      exact z (lfC_inj (hfo q hq) hcc e ▸ hq)
  · rintro e m' ⟨rfl, rfl⟩
    rw [List.length_map, List.take_length]
    walk_at "vw"
    refine ⟨y, _, rfl, sput_same, ?_⟩
    walk_at "vw"
    rw [List.map_map, show (fun kv : Leaf × D => lfD kv.1) ∘ (fun c => (lfC c, D.bl true)) = cvD from funext lfC_cv]
    refine sort_cells (Q := fun d => ∃ s', SubS s' (sput m.2 y _) ∧ P d (m.1, s')) ?_
    exact ⟨m.2, SubS.new hy, hP⟩
def bkC (l : List Cel) : List Int := nb ((bookC l).length : Int) ++ allC (bookC l) ++ ins (pk (l.map (bookC l).idxOf) (bl ((bookC l).length - 1)))
theorem book_places {l : List Cel} (hl : l.length ≤ 100) : (∀ x ∈ l.map (bookC l).idxOf, x < 2 ^ bl ((bookC l).length - 1)) ∧ bl ((bookC l).length - 1) ≤ 7 := by
  obtain ⟨_, b2, b3, _⟩ := bookC_is l
  refine ⟨fun x hx => ?_, bl_le 7 _ (by have : (2 : Nat) ^ 7 = 128 := rfl; omega)⟩
  obtain ⟨c, hc, rfl⟩ := List.mem_map.mp hx
  have h1 := List.idxOf_lt_length_of_mem ((b2 c).mpr hc)
  have h2 := bl_lt ((bookC l).length - 1)
  omega
theorem bkC_len {l : List Cel} (hl : l.length ≤ 100) (hc : ∀ c ∈ l, okC c) : (nb ((bookC l).length : Int)).length ≤ 30 ∧ (allC (bookC l)).length ≤ 104000 ∧ (ins (pk (l.map (bookC l).idxOf) (bl ((bookC l).length - 1)))).length ≤ 40000 := by
  obtain ⟨_, b2, b3, _⟩ := bookC_is l
  refine ⟨nbn_len (by omega), ?_, ?_⟩
  · have : (allC (bookC l)).length ≤ 1040 * (bookC l).length := flat_len fun c hm => cb_len (hc c ((b2 c).mp hm))
    omega
  · rw [ins_len, pk_len]
    exact bcn_le (by rw [List.length_map]; omega) (by have := (book_places hl).2; omega)
def wBookBytes : VSp := fun ds m P _ => ∃ (l : List Cel) (x : D), ds = [x] ∧ (x = .lst (l.map cvD) ∨ x = .tup (l.map cvD)) ∧ 1 ≤ l.length ∧ l.length ≤ 100 ∧ (∀ c ∈ l, okC c) ∧ P (dL (bkC l)) m
theorem p_book_bytes {K : PySem.W.Frag} {w : World} (ds : List D) (m : Mst) (P : D → Mst → Prop) (VX : XV) (h : wBookBytes ds m P VX) : ds.length = 1 ∧ v_book_bytes K w wBookOf wPacked wBits wNb wAllBytes (vendsG P) (vstart N_book_bytes.length ds) m := by
  obtain ⟨l, x, rfl, hx, hl1, hl, hc, hP⟩ := h
  refine ⟨rfl, ?_⟩
  obtain ⟨b1, b2, b3, b4⟩ := bookC_is l
  obtain ⟨k1, k2, k3⟩ := bkC_len hl hc
  obtain ⟨p1, p2⟩ := book_places hl
  have hbo : ∀ x ∈ bookC l, okC x := fun x hx => hc x ((b2 x).mp hx)
  have hbp : 1 ≤ (bookC l).length := by
    have : l[0] ∈ bookC l := (b2 _).mpr (List.getElem_mem _)
    exact List.length_pos_of_mem this
  unfold bkC at hP
  unfold v_book_bytes
  walk_at "vw"
  refine ⟨l, x, rfl, hx, hl, hc, ?_⟩
  generalize bookC l = bk at *
  walk_at "vw"
  intro y hy
  walk_at "vw"
  refine for_inv (fun i e m' => m' = (m.1, sput m.2 y (.dcl w (plC (bk.take i)))) ∧ e = [some x, some (.lst (bk.map cvD)), some (.adr y), none, none, none]) ⟨rfl, by kernel_rfl⟩ ?_ ?_
  · rintro i e m' d hi ⟨rfl, rfl⟩ ed
    obtain ⟨d0, ed0, rfl⟩ := enumD_at ed
    obtain ⟨c, ec, rfl⟩ := cel_at ed0
    have hi2 : i < bk.length := (List.getElem?_eq_some_iff.mp ec).1
    have et : bk.take (i + 1) = bk.take i ++ [c] := by rw [List.take_succ, ec]; rfl
    have hln : (bk.take i).length = i := by rw [List.length_take]; omega
    rw [et, plC_snoc, hln]
    have hno : c ∉ bk.take i := fun hm => by
      rw [← List.take_append_drop (i + 1) bk, et, List.append_assoc] at b4
      exact (List.nodup_append.mp b4).2.2 c hm c (by simp) rfl
    have hcc := hbo c (List.mem_of_getElem? ec)
    have hkt : ∀ x ∈ bk.take i, okC x := fun x hx => hbo x (List.mem_of_mem_take hx)
    walk_at "vw"
    refine ⟨y, rfl, ?_⟩
    walk_at "vw"
    refine ⟨_, lfC c, sput_same, lfC_key c, by unfold plC; rw [List.length_map, List.length_zipIdx]; omega, ?_⟩
    refine ⟨?_, by kernel_rfl⟩
    rw [sput_sput]
    congr 3
    refine putG_new fun p hp e => ?_
    unfold plC at hp
    obtain ⟨q, hq, rfl⟩ := List.mem_map.mp hp
    obtain ⟨g1, g2, g3⟩ := List.mem_zipIdx hq
    have hqm : q.1 ∈ bk.take i := by rw [g3]; exact List.getElem_mem _
    exact hno (lfC_inj (hkt _ hqm) hcc e ▸ hqm)
  · rintro e m' ⟨rfl, rfl⟩
    rw [enumD_len, List.length_map, List.take_length]
    walk_at "vw"
    refine e_itX hx ?_
    refine lc_mapL (xs := l) (g := cvD) (h := fun c => .int (bk.idxOf c : Int)) (by omega) (fun j c Q ec hQ => ?_) ?_
    · walk_at "vw"
      refine ⟨y, rfl, ?_⟩
      walk_at "vw"
      have hm := List.mem_of_getElem? ec
      exact ⟨_, lfC c, _, sput_same, lfC_key c, plC_get _ rfl hbo (hc c hm) ((b2 c).mpr hm), hQ⟩
    walk_at "vw"
    rw [List.length_map, show ((bk.length : Int) - 1) = ((bk.length - 1 : Nat) : Int) by omega]
    refine ⟨_, rfl, ?_⟩
    walk_at "vw"
    refine ⟨l.map bk.idxOf, bl (bk.length - 1), ?_, by omega, by rw [List.length_map]; omega, p1, ?_⟩
    · unfold ins
      show [D.lst _, _] = [D.lst _, _]
      rw [List.map_map, List.map_map]; rfl
    walk_at "vw"
    rw [List.length_map]
    refine ⟨_, rfl, nbn_ok (by omega), ?_⟩
    walk_at "vw"
    refine ⟨bk, _, rfl, .inl rfl, by omega, hbo, ?_⟩
    refine e_addL (x := (nb (bk.length : Int)).map D.int) (y := (allC bk).map D.int) (by rw [List.length_map, List.length_map]; omega) ?_
    walk_at "vw"
    refine e_addL (x := (nb (bk.length : Int)).map D.int ++ (allC bk).map D.int) (y := (ins (pk (l.map bk.idxOf) (bl (bk.length - 1)))).map D.int) (by rw [List.length_append, List.length_map, List.length_map, List.length_map]; omega) ?_
    refine ⟨m.2, SubS.new hy, ?_⟩
    rw [← List.map_append, ← List.map_append]
    exact hP
theorem cv_eqF {a b : Cel} (ha : okC a) (hb : okC b) : eqF (cvD a) (cvD b) = decide (a = b) := by
  cases a <;> cases b <;> try rfl
  · rename_i x y
    show (x == y) = _
    rw [Bool.eq_iff_iff]
    simp
  · rename_i x y
    show (txt x == txt y) = _
    rw [Bool.eq_iff_iff]
    simp only [beq_iff_eq, decide_eq_true_eq]
    exact ⟨fun h => by rw [txt_inj ha.2 hb.2 h], fun h => by cases h; rfl⟩
theorem cv_fl (c : Cel) : (cvD c).fl = true := by cases c <;> rfl
theorem e_idxC {bk : List Cel} {c : Cel} {Z : D → Prop} (hb : ∀ x ∈ bk, okC x) (hc : okC c) (hm : c ∈ bk) (h : Z (.int (bk.idxOf c : Int))) : vIdx (.lst (bk.map cvD)) [cvD c] Z := by
  have hlt := List.idxOf_lt_length_of_mem hm
  refine ⟨cv_fl c, List.all_eq_true.mpr fun d hd => by obtain ⟨x, _, rfl⟩ := List.mem_map.mp hd; exact cv_fl x, bk.idxOf c, cvD c, ?_, ?_, fun j z hj ez => ?_, h⟩
  · rw [List.getElem?_map, List.getElem?_eq_getElem hlt, List.getElem_idxOf hlt]; rfl
  · rw [cv_eqF hc hc]; simp
  · rw [List.getElem?_map] at ez
    obtain ⟨x, ex, rfl⟩ := Option.map_eq_some_iff.mp ez
    have hx := List.mem_of_getElem? ex
    rw [cv_eqF (hb x hx) hc]
    refine decide_eq_false fun e => ?_
    subst e
    have h1 := (List.getElem?_eq_some_iff.mp ex).2
    have h2 := List.not_of_lt_findIdx (p := (· == x)) (xs := bk) (i := j) hj
    simp [h1] at h2
def wOwnBook : VSp := fun ds m P _ => ∃ (l : List Cel), ds = [.lst (l.map cvD)] ∧ 1 ≤ l.length ∧ l.length ≤ 100 ∧ (∀ c ∈ l, okC c) ∧ P (dL (bkC l)) m
theorem p_own_book {K : PySem.W.Frag} {f : Addr} (ds : List D) (m : Mst) (P : D → Mst → Prop) (VX : XV) (h : wOwnBook ds m P VX) : ds.length = 1 ∧ v_own_book K wKey wNb wCb wPacked wBits f (vends P) (vstart N_own_book.length ds) m := by
  obtain ⟨l, rfl, hl1, hl, hc, hP⟩ := h
  refine ⟨rfl, ?_⟩
  have hso : ∀ x ∈ sortC l, okC x := fun x hx => hc x (sortC_mem.mp hx)
  have hsl := sortC_len l
  have hadj := adj_book hc
  unfold v_own_book
  walk_at "vw"
  refine sort_cells (Q := fun d => itSeq d (fun items m1 => forD _ items _ _ _ _ m1) m) ?_
  walk_at "vw"
  refine for_inv (fun i e m' => m' = m ∧ e = [some (.lst (l.map cvD)), some (.lst ((adjC ((sortC l).take i)).map cvD)), none, none]) ⟨rfl, by kernel_rfl⟩ ?_ ?_
  · rintro i e m' d hi ⟨rfl, rfl⟩ ed
    obtain ⟨c, ec, rfl⟩ := cel_at ed
    rw [List.length_map] at hi
    obtain ⟨h1, h2, h3⟩ := adjC_is (l := sortC l) i (by omega) (sortC_pw l) hso
    have hcc := hso c (List.mem_of_getElem? ec)
    have hao : ∀ x ∈ adjC ((sortC l).take i), okC x := fun x hx => hso x (List.mem_of_mem_take ((h2 x).mp hx))
    rw [adjC_succ ec]
    generalize adjC ((sortC l).take i) = acc at *
    walk_at "vw"
    refine e_eqNil' ?_
    rcases nil_or_snoc acc with rfl | ⟨pre, d, rfl⟩
    · rw [List.map_nil]
      refine ⟨true, rfl, w_ifT (w_ifT ?_)⟩
      walk_at "vw"
      exact ⟨sz_lt (by simp), rfl, by kernel_rfl⟩
    · have hd := hao d (by simp)
      have hl2 := h3
      rw [List.length_append, List.length_singleton] at hl2
      have hst : stepA (pre ++ [d]) c = if d = c then pre ++ [d] else (pre ++ [d]) ++ [c] := by
        unfold stepA
        rw [List.getLast?_concat]
      rw [hst, List.map_append]
      refine ⟨false, by simp, w_ifF ?_⟩
      walk_at "vw"
      refine e_ixL (atI_last _ _) ?_
      walk_at "vw"
      refine cv_ne hd hcc ?_
      walk_at "vw"
      refine w_ifn (fun q => ?_) (fun q => ?_)
      · walk_at "vw"
        refine ⟨sz_lt (by simp; omega), rfl, ?_⟩
        rw [if_neg q, List.map_append, List.map_append]
        rfl
      · walk_at "vw"
        refine ⟨rfl, ?_⟩
        rw [if_pos q, List.map_append]
        rfl
  · rintro e m' ⟨rfl, rfl⟩
    rw [List.length_map, List.take_length, hadj]
    obtain ⟨b1, b2, b3, b4⟩ := bookC_is l
    obtain ⟨k1, k2, k3⟩ := bkC_len hl hc
    obtain ⟨p1, p2⟩ := book_places hl
    have hbo : ∀ x ∈ bookC l, okC x := fun x hx => hc x ((b2 x).mp hx)
    have hbp : 1 ≤ (bookC l).length := by
      have : l[0] ∈ bookC l := (b2 _).mpr (List.getElem_mem _)
      exact List.length_pos_of_mem this
    unfold bkC at hP
    generalize bookC l = bk at *
    walk_at "vw"
    rw [List.length_map]
    refine ⟨_, rfl, nbn_ok (by omega), ?_⟩
    walk_at "vw"
    refine for_inv (fun i e m2 => m2 = m' ∧ e = [some (.lst (l.map cvD)), some (.lst (bk.map cvD)), none, some (dL (nb (bk.length : Int) ++ allC (bk.take i)))]) ⟨rfl, ?_⟩ ?_ ?_
    · rw [List.take_zero]; show _ = [_, _, _, some (dL (_ ++ []))]; rw [List.append_nil]; rfl
    · rintro i e m2 d hi ⟨rfl, rfl⟩ ed
      obtain ⟨c, ec, rfl⟩ := cel_at ed
      have hcc := hbo c (List.mem_of_getElem? ec)
      have h4 := cb_len hcc
      have h5 : (allC (bk.take i)).length ≤ 1040 * (bk.take i).length := flat_len fun c hm => cb_len (hbo c (List.mem_of_mem_take hm))
      rw [List.length_take] at h5
      rw [List.length_map] at hi
      walk_at "vw"
      refine ⟨c, rfl, hcc, ?_⟩
      refine e_addL (x := (nb (bk.length : Int) ++ allC (bk.take i)).map D.int) (y := (cb c).map D.int) (by simp only [List.length_map, List.length_append] at *; omega) ?_
      refine ⟨rfl, ?_⟩
      show [_, _, none, some (D.lst (_ ++ _))] = _
      rw [dl_app, List.append_assoc]
      unfold allC
      rw [flat_succ ec]
    · rintro e m2 ⟨rfl, rfl⟩
      rw [List.length_map, List.take_length]
      walk_at "vw"
      refine lc_mapL (xs := l) (g := cvD) (h := fun c => .int (bk.idxOf c : Int)) (by omega) (fun j c Q ec hQ => ?_) ?_
      · walk_at "vw"
        have hm := List.mem_of_getElem? ec
        exact e_idxC hbo (hc c hm) ((b2 c).mpr hm) hQ
      walk_at "vw"
      rw [List.length_map, show ((bk.length : Int) - 1) = ((bk.length - 1 : Nat) : Int) by omega]
      refine ⟨_, rfl, ?_⟩
      walk_at "vw"
      refine ⟨l.map bk.idxOf, bl (bk.length - 1), ?_, by omega, by rw [List.length_map]; omega, p1, ?_⟩
      · unfold ins
        show [D.lst _, _] = [D.lst _, _]
        rw [List.map_map, List.map_map]; rfl
      refine e_addL (x := (nb (bk.length : Int) ++ allC bk).map D.int) (y := (ins (pk (l.map bk.idxOf) (bl (bk.length - 1)))).map D.int) (by simp only [List.length_map, List.length_append] at *; omega) ?_
      rw [← List.map_append]
      exact hP
def t_small_bytes (K : PySem.W.Frag) (s_bits_for_ : Sp) (s_packed_ : Sp) : TS :=
      (tSeq (tAsg (tCall s_bits_for_ [] E0 (tCons (tCKw (rMaxD K) (tCons (tVar 0) tNil) (tCons (tC (.int 0)) tNil)) tNil)) (gName 1))
      (tRet (tOp (rAddU K) (tLst (tCons (tVar 1) tNil)) (tCall s_packed_ [] E0 (tCons (tVar 0) (tCons (tVar 1) tNil))))))
abbrev N_small_bytes : List Str := [("numbers" : Str), ("wide" : Str)]
def v_small_bytes (K : PySem.W.Frag) (vs_bits_for : VSp) (vs_packed : VSp) : VS :=
      (vSeqS (vAsg (vCall vs_bits_for (vCons (vCKw vMaxD (vCons (vVar 0) vNil) (vCons (vC (.int 0)) vNil)) vNil)) (vgName 1))
      (vRet (vOp vAdd (vLst (vCons (vVar 1) vNil)) (vCall vs_packed (vCons (vVar 0) (vCons (vVar 1) vNil))))))
theorem sim_small_bytes {K : PySem.W.Frag} {vs_bits_for : VSp} {vs_packed : VSp} {vsp : VSp} (hv : ∀ ds m P VX, vsp ds m P VX → ds.length = 1 ∧ v_small_bytes K vs_bits_for vs_packed (vends P) (vstart N_small_bytes.length ds) m) :
    ∀ us H Q E, spV K .O vsp us H Q E → t_small_bytes K (spV K .O vs_bits_for) (spV K .O vs_packed) { nx := fun _ H' => Q .non H', rt := Q } (L2.start N_small_bytes us) H :=
  sim_def (n := 1) (t := .O) (N := N_small_bytes) (Γn := [.F, .F]) (Γb := []) (Γc := []) (ts := fun E => t_small_bytes K (spV K .O vs_bits_for) (spV K .O vs_packed)) (vs := fun VX => v_small_bytes K vs_bits_for vs_packed) (by decide) (fun c W VX hK hx => by
    subst hK
    exact (x_seq (x_asgO (i := 1) (s_callO (g_cons (SO.f (s_ckw k_maxD (a_cons (SF.b (s_varF (by rfl))) a_nil) (a_cons (SO.b s_int) a_nil))) g_nil)))
      (x_pre (Γ1 := [.F, .F]) (x_retO (s_op o_add (SO.b (s_lst (g_cons (s_varF (by rfl)) g_nil))) (SO.b (s_callO (g_cons (s_varF (by rfl)) (g_cons (s_varF (by rfl)) g_nil))))))))) hv
def t_base_bytes (K : PySem.W.Frag) (s_number_bytes_ : Sp) (s_small_bytes_ : Sp) : TS :=
      (tSeq (tAsg (tCB (rMinU K) (tCons (tVar 0) tNil)) (gName 1))
      (tRet (tOp (rAddU K) (tCall s_number_bytes_ [] E0 (tCons (tVar 1) tNil)) (tCall s_small_bytes_ [] E0 (tCons (tLc (iSeqV K (tVar 0)) (gName 2) tYes (tOp (rSubU) (tVar 2) (tVar 1)) [2]) tNil)))))
abbrev N_base_bytes : List Str := [("cells" : Str), ("least" : Str), ("cell" : Str)]
def v_base_bytes (K : PySem.W.Frag) (vs_number_bytes : VSp) (vs_small_bytes : VSp) : VS :=
      (vSeqS (vAsg (vCB vMinU (vCons (vVar 0) vNil)) (vgName 1))
      (vRet (vOp vAdd (vCall vs_number_bytes (vCons (vVar 1) vNil)) (vCall vs_small_bytes (vCons (vLc (vSeq (vVar 0)) (vgName 2) vYes (vOp vSub (vVar 2) (vVar 1)) [2]) vNil)))))
theorem sim_base_bytes {K : PySem.W.Frag} {vs_number_bytes : VSp} {vs_small_bytes : VSp} {vsp : VSp} (hv : ∀ ds m P VX, vsp ds m P VX → ds.length = 1 ∧ v_base_bytes K vs_number_bytes vs_small_bytes (vends P) (vstart N_base_bytes.length ds) m) :
    ∀ us H Q E, spV K .O vsp us H Q E → t_base_bytes K (spV K .O vs_number_bytes) (spV K .O vs_small_bytes) { nx := fun _ H' => Q .non H', rt := Q } (L2.start N_base_bytes us) H :=
  sim_def (n := 1) (t := .O) (N := N_base_bytes) (Γn := [.F, .F, .F]) (Γb := []) (Γc := []) (ts := fun E => t_base_bytes K (spV K .O vs_number_bytes) (spV K .O vs_small_bytes)) (vs := fun VX => v_base_bytes K vs_number_bytes vs_small_bytes) (by decide) (fun c W VX hK hx => by
    subst hK
    exact (x_seq (x_asgO (i := 1) (s_cb l_minU (a_cons (SF.b (s_varF (by rfl))) a_nil)))
      (x_pre (Γ1 := [.F, .F, .F]) (x_retO (s_op o_add (SO.b (s_callO (g_cons (s_varF (by rfl)) g_nil))) (SO.b (s_callO (g_cons (SO.f (s_lc (vs := [2]) (i_seq (s_varF (by rfl))) (by rfl) (tg_name (is := [2]) (by rfl) (by decide)) s_yes (SO.f (s_op o_sub (SF.b (s_varF (by rfl))) (SF.b (s_varF (by rfl))))))) g_nil)))))))) hv
def t_step_bytes (K : PySem.W.Frag) (s_number_bytes_ : Sp) (s_small_bytes_ : Sp) : TS :=
      (tSeq (tAsg (tLc (RZ.iZipA K (tCons (tVar 0) (tCons (tSl (rSlU K) (tVar 0) (tPart (tC (.int 1))) tNoPart) tNil))) (gTup K 2 (gCons (gName 1) (gCons (gName 2) gNil))) tYes (tOp (rSubU) (tVar 2) (tVar 1)) [1, 2]) (gName 3))
      (tSeq (tAsg (tCKw (rMinD K) (tCons (tVar 3) tNil) (tCons (tC (.int 0)) tNil)) (gName 4))
      (tRet (tOp (rAddU K) (tOp (rAddU K) (tCall s_number_bytes_ [] E0 (tCons (tOp (rIxU K) (tVar 0) (tC (.int 0))) tNil)) (tCall s_number_bytes_ [] E0 (tCons (tVar 4) tNil))) (tCall s_small_bytes_ [] E0 (tCons (tLc (iSeqV K (tVar 3)) (gName 5) tYes (tOp (rSubU) (tVar 5) (tVar 4)) [5]) tNil))))))
abbrev N_step_bytes : List Str := [("cells" : Str), ("one" : Str), ("other" : Str), ("steps" : Str), ("least" : Str), ("step" : Str)]
def v_step_bytes (K : PySem.W.Frag) (vs_number_bytes : VSp) (vs_small_bytes : VSp) : VS :=
      (vSeqS (vAsg (vLc (vZip (vCons (vVar 0) (vCons (vSl vCut (vVar 0) (vPart (vC (.int 1))) vNoPart) vNil))) (vgTup 2 (vgCons (vgName 1) (vgCons (vgName 2) vgNil))) vYes (vOp vSub (vVar 2) (vVar 1)) [1, 2]) (vgName 3))
      (vSeqS (vAsg (vCKw vMinD (vCons (vVar 3) vNil) (vCons (vC (.int 0)) vNil)) (vgName 4))
      (vRet (vOp vAdd (vOp vAdd (vCall vs_number_bytes (vCons (vOp vIx (vVar 0) (vC (.int 0))) vNil)) (vCall vs_number_bytes (vCons (vVar 4) vNil))) (vCall vs_small_bytes (vCons (vLc (vSeq (vVar 3)) (vgName 5) vYes (vOp vSub (vVar 5) (vVar 4)) [5]) vNil))))))
theorem sim_step_bytes {K : PySem.W.Frag} {vs_number_bytes : VSp} {vs_small_bytes : VSp} {vsp : VSp} (hv : ∀ ds m P VX, vsp ds m P VX → ds.length = 1 ∧ v_step_bytes K vs_number_bytes vs_small_bytes (vends P) (vstart N_step_bytes.length ds) m) :
    ∀ us H Q E, spV K .O vsp us H Q E → t_step_bytes K (spV K .O vs_number_bytes) (spV K .O vs_small_bytes) { nx := fun _ H' => Q .non H', rt := Q } (L2.start N_step_bytes us) H :=
  sim_def (n := 1) (t := .O) (N := N_step_bytes) (Γn := [.F, .F, .F, .F, .F, .F]) (Γb := []) (Γc := []) (ts := fun E => t_step_bytes K (spV K .O vs_number_bytes) (spV K .O vs_small_bytes)) (vs := fun VX => v_step_bytes K vs_number_bytes vs_small_bytes) (by decide) (fun c W VX hK hx => by
    subst hK
    exact (x_seq (x_asgO (i := 3) (s_lc (vs := [1, 2]) (i_zip (g_cons (s_varF (by rfl)) (g_cons (SO.f (s_sl o_cut (SF.b (s_varF (by rfl))) (s_part (SO.b s_int)) s_nopart)) g_nil))) (by rfl) (tg_tup (tg_cons (tg_name (is := [1, 2]) (by rfl) (by decide)) (tg_cons (tg_name (is := [1, 2]) (by rfl) (by decide)) tg_nil))) s_yes (SO.f (s_op o_sub (SF.b (s_varF (by rfl))) (SF.b (s_varF (by rfl)))))))
      (x_seq (x_asgO (i := 4) (s_ckw k_minD (a_cons (s_varB (t := .O) (by rfl)) a_nil) (a_cons (SO.b s_int) a_nil)))
      (x_pre (Γ1 := [.F, .F, .F, .F, .F, .F]) (x_retO (s_op o_add (SO.b (s_op o_add (SO.b (s_callO (g_cons (s_opF o_ix (SF.b (s_varF (by rfl))) (SO.b s_int)) g_nil))) (SO.b (s_callO (g_cons (s_varF (by rfl)) g_nil))))) (SO.b (s_callO (g_cons (SO.f (s_lc (vs := [5]) (i_seq (s_varF (by rfl))) (by rfl) (tg_name (is := [5]) (by rfl) (by decide)) s_yes (SO.f (s_op o_sub (SF.b (s_varF (by rfl))) (SF.b (s_varF (by rfl))))))) g_nil))))))))) hv
def t_press_by (K : PySem.W.Frag) (s_number_bytes_ : Sp) (s_all_bytes_ : Sp) (s_run_bytes_ : Sp) (s_book_bytes_ : Sp) (s_is_number_ : Sp) (s_base_bytes_ : Sp) (s_step_bytes_ : Sp) : TS :=
      (tSeq (tAsg (tOp (rAddU K) (tLst (tCons (tVar 0) tNil)) (tCall s_number_bytes_ [] E0 (tCons (tCB (rLenU K) (tCons (tVar 1) tNil)) tNil))) (gName 2))
      (tSeq (tIfS (tTest (tOp (rEqU K) (tVar 0) (tC (.int 0))))
      (tRet (tOp (rAddU K) (tVar 2) (tCall s_all_bytes_ [] E0 (tCons (tVar 1) tNil))))
      tNext)
      (tSeq (tIfS (tTest (tOp (rEqU K) (tVar 0) (tC (.int 1))))
      (tRet (tOp (rAddU K) (tVar 2) (tCall s_run_bytes_ [] E0 (tCons (tVar 1) tNil))))
      tNext)
      (tSeq (tIfS (tTest (tOp (rEqU K) (tVar 0) (tC (.int 2))))
      (tRet (tOp (rAddU K) (tVar 2) (tCall s_book_bytes_ [] E0 (tCons (tVar 1) tNil))))
      tNext)
      (tSeq (tIfS (tNot (tTru K (tCB (rAll K) (tCons (tLc (iSeqV K (tVar 1)) (gName 3) tYes (tCall s_is_number_ [] E0 (tCons (tVar 3) tNil)) [3]) tNil))))
      (tRet (tC .non))
      tNext)
      (tSeq (tIfS (tTest (tOp (rEqU K) (tVar 0) (tC (.int 3))))
      (tRet (tOp (rAddU K) (tVar 2) (tCall s_base_bytes_ [] E0 (tCons (tVar 1) tNil))))
      tNext)
      (tRet (tOp (rAddU K) (tVar 2) (tCall s_step_bytes_ [] E0 (tCons (tVar 1) tNil))))))))))
abbrev N_press_by : List Str := [("way" : Str), ("cells" : Str), ("head" : Str), ("cell" : Str)]
def v_press_by (K : PySem.W.Frag) (vs_number_bytes : VSp) (vs_all_bytes : VSp) (vs_run_bytes : VSp) (vs_book_bytes : VSp) (vs_is_number : VSp) (vs_base_bytes : VSp) (vs_step_bytes : VSp) : VS :=
      (vSeqS (vAsg (vOp vAdd (vLst (vCons (vVar 0) vNil)) (vCall vs_number_bytes (vCons (vCB vLen (vCons (vVar 1) vNil)) vNil))) (vgName 2))
      (vSeqS (vIf (vTest (vOp vEqC (vVar 0) (vC (.int 0))))
      (vRet (vOp vAdd (vVar 2) (vCall vs_all_bytes (vCons (vVar 1) vNil))))
      vNext)
      (vSeqS (vIf (vTest (vOp vEqC (vVar 0) (vC (.int 1))))
      (vRet (vOp vAdd (vVar 2) (vCall vs_run_bytes (vCons (vVar 1) vNil))))
      vNext)
      (vSeqS (vIf (vTest (vOp vEqC (vVar 0) (vC (.int 2))))
      (vRet (vOp vAdd (vVar 2) (vCall vs_book_bytes (vCons (vVar 1) vNil))))
      vNext)
      (vSeqS (vIf (vNot (vTru (vCB vAll (vCons (vLc (vSeq (vVar 1)) (vgName 3) vYes (vCall vs_is_number (vCons (vVar 3) vNil)) [3]) vNil))))
      (vRet (vC .non))
      vNext)
      (vSeqS (vIf (vTest (vOp vEqC (vVar 0) (vC (.int 3))))
      (vRet (vOp vAdd (vVar 2) (vCall vs_base_bytes (vCons (vVar 1) vNil))))
      vNext)
      (vRet (vOp vAdd (vVar 2) (vCall vs_step_bytes (vCons (vVar 1) vNil))))))))))
theorem sim_press_by {K : PySem.W.Frag} {vs_number_bytes : VSp} {vs_all_bytes : VSp} {vs_run_bytes : VSp} {vs_book_bytes : VSp} {vs_is_number : VSp} {vs_base_bytes : VSp} {vs_step_bytes : VSp} {vsp : VSp} (hv : ∀ ds m P VX, vsp ds m P VX → ds.length = 2 ∧ v_press_by K vs_number_bytes vs_all_bytes vs_run_bytes vs_book_bytes vs_is_number vs_base_bytes vs_step_bytes (vends P) (vstart N_press_by.length ds) m) :
    ∀ us H Q E, spV K .O vsp us H Q E → t_press_by K (spV K .O vs_number_bytes) (spV K .O vs_all_bytes) (spV K .O vs_run_bytes) (spV K .O vs_book_bytes) (spV K .O vs_is_number) (spV K .O vs_base_bytes) (spV K .O vs_step_bytes) { nx := fun _ H' => Q .non H', rt := Q } (L2.start N_press_by us) H :=
  sim_def (n := 2) (t := .O) (N := N_press_by) (Γn := [.F, .F, .F, .F]) (Γb := []) (Γc := []) (ts := fun E => t_press_by K (spV K .O vs_number_bytes) (spV K .O vs_all_bytes) (spV K .O vs_run_bytes) (spV K .O vs_book_bytes) (spV K .O vs_is_number) (spV K .O vs_base_bytes) (spV K .O vs_step_bytes)) (vs := fun VX => v_press_by K vs_number_bytes vs_all_bytes vs_run_bytes vs_book_bytes vs_is_number vs_base_bytes vs_step_bytes) (by decide) (fun c W VX hK hx => by
    subst hK
    exact (x_seq (x_asgO (i := 2) (s_op o_add (SO.b (s_lst (g_cons (s_varF (by rfl)) g_nil))) (SO.b (s_callO (g_cons (SO.f (s_cb l_len (a_cons (SF.b (s_varF (by rfl))) a_nil))) g_nil)))))
      (x_seq (x_if (Γn := [.F, .F, .O, .F]) (s_test (SO.b (s_op o_eq (SF.b (s_varF (by rfl))) (SO.b s_int))))
      (x_retO (s_op o_add (s_varB (t := .O) (by rfl)) (SO.b (s_callO (g_cons (s_varF (by rfl)) g_nil)))))
      x_next)
      (x_seq (x_if (Γn := [.F, .F, .O, .F]) (s_test (SO.b (s_op o_eq (SF.b (s_varF (by rfl))) (SO.b s_int))))
      (x_retO (s_op o_add (s_varB (t := .O) (by rfl)) (SO.b (s_callO (g_cons (s_varF (by rfl)) g_nil)))))
      x_next)
      (x_seq (x_if (Γn := [.F, .F, .O, .F]) (s_test (SO.b (s_op o_eq (SF.b (s_varF (by rfl))) (SO.b s_int))))
      (x_retO (s_op o_add (s_varB (t := .O) (by rfl)) (SO.b (s_callO (g_cons (s_varF (by rfl)) g_nil)))))
      x_next)
      (x_seq (x_if (Γn := [.F, .F, .O, .F]) (s_not (s_tru (SO.b (s_cb l_all (a_cons (SO.b (s_lc (vs := [3]) (i_seq (s_varF (by rfl))) (by rfl) (tg_name (is := [3]) (by rfl) (by decide)) s_yes (SO.f (s_callO (g_cons (s_varF (by rfl)) g_nil))))) a_nil)))))
      (x_retO s_non)
      x_next)
      (x_seq (x_if (Γn := [.F, .F, .O, .F]) (s_test (SO.b (s_op o_eq (SF.b (s_varF (by rfl))) (SO.b s_int))))
      (x_retO (s_op o_add (s_varB (t := .O) (by rfl)) (SO.b (s_callO (g_cons (s_varF (by rfl)) g_nil)))))
      x_next)
      (x_retO (s_op o_add (s_varB (t := .O) (by rfl)) (SO.b (s_callO (g_cons (s_varF (by rfl)) g_nil)))))))))))) hv
def t_own_small (K : PySem.W.Frag) (s_own_bits_ : Sp) (s_own_packed_ : Sp) : TS :=
      (tSeq (tAsg (tCall s_own_bits_ [] E0 (tCons (tCB (rMaxU K) (tCons (tOp (rAddU K) (tVar 0) (tLst (tCons (tC (.int 0)) tNil))) tNil)) tNil)) (gName 1))
      (tRet (tOp (rAddU K) (tLst (tCons (tVar 1) tNil)) (tCall s_own_packed_ [] E0 (tCons (tVar 0) (tCons (tVar 1) tNil))))))
abbrev N_own_small : List Str := [("_law_numbers" : Str), ("_law_wide" : Str)]
def v_own_small (K : PySem.W.Frag) (vs_own_bits : VSp) (vs_own_packed : VSp) : VS :=
      (vSeqS (vAsg (vCall vs_own_bits (vCons (vCB vMaxU (vCons (vOp vAdd (vVar 0) (vLst (vCons (vC (.int 0)) vNil))) vNil)) vNil)) (vgName 1))
      (vRet (vOp vAdd (vLst (vCons (vVar 1) vNil)) (vCall vs_own_packed (vCons (vVar 0) (vCons (vVar 1) vNil))))))
theorem sim_own_small {K : PySem.W.Frag} {vs_own_bits : VSp} {vs_own_packed : VSp} {vsp : VSp} (hv : ∀ ds m P VX, vsp ds m P VX → ds.length = 1 ∧ v_own_small K vs_own_bits vs_own_packed (vends P) (vstart N_own_small.length ds) m) :
    ∀ us H Q E, spV K .O vsp us H Q E → t_own_small K (spV K .O vs_own_bits) (spV K .O vs_own_packed) { nx := fun _ H' => Q .non H', rt := Q } (L2.start N_own_small us) H :=
  sim_def (n := 1) (t := .O) (N := N_own_small) (Γn := [.F, .F]) (Γb := []) (Γc := []) (ts := fun E => t_own_small K (spV K .O vs_own_bits) (spV K .O vs_own_packed)) (vs := fun VX => v_own_small K vs_own_bits vs_own_packed) (by decide) (fun c W VX hK hx => by
    subst hK
    exact (x_seq (x_asgO (i := 1) (s_callO (g_cons (SO.f (s_cb l_maxU (a_cons (SO.b (s_op o_add (SF.b (s_varF (by rfl))) (SO.b (s_lst (g_cons (SO.f s_int) g_nil))))) a_nil))) g_nil)))
      (x_pre (Γ1 := [.F, .F]) (x_retO (s_op o_add (SO.b (s_lst (g_cons (s_varF (by rfl)) g_nil))) (SO.b (s_callO (g_cons (s_varF (by rfl)) (g_cons (s_varF (by rfl)) g_nil))))))))) hv
def t_own_press (K : PySem.W.Frag) (s_own_nb_ : Sp) (s_own_runs_ : Sp) (s_own_book_ : Sp) (s_own_cb8_ : Sp) (s_own_small_ : Sp) : TS :=
      (tSeq (tAsg (tOp (rAddU K) (tLst (tCons (tVar 0) tNil)) (tCall s_own_nb_ [] E0 (tCons (tCB (rLenU K) (tCons (tVar 1) tNil)) tNil))) (gName 2))
      (tSeq (tIfS (tTest (tOp (rEqU K) (tVar 0) (tC (.int 1))))
      (tRet (tOp (rAddU K) (tVar 2) (tCall s_own_runs_ [] E0 (tCons (tVar 1) tNil))))
      tNext)
      (tSeq (tIfS (tTest (tOp (rEqU K) (tVar 0) (tC (.int 2))))
      (tRet (tOp (rAddU K) (tVar 2) (tCall s_own_book_ [] E0 (tCons (tVar 1) tNil))))
      tNext)
      (tSeq (tIfS (tTest (tOp (rEqU K) (tVar 0) (tC (.int 0))))
      (tSeq (tFor (iSeqV K (tVar 1)) (gName 3)
      (tAsg (tOp (rAddU K) (tVar 2) (tCall s_own_cb8_ [] E0 (tCons (tVar 3) tNil))) (gName 2)))
      (tRet (tVar 2)))
      tNext)
      (tSeq (tIfS (tTru K (tCB (rAny K) (tCons (tLc (iSeqV K (tVar 1)) (gName 3) tYes (tOrV (tOp (rIsN) (tVar 3) (tC .non)) (tCB (rIsiU K) (tCons (tVar 3) (tCons (tC (.ty "str")) tNil)))) [3]) tNil)))
      (tRet (tC .non))
      tNext)
      (tSeq (tIfS (tTest (tOp (rEqU K) (tVar 0) (tC (.int 3))))
      (tSeq (tAsg (tOp (rAddU K) (tVar 2) (tCall s_own_nb_ [] E0 (tCons (tCB (rMinU K) (tCons (tVar 1) tNil)) tNil))) (gName 2))
      (tRet (tOp (rAddU K) (tVar 2) (tCall s_own_small_ [] E0 (tCons (tLc (iSeqV K (tVar 1)) (gName 3) tYes (tOp (rSubU) (tVar 3) (tCB (rMinU K) (tCons (tVar 1) tNil))) [3]) tNil)))))
      tNext)
      (tSeq (tAsg (tLc (iRng1 (tCons (tOp (rSubU) (tCB (rLenU K) (tCons (tVar 1) tNil)) (tC (.int 1))) tNil)) (gName 4) tYes (tOp (rSubU) (tOp (rIxU K) (tVar 1) (tOp (rAddU K) (tVar 4) (tC (.int 1)))) (tOp (rIxU K) (tVar 1) (tVar 4))) [4]) (gName 5))
      (tSeq (tAsg (tIf (tTest (tOp (rNeU K) (tVar 5) (tLst tNil))) (tCB (rMinU K) (tCons (tVar 5) tNil)) (tC (.int 0))) (gName 6))
      (tSeq (tAsg (tOp (rAddU K) (tOp (rAddU K) (tVar 2) (tCall s_own_nb_ [] E0 (tCons (tOp (rIxU K) (tVar 1) (tC (.int 0))) tNil))) (tCall s_own_nb_ [] E0 (tCons (tVar 6) tNil))) (gName 2))
      (tRet (tOp (rAddU K) (tVar 2) (tCall s_own_small_ [] E0 (tCons (tLc (iSeqV K (tVar 5)) (gName 7) tYes (tOp (rSubU) (tVar 7) (tVar 6)) [7]) tNil)))))))))))))
abbrev N_own_press : List Str := [("_law_way" : Str), ("_law_cells_here" : Str), ("_law_made" : Str), ("_law_cell" : Str), ("_law_place" : Str), ("_law_steps" : Str), ("_law_least" : Str), ("_law_step" : Str)]
def v_own_press (K : PySem.W.Frag) (vs_own_nb : VSp) (vs_own_runs : VSp) (vs_own_book : VSp) (vs_own_cb8 : VSp) (vs_own_small : VSp) : VS :=
      (vSeqS (vAsg (vOp vAdd (vLst (vCons (vVar 0) vNil)) (vCall vs_own_nb (vCons (vCB vLen (vCons (vVar 1) vNil)) vNil))) (vgName 2))
      (vSeqS (vIf (vTest (vOp vEqC (vVar 0) (vC (.int 1))))
      (vRet (vOp vAdd (vVar 2) (vCall vs_own_runs (vCons (vVar 1) vNil))))
      vNext)
      (vSeqS (vIf (vTest (vOp vEqC (vVar 0) (vC (.int 2))))
      (vRet (vOp vAdd (vVar 2) (vCall vs_own_book (vCons (vVar 1) vNil))))
      vNext)
      (vSeqS (vIf (vTest (vOp vEqC (vVar 0) (vC (.int 0))))
      (vSeqS (vFor [0, 1, 3, 4, 5, 6, 7] (vSeq (vVar 1)) (vgName 3)
      (vAsg (vOp vAdd (vVar 2) (vCall vs_own_cb8 (vCons (vVar 3) vNil))) (vgName 2)))
      (vRet (vVar 2)))
      vNext)
      (vSeqS (vIf (vTru (vCB vAny (vCons (vLc (vSeq (vVar 1)) (vgName 3) vYes (vOrV (vOp vIsN (vVar 3) (vC .non)) (vCB vIsi (vCons (vVar 3) (vCons (vC (.ty "str")) vNil)))) [3]) vNil)))
      (vRet (vC .non))
      vNext)
      (vSeqS (vIf (vTest (vOp vEqC (vVar 0) (vC (.int 3))))
      (vSeqS (vAsg (vOp vAdd (vVar 2) (vCall vs_own_nb (vCons (vCB vMinU (vCons (vVar 1) vNil)) vNil))) (vgName 2))
      (vRet (vOp vAdd (vVar 2) (vCall vs_own_small (vCons (vLc (vSeq (vVar 1)) (vgName 3) vYes (vOp vSub (vVar 3) (vCB vMinU (vCons (vVar 1) vNil))) [3]) vNil)))))
      vNext)
      (vSeqS (vAsg (vLc (vRng1 (vCons (vOp vSub (vCB vLen (vCons (vVar 1) vNil)) (vC (.int 1))) vNil)) (vgName 4) vYes (vOp vSub (vOp vIx (vVar 1) (vOp vAdd (vVar 4) (vC (.int 1)))) (vOp vIx (vVar 1) (vVar 4))) [4]) (vgName 5))
      (vSeqS (vAsg (vIfE (vTest (vOp vNeC (vVar 5) (vLst vNil))) (vCB vMinU (vCons (vVar 5) vNil)) (vC (.int 0))) (vgName 6))
      (vSeqS (vAsg (vOp vAdd (vOp vAdd (vVar 2) (vCall vs_own_nb (vCons (vOp vIx (vVar 1) (vC (.int 0))) vNil))) (vCall vs_own_nb (vCons (vVar 6) vNil))) (vgName 2))
      (vRet (vOp vAdd (vVar 2) (vCall vs_own_small (vCons (vLc (vSeq (vVar 5)) (vgName 7) vYes (vOp vSub (vVar 7) (vVar 6)) [7]) vNil)))))))))))))
theorem sim_own_press {K : PySem.W.Frag} {vs_own_nb : VSp} {vs_own_runs : VSp} {vs_own_book : VSp} {vs_own_cb8 : VSp} {vs_own_small : VSp} {vsp : VSp} (hv : ∀ ds m P VX, vsp ds m P VX → ds.length = 2 ∧ v_own_press K vs_own_nb vs_own_runs vs_own_book vs_own_cb8 vs_own_small (vends P) (vstart N_own_press.length ds) m) :
    ∀ us H Q E, spV K .O vsp us H Q E → t_own_press K (spV K .O vs_own_nb) (spV K .O vs_own_runs) (spV K .O vs_own_book) (spV K .O vs_own_cb8) (spV K .O vs_own_small) { nx := fun _ H' => Q .non H', rt := Q } (L2.start N_own_press us) H :=
  sim_def (n := 2) (t := .O) (N := N_own_press) (Γn := [.F, .F, .F, .F, .F, .F, .F, .F]) (Γb := []) (Γc := []) (ts := fun E => t_own_press K (spV K .O vs_own_nb) (spV K .O vs_own_runs) (spV K .O vs_own_book) (spV K .O vs_own_cb8) (spV K .O vs_own_small)) (vs := fun VX => v_own_press K vs_own_nb vs_own_runs vs_own_book vs_own_cb8 vs_own_small) (by decide) (fun c W VX hK hx => by
    subst hK
    exact (x_seq (x_asgO (i := 2) (s_op o_add (SO.b (s_lst (g_cons (s_varF (by rfl)) g_nil))) (SO.b (s_callO (g_cons (SO.f (s_cb l_len (a_cons (SF.b (s_varF (by rfl))) a_nil))) g_nil)))))
      (x_seq (x_if (Γn := [.F, .F, .O, .F, .F, .F, .F, .F]) (s_test (SO.b (s_op o_eq (SF.b (s_varF (by rfl))) (SO.b s_int))))
      (x_retO (s_op o_add (s_varB (t := .O) (by rfl)) (SO.b (s_callO (g_cons (s_varF (by rfl)) g_nil)))))
      x_next)
      (x_seq (x_if (Γn := [.F, .F, .O, .F, .F, .F, .F, .F]) (s_test (SO.b (s_op o_eq (SF.b (s_varF (by rfl))) (SO.b s_int))))
      (x_retO (s_op o_add (s_varB (t := .O) (by rfl)) (SO.b (s_callO (g_cons (s_varF (by rfl)) g_nil)))))
      x_next)
      (x_seq (x_if (Γn := [.F, .F, .O, .F, .F, .F, .F, .F]) (s_test (SO.b (s_op o_eq (SF.b (s_varF (by rfl))) (SO.b s_int))))
      (x_seq (x_for (Γ' := [.F, .F, .O, .F, .F, .F, .F, .F]) (ws := [0, 1, 3, 4, 5, 6, 7]) (i_seq (s_varF (by rfl))) (tg_name (is := [3]) (by rfl) (by decide))
      (x_asgO (i := 2) (s_op o_add (s_varB (t := .O) (by rfl)) (SO.b (s_callO (g_cons (s_varF (by rfl)) g_nil))))))
      (x_retV (by rfl)))
      x_next)
      (x_seq (x_if (Γn := [.F, .F, .O, .F, .F, .F, .F, .F]) (s_tru (SO.b (s_cb l_any (a_cons (SO.b (s_lc (vs := [3]) (i_seq (s_varF (by rfl))) (by rfl) (tg_name (is := [3]) (by rfl) (by decide)) s_yes (SO.f (s_orV (SO.b (s_op o_isN (SF.b (s_varF (by rfl))) (SO.b s_non))) (s_cb l_isi (a_cons (SF.b (s_varF (by rfl))) (a_cons (SO.b s_ty) a_nil))))))) a_nil))))
      (x_retO s_non)
      x_next)
      (x_seq (x_if (Γn := [.F, .F, .O, .F, .F, .F, .F, .F]) (s_test (SO.b (s_op o_eq (SF.b (s_varF (by rfl))) (SO.b s_int))))
      (x_seq (x_asgO (i := 2) (s_op o_add (s_varB (t := .O) (by rfl)) (SO.b (s_callO (g_cons (SO.f (s_cb l_minU (a_cons (SF.b (s_varF (by rfl))) a_nil))) g_nil)))))
      (x_retO (s_op o_add (s_varB (t := .O) (by rfl)) (SO.b (s_callO (g_cons (SO.f (s_lc (vs := [3]) (i_seq (s_varF (by rfl))) (by rfl) (tg_name (is := [3]) (by rfl) (by decide)) s_yes (SO.f (s_op o_sub (SF.b (s_varF (by rfl))) (SO.b (s_cb l_minU (a_cons (SF.b (s_varF (by rfl))) a_nil))))))) g_nil))))))
      x_next)
      (x_seq (x_asgO (i := 5) (s_lc (vs := [4]) (i_rng1 (g_cons (SO.f (s_op o_sub (SO.b (s_cb l_len (a_cons (SF.b (s_varF (by rfl))) a_nil))) (SO.b s_int))) g_nil)) (by rfl) (tg_name (is := [4]) (by rfl) (by decide)) s_yes (SO.f (s_op o_sub (SF.b (s_opF o_ix (SF.b (s_varF (by rfl))) (SO.b (s_op o_add (SF.b (s_varF (by rfl))) (SO.b s_int))))) (SF.b (s_opF o_ix (SF.b (s_varF (by rfl))) (SF.b (s_varF (by rfl)))))))))
      (x_seq (x_asgO (i := 6) (s_ifO (s_test (SO.b (s_op o_ne (s_varB (t := .O) (by rfl)) (SO.b (s_lst g_nil))))) (s_cb l_minU (a_cons (s_varB (t := .O) (by rfl)) a_nil)) s_int))
      (x_seq (x_pre (Γ1 := [.F, .F, .O, .F, .F, .O, .F, .F]) (x_asgO (i := 2) (s_op o_add (SO.b (s_op o_add (s_varB (t := .O) (by rfl)) (SO.b (s_callO (g_cons (s_opF o_ix (SF.b (s_varF (by rfl))) (SO.b s_int)) g_nil))))) (SO.b (s_callO (g_cons (s_varF (by rfl)) g_nil))))))
      (x_pre (Γ1 := [.F, .F, .O, .F, .F, .F, .F, .F]) (x_retO (s_op o_add (s_varB (t := .O) (by rfl)) (SO.b (s_callO (g_cons (SO.f (s_lc (vs := [7]) (i_seq (s_varF (by rfl))) (by rfl) (tg_name (is := [7]) (by rfl) (by decide)) s_yes (SO.f (s_op o_sub (SF.b (s_varF (by rfl))) (SF.b (s_varF (by rfl))))))) g_nil)))))))))))))))) hv
theorem gd_dL {l : List Int} (h : l.length ≤ 16777216) : Gd 2 (dL l) := by
  refine gd_lst (by rw [List.length_map]; exact h) fun d hd => ?_
  obtain ⟨z, _, rfl⟩ := List.mem_map.mp hd
  exact gd_int (by decide)
def mnI : List Int → Int
  | [] => 0
  | [x] => x
  | x :: y :: r => min x (mnI (y :: r))
theorem mnI_le : ∀ {xs : List Int} {y : Int}, y ∈ xs → mnI xs ≤ y
  | [], _, h => by simp at h
  | [x], y, h => by rw [List.mem_singleton.mp h]; exact Int.le_refl _
  | x :: z :: r, y, h => by
    have e : mnI (x :: z :: r) = min x (mnI (z :: r)) := rfl
    rcases List.mem_cons.mp h with rfl | h
    · omega
    · have := mnI_le h; omega
theorem mnI_mem : ∀ {xs : List Int}, xs ≠ [] → mnI xs ∈ xs
  | [], h => absurd rfl h
  | [x], _ => List.mem_cons_self
  | x :: z :: r, _ => by
    have e : mnI (x :: z :: r) = min x (mnI (z :: r)) := rfl
    have := mnI_mem (xs := z :: r) (by simp)
    rw [e]
    rcases Int.le_total x (mnI (z :: r)) with h | h
    · rw [Int.min_eq_left h]; exact List.mem_cons_self
    · rw [Int.min_eq_right h]; exact List.mem_cons_of_mem _ this
theorem mnI_is {xs : List Int} {m : Int} (h : m ∈ xs) (hm : ∀ y ∈ xs, m ≤ y) : m = mnI xs := by
  have h1 := mnI_le h
  have h2 := hm _ (mnI_mem (List.ne_nil_of_mem h))
  omega
def mxN : List Nat → Nat
  | [] => 0
  | x :: r => max x (mxN r)
theorem mxN_le : ∀ {xs : List Nat} {y : Nat}, y ∈ xs → y ≤ mxN xs
  | x :: r, y, h => by
    have e : mxN (x :: r) = max x (mxN r) := rfl
    rcases List.mem_cons.mp h with rfl | h
    · omega
    · have := mxN_le h; omega
theorem mxN_lt {b : Nat} (hb : 0 < b) : ∀ {xs : List Nat}, (∀ x ∈ xs, x < b) → mxN xs < b
  | [], _ => hb
  | x :: r, h => by
    have e : mxN (x :: r) = max x (mxN r) := rfl
    have h1 := h x List.mem_cons_self
    have h2 := mxN_lt hb (xs := r) fun y hy => h y (List.mem_cons_of_mem _ hy)
    omega
theorem mxN_mem : ∀ {xs : List Nat}, xs ≠ [] → mxN xs ∈ xs
  | [], h => absurd rfl h
  | [x], _ => by show max x 0 ∈ [x]; simp
  | x :: z :: r, _ => by
    have e : mxN (x :: z :: r) = max x (mxN (z :: r)) := rfl
    have := mxN_mem (xs := z :: r) (by simp)
    rw [e]
    rcases Nat.le_total x (mxN (z :: r)) with h | h
    · rw [Nat.max_eq_right h]; exact List.mem_cons_of_mem _ this
    · rw [Nat.max_eq_left h]; exact List.mem_cons_self
def smallC (xs : List Nat) : List Int := (bl (mxN xs) : Int) :: ins (pk xs (bl (mxN xs)))
theorem small_w {xs : List Nat} (h : ∀ x ∈ xs, x < 2 ^ 200) : bl (mxN xs) ≤ 200 ∧ ∀ x ∈ xs, x < 2 ^ bl (mxN xs) :=
  ⟨bl_le _ _ (mxN_lt (by decide) h), fun x hx => Nat.lt_of_le_of_lt (mxN_le hx) (bl_lt _)⟩
theorem smallC_len {xs : List Nat} (hl : xs.length ≤ 1000) (h : ∀ x ∈ xs, x < 2 ^ 200) : (smallC xs).length ≤ 40001 := by
  unfold smallC
  rw [List.length_cons, ins_len, pk_len]
  have := bcn_le (n := xs.length) (w := bl (mxN xs)) hl (by have := (small_w h).1; omega)
  omega
def wSmall : VSp := fun ds m P _ => ∃ xs : List Nat, ds = [dL (ins xs)] ∧ xs.length ≤ 1000 ∧ (∀ x ∈ xs, x < 2 ^ 200) ∧ P (dL (smallC xs)) m
theorem small_end {xs : List Nat} {P : D → Prop} (hl : xs.length ≤ 1000) (h : ∀ x ∈ xs, x < 2 ^ 200) (hP : P (dL (smallC xs))) : vAdd (.lst [.int (bl (mxN xs) : Nat)]) (dL (ins (pk xs (bl (mxN xs))))) P := by
  have := bcn_le (n := xs.length) (w := bl (mxN xs)) hl (by have := (small_w h).1; omega)
  refine e_addL (by rw [List.length_map, ins_len, pk_len]; show 1 + _ ≤ _; omega) ?_
  exact hP
theorem ins_mem {xs : List Nat} {z : Int} (h : z ∈ ins xs) : ∃ x ∈ xs, z = (x : Int) := by
  obtain ⟨x, hx, rfl⟩ := List.mem_map.mp h
  exact ⟨x, hx, rfl⟩
theorem p_small_bytes {K : PySem.W.Frag} (ds : List D) (m : Mst) (P : D → Mst → Prop) (VX : XV) (h : wSmall ds m P VX) : ds.length = 1 ∧ v_small_bytes K wBits wPacked (vends P) (vstart N_small_bytes.length ds) m := by
  obtain ⟨xs, rfl, hl, hx, hP⟩ := h
  refine ⟨rfl, ?_⟩
  obtain ⟨w1, w2⟩ := small_w hx
  unfold v_small_bytes
  walk_at "vw"
  by_cases hn : xs = []
  · subst hn
    refine .inl ⟨rfl, rfl, ?_⟩
    walk_at "vw"
    refine ⟨0, rfl, ?_⟩
    walk_at "vw"
    refine ⟨[], bl (mxN []), rfl, by omega, by simp, by simp, ?_⟩
    exact small_end (xs := []) (by decide) (fun _ h => absurd h (by simp)) hP
  · refine .inr (.inl ⟨ins xs, rfl, fun e => hn (List.map_eq_nil_iff.mp e), fun z hz hzm => ?_⟩)
    obtain ⟨x, hxm, rfl⟩ := ins_mem hz
    have ex : x = mxN xs := by
      have h1 := mxN_le hxm
      have h2 := hzm _ (List.mem_map.mpr ⟨_, mxN_mem hn, rfl⟩)
      omega
    walk_at "vw"
    refine ⟨x, rfl, ?_⟩
    rw [ex]
    walk_at "vw"
    exact ⟨xs, _, rfl, by omega, hl, w2, small_end hl hx hP⟩
theorem p_own_small {K : PySem.W.Frag} (ds : List D) (m : Mst) (P : D → Mst → Prop) (VX : XV) (h : wSmall ds m P VX) : ds.length = 1 ∧ v_own_small K wBits wPacked (vends P) (vstart N_own_small.length ds) m := by
  obtain ⟨xs, rfl, hl, hx, hP⟩ := h
  refine ⟨rfl, ?_⟩
  obtain ⟨w1, w2⟩ := small_w hx
  unfold v_own_small
  walk_at "vw"
  refine e_addL (by rw [List.length_map, ins_len]; show _ + 1 ≤ _; omega) ?_
  walk_at "vw"
  refine ⟨ins xs ++ [0], by rw [List.map_append]; rfl, by simp, fun z hz hzm => ?_⟩
  have ez : z = (mxN xs : Int) := by
    rcases List.mem_append.mp hz with hz | hz
    · obtain ⟨x, hxm, rfl⟩ := ins_mem hz
      have h1 := mxN_le hxm
      have h2 := hzm _ (List.mem_append_left _ (List.mem_map.mpr ⟨_, mxN_mem (List.ne_nil_of_mem hxm), rfl⟩))
      omega
    · have hz0 : z = 0 := List.mem_singleton.mp hz
      by_cases hn : xs = []
      · subst hn; exact hz0
      · have h2 := hzm _ (List.mem_append_left _ (List.mem_map.mpr ⟨_, mxN_mem hn, rfl⟩))
        omega
  subst ez
  walk_at "vw"
  refine ⟨_, rfl, ?_⟩
  walk_at "vw"
  exact ⟨xs, _, rfl, by omega, hl, w2, small_end hl hx hP⟩
def offs (xs : List Int) : List Nat := xs.map fun x => (x - mnI xs).toNat
def baseC (xs : List Int) : List Int := nb (mnI xs) ++ smallC (offs xs)
def stepsI (xs : List Int) : List Int := List.zipWith (fun a b => b - a) xs xs.tail
def stpC (xs : List Int) : List Int := nb (xs.headD 0) ++ nb (mnI (stepsI xs)) ++ smallC (offs (stepsI xs))
def Bnd (b : Nat) (xs : List Int) : Prop := ∀ x ∈ xs, x.natAbs < 2 ^ b
theorem offs_lt {b : Nat} {xs : List Int} (h : Bnd b xs) (hb : b < 199) : ∀ x ∈ offs xs, x < 2 ^ 200 := fun x hx => by
  obtain ⟨z, hz, rfl⟩ := List.mem_map.mp hx
  have h1 := h z hz
  have h2 := h _ (mnI_mem (List.ne_nil_of_mem hz))
  have h3 : (2 : Nat) ^ b ≤ 2 ^ 199 := Nat.pow_le_pow_right (by decide) (by omega)
  have h4 : (2 : Nat) ^ 200 = 2 * 2 ^ 199 := rfl
  omega
theorem offs_ins (xs : List Int) : ins (offs xs) = xs.map fun x => x - mnI xs := by
  unfold ins offs
  rw [List.map_map]
  refine List.map_congr_left fun x hx => ?_
  have := mnI_le hx
  show (((x - mnI xs).toNat : Nat) : Int) = _
  omega
theorem offs_len (xs : List Int) : (offs xs).length = xs.length := List.length_map _
theorem mnI_bnd {b : Nat} {xs : List Int} (h : Bnd b xs) : (mnI xs).natAbs < 2 ^ b := by
  by_cases hn : xs = []
  · subst hn; exact Nat.two_pow_pos b
  · exact h _ (mnI_mem hn)
theorem steps_bnd {b : Nat} {xs : List Int} (h : Bnd b xs) : Bnd (b + 1) (stepsI xs) := fun x hx => by
  unfold stepsI at hx
  rw [List.mem_iff_getElem] at hx
  obtain ⟨i, hi, rfl⟩ := hx
  rw [List.length_zipWith] at hi
  rw [List.getElem_zipWith]
  have h1 := h _ (List.getElem_mem (l := xs) (n := i) (by omega))
  have h2 := h _ (List.mem_of_mem_tail (List.getElem_mem (l := xs.tail) (n := i) (by omega)))
  have h3 : (2 : Nat) ^ (b + 1) = 2 * 2 ^ b := by rw [Nat.pow_succ]; omega
  omega
theorem steps_len (xs : List Int) : (stepsI xs).length = xs.length - 1 := by
  unfold stepsI
  rw [List.length_zipWith, List.length_tail]; omega
theorem nbb {b : Nat} {z : Int} (h : z.natAbs < 2 ^ b) (hb : b ≤ 200) : z.natAbs < 2 ^ 200 := Nat.lt_of_lt_of_le h (Nat.pow_le_pow_right (by decide) hb)
theorem baseC_len {xs : List Int} (hl : xs.length ≤ 100) (h : Bnd 100 xs) : (nb (mnI xs)).length ≤ 30 ∧ (smallC (offs xs)).length ≤ 40001 :=
  ⟨nb_len (nbb (mnI_bnd h) (by decide)), smallC_len (by rw [offs_len]; omega) (offs_lt h (by decide))⟩
theorem zip_subs (a b : List Int) : zipD (a.map D.int) (b.map D.int) = (a.zip b).map fun p => D.tup [.int p.1, .int p.2] := zip_ints a b
theorem steps_zip (xs : List Int) : (xs.zip xs.tail).map (fun p => p.2 - p.1) = stepsI xs := by
  unfold stepsI
  rw [← List.map_uncurry_zip_eq_zipWith]; rfl
def wBase : VSp := fun ds m P _ => ∃ (xs : List Int) (x : D), ds = [x] ∧ (x = .lst (xs.map D.int) ∨ x = .tup (xs.map D.int)) ∧ 1 ≤ xs.length ∧ xs.length ≤ 100 ∧ Bnd 100 xs ∧ P (dL (baseC xs)) m
theorem e_minUX {x : D} {ds : List D} {Z : D → Prop} (hx : x = .lst ds ∨ x = .tup ds) (h : vMin1 [.lst ds] Z) : vMinU [x] Z := by
  rcases hx with rfl | rfl
  · exact e_minUL h
  · exact e_minUT h
theorem e_min1 {xs : List Int} {Z : D → Prop} (hn : 1 ≤ xs.length) (h : Z (.int (mnI xs))) : vMin1 [.lst (xs.map D.int)] Z := ⟨xs, rfl, hn, fun m hm hl => by rw [mnI_is hm hl]; exact h⟩
theorem p_base_bytes {K : PySem.W.Frag} (ds : List D) (m : Mst) (P : D → Mst → Prop) (VX : XV) (h : wBase ds m P VX) : ds.length = 1 ∧ v_base_bytes K wNb wSmall (vends P) (vstart N_base_bytes.length ds) m := by
  obtain ⟨xs, x, rfl, hx, hn, hl, hb, hP⟩ := h
  refine ⟨rfl, ?_⟩
  obtain ⟨l1, l2⟩ := baseC_len hl hb
  unfold v_base_bytes
  walk_at "vw"
  refine e_minUX hx (e_min1 hn ?_)
  walk_at "vw"
  refine ⟨_, rfl, nbb (mnI_bnd hb) (by decide), ?_⟩
  walk_at "vw"
  refine e_itX hx ?_
  refine lc_mapL (xs := xs) (g := D.int) (h := fun z => .int (z - mnI xs)) (by omega) (fun j z Q ec hQ => ?_) ?_
  · walk_at "vw"
    exact hQ
  walk_at "vw"
  refine ⟨offs xs, by rw [offs_ins]; show [D.lst _] = [D.lst _]; rw [List.map_map]; rfl, by rw [offs_len]; omega, offs_lt hb (by decide), ?_⟩
  refine e_addL (x := (nb (mnI xs)).map D.int) (y := (smallC (offs xs)).map D.int) (by rw [List.length_map, List.length_map]; omega) ?_
  rw [← List.map_append]
  exact hP
theorem stpC_len {xs : List Int} (hl : xs.length ≤ 100) (h : Bnd 100 xs) : (nb (xs.headD 0)).length ≤ 30 ∧ (nb (mnI (stepsI xs))).length ≤ 30 ∧ (smallC (offs (stepsI xs))).length ≤ 40001 := by
  have hs := steps_bnd h
  refine ⟨nb_len (nbb (b := 100) ?_ (by decide)), nb_len (nbb (mnI_bnd hs) (by decide)), smallC_len (by rw [offs_len, steps_len]; omega) (offs_lt hs (by decide))⟩
  cases xs with
  | nil => exact Nat.two_pow_pos _
  | cons y r => exact h y List.mem_cons_self
def wStp : VSp := fun ds m P _ => ∃ (xs : List Int) (x : D), ds = [x] ∧ (x = .lst (xs.map D.int) ∨ x = .tup (xs.map D.int)) ∧ 1 ≤ xs.length ∧ xs.length ≤ 100 ∧ Bnd 100 xs ∧ P (dL (stpC xs)) m
theorem e_minD0 {zs : List Int} {Z : D → Prop} (h : Z (.int (mnI zs))) : vMinD [.lst (zs.map D.int)] [.int 0] Z := by
  by_cases hn : zs = []
  · subst hn; exact .inl ⟨rfl, rfl, h⟩
  · exact .inr (.inl ⟨zs, rfl, hn, fun m hm hl => by rw [mnI_is hm hl]; exact h⟩)
theorem p_step_bytes {K : PySem.W.Frag} (ds : List D) (m : Mst) (P : D → Mst → Prop) (VX : XV) (h : wStp ds m P VX) : ds.length = 1 ∧ v_step_bytes K wNb wSmall (vends P) (vstart N_step_bytes.length ds) m := by
  obtain ⟨xs, x, rfl, hx, hn, hl, hb, hP⟩ := h
  refine ⟨rfl, ?_⟩
  obtain ⟨l1, l2, l3⟩ := stpC_len hl hb
  have hs := steps_bnd hb
  have h0 : xs[0]? = some (xs.headD 0) := by cases xs with | nil => simp at hn | cons y r => rfl
  unfold v_step_bytes
  have hzip : ∀ (A : List D → Mst → Prop), A ((xs.zip xs.tail).map fun p => D.tup [.int p.1, .int p.2]) m → vCut x (some 1) none fun z => itZip [x, z] A m := fun A hA => by
    have e1 : (xs.map D.int).drop 1 = xs.tail.map D.int := by rw [← List.map_drop, List.drop_one]
    rcases hx with rfl | rfl
    · refine e_cutL ?_
      rw [show ((1 : Int)) = ((1 : Nat) : Int) from rfl, cutD_from, e1]
      refine e_itZL ?_
      rw [zip_subs]; exact hA
    · refine e_cutT ?_
      rw [show ((1 : Int)) = ((1 : Nat) : Int) from rfl, cutD_from, e1]
      refine e_itZT ?_
      rw [zip_subs]; exact hA
  walk_at "vw"
  refine hzip _ ?_
  refine lc_mapL (h := fun p : Int × Int => .int (p.2 - p.1)) (by rw [List.length_zip]; omega) (fun j p Q ep hQ => ?_) ?_
  · walk_at "vw"
    exact hQ
  rw [show (xs.zip xs.tail).map (fun p => D.int (p.2 - p.1)) = (stepsI xs).map D.int by rw [← steps_zip, List.map_map]; rfl]
  walk_at "vw"
  refine e_minD0 ?_
  walk_at "vw"
  refine e_ixX hx (by show atI (xs.map D.int) ((0 : Nat) : Int) = _; exact atI_nat (by rw [List.getElem?_map, h0]; rfl)) ?_
  walk_at "vw"
  have hh : (xs.headD 0).natAbs < 2 ^ 100 := hb _ (List.mem_of_getElem? h0)
  refine ⟨_, rfl, nbb hh (by decide), ?_⟩
  walk_at "vw"
  refine ⟨_, rfl, nbb (mnI_bnd hs) (by decide), ?_⟩
  refine e_addL (x := (nb (xs.headD 0)).map D.int) (y := (nb (mnI (stepsI xs))).map D.int) (by rw [List.length_map, List.length_map]; omega) ?_
  walk_at "vw"
  refine lc_mapL (xs := stepsI xs) (g := D.int) (h := fun z => .int (z - mnI (stepsI xs))) (by rw [steps_len]; omega) (fun j z Q ec hQ => ?_) ?_
  · walk_at "vw"
    exact hQ
  walk_at "vw"
  refine ⟨offs (stepsI xs), by rw [offs_ins]; show [D.lst _] = [D.lst _]; rw [List.map_map]; rfl, by rw [offs_len, steps_len]; omega, offs_lt hs (by decide), ?_⟩
  refine e_addL (x := (nb (xs.headD 0)).map D.int ++ (nb (mnI (stepsI xs))).map D.int) (y := (smallC (offs (stepsI xs))).map D.int) (by rw [List.length_append, List.length_map, List.length_map, List.length_map]; omega) ?_
  rw [← List.map_append, ← List.map_append]
  exact hP
def numsOf : List Cel → Option (List Int)
  | [] => some []
  | .num z :: r => (numsOf r).map (z :: ·)
  | _ :: _ => none
theorem nums_some : ∀ {l : List Cel} {xs : List Int}, numsOf l = some xs → l = xs.map Cel.num
  | [], xs, h => by cases h; rfl
  | .num z :: r, xs, h => by
    obtain ⟨ys, e, rfl⟩ := Option.map_eq_some_iff.mp h
    rw [nums_some e]; rfl
theorem nums_all : ∀ (l : List Cel), (l.map isNum).all id = (numsOf l).isSome
  | [] => rfl
  | .num z :: r => by
    rw [List.map_cons, List.all_cons, nums_all r]
    show (true && _) = ((numsOf r).map (z :: ·)).isSome
    rw [Option.isSome_map, Bool.true_and]
  | .non :: r => rfl
  | .txt _ :: r => rfl
def okB (c : Cel) : Prop := okC c ∧ ∀ z, c = .num z → z.natAbs < 2 ^ 100
theorem celsB_of {k : Kd} {ds : List D} (h : ∀ d ∈ ds, CellK k d) : ∃ l : List Cel, ds = l.map cvD ∧ ∀ c ∈ l, okB c := by
  obtain ⟨l, rfl, hl⟩ := cels_of h
  refine ⟨l, rfl, fun c hc => ⟨hl c hc, fun z e => ?_⟩⟩
  subst e
  rcases h _ (List.mem_map.mpr ⟨_, hc, rfl⟩) with h | h
  · cases h
  · cases k with
    | num => obtain ⟨y, e, hy⟩ := h; cases e; exact hy
    | txt => obtain ⟨y, e, hy⟩ := h; cases e
def headC (way : Nat) (l : List Cel) : List Int := (way : Int) :: nb (l.length : Int)
def prA (way : Nat) (l : List Cel) : Option (List Int) :=
  if way = 0 then some (headC way l ++ allC l) else if way = 1 then some (headC way l ++ rbC (runsC l)) else if way = 2 then some (headC way l ++ bkC l) else
    (numsOf l).map fun xs => headC way l ++ if way = 3 then baseC xs else stpC xs
def rowD : Option (List Int) → D
  | some r => dL r
  | none => .non
theorem okBs {l : List Cel} {xs : List Int} (h : ∀ c ∈ l, okB c) (e : numsOf l = some xs) : Bnd 100 xs := fun z hz => (h (.num z) (by rw [nums_some e]; exact List.mem_map.mpr ⟨z, hz, rfl⟩)).2 z rfl
theorem prA_len {way : Nat} {l : List Cel} {r : List Int} (hl1 : 1 ≤ l.length) (hl : l.length ≤ 100) (hb : ∀ c ∈ l, okB c) (e : prA way l = some r) : r.length ≤ 200000 := by
  have hc : ∀ c ∈ l, okC c := fun c hm => (hb c hm).1
  obtain ⟨h1, h2, h3⟩ := prC_len (way := way) hl hc
  obtain ⟨k1, k2, k3⟩ := bkC_len hl hc
  unfold prA headC at e
  split at e
  · cases e; rw [List.length_append, List.length_cons]; omega
  split at e
  · cases e; rw [List.length_append, List.length_cons]; omega
  split at e
  · cases e; rw [List.length_append, List.length_cons]; unfold bkC; rw [List.length_append, List.length_append]; omega
  · obtain ⟨xs, e1, rfl⟩ := Option.map_eq_some_iff.mp e
    have hx := okBs hb e1
    have hxl : xs.length = l.length := by rw [nums_some e1, List.length_map]
    obtain ⟨a1, a2⟩ := baseC_len (by omega) hx
    obtain ⟨b1, b2, b3⟩ := stpC_len (by omega) hx
    rw [List.length_append, List.length_cons]
    split
    · unfold baseC; rw [List.length_append]; omega
    · unfold stpC; rw [List.length_append, List.length_append]; omega
def wPressA : VSp := fun ds m P _ => ∃ (l : List Cel) (x : D) (way : Nat), ds = [.int way, x] ∧ (x = .lst (l.map cvD) ∨ x = .tup (l.map cvD)) ∧ 1 ≤ l.length ∧ l.length ≤ 100 ∧ (∀ c ∈ l, okB c) ∧ way ≤ 4 ∧ P (rowD (prA way l)) m
theorem p_press_by {K : PySem.W.Frag} (ds : List D) (m : Mst) (P : D → Mst → Prop) (VX : XV) (h : wPressA ds m P VX) : ds.length = 2 ∧ v_press_by K wNb wAllBytes wRunBytes wBookBytes wIsNum wBase wStp (vends P) (vstart N_press_by.length ds) m := by
  obtain ⟨l, x, way, rfl, hx, hl1, hl, hb, hw, hP⟩ := h
  refine ⟨rfl, ?_⟩
  have hc : ∀ c ∈ l, okC c := fun c hm => (hb c hm).1
  obtain ⟨h1, h2, h3⟩ := prC_len (way := way) hl hc
  obtain ⟨k1, k2, k3⟩ := bkC_len hl hc
  unfold v_press_by
  walk_at "vw"
  refine e_lenX hx ?_
  rw [List.length_map]
  walk_at "vw"
  refine ⟨_, rfl, nbn_ok (by omega), ?_⟩
  refine e_addL (by rw [List.length_map]; show 1 + _ ≤ _; omega) ?_
  rw [dl_cons]
  walk_at "vw"
  by_cases w0 : way = 0
  · subst w0
    walk_at "vw"
    refine ⟨l, x, rfl, hx, hl, hc, ?_⟩
    refine e_addL (by rw [List.length_map, List.length_map, List.length_cons]; omega) ?_
    rw [dl_app]
    exact hP
  by_cases w1 : way = 1
  · subst w1
    walk_at "vw"
    refine ⟨l, x, rfl, hx, hl, hc, ?_⟩
    refine e_addL (by rw [List.length_map, List.length_map, List.length_cons]; omega) ?_
    rw [dl_app]
    exact hP
  by_cases w2 : way = 2
  · subst w2
    walk_at "vw"
    refine ⟨l, x, rfl, hx, hl1, hl, hc, ?_⟩
    refine e_addL (by rw [List.length_map, List.length_map, List.length_cons]; unfold bkC; rw [List.length_append, List.length_append]; omega) ?_
    rw [dl_app]
    exact hP
  have e3 : prA way l = (numsOf l).map fun xs => headC way l ++ if way = 3 then baseC xs else stpC xs := by
    unfold prA
    rw [if_neg w0, if_neg w1, if_neg w2]
  rw [e3] at hP
  refine w_ifFd (by omega) ?_
  walk_at "vw"
  refine w_ifFd (by omega) ?_
  walk_at "vw"
  refine w_ifFd (by omega) ?_
  walk_at "vw"
  refine e_itX hx ?_
  refine lc_mapL (xs := l) (g := cvD) (h := fun c => .bl (isNum c)) (by omega) (fun j c Q ec hQ => ?_) ?_
  · walk_at "vw"
    exact ⟨c, rfl, hQ⟩
  rw [show l.map (fun c => D.bl (isNum c)) = (l.map isNum).map D.bl by rw [List.map_map]; rfl]
  walk_at "vw"
  refine e_all ?_
  rw [nums_all]
  cases en : numsOf l with
  | none =>
    rw [en] at hP
    walk_at "vw"
    exact hP
  | some xs =>
    rw [en] at hP
    have hx2 := okBs hb en
    have hxl : xs.length = l.length := by rw [nums_some en, List.length_map]
    have hxx : x = .lst (xs.map D.int) ∨ x = .tup (xs.map D.int) := by
      rw [nums_some en, List.map_map] at hx
      exact hx
    obtain ⟨a1, a2⟩ := baseC_len (by omega) hx2
    obtain ⟨b1, b2, b3⟩ := stpC_len (by omega) hx2
    rw [show (some xs).isSome = true from rfl]
    walk_at "vw"
    by_cases w3 : way = 3
    · subst w3
      walk_at "vw"
      refine ⟨xs, x, rfl, hxx, by omega, by omega, hx2, ?_⟩
      refine e_addL (by rw [List.length_map, List.length_map, List.length_cons]; unfold baseC; rw [List.length_append]; omega) ?_
      rw [dl_app]
      exact hP
    · have w4 : way = 4 := by omega
      subst w4
      walk_at "vw"
      refine ⟨xs, x, rfl, hxx, by omega, by omega, hx2, ?_⟩
      refine e_addL (by rw [List.length_map, List.length_map, List.length_cons]; unfold stpC; rw [List.length_append, List.length_append]; omega) ?_
      rw [dl_app]
      exact hP
def wOwnPressA : VSp := fun ds m P _ => ∃ (l : List Cel) (way : Nat), ds = [.int way, .lst (l.map cvD)] ∧ 1 ≤ l.length ∧ l.length ≤ 100 ∧ (∀ c ∈ l, okB c) ∧ way ≤ 4 ∧ P (rowD (prA way l)) m
theorem any_not : ∀ (l : List Cel), (l.map fun c => !isNum c).any id = !(numsOf l).isSome
  | [] => rfl
  | .num z :: r => by
    rw [List.map_cons, List.any_cons, any_not r]
    show (false || _) = !((numsOf r).map (z :: ·)).isSome
    rw [Option.isSome_map, Bool.false_or]
  | .non :: r => rfl
  | .txt _ :: r => rfl
theorem e_neNilG {l : List D} {Z : D → Prop} (hd : Gd 2 (.lst l)) (h : Z (.bl (!l.isEmpty))) : vNeC (.lst l) (.lst []) Z := by
  have he : PyData.eqv (D.lst l).py (D.lst []).py = l.isEmpty := by
    rw [D.py, D.py, PyData.eqv]
    cases l with
    | nil => rfl
    | cons x r => rw [D.pys, D.pys, PyData.eqvAll]; rfl
  refine e_neG (n := 2) rfl (by decide) hd ⟨by simp, by simp⟩ ?_
  rw [he]; exact h
theorem e_minOr {xs : List Int} {i : Nat} {env : Env} {m : Mst} {P : D → Mst → Prop} (hx : env[i]? = some (some (.lst (xs.map D.int)))) (hl : xs.length ≤ 100) (h : P (.int (mnI xs)) m) : vIfE (vTest (vOp vNeC (vVar i) (vLst vNil))) (vCB vMinU (vCons (vVar i) vNil)) (vC (.int 0)) env m P := by
  refine e_ifE (e_test (e_op (e_var hx (e_lst (e_nil (e_len rfl (e_neNilG (gd_dL (l := xs) (by omega)) ⟨_, rfl, ?_⟩)))))))
  cases xs with
  | nil => exact h
  | cons y r => exact e_cb (e_cons (e_var hx (e_nil (e_minUL (e_min1 (by simp) h)))))
theorem steps_at {xs : List Int} {i : Nat} (h : i + 1 < xs.length) : (stepsI xs)[i]? = some (xs[i + 1] - xs[i]) := by
  unfold stepsI
  rw [List.getElem?_zipWith, List.getElem?_eq_getElem (by omega : i < xs.length), List.getElem?_tail, List.getElem?_eq_getElem h]
theorem p_own_press {K : PySem.W.Frag} (ds : List D) (m : Mst) (P : D → Mst → Prop) (VX : XV) (h : wOwnPressA ds m P VX) : ds.length = 2 ∧ v_own_press K wNb wOwnRuns wOwnBook wCb wSmall (vends P) (vstart N_own_press.length ds) m := by
  obtain ⟨l, way, rfl, hl1, hl, hb, hw, hP⟩ := h
  obtain ⟨q0, s0⟩ := m
  refine ⟨rfl, ?_⟩
  have hc : ∀ c ∈ l, okC c := fun c hm => (hb c hm).1
  obtain ⟨h1, h2, h3⟩ := prC_len (way := way) hl hc
  obtain ⟨k1, k2, k3⟩ := bkC_len hl hc
  unfold v_own_press
  walk_at "vw"
  rw [List.length_map]
  refine ⟨_, rfl, nbn_ok (by omega), ?_⟩
  refine e_addL (by rw [List.length_map]; show 1 + _ ≤ _; omega) ?_
  rw [dl_cons]
  walk_at "vw"
  by_cases w1 : way = 1
  · subst w1
    walk_at "vw"
    refine ⟨l, _, rfl, rfl, hl, hc, ?_⟩
    refine e_addL (by rw [List.length_map, List.length_map, List.length_cons]; omega) ?_
    rw [dl_app]
    exact hP
  refine w_ifFd (by omega) ?_
  walk_at "vw"
  by_cases w2 : way = 2
  · subst w2
    walk_at "vw"
    refine ⟨l, rfl, hl1, hl, hc, ?_⟩
    refine e_addL (by rw [List.length_map, List.length_map, List.length_cons]; unfold bkC; rw [List.length_append, List.length_append]; omega) ?_
    rw [dl_app]
    exact hP
  refine w_ifFd (by omega) ?_
  walk_at "vw"
  by_cases w0 : way = 0
  · subst w0
    walk_at "vw"
    refine for_inv (fun i e m' => m' = (q0, s0) ∧ e = [none, none, some (dL (((0 : Nat) : Int) :: nb l.length ++ allC (l.take i))), none, none, none, none, none]) ⟨rfl, ?_⟩ ?_ ?_
    · rw [List.take_zero]; show _ = [none, none, some (dL (_ ++ [])), none, none, none, none, none]; rw [List.append_nil]; rfl
    · rintro i e m' d hi ⟨rfl, rfl⟩ ed
      obtain ⟨c, ec, rfl⟩ := cel_at ed
      rw [List.length_map] at hi
      have hcc := hc c (List.mem_of_getElem? ec)
      have h4 := cb_len hcc
      have h5 : (allC (l.take i)).length ≤ 1040 * (l.take i).length := flat_len fun c hm => cb_len (hc c (List.mem_of_mem_take hm))
      rw [List.length_take] at h5
      walk_at "vw"
      refine ⟨c, rfl, hcc, ?_⟩
      refine e_addL (x := (((0 : Nat) : Int) :: nb l.length ++ allC (l.take i)).map D.int) (y := (cb c).map D.int) (by simp only [List.length_map, List.length_append, List.length_cons] at *; omega) ?_
      refine ⟨rfl, ?_⟩
      show [none, none, some (D.lst (_ ++ _)), none, none, none, none, none] = _
      rw [dl_app, List.append_assoc]
      unfold allC
      rw [flat_succ ec]
    · rintro e m' ⟨rfl, rfl⟩
      rw [List.length_map, List.take_length]
      walk_at "vw"
      exact hP
  refine w_ifFd (by omega) ?_
  have e3 : prA way l = (numsOf l).map fun xs => headC way l ++ if way = 3 then baseC xs else stpC xs := by
    unfold prA
    rw [if_neg w0, if_neg w1, if_neg w2]
  rw [e3] at hP
  walk_at "vw"
  refine lc_mapL (xs := l) (g := cvD) (h := fun c => .bl (!isNum c)) (by omega) (fun j c Q ec hQ => ?_) ?_
  · cases c with
    | non =>
      walk_at "vw"
      exact hQ
    | num z =>
      walk_at "vw"
      rw [show (cvD (.num z)).isN = false from rfl]
      walk_at "vw"
      exact hQ
    | txt ks =>
      walk_at "vw"
      rw [show (cvD (.txt ks)).isN = false from rfl]
      walk_at "vw"
      exact hQ
  rw [show l.map (fun c => D.bl (!isNum c)) = (l.map fun c => !isNum c).map D.bl by rw [List.map_map]; rfl]
  walk_at "vw"
  refine e_any ?_
  rw [any_not]
  cases en : numsOf l with
  | none =>
    rw [en] at hP
    walk_at "vw"
    exact hP
  | some xs =>
    rw [en] at hP
    have hx2 := okBs hb en
    have hxl : xs.length = l.length := by rw [nums_some en, List.length_map]
    have hxx : l.map cvD = xs.map D.int := by rw [nums_some en, List.map_map]; rfl
    rw [hxx]
    obtain ⟨a1, a2⟩ := baseC_len (by omega) hx2
    obtain ⟨b1, b2, b3⟩ := stpC_len (by omega) hx2
    rw [show (some xs).isSome = true from rfl]
    walk_at "vw"
    by_cases w3 : way = 3
    · subst w3
      walk_at "vw"
      refine e_min1 (by omega) ?_
      walk_at "vw"
      refine ⟨_, rfl, nbb (mnI_bnd hx2) (by decide), ?_⟩
      refine e_addL (by rw [List.length_map, List.length_map, List.length_cons]; omega) ?_
      rw [dl_app]
      walk_at "vw"
      refine lc_mapL (xs := xs) (g := D.int) (h := fun z => .int (z - mnI xs)) (by omega) (fun j z Q ec hQ => ?_) ?_
      · walk_at "vw"
        refine e_min1 (by omega) ?_
        walk_at "vw"
        exact hQ
      walk_at "vw"
      refine ⟨offs xs, by rw [offs_ins]; show [D.lst _] = [D.lst _]; rw [List.map_map]; rfl, by rw [offs_len]; omega, offs_lt hx2 (by decide), ?_⟩
      refine e_addL (by rw [List.length_map, List.length_map, List.length_append, List.length_cons]; omega) ?_
      rw [dl_app, List.append_assoc]
      exact hP
    · have w4 : way = 4 := by omega
      subst w4
      have hs := steps_bnd hx2
      have hsl := steps_len xs
      have h0 : xs[0]? = some (xs.headD 0) := by cases xs with | nil => simp at hxl; omega | cons y r => rfl
      walk_at "vw"
      rw [List.length_map, show ((xs.length : Int) - 1) = ((xs.length - 1 : Nat) : Int) by omega]
      refine e_itR (by omega) ?_
      refine lc_map (f := fun i => .int (((stepsI xs)[i]?).getD 0)) (by rw [rangeD_len]; omega) (fun i d Q ed hQ => ?_) ?_
      · obtain ⟨hi, rfl⟩ := rangeD_at ed
        have hi2 : i + 1 < xs.length := by omega
        have e2 := steps_at hi2
        rw [e2] at hQ
        rw [Int.zero_add]
        walk_at "vw"
        rw [show (i : Int) + 1 = ((i + 1 : Nat) : Int) by push_cast; rfl]
        refine e_ixL (atI_nat (by rw [List.getElem?_map, List.getElem?_eq_getElem hi2]; rfl)) ?_
        walk_at "vw"
        refine e_ixL (atI_nat (by rw [List.getElem?_map, List.getElem?_eq_getElem (by omega : i < xs.length)]; rfl)) ?_
        walk_at "vw"
        exact hQ
      rw [rangeD_len]
      have es : (List.range (xs.length - 1)).map (fun i => D.int (((stepsI xs)[i]?).getD 0)) = (stepsI xs).map D.int := by
        refine List.ext_getElem (by simp [hsl]) fun i h1 h2 => ?_
        rw [List.getElem_map, List.getElem_map, List.getElem_range]
        rw [List.length_map] at h2
        rw [List.getElem?_eq_getElem h2]; rfl
      rw [es]
      walk_at "vw"
      refine e_minOr rfl (by omega) ?_
      walk_at "vw"
      refine e_ixL (by show atI (xs.map D.int) ((0 : Nat) : Int) = _; exact atI_nat (by rw [List.getElem?_map, h0]; rfl)) ?_
      walk_at "vw"
      have hh : (xs.headD 0).natAbs < 2 ^ 100 := hx2 _ (List.mem_of_getElem? h0)
      refine ⟨_, rfl, nbb hh (by decide), ?_⟩
      refine e_addL (by rw [List.length_map, List.length_map, List.length_cons]; omega) ?_
      rw [dl_app]
      walk_at "vw"
      refine ⟨_, rfl, nbb (mnI_bnd hs) (by decide), ?_⟩
      refine e_addL (by rw [List.length_map, List.length_map, List.length_append, List.length_cons]; omega) ?_
      rw [dl_app]
      walk_at "vw"
      refine lc_mapL (xs := stepsI xs) (g := D.int) (h := fun z => .int (z - mnI (stepsI xs))) (by rw [steps_len]; omega) (fun j z Q ec hQ => ?_) ?_
      · walk_at "vw"
        exact hQ
      walk_at "vw"
      refine ⟨offs (stepsI xs), by rw [offs_ins]; show [D.lst _] = [D.lst _]; rw [List.map_map]; rfl, by rw [offs_len, steps_len]; omega, offs_lt hs (by decide), ?_⟩
      refine e_addL (by rw [List.length_map, List.length_map, List.length_append, List.length_append, List.length_cons]; omega) ?_
      rw [dl_app, List.append_assoc, List.append_assoc]
      have e9 : ((4 : Nat) : Int) :: nb (l.length : Int) ++ (nb (xs.headD 0) ++ (nb (mnI (stepsI xs)) ++ smallC (offs (stepsI xs)))) = headC 4 l ++ if 4 = 3 then baseC xs else stpC xs := by
        rw [if_neg (by decide)]; unfold headC stpC; rw [List.append_assoc (nb _)]
      rw [e9]
      exact hP
def wStretch : VSp := fun ds m P _ => ∃ (x : Addr) (r : Nat) (s0 : Sto), ds = [.adr x] ∧ m = (some (x, r), s0) ∧ 1100 ≤ r ∧ ∀ (k : Kd) (cs : List D) (r' : Nat), 1 ≤ cs.length → cs.length ≤ 64 → (∀ c ∈ cs, CellK k c) → r ≤ r' + 1100 → P (.lst cs) (some (x, r'), s0)
theorem p_stretch {K : PySem.W.Frag} (ds : List D) (m : Mst) (P : D → Mst → Prop) (VX : XV) (h : wStretch ds m P VX) : ds.length = 1 ∧ v_stretch K vTake wCells (vends P) (vstart N_stretch.length ds) m := by
  obtain ⟨x, r, s0, rfl, rfl, hr, hP⟩ := h
  refine ⟨rfl, ?_⟩
  unfold v_stretch
  walk_at "vw"
  refine e_take (by omega) (by decide) (by decide) fun z1 r1 g1 h1 hr1 => ?_
  obtain ⟨k, ek⟩ : ∃ k : Kd, L2.atI [D.str "number", D.str "number", D.str "text"] z1 = some (kdD k) := by
    rcases (show z1 = 0 ∨ z1 = 1 ∨ z1 = 2 by omega) with rfl | rfl | rfl
    · exact ⟨.num, rfl⟩
    · exact ⟨.num, rfl⟩
    · exact ⟨.txt, rfl⟩
  refine e_ixL ek ?_
  walk_at "vw"
  refine e_take (by omega) (by decide) (by decide) fun z2 r2 g2 h2 hr2 => ?_
  walk_at "vw"
  refine e_take (by omega) (by decide) (by decide) fun z3 r3 g3 h3 hr3 => ?_
  walk_at "vw"
  refine e_take (by omega) (by decide) (by decide) fun z4 r4 g4 h4 hr4 => ?_
  walk_at "vw"
  refine e_take (by omega) (by decide) (by decide) fun z5 r5 g5 h5 hr5 => ?_
  walk_at "vw"
  obtain ⟨n, hn1, hn64, en⟩ : ∃ n : Nat, 1 ≤ n ∧ n ≤ 64 ∧ L2.atI [D.int (1 + z2), D.int (1 + z3), D.int (63 + z4)] (z5 / 2) = some (.int n) := by
    rcases (show z5 / 2 = 0 ∨ z5 / 2 = 1 ∨ z5 / 2 = 2 by omega) with e | e | e <;> rw [e]
    · exact ⟨(1 + z2).toNat, by omega, by omega, by rw [Int.toNat_of_nonneg (by omega)]; rfl⟩
    · exact ⟨(1 + z3).toNat, by omega, by omega, by rw [Int.toNat_of_nonneg (by omega)]; rfl⟩
    · exact ⟨(63 + z4).toNat, by omega, by omega, by rw [Int.toNat_of_nonneg (by omega)]; rfl⟩
  refine e_ixL en ?_
  walk_at "vw"
  exact ⟨x, r5, s0, n, k, rfl, by omega, rfl, by omega, fun cs r6 hcl hcs hr6 => hP k cs r6 (by omega) (by omega) hcs (by omega)⟩
def t_pressed (K : PySem.W.Frag) (s_press_by_ : Sp) : TS :=
      (tSeq (tAsg (tLc (iRng1 (tCons (tC (.int 5)) tNil)) (gName 1) tYes (tCall s_press_by_ [] E0 (tCons (tVar 1) (tCons (tVar 0) tNil))) [1]) (gName 2))
      (tSeq (tAsg (tLc (iSeqV K (tVar 2)) (gName 3) (tTest (tOp (rNotN) (tVar 3) (tC .non))) (tVar 3) [3]) (gName 2))
      (tRet (tMinLen K (tCons (tVar 2) tNil)))))
abbrev N_pressed : List Str := [("cells" : Str), ("way" : Str), ("rows" : Str), ("row" : Str)]
def v_pressed (K : PySem.W.Frag) (vs_press_by : VSp) : VS :=
      (vSeqS (vAsg (vLc (vRng1 (vCons (vC (.int 5)) vNil)) (vgName 1) vYes (vBox (vCall vs_press_by (vCons (vVar 1) (vCons (vVar 0) vNil)))) [1]) (vgName 2))
      (vSeqS (vAsg (vLc (vSeq (vVar 2)) (vgName 3) (vTest (vOp vNotN (vVar 3) (vC .non))) (vVar 3) [3]) (vgName 2))
      (vRet (vMinLenS (vVar 2)))))
theorem sim_pressed {K : PySem.W.Frag} {vs_press_by : VSp} {vsp : VSp} (hv : ∀ ds m P VX, vsp ds m P VX → ds.length = 1 ∧ v_pressed K vs_press_by (vends P) (vstart N_pressed.length ds) m) :
    ∀ us H Q E, spV K .F vsp us H Q E → t_pressed K (spV K .O vs_press_by) { nx := fun _ H' => Q .non H', rt := Q } (L2.start N_pressed us) H :=
  sim_def (n := 1) (t := .F) (N := N_pressed) (Γn := [.F, .F, .F, .F]) (Γb := []) (Γc := []) (ts := fun E => t_pressed K (spV K .O vs_press_by)) (vs := fun VX => v_pressed K vs_press_by) (by decide) (fun c W VX hK hx => by
    subst hK
    exact (x_seq (x_asgO (i := 2) (s_lc (vs := [1]) (i_rng1 (g_cons (SO.f s_int) g_nil)) (by rfl) (tg_name (is := [1]) (by rfl) (by decide)) s_yes (s_box (s_callO (g_cons (s_varF (by rfl)) (g_cons (s_varF (by rfl)) g_nil))))))
      (x_seq (x_pre (Γ1 := [.F, .F, .F, .F]) (x_asgO (i := 2) (s_lc (vs := [3]) (i_seq (s_varF (by rfl))) (by rfl) (tg_name (is := [3]) (by rfl) (by decide)) (s_test (SO.b (s_op o_notN (SF.b (s_varF (by rfl))) (SO.b s_non)))) (s_varF (by rfl)))))
      (x_retF (s_minLenS (s_varB (t := .O) (by rfl))))))) hv
def t_law (K : PySem.W.Frag) (s_begin_ : Sp) (s_stretch_ : Sp) (s_own_press_ : Sp) (s_pressed_ : Sp) (s_same_ : Sp) : TS :=
      (tSeq (tAsg (tCall s_begin_ [] E0 (tCons (tVar 0) tNil)) (gName 1))
      (tSeq (tFor (iRng1 (tCons (tC (.int 8)) tNil)) (gName 2)
      (tSeq (tAsg (tCall s_stretch_ [] E0 (tCons (tVar 1) tNil)) (gName 3))
      (tSeq (tAsg (tC .non) (gName 4))
      (tSeq (tFor (iRng1 (tCons (tC (.int 5)) tNil)) (gName 5)
      (tSeq (tAsg (tCall s_own_press_ [] E0 (tCons (tVar 5) (tCons (tVar 3) tNil))) (gName 6))
      (tIfS (tAnd (tTest (tOp (rNotN) (tVar 6) (tC .non))) (tOr (tTest (tOp (rIsN) (tVar 4) (tC .non))) (tTest (tOp (rLtU K) (tCB (rLenU K) (tCons (tVar 6) tNil)) (tCB (rLenU K) (tCons (tVar 4) tNil))))))
      (tAsg (tVar 6) (gName 4))
      tNext)))
      (tSeq (tAsg (tCB (rListU K) (tCons (tVar 3) tNil)) (gName 7))
      (tSeq (tAsg (tCall s_pressed_ [] E0 (tCons (tVar 7) tNil)) (gName 8))
      (tSeq (tIfS (tOr (tNot (tTru K (tCall s_same_ [] E0 (tCons (tVar 8) (tCons (tVar 4) tNil))))) (tTest (tOp (rNeU K) (tVar 7) (tVar 3))))
      (tRet (tC (.bl false)))
      tNext)
      (tSeq (tDrop (tBM0 K "list" (rReverse) (tVar 8)))
      (tIfS (tNot (tTru K (tCall s_same_ [] E0 (tCons (tCall s_pressed_ [] E0 (tCons (tCB (rTupU K) (tCons (tVar 3) tNil)) tNil)) (tCons (tVar 4) tNil)))))
      (tRet (tC (.bl false)))
      tNext)))))))))
      (tRet (tC (.bl true)))))
abbrev N_law : List Str := [("_law_script" : Str), ("_law_state" : Str), ("_law_turn" : Str), ("_law_cells_here" : Str), ("_law_due" : Str), ("_law_way" : Str), ("_law_row" : Str), ("_law_handed" : Str), ("_law_found" : Str)]
def v_law (K : PySem.W.Frag) (vs_begin : VSp) (vs_stretch : VSp) (vs_own_press : VSp) (vs_pressed : VSp) (vs_same : VSp) : VS :=
      (vSeqS (vAsg (vCall vs_begin (vCons (vVar 0) vNil)) (vgName 1))
      (vSeqS (vFor [0, 2, 3, 4, 5, 6, 7, 8] (vRng1 (vCons (vC (.int 8)) vNil)) (vgName 2)
      (vSeqS (vAsg (vCall vs_stretch (vCons (vVar 1) vNil)) (vgName 3))
      (vSeqS (vAsg (vC .non) (vgName 4))
      (vSeqS (vFor [0, 2, 5, 6, 7, 8] (vRng1 (vCons (vC (.int 5)) vNil)) (vgName 5)
      (vSeqS (vAsg (vCall vs_own_press (vCons (vVar 5) (vCons (vVar 3) vNil))) (vgName 6))
      (vIf (vAnd (vTest (vOp vNotN (vVar 6) (vC .non))) (vOr (vTest (vOp vIsN (vVar 4) (vC .non))) (vTest (vOp vLt (vCB vLen (vCons (vVar 6) vNil)) (vCB vLen (vCons (vVar 4) vNil))))))
      (vAsg (vVar 6) (vgName 4))
      vNext)))
      (vSeqS (vAsg (vCB vList (vCons (vVar 3) vNil)) (vgName 7))
      (vSeqS (vAsg (vCall vs_pressed (vCons (vVar 7) vNil)) (vgName 8))
      (vSeqS (vIf (vOr (vNot (vTru (vCallB .O vs_same (vCons (vVar 8) (vCons (vVar 4) vNil))))) (vTest (vOp vNeC (vVar 7) (vVar 3))))
      (vRet (vC (.bl false)))
      vNext)
      (vSeqS (vMutS vReverse (vVar 8) vNil)
      (vIf (vNot (vTru (vCallB .O vs_same (vCons (vCall vs_pressed (vCons (vCB vTupC (vCons (vVar 3) vNil)) vNil)) (vCons (vVar 4) vNil)))))
      (vRet (vC (.bl false)))
      vNext)))))))))
      (vRet (vC (.bl true)))))
theorem sim_law {K : PySem.W.Frag} {vs_begin : VSp} {vs_stretch : VSp} {vs_own_press : VSp} {vs_pressed : VSp} {vs_same : VSp} {vsp : VSp} (hv : ∀ ds m P VX, vsp ds m P VX → ds.length = 1 ∧ v_law K vs_begin vs_stretch vs_own_press vs_pressed vs_same (vends P) (vstart N_law.length ds) m) :
    ∀ us H Q E, spV K .O vsp us H Q E → t_law K (spV K .O vs_begin) (spV K .O vs_stretch) (spV K .O vs_own_press) (spV K .F vs_pressed) (spV K .O vs_same) { nx := fun _ H' => Q .non H', rt := Q } (L2.start N_law us) H :=
  sim_def (n := 1) (t := .O) (N := N_law) (Γn := [.F, .F, .F, .F, .F, .F, .F, .F, .F]) (Γb := []) (Γc := []) (ts := fun E => t_law K (spV K .O vs_begin) (spV K .O vs_stretch) (spV K .O vs_own_press) (spV K .F vs_pressed) (spV K .O vs_same)) (vs := fun VX => v_law K vs_begin vs_stretch vs_own_press vs_pressed vs_same) (by decide) (fun c W VX hK hx => by
    subst hK
    exact (x_seq (x_asgO (i := 1) (s_callO (g_cons (s_varF (by rfl)) g_nil)))
      (x_seq (x_pre (Γ1 := [.F, .F, .F, .F, .F, .F, .F, .F, .F]) (x_for (Γ' := [.F, .F, .F, .F, .F, .F, .F, .F, .F]) (ws := [0, 2, 3, 4, 5, 6, 7, 8]) (i_rng1 (g_cons (SO.f s_int) g_nil)) (tg_name (is := [2]) (by rfl) (by decide))
      (x_seq (x_asgO (i := 3) (s_callO (g_cons (s_varF (by rfl)) g_nil)))
      (x_seq (x_asgO (i := 4) s_non)
      (x_seq (x_pre (Γ1 := [.F, .F, .F, .F, .F, .F, .F, .F, .F]) (x_for (Γ' := [.F, .F, .F, .F, .F, .F, .F, .F, .F]) (ws := [0, 2, 5, 6, 7, 8]) (i_rng1 (g_cons (SO.f s_int) g_nil)) (tg_name (is := [5]) (by rfl) (by decide))
      (x_seq (x_asgO (i := 6) (s_callO (g_cons (s_varF (by rfl)) (g_cons (s_varF (by rfl)) g_nil))))
      (x_if (Γn := [.F, .F, .F, .F, .F, .F, .F, .F, .F]) (s_and (s_test (SO.b (s_op o_notN (s_varB (t := .O) (by rfl)) (SO.b s_non)))) (s_or (s_test (SO.b (s_op o_isN (SF.b (s_varF (by rfl))) (SO.b s_non)))) (s_test (SO.b (s_op o_lt (SO.b (s_cb l_len (a_cons (s_varB (t := .O) (by rfl)) a_nil))) (SO.b (s_cb l_len (a_cons (SF.b (s_varF (by rfl))) a_nil))))))))
      (x_pre (Γ1 := [.F, .F, .F, .F, .F, .F, .F, .F, .F]) (x_asgF (i := 4) (s_varF (by rfl))))
      (x_post (Γ1 := [.F, .F, .F, .F, .F, .F, .O, .F, .F]) (Γn := [.F, .F, .F, .F, .F, .F, .F, .F, .F]) x_next)))))
      (x_seq (x_asgO (i := 7) (s_cb l_list (a_cons (SF.b (s_varF (by rfl))) a_nil)))
      (x_seq (x_pre (Γ1 := [.F, .F, .F, .F, .F, .F, .F, .F, .F]) (x_asgF (i := 8) (s_callF (g_cons (s_varF (by rfl)) g_nil))))
      (x_seq (x_if (Γn := [.F, .F, .F, .F, .F, .F, .F, .F, .F]) (s_or (s_not (s_tru (SO.b (s_callB (a_cons (SF.b (s_varF (by rfl))) (a_cons (SF.b (s_varF (by rfl))) a_nil)))))) (s_test (SO.b (s_op o_ne (SF.b (s_varF (by rfl))) (SF.b (s_varF (by rfl)))))))
      (x_retO s_bl)
      x_next)
      (x_seq (x_mutS0 u_reverse (s_varF (by rfl)))
      (x_if (Γn := [.F, .F, .F, .F, .F, .F, .F, .F, .F]) (s_not (s_tru (SO.b (s_callB (a_cons (SF.b (s_callF (g_cons (SO.f (s_cb l_tup (a_cons (SF.b (s_varF (by rfl))) a_nil))) g_nil))) (a_cons (SF.b (s_varF (by rfl))) a_nil))))))
      (x_retO s_bl)
      x_next))))))))))
      (x_retO s_bl)))) hv
def FS (rs : List (List Int)) (r : List Int) : Prop := ∃ i : Nat, rs[i]? = some r ∧ ∀ (j : Nat) (q : List Int), rs[j]? = some q → r.length ≤ q.length ∧ (j < i → r.length < q.length)
theorem fs_one {r q : List Int} {rs : List (List Int)} (h1 : FS rs r) (h2 : FS rs q) : r = q := by
  obtain ⟨i, ei, hi⟩ := h1
  obtain ⟨j, ej, hj⟩ := h2
  have a1 := hi j q ej
  have a2 := hj i r ei
  rcases Nat.lt_trichotomy i j with h | h | h
  · have := a2.2 h; omega
  · subst h; rw [ei] at ej; cases ej; rfl
  · have := a1.2 h; omega
theorem fs_first (x : List Int) : FS [x] x := ⟨0, rfl, fun j q e => by
  cases j with
  | zero => cases e; exact ⟨Nat.le_refl _, fun h => absurd h (by omega)⟩
  | succ j => simp at e⟩
theorem fs_new {rs : List (List Int)} {r x : List Int} (h : FS rs r) (hx : x.length < r.length) : FS (rs ++ [x]) x := ⟨rs.length, by simp, fun j q e => by
  obtain ⟨i, ei, hi⟩ := h
  by_cases hj : j < rs.length
  · rw [List.getElem?_append_left hj] at e
    have := (hi j q e).1
    exact ⟨by omega, fun _ => by omega⟩
  · have : j = rs.length := by
      have := (List.getElem?_eq_some_iff.mp e).1
      rw [List.length_append, List.length_singleton] at this
      omega
    subst this
    simp at e; subst e
    exact ⟨Nat.le_refl _, fun h => absurd h (by omega)⟩⟩
theorem fs_old {rs : List (List Int)} {r x : List Int} (h : FS rs r) (hx : ¬ x.length < r.length) : FS (rs ++ [x]) r := by
  obtain ⟨i, ei, hi⟩ := h
  have hl := (List.getElem?_eq_some_iff.mp ei).1
  refine ⟨i, by rw [List.getElem?_append_left hl]; exact ei, fun j q e => ?_⟩
  by_cases hj : j < rs.length
  · rw [List.getElem?_append_left hj] at e
    exact hi j q e
  · have : j = rs.length := by
      have := (List.getElem?_eq_some_iff.mp e).1
      rw [List.length_append, List.length_singleton] at this
      omega
    subst this
    simp at e; subst e
    exact ⟨by omega, fun h => absurd h (by omega)⟩
def rowsC (l : List Cel) (i : Nat) : List (List Int) := (List.range i).filterMap fun w => prA w l
theorem rowsC_none {l : List Cel} {i : Nat} (e : prA i l = none) : rowsC l (i + 1) = rowsC l i := by unfold rowsC; rw [List.range_succ, List.filterMap_append]; simp [e]
theorem rowsC_some {l : List Cel} {i : Nat} {r : List Int} (e : prA i l = some r) : rowsC l (i + 1) = rowsC l i ++ [r] := by unfold rowsC; rw [List.range_succ, List.filterMap_append]; simp [e]
def oR (o : Option (Addr × List Int)) : D := match o with
  | none => .non
  | some p => .adr p.1
theorem oR_map : ∀ (ps : List (Option (Addr × List Int))), (ps.filter Option.isSome).map oR = (ps.filterMap id).map fun p => .adr p.1
  | [] => rfl
  | none :: r => by rw [List.filter_cons_of_neg (by simp)]; exact oR_map r
  | some p :: r => by rw [List.filter_cons_of_pos rfl, List.map_cons, oR_map r]; rfl
theorem rowsC_ps {l : List Cel} {i : Nat} {ps : List (Option (Addr × List Int))} (h : ps.map (Option.map Prod.snd) = (List.range i).map fun w => prA w l) : (ps.filterMap id).map Prod.snd = rowsC l i := by
  have e : ∀ qs : List (Option (Addr × List Int)), (qs.filterMap id).map Prod.snd = (qs.map (Option.map Prod.snd)).filterMap id := fun qs => by
    induction qs with
    | nil => rfl
    | cons a r ih => cases a with
      | none => exact ih
      | some p => show p.2 :: _ = p.2 :: _; rw [← ih]
  rw [e, h, List.filterMap_map]
  rfl
def wPressedS : VSp := fun ds m P _ => ∃ (l : List Cel) (x : D), ds = [x] ∧ (x = .lst (l.map cvD) ∨ x = .tup (l.map cvD)) ∧ 1 ≤ l.length ∧ l.length ≤ 100 ∧ (∀ c ∈ l, okB c) ∧ ∀ (y : Addr) (r : List Int), m.2 y = none → FS (rowsC l 5) r → P (.adr y) (m.1, sput m.2 y (dL r))
theorem p_pressed {K : PySem.W.Frag} (ds : List D) (m : Mst) (P : D → Mst → Prop) (VX : XV) (h : wPressedS ds m P VX) : ds.length = 1 ∧ v_pressed K wPressA (vendsG P) (vstart N_pressed.length ds) m := by
  obtain ⟨l, x, rfl, hx, hl1, hl, hb, hP⟩ := h
  obtain ⟨q0, s0⟩ := m
  refine ⟨rfl, ?_⟩
  unfold v_pressed
  walk_at "vw"
  refine e_itR (j := 5) (by omega) ?_
  refine ⟨fun i acc m' => i ≤ 5 ∧ ∃ (s : Sto) (ps : List (Option (Addr × List Int))), m' = (q0, s) ∧ acc = ps.map oR ∧ ps.map (Option.map Prod.snd) = ((List.range i).map fun w => prA w l) ∧ SubS s0 s ∧ ∀ p, some p ∈ ps → s p.1 = some (dL p.2) ∧ s0 p.1 = none, ⟨by omega, s0, [], rfl, rfl, rfl, SubS.refl _, by simp⟩, ?_, ?_⟩
  · rintro i acc m' d ⟨_, s, ps, rfl, rfl, hps, hss, hst⟩ ed
    obtain ⟨hi, rfl⟩ := rangeD_at ed
    rw [Int.zero_add]
    have hpl : ps.length = i := by have := congrArg List.length hps; simpa using this
    walk_at "vw"
    refine ⟨l, x, i, rfl, hx, hl1, hl, hb, by omega, ?_⟩
    cases e : prA i l with
    | none =>
      refine ⟨sz_lt (by rw [List.length_map]; omega), by omega, s, ps ++ [none], rfl, by rw [List.map_append]; rfl, by rw [List.range_succ, List.map_append, List.map_append, hps]; simp [e], hss, fun p hp => ?_⟩
      rcases List.mem_append.mp hp with hp | hp
      · exact hst p hp
      · simp at hp
    | some r =>
      intro y hy
      refine ⟨sz_lt (by rw [List.length_map]; omega), by omega, sput s y (dL r), ps ++ [some (y, r)], rfl, by rw [List.map_append]; rfl, by rw [List.range_succ, List.map_append, List.map_append, hps]; simp [e], fun a d h => SubS.new hy a d (hss a d h), fun p hp => ?_⟩
      have hy0 : s0 y = none := by
        cases e0 : s0 y with
        | none => rfl
        | some d => cases ((hss y d e0).symm.trans hy)
      rcases List.mem_append.mp hp with hp | hp
      · obtain ⟨h1, h2⟩ := hst p hp
        have : p.1 ≠ y := fun e => by rw [e] at h1; rw [show s y = none from hy] at h1; cases h1
        exact ⟨by rw [sput_ne this]; exact h1, h2⟩
      · cases List.mem_singleton.mp hp
        exact ⟨sput_same, hy0⟩
  · rintro acc m' ⟨_, s, ps, rfl, rfl, hps, hss, hst⟩
    rw [rangeD_len] at hps
    have hpl : ps.length = 5 := by have := congrArg List.length hps; simpa using this
    walk_at "vw"
    refine lc_fltL (xs := ps) (g := oR) (h := oR) (p := Option.isSome) (by omega) (fun j o Q R ec h1 h2 => ?_) ?_
    · cases o with
      | none => walk_at "vw"; exact h2 rfl
      | some p =>
        walk_at "vw"
        rw [if_pos (show (!(oR (some p)).isN) = true from rfl)]
        walk_at "vw"
        exact h1 rfl
    rw [oR_map]
    have hrows := rowsC_ps hps
    walk_at "vw"
    refine e_minLenS ?_
    walk_at "vw"
    refine ⟨(ps.filterMap id).map fun p => (p.1, p.2.map D.int), by rw [List.map_map]; rfl, ?_, fun p hp => ?_, fun i p hp hmin => ?_⟩
    · rw [List.length_map]
      have h0 : 0 < (rowsC l 5).length := List.length_pos_of_mem (List.mem_filterMap.mpr ⟨0, by simp, rfl⟩)
      rw [← hrows, List.length_map] at h0
      exact h0
    · obtain ⟨q, hq, rfl⟩ := List.mem_map.mp hp
      obtain ⟨o, ho, rfl⟩ := List.mem_filterMap.mp hq
      exact (hst q ho).1
    · rw [List.getElem?_map] at hp
      obtain ⟨q, hq, rfl⟩ := Option.map_eq_some_iff.mp hp
      obtain ⟨o, ho, e⟩ := List.mem_filterMap.mp (List.mem_of_getElem? hq)
      obtain rfl : o = some q := e
      obtain ⟨h1, h2⟩ := hst q ho
      refine ⟨sput s0 q.1 (dL q.2), fun a d h => ?_, hP q.1 q.2 h2 ⟨i, by rw [← hrows, List.getElem?_map, hq]; rfl, fun j r er => ?_⟩⟩
      · by_cases e2 : a = q.1
        · rw [e2, sput_same] at h; rw [e2]; exact h1.trans h
        · rw [sput_ne e2] at h; exact hss a d h
      · rw [← hrows, List.getElem?_map] at er
        obtain ⟨u, hu, rfl⟩ := Option.map_eq_some_iff.mp er
        have := hmin j (u.1, u.2.map D.int) (by rw [List.getElem?_map, hu]; rfl)
        rw [List.length_map, List.length_map] at this
        exact this
theorem e_revL {ds : List D} {k : List D → D → Prop} (h : k ds.reverse .non) : vReverse ds [] k := h
theorem p_law {K : PySem.W.Frag} (ds : List D) (m : Mst) (P : D → Mst → Prop) (VX : XV) (h : vLaw ds m P VX) : ds.length = 1 ∧ v_law K vBegin wStretch wOwnPressA wPressedS (vSame 6) (vends P) (vstart N_law.length ds) m := by
  obtain ⟨ns, rfl, hns, rfl, hP⟩ := h
  refine ⟨rfl, ?_⟩
  unfold v_law
  walk_at "vw"
  refine ⟨ns, rfl, hns, rfl, fun x => ?_⟩
  walk_at "vw"
  refine e_itR (j := 8) (by omega) ?_
  refine for_inv (fun i e m' => i ≤ 8 ∧ ∃ r' s', m' = (some (x, r'), s') ∧ 2 ^ 50 ≤ r' + 4000 * i ∧ e = [none, some (.adr x), none, none, none, none, none, none, none]) ⟨by omega, 2 ^ 50, emp, rfl, by omega, by kernel_rfl⟩ ?_ ?_
  · rintro i e m' d hi ⟨_, r0, s0, rfl, hr0, rfl⟩ ed
    obtain ⟨hi, rfl⟩ := rangeD_at ed
    walk_at "vw"
    refine ⟨x, r0, s0, rfl, rfl, by omega, fun k cs r1 hc1 hc64 hcs hr1 => ?_⟩
    obtain ⟨l, rfl, hl⟩ := celsB_of hcs
    rw [List.length_map] at hc1 hc64
    have hgl : Gd 2 (.lst (l.map cvD)) := gd_lst (by rw [List.length_map]; omega) fun d hd => by
      obtain ⟨c, hm, rfl⟩ := List.mem_map.mp hd
      exact gd_cel (hl c hm).1
    walk_at "vw"
    refine e_itR (j := 5) (by omega) ?_
    refine for_inv (fun i e m' => i ≤ 5 ∧ ∃ due : Option (List Int), m' = (some (x, r1), s0) ∧ (due = none → rowsC l i = []) ∧ (∀ r, due = some r → FS (rowsC l i) r) ∧ e = [none, some (.adr x), none, some (.lst (l.map cvD)), some (rowD due), none, none, none, none]) ⟨by omega, none, rfl, fun _ => rfl, (by simp), by kernel_rfl⟩ ?_ ?_
    · rintro i e m' d hi ⟨_, due, rfl, hd0, hd1, rfl⟩ ed
      obtain ⟨hi, rfl⟩ := rangeD_at ed
      rw [Int.zero_add]
      walk_at "vw"
      refine ⟨l, i, rfl, hc1, by omega, hl, by omega, ?_⟩
      cases e : prA i l with
      | none =>
        rw [show rowD none = .non from rfl]
        walk_at "vw"
        exact ⟨by omega, due, rfl, by rw [rowsC_none e]; exact hd0, by rw [rowsC_none e]; exact hd1, by kernel_rfl⟩
      | some r =>
        rw [show rowD (some r) = .lst (r.map D.int) from rfl]
        walk_at "vw"
        cases due with
        | none =>
          rw [show rowD none = .non from rfl, if_pos (show D.non.isN = true from rfl)]
          walk_at "vw"
          refine ⟨by omega, some r, rfl, by simp, fun q hq => ?_, by kernel_rfl⟩
          cases hq
          rw [rowsC_some e, hd0 rfl]
          exact fs_first r
        | some q =>
          rw [show rowD (some q) = .lst (q.map D.int) from rfl]
          rw [if_neg (show ¬ (D.lst (q.map D.int)).isN = true from Bool.false_ne_true)]
          walk_at "vw"
          rw [List.length_map, List.length_map]
          by_cases hlt : (r.length : Int) < q.length
          · rw [if_pos (decide_eq_true hlt)]
            walk_at "vw"
            refine ⟨by omega, some r, rfl, by simp, fun z hz => ?_, by kernel_rfl⟩
            cases hz
            rw [rowsC_some e]
            exact fs_new (hd1 q rfl) (by omega)
          · rw [if_neg (by rw [decide_eq_false hlt]; exact Bool.false_ne_true)]
            walk_at "vw"
            refine ⟨by omega, some q, rfl, by simp, fun z hz => ?_, by kernel_rfl⟩
            cases hz
            rw [rowsC_some e]
            exact fs_old (hd1 q rfl) (by omega)
    · rintro e m' ⟨_, due, rfl, hd0, hd1, rfl⟩
      rw [rangeD_len] at hd0 hd1
      obtain ⟨r, rfl⟩ : ∃ r, due = some r := by
        cases due with
        | some r => exact ⟨r, rfl⟩
        | none =>
          have h0 : 0 < (rowsC l 5).length := List.length_pos_of_mem (List.mem_filterMap.mpr ⟨0, by simp, rfl⟩)
          rw [hd0 rfl] at h0
          exact absurd h0 (by decide)
      have hr := hd1 r rfl
      have hrl : r.length ≤ 200000 := by
        obtain ⟨j, ej, _⟩ := hr
        obtain ⟨w, _, ew⟩ := List.mem_filterMap.mp (List.mem_of_getElem? ej)
        exact prA_len hc1 (by omega) hl ew
      have hg : Gd 2 (.lst (r.map D.int)) := gd_dL (by omega)
      rw [show rowD (some r) = .lst (r.map D.int) from rfl]
      walk_at "vw"
      refine ⟨l, _, rfl, .inl rfl, hc1, by omega, hl, fun y q hy hq => ?_⟩
      obtain rfl := fs_one hr hq
      walk_at "vw"
      refine ⟨[.lst (r.map D.int), .lst (r.map D.int)], .cons (.ptr sput_same (.refl _)) (.cons (.refl _) .nil), e_sameG (hg.le (by decide)) ?_⟩
      walk_at "vw"
      refine e_neR rfl (by decide) hgl ?_
      walk_at "vw"
      refine ⟨y, _, rfl, sput_same, ?_⟩
      walk_at "vw"
      refine ⟨_, sput_same, ?_⟩
      refine e_revL ?_
      walk_at "vw"
      refine ⟨l, _, rfl, .inr rfl, hc1, by omega, hl, fun y2 q hy2 hq => ?_⟩
      obtain rfl := fs_one hr hq
      walk_at "vw"
      refine ⟨[.lst (r.map D.int), .lst (r.map D.int)], .cons (.ptr sput_same (.refl _)) (.cons (.refl _) .nil), e_sameG (hg.le (by decide)) ?_⟩
      walk_at "vw"
      exact ⟨by omega, r1, _, rfl, by omega, by kernel_rfl⟩
  · rintro e m' ⟨_, r0, s0, rfl, hr0, rfl⟩
    walk_at "vw"
    exact hP _
end Ps
namespace Ps
open PySem PySem.Spec PyProof.Rows L2
def topS (i : Nat) : Stmt := PySem.Challenge.pw_pillarstore_k11_the_shortest_way.main.body.getD i (.Pass ⟨0, 0, 0, 0⟩)
section
variable {P : Program} {w : World} {K : PySem.W.Frag} {mg : Str → Option Value} {base : Heap}
abbrev NN_begin : List Str := [("_law_script" : Str), ("_law_cells_here" : Str)]
abbrev sT_begin : Stmt := topS 28
theorem sc_begin : FnScope NN_begin [("_law_script" : Str)] (defScope sT_begin) := ⟨rfl, rfl, rfl, by decide +kernel, rfl, by decide +kernel, by decide +kernel⟩
theorem ok_begin {f : Addr} {fd : FuncData} (F : Fun K ("_law_begin" : Str) ("_law_begin" : Str) sT_begin f fd) (z_list : mg ("list" : Str) = none) {sp : Sp} (hl : ∀ vs H Q E, sp vs H Q E → vs.length = 1)
    (hp : ∀ vs H Q E, sp vs H Q E → t_begin K { nx := fun _ H' => Q .non H', rt := Q } (start NN_begin vs) H) : FnOk P w K mg base CX0 1 f fd [("_law_script" : Str)] sp := by
  refine F.ok (k := 0) sc_begin hl (fun cdv A outer s H vs Q E hr h => ⟨t_begin K, ?_, hp vs H Q E h⟩)
  exact (pss_cons (ps_set (i := 1) sc_begin.nd rfl (by first | exact Or.inl rfl | exact Or.inr rfl) (pe_callTy (call_listU (by rfl)) (by rfl) z_list bt_list (pa_cons (pe_slice sl_u (pv 0) po_none (po_some pe_int)) pa_nil)))
      (pss_cons (ps_if (pt_cmpR (op_eqU hr.units) (pv 1) (pe_lst pa_nil) (nomark _))
      (pss_one (ps_set (i := 1) sc_begin.nd rfl (by first | exact Or.inl rfl | exact Or.inr rfl) (pe_lst (pa_cons pe_int pa_nil))))
      pss_nil)
      (pss_one (ps_ret (pe_disp (pps_cons pe_str (pv 1) (pps_cons pe_str pe_int pps_nil)) (by rfl) (by rfl) (fun z => by cases z) (by decide))))))
abbrev NN_take : List Str := [("_law_state" : Str), ("_law_many" : Str), ("_law_turn" : Str), ("_law_place" : Str), ("_law_cell" : Str), ("_law_digit" : Str), ("_law_mixed" : Str)]
abbrev sT_take : Stmt := topS 29
theorem sc_take : FnScope NN_take [("_law_state" : Str), ("_law_many" : Str)] (defScope sT_take) := ⟨rfl, rfl, rfl, by decide +kernel, rfl, by decide +kernel, by decide +kernel⟩
theorem ok_take {f : Addr} {fd : FuncData} (F : Fun K ("_law_take" : Str) ("_law_take" : Str) sT_take f fd) (z_len : mg ("len" : Str) = none) (z_divmod : mg ("divmod" : Str) = none) {sp : Sp} (hl : ∀ vs H Q E, sp vs H Q E → vs.length = 2)
    (hp : ∀ vs H Q E, sp vs H Q E → t_take K { nx := fun _ H' => Q .non H', rt := Q } (start NN_take vs) H) : FnOk P w K mg base CX0 1 f fd [("_law_state" : Str), ("_law_many" : Str)] sp := by
  refine F.ok (k := 0) sc_take hl (fun cdv A outer s H vs Q E hr h => ⟨t_take K, ?_, hp vs H Q E h⟩)
  exact (pss_cons (ps_set (i := 2) sc_take.nd rfl (by first | exact Or.inl rfl | exact Or.inr rfl) (pe_op op_addU (pe_ix (ix_u (hu_of hr)) (pv 0) pe_str (fun _ _ => rfl)) pe_int))
      (pss_cons (ps_asg (pv 2) (pg_sub (pv 0) pe_str (set_u (hu_of hr))))
      (pss_cons (ps_set (i := 3) sc_take.nd rfl (by first | exact Or.inl rfl | exact Or.inr rfl) (pe_op op_modU (pv 2) (pe_callB call_lenU (by rfl) z_len bt_len (pa_cons (pe_ix (ix_u (hu_of hr)) (pv 0) pe_str (fun _ _ => rfl)) pa_nil))))
      (pss_cons (ps_set (i := 4) sc_take.nd rfl (by first | exact Or.inl rfl | exact Or.inr rfl) (pe_ix (ix_u (hu_of hr)) (pe_ix (ix_u (hu_of hr)) (pv 0) pe_str (fun _ _ => rfl)) (pv 3) (fun _ _ => rfl)))
      (pss_cons (ps_if (pt_cmpR op_geU (pv 4) (pe_op op_powU pe_int pe_int) (nomark _))
      (pss_cons (ps_asg (pe_callB call_divmodU (by rfl) z_divmod bt_divmod (pa_cons (pv 4) (pa_cons (pv 1) pa_nil))) (pg_tup rfl (pgs_cons (pg_sub (pe_ix (ix_u (hu_of hr)) (pv 0) pe_str (fun _ _ => rfl)) (pv 3) (set_u (hu_of hr))) (pgs_cons (pg_name (i := 5) sc_take.nd rfl (by first | exact Or.inl rfl | exact Or.inr rfl)) pgs_nil))))
      (pss_one (ps_ret (pv 5))))
      pss_nil)
      (pss_cons (ps_set (i := 6) sc_take.nd rfl (by first | exact Or.inl rfl | exact Or.inr rfl) (pe_op op_modU (pe_op op_mulU (pe_op op_addU (pe_op op_addU (pe_op op_modU (pv 4) pe_int) (pe_op op_mulU (pe_op op_mulU (pv 2) (pv 2)) pe_int)) pe_int) pe_int) pe_int))
      (pss_cons (ps_set (i := 6) sc_take.nd rfl (by first | exact Or.inl rfl | exact Or.inr rfl) (pe_op op_modU (pe_op op_mulU (pv 6) (pv 6)) pe_int))
      (pss_one (ps_ret (pe_op op_modU (pe_op op_divU (pe_op op_modU (pe_op op_mulU (pe_op op_addU (pv 6) (pe_op op_mulU (pv 2) pe_int)) pe_int) pe_int) pe_int) (pv 1)))))))))))
abbrev NN_text : List Str := [("_law_state" : Str), ("_law_words" : Str), ("_law_signs" : Str), ("_law_turn" : Str)]
abbrev sT_text : Stmt := topS 32
theorem sc_text : FnScope NN_text [("_law_state" : Str)] (defScope sT_text) := ⟨rfl, rfl, rfl, by decide +kernel, rfl, by decide +kernel, by decide +kernel⟩
theorem ok_text {f : Addr} {fd : FuncData} (F : Fun K ("_law_text" : Str) ("_law_text" : Str) sT_text f fd) {f_take : Addr} {fd_take : FuncData} {s_take_ : Sp} (G_take : FnOk P w K mg base CX0 1 f_take fd_take [("_law_state" : Str), ("_law_many" : Str)] s_take_) (b_take : Binds K fd_take [("_law_state" : Str), ("_law_many" : Str)] []) (m_take : mg ("_law_take" : Str) = some (.ref f_take)) (kp_take : PySem.W.keepIn K (.ref f_take) = true) (z_range : mg ("range" : Str) = none) (z_len : mg ("len" : Str) = none) {sp : Sp} (hl : ∀ vs H Q E, sp vs H Q E → vs.length = 1)
    (hp : ∀ vs H Q E, sp vs H Q E → t_text K s_take_ { nx := fun _ H' => Q .non H', rt := Q } (start NN_text vs) H) : FnOk P w K mg base CX0 2 f fd [("_law_state" : Str)] sp := by
  refine F.ok (k := 1) sc_text hl (fun cdv A outer s H vs Q E hr h => ⟨t_text K s_take_, ?_, hp vs H Q E h⟩)
  exact (pss_cons (ps_set (i := 1) sc_text.nd rfl (by first | exact Or.inl rfl | exact Or.inr rfl) (pe_lst (pa_cons pe_str (pa_cons pe_str (pa_cons pe_str (pa_cons pe_str (pa_cons pe_str (pa_cons pe_str (pa_cons pe_str (pa_cons pe_str (pa_cons pe_str (pa_cons pe_str (pa_cons (pe_op op_mulT pe_str pe_int) (pa_cons (pe_slice sl_u pe_str po_none (po_some pe_int)) pa_nil))))))))))))))
      (pss_cons (ps_if (pt_cmpR op_gtV (pe_call G_take (hr.mono (by decide)) (by rfl) m_take kp_take b_take .nil pass0 (pa_cons (pv 0) (pa_cons pe_int pa_nil))) pe_int (nomark _))
      (pss_one (ps_ret (pe_ix (ix_u (hu_of hr)) (pv 1) (pe_call G_take (hr.mono (by decide)) (by rfl) m_take kp_take b_take .nil pass0 (pa_cons (pv 0) (pa_cons pe_int pa_nil))) (fun _ _ => rfl))))
      pss_nil)
      (pss_cons (ps_set (i := 2) sc_text.nd rfl (by first | exact Or.inl rfl | exact Or.inr rfl) pe_str)
      (pss_one (ps_ret (pe_bm PySem.F.plainAttrs_str PySem.F.slot_str_join PySem.F.type_str_join mt_joinS pe_str (pa_cons (pe_lc (own := [(("_law_turn" : Str), 3)]) (g := (gName 3)) (tt := tYes) (te := (tOp (rIxU K) (tVar 2) (tCall s_take_ [] E0 (tCons (tVar 0) (tCons (tCB (rLenU K) (tCons (tVar 2) tNil)) tNil))))) (by rfl) sc_text.nd (pi_range1 rfl z_range (pa_cons (pe_call G_take (hr.mono (by decide)) (by rfl) m_take kp_take b_take .nil pass0 (pa_cons (pv 0) (pa_cons pe_int pa_nil))) pa_nil)) (blkOk_by (own := [(("_law_turn" : Str), 3)]) (N := [("_law_state" : Str), ("_law_words" : Str), ("_law_signs" : Str), ("_law_turn" : Str)]) (sc := defScope sT_text) (by decide +kernel)) (fun _ _ _ _ _ => (pg_name (i := 3) sc_text.nd rfl (by first | exact Or.inl rfl | exact Or.inr rfl))) (fun _ _ _ _ _ => pts_nil) (fun _ _ _ _ _ => (pe_ix (ix_u (hu_of hr)) (pv 2) (pe_call G_take (hr.mono (by decide)) (by rfl) m_take kp_take b_take .nil pass0 (pa_cons (pv 0) (pa_cons (pe_callB call_lenU (by rfl) z_len bt_len (pa_cons (pv 2) pa_nil)) pa_nil))) (fun _ _ => rfl)))) pa_nil)))))))
abbrev NN_number : List Str := [("_law_state" : Str), ("_law_way" : Str), ("_law_number_here" : Str)]
abbrev sT_number : Stmt := topS 31
theorem sc_number : FnScope NN_number [("_law_state" : Str)] (defScope sT_number) := ⟨rfl, rfl, rfl, by decide +kernel, rfl, by decide +kernel, by decide +kernel⟩
theorem ok_number {f : Addr} {fd : FuncData} (F : Fun K ("_law_number" : Str) ("_law_number" : Str) sT_number f fd) {f_take : Addr} {fd_take : FuncData} {s_take_ : Sp} (G_take : FnOk P w K mg base CX0 1 f_take fd_take [("_law_state" : Str), ("_law_many" : Str)] s_take_) (b_take : Binds K fd_take [("_law_state" : Str), ("_law_many" : Str)] []) (m_take : mg ("_law_take" : Str) = some (.ref f_take)) (kp_take : PySem.W.keepIn K (.ref f_take) = true) {sp : Sp} (hl : ∀ vs H Q E, sp vs H Q E → vs.length = 1)
    (hp : ∀ vs H Q E, sp vs H Q E → t_number K s_take_ { nx := fun _ H' => Q .non H', rt := Q } (start NN_number vs) H) : FnOk P w K mg base CX0 2 f fd [("_law_state" : Str)] sp := by
  refine F.ok (k := 1) sc_number hl (fun cdv A outer s H vs Q E hr h => ⟨t_number K s_take_, ?_, hp vs H Q E h⟩)
  exact (pss_cons (ps_set (i := 1) sc_number.nd rfl (by first | exact Or.inl rfl | exact Or.inr rfl) (pe_call G_take (hr.mono (by decide)) (by rfl) m_take kp_take b_take .nil pass0 (pa_cons (pv 0) (pa_cons pe_int pa_nil))))
      (pss_cons (ps_set (i := 2) sc_number.nd rfl (by first | exact Or.inl rfl | exact Or.inr rfl) (pe_call G_take (hr.mono (by decide)) (by rfl) m_take kp_take b_take .nil pass0 (pa_cons (pv 0) (pa_cons pe_int pa_nil))))
      (pss_cons (ps_if (pt_cmpR (op_eqU hr.units) (pv 1) pe_int (nomark _))
      (pss_one (ps_set (i := 2) sc_number.nd rfl (by first | exact Or.inl rfl | exact Or.inr rfl) (pe_ix (ix_u (hu_of hr)) (pe_lst (pa_cons pe_int (pa_cons pe_int (pa_cons pe_int (pa_cons pe_int (pa_cons pe_int (pa_cons pe_int (pa_cons pe_int (pa_cons pe_int (pa_cons (pe_op op_subU (pe_op op_powU pe_int pe_int) pe_int) (pa_cons (pe_op op_powU pe_int pe_int) (pa_cons pe_int (pa_cons pe_int pa_nil))))))))))))) (pv 2) (fun _ _ => rfl))))
      pss_nil)
      (pss_cons (ps_if (pt_cmpR (op_eqU hr.units) (pv 1) pe_int (nomark _))
      (pss_one (ps_set (i := 2) sc_number.nd rfl (by first | exact Or.inl rfl | exact Or.inr rfl) (pe_op op_addU (pe_op op_mulT (pe_call G_take (hr.mono (by decide)) (by rfl) m_take kp_take b_take .nil pass0 (pa_cons (pv 0) (pa_cons (pe_op op_powU pe_int pe_int) pa_nil))) (pe_op op_powU pe_int pe_int)) (pe_call G_take (hr.mono (by decide)) (by rfl) m_take kp_take b_take .nil pass0 (pa_cons (pv 0) (pa_cons (pe_op op_powU pe_int pe_int) pa_nil))))))
      pss_nil)
      (pss_cons (ps_if (pt_cmpR (op_eqU hr.units) (pv 1) pe_int (nomark _))
      (pss_one (ps_set (i := 2) sc_number.nd rfl (by first | exact Or.inl rfl | exact Or.inr rfl) (pe_call G_take (hr.mono (by decide)) (by rfl) m_take kp_take b_take .nil pass0 (pa_cons (pv 0) (pa_cons pe_int pa_nil)))))
      pss_nil)
      (pss_one (ps_ret (pe_op op_mulT (pv 2) (pe_ix (ix_u (hu_of hr)) (pe_lst (pa_cons pe_int (pa_cons (pe_un un_negU pe_int) pa_nil))) (pe_call G_take (hr.mono (by decide)) (by rfl) m_take kp_take b_take .nil pass0 (pa_cons (pv 0) (pa_cons pe_int pa_nil))) (fun _ _ => rfl))))))))))
abbrev NN_cells : List Str := [("_law_state" : Str), ("_law_kind" : Str), ("_law_many" : Str), ("_law_way" : Str), ("_law_open_in" : Str), ("_law_turn" : Str), ("_law_some" : Str), ("_law_step" : Str), ("_law_cells_here" : Str), ("_law_place" : Str), ("_law_cell" : Str)]
abbrev sT_cells : Stmt := topS 33
theorem sc_cells : FnScope NN_cells [("_law_state" : Str), ("_law_kind" : Str), ("_law_many" : Str)] (defScope sT_cells) := ⟨rfl, rfl, rfl, by decide +kernel, rfl, by decide +kernel, by decide +kernel⟩
theorem ok_cells {f : Addr} {fd : FuncData} (F : Fun K ("_law_cells" : Str) ("_law_cells" : Str) sT_cells f fd) {f_take : Addr} {fd_take : FuncData} {s_take_ : Sp} (G_take : FnOk P w K mg base CX0 1 f_take fd_take [("_law_state" : Str), ("_law_many" : Str)] s_take_) (b_take : Binds K fd_take [("_law_state" : Str), ("_law_many" : Str)] []) (m_take : mg ("_law_take" : Str) = some (.ref f_take)) (kp_take : PySem.W.keepIn K (.ref f_take) = true) {f_text : Addr} {fd_text : FuncData} {s_text_ : Sp} (G_text : FnOk P w K mg base CX0 2 f_text fd_text [("_law_state" : Str)] s_text_) (b_text : Binds K fd_text [("_law_state" : Str)] []) (m_text : mg ("_law_text" : Str) = some (.ref f_text)) (kp_text : PySem.W.keepIn K (.ref f_text) = true) {f_number : Addr} {fd_number : FuncData} {s_number_ : Sp} (G_number : FnOk P w K mg base CX0 2 f_number fd_number [("_law_state" : Str)] s_number_) (b_number : Binds K fd_number [("_law_state" : Str)] []) (m_number : mg ("_law_number" : Str) = some (.ref f_number)) (kp_number : PySem.W.keepIn K (.ref f_number) = true) (z_range : mg ("range" : Str) = none) (z_len : mg ("len" : Str) = none) {sp : Sp} (hl : ∀ vs H Q E, sp vs H Q E → vs.length = 3)
    (hp : ∀ vs H Q E, sp vs H Q E → t_cells K s_take_ s_text_ s_number_ { nx := fun _ H' => Q .non H', rt := Q } (start NN_cells vs) H) : FnOk P w K mg base CX0 3 f fd [("_law_state" : Str), ("_law_kind" : Str), ("_law_many" : Str)] sp := by
  refine F.ok (k := 2) sc_cells hl (fun cdv A outer s H vs Q E hr h => ⟨t_cells K s_take_ s_text_ s_number_, ?_, hp vs H Q E h⟩)
  exact (pss_cons (ps_set (i := 3) sc_cells.nd rfl (by first | exact Or.inl rfl | exact Or.inr rfl) (pe_call G_take (hr.mono (by decide)) (by rfl) m_take kp_take b_take .nil pass0 (pa_cons (pv 0) (pa_cons pe_int pa_nil))))
      (pss_cons (ps_set (i := 4) sc_cells.nd rfl (by first | exact Or.inl rfl | exact Or.inr rfl) (pe_ix (ix_u (hu_of hr)) (pe_lst (pa_cons pe_int (pa_cons pe_int (pa_cons pe_int pa_nil)))) (pe_call G_take (hr.mono (by decide)) (by rfl) m_take kp_take b_take .nil pass0 (pa_cons (pv 0) (pa_cons pe_int pa_nil))) (fun _ _ => rfl)))
      (pss_cons (ps_setLc (i := 6) (own := [(("_law_turn" : Str), 5)]) (g := (gName 5)) (tt := tYes) (te := (tIf (tTest (tOp (rEqU K) (tVar 1) (tC (.str ("text" : Str))))) (tCall s_text_ [] E0 (tCons (tVar 0) tNil)) (tCall s_number_ [] E0 (tCons (tVar 0) tNil)))) (by rfl) sc_cells.nd rfl rfl (sw_true rfl rfl rfl (by decide +kernel)) (pi_range1 rfl z_range (pa_cons (pe_op op_addU pe_int (pe_call G_take (hr.mono (by decide)) (by rfl) m_take kp_take b_take .nil pass0 (pa_cons (pv 0) (pa_cons pe_int pa_nil)))) pa_nil)) (blkOk_by (own := [(("_law_turn" : Str), 5)]) (N := [("_law_state" : Str), ("_law_kind" : Str), ("_law_many" : Str), ("_law_way" : Str), ("_law_open_in" : Str), ("_law_turn" : Str), ("_law_some" : Str), ("_law_step" : Str), ("_law_cells_here" : Str), ("_law_place" : Str), ("_law_cell" : Str)]) (sc := defScope sT_cells) (by decide +kernel)) (fun _ _ _ _ _ => (pg_name (i := 5) sc_cells.nd rfl (by first | exact Or.inl rfl | exact Or.inr rfl))) (fun _ _ _ _ _ => pts_nil) (fun _ _ _ _ _ => (pe_ifExp (pt_cmpR (op_eqU hr.units) (pv 1) pe_str (nomark _)) (pe_call G_text (hr.mono (by decide)) (by rfl) m_text kp_text b_text .nil pass0 (pa_cons (pv 0) pa_nil)) (pe_call G_number (hr.mono (by decide)) (by rfl) m_number kp_number b_number .nil pass0 (pa_cons (pv 0) pa_nil)))))
      (pss_cons (ps_set (i := 7) sc_cells.nd rfl (by first | exact Or.inl rfl | exact Or.inr rfl) (pe_ix (ix_u (hu_of hr)) (pe_lst (pa_cons (pe_op op_subU (pe_call G_take (hr.mono (by decide)) (by rfl) m_take kp_take b_take .nil pass0 (pa_cons (pv 0) (pa_cons pe_int pa_nil))) pe_int) (pa_cons (pe_call G_take (hr.mono (by decide)) (by rfl) m_take kp_take b_take .nil pass0 (pa_cons (pv 0) (pa_cons (pe_op op_powU pe_int pe_int) pa_nil))) pa_nil))) (pe_call G_take (hr.mono (by decide)) (by rfl) m_take kp_take b_take .nil pass0 (pa_cons (pv 0) (pa_cons pe_int pa_nil))) (fun _ _ => rfl)))
      (pss_cons (ps_set (i := 8) sc_cells.nd rfl (by first | exact Or.inl rfl | exact Or.inr rfl) (pe_lst pa_nil))
      (pss_cons (ps_for PassesOwn.never rfl (pi_range1 rfl z_range (pa_cons (pv 2) pa_nil)) (pg_name (i := 9) sc_cells.nd rfl (by first | exact Or.inl rfl | exact Or.inr rfl))
      (pss_cons (ps_set (i := 10) sc_cells.nd rfl (by first | exact Or.inl rfl | exact Or.inr rfl) (pe_ix (ix_u (hu_of hr)) (pv 6) (pe_call G_take (hr.mono (by decide)) (by rfl) m_take kp_take b_take .nil pass0 (pa_cons (pv 0) (pa_cons (pe_callB call_lenU (by rfl) z_len bt_len (pa_cons (pv 6) pa_nil)) pa_nil))) (fun _ _ => rfl)))
      (pss_cons (ps_if (PW.pt (pw_and (pt_cmpR (op_eqU hr.units) (pv 3) pe_int (nomark _)) (pw_and (pt_cmpR op_gtV (pv 9) pe_int (nomark _)) (pw_and1 (pt_cmpR op_gtV (pe_call G_take (hr.mono (by decide)) (by rfl) m_take kp_take b_take .nil pass0 (pa_cons (pv 0) (pa_cons pe_int pa_nil))) pe_int (nomark _))))))
      (pss_one (ps_set (i := 10) sc_cells.nd rfl (by first | exact Or.inl rfl | exact Or.inr rfl) (pe_ix (ix_u (hu_of hr)) (pv 8) (pe_un un_negU pe_int) (fun _ _ => rfl))))
      (pss_one (ps_if (PW.pt (pw_and (pt_cmpR (op_eqU hr.units) (pv 3) pe_int (nomark _)) (pw_and1 (pt_cmpR (op_eqU hr.units) (pv 1) pe_str (nomark _)))))
      (pss_one (ps_set (i := 10) sc_cells.nd rfl (by first | exact Or.inl rfl | exact Or.inr rfl) (pe_op op_addU (pe_op op_modU (pe_ix (ix_u (hu_of hr)) (pv 6) pe_int (fun _ _ => rfl)) (pe_op op_powU pe_int pe_int)) (pe_op op_mulT (pv 9) (pv 7)))))
      (pss_one (ps_if (PW.pt (pw_and (pt_cmpR (op_eqU hr.units) (pv 3) pe_int (nomark _)) (pw_and1 (pt_cmpR (op_eqU hr.units) (pv 1) pe_str (nomark _)))))
      (pss_one (ps_set (i := 10) sc_cells.nd rfl (by first | exact Or.inl rfl | exact Or.inr rfl) (pe_call G_number (hr.mono (by decide)) (by rfl) m_number kp_number b_number .nil pass0 (pa_cons (pv 0) pa_nil))))
      pss_nil)))))
      (pss_cons (ps_if (PW.pt (pw_and (pt_cmpR op_gtV (pv 4) pe_int (nomark _)) (pw_and (pt_cmpR (op_neU hr.units) (pv 3) pe_int (nomark _)) (pw_and1 (pt_cmpR (op_eqU hr.units) (pe_call G_take (hr.mono (by decide)) (by rfl) m_take kp_take b_take .nil pass0 (pa_cons (pv 0) (pa_cons (pv 4) pa_nil))) pe_int (nomark _))))))
      (pss_one (ps_set (i := 10) sc_cells.nd rfl (by first | exact Or.inl rfl | exact Or.inr rfl) pe_non))
      pss_nil)
      (pss_one (ps_expr (pe_bm PySem.F.plainAttrs_list PySem.F.slot_list_append PySem.F.type_list_append mt_append (pv 8) (pa_cons (pv 10) pa_nil))))))))
      (pss_one (ps_ret (pv 8)))))))))
abbrev NN_stretch : List Str := [("_law_state" : Str), ("_law_kind" : Str), ("_law_many" : Str)]
abbrev sT_stretch : Stmt := topS 34
theorem sc_stretch : FnScope NN_stretch [("_law_state" : Str)] (defScope sT_stretch) := ⟨rfl, rfl, rfl, by decide +kernel, rfl, by decide +kernel, by decide +kernel⟩
theorem ok_stretch {f : Addr} {fd : FuncData} (F : Fun K ("_law_stretch" : Str) ("_law_stretch" : Str) sT_stretch f fd) {f_take : Addr} {fd_take : FuncData} {s_take_ : Sp} (G_take : FnOk P w K mg base CX0 1 f_take fd_take [("_law_state" : Str), ("_law_many" : Str)] s_take_) (b_take : Binds K fd_take [("_law_state" : Str), ("_law_many" : Str)] []) (m_take : mg ("_law_take" : Str) = some (.ref f_take)) (kp_take : PySem.W.keepIn K (.ref f_take) = true) {f_cells : Addr} {fd_cells : FuncData} {s_cells_ : Sp} (G_cells : FnOk P w K mg base CX0 3 f_cells fd_cells [("_law_state" : Str), ("_law_kind" : Str), ("_law_many" : Str)] s_cells_) (b_cells : Binds K fd_cells [("_law_state" : Str), ("_law_kind" : Str), ("_law_many" : Str)] []) (m_cells : mg ("_law_cells" : Str) = some (.ref f_cells)) (kp_cells : PySem.W.keepIn K (.ref f_cells) = true) {sp : Sp} (hl : ∀ vs H Q E, sp vs H Q E → vs.length = 1)
    (hp : ∀ vs H Q E, sp vs H Q E → t_stretch K s_take_ s_cells_ { nx := fun _ H' => Q .non H', rt := Q } (start NN_stretch vs) H) : FnOk P w K mg base CX0 4 f fd [("_law_state" : Str)] sp := by
  refine F.ok (k := 3) sc_stretch hl (fun cdv A outer s H vs Q E hr h => ⟨t_stretch K s_take_ s_cells_, ?_, hp vs H Q E h⟩)
  exact (pss_cons (ps_set (i := 1) sc_stretch.nd rfl (by first | exact Or.inl rfl | exact Or.inr rfl) (pe_ix (ix_u (hu_of hr)) (pe_lst (pa_cons pe_str (pa_cons pe_str (pa_cons pe_str pa_nil)))) (pe_call G_take (hr.mono (by decide)) (by rfl) m_take kp_take b_take .nil pass0 (pa_cons (pv 0) (pa_cons pe_int pa_nil))) (fun _ _ => rfl)))
      (pss_cons (ps_set (i := 2) sc_stretch.nd rfl (by first | exact Or.inl rfl | exact Or.inr rfl) (pe_ix (ix_u (hu_of hr)) (pe_lst (pa_cons (pe_op op_addU pe_int (pe_call G_take (hr.mono (by decide)) (by rfl) m_take kp_take b_take .nil pass0 (pa_cons (pv 0) (pa_cons pe_int pa_nil)))) (pa_cons (pe_op op_addU pe_int (pe_call G_take (hr.mono (by decide)) (by rfl) m_take kp_take b_take .nil pass0 (pa_cons (pv 0) (pa_cons pe_int pa_nil)))) (pa_cons (pe_op op_addU pe_int (pe_call G_take (hr.mono (by decide)) (by rfl) m_take kp_take b_take .nil pass0 (pa_cons (pv 0) (pa_cons pe_int pa_nil)))) pa_nil)))) (pe_op op_divU (pe_call G_take (hr.mono (by decide)) (by rfl) m_take kp_take b_take .nil pass0 (pa_cons (pv 0) (pa_cons pe_int pa_nil))) pe_int) (fun _ _ => rfl)))
      (pss_one (ps_ret (pe_call G_cells (hr.mono (by decide)) (by rfl) m_cells kp_cells b_cells .nil pass0 (pa_cons (pv 0) (pa_cons (pv 1) (pa_cons (pv 2) pa_nil))))))))
abbrev NN_own_nb : List Str := [("_law_number_here" : Str), ("_law_rest" : Str), ("_law_made" : Str)]
abbrev sT_own_nb : Stmt := topS 35
theorem sc_own_nb : FnScope NN_own_nb [("_law_number_here" : Str)] (defScope sT_own_nb) := ⟨rfl, rfl, rfl, by decide +kernel, rfl, by decide +kernel, by decide +kernel⟩
theorem ok_own_nb {f : Addr} {fd : FuncData} (F : Fun K ("_law_number_bytes" : Str) ("_law_number_bytes" : Str) sT_own_nb f fd) {sp : Sp} (hl : ∀ vs H Q E, sp vs H Q E → vs.length = 1)
    (hp : ∀ vs H Q E, sp vs H Q E → t_own_nb K { nx := fun _ H' => Q .non H', rt := Q } (start NN_own_nb vs) H) : FnOk P w K mg base CX0 1 f fd [("_law_number_here" : Str)] sp := by
  refine F.ok (k := 0) sc_own_nb hl (fun cdv A outer s H vs Q E hr h => ⟨t_own_nb K, ?_, hp vs H Q E h⟩)
  exact (pss_cons (ps_set (i := 1) sc_own_nb.nd rfl (by first | exact Or.inl rfl | exact Or.inr rfl) (pe_op op_mulT pe_int (pv 0)))
      (pss_cons (ps_if (pt_cmpR op_ltU (pv 0) pe_int (nomark _))
      (pss_one (ps_set (i := 1) sc_own_nb.nd rfl (by first | exact Or.inl rfl | exact Or.inr rfl) (pe_op op_subU (pe_op op_mulT (pe_un un_negU pe_int) (pv 0)) pe_int)))
      pss_nil)
      (pss_cons (ps_set (i := 2) sc_own_nb.nd rfl (by first | exact Or.inl rfl | exact Or.inr rfl) (pe_lst pa_nil))
      (pss_cons (ps_while PassesOwn.never (pt_cmpR op_gtV (pv 1) pe_int (nomark _))
      (pss_cons (ps_expr (pe_bm PySem.F.plainAttrs_list PySem.F.slot_list_append PySem.F.type_list_append mt_append (pv 2) (pa_cons (pe_op op_addU (pe_op op_modU (pv 1) pe_int) pe_int) pa_nil)))
      (pss_one (ps_set (i := 1) sc_own_nb.nd rfl (by first | exact Or.inl rfl | exact Or.inr rfl) (pe_op op_divU (pv 1) pe_int)))))
      (pss_one (ps_ret (pe_op op_addU (pv 2) (pe_lst (pa_cons (pv 1) pa_nil)))))))))
abbrev NN_sign_number : List Str := [("_law_sign" : Str), ("_law_signs" : Str)]
abbrev sT_sign_number : Stmt := topS 36
theorem sc_sign_number : FnScope NN_sign_number [("_law_sign" : Str)] (defScope sT_sign_number) := ⟨rfl, rfl, rfl, by decide +kernel, rfl, by decide +kernel, by decide +kernel⟩
theorem ok_sign_number {f : Addr} {fd : FuncData} (F : Fun K ("_law_sign_number" : Str) ("_law_sign_number" : Str) sT_sign_number f fd) {sp : Sp} (hl : ∀ vs H Q E, sp vs H Q E → vs.length = 1)
    (hp : ∀ vs H Q E, sp vs H Q E → t_sign_number K { nx := fun _ H' => Q .non H', rt := Q } (start NN_sign_number vs) H) : FnOk P w K mg base CX0 1 f fd [("_law_sign" : Str)] sp := by
  refine F.ok (k := 0) sc_sign_number hl (fun cdv A outer s H vs Q E hr h => ⟨t_sign_number K, ?_, hp vs H Q E h⟩)
  exact (pss_cons (ps_set (i := 1) sc_sign_number.nd rfl (by first | exact Or.inl rfl | exact Or.inr rfl) pe_str)
      (pss_one (ps_ret (pe_bm PySem.F.plainAttrs_str PySem.F.slot_str_find PySem.F.type_str_find mt_findU (pv 1) (pa_cons (pv 0) pa_nil)))))
abbrev NN_own_cb8 : List Str := [("_law_cell" : Str), ("_law_sign" : Str)]
abbrev sT_own_cb8 : Stmt := topS 37
theorem sc_own_cb8 : FnScope NN_own_cb8 [("_law_cell" : Str)] (defScope sT_own_cb8) := ⟨rfl, rfl, rfl, by decide +kernel, rfl, by decide +kernel, by decide +kernel⟩
theorem ok_own_cb8 {f : Addr} {fd : FuncData} (F : Fun K ("_law_cell_bytes" : Str) ("_law_cell_bytes" : Str) sT_own_cb8 f fd) {f_own_nb : Addr} {fd_own_nb : FuncData} {s_own_nb_ : Sp} (G_own_nb : FnOk P w K mg base CX0 1 f_own_nb fd_own_nb [("_law_number_here" : Str)] s_own_nb_) (b_own_nb : Binds K fd_own_nb [("_law_number_here" : Str)] []) (m_own_nb : mg ("_law_number_bytes" : Str) = some (.ref f_own_nb)) (kp_own_nb : PySem.W.keepIn K (.ref f_own_nb) = true) {f_sign_number : Addr} {fd_sign_number : FuncData} {s_sign_number_ : Sp} (G_sign_number : FnOk P w K mg base CX0 1 f_sign_number fd_sign_number [("_law_sign" : Str)] s_sign_number_) (b_sign_number : Binds K fd_sign_number [("_law_sign" : Str)] []) (m_sign_number : mg ("_law_sign_number" : Str) = some (.ref f_sign_number)) (kp_sign_number : PySem.W.keepIn K (.ref f_sign_number) = true) (z_isinstance : mg ("isinstance" : Str) = none) (z_str : mg ("str" : Str) = none) (z_len : mg ("len" : Str) = none) {sp : Sp} (hl : ∀ vs H Q E, sp vs H Q E → vs.length = 1)
    (hp : ∀ vs H Q E, sp vs H Q E → t_own_cb8 K s_own_nb_ s_sign_number_ { nx := fun _ H' => Q .non H', rt := Q } (start NN_own_cb8 vs) H) : FnOk P w K mg base CX0 2 f fd [("_law_cell" : Str)] sp := by
  refine F.ok (k := 1) sc_own_cb8 hl (fun cdv A outer s H vs Q E hr h => ⟨t_own_cb8 K s_own_nb_ s_sign_number_, ?_, hp vs H Q E h⟩)
  exact (pss_cons (ps_if (pt_cmpR op_isNU (pv 0) pe_non (nomark _))
      (pss_one (ps_ret (pe_lst (pa_cons pe_int pa_nil))))
      pss_nil)
      (pss_cons (ps_if (pt_truU (pe_callB call_isiU (by rfl) z_isinstance bt_isinstance (pa_cons (pv 0) (pa_cons (pe_bltn (by rfl) z_str bt_str rfl) pa_nil))) (by intro _; rfl))
      (pss_one (ps_ret (pe_op op_addU (pe_op op_addU (pe_lst (pa_cons pe_int pa_nil)) (pe_call G_own_nb (hr.mono (by decide)) (by rfl) m_own_nb kp_own_nb b_own_nb .nil pass0 (pa_cons (pe_callB call_lenU (by rfl) z_len bt_len (pa_cons (pv 0) pa_nil)) pa_nil))) (pe_lc (own := [(("_law_sign" : Str), 1)]) (g := (gName 1)) (tt := tYes) (te := (tCall s_sign_number_ [] E0 (tCons (tVar 1) tNil))) (by rfl) sc_own_cb8.nd (pi_seqV (pv 0)) (blkOk_by (own := [(("_law_sign" : Str), 1)]) (N := [("_law_cell" : Str), ("_law_sign" : Str)]) (sc := defScope sT_own_cb8) (by decide +kernel)) (fun _ _ _ _ _ => (pg_name (i := 1) sc_own_cb8.nd rfl (by first | exact Or.inl rfl | exact Or.inr rfl))) (fun _ _ _ _ _ => pts_nil) (fun _ _ _ _ _ => (pe_call G_sign_number (hr.mono (by decide)) (by rfl) m_sign_number kp_sign_number b_sign_number .nil pass0 (pa_cons (pv 1) pa_nil)))))))
      pss_nil)
      (pss_one (ps_ret (pe_op op_addU (pe_lst (pa_cons pe_int pa_nil)) (pe_call G_own_nb (hr.mono (by decide)) (by rfl) m_own_nb kp_own_nb b_own_nb .nil pass0 (pa_cons (pv 0) pa_nil)))))))
abbrev NN_own_runs : List Str := [("_law_cells_here" : Str), ("_law_runs" : Str), ("_law_cell" : Str), ("_law_made" : Str), ("_law_length" : Str)]
abbrev sT_own_runs : Stmt := topS 41
theorem sc_own_runs : FnScope NN_own_runs [("_law_cells_here" : Str)] (defScope sT_own_runs) := ⟨rfl, rfl, rfl, by decide +kernel, rfl, by decide +kernel, by decide +kernel⟩
theorem ok_own_runs {f : Addr} {fd : FuncData} (F : Fun K ("_law_run_bytes" : Str) ("_law_run_bytes" : Str) sT_own_runs f fd) {f_own_nb : Addr} {fd_own_nb : FuncData} {s_own_nb_ : Sp} (G_own_nb : FnOk P w K mg base CX0 1 f_own_nb fd_own_nb [("_law_number_here" : Str)] s_own_nb_) (b_own_nb : Binds K fd_own_nb [("_law_number_here" : Str)] []) (m_own_nb : mg ("_law_number_bytes" : Str) = some (.ref f_own_nb)) (kp_own_nb : PySem.W.keepIn K (.ref f_own_nb) = true) {f_own_cb8 : Addr} {fd_own_cb8 : FuncData} {s_own_cb8_ : Sp} (G_own_cb8 : FnOk P w K mg base CX0 2 f_own_cb8 fd_own_cb8 [("_law_cell" : Str)] s_own_cb8_) (b_own_cb8 : Binds K fd_own_cb8 [("_law_cell" : Str)] []) (m_own_cb8 : mg ("_law_cell_bytes" : Str) = some (.ref f_own_cb8)) (kp_own_cb8 : PySem.W.keepIn K (.ref f_own_cb8) = true) (z_len : mg ("len" : Str) = none) {sp : Sp} (hl : ∀ vs H Q E, sp vs H Q E → vs.length = 1)
    (hp : ∀ vs H Q E, sp vs H Q E → t_own_runs K s_own_nb_ s_own_cb8_ { nx := fun _ H' => Q .non H', rt := Q } (start NN_own_runs vs) H) : FnOk P w K mg base CX0 3 f fd [("_law_cells_here" : Str)] sp := by
  refine F.ok (k := 2) sc_own_runs hl (fun cdv A outer s H vs Q E hr h => ⟨t_own_runs K s_own_nb_ s_own_cb8_, ?_, hp vs H Q E h⟩)
  exact (pss_cons (ps_set (i := 1) sc_own_runs.nd rfl (by first | exact Or.inl rfl | exact Or.inr rfl) (pe_lst pa_nil))
      (pss_cons (ps_for PassesOwn.never rfl (pi_seqV (pv 0)) (pg_name (i := 2) sc_own_runs.nd rfl (by first | exact Or.inl rfl | exact Or.inr rfl))
      (pss_cons (ps_if (PW.pt (pw_or (pt_cmpR (op_eqNil hr.units) (pv 1) (pe_lst pa_nil) (nomark _)) (pw_or1 (pt_cmpR (op_neU hr.units) (pe_ix (ix_u (hu_of hr)) (pe_ix (ix_u (hu_of hr)) (pv 1) (pe_un un_negU pe_int) (fun _ _ => rfl)) pe_int (fun _ _ => rfl)) (pv 2) (nomark _)))))
      (pss_one (ps_expr (pe_bm PySem.F.plainAttrs_list PySem.F.slot_list_append PySem.F.type_list_append mt_append (pv 1) (pa_cons (pe_lst (pa_cons (pv 2) (pa_cons pe_int pa_nil))) pa_nil))))
      pss_nil)
      (pss_one (ps_asg (pe_op op_addU (pe_ix (ix_u (hu_of hr)) (pe_ix (ix_u (hu_of hr)) (pv 1) (pe_un un_negU pe_int) (fun _ _ => rfl)) pe_int (fun _ _ => rfl)) pe_int) (pg_sub (pe_ix (ix_u (hu_of hr)) (pv 1) (pe_un un_negU pe_int) (fun _ _ => rfl)) pe_int (set_u (hu_of hr)))))))
      (pss_cons (ps_set (i := 3) sc_own_runs.nd rfl (by first | exact Or.inl rfl | exact Or.inr rfl) (pe_call G_own_nb (hr.mono (by decide)) (by rfl) m_own_nb kp_own_nb b_own_nb .nil pass0 (pa_cons (pe_callB call_lenU (by rfl) z_len bt_len (pa_cons (pv 1) pa_nil)) pa_nil)))
      (pss_cons (ps_for PassesOwn.never rfl (pi_seqV (pv 1)) (pg_tupU (by rfl) (pgs_cons (pg_name (i := 2) sc_own_runs.nd rfl (by first | exact Or.inl rfl | exact Or.inr rfl)) (pgs_cons (pg_name (i := 4) sc_own_runs.nd rfl (by first | exact Or.inl rfl | exact Or.inr rfl)) pgs_nil)))
      (pss_one (ps_set (i := 3) sc_own_runs.nd rfl (by first | exact Or.inl rfl | exact Or.inr rfl) (pe_op op_addU (pe_op op_addU (pv 3) (pe_call G_own_cb8 (hr.mono (by decide)) (by rfl) m_own_cb8 kp_own_cb8 b_own_cb8 .nil pass0 (pa_cons (pv 2) pa_nil))) (pe_call G_own_nb (hr.mono (by decide)) (by rfl) m_own_nb kp_own_nb b_own_nb .nil pass0 (pa_cons (pv 4) pa_nil))))))
      (pss_one (ps_ret (pv 3)))))))
abbrev NN_own_key : List Str := [("_law_cell" : Str)]
abbrev sT_own_key : Stmt := topS 40
theorem sc_own_key : FnScope NN_own_key [("_law_cell" : Str)] (defScope sT_own_key) := ⟨rfl, rfl, rfl, by decide +kernel, rfl, by decide +kernel, by decide +kernel⟩
theorem ok_own_key {f : Addr} {fd : FuncData} (F : Fun K ("_law_key" : Str) ("_law_key" : Str) sT_own_key f fd) (z_isinstance : mg ("isinstance" : Str) = none) (z_str : mg ("str" : Str) = none) {sp : Sp} (hl : ∀ vs H Q E, sp vs H Q E → vs.length = 1)
    (hp : ∀ vs H Q E, sp vs H Q E → t_own_key K { nx := fun _ H' => Q .non H', rt := Q } (start NN_own_key vs) H) : FnOk P w K mg base CX0 1 f fd [("_law_cell" : Str)] sp := by
  refine F.ok (k := 0) sc_own_key hl (fun cdv A outer s H vs Q E hr h => ⟨t_own_key K, ?_, hp vs H Q E h⟩)
  exact (pss_cons (ps_if (pt_cmpR op_isNU (pv 0) pe_non (nomark _))
      (pss_one (ps_ret (pe_tup (pa_cons pe_int (pa_cons pe_int (pa_cons pe_str pa_nil))))))
      pss_nil)
      (pss_cons (ps_if (pt_truU (pe_callB call_isiU (by rfl) z_isinstance bt_isinstance (pa_cons (pv 0) (pa_cons (pe_bltn (by rfl) z_str bt_str rfl) pa_nil))) (by intro _; rfl))
      (pss_one (ps_ret (pe_tup (pa_cons pe_int (pa_cons pe_int (pa_cons (pv 0) pa_nil))))))
      pss_nil)
      (pss_one (ps_ret (pe_tup (pa_cons pe_int (pa_cons (pv 0) (pa_cons pe_str pa_nil))))))))
abbrev NN_own_packed : List Str := [("_law_numbers" : Str), ("_law_wide" : Str), ("_law_bits" : Str), ("_law_number_here" : Str), ("_law_turn" : Str), ("_law_made" : Str), ("_law_at" : Str), ("_law_bit" : Str), ("_law_part" : Str)]
abbrev sT_own_packed : Stmt := topS 39
theorem sc_own_packed : FnScope NN_own_packed [("_law_numbers" : Str), ("_law_wide" : Str)] (defScope sT_own_packed) := ⟨rfl, rfl, rfl, by decide +kernel, rfl, by decide +kernel, by decide +kernel⟩
theorem ok_own_packed {f : Addr} {fd : FuncData} (F : Fun K ("_law_packed" : Str) ("_law_packed" : Str) sT_own_packed f fd) (z_range : mg ("range" : Str) = none) (z_len : mg ("len" : Str) = none) (z_sum : mg ("sum" : Str) = none) (z_zip : mg ("zip" : Str) = none) {sp : Sp} (hl : ∀ vs H Q E, sp vs H Q E → vs.length = 2)
    (hp : ∀ vs H Q E, sp vs H Q E → t_own_packed K { nx := fun _ H' => Q .non H', rt := Q } (start NN_own_packed vs) H) : FnOk P w K mg base CX0 1 f fd [("_law_numbers" : Str), ("_law_wide" : Str)] sp := by
  refine F.ok (k := 0) sc_own_packed hl (fun cdv A outer s H vs Q E hr h => ⟨t_own_packed K, ?_, hp vs H Q E h⟩)
  exact (pss_cons (ps_set (i := 2) sc_own_packed.nd rfl (by first | exact Or.inl rfl | exact Or.inr rfl) (pe_lst pa_nil))
      (pss_cons (ps_for PassesOwn.never rfl (pi_seqV (pv 0)) (pg_name (i := 3) sc_own_packed.nd rfl (by first | exact Or.inl rfl | exact Or.inr rfl))
      (pss_one (ps_for PassesOwn.never rfl (pi_range1 rfl z_range (pa_cons (pv 1) pa_nil)) (pg_name (i := 4) sc_own_packed.nd rfl (by first | exact Or.inl rfl | exact Or.inr rfl))
      (pss_cons (ps_expr (pe_bm PySem.F.plainAttrs_list PySem.F.slot_list_append PySem.F.type_list_append mt_append (pv 2) (pa_cons (pe_op op_modU (pv 3) pe_int) pa_nil)))
      (pss_one (ps_set (i := 3) sc_own_packed.nd rfl (by first | exact Or.inl rfl | exact Or.inr rfl) (pe_op op_divU (pv 3) pe_int)))))))
      (pss_cons (ps_set (i := 2) sc_own_packed.nd rfl (by first | exact Or.inl rfl | exact Or.inr rfl) (pe_op op_addU (pv 2) (pe_op op_mulT (pe_lst (pa_cons pe_int pa_nil)) (pe_op op_modU (pe_un un_negU (pe_callB call_lenU (by rfl) z_len bt_len (pa_cons (pv 2) pa_nil))) pe_int))))
      (pss_cons (ps_set (i := 5) sc_own_packed.nd rfl (by first | exact Or.inl rfl | exact Or.inr rfl) (pe_lst pa_nil))
      (pss_cons (ps_for PassesOwn.never rfl (pi_range3 rfl z_range (pa_cons pe_int (pa_cons (pe_callB call_lenU (by rfl) z_len bt_len (pa_cons (pv 2) pa_nil)) (pa_cons pe_int pa_nil)))) (pg_name (i := 6) sc_own_packed.nd rfl (by first | exact Or.inl rfl | exact Or.inr rfl))
      (pss_one (ps_expr (pe_bm PySem.F.plainAttrs_list PySem.F.slot_list_append PySem.F.type_list_append mt_append (pv 5) (pa_cons (pe_callB (cr_sum (by rfl)) (by rfl) z_sum bt_sum (pa_cons (pe_lc (own := [(("_law_bit" : Str), 7), (("_law_part" : Str), 8)]) (g := (gTup K 2 (gCons (gName 7) (gCons (gName 8) gNil)))) (tt := tYes) (te := (tOp (rMulT) (tVar 7) (tVar 8))) (by rfl) sc_own_packed.nd (RZ.pi_zipA (by rfl) z_zip (pa_cons (pe_slice sl_u (pv 2) (po_some (pv 6)) (po_some (pe_op op_addU (pv 6) pe_int))) (pa_cons (pe_lst (pa_cons pe_int (pa_cons pe_int (pa_cons pe_int (pa_cons pe_int (pa_cons pe_int (pa_cons pe_int (pa_cons pe_int (pa_cons pe_int pa_nil))))))))) pa_nil))) (blkOk_by (own := [(("_law_bit" : Str), 7), (("_law_part" : Str), 8)]) (N := [("_law_numbers" : Str), ("_law_wide" : Str), ("_law_bits" : Str), ("_law_number_here" : Str), ("_law_turn" : Str), ("_law_made" : Str), ("_law_at" : Str), ("_law_bit" : Str), ("_law_part" : Str)]) (sc := defScope sT_own_packed) (by decide +kernel)) (fun _ _ _ _ _ => (pg_tup rfl (pgs_cons (pg_name (i := 7) sc_own_packed.nd rfl (by first | exact Or.inl rfl | exact Or.inr rfl)) (pgs_cons (pg_name (i := 8) sc_own_packed.nd rfl (by first | exact Or.inl rfl | exact Or.inr rfl)) pgs_nil)))) (fun _ _ _ _ _ => pts_nil) (fun _ _ _ _ _ => (pe_op op_mulT (pv 7) (pv 8)))) pa_nil)) pa_nil)))))
      (pss_one (ps_ret (pv 5))))))))
abbrev NN_own_bits : List Str := [("_law_number_here" : Str), ("_law_wide" : Str)]
abbrev sT_own_bits : Stmt := topS 38
theorem sc_own_bits : FnScope NN_own_bits [("_law_number_here" : Str)] (defScope sT_own_bits) := ⟨rfl, rfl, rfl, by decide +kernel, rfl, by decide +kernel, by decide +kernel⟩
theorem ok_own_bits {f : Addr} {fd : FuncData} (F : Fun K ("_law_bits_for" : Str) ("_law_bits_for" : Str) sT_own_bits f fd) {sp : Sp} (hl : ∀ vs H Q E, sp vs H Q E → vs.length = 1)
    (hp : ∀ vs H Q E, sp vs H Q E → t_own_bits K { nx := fun _ H' => Q .non H', rt := Q } (start NN_own_bits vs) H) : FnOk P w K mg base CX0 1 f fd [("_law_number_here" : Str)] sp := by
  refine F.ok (k := 0) sc_own_bits hl (fun cdv A outer s H vs Q E hr h => ⟨t_own_bits K, ?_, hp vs H Q E h⟩)
  exact (pss_cons (ps_set (i := 1) sc_own_bits.nd rfl (by first | exact Or.inl rfl | exact Or.inr rfl) pe_int)
      (pss_cons (ps_while PassesOwn.never (pt_cmpR op_gtV (pv 0) pe_int (nomark _))
      (pss_cons (ps_set (i := 0) sc_own_bits.nd rfl (by first | exact Or.inl rfl | exact Or.inr rfl) (pe_op op_divU (pv 0) pe_int))
      (pss_one (ps_set (i := 1) sc_own_bits.nd rfl (by first | exact Or.inl rfl | exact Or.inr rfl) (pe_op op_addU (pv 1) pe_int)))))
      (pss_one (ps_ret (pv 1)))))
abbrev NN_own_book : List Str := [("_law_cells_here" : Str), ("_law_book" : Str), ("_law_cell" : Str), ("_law_made" : Str)]
abbrev sT_own_book : Stmt := topS 42
theorem sc_own_book : FnScope NN_own_book [("_law_cells_here" : Str)] (defScope sT_own_book) := ⟨rfl, rfl, rfl, by decide +kernel, rfl, by decide +kernel, by decide +kernel⟩
theorem ok_own_book {f : Addr} {fd : FuncData} (F : Fun K ("_law_book_bytes" : Str) ("_law_book_bytes" : Str) sT_own_book f fd) {f_own_key : Addr} {fd_own_key : FuncData} {s_own_key_ : Sp} (G_own_key : FnOk P w K mg base CX0 1 f_own_key fd_own_key [("_law_cell" : Str)] s_own_key_) (b_own_key : Binds K fd_own_key [("_law_cell" : Str)] []) (m_own_key : mg ("_law_key" : Str) = some (.ref f_own_key)) (kp_own_key : PySem.W.keepIn K (.ref f_own_key) = true) {f_own_nb : Addr} {fd_own_nb : FuncData} {s_own_nb_ : Sp} (G_own_nb : FnOk P w K mg base CX0 1 f_own_nb fd_own_nb [("_law_number_here" : Str)] s_own_nb_) (b_own_nb : Binds K fd_own_nb [("_law_number_here" : Str)] []) (m_own_nb : mg ("_law_number_bytes" : Str) = some (.ref f_own_nb)) (kp_own_nb : PySem.W.keepIn K (.ref f_own_nb) = true) {f_own_cb8 : Addr} {fd_own_cb8 : FuncData} {s_own_cb8_ : Sp} (G_own_cb8 : FnOk P w K mg base CX0 2 f_own_cb8 fd_own_cb8 [("_law_cell" : Str)] s_own_cb8_) (b_own_cb8 : Binds K fd_own_cb8 [("_law_cell" : Str)] []) (m_own_cb8 : mg ("_law_cell_bytes" : Str) = some (.ref f_own_cb8)) (kp_own_cb8 : PySem.W.keepIn K (.ref f_own_cb8) = true) {f_own_packed : Addr} {fd_own_packed : FuncData} {s_own_packed_ : Sp} (G_own_packed : FnOk P w K mg base CX0 1 f_own_packed fd_own_packed [("_law_numbers" : Str), ("_law_wide" : Str)] s_own_packed_) (b_own_packed : Binds K fd_own_packed [("_law_numbers" : Str), ("_law_wide" : Str)] []) (m_own_packed : mg ("_law_packed" : Str) = some (.ref f_own_packed)) (kp_own_packed : PySem.W.keepIn K (.ref f_own_packed) = true) {f_own_bits : Addr} {fd_own_bits : FuncData} {s_own_bits_ : Sp} (G_own_bits : FnOk P w K mg base CX0 1 f_own_bits fd_own_bits [("_law_number_here" : Str)] s_own_bits_) (b_own_bits : Binds K fd_own_bits [("_law_number_here" : Str)] []) (m_own_bits : mg ("_law_bits_for" : Str) = some (.ref f_own_bits)) (kp_own_bits : PySem.W.keepIn K (.ref f_own_bits) = true) (z_sorted : mg ("sorted" : Str) = none) (z_len : mg ("len" : Str) = none) {sp : Sp} (hl : ∀ vs H Q E, sp vs H Q E → vs.length = 1)
    (hp : ∀ vs H Q E, sp vs H Q E → t_own_book K s_own_key_ s_own_nb_ s_own_cb8_ s_own_packed_ s_own_bits_ f_own_key { nx := fun _ H' => Q .non H', rt := Q } (start NN_own_book vs) H) : FnOk P w K mg base CX0 4 f fd [("_law_cells_here" : Str)] sp := by
  refine F.ok (k := 3) sc_own_book hl (fun cdv A outer s H vs Q E hr h => ⟨t_own_book K s_own_key_ s_own_nb_ s_own_cb8_ s_own_packed_ s_own_bits_ f_own_key, ?_, hp vs H Q E h⟩)
  exact (pss_cons (ps_set (i := 1) sc_own_book.nd rfl (by first | exact Or.inl rfl | exact Or.inr rfl) (pe_lst pa_nil))
      (pss_cons (ps_for PassesOwn.never rfl (pi_seqV (pe_callBK (cr_sortK G_own_key (hr.mono (by decide)) b_own_key) (by rfl) z_sorted bt_sorted (pa_cons (pv 0) pa_nil) (pk_cons (pe_glob rfl m_own_key rfl) pk_nil))) (pg_name (i := 2) sc_own_book.nd rfl (by first | exact Or.inl rfl | exact Or.inr rfl))
      (pss_one (ps_if (PW.pt (pw_or (pt_cmpR (op_eqNil hr.units) (pv 1) (pe_lst pa_nil) (nomark _)) (pw_or1 (pt_cmpR (op_neU hr.units) (pe_ix (ix_u (hu_of hr)) (pv 1) (pe_un un_negU pe_int) (fun _ _ => rfl)) (pv 2) (nomark _)))))
      (pss_one (ps_expr (pe_bm PySem.F.plainAttrs_list PySem.F.slot_list_append PySem.F.type_list_append mt_append (pv 1) (pa_cons (pv 2) pa_nil))))
      pss_nil)))
      (pss_cons (ps_set (i := 3) sc_own_book.nd rfl (by first | exact Or.inl rfl | exact Or.inr rfl) (pe_call G_own_nb (hr.mono (by decide)) (by rfl) m_own_nb kp_own_nb b_own_nb .nil pass0 (pa_cons (pe_callB call_lenU (by rfl) z_len bt_len (pa_cons (pv 1) pa_nil)) pa_nil)))
      (pss_cons (ps_for PassesOwn.never rfl (pi_seqV (pv 1)) (pg_name (i := 2) sc_own_book.nd rfl (by first | exact Or.inl rfl | exact Or.inr rfl))
      (pss_one (ps_set (i := 3) sc_own_book.nd rfl (by first | exact Or.inl rfl | exact Or.inr rfl) (pe_op op_addU (pv 3) (pe_call G_own_cb8 (hr.mono (by decide)) (by rfl) m_own_cb8 kp_own_cb8 b_own_cb8 .nil pass0 (pa_cons (pv 2) pa_nil))))))
      (pss_one (ps_ret (pe_op op_addU (pv 3) (pe_call G_own_packed (hr.mono (by decide)) (by rfl) m_own_packed kp_own_packed b_own_packed .nil pass0 (pa_cons (pe_lc (own := [(("_law_cell" : Str), 2)]) (g := (gName 2)) (tt := tYes) (te := (tBM K "list" (rIndex K) (tVar 1) (tCons (tVar 2) tNil))) (by rfl) sc_own_book.nd (pi_seqV (pv 0)) (blkOk_by (own := [(("_law_cell" : Str), 2)]) (N := [("_law_cells_here" : Str), ("_law_book" : Str), ("_law_cell" : Str), ("_law_made" : Str)]) (sc := defScope sT_own_book) (by decide +kernel)) (fun _ _ _ _ _ => (pg_name (i := 2) sc_own_book.nd rfl (by first | exact Or.inl rfl | exact Or.inr rfl))) (fun _ _ _ _ _ => pts_nil) (fun _ _ _ _ _ => (pe_bm PySem.F.plainAttrs_list PySem.F.slot_list_index PySem.F.type_list_index mt_index (pv 1) (pa_cons (pv 2) pa_nil)))) (pa_cons (pe_call G_own_bits (hr.mono (by decide)) (by rfl) m_own_bits kp_own_bits b_own_bits .nil pass0 (pa_cons (pe_op op_subU (pe_callB call_lenU (by rfl) z_len bt_len (pa_cons (pv 1) pa_nil)) pe_int) pa_nil)) pa_nil))))))))))
abbrev NN_own_small : List Str := [("_law_numbers" : Str), ("_law_wide" : Str)]
abbrev sT_own_small : Stmt := topS 43
theorem sc_own_small : FnScope NN_own_small [("_law_numbers" : Str)] (defScope sT_own_small) := ⟨rfl, rfl, rfl, by decide +kernel, rfl, by decide +kernel, by decide +kernel⟩
theorem ok_own_small {f : Addr} {fd : FuncData} (F : Fun K ("_law_small_bytes" : Str) ("_law_small_bytes" : Str) sT_own_small f fd) {f_own_bits : Addr} {fd_own_bits : FuncData} {s_own_bits_ : Sp} (G_own_bits : FnOk P w K mg base CX0 1 f_own_bits fd_own_bits [("_law_number_here" : Str)] s_own_bits_) (b_own_bits : Binds K fd_own_bits [("_law_number_here" : Str)] []) (m_own_bits : mg ("_law_bits_for" : Str) = some (.ref f_own_bits)) (kp_own_bits : PySem.W.keepIn K (.ref f_own_bits) = true) {f_own_packed : Addr} {fd_own_packed : FuncData} {s_own_packed_ : Sp} (G_own_packed : FnOk P w K mg base CX0 1 f_own_packed fd_own_packed [("_law_numbers" : Str), ("_law_wide" : Str)] s_own_packed_) (b_own_packed : Binds K fd_own_packed [("_law_numbers" : Str), ("_law_wide" : Str)] []) (m_own_packed : mg ("_law_packed" : Str) = some (.ref f_own_packed)) (kp_own_packed : PySem.W.keepIn K (.ref f_own_packed) = true) (z_max : mg ("max" : Str) = none) {sp : Sp} (hl : ∀ vs H Q E, sp vs H Q E → vs.length = 1)
    (hp : ∀ vs H Q E, sp vs H Q E → t_own_small K s_own_bits_ s_own_packed_ { nx := fun _ H' => Q .non H', rt := Q } (start NN_own_small vs) H) : FnOk P w K mg base CX0 2 f fd [("_law_numbers" : Str)] sp := by
  refine F.ok (k := 1) sc_own_small hl (fun cdv A outer s H vs Q E hr h => ⟨t_own_small K s_own_bits_ s_own_packed_, ?_, hp vs H Q E h⟩)
  exact (pss_cons (ps_set (i := 1) sc_own_small.nd rfl (by first | exact Or.inl rfl | exact Or.inr rfl) (pe_call G_own_bits (hr.mono (by decide)) (by rfl) m_own_bits kp_own_bits b_own_bits .nil pass0 (pa_cons (pe_callB (cr_maxU (by rfl)) (by rfl) z_max bt_max (pa_cons (pe_op op_addU (pv 0) (pe_lst (pa_cons pe_int pa_nil))) pa_nil)) pa_nil)))
      (pss_one (ps_ret (pe_op op_addU (pe_lst (pa_cons (pv 1) pa_nil)) (pe_call G_own_packed (hr.mono (by decide)) (by rfl) m_own_packed kp_own_packed b_own_packed .nil pass0 (pa_cons (pv 0) (pa_cons (pv 1) pa_nil)))))))
abbrev NN_own_press : List Str := [("_law_way" : Str), ("_law_cells_here" : Str), ("_law_made" : Str), ("_law_cell" : Str), ("_law_place" : Str), ("_law_steps" : Str), ("_law_least" : Str), ("_law_step" : Str)]
abbrev sT_own_press : Stmt := topS 44
theorem sc_own_press : FnScope NN_own_press [("_law_way" : Str), ("_law_cells_here" : Str)] (defScope sT_own_press) := ⟨rfl, rfl, rfl, by decide +kernel, rfl, by decide +kernel, by decide +kernel⟩
theorem ok_own_press {f : Addr} {fd : FuncData} (F : Fun K ("_law_press" : Str) ("_law_press" : Str) sT_own_press f fd) {f_own_nb : Addr} {fd_own_nb : FuncData} {s_own_nb_ : Sp} (G_own_nb : FnOk P w K mg base CX0 1 f_own_nb fd_own_nb [("_law_number_here" : Str)] s_own_nb_) (b_own_nb : Binds K fd_own_nb [("_law_number_here" : Str)] []) (m_own_nb : mg ("_law_number_bytes" : Str) = some (.ref f_own_nb)) (kp_own_nb : PySem.W.keepIn K (.ref f_own_nb) = true) {f_own_runs : Addr} {fd_own_runs : FuncData} {s_own_runs_ : Sp} (G_own_runs : FnOk P w K mg base CX0 3 f_own_runs fd_own_runs [("_law_cells_here" : Str)] s_own_runs_) (b_own_runs : Binds K fd_own_runs [("_law_cells_here" : Str)] []) (m_own_runs : mg ("_law_run_bytes" : Str) = some (.ref f_own_runs)) (kp_own_runs : PySem.W.keepIn K (.ref f_own_runs) = true) {f_own_book : Addr} {fd_own_book : FuncData} {s_own_book_ : Sp} (G_own_book : FnOk P w K mg base CX0 4 f_own_book fd_own_book [("_law_cells_here" : Str)] s_own_book_) (b_own_book : Binds K fd_own_book [("_law_cells_here" : Str)] []) (m_own_book : mg ("_law_book_bytes" : Str) = some (.ref f_own_book)) (kp_own_book : PySem.W.keepIn K (.ref f_own_book) = true) {f_own_cb8 : Addr} {fd_own_cb8 : FuncData} {s_own_cb8_ : Sp} (G_own_cb8 : FnOk P w K mg base CX0 2 f_own_cb8 fd_own_cb8 [("_law_cell" : Str)] s_own_cb8_) (b_own_cb8 : Binds K fd_own_cb8 [("_law_cell" : Str)] []) (m_own_cb8 : mg ("_law_cell_bytes" : Str) = some (.ref f_own_cb8)) (kp_own_cb8 : PySem.W.keepIn K (.ref f_own_cb8) = true) {f_own_small : Addr} {fd_own_small : FuncData} {s_own_small_ : Sp} (G_own_small : FnOk P w K mg base CX0 2 f_own_small fd_own_small [("_law_numbers" : Str)] s_own_small_) (b_own_small : Binds K fd_own_small [("_law_numbers" : Str)] []) (m_own_small : mg ("_law_small_bytes" : Str) = some (.ref f_own_small)) (kp_own_small : PySem.W.keepIn K (.ref f_own_small) = true) (z_len : mg ("len" : Str) = none) (z_any : mg ("any" : Str) = none) (z_isinstance : mg ("isinstance" : Str) = none) (z_str : mg ("str" : Str) = none) (z_min : mg ("min" : Str) = none) (z_range : mg ("range" : Str) = none) {sp : Sp} (hl : ∀ vs H Q E, sp vs H Q E → vs.length = 2)
    (hp : ∀ vs H Q E, sp vs H Q E → t_own_press K s_own_nb_ s_own_runs_ s_own_book_ s_own_cb8_ s_own_small_ { nx := fun _ H' => Q .non H', rt := Q } (start NN_own_press vs) H) : FnOk P w K mg base CX0 5 f fd [("_law_way" : Str), ("_law_cells_here" : Str)] sp := by
  refine F.ok (k := 4) sc_own_press hl (fun cdv A outer s H vs Q E hr h => ⟨t_own_press K s_own_nb_ s_own_runs_ s_own_book_ s_own_cb8_ s_own_small_, ?_, hp vs H Q E h⟩)
  exact (pss_cons (ps_set (i := 2) sc_own_press.nd rfl (by first | exact Or.inl rfl | exact Or.inr rfl) (pe_op op_addU (pe_lst (pa_cons (pv 0) pa_nil)) (pe_call G_own_nb (hr.mono (by decide)) (by rfl) m_own_nb kp_own_nb b_own_nb .nil pass0 (pa_cons (pe_callB call_lenU (by rfl) z_len bt_len (pa_cons (pv 1) pa_nil)) pa_nil))))
      (pss_cons (ps_if (pt_cmpR (op_eqU hr.units) (pv 0) pe_int (nomark _))
      (pss_one (ps_ret (pe_op op_addU (pv 2) (pe_call G_own_runs (hr.mono (by decide)) (by rfl) m_own_runs kp_own_runs b_own_runs .nil pass0 (pa_cons (pv 1) pa_nil)))))
      pss_nil)
      (pss_cons (ps_if (pt_cmpR (op_eqU hr.units) (pv 0) pe_int (nomark _))
      (pss_one (ps_ret (pe_op op_addU (pv 2) (pe_call G_own_book (hr.mono (by decide)) (by rfl) m_own_book kp_own_book b_own_book .nil pass0 (pa_cons (pv 1) pa_nil)))))
      pss_nil)
      (pss_cons (ps_if (pt_cmpR (op_eqU hr.units) (pv 0) pe_int (nomark _))
      (pss_cons (ps_for PassesOwn.never rfl (pi_seqV (pv 1)) (pg_name (i := 3) sc_own_press.nd rfl (by first | exact Or.inl rfl | exact Or.inr rfl))
      (pss_one (ps_set (i := 2) sc_own_press.nd rfl (by first | exact Or.inl rfl | exact Or.inr rfl) (pe_op op_addU (pv 2) (pe_call G_own_cb8 (hr.mono (by decide)) (by rfl) m_own_cb8 kp_own_cb8 b_own_cb8 .nil pass0 (pa_cons (pv 3) pa_nil))))))
      (pss_one (ps_ret (pv 2))))
      pss_nil)
      (pss_cons (ps_if (pt_truU (pe_callB (cr_any (by rfl)) (by rfl) z_any bt_any (pa_cons (pe_lc (own := [(("_law_cell" : Str), 3)]) (g := (gName 3)) (tt := tYes) (te := (tOrV (tOp (rIsN) (tVar 3) (tC .non)) (tCB (rIsiU K) (tCons (tVar 3) (tCons (tC (.ty "str")) tNil))))) (by rfl) sc_own_press.nd (pi_seqV (pv 1)) (blkOk_by (own := [(("_law_cell" : Str), 3)]) (N := [("_law_way" : Str), ("_law_cells_here" : Str), ("_law_made" : Str), ("_law_cell" : Str), ("_law_place" : Str), ("_law_steps" : Str), ("_law_least" : Str), ("_law_step" : Str)]) (sc := defScope sT_own_press) (by decide +kernel)) (fun _ _ _ _ _ => (pg_name (i := 3) sc_own_press.nd rfl (by first | exact Or.inl rfl | exact Or.inr rfl))) (fun _ _ _ _ _ => pts_nil) (fun _ _ _ _ _ => (by exact (L2.pe_or (pe_cmpR op_isNU (pv 3) pe_non (nomark _)) (pe_one (pe_callB call_isiU (by rfl) z_isinstance bt_isinstance (pa_cons (pv 3) (pa_cons (pe_bltn (by rfl) z_str bt_str rfl) pa_nil)))))))) pa_nil)) (by intro _; rfl))
      (pss_one (ps_ret pe_non))
      pss_nil)
      (pss_cons (ps_if (pt_cmpR (op_eqU hr.units) (pv 0) pe_int (nomark _))
      (pss_cons (ps_set (i := 2) sc_own_press.nd rfl (by first | exact Or.inl rfl | exact Or.inr rfl) (pe_op op_addU (pv 2) (pe_call G_own_nb (hr.mono (by decide)) (by rfl) m_own_nb kp_own_nb b_own_nb .nil pass0 (pa_cons (pe_callB (cr_minU (by rfl)) (by rfl) z_min bt_min (pa_cons (pv 1) pa_nil)) pa_nil))))
      (pss_one (ps_ret (pe_op op_addU (pv 2) (pe_call G_own_small (hr.mono (by decide)) (by rfl) m_own_small kp_own_small b_own_small .nil pass0 (pa_cons (pe_lc (own := [(("_law_cell" : Str), 3)]) (g := (gName 3)) (tt := tYes) (te := (tOp (rSubU) (tVar 3) (tCB (rMinU K) (tCons (tVar 1) tNil)))) (by rfl) sc_own_press.nd (pi_seqV (pv 1)) (blkOk_by (own := [(("_law_cell" : Str), 3)]) (N := [("_law_way" : Str), ("_law_cells_here" : Str), ("_law_made" : Str), ("_law_cell" : Str), ("_law_place" : Str), ("_law_steps" : Str), ("_law_least" : Str), ("_law_step" : Str)]) (sc := defScope sT_own_press) (by decide +kernel)) (fun _ _ _ _ _ => (pg_name (i := 3) sc_own_press.nd rfl (by first | exact Or.inl rfl | exact Or.inr rfl))) (fun _ _ _ _ _ => pts_nil) (fun _ _ _ _ _ => (pe_op op_subU (pv 3) (pe_callB (cr_minU (by rfl)) (by rfl) z_min bt_min (pa_cons (pv 1) pa_nil))))) pa_nil))))))
      pss_nil)
      (pss_cons (ps_setLc (i := 5) (own := [(("_law_place" : Str), 4)]) (g := (gName 4)) (tt := tYes) (te := (tOp (rSubU) (tOp (rIxU K) (tVar 1) (tOp (rAddU K) (tVar 4) (tC (.int 1)))) (tOp (rIxU K) (tVar 1) (tVar 4)))) (by rfl) sc_own_press.nd rfl rfl (sw_true rfl rfl rfl (by decide +kernel)) (pi_range1 rfl z_range (pa_cons (pe_op op_subU (pe_callB call_lenU (by rfl) z_len bt_len (pa_cons (pv 1) pa_nil)) pe_int) pa_nil)) (blkOk_by (own := [(("_law_place" : Str), 4)]) (N := [("_law_way" : Str), ("_law_cells_here" : Str), ("_law_made" : Str), ("_law_cell" : Str), ("_law_place" : Str), ("_law_steps" : Str), ("_law_least" : Str), ("_law_step" : Str)]) (sc := defScope sT_own_press) (by decide +kernel)) (fun _ _ _ _ _ => (pg_name (i := 4) sc_own_press.nd rfl (by first | exact Or.inl rfl | exact Or.inr rfl))) (fun _ _ _ _ _ => pts_nil) (fun _ _ _ _ _ => (pe_op op_subU (pe_ix (ix_u (hu_of hr)) (pv 1) (pe_op op_addU (pv 4) pe_int) (fun _ _ => rfl)) (pe_ix (ix_u (hu_of hr)) (pv 1) (pv 4) (fun _ _ => rfl)))))
      (pss_cons (ps_set (i := 6) sc_own_press.nd rfl (by first | exact Or.inl rfl | exact Or.inr rfl) (pe_ifExp (pt_cmpR (op_neU hr.units) (pv 5) (pe_lst pa_nil) (nomark _)) (pe_callB (cr_minU (by rfl)) (by rfl) z_min bt_min (pa_cons (pv 5) pa_nil)) pe_int))
      (pss_cons (ps_set (i := 2) sc_own_press.nd rfl (by first | exact Or.inl rfl | exact Or.inr rfl) (pe_op op_addU (pe_op op_addU (pv 2) (pe_call G_own_nb (hr.mono (by decide)) (by rfl) m_own_nb kp_own_nb b_own_nb .nil pass0 (pa_cons (pe_ix (ix_u (hu_of hr)) (pv 1) pe_int (fun _ _ => rfl)) pa_nil))) (pe_call G_own_nb (hr.mono (by decide)) (by rfl) m_own_nb kp_own_nb b_own_nb .nil pass0 (pa_cons (pv 6) pa_nil))))
      (pss_one (ps_ret (pe_op op_addU (pv 2) (pe_call G_own_small (hr.mono (by decide)) (by rfl) m_own_small kp_own_small b_own_small .nil pass0 (pa_cons (pe_lc (own := [(("_law_step" : Str), 7)]) (g := (gName 7)) (tt := tYes) (te := (tOp (rSubU) (tVar 7) (tVar 6))) (by rfl) sc_own_press.nd (pi_seqV (pv 5)) (blkOk_by (own := [(("_law_step" : Str), 7)]) (N := [("_law_way" : Str), ("_law_cells_here" : Str), ("_law_made" : Str), ("_law_cell" : Str), ("_law_place" : Str), ("_law_steps" : Str), ("_law_least" : Str), ("_law_step" : Str)]) (sc := defScope sT_own_press) (by decide +kernel)) (fun _ _ _ _ _ => (pg_name (i := 7) sc_own_press.nd rfl (by first | exact Or.inl rfl | exact Or.inr rfl))) (fun _ _ _ _ _ => pts_nil) (fun _ _ _ _ _ => (pe_op op_subU (pv 7) (pv 6)))) pa_nil))))))))))))))
abbrev NN_number_bytes : List Str := [("number" : Str), ("rest" : Str), ("made" : Str)]
abbrev sT_number_bytes : Stmt := topS 8
theorem sc_number_bytes : FnScope NN_number_bytes [("number" : Str)] (defScope sT_number_bytes) := ⟨rfl, rfl, rfl, by decide +kernel, rfl, by decide +kernel, by decide +kernel⟩
theorem ok_number_bytes {f : Addr} {fd : FuncData} (F : Fun K ("number_bytes" : Str) ("number_bytes" : Str) sT_number_bytes f fd) {kt_MORE : Tok} (k_MORE : mg ("MORE" : Str) = some (.int 128 kt_MORE)) {sp : Sp} (hl : ∀ vs H Q E, sp vs H Q E → vs.length = 1)
    (hp : ∀ vs H Q E, sp vs H Q E → t_number_bytes K { nx := fun _ H' => Q .non H', rt := Q } (start NN_number_bytes vs) H) : FnOk P w K mg base CX0 1 f fd [("number" : Str)] sp := by
  refine F.ok (k := 0) sc_number_bytes hl (fun cdv A outer s H vs Q E hr h => ⟨t_number_bytes K, ?_, hp vs H Q E h⟩)
  exact (pss_cons (ps_set (i := 1) sc_number_bytes.nd rfl (by first | exact Or.inl rfl | exact Or.inr rfl) (pe_op op_mulT pe_int (pv 0)))
      (pss_cons (ps_if (pt_cmpR op_ltU (pv 0) pe_int (nomark _))
      (pss_one (ps_set (i := 1) sc_number_bytes.nd rfl (by first | exact Or.inl rfl | exact Or.inr rfl) (pe_op op_subU (pe_op op_mulT (pe_un un_negU pe_int) (pv 0)) pe_int)))
      pss_nil)
      (pss_cons (ps_set (i := 2) sc_number_bytes.nd rfl (by first | exact Or.inl rfl | exact Or.inr rfl) (pe_lst pa_nil))
      (pss_cons (ps_while PassesOwn.never (pt_cmpR op_geV (pv 1) (pe_glob rfl k_MORE ⟨_, rfl⟩) (nomark _))
      (pss_cons (ps_expr (pe_bm PySem.F.plainAttrs_list PySem.F.slot_list_append PySem.F.type_list_append mt_append (pv 2) (pa_cons (pe_op op_addU (pe_op op_modU (pv 1) (pe_glob rfl k_MORE ⟨_, rfl⟩)) (pe_glob rfl k_MORE ⟨_, rfl⟩)) pa_nil)))
      (pss_one (ps_set (i := 1) sc_number_bytes.nd rfl (by first | exact Or.inl rfl | exact Or.inr rfl) (pe_op op_divU (pv 1) (pe_glob rfl k_MORE ⟨_, rfl⟩))))))
      (pss_one (ps_ret (pe_op op_addU (pv 2) (pe_lst (pa_cons (pv 1) pa_nil)))))))))
abbrev NN_text_bytes : List Str := [("text" : Str), ("sign" : Str)]
abbrev sT_text_bytes : Stmt := topS 9
theorem sc_text_bytes : FnScope NN_text_bytes [("text" : Str)] (defScope sT_text_bytes) := ⟨rfl, rfl, rfl, by decide +kernel, rfl, by decide +kernel, by decide +kernel⟩
theorem ok_text_bytes {f : Addr} {fd : FuncData} (F : Fun K ("text_bytes" : Str) ("text_bytes" : Str) sT_text_bytes f fd) {f_number_bytes : Addr} {fd_number_bytes : FuncData} {s_number_bytes_ : Sp} (G_number_bytes : FnOk P w K mg base CX0 1 f_number_bytes fd_number_bytes [("number" : Str)] s_number_bytes_) (b_number_bytes : Binds K fd_number_bytes [("number" : Str)] []) (m_number_bytes : mg ("number_bytes" : Str) = some (.ref f_number_bytes)) (kp_number_bytes : PySem.W.keepIn K (.ref f_number_bytes) = true) (z_len : mg ("len" : Str) = none) {kt_SIGNS : Tok} (k_SIGNS : mg ("SIGNS" : Str) = some (.str (" !\"#$&'()*+,-./0123456789:;<=>?@ABCDEFGHIJKLMNOPQRSTUVWXYZ[\\]^_`abcdefghijklmnopqrstuvwxyz{|}~" : Str) kt_SIGNS)) {sp : Sp} (hl : ∀ vs H Q E, sp vs H Q E → vs.length = 1)
    (hp : ∀ vs H Q E, sp vs H Q E → t_text_bytes K s_number_bytes_ { nx := fun _ H' => Q .non H', rt := Q } (start NN_text_bytes vs) H) : FnOk P w K mg base CX0 2 f fd [("text" : Str)] sp := by
  refine F.ok (k := 1) sc_text_bytes hl (fun cdv A outer s H vs Q E hr h => ⟨t_text_bytes K s_number_bytes_, ?_, hp vs H Q E h⟩)
  exact (pss_one (ps_ret (pe_op op_addU (pe_call G_number_bytes (hr.mono (by decide)) (by rfl) m_number_bytes kp_number_bytes b_number_bytes .nil pass0 (pa_cons (pe_callB call_lenU (by rfl) z_len bt_len (pa_cons (pv 0) pa_nil)) pa_nil)) (pe_lc (own := [(("sign" : Str), 1)]) (g := (gName 1)) (tt := tYes) (te := (tBM K "str" (rSIdx) (tC (.str (" !\"#$&'()*+,-./0123456789:;<=>?@ABCDEFGHIJKLMNOPQRSTUVWXYZ[\\]^_`abcdefghijklmnopqrstuvwxyz{|}~" : Str))) (tCons (tVar 1) tNil))) (by rfl) sc_text_bytes.nd (pi_seqV (pv 0)) (blkOk_by (own := [(("sign" : Str), 1)]) (N := [("text" : Str), ("sign" : Str)]) (sc := defScope sT_text_bytes) (by decide +kernel)) (fun _ _ _ _ _ => (pg_name (i := 1) sc_text_bytes.nd rfl (by first | exact Or.inl rfl | exact Or.inr rfl))) (fun _ _ _ _ _ => pts_nil) (fun _ _ _ _ _ => (pe_bm PySem.F.plainAttrs_str PySem.F.slot_str_index PySem.F.type_str_index mt_sidx (pe_glob rfl k_SIGNS ⟨_, rfl⟩) (pa_cons (pv 1) pa_nil)))))))
abbrev NN_cell_bytes : List Str := [("cell" : Str)]
abbrev sT_cell_bytes : Stmt := topS 10
theorem sc_cell_bytes : FnScope NN_cell_bytes [("cell" : Str)] (defScope sT_cell_bytes) := ⟨rfl, rfl, rfl, by decide +kernel, rfl, by decide +kernel, by decide +kernel⟩
theorem ok_cell_bytes {f : Addr} {fd : FuncData} (F : Fun K ("cell_bytes" : Str) ("cell_bytes" : Str) sT_cell_bytes f fd) {f_text_bytes : Addr} {fd_text_bytes : FuncData} {s_text_bytes_ : Sp} (G_text_bytes : FnOk P w K mg base CX0 2 f_text_bytes fd_text_bytes [("text" : Str)] s_text_bytes_) (b_text_bytes : Binds K fd_text_bytes [("text" : Str)] []) (m_text_bytes : mg ("text_bytes" : Str) = some (.ref f_text_bytes)) (kp_text_bytes : PySem.W.keepIn K (.ref f_text_bytes) = true) {f_number_bytes : Addr} {fd_number_bytes : FuncData} {s_number_bytes_ : Sp} (G_number_bytes : FnOk P w K mg base CX0 1 f_number_bytes fd_number_bytes [("number" : Str)] s_number_bytes_) (b_number_bytes : Binds K fd_number_bytes [("number" : Str)] []) (m_number_bytes : mg ("number_bytes" : Str) = some (.ref f_number_bytes)) (kp_number_bytes : PySem.W.keepIn K (.ref f_number_bytes) = true) (z_isinstance : mg ("isinstance" : Str) = none) (z_str : mg ("str" : Str) = none) {sp : Sp} (hl : ∀ vs H Q E, sp vs H Q E → vs.length = 1)
    (hp : ∀ vs H Q E, sp vs H Q E → t_cell_bytes K s_text_bytes_ s_number_bytes_ { nx := fun _ H' => Q .non H', rt := Q } (start NN_cell_bytes vs) H) : FnOk P w K mg base CX0 3 f fd [("cell" : Str)] sp := by
  refine F.ok (k := 2) sc_cell_bytes hl (fun cdv A outer s H vs Q E hr h => ⟨t_cell_bytes K s_text_bytes_ s_number_bytes_, ?_, hp vs H Q E h⟩)
  exact (pss_cons (ps_if (pt_cmpR op_isNU (pv 0) pe_non (nomark _))
      (pss_one (ps_ret (pe_lst (pa_cons pe_int pa_nil))))
      pss_nil)
      (pss_cons (ps_if (pt_truU (pe_callB call_isiU (by rfl) z_isinstance bt_isinstance (pa_cons (pv 0) (pa_cons (pe_bltn (by rfl) z_str bt_str rfl) pa_nil))) (by intro _; rfl))
      (pss_one (ps_ret (pe_op op_addU (pe_lst (pa_cons pe_int pa_nil)) (pe_call G_text_bytes (hr.mono (by decide)) (by rfl) m_text_bytes kp_text_bytes b_text_bytes .nil pass0 (pa_cons (pv 0) pa_nil)))))
      pss_nil)
      (pss_one (ps_ret (pe_op op_addU (pe_lst (pa_cons pe_int pa_nil)) (pe_call G_number_bytes (hr.mono (by decide)) (by rfl) m_number_bytes kp_number_bytes b_number_bytes .nil pass0 (pa_cons (pv 0) pa_nil)))))))
abbrev NN_all_bytes : List Str := [("cells" : Str), ("made" : Str), ("cell" : Str)]
abbrev sT_all_bytes : Stmt := topS 19
theorem sc_all_bytes : FnScope NN_all_bytes [("cells" : Str)] (defScope sT_all_bytes) := ⟨rfl, rfl, rfl, by decide +kernel, rfl, by decide +kernel, by decide +kernel⟩
theorem ok_all_bytes {f : Addr} {fd : FuncData} (F : Fun K ("all_bytes" : Str) ("all_bytes" : Str) sT_all_bytes f fd) {f_cell_bytes : Addr} {fd_cell_bytes : FuncData} {s_cell_bytes_ : Sp} (G_cell_bytes : FnOk P w K mg base CX0 3 f_cell_bytes fd_cell_bytes [("cell" : Str)] s_cell_bytes_) (b_cell_bytes : Binds K fd_cell_bytes [("cell" : Str)] []) (m_cell_bytes : mg ("cell_bytes" : Str) = some (.ref f_cell_bytes)) (kp_cell_bytes : PySem.W.keepIn K (.ref f_cell_bytes) = true) {sp : Sp} (hl : ∀ vs H Q E, sp vs H Q E → vs.length = 1)
    (hp : ∀ vs H Q E, sp vs H Q E → t_all_bytes K s_cell_bytes_ { nx := fun _ H' => Q .non H', rt := Q } (start NN_all_bytes vs) H) : FnOk P w K mg base CX0 4 f fd [("cells" : Str)] sp := by
  refine F.ok (k := 3) sc_all_bytes hl (fun cdv A outer s H vs Q E hr h => ⟨t_all_bytes K s_cell_bytes_, ?_, hp vs H Q E h⟩)
  exact (pss_cons (ps_set (i := 1) sc_all_bytes.nd rfl (by first | exact Or.inl rfl | exact Or.inr rfl) (pe_lst pa_nil))
      (pss_cons (ps_for PassesOwn.never rfl (pi_seqV (pv 0)) (pg_name (i := 2) sc_all_bytes.nd rfl (by first | exact Or.inl rfl | exact Or.inr rfl))
      (pss_one (ps_expr (pe_bm PySem.F.plainAttrs_list PySem.F.slot_list_extend PySem.F.type_list_extend mt_extend (pv 1) (pa_cons (pe_call G_cell_bytes (hr.mono (by decide)) (by rfl) m_cell_bytes kp_cell_bytes b_cell_bytes .nil pass0 (pa_cons (pv 2) pa_nil)) pa_nil)))))
      (pss_one (ps_ret (pv 1)))))
abbrev NN_runs_of : List Str := [("cells" : Str), ("runs" : Str), ("cell" : Str)]
abbrev sT_runs_of : Stmt := topS 17
theorem sc_runs_of : FnScope NN_runs_of [("cells" : Str)] (defScope sT_runs_of) := ⟨rfl, rfl, rfl, by decide +kernel, rfl, by decide +kernel, by decide +kernel⟩
theorem ok_runs_of {f : Addr} {fd : FuncData} (F : Fun K ("runs_of" : Str) ("runs_of" : Str) sT_runs_of f fd) (z_len : mg ("len" : Str) = none) {sp : Sp} (hl : ∀ vs H Q E, sp vs H Q E → vs.length = 1)
    (hp : ∀ vs H Q E, sp vs H Q E → t_runs_of K { nx := fun _ H' => Q .non H', rt := Q } (start NN_runs_of vs) H) : FnOk P w K mg base CX0 1 f fd [("cells" : Str)] sp := by
  refine F.ok (k := 0) sc_runs_of hl (fun cdv A outer s H vs Q E hr h => ⟨t_runs_of K, ?_, hp vs H Q E h⟩)
  exact (pss_cons (ps_set (i := 1) sc_runs_of.nd rfl (by first | exact Or.inl rfl | exact Or.inr rfl) (pe_lst pa_nil))
      (pss_cons (ps_for PassesOwn.never rfl (pi_seqV (pv 0)) (pg_name (i := 2) sc_runs_of.nd rfl (by first | exact Or.inl rfl | exact Or.inr rfl))
      (pss_one (ps_if (PW.pt (pw_and (pt_cmpR op_gtV (pe_callB call_lenU (by rfl) z_len bt_len (pa_cons (pv 1) pa_nil)) pe_int (nomark _)) (pw_and1 (pt_cmpR (op_eqU hr.units) (pe_ix (ix_u (hu_of hr)) (pe_ix (ix_u (hu_of hr)) (pv 1) (pe_un un_negU pe_int) (fun _ _ => rfl)) pe_int (fun _ _ => rfl)) (pv 2) (nomark _)))))
      (pss_one (ps_asg (pe_tup (pa_cons (pv 2) (pa_cons (pe_op op_addU (pe_ix (ix_u (hu_of hr)) (pe_ix (ix_u (hu_of hr)) (pv 1) (pe_un un_negU pe_int) (fun _ _ => rfl)) pe_int (fun _ _ => rfl)) pe_int) pa_nil))) (pg_sub (pv 1) (pe_un un_negU pe_int) (set_u (hu_of hr)))))
      (pss_one (ps_expr (pe_bm PySem.F.plainAttrs_list PySem.F.slot_list_append PySem.F.type_list_append mt_append (pv 1) (pa_cons (pe_tup (pa_cons (pv 2) (pa_cons pe_int pa_nil))) pa_nil)))))))
      (pss_one (ps_ret (pv 1)))))
abbrev NN_run_bytes : List Str := [("cells" : Str), ("runs" : Str), ("made" : Str), ("cell" : Str), ("length" : Str)]
abbrev sT_run_bytes : Stmt := topS 20
theorem sc_run_bytes : FnScope NN_run_bytes [("cells" : Str)] (defScope sT_run_bytes) := ⟨rfl, rfl, rfl, by decide +kernel, rfl, by decide +kernel, by decide +kernel⟩
theorem ok_run_bytes {f : Addr} {fd : FuncData} (F : Fun K ("run_bytes" : Str) ("run_bytes" : Str) sT_run_bytes f fd) {f_runs_of : Addr} {fd_runs_of : FuncData} {s_runs_of_ : Sp} (G_runs_of : FnOk P w K mg base CX0 1 f_runs_of fd_runs_of [("cells" : Str)] s_runs_of_) (b_runs_of : Binds K fd_runs_of [("cells" : Str)] []) (m_runs_of : mg ("runs_of" : Str) = some (.ref f_runs_of)) (kp_runs_of : PySem.W.keepIn K (.ref f_runs_of) = true) {f_number_bytes : Addr} {fd_number_bytes : FuncData} {s_number_bytes_ : Sp} (G_number_bytes : FnOk P w K mg base CX0 1 f_number_bytes fd_number_bytes [("number" : Str)] s_number_bytes_) (b_number_bytes : Binds K fd_number_bytes [("number" : Str)] []) (m_number_bytes : mg ("number_bytes" : Str) = some (.ref f_number_bytes)) (kp_number_bytes : PySem.W.keepIn K (.ref f_number_bytes) = true) {f_cell_bytes : Addr} {fd_cell_bytes : FuncData} {s_cell_bytes_ : Sp} (G_cell_bytes : FnOk P w K mg base CX0 3 f_cell_bytes fd_cell_bytes [("cell" : Str)] s_cell_bytes_) (b_cell_bytes : Binds K fd_cell_bytes [("cell" : Str)] []) (m_cell_bytes : mg ("cell_bytes" : Str) = some (.ref f_cell_bytes)) (kp_cell_bytes : PySem.W.keepIn K (.ref f_cell_bytes) = true) (z_len : mg ("len" : Str) = none) {sp : Sp} (hl : ∀ vs H Q E, sp vs H Q E → vs.length = 1)
    (hp : ∀ vs H Q E, sp vs H Q E → t_run_bytes K s_runs_of_ s_number_bytes_ s_cell_bytes_ { nx := fun _ H' => Q .non H', rt := Q } (start NN_run_bytes vs) H) : FnOk P w K mg base CX0 4 f fd [("cells" : Str)] sp := by
  refine F.ok (k := 3) sc_run_bytes hl (fun cdv A outer s H vs Q E hr h => ⟨t_run_bytes K s_runs_of_ s_number_bytes_ s_cell_bytes_, ?_, hp vs H Q E h⟩)
  exact (pss_cons (ps_set (i := 1) sc_run_bytes.nd rfl (by first | exact Or.inl rfl | exact Or.inr rfl) (pe_call G_runs_of (hr.mono (by decide)) (by rfl) m_runs_of kp_runs_of b_runs_of .nil pass0 (pa_cons (pv 0) pa_nil)))
      (pss_cons (ps_set (i := 2) sc_run_bytes.nd rfl (by first | exact Or.inl rfl | exact Or.inr rfl) (pe_call G_number_bytes (hr.mono (by decide)) (by rfl) m_number_bytes kp_number_bytes b_number_bytes .nil pass0 (pa_cons (pe_callB call_lenU (by rfl) z_len bt_len (pa_cons (pv 1) pa_nil)) pa_nil)))
      (pss_cons (ps_for PassesOwn.never rfl (pi_seqV (pv 1)) (pg_tup rfl (pgs_cons (pg_name (i := 3) sc_run_bytes.nd rfl (by first | exact Or.inl rfl | exact Or.inr rfl)) (pgs_cons (pg_name (i := 4) sc_run_bytes.nd rfl (by first | exact Or.inl rfl | exact Or.inr rfl)) pgs_nil)))
      (pss_one (ps_expr (pe_bm PySem.F.plainAttrs_list PySem.F.slot_list_extend PySem.F.type_list_extend mt_extend (pv 2) (pa_cons (pe_op op_addU (pe_call G_cell_bytes (hr.mono (by decide)) (by rfl) m_cell_bytes kp_cell_bytes b_cell_bytes .nil pass0 (pa_cons (pv 3) pa_nil)) (pe_call G_number_bytes (hr.mono (by decide)) (by rfl) m_number_bytes kp_number_bytes b_number_bytes .nil pass0 (pa_cons (pv 4) pa_nil))) pa_nil)))))
      (pss_one (ps_ret (pv 2))))))
abbrev NN_is_number : List Str := [("thing" : Str)]
abbrev sT_is_number : Stmt := topS 2
theorem sc_is_number : FnScope NN_is_number [("thing" : Str)] (defScope sT_is_number) := ⟨rfl, rfl, rfl, by decide +kernel, rfl, by decide +kernel, by decide +kernel⟩
theorem ok_is_number {f : Addr} {fd : FuncData} (F : Fun K ("is_number" : Str) ("is_number" : Str) sT_is_number f fd) (z_isinstance : mg ("isinstance" : Str) = none) (z_int : mg ("int" : Str) = none) (z_bool : mg ("bool" : Str) = none) {sp : Sp} (hl : ∀ vs H Q E, sp vs H Q E → vs.length = 1)
    (hp : ∀ vs H Q E, sp vs H Q E → t_is_number K { nx := fun _ H' => Q .non H', rt := Q } (start NN_is_number vs) H) : FnOk P w K mg base CX0 1 f fd [("thing" : Str)] sp := by
  refine F.ok (k := 0) sc_is_number hl (fun cdv A outer s H vs Q E hr h => ⟨t_is_number K, ?_, hp vs H Q E h⟩)
  exact (pss_one (ps_ret (L2.pe_and (pe_callB call_isiU (by rfl) z_isinstance bt_isinstance (pa_cons (pv 0) (pa_cons (pe_bltn (by rfl) z_int bt_int rfl) pa_nil))) (pe_one (pe_not (pe_callB call_isiU (by rfl) z_isinstance bt_isinstance (pa_cons (pv 0) (pa_cons (pe_bltn (by rfl) z_bool bt_bool rfl) pa_nil))))))))
abbrev NN_cell_key : List Str := [("cell" : Str)]
abbrev sT_cell_key : Stmt := topS 3
theorem sc_cell_key : FnScope NN_cell_key [("cell" : Str)] (defScope sT_cell_key) := ⟨rfl, rfl, rfl, by decide +kernel, rfl, by decide +kernel, by decide +kernel⟩
theorem ok_cell_key {f : Addr} {fd : FuncData} (F : Fun K ("cell_key" : Str) ("cell_key" : Str) sT_cell_key f fd) {f_is_number : Addr} {fd_is_number : FuncData} {s_is_number_ : Sp} (G_is_number : FnOk P w K mg base CX0 1 f_is_number fd_is_number [("thing" : Str)] s_is_number_) (b_is_number : Binds K fd_is_number [("thing" : Str)] []) (m_is_number : mg ("is_number" : Str) = some (.ref f_is_number)) (kp_is_number : PySem.W.keepIn K (.ref f_is_number) = true) {sp : Sp} (hl : ∀ vs H Q E, sp vs H Q E → vs.length = 1)
    (hp : ∀ vs H Q E, sp vs H Q E → t_cell_key K s_is_number_ { nx := fun _ H' => Q .non H', rt := Q } (start NN_cell_key vs) H) : FnOk P w K mg base CX0 2 f fd [("cell" : Str)] sp := by
  refine F.ok (k := 1) sc_cell_key hl (fun cdv A outer s H vs Q E hr h => ⟨t_cell_key K s_is_number_, ?_, hp vs H Q E h⟩)
  exact (pss_cons (ps_if (pt_cmpR op_isNU (pv 0) pe_non (nomark _))
      (pss_one (ps_ret (pe_tup (pa_cons pe_int (pa_cons pe_int (pa_cons pe_str pa_nil))))))
      pss_nil)
      (pss_cons (ps_if (pt_truU (pe_call G_is_number (hr.mono (by decide)) (by rfl) m_is_number kp_is_number b_is_number .nil pass0 (pa_cons (pv 0) pa_nil)) (by intro _; rfl))
      (pss_one (ps_ret (pe_tup (pa_cons pe_int (pa_cons (pv 0) (pa_cons pe_str pa_nil))))))
      pss_nil)
      (pss_one (ps_ret (pe_tup (pa_cons pe_int (pa_cons pe_int (pa_cons (pv 0) pa_nil))))))))
abbrev NN_book_of : List Str := [("cells" : Str), ("met" : Str), ("cell" : Str)]
abbrev sT_book_of : Stmt := topS 18
theorem sc_book_of : FnScope NN_book_of [("cells" : Str)] (defScope sT_book_of) := ⟨rfl, rfl, rfl, by decide +kernel, rfl, by decide +kernel, by decide +kernel⟩
theorem ok_book_of {f : Addr} {fd : FuncData} (F : Fun K ("book_of" : Str) ("book_of" : Str) sT_book_of f fd) {f_cell_key : Addr} {fd_cell_key : FuncData} {s_cell_key_ : Sp} (G_cell_key : FnOk P w K mg base CX0 2 f_cell_key fd_cell_key [("cell" : Str)] s_cell_key_) (b_cell_key : Binds K fd_cell_key [("cell" : Str)] []) (m_cell_key : mg ("cell_key" : Str) = some (.ref f_cell_key)) (kp_cell_key : PySem.W.keepIn K (.ref f_cell_key) = true) (z_sorted : mg ("sorted" : Str) = none) (z_list : mg ("list" : Str) = none) {sp : Sp} (hl : ∀ vs H Q E, sp vs H Q E → vs.length = 1)
    (hp : ∀ vs H Q E, sp vs H Q E → t_book_of K w s_cell_key_ f_cell_key { nx := fun _ H' => Q .non H', rt := Q } (start NN_book_of vs) H) : FnOk P w K mg base CX0 5 f fd [("cells" : Str)] sp := by
  refine F.ok (k := 4) sc_book_of hl (fun cdv A outer s H vs Q E hr h => ⟨t_book_of K w s_cell_key_ f_cell_key, ?_, hp vs H Q E h⟩)
  exact (pss_cons (ps_set (i := 1) sc_book_of.nd rfl (by first | exact Or.inl rfl | exact Or.inr rfl) pe_dnewC)
      (pss_cons (ps_for PassesOwn.never rfl (pi_seqV (pv 0)) (pg_name (i := 2) sc_book_of.nd rfl (by first | exact Or.inl rfl | exact Or.inr rfl))
      (pss_one (ps_asg pe_bl (pg_sub (pv 1) (pv 2) set_c))))
      (pss_one (ps_ret (pe_callBK (cr_sortK G_cell_key (hr.mono (by decide)) b_cell_key) (by rfl) z_sorted bt_sorted (pa_cons (pe_callTy (call_listC (by rfl)) (by rfl) z_list bt_list (pa_cons (pv 1) pa_nil)) pa_nil) (pk_cons (pe_glob rfl m_cell_key rfl) pk_nil))))))
abbrev NN_power_of : List Str := [("wide" : Str), ("power" : Str), ("turn" : Str)]
abbrev sT_power_of : Stmt := topS 12
theorem sc_power_of : FnScope NN_power_of [("wide" : Str)] (defScope sT_power_of) := ⟨rfl, rfl, rfl, by decide +kernel, rfl, by decide +kernel, by decide +kernel⟩
theorem ok_power_of {f : Addr} {fd : FuncData} (F : Fun K ("power_of" : Str) ("power_of" : Str) sT_power_of f fd) (z_range : mg ("range" : Str) = none) {sp : Sp} (hl : ∀ vs H Q E, sp vs H Q E → vs.length = 1)
    (hp : ∀ vs H Q E, sp vs H Q E → t_power_of K { nx := fun _ H' => Q .non H', rt := Q } (start NN_power_of vs) H) : FnOk P w K mg base CX0 1 f fd [("wide" : Str)] sp := by
  refine F.ok (k := 0) sc_power_of hl (fun cdv A outer s H vs Q E hr h => ⟨t_power_of K, ?_, hp vs H Q E h⟩)
  exact (pss_cons (ps_set (i := 1) sc_power_of.nd rfl (by first | exact Or.inl rfl | exact Or.inr rfl) pe_int)
      (pss_cons (ps_for PassesOwn.never rfl (pi_range1 rfl z_range (pa_cons (pv 0) pa_nil)) (pg_name (i := 2) sc_power_of.nd rfl (by first | exact Or.inl rfl | exact Or.inr rfl))
      (pss_one (ps_aug (i := 1) sc_power_of.nd rfl (by first | exact Or.inl rfl | exact Or.inr rfl) pe_int ip_mulU)))
      (pss_one (ps_ret (pv 1)))))
abbrev NN_byte_count : List Str := [("many" : Str), ("wide" : Str)]
abbrev sT_byte_count : Stmt := topS 13
theorem sc_byte_count : FnScope NN_byte_count [("many" : Str), ("wide" : Str)] (defScope sT_byte_count) := ⟨rfl, rfl, rfl, by decide +kernel, rfl, by decide +kernel, by decide +kernel⟩
theorem ok_byte_count {f : Addr} {fd : FuncData} (F : Fun K ("byte_count" : Str) ("byte_count" : Str) sT_byte_count f fd) {kt_BITS : Tok} (k_BITS : mg ("BITS" : Str) = some (.int 8 kt_BITS)) {sp : Sp} (hl : ∀ vs H Q E, sp vs H Q E → vs.length = 2)
    (hp : ∀ vs H Q E, sp vs H Q E → t_byte_count K { nx := fun _ H' => Q .non H', rt := Q } (start NN_byte_count vs) H) : FnOk P w K mg base CX0 1 f fd [("many" : Str), ("wide" : Str)] sp := by
  refine F.ok (k := 0) sc_byte_count hl (fun cdv A outer s H vs Q E hr h => ⟨t_byte_count K, ?_, hp vs H Q E h⟩)
  exact (pss_one (ps_ret (pe_op op_divU (pe_op op_subU (pe_op op_addU (pe_op op_mulT (pv 0) (pv 1)) (pe_glob rfl k_BITS ⟨_, rfl⟩)) pe_int) (pe_glob rfl k_BITS ⟨_, rfl⟩))))
abbrev NN_packed : List Str := [("numbers" : Str), ("wide" : Str), ("power" : Str), ("rest" : Str), ("number" : Str), ("made" : Str), ("turn" : Str)]
abbrev sT_packed : Stmt := topS 14
theorem sc_packed : FnScope NN_packed [("numbers" : Str), ("wide" : Str)] (defScope sT_packed) := ⟨rfl, rfl, rfl, by decide +kernel, rfl, by decide +kernel, by decide +kernel⟩
theorem ok_packed {f : Addr} {fd : FuncData} (F : Fun K ("packed" : Str) ("packed" : Str) sT_packed f fd) {f_power_of : Addr} {fd_power_of : FuncData} {s_power_of_ : Sp} (G_power_of : FnOk P w K mg base CX0 1 f_power_of fd_power_of [("wide" : Str)] s_power_of_) (b_power_of : Binds K fd_power_of [("wide" : Str)] []) (m_power_of : mg ("power_of" : Str) = some (.ref f_power_of)) (kp_power_of : PySem.W.keepIn K (.ref f_power_of) = true) {f_byte_count : Addr} {fd_byte_count : FuncData} {s_byte_count_ : Sp} (G_byte_count : FnOk P w K mg base CX0 1 f_byte_count fd_byte_count [("many" : Str), ("wide" : Str)] s_byte_count_) (b_byte_count : Binds K fd_byte_count [("many" : Str), ("wide" : Str)] []) (m_byte_count : mg ("byte_count" : Str) = some (.ref f_byte_count)) (kp_byte_count : PySem.W.keepIn K (.ref f_byte_count) = true) (z_reversed : mg ("reversed" : Str) = none) (z_range : mg ("range" : Str) = none) (z_len : mg ("len" : Str) = none) {kt_BYTE : Tok} (k_BYTE : mg ("BYTE" : Str) = some (.int 256 kt_BYTE)) {sp : Sp} (hl : ∀ vs H Q E, sp vs H Q E → vs.length = 2)
    (hp : ∀ vs H Q E, sp vs H Q E → t_packed K s_power_of_ s_byte_count_ { nx := fun _ H' => Q .non H', rt := Q } (start NN_packed vs) H) : FnOk P w K mg base CX0 2 f fd [("numbers" : Str), ("wide" : Str)] sp := by
  refine F.ok (k := 1) sc_packed hl (fun cdv A outer s H vs Q E hr h => ⟨t_packed K s_power_of_ s_byte_count_, ?_, hp vs H Q E h⟩)
  exact (pss_cons (ps_set (i := 2) sc_packed.nd rfl (by first | exact Or.inl rfl | exact Or.inr rfl) (pe_call G_power_of (hr.mono (by decide)) (by rfl) m_power_of kp_power_of b_power_of .nil pass0 (pa_cons (pv 1) pa_nil)))
      (pss_cons (ps_set (i := 3) sc_packed.nd rfl (by first | exact Or.inl rfl | exact Or.inr rfl) pe_int)
      (pss_cons (ps_for PassesOwn.never rfl (RT.pi_revA (by rfl) z_reversed (pv 0)) (pg_name (i := 4) sc_packed.nd rfl (by first | exact Or.inl rfl | exact Or.inr rfl))
      (pss_one (ps_set (i := 3) sc_packed.nd rfl (by first | exact Or.inl rfl | exact Or.inr rfl) (pe_op op_addU (pe_op op_mulT (pv 3) (pv 2)) (pv 4)))))
      (pss_cons (ps_set (i := 5) sc_packed.nd rfl (by first | exact Or.inl rfl | exact Or.inr rfl) (pe_lst pa_nil))
      (pss_cons (ps_for PassesOwn.never rfl (pi_range1 rfl z_range (pa_cons (pe_call G_byte_count (hr.mono (by decide)) (by rfl) m_byte_count kp_byte_count b_byte_count .nil pass0 (pa_cons (pe_callB call_lenU (by rfl) z_len bt_len (pa_cons (pv 0) pa_nil)) (pa_cons (pv 1) pa_nil))) pa_nil)) (pg_name (i := 6) sc_packed.nd rfl (by first | exact Or.inl rfl | exact Or.inr rfl))
      (pss_cons (ps_expr (pe_bm PySem.F.plainAttrs_list PySem.F.slot_list_append PySem.F.type_list_append mt_append (pv 5) (pa_cons (pe_op op_modU (pv 3) (pe_glob rfl k_BYTE ⟨_, rfl⟩)) pa_nil)))
      (pss_one (ps_set (i := 3) sc_packed.nd rfl (by first | exact Or.inl rfl | exact Or.inr rfl) (pe_op op_divU (pv 3) (pe_glob rfl k_BYTE ⟨_, rfl⟩))))))
      (pss_one (ps_ret (pv 5))))))))
abbrev NN_bits_for : List Str := [("number" : Str), ("wide" : Str)]
abbrev sT_bits_for : Stmt := topS 11
theorem sc_bits_for : FnScope NN_bits_for [("number" : Str)] (defScope sT_bits_for) := ⟨rfl, rfl, rfl, by decide +kernel, rfl, by decide +kernel, by decide +kernel⟩
theorem ok_bits_for {f : Addr} {fd : FuncData} (F : Fun K ("bits_for" : Str) ("bits_for" : Str) sT_bits_for f fd) {sp : Sp} (hl : ∀ vs H Q E, sp vs H Q E → vs.length = 1)
    (hp : ∀ vs H Q E, sp vs H Q E → t_bits_for K { nx := fun _ H' => Q .non H', rt := Q } (start NN_bits_for vs) H) : FnOk P w K mg base CX0 1 f fd [("number" : Str)] sp := by
  refine F.ok (k := 0) sc_bits_for hl (fun cdv A outer s H vs Q E hr h => ⟨t_bits_for K, ?_, hp vs H Q E h⟩)
  exact (pss_cons (ps_set (i := 1) sc_bits_for.nd rfl (by first | exact Or.inl rfl | exact Or.inr rfl) pe_int)
      (pss_cons (ps_while PassesOwn.never (pt_cmpR op_gtV (pv 0) pe_int (nomark _))
      (pss_cons (ps_set (i := 0) sc_bits_for.nd rfl (by first | exact Or.inl rfl | exact Or.inr rfl) (pe_op op_divU (pv 0) pe_int))
      (pss_one (ps_aug (i := 1) sc_bits_for.nd rfl (by first | exact Or.inl rfl | exact Or.inr rfl) pe_int ip_addU))))
      (pss_one (ps_ret (pv 1)))))
abbrev NN_book_bytes : List Str := [("cells" : Str), ("book" : Str), ("places" : Str), ("place" : Str), ("cell" : Str), ("told" : Str)]
abbrev sT_book_bytes : Stmt := topS 21
theorem sc_book_bytes : FnScope NN_book_bytes [("cells" : Str)] (defScope sT_book_bytes) := ⟨rfl, rfl, rfl, by decide +kernel, rfl, by decide +kernel, by decide +kernel⟩
theorem ok_book_bytes {f : Addr} {fd : FuncData} (F : Fun K ("book_bytes" : Str) ("book_bytes" : Str) sT_book_bytes f fd) {f_book_of : Addr} {fd_book_of : FuncData} {s_book_of_ : Sp} (G_book_of : FnOk P w K mg base CX0 5 f_book_of fd_book_of [("cells" : Str)] s_book_of_) (b_book_of : Binds K fd_book_of [("cells" : Str)] []) (m_book_of : mg ("book_of" : Str) = some (.ref f_book_of)) (kp_book_of : PySem.W.keepIn K (.ref f_book_of) = true) {f_packed : Addr} {fd_packed : FuncData} {s_packed_ : Sp} (G_packed : FnOk P w K mg base CX0 2 f_packed fd_packed [("numbers" : Str), ("wide" : Str)] s_packed_) (b_packed : Binds K fd_packed [("numbers" : Str), ("wide" : Str)] []) (m_packed : mg ("packed" : Str) = some (.ref f_packed)) (kp_packed : PySem.W.keepIn K (.ref f_packed) = true) {f_bits_for : Addr} {fd_bits_for : FuncData} {s_bits_for_ : Sp} (G_bits_for : FnOk P w K mg base CX0 1 f_bits_for fd_bits_for [("number" : Str)] s_bits_for_) (b_bits_for : Binds K fd_bits_for [("number" : Str)] []) (m_bits_for : mg ("bits_for" : Str) = some (.ref f_bits_for)) (kp_bits_for : PySem.W.keepIn K (.ref f_bits_for) = true) {f_number_bytes : Addr} {fd_number_bytes : FuncData} {s_number_bytes_ : Sp} (G_number_bytes : FnOk P w K mg base CX0 1 f_number_bytes fd_number_bytes [("number" : Str)] s_number_bytes_) (b_number_bytes : Binds K fd_number_bytes [("number" : Str)] []) (m_number_bytes : mg ("number_bytes" : Str) = some (.ref f_number_bytes)) (kp_number_bytes : PySem.W.keepIn K (.ref f_number_bytes) = true) {f_all_bytes : Addr} {fd_all_bytes : FuncData} {s_all_bytes_ : Sp} (G_all_bytes : FnOk P w K mg base CX0 4 f_all_bytes fd_all_bytes [("cells" : Str)] s_all_bytes_) (b_all_bytes : Binds K fd_all_bytes [("cells" : Str)] []) (m_all_bytes : mg ("all_bytes" : Str) = some (.ref f_all_bytes)) (kp_all_bytes : PySem.W.keepIn K (.ref f_all_bytes) = true) (z_enumerate : mg ("enumerate" : Str) = none) (z_len : mg ("len" : Str) = none) {sp : Sp} (hl : ∀ vs H Q E, sp vs H Q E → vs.length = 1)
    (hp : ∀ vs H Q E, sp vs H Q E → t_book_bytes K w s_book_of_ s_packed_ s_bits_for_ s_number_bytes_ s_all_bytes_ { nx := fun _ H' => Q .non H', rt := Q } (start NN_book_bytes vs) H) : FnOk P w K mg base CX0 6 f fd [("cells" : Str)] sp := by
  refine F.ok (k := 5) sc_book_bytes hl (fun cdv A outer s H vs Q E hr h => ⟨t_book_bytes K w s_book_of_ s_packed_ s_bits_for_ s_number_bytes_ s_all_bytes_, ?_, hp vs H Q E h⟩)
  exact (pss_cons (ps_set (i := 1) sc_book_bytes.nd rfl (by first | exact Or.inl rfl | exact Or.inr rfl) (pe_call G_book_of (hr.mono (by decide)) (by rfl) m_book_of kp_book_of b_book_of .nil pass0 (pa_cons (pv 0) pa_nil)))
      (pss_cons (ps_set (i := 2) sc_book_bytes.nd rfl (by first | exact Or.inl rfl | exact Or.inr rfl) pe_dnewC)
      (pss_cons (ps_for PassesOwn.never rfl (pi_enumV (by rfl) z_enumerate (pa_cons (pv 1) pa_nil)) (pg_tup rfl (pgs_cons (pg_name (i := 3) sc_book_bytes.nd rfl (by first | exact Or.inl rfl | exact Or.inr rfl)) (pgs_cons (pg_name (i := 4) sc_book_bytes.nd rfl (by first | exact Or.inl rfl | exact Or.inr rfl)) pgs_nil)))
      (pss_one (ps_asg (pv 3) (pg_sub (pv 2) (pv 4) set_c))))
      (pss_cons (ps_set (i := 5) sc_book_bytes.nd rfl (by first | exact Or.inl rfl | exact Or.inr rfl) (pe_call G_packed (hr.mono (by decide)) (by rfl) m_packed kp_packed b_packed .nil pass0 (pa_cons (pe_lc (own := [(("cell" : Str), 4)]) (g := (gName 4)) (tt := tYes) (te := (tOp (rIxC w) (tVar 2) (tVar 4))) (by rfl) sc_book_bytes.nd (pi_seqV (pv 0)) (blkOk_by (own := [(("cell" : Str), 4)]) (N := [("cells" : Str), ("book" : Str), ("places" : Str), ("place" : Str), ("cell" : Str), ("told" : Str)]) (sc := defScope sT_book_bytes) (by decide +kernel)) (fun _ _ _ _ _ => (pg_name (i := 4) sc_book_bytes.nd rfl (by first | exact Or.inl rfl | exact Or.inr rfl))) (fun _ _ _ _ _ => pts_nil) (fun _ _ _ _ _ => (pe_ix ix_c (pv 2) (pv 4) (fun _ _ => rfl)))) (pa_cons (pe_call G_bits_for (hr.mono (by decide)) (by rfl) m_bits_for kp_bits_for b_bits_for .nil pass0 (pa_cons (pe_op op_subU (pe_callB call_lenU (by rfl) z_len bt_len (pa_cons (pv 1) pa_nil)) pe_int) pa_nil)) pa_nil))))
      (pss_one (ps_ret (pe_op op_addU (pe_op op_addU (pe_call G_number_bytes (hr.mono (by decide)) (by rfl) m_number_bytes kp_number_bytes b_number_bytes .nil pass0 (pa_cons (pe_callB call_lenU (by rfl) z_len bt_len (pa_cons (pv 1) pa_nil)) pa_nil)) (pe_call G_all_bytes (hr.mono (by decide)) (by rfl) m_all_bytes kp_all_bytes b_all_bytes .nil pass0 (pa_cons (pv 1) pa_nil))) (pv 5))))))))
abbrev NN_small_bytes : List Str := [("numbers" : Str), ("wide" : Str)]
abbrev sT_small_bytes : Stmt := topS 22
theorem sc_small_bytes : FnScope NN_small_bytes [("numbers" : Str)] (defScope sT_small_bytes) := ⟨rfl, rfl, rfl, by decide +kernel, rfl, by decide +kernel, by decide +kernel⟩
theorem ok_small_bytes {f : Addr} {fd : FuncData} (F : Fun K ("small_bytes" : Str) ("small_bytes" : Str) sT_small_bytes f fd) {f_bits_for : Addr} {fd_bits_for : FuncData} {s_bits_for_ : Sp} (G_bits_for : FnOk P w K mg base CX0 1 f_bits_for fd_bits_for [("number" : Str)] s_bits_for_) (b_bits_for : Binds K fd_bits_for [("number" : Str)] []) (m_bits_for : mg ("bits_for" : Str) = some (.ref f_bits_for)) (kp_bits_for : PySem.W.keepIn K (.ref f_bits_for) = true) {f_packed : Addr} {fd_packed : FuncData} {s_packed_ : Sp} (G_packed : FnOk P w K mg base CX0 2 f_packed fd_packed [("numbers" : Str), ("wide" : Str)] s_packed_) (b_packed : Binds K fd_packed [("numbers" : Str), ("wide" : Str)] []) (m_packed : mg ("packed" : Str) = some (.ref f_packed)) (kp_packed : PySem.W.keepIn K (.ref f_packed) = true) (z_max : mg ("max" : Str) = none) {sp : Sp} (hl : ∀ vs H Q E, sp vs H Q E → vs.length = 1)
    (hp : ∀ vs H Q E, sp vs H Q E → t_small_bytes K s_bits_for_ s_packed_ { nx := fun _ H' => Q .non H', rt := Q } (start NN_small_bytes vs) H) : FnOk P w K mg base CX0 3 f fd [("numbers" : Str)] sp := by
  refine F.ok (k := 2) sc_small_bytes hl (fun cdv A outer s H vs Q E hr h => ⟨t_small_bytes K s_bits_for_ s_packed_, ?_, hp vs H Q E h⟩)
  exact (pss_cons (ps_set (i := 1) sc_small_bytes.nd rfl (by first | exact Or.inl rfl | exact Or.inr rfl) (pe_call G_bits_for (hr.mono (by decide)) (by rfl) m_bits_for kp_bits_for b_bits_for .nil pass0 (pa_cons (pe_callBK (ck_max (by rfl)) (by rfl) z_max bt_max (pa_cons (pv 0) pa_nil) (pk_cons pe_int pk_nil)) pa_nil)))
      (pss_one (ps_ret (pe_op op_addU (pe_lst (pa_cons (pv 1) pa_nil)) (pe_call G_packed (hr.mono (by decide)) (by rfl) m_packed kp_packed b_packed .nil pass0 (pa_cons (pv 0) (pa_cons (pv 1) pa_nil)))))))
abbrev NN_base_bytes : List Str := [("cells" : Str), ("least" : Str), ("cell" : Str)]
abbrev sT_base_bytes : Stmt := topS 23
theorem sc_base_bytes : FnScope NN_base_bytes [("cells" : Str)] (defScope sT_base_bytes) := ⟨rfl, rfl, rfl, by decide +kernel, rfl, by decide +kernel, by decide +kernel⟩
theorem ok_base_bytes {f : Addr} {fd : FuncData} (F : Fun K ("base_bytes" : Str) ("base_bytes" : Str) sT_base_bytes f fd) {f_number_bytes : Addr} {fd_number_bytes : FuncData} {s_number_bytes_ : Sp} (G_number_bytes : FnOk P w K mg base CX0 1 f_number_bytes fd_number_bytes [("number" : Str)] s_number_bytes_) (b_number_bytes : Binds K fd_number_bytes [("number" : Str)] []) (m_number_bytes : mg ("number_bytes" : Str) = some (.ref f_number_bytes)) (kp_number_bytes : PySem.W.keepIn K (.ref f_number_bytes) = true) {f_small_bytes : Addr} {fd_small_bytes : FuncData} {s_small_bytes_ : Sp} (G_small_bytes : FnOk P w K mg base CX0 3 f_small_bytes fd_small_bytes [("numbers" : Str)] s_small_bytes_) (b_small_bytes : Binds K fd_small_bytes [("numbers" : Str)] []) (m_small_bytes : mg ("small_bytes" : Str) = some (.ref f_small_bytes)) (kp_small_bytes : PySem.W.keepIn K (.ref f_small_bytes) = true) (z_min : mg ("min" : Str) = none) {sp : Sp} (hl : ∀ vs H Q E, sp vs H Q E → vs.length = 1)
    (hp : ∀ vs H Q E, sp vs H Q E → t_base_bytes K s_number_bytes_ s_small_bytes_ { nx := fun _ H' => Q .non H', rt := Q } (start NN_base_bytes vs) H) : FnOk P w K mg base CX0 4 f fd [("cells" : Str)] sp := by
  refine F.ok (k := 3) sc_base_bytes hl (fun cdv A outer s H vs Q E hr h => ⟨t_base_bytes K s_number_bytes_ s_small_bytes_, ?_, hp vs H Q E h⟩)
  exact (pss_cons (ps_set (i := 1) sc_base_bytes.nd rfl (by first | exact Or.inl rfl | exact Or.inr rfl) (pe_callB (cr_minU (by rfl)) (by rfl) z_min bt_min (pa_cons (pv 0) pa_nil)))
      (pss_one (ps_ret (pe_op op_addU (pe_call G_number_bytes (hr.mono (by decide)) (by rfl) m_number_bytes kp_number_bytes b_number_bytes .nil pass0 (pa_cons (pv 1) pa_nil)) (pe_call G_small_bytes (hr.mono (by decide)) (by rfl) m_small_bytes kp_small_bytes b_small_bytes .nil pass0 (pa_cons (pe_lc (own := [(("cell" : Str), 2)]) (g := (gName 2)) (tt := tYes) (te := (tOp (rSubU) (tVar 2) (tVar 1))) (by rfl) sc_base_bytes.nd (pi_seqV (pv 0)) (blkOk_by (own := [(("cell" : Str), 2)]) (N := [("cells" : Str), ("least" : Str), ("cell" : Str)]) (sc := defScope sT_base_bytes) (by decide +kernel)) (fun _ _ _ _ _ => (pg_name (i := 2) sc_base_bytes.nd rfl (by first | exact Or.inl rfl | exact Or.inr rfl))) (fun _ _ _ _ _ => pts_nil) (fun _ _ _ _ _ => (pe_op op_subU (pv 2) (pv 1)))) pa_nil))))))
abbrev NN_step_bytes : List Str := [("cells" : Str), ("one" : Str), ("other" : Str), ("steps" : Str), ("least" : Str), ("step" : Str)]
abbrev sT_step_bytes : Stmt := topS 24
theorem sc_step_bytes : FnScope NN_step_bytes [("cells" : Str)] (defScope sT_step_bytes) := ⟨rfl, rfl, rfl, by decide +kernel, rfl, by decide +kernel, by decide +kernel⟩
theorem ok_step_bytes {f : Addr} {fd : FuncData} (F : Fun K ("step_bytes" : Str) ("step_bytes" : Str) sT_step_bytes f fd) {f_number_bytes : Addr} {fd_number_bytes : FuncData} {s_number_bytes_ : Sp} (G_number_bytes : FnOk P w K mg base CX0 1 f_number_bytes fd_number_bytes [("number" : Str)] s_number_bytes_) (b_number_bytes : Binds K fd_number_bytes [("number" : Str)] []) (m_number_bytes : mg ("number_bytes" : Str) = some (.ref f_number_bytes)) (kp_number_bytes : PySem.W.keepIn K (.ref f_number_bytes) = true) {f_small_bytes : Addr} {fd_small_bytes : FuncData} {s_small_bytes_ : Sp} (G_small_bytes : FnOk P w K mg base CX0 3 f_small_bytes fd_small_bytes [("numbers" : Str)] s_small_bytes_) (b_small_bytes : Binds K fd_small_bytes [("numbers" : Str)] []) (m_small_bytes : mg ("small_bytes" : Str) = some (.ref f_small_bytes)) (kp_small_bytes : PySem.W.keepIn K (.ref f_small_bytes) = true) (z_zip : mg ("zip" : Str) = none) (z_min : mg ("min" : Str) = none) {sp : Sp} (hl : ∀ vs H Q E, sp vs H Q E → vs.length = 1)
    (hp : ∀ vs H Q E, sp vs H Q E → t_step_bytes K s_number_bytes_ s_small_bytes_ { nx := fun _ H' => Q .non H', rt := Q } (start NN_step_bytes vs) H) : FnOk P w K mg base CX0 4 f fd [("cells" : Str)] sp := by
  refine F.ok (k := 3) sc_step_bytes hl (fun cdv A outer s H vs Q E hr h => ⟨t_step_bytes K s_number_bytes_ s_small_bytes_, ?_, hp vs H Q E h⟩)
  exact (pss_cons (ps_setLc (i := 3) (own := [(("one" : Str), 1), (("other" : Str), 2)]) (g := (gTup K 2 (gCons (gName 1) (gCons (gName 2) gNil)))) (tt := tYes) (te := (tOp (rSubU) (tVar 2) (tVar 1))) (by rfl) sc_step_bytes.nd rfl rfl (sw_true rfl rfl rfl (by decide +kernel)) (RZ.pi_zipA (by rfl) z_zip (pa_cons (pv 0) (pa_cons (pe_slice sl_u (pv 0) (po_some pe_int) po_none) pa_nil))) (blkOk_by (own := [(("one" : Str), 1), (("other" : Str), 2)]) (N := [("cells" : Str), ("one" : Str), ("other" : Str), ("steps" : Str), ("least" : Str), ("step" : Str)]) (sc := defScope sT_step_bytes) (by decide +kernel)) (fun _ _ _ _ _ => (pg_tup rfl (pgs_cons (pg_name (i := 1) sc_step_bytes.nd rfl (by first | exact Or.inl rfl | exact Or.inr rfl)) (pgs_cons (pg_name (i := 2) sc_step_bytes.nd rfl (by first | exact Or.inl rfl | exact Or.inr rfl)) pgs_nil)))) (fun _ _ _ _ _ => pts_nil) (fun _ _ _ _ _ => (pe_op op_subU (pv 2) (pv 1))))
      (pss_cons (ps_set (i := 4) sc_step_bytes.nd rfl (by first | exact Or.inl rfl | exact Or.inr rfl) (pe_callBK (ck_min (by rfl)) (by rfl) z_min bt_min (pa_cons (pv 3) pa_nil) (pk_cons pe_int pk_nil)))
      (pss_one (ps_ret (pe_op op_addU (pe_op op_addU (pe_call G_number_bytes (hr.mono (by decide)) (by rfl) m_number_bytes kp_number_bytes b_number_bytes .nil pass0 (pa_cons (pe_ix (ix_u (hu_of hr)) (pv 0) pe_int (fun _ _ => rfl)) pa_nil)) (pe_call G_number_bytes (hr.mono (by decide)) (by rfl) m_number_bytes kp_number_bytes b_number_bytes .nil pass0 (pa_cons (pv 4) pa_nil))) (pe_call G_small_bytes (hr.mono (by decide)) (by rfl) m_small_bytes kp_small_bytes b_small_bytes .nil pass0 (pa_cons (pe_lc (own := [(("step" : Str), 5)]) (g := (gName 5)) (tt := tYes) (te := (tOp (rSubU) (tVar 5) (tVar 4))) (by rfl) sc_step_bytes.nd (pi_seqV (pv 3)) (blkOk_by (own := [(("step" : Str), 5)]) (N := [("cells" : Str), ("one" : Str), ("other" : Str), ("steps" : Str), ("least" : Str), ("step" : Str)]) (sc := defScope sT_step_bytes) (by decide +kernel)) (fun _ _ _ _ _ => (pg_name (i := 5) sc_step_bytes.nd rfl (by first | exact Or.inl rfl | exact Or.inr rfl))) (fun _ _ _ _ _ => pts_nil) (fun _ _ _ _ _ => (pe_op op_subU (pv 5) (pv 4)))) pa_nil)))))))
abbrev NN_press_by : List Str := [("way" : Str), ("cells" : Str), ("head" : Str), ("cell" : Str)]
abbrev sT_press_by : Stmt := topS 25
theorem sc_press_by : FnScope NN_press_by [("way" : Str), ("cells" : Str)] (defScope sT_press_by) := ⟨rfl, rfl, rfl, by decide +kernel, rfl, by decide +kernel, by decide +kernel⟩
theorem ok_press_by {f : Addr} {fd : FuncData} (F : Fun K ("press_by" : Str) ("press_by" : Str) sT_press_by f fd) {f_number_bytes : Addr} {fd_number_bytes : FuncData} {s_number_bytes_ : Sp} (G_number_bytes : FnOk P w K mg base CX0 1 f_number_bytes fd_number_bytes [("number" : Str)] s_number_bytes_) (b_number_bytes : Binds K fd_number_bytes [("number" : Str)] []) (m_number_bytes : mg ("number_bytes" : Str) = some (.ref f_number_bytes)) (kp_number_bytes : PySem.W.keepIn K (.ref f_number_bytes) = true) {f_all_bytes : Addr} {fd_all_bytes : FuncData} {s_all_bytes_ : Sp} (G_all_bytes : FnOk P w K mg base CX0 4 f_all_bytes fd_all_bytes [("cells" : Str)] s_all_bytes_) (b_all_bytes : Binds K fd_all_bytes [("cells" : Str)] []) (m_all_bytes : mg ("all_bytes" : Str) = some (.ref f_all_bytes)) (kp_all_bytes : PySem.W.keepIn K (.ref f_all_bytes) = true) {f_run_bytes : Addr} {fd_run_bytes : FuncData} {s_run_bytes_ : Sp} (G_run_bytes : FnOk P w K mg base CX0 4 f_run_bytes fd_run_bytes [("cells" : Str)] s_run_bytes_) (b_run_bytes : Binds K fd_run_bytes [("cells" : Str)] []) (m_run_bytes : mg ("run_bytes" : Str) = some (.ref f_run_bytes)) (kp_run_bytes : PySem.W.keepIn K (.ref f_run_bytes) = true) {f_book_bytes : Addr} {fd_book_bytes : FuncData} {s_book_bytes_ : Sp} (G_book_bytes : FnOk P w K mg base CX0 6 f_book_bytes fd_book_bytes [("cells" : Str)] s_book_bytes_) (b_book_bytes : Binds K fd_book_bytes [("cells" : Str)] []) (m_book_bytes : mg ("book_bytes" : Str) = some (.ref f_book_bytes)) (kp_book_bytes : PySem.W.keepIn K (.ref f_book_bytes) = true) {f_is_number : Addr} {fd_is_number : FuncData} {s_is_number_ : Sp} (G_is_number : FnOk P w K mg base CX0 1 f_is_number fd_is_number [("thing" : Str)] s_is_number_) (b_is_number : Binds K fd_is_number [("thing" : Str)] []) (m_is_number : mg ("is_number" : Str) = some (.ref f_is_number)) (kp_is_number : PySem.W.keepIn K (.ref f_is_number) = true) {f_base_bytes : Addr} {fd_base_bytes : FuncData} {s_base_bytes_ : Sp} (G_base_bytes : FnOk P w K mg base CX0 4 f_base_bytes fd_base_bytes [("cells" : Str)] s_base_bytes_) (b_base_bytes : Binds K fd_base_bytes [("cells" : Str)] []) (m_base_bytes : mg ("base_bytes" : Str) = some (.ref f_base_bytes)) (kp_base_bytes : PySem.W.keepIn K (.ref f_base_bytes) = true) {f_step_bytes : Addr} {fd_step_bytes : FuncData} {s_step_bytes_ : Sp} (G_step_bytes : FnOk P w K mg base CX0 4 f_step_bytes fd_step_bytes [("cells" : Str)] s_step_bytes_) (b_step_bytes : Binds K fd_step_bytes [("cells" : Str)] []) (m_step_bytes : mg ("step_bytes" : Str) = some (.ref f_step_bytes)) (kp_step_bytes : PySem.W.keepIn K (.ref f_step_bytes) = true) (z_len : mg ("len" : Str) = none) (z_all : mg ("all" : Str) = none) {sp : Sp} (hl : ∀ vs H Q E, sp vs H Q E → vs.length = 2)
    (hp : ∀ vs H Q E, sp vs H Q E → t_press_by K s_number_bytes_ s_all_bytes_ s_run_bytes_ s_book_bytes_ s_is_number_ s_base_bytes_ s_step_bytes_ { nx := fun _ H' => Q .non H', rt := Q } (start NN_press_by vs) H) : FnOk P w K mg base CX0 7 f fd [("way" : Str), ("cells" : Str)] sp := by
  refine F.ok (k := 6) sc_press_by hl (fun cdv A outer s H vs Q E hr h => ⟨t_press_by K s_number_bytes_ s_all_bytes_ s_run_bytes_ s_book_bytes_ s_is_number_ s_base_bytes_ s_step_bytes_, ?_, hp vs H Q E h⟩)
  exact (pss_cons (ps_set (i := 2) sc_press_by.nd rfl (by first | exact Or.inl rfl | exact Or.inr rfl) (pe_op op_addU (pe_lst (pa_cons (pv 0) pa_nil)) (pe_call G_number_bytes (hr.mono (by decide)) (by rfl) m_number_bytes kp_number_bytes b_number_bytes .nil pass0 (pa_cons (pe_callB call_lenU (by rfl) z_len bt_len (pa_cons (pv 1) pa_nil)) pa_nil))))
      (pss_cons (ps_if (pt_cmpR (op_eqU hr.units) (pv 0) pe_int (nomark _))
      (pss_one (ps_ret (pe_op op_addU (pv 2) (pe_call G_all_bytes (hr.mono (by decide)) (by rfl) m_all_bytes kp_all_bytes b_all_bytes .nil pass0 (pa_cons (pv 1) pa_nil)))))
      pss_nil)
      (pss_cons (ps_if (pt_cmpR (op_eqU hr.units) (pv 0) pe_int (nomark _))
      (pss_one (ps_ret (pe_op op_addU (pv 2) (pe_call G_run_bytes (hr.mono (by decide)) (by rfl) m_run_bytes kp_run_bytes b_run_bytes .nil pass0 (pa_cons (pv 1) pa_nil)))))
      pss_nil)
      (pss_cons (ps_if (pt_cmpR (op_eqU hr.units) (pv 0) pe_int (nomark _))
      (pss_one (ps_ret (pe_op op_addU (pv 2) (pe_call G_book_bytes (hr.mono (by decide)) (by rfl) m_book_bytes kp_book_bytes b_book_bytes .nil pass0 (pa_cons (pv 1) pa_nil)))))
      pss_nil)
      (pss_cons (ps_if (pt_not (pt_truU (pe_callB (cr_all (by rfl)) (by rfl) z_all bt_all (pa_cons (pe_lc (own := [(("cell" : Str), 3)]) (g := (gName 3)) (tt := tYes) (te := (tCall s_is_number_ [] E0 (tCons (tVar 3) tNil))) (by rfl) sc_press_by.nd (pi_seqV (pv 1)) (blkOk_by (own := [(("cell" : Str), 3)]) (N := [("way" : Str), ("cells" : Str), ("head" : Str), ("cell" : Str)]) (sc := defScope sT_press_by) (by decide +kernel)) (fun _ _ _ _ _ => (pg_name (i := 3) sc_press_by.nd rfl (by first | exact Or.inl rfl | exact Or.inr rfl))) (fun _ _ _ _ _ => pts_nil) (fun _ _ _ _ _ => (pe_call G_is_number (hr.mono (by decide)) (by rfl) m_is_number kp_is_number b_is_number .nil pass0 (pa_cons (pv 3) pa_nil)))) pa_nil)) (by intro _; rfl)))
      (pss_one (ps_ret pe_non))
      pss_nil)
      (pss_cons (ps_if (pt_cmpR (op_eqU hr.units) (pv 0) pe_int (nomark _))
      (pss_one (ps_ret (pe_op op_addU (pv 2) (pe_call G_base_bytes (hr.mono (by decide)) (by rfl) m_base_bytes kp_base_bytes b_base_bytes .nil pass0 (pa_cons (pv 1) pa_nil)))))
      pss_nil)
      (pss_one (ps_ret (pe_op op_addU (pv 2) (pe_call G_step_bytes (hr.mono (by decide)) (by rfl) m_step_bytes kp_step_bytes b_step_bytes .nil pass0 (pa_cons (pv 1) pa_nil)))))))))))
abbrev NN_pressed : List Str := [("cells" : Str), ("way" : Str), ("rows" : Str), ("row" : Str)]
abbrev sT_pressed : Stmt := topS 26
theorem sc_pressed : FnScope NN_pressed [("cells" : Str)] (defScope sT_pressed) := ⟨rfl, rfl, rfl, by decide +kernel, rfl, by decide +kernel, by decide +kernel⟩
theorem ok_pressed {f : Addr} {fd : FuncData} (F : Fun K ("pressed" : Str) ("pressed" : Str) sT_pressed f fd) {f_press_by : Addr} {fd_press_by : FuncData} {s_press_by_ : Sp} (G_press_by : FnOk P w K mg base CX0 7 f_press_by fd_press_by [("way" : Str), ("cells" : Str)] s_press_by_) (b_press_by : Binds K fd_press_by [("way" : Str), ("cells" : Str)] []) (m_press_by : mg ("press_by" : Str) = some (.ref f_press_by)) (kp_press_by : PySem.W.keepIn K (.ref f_press_by) = true) (z_range : mg ("range" : Str) = none) (z_min : mg ("min" : Str) = none) (z_len : mg ("len" : Str) = none) {kt_WAYS : Tok} (k_WAYS : mg ("WAYS" : Str) = some (.int 5 kt_WAYS)) {sp : Sp} (hl : ∀ vs H Q E, sp vs H Q E → vs.length = 1)
    (hp : ∀ vs H Q E, sp vs H Q E → t_pressed K s_press_by_ { nx := fun _ H' => Q .non H', rt := Q } (start NN_pressed vs) H) : FnOk P w K mg base CX0 8 f fd [("cells" : Str)] sp := by
  refine F.ok (k := 7) sc_pressed hl (fun cdv A outer s H vs Q E hr h => ⟨t_pressed K s_press_by_, ?_, hp vs H Q E h⟩)
  exact (pss_cons (ps_setLc (i := 2) (own := [(("way" : Str), 1)]) (g := (gName 1)) (tt := tYes) (te := (tCall s_press_by_ [] E0 (tCons (tVar 1) (tCons (tVar 0) tNil)))) (by rfl) sc_pressed.nd rfl rfl (sw_true rfl rfl rfl (by decide +kernel)) (pi_range1 rfl z_range (pa_cons (pe_glob rfl k_WAYS ⟨_, rfl⟩) pa_nil)) (blkOk_by (own := [(("way" : Str), 1)]) (N := [("cells" : Str), ("way" : Str), ("rows" : Str), ("row" : Str)]) (sc := defScope sT_pressed) (by decide +kernel)) (fun _ _ _ _ _ => (pg_name (i := 1) sc_pressed.nd rfl (by first | exact Or.inl rfl | exact Or.inr rfl))) (fun _ _ _ _ _ => pts_nil) (fun _ _ _ _ _ => (pe_call G_press_by (hr.mono (by decide)) (by rfl) m_press_by kp_press_by b_press_by .nil pass0 (pa_cons (pv 1) (pa_cons (pv 0) pa_nil)))))
      (pss_cons (ps_setLc (i := 2) (own := [(("row" : Str), 3)]) (g := (gName 3)) (tt := (tTest (tOp (rNotN) (tVar 3) (tC .non)))) (te := (tVar 3)) (by rfl) sc_pressed.nd rfl rfl (sw_true rfl rfl rfl (by decide +kernel)) (pi_seqV (pv 2)) (blkOk_by (own := [(("row" : Str), 3)]) (N := [("cells" : Str), ("way" : Str), ("rows" : Str), ("row" : Str)]) (sc := defScope sT_pressed) (by decide +kernel)) (fun _ _ _ _ _ => (pg_name (i := 3) sc_pressed.nd rfl (by first | exact Or.inl rfl | exact Or.inr rfl))) (fun _ _ _ _ _ => pts_one (pt_cmpR op_notNU (pv 3) pe_non (nomark _))) (fun _ _ _ _ _ => (pv 3)))
      (pss_one (ps_ret (pe_minLen (by rfl) (by rfl) z_min (by rfl) z_len (pa_cons (pv 2) pa_nil))))))
abbrev NN_same : List Str := [("_law_found" : Str), ("_law_due" : Str), ("_law_name" : Str), ("_law_one" : Str), ("_law_other" : Str)]
abbrev sT_same : Stmt := topS 30
theorem sc_same : FnScope NN_same [("_law_found" : Str), ("_law_due" : Str)] (defScope sT_same) := ⟨rfl, rfl, rfl, by decide +kernel, rfl, by decide +kernel, by decide +kernel⟩
theorem ok_same {k : Nat} {f : Addr} {fd : FuncData} (F : Fun K ("_law_same" : Str) ("_law_same" : Str) sT_same f fd) {f_same : Addr} {fd_same : FuncData} {s_same_ : Sp} (G_same : FnOk P w K mg base CX0 k f_same fd_same [("_law_found" : Str), ("_law_due" : Str)] s_same_) (b_same : Binds K fd_same [("_law_found" : Str), ("_law_due" : Str)] []) (m_same : mg ("_law_same" : Str) = some (.ref f_same)) (kp_same : PySem.W.keepIn K (.ref f_same) = true) (z_isinstance : mg ("isinstance" : Str) = none) (z_dict : mg ("dict" : Str) = none) (z_list : mg ("list" : Str) = none) (z_tuple : mg ("tuple" : Str) = none) (z_len : mg ("len" : Str) = none) (z_all : mg ("all" : Str) = none) (z_zip : mg ("zip" : Str) = none) (z_str : mg ("str" : Str) = none) (z_int : mg ("int" : Str) = none) (z_bool : mg ("bool" : Str) = none) {sp : Sp} (hl : ∀ vs H Q E, sp vs H Q E → vs.length = 2)
    (hp : ∀ vs H Q E, sp vs H Q E → t_same K s_same_ { nx := fun _ H' => Q .non H', rt := Q } (start NN_same vs) H) : FnOk P w K mg base CX0 (k + 1) f fd [("_law_found" : Str), ("_law_due" : Str)] sp := by
  refine F.ok (k := k) sc_same hl (fun cdv A outer s H vs Q E hr h => ⟨t_same K s_same_, ?_, hp vs H Q E h⟩)
  exact (pss_cons (ps_if (pt_cmpR op_isNU (pv 1) pe_non (nomark _))
      (pss_one (ps_ret (pe_cmpR op_isNU (pv 0) pe_non (nomark _))))
      pss_nil)
      (pss_cons (ps_if (pt_truU (pe_callB call_isiU (by rfl) z_isinstance bt_isinstance (pa_cons (pv 1) (pa_cons (pe_bltn (by rfl) z_dict bt_dict rfl) pa_nil))) (by intro _; rfl))
      (pss_cons ps_never
      (pss_one ps_never))
      pss_nil)
      (pss_cons (ps_if (PW.pt (pw_or (pt_truU (pe_callB call_isiU (by rfl) z_isinstance bt_isinstance (pa_cons (pv 1) (pa_cons (pe_bltn (by rfl) z_list bt_list rfl) pa_nil))) (by intro _; rfl)) (pw_or1 (pt_truU (pe_callB call_isiU (by rfl) z_isinstance bt_isinstance (pa_cons (pv 1) (pa_cons (pe_bltn (by rfl) z_tuple bt_tuple rfl) pa_nil))) (by intro _; rfl)))))
      (pss_cons (ps_if (pt_cmpR (op_neU hr.units) (pe_callB call_isiU (by rfl) z_isinstance bt_isinstance (pa_cons (pv 0) (pa_cons (pe_bltn (by rfl) z_list bt_list rfl) pa_nil))) (pe_callB call_isiU (by rfl) z_isinstance bt_isinstance (pa_cons (pv 1) (pa_cons (pe_bltn (by rfl) z_list bt_list rfl) pa_nil))) (nomark _))
      (pss_one (ps_ret pe_bl))
      pss_nil)
      (pss_cons (ps_if (PW.pt (pw_or (pt_cmpR (op_neU hr.units) (pe_callB call_isiU (by rfl) z_isinstance bt_isinstance (pa_cons (pv 0) (pa_cons (pe_bltn (by rfl) z_tuple bt_tuple rfl) pa_nil))) (pe_callB call_isiU (by rfl) z_isinstance bt_isinstance (pa_cons (pv 1) (pa_cons (pe_bltn (by rfl) z_tuple bt_tuple rfl) pa_nil))) (nomark _)) (pw_or1 (pt_cmpR (op_neU hr.units) (pe_callB call_lenU (by rfl) z_len bt_len (pa_cons (pv 0) pa_nil)) (pe_callB call_lenU (by rfl) z_len bt_len (pa_cons (pv 1) pa_nil)) (nomark _)))))
      (pss_one (ps_ret pe_bl))
      pss_nil)
      (pss_one (ps_ret (pe_callB (cr_all (by rfl)) (by rfl) z_all bt_all (pa_cons (pe_lc (own := [(("_law_one" : Str), 3), (("_law_other" : Str), 4)]) (g := (gTup K 2 (gCons (gName 3) (gCons (gName 4) gNil)))) (tt := tYes) (te := (tCall s_same_ [] E0 (tCons (tVar 3) (tCons (tVar 4) tNil)))) (by rfl) sc_same.nd (RZ.pi_zipA (by rfl) z_zip (pa_cons (pv 0) (pa_cons (pv 1) pa_nil))) (blkOk_by (own := [(("_law_one" : Str), 3), (("_law_other" : Str), 4)]) (N := [("_law_found" : Str), ("_law_due" : Str), ("_law_name" : Str), ("_law_one" : Str), ("_law_other" : Str)]) (sc := defScope sT_same) (by decide +kernel)) (fun _ _ _ _ _ => (pg_tup rfl (pgs_cons (pg_name (i := 3) sc_same.nd rfl (by first | exact Or.inl rfl | exact Or.inr rfl)) (pgs_cons (pg_name (i := 4) sc_same.nd rfl (by first | exact Or.inl rfl | exact Or.inr rfl)) pgs_nil)))) (fun _ _ _ _ _ => pts_nil) (fun _ _ _ _ _ => (pe_call G_same (hr.mono (by exact Nat.le_refl _)) (by rfl) m_same kp_same b_same .nil pass0 (pa_cons (pv 3) (pa_cons (pv 4) pa_nil))))) pa_nil))))))
      pss_nil)
      (pss_cons (ps_if (pt_truU (pe_callB call_isiU (by rfl) z_isinstance bt_isinstance (pa_cons (pv 1) (pa_cons (pe_bltn (by rfl) z_str bt_str rfl) pa_nil))) (by intro _; rfl))
      (pss_one (ps_ret (pe_and (pe_callB call_isiU (by rfl) z_isinstance bt_isinstance (pa_cons (pv 0) (pa_cons (pe_bltn (by rfl) z_str bt_str rfl) pa_nil))) (pe_one (pe_cmpR (op_eqU hr.units) (pv 0) (pv 1) (nomark _))))))
      pss_nil)
      (pss_one (ps_ret (pe_and (pe_callB call_isiU (by rfl) z_isinstance bt_isinstance (pa_cons (pv 0) (pa_cons (pe_bltn (by rfl) z_int bt_int rfl) pa_nil))) (pe_and (pe_not (pe_callB call_isiU (by rfl) z_isinstance bt_isinstance (pa_cons (pv 0) (pa_cons (pe_bltn (by rfl) z_bool bt_bool rfl) pa_nil)))) (pe_one (pe_cmpR (op_eqU hr.units) (pv 0) (pv 1) (nomark _)))))))))))
abbrev NN_law : List Str := [("_law_script" : Str), ("_law_state" : Str), ("_law_turn" : Str), ("_law_cells_here" : Str), ("_law_due" : Str), ("_law_way" : Str), ("_law_row" : Str), ("_law_handed" : Str), ("_law_found" : Str)]
abbrev sT_law : Stmt := topS 45
theorem sc_law : FnScope NN_law [("_law_script" : Str)] (defScope sT_law) := ⟨rfl, rfl, rfl, by decide +kernel, rfl, by decide +kernel, by decide +kernel⟩
theorem ok_law {f : Addr} {fd : FuncData} (F : Fun K ("law" : Str) ("law" : Str) sT_law f fd) {f_begin : Addr} {fd_begin : FuncData} {s_begin_ : Sp} (G_begin : FnOk P w K mg base CX0 1 f_begin fd_begin [("_law_script" : Str)] s_begin_) (b_begin : Binds K fd_begin [("_law_script" : Str)] []) (m_begin : mg ("_law_begin" : Str) = some (.ref f_begin)) (kp_begin : PySem.W.keepIn K (.ref f_begin) = true) {f_stretch : Addr} {fd_stretch : FuncData} {s_stretch_ : Sp} (G_stretch : FnOk P w K mg base CX0 4 f_stretch fd_stretch [("_law_state" : Str)] s_stretch_) (b_stretch : Binds K fd_stretch [("_law_state" : Str)] []) (m_stretch : mg ("_law_stretch" : Str) = some (.ref f_stretch)) (kp_stretch : PySem.W.keepIn K (.ref f_stretch) = true) {f_own_press : Addr} {fd_own_press : FuncData} {s_own_press_ : Sp} (G_own_press : FnOk P w K mg base CX0 5 f_own_press fd_own_press [("_law_way" : Str), ("_law_cells_here" : Str)] s_own_press_) (b_own_press : Binds K fd_own_press [("_law_way" : Str), ("_law_cells_here" : Str)] []) (m_own_press : mg ("_law_press" : Str) = some (.ref f_own_press)) (kp_own_press : PySem.W.keepIn K (.ref f_own_press) = true) {f_pressed : Addr} {fd_pressed : FuncData} {s_pressed_ : Sp} (G_pressed : FnOk P w K mg base CX0 8 f_pressed fd_pressed [("cells" : Str)] s_pressed_) (b_pressed : Binds K fd_pressed [("cells" : Str)] []) (m_pressed : mg ("pressed" : Str) = some (.ref f_pressed)) (kp_pressed : PySem.W.keepIn K (.ref f_pressed) = true) {f_same : Addr} {fd_same : FuncData} {s_same_ : Sp} (G_same : FnOk P w K mg base CX0 6 f_same fd_same [("_law_found" : Str), ("_law_due" : Str)] s_same_) (b_same : Binds K fd_same [("_law_found" : Str), ("_law_due" : Str)] []) (m_same : mg ("_law_same" : Str) = some (.ref f_same)) (kp_same : PySem.W.keepIn K (.ref f_same) = true) (z_range : mg ("range" : Str) = none) (z_len : mg ("len" : Str) = none) (z_list : mg ("list" : Str) = none) (z_tuple : mg ("tuple" : Str) = none) {sp : Sp} (hl : ∀ vs H Q E, sp vs H Q E → vs.length = 1)
    (hp : ∀ vs H Q E, sp vs H Q E → t_law K s_begin_ s_stretch_ s_own_press_ s_pressed_ s_same_ { nx := fun _ H' => Q .non H', rt := Q } (start NN_law vs) H) : FnOk P w K mg base CX0 9 f fd [("_law_script" : Str)] sp := by
  refine F.ok (k := 8) sc_law hl (fun cdv A outer s H vs Q E hr h => ⟨t_law K s_begin_ s_stretch_ s_own_press_ s_pressed_ s_same_, ?_, hp vs H Q E h⟩)
  exact (pss_cons (ps_set (i := 1) sc_law.nd rfl (by first | exact Or.inl rfl | exact Or.inr rfl) (pe_call G_begin (hr.mono (by decide)) (by rfl) m_begin kp_begin b_begin .nil pass0 (pa_cons (pv 0) pa_nil)))
      (pss_cons (ps_for PassesOwn.never rfl (pi_range1 rfl z_range (pa_cons pe_int pa_nil)) (pg_name (i := 2) sc_law.nd rfl (by first | exact Or.inl rfl | exact Or.inr rfl))
      (pss_cons (ps_set (i := 3) sc_law.nd rfl (by first | exact Or.inl rfl | exact Or.inr rfl) (pe_call G_stretch (hr.mono (by decide)) (by rfl) m_stretch kp_stretch b_stretch .nil pass0 (pa_cons (pv 1) pa_nil)))
      (pss_cons (ps_set (i := 4) sc_law.nd rfl (by first | exact Or.inl rfl | exact Or.inr rfl) pe_non)
      (pss_cons (ps_for PassesOwn.never rfl (pi_range1 rfl z_range (pa_cons pe_int pa_nil)) (pg_name (i := 5) sc_law.nd rfl (by first | exact Or.inl rfl | exact Or.inr rfl))
      (pss_cons (ps_set (i := 6) sc_law.nd rfl (by first | exact Or.inl rfl | exact Or.inr rfl) (pe_call G_own_press (hr.mono (by decide)) (by rfl) m_own_press kp_own_press b_own_press .nil pass0 (pa_cons (pv 5) (pa_cons (pv 3) pa_nil))))
      (pss_one (ps_if (PW.pt (pw_and (pt_cmpR op_notNU (pv 6) pe_non (nomark _)) (pw_and1 (PW.pt (pw_or (pt_cmpR op_isNU (pv 4) pe_non (nomark _)) (pw_or1 (pt_cmpR op_ltU (pe_callB call_lenU (by rfl) z_len bt_len (pa_cons (pv 6) pa_nil)) (pe_callB call_lenU (by rfl) z_len bt_len (pa_cons (pv 4) pa_nil)) (nomark _))))))))
      (pss_one (ps_set (i := 4) sc_law.nd rfl (by first | exact Or.inl rfl | exact Or.inr rfl) (pv 6)))
      pss_nil))))
      (pss_cons (ps_set (i := 7) sc_law.nd rfl (by first | exact Or.inl rfl | exact Or.inr rfl) (pe_callTy (call_listU (by rfl)) (by rfl) z_list bt_list (pa_cons (pv 3) pa_nil)))
      (pss_cons (ps_set (i := 8) sc_law.nd rfl (by first | exact Or.inl rfl | exact Or.inr rfl) (pe_call G_pressed (hr.mono (by decide)) (by rfl) m_pressed kp_pressed b_pressed .nil pass0 (pa_cons (pv 7) pa_nil)))
      (pss_cons (ps_if (PW.pt (pw_or (pt_not (pt_truU (pe_call G_same (hr.mono (by decide)) (by rfl) m_same kp_same b_same .nil pass0 (pa_cons (pv 8) (pa_cons (pv 4) pa_nil))) (by intro _; rfl))) (pw_or1 (pt_cmpR (op_neU hr.units) (pv 7) (pv 3) (nomark _)))))
      (pss_one (ps_ret pe_bl))
      pss_nil)
      (pss_cons (ps_expr (pe_bm0 PySem.F.plainAttrs_list PySem.F.slot_list_reverse PySem.F.type_list_reverse mt_reverse (pv 8)))
      (pss_one (ps_if (pt_not (pt_truU (pe_call G_same (hr.mono (by decide)) (by rfl) m_same kp_same b_same .nil pass0 (pa_cons (pe_call G_pressed (hr.mono (by decide)) (by rfl) m_pressed kp_pressed b_pressed .nil pass0 (pa_cons (pe_callTy call_tupU (by rfl) z_tuple bt_tuple (pa_cons (pv 3) pa_nil)) pa_nil)) (pa_cons (pv 4) pa_nil))) (by intro _; rfl)))
      (pss_one (ps_ret pe_bl))
      pss_nil))))))))))
      (pss_one (ps_ret pe_bl))))
end
theorem all_mk {l : PySem.W.OpenLaw} {w : World} {K : PySem.W.Frag} {h : Heap} {mg : Str → Option Value} {fa : Addr} (X : K.In h) (G : h.Ns mainGlobals mg) (hfa : mg "law" = some (.ref fa))
    {f_begin : Addr} {od_begin an_begin : Option Addr} {sl_begin : Array (Option Value)} {oc_begin kV_begin dc_begin pm_begin cd_begin ct_begin : Value} {f_take : Addr} {od_take an_take : Option Addr} {sl_take : Array (Option Value)} {oc_take kV_take dc_take pm_take cd_take ct_take : Value} {f_text : Addr} {od_text an_text : Option Addr} {sl_text : Array (Option Value)} {oc_text kV_text dc_text pm_text cd_text ct_text : Value} {f_number : Addr} {od_number an_number : Option Addr} {sl_number : Array (Option Value)} {oc_number kV_number dc_number pm_number cd_number ct_number : Value} {f_cells : Addr} {od_cells an_cells : Option Addr} {sl_cells : Array (Option Value)} {oc_cells kV_cells dc_cells pm_cells cd_cells ct_cells : Value} {f_stretch : Addr} {od_stretch an_stretch : Option Addr} {sl_stretch : Array (Option Value)} {oc_stretch kV_stretch dc_stretch pm_stretch cd_stretch ct_stretch : Value} {f_own_nb : Addr} {od_own_nb an_own_nb : Option Addr} {sl_own_nb : Array (Option Value)} {oc_own_nb kV_own_nb dc_own_nb pm_own_nb cd_own_nb ct_own_nb : Value} {f_sign_number : Addr} {od_sign_number an_sign_number : Option Addr} {sl_sign_number : Array (Option Value)} {oc_sign_number kV_sign_number dc_sign_number pm_sign_number cd_sign_number ct_sign_number : Value} {f_own_cb8 : Addr} {od_own_cb8 an_own_cb8 : Option Addr} {sl_own_cb8 : Array (Option Value)} {oc_own_cb8 kV_own_cb8 dc_own_cb8 pm_own_cb8 cd_own_cb8 ct_own_cb8 : Value} {f_own_runs : Addr} {od_own_runs an_own_runs : Option Addr} {sl_own_runs : Array (Option Value)} {oc_own_runs kV_own_runs dc_own_runs pm_own_runs cd_own_runs ct_own_runs : Value} {f_own_key : Addr} {od_own_key an_own_key : Option Addr} {sl_own_key : Array (Option Value)} {oc_own_key kV_own_key dc_own_key pm_own_key cd_own_key ct_own_key : Value} {f_own_packed : Addr} {od_own_packed an_own_packed : Option Addr} {sl_own_packed : Array (Option Value)} {oc_own_packed kV_own_packed dc_own_packed pm_own_packed cd_own_packed ct_own_packed : Value} {f_own_bits : Addr} {od_own_bits an_own_bits : Option Addr} {sl_own_bits : Array (Option Value)} {oc_own_bits kV_own_bits dc_own_bits pm_own_bits cd_own_bits ct_own_bits : Value} {f_own_book : Addr} {od_own_book an_own_book : Option Addr} {sl_own_book : Array (Option Value)} {oc_own_book kV_own_book dc_own_book pm_own_book cd_own_book ct_own_book : Value} {f_own_small : Addr} {od_own_small an_own_small : Option Addr} {sl_own_small : Array (Option Value)} {oc_own_small kV_own_small dc_own_small pm_own_small cd_own_small ct_own_small : Value} {f_own_press : Addr} {od_own_press an_own_press : Option Addr} {sl_own_press : Array (Option Value)} {oc_own_press kV_own_press dc_own_press pm_own_press cd_own_press ct_own_press : Value} {f_number_bytes : Addr} {od_number_bytes an_number_bytes : Option Addr} {sl_number_bytes : Array (Option Value)} {oc_number_bytes kV_number_bytes dc_number_bytes pm_number_bytes cd_number_bytes ct_number_bytes : Value} {f_text_bytes : Addr} {od_text_bytes an_text_bytes : Option Addr} {sl_text_bytes : Array (Option Value)} {oc_text_bytes kV_text_bytes dc_text_bytes pm_text_bytes cd_text_bytes ct_text_bytes : Value} {f_cell_bytes : Addr} {od_cell_bytes an_cell_bytes : Option Addr} {sl_cell_bytes : Array (Option Value)} {oc_cell_bytes kV_cell_bytes dc_cell_bytes pm_cell_bytes cd_cell_bytes ct_cell_bytes : Value} {f_all_bytes : Addr} {od_all_bytes an_all_bytes : Option Addr} {sl_all_bytes : Array (Option Value)} {oc_all_bytes kV_all_bytes dc_all_bytes pm_all_bytes cd_all_bytes ct_all_bytes : Value} {f_runs_of : Addr} {od_runs_of an_runs_of : Option Addr} {sl_runs_of : Array (Option Value)} {oc_runs_of kV_runs_of dc_runs_of pm_runs_of cd_runs_of ct_runs_of : Value} {f_run_bytes : Addr} {od_run_bytes an_run_bytes : Option Addr} {sl_run_bytes : Array (Option Value)} {oc_run_bytes kV_run_bytes dc_run_bytes pm_run_bytes cd_run_bytes ct_run_bytes : Value} {f_is_number : Addr} {od_is_number an_is_number : Option Addr} {sl_is_number : Array (Option Value)} {oc_is_number kV_is_number dc_is_number pm_is_number cd_is_number ct_is_number : Value} {f_cell_key : Addr} {od_cell_key an_cell_key : Option Addr} {sl_cell_key : Array (Option Value)} {oc_cell_key kV_cell_key dc_cell_key pm_cell_key cd_cell_key ct_cell_key : Value} {f_book_of : Addr} {od_book_of an_book_of : Option Addr} {sl_book_of : Array (Option Value)} {oc_book_of kV_book_of dc_book_of pm_book_of cd_book_of ct_book_of : Value} {f_power_of : Addr} {od_power_of an_power_of : Option Addr} {sl_power_of : Array (Option Value)} {oc_power_of kV_power_of dc_power_of pm_power_of cd_power_of ct_power_of : Value} {f_byte_count : Addr} {od_byte_count an_byte_count : Option Addr} {sl_byte_count : Array (Option Value)} {oc_byte_count kV_byte_count dc_byte_count pm_byte_count cd_byte_count ct_byte_count : Value} {f_packed : Addr} {od_packed an_packed : Option Addr} {sl_packed : Array (Option Value)} {oc_packed kV_packed dc_packed pm_packed cd_packed ct_packed : Value} {f_bits_for : Addr} {od_bits_for an_bits_for : Option Addr} {sl_bits_for : Array (Option Value)} {oc_bits_for kV_bits_for dc_bits_for pm_bits_for cd_bits_for ct_bits_for : Value} {f_book_bytes : Addr} {od_book_bytes an_book_bytes : Option Addr} {sl_book_bytes : Array (Option Value)} {oc_book_bytes kV_book_bytes dc_book_bytes pm_book_bytes cd_book_bytes ct_book_bytes : Value} {f_small_bytes : Addr} {od_small_bytes an_small_bytes : Option Addr} {sl_small_bytes : Array (Option Value)} {oc_small_bytes kV_small_bytes dc_small_bytes pm_small_bytes cd_small_bytes ct_small_bytes : Value} {f_base_bytes : Addr} {od_base_bytes an_base_bytes : Option Addr} {sl_base_bytes : Array (Option Value)} {oc_base_bytes kV_base_bytes dc_base_bytes pm_base_bytes cd_base_bytes ct_base_bytes : Value} {f_step_bytes : Addr} {od_step_bytes an_step_bytes : Option Addr} {sl_step_bytes : Array (Option Value)} {oc_step_bytes kV_step_bytes dc_step_bytes pm_step_bytes cd_step_bytes ct_step_bytes : Value} {f_press_by : Addr} {od_press_by an_press_by : Option Addr} {sl_press_by : Array (Option Value)} {oc_press_by kV_press_by dc_press_by pm_press_by cd_press_by ct_press_by : Value} {f_pressed : Addr} {od_pressed an_pressed : Option Addr} {sl_pressed : Array (Option Value)} {oc_pressed kV_pressed dc_pressed pm_pressed cd_pressed ct_pressed : Value} {f_same : Addr} {od_same an_same : Option Addr} {sl_same : Array (Option Value)} {oc_same kV_same dc_same pm_same cd_same ct_same : Value} {f_law : Addr} {od_law an_law : Option Addr} {sl_law : Array (Option Value)} {oc_law kV_law dc_law pm_law cd_law ct_law : Value} {kt_MORE : Tok} {kt_SIGNS : Tok} {kt_BITS : Tok} {kt_BYTE : Tok} {kt_WAYS : Tok}
    (a_begin : PySem.W.nsIn K mainGlobals ("_law_begin" : Str) = some (some (.ref f_begin)))
    (l_begin : K.lookup f_begin = some ⟨oc_begin, od_begin, .func (PySem.W.fnOf ("_law_begin" : Str) ("_law_begin" : Str) (defArgs sT_begin) (defBody sT_begin) (defScope sT_begin) .none kV_begin dc_begin pm_begin an_begin cd_begin ct_begin), sl_begin⟩)
    (c_begin : PySem.W.codeIn K cd_begin ("_law_begin" : Str) = true)
    (kp_begin : PySem.W.keepIn K (.ref f_begin) = true)
    (a_take : PySem.W.nsIn K mainGlobals ("_law_take" : Str) = some (some (.ref f_take)))
    (l_take : K.lookup f_take = some ⟨oc_take, od_take, .func (PySem.W.fnOf ("_law_take" : Str) ("_law_take" : Str) (defArgs sT_take) (defBody sT_take) (defScope sT_take) .none kV_take dc_take pm_take an_take cd_take ct_take), sl_take⟩)
    (c_take : PySem.W.codeIn K cd_take ("_law_take" : Str) = true)
    (kp_take : PySem.W.keepIn K (.ref f_take) = true)
    (a_text : PySem.W.nsIn K mainGlobals ("_law_text" : Str) = some (some (.ref f_text)))
    (l_text : K.lookup f_text = some ⟨oc_text, od_text, .func (PySem.W.fnOf ("_law_text" : Str) ("_law_text" : Str) (defArgs sT_text) (defBody sT_text) (defScope sT_text) .none kV_text dc_text pm_text an_text cd_text ct_text), sl_text⟩)
    (c_text : PySem.W.codeIn K cd_text ("_law_text" : Str) = true)
    (kp_text : PySem.W.keepIn K (.ref f_text) = true)
    (a_number : PySem.W.nsIn K mainGlobals ("_law_number" : Str) = some (some (.ref f_number)))
    (l_number : K.lookup f_number = some ⟨oc_number, od_number, .func (PySem.W.fnOf ("_law_number" : Str) ("_law_number" : Str) (defArgs sT_number) (defBody sT_number) (defScope sT_number) .none kV_number dc_number pm_number an_number cd_number ct_number), sl_number⟩)
    (c_number : PySem.W.codeIn K cd_number ("_law_number" : Str) = true)
    (kp_number : PySem.W.keepIn K (.ref f_number) = true)
    (a_cells : PySem.W.nsIn K mainGlobals ("_law_cells" : Str) = some (some (.ref f_cells)))
    (l_cells : K.lookup f_cells = some ⟨oc_cells, od_cells, .func (PySem.W.fnOf ("_law_cells" : Str) ("_law_cells" : Str) (defArgs sT_cells) (defBody sT_cells) (defScope sT_cells) .none kV_cells dc_cells pm_cells an_cells cd_cells ct_cells), sl_cells⟩)
    (c_cells : PySem.W.codeIn K cd_cells ("_law_cells" : Str) = true)
    (kp_cells : PySem.W.keepIn K (.ref f_cells) = true)
    (a_stretch : PySem.W.nsIn K mainGlobals ("_law_stretch" : Str) = some (some (.ref f_stretch)))
    (l_stretch : K.lookup f_stretch = some ⟨oc_stretch, od_stretch, .func (PySem.W.fnOf ("_law_stretch" : Str) ("_law_stretch" : Str) (defArgs sT_stretch) (defBody sT_stretch) (defScope sT_stretch) .none kV_stretch dc_stretch pm_stretch an_stretch cd_stretch ct_stretch), sl_stretch⟩)
    (c_stretch : PySem.W.codeIn K cd_stretch ("_law_stretch" : Str) = true)
    (kp_stretch : PySem.W.keepIn K (.ref f_stretch) = true)
    (a_own_nb : PySem.W.nsIn K mainGlobals ("_law_number_bytes" : Str) = some (some (.ref f_own_nb)))
    (l_own_nb : K.lookup f_own_nb = some ⟨oc_own_nb, od_own_nb, .func (PySem.W.fnOf ("_law_number_bytes" : Str) ("_law_number_bytes" : Str) (defArgs sT_own_nb) (defBody sT_own_nb) (defScope sT_own_nb) .none kV_own_nb dc_own_nb pm_own_nb an_own_nb cd_own_nb ct_own_nb), sl_own_nb⟩)
    (c_own_nb : PySem.W.codeIn K cd_own_nb ("_law_number_bytes" : Str) = true)
    (kp_own_nb : PySem.W.keepIn K (.ref f_own_nb) = true)
    (a_sign_number : PySem.W.nsIn K mainGlobals ("_law_sign_number" : Str) = some (some (.ref f_sign_number)))
    (l_sign_number : K.lookup f_sign_number = some ⟨oc_sign_number, od_sign_number, .func (PySem.W.fnOf ("_law_sign_number" : Str) ("_law_sign_number" : Str) (defArgs sT_sign_number) (defBody sT_sign_number) (defScope sT_sign_number) .none kV_sign_number dc_sign_number pm_sign_number an_sign_number cd_sign_number ct_sign_number), sl_sign_number⟩)
    (c_sign_number : PySem.W.codeIn K cd_sign_number ("_law_sign_number" : Str) = true)
    (kp_sign_number : PySem.W.keepIn K (.ref f_sign_number) = true)
    (a_own_cb8 : PySem.W.nsIn K mainGlobals ("_law_cell_bytes" : Str) = some (some (.ref f_own_cb8)))
    (l_own_cb8 : K.lookup f_own_cb8 = some ⟨oc_own_cb8, od_own_cb8, .func (PySem.W.fnOf ("_law_cell_bytes" : Str) ("_law_cell_bytes" : Str) (defArgs sT_own_cb8) (defBody sT_own_cb8) (defScope sT_own_cb8) .none kV_own_cb8 dc_own_cb8 pm_own_cb8 an_own_cb8 cd_own_cb8 ct_own_cb8), sl_own_cb8⟩)
    (c_own_cb8 : PySem.W.codeIn K cd_own_cb8 ("_law_cell_bytes" : Str) = true)
    (kp_own_cb8 : PySem.W.keepIn K (.ref f_own_cb8) = true)
    (a_own_runs : PySem.W.nsIn K mainGlobals ("_law_run_bytes" : Str) = some (some (.ref f_own_runs)))
    (l_own_runs : K.lookup f_own_runs = some ⟨oc_own_runs, od_own_runs, .func (PySem.W.fnOf ("_law_run_bytes" : Str) ("_law_run_bytes" : Str) (defArgs sT_own_runs) (defBody sT_own_runs) (defScope sT_own_runs) .none kV_own_runs dc_own_runs pm_own_runs an_own_runs cd_own_runs ct_own_runs), sl_own_runs⟩)
    (c_own_runs : PySem.W.codeIn K cd_own_runs ("_law_run_bytes" : Str) = true)
    (kp_own_runs : PySem.W.keepIn K (.ref f_own_runs) = true)
    (a_own_key : PySem.W.nsIn K mainGlobals ("_law_key" : Str) = some (some (.ref f_own_key)))
    (l_own_key : K.lookup f_own_key = some ⟨oc_own_key, od_own_key, .func (PySem.W.fnOf ("_law_key" : Str) ("_law_key" : Str) (defArgs sT_own_key) (defBody sT_own_key) (defScope sT_own_key) .none kV_own_key dc_own_key pm_own_key an_own_key cd_own_key ct_own_key), sl_own_key⟩)
    (c_own_key : PySem.W.codeIn K cd_own_key ("_law_key" : Str) = true)
    (kp_own_key : PySem.W.keepIn K (.ref f_own_key) = true)
    (a_own_packed : PySem.W.nsIn K mainGlobals ("_law_packed" : Str) = some (some (.ref f_own_packed)))
    (l_own_packed : K.lookup f_own_packed = some ⟨oc_own_packed, od_own_packed, .func (PySem.W.fnOf ("_law_packed" : Str) ("_law_packed" : Str) (defArgs sT_own_packed) (defBody sT_own_packed) (defScope sT_own_packed) .none kV_own_packed dc_own_packed pm_own_packed an_own_packed cd_own_packed ct_own_packed), sl_own_packed⟩)
    (c_own_packed : PySem.W.codeIn K cd_own_packed ("_law_packed" : Str) = true)
    (kp_own_packed : PySem.W.keepIn K (.ref f_own_packed) = true)
    (a_own_bits : PySem.W.nsIn K mainGlobals ("_law_bits_for" : Str) = some (some (.ref f_own_bits)))
    (l_own_bits : K.lookup f_own_bits = some ⟨oc_own_bits, od_own_bits, .func (PySem.W.fnOf ("_law_bits_for" : Str) ("_law_bits_for" : Str) (defArgs sT_own_bits) (defBody sT_own_bits) (defScope sT_own_bits) .none kV_own_bits dc_own_bits pm_own_bits an_own_bits cd_own_bits ct_own_bits), sl_own_bits⟩)
    (c_own_bits : PySem.W.codeIn K cd_own_bits ("_law_bits_for" : Str) = true)
    (kp_own_bits : PySem.W.keepIn K (.ref f_own_bits) = true)
    (a_own_book : PySem.W.nsIn K mainGlobals ("_law_book_bytes" : Str) = some (some (.ref f_own_book)))
    (l_own_book : K.lookup f_own_book = some ⟨oc_own_book, od_own_book, .func (PySem.W.fnOf ("_law_book_bytes" : Str) ("_law_book_bytes" : Str) (defArgs sT_own_book) (defBody sT_own_book) (defScope sT_own_book) .none kV_own_book dc_own_book pm_own_book an_own_book cd_own_book ct_own_book), sl_own_book⟩)
    (c_own_book : PySem.W.codeIn K cd_own_book ("_law_book_bytes" : Str) = true)
    (kp_own_book : PySem.W.keepIn K (.ref f_own_book) = true)
    (a_own_small : PySem.W.nsIn K mainGlobals ("_law_small_bytes" : Str) = some (some (.ref f_own_small)))
    (l_own_small : K.lookup f_own_small = some ⟨oc_own_small, od_own_small, .func (PySem.W.fnOf ("_law_small_bytes" : Str) ("_law_small_bytes" : Str) (defArgs sT_own_small) (defBody sT_own_small) (defScope sT_own_small) .none kV_own_small dc_own_small pm_own_small an_own_small cd_own_small ct_own_small), sl_own_small⟩)
    (c_own_small : PySem.W.codeIn K cd_own_small ("_law_small_bytes" : Str) = true)
    (kp_own_small : PySem.W.keepIn K (.ref f_own_small) = true)
    (a_own_press : PySem.W.nsIn K mainGlobals ("_law_press" : Str) = some (some (.ref f_own_press)))
    (l_own_press : K.lookup f_own_press = some ⟨oc_own_press, od_own_press, .func (PySem.W.fnOf ("_law_press" : Str) ("_law_press" : Str) (defArgs sT_own_press) (defBody sT_own_press) (defScope sT_own_press) .none kV_own_press dc_own_press pm_own_press an_own_press cd_own_press ct_own_press), sl_own_press⟩)
    (c_own_press : PySem.W.codeIn K cd_own_press ("_law_press" : Str) = true)
    (kp_own_press : PySem.W.keepIn K (.ref f_own_press) = true)
    (a_number_bytes : PySem.W.nsIn K mainGlobals ("number_bytes" : Str) = some (some (.ref f_number_bytes)))
    (l_number_bytes : K.lookup f_number_bytes = some ⟨oc_number_bytes, od_number_bytes, .func (PySem.W.fnOf ("number_bytes" : Str) ("number_bytes" : Str) (defArgs sT_number_bytes) (defBody sT_number_bytes) (defScope sT_number_bytes) .none kV_number_bytes dc_number_bytes pm_number_bytes an_number_bytes cd_number_bytes ct_number_bytes), sl_number_bytes⟩)
    (c_number_bytes : PySem.W.codeIn K cd_number_bytes ("number_bytes" : Str) = true)
    (kp_number_bytes : PySem.W.keepIn K (.ref f_number_bytes) = true)
    (a_text_bytes : PySem.W.nsIn K mainGlobals ("text_bytes" : Str) = some (some (.ref f_text_bytes)))
    (l_text_bytes : K.lookup f_text_bytes = some ⟨oc_text_bytes, od_text_bytes, .func (PySem.W.fnOf ("text_bytes" : Str) ("text_bytes" : Str) (defArgs sT_text_bytes) (defBody sT_text_bytes) (defScope sT_text_bytes) .none kV_text_bytes dc_text_bytes pm_text_bytes an_text_bytes cd_text_bytes ct_text_bytes), sl_text_bytes⟩)
    (c_text_bytes : PySem.W.codeIn K cd_text_bytes ("text_bytes" : Str) = true)
    (kp_text_bytes : PySem.W.keepIn K (.ref f_text_bytes) = true)
    (a_cell_bytes : PySem.W.nsIn K mainGlobals ("cell_bytes" : Str) = some (some (.ref f_cell_bytes)))
    (l_cell_bytes : K.lookup f_cell_bytes = some ⟨oc_cell_bytes, od_cell_bytes, .func (PySem.W.fnOf ("cell_bytes" : Str) ("cell_bytes" : Str) (defArgs sT_cell_bytes) (defBody sT_cell_bytes) (defScope sT_cell_bytes) .none kV_cell_bytes dc_cell_bytes pm_cell_bytes an_cell_bytes cd_cell_bytes ct_cell_bytes), sl_cell_bytes⟩)
    (c_cell_bytes : PySem.W.codeIn K cd_cell_bytes ("cell_bytes" : Str) = true)
    (kp_cell_bytes : PySem.W.keepIn K (.ref f_cell_bytes) = true)
    (a_all_bytes : PySem.W.nsIn K mainGlobals ("all_bytes" : Str) = some (some (.ref f_all_bytes)))
    (l_all_bytes : K.lookup f_all_bytes = some ⟨oc_all_bytes, od_all_bytes, .func (PySem.W.fnOf ("all_bytes" : Str) ("all_bytes" : Str) (defArgs sT_all_bytes) (defBody sT_all_bytes) (defScope sT_all_bytes) .none kV_all_bytes dc_all_bytes pm_all_bytes an_all_bytes cd_all_bytes ct_all_bytes), sl_all_bytes⟩)
    (c_all_bytes : PySem.W.codeIn K cd_all_bytes ("all_bytes" : Str) = true)
    (kp_all_bytes : PySem.W.keepIn K (.ref f_all_bytes) = true)
    (a_runs_of : PySem.W.nsIn K mainGlobals ("runs_of" : Str) = some (some (.ref f_runs_of)))
    (l_runs_of : K.lookup f_runs_of = some ⟨oc_runs_of, od_runs_of, .func (PySem.W.fnOf ("runs_of" : Str) ("runs_of" : Str) (defArgs sT_runs_of) (defBody sT_runs_of) (defScope sT_runs_of) .none kV_runs_of dc_runs_of pm_runs_of an_runs_of cd_runs_of ct_runs_of), sl_runs_of⟩)
    (c_runs_of : PySem.W.codeIn K cd_runs_of ("runs_of" : Str) = true)
    (kp_runs_of : PySem.W.keepIn K (.ref f_runs_of) = true)
    (a_run_bytes : PySem.W.nsIn K mainGlobals ("run_bytes" : Str) = some (some (.ref f_run_bytes)))
    (l_run_bytes : K.lookup f_run_bytes = some ⟨oc_run_bytes, od_run_bytes, .func (PySem.W.fnOf ("run_bytes" : Str) ("run_bytes" : Str) (defArgs sT_run_bytes) (defBody sT_run_bytes) (defScope sT_run_bytes) .none kV_run_bytes dc_run_bytes pm_run_bytes an_run_bytes cd_run_bytes ct_run_bytes), sl_run_bytes⟩)
    (c_run_bytes : PySem.W.codeIn K cd_run_bytes ("run_bytes" : Str) = true)
    (kp_run_bytes : PySem.W.keepIn K (.ref f_run_bytes) = true)
    (a_is_number : PySem.W.nsIn K mainGlobals ("is_number" : Str) = some (some (.ref f_is_number)))
    (l_is_number : K.lookup f_is_number = some ⟨oc_is_number, od_is_number, .func (PySem.W.fnOf ("is_number" : Str) ("is_number" : Str) (defArgs sT_is_number) (defBody sT_is_number) (defScope sT_is_number) .none kV_is_number dc_is_number pm_is_number an_is_number cd_is_number ct_is_number), sl_is_number⟩)
    (c_is_number : PySem.W.codeIn K cd_is_number ("is_number" : Str) = true)
    (kp_is_number : PySem.W.keepIn K (.ref f_is_number) = true)
    (a_cell_key : PySem.W.nsIn K mainGlobals ("cell_key" : Str) = some (some (.ref f_cell_key)))
    (l_cell_key : K.lookup f_cell_key = some ⟨oc_cell_key, od_cell_key, .func (PySem.W.fnOf ("cell_key" : Str) ("cell_key" : Str) (defArgs sT_cell_key) (defBody sT_cell_key) (defScope sT_cell_key) .none kV_cell_key dc_cell_key pm_cell_key an_cell_key cd_cell_key ct_cell_key), sl_cell_key⟩)
    (c_cell_key : PySem.W.codeIn K cd_cell_key ("cell_key" : Str) = true)
    (kp_cell_key : PySem.W.keepIn K (.ref f_cell_key) = true)
    (a_book_of : PySem.W.nsIn K mainGlobals ("book_of" : Str) = some (some (.ref f_book_of)))
    (l_book_of : K.lookup f_book_of = some ⟨oc_book_of, od_book_of, .func (PySem.W.fnOf ("book_of" : Str) ("book_of" : Str) (defArgs sT_book_of) (defBody sT_book_of) (defScope sT_book_of) .none kV_book_of dc_book_of pm_book_of an_book_of cd_book_of ct_book_of), sl_book_of⟩)
    (c_book_of : PySem.W.codeIn K cd_book_of ("book_of" : Str) = true)
    (kp_book_of : PySem.W.keepIn K (.ref f_book_of) = true)
    (a_power_of : PySem.W.nsIn K mainGlobals ("power_of" : Str) = some (some (.ref f_power_of)))
    (l_power_of : K.lookup f_power_of = some ⟨oc_power_of, od_power_of, .func (PySem.W.fnOf ("power_of" : Str) ("power_of" : Str) (defArgs sT_power_of) (defBody sT_power_of) (defScope sT_power_of) .none kV_power_of dc_power_of pm_power_of an_power_of cd_power_of ct_power_of), sl_power_of⟩)
    (c_power_of : PySem.W.codeIn K cd_power_of ("power_of" : Str) = true)
    (kp_power_of : PySem.W.keepIn K (.ref f_power_of) = true)
    (a_byte_count : PySem.W.nsIn K mainGlobals ("byte_count" : Str) = some (some (.ref f_byte_count)))
    (l_byte_count : K.lookup f_byte_count = some ⟨oc_byte_count, od_byte_count, .func (PySem.W.fnOf ("byte_count" : Str) ("byte_count" : Str) (defArgs sT_byte_count) (defBody sT_byte_count) (defScope sT_byte_count) .none kV_byte_count dc_byte_count pm_byte_count an_byte_count cd_byte_count ct_byte_count), sl_byte_count⟩)
    (c_byte_count : PySem.W.codeIn K cd_byte_count ("byte_count" : Str) = true)
    (kp_byte_count : PySem.W.keepIn K (.ref f_byte_count) = true)
    (a_packed : PySem.W.nsIn K mainGlobals ("packed" : Str) = some (some (.ref f_packed)))
    (l_packed : K.lookup f_packed = some ⟨oc_packed, od_packed, .func (PySem.W.fnOf ("packed" : Str) ("packed" : Str) (defArgs sT_packed) (defBody sT_packed) (defScope sT_packed) .none kV_packed dc_packed pm_packed an_packed cd_packed ct_packed), sl_packed⟩)
    (c_packed : PySem.W.codeIn K cd_packed ("packed" : Str) = true)
    (kp_packed : PySem.W.keepIn K (.ref f_packed) = true)
    (a_bits_for : PySem.W.nsIn K mainGlobals ("bits_for" : Str) = some (some (.ref f_bits_for)))
    (l_bits_for : K.lookup f_bits_for = some ⟨oc_bits_for, od_bits_for, .func (PySem.W.fnOf ("bits_for" : Str) ("bits_for" : Str) (defArgs sT_bits_for) (defBody sT_bits_for) (defScope sT_bits_for) .none kV_bits_for dc_bits_for pm_bits_for an_bits_for cd_bits_for ct_bits_for), sl_bits_for⟩)
    (c_bits_for : PySem.W.codeIn K cd_bits_for ("bits_for" : Str) = true)
    (kp_bits_for : PySem.W.keepIn K (.ref f_bits_for) = true)
    (a_book_bytes : PySem.W.nsIn K mainGlobals ("book_bytes" : Str) = some (some (.ref f_book_bytes)))
    (l_book_bytes : K.lookup f_book_bytes = some ⟨oc_book_bytes, od_book_bytes, .func (PySem.W.fnOf ("book_bytes" : Str) ("book_bytes" : Str) (defArgs sT_book_bytes) (defBody sT_book_bytes) (defScope sT_book_bytes) .none kV_book_bytes dc_book_bytes pm_book_bytes an_book_bytes cd_book_bytes ct_book_bytes), sl_book_bytes⟩)
    (c_book_bytes : PySem.W.codeIn K cd_book_bytes ("book_bytes" : Str) = true)
    (kp_book_bytes : PySem.W.keepIn K (.ref f_book_bytes) = true)
    (a_small_bytes : PySem.W.nsIn K mainGlobals ("small_bytes" : Str) = some (some (.ref f_small_bytes)))
    (l_small_bytes : K.lookup f_small_bytes = some ⟨oc_small_bytes, od_small_bytes, .func (PySem.W.fnOf ("small_bytes" : Str) ("small_bytes" : Str) (defArgs sT_small_bytes) (defBody sT_small_bytes) (defScope sT_small_bytes) .none kV_small_bytes dc_small_bytes pm_small_bytes an_small_bytes cd_small_bytes ct_small_bytes), sl_small_bytes⟩)
    (c_small_bytes : PySem.W.codeIn K cd_small_bytes ("small_bytes" : Str) = true)
    (kp_small_bytes : PySem.W.keepIn K (.ref f_small_bytes) = true)
    (a_base_bytes : PySem.W.nsIn K mainGlobals ("base_bytes" : Str) = some (some (.ref f_base_bytes)))
    (l_base_bytes : K.lookup f_base_bytes = some ⟨oc_base_bytes, od_base_bytes, .func (PySem.W.fnOf ("base_bytes" : Str) ("base_bytes" : Str) (defArgs sT_base_bytes) (defBody sT_base_bytes) (defScope sT_base_bytes) .none kV_base_bytes dc_base_bytes pm_base_bytes an_base_bytes cd_base_bytes ct_base_bytes), sl_base_bytes⟩)
    (c_base_bytes : PySem.W.codeIn K cd_base_bytes ("base_bytes" : Str) = true)
    (kp_base_bytes : PySem.W.keepIn K (.ref f_base_bytes) = true)
    (a_step_bytes : PySem.W.nsIn K mainGlobals ("step_bytes" : Str) = some (some (.ref f_step_bytes)))
    (l_step_bytes : K.lookup f_step_bytes = some ⟨oc_step_bytes, od_step_bytes, .func (PySem.W.fnOf ("step_bytes" : Str) ("step_bytes" : Str) (defArgs sT_step_bytes) (defBody sT_step_bytes) (defScope sT_step_bytes) .none kV_step_bytes dc_step_bytes pm_step_bytes an_step_bytes cd_step_bytes ct_step_bytes), sl_step_bytes⟩)
    (c_step_bytes : PySem.W.codeIn K cd_step_bytes ("step_bytes" : Str) = true)
    (kp_step_bytes : PySem.W.keepIn K (.ref f_step_bytes) = true)
    (a_press_by : PySem.W.nsIn K mainGlobals ("press_by" : Str) = some (some (.ref f_press_by)))
    (l_press_by : K.lookup f_press_by = some ⟨oc_press_by, od_press_by, .func (PySem.W.fnOf ("press_by" : Str) ("press_by" : Str) (defArgs sT_press_by) (defBody sT_press_by) (defScope sT_press_by) .none kV_press_by dc_press_by pm_press_by an_press_by cd_press_by ct_press_by), sl_press_by⟩)
    (c_press_by : PySem.W.codeIn K cd_press_by ("press_by" : Str) = true)
    (kp_press_by : PySem.W.keepIn K (.ref f_press_by) = true)
    (a_pressed : PySem.W.nsIn K mainGlobals ("pressed" : Str) = some (some (.ref f_pressed)))
    (l_pressed : K.lookup f_pressed = some ⟨oc_pressed, od_pressed, .func (PySem.W.fnOf ("pressed" : Str) ("pressed" : Str) (defArgs sT_pressed) (defBody sT_pressed) (defScope sT_pressed) .none kV_pressed dc_pressed pm_pressed an_pressed cd_pressed ct_pressed), sl_pressed⟩)
    (c_pressed : PySem.W.codeIn K cd_pressed ("pressed" : Str) = true)
    (kp_pressed : PySem.W.keepIn K (.ref f_pressed) = true)
    (a_same : PySem.W.nsIn K mainGlobals ("_law_same" : Str) = some (some (.ref f_same)))
    (l_same : K.lookup f_same = some ⟨oc_same, od_same, .func (PySem.W.fnOf ("_law_same" : Str) ("_law_same" : Str) (defArgs sT_same) (defBody sT_same) (defScope sT_same) .none kV_same dc_same pm_same an_same cd_same ct_same), sl_same⟩)
    (c_same : PySem.W.codeIn K cd_same ("_law_same" : Str) = true)
    (kp_same : PySem.W.keepIn K (.ref f_same) = true)
    (a_law : PySem.W.nsIn K mainGlobals ("law" : Str) = some (some (.ref f_law)))
    (l_law : K.lookup f_law = some ⟨oc_law, od_law, .func (PySem.W.fnOf ("law" : Str) ("law" : Str) (defArgs sT_law) (defBody sT_law) (defScope sT_law) .none kV_law dc_law pm_law an_law cd_law ct_law), sl_law⟩)
    (c_law : PySem.W.codeIn K cd_law ("law" : Str) = true)
    (kp_law : PySem.W.keepIn K (.ref f_law) = true)
    (zz_list : PySem.W.nsIn K mainGlobals ("list" : Str) = some none)
    (zz_len : PySem.W.nsIn K mainGlobals ("len" : Str) = some none)
    (zz_divmod : PySem.W.nsIn K mainGlobals ("divmod" : Str) = some none)
    (zz_range : PySem.W.nsIn K mainGlobals ("range" : Str) = some none)
    (zz_isinstance : PySem.W.nsIn K mainGlobals ("isinstance" : Str) = some none)
    (zz_str : PySem.W.nsIn K mainGlobals ("str" : Str) = some none)
    (zz_sum : PySem.W.nsIn K mainGlobals ("sum" : Str) = some none)
    (zz_zip : PySem.W.nsIn K mainGlobals ("zip" : Str) = some none)
    (zz_sorted : PySem.W.nsIn K mainGlobals ("sorted" : Str) = some none)
    (zz_max : PySem.W.nsIn K mainGlobals ("max" : Str) = some none)
    (zz_any : PySem.W.nsIn K mainGlobals ("any" : Str) = some none)
    (zz_min : PySem.W.nsIn K mainGlobals ("min" : Str) = some none)
    (zz_int : PySem.W.nsIn K mainGlobals ("int" : Str) = some none)
    (zz_bool : PySem.W.nsIn K mainGlobals ("bool" : Str) = some none)
    (zz_reversed : PySem.W.nsIn K mainGlobals ("reversed" : Str) = some none)
    (zz_enumerate : PySem.W.nsIn K mainGlobals ("enumerate" : Str) = some none)
    (zz_all : PySem.W.nsIn K mainGlobals ("all" : Str) = some none)
    (zz_dict : PySem.W.nsIn K mainGlobals ("dict" : Str) = some none)
    (zz_tuple : PySem.W.nsIn K mainGlobals ("tuple" : Str) = some none)
    (kk_MORE : PySem.W.nsIn K mainGlobals ("MORE" : Str) = some (some (.int 128 kt_MORE)))
    (kk_SIGNS : PySem.W.nsIn K mainGlobals ("SIGNS" : Str) = some (some (.str (" !\"#$&'()*+,-./0123456789:;<=>?@ABCDEFGHIJKLMNOPQRSTUVWXYZ[\\]^_`abcdefghijklmnopqrstuvwxyz{|}~" : Str) kt_SIGNS)))
    (kk_BITS : PySem.W.nsIn K mainGlobals ("BITS" : Str) = some (some (.int 8 kt_BITS)))
    (kk_BYTE : PySem.W.nsIn K mainGlobals ("BYTE" : Str) = some (some (.int 256 kt_BYTE)))
    (kk_WAYS : PySem.W.nsIn K mainGlobals ("WAYS" : Str) = some (some (.int 5 kt_WAYS))) :
    ∃ fd : FuncData, (∀ (s : Shared) (v : Value), BindsTo s fd ⟨[v], []⟩ [("_law_script", v)]) ∧ ∀ base : Heap, K.In base → base.Ns mainGlobals mg → FnOk l.prog w K mg base CX0 9 fa fd ["_law_script"] (spLaw K) := by
  have e := hfa.symm.trans (PySem.W.mg_of X G a_law)
  cases e
  have F_begin := fun_mk (st := sT_begin) l_begin c_begin kp_begin
  have m_begin := PySem.W.mg_of X G a_begin
  have b_begin := F_begin.binds (ps := [("_law_script" : Str)]) fun _ _ _ _ _ _ us hl => match us, hl with | [_], _ => rfl
  have F_take := fun_mk (st := sT_take) l_take c_take kp_take
  have m_take := PySem.W.mg_of X G a_take
  have b_take := F_take.binds (ps := [("_law_state" : Str), ("_law_many" : Str)]) fun _ _ _ _ _ _ us hl => match us, hl with | [_, _], _ => rfl
  have F_text := fun_mk (st := sT_text) l_text c_text kp_text
  have m_text := PySem.W.mg_of X G a_text
  have b_text := F_text.binds (ps := [("_law_state" : Str)]) fun _ _ _ _ _ _ us hl => match us, hl with | [_], _ => rfl
  have F_number := fun_mk (st := sT_number) l_number c_number kp_number
  have m_number := PySem.W.mg_of X G a_number
  have b_number := F_number.binds (ps := [("_law_state" : Str)]) fun _ _ _ _ _ _ us hl => match us, hl with | [_], _ => rfl
  have F_cells := fun_mk (st := sT_cells) l_cells c_cells kp_cells
  have m_cells := PySem.W.mg_of X G a_cells
  have b_cells := F_cells.binds (ps := [("_law_state" : Str), ("_law_kind" : Str), ("_law_many" : Str)]) fun _ _ _ _ _ _ us hl => match us, hl with | [_, _, _], _ => rfl
  have F_stretch := fun_mk (st := sT_stretch) l_stretch c_stretch kp_stretch
  have m_stretch := PySem.W.mg_of X G a_stretch
  have b_stretch := F_stretch.binds (ps := [("_law_state" : Str)]) fun _ _ _ _ _ _ us hl => match us, hl with | [_], _ => rfl
  have F_own_nb := fun_mk (st := sT_own_nb) l_own_nb c_own_nb kp_own_nb
  have m_own_nb := PySem.W.mg_of X G a_own_nb
  have b_own_nb := F_own_nb.binds (ps := [("_law_number_here" : Str)]) fun _ _ _ _ _ _ us hl => match us, hl with | [_], _ => rfl
  have F_sign_number := fun_mk (st := sT_sign_number) l_sign_number c_sign_number kp_sign_number
  have m_sign_number := PySem.W.mg_of X G a_sign_number
  have b_sign_number := F_sign_number.binds (ps := [("_law_sign" : Str)]) fun _ _ _ _ _ _ us hl => match us, hl with | [_], _ => rfl
  have F_own_cb8 := fun_mk (st := sT_own_cb8) l_own_cb8 c_own_cb8 kp_own_cb8
  have m_own_cb8 := PySem.W.mg_of X G a_own_cb8
  have b_own_cb8 := F_own_cb8.binds (ps := [("_law_cell" : Str)]) fun _ _ _ _ _ _ us hl => match us, hl with | [_], _ => rfl
  have F_own_runs := fun_mk (st := sT_own_runs) l_own_runs c_own_runs kp_own_runs
  have m_own_runs := PySem.W.mg_of X G a_own_runs
  have b_own_runs := F_own_runs.binds (ps := [("_law_cells_here" : Str)]) fun _ _ _ _ _ _ us hl => match us, hl with | [_], _ => rfl
  have F_own_key := fun_mk (st := sT_own_key) l_own_key c_own_key kp_own_key
  have m_own_key := PySem.W.mg_of X G a_own_key
  have b_own_key := F_own_key.binds (ps := [("_law_cell" : Str)]) fun _ _ _ _ _ _ us hl => match us, hl with | [_], _ => rfl
  have F_own_packed := fun_mk (st := sT_own_packed) l_own_packed c_own_packed kp_own_packed
  have m_own_packed := PySem.W.mg_of X G a_own_packed
  have b_own_packed := F_own_packed.binds (ps := [("_law_numbers" : Str), ("_law_wide" : Str)]) fun _ _ _ _ _ _ us hl => match us, hl with | [_, _], _ => rfl
  have F_own_bits := fun_mk (st := sT_own_bits) l_own_bits c_own_bits kp_own_bits
  have m_own_bits := PySem.W.mg_of X G a_own_bits
  have b_own_bits := F_own_bits.binds (ps := [("_law_number_here" : Str)]) fun _ _ _ _ _ _ us hl => match us, hl with | [_], _ => rfl
  have F_own_book := fun_mk (st := sT_own_book) l_own_book c_own_book kp_own_book
  have m_own_book := PySem.W.mg_of X G a_own_book
  have b_own_book := F_own_book.binds (ps := [("_law_cells_here" : Str)]) fun _ _ _ _ _ _ us hl => match us, hl with | [_], _ => rfl
  have F_own_small := fun_mk (st := sT_own_small) l_own_small c_own_small kp_own_small
  have m_own_small := PySem.W.mg_of X G a_own_small
  have b_own_small := F_own_small.binds (ps := [("_law_numbers" : Str)]) fun _ _ _ _ _ _ us hl => match us, hl with | [_], _ => rfl
  have F_own_press := fun_mk (st := sT_own_press) l_own_press c_own_press kp_own_press
  have m_own_press := PySem.W.mg_of X G a_own_press
  have b_own_press := F_own_press.binds (ps := [("_law_way" : Str), ("_law_cells_here" : Str)]) fun _ _ _ _ _ _ us hl => match us, hl with | [_, _], _ => rfl
  have F_number_bytes := fun_mk (st := sT_number_bytes) l_number_bytes c_number_bytes kp_number_bytes
  have m_number_bytes := PySem.W.mg_of X G a_number_bytes
  have b_number_bytes := F_number_bytes.binds (ps := [("number" : Str)]) fun _ _ _ _ _ _ us hl => match us, hl with | [_], _ => rfl
  have F_text_bytes := fun_mk (st := sT_text_bytes) l_text_bytes c_text_bytes kp_text_bytes
  have m_text_bytes := PySem.W.mg_of X G a_text_bytes
  have b_text_bytes := F_text_bytes.binds (ps := [("text" : Str)]) fun _ _ _ _ _ _ us hl => match us, hl with | [_], _ => rfl
  have F_cell_bytes := fun_mk (st := sT_cell_bytes) l_cell_bytes c_cell_bytes kp_cell_bytes
  have m_cell_bytes := PySem.W.mg_of X G a_cell_bytes
  have b_cell_bytes := F_cell_bytes.binds (ps := [("cell" : Str)]) fun _ _ _ _ _ _ us hl => match us, hl with | [_], _ => rfl
  have F_all_bytes := fun_mk (st := sT_all_bytes) l_all_bytes c_all_bytes kp_all_bytes
  have m_all_bytes := PySem.W.mg_of X G a_all_bytes
  have b_all_bytes := F_all_bytes.binds (ps := [("cells" : Str)]) fun _ _ _ _ _ _ us hl => match us, hl with | [_], _ => rfl
  have F_runs_of := fun_mk (st := sT_runs_of) l_runs_of c_runs_of kp_runs_of
  have m_runs_of := PySem.W.mg_of X G a_runs_of
  have b_runs_of := F_runs_of.binds (ps := [("cells" : Str)]) fun _ _ _ _ _ _ us hl => match us, hl with | [_], _ => rfl
  have F_run_bytes := fun_mk (st := sT_run_bytes) l_run_bytes c_run_bytes kp_run_bytes
  have m_run_bytes := PySem.W.mg_of X G a_run_bytes
  have b_run_bytes := F_run_bytes.binds (ps := [("cells" : Str)]) fun _ _ _ _ _ _ us hl => match us, hl with | [_], _ => rfl
  have F_is_number := fun_mk (st := sT_is_number) l_is_number c_is_number kp_is_number
  have m_is_number := PySem.W.mg_of X G a_is_number
  have b_is_number := F_is_number.binds (ps := [("thing" : Str)]) fun _ _ _ _ _ _ us hl => match us, hl with | [_], _ => rfl
  have F_cell_key := fun_mk (st := sT_cell_key) l_cell_key c_cell_key kp_cell_key
  have m_cell_key := PySem.W.mg_of X G a_cell_key
  have b_cell_key := F_cell_key.binds (ps := [("cell" : Str)]) fun _ _ _ _ _ _ us hl => match us, hl with | [_], _ => rfl
  have F_book_of := fun_mk (st := sT_book_of) l_book_of c_book_of kp_book_of
  have m_book_of := PySem.W.mg_of X G a_book_of
  have b_book_of := F_book_of.binds (ps := [("cells" : Str)]) fun _ _ _ _ _ _ us hl => match us, hl with | [_], _ => rfl
  have F_power_of := fun_mk (st := sT_power_of) l_power_of c_power_of kp_power_of
  have m_power_of := PySem.W.mg_of X G a_power_of
  have b_power_of := F_power_of.binds (ps := [("wide" : Str)]) fun _ _ _ _ _ _ us hl => match us, hl with | [_], _ => rfl
  have F_byte_count := fun_mk (st := sT_byte_count) l_byte_count c_byte_count kp_byte_count
  have m_byte_count := PySem.W.mg_of X G a_byte_count
  have b_byte_count := F_byte_count.binds (ps := [("many" : Str), ("wide" : Str)]) fun _ _ _ _ _ _ us hl => match us, hl with | [_, _], _ => rfl
  have F_packed := fun_mk (st := sT_packed) l_packed c_packed kp_packed
  have m_packed := PySem.W.mg_of X G a_packed
  have b_packed := F_packed.binds (ps := [("numbers" : Str), ("wide" : Str)]) fun _ _ _ _ _ _ us hl => match us, hl with | [_, _], _ => rfl
  have F_bits_for := fun_mk (st := sT_bits_for) l_bits_for c_bits_for kp_bits_for
  have m_bits_for := PySem.W.mg_of X G a_bits_for
  have b_bits_for := F_bits_for.binds (ps := [("number" : Str)]) fun _ _ _ _ _ _ us hl => match us, hl with | [_], _ => rfl
  have F_book_bytes := fun_mk (st := sT_book_bytes) l_book_bytes c_book_bytes kp_book_bytes
  have m_book_bytes := PySem.W.mg_of X G a_book_bytes
  have b_book_bytes := F_book_bytes.binds (ps := [("cells" : Str)]) fun _ _ _ _ _ _ us hl => match us, hl with | [_], _ => rfl
  have F_small_bytes := fun_mk (st := sT_small_bytes) l_small_bytes c_small_bytes kp_small_bytes
  have m_small_bytes := PySem.W.mg_of X G a_small_bytes
  have b_small_bytes := F_small_bytes.binds (ps := [("numbers" : Str)]) fun _ _ _ _ _ _ us hl => match us, hl with | [_], _ => rfl
  have F_base_bytes := fun_mk (st := sT_base_bytes) l_base_bytes c_base_bytes kp_base_bytes
  have m_base_bytes := PySem.W.mg_of X G a_base_bytes
  have b_base_bytes := F_base_bytes.binds (ps := [("cells" : Str)]) fun _ _ _ _ _ _ us hl => match us, hl with | [_], _ => rfl
  have F_step_bytes := fun_mk (st := sT_step_bytes) l_step_bytes c_step_bytes kp_step_bytes
  have m_step_bytes := PySem.W.mg_of X G a_step_bytes
  have b_step_bytes := F_step_bytes.binds (ps := [("cells" : Str)]) fun _ _ _ _ _ _ us hl => match us, hl with | [_], _ => rfl
  have F_press_by := fun_mk (st := sT_press_by) l_press_by c_press_by kp_press_by
  have m_press_by := PySem.W.mg_of X G a_press_by
  have b_press_by := F_press_by.binds (ps := [("way" : Str), ("cells" : Str)]) fun _ _ _ _ _ _ us hl => match us, hl with | [_, _], _ => rfl
  have F_pressed := fun_mk (st := sT_pressed) l_pressed c_pressed kp_pressed
  have m_pressed := PySem.W.mg_of X G a_pressed
  have b_pressed := F_pressed.binds (ps := [("cells" : Str)]) fun _ _ _ _ _ _ us hl => match us, hl with | [_], _ => rfl
  have F_same := fun_mk (st := sT_same) l_same c_same kp_same
  have m_same := PySem.W.mg_of X G a_same
  have b_same := F_same.binds (ps := [("_law_found" : Str), ("_law_due" : Str)]) fun _ _ _ _ _ _ us hl => match us, hl with | [_, _], _ => rfl
  have F_law := fun_mk (st := sT_law) l_law c_law kp_law
  have m_law := PySem.W.mg_of X G a_law
  have b_law := F_law.binds (ps := [("_law_script" : Str)]) fun _ _ _ _ _ _ us hl => match us, hl with | [_], _ => rfl
  have z_list := PySem.W.mg_none_of X G zz_list
  have z_len := PySem.W.mg_none_of X G zz_len
  have z_divmod := PySem.W.mg_none_of X G zz_divmod
  have z_range := PySem.W.mg_none_of X G zz_range
  have z_isinstance := PySem.W.mg_none_of X G zz_isinstance
  have z_str := PySem.W.mg_none_of X G zz_str
  have z_sum := PySem.W.mg_none_of X G zz_sum
  have z_zip := PySem.W.mg_none_of X G zz_zip
  have z_sorted := PySem.W.mg_none_of X G zz_sorted
  have z_max := PySem.W.mg_none_of X G zz_max
  have z_any := PySem.W.mg_none_of X G zz_any
  have z_min := PySem.W.mg_none_of X G zz_min
  have z_int := PySem.W.mg_none_of X G zz_int
  have z_bool := PySem.W.mg_none_of X G zz_bool
  have z_reversed := PySem.W.mg_none_of X G zz_reversed
  have z_enumerate := PySem.W.mg_none_of X G zz_enumerate
  have z_all := PySem.W.mg_none_of X G zz_all
  have z_dict := PySem.W.mg_none_of X G zz_dict
  have z_tuple := PySem.W.mg_none_of X G zz_tuple
  have k_MORE := PySem.W.mg_of X G kk_MORE
  have k_SIGNS := PySem.W.mg_of X G kk_SIGNS
  have k_BITS := PySem.W.mg_of X G kk_BITS
  have k_BYTE := PySem.W.mg_of X G kk_BYTE
  have k_WAYS := PySem.W.mg_of X G kk_WAYS
  refine ⟨PySem.W.fnOf ("law" : Str) ("law" : Str) (defArgs sT_law) (defBody sT_law) (defScope sT_law) .none kV_law dc_law pm_law an_law cd_law ct_law, fun s v => .of_eq rfl, fun base hb hg => ?_⟩
  have G_begin : FnOk l.prog w K mg base CX0 1 f_begin _ [("_law_script" : Str)] (spV K .O vBegin) := ok_begin (P := l.prog) (w := w) (base := base) F_begin z_list (sp := (spV K .O vBegin)) (fun _ _ _ _ h => spV.len (n := 1) (fun ds m P X ⟨_, e, _⟩ => by rw [e]; rfl) h) (fun vs H Q E h => pure_begin vs H Q E (cv_begin h))
  have G_take : FnOk l.prog w K mg base CX0 1 f_take _ [("_law_state" : Str), ("_law_many" : Str)] (spV K .O vTake) := ok_take (P := l.prog) (w := w) (base := base) F_take z_len z_divmod (sp := (spV K .O vTake)) (fun _ _ _ _ h => spV.len (n := 2) (fun ds m P X ⟨_, _, _, _, e, _⟩ => by rw [e]; rfl) h) (fun vs H Q E h => pure_take vs H Q E (cv_take h))
  have G_text : FnOk l.prog w K mg base CX0 2 f_text _ [("_law_state" : Str)] (spV K .F wText) := ok_text (P := l.prog) (w := w) (base := base) F_text G_take b_take m_take kp_take z_range z_len (sp := (spV K .F wText)) (fun _ _ _ _ h => spV.len (n := 1) (fun ds m P X h => ((p_text (K := K)) ds m P X h).1) h) (sim_text (fun ds m P X h => (p_text (K := K)) ds m P X h))
  have G_number : FnOk l.prog w K mg base CX0 2 f_number _ [("_law_state" : Str)] (spV K .O wNumber) := ok_number (P := l.prog) (w := w) (base := base) F_number G_take b_take m_take kp_take (sp := (spV K .O wNumber)) (fun _ _ _ _ h => spV.len (n := 1) (fun ds m P X h => ((p_number (K := K)) ds m P X h).1) h) (sim_number (fun ds m P X h => (p_number (K := K)) ds m P X h))
  have G_cells : FnOk l.prog w K mg base CX0 3 f_cells _ [("_law_state" : Str), ("_law_kind" : Str), ("_law_many" : Str)] (spV K .O wCells) := ok_cells (P := l.prog) (w := w) (base := base) F_cells G_take b_take m_take kp_take G_text b_text m_text kp_text G_number b_number m_number kp_number z_range z_len (sp := (spV K .O wCells)) (fun _ _ _ _ h => spV.len (n := 3) (fun ds m P X h => ((p_cells (K := K)) ds m P X h).1) h) (sim_cells (fun ds m P X h => (p_cells (K := K)) ds m P X h))
  have G_stretch : FnOk l.prog w K mg base CX0 4 f_stretch _ [("_law_state" : Str)] (spV K .O wStretch) := ok_stretch (P := l.prog) (w := w) (base := base) F_stretch G_take b_take m_take kp_take G_cells b_cells m_cells kp_cells (sp := (spV K .O wStretch)) (fun _ _ _ _ h => spV.len (n := 1) (fun ds m P X h => ((p_stretch (K := K)) ds m P X h).1) h) (sim_stretch (fun ds m P X h => (p_stretch (K := K)) ds m P X h))
  have G_own_nb : FnOk l.prog w K mg base CX0 1 f_own_nb _ [("_law_number_here" : Str)] (spV K .O wNb) := ok_own_nb (P := l.prog) (w := w) (base := base) F_own_nb (sp := (spV K .O wNb)) (fun _ _ _ _ h => spV.len (n := 1) (fun ds m P X h => ((p_own_nb (K := K)) ds m P X h).1) h) (sim_own_nb (fun ds m P X h => (p_own_nb (K := K)) ds m P X h))
  have G_sign_number : FnOk l.prog w K mg base CX0 1 f_sign_number _ [("_law_sign" : Str)] (spV K .O wSignNo) := ok_sign_number (P := l.prog) (w := w) (base := base) F_sign_number (sp := (spV K .O wSignNo)) (fun _ _ _ _ h => spV.len (n := 1) (fun ds m P X h => ((p_sign_number (K := K)) ds m P X h).1) h) (sim_sign_number (fun ds m P X h => (p_sign_number (K := K)) ds m P X h))
  have G_own_cb8 : FnOk l.prog w K mg base CX0 2 f_own_cb8 _ [("_law_cell" : Str)] (spV K .O wCb) := ok_own_cb8 (P := l.prog) (w := w) (base := base) F_own_cb8 G_own_nb b_own_nb m_own_nb kp_own_nb G_sign_number b_sign_number m_sign_number kp_sign_number z_isinstance z_str z_len (sp := (spV K .O wCb)) (fun _ _ _ _ h => spV.len (n := 1) (fun ds m P X h => ((p_own_cb8 (K := K)) ds m P X h).1) h) (sim_own_cb8 (fun ds m P X h => (p_own_cb8 (K := K)) ds m P X h))
  have G_own_runs : FnOk l.prog w K mg base CX0 3 f_own_runs _ [("_law_cells_here" : Str)] (spV K .O wOwnRuns) := ok_own_runs (P := l.prog) (w := w) (base := base) F_own_runs G_own_nb b_own_nb m_own_nb kp_own_nb G_own_cb8 b_own_cb8 m_own_cb8 kp_own_cb8 z_len (sp := (spV K .O wOwnRuns)) (fun _ _ _ _ h => spV.len (n := 1) (fun ds m P X h => ((p_own_runs (K := K)) ds m P X h).1) h) (sim_own_runs (fun ds m P X h => (p_own_runs (K := K)) ds m P X h))
  have G_own_key : FnOk l.prog w K mg base CX0 1 f_own_key _ [("_law_cell" : Str)] (spV K .O wKey) := ok_own_key (P := l.prog) (w := w) (base := base) F_own_key z_isinstance z_str (sp := (spV K .O wKey)) (fun _ _ _ _ h => spV.len (n := 1) (fun ds m P X h => ((p_own_key (K := K)) ds m P X h).1) h) (sim_own_key (fun ds m P X h => (p_own_key (K := K)) ds m P X h))
  have G_own_packed : FnOk l.prog w K mg base CX0 1 f_own_packed _ [("_law_numbers" : Str), ("_law_wide" : Str)] (spV K .O wPacked) := ok_own_packed (P := l.prog) (w := w) (base := base) F_own_packed z_range z_len z_sum z_zip (sp := (spV K .O wPacked)) (fun _ _ _ _ h => spV.len (n := 2) (fun ds m P X h => ((p_own_packed (K := K)) ds m P X h).1) h) (sim_own_packed (fun ds m P X h => (p_own_packed (K := K)) ds m P X h))
  have G_own_bits : FnOk l.prog w K mg base CX0 1 f_own_bits _ [("_law_number_here" : Str)] (spV K .O wBits) := ok_own_bits (P := l.prog) (w := w) (base := base) F_own_bits (sp := (spV K .O wBits)) (fun _ _ _ _ h => spV.len (n := 1) (fun ds m P X h => ((p_own_bits (K := K)) ds m P X h).1) h) (sim_own_bits (fun ds m P X h => (p_own_bits (K := K)) ds m P X h))
  have G_own_book : FnOk l.prog w K mg base CX0 4 f_own_book _ [("_law_cells_here" : Str)] (spV K .O wOwnBook) := ok_own_book (P := l.prog) (w := w) (base := base) F_own_book G_own_key b_own_key m_own_key kp_own_key G_own_nb b_own_nb m_own_nb kp_own_nb G_own_cb8 b_own_cb8 m_own_cb8 kp_own_cb8 G_own_packed b_own_packed m_own_packed kp_own_packed G_own_bits b_own_bits m_own_bits kp_own_bits z_sorted z_len (sp := (spV K .O wOwnBook)) (fun _ _ _ _ h => spV.len (n := 1) (fun ds m P X h => ((p_own_book (K := K) (f := f_own_key)) ds m P X h).1) h) (sim_own_book (fun ds m P X h => (p_own_book (K := K)) ds m P X h))
  have G_own_small : FnOk l.prog w K mg base CX0 2 f_own_small _ [("_law_numbers" : Str)] (spV K .O wSmall) := ok_own_small (P := l.prog) (w := w) (base := base) F_own_small G_own_bits b_own_bits m_own_bits kp_own_bits G_own_packed b_own_packed m_own_packed kp_own_packed z_max (sp := (spV K .O wSmall)) (fun _ _ _ _ h => spV.len (n := 1) (fun ds m P X h => ((p_own_small (K := K)) ds m P X h).1) h) (sim_own_small (fun ds m P X h => (p_own_small (K := K)) ds m P X h))
  have G_own_press : FnOk l.prog w K mg base CX0 5 f_own_press _ [("_law_way" : Str), ("_law_cells_here" : Str)] (spV K .O wOwnPressA) := ok_own_press (P := l.prog) (w := w) (base := base) F_own_press G_own_nb b_own_nb m_own_nb kp_own_nb G_own_runs b_own_runs m_own_runs kp_own_runs G_own_book b_own_book m_own_book kp_own_book G_own_cb8 b_own_cb8 m_own_cb8 kp_own_cb8 G_own_small b_own_small m_own_small kp_own_small z_len z_any z_isinstance z_str z_min z_range (sp := (spV K .O wOwnPressA)) (fun _ _ _ _ h => spV.len (n := 2) (fun ds m P X h => ((p_own_press (K := K)) ds m P X h).1) h) (sim_own_press (fun ds m P X h => (p_own_press (K := K)) ds m P X h))
  have G_number_bytes : FnOk l.prog w K mg base CX0 1 f_number_bytes _ [("number" : Str)] (spV K .O wNb) := ok_number_bytes (P := l.prog) (w := w) (base := base) F_number_bytes k_MORE (sp := (spV K .O wNb)) (fun _ _ _ _ h => spV.len (n := 1) (fun ds m P X h => ((p_number_bytes (K := K)) ds m P X h).1) h) (sim_number_bytes (fun ds m P X h => (p_number_bytes (K := K)) ds m P X h))
  have G_text_bytes : FnOk l.prog w K mg base CX0 2 f_text_bytes _ [("text" : Str)] (spV K .O wTb) := ok_text_bytes (P := l.prog) (w := w) (base := base) F_text_bytes G_number_bytes b_number_bytes m_number_bytes kp_number_bytes z_len k_SIGNS (sp := (spV K .O wTb)) (fun _ _ _ _ h => spV.len (n := 1) (fun ds m P X h => ((p_text_bytes (K := K)) ds m P X h).1) h) (sim_text_bytes (fun ds m P X h => (p_text_bytes (K := K)) ds m P X h))
  have G_cell_bytes : FnOk l.prog w K mg base CX0 3 f_cell_bytes _ [("cell" : Str)] (spV K .O wCb) := ok_cell_bytes (P := l.prog) (w := w) (base := base) F_cell_bytes G_text_bytes b_text_bytes m_text_bytes kp_text_bytes G_number_bytes b_number_bytes m_number_bytes kp_number_bytes z_isinstance z_str (sp := (spV K .O wCb)) (fun _ _ _ _ h => spV.len (n := 1) (fun ds m P X h => ((p_cell_bytes (K := K)) ds m P X h).1) h) (sim_cell_bytes (fun ds m P X h => (p_cell_bytes (K := K)) ds m P X h))
  have G_all_bytes : FnOk l.prog w K mg base CX0 4 f_all_bytes _ [("cells" : Str)] (spV K .O wAllBytes) := ok_all_bytes (P := l.prog) (w := w) (base := base) F_all_bytes G_cell_bytes b_cell_bytes m_cell_bytes kp_cell_bytes (sp := (spV K .O wAllBytes)) (fun _ _ _ _ h => spV.len (n := 1) (fun ds m P X h => ((p_all_bytes (K := K)) ds m P X h).1) h) (sim_all_bytes (fun ds m P X h => (p_all_bytes (K := K)) ds m P X h))
  have G_runs_of : FnOk l.prog w K mg base CX0 1 f_runs_of _ [("cells" : Str)] (spV K .O wRunsOf) := ok_runs_of (P := l.prog) (w := w) (base := base) F_runs_of z_len (sp := (spV K .O wRunsOf)) (fun _ _ _ _ h => spV.len (n := 1) (fun ds m P X h => ((p_runs_of (K := K)) ds m P X h).1) h) (sim_runs_of (fun ds m P X h => (p_runs_of (K := K)) ds m P X h))
  have G_run_bytes : FnOk l.prog w K mg base CX0 4 f_run_bytes _ [("cells" : Str)] (spV K .O wRunBytes) := ok_run_bytes (P := l.prog) (w := w) (base := base) F_run_bytes G_runs_of b_runs_of m_runs_of kp_runs_of G_number_bytes b_number_bytes m_number_bytes kp_number_bytes G_cell_bytes b_cell_bytes m_cell_bytes kp_cell_bytes z_len (sp := (spV K .O wRunBytes)) (fun _ _ _ _ h => spV.len (n := 1) (fun ds m P X h => ((p_run_bytes (K := K)) ds m P X h).1) h) (sim_run_bytes (fun ds m P X h => (p_run_bytes (K := K)) ds m P X h))
  have G_is_number : FnOk l.prog w K mg base CX0 1 f_is_number _ [("thing" : Str)] (spV K .O wIsNum) := ok_is_number (P := l.prog) (w := w) (base := base) F_is_number z_isinstance z_int z_bool (sp := (spV K .O wIsNum)) (fun _ _ _ _ h => spV.len (n := 1) (fun ds m P X h => ((p_is_number (K := K)) ds m P X h).1) h) (sim_is_number (fun ds m P X h => (p_is_number (K := K)) ds m P X h))
  have G_cell_key : FnOk l.prog w K mg base CX0 2 f_cell_key _ [("cell" : Str)] (spV K .O wKey) := ok_cell_key (P := l.prog) (w := w) (base := base) F_cell_key G_is_number b_is_number m_is_number kp_is_number (sp := (spV K .O wKey)) (fun _ _ _ _ h => spV.len (n := 1) (fun ds m P X h => ((p_cell_key (K := K)) ds m P X h).1) h) (sim_cell_key (fun ds m P X h => (p_cell_key (K := K)) ds m P X h))
  have G_book_of : FnOk l.prog w K mg base CX0 5 f_book_of _ [("cells" : Str)] (spV K .O wBookOf) := ok_book_of (P := l.prog) (w := w) (base := base) F_book_of G_cell_key b_cell_key m_cell_key kp_cell_key z_sorted z_list (sp := (spV K .O wBookOf)) (fun _ _ _ _ h => spV.len (n := 1) (fun ds m P X h => ((p_book_of (K := K) (w := w) (f := f_cell_key)) ds m P X h).1) h) (fun us H Q E h => sim_book_of (vsp := forg wBookOf) (fun ds m P X h => by obtain ⟨P, rfl, h⟩ := h; exact (p_book_of (K := K)) ds m P X h) us H Q E (to_forg h))
  have G_power_of : FnOk l.prog w K mg base CX0 1 f_power_of _ [("wide" : Str)] (spV K .O wPow) := ok_power_of (P := l.prog) (w := w) (base := base) F_power_of z_range (sp := (spV K .O wPow)) (fun _ _ _ _ h => spV.len (n := 1) (fun ds m P X h => ((p_power_of (K := K)) ds m P X h).1) h) (sim_power_of (fun ds m P X h => (p_power_of (K := K)) ds m P X h))
  have G_byte_count : FnOk l.prog w K mg base CX0 1 f_byte_count _ [("many" : Str), ("wide" : Str)] (spV K .O wBc) := ok_byte_count (P := l.prog) (w := w) (base := base) F_byte_count k_BITS (sp := (spV K .O wBc)) (fun _ _ _ _ h => spV.len (n := 2) (fun ds m P X h => ((p_byte_count (K := K)) ds m P X h).1) h) (sim_byte_count (fun ds m P X h => (p_byte_count (K := K)) ds m P X h))
  have G_packed : FnOk l.prog w K mg base CX0 2 f_packed _ [("numbers" : Str), ("wide" : Str)] (spV K .O wPacked) := ok_packed (P := l.prog) (w := w) (base := base) F_packed G_power_of b_power_of m_power_of kp_power_of G_byte_count b_byte_count m_byte_count kp_byte_count z_reversed z_range z_len k_BYTE (sp := (spV K .O wPacked)) (fun _ _ _ _ h => spV.len (n := 2) (fun ds m P X h => ((p_packed (K := K)) ds m P X h).1) h) (sim_packed (fun ds m P X h => (p_packed (K := K)) ds m P X h))
  have G_bits_for : FnOk l.prog w K mg base CX0 1 f_bits_for _ [("number" : Str)] (spV K .O wBits) := ok_bits_for (P := l.prog) (w := w) (base := base) F_bits_for (sp := (spV K .O wBits)) (fun _ _ _ _ h => spV.len (n := 1) (fun ds m P X h => ((p_bits_for (K := K)) ds m P X h).1) h) (sim_bits_for (fun ds m P X h => (p_bits_for (K := K)) ds m P X h))
  have G_book_bytes : FnOk l.prog w K mg base CX0 6 f_book_bytes _ [("cells" : Str)] (spV K .O wBookBytes) := ok_book_bytes (P := l.prog) (w := w) (base := base) F_book_bytes G_book_of b_book_of m_book_of kp_book_of G_packed b_packed m_packed kp_packed G_bits_for b_bits_for m_bits_for kp_bits_for G_number_bytes b_number_bytes m_number_bytes kp_number_bytes G_all_bytes b_all_bytes m_all_bytes kp_all_bytes z_enumerate z_len (sp := (spV K .O wBookBytes)) (fun _ _ _ _ h => spV.len (n := 1) (fun ds m P X h => ((p_book_bytes (K := K) (w := w)) ds m P X h).1) h) (fun us H Q E h => sim_book_bytes (vsp := forg wBookBytes) (fun ds m P X h => by obtain ⟨P, rfl, h⟩ := h; exact (p_book_bytes (K := K)) ds m P X h) us H Q E (to_forg h))
  have G_small_bytes : FnOk l.prog w K mg base CX0 3 f_small_bytes _ [("numbers" : Str)] (spV K .O wSmall) := ok_small_bytes (P := l.prog) (w := w) (base := base) F_small_bytes G_bits_for b_bits_for m_bits_for kp_bits_for G_packed b_packed m_packed kp_packed z_max (sp := (spV K .O wSmall)) (fun _ _ _ _ h => spV.len (n := 1) (fun ds m P X h => ((p_small_bytes (K := K)) ds m P X h).1) h) (sim_small_bytes (fun ds m P X h => (p_small_bytes (K := K)) ds m P X h))
  have G_base_bytes : FnOk l.prog w K mg base CX0 4 f_base_bytes _ [("cells" : Str)] (spV K .O wBase) := ok_base_bytes (P := l.prog) (w := w) (base := base) F_base_bytes G_number_bytes b_number_bytes m_number_bytes kp_number_bytes G_small_bytes b_small_bytes m_small_bytes kp_small_bytes z_min (sp := (spV K .O wBase)) (fun _ _ _ _ h => spV.len (n := 1) (fun ds m P X h => ((p_base_bytes (K := K)) ds m P X h).1) h) (sim_base_bytes (fun ds m P X h => (p_base_bytes (K := K)) ds m P X h))
  have G_step_bytes : FnOk l.prog w K mg base CX0 4 f_step_bytes _ [("cells" : Str)] (spV K .O wStp) := ok_step_bytes (P := l.prog) (w := w) (base := base) F_step_bytes G_number_bytes b_number_bytes m_number_bytes kp_number_bytes G_small_bytes b_small_bytes m_small_bytes kp_small_bytes z_zip z_min (sp := (spV K .O wStp)) (fun _ _ _ _ h => spV.len (n := 1) (fun ds m P X h => ((p_step_bytes (K := K)) ds m P X h).1) h) (sim_step_bytes (fun ds m P X h => (p_step_bytes (K := K)) ds m P X h))
  have G_press_by : FnOk l.prog w K mg base CX0 7 f_press_by _ [("way" : Str), ("cells" : Str)] (spV K .O wPressA) := ok_press_by (P := l.prog) (w := w) (base := base) F_press_by G_number_bytes b_number_bytes m_number_bytes kp_number_bytes G_all_bytes b_all_bytes m_all_bytes kp_all_bytes G_run_bytes b_run_bytes m_run_bytes kp_run_bytes G_book_bytes b_book_bytes m_book_bytes kp_book_bytes G_is_number b_is_number m_is_number kp_is_number G_base_bytes b_base_bytes m_base_bytes kp_base_bytes G_step_bytes b_step_bytes m_step_bytes kp_step_bytes z_len z_all (sp := (spV K .O wPressA)) (fun _ _ _ _ h => spV.len (n := 2) (fun ds m P X h => ((p_press_by (K := K)) ds m P X h).1) h) (sim_press_by (fun ds m P X h => (p_press_by (K := K)) ds m P X h))
  have G_pressed : FnOk l.prog w K mg base CX0 8 f_pressed _ [("cells" : Str)] (spV K .F wPressedS) := ok_pressed (P := l.prog) (w := w) (base := base) F_pressed G_press_by b_press_by m_press_by kp_press_by z_range z_min z_len k_WAYS (sp := (spV K .F wPressedS)) (fun _ _ _ _ h => spV.len (n := 1) (fun ds m P X h => ((p_pressed (K := K)) ds m P X h).1) h) (fun us H Q E h => sim_pressed (vsp := forg wPressedS) (fun ds m P X h => by obtain ⟨P, rfl, h⟩ := h; exact (p_pressed (K := K)) ds m P X h) us H Q E (to_forg h))
  have G_same_0 : FnOk l.prog w K mg base CX0 0 f_same _ [("_law_found" : Str), ("_law_due" : Str)] (spSame K 0) := fn_no (fd := PySem.W.fnOf ("_law_same" : Str) ("_law_same" : Str) (defArgs sT_same) (defBody sT_same) (defScope sT_same) .none kV_same dc_same pm_same an_same cd_same ct_same) same_no
  have G_same_1 : FnOk l.prog w K mg base CX0 1 f_same _ [("_law_found" : Str), ("_law_due" : Str)] (spSame K 1) := ok_same (P := l.prog) (w := w) (base := base) F_same G_same_0 b_same m_same kp_same z_isinstance z_dict z_list z_tuple z_len z_all z_zip z_str z_int z_bool (sp := (spSame K 1)) (by rintro vs H Q E ⟨_, _, _, rfl, _⟩; rfl) pure_same
  have G_same_2 : FnOk l.prog w K mg base CX0 2 f_same _ [("_law_found" : Str), ("_law_due" : Str)] (spSame K 2) := ok_same (P := l.prog) (w := w) (base := base) F_same G_same_1 b_same m_same kp_same z_isinstance z_dict z_list z_tuple z_len z_all z_zip z_str z_int z_bool (sp := (spSame K 2)) (by rintro vs H Q E ⟨_, _, _, rfl, _⟩; rfl) pure_same
  have G_same_3 : FnOk l.prog w K mg base CX0 3 f_same _ [("_law_found" : Str), ("_law_due" : Str)] (spSame K 3) := ok_same (P := l.prog) (w := w) (base := base) F_same G_same_2 b_same m_same kp_same z_isinstance z_dict z_list z_tuple z_len z_all z_zip z_str z_int z_bool (sp := (spSame K 3)) (by rintro vs H Q E ⟨_, _, _, rfl, _⟩; rfl) pure_same
  have G_same_4 : FnOk l.prog w K mg base CX0 4 f_same _ [("_law_found" : Str), ("_law_due" : Str)] (spSame K 4) := ok_same (P := l.prog) (w := w) (base := base) F_same G_same_3 b_same m_same kp_same z_isinstance z_dict z_list z_tuple z_len z_all z_zip z_str z_int z_bool (sp := (spSame K 4)) (by rintro vs H Q E ⟨_, _, _, rfl, _⟩; rfl) pure_same
  have G_same_5 : FnOk l.prog w K mg base CX0 5 f_same _ [("_law_found" : Str), ("_law_due" : Str)] (spSame K 5) := ok_same (P := l.prog) (w := w) (base := base) F_same G_same_4 b_same m_same kp_same z_isinstance z_dict z_list z_tuple z_len z_all z_zip z_str z_int z_bool (sp := (spSame K 5)) (by rintro vs H Q E ⟨_, _, _, rfl, _⟩; rfl) pure_same
  have G_same_6 : FnOk l.prog w K mg base CX0 6 f_same _ [("_law_found" : Str), ("_law_due" : Str)] (spSame K 6) := ok_same (P := l.prog) (w := w) (base := base) F_same G_same_5 b_same m_same kp_same z_isinstance z_dict z_list z_tuple z_len z_all z_zip z_str z_int z_bool (sp := (spSame K 6)) (by rintro vs H Q E ⟨_, _, _, rfl, _⟩; rfl) pure_same
  have G_same : FnOk l.prog w K mg base CX0 6 f_same _ [("_law_found" : Str), ("_law_due" : Str)] (spV K .O (vSame 6)) := G_same_6.imp fun _ _ _ _ h => cv_same h
  exact FnOk.imp (ok_law (P := l.prog) (w := w) (base := base) F_law G_begin b_begin m_begin kp_begin G_stretch b_stretch m_stretch kp_stretch G_own_press b_own_press m_own_press kp_own_press G_pressed b_pressed m_pressed kp_pressed G_same b_same m_same kp_same z_range z_len z_list z_tuple (sp := (spV K .O vLaw)) (fun _ _ _ _ h => spV.len (n := 1) (fun ds m P X h => ((p_law (K := K)) ds m P X h).1) h) (sim_law (fun ds m P X h => (p_law (K := K)) ds m P X h))) fun _ _ _ _ h => cv_law h
theorem walk {l : PySem.W.OpenLaw} {q : Program} {loose : List Str} {XP : (Str → Option Value) → Heap → Prop} {YP : World → Heap → Prop} {d : DefRec} {K : Params → PySem.W.Frag} (hn : l.most = some 63) (hdf : d.params.defaults = [])
    (hY : ∀ (w : World) (h : Heap), YP w h → (K w.params).In h)
    (F : ∀ (w : World) (mg : Str → Option Value) (fa : Addr) (h : Heap), (K w.params).In h → h.Ns mainGlobals mg → mg d.name = some (.ref fa) →
      ∃ fd : FuncData, (∀ (s : Shared) (u : Value), BindsTo s fd ⟨[u], []⟩ [("_law_script", u)]) ∧ ∀ base : Heap, (K w.params).In base → base.Ns mainGlobals mg → FnOk l.prog w (K w.params) mg base CX0 9 fa fd ["_law_script"] (spLaw (K w.params))) :
    PySem.W.WalkO q loose XP YP l.row.toRowW d [] (fun f vs => PySem.call f vs) :=
  L2.walk_of (n := 63) (k := 9) (x := "_law_script") (CX := fun _ => CX0) (sp := fun w => spLaw (K w.params)) hn (by decide) hdf ⟨rfl, by decide, by decide⟩ hY F (fun _ _ a ns hl _ hS => ⟨a, ns, rfl, hS, hl, fun _ => rfl⟩) fun _ _ _ _ _ z => z
end Ps
open PySem PySem.W PyProof.Rows
set_option maxRecDepth 100000 in
set_option maxHeartbeats 0 in
theorem PySem.Challenge.cw_pillarstore_k11_the_shortest_way_holds : PySem.Challenge.rw_pillarstore_k11_the_shortest_way.Holds := by
  w_on; o_law; k_head; (case hw => w_witness2)
  k_fill
  refine Ps.walk (l := PySem.Challenge.rw_pillarstore_k11_the_shortest_way) rfl rfl (fun w h Y => PySem.W.kIn_of Y) ?F
  case F =>
    intro w mg fa h KX G hmg
    refine' Ps.all_mk KX G hmg ?a_begin ?l_begin ?c_begin ?kp_begin ?a_take ?l_take ?c_take ?kp_take ?a_text ?l_text ?c_text ?kp_text ?a_number ?l_number ?c_number ?kp_number ?a_cells ?l_cells ?c_cells ?kp_cells ?a_stretch ?l_stretch ?c_stretch ?kp_stretch ?a_own_nb ?l_own_nb ?c_own_nb ?kp_own_nb ?a_sign_number ?l_sign_number ?c_sign_number ?kp_sign_number ?a_own_cb8 ?l_own_cb8 ?c_own_cb8 ?kp_own_cb8 ?a_own_runs ?l_own_runs ?c_own_runs ?kp_own_runs ?a_own_key ?l_own_key ?c_own_key ?kp_own_key ?a_own_packed ?l_own_packed ?c_own_packed ?kp_own_packed ?a_own_bits ?l_own_bits ?c_own_bits ?kp_own_bits ?a_own_book ?l_own_book ?c_own_book ?kp_own_book ?a_own_small ?l_own_small ?c_own_small ?kp_own_small ?a_own_press ?l_own_press ?c_own_press ?kp_own_press ?a_number_bytes ?l_number_bytes ?c_number_bytes ?kp_number_bytes ?a_text_bytes ?l_text_bytes ?c_text_bytes ?kp_text_bytes ?a_cell_bytes ?l_cell_bytes ?c_cell_bytes ?kp_cell_bytes ?a_all_bytes ?l_all_bytes ?c_all_bytes ?kp_all_bytes ?a_runs_of ?l_runs_of ?c_runs_of ?kp_runs_of ?a_run_bytes ?l_run_bytes ?c_run_bytes ?kp_run_bytes ?a_is_number ?l_is_number ?c_is_number ?kp_is_number ?a_cell_key ?l_cell_key ?c_cell_key ?kp_cell_key ?a_book_of ?l_book_of ?c_book_of ?kp_book_of ?a_power_of ?l_power_of ?c_power_of ?kp_power_of ?a_byte_count ?l_byte_count ?c_byte_count ?kp_byte_count ?a_packed ?l_packed ?c_packed ?kp_packed ?a_bits_for ?l_bits_for ?c_bits_for ?kp_bits_for ?a_book_bytes ?l_book_bytes ?c_book_bytes ?kp_book_bytes ?a_small_bytes ?l_small_bytes ?c_small_bytes ?kp_small_bytes ?a_base_bytes ?l_base_bytes ?c_base_bytes ?kp_base_bytes ?a_step_bytes ?l_step_bytes ?c_step_bytes ?kp_step_bytes ?a_press_by ?l_press_by ?c_press_by ?kp_press_by ?a_pressed ?l_pressed ?c_pressed ?kp_pressed ?a_same ?l_same ?c_same ?kp_same ?a_law ?l_law ?c_law ?kp_law ?zz_list ?zz_len ?zz_divmod ?zz_range ?zz_isinstance ?zz_str ?zz_sum ?zz_zip ?zz_sorted ?zz_max ?zz_any ?zz_min ?zz_int ?zz_bool ?zz_reversed ?zz_enumerate ?zz_all ?zz_dict ?zz_tuple ?kk_MORE ?kk_SIGNS ?kk_BITS ?kk_BYTE ?kk_WAYS
    (case a_begin => k_is)
    (case l_begin => k_is)
    (case c_begin => k_is)
    (case kp_begin => k_is)
    (case a_take => k_is)
    (case l_take => k_is)
    (case c_take => k_is)
    (case kp_take => k_is)
    (case a_text => k_is)
    (case l_text => k_is)
    (case c_text => k_is)
    (case kp_text => k_is)
    (case a_number => k_is)
    (case l_number => k_is)
    (case c_number => k_is)
    (case kp_number => k_is)
    (case a_cells => k_is)
    (case l_cells => k_is)
    (case c_cells => k_is)
    (case kp_cells => k_is)
    (case a_stretch => k_is)
    (case l_stretch => k_is)
    (case c_stretch => k_is)
    (case kp_stretch => k_is)
    (case a_own_nb => k_is)
    (case l_own_nb => k_is)
    (case c_own_nb => k_is)
    (case kp_own_nb => k_is)
    (case a_sign_number => k_is)
    (case l_sign_number => k_is)
    (case c_sign_number => k_is)
    (case kp_sign_number => k_is)
    (case a_own_cb8 => k_is)
    (case l_own_cb8 => k_is)
    (case c_own_cb8 => k_is)
    (case kp_own_cb8 => k_is)
    (case a_own_runs => k_is)
    (case l_own_runs => k_is)
    (case c_own_runs => k_is)
    (case kp_own_runs => k_is)
    (case a_own_key => k_is)
    (case l_own_key => k_is)
    (case c_own_key => k_is)
    (case kp_own_key => k_is)
    (case a_own_packed => k_is)
    (case l_own_packed => k_is)
    (case c_own_packed => k_is)
    (case kp_own_packed => k_is)
    (case a_own_bits => k_is)
    (case l_own_bits => k_is)
    (case c_own_bits => k_is)
    (case kp_own_bits => k_is)
    (case a_own_book => k_is)
    (case l_own_book => k_is)
    (case c_own_book => k_is)
    (case kp_own_book => k_is)
    (case a_own_small => k_is)
    (case l_own_small => k_is)
    (case c_own_small => k_is)
    (case kp_own_small => k_is)
    (case a_own_press => k_is)
    (case l_own_press => k_is)
    (case c_own_press => k_is)
    (case kp_own_press => k_is)
    (case a_number_bytes => k_is)
    (case l_number_bytes => k_is)
    (case c_number_bytes => k_is)
    (case kp_number_bytes => k_is)
    (case a_text_bytes => k_is)
    (case l_text_bytes => k_is)
    (case c_text_bytes => k_is)
    (case kp_text_bytes => k_is)
    (case a_cell_bytes => k_is)
    (case l_cell_bytes => k_is)
    (case c_cell_bytes => k_is)
    (case kp_cell_bytes => k_is)
    (case a_all_bytes => k_is)
    (case l_all_bytes => k_is)
    (case c_all_bytes => k_is)
    (case kp_all_bytes => k_is)
    (case a_runs_of => k_is)
    (case l_runs_of => k_is)
    (case c_runs_of => k_is)
    (case kp_runs_of => k_is)
    (case a_run_bytes => k_is)
    (case l_run_bytes => k_is)
    (case c_run_bytes => k_is)
    (case kp_run_bytes => k_is)
    (case a_is_number => k_is)
    (case l_is_number => k_is)
    (case c_is_number => k_is)
    (case kp_is_number => k_is)
    (case a_cell_key => k_is)
    (case l_cell_key => k_is)
    (case c_cell_key => k_is)
    (case kp_cell_key => k_is)
    (case a_book_of => k_is)
    (case l_book_of => k_is)
    (case c_book_of => k_is)
    (case kp_book_of => k_is)
    (case a_power_of => k_is)
    (case l_power_of => k_is)
    (case c_power_of => k_is)
    (case kp_power_of => k_is)
    (case a_byte_count => k_is)
    (case l_byte_count => k_is)
    (case c_byte_count => k_is)
    (case kp_byte_count => k_is)
    (case a_packed => k_is)
    (case l_packed => k_is)
    (case c_packed => k_is)
    (case kp_packed => k_is)
    (case a_bits_for => k_is)
    (case l_bits_for => k_is)
    (case c_bits_for => k_is)
    (case kp_bits_for => k_is)
    (case a_book_bytes => k_is)
    (case l_book_bytes => k_is)
    (case c_book_bytes => k_is)
    (case kp_book_bytes => k_is)
    (case a_small_bytes => k_is)
    (case l_small_bytes => k_is)
    (case c_small_bytes => k_is)
    (case kp_small_bytes => k_is)
    (case a_base_bytes => k_is)
    (case l_base_bytes => k_is)
    (case c_base_bytes => k_is)
    (case kp_base_bytes => k_is)
    (case a_step_bytes => k_is)
    (case l_step_bytes => k_is)
    (case c_step_bytes => k_is)
    (case kp_step_bytes => k_is)
    (case a_press_by => k_is)
    (case l_press_by => k_is)
    (case c_press_by => k_is)
    (case kp_press_by => k_is)
    (case a_pressed => k_is)
    (case l_pressed => k_is)
    (case c_pressed => k_is)
    (case kp_pressed => k_is)
    (case a_same => k_is)
    (case l_same => k_is)
    (case c_same => k_is)
    (case kp_same => k_is)
    (case a_law => k_is)
    (case l_law => k_is)
    (case c_law => k_is)
    (case kp_law => k_is)
    (case zz_list => k_is)
    (case zz_len => k_is)
    (case zz_divmod => k_is)
    (case zz_range => k_is)
    (case zz_isinstance => k_is)
    (case zz_str => k_is)
    (case zz_sum => k_is)
    (case zz_zip => k_is)
    (case zz_sorted => k_is)
    (case zz_max => k_is)
    (case zz_any => k_is)
    (case zz_min => k_is)
    (case zz_int => k_is)
    (case zz_bool => k_is)
    (case zz_reversed => k_is)
    (case zz_enumerate => k_is)
    (case zz_all => k_is)
    (case zz_dict => k_is)
    (case zz_tuple => k_is)
    (case kk_MORE => k_is)
    (case kk_SIGNS => k_is)
    (case kk_BITS => k_is)
    (case kk_BYTE => k_is)
    (case kk_WAYS => k_is)
#print axioms PySem.Challenge.cw_pillarstore_k11_the_shortest_way_holds
