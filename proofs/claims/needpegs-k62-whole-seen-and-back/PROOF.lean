import PyProof.Rows.All
import Wide.All
import OpenK.AllK
import Wide.FinOn
import HandS.ForMost
import HandS.OwnEq
import HandS.Deep
import HandS.TupAny
import HandS.Star
import HandS.Property
import HandS.MakeKwOnly
import HandS.IsInst
import HandS.NoneIn
import HandS.DictComp
import HandS.Lambda
import HandS.Walk
import KE.KFmtOwn
import KE.SortKeyHeap
import KE.GoesEnum
import HandS.RevTup
import KE.KDictList
import KE.GoesMore
import KE.GoesEnumKw
import KE.KDictZip
import HandS.SortKw
import HandS.Dict
import PyProof.TupleOfSeq
import HandS.HeadHook4
import KE.KStateDown
import HandS.Head0
import HandS.Head1
import HandS.Head2
import HandS.HeadWalk
import HandS.Evl
import HandS.Wide
import HandS.WideBits
import HandS.Small
import HandS.Style
import HandS.Codes
import HandS.TryOnly
import PySem.Challenge.RW_needpegs_k62_whole_seen_and_back
set_option Elab.async false
set_option linter.all false
set_option maxRecDepth 100000
section
set_option maxHeartbeats 4000000
/-! own operators of instances: != by an own ==, in by an own __contains__, ^ by an own __xor__ -/
namespace NP
open PySem PySem.Spec PyProof.Rows L2
section
variable {prog : Program} {w : World} {A : Around} {E : Value → Shared → Prop} {s : Shared} {K : PySem.W.Frag} {x y C f : Addr} {ox : Obj} {od : Option Obj}
open Builtin in
/-- object.__ne__ of an instance, told by its own == -/
theorem one_call {Q : Value → Shared → Prop} (hu : A.in1.units < cLine) (X : K.In s.heap) (I : PySem.W.InstAt s.heap x ox C od) (hm : PySem.W.mroIn K C (.type "object") = some true) (he : PySem.W.findIn K (.ref C) "__eq__" = some (some (.ref f))) (hf : PySem.W.isFn K (.ref f) = true)
    (h : wpAny (model prog w) A.in1 (call (.ref f) [.ref x, .ref y]) (fun v s' => ∃ b, v = .bool b ∧ Q (.bool (!b)) s') E s) : wpAny (model prog w) A (call (.builtin "object.__ne__") [.ref x, .ref y]) Q E s := by
  refine wpAny_call (codeAny_call_builtin PySem.F.slot_object_ne.plain PySem.F.entry_object_ne (PySem.W.check_slot (i := "object.__ne__") (owner := "object") (n := "__ne__") (by decide +kernel) (by decide +kernel) (I.type.andThen (PySem.W.looks_mroIn X hm)) (PySem.F.args_object_ne_2 _ _) ?_))
  unfold Builtin.«object.__ne__»
  refine wpAny_bind (m := slotArgs "__ne__" 1 _) (wpAny_pure ?_)
  refine wpAny_bind (m := cRoomFor _ _) (wpAny_cRoomFor hu ?_)
  refine wpAny_bind (m := callSpecialIfBound? (.ref x) (Str.ofString "__eq__") _) (PySem.W.ifBound_K X I he hf (wpAny_mono h (fun r s' hq => ?_) fun _ _ y => y))
  obtain ⟨b, rfl, q⟩ := hq
  refine wpAny_bind (m := truthy (.bool b)) (wpAny_truthy_bool ?_)
  exact wpAny_pure q
theorem ne_bound {Q : Option Value → Shared → Prop} (X : K.In s.heap) (I : PySem.W.InstAt s.heap x ox C od) (hn : PySem.W.findIn K (.ref C) "__ne__" = some (some (.builtin "object.__ne__")))
    (h : wpAny (model prog w) A (call (.builtin "object.__ne__") [.ref x, .ref y]) (fun v => Q (some v)) E s) : wpAny (model prog w) A (callSpecialIfBound? (.ref x) "__ne__" [.ref y]) Q E s := by
  simp only [callSpecialIfBound?, bindSpecialIfBound?]
  refine wpAny_holding (wpAny_bind (wpAny_bind (wpAny_bind (I.type.here ((PySem.W.looks_findIn X hn).here ?_)))))
  refine wpAny_bind (wpAny_askSetting (wpAny_ite ?_))
  have fin : wpAny (model prog w) A (call (.builtin "object.__ne__") ([.ref x] ++ [.ref y]) >>= fun v => pure (some v)) Q E s := wpAny_bind (wpAny_mono h (fun v s' h' => wpAny_pure h') fun _ _ h' => h')
  have hb : bindSpecial (.builtin "object.__ne__") (.ref x) = pure (.builtin "object.__ne__", [.ref x]) := PySem.F.slot_object_ne.bind _
  split
  · exact wpAny_bind ((PySem.W.Looks.of_pure hb).here (wpAny_pure (by exact fin)))
  · exact wpAny_tryCatch (wpAny_bind ((PySem.W.Looks.of_pure hb).here (wpAny_pure (by exact fin))))
theorem one_ne {Q : Value → Shared → Prop} (hu : A.units + 1 < cLine) (X : K.In s.heap) (I : PySem.W.InstAt s.heap x ox C od) (J : ∃ oy oe, PySem.W.InstAt s.heap y oy C oe) (hm : PySem.W.mroIn K C (.type "object") = some true)
    (hn : PySem.W.findIn K (.ref C) "__ne__" = some (some (.builtin "object.__ne__"))) (he : PySem.W.findIn K (.ref C) "__eq__" = some (some (.ref f))) (hf : PySem.W.isFn K (.ref f) = true)
    (h : wpAny (model prog w) A.in1 (call (.ref f) [.ref x, .ref y]) (fun v s' => ∃ b, v = .bool b ∧ Q (.bool (!b)) s') E s) : wpAny (model prog w) A (richCompare .NotEq (.ref x) (.ref y)) Q E s := by
  obtain ⟨oy, oe, J⟩ := J
  have hu0 : A.units < cLine := by omega
  have hu1 : A.in1.units < cLine := hu
  unfold richCompare
  simp only [oneThing_ref]
  refine wpAny_holding (wpAny_bind (wpAny_cRoomFor hu0 ?_))
  refine wpAny_bind (I.type.here (wpAny_bind (J.type.here ?_)))
  rw [show (Value.ref C != Value.ref C) = false from by simp]
  simp only [Bool.false_eq_true, if_false]
  refine wpAny_bind (wpAny_pure ?_)
  simp only [Bool.false_eq_true, if_false]
  unfold tryCompare
  refine wpAny_bind (wpAny_bind ?_)
  refine ne_bound X I hn (one_call hu1 X I hm he hf (wpAny_mono h (fun v s' hv => ?_) fun _ _ z => z))
  obtain ⟨b, rfl, q⟩ := hv
  exact ⟨b, rfl, wpAny_pure (wpAny_pure q)⟩
end

/-! ### over the layer -/
section
variable {X : Cx} {n : Nat}
theorem insAt {pins : List (Addr × Obj)} {σ : L2.St} {H : Hp} {s : Shared} {a C dx : Addr} {fs : List (Str × V)} (I : Inv X pins σ H s) (h : H a = some (.ins C dx fs)) : ∃ oy oe, PySem.W.InstAt s.heap a oy C oe := by
  obtain ⟨mA, J, _⟩ := ins_get I.hok h
  obtain ⟨od, J, _⟩ := J.look
  exact ⟨_, _, J⟩
/-- what != asks of the class -/
structure NeC (K : PySem.W.Frag) (C : Addr) : Prop where
  mro : PySem.W.mroIn K C (.type "object") = some true
  ne : PySem.W.findIn K (.ref C) "__ne__" = some (some (.builtin "object.__ne__"))
/-- != of two instances that are equal -/
theorem rcN_ins {C f : Addr} {fd : FuncData} {ps : List Str} {R : Addr → Addr → Hp → Prop} (F : FnOk X.prog X.w X.K X.mg X.base CX0 n f fd ps (spEq R)) (N : NeC X.K C)
    (hs : PySem.W.findIn X.K (.ref C) "__eq__" = some (some (.ref f))) (hf : PySem.W.isFn X.K (.ref f) = true) (hb : Binds X.K fd ps []) (hr : Room (n + 1) X.A) :
    OpR X (compareOp .NotEq) (fun x y H Q => DIns C R x y H ∧ ∀ H', Ext H H' → Q (.bl false) H') := by
  intro pins s σ H x y v u Q I rx ry hq
  obtain ⟨⟨a, b, dx, dy, fs, gs, rfl, rfl, ha, hb', hR⟩, q⟩ := hq
  cases rx
  cases ry
  obtain ⟨ox, oe, J⟩ := insAt I ha
  have hu : X.A.units + 1 < cLine := by have := hr.units; omega
  show wpAny (model X.prog X.w) X.A (richCompare .NotEq (.ref a) (.ref b)) _ _ _
  refine one_ne hu I.kIn J (insAt I hb') N.mro N.ne hs hf ?_
  have hsp : spEq R [.ref a, .ref b] H (fun v H' => v = .bl true ∧ Ext H H') E0 := ⟨a, b, rfl, hR, fun H' e => ⟨rfl, e⟩⟩
  have e0 : Env0 X.prog X.w X.K X.mg X.base X.A.in1 X.stack s H := I.env0.in1
  have hl := F.len _ _ _ _ hsp
  have r2 : Vals [V.ref a, V.ref b] [Value.ref a, Value.ref b] := .cons rfl (.cons rfl .nil)
  refine wpAny_call (codeAny_mono (F.run X.A.in1 X.stack s H ⟨[.ref a, .ref b], []⟩ [.ref a, .ref b] [.ref a, .ref b] _ E0 hr.in1 e0 (by
    have := hb s [.ref a, .ref b] I.kIn (by simpa using hl)
    simpa using this) r2 hsp) fun r s' hq => ?_)
  cases r with
  | error e => exact False.elim hq
  | ok fl =>
    cases fl with
    | ret w =>
      obtain ⟨z, H', I', rz, ez, ex⟩ := I.after hq
      subst ez
      cases rz
      exact ⟨true, rfl, .bl false, H', I', rfl, q H' ex⟩
    | next => exact False.elim hq
    | brk => exact False.elim hq
    | cont => exact False.elim hq
/-- x in o, x not in o, by an own __contains__ -/
def rInO (C : Addr) (sp : Sp) (neg : Bool) : R2 := fun x y H Q => ∃ a dx fs, y = .ref a ∧ H a = some (.ins C dx fs) ∧ sp [.ref a, x] H (fun v H' => ∃ k, v = .bl k ∧ Q (.bl (if neg then !k else k)) H') E0
theorem run_two {f : Addr} {fd : FuncData} {ps : List Str} {sp : Sp} {pins : List (Addr × Obj)} {σ : L2.St} {H : Hp} {s : Shared} {Q : VK} {x y : V} {u v : Value} (F : FnOk X.prog X.w X.K X.mg X.base CX0 n f fd ps sp) (hr : Room n X.A) (hb : Binds X.K fd ps [])
    (I : Inv X pins σ H s) (rx : RelV x u) (ry : RelV y v) (h : sp [x, y] H Q E0) : wpAny (model X.prog X.w) X.A (call (.ref f) [u, v]) (EP X pins σ Q) X.xe s :=
  run_fn (us := [u, v]) (vs := [x, y]) F hr hb .nil pass0 I (.cons rx (.cons ry .nil)) h
theorem op_inO {C f : Addr} {fd : FuncData} {ps : List Str} {sp : Sp} (F : FnOk X.prog X.w X.K X.mg X.base CX0 n f fd ps sp) (M : Meth X.K C "__contains__" f) (hr : Room n X.A) (hb : Binds X.K fd ps []) : OpR X (compareOp .In) (rInO C sp false) := by
  intro pins s σ H x y v u Q I rx ry hq
  obtain ⟨a, dx, fs, rfl, ha, q⟩ := hq
  cases ry
  obtain ⟨ox, oe, J⟩ := insAt I ha
  obtain ⟨m, hF⟩ := I.fr
  refine PySem.W.in_K hF I.ok.mod.kin J M.at_ M.fn (thn (run_two F hr hb I (show RelV (V.ref a) (.ref a) from rfl) rx q) fun r s' z => ?_)
  obtain ⟨v', H', I', rv, k, ev, qq⟩ := z
  subst ev
  cases rv
  exact wpAny_truthy_bool ⟨.bl k, H', I', rfl, qq⟩
theorem op_notInO {C f : Addr} {fd : FuncData} {ps : List Str} {sp : Sp} (F : FnOk X.prog X.w X.K X.mg X.base CX0 n f fd ps sp) (M : Meth X.K C "__contains__" f) (hr : Room n X.A) (hb : Binds X.K fd ps []) : OpR X (compareOp .NotIn) (rInO C sp true) := by
  intro pins s σ H x y v u Q I rx ry hq
  obtain ⟨a, dx, fs, rfl, ha, q⟩ := hq
  cases ry
  obtain ⟨ox, oe, J⟩ := insAt I ha
  obtain ⟨m, hF⟩ := I.fr
  refine PySem.W.notIn_K hF I.ok.mod.kin J M.at_ M.fn (thn (run_two F hr hb I (show RelV (V.ref a) (.ref a) from rfl) rx q) fun r s' z => ?_)
  obtain ⟨v', H', I', rv, k, ev, qq⟩ := z
  subst ev
  cases rv
  exact wpAny_truthy_bool ⟨.bl (!k), H', I', rfl, qq⟩
/-- a ^ b of two instances by an own __xor__ -/
def rXorO (C : Addr) (sp : Sp) : R2 := fun x y H Q => ∃ a b dx dy fs gs, x = .ref a ∧ y = .ref b ∧ H a = some (.ins C dx fs) ∧ H b = some (.ins C dy gs) ∧ sp [.ref a, .ref b] H Q E0
theorem op_xorO {C f : Addr} {fd : FuncData} {ps : List Str} {sp : Sp} (F : FnOk X.prog X.w X.K X.mg X.base CX0 n f fd ps sp) (M : Meth X.K C "__xor__" f) (hc : PySem.W.selfFirst X.K C = true) (hr : Room n X.A) (hb : Binds X.K fd ps []) : OpR X (binaryOp .BitXor) (rXorO C sp) := by
  intro pins s σ H x y v u Q I rx ry hq
  obtain ⟨a, b, dx, dy, fs, gs, rfl, rfl, ha, hb', q⟩ := hq
  cases rx
  cases ry
  obtain ⟨ox, oe, J⟩ := insAt I ha
  obtain ⟨oy, of', J'⟩ := insAt I hb'
  obtain ⟨m, hF⟩ := I.fr
  refine PySem.W.binop_K hF I.ok.mod.kin J J'.type hc M.at_ M.fn (thn (run_two F hr hb I (show RelV (V.ref a) (.ref a) from rfl) (show RelV (V.ref b) (.ref b) from rfl) q) fun r s' z => ?_)
  obtain ⟨v', H', I', rv, qq⟩ := z
  cases v' with
  | non => cases rv; exact ⟨.non, H', I', rfl, qq⟩
  | bl b => cases rv; exact ⟨.bl b, H', I', rfl, qq⟩
  | int i => obtain ⟨t, rfl⟩ := rv; exact ⟨.int i, H', I', ⟨t, rfl⟩, qq⟩
  | str i => obtain ⟨t, rfl⟩ := rv; exact ⟨.str i, H', I', ⟨t, rfl⟩, qq⟩
  | byt i => obtain ⟨t, rfl⟩ := rv; exact ⟨.byt i, H', I', ⟨t, rfl⟩, qq⟩
  | flt i => obtain ⟨t, rfl⟩ := rv; exact ⟨.flt i, H', I', ⟨t, rfl⟩, qq⟩
  | ref i => cases rv; exact ⟨.ref i, H', I', rfl, qq⟩
  | ty i => cases rv; exact ⟨.ty i, H', I', rfl, qq⟩
end
end NP
end

section
set_option maxHeartbeats 4000000
/-! enumerate over a tuple -/
namespace NP
open PySem PySem.Spec PyProof.Rows L2
open Sem (wp)
set_option maxHeartbeats 4000000 in
theorem meets_enum1 {v : Value} {o : Obj} {H : Heap → Prop} (B : Begins v o H) :
    Meets (Builtin.«enumerate.__new__» ⟨[.type "enumerate", v], []⟩) (fun _ R s => H s.heap ∧
      R (.ok (.ret (.ref (s.heap.push o).objs.size))) { s with heap := (s.heap.push o).push { cls := .type "enumerate", data := .fields #[.none, .bool false, .ref s.heap.objs.size, rawInt 0, .none, .none] } }) :=
  .of_wp fun prog w A R s h => by
    obtain ⟨hp, g, d, tk, os⟩ := s
    obtain ⟨h1, h⟩ := h
    have hsub := sub_enumerate
    have q1 : ∀ {A' : Around} {E : Value → Shared → Prop} {Q : Value → Shared → Prop}, Q (.ref hp.objs.size) ⟨hp.push o, g, d, tk, os⟩ → wpAny (model prog w) A' (pyIter v) Q E ⟨hp, g, d, tk, os⟩ :=
      fun q => B.iter prog w _ _ ⟨hp, g, d, tk, os⟩ _ h1 q
    wp_walk using q1
    refine wpAny_stack_any fun st => wpAny_pure ?_
    split
    · rename_i c _ _ _ _ _
      cases (c == Value.type "enumerate")
      · wp_walk using q1
        exact ⟨_, rfl, h⟩
      · wp_walk using q1
        exact ⟨_, rfl, h⟩
    · wp_walk using q1
      exact ⟨_, rfl, h⟩
theorem enum_begins1 {prog : Program} {w : World} {A : Around} {E : Value → Shared → Prop} {s : Shared} {v : Value} {o : Obj} {H : Heap → Prop} {Q : Value → Shared → Prop} (B : Begins v o H) (h1 : H s.heap)
    (h : ∀ h', IsEnum h' (s.heap.objs.size + 1) s.heap.objs.size 0 .none → h'.get? s.heap.objs.size = some o → h'.objs.size = s.heap.objs.size + 2 →
      (∀ b o, s.heap.get? b = some o → h'.get? b = some o) → Q (.ref (s.heap.objs.size + 1)) { s with heap := h' }) :
    wpAny (model prog w) A (call (.type "enumerate") [v]) Q E s := by
  refine callType_new F.called_enumerate (by decide) (F.typeCall_enumerate_1 _) (F.newCall_enumerate_1 _) (fun obj => F.args_object_init_2 obj _) F.entry_enumerate_new
    (meets_enum1 B) ⟨h1, ?_⟩
  have hz : (s.heap.push o).objs.size = s.heap.objs.size + 1 := Heap.size_push ..
  show _ ∧ _
  rw [hz]
  have he : IsEnum ((s.heap.push o).push { cls := .type "enumerate", data := .fields #[.none, .bool false, .ref s.heap.objs.size, rawInt 0, .none, .none] }) (s.heap.objs.size + 1) s.heap.objs.size 0 .none := by
    have := Heap.get?_push_size (s.heap.push o) (o := { cls := .type "enumerate", data := .fields #[.none, .bool false, .ref s.heap.objs.size, rawInt 0, .none, .none] }) rfl
    rw [hz] at this; exact this
  refine ⟨⟨_, he, rfl⟩, h _ he (Heap.get?_push_of_some _ (Heap.get?_push_size _ B.free)) (by rw [Heap.size_push, hz]) fun b o x => Heap.get?_push_of_some _ (Heap.get?_push_of_some _ x)⟩

/-- the tuple at a, each item in a new pair with its place -/
def IteT (K : PySem.W.Frag) (a : Addr) : It :=
  ⟨fun i H => ∃ (xs : List V) (x : V), SqT K H a xs ∧ xs[i]? = some x, fun i H v H' => ∃ T x, v = .ref T ∧ H T = none ∧ H' = upd H T (.tup [.int (i : Nat), x]) ∧ ∀ xs, SqT K H a xs → xs[i]? = some x, fun i H => ∃ xs : List V, SqT K H a xs ∧ xs.length ≤ i⟩
theorem tup_ne_enum {h : Heap} {a e it : Addr} {its : Array Value} {c : Int} {old : Value} (ht : IsTup h a its) (he : IsEnum h e it c old) : e ≠ a := by
  intro z
  obtain ⟨o, ho, hc, _⟩ := ht
  have he' : h.get? e = some _ := he
  rw [z, ho] at he'
  cases he'
  have h1 : Value.type "enumerate" = Value.type "tuple" := hc
  injection h1 with h2
  exact absurd h2 (by decide)
theorem tup_ne_iter {h : Heap} {a it : Addr} {its : Array Value} {i : Nat} (ht : IsTup h a its) (hi : h.IsTupleIter it a i) : a ≠ it := by
  intro z
  obtain ⟨o, ho, hc, _⟩ := ht
  obtain ⟨o', ho', hc', _⟩ := hi
  rw [z, ho'] at ho
  cases ho
  rw [hc'] at hc
  injection hc with h2
  exact absurd h2 (by decide)
theorem enumT_end {prog : Program} {w : World} {A : Around} {E : Value → Shared → Prop} {s : Shared} {e it a : Addr} {its : Array Value} {i : Nat} {c : Int} {old : Value} {Q : Option Value → Shared → Prop}
    (hh : A.in1.handled = none) (he : IsEnum s.heap e it c old) (hit : s.heap.IsTupleIter it a i) (ht : IsTup s.heap a its) (hi : its[i]? = none)
    (hQ : ∀ h', Heap.ExtBut it s.heap h' → Q none { s with heap := h' }) : wpAny (model prog w) A (pyNext (.ref e)) Q E s := by
  have hT : s.TypeIs (.ref e) "enumerate" := ⟨_, he, rfl⟩
  unfold pyNext
  refine wpAny_bind (wpAny_attempt (wpAny_callSpecial?_slot (name := Str.ofString "__next__") hT F.slot_enumerate_next
    (wpAny_call_entry F.slot_enumerate_next hT F.entry_enumerate_next ?_ (F.args_enumerate_next_1 _))))
  show wpAny _ _ (field (.ref e) 2 >>= _) _ _ _
  refine wpAny_bind (wpAny_field he rfl (x := .ref it) rfl ?_)
  refine wpAny_bind (wpAny_nextOf_tuple_end hh hit ht hi fun h' x he' hx' => ?_)
  obtain ⟨o, ho, hc⟩ := hx'
  refine wpAny_bind (wpAny_isInstance (T := "StopIteration") (b := true) ⟨o, ho, hc⟩ isSubtype_stop ?_)
  exact wpAny_pure (hQ _ he')
theorem turn_enumT {P : Program} {w : World} {K : PySem.W.Frag} {elts : List Expr} {kk : Nat} {tpos : Pos} (a e it : Addr) :
    Turn P w K (.Tuple elts kk tpos) (IteT K a) [e, it] e (fun i h => (∃ old, IsEnum h e it ((i : Nat) : Int) old) ∧ h.IsTupleIter it a i ∧ e ≠ it) where
  mem := by simp
  obj := fun i h st b hb => by
    obtain ⟨⟨old, he⟩, ⟨o, ho, hc, hd⟩, _⟩ := st
    have e' : b = e ∨ b = it := by simpa using hb
    rcases e' with z | z
    · rw [z]; exact ⟨_, he, fun v q => nomatch q⟩
    · rw [z]; exact ⟨o, ho, fun v q => by rw [hd] at q; cases q⟩
  keep := fun i h h' st k => let ⟨⟨old, he⟩, hi, hne⟩ := st; ⟨⟨old, k e (by simp) _ he⟩, hi.at fun o q => k it (by simp) o q, hne⟩
  item := by
    intro X hP hw hK hc i pins s σ H E I hf st hg
    subst hP hw hK
    obtain ⟨⟨old, he⟩, hit, hne⟩ := st
    obtain ⟨xs, x, hq, hx⟩ := hg
    obtain ⟨its, rv, p, hz⟩ := I.tuple hq
    obtain ⟨u, hu, ru⟩ := rv.get hx
    have hel : e < s.heap.objs.size := Heap.lt_size he
    have hil : it < s.heap.objs.size := by obtain ⟨_, q, _⟩ := hit; exact Heap.lt_size q
    have hai := tup_ne_iter p hit
    have hea := tup_ne_enum p he
    have hil' : i < its.toArray.size := by
      have := (List.getElem?_eq_some_iff.mp hu).1
      simpa using this
    have D : Draws X.prog X.w X.A.in1 it [it, a] its.toArray.size (fun i v => its.toArray[i]? = some v) (fun i h => h.IsTupleIter it a i ∧ h.IsTuple a its.toArray) := Draws.tuple (show X.A.in1.handled = none from I.ok.hd hc) it a hai its.toArray
    refine wpAny_pyNext_enum_itemC D he ⟨hit, p⟩ hil' hne (by simp; exact ⟨hne, hea⟩) fun x' h' tk hP ho hst' hT hsz hk => ?_
    have ex : x' = u := by
      have h1 : its.toArray[i]? = some u := by simpa using hu
      have h2 : its.toArray[i]? = some x' := hP
      rw [h1] at h2
      exact (Option.some.inj h2).symm
    subst ex
    refine ⟨_, rfl, wpAny_letOwnedTupleGo_enum (s := { s with heap := h', toks := tk + 1 }) ho fun h'' he' sb => ?_⟩
    have hT2 : h''.get? s.heap.objs.size = some { cls := .type "tuple", data := .seq #[.int i tk, x'] } := (sb.2 _ (Nat.ne_of_gt hel)).trans hT
    have new : ObjOk X.prog X.w (upd H s.heap.objs.size (.tup [.int (i : Nat), x])) h'' s.heap.objs.size (.tup [.int (i : Nat), x]) :=
      ⟨by show 2 ≤ sizeLine; decide, [.int i tk, x'], .cons ⟨_, rfl⟩ (.cons ru .nil), ⟨_, hT2, rfl, _, rfl⟩⟩
    have I1 : Inv X pins σ (upd H s.heap.objs.size (.tup [.int (i : Nat), x])) { s with heap := h'', toks := tk + 1 } :=
      I.turnedNew (ch := [e, it]) (fun b ob hb q => (sb.2 b (fun z => hb (by simp [z]))).trans (hk b ob (fun z => hb (by simp [z])) (fun z => hb (by simp [z])) q)) hf (Nat.le_refl _) new
    refine ⟨.ref s.heap.objs.size, _, I1, rfl, ⟨_, x, rfl, I.hok.fresh (Nat.le_refl _), rfl, fun ys hy => by rw [I.tuple_inj hy hq]; exact hx⟩, ⟨⟨x', ?_⟩, hst'.1.at fun o q => (sb.2 it (Ne.symm hne)).trans q, hne⟩, fun b hb => ?_⟩
    · have e1 : ((i + 1 : Nat) : Int) = (i : Int) + 1 := by omega
      rw [e1]; exact he'
    · have hb' : b < s.heap.objs.size := by
        have e' : b = e ∨ b = it := by simpa using hb
        rcases e' with z | z
        · rw [z]; exact hel
        · rw [z]; exact hil
      rw [upd_ne (Nat.ne_of_lt hb')]
      exact (hf b hb).1
  done := by
    intro X hP hw hK hc i pins s σ H E I hf st hg
    subst hP hw hK
    obtain ⟨⟨old, he⟩, hit, hne⟩ := st
    obtain ⟨xs, hq, hx⟩ := hg
    obtain ⟨its, rv, p, hz⟩ := I.tuple hq
    obtain ⟨f0, f1, f2, f3, f4, f5⟩ := hf it (by simp)
    have hl := rv.length
    have hai := tup_ne_iter p hit
    exact enumT_end (show X.A.in1.handled = none from I.ok.hd hc) he hit p (by simp; omega) fun h' eb => ⟨rfl, I.turned (t' := s.toks) (fun b o hb q => eb b o hb q) f0 f1 f3 f4 f5⟩
  self := fun A i s Q E st h => let ⟨⟨_, he⟩, _⟩ := st; wpAny_pyIter_enum he h
def iEnumT (K : PySem.W.Frag) (ta : TA) : TI := fun σ H R => ta σ H fun vs H1 => ∃ a xs, vs = [.ref a] ∧ SqT K H1 a xs ∧ R (IteT K a) H1
theorem pi_enumT {X : Cx} {e : Expr} {ta : TA} {p pos tpos : Pos} {elts : List Expr} {kk : Nat} (hg : Gl X "enumerate") (hm : X.mg "enumerate" = none) (ha : PA X [e] ta) (hs : starEach [e] X.env = [(false, eval e X.env)] := by rfl) :
    PI X (.Tuple elts kk tpos) (.Call (.Name "enumerate" p) [e] [] pos) (iEnumT X.K ta) := by
  refine ⟨fun pins s σ H R I h => ?_⟩
  refine Call_ (ld_blt I hg hm boot_enumerate (PyProof.Rows.callWith_type1 (thn (ha.run pos pins s σ H _ I h) fun us s1 ⟨vs, H1, I1, r1, q1⟩ => ?_) hs rfl))
  obtain ⟨a, xs, ex, hq, q⟩ := q1
  subst ex
  cases r1 with
  | cons r rr =>
    cases rr
    cases r
    obtain ⟨its, rv, p', hz⟩ := I1.tuple hq
    refine enum_begins1 (begins_tuple a its.toArray) p' fun h' he hit hsz hk => wpAny_pyIter_enum he ?_
    have I2 : Inv X pins σ H1 { s1 with heap := h' } := I1.kept (t' := s1.toks) hk
    refine ⟨s1.heap.objs.size + 1, [s1.heap.objs.size + 1, s1.heap.objs.size], _, _, H1, rfl, I2, turn_enumT a (s1.heap.objs.size + 1) s1.heap.objs.size, ⟨⟨.none, he⟩, ⟨_, hit, rfl, rfl⟩, Nat.succ_ne_self _⟩, fun b hb => ?_, q⟩
    have e' : b = s1.heap.objs.size + 1 ∨ b = s1.heap.objs.size := by simpa using hb
    have hle : s1.heap.objs.size ≤ b := by
      rcases e' with z | z
      · rw [z]; exact Nat.le_add_right _ _
      · rw [z]; exact Nat.le_refl _
    exact I1.fpOk hle (I1.hok.fresh hle)
theorem walk_enumT {K : PySem.W.Frag} {a : Addr} {xs : List V} : Walk (IteT K a) xs.length (fun H => SqT K H a xs) (YPair (fun i => some (.int (i : Nat))) (fun i => xs[i]?)) := by
  refine ⟨fun i _ hi q => ⟨xs, xs[i], q, by simp [hi]⟩, fun _ q => ⟨xs, q, Nat.le_refl _⟩, fun i H v H' _ q y => ?_⟩
  obtain ⟨T, x, h1, h2, h3, h4⟩ := y
  exact ⟨T, .int (i : Nat), x, h1, h2, h3, rfl, h4 xs q⟩
end NP
end

section
set_option maxHeartbeats 4000000
/-! tuple(d.values()) -/
namespace NP
open PySem PySem.Spec PyProof.Rows L2
section
variable {prog : Program} {w : World} {A : Around} {E : Value → Shared → Prop} {s : Shared} {T : String} {r d : Addr} {n : Nat} {P : Nat → Value → Prop} {OK : Heap → Prop}
theorem collect_src {Q : List Value → Shared → Prop} (K : PySem.W.KdlSrc prog w T r d n P OK) (hh : A.handled = none) (hok : OK s.heap) (hn : n ≤ sizeLine)
    (hQ : ∀ (h' : Heap) (tk : Nat) (acc : Array Value), (∀ b o, s.heap.get? b = some o → h'.get? b = some o) → ItemsOf P acc n → Q acc.toList { s with heap := h', toks := tk }) :
    wpAny (model prog w) A (collect (.ref r)) Q E s := by
  have hlt := K.there _ hok
  unfold collect
  refine wpAny_bind (wpAny_runValue (codeAny_builtin F.entry_proto_collect ?_))
  rw [Around.under_plainId F.plain_proto_collect _]
  show wpAny _ A.in1 (newList [] >>= fun l' => again (.builtin "list.__iadd__" ⟨[l', .ref r], []⟩)) _ _ s
  refine wpAny_bind (wpAny_newObj_type ?_)
  refine wpAny_pure ⟨plainId_quiet F.plain_list_iadd _, codeAny_builtin F.entry_list_iadd ?_⟩
  rw [Around.under_plainId F.plain_list_iadd _]
  have hS₁ : (s.heap.push { cls := .type "list", data := .seq ([] : List Value).toArray }).get? s.heap.objs.size = some { cls := .type "list", data := .seq ([] : List Value).toArray } := Heap.get?_push_size _ rfl
  show wpAny _ A.in1 (Builtin.List.listExtendWith (.ref s.heap.objs.size) (.ref r) (.ref s.heap.objs.size)) _ _ _
  have fin : ∀ s' : Shared, (∃ (h' : Heap) (tk : Nat) (acc : Array Value) (c : Nat), s' = { s with heap := h', toks := tk } ∧ (∀ b o, s.heap.get? b = some o → h'.get? b = some o) ∧ h'.get? s.heap.objs.size = some { cls := .type "list", dict := none, data := .seq acc c, slots := #[] } ∧ ItemsOf P acc n) →
      wpAny (model prog w) A (load s.heap.objs.size >>= fun o => match o.data with | .seq xs _ => pure xs.toList | _ => unsupported "internal:collect") Q E s' := by
    rintro s' ⟨h', tk, acc, c, rfl, hk, hS', hacc⟩
    refine wpAny_bind (wpAny_load hS' ?_)
    exact wpAny_pure (hQ h' tk acc hk hacc)
  refine wpAny_mono (PySem.W.kdl_extend (s := { s with heap := s.heap.push { cls := .type "list", data := .seq ([] : List Value).toArray } })
    (R := fun r s' => r = .ok (.ret (.ref s.heap.objs.size)) ∧ ∃ (h' : Heap) (tk : Nat) (acc : Array Value) (c : Nat), s' = { s with heap := h', toks := tk } ∧ (∀ b o, s.heap.get? b = some o → h'.get? b = some o) ∧ h'.get? s.heap.objs.size = some { cls := .type "list", dict := none, data := .seq acc c, slots := #[] } ∧ ItemsOf P acc n)
    K hh (K.keep _ _ hok fun b _ o e => Heap.get?_push_of_some _ e) s.heap.objs.size (Nat.ne_of_gt hlt.1) (Nat.ne_of_gt hlt.2) (.ref s.heap.objs.size) 0 hS₁ (fun h' tk acc' c' hk hS' hacc => ⟨rfl, h', tk, acc', c', rfl, fun b o e => hk b o (Nat.ne_of_lt (Heap.lt_size e)) (Heap.get?_push_of_some _ e), hS', hacc⟩) hn)
    (fun f s' hf => ?_) fun e s' he => nomatch he.1
  cases f with
  | done f =>
    obtain ⟨e, z⟩ := hf
    cases e
    exact fin s' z
  | again c' =>
    refine ⟨hf.1, codeAny_mono hf.2 fun r s'' hr => ?_⟩
    obtain ⟨e, z⟩ := hr
    subst e
    exact fin s'' z
theorem code_tuple_vals {Q₁ : Value → Shared → Prop} (K : PySem.W.KdlSrc prog w "dict_values" r d n P OK) (hh : A.handled = none) (hok : OK s.heap) (hn : n ≤ sizeLine)
    (h : ∀ (h' : Heap) (tk : Nat) (acc : Array Value), (∀ b o, s.heap.get? b = some o → h'.get? b = some o) → ItemsOf P acc n →
      Q₁ (.ref h'.objs.size) { s with heap := h'.push { cls := .type "tuple", data := .seq acc }, toks := tk }) :
    codeAny (model prog w) A (.call (.builtin "tuple.__new__") ⟨[.type "tuple", .ref r], []⟩) (wants Q₁ E) s := by
  refine codeAny_of_tree ?_
  show wpAny _ A.in1 (do checkBuiltinCall "tuple.__new__" ⟨[.type "tuple", .ref r], []⟩; again (.builtin "tuple.__new__" ⟨[.type "tuple", .ref r], []⟩)) _ _ s
  refine wpAny_bind (wpAny_of_eq (F.newCall_tuple_1 _) (wpAny_pure ⟨plainId_quiet F.plain_tuple_new _, codeAny_builtin F.entry_tuple_new ?_⟩))
  rw [Around.under_plainId F.plain_tuple_new _]
  have hsub := sub_tuple_self
  have hinit := init_tuple_lookup
  have hmh := madeHere_tuple
  have hTI : s.TypeIs (.ref r) "dict_values" := K.type _ hok
  have hh1 : A.in1.handled = none := hh
  wp_walk using wpAny_typeOf hTI, collect_src (A := A.in1) K hh1 hok hn
  intro h' tk acc hk hacc
  show wpAny _ _ (Builtin.Tuple.tupleExact acc.toList.toArray >>= fun v => ret v) _ _ _
  unfold Builtin.Tuple.tupleExact
  refine wpAny_bind (wpAny_newObj_type ?_ (by show acc.toList.toArray.size ≤ sizeLine; simp only [Array.toArray_toList]; rw [hacc.1]; exact hn))
  refine wpAny_pure ?_
  have e : acc.toList.toArray = acc := by simp
  rw [e]
  exact h h' tk acc hk hacc
theorem call_tuple_vals {Q : Value → Shared → Prop} (K : PySem.W.KdlSrc prog w "dict_values" r d n P OK) (hh : A.handled = none) (hok : OK s.heap) (hn : n ≤ sizeLine)
    (hQ : ∀ (h' : Heap) (tk : Nat) (acc : Array Value), (∀ b o, s.heap.get? b = some o → h'.get? b = some o) → ItemsOf P acc n →
      Q (.ref h'.objs.size) { s with heap := h'.push { cls := .type "tuple", data := .seq acc }, toks := tk }) :
    wpAny (model prog w) A (call (.type "tuple") [.ref r]) Q E s := by
  refine callType_codes (Q₁ := fun obj s₁ => s₁.TypeIs obj "tuple" ∧ Q obj s₁) F.called_tuple (F.typeCall_tuple_1 _) F.entry_object_init
    (code_tuple_vals (A := A.in1) K hh hok hn fun h' tk acc hk hacc => ⟨⟨_, Heap.get?_push_size _ rfl, rfl⟩, hQ h' tk acc hk hacc⟩) fun obj s₁ h₁ => ?_
  exact ⟨h₁.1, F.args_object_init_2 obj _, object_init_meets F.called_tuple.init.lookup F.called_tuple.made (by decide) prog w A.in1 _ s₁ ⟨h₁.1, rfl, h₁.2⟩⟩
end
def tTupVals (te : TE) : TE := fun σ H Q => te σ H fun v H1 => ∃ (d : Addr) (kvs : List (Key × V)), v = .ref d ∧ H1 d = some (.dK kvs) ∧ ∀ q, H1 q = none → Q (.ref q) (upd H1 q (.tup (kvs.map (·.2))))
theorem vals_kv {kvs : List (Key × V)} {vs : List (Key × Value)} {acc : Array Value} (kv : KV kvs vs) (h : ItemsOf (fun i v => ∃ k, vs[i]? = some (k, v)) acc vs.length) : Vals (kvs.map (·.2)) acc.toList := by
  have e : acc.toList = vs.map (·.2) := PySem.W.kdl_vals_eq acc.toList (by rw [Array.length_toList]; exact h.1) fun j v hj => h.2 j v (by rw [← Array.getElem?_toList]; exact hj)
  rw [e]
  clear e h acc
  induction kv with
  | nil => exact .nil
  | cons r t ih => exact .cons r.2 ih
/-- tuple(e.values()) -/
theorem pe_tupVals {X : Cx} {e : Expr} {te : TE} {p apos cpos pos : Pos} (hc : X.calm = true) (he : PE X e te) (hg : Gl X "tuple") (hm : X.mg "tuple" = none) (hbase : attributeBase e "values" X.env (eval e X.env) = eval e X.env := by rfl) (hline : (apos.endLine == cpos.line) = true := by rfl)
    (hs : starEach [.Call (.Attribute e "values" apos) [] [] cpos] X.env = (false, eval (.Call (.Attribute e "values" apos) [] [] cpos) X.env) :: starEach [] X.env := by rfl) :
    PE X (.Call (.Name "tuple" p) [.Call (.Attribute e "values" apos) [] [] cpos] [] pos) (tTupVals te) := by
  refine ⟨fun pins s σ H Q I hq => ?_⟩
  refine wpAny_Call_Name_kw (ld_blt I hg hm boot_tuple ?_)
  refine PyProof.Rows.callWith_type1 ?_ hs rfl
  rw [hs]
  show wpAny _ _ (spliced ((false, eval (.Call (.Attribute e "values" apos) [] [] cpos) X.env) :: backTo pos (starEach [] X.env))) _ _ s
  refine Calls.spliced_cons ?_
  refine wpAny_Call_method (T := "dict") (id := "dict.values") hbase rfl hline F.plainAttrs_dict F.slot_dict_values F.type_dict_values (thn (he.run pins s σ H _ I hq) fun u s1 ⟨x, H1, I1, rx, d, kvs, ex, hd, q⟩ => ?_)
  subst ex
  obtain rfl : u = Value.ref d := rx
  obtain ⟨hz, hs0, vs, kv, hdo⟩ := I1.hok d _ hd
  obtain ⟨ep, hat⟩ := hdo.dictAt
  have lk : kvs.length = vs.length := Paired.length kv
  have I2 : Inv X pins σ H1 { s1 with heap := s1.heap.push { cls := .type "dict_values", data := .fields #[.ref d] } } := I1.kept (t' := s1.toks) fun b ob q => Heap.get?_push_of_some _ q
  refine ⟨hdo.typeIs, hdo.mapOf.noDict, ?_⟩
  show wpAny _ _ (callWith cpos (.builtin "dict.values") [.ref d] [] []) _ X.xe s1
  refine method_meetsIn F.slot_dict_values F.entry_dict_values rfl (PySem.evalArgs_none ⟨rfl, hdo.typeIs, F.args_dict_values_1 _, _, meets_dict_values (mixKind X.prog X.w) d hs0, ⟨vs, hdo⟩, ?_⟩)
  refine Calls.spliced_nil ?_
  refine call_tuple_vals (PySem.W.kdl_values (knd := mixKind X.prog X.w) (kvs := vs) (ep := ep) (d := d)) (I1.ok.hd hc) ⟨⟨_, Heap.get?_push_size _ rfl, rfl, rfl⟩, hat.push _⟩ (by omega) fun h' tk acc hk hacc => ?_
  have I3 : Inv X pins σ H1 { s1 with heap := h', toks := tk } := I2.kept (t' := tk) hk
  refine ⟨.ref h'.objs.size, upd H1 h'.objs.size (.tup (kvs.map (·.2))), I3.laid (t' := tk) (fun c o e => Heap.get?_push_of_some _ e) (Nat.le_refl _) (show ObjOk X.prog X.w _ _ _ (.tup (kvs.map (·.2))) from ⟨by rw [List.length_map]; exact hz, acc.toList, vals_kv kv hacc, ?_⟩), rfl, q _ (I3.hok.fresh (Nat.le_refl _))⟩
  rw [Array.toArray_toList]
  exact IsTup.new _ _
end NP
end

section
set_option maxHeartbeats 4000000
/-! zip(a, b, strict=True) of two sources of one length, at the library's level -/
namespace NP
open PySem PySem.Spec PyProof.Rows
open Sem (wp)
open PySem.W (kdx_alive)
abbrev IsZipS (h : Heap) (z TI TO : Addr) (f0 : Value) : Prop :=
  h.get? z = some { cls := .type "zip", dict := none, data := .fields #[f0, .bool false, .bool true, .ref TI, .ref TO], slots := #[] }
abbrev IsZipSHeld (h : Heap) (z TI TO T : Addr) (f : Bool) : Prop :=
  h.get? z = some { cls := .type "zip", dict := none, data := .fields #[rawInt T, .bool f, .bool true, .ref TI, .ref TO], slots := #[] }
section
variable {prog : Program} {w : World} {A : Around} {E : Value → Shared → Prop} {s : Shared} {z TI TO i1 i2 : Addr} {fp1 fp2 : List Addr} {n i : Nat} {P1 P2 : Nat → Value → Prop} {St1 St2 : Nat → Heap → Prop} {a1 a2 : Value}
theorem orEnd_item {it : Addr} {fp : List Addr} {P : Nat → Value → Prop} {St : Nat → Heap → Prop} {Q : Option Value → Shared → Prop} (D : Draws prog w A it fp n P St) (hi : i < n) (st : St i s.heap)
    (hQ : ∀ x h' tk, P i x → St (i + 1) h' → Heap.SameBut it s.heap h' → Q (some x) { s with heap := h', toks := tk }) : wpAny (model prog w) A (Builtin.SmallTypes.nextOrEnd (.ref it)) Q E s := by
  unfold Builtin.SmallTypes.nextOrEnd
  refine wpAny_bind (wpAny_attempt (D.item i s _ _ hi st fun x h' tk a b c => ?_))
  exact wpAny_pure (hQ x h' tk a b c)
theorem orEnd_end {it : Addr} {fp : List Addr} {P : Nat → Value → Prop} {St : Nat → Heap → Prop} {Q : Option Value → Shared → Prop} (D : Draws prog w A it fp n P St) (st : St n s.heap)
    (hQ : ∀ h', Heap.ExtBut it s.heap h' → Q none { s with heap := h' }) : wpAny (model prog w) A (Builtin.SmallTypes.nextOrEnd (.ref it)) Q E s := by
  unfold Builtin.SmallTypes.nextOrEnd
  refine wpAny_bind (wpAny_attempt (D.done s _ _ st fun h' e he hx => ?_))
  obtain ⟨o, ho, hc⟩ := hx
  refine wpAny_bind (wpAny_isInstance (T := "StopIteration") (b := true) ⟨o, ho, hc⟩ isSubtype_stop ?_)
  exact wpAny_pure (hQ _ he)
theorem stop_raise {α : Type} {Q : α → Shared → Prop} (hh : A.handled = none) (hE : ∀ h' e, (∀ b o, s.heap.get? b = some o → h'.get? b = some o) → (∃ o, h'.get? e = some o ∧ o.cls = .type "StopIteration") → E (.ref e) { s with heap := h' }) :
    wpAny (model prog w) A (Builtin.SmallTypes.stopIteration : Sem α) Q E s := by
  unfold Builtin.SmallTypes.stopIteration
  refine wpAny_bind ?_
  simp only [newExc, newTuple]
  refine wpAny_bind (wpAny_newObj_type ?_ (by size_fits))
  refine wpAny_bind (m := firstArgMember _ _) (wpAny_of_eq (a := Value.none) (by first | rfl | (simp only [firstArgMember]; rfl)) ?_)
  refine wpAny_newObj_type ?_ (by size_fits)
  simp only [raiseNew]
  refine wpAny_bind (wpAny_handled ?_)
  rw [hh]
  refine wpAny_bind (wpAny_pure (wpAny_throw ?_))
  exact hE _ _ (fun b o e => Heap.get?_push_of_some _ (Heap.get?_push_of_some _ e)) ⟨_, Heap.get?_push_size _ rfl, rfl⟩

theorem zipS_next_item {Q : Value → Shared → Prop} (S : ZipSep2 z TI TO i1 i2 fp1 fp2) (D1 : Draws prog w A i1 fp1 n P1 St1) (D2 : Draws prog w A i2 fp2 n P2 St2)
    (hz : IsZipS s.heap z TI TO .none) (hTI : IsTupOf2 s.heap TI (.ref i1) (.ref i2)) (hTO : IsTupOf2 s.heap TO a1 a2) (st1 : St1 i s.heap) (st2 : St2 i s.heap) (hlt : i < n)
    (hQ : ∀ x1 x2 h' tk, P1 i x1 → P2 i x2 → IsZipS h' z TI TO (rawInt s.heap.objs.size) → IsTupOf2 h' TO x1 x2 → St1 (i + 1) h' → St2 (i + 1) h' → IsTupOf2 h' s.heap.objs.size x1 x2 → h'.objs.size = s.heap.objs.size + 1 →
      (∀ c o, c ≠ z → c ≠ TO → c ≠ i1 → c ≠ i2 → s.heap.get? c = some o → h'.get? c = some o) → Q (.ref s.heap.objs.size) { s with heap := h', toks := tk }) :
    wpAny (model prog w) A (Builtin.«zip.__next__» ⟨[.ref z], []⟩) (fun fin s' => ∃ v, fin = .done (.ret v) ∧ Q v s') E s := by
  obtain ⟨hp, g, d, tk0, os⟩ := s
  show wpAny _ _ (field (.ref z) 2 >>= _) _ _ _
  refine wpAny_bind (wpAny_field hz rfl (x := .bool true) rfl ?_)
  show wpAny _ _ (field (.ref z) 3 >>= _) _ _ _
  refine wpAny_bind (wpAny_field hz rfl (x := .ref TI) rfl ?_)
  refine wpAny_bind (wpAny_seqItems hTI rfl ?_)
  show wpAny _ _ (Builtin.SmallTypes.ownedTupleIsFree (.ref z) >>= _) _ _ _
  refine wpAny_bind ?_
  unfold Builtin.SmallTypes.ownedTupleIsFree
  refine wpAny_bind (wpAny_field hz rfl (x := .none) rfl (wpAny_pure ?_))
  simp only [if_true]
  refine wpAny_bind (wpAny_rule ?_)
  refine wpAny_bind (wpAny_field hz rfl (x := .ref TO) rfl ?_)
  refine wpAny_bind (wpAny_setField_rec hz (by simp) fun g0 hz0 hs0 => ?_)
  replace hz0 : IsZipS g0 z TI TO .ellipsis := hz0
  replace hs0 : Heap.SameBut z hp g0 := hs0
  refine wpAny_bind ?_
  simp only [List.zipIdx_cons, List.zipIdx_nil, List.forIn_cons, List.forIn_nil]
  refine wpAny_bind (wpAny_bind (wpAny_onRaise ?_))
  show wpAny _ _ (Builtin.SmallTypes.nextOrEnd (.ref i1)) _ _ ⟨g0, g, d, tk0, os⟩
  refine orEnd_item D1 hlt (D1.over st1 hs0 S.zf1) fun x1 p1 tk1 hx1 sn1 hp1 => ?_
  replace hp1 : Heap.SameBut i1 g0 p1 := hp1
  have hU1 : IsTupOf2 p1 TO a1 a2 := hp1.extBut _ _ S.Ti1 (hs0.extBut _ _ S.TOz hTO)
  refine wpAny_bind (wpAny_seqItems (s := ⟨p1, g, d, tk1, os⟩) hU1 rfl ?_)
  refine wpAny_bind (updateSeq_IsTupOf2 (s := ⟨p1, g, d, tk1, os⟩) hU1 fun g1 hT1 hs1 => ?_)
  replace hT1 : IsTupOf2 g1 TO x1 a2 := hT1
  replace hs1 : Heap.SameBut TO p1 g1 := hs1
  refine wpAny_bind (wpAny_letGo (wpAny_pure ?_))
  refine wpAny_bind (wpAny_bind (wpAny_onRaise ?_))
  show wpAny _ _ (Builtin.SmallTypes.nextOrEnd (.ref i2)) _ _ ⟨g1, g, d, tk1, os⟩
  refine orEnd_item D2 hlt (D2.over (D2.over (D2.over st2 hs0 S.zf2) hp1 S.sep1_2) hs1 S.Tf2) fun x2 p2 tk2 hx2 sn2 hp2 => ?_
  replace hp2 : Heap.SameBut i2 g1 p2 := hp2
  have hU2 : IsTupOf2 p2 TO x1 a2 := hp2.extBut _ _ S.Ti2 hT1
  refine wpAny_bind (wpAny_seqItems (s := ⟨p2, g, d, tk2, os⟩) hU2 rfl ?_)
  refine wpAny_bind (updateSeq_IsTupOf2 (s := ⟨p2, g, d, tk2, os⟩) hU2 fun g2 hT2 hs2 => ?_)
  replace hT2 : IsTupOf2 g2 TO x1 x2 := hT2
  replace hs2 : Heap.SameBut TO p2 g2 := hs2
  refine wpAny_bind (wpAny_letGo (wpAny_pure (wpAny_pure ?_)))
  refine wpAny_bind (wpAny_seqItems (s := ⟨g2, g, d, tk2, os⟩) hT2 rfl ?_)
  refine wpAny_bind (wpAny_newTuple ?_)
  have hsz : g2.objs.size = hp.objs.size := by rw [hs2.1, hp2.1, hs1.1, hp1.1, hs0.1]
  have hzz : IsZipS g2 z TI TO .ellipsis := (hs2.extBut _ _ S.TOz.symm (hp2.extBut _ _ S.zi2 (hs1.extBut _ _ S.TOz.symm (hp1.extBut _ _ S.zi1 hz0))))
  have hkk : ∀ c o, c ≠ z → c ≠ TO → c ≠ i1 → c ≠ i2 → hp.get? c = some o → g2.get? c = some o := fun c o cz cT c1 c2 e =>
    (hs2.extBut _ _ cT (hp2.extBut _ _ c2 (hs1.extBut _ _ cT (hp1.extBut _ _ c1 (hs0.extBut _ _ cz e)))))
  have hj1 : St1 (i + 1) g2 := (D1.over (D1.over (D1.over sn1 hs1 S.Tf1) hp2 S.sep2_1) hs2 S.Tf1)
  have hj2 : St2 (i + 1) g2 := (D2.over sn2 hs2 S.Tf2)
  have hzlt : z < g2.objs.size := Heap.lt_size hzz
  show wpAny _ _ (Builtin.SmallTypes.ownedTupleHandOut (.ref z) (.ref g2.objs.size) >>= _) _ _ ⟨g2.push { cls := .type "tuple", data := .seq #[x1, x2] }, g, d, tk2, os⟩
  refine wpAny_bind ?_
  unfold Builtin.SmallTypes.ownedTupleHandOut
  have hz₆ : IsZipS (g2.push { cls := .type "tuple", data := .seq #[x1, x2] }) z TI TO .ellipsis := Heap.get?_push_of_some _ hzz
  refine wpAny_bind (wpAny_setField_rec hz₆ (by simp) fun h₇ hz₇ hs₇ => ?_)
  replace hz₇ : IsZipS h₇ z TI TO (rawInt g2.objs.size) := hz₇
  refine wpAny_setField_rec hz₇ (by simp) fun h₈ hz₈ hs₈ => ?_
  replace hz₈ : IsZipS h₈ z TI TO (rawInt g2.objs.size) := hz₈
  replace hs₇ : Heap.SameBut z (g2.push { cls := .type "tuple", data := .seq #[x1, x2] }) h₇ := hs₇
  replace hs₈ : Heap.SameBut z h₇ h₈ := hs₈
  have up : ∀ c o, c ≠ z → g2.get? c = some o → h₈.get? c = some o := fun c o c1 e => hs₈.extBut _ _ c1 (hs₇.extBut _ _ c1 (Heap.get?_push_of_some _ e))
  have hT₈ : IsTupOf2 h₈ g2.objs.size x1 x2 := hs₈.extBut _ _ (Nat.ne_of_gt hzlt) (hs₇.extBut _ _ (Nat.ne_of_gt hzlt) (Heap.get?_push_size _ rfl))
  have hz8 : h₈.objs.size = g2.objs.size + 1 := by rw [hs₈.1, hs₇.1, Heap.size_push]
  rw [hsz] at hz₈ hT₈ hz8
  refine wpAny_pure ⟨_, rfl, ?_⟩
  show Q (.ref g2.objs.size) ⟨h₈, g, d, tk2, os⟩
  rw [hsz]
  exact hQ x1 x2 h₈ tk2 hx1 hx2 hz₈ (up _ _ S.TOz hT2) (D1.frame _ _ _ hj1 fun b hb o e => up b o (fun q => S.zf1 (q ▸ hb)) e) (D2.frame _ _ _ hj2 fun b hb o e => up b o (fun q => S.zf2 (q ▸ hb)) e) hT₈ hz8 fun c o cz cT c1 c2 e => up c o cz (hkk c o cz cT c1 c2 e)

theorem zipS_next_end {Q : Fin → Shared → Prop} (hh : A.handled = none) (S : ZipSep2 z TI TO i1 i2 fp1 fp2) (D1 : Draws prog w A i1 fp1 n P1 St1) (D2 : Draws prog w A i2 fp2 n P2 St2)
    (hz : IsZipS s.heap z TI TO .none) (hTI : IsTupOf2 s.heap TI (.ref i1) (.ref i2)) (st1 : St1 n s.heap) (st2 : St2 n s.heap)
    (hE : ∀ h' tk e, (∀ c o, c ≠ z → c ≠ TO → c ≠ i1 → c ≠ i2 → s.heap.get? c = some o → h'.get? c = some o) → (∃ o, h'.get? e = some o ∧ o.cls = .type "StopIteration") → E (.ref e) { s with heap := h', toks := tk }) :
    wpAny (model prog w) A (Builtin.«zip.__next__» ⟨[.ref z], []⟩) Q E s := by
  obtain ⟨hp, g, d, tk0, os⟩ := s
  show wpAny _ _ (field (.ref z) 2 >>= _) _ _ _
  refine wpAny_bind (wpAny_field hz rfl (x := .bool true) rfl ?_)
  show wpAny _ _ (field (.ref z) 3 >>= _) _ _ _
  refine wpAny_bind (wpAny_field hz rfl (x := .ref TI) rfl ?_)
  refine wpAny_bind (wpAny_seqItems hTI rfl ?_)
  show wpAny _ _ (Builtin.SmallTypes.ownedTupleIsFree (.ref z) >>= _) _ _ _
  refine wpAny_bind ?_
  unfold Builtin.SmallTypes.ownedTupleIsFree
  refine wpAny_bind (wpAny_field hz rfl (x := .none) rfl (wpAny_pure ?_))
  simp only [if_true]
  refine wpAny_bind (wpAny_rule ?_)
  refine wpAny_bind (wpAny_field hz rfl (x := .ref TO) rfl ?_)
  refine wpAny_bind (wpAny_setField_rec hz (by simp) fun g0 hz0 hs0 => ?_)
  replace hz0 : IsZipS g0 z TI TO .ellipsis := hz0
  replace hs0 : Heap.SameBut z hp g0 := hs0
  refine wpAny_bind ?_
  simp only [List.zipIdx_cons, List.zipIdx_nil, List.forIn_cons, List.forIn_nil]
  refine wpAny_bind (wpAny_bind (wpAny_onRaise ?_))
  show wpAny _ _ (Builtin.SmallTypes.nextOrEnd (.ref i1)) _ _ ⟨g0, g, d, tk0, os⟩
  refine orEnd_end D1 (D1.over st1 hs0 S.zf1) fun q hq => ?_
  replace hq : Heap.ExtBut i1 g0 q := hq
  have hzq : IsZipS q z TI TO .ellipsis := hq _ _ S.zi1 hz0
  refine wpAny_bind (wpAny_setField_rec (s := ⟨q, g, d, tk0, os⟩) hzq (by simp) fun q' hzq' hq' => ?_)
  replace hq' : Heap.SameBut z q q' := hq'
  refine wpAny_bind ?_
  refine wpAny_bind ?_
  simp only [List.drop, List.zipIdx_cons, List.zipIdx_nil, List.forIn_cons, List.forIn_nil]
  refine wpAny_bind (wpAny_bind (orEnd_end D2 (D2.frame _ _ _ st2 fun b hb o e => hq'.extBut _ _ (fun x => S.zf2 (x ▸ hb)) (hq _ _ (fun x => S.sep1_2 (x ▸ hb)) (hs0.extBut _ _ (fun x => S.zf2 (x ▸ hb)) e))) fun h1 hk1 => ?_))
  simp only [Option.isSome_none, Bool.false_eq_true, if_false]
  refine wpAny_pure (wpAny_pure (wpAny_bind (wpAny_rule (stop_raise hh fun h' e hk2 he => ?_))))
  have hk : ∀ c o, c ≠ i2 → q'.get? c = some o → h'.get? c = some o := fun c o hc x => hk2 _ _ (hk1 _ _ hc x)
  exact hE h' tk0 e (fun c o cz cT c1 c2 x => hk _ _ c2 (hq'.extBut _ _ cz (hq _ _ c1 (hs0.extBut _ _ cz x)))) he

theorem heldS {T : Addr} {f : Bool} {oT : Obj} {Q : Bool → Shared → Prop} (hz : IsZipSHeld s.heap z TI TO T f) (hT : s.heap.get? T = some oT)
    (h : ∀ h', IsZipSHeld h' z TI TO T true → Heap.SameBut z s.heap h' → Q false { s with heap := h' }) : wpAny (model prog w) A (Builtin.SmallTypes.ownedTupleIsFree (.ref z)) Q E s := by
  unfold Builtin.SmallTypes.ownedTupleIsFree
  refine wpAny_bind (wpAny_field hz rfl (x := rawInt T) rfl ?_)
  show wpAny _ _ (loadIfAlive ((T : Int).toNat) >>= _) _ _ _
  rw [Int.toNat_natCast]
  refine wpAny_bind (kdx_alive hT ?_)
  simp only [Option.isNone_some, Bool.false_eq_true, if_false]
  refine wpAny_bind (wpAny_field hz rfl (x := .bool f) rfl ?_)
  cases f with
  | true =>
    rw [if_neg (show ¬ ((Value.bool true != Value.bool true) = true) from Bool.false_ne_true)]
    exact wpAny_pure (h s.heap hz (Heap.SameBut.refl _ _))
  | false =>
    rw [if_pos (show (Value.bool false != Value.bool true) = true from rfl)]
    exact wpAny_bind (wpAny_setField_rec hz (by simp) fun h₁ hz₁ hs₁ => wpAny_pure (h h₁ hz₁ hs₁))
theorem zipS_next_item_held {T : Addr} {f : Bool} {oT : Obj} {Q : Value → Shared → Prop} (S : ZipSep2 z TI TO i1 i2 fp1 fp2) (D1 : Draws prog w A i1 fp1 n P1 St1) (D2 : Draws prog w A i2 fp2 n P2 St2)
    (hz : IsZipSHeld s.heap z TI TO T f) (hT : s.heap.get? T = some oT) (hTI : IsTupOf2 s.heap TI (.ref i1) (.ref i2)) (st1 : St1 i s.heap) (st2 : St2 i s.heap) (hlt : i < n)
    (hQ : ∀ x1 x2 h' tk, P1 i x1 → P2 i x2 → IsZipSHeld h' z TI TO T true → St1 (i + 1) h' → St2 (i + 1) h' → IsTupOf2 h' s.heap.objs.size x1 x2 → h'.objs.size = s.heap.objs.size + 1 →
      (∀ c o, c ≠ z → c ≠ i1 → c ≠ i2 → s.heap.get? c = some o → h'.get? c = some o) → Q (.ref s.heap.objs.size) { s with heap := h', toks := tk }) :
    wpAny (model prog w) A (Builtin.«zip.__next__» ⟨[.ref z], []⟩) (fun fin s' => ∃ v, fin = .done (.ret v) ∧ Q v s') E s := by
  obtain ⟨hp, g, d, tk0, os⟩ := s
  show wpAny _ _ (field (.ref z) 2 >>= _) _ _ _
  refine wpAny_bind (wpAny_field hz rfl (x := .bool true) rfl ?_)
  show wpAny _ _ (field (.ref z) 3 >>= _) _ _ _
  refine wpAny_bind (wpAny_field hz rfl (x := .ref TI) rfl ?_)
  refine wpAny_bind (wpAny_seqItems hTI rfl ?_)
  show wpAny _ _ (Builtin.SmallTypes.ownedTupleIsFree (.ref z) >>= _) _ _ _
  refine wpAny_bind (heldS hz hT fun g0 hz0 hs0 => ?_)
  replace hs0 : Heap.SameBut z hp g0 := hs0
  simp only [Bool.false_eq_true, if_false]
  refine wpAny_bind ?_
  rw [← Array.forIn_toList]
  simp only [List.forIn_cons, List.forIn_nil]
  refine wpAny_bind (wpAny_bind (wpAny_holding ?_))
  show wpAny _ _ (Builtin.SmallTypes.nextOrEnd (.ref i1)) _ _ ⟨g0, g, d, tk0, os⟩
  refine orEnd_item D1 hlt (D1.over st1 hs0 S.zf1) fun x1 p1 tk1 hx1 sn1 hp1 => ?_
  replace hp1 : Heap.SameBut i1 g0 p1 := hp1
  refine wpAny_pure ?_
  refine wpAny_bind (wpAny_bind (wpAny_holding ?_))
  show wpAny _ _ (Builtin.SmallTypes.nextOrEnd (.ref i2)) _ _ ⟨p1, g, d, tk1, os⟩
  refine orEnd_item D2 hlt (D2.over (D2.over st2 hs0 S.zf2) hp1 S.sep1_2) fun x2 p2 tk2 hx2 sn2 hp2 => ?_
  replace hp2 : Heap.SameBut i2 p1 p2 := hp2
  refine wpAny_pure (wpAny_pure ?_)
  show wpAny _ _ (newTuple [x1, x2] >>= _) _ _ _
  refine wpAny_bind (wpAny_newTuple ?_)
  have hsz : p2.objs.size = hp.objs.size := by rw [hp2.1, hp1.1, hs0.1]
  have hzz : IsZipSHeld p2 z TI TO T true := hp2.extBut _ _ S.zi2 (hp1.extBut _ _ S.zi1 hz0)
  have hk : ∀ c o, c ≠ z → c ≠ i1 → c ≠ i2 → hp.get? c = some o → p2.get? c = some o := fun c o cz c1 c2 e => hp2.extBut _ _ c2 (hp1.extBut _ _ c1 (hs0.extBut _ _ cz e))
  have hj1 : St1 (i + 1) p2 := D1.over sn1 hp2 S.sep2_1
  refine wpAny_pure ⟨_, rfl, ?_⟩
  show Q (.ref p2.objs.size) ⟨p2.push { cls := .type "tuple", data := .seq #[x1, x2] }, g, d, tk2, os⟩
  have hT4 : IsTupOf2 (p2.push { cls := .type "tuple", data := .seq #[x1, x2] }) p2.objs.size x1 x2 := Heap.get?_push_size _ rfl
  have hz4 : (p2.push { cls := .type "tuple", data := .seq #[x1, x2] }).objs.size = p2.objs.size + 1 := Heap.size_push ..
  rw [hsz] at hT4 hz4 ⊢
  exact hQ x1 x2 _ tk2 hx1 hx2 (Heap.get?_push_of_some _ hzz) (D1.frame _ _ _ hj1 fun b hb o e => Heap.get?_push_of_some _ e) (D2.frame _ _ _ sn2 fun b hb o e => Heap.get?_push_of_some _ e) hT4 hz4 fun c o cz c1 c2 e => Heap.get?_push_of_some _ (hk c o cz c1 c2 e)
theorem zipS_next_end_held {T : Addr} {f : Bool} {oT : Obj} {Q : Fin → Shared → Prop} (hh : A.handled = none) (S : ZipSep2 z TI TO i1 i2 fp1 fp2) (D1 : Draws prog w A i1 fp1 n P1 St1) (D2 : Draws prog w A i2 fp2 n P2 St2)
    (hz : IsZipSHeld s.heap z TI TO T f) (hT : s.heap.get? T = some oT) (hTI : IsTupOf2 s.heap TI (.ref i1) (.ref i2)) (st1 : St1 n s.heap) (st2 : St2 n s.heap)
    (hE : ∀ h' tk e, (∀ c o, c ≠ z → c ≠ i1 → c ≠ i2 → s.heap.get? c = some o → h'.get? c = some o) → (∃ o, h'.get? e = some o ∧ o.cls = .type "StopIteration") → E (.ref e) { s with heap := h', toks := tk }) :
    wpAny (model prog w) A (Builtin.«zip.__next__» ⟨[.ref z], []⟩) Q E s := by
  obtain ⟨hp, g, d, tk0, os⟩ := s
  show wpAny _ _ (field (.ref z) 2 >>= _) _ _ _
  refine wpAny_bind (wpAny_field hz rfl (x := .bool true) rfl ?_)
  show wpAny _ _ (field (.ref z) 3 >>= _) _ _ _
  refine wpAny_bind (wpAny_field hz rfl (x := .ref TI) rfl ?_)
  refine wpAny_bind (wpAny_seqItems hTI rfl ?_)
  show wpAny _ _ (Builtin.SmallTypes.ownedTupleIsFree (.ref z) >>= _) _ _ _
  refine wpAny_bind (heldS hz hT fun g0 hz0 hs0 => ?_)
  replace hs0 : Heap.SameBut z hp g0 := hs0
  simp only [Bool.false_eq_true, if_false]
  refine wpAny_bind ?_
  rw [← Array.forIn_toList]
  simp only [List.forIn_cons, List.forIn_nil]
  refine wpAny_bind (wpAny_bind (wpAny_holding ?_))
  show wpAny _ _ (Builtin.SmallTypes.nextOrEnd (.ref i1)) _ _ ⟨g0, g, d, tk0, os⟩
  refine orEnd_end D1 (D1.over st1 hs0 S.zf1) fun q hq => ?_
  replace hq : Heap.ExtBut i1 g0 q := hq
  refine wpAny_bind ?_
  refine wpAny_bind ?_
  simp only [List.drop, List.zipIdx_cons, List.zipIdx_nil, List.forIn_cons, List.forIn_nil]
  refine wpAny_bind (wpAny_bind (orEnd_end D2 (D2.frame _ _ _ st2 fun b hb o e => (hq _ _ (fun x => S.sep1_2 (x ▸ hb)) (hs0.extBut _ _ (fun x => S.zf2 (x ▸ hb)) e))) fun h1 hk1 => ?_))
  simp only [Option.isSome_none, Bool.false_eq_true, if_false]
  refine wpAny_pure (wpAny_pure (wpAny_bind (wpAny_rule (stop_raise hh fun h' e hk2 he => ?_))))
  have hk : ∀ c o, c ≠ i2 → q.get? c = some o → h'.get? c = some o := fun c o hc x => hk2 _ _ (hk1 _ _ hc x)
  exact hE h' tk0 e (fun c o cz c1 c2 x => hk _ _ c2 (hq _ _ c1 (hs0.extBut _ _ cz x))) he
end
end NP
end

section
set_option maxHeartbeats 4000000
/-! dict(zip(a, b, strict=True)) -/
namespace NP
open PySem PySem.Spec PyProof.Rows
open Sem (wp)
section
variable {prog : Program} {w : World} {A : Around} {E : Value → Shared → Prop} {s : Shared} {z TI TO i1 i2 : Addr} {fp1 fp2 : List Addr} {n i : Nat} {P1 P2 : Nat → Value → Prop} {St1 St2 : Nat → Heap → Prop} {a1 a2 : Value}
theorem iter_zipS {f0 : Value} {Q : Value → Shared → Prop} (hz : IsZipS s.heap z TI TO f0) (h : Q (.ref z) s) : wpAny (model prog w) A (pyIter (.ref z)) Q E s := by
  have hT : s.TypeIs (.ref z) "zip" := ⟨_, hz, rfl⟩
  refine wpAny_pyIter_slot hT F.slot_zip_iter (wpAny_call_entry F.slot_zip_iter hT F.entry_zip_iter ?_ (F.args_zip_iter_1 _))
  show wpAny _ _ (ret (.ref z)) _ _ s
  exact wpAny_pure ⟨_, rfl, "zip", _, hT, F.slot_zip_next.lookup, h⟩
theorem pairZipS (S : ZipSep2 z TI TO i1 i2 fp1 fp2) (D1 : ∀ A : Around, A.handled = none → Draws prog w A i1 fp1 n P1 St1) (D2 : ∀ A : Around, A.handled = none → Draws prog w A i2 fp2 n P2 St2)
    (L1 : ∀ h, St1 0 h → ∀ b ∈ fp1, ∃ o, h.get? b = some o) (L2 : ∀ h, St2 0 h → ∀ b ∈ fp2, ∃ o, h.get? b = some o) (A0 : Around) (hA0 : A0.handled = none) :
    PairArg prog w "zip" z (z :: TI :: TO :: (fp1 ++ fp2)) [z, TO, i1, i2] n (fun i k v => P1 i k ∧ P2 i v)
      (fun h => IsZipS h z TI TO .none ∧ IsTupOf2 h TI (.ref i1) (.ref i2) ∧ (∃ a b, IsTupOf2 h TO a b) ∧ St1 0 h ∧ St2 0 h) where
  type := fun s ok => ⟨_, ok.1, rfl⟩
  notDict := by decide
  keep := fun h h' ok hk => by
    obtain ⟨hz, hTI, ⟨a, b, hTO⟩, h1, h2⟩ := ok
    exact ⟨hk _ _ hz, hk _ _ hTI, ⟨a, b, hk _ _ hTO⟩, (D1 A0 hA0).frame _ _ _ h1 fun b _ o e => hk b o e, (D2 A0 hA0).frame _ _ _ h2 fun b _ o e => hk b o e⟩
  there := fun h ok b hb => by
    obtain ⟨hz, hTI, ⟨a, c, hTO⟩, h1, h2⟩ := ok
    simp only [List.mem_cons, List.mem_append] at hb
    rcases hb with rfl | rfl | rfl | hb | hb
    · exact ⟨_, hz⟩
    · exact ⟨_, hTI⟩
    · exact ⟨_, hTO⟩
    · exact L1 _ h1 b hb
    · exact L2 _ h2 b hb
  sub := fun c hc => by
    have hc' : c = z ∨ c = TO ∨ c = i1 ∨ c = i2 := by simpa using hc
    rcases hc' with rfl | rfl | rfl | rfl
    · exact List.mem_cons_self ..
    · exact List.mem_cons_of_mem _ (List.mem_cons_of_mem _ (List.mem_cons_self ..))
    · exact List.mem_cons_of_mem _ (List.mem_cons_of_mem _ (List.mem_cons_of_mem _ (List.mem_append_left _ S.mem1)))
    · exact List.mem_cons_of_mem _ (List.mem_cons_of_mem _ (List.mem_cons_of_mem _ (List.mem_append_right _ S.mem2)))
  noKeys := fun A s Q E hA ok h => getAttrOr_miss_zip ok.1 rfl rfl rfl zip_no_keys (by decide +kernel) hA h
  iter := fun A s d Q E hA ok hd hdf h => by
    obtain ⟨hz, hTI, ⟨a, b, hTO⟩, h1, h2⟩ := ok
    simp only [List.mem_cons, List.mem_append, not_or] at hdf
    obtain ⟨dz, dTI, dTO, df1, df2⟩ := hdf
    have di1 : d ≠ i1 := fun e => df1 (by rw [e]; exact S.mem1)
    have di2 : d ≠ i2 := fun e => df2 (by rw [e]; exact S.mem2)
    have E1 := D1 A.in1 hA
    have E2 := D2 A.in1 hA
    refine iter_zipS hz (h z [z, TO, i1, i2] (fun i h => IsTupOf2 h TI (.ref i1) (.ref i2) ∧ St1 i h ∧ St2 i h ∧
      ((IsZipS h z TI TO .none ∧ ∃ a b, IsTupOf2 h TO a b) ∨ ∃ T f oT, IsZipSHeld h z TI TO T f ∧ h.get? T = some oT ∧ T ≠ z ∧ T ≠ i1 ∧ T ≠ i2 ∧ T ≠ d)) s.heap s.toks ?_
      ⟨hTI, h1, h2, .inl ⟨hz, a, b, hTO⟩⟩ (fun _ _ e => e) fun b hb => .inl hb)
    exact {
      off := fun hm => by
        simp only [List.mem_cons, List.not_mem_nil, or_false] at hm
        rcases hm with e | e | e | e
        · exact dz e
        · exact dTO e
        · exact di1 e
        · exact di2 e
      frame := fun i h₁ h₂ st hk => by
        obtain ⟨hTI, h1, h2, hz⟩ := st
        refine ⟨hk _ _ (Ne.symm dTI) hTI, E1.frame _ _ _ h1 fun b hb o e => hk _ o (fun x => df1 (x ▸ hb)) e, E2.frame _ _ _ h2 fun b hb o e => hk _ o (fun x => df2 (x ▸ hb)) e, ?_⟩
        rcases hz with ⟨hz, a, b, hTO⟩ | ⟨T, f, oT, hz, hT, r1, r2, r3, r4⟩
        · exact .inl ⟨hk _ _ (Ne.symm dz) hz, a, b, hk _ _ (Ne.symm dTO) hTO⟩
        · exact .inr ⟨T, f, oT, hk _ _ (Ne.symm dz) hz, hk _ _ r4 hT, r1, r2, r3, r4⟩
      item := fun i s₁ Q₁ E₁ hi st hds hQ => by
        obtain ⟨hTI, h1, h2, hz⟩ := st
        have lt : ∀ {c o}, s₁.heap.get? c = some o → s₁.heap.objs.size ≠ c := fun e => Nat.ne_of_gt (Heap.lt_size e)
        have n1 : s₁.heap.objs.size ≠ i1 := let ⟨_, e⟩ := E1.live _ _ h1; lt e
        have n2 : s₁.heap.objs.size ≠ i2 := let ⟨_, e⟩ := E2.live _ _ h2; lt e
        rcases hz with ⟨hz, a, b, hTO⟩ | ⟨T, f, oT, hz, hT, r1, r2, r3, r4⟩
        · have hTy : s₁.TypeIs (.ref z) "zip" := ⟨_, hz, rfl⟩
          unfold pyNext
          refine wpAny_bind (wpAny_attempt (wpAny_callSpecial?_slot (name := Str.ofString "__next__") hTy F.slot_zip_next (wpAny_call_entry F.slot_zip_next hTy F.entry_zip_next
            (zipS_next_item S E1 E2 hz hTI hTO h1 h2 hi fun x1 x2 h' tk p1 p2 b1 b2 d1 d2 a5 b6 hk => wpAny_pure ?_) (F.args_zip_next_1 _))))
          exact hQ s₁.heap.objs.size _ _ h' tk ⟨p1, p2⟩ (.inl ⟨_, a5, rfl, _, rfl⟩)
            ⟨hk _ _ S.TIz S.TITO S.TIi1 S.TIi2 hTI, d1, d2, .inr ⟨s₁.heap.objs.size, false, _, b1, a5, lt hz, n1, n2, Nat.ne_of_gt hds⟩⟩
            fun c o hc e => hk c o (fun x => hc (by simp [x])) (fun x => hc (by simp [x])) (fun x => hc (by simp [x])) (fun x => hc (by simp [x])) e
        · have hTy : s₁.TypeIs (.ref z) "zip" := ⟨_, hz, rfl⟩
          unfold pyNext
          refine wpAny_bind (wpAny_attempt (wpAny_callSpecial?_slot (name := Str.ofString "__next__") hTy F.slot_zip_next (wpAny_call_entry F.slot_zip_next hTy F.entry_zip_next
            (zipS_next_item_held S E1 E2 hz hT hTI h1 h2 hi fun x1 x2 h' tk p1 p2 b1 d1 d2 a5 b6 hk => wpAny_pure ?_) (F.args_zip_next_1 _))))
          exact hQ s₁.heap.objs.size _ _ h' tk ⟨p1, p2⟩ (.inl ⟨_, a5, rfl, _, rfl⟩)
            ⟨hk _ _ S.TIz S.TIi1 S.TIi2 hTI, d1, d2, .inr ⟨T, true, oT, b1, hk _ _ r1 r2 r3 hT, r1, r2, r3, r4⟩⟩
            fun c o hc e => hk c o (fun x => hc (by simp [x])) (fun x => hc (by simp [x])) (fun x => hc (by simp [x])) e
      done := fun s₁ Q₁ E₁ st hQ => by
        obtain ⟨hTI, h1, h2, hz⟩ := st
        have hTy : s₁.TypeIs (.ref z) "zip" := by
          rcases hz with ⟨hz, a, b, hTO⟩ | ⟨T, f, oT, hz, hT, r1, r2, r3, r4⟩
          · exact ⟨_, hz, rfl⟩
          · exact ⟨_, hz, rfl⟩
        unfold pyNext
        refine wpAny_bind (wpAny_attempt (wpAny_callSpecial?_slot (name := Str.ofString "__next__") hTy F.slot_zip_next (wpAny_call_entry F.slot_zip_next hTy F.entry_zip_next ?_ (F.args_zip_next_1 _))))
        rcases hz with ⟨hz, a, b, hTO⟩ | ⟨T, f, oT, hz, hT, r1, r2, r3, r4⟩
        · refine zipS_next_end hA S E1 E2 hz hTI h1 h2 fun h' tk e hk he => ?_
          obtain ⟨o, ho, hc⟩ := he
          refine wpAny_bind (wpAny_isInstance (T := "StopIteration") (b := true) ⟨o, ho, hc⟩ isSubtype_stop ?_)
          exact wpAny_pure (hQ _ tk fun c o hc e => hk c o (fun x => hc (by simp [x])) (fun x => hc (by simp [x])) (fun x => hc (by simp [x])) (fun x => hc (by simp [x])) e)
        · refine zipS_next_end_held hA S E1 E2 hz hT hTI h1 h2 fun h' tk e hk he => ?_
          obtain ⟨o, ho, hc⟩ := he
          refine wpAny_bind (wpAny_isInstance (T := "StopIteration") (b := true) ⟨o, ho, hc⟩ isSubtype_stop ?_)
          exact wpAny_pure (hQ _ tk fun c o hc e => hk c o (fun x => hc (by simp [x])) (fun x => hc (by simp [x])) (fun x => hc (by simp [x])) e) }
/-! ### zip(a, b, strict=True) begins -/
abbrev zsZ (h : Heap) (o1 o2 : Obj) : Heap := (gzO2 h o1 o2).push { cls := .type "zip", data := .fields #[.none, .bool false, .bool true, .ref ((h.push o1).push o2).objs.size, .ref (gzT2 h o1 o2).objs.size] }
theorem typeCall_zipS (a b c : Value) : checkTypeCall "zip" ⟨[a, b], [(Str.ofString "strict", c)]⟩ = pure () := by kernel_rfl
theorem newCall_zipS (a b c : Value) : checkBuiltinCall "zip.__new__" ⟨[.type "zip", a, b], [(Str.ofString "strict", c)]⟩ = pure () := by kernel_rfl
theorem args_zipS (obj a b c : Value) : argsOk "object.__init__" ⟨[obj, a, b], [(Str.ofString "strict", c)]⟩ := by unfold argsOk; kernel_rfl
theorem meets_zipS {v1 v2 : Value} {o1 o2 : Obj} {H1 H2 : Heap → Prop} (B1 : Begins v1 o1 H1) (B2 : Begins v2 o2 H2) :
    Meets (Builtin.«zip.__new__» ⟨[.type "zip", v1, v2], [(Str.ofString "strict", .bool true)]⟩) (fun _ R s => (H1 s.heap ∧ H2 s.heap) ∧
      R (.ok (.ret (.ref (gzO2 s.heap o1 o2).objs.size))) { s with heap := zsZ s.heap o1 o2 }) :=
  .of_wp fun prog w A R s h => by
    obtain ⟨hp, g, d, tk, os⟩ := s; obtain ⟨⟨h1, h2⟩, h⟩ := h
    have hsub := sub_zip
    have e2 : (Str.ofString "strict" != ("strict" : Str)) = false := by decide +kernel
    have q1 : ∀ {A' : Around} {E : Value → Shared → Prop} {Q : Value → Shared → Prop}, Q (.ref hp.objs.size) ⟨(hp.push o1), g, d, tk, os⟩ → wpAny (model prog w) A' (pyIter v1) Q E ⟨hp, g, d, tk, os⟩ :=
      fun q => B1.iter prog w _ _ ⟨hp, g, d, tk, os⟩ _ (B1.keeps _ _ h1 fun b o' e => e) q
    have q2 : ∀ {A' : Around} {E : Value → Shared → Prop} {Q : Value → Shared → Prop}, Q (.ref (hp.push o1).objs.size) ⟨((hp.push o1).push o2), g, d, tk, os⟩ → wpAny (model prog w) A' (pyIter v2) Q E ⟨(hp.push o1), g, d, tk, os⟩ :=
      fun q => B2.iter prog w _ _ ⟨(hp.push o1), g, d, tk, os⟩ _ (B2.keeps _ _ h2 fun b o' e => (Heap.get?_push_of_some _ e)) q
    wp_walk using q1, q2
    exact ⟨_, rfl, h⟩
theorem begins_zipS {v1 v2 : Value} {o1 o2 : Obj} {H1 H2 : Heap → Prop} {Q : Value → Shared → Prop} (B1 : Begins v1 o1 H1) (B2 : Begins v2 o2 H2) (h1 : H1 s.heap) (h2 : H2 s.heap)
    (h : ∀ h', IsZipS h' (s.heap.objs.size + 4) (s.heap.objs.size + 2) (s.heap.objs.size + 3) .none → IsTupOf2 h' (s.heap.objs.size + 2) (.ref s.heap.objs.size) (.ref (s.heap.objs.size + 1)) →
      IsTupOf2 h' (s.heap.objs.size + 3) .none .none → h'.get? s.heap.objs.size = some o1 → h'.get? (s.heap.objs.size + 1) = some o2 → h'.objs.size = s.heap.objs.size + 5 →
      (∀ c o, s.heap.get? c = some o → h'.get? c = some o) → Q (.ref (s.heap.objs.size + 4)) { s with heap := h' }) :
    wpAny (model prog w) A (call (.type "zip") [v1, v2] [(Str.ofString "strict", .bool true)]) Q E s := by
  refine callType_newKw F.called_zip (by decide) (typeCall_zipS _ _ _) (newCall_zipS _ _ _) (fun obj => args_zipS obj _ _ _) F.entry_zip_new
    (meets_zipS B1 B2) ⟨⟨h1, h2⟩, ?_⟩
  have z1 : (s.heap.push o1).objs.size = s.heap.objs.size + 1 := by rw [Heap.size_push]
  have z2 : ((s.heap.push o1).push o2).objs.size = s.heap.objs.size + 2 := by rw [Heap.size_push, z1]
  have zT : (gzT2 s.heap o1 o2).objs.size = s.heap.objs.size + 3 := by rw [Heap.size_push, z2]
  have zO : (gzO2 s.heap o1 o2).objs.size = s.heap.objs.size + 4 := by rw [Heap.size_push, zT]
  have zZ : (zsZ s.heap o1 o2).objs.size = s.heap.objs.size + 5 := by rw [Heap.size_push, zO]
  have gZ : (zsZ s.heap o1 o2).get? (gzO2 s.heap o1 o2).objs.size = some { cls := .type "zip", data := .fields #[.none, .bool false, .bool true, .ref ((s.heap.push o1).push o2).objs.size, .ref (gzT2 s.heap o1 o2).objs.size] } := Heap.get?_push_size _ rfl
  have gO : (zsZ s.heap o1 o2).get? (gzT2 s.heap o1 o2).objs.size = some { cls := .type "tuple", data := .seq #[.none, .none] } := Heap.get?_push_of_some _ (Heap.get?_push_size _ rfl)
  have gT : (zsZ s.heap o1 o2).get? ((s.heap.push o1).push o2).objs.size = some { cls := .type "tuple", data := .seq #[.ref s.heap.objs.size, .ref (s.heap.push o1).objs.size] } := Heap.get?_push_of_some _ (Heap.get?_push_of_some _ (Heap.get?_push_size _ rfl))
  have g1 : (zsZ s.heap o1 o2).get? s.heap.objs.size = some o1 := Heap.get?_push_of_some _ (Heap.get?_push_of_some _ (Heap.get?_push_of_some _ (Heap.get?_push_of_some _ (Heap.get?_push_size _ B1.free))))
  have g2 : (zsZ s.heap o1 o2).get? (s.heap.push o1).objs.size = some o2 := Heap.get?_push_of_some _ (Heap.get?_push_of_some _ (Heap.get?_push_of_some _ (Heap.get?_push_size _ B2.free)))
  rw [zO, zT, z2] at gZ
  rw [zT] at gO
  rw [z2, z1] at gT
  rw [z1] at g2
  show _ ∧ _
  rw [zO]
  exact ⟨⟨_, gZ, rfl⟩, h _ gZ gT gO g1 g2 zZ fun c o e => Heap.get?_push_of_some _ (Heap.get?_push_of_some _ (Heap.get?_push_of_some _ (Heap.get?_push_of_some _ (Heap.get?_push_of_some _ e))))⟩
end
end NP
end

section
set_option maxHeartbeats 4000000
namespace NP
open PySem PySem.Spec PyProof.Rows
section
variable {M : Model} {A : Around} {E : Value → Shared → Prop} {s : Shared} {env : Env}
theorem callWith_typeK {pos : Pos} {id : String} {first : List Value} {args : List (Bool × Sem Value)} {keywords : List (Option Str × Sem Value)} {Q : Value → Shared → Prop}
    (hplain : args.any (·.1) = false) (hkw : keywords.any (·.1.isNone) = false)
    (h : wpAny M A (evalArgs (.type id) true args keywords) (fun a s₁ => wpAny M A (call (.type id) (first ++ a.pos) a.kw) Q E s₁) E s) :
    wpAny M A (callWith pos (.type id) first args keywords) Q E s := by
  unfold callWith
  refine wpAny_bind (wpAny_holding (wpAny_mono h (fun a s₁ h₁ => wpAny_bind (wpAny_standAt ?_)) fun _ _ x => x))
  simp only [hplain, hkw, Bool.or_false]
  refine wpAny_bind (wpAny_pure ?_)
  exact wpAny_bind (wpAny_mono h₁ (fun r s₂ hr => wpAny_bind (wpAny_holding (wpAny_point (wpAny_pure hr)))) fun _ _ x => x)
theorem callWith_typeK1 {pos : Pos} {id : String} {e : Expr} {rest : List Expr} {kws : List Keyword} {Q : Value → Shared → Prop}
    (h : wpAny M A (spliced (backTo pos (starEach (e :: rest) env))) (fun vs s₁ => wpAny M A (evalAll ((backToKw pos (keywordEach kws env)).map (·.2)))
      (fun kvs s₂ => wpAny M A (call (.type id) vs (((backToKw pos (keywordEach kws env)).filterMap (·.1)).zip kvs)) Q E s₂) E s₁) E s)
    (he : backTo pos (starEach (e :: rest) env) = (false, eval e env) :: backTo pos (starEach rest env) := by rfl)
    (hplain : (backTo pos (starEach (e :: rest) env)).any (·.1) = false := by rfl)
    (hall : (backToKw pos (keywordEach kws env)).all (·.1.isSome) = true := by rfl)
    (hkw : (backToKw pos (keywordEach kws env)).any (·.1.isNone) = false := by rfl) :
    wpAny M A (callWith pos (.type id) [] (backTo pos (starEach (e :: rest) env)) (backToKw pos (keywordEach kws env))) Q E s := by
  refine callWith_typeK hplain hkw ?_
  rw [he] at h ⊢
  exact evalArgs_kwB hall h
end
open L2
section
variable {X : Cx}
theorem src_of {pins : List (Addr × Obj)} {σ : L2.St} {H : Hp} {s : Shared} {a : Addr} {ys : List V} (I : Inv X pins σ H s) (h : SqT X.K H a ys ∨ SqL X.K H a ys) :
    ∃ (us : List Value) (o : Obj) (Hs : Heap → Prop) (mk : Addr → Nat → Heap → Prop), Vals ys us ∧ us.length ≤ sizeLine ∧ Begins (.ref a) o Hs ∧ Hs s.heap ∧ a < s.heap.objs.size ∧
      ∀ it, it ≠ a → (∀ A : Around, A.handled = none → Draws X.prog X.w A it [it, a] us.length (fun i v => us[i]? = some v) (mk it)) ∧ (∀ h, h.get? it = some o → Hs h → mk it 0 h) ∧ (∀ h, mk it 0 h → ∀ b ∈ [it, a], ∃ o, h.get? b = some o) := by
  rcases h with h | h
  · obtain ⟨its, rv, p, hz⟩ := I.tuple h
    have hlt : a < s.heap.objs.size := by obtain ⟨o, e, _⟩ := p; exact Heap.lt_size e
    refine ⟨its, _, _, fun it i h => h.IsTupleIter it a i ∧ h.IsTuple a its.toArray, rv, by rw [← rv.length]; exact hz, begins_tuple a its.toArray, p, hlt, fun it hne => ⟨fun A hA => ?_, fun h e hs => ⟨⟨_, e, rfl, rfl⟩, hs⟩, fun h st b hb => ?_⟩⟩
    · simpa using (Draws.tuple (prog := X.prog) (w := X.w) hA it a (Ne.symm hne) its.toArray)
    · obtain ⟨⟨o, e, _⟩, ⟨o2, e2, _⟩⟩ := st
      have hb' : b = it ∨ b = a := by simpa using hb
      rcases hb' with rfl | rfl
      · exact ⟨_, e⟩
      · exact ⟨_, e2⟩
  · obtain ⟨its, rv, p, hz⟩ := I.list h
    have hlt : a < s.heap.objs.size := by obtain ⟨o, n, e, _⟩ := p; exact Heap.lt_size e
    refine ⟨its, _, _, fun it i h => h.IsListIter it a i ∧ h.IsList a its.toArray, rv, by rw [← rv.length]; exact hz, begins_list a its.toArray, p.isList, hlt, fun it hne => ⟨fun A hA => ?_, fun h e hs => ⟨⟨_, e, rfl, rfl⟩, hs⟩, fun h st b hb => ?_⟩⟩
    · simpa using (Draws.list (prog := X.prog) (w := X.w) hA it a (Ne.symm hne) its.toArray)
    · obtain ⟨⟨o, e, _⟩, ⟨o2, e2, _⟩⟩ := st
      have hb' : b = it ∨ b = a := by simpa using hb
      rcases hb' with rfl | rfl
      · exact ⟨_, e⟩
      · exact ⟨_, e2⟩
/-- dict(zip(xs, ys, strict=True)), xs distinct texts, as many as ys -/
def tDictZip (K : PySem.W.Frag) (ta tk : TA) : TE := fun σ H Q => ta σ H fun vs H1 => tk σ H1 fun zs H2 => ∃ (a b : Addr) (xs : List Str) (ys : List V), vs = [.ref a, .ref b] ∧ zs = [.bl true] ∧ (SqT K H2 a (xs.map V.str) ∨ SqL K H2 a (xs.map V.str)) ∧ (SqT K H2 b ys ∨ SqL K H2 b ys) ∧
  xs.length = ys.length ∧ xs.Nodup ∧ ∀ d, H2 d = none → Q (.ref d) (upd H2 d (.dK ((xs.map Sum.inr).zip ys)))
theorem kv_zip : ∀ {xs : List Str} {us : List Value} {ys : List V} {ws : List Value}, Vals (xs.map V.str) us → Vals ys ws → KV ((xs.map (Sum.inr : Str → Key)).zip ys) ((xs.map (Sum.inr : Str → Key)).zip ws)
  | [], _, ys, ws, _, _ => by simp; exact .nil
  | x :: xs, _, [], _, _, .nil => by simp; exact .nil
  | x :: xs, _, y :: ys, _, .cons r1 t1, .cons r2 t2 => by
    simp only [List.map_cons, List.zip_cons_cons]
    exact .cons ⟨rfl, r2⟩ (kv_zip t1 t2)
theorem nodup_inr : ∀ {xs : List Str}, xs.Nodup → (xs.map (Sum.inr : Str → Key)).Nodup
  | [], _ => by simp
  | x :: xs, h => by
    rw [List.nodup_cons] at h
    rw [List.map_cons, List.nodup_cons]
    refine ⟨fun hm => ?_, nodup_inr h.2⟩
    obtain ⟨y, hy, e⟩ := List.mem_map.mp hm
    cases e
    exact h.1 hy
theorem pe_dictZip {e1 e2 : Expr} {kws : List Keyword} {ta tk : TA} {p p2 pos pos2 : Pos} (hcalm : X.calm = true) (ha : PA X [e1, e2] ta) (hk : PK X kws tk) (hg : Gl X "dict") (hm : X.mg "dict" = none) (hg2 : Gl X "zip") (hm2 : X.mg "zip" = none)
    (hs : starEach [.Call (.Name "zip" p2) [e1, e2] kws pos2] X.env = (false, eval (.Call (.Name "zip" p2) [e1, e2] kws pos2) X.env) :: starEach [] X.env := by rfl)
    (he : backTo pos2 (starEach (e1 :: [e2]) X.env) = (false, eval e1 X.env) :: backTo pos2 (starEach [e2] X.env) := by rfl)
    (hplain : (backTo pos2 (starEach (e1 :: [e2]) X.env)).any (·.1) = false := by rfl)
    (hall : (backToKw pos2 (keywordEach kws X.env)).all (·.1.isSome) = true := by rfl)
    (hkw : (backToKw pos2 (keywordEach kws X.env)).any (·.1.isNone) = false := by rfl)
    (hks : (backToKw pos2 (keywordEach kws X.env)).filterMap (·.1) = [Str.ofString "strict"] := by rfl) :
    PE X (.Call (.Name "dict" p) [.Call (.Name "zip" p2) [e1, e2] kws pos2] [] pos) (tDictZip X.K ta tk) := by
  refine ⟨fun pins s σ H Q I hq => ?_⟩
  refine wpAny_Call_Name_kw (ld_blt I hg hm PyProof.Rows.boot_dict ?_)
  refine PyProof.Rows.callWith_type1 ?_ hs rfl
  rw [hs]
  show wpAny _ _ (spliced ((false, eval (.Call (.Name "zip" p2) [e1, e2] kws pos2) X.env) :: backTo pos (starEach [] X.env))) _ _ s
  refine Calls.spliced_cons ?_
  refine wpAny_Call_Name_kw (ld_blt I hg2 hm2 PyProof.Rows.boot_zip ?_)
  refine callWith_typeK1 (thn (ha.run pos2 pins s σ H _ I hq) fun us s1 ⟨vs, H1, I1, r1, q1⟩ => thn (hk.run pos2 pins s1 σ H1 _ I1 q1) fun ws s2 ⟨zs, H2, I2, r2, q2⟩ => ?_) he hplain hall hkw
  rw [hks]
  obtain ⟨a, b, xs, ys, e1', e2', sa, sb, hlen, hnd, q⟩ := q2
  subst e1' e2'
  obtain ⟨u1, u2, rfl, k1, k2⟩ := vals2 r1
  obtain rfl : u1 = Value.ref a := k1
  obtain rfl : u2 = Value.ref b := k2
  obtain ⟨w1, rfl, k3⟩ := vals1 r2
  obtain rfl : w1 = Value.bool true := k3
  obtain ⟨ka, oa, Ha, mka, va, la, Ba, ha0, lta, hita⟩ := src_of I2 sa
  obtain ⟨kb, ob, Hb, mkb, vb, lb, Bb, hb0, ltb, hitb⟩ := src_of I2 sb
  have hl1 := va.length
  have hl2 := vb.length
  rw [List.length_map] at hl1
  refine begins_zipS Ba Bb ha0 hb0 fun h' hz hTI hTO hi1 hi2 hsz hkp => ?_
  refine Calls.spliced_nil ?_
  obtain ⟨Da, ia, ea⟩ := hita s2.heap.objs.size (Nat.ne_of_gt lta)
  obtain ⟨Db, ib, eb⟩ := hitb (s2.heap.objs.size + 1) (Nat.ne_of_gt (Nat.lt_succ_of_lt ltb))
  have eN : kb.length = ka.length := by omega
  rw [eN] at Db
  have S := zip_sep2 (N := s2.heap.objs.size) (fp1 := [a]) (fp2 := [b]) (by simpa using lta) (by simpa using ltb)
  have hh := I2.ok.hd hcalm
  have P := pairZipS (prog := X.prog) (w := X.w) S Da Db ea eb X.A hh
  have hkv : KV ((xs.map (Sum.inr : Str → Key)).zip ys) ((xs.map (Sum.inr : Str → Key)).zip kb) := kv_zip va vb
  have hndz : (((xs.map (Sum.inr : Str → Key)).zip kb).map (·.1)).Nodup := by
    rw [List.map_fst_zip (by rw [List.length_map]; omega)]
    exact nodup_inr hnd
  refine PySem.call_dict_pairs (s := { s2 with heap := h' }) (knd := mixKind X.prog X.w) (kvs := (xs.map Sum.inr).zip kb) P hh ⟨hz, hTI, ⟨_, _, hTO⟩, ia _ hi1 (Ba.keeps _ _ ha0 hkp), ib _ hi2 (Bb.keeps _ _ hb0 hkp)⟩ ⟨by rw [List.length_zip, List.length_map]; omega, fun i key v hr => ?_⟩ la fun h2 tk hd hk => ?_
  · obtain ⟨h1, h2⟩ := hr
    have hi : i < xs.length := by have := (List.getElem?_eq_some_iff.mp h1).1; omega
    refine ⟨Sum.inr xs[i], ?_, ?_⟩
    · rw [List.getElem?_zip_eq_some]
      exact ⟨by simp [hi], h2⟩
    · obtain ⟨u, hu, ru⟩ := va.get (i := i) (x := V.str xs[i]) (by simp [hi])
      rw [h1] at hu
      cases hu
      obtain ⟨t, rfl⟩ := ru
      exact mixKind_str X.prog X.w _ t
  · rw [merged_nil_of_nodup _ hndz] at hd
    have hm : (h'.objs.size == sysModules) = false := by
      refine beq_eq_false_iff_ne.mpr (Nat.ne_of_gt ?_)
      rw [hsz]
      exact Nat.lt_of_lt_of_le I2.big (Nat.le_add_right _ _)
    have hk2 : ∀ c o, s2.heap.get? c = some o → h2.get? c = some o := fun c o e => by
      have hlt := Heap.lt_size e
      refine hk c o ?_ (hkp _ _ e)
      simp only [List.mem_cons, List.not_mem_nil, or_false, not_or]
      exact ⟨Nat.ne_of_lt (Nat.lt_of_lt_of_le hlt (Nat.le_add_right _ _)), Nat.ne_of_lt (Nat.lt_of_lt_of_le hlt (Nat.le_add_right _ _)), Nat.ne_of_lt hlt, Nat.ne_of_lt (Nat.lt_of_lt_of_le hlt (Nat.le_add_right _ _))⟩
    refine ⟨.ref h'.objs.size, upd H2 h'.objs.size (.dK ((xs.map Sum.inr).zip ys)), I2.laid (t' := tk) hk2 (by omega) (show ObjOk X.prog X.w _ _ _ (.dK ((xs.map Sum.inr).zip ys)) from ⟨by rw [List.length_zip, List.length_map]; omega, hm, _, hkv, hd⟩), rfl, q _ (I2.hok.fresh (by omega))⟩
end
end NP
end

section
set_option maxHeartbeats 4000000
/-! sorted(xs, key=f): f's calls keep an invariant of one's own -/
namespace NP
open PySem PySem.Spec PyProof.Rows PySem.W PySem.Calls
section
variable {prog : Program} {w : World} {A : Around} {E : Value → Shared → Prop} {s : Shared} {a kS : Addr} {vs : List Value} {e1 : Nat} {P : PySem.Fin → Shared → Prop} {kz : List PyData}
/-- a heap as it is without the object at a -/
def hwipe (h : Heap) (a : Addr) : Heap := h.update a fun _ => { cls := .none, data := .freed }
theorem hwipe_ne {h : Heap} {a b : Addr} (hb : b ≠ a) : (hwipe h a).get? b = h.get? b := Heap.get?_update_ne _ _ _ _ hb
theorem hwipe_at {h : Heap} {a : Addr} : (hwipe h a).get? a = none := by
  unfold hwipe Heap.update Heap.get?
  obtain ⟨objs, l⟩ := h
  by_cases q : a < objs.size
  · have e : (objs.modify a fun _ => ({ cls := .none, data := .freed } : Obj))[a]? = some { cls := .none, data := .freed } := by
      rw [Array.getElem?_modify]
      simp [q]
    show (match (objs.modify a fun _ => ({ cls := .none, data := .freed } : Obj))[a]? with
      | some ⟨_, _, .freed, _⟩ => none
      | o => o) = none
    rw [e]
  · have e : (objs.modify a fun _ => ({ cls := .none, data := .freed } : Obj))[a]? = none := by
      rw [Array.getElem?_modify]
      simp [q]
    show (match (objs.modify a fun _ => ({ cls := .none, data := .freed } : Obj))[a]? with
      | some ⟨_, _, .freed, _⟩ => none
      | o => o) = none
    rw [e]
/-- the loop over the items: J j ks s: j keys are made, they are ks -/
structure KeyRun (prog : Program) (w : World) (A : Around) (f : Value) (a kS : Addr) (e1 : Nat) (vs : List Value) (kz : List PyData) (J : Nat → Array Value → Shared → Prop) : Prop where
  hS : ∀ j ks s, J j ks s → ∃ e, s.heap.get? kS = some (seqObj "list" ks e)
  hA : ∀ j ks s, J j ks s → s.heap.get? a = some (seqObj "list" #[] e1)
  len : ∀ j ks s, J j ks s → ks.size = j
  step : ∀ j x ks s, vs[j]? = some x → J j ks s → wpAny (model prog w) A (call f [x]) (fun v s' => (∃ e, s'.heap.get? kS = some (seqObj "list" ks e)) ∧
    ∀ h' e, Heap.SameBut kS s'.heap h' → h'.get? kS = some (seqObj "list" (ks.push v) e) → J (j + 1) (ks.push v) { s' with heap := h' }) (fun _ _ => False) s
  keys : ∀ ks s, J vs.length ks s → EachIs (fun v k => ∃ as, Reads s.heap v k as) ks.toList kz
theorem KeyRun.rest {f : Value} {J : Nat → Array Value → Shared → Prop} (R : KeyRun prog w A f a kS e1 vs kz J) (h0 : J 0 #[] s) (hka : kS ≠ a)
    (hlen : kz.length = vs.length) (hZ : vs.length ≤ sizeLine) (hal : AllAlike kz) (hsk : Sortable kz) (hu : ∀ d, d ∈ kz → A.units + d.depth < cLine)
    (h : ∀ s' ks h' tk out c, J vs.length ks s' → (∀ b o, b ≠ a → b ≠ kS → s'.heap.get? b = some o → h'.get? b = some o) → h'.get? a = some (seqObj "list" (List.toArray out) c) → KeyedOut false kz vs out → P (.done (.ret .none)) { s' with heap := h', toks := tk }) :
    wpAny (model prog w) A (ksk_rest a f false vs.toArray e1 (.ref kS)) P E s := by
  unfold ksk_rest
  refine wpAny_bind (wpAny_rule ?_)
  rw [← Array.forIn_toList]
  refine wpAny_bind (ksk_fold (fun i s' => ∃ ks, J i ks s') vs 0 s ⟨#[], h0⟩ ?step ?done)
  case step =>
    rintro j x s' hx ⟨ks, hJ⟩
    simp only [Nat.zero_add] at hJ ⊢
    have hj : j < vs.length := (List.getElem?_eq_some_iff.mp hx).1
    have hn := R.len _ _ _ hJ
    refine wpAny_bind (wpAny_attempt (wpAny_mono (R.step j x ks s' hx hJ) (fun v s'' he => ?_) fun _ _ hF => hF.elim))
    obtain ⟨⟨e, hk⟩, hn'⟩ := he
    obtain ⟨c2, hc2⟩ : ∃ c2, (s''.heap.update kS (Obj.mapSeq (·.push v))).get? kS = some (seqObj "list" (ks.push v) c2) := ⟨_, get?_update_seq hk (·.push v)⟩
    refine wpAny_bind (listUpdate_at hk rfl ?_ (by omega) (by rw [Array.size_push]; omega))
    exact wpAny_pure ⟨rfl, _, hn' _ c2 (Heap.SameBut.update s''.heap kS _) hc2⟩
  case done =>
    rintro s' ⟨ks, hJ⟩
    rw [Nat.zero_add] at hJ
    obtain ⟨e, hk⟩ := R.hS _ _ _ hJ
    have hkeys := R.keys _ _ hJ
    refine wpAny_bind (listItems_at hk rfl ?_)
    refine keyH_end (κ := dataKind s'.heap kz) (h₁ := hwipe s'.heap kS) (fun b o _ q => ?_) hwipe_at hk (R.hA _ _ _ hJ) hka (SortsAt.data hkeys hal hsk hu) (R.len _ _ _ hJ) hZ fun h3 tk3 c k3 n3 =>
      h s' ks h3 tk3 _ c hJ (fun b o hb hb2 q => k3 b o hb (by rw [hwipe_ne hb2]; exact q)) n3 ⟨s'.heap, ks.toList, hal, rfl, hkeys⟩
    by_cases hb : b = kS
    · rw [hb, hwipe_at] at q
      cases q
    · rw [hwipe_ne hb] at q
      exact q
end
section
variable {prog : Program} {w : World} {A : Around} {E : Value → Shared → Prop} {s : Shared} {vs : List Value} {kz : List PyData}
/-- sorted(xs, key=f), xs a list or a tuple -/
theorem sorted_keyJ {l : Addr} {T : String} {o : Obj} {n : Nat} {f : Value} {kw : List (Str × Value)} {Q : Value → Shared → Prop} (hT : T = "list" ∨ T = "tuple") (ho : s.heap.get? l = some o) (hc : o.cls = .type T) (hd : o.data = .seq vs.toArray n)
    (hlen : kz.length = vs.length) (hZ : vs.length ≤ sizeLine) (hal : AllAlike kz) (hsk : Sortable kz) (hu : ∀ d, d ∈ kz → A.units + 2 + d.depth < cLine) (ha1 : argsOk "sorted" ⟨[.ref l], kw⟩) (ha2 : ∀ x, argsOk "list.sort" ⟨[.ref x], kw⟩) (ht : ∀ x, Builtin.«list.sort» ⟨[.ref x], kw⟩ = ksk_tree x f false)
    (run : ∀ g : Heap, (∀ b o, s.heap.get? b = some o → g.get? b = some o) → ∀ a kS e1 h', a ≠ kS → g.objs.size ≤ a → g.objs.size ≤ kS → (∀ b o, g.get? b = some o → h'.get? b = some o) → h'.get? kS = some (seqObj "list" #[] 0) → h'.get? a = some (seqObj "list" #[] e1) → ∃ J, KeyRun prog w A.in1.in1 f a kS e1 vs kz J ∧ J 0 #[] { s with heap := h' } ∧
      ∀ s' ks h' tk out c, J vs.length ks s' → (∀ b o, b ≠ a → b ≠ kS → s'.heap.get? b = some o → h'.get? b = some o) → h'.get? a = some (seqObj "list" (List.toArray out) c) → KeyedOut false kz vs out → Q (.ref a) { s' with heap := h', toks := tk }) :
    wpAny (model prog w) A (call (.builtin "sorted") [.ref l] kw) Q E s := by
  refine call_function_entry_kw kind_sorted plain_sorted entry_sorted ha1 ?_
  unfold Builtin.«sorted»
  refine wpAny_bind (m := checkCount "sorted" 1 1 _) (wpAny_pure ?_)
  refine wpAny_bind (wpAny_collect_seq l hT ho hc hd (fun g hg => ?_) (by rw [List.size_toArray]; exact hZ))
  rw [List.toList_toArray]
  refine wpAny_bind (wpAny_newList ?_ hZ)
  have hold : ∀ b o, g.get? b = some o → (g.push (seqObj "list" vs.toArray 0)).get? b = some o := fun b o q => Heap.get?_push_of_some _ q
  have ha : (g.push (seqObj "list" vs.toArray 0)).get? g.objs.size = some (seqObj "list" vs.toArray 0) := Heap.get?_push_size _ rfl
  refine wpAny_bind (wpAny_holding (wpAny_call_entry_kw slot_list_sort ⟨_, ha, rfl⟩ entry_list_sort ?body (ha2 _)))
  rw [ht]
  generalize hG : g.push (seqObj "list" vs.toArray 0) = G at ha hold
  have hGz : G.objs.size = g.objs.size + 1 := by rw [← hG, size_push']
  obtain ⟨e1, ho1⟩ : ∃ e1, (G.update g.objs.size (Obj.mapSeq fun _ => (#[] : Array Value))).get? g.objs.size = some (seqObj "list" #[] e1) := ⟨_, get?_update_seq ha fun _ => #[]⟩
  have hkS : ((G.update g.objs.size (Obj.mapSeq fun _ => (#[] : Array Value))).push (seqObj "tuple" vs.toArray 0)).objs.size = g.objs.size + 2 := by rw [size_push', Heap.size_update, hGz]
  unfold ksk_tree
  refine wpAny_bind (listItems_at ha rfl ?_)
  refine wpAny_bind (listUpdate_at ha rfl ?_ (by rw [List.size_toArray]; exact hZ) (Nat.zero_le _))
  refine wpAny_bind (seqEpoch_at ho1 rfl ?_)
  refine wpAny_bind (wpAny_newTuple ?_ (by show vs.length ≤ _; exact hZ))
  refine wpAny_bind (wpAny_newList ?_ (Nat.zero_le _))
  refine wpAny_holding ?_
  have hne : g.objs.size ≠ ((G.update g.objs.size (Obj.mapSeq fun _ => (#[] : Array Value))).push (seqObj "tuple" vs.toArray 0)).objs.size := by rw [hkS]; exact Nat.ne_of_lt (Nat.lt_add_of_pos_right (by decide))
  obtain ⟨J, R, j0, hq⟩ := run g hg g.objs.size ((G.update g.objs.size (Obj.mapSeq fun _ => (#[] : Array Value))).push (seqObj "tuple" vs.toArray 0)).objs.size e1 _ hne (Nat.le_refl _)
    (by rw [hkS]; exact Nat.le_add_right _ _) (fun b o q => Heap.get?_push_of_some _ (Heap.get?_push_of_some _ ((Heap.get?_update_ne _ _ _ _ (Nat.ne_of_lt (Heap.lt_size q))).trans (hold b o q)))) (Heap.get?_push_size _ rfl)
    (Heap.get?_push_of_some _ (Heap.get?_push_of_some _ ho1))
  refine R.rest j0 (Ne.symm hne) hlen hZ hal hsk hu fun s' ks h' tk out c hJ hk hO ko => ⟨.none, rfl, ?_⟩
  exact wpAny_pure ⟨_, rfl, hq s' ks h' tk out c hJ hk hO ko⟩
end
end NP
end

section
set_option maxHeartbeats 4000000
/-! a lambda of one parameter, called by sorted(.., key=lambda ..) -/
namespace NP
open PySem PySem.Spec PyProof.Rows L2 LamX
/-- one parameter p, no other name of its own -/
structure LamP (sc scope : Scope) (p : Str) : Prop where
  kind : scope.kind = .function
  co : scope.isCoroutine = false
  gen : scope.isGenerator = false
  own : ∀ y ∈ scope.names, (y.2 = .local → y.1 = p) ∧ y.2 ≠ .cell
  par : scope.names.lookup p = some .local
  free : ∀ y ∈ scope.names, y.2 = .free → sc.names.lookup y.1 = some .cell ∨ sc.names.lookup y.1 = some .free
def lamPB (sc scope : Scope) (p : Str) : Bool :=
  decide (scope.kind = .function) && !scope.isCoroutine && !scope.isGenerator && (scope.names.all fun y => (!decide (y.2 = .local) || decide (y.1 = p)) && !decide (y.2 = .cell) && (!decide (y.2 = .free) || decide (sc.names.lookup y.1 = some .cell) || decide (sc.names.lookup y.1 = some .free))) && decide (scope.names.lookup p = some .local)
theorem lamP_by {sc scope : Scope} {p : Str} (h : lamPB sc scope p = true) : LamP sc scope p := by
  unfold lamPB at h
  simp only [Bool.and_eq_true, Bool.or_eq_true, Bool.not_eq_true', decide_eq_true_eq, decide_eq_false_iff_not, List.all_eq_true] at h
  obtain ⟨⟨⟨⟨h1, h2⟩, h3⟩, h4⟩, h5⟩ := h
  refine ⟨h1, h2, h3, fun y hy => ⟨fun e => ?_, (h4 y hy).1.2⟩, h5, fun y hy e => ?_⟩
  · rcases (h4 y hy).1.1 with z | z
    · exact absurd e z
    · exact z
  · rcases (h4 y hy).2 with (z | z) | z
    · exact absurd e z
    · exact .inl z
    · exact .inr z
theorem LamP.has {X : Cx} {scope : Scope} {p : Str} (L : LamP X.env.scope scope p) (ok : X.Ok) : ∀ y ∈ scope.names, y.2 = .free → ∃ c, X.env.cells.lookup y.1 = some c := fun y hy e => by
  rcases L.free y hy e with k | k
  · exact ok.has _ (.inl k)
  · exact ok.has _ (.inr k)
/-- the context of the body -/
def lamCxP (X : Cx) (A : Around) (s : Shared) (H : Hp) (p : Str) (scope : Scope) (f c' : Addr) : Cx where
  prog := X.prog
  w := X.w
  K := X.K
  mg := X.mg
  base := X.base
  A := A.deeper (lamEnv X scope s.heap.objs.size f c')
  N := p :: X.N
  s_0 := s
  H_0 := H
  env := lamEnv X scope s.heap.objs.size f c'
  outer := X.stack
  stack := lamEnv X scope s.heap.objs.size f c' :: X.stack
  ex := []
  fn := fun _ => false
  calm := true
  pn := []
  xe := fun _ _ => False
section
variable {X : Cx} {pins : List (Addr × Obj)} {σ : L2.St} {H : Hp} {s : Shared}
theorem lam_startP {A : Around} {scope : Scope} {p : Str} {f c' : Addr} {h₁ : Heap} {tk : Nat} {x : V} {u : Value} (I : Inv X pins σ H s) (L : LamP X.env.scope scope p) (hfr : A.frames = some X.stack) (hd : A.handled = none) (hp : p ∉ X.N) (rx : RelV x u)
    (hns : h₁.Ns s.heap.objs.size fun y => [(p, u)].reverse.lookup y) (kp : ∀ b o, s.heap.get? b = some o → h₁.get? b = some o) :
    Inv (lamCxP X A s H p scope f c') [] (some x :: σ) H { s with heap := h₁, toks := tk } := by
  have hfree := L.has I.ok
  have e0 := I.env0
  have cm : ∀ {y c}, (cloFrom X.env.cells scope.names []).lookup y = some c → X.env.cells.lookup y = some c := fun {y c} e => by
    rcases cloFrom_mem (PySem.mem_of_lookup e) with hm | ⟨h1, h2⟩
    · cases hm
    · obtain ⟨c1, hc⟩ := hfree _ h1 rfl
      have hc : X.env.cells.lookup y = some c1 := hc
      have e2 : c = c1 := by
        rw [h2, hc] <;> rfl
      rw [e2]
      exact hc
  have look : ∀ {y}, scope.names.lookup y = some .free → ∃ c, (cloFrom X.env.cells scope.names []).lookup y = some c := fun {y} hl => by
    have hy : (y, NameKind.free) ∈ scope.names := PySem.mem_of_lookup hl
    exact mem_lookup (cloFrom_has (cells := X.env.cells) (acc := []) hy)
  have cellK : ∀ {c : Addr} {v : Option Value}, s.heap.IsCell c v → h₁.IsCell c v := fun {c v} ⟨o, ho, hd⟩ => ⟨_, kp _ _ ho, hd⟩
  have noA : ∀ b : Addr, b ∉ (lamCxP X A s H p scope f c').ex := fun b z => absurd (show b ∈ ([] : List Addr) from z) (by simp)
  refine ⟨⟨e0.mod, L.kind, rfl, rfl, Nat.le_refl _, fun y z c e1 e2 => I.ok.inj y z c (cm e1) (cm e2), fun y hy => ?_, fun y c z _ => ?_, fun _ => hd, Around.frames_deeper hfr, .inr ⟨rfl, rfl⟩, fun b z => absurd z (noA b), e0.bs, e0.bsz, fun b _ _ => noA b,
      fun b z => absurd z (noA b), e0.funs, e0.frf⟩,
    rfl, e0.bare, Un.kept kp, ⟨_, hns, fun i y v e1 e2 e3 => ?_⟩, fun y c e => ?_, e0.hok.fresh (Nat.le_refl _), fun y c e => ?_, fun q hq => absurd (show q ∈ ([] : List (Addr × Obj)) ++ [] from hq) (by simp), e0.hok.kept kp, ?_⟩
  · have hy : scope.names.lookup y = some .cell ∨ scope.names.lookup y = some .free := hy
    rcases hy with hy | hy
    · exact absurd rfl (L.own _ (PySem.mem_of_lookup hy)).2
    · exact look hy
  · have z : false = true := z
    cases z
  · have e3 : Vis scope y := e3
    cases i with
    | zero =>
      have ey : p = y := Option.some.inj e1
      have ev : x = v := by
        have := Option.some.inj e2
        exact Option.some.inj this
      subst ey ev
      exact ⟨u, rx, .inl ⟨L.par, by simp [List.lookup]⟩⟩
    | succ i =>
      have e1 : X.N[i]? = some y := by
        have e1 : (p :: X.N)[i + 1]? = some y := e1
        simpa using e1
      have e2 : σ[i]? = some (some v) := by simpa using e2
      have hne : y ≠ p := fun z => hp (z ▸ List.mem_of_getElem? e1)
      rcases e3 with k | k | k
      · exact absurd ((L.own _ (PySem.mem_of_lookup k)).1 rfl) hne
      · exact absurd rfl (L.own _ (PySem.mem_of_lookup k)).2
      · obtain ⟨m, hn, hl⟩ := I.loc
        have hvis : Vis X.env.scope y := (L.free _ (PySem.mem_of_lookup k) rfl).elim (fun k => .inr (.inl k)) (fun k => .inr (.inr k))
        obtain ⟨w', r, q⟩ := hl i y v e1 e2 hvis
        obtain ⟨c2, h2⟩ := look k
        refine ⟨w', r, .inr ⟨.inr k, c2, h2, ?_⟩⟩
        have c1 := cm h2
        rcases q with ⟨k', _⟩ | ⟨_, c3, e', z⟩
        · have k' : X.env.scope.names.lookup y = some .local := k'
          rcases L.free _ (PySem.mem_of_lookup k) rfl with k2 | k2 <;> rw [show X.env.scope.names.lookup y = _ from k2] at k' <;> cases k'
        · rw [c1] at e'
          cases e'
          exact cellK z
  · obtain ⟨w', z⟩ := I.cell y c (cm e)
    exact ⟨w', cellK z⟩
  · exact I.freeC y c (cm e)
  · show (some x :: σ).length = (p :: X.N).length
    rw [List.length_cons, List.length_cons, I.len]
/-- the lambda called -/
theorem lam_callP {A : Around} {params : Arguments} {body : Expr} {scope : Scope} {p : Str} {f c' : Addr} {pm ctv : Value} {x : V} {u : Value} {tb : TE} {Q : VK} {E : XK} (I : Inv X pins σ H s) (L : LamP X.env.scope scope p) (hfr : A.frames = some X.stack) (hd : A.handled = none) (hdep : A.depth < recursionLimit) (hp : p ∉ X.N) (rx : RelV x u)
    (hf : s.heap.get? f = some (PySem.W.kla_obj "<lambda>" (X.env.qual ++ "<lambda>") params body scope (cloFrom X.env.cells scope.names []) pm c' ctv)) (hc : H c' = some (CodeO c' (X.env.qual ++ "<lambda>")))
    (hbind : bindArgs (PySem.W.kla_fn "<lambda>" (X.env.qual ++ "<lambda>") params body scope (cloFrom X.env.cells scope.names []) pm (.ref c') ctv) ⟨[u], []⟩ = pure [(p, u)])
    (hbody : PE (lamCxP X A s H p scope f c') body tb) (ht : tb (some x :: σ) H Q) :
    codeAny (model X.prog X.w) A (.call (.ref f) ⟨[u], []⟩) (CR L2.CX0 X.stack X.prog X.w H s Q E) s := by
  obtain ⟨⟨oc, vs, t, hoc, hdc, hvc⟩, _, _⟩ := I.hok c' _ hc
  refine PySem.W.kla_callFunE hdep hf rfl L.co L.gen rfl ⟨c', oc, vs, t, rfl, hoc, hdc, hvc⟩ ?_
  rw [hbind]
  refine wpAny_pure (wpAny_newFunctionEnv (fun y hy => (L.own y hy).2) (fun y hy => ?_) (fun h₁ hns hsb => ⟨I.nolimit.fresh _ hsb, ?_⟩) L.kind)
  · have e : y = (p, u) := by simpa using hy
    rw [e]
    exact L.par
  show codeAny _ _ (.expr body (lamEnv X scope s.heap.objs.size f c')) _ _
  have kp : ∀ b o, s.heap.get? b = some o → h₁.get? b = some o := fun b o e => hsb.extBut b o (Nat.ne_of_lt (Heap.lt_size e)) (Heap.get?_push_of_some _ e)
  have J : Inv (lamCxP X A s H p scope f c') [] (some x :: σ) H { s with heap := h₁, toks := s.toks + [(p, u)].length } := lam_startP I L hfr hd hp rx hns kp
  refine PySem.W.kla_codeExpr (wpAny_mono (hbody.run [] _ _ H Q J ht) (fun v s' hq => ?_) fun e s' hq => hq.elim)
  obtain ⟨w', H', J', rv, q⟩ := hq
  exact ⟨w', H', J'.os, J'.bare, J'.base, J'.hok, rv, q⟩

theorem SqL_extN {K : PySem.W.Frag} {H H' : Hp} {a : Addr} {xs : List V} (h : SqL K H a xs) (e : ExtN H H') : SqL K H' a xs := by
  rcases h with h | h
  · refine .inl ?_
    rcases h with h | ⟨o, h⟩
    · exact .inl (e _ _ h (fun ps z => nomatch z))
    · exact .inr ⟨o, e _ _ h (fun ps z => nomatch z)⟩
  · exact .inr h
theorem SqT_extN {K : PySem.W.Frag} {H H' : Hp} {a : Addr} {xs : List V} (h : SqT K H a xs) (e : ExtN H H') : SqT K H' a xs := by
  rcases h with h | h
  · refine .inl ?_
    rcases h with h | ⟨o, h⟩
    · exact .inl (e _ _ h (fun ps z => nomatch z))
    · exact .inr ⟨o, e _ _ h (fun ps z => nomatch z)⟩
  · exact .inr h
mutual
theorem Dp_ext {K : PySem.W.Frag} {H H' : Hp} (e : Ext H H') : ∀ (d : PyData) (v : V), Dp K H v d → Dp K H' v d
  | .none, _, h => by cases h; exact .non
  | .bool b, _, h => by cases h; exact .bl b
  | .int i, _, h => by cases h; exact .int i
  | .str x, _, h => by cases h; exact .str x
  | .list ds, _, h => by
    cases h with
    | lst h1 h2 => exact .lst (SqL_extN h1 (ExtN.of e)) (DpAll_ext e ds _ h2)
  | .tuple ds, _, h => by
    cases h with
    | tup h1 h2 => exact .tup (SqT_extN h1 (ExtN.of e)) (DpAll_ext e ds _ h2)
  | .dict _, _, h => by cases h
theorem DpAll_ext {K : PySem.W.Frag} {H H' : Hp} (e : Ext H H') : ∀ (ds : List PyData) (vs : List V), DpAll K H vs ds → DpAll K H' vs ds
  | [], _, h => by cases h; exact .nil
  | d :: ds, _, h => by
    cases h with
    | cons h1 h2 => exact .cons (Dp_ext e d _ h1) (DpAll_ext e ds _ h2)
end
end
end NP
end

section
set_option maxHeartbeats 4000000
namespace NP
open PySem PySem.Spec PyProof.Rows L2 LamX
open PySem.W (EachIs KeyedOut AllAlike Sortable dataLe)
/-- sorted(e, key=lambda p: body): some arrangement of e's items; body gives each item's key and keeps all -/
def tSortedLam (K : PySem.W.Frag) (T : List (Addr × Str)) (te tb : TE) : TE := fun σ H Q => te σ H fun v H1 => Tabs T H1 ∧ ∃ (a : Addr) (ys : List V), v = .ref a ∧ (SqT K H1 a ys ∨ SqL K H1 a ys) ∧ ∃ kd : V → PyData,
  AllAlike (ys.map kd) ∧ Sortable (ys.map kd) ∧ (∀ y ∈ ys, (kd y).depth ≤ 20) ∧ (∀ y ∈ ys, ∀ H3, ExtN H1 H3 → tb (some y :: σ) H3 fun kv H4 => Ext H3 H4 ∧ Dp K H4 kv (kd y)) ∧
  ∀ q H3, ExtN H1 H3 → Tabs T H3 → H3 q = none → Q (.ref q) (upd H3 q (.lst (ys.mergeSort (dataLe false kd))))
section
variable {X : Cx} {pins : List (Addr × Obj)} {σ : L2.St}
theorem each_vals : ∀ {vs : List V} {us : List Value}, Vals vs us → EachIs (fun u v => RelV v u) us vs
  | _, _, .nil => .nil
  | _, _, .cons r t => .cons r (each_vals t)
theorem vals_each : ∀ {vs : List V} {us : List Value}, EachIs (fun u v => RelV v u) us vs → Vals vs us
  | _, _, .nil => .nil
  | _, _, .cons r t => .cons r (vals_each t)
theorem each_push {α β : Type} {R : α → β → Prop} : ∀ {us : List α} {vs : List β} {u : α} {v : β}, EachIs R us vs → R u v → EachIs R (us ++ [u]) (vs ++ [v])
  | _, _, _, _, .nil, h => .cons h .nil
  | _, _, _, _, .cons r t, h => .cons r (each_push t h)
theorem each_imp {α β : Type} {R R' : α → β → Prop} (f : ∀ a b, R a b → R' a b) : ∀ {us : List α} {vs : List β}, EachIs R us vs → EachIs R' us vs
  | _, _, .nil => .nil
  | _, _, .cons r t => .cons (f _ _ r) (each_imp f t)
/-- what is held while the keys are made -/
def KeyJ (X : Cx) (pins : List (Addr × Obj)) (σ : L2.St) (H2 : Hp) (f : Addr) (fo : Obj) (a kS : Addr) (e1 : Nat) (kz : List PyData) (j : Nat) (ks : Array Value) (s : Shared) : Prop :=
  ks.size = j ∧ ∃ H' e, Inv X pins σ H' s ∧ Ext H2 H' ∧ s.heap.get? kS = some (seqObj "list" ks e) ∧ s.heap.get? a = some (seqObj "list" #[] e1) ∧ FpOk X pins H' kS ∧ FpOk X pins H' a ∧
    s.heap.get? f = some fo ∧ H' f = none ∧ EachIs (fun u k => ∃ kv, RelV kv u ∧ Dp X.K H' kv k) ks.toList (kz.take j)
theorem fpOk_nfr {H H' : Hp} {s : Shared} {b : Addr} (I : Inv X pins σ H s) (h : FpOk X pins H' b) : b ∉ frs X.stack := fun z => by
  rcases List.mem_cons.mp (I.stkSub b z) with e | e
  · exact h.2.1 e
  · exact h.2.2.1 e
theorem keyRun {H2 : Hp} {f c' a kS : Addr} {e1 : Nat} {params : Arguments} {body : Expr} {scope : Scope} {p : Str} {pm ctv : Value} {ys : List V} {its : List Value} {kd : V → PyData} {tb : TE} {k : Nat} (hka : a ≠ kS) (hr : Room (k + 3) X.A) (L : LamP X.env.scope scope p) (hp : p ∉ X.N) (hfr : f ∉ frs X.stack) (hfa : f ≠ kS) (hc : H2 c' = some (CodeO c' (X.env.qual ++ "<lambda>")))
    (hframes : X.A.frames = some X.stack)
    (hbind : ∀ u, bindArgs (PySem.W.kla_fn "<lambda>" (X.env.qual ++ "<lambda>") params body scope (cloFrom X.env.cells scope.names []) pm (.ref c') ctv) ⟨[u], []⟩ = pure [(p, u)])
    (hbody : ∀ (s : Shared) (H : Hp), Room k (X.A.in1.in1.deeper (lamEnv X scope s.heap.objs.size f c')) → PE (lamCxP X X.A.in1.in1 s H p scope f c') body tb)
    (rv : Vals ys its) (ht : ∀ y ∈ ys, ∀ H3, Ext H2 H3 → tb (some y :: σ) H3 fun kv H4 => Ext H3 H4 ∧ Dp X.K H4 kv (kd y)) :
    KeyRun X.prog X.w X.A.in1.in1 (.ref f) a kS e1 its (ys.map kd) (KeyJ X pins σ H2 f (PySem.W.kla_obj "<lambda>" (X.env.qual ++ "<lambda>") params body scope (cloFrom X.env.cells scope.names []) pm c' ctv) a kS e1 (ys.map kd)) where
  hS := fun j ks s h => let ⟨_, _, e, _, _, h1, _⟩ := h; ⟨e, h1⟩
  hA := fun j ks s h => let ⟨_, _, _, _, _, _, h1, _⟩ := h; h1
  len := fun j ks s h => h.1
  keys := fun ks s h => by
    obtain ⟨hn, H', e, I, hE, hS, hA, fS, fA, hf, hfn, hk⟩ := h
    have hl := rv.length
    rw [List.take_of_length_le (by rw [List.length_map]; omega)] at hk
    exact each_imp (fun u d ⟨kv, r, hd⟩ => Dp.reads I d kv u hd r) hk
  step := fun j x ks s hx h => by
    obtain ⟨hn, H', e, I, hE, hS, hA, fS, fA, hf, hfn, hk⟩ := h
    have hl := rv.length
    have hj : j < its.length := (List.getElem?_eq_some_iff.mp hx).1
    have hj2 : j < ys.length := by omega
    obtain ⟨u, hu, ru⟩ := rv.get (i := j) (x := ys[j]) (by simp [hj2])
    rw [hx] at hu
    cases hu
    have hm : ys[j] ∈ ys := List.getElem_mem hj2
    have hr2 : Room (k + 1) X.A.in1.in1 := Room.in1 (Room.in1 hr)
    have rc := lam_callP (A := X.A.in1.in1) (E := E0) (pm := pm) (ctv := ctv) I L (show X.A.in1.in1.frames = some X.stack from hframes) hr2.hd hr2.depth hp ru hf (hE _ _ hc) (hbind x) (hbody s H' (hr2.deeper _)) (ht _ hm H' hE)
    refine wpAny_call (codeAny_mono rc fun r s' hq => ?_)
    cases r with
    | error e => exact (show False from hq).elim
    | ok fl =>
      cases fl with
      | ret u =>
        have hq : CE X.stack X.prog X.w H' s _ u s' := hq
        obtain ⟨kv, H4, os, bare, un, hok, rk, hE4, hD⟩ := id hq
        have hS' := un.keep _ _ hS fS.1 (fpOk_nfr I fS) (by simp)
        have hA' := un.keep _ _ hA fA.1 (fpOk_nfr I fA) (by simp)
        have hf' := un.keep _ _ hf hfn hfr (by simp)
        have nS := un.free _ _ hS fS.1 (by simp)
        have nA := un.free _ _ hA fA.1 (by simp)
        have nf := un.free _ _ hf hfn (by simp)
        obtain ⟨v2, H5, I5, rv5, q5⟩ := I.after (Q := fun v H => v = kv ∧ H = H4) (u := u) (s' := s') ⟨kv, H4, os, bare, un, hok, rk, rfl, rfl⟩
        obtain ⟨rfl, rfl⟩ := q5
        have fS5 : FpOk X pins H5 kS := ⟨nS, fS.2⟩
        have fA5 : FpOk X pins H5 a := ⟨nA, fA.2⟩
        refine ⟨⟨e, hS'⟩, fun h' e' hsb hS'' => ⟨by rw [Array.size_push, hn], H5, e', ?_, hE.trans hE4, hS'', (hsb.2 a hka).trans hA', fS5, fA5, (hsb.2 f hfa).trans hf', nf, ?_⟩⟩
        · exact I5.turned (t' := s'.toks) (fun b o hb q => (hsb.2 b hb).trans q) fS5.1 fS5.2.1 fS5.2.2.2.1 fS5.2.2.2.2.1 fS5.2.2.2.2.2
        · have ej : (ys.map kd).take (j + 1) = (ys.map kd).take j ++ [kd ys[j]] := by
            rw [List.take_add_one]
            simp [hj2]
          rw [ej]
          have e2 : (ks.push u).toList = ks.toList ++ [u] := by simp
          rw [e2]
          exact each_push (each_imp (fun u d ⟨kv, r, hd⟩ => ⟨kv, r, Dp_ext hE4 d kv hd⟩) hk) ⟨v2, rv5, hD⟩
      | next => exact (show False from hq).elim
      | brk => exact (show False from hq).elim
      | cont => exact (show False from hq).elim
/-- sorted(e, key=lambda p: body) -/
theorem pe_sortedLam {e : Expr} {te tb : TE} {T : List (Addr × Str)} {c P : Addr} {params : Arguments} {body : Expr} {scope : Scope} {p : Str} {k : Nat} {p0 pos lpos kpos : Pos} (he : PE X e te) (hg : Gl X "sorted") (hm : X.mg "sorted" = none) (TB : TabB X.base X.mg c P) (hcode : X.env.code = .ref c)
    (hmT : (P, X.env.qual ++ "<lambda>") ∈ T) (hu : ∀ q ∈ T, q.1 = P → q.2 = X.env.qual ++ "<lambda>") (L : LamP X.env.scope scope p) (hdef : defaultsOf params X.env = ([], []))
    (hbind : ∀ (q : Str) (cl : List (Str × Addr)) (pm cv ctv u : Value), bindArgs (PySem.W.kla_fn "<lambda>" q params body scope cl pm cv ctv) ⟨[u], []⟩ = pure [(p, u)]) (hp : p ∉ X.N) (hr : Room (k + 3) X.A)
    (hbody : ∀ (s : Shared) (H : Hp) (f c' : Addr), Room k (X.A.in1.in1.deeper (lamEnv X scope s.heap.objs.size f c')) → PE (lamCxP X X.A.in1.in1 s H p scope f c') body tb)
    (hes : backTo pos (starEach [e] X.env) = (false, eval e X.env) :: backTo pos (starEach [] X.env) := by rfl) (hpl : (backTo pos (starEach [e] X.env)).any (·.1) = false := by rfl)
    (hall : (backToKw pos (keywordEach [⟨some "key", .Lambda params body scope lpos, kpos⟩] X.env)).all (·.1.isSome) = true := by rfl) (hnone : (backToKw pos (keywordEach [⟨some "key", .Lambda params body scope lpos, kpos⟩] X.env)).any (·.1.isNone) = false := by rfl)
    (hks : (backToKw pos (keywordEach [⟨some "key", .Lambda params body scope lpos, kpos⟩] X.env)).filterMap (·.1) = [Str.ofString "key"] := by rfl) :
    PE X (.Call (.Name "sorted" p0) [e] [⟨some "key", .Lambda params body scope lpos, kpos⟩] pos) (tSortedLam X.K T te tb) := by
  refine ⟨fun pins s σ H Q I h => ?_⟩
  refine wpAny_Call_Name_kw (ld_blt I hg hm boot_sorted ?_)
  refine PyProof.Rows.callWith_kw ?_ hes hpl hall hnone
  rw [hes]
  refine Calls.spliced_cons (thn (he.run pins s σ H _ I h) fun u s1 ⟨v, H1, I1, r1, q1⟩ => Calls.spliced_nil ?_)
  obtain ⟨hT1, a, ys, rfl, hsq, kd, hal, hsk, hdep, ht, hq⟩ := q1
  obtain rfl : u = Value.ref a := r1
  show wpAny _ _ (evalAll [do let v ← eval (.Lambda params body scope lpos) X.env; standAt pos; pure v]) _ _ s1
  refine wpAny_evalAll_cons (wpAny_bind (lam_make2 I1 TB hcode hmT hu hT1 hdef (L.has I1.ok) fun f c' pm ctv H2 s2 I2 eN T2 hf hfn hfr hco => ?_))
  refine wpAny_bind (wpAny_standAt (wpAny_pure (wpAny_evalAll_nil ?_)))
  rw [hks]
  show wpAny _ _ (call (.builtin "sorted") [.ref a] [(Str.ofString "key", .ref f)]) _ _ s2
  have src : ∃ (Ty : String) (o : Obj) (its : List Value) (n : Nat), (Ty = "list" ∨ Ty = "tuple") ∧ s2.heap.get? a = some o ∧ o.cls = .type Ty ∧ o.data = .seq its.toArray n ∧ Vals ys its ∧ its.length ≤ sizeLine := by
    rcases hsq with z | z
    · obtain ⟨its, rv, ⟨o, ho, hc, n, hd⟩, hz⟩ := I2.tuple (SqT_extN z eN)
      exact ⟨"tuple", o, its, n, .inr rfl, ho, hc, hd, rv, by rw [← rv.length]; exact hz⟩
    · obtain ⟨its, rv, ⟨o, n, ho, hc, _, hd⟩, hz⟩ := I2.list (SqL_extN z eN)
      exact ⟨"list", o, its, n, .inl rfl, ho, hc, hd, rv, by rw [← rv.length]; exact hz⟩
  obtain ⟨Ty, o, its, n, hTy, ho, hc, hd, rv, hz⟩ := src
  have hl := rv.length
  have hun := hr.un
  refine sorted_keyJ (kz := ys.map kd) hTy ho hc hd (by rw [List.length_map]; exact hl) hz hal hsk (fun d hd => ?_) (PyProof.Rows.ksk_s1 _ _) (fun _ => PyProof.Rows.ksk_l1 _ _) (fun _ => PyProof.Rows.ksk_t1 _ _) fun g hg a1 kS e1 h' hne ha hkS hk hS hA => ?_
  · obtain ⟨y, hy, rfl⟩ := List.mem_map.mp hd
    have := hdep y hy
    omega
  · have I3 : Inv X pins σ H2 { s2 with heap := g } := I2.kept (t' := s2.toks) hg
    have I4 : Inv X pins σ H2 { s2 with heap := h' } := I3.kept (t' := s2.toks) hk
    have nS : H2 kS = none := I3.hok.fresh hkS
    have nA : H2 a1 = none := I3.hok.fresh ha
    have hf' : h'.get? f = some _ := hk _ _ (hg _ _ hf)
    refine ⟨_, keyRun (k := k) (pins := pins) (σ := σ) (H2 := H2) (c' := c') hne hr L hp hfr (fun z => ?_) hco I2.ok.frames (fun u => hbind _ _ _ _ _ u) (fun s H hr' => hbody s H f c' hr') rv (fun y hy H3 e3 => ht y hy H3 (eN.trans (ExtN.of e3))), ⟨rfl, H2, 0, I4, Ext.rfl', hS, hA, I3.fpOk hkS nS, I3.fpOk ha nA, hf', hfn, .nil⟩, fun s' ks h'' tk out c2 hJ hk2 hO ko => ?_⟩
    · rw [z] at hf
      exact absurd (Nat.lt_of_lt_of_le (Heap.lt_size (hg _ _ hf)) hkS) (Nat.lt_irrefl _)
    · obtain ⟨_, H', e, I', hE, _, _, fS, fA, _, _, _⟩ := hJ
      have hO2 := PySem.W.keyedOut_each (R := fun u v => RelV v u) kd ko (each_vals rv)
      have hv := vals_each hO2
      have hperm : (ys.mergeSort (dataLe false kd)).Perm ys := List.mergeSort_perm _ _
      have hlen : (ys.mergeSort (dataLe false kd)).length ≤ sizeLine := by rw [hperm.length_eq, hl]; exact hz
      have nH : H' a1 = none := fA.1
      refine ⟨.ref a1, upd H' a1 (.lst (ys.mergeSort (dataLe false kd))), ?_, rfl, hq a1 H' (eN.trans (ExtN.of hE)) (T2.ext hE) nH⟩
      refine I'.step (g' := s'.gens) (d' := s'.drawn) (ch := [a1, kS]) (fun b hb => ?_) (fun b o _ _ hc e _ => hk2 b o (fun z => hc (by simp [z])) (fun z => hc (by simp [z])) e) (fun b o _ _ hc e _ => ⟨o.slots, hk2 b o (fun z => hc (by simp [z])) (fun z => hc (by simp [z])) e⟩)
        (fun b o hc e n => by rw [upd_ne (fun z => hc (by simp [z]))]; exact n) (fun b o hc e => ⟨o, hk2 b o (fun z => hc (by simp [z])) (fun z => hc (by simp [z])) e⟩) (fun b xs e => by rw [upd_ne (ne_of_none e nH)]; exact e) (fun b o u e => by rw [upd_ne (ne_of_none e nH)]; exact e)
        (fun b ps e => ⟨#[], by rw [upd_ne (ne_of_none e nH), e]; simp⟩) (fun m hm => ?_) (fun b u e => ?_) I'.bare
      · have hb' : b = a1 ∨ b = kS := by simpa using hb
        rcases hb' with rfl | rfl
        · exact ⟨fA.2.2.2.1, fA.2.1, fA.2.2.2.2.1, fA.2.2.2.2.2⟩
        · exact ⟨fS.2.2.2.1, fS.2.1, fS.2.2.2.2.1, fS.2.2.2.2.2⟩
      · obtain ⟨o, es, ep, ho, r⟩ := hm
        exact ⟨o, es, ep, hk2 _ o (fun z => fA.2.1 z.symm) (fun z => fS.2.1 z.symm) ho, r⟩
      · by_cases hb : b = a1
        · subst hb
          rw [upd_same] at e
          cases e
          exact ⟨hlen, out, c2, hv, hO⟩
        · rw [upd_ne hb] at e
          refine (I'.hok b u e).stay (fun c v hc q => hk2 c v ?_ ?_ q) (fun c q => by rw [upd_ne (ne_of_none q nH)]; exact q) fun c xs q => by rw [upd_ne (ne_of_none q nH)]; exact q
          · rcases hc with z | z
            · rw [z]; exact hb
            · exact ne_of_none z nH
          · rcases hc with z | z
            · rw [z]; exact ne_of_none e fS.1
            · exact ne_of_none z fS.1
end
end NP
end

section
set_option maxHeartbeats 4000000
namespace NP
open PySem PySem.Spec PyProof.Rows L2
open PySem.W (EachIs AllAlike Sortable dataLe)
section
variable {X : Cx}
/-- x in t, t a tuple of data -/
def rInDT (K : PySem.W.Frag) : R2 := fun x y H Q => ∃ d ds, Dp K H x d ∧ Dp K H y (.tuple ds) ∧ SeqAt.shaped d = true ∧ SeqAt.shaped (.tuple ds) = true ∧ Q (.bl (ds.any fun z => PyData.eqv z d)) H
theorem op_inDT (hu : X.A.units + 65 < cLine) : OpR X (compareOp .In) (rInDT X.K) := by
  intro pins s σ H x y v u Q I rx ry h
  obtain ⟨d, ds, hd, he, sd, se, q⟩ := h
  obtain ⟨as, r1⟩ := Dp.reads I d x v hd rx
  obtain ⟨bs, r2⟩ := Dp.reads I (.tuple ds) y u he ry
  exact SeqAt.in_tuple_reads r2 r1 (SeqAt.canLay_of_shaped se) (SeqAt.canLay_of_shaped sd) (room_in_shaped sd hu) ⟨.bl _, H, I, rfl, q⟩
/-- repr of True, False -/
theorem call_repr_bool : CallR X (.builtin "repr") (fun xs H Q => ∃ b, xs = [.bl b] ∧ Q (.str (if b then "True" else "False")) H) := by
  intro pins s σ H xs us Q I r q
  obtain ⟨b, rfl, q⟩ := q
  obtain ⟨u, rfl, rx⟩ := vals1 r
  obtain rfl : u = Value.bool b := rx
  exact PySem.P.repr_of_bool ⟨.str _, H, I.tok _, ⟨_, rfl⟩, q⟩
/-- sorted(xs), xs alike data: some arrangement -/
def rSortedD (K : PySem.W.Frag) : List V → Hp → VK → Prop := fun vs H Q => ∃ (a : Addr) (xs : List V) (kd : V → PyData), vs = [V.ref a] ∧ SqL K H a xs ∧ (∀ x ∈ xs, Dp K H x (kd x)) ∧ AllAlike (xs.map kd) ∧ Sortable (xs.map kd) ∧ (∀ x ∈ xs, (kd x).depth ≤ 20) ∧
  ∀ (ys : List V) (p : Addr), ys.Perm xs → H p = none → Q (.ref p) (upd H p (.lst ys))
theorem each_reads {pins : List (Addr × Obj)} {σ : L2.St} {H : Hp} {s : Shared} {kd : V → PyData} (I : Inv X pins σ H s) : ∀ {vs : List V} {us : List Value}, Vals vs us → (∀ x ∈ vs, Dp X.K H x (kd x)) → EachIs (fun u v => ∃ as, Reads s.heap u (kd v) as) us vs
  | _, _, .nil, _ => .nil
  | _, _, .cons r t, h => .cons (Dp.reads I _ _ _ (h _ List.mem_cons_self) r) (each_reads I t fun x hx => h x (List.mem_cons_of_mem _ hx))
theorem cr_sortedD (hr : X.A.units + 64 < cLine) : CallR X (.builtin "sorted") (rSortedD X.K) := by
  intro pins s σ H vs us Q I r h
  obtain ⟨a, xs, kd, rfl, hq, hd, hal, hsk, hdep, q⟩ := h
  obtain rfl := Vals.ref1 r
  obtain ⟨its, rv, hl, hz⟩ := I.list hq
  refine PySem.W.sorted_data (enc := kd) (R := fun u v => RelV v u) hl.isList (each_vals rv) (each_reads I rv hd) hal hsk hz (fun b hb => ?_) fun out hlo ho => ?_
  · have := hdep b hb
    omega
  · obtain ⟨ep, he'⟩ := PyProof.Rows.sortedAll_at s.heap its out.toArray
    have hperm : (xs.mergeSort (dataLe false kd)).Perm xs := List.mergeSort_perm _ _
    have hlen : (xs.mergeSort (dataLe false kd)).length ≤ sizeLine := by rw [hperm.length_eq]; exact hz
    exact ⟨.ref _, upd H (s.heap.objs.size + 1) (.lst (xs.mergeSort (dataLe false kd))), I.laid (t' := s.toks) (fun _ _ => PyProof.Rows.sortedAll_old) (Nat.le_succ _) ⟨hlen, out, ep, vals_each ho, he'⟩, rfl, q _ _ hperm (I.hok.fresh (Nat.le_succ _))⟩
/-- a def as what an instance's call wants -/
theorem fnR_ok {P : Program} {w : World} {K : PySem.W.Frag} {mg : Str → Option Value} {base : Heap} {CX : CXT} {k : Nat} {f : Addr} {fd : FuncData} {ps : List Str} {sp : Sp} (F : FnOk P w K mg base CX k f fd ps sp) (hb : Binds K fd ps []) :
    L2.FnR P w K mg base CX k f sp := by
  intro A outer s H us vs Q E hr e0 r h
  have hl := F.len _ _ _ _ h
  have KX : K.In s.heap := e0.mod.kin.keeps fun b o e => (e0.bs b o e).1
  exact F.run A outer s H ⟨us, []⟩ us vs Q E hr e0 (by have := hb s us KX (by rw [List.append_nil, ← r.length]; exact hl); simpa using this) r h
end
end NP
end

section
set_option maxHeartbeats 4000000
/-! the text's defs, their scopes, what is known of them behind the top -/
namespace NP
open PySem PySem.Spec PyProof.Rows L2
def topS (i : Nat) : Stmt := PySem.Challenge.pw_needpegs_k62_whole_seen_and_back.main.body.getD i (.Pass ⟨0, 0, 0, 0⟩)
def clsBody : Stmt → List Stmt
  | .ClassDef (body := b) .. => b
  | _ => []
def mthS (i j : Nat) : Stmt := (clsBody (topS i)).getD j (.Pass ⟨0, 0, 0, 0⟩)
abbrev s_is_integer : Stmt := (topS 18)
abbrev N_is_integer : List Str := ["value"]
theorem sc_is_integer : FnScope N_is_integer ["value"] (defScope s_is_integer) := ⟨rfl, rfl, rfl, by decide +kernel, rfl, by decide +kernel, by decide +kernel⟩
abbrev s_is_name : Stmt := (topS 19)
abbrev N_is_name : List Str := ["text", "sign"]
theorem sc_is_name : FnScope N_is_name ["text"] (defScope s_is_name) := ⟨rfl, rfl, rfl, by decide +kernel, rfl, by decide +kernel, by decide +kernel⟩
abbrev s_are_strings : Stmt := (topS 21)
abbrev N_are_strings : List Str := ["value", "item"]
theorem sc_are_strings : FnScope N_are_strings ["value"] (defScope s_are_strings) := ⟨rfl, rfl, rfl, by decide +kernel, rfl, by decide +kernel, by decide +kernel⟩
abbrev s_are_pairs : Stmt := (topS 22)
abbrev N_are_pairs : List Str := ["value", "pair"]
theorem sc_are_pairs : FnScope N_are_pairs ["value"] (defScope s_are_pairs) := ⟨rfl, rfl, rfl, by decide +kernel, rfl, by decide +kernel, by decide +kernel⟩
abbrev s_check_form : Stmt := (topS 28)
abbrev N_check_form : List Str := ["pegs", "needs", "bars", "costs", "has_costs", "cost"]
theorem sc_check_form : FnScope N_check_form ["pegs", "needs", "bars", "costs"] (defScope s_check_form) := ⟨rfl, rfl, rfl, by decide +kernel, rfl, by decide +kernel, by decide +kernel⟩
abbrev s_check_pegs : Stmt := (topS 29)
abbrev N_check_pegs : List Str := ["pegs", "costs", "most", "at", "peg", "cost"]
theorem sc_check_pegs : FnScope N_check_pegs ["pegs", "costs", "most"] (defScope s_check_pegs) := ⟨rfl, rfl, rfl, by decide +kernel, rfl, by decide +kernel, by decide +kernel⟩
abbrev s_check_pairs : Stmt := (topS 30)
abbrev N_check_pairs : List Str := ["pegs", "pairs", "word", "at", "one", "other"]
theorem sc_check_pairs : FnScope N_check_pairs ["pegs", "pairs", "word"] (defScope s_check_pairs) := ⟨rfl, rfl, rfl, by decide +kernel, rfl, by decide +kernel, by decide +kernel⟩
abbrev s_needed_rows : Stmt := (topS 31)
abbrev N_needed_rows : List Str := ["pegs", "needs", "rows", "at", "peg", "needed", "own", "row"]
theorem sc_needed_rows : FnScope N_needed_rows ["pegs", "needs"] (defScope s_needed_rows) := ⟨rfl, rfl, rfl, by decide +kernel, rfl, by decide +kernel, by decide +kernel⟩
abbrev s_longer_row : Stmt := (topS 32)
abbrev N_longer_row : List Str := ["row", "peg", "needed", "other"]
theorem sc_longer_row : FnScope N_longer_row ["row", "peg", "needed"] (defScope s_longer_row) := ⟨rfl, rfl, rfl, by decide +kernel, rfl, by decide +kernel, by decide +kernel⟩
abbrev s_barred_in : Stmt := (topS 33)
abbrev N_barred_in : List Str := ["row", "other_row", "bars", "a", "b"]
theorem sc_barred_in : FnScope N_barred_in ["row", "other_row", "bars"] (defScope s_barred_in) := ⟨rfl, rfl, rfl, by decide +kernel, rfl, by decide +kernel, by decide +kernel⟩
abbrev s_check_dead : Stmt := (topS 34)
abbrev N_check_dead : List Str := ["pegs", "rows", "bars", "at", "peg"]
theorem sc_check_dead : FnScope N_check_dead ["pegs", "rows", "bars"] (defScope s_check_dead) := ⟨rfl, rfl, rfl, by decide +kernel, rfl, by decide +kernel, by decide +kernel⟩
abbrev s_clash_pairs : Stmt := (topS 35)
abbrev N_clash_pairs : List Str := ["pegs", "rows", "bars", "found", "at", "one", "other"]
theorem sc_clash_pairs : FnScope N_clash_pairs ["pegs", "rows", "bars"] (defScope s_clash_pairs) := ⟨rfl, rfl, rfl, by decide +kernel, rfl, by decide +kernel, by decide +kernel⟩
abbrev s_check_board : Stmt := (topS 41)
abbrev N_check_board : List Str := ["board", "thing"]
theorem sc_check_board : FnScope N_check_board ["board", "thing"] (defScope s_check_board) := ⟨rfl, rfl, rfl, by decide +kernel, rfl, by decide +kernel, by decide +kernel⟩
abbrev s_member_rows : Stmt := (topS 47)
abbrev N_member_rows : List Str := ["board", "pegs", "rows", "peg", "below", "found", "row", "at"]
theorem sc_member_rows : FnScope N_member_rows ["board"] (defScope s_member_rows) := ⟨rfl, rfl, rfl, by decide +kernel, rfl, by decide +kernel, by decide +kernel⟩
abbrev s_can_join : Stmt := (topS 48)
abbrev N_can_join : List Str := ["board", "peg", "below", "row", "other"]
theorem sc_can_join : FnScope N_can_join ["board", "peg", "below", "row"] (defScope s_can_join) := ⟨rfl, rfl, rfl, by decide +kernel, rfl, by decide +kernel, by decide +kernel⟩
abbrev s_check_members : Stmt := (topS 49)
abbrev N_check_members : List Str := ["board", "members", "peg", "needed", "at", "other"]
theorem sc_check_members : FnScope N_check_members ["board", "members"] (defScope s_check_members) := ⟨rfl, rfl, rfl, by decide +kernel, rfl, by decide +kernel, by decide +kernel⟩
abbrev s_S_init : Stmt := (mthS 50 0)
abbrev N_S_init : List Str := ["self", "board", "pegs", "peg", "members"]
theorem sc_S_init : FnScope N_S_init ["self", "board", "pegs"] (defScope s_S_init) := ⟨rfl, rfl, rfl, by decide +kernel, rfl, by decide +kernel, by decide +kernel⟩
abbrev s_S_contains : Stmt := (mthS 50 3)
abbrev N_S_contains : List Str := ["self", "peg"]
theorem sc_S_contains : FnScope N_S_contains ["self", "peg"] (defScope s_S_contains) := ⟨rfl, rfl, rfl, by decide +kernel, rfl, by decide +kernel, by decide +kernel⟩
abbrev s_S_eq : Stmt := (mthS 50 4)
abbrev N_S_eq : List Str := ["self", "other"]
theorem sc_S_eq : FnScope N_S_eq ["self", "other"] (defScope s_S_eq) := ⟨rfl, rfl, rfl, by decide +kernel, rfl, by decide +kernel, by decide +kernel⟩
abbrev s_S_xor : Stmt := (mthS 50 8)
abbrev N_S_xor : List Str := ["self", "other", "peg"]
theorem sc_S_xor : FnScope N_S_xor ["self", "other"] (defScope s_S_xor) := ⟨rfl, rfl, rfl, by decide +kernel, rfl, by decide +kernel, by decide +kernel⟩
abbrev s_S_board : Stmt := (mthS 50 11)
abbrev N_S_board : List Str := ["self"]
theorem sc_S_board : FnScope N_S_board ["self"] (defScope s_S_board) := ⟨rfl, rfl, rfl, by decide +kernel, rfl, by decide +kernel, by decide +kernel⟩
abbrev s_S_pegs : Stmt := (mthS 50 12)
abbrev N_S_pegs : List Str := ["self"]
theorem sc_S_pegs : FnScope N_S_pegs ["self"] (defScope s_S_pegs) := ⟨rfl, rfl, rfl, by decide +kernel, rfl, by decide +kernel, by decide +kernel⟩
abbrev s_S_distance : Stmt := (mthS 50 22)
abbrev N_S_distance : List Str := ["self", "other", "unlike", "peg"]
theorem sc_S_distance : FnScope N_S_distance ["self", "other"] (defScope s_S_distance) := ⟨rfl, rfl, rfl, by decide +kernel, rfl, by decide +kernel, by decide +kernel⟩
abbrev s_S_middle : Stmt := (mthS 50 23)
abbrev N_S_middle : List Str := ["self", "one", "other", "rows", "peg", "row"]
theorem sc_S_middle : FnScope N_S_middle ["self", "one", "other"] (defScope s_S_middle) := ⟨rfl, rfl, rfl, by decide +kernel, rfl, by decide +kernel, by decide +kernel⟩
abbrev s_S_is_between : Stmt := (mthS 50 24)
abbrev N_S_is_between : List Str := ["self", "one", "other", "common", "peg"]
theorem sc_S_is_between : FnScope N_S_is_between ["self", "one", "other"] (defScope s_S_is_between) := ⟨rfl, rfl, rfl, by decide +kernel, rfl, by decide +kernel, by decide +kernel⟩
abbrev s_B_init : Stmt := (mthS 52 1)
abbrev N_B_init : List Str := ["self", "pegs", "needs", "bars", "costs", "prices", "rows", "peg", "other"]
theorem sc_B_init : FnScope N_B_init ["self", "pegs", "needs", "bars", "costs"] (defScope s_B_init) := ⟨rfl, rfl, rfl, by decide +kernel, rfl, by decide +kernel, by decide +kernel⟩
abbrev s_B_eq : Stmt := (mthS 52 4)
abbrev N_B_eq : List Str := ["self", "other"]
theorem sc_B_eq : FnScope N_B_eq ["self", "other"] (defScope s_B_eq) := ⟨rfl, rfl, rfl, by decide +kernel, rfl, by decide +kernel, by decide +kernel⟩
abbrev s_B_call : Stmt := (mthS 52 6)
abbrev N_B_call : List Str := ["self", "pegs"]
theorem sc_B_call : FnScope N_B_call ["self", "pegs"] (defScope s_B_call) := ⟨rfl, rfl, rfl, by decide +kernel, rfl, by decide +kernel, by decide +kernel⟩
abbrev s_B_pegs : Stmt := (mthS 52 9)
abbrev N_B_pegs : List Str := ["self"]
theorem sc_B_pegs : FnScope N_B_pegs ["self"] (defScope s_B_pegs) := ⟨rfl, rfl, rfl, by decide +kernel, rfl, by decide +kernel, by decide +kernel⟩
abbrev s_B_empty : Stmt := (mthS 52 10)
abbrev N_B_empty : List Str := ["self"]
theorem sc_B_empty : FnScope N_B_empty ["self"] (defScope s_B_empty) := ⟨rfl, rfl, rfl, by decide +kernel, rfl, by decide +kernel, by decide +kernel⟩
abbrev s_B_require : Stmt := (mthS 52 11)
abbrev N_B_require : List Str := ["self", "peg"]
theorem sc_B_require : FnScope N_B_require ["self", "peg"] (defScope s_B_require) := ⟨rfl, rfl, rfl, by decide +kernel, rfl, by decide +kernel, by decide +kernel⟩
abbrev s_B_cost_of : Stmt := (mthS 52 12)
abbrev N_B_cost_of : List Str := ["self", "peg"]
theorem sc_B_cost_of : FnScope N_B_cost_of ["self", "peg"] (defScope s_B_cost_of) := ⟨rfl, rfl, rfl, by decide +kernel, rfl, by decide +kernel, by decide +kernel⟩
abbrev s_B_below : Stmt := (mthS 52 13)
abbrev N_B_below : List Str := ["self", "peg"]
theorem sc_B_below : FnScope N_B_below ["self", "peg"] (defScope s_B_below) := ⟨rfl, rfl, rfl, by decide +kernel, rfl, by decide +kernel, by decide +kernel⟩
abbrev s_B_needs : Stmt := (mthS 52 15)
abbrev N_B_needs : List Str := ["self", "peg", "other"]
theorem sc_B_needs : FnScope N_B_needs ["self", "peg", "other"] (defScope s_B_needs) := ⟨rfl, rfl, rfl, by decide +kernel, rfl, by decide +kernel, by decide +kernel⟩
abbrev s_B_clash : Stmt := (mthS 52 16)
abbrev N_B_clash : List Str := ["self", "peg", "other"]
theorem sc_B_clash : FnScope N_B_clash ["self", "peg", "other"] (defScope s_B_clash) := ⟨rfl, rfl, rfl, by decide +kernel, rfl, by decide +kernel, by decide +kernel⟩
abbrev s_B_count_stands : Stmt := (mthS 52 19)
abbrev N_B_count_stands : List Str := ["self"]
theorem sc_B_count_stands : FnScope N_B_count_stands ["self"] (defScope s_B_count_stands) := ⟨rfl, rfl, rfl, by decide +kernel, rfl, by decide +kernel, by decide +kernel⟩
abbrev s_occurs : Stmt := (topS 58)
abbrev N_occurs : List Str := ["board", "x", "has_x", "y", "has_y"]
theorem sc_occurs : FnScope N_occurs ["board", "x", "has_x", "y", "has_y"] (defScope s_occurs) := ⟨rfl, rfl, rfl, by decide +kernel, rfl, by decide +kernel, by decide +kernel⟩
abbrev s_seen_from : Stmt := (topS 59)
abbrev N_seen_from : List Str := ["origin", "board", "pairs", "needs", "bars", "x", "y", "peg"]
theorem sc_seen_from : FnScope N_seen_from ["origin"] (defScope s_seen_from) := ⟨rfl, rfl, rfl, by decide +kernel, rfl, by decide +kernel, by decide +kernel⟩
abbrev s_seen : Stmt := (topS 60)
abbrev N_seen : List Str := ["stand", "origin", "board"]
theorem sc_seen : FnScope N_seen ["stand", "origin"] (defScope s_seen) := ⟨rfl, rfl, rfl, by decide +kernel, rfl, by decide +kernel, by decide +kernel⟩
abbrev s_l_box : Stmt := (topS 62)
abbrev N_l_box : List Str := ["_law_script", "_law_k", "_law_cell", "_law_seed"]
theorem sc_l_box : FnScope N_l_box ["_law_script", "_law_k"] (defScope s_l_box) := ⟨rfl, rfl, rfl, by decide +kernel, rfl, by decide +kernel, by decide +kernel⟩
abbrev s_l_take : Stmt := (topS 63)
abbrev N_l_take : List Str := ["_law_box_here", "_law_many", "_law_digit", "_law_one"]
theorem sc_l_take : FnScope N_l_take ["_law_box_here", "_law_many"] (defScope s_l_take) := ⟨rfl, rfl, rfl, by decide +kernel, rfl, by decide +kernel, by decide +kernel⟩
abbrev s_l_mixed : Stmt := (topS 64)
abbrev N_l_mixed : List Str := ["_law_box_here", "_law_things", "_law_left", "_law_found"]
theorem sc_l_mixed : FnScope N_l_mixed ["_law_box_here", "_law_things"] (defScope s_l_mixed) := ⟨rfl, rfl, rfl, by decide +kernel, rfl, by decide +kernel, by decide +kernel⟩
abbrev s_l_names : Stmt := (topS 65)
abbrev N_l_names : List Str := ["_law_box_here", "_law_many", "_law_letters", "_law_form", "_law_words", "_law_stem", "_law_spot", "_law_first", "_law_found", "_law_k", "_law_letter", "_law_name"]
theorem sc_l_names : FnScope N_l_names ["_law_box_here", "_law_many"] (defScope s_l_names) := ⟨rfl, rfl, rfl, by decide +kernel, rfl, by decide +kernel, by decide +kernel⟩
abbrev s_l_rows : Stmt := (topS 66)
abbrev N_l_rows : List Str := ["_law_pegs", "_law_wants", "_law_found", "_law_turn", "_law_peg", "_law_needed", "_law_one"]
theorem sc_l_rows : FnScope N_l_rows ["_law_pegs", "_law_wants"] (defScope s_l_rows) := ⟨rfl, rfl, rfl, by decide +kernel, rfl, by decide +kernel, by decide +kernel⟩
abbrev s_l_is_barred : Stmt := (topS 67)
abbrev N_l_is_barred : List Str := ["_law_row", "_law_other", "_law_blocks", "_law_a", "_law_b"]
theorem sc_l_is_barred : FnScope N_l_is_barred ["_law_row", "_law_other", "_law_blocks"] (defScope s_l_is_barred) := ⟨rfl, rfl, rfl, by decide +kernel, rfl, by decide +kernel, by decide +kernel⟩
abbrev s_l_parts : Stmt := (topS 68)
abbrev N_l_parts : List Str := ["_law_box_here", "_law_most", "_law_pegs", "_law_order", "_law_wants", "_law_blocks", "_law_turn", "_law_late", "_law_rows_here", "_law_pair", "_law_dead", "_law_prices", "_law_peg", "_law_needed"]
theorem sc_l_parts : FnScope N_l_parts ["_law_box_here", "_law_most"] (defScope s_l_parts) := ⟨rfl, rfl, rfl, by decide +kernel, rfl, by decide +kernel, by decide +kernel⟩
abbrev s_l_board : Stmt := (topS 69)
abbrev N_l_board : List Str := ["_law_parts_here"]
theorem sc_l_board : FnScope N_l_board ["_law_parts_here"] (defScope s_l_board) := ⟨rfl, rfl, rfl, by decide +kernel, rfl, by decide +kernel, by decide +kernel⟩
abbrev s_l_is_stand : Stmt := (topS 70)
abbrev N_l_is_stand : List Str := ["_law_parts_here", "_law_row", "_law_peg", "_law_needed", "_law_a", "_law_b"]
theorem sc_l_is_stand : FnScope N_l_is_stand ["_law_parts_here", "_law_row"] (defScope s_l_is_stand) := ⟨rfl, rfl, rfl, by decide +kernel, rfl, by decide +kernel, by decide +kernel⟩
abbrev s_l_sets : Stmt := (topS 71)
abbrev N_l_sets : List Str := ["_law_parts_here", "_law_pegs", "_law_found", "_law_mask", "_law_spots", "_law_k", "_law_many"]
theorem sc_l_sets : FnScope N_l_sets ["_law_parts_here"] (defScope s_l_sets) := ⟨rfl, rfl, rfl, by decide +kernel, rfl, by decide +kernel, by decide +kernel⟩
abbrev s_l_some_stand : Stmt := (topS 72)
abbrev N_l_some_stand : List Str := ["_law_box_here", "_law_parts_here", "_law_pegs", "_law_rows_here", "_law_found", "_law_peg", "_law_more", "_law_one"]
theorem sc_l_some_stand : FnScope N_l_some_stand ["_law_box_here", "_law_parts_here"] (defScope s_l_some_stand) := ⟨rfl, rfl, rfl, by decide +kernel, rfl, by decide +kernel, by decide +kernel⟩
abbrev s_l_right : Stmt := (topS 73)
abbrev N_l_right : List Str := ["_law_origin", "_law_some", "_law_back", "_law_a", "_law_b", "_law_c", "_law_one", "_law_two", "_law_three", "_law_stand"]
theorem sc_l_right : FnScope N_l_right ["_law_origin", "_law_some", "_law_back"] (defScope s_l_right) := ⟨rfl, rfl, rfl, by decide +kernel, rfl, by decide +kernel, by decide +kernel⟩
abbrev s_law : Stmt := (topS 74)
abbrev N_law : List Str := ["_law_script", "_law_k", "_law_box_here", "_law_parts_here", "_law_board_here", "_law_turn", "_law_origin", "_law_other", "_law_back", "_law_more", "_law_some", "_law_j"]
theorem sc_law : FnScope N_law ["_law_script"] (defScope s_law) := ⟨rfl, rfl, rfl, by decide +kernel, rfl, by decide +kernel, by decide +kernel⟩
abbrev CS (K : PySem.W.Frag) : Addr := He.ga K "Stand"
abbrev CB (K : PySem.W.Frag) : Addr := He.ga K "Board"
/-- what isinstance asks of an instance's class -/
structure TyC (K : PySem.W.Frag) (C : Addr) : Prop where
  ha : PySem.W.findIn K (.ref C) "__class__" = some (some (.builtin "object.__class__"))
  hn : PySem.W.specialIn K (.builtin "object.__class__") "__get__" = some (some (.builtin "getset_descriptor.__get__"))
  tk : PySem.W.takesIn K (.builtin "object.__class__") = some true
structure Facts (K : PySem.W.Frag) (mg : Str → Option Value) : Prop where
  g_is_integer : mg "is_integer" = some (.ref (He.ga K "is_integer"))
  g_is_name : mg "is_name" = some (.ref (He.ga K "is_name"))
  g_are_strings : mg "are_strings" = some (.ref (He.ga K "are_strings"))
  g_are_pairs : mg "are_pairs" = some (.ref (He.ga K "are_pairs"))
  g_check_form : mg "check_form" = some (.ref (He.ga K "check_form"))
  g_check_pegs : mg "check_pegs" = some (.ref (He.ga K "check_pegs"))
  g_check_pairs : mg "check_pairs" = some (.ref (He.ga K "check_pairs"))
  g_needed_rows : mg "needed_rows" = some (.ref (He.ga K "needed_rows"))
  g_longer_row : mg "longer_row" = some (.ref (He.ga K "longer_row"))
  g_barred_in : mg "barred_in" = some (.ref (He.ga K "barred_in"))
  g_check_dead : mg "check_dead" = some (.ref (He.ga K "check_dead"))
  g_clash_pairs : mg "clash_pairs" = some (.ref (He.ga K "clash_pairs"))
  g_check_board : mg "check_board" = some (.ref (He.ga K "check_board"))
  g_member_rows : mg "member_rows" = some (.ref (He.ga K "member_rows"))
  g_can_join : mg "can_join" = some (.ref (He.ga K "can_join"))
  g_check_members : mg "check_members" = some (.ref (He.ga K "check_members"))
  g_occurs : mg "occurs" = some (.ref (He.ga K "occurs"))
  g_seen_from : mg "seen_from" = some (.ref (He.ga K "seen_from"))
  g_seen : mg "seen" = some (.ref (He.ga K "seen"))
  g_l_box : mg "_law_box" = some (.ref (He.ga K "_law_box"))
  g_l_take : mg "_law_take" = some (.ref (He.ga K "_law_take"))
  g_l_mixed : mg "_law_mixed" = some (.ref (He.ga K "_law_mixed"))
  g_l_names : mg "_law_names" = some (.ref (He.ga K "_law_names"))
  g_l_rows : mg "_law_rows" = some (.ref (He.ga K "_law_rows"))
  g_l_is_barred : mg "_law_is_barred" = some (.ref (He.ga K "_law_is_barred"))
  g_l_parts : mg "_law_parts" = some (.ref (He.ga K "_law_parts"))
  g_l_board : mg "_law_board" = some (.ref (He.ga K "_law_board"))
  g_l_is_stand : mg "_law_is_stand" = some (.ref (He.ga K "_law_is_stand"))
  g_l_sets : mg "_law_sets" = some (.ref (He.ga K "_law_sets"))
  g_l_some_stand : mg "_law_some_stand" = some (.ref (He.ga K "_law_some_stand"))
  g_l_right : mg "_law_right" = some (.ref (He.ga K "_law_right"))
  g_law : mg "law" = some (.ref (He.ga K "law"))
  g_Stand : mg "Stand" = some (.ref (He.ga K "Stand"))
  g_Board : mg "Board" = some (.ref (He.ga K "Board"))
  f_all : mg "all" = none
  f_any : mg "any" = none
  f_bool : mg "bool" = none
  f_dict : mg "dict" = none
  f_enumerate : mg "enumerate" = none
  f_int : mg "int" = none
  f_isinstance : mg "isinstance" = none
  f_len : mg "len" = none
  f_list : mg "list" = none
  f_max : mg "max" = none
  f_min : mg "min" = none
  f_property : mg "property" = none
  f_range : mg "range" = none
  f_repr : mg "repr" = none
  f_sorted : mg "sorted" = none
  f_str : mg "str" = none
  f_sum : mg "sum" = none
  f_tuple : mg "tuple" = none
  f_zip : mg "zip" = none
  v_LETTERS : ∃ t, mg "LETTERS" = some (.str "abcdefghijklmnopqrstuvwxyz" t)
  v_LONGEST : ∃ t, mg "LONGEST_NAME" = some (.int 6 t)
  v_COST : ∃ t, mg "MOST_COST" = some (.int 1000 t)
  clsS : Cls K (CS K)
  mkS : Mk K (CS K) (He.ma K (CS K) "__init__")
  neS : NeC K (CS K)
  tyS : TyC K (CS K)
  eqS : PySem.W.findIn K (.ref (CS K)) "__eq__" = some (some (.ref (He.ma K (CS K) "__eq__"))) ∧ PySem.W.isFn K (.ref (He.ma K (CS K) "__eq__")) = true
  nS_ground : NoAttr K (CS K) "ground"
  nS_members : NoAttr K (CS K) "members"
  mS_contains : Meth K (CS K) "__contains__" (He.ma K (CS K) "__contains__")
  mS_xor : Meth K (CS K) "__xor__" (He.ma K (CS K) "__xor__")
  mS_distance : Meth K (CS K) "distance" (He.ma K (CS K) "distance")
  mS_middle : Meth K (CS K) "middle" (He.ma K (CS K) "middle")
  mS_is_between : Meth K (CS K) "is_between" (He.ma K (CS K) "is_between")
  clsB : Cls K (CB K)
  mkB : Mk K (CB K) (He.ma K (CB K) "__init__")
  neB : NeC K (CB K)
  tyB : TyC K (CB K)
  eqB : PySem.W.findIn K (.ref (CB K)) "__eq__" = some (some (.ref (He.ma K (CB K) "__eq__"))) ∧ PySem.W.isFn K (.ref (He.ma K (CB K) "__eq__")) = true
  nB_order : NoAttr K (CB K) "order"
  nB_prices : NoAttr K (CB K) "prices"
  nB_rows : NoAttr K (CB K) "rows"
  nB_clashes : NoAttr K (CB K) "clashes"
  nB_key : NoAttr K (CB K) "key"
  mB_call : Meth K (CB K) "__call__" (He.ma K (CB K) "__call__")
  mB_require : Meth K (CB K) "require" (He.ma K (CB K) "require")
  mB_cost_of : Meth K (CB K) "cost_of" (He.ma K (CB K) "cost_of")
  mB_below : Meth K (CB K) "below" (He.ma K (CB K) "below")
  mB_needs : Meth K (CB K) "needs" (He.ma K (CB K) "needs")
  mB_clash : Meth K (CB K) "clash" (He.ma K (CB K) "clash")
  mB_count_stands : Meth K (CB K) "count_stands" (He.ma K (CB K) "count_stands")
  conMOST : ∃ u, Con K (CB K) "MOST" (.int 12) u
  selfS : PySem.W.selfFirst K (CS K) = true
  callB : StX.CallO K (CB K) (He.ma K (CB K) "__call__")
  d_is_integer : ∃ fd, FunD K "is_integer" "is_integer" (defArgs s_is_integer) (defBody s_is_integer) (defScope s_is_integer) [] [] (He.fAd K ("is_integer", none)) fd
  d_is_name : ∃ fd, FunD K "is_name" "is_name" (defArgs s_is_name) (defBody s_is_name) (defScope s_is_name) [] [] (He.fAd K ("is_name", none)) fd
  d_are_strings : ∃ fd, FunD K "are_strings" "are_strings" (defArgs s_are_strings) (defBody s_are_strings) (defScope s_are_strings) [] [] (He.fAd K ("are_strings", none)) fd
  d_are_pairs : ∃ fd, FunD K "are_pairs" "are_pairs" (defArgs s_are_pairs) (defBody s_are_pairs) (defScope s_are_pairs) [] [] (He.fAd K ("are_pairs", none)) fd
  d_check_form : ∃ fd, FunD K "check_form" "check_form" (defArgs s_check_form) (defBody s_check_form) (defScope s_check_form) [] [] (He.fAd K ("check_form", none)) fd
  d_check_pegs : ∃ fd, FunD K "check_pegs" "check_pegs" (defArgs s_check_pegs) (defBody s_check_pegs) (defScope s_check_pegs) [] [] (He.fAd K ("check_pegs", none)) fd
  d_check_pairs : ∃ fd, FunD K "check_pairs" "check_pairs" (defArgs s_check_pairs) (defBody s_check_pairs) (defScope s_check_pairs) [] [] (He.fAd K ("check_pairs", none)) fd
  d_needed_rows : ∃ fd, FunD K "needed_rows" "needed_rows" (defArgs s_needed_rows) (defBody s_needed_rows) (defScope s_needed_rows) [] [] (He.fAd K ("needed_rows", none)) fd
  d_longer_row : ∃ fd, FunD K "longer_row" "longer_row" (defArgs s_longer_row) (defBody s_longer_row) (defScope s_longer_row) [] [] (He.fAd K ("longer_row", none)) fd
  d_barred_in : ∃ fd, FunD K "barred_in" "barred_in" (defArgs s_barred_in) (defBody s_barred_in) (defScope s_barred_in) [] [] (He.fAd K ("barred_in", none)) fd
  d_check_dead : ∃ fd, FunD K "check_dead" "check_dead" (defArgs s_check_dead) (defBody s_check_dead) (defScope s_check_dead) [] [] (He.fAd K ("check_dead", none)) fd
  d_clash_pairs : ∃ fd, FunD K "clash_pairs" "clash_pairs" (defArgs s_clash_pairs) (defBody s_clash_pairs) (defScope s_clash_pairs) [] [] (He.fAd K ("clash_pairs", none)) fd
  d_check_board : ∃ fd, FunD K "check_board" "check_board" (defArgs s_check_board) (defBody s_check_board) (defScope s_check_board) [] [] (He.fAd K ("check_board", none)) fd
  d_member_rows : ∃ fd, FunD K "member_rows" "member_rows" (defArgs s_member_rows) (defBody s_member_rows) (defScope s_member_rows) [] [] (He.fAd K ("member_rows", none)) fd
  d_can_join : ∃ fd, FunD K "can_join" "can_join" (defArgs s_can_join) (defBody s_can_join) (defScope s_can_join) [] [] (He.fAd K ("can_join", none)) fd
  d_check_members : ∃ fd, FunD K "check_members" "check_members" (defArgs s_check_members) (defBody s_check_members) (defScope s_check_members) [] [] (He.fAd K ("check_members", none)) fd
  d_S_init : ∃ fd, FunD K "__init__" "Stand.__init__" (defArgs s_S_init) (defBody s_S_init) (defScope s_S_init) [] [] (He.fAd K ("Stand", some "__init__")) fd
  d_S_contains : ∃ fd, FunD K "__contains__" "Stand.__contains__" (defArgs s_S_contains) (defBody s_S_contains) (defScope s_S_contains) [] [] (He.fAd K ("Stand", some "__contains__")) fd
  d_S_eq : ∃ fd, FunD K "__eq__" "Stand.__eq__" (defArgs s_S_eq) (defBody s_S_eq) (defScope s_S_eq) [] [] (He.fAd K ("Stand", some "__eq__")) fd
  d_S_xor : ∃ fd, FunD K "__xor__" "Stand.__xor__" (defArgs s_S_xor) (defBody s_S_xor) (defScope s_S_xor) [] [] (He.fAd K ("Stand", some "__xor__")) fd
  p_S_board : ∃ p g fd, PropOf K (He.ga K "Stand") "board" p g ∧ FunD K "board" "Stand.board" (defArgs s_S_board) (defBody s_S_board) (defScope s_S_board) [] [] g fd
  p_S_pegs : ∃ p g fd, PropOf K (He.ga K "Stand") "pegs" p g ∧ FunD K "pegs" "Stand.pegs" (defArgs s_S_pegs) (defBody s_S_pegs) (defScope s_S_pegs) [] [] g fd
  d_S_distance : ∃ fd, FunD K "distance" "Stand.distance" (defArgs s_S_distance) (defBody s_S_distance) (defScope s_S_distance) [] [] (He.fAd K ("Stand", some "distance")) fd
  d_S_middle : ∃ fd, FunD K "middle" "Stand.middle" (defArgs s_S_middle) (defBody s_S_middle) (defScope s_S_middle) [] [] (He.fAd K ("Stand", some "middle")) fd
  d_S_is_between : ∃ fd, FunD K "is_between" "Stand.is_between" (defArgs s_S_is_between) (defBody s_S_is_between) (defScope s_S_is_between) [] [] (He.fAd K ("Stand", some "is_between")) fd
  d_B_init : ∃ fd, FunD K "__init__" "Board.__init__" (defArgs s_B_init) (defBody s_B_init) (defScope s_B_init) [] [] (He.fAd K ("Board", some "__init__")) fd
  d_B_eq : ∃ fd, FunD K "__eq__" "Board.__eq__" (defArgs s_B_eq) (defBody s_B_eq) (defScope s_B_eq) [] [] (He.fAd K ("Board", some "__eq__")) fd
  d_B_call : ∃ fd, FunD K "__call__" "Board.__call__" (defArgs s_B_call) (defBody s_B_call) (defScope s_B_call) [] [] (He.fAd K ("Board", some "__call__")) fd
  p_B_pegs : ∃ p g fd, PropOf K (He.ga K "Board") "pegs" p g ∧ FunD K "pegs" "Board.pegs" (defArgs s_B_pegs) (defBody s_B_pegs) (defScope s_B_pegs) [] [] g fd
  p_B_empty : ∃ p g fd, PropOf K (He.ga K "Board") "empty" p g ∧ FunD K "empty" "Board.empty" (defArgs s_B_empty) (defBody s_B_empty) (defScope s_B_empty) [] [] g fd
  d_B_require : ∃ fd, FunD K "require" "Board.require" (defArgs s_B_require) (defBody s_B_require) (defScope s_B_require) [] [] (He.fAd K ("Board", some "require")) fd
  d_B_cost_of : ∃ fd, FunD K "cost_of" "Board.cost_of" (defArgs s_B_cost_of) (defBody s_B_cost_of) (defScope s_B_cost_of) [] [] (He.fAd K ("Board", some "cost_of")) fd
  d_B_below : ∃ fd, FunD K "below" "Board.below" (defArgs s_B_below) (defBody s_B_below) (defScope s_B_below) [] [] (He.fAd K ("Board", some "below")) fd
  d_B_needs : ∃ fd, FunD K "needs" "Board.needs" (defArgs s_B_needs) (defBody s_B_needs) (defScope s_B_needs) [] [] (He.fAd K ("Board", some "needs")) fd
  d_B_clash : ∃ fd, FunD K "clash" "Board.clash" (defArgs s_B_clash) (defBody s_B_clash) (defScope s_B_clash) [] [] (He.fAd K ("Board", some "clash")) fd
  d_B_count_stands : ∃ fd, FunD K "count_stands" "Board.count_stands" (defArgs s_B_count_stands) (defBody s_B_count_stands) (defScope s_B_count_stands) [] [] (He.fAd K ("Board", some "count_stands")) fd
  d_occurs : ∃ fd, FunD K "occurs" "occurs" (defArgs s_occurs) (defBody s_occurs) (defScope s_occurs) [] [] (He.fAd K ("occurs", none)) fd
  d_seen_from : ∃ fd, FunD K "seen_from" "seen_from" (defArgs s_seen_from) (defBody s_seen_from) (defScope s_seen_from) [] [] (He.fAd K ("seen_from", none)) fd
  d_seen : ∃ fd, FunD K "seen" "seen" (defArgs s_seen) (defBody s_seen) (defScope s_seen) [] [] (He.fAd K ("seen", none)) fd
  d_l_box : ∃ fd, FunD K "_law_box" "_law_box" (defArgs s_l_box) (defBody s_l_box) (defScope s_l_box) [] [] (He.fAd K ("_law_box", none)) fd
  d_l_take : ∃ fd, FunD K "_law_take" "_law_take" (defArgs s_l_take) (defBody s_l_take) (defScope s_l_take) [] [] (He.fAd K ("_law_take", none)) fd
  d_l_mixed : ∃ fd, FunD K "_law_mixed" "_law_mixed" (defArgs s_l_mixed) (defBody s_l_mixed) (defScope s_l_mixed) [] [] (He.fAd K ("_law_mixed", none)) fd
  d_l_names : ∃ fd, FunD K "_law_names" "_law_names" (defArgs s_l_names) (defBody s_l_names) (defScope s_l_names) [] [] (He.fAd K ("_law_names", none)) fd
  d_l_rows : ∃ fd, FunD K "_law_rows" "_law_rows" (defArgs s_l_rows) (defBody s_l_rows) (defScope s_l_rows) [] [] (He.fAd K ("_law_rows", none)) fd
  d_l_is_barred : ∃ fd, FunD K "_law_is_barred" "_law_is_barred" (defArgs s_l_is_barred) (defBody s_l_is_barred) (defScope s_l_is_barred) [] [] (He.fAd K ("_law_is_barred", none)) fd
  d_l_parts : ∃ fd, FunD K "_law_parts" "_law_parts" (defArgs s_l_parts) (defBody s_l_parts) (defScope s_l_parts) [] [] (He.fAd K ("_law_parts", none)) fd
  d_l_board : ∃ fd, FunD K "_law_board" "_law_board" (defArgs s_l_board) (defBody s_l_board) (defScope s_l_board) [] [] (He.fAd K ("_law_board", none)) fd
  d_l_is_stand : ∃ fd, FunD K "_law_is_stand" "_law_is_stand" (defArgs s_l_is_stand) (defBody s_l_is_stand) (defScope s_l_is_stand) [] [] (He.fAd K ("_law_is_stand", none)) fd
  d_l_sets : ∃ fd, FunD K "_law_sets" "_law_sets" (defArgs s_l_sets) (defBody s_l_sets) (defScope s_l_sets) [] [] (He.fAd K ("_law_sets", none)) fd
  d_l_some_stand : ∃ fd, FunD K "_law_some_stand" "_law_some_stand" (defArgs s_l_some_stand) (defBody s_l_some_stand) (defScope s_l_some_stand) [] [] (He.fAd K ("_law_some_stand", none)) fd
  d_l_right : ∃ fd, FunD K "_law_right" "_law_right" (defArgs s_l_right) (defBody s_l_right) (defScope s_l_right) [] [] (He.fAd K ("_law_right", none)) fd
  d_law : ∃ fd, FunD K "law" "law" (defArgs s_law) (defBody s_law) (defScope s_law) [] [] (He.fAd K ("law", none)) fd
end NP
end

section
set_option maxHeartbeats 0
/-! the head: what is read off the heap behind the top, and the run -/
namespace NP
open PySem PySem.Spec PyProof.Rows L2
/-! ### getters -/
structure Gt where
  c : Str
  m : Str
  d : He.DefD
/-- the property object, the function that it calls -/
abbrev ppA (K : PySem.W.Frag) (c m : Str) : Addr := He.ma K (He.ga K c) m
def prA (K : PySem.W.Frag) (c m : Str) : Addr := match PySem.W.recIn K (ppA K c m) "property" with
  | some (.ref g :: _) => g
  | _ => 0
def rowAt : Option Obj → He.FnW
  | some ⟨_, _, .func y, _⟩ => some (y.name, y.qualname, y.params, y.body, y.scope, y.globals, y.closure, y.builtins)
  | _ => none
def fitAt (K : PySem.W.Frag) (q : Str) : Option Obj → Bool
  | some ⟨_, _, .func y, _⟩ => PySem.W.codeIn K y.code q && He.dflB K y.defaults []
  | _ => false
theorem funD_at {K : PySem.W.Frag} {a : Addr} {d : He.DefD} (h1 : rowAt (K.lookup a) = d.val) (h2 : fitAt K d.qual (K.lookup a) = true) (h3 : PySem.W.keepIn K (.ref a) = true) : ∃ y, FunD K d.name d.qual d.params d.body d.scope [] [] a y := by
  generalize hk : K.lookup a = o at h1 h2
  match o, h1, h2, hk with
  | some ⟨z1, z2, .func ⟨y1, y2, y3, y4, y5, y6, y7, y8, y9, y10, y11, y12, y13, y14, y15⟩, z4⟩, h1, h2, hk =>
    have h1 : (some (y1, y2, y3, y4, y5, y6, y7, y15) : He.FnW) = some (d.name, d.qual, d.params, .stmts d.body, d.scope, mainGlobals, [], builtinsNs) := h1
    rw [Option.some.injEq] at h1
    simp only [Prod.mk.injEq] at h1
    obtain ⟨rfl, rfl, rfl, rfl, rfl, rfl, rfl, rfl⟩ := h1
    have h2 : (PySem.W.codeIn K y13 d.qual && He.dflB K y8 []) = true := h2
    rw [Bool.and_eq_true] at h2
    exact ⟨_, ⟨z1, z2, y8, y9, y10, y11, y12, y13, y14, z4, rfl, hk, h2.1, He.dflB_ok h2.2, .inl rfl⟩, h3⟩
def gtFit (K : PySem.W.Frag) (q : Gt) : Bool := He.eqO (PySem.W.findIn K (.ref (He.ga K q.c)) q.m) (some (some (.ref (ppA K q.c q.m)))) && (He.eqO (PySem.W.specialIn K (.ref (ppA K q.c q.m)) "__get__") (some (some (.builtin "property.__get__"))) && (decide (PySem.W.takesIn K (.ref (ppA K q.c q.m)) = some true) && ((match PySem.W.recIn K (ppA K q.c q.m) "property" with
  | some (.ref _ :: _) => true
  | _ => false) && (PySem.W.keepIn K (.ref (prA K q.c q.m)) && fitAt K q.d.qual (K.lookup (prA K q.c q.m))))))
theorem gt_ok {K : PySem.W.Frag} {q : Gt} (h : gtFit K q = true) (h1 : rowAt (K.lookup (prA K q.c q.m)) = q.d.val) : ∃ p g y, PropOf K (He.ga K q.c) q.m p g ∧ FunD K q.d.name q.d.qual q.d.params q.d.body q.d.scope [] [] g y := by
  unfold gtFit at h
  simp only [Bool.and_eq_true] at h
  obtain ⟨a1, a2, a3, a4, a5, a6⟩ := h
  obtain ⟨y, hy⟩ := funD_at h1 a6 a5
  refine ⟨_, _, y, ⟨He.eqO_ok a1, He.eqO_ok a2, of_decide_eq_true a3, ?_⟩, hy⟩
  unfold prA
  split at a4
  · rename_i g rest e
    rw [e]
    exact ⟨rest, rfl⟩
  · cases a4
/-! ### what else is asked of the two classes -/
def clsFit (K : PySem.W.Frag) (x : Str) : Bool := decide (PySem.W.mroIn K (He.ga K x) (.type "object") = some true) && (He.eqO (PySem.W.findIn K (.ref (He.ga K x)) "__ne__") (some (some (.builtin "object.__ne__"))) && (He.eqO (PySem.W.findIn K (.ref (He.ga K x)) "__class__") (some (some (.builtin "object.__class__"))) &&
  (He.eqO (PySem.W.findIn K (.ref (He.ga K x)) "__eq__") (some (some (.ref (He.ma K (He.ga K x) "__eq__")))) && PySem.W.isFn K (.ref (He.ma K (He.ga K x) "__eq__")))))
def objFit (K : PySem.W.Frag) : Bool := He.eqO (PySem.W.specialIn K (.builtin "object.__class__") "__get__") (some (some (.builtin "getset_descriptor.__get__"))) && decide (PySem.W.takesIn K (.builtin "object.__class__") = some true)
def conFit (K : PySem.W.Frag) (x f : Str) (i : Int) : Bool := match PySem.W.findIn K (.ref (He.ga K x)) f with
  | some (some (.int j t)) => decide (j = i) && He.eqO (PySem.W.specialIn K (.int j t) "__get__") (some none)
  | _ => false
theorem con_ok {K : PySem.W.Frag} {x f : Str} {i : Int} (h : conFit K x f i = true) (hc : PySem.W.copiedNames.contains f = false) : ∃ u, Con K (He.ga K x) f (.int i) u := by
  unfold conFit at h
  split at h
  · rename_i j t e
    rw [Bool.and_eq_true] at h
    have hj := of_decide_eq_true h.1
    subst hj
    exact ⟨_, e, ⟨t, rfl⟩, He.eqO_ok h.2, hc⟩
  · cases h
def callFit (K : PySem.W.Frag) (x : Str) : Bool := He.eqO (PySem.W.findIn K (.ref (He.ga K x)) "__call__") (some (some (.ref (He.ma K (He.ga K x) "__call__")))) && (PySem.W.isFn K (.ref (He.ma K (He.ga K x) "__call__")) && PySem.W.fnIn K (He.ma K (He.ga K x) "__call__"))
def h_is_integer : He.DefD := ⟨("is_integer", none), "is_integer", "is_integer", defArgs s_is_integer, defBody s_is_integer, defScope s_is_integer, [], []⟩
def h_is_name : He.DefD := ⟨("is_name", none), "is_name", "is_name", defArgs s_is_name, defBody s_is_name, defScope s_is_name, [], []⟩
def h_are_strings : He.DefD := ⟨("are_strings", none), "are_strings", "are_strings", defArgs s_are_strings, defBody s_are_strings, defScope s_are_strings, [], []⟩
def h_are_pairs : He.DefD := ⟨("are_pairs", none), "are_pairs", "are_pairs", defArgs s_are_pairs, defBody s_are_pairs, defScope s_are_pairs, [], []⟩
def h_check_form : He.DefD := ⟨("check_form", none), "check_form", "check_form", defArgs s_check_form, defBody s_check_form, defScope s_check_form, [], []⟩
def h_check_pegs : He.DefD := ⟨("check_pegs", none), "check_pegs", "check_pegs", defArgs s_check_pegs, defBody s_check_pegs, defScope s_check_pegs, [], []⟩
def h_check_pairs : He.DefD := ⟨("check_pairs", none), "check_pairs", "check_pairs", defArgs s_check_pairs, defBody s_check_pairs, defScope s_check_pairs, [], []⟩
def h_needed_rows : He.DefD := ⟨("needed_rows", none), "needed_rows", "needed_rows", defArgs s_needed_rows, defBody s_needed_rows, defScope s_needed_rows, [], []⟩
def h_longer_row : He.DefD := ⟨("longer_row", none), "longer_row", "longer_row", defArgs s_longer_row, defBody s_longer_row, defScope s_longer_row, [], []⟩
def h_barred_in : He.DefD := ⟨("barred_in", none), "barred_in", "barred_in", defArgs s_barred_in, defBody s_barred_in, defScope s_barred_in, [], []⟩
def h_check_dead : He.DefD := ⟨("check_dead", none), "check_dead", "check_dead", defArgs s_check_dead, defBody s_check_dead, defScope s_check_dead, [], []⟩
def h_clash_pairs : He.DefD := ⟨("clash_pairs", none), "clash_pairs", "clash_pairs", defArgs s_clash_pairs, defBody s_clash_pairs, defScope s_clash_pairs, [], []⟩
def h_check_board : He.DefD := ⟨("check_board", none), "check_board", "check_board", defArgs s_check_board, defBody s_check_board, defScope s_check_board, [], []⟩
def h_member_rows : He.DefD := ⟨("member_rows", none), "member_rows", "member_rows", defArgs s_member_rows, defBody s_member_rows, defScope s_member_rows, [], []⟩
def h_can_join : He.DefD := ⟨("can_join", none), "can_join", "can_join", defArgs s_can_join, defBody s_can_join, defScope s_can_join, [], []⟩
def h_check_members : He.DefD := ⟨("check_members", none), "check_members", "check_members", defArgs s_check_members, defBody s_check_members, defScope s_check_members, [], []⟩
def h_S_init : He.DefD := ⟨("Stand", some "__init__"), "__init__", "Stand.__init__", defArgs s_S_init, defBody s_S_init, defScope s_S_init, [], []⟩
def h_S_contains : He.DefD := ⟨("Stand", some "__contains__"), "__contains__", "Stand.__contains__", defArgs s_S_contains, defBody s_S_contains, defScope s_S_contains, [], []⟩
def h_S_eq : He.DefD := ⟨("Stand", some "__eq__"), "__eq__", "Stand.__eq__", defArgs s_S_eq, defBody s_S_eq, defScope s_S_eq, [], []⟩
def h_S_xor : He.DefD := ⟨("Stand", some "__xor__"), "__xor__", "Stand.__xor__", defArgs s_S_xor, defBody s_S_xor, defScope s_S_xor, [], []⟩
def h_S_board : He.DefD := ⟨("Stand", some "board"), "board", "Stand.board", defArgs s_S_board, defBody s_S_board, defScope s_S_board, [], []⟩
def h_S_pegs : He.DefD := ⟨("Stand", some "pegs"), "pegs", "Stand.pegs", defArgs s_S_pegs, defBody s_S_pegs, defScope s_S_pegs, [], []⟩
def h_S_distance : He.DefD := ⟨("Stand", some "distance"), "distance", "Stand.distance", defArgs s_S_distance, defBody s_S_distance, defScope s_S_distance, [], []⟩
def h_S_middle : He.DefD := ⟨("Stand", some "middle"), "middle", "Stand.middle", defArgs s_S_middle, defBody s_S_middle, defScope s_S_middle, [], []⟩
def h_S_is_between : He.DefD := ⟨("Stand", some "is_between"), "is_between", "Stand.is_between", defArgs s_S_is_between, defBody s_S_is_between, defScope s_S_is_between, [], []⟩
def h_B_init : He.DefD := ⟨("Board", some "__init__"), "__init__", "Board.__init__", defArgs s_B_init, defBody s_B_init, defScope s_B_init, [], []⟩
def h_B_eq : He.DefD := ⟨("Board", some "__eq__"), "__eq__", "Board.__eq__", defArgs s_B_eq, defBody s_B_eq, defScope s_B_eq, [], []⟩
def h_B_call : He.DefD := ⟨("Board", some "__call__"), "__call__", "Board.__call__", defArgs s_B_call, defBody s_B_call, defScope s_B_call, [], []⟩
def h_B_pegs : He.DefD := ⟨("Board", some "pegs"), "pegs", "Board.pegs", defArgs s_B_pegs, defBody s_B_pegs, defScope s_B_pegs, [], []⟩
def h_B_empty : He.DefD := ⟨("Board", some "empty"), "empty", "Board.empty", defArgs s_B_empty, defBody s_B_empty, defScope s_B_empty, [], []⟩
def h_B_require : He.DefD := ⟨("Board", some "require"), "require", "Board.require", defArgs s_B_require, defBody s_B_require, defScope s_B_require, [], []⟩
def h_B_cost_of : He.DefD := ⟨("Board", some "cost_of"), "cost_of", "Board.cost_of", defArgs s_B_cost_of, defBody s_B_cost_of, defScope s_B_cost_of, [], []⟩
def h_B_below : He.DefD := ⟨("Board", some "below"), "below", "Board.below", defArgs s_B_below, defBody s_B_below, defScope s_B_below, [], []⟩
def h_B_needs : He.DefD := ⟨("Board", some "needs"), "needs", "Board.needs", defArgs s_B_needs, defBody s_B_needs, defScope s_B_needs, [], []⟩
def h_B_clash : He.DefD := ⟨("Board", some "clash"), "clash", "Board.clash", defArgs s_B_clash, defBody s_B_clash, defScope s_B_clash, [], []⟩
def h_B_count_stands : He.DefD := ⟨("Board", some "count_stands"), "count_stands", "Board.count_stands", defArgs s_B_count_stands, defBody s_B_count_stands, defScope s_B_count_stands, [], []⟩
def h_occurs : He.DefD := ⟨("occurs", none), "occurs", "occurs", defArgs s_occurs, defBody s_occurs, defScope s_occurs, [], []⟩
def h_seen_from : He.DefD := ⟨("seen_from", none), "seen_from", "seen_from", defArgs s_seen_from, defBody s_seen_from, defScope s_seen_from, [], []⟩
def h_seen : He.DefD := ⟨("seen", none), "seen", "seen", defArgs s_seen, defBody s_seen, defScope s_seen, [], []⟩
def h_l_box : He.DefD := ⟨("_law_box", none), "_law_box", "_law_box", defArgs s_l_box, defBody s_l_box, defScope s_l_box, [], []⟩
def h_l_take : He.DefD := ⟨("_law_take", none), "_law_take", "_law_take", defArgs s_l_take, defBody s_l_take, defScope s_l_take, [], []⟩
def h_l_mixed : He.DefD := ⟨("_law_mixed", none), "_law_mixed", "_law_mixed", defArgs s_l_mixed, defBody s_l_mixed, defScope s_l_mixed, [], []⟩
def h_l_names : He.DefD := ⟨("_law_names", none), "_law_names", "_law_names", defArgs s_l_names, defBody s_l_names, defScope s_l_names, [], []⟩
def h_l_rows : He.DefD := ⟨("_law_rows", none), "_law_rows", "_law_rows", defArgs s_l_rows, defBody s_l_rows, defScope s_l_rows, [], []⟩
def h_l_is_barred : He.DefD := ⟨("_law_is_barred", none), "_law_is_barred", "_law_is_barred", defArgs s_l_is_barred, defBody s_l_is_barred, defScope s_l_is_barred, [], []⟩
def h_l_parts : He.DefD := ⟨("_law_parts", none), "_law_parts", "_law_parts", defArgs s_l_parts, defBody s_l_parts, defScope s_l_parts, [], []⟩
def h_l_board : He.DefD := ⟨("_law_board", none), "_law_board", "_law_board", defArgs s_l_board, defBody s_l_board, defScope s_l_board, [], []⟩
def h_l_is_stand : He.DefD := ⟨("_law_is_stand", none), "_law_is_stand", "_law_is_stand", defArgs s_l_is_stand, defBody s_l_is_stand, defScope s_l_is_stand, [], []⟩
def h_l_sets : He.DefD := ⟨("_law_sets", none), "_law_sets", "_law_sets", defArgs s_l_sets, defBody s_l_sets, defScope s_l_sets, [], []⟩
def h_l_some_stand : He.DefD := ⟨("_law_some_stand", none), "_law_some_stand", "_law_some_stand", defArgs s_l_some_stand, defBody s_l_some_stand, defScope s_l_some_stand, [], []⟩
def h_l_right : He.DefD := ⟨("_law_right", none), "_law_right", "_law_right", defArgs s_l_right, defBody s_l_right, defScope s_l_right, [], []⟩
def h_law : He.DefD := ⟨("law", none), "law", "law", defArgs s_law, defBody s_law, defScope s_law, [], []⟩
def hfn : List He.DefD := [h_is_integer, h_is_name, h_are_strings, h_are_pairs, h_check_form, h_check_pegs, h_check_pairs, h_needed_rows, h_longer_row, h_barred_in, h_check_dead, h_clash_pairs, h_check_board, h_member_rows, h_can_join, h_check_members, h_S_init, h_S_contains, h_S_eq, h_S_xor, h_S_distance, h_S_middle, h_S_is_between, h_B_init, h_B_eq, h_B_call, h_B_require, h_B_cost_of, h_B_below, h_B_needs, h_B_clash, h_B_count_stands, h_occurs, h_seen_from, h_seen, h_l_box, h_l_take, h_l_mixed, h_l_names, h_l_rows, h_l_is_barred, h_l_parts, h_l_board, h_l_is_stand, h_l_sets, h_l_some_stand, h_l_right, h_law]
def hgt : List Gt := [⟨"Stand", "board", h_S_board⟩, ⟨"Stand", "pegs", h_S_pegs⟩, ⟨"Board", "pegs", h_B_pegs⟩, ⟨"Board", "empty", h_B_empty⟩]
def hfa : List He.Fa := [.glo "is_integer", .glo "is_name", .glo "are_strings", .glo "are_pairs", .glo "check_form", .glo "check_pegs", .glo "check_pairs", .glo "needed_rows", .glo "longer_row", .glo "barred_in", .glo "check_dead", .glo "clash_pairs", .glo "check_board", .glo "member_rows", .glo "can_join", .glo "check_members", .glo "occurs", .glo "seen_from", .glo "seen", .glo "_law_box", .glo "_law_take", .glo "_law_mixed", .glo "_law_names", .glo "_law_rows", .glo "_law_is_barred", .glo "_law_parts", .glo "_law_board", .glo "_law_is_stand", .glo "_law_sets", .glo "_law_some_stand", .glo "_law_right", .glo "law", .glo "Stand", .glo "Board", .free "all", .free "any", .free "bool", .free "dict", .free "enumerate", .free "int", .free "isinstance", .free "len", .free "list", .free "max", .free "min", .free "property", .free "range", .free "repr", .free "sorted", .free "str", .free "sum", .free "tuple", .free "zip", .str "LETTERS" "abcdefghijklmnopqrstuvwxyz", .int "LONGEST_NAME" 6, .int "MOST_COST" 1000, .cls "Stand", .mkr "Stand", .noat "Stand" "ground", .noat "Stand" "members", .meth "Stand" "__contains__", .meth "Stand" "__xor__", .meth "Stand" "distance", .meth "Stand" "middle", .meth "Stand" "is_between", .cls "Board", .mkr "Board", .noat "Board" "order", .noat "Board" "prices", .noat "Board" "rows", .noat "Board" "clashes", .noat "Board" "key", .meth "Board" "__call__", .meth "Board" "require", .meth "Board" "cost_of", .meth "Board" "below", .meth "Board" "needs", .meth "Board" "clash", .meth "Board" "count_stands"]
def htf : List He.Defn := [("member_rows", none)]
def hex (K : PySem.W.Frag) : Bool := clsFit K "Stand" && (clsFit K "Board" && (objFit K && (conFit K "Board" "MOST" 12 && (PySem.W.selfFirst K (He.ga K "Stand") && (callFit K "Board" && hgt.all (gtFit K))))))
abbrev Rw : PySem.W.OpenRow := PySem.W.OpenLaw.row PySem.Challenge.rw_needpegs_k62_whole_seen_and_back
/-- where the objects stand that the facts are read off -/
def hads : List Addr := [3, 212, 213, 217, 218, 227, 228, 232, 233, 284, 285, 291, 292, 298, 299, 303, 304, 308, 309, 313, 314, 320, 321, 325, 326, 450, 451, 582, 583, 587, 588, 594, 595, 606, 607, 627, 628, 634, 635, 658, 659, 677, 678, 679, 685, 686, 687, 748, 749, 753, 754, 758, 759, 761, 762, 780, 781, 801, 802, 815, 816, 834, 835, 836, 842, 843, 844, 850, 851, 857, 858, 864, 865, 876, 877, 883, 884, 904, 905, 937, 938, 968, 969, 973, 974, 980, 981, 987, 988, 994, 995, 1001, 1002, 1006, 1007, 1011, 1012, 1016, 1017, 1021, 1022, 1028, 1029, 1033, 1034, 1038, 1039, 1043, 1044, 1048, 1049, 1053, 1054]
abbrev Kof (g : Addr → Option Obj) : PySem.W.Frag := He.frT g hads
def obY (g : Addr → Option Obj) : He.AlT × Bool × List He.FnW := (He.obsT hfa hfn [] (Kof g), hex (Kof g) && He.tabsB g htf (Kof g), hgt.map fun q => rowAt ((Kof g).lookup (prA (Kof g) q.c q.m)))
def vaY (w : World) : He.AlT × Bool × List He.FnW := (He.valT hfn [] w, true, hgt.map fun q => q.d.val)
def SaysY (w : World) (h : Heap) (K : PySem.W.Frag) : Prop := He.SaysX hfa hfn [] htf hex w h K ∧ (hgt.map fun q => rowAt (K.lookup (prA K q.c q.m))) = hgt.map fun q => q.d.val
theorem tab_at {g : Addr → Option Obj} {K : PySem.W.Frag} {p : He.Defn} (h : He.tabsB g htf K = true) (hp : p ∈ htf) : PySem.W.codeHdIn K (He.cT K p).1 (He.cT K p).2 = true ∧ ∃ o, g (He.cT K p).2 = some o ∧ He.emptyTab o = true := by
  have h1 := List.all_eq_true.mp h p hp
  rw [Bool.and_eq_true] at h1
  refine ⟨h1.1, ?_⟩
  have h2 := h1.2
  generalize g (He.cT K p).2 = u at h2 ⊢
  cases u with
  | none => cases h2
  | some o => exact ⟨o, rfl, h2⟩
theorem saysY_of {w : World} {h : Heap} (e : obY h.get? = vaY w) : SaysY w h (Kof h.get?) := by
  have e1 : He.obsT hfa hfn [] (Kof h.get?) = He.valT hfn [] w := congrArg (fun z : He.AlT × Bool × List He.FnW => z.1) e
  have e2 : (hex (Kof h.get?) && He.tabsB h.get? htf (Kof h.get?)) = true := congrArg (fun z : He.AlT × Bool × List He.FnW => z.2.1) e
  rw [Bool.and_eq_true] at e2
  refine ⟨⟨e1, e2.1, fun p hp => (tab_at e2.2 hp).1, fun p hp => ?_, fun p hp => ?_⟩, congrArg (fun z : He.AlT × Bool × List He.FnW => z.2.2) e⟩
  · obtain ⟨_, o, h1, h2⟩ := tab_at e2.2 hp
    exact He.frT_none h1 h2
  · obtain ⟨_, o, h1, h2⟩ := tab_at e2.2 hp
    rw [h1, He.emptyTab_eq h2]
def hook : PySem.W.Hook where
  α := He.AlT × Bool × List He.FnW
  obs := fun s => obY s.heap.get?
  val := vaY
  says := fun w h => ∃ K : PySem.W.Frag, K.In h ∧ SaysY w h K
  of := fun _ _ e => ⟨_, He.frT_in, saysY_of e⟩
  keeps := fun _ _ _ ⟨K, hK, c, c2⟩ k => ⟨K, PySem.W.Frag.In.keeps hK k, ⟨c.t, c.more, c.hd, c.out, fun p hp => k _ _ (c.empty p hp)⟩, c2⟩
def obT (s : PySem.W.SharedT) : He.AlT × Bool × List He.FnW := obY (HandSHeadRun.getT s)
theorem obT_eq (s : PySem.W.SharedT) : obT s = hook.obs s.abs := by
  have e : HandSHeadRun.getT s = s.abs.heap.get? := funext (HandSHeadRun.getT_eq s)
  unfold obT
  rw [e]
  rfl
def hloose : List PySem.Str := (["_wall", "PegError", "NoBoard", "NoText", "NoTurn", "Missing", "Needed", "Barred", "NoMatch", "Stuck", "NoPeg", "LETTERS"] : List PySem.Str) ++ (["DIGITS", "LONGEST_NAME", "LONGEST_FIGURE", "MOST_COST", "is_integer", "is_name", "is_figure", "are_strings", "are_pairs", "MOST_PEGS", "BoardText", "board_parts"] : List PySem.Str) ++ (["check_form", "check_pegs", "check_pairs", "needed_rows", "longer_row", "barred_in", "check_dead", "clash_pairs", "Turn", "Put", "Take", "check_board"] : List PySem.Str) ++ (["stand_after", "turned", "Way", "can_turn", "member_rows", "can_join", "check_members", "Stand", "Board", "need_pairs", "part_of", "check_union"] : List PySem.Str) ++ (["united", "occurs", "seen_from", "seen", "_law_box", "_law_take", "_law_mixed", "_law_names", "_law_rows", "_law_is_barred", "_law_parts", "_law_board"] : List PySem.Str) ++ (["_law_is_stand", "_law_sets", "_law_some_stand", "_law_right"] : List PySem.Str)
theorem hrun (w : World) : HandSHeadRun.RunEq Rw (PySem.W.view Rw.prog [74]) hook obT 20000 hloose w := by
  intro os
  kernel_rfl
/-! ### the facts -/
theorem facts {w : World} {K : PySem.W.Frag} {h base : Heap} {mg : Str → Option Value} (X : K.In base) (G : base.Ns mainGlobals mg) (cc : SaysY w h K) : Facts K mg := by
  obtain ⟨c, c2⟩ := cc
  have fc : ∀ (i : Nat) {f : He.Fa}, hfa[i]? = some f → f.ok K = true := fun i f hf => c.t.d.fact i hf
  have fd : ∀ (i : Nat) {d : He.DefD}, hfn[i]? = some d → ∃ y, FunD K d.name d.qual d.params d.body d.scope (d.dvs K) (d.kws K) (He.fAd K d.at_) y := fun i d hd => c.t.d.def_ i hd
  have hx : hex K = true := c.more
  unfold hex at hx
  simp only [Bool.and_eq_true] at hx
  obtain ⟨x1, x2, x3, x4, x5, x6, x7⟩ := hx
  unfold clsFit at x1 x2
  unfold objFit at x3
  unfold callFit at x6
  simp only [Bool.and_eq_true] at x1 x2 x3 x6
  have hg : ∀ (i : Nat) {q : Gt}, hgt[i]? = some q → ∃ p g y, PropOf K (He.ga K q.c) q.m p g ∧ FunD K q.d.name q.d.qual q.d.params q.d.body q.d.scope [] [] g y := fun i q hq => by
    refine gt_ok (List.all_eq_true.mp x7 q (List.mem_of_getElem? hq)) ?_
    have e2 : (hgt.map fun q => rowAt (K.lookup (prA K q.c q.m)))[i]? = (hgt.map fun q => q.d.val)[i]? := by rw [c2]
    rw [List.getElem?_map, List.getElem?_map, hq] at e2
    exact Option.some.inj e2
  exact {
    g_is_integer := He.glo_ok X G (fc 0 rfl)
    g_is_name := He.glo_ok X G (fc 1 rfl)
    g_are_strings := He.glo_ok X G (fc 2 rfl)
    g_are_pairs := He.glo_ok X G (fc 3 rfl)
    g_check_form := He.glo_ok X G (fc 4 rfl)
    g_check_pegs := He.glo_ok X G (fc 5 rfl)
    g_check_pairs := He.glo_ok X G (fc 6 rfl)
    g_needed_rows := He.glo_ok X G (fc 7 rfl)
    g_longer_row := He.glo_ok X G (fc 8 rfl)
    g_barred_in := He.glo_ok X G (fc 9 rfl)
    g_check_dead := He.glo_ok X G (fc 10 rfl)
    g_clash_pairs := He.glo_ok X G (fc 11 rfl)
    g_check_board := He.glo_ok X G (fc 12 rfl)
    g_member_rows := He.glo_ok X G (fc 13 rfl)
    g_can_join := He.glo_ok X G (fc 14 rfl)
    g_check_members := He.glo_ok X G (fc 15 rfl)
    g_occurs := He.glo_ok X G (fc 16 rfl)
    g_seen_from := He.glo_ok X G (fc 17 rfl)
    g_seen := He.glo_ok X G (fc 18 rfl)
    g_l_box := He.glo_ok X G (fc 19 rfl)
    g_l_take := He.glo_ok X G (fc 20 rfl)
    g_l_mixed := He.glo_ok X G (fc 21 rfl)
    g_l_names := He.glo_ok X G (fc 22 rfl)
    g_l_rows := He.glo_ok X G (fc 23 rfl)
    g_l_is_barred := He.glo_ok X G (fc 24 rfl)
    g_l_parts := He.glo_ok X G (fc 25 rfl)
    g_l_board := He.glo_ok X G (fc 26 rfl)
    g_l_is_stand := He.glo_ok X G (fc 27 rfl)
    g_l_sets := He.glo_ok X G (fc 28 rfl)
    g_l_some_stand := He.glo_ok X G (fc 29 rfl)
    g_l_right := He.glo_ok X G (fc 30 rfl)
    g_law := He.glo_ok X G (fc 31 rfl)
    g_Stand := He.glo_ok X G (fc 32 rfl)
    g_Board := He.glo_ok X G (fc 33 rfl)
    f_all := He.free_ok X G (fc 34 rfl)
    f_any := He.free_ok X G (fc 35 rfl)
    f_bool := He.free_ok X G (fc 36 rfl)
    f_dict := He.free_ok X G (fc 37 rfl)
    f_enumerate := He.free_ok X G (fc 38 rfl)
    f_int := He.free_ok X G (fc 39 rfl)
    f_isinstance := He.free_ok X G (fc 40 rfl)
    f_len := He.free_ok X G (fc 41 rfl)
    f_list := He.free_ok X G (fc 42 rfl)
    f_max := He.free_ok X G (fc 43 rfl)
    f_min := He.free_ok X G (fc 44 rfl)
    f_property := He.free_ok X G (fc 45 rfl)
    f_range := He.free_ok X G (fc 46 rfl)
    f_repr := He.free_ok X G (fc 47 rfl)
    f_sorted := He.free_ok X G (fc 48 rfl)
    f_str := He.free_ok X G (fc 49 rfl)
    f_sum := He.free_ok X G (fc 50 rfl)
    f_tuple := He.free_ok X G (fc 51 rfl)
    f_zip := He.free_ok X G (fc 52 rfl)
    v_LETTERS := He.str_ok X G (fc 53 rfl)
    v_LONGEST := He.int_ok X G (fc 54 rfl)
    v_COST := He.int_ok X G (fc 55 rfl)
    clsS := He.cls_ok (fc 56 rfl)
    mkS := He.mkr_ok (fc 57 rfl)
    neS := ⟨of_decide_eq_true x1.1, He.eqO_ok x1.2.1⟩
    tyS := ⟨He.eqO_ok x1.2.2.1, He.eqO_ok x3.1, of_decide_eq_true x3.2⟩
    eqS := ⟨He.eqO_ok x1.2.2.2.1, x1.2.2.2.2⟩
    nS_ground := He.noat_ok (fc 58 rfl)
    nS_members := He.noat_ok (fc 59 rfl)
    mS_contains := He.meth_ok (fc 60 rfl)
    mS_xor := He.meth_ok (fc 61 rfl)
    mS_distance := He.meth_ok (fc 62 rfl)
    mS_middle := He.meth_ok (fc 63 rfl)
    mS_is_between := He.meth_ok (fc 64 rfl)
    clsB := He.cls_ok (fc 65 rfl)
    mkB := He.mkr_ok (fc 66 rfl)
    neB := ⟨of_decide_eq_true x2.1, He.eqO_ok x2.2.1⟩
    tyB := ⟨He.eqO_ok x2.2.2.1, He.eqO_ok x3.1, of_decide_eq_true x3.2⟩
    eqB := ⟨He.eqO_ok x2.2.2.2.1, x2.2.2.2.2⟩
    nB_order := He.noat_ok (fc 67 rfl)
    nB_prices := He.noat_ok (fc 68 rfl)
    nB_rows := He.noat_ok (fc 69 rfl)
    nB_clashes := He.noat_ok (fc 70 rfl)
    nB_key := He.noat_ok (fc 71 rfl)
    mB_call := He.meth_ok (fc 72 rfl)
    mB_require := He.meth_ok (fc 73 rfl)
    mB_cost_of := He.meth_ok (fc 74 rfl)
    mB_below := He.meth_ok (fc 75 rfl)
    mB_needs := He.meth_ok (fc 76 rfl)
    mB_clash := He.meth_ok (fc 77 rfl)
    mB_count_stands := He.meth_ok (fc 78 rfl)
    conMOST := con_ok x4 (by decide)
    selfS := x5
    callB := ⟨He.eqO_ok x6.1, x6.2.1, x6.2.2⟩
    d_is_integer := fd 0 rfl
    d_is_name := fd 1 rfl
    d_are_strings := fd 2 rfl
    d_are_pairs := fd 3 rfl
    d_check_form := fd 4 rfl
    d_check_pegs := fd 5 rfl
    d_check_pairs := fd 6 rfl
    d_needed_rows := fd 7 rfl
    d_longer_row := fd 8 rfl
    d_barred_in := fd 9 rfl
    d_check_dead := fd 10 rfl
    d_clash_pairs := fd 11 rfl
    d_check_board := fd 12 rfl
    d_member_rows := fd 13 rfl
    d_can_join := fd 14 rfl
    d_check_members := fd 15 rfl
    d_S_init := fd 16 rfl
    d_S_contains := fd 17 rfl
    d_S_eq := fd 18 rfl
    d_S_xor := fd 19 rfl
    p_S_board := hg 0 rfl
    p_S_pegs := hg 1 rfl
    d_S_distance := fd 20 rfl
    d_S_middle := fd 21 rfl
    d_S_is_between := fd 22 rfl
    d_B_init := fd 23 rfl
    d_B_eq := fd 24 rfl
    d_B_call := fd 25 rfl
    p_B_pegs := hg 2 rfl
    p_B_empty := hg 3 rfl
    d_B_require := fd 26 rfl
    d_B_cost_of := fd 27 rfl
    d_B_below := fd 28 rfl
    d_B_needs := fd 29 rfl
    d_B_clash := fd 30 rfl
    d_B_count_stands := fd 31 rfl
    d_occurs := fd 32 rfl
    d_seen_from := fd 33 rfl
    d_seen := fd 34 rfl
    d_l_box := fd 35 rfl
    d_l_take := fd 36 rfl
    d_l_mixed := fd 37 rfl
    d_l_names := fd 38 rfl
    d_l_rows := fd 39 rfl
    d_l_is_barred := fd 40 rfl
    d_l_parts := fd 41 rfl
    d_l_board := fd 42 rfl
    d_l_is_stand := fd 43 rfl
    d_l_sets := fd 44 rfl
    d_l_some_stand := fd 45 rfl
    d_l_right := fd 46 rfl
    d_law := fd 47 rfl
  }
end NP
end

section
set_option maxHeartbeats 4000000
/-! what a reading evaluates to. B is the part of the heap that is known and stays; H all of it -/
namespace NP
open PySem PySem.Spec PyProof.Rows L2 Evl
variable {σ : L2.St} {B B1 B2 B3 H H1 H2 H3 : Hp} {te ta tb u : TE} {tt : TT}
/-- from (B, H) to (B2, H2): both grow; what H had beyond B doesn't come into B2 -/
structure Gr (B H B2 H2 : Hp) : Prop where
  b : Ex B B2
  bh : Ex B2 H2
  h : Ex H H2
  av : ∀ a, H a ≠ none → B a = none → B2 a = none
theorem ex_some {H H' : Hp} (e : Ex H H') {a : Addr} (h : H a ≠ none) : H' a ≠ none := by
  cases q : H a with
  | none => exact absurd q h
  | some o => rw [e a o q]; simp
theorem Gr.refl (h : Ex B H) : Gr B H B H := ⟨Ex.refl B, h, Ex.refl H, fun _ _ h => h⟩
theorem Gr.trans (g : Gr B H B1 H1) (g' : Gr B1 H1 B2 H2) : Gr B H B2 H2 := ⟨g.b.trans g'.b, g'.bh, g.h.trans g'.h, fun a h1 h2 => g'.av a (ex_some g.h h1) (g.av a h1 h2)⟩
theorem Gr.up (g : Gr B H B1 H1) (e : Ex H1 H2) : Gr B H B1 H2 := ⟨g.b, g.bh.trans e, g.h.trans e, g.av⟩
theorem Gr.ex (h : Ex B H) (e : Ex H H2) : Gr B H B H2 := ⟨Ex.refl B, h.trans e, e, fun _ _ h => h⟩
/-- a new object comes into the base -/
theorem Gr.new (g : Gr B H B1 H1) {p : Addr} {o : HO} (hp : H1 p = none) : Gr B H (upd B1 p o) (upd H1 p o) :=
  ⟨g.b.trans (Ex.new (fresh_back g.bh hp)), fun a u e => by
    by_cases q : a = p
    · subst q; rw [upd_same] at e ⊢; exact e
    · rw [upd_ne q] at e ⊢; exact g.bh a u e, g.h.trans (Ex.new hp), fun a h1 h2 => by
    have : a ≠ p := fun z => ex_some g.h h1 (z ▸ hp)
    rw [upd_ne this]; exact g.av a h1 h2⟩
def EvP (te : TE) (σ : L2.St) (B : Hp) (P : V → Hp → Prop) : Prop := ∀ H1, Ex B H1 → ∀ Q : VK, (∀ v B2 H2, Gr B H1 B2 H2 → P v B2 → Q v H2) → te σ H1 Q
def EaP (t : TA) (σ : L2.St) (B : Hp) (P : List V → Hp → Prop) : Prop := ∀ H1, Ex B H1 → ∀ Q : List V → Hp → Prop, (∀ v B2 H2, Gr B H1 B2 H2 → P v B2 → Q v H2) → t σ H1 Q
/-- P stays when the heap grows -/
def Mon (P : V → Hp → Prop) : Prop := ∀ v H H', Ex H H' → P v H → P v H'
theorem EvP.imp {P P' : V → Hp → Prop} (h : EvP te σ B P) (f : ∀ v B2, Ex B B2 → P v B2 → P' v B2) : EvP te σ B P' := fun H1 e Q q => h H1 e Q fun v B2 H2 g p => q v B2 H2 g (f v B2 g.b p)
theorem ev_p {v : V} (h : Ev te σ B v) : EvP te σ B fun w _ => w = v := fun H1 e Q q => h H1 e Q fun H2 e2 => q v B H2 (Gr.ex e e2) rfl
theorem EvP.v {v : V} (h : EvP te σ B fun w _ => w = v) : Ev te σ B v := fun H1 e Q q => h H1 e Q fun w B2 H2 g ew => by rw [ew]; exact q H2 g.h
theorem gr_put {p : Addr} {o : HO} (e : Ex B H) (e2 : Ex H H2) (hp : H p = none) (h2 : H2 p = some o) : Gr B H (upd B p o) H2 :=
  ⟨Ex.new (fresh_back e hp), fun a u h => by
    by_cases q : a = p
    · subst q; rw [upd_same] at h; rw [h2]; exact h
    · rw [upd_ne q] at h; exact e2 _ _ (e _ _ h), e2, fun a h1 h3 => by
    have : a ≠ p := fun z => h1 (z ▸ hp)
    rw [upd_ne this]; exact h3⟩
theorem eu_p {xs : List V} (h : EvU te σ B xs) : EvP te σ B fun v B2 => ∃ p, v = .ref p ∧ B2 p = some (.tup xs) := fun H1 e Q q => h H1 e Q fun p H2 hp e2 h2 => q _ _ _ (gr_put e e2 hp h2) ⟨p, rfl, upd_same⟩
theorem el_p {xs : List V} (h : EvL te σ B xs) : EvP te σ B fun v B2 => ∃ p, v = .ref p ∧ B2 p = some (.lst xs) := fun H1 e Q q => h H1 e Q fun p H2 hp e2 h2 => q _ _ _ (gr_put e e2 hp h2) ⟨p, rfl, upd_same⟩
/-! ### statements -/
section
variable {D : Ends} {tz : TS} {P : V → Hp → Prop}
theorem s_asgP {i : Nat} (hB : Ex B H) (h : EvP te σ B P) (k : ∀ v B2 H2, Gr B H B2 H2 → P v B2 → D.nx (σ.set i (some v)) H2) : tAsg te (gName i) D σ H := h H hB _ k
theorem q_asgP {i : Nat} (hB : Ex B H) (h : EvP te σ B P) (k : ∀ v B2 H2, Gr B H B2 H2 → P v B2 → tz D (σ.set i (some v)) H2) : tSeq (tAsg te (gName i)) tz D σ H := h H hB _ k
theorem s_retP (hB : Ex B H) (h : EvP te σ B P) (k : ∀ v B2 H2, Gr B H B2 H2 → P v B2 → D.rt v H2) : tRet te D σ H := h H hB _ k
theorem q_doc (h : tz D σ H) : tSeq tNext tz D σ H := h
theorem q_dropP (hB : Ex B H) (h : EvP te σ B P) (k : ∀ v B2 H2, Gr B H B2 H2 → P v B2 → tz D σ H2) : tSeq (tDrop te) tz D σ H := h H hB _ k
theorem s_dropP (hB : Ex B H) (h : EvP te σ B P) (k : ∀ v B2 H2, Gr B H B2 H2 → P v B2 → D.nx σ H2) : tDrop te D σ H := h H hB _ k
/-- an if that is not taken: its suite needs nothing -/
theorem q_skip {t : TS} (hB : Ex B H) (h : EvT tt σ B false) (k : ∀ H2, Ex H H2 → tz D σ H2) : tSeq (tIfS tt t tNext) tz D σ H := h H hB _ fun H2 e2 => by
  show (if false = true then _ else _)
  rw [if_neg Bool.false_ne_true]
  exact k H2 e2
theorem s_skip {t : TS} (hB : Ex B H) (h : EvT tt σ B false) (k : ∀ H2, Ex H H2 → D.nx σ H2) : tIfS tt t tNext D σ H := h H hB _ fun H2 e2 => by
  show (if false = true then _ else _)
  rw [if_neg Bool.false_ne_true]
  exact k H2 e2
theorem q_ifP {t w : TS} {b : Bool} (hB : Ex B H) (h : EvT tt σ B b) (h1 : b = true → ∀ H2, Ex H H2 → t { D with nx := tz D } σ H2) (h2 : b = false → ∀ H2, Ex H H2 → w { D with nx := tz D } σ H2) : tSeq (tIfS tt t w) tz D σ H := h H hB _ fun H2 e2 => by
  cases b with
  | true => show (if true = true then _ else _); rw [if_pos rfl]; exact h1 rfl H2 e2
  | false => show (if false = true then _ else _); rw [if_neg Bool.false_ne_true]; exact h2 rfl H2 e2
theorem s_ifP {t w : TS} {b : Bool} (hB : Ex B H) (h : EvT tt σ B b) (h1 : b = true → ∀ H2, Ex H H2 → t D σ H2) (h2 : b = false → ∀ H2, Ex H H2 → w D σ H2) : tIfS tt t w D σ H := h H hB _ fun H2 e2 => by
  cases b with
  | true => show (if true = true then _ else _); rw [if_pos rfl]; exact h1 rfl H2 e2
  | false => show (if false = true then _ else _); rw [if_neg Bool.false_ne_true]; exact h2 rfl H2 e2
end
/-! ### fields, constants -/
theorem ev_fld {K : PySem.W.Frag} {f : Str} {a C dx : Addr} {fs : List (Str × V)} {v : V} (h : Ev ta σ H (.ref a)) (ha : H a = some (.ins C dx fs)) (c : Cls K C) (n : NoAttr K C f) (l : fs.lookup f = some v) : Ev (tFld K ta f) σ H v :=
  fun H1 e Q q => h H1 e _ fun H2 e2 => ⟨a, C, dx, fs, v, rfl, e2 _ _ (e _ _ ha), c, n, l, q H2 e2⟩
theorem ev_con {K : PySem.W.Frag} {f : Str} {a C dx : Addr} {fs : List (Str × V)} {v : V} {u : Value} (h : Ev ta σ H (.ref a)) (ha : H a = some (.ins C dx fs)) (c : Cls K C) (n : Con K C f v u) (l : fs.lookup f = none) : Ev (tCon K ta f) σ H v :=
  fun H1 e Q q => h H1 e _ fun H2 e2 => ⟨a, C, dx, fs, v, u, rfl, e2 _ _ (e _ _ ha), c, n, l, q H2 e2⟩
/-! ### promises: data d told of the arguments at the start, the result told of d -/
def Prm {δ : Type} (pre : δ → List V → Hp → Prop) (post : δ → V → Hp → Prop) : Sp := fun vs H Q _ => ∃ d B, Ex B H ∧ pre d vs B ∧ ∀ v B' H', Gr B H B' H' → post d v B' → Q v H'
/-- what the pre tells stays -/
def MonA {δ : Type} (pre : δ → List V → Hp → Prop) : Prop := ∀ d vs H H', Ex H H' → pre d vs H → pre d vs H'
section
variable {δ : Type} {pre : δ → List V → Hp → Prop} {post : δ → V → Hp → Prop} {E : XK} {t : TA} {vs : List V} {P : V → Hp → Prop}
theorem Prm.go {Q : VK} (d : δ) (hB : Ex B H) (h : pre d vs B) (q : ∀ v B' H', Gr B H B' H' → post d v B' → Q v H') : Prm pre post vs H Q E := ⟨d, B, hB, h, q⟩
theorem evp_call (d : δ) (h : EvA t σ B vs) (hp : pre d vs B) : EvP (tCall (Prm pre post) [] E t) σ B (post d) := fun H1 e Q q => h H1 e _ fun H2 e2 => by
  rw [List.append_nil]
  exact ⟨d, B, e.trans e2, hp, fun v B' H' g p => q v B' H' ((Gr.ex e e2).trans g) p⟩
theorem evp_callP {R : List V → Hp → Prop} (h : EaP t σ B R) (hp : ∀ vs B1, Ex B B1 → R vs B1 → ∃ d, pre d vs B1 ∧ ∀ v B2, Ex B1 B2 → post d v B2 → P v B2) : EvP (tCall (Prm pre post) [] E t) σ B P := fun H1 e Q q => h H1 e _ fun vs B2 H2 g r => by
  rw [List.append_nil]
  obtain ⟨d, p1, p2⟩ := hp vs B2 g.b r
  exact ⟨d, B2, g.bh, p1, fun v B' H' g2 p => q v B' H' (g.trans g2) (p2 v B' g2.b p)⟩
theorem evp_meth {C : Addr} {m : Str} {a dx : Addr} {fs : List (Str × V)} (d : δ) (ho : Ev ta σ B (.ref a)) (ha : B a = some (.ins C dx fs)) (hl : fs.lookup m = none) (h : EvA t σ B vs) (hp : pre d (.ref a :: vs) B) :
    EvP (tMeth C m (Prm pre post) [] E ta t) σ B (post d) := fun H1 e Q q => ho H1 e _ fun H2 e2 => ⟨a, dx, fs, rfl, e2 _ _ (e _ _ ha), hl, h H2 (e.trans e2) _ fun H3 e3 => by
  rw [List.append_nil]
  exact ⟨d, B, (e.trans e2).trans e3, hp, fun v B' H' g p => q v B' H' ((Gr.ex e (e2.trans e3)).trans g) p⟩⟩
theorem evp_prop {C : Addr} {a dx : Addr} {fs : List (Str × V)} (d : δ) (ho : Ev ta σ B (.ref a)) (ha : B a = some (.ins C dx fs)) (hp : pre d [.ref a] B) :
    EvP (tProp C (Prm pre post) [] E ta) σ B (post d) := fun H1 e Q q => ho H1 e _ fun H2 e2 => ⟨a, dx, fs, rfl, e2 _ _ (e _ _ ha), d, B, e.trans e2, hp, fun v B' H' g p => q v B' H' ((Gr.ex e e2).trans g) p⟩
/-- __init__: the new instance x, its dict dx stand in H beyond B and come into B' -/
structure GrI (x dx : Addr) (B H B2 H2 : Hp) : Prop where
  b : Ex B B2
  bh : Ex B2 H2
  h : ∀ a o, a ≠ x → H a = some o → H2 a = some o
  av : ∀ a, a ≠ x → a ≠ dx → H a ≠ none → B a = none → B2 a = none
def PrmI (C : Addr) {δ : Type} (pre : δ → List V → Hp → Prop) (post : δ → Addr → Hp → Prop) : Sp := fun vs H Q _ => ∃ d B x dx ws, vs = .ref x :: ws ∧ Ex B H ∧ H x = some (.ins C dx []) ∧ H dx = some (.own x) ∧ B x = none ∧ B dx = none ∧ pre d ws B ∧
  ∀ B' H', GrI x dx B H B' H' → post d x B' → Q .non H'
theorem grI_gr {x dx : Addr} {o : HO} (e : Ex B H) (hx : H x = none) (hdx : H dx = none) (ne : dx ≠ x) (g : GrI x dx B (upd (upd H dx (.own x)) x o) B2 H2) : Gr B H B2 H2 :=
  ⟨g.b, g.bh, fun a u h => g.h a u (ne_of_none h hx) (by rw [upd_ne (ne_of_none h hx), upd_ne (ne_of_none h hdx)]; exact h), fun a h1 h2 => by
    have n1 : a ≠ x := fun z => h1 (z ▸ hx)
    have n2 : a ≠ dx := fun z => h1 (z ▸ hdx)
    exact g.av a n1 n2 (by rw [upd_ne n1, upd_ne n2]; exact h1) h2⟩
theorem evp_make {C : Addr} {post : δ → Addr → Hp → Prop} {R : List V → Hp → Prop} (h : EaP t σ B R) (hp : ∀ ws B1, Ex B B1 → R ws B1 → ∃ d, pre d ws B1 ∧ ∀ x B2, Ex B1 B2 → post d x B2 → P (.ref x) B2) : EvP (tMake C (PrmI C pre post) [] E t) σ B P := fun H1 e Q q =>
  h H1 e _ fun ws B2 H2 g r x dx hx hdx ne => by
  rw [List.append_nil]
  obtain ⟨d, p1, p2⟩ := hp ws B2 g.b r
  refine ⟨d, B2, x, dx, ws, rfl, fun a u z => ?_, upd_same, by rw [upd_ne ne, upd_same], fresh_back g.bh hx, fresh_back g.bh hdx, p1, fun B' H' gi p => ⟨rfl, q _ _ _ (g.trans (grI_gr g.bh hx hdx ne gi)) (p2 x B' gi.b p)⟩⟩
  have z2 := g.bh a u z
  rw [upd_ne (ne_of_none z2 hx), upd_ne (ne_of_none z2 hdx)]
  exact z2
end
/-! ### arguments, displays -/
theorem ea_p {t : TA} {vs : List V} (h : EvA t σ B vs) : EaP t σ B fun ws _ => ws = vs := fun H1 e Q q => h H1 e Q fun H2 e2 => q vs B H2 (Gr.ex e e2) rfl
theorem eap_nil : EaP tNil σ B fun ws _ => ws = [] := fun H1 e Q q => q [] B H1 (Gr.refl e) rfl
theorem eap_cons {tr : TA} {P : V → Hp → Prop} {R : List V → Hp → Prop} (hm : Mon P) (h : EvP ta σ B P) (hr : ∀ B1, Ex B B1 → EaP tr σ B1 R) : EaP (tCons ta tr) σ B fun ws B2 => ∃ v vs, ws = v :: vs ∧ P v B2 ∧ R vs B2 := fun H1 e Q q =>
  h H1 e _ fun v B2 H2 g p => hr B2 g.b H2 g.bh _ fun vs B3 H3 g3 r => q _ B3 H3 (g.trans g3) ⟨v, vs, rfl, hm v B2 B3 g3.b p, r⟩
theorem EaP.imp {t : TA} {P P' : List V → Hp → Prop} (h : EaP t σ B P) (f : ∀ v B2, Ex B B2 → P v B2 → P' v B2) : EaP t σ B P' := fun H1 e Q q => h H1 e Q fun v B2 H2 g p => q v B2 H2 g (f v B2 g.b p)
theorem mon_eq {v : V} : Mon fun w _ => w = v := fun _ _ _ _ h => h
theorem mon_lst {xs : List V} : Mon fun w H => ∃ p, w = .ref p ∧ H p = some (.lst xs) := fun _ _ _ e ⟨p, h, q⟩ => ⟨p, h, e _ _ q⟩
theorem mon_tup {xs : List V} : Mon fun w H => ∃ p, w = .ref p ∧ H p = some (.tup xs) := fun _ _ _ e ⟨p, h, q⟩ => ⟨p, h, e _ _ q⟩
def MonL (R : List V → Hp → Prop) : Prop := ∀ vs H H', Ex H H' → R vs H → R vs H'
/-- a new tuple, a new list -/
theorem evp_tup {t : TA} {R : List V → Hp → Prop} (h : EaP t σ B R) (hz : ∀ vs H1, R vs H1 → vs.length ≤ 1000) (hR : MonL R) : EvP (tTup t) σ B fun v B2 => ∃ p vs, v = .ref p ∧ B2 p = some (.tup vs) ∧ R vs B2 := fun H1 e Q q =>
  h H1 e _ fun vs B2 H2 g r => ⟨sz_of (Nat.le_trans (hz vs B2 r) (by decide)), fun p hp => q _ _ _ (g.new hp) ⟨p, vs, rfl, upd_same, hR vs _ _ (Ex.new (fresh_back g.bh hp)) r⟩⟩
theorem evp_lst {t : TA} {R : List V → Hp → Prop} (h : EaP t σ B R) (hz : ∀ vs H1, R vs H1 → vs.length ≤ 1000) (hR : MonL R) : EvP (tLst t) σ B fun v B2 => ∃ p vs, v = .ref p ∧ B2 p = some (.lst vs) ∧ R vs B2 := fun H1 e Q q =>
  h H1 e _ fun vs B2 H2 g r => ⟨sz_of (Nat.le_trans (hz vs B2 r) (by decide)), fun p hp => q _ _ _ (g.new hp) ⟨p, vs, rfl, upd_same, hR vs _ _ (Ex.new (fresh_back g.bh hp)) r⟩⟩
/-- an operator, the operands told by predicates -/
theorem evp_op {r : R2} {P R S : V → Hp → Prop} (hm : Mon P) (ha : EvP ta σ B P) (hb : ∀ B1, Ex B B1 → EvP tb σ B1 R) (hr : ∀ x y B1 H1, Ex B B1 → P x B1 → R y B1 → Ex B1 H1 → ∀ Q : VK, (∀ v B2 H2, Gr B1 H1 B2 H2 → S v B2 → Q v H2) → r x y H1 Q) : EvP (tOp r ta tb) σ B S := fun H1 e Q q =>
  ha H1 e _ fun x B2 H2 g p => hb B2 g.b H2 g.bh _ fun y B3 H3 g3 p3 => hr x y B3 H3 (g.b.trans g3.b) (hm x B2 B3 g3.b p) p3 g3.bh _ fun v B4 H4 g4 s => q v B4 H4 ((g.trans g3).trans g4) s
/-- a call of a built-in -/
theorem evp_cb {r : List V → Hp → VK → Prop} {t : TA} {R : List V → Hp → Prop} {S : V → Hp → Prop} (h : EaP t σ B R) (hr : ∀ vs B1 H1, Ex B B1 → R vs B1 → Ex B1 H1 → ∀ Q : VK, (∀ v B2 H2, Gr B1 H1 B2 H2 → S v B2 → Q v H2) → r vs H1 Q) : EvP (tCB r t) σ B S := fun H1 e Q q =>
  h H1 e _ fun vs B2 H2 g p => hr vs B2 H2 g.b p g.bh _ fun v B4 H4 g4 s => q v B4 H4 (g.trans g4) s
theorem evp_if {P : V → Hp → Prop} {b : Bool} (h : EvT tt σ B b) (h1 : b = true → EvP ta σ B P) (h2 : b = false → EvP tb σ B P) : EvP (tIf tt ta tb) σ B P := fun H1 e Q q => h H1 e _ fun H2 e2 => by
  cases b with
  | true => show (if true = true then _ else _); rw [if_pos rfl]; exact h1 rfl H2 (e.trans e2) _ fun v B3 H3 g p => q v B3 H3 ((Gr.ex e e2).trans g) p
  | false => show (if false = true then _ else _); rw [if_neg Bool.false_ne_true]; exact h2 rfl H2 (e.trans e2) _ fun v B3 H3 g p => q v B3 H3 ((Gr.ex e e2).trans g) p
end NP
end

section
set_option maxHeartbeats 4000000
/-! defs of the text as callees; comprehensions and loops over any walk -/
namespace NP
open PySem PySem.Spec PyProof.Rows L2 Evl
/-! ### callees -/
structure Cal (P : Program) (w : World) (K : PySem.W.Frag) (mg : Str → Option Value) (base : Heap) (k : Nat) (x : Str) (ps : List Str) (sp : Sp) : Prop where
  ex : ∃ f fd, FnOk P w K mg base L2.CX0 k f fd ps sp ∧ mg x = some (.ref f) ∧ PySem.W.keepIn K (.ref f) = true ∧ Binds K fd ps []
structure CalM (P : Program) (w : World) (K : PySem.W.Frag) (mg : Str → Option Value) (base : Heap) (k : Nat) (C : Addr) (m : Str) (ps : List Str) (sp : Sp) : Prop where
  ex : ∃ f fd, FnOk P w K mg base L2.CX0 k f fd ps sp ∧ Meth K C m f ∧ Binds K fd ps []
structure CalG (P : Program) (w : World) (K : PySem.W.Frag) (mg : Str → Option Value) (base : Heap) (k : Nat) (C : Addr) (m : Str) (sp : Sp) : Prop where
  ex : ∃ p g fd, PropOf K C m p g ∧ FnOk P w K mg base L2.CX0 k g fd ["self"] sp ∧ Binds K fd ["self"] []
section
variable {X : Cx} {k j : Nat} {x m : Str} {ps : List Str} {sp : Sp} {e o : Expr} {es : List Expr} {t : TA} {ta : TE} {p pos apos : Pos} {C : Addr}
theorem pe_cal (c : Cal X.prog X.w X.K X.mg X.base j x ps sp) (hr : Room k X.A) (hk : j ≤ k) (hg : Gl X x) (ha : PA X (e :: es) t) (hdb : (x == ("__debug__" : Str)) = false := by decide)
    (he : starEach (e :: es) X.env = (false, eval e X.env) :: starEach es X.env := by rfl) (hpl : (backTo pos (starEach es X.env)).any (·.1) = false := by rfl) : PE X (.Call (.Name x p) (e :: es) [] pos) (tCall sp [] L2.E0 t) := by
  obtain ⟨f, fd, F, hm, hkp, hb⟩ := c.ex
  exact pe_call F (hr.mono hk) hg hm hkp hb .nil L2.pass0 ha hdb he hpl
theorem pe_calM {pl : Sem Bool} (c : CalM X.prog X.w X.K X.mg X.base j C m ps sp) (he : PE X o ta) (cl : Cls X.K C) (hr : Room k X.A) (hk : j ≤ k) (ha : PA X (e :: es) t)
    (hst : starEach (e :: es) X.env = (false, eval e X.env) :: starEach es X.env := by rfl) (hpl : (backTo pos (starEach es X.env)).any (·.1) = false := by rfl)
    (ht : eval (.Call (.Attribute o m apos) (e :: es) [] pos) X.env = (do
      let ov ← eval o X.env
      standAt apos.atName
      let (f, first) ← holding [ov] (getMethod ov m pl)
      callWith pos f first (backTo pos (starEach (e :: es) X.env)) (backToKw pos (keywordEach [] X.env))) := by rfl) :
    PE X (.Call (.Attribute o m apos) (e :: es) [] pos) (tMeth C m sp [] L2.E0 ta t) := by
  obtain ⟨f, fd, F, hm, hb⟩ := c.ex
  exact pe_meth he cl hm F (hr.mono hk) hb .nil L2.pass0 ha hst hpl ht
theorem pe_calM0 {pl : Sem Bool} (c : CalM X.prog X.w X.K X.mg X.base j C m ps sp) (he : PE X o ta) (cl : Cls X.K C) (hr : Room k X.A) (hk : j ≤ k)
    (ht : eval (.Call (.Attribute o m apos) [] [] pos) X.env = (do
      let ov ← eval o X.env
      standAt apos.atName
      let (f, first) ← holding [ov] (getMethod ov m pl)
      callWith pos f first (backTo pos (starEach [] X.env)) (backToKw pos (keywordEach [] X.env))) := by rfl) :
    PE X (.Call (.Attribute o m apos) [] [] pos) (tMeth C m sp [] L2.E0 ta tNil) := by
  obtain ⟨f, fd, F, hm, hb⟩ := c.ex
  exact pe_meth0 he cl hm F (hr.mono hk) hb .nil L2.pass0 ht
theorem pe_calG (c : CalG X.prog X.w X.K X.mg X.base j C m sp) (he : PE X o ta) (cl : Cls X.K C) (hr : Room k X.A) (hk : j + 1 ≤ k)
    (hab : attributeBase o m X.env (eval o X.env) = eval o X.env := by rfl) : PE X (.Attribute o m pos) (tProp C sp [] L2.E0 ta) := by
  obtain ⟨p, g, fd, hp, F, hb⟩ := c.ex
  exact pe_prop he cl hp F (hr.mono hk) hb .nil L2.pass0 hab
end
/-- e by one rule or another -/
theorem pe_alt {X : Cx} {e : Expr} {t u : TE} (h : PE X e t) (h' : PE X e u) : PE X e (fun σ H Q => t σ H Q ∨ u σ H Q) := ⟨fun pins s σ H Q I q => q.elim (h.run pins s σ H Q I) (h'.run pins s σ H Q I)⟩
theorem pi_alt {X : Cx} {tg e : Expr} {t u : TI} (h : PI X tg e t) (h' : PI X tg e u) : PI X tg e (fun σ H Q => t σ H Q ∨ u σ H Q) := ⟨fun pins s σ H Q I q => q.elim (h.run pins s σ H Q I) (h'.run pins s σ H Q I)⟩
section
variable {σ : L2.St} {B B1 B2 H H1 H2 : Hp} {te ta tb u : TE} {tt : TT}
theorem evp_l {P : V → Hp → Prop} (h : EvP te σ H P) : EvP (fun σ H Q => te σ H Q ∨ u σ H Q) σ H P := fun H1 e Q q => .inl (h H1 e Q q)
theorem evp_r {P : V → Hp → Prop} (h : EvP te σ H P) : EvP (fun σ H Q => u σ H Q ∨ te σ H Q) σ H P := fun H1 e Q q => .inr (h H1 e Q q)
theorem ev_l {v : V} (h : Ev te σ H v) : Ev (fun σ H Q => te σ H Q ∨ u σ H Q) σ H v := fun H1 e Q q => .inl (h H1 e Q q)
theorem ev_r {v : V} (h : Ev te σ H v) : Ev (fun σ H Q => u σ H Q ∨ te σ H Q) σ H v := fun H1 e Q q => .inr (h H1 e Q q)
/-! ### what is walked -/
/-- wi gives the walk J -/
def EvI (wi : TI) (σ : L2.St) (H : Hp) (J : It) : Prop := ∀ H1, Ex H H1 → ∀ R : It → Hp → Prop, (∀ H2, Ex H1 H2 → R J H2) → wi σ H1 R
theorem ei_l {wi wj : TI} {J : It} (h : EvI wi σ H J) : EvI (fun σ H Q => wi σ H Q ∨ wj σ H Q) σ H J := fun H1 e Q q => .inl (h H1 e Q q)
theorem ei_r {wi wj : TI} {J : It} (h : EvI wi σ H J) : EvI (fun σ H Q => wj σ H Q ∨ wi σ H Q) σ H J := fun H1 e Q q => .inr (h H1 e Q q)
theorem ei_list {K : PySem.W.Frag} {a : Addr} {xs : List V} (h : Ev te σ H (.ref a)) (hs : SqL K H a xs) : EvI (iList K te) σ H (Itl K a) := fun H1 e R q => h H1 e _ fun H2 e2 => ⟨a, rfl, ⟨xs, ex_l (e.trans e2) hs⟩, q H2 e2⟩
theorem ei_tup {K : PySem.W.Frag} {a : Addr} {xs : List V} (h : Ev te σ H (.ref a)) (hs : SqT K H a xs) : EvI (iTup K te) σ H (Itt K a) := fun H1 e R q => h H1 e _ fun H2 e2 => ⟨a, rfl, ⟨xs, ex_t (e.trans e2) hs⟩, q H2 e2⟩
theorem ei_enumT {K : PySem.W.Frag} {a : Addr} {xs : List V} {t : TA} (h : EvA t σ H [.ref a]) (hs : SqT K H a xs) : EvI (iEnumT K t) σ H (IteT K a) := fun H1 e R q => h H1 e _ fun H2 e2 => ⟨a, xs, rfl, ex_t (e.trans e2) hs, q H2 e2⟩
theorem ei_enumL {K : PySem.W.Frag} {a : Addr} {xs : List V} {t : TA} (h : EvA t σ H [.ref a]) (hs : SqL K H a xs) : EvI (iEnum K t) σ H (Ite K a) := fun H1 e R q => h H1 e _ fun H2 e2 => ⟨a, xs, rfl, ex_l (e.trans e2) hs, q H2 e2⟩
theorem ei_str {z : Str} (h : Ev te σ H (.str z)) : EvI (iStr te) σ H (Its z) := fun H1 e R q => h H1 e _ fun H2 e2 => ⟨z, rfl, q H2 e2⟩
theorem ei_range1 {t : TA} {n : Nat} (h : EvA t σ H [.int n]) (hn : n ≤ 100000) : EvI (iRng1 t) σ H (Itr 0 n) := fun H1 e R q => h H1 e _ fun H2 e2 => ⟨(n : Nat), rfl, by omega, by omega, q H2 e2⟩
/-! ### comprehensions -/
/-- one turn's target: slots st a for the item of l at i -/
def Bnd {α : Type} (Y : Nat → Hp → V → Hp → Prop) (g : TG) (σ0 : L2.St) (H : Hp) (l : List α) (st : α → L2.St) : Prop :=
  ∀ i (hi : i < l.length) x H1 H1', Ex H H1 → Y i H1 x H1' → Ex H1 H1' ∧ ∀ k : L2.St → Hp → Prop, k (st l[i]) H1' → g x σ0 H1' k
theorem paired_snoc {α β : Type} {R : α → β → Prop} : ∀ {l : List α} {ys : List β} {a : α} {y : β}, Paired R l ys → R a y → Paired R (l ++ [a]) (ys ++ [y])
  | _, _, _, _, .nil, h => .cons h .nil
  | _, _, _, _, .cons r t, h => .cons r (paired_snoc t h)
theorem paired_imp {α β : Type} {R R' : α → β → Prop} (f : ∀ a b, R a b → R' a b) : ∀ {l : List α} {ys : List β}, Paired R l ys → Paired R' l ys
  | _, _, .nil => .nil
  | _, _, .cons r t => .cons (f _ _ r) (paired_imp f t)
theorem paired_eq {α β : Type} {f : α → β} : ∀ {l : List α} {ys : List β}, Paired (fun a y => y = f a) l ys → ys = l.map f
  | _, _, .nil => rfl
  | _, _, .cons r t => by rw [List.map_cons, ← paired_eq t, ← r]
theorem take_filter_yes {α : Type} {l : List α} {q : α → Bool} {i : Nat} (hi : i < l.length) (h : q l[i] = true) : (l.take (i + 1)).filter q = (l.take i).filter q ++ [l[i]] := by
  rw [List.take_add_one, List.getElem?_eq_getElem hi, List.filter_append]
  simp [h]
theorem take_filter_no {α : Type} {l : List α} {q : α → Bool} {i : Nat} (hi : i < l.length) (h : q l[i] = false) : (l.take (i + 1)).filter q = (l.take i).filter q := by
  rw [List.take_add_one, List.getElem?_eq_getElem hi, List.filter_append]
  simp [h]
/-- two known parts of one heap together -/
def join (B B' : Hp) : Hp := fun a => match B a with
  | some o => some o
  | none => B' a
theorem join_l {B B' : Hp} : Ex B (join B B') := fun a o h => by unfold join; rw [h]
theorem join_r {B B' H : Hp} (h1 : Ex B H) (h2 : Ex B' H) : Ex B' (join B B') := fun a o h => by
  unfold join
  cases q : B a with
  | none => exact h
  | some u => rw [← h1 a u q, h2 a o h]
theorem join_in {B B' H : Hp} (h1 : Ex B H) (h2 : Ex B' H) : Ex (join B B') H := fun a o h => by
  unfold join at h
  cases q : B a with
  | none => rw [q] at h; exact h2 a o h
  | some u => rw [q] at h; rw [h1 a u q]; exact h
theorem back_none {B B' : Hp} (e : Ex B B') {a : Addr} (h : B' a = none) : B a = none := fresh_back e h
theorem EvP.up {P : V → Hp → Prop} (hm : Mon P) (h : EvP te σ B P) (e : Ex B B1) : EvP te σ B1 P := fun H1 e1 Q q => h H1 (e.trans e1) Q fun v B2 H2 g p =>
  q v (join B2 B1) H2 ⟨join_r g.bh (e1.trans g.h), join_in g.bh (e1.trans g.h), g.h, fun a h1 h2 => by
    unfold join
    rw [g.av a h1 (back_none e h2)]
    exact h2⟩ (hm v _ _ join_l p)
theorem mon_paired {α : Type} {P : α → V → Hp → Prop} {Ha Hb : Hp} (ex : Ex Ha Hb) : ∀ {l : List α} {ys : List V}, (∀ a ∈ l, Mon (P a)) → Paired (fun a y => P a y Ha) l ys → Paired (fun a y => P a y Hb) l ys
  | _, _, _, .nil => .nil
  | _, _, hm, .cons r t => .cons (hm _ List.mem_cons_self _ _ _ ex r) (mon_paired ex (fun b hb => hm b (List.mem_cons_of_mem _ hb)) t)
/-- [e for .. in .. if ..]: for the kept items of l what e gives -/
theorem evp_lc {α : Type} {l : List α} {wi : TI} {g : TG} {vs : List Nat} {J : It} {G : Hp → Prop} {Y : Nat → Hp → V → Hp → Prop} {st : α → L2.St} {q : α → Bool} {P : α → V → Hp → Prop} (hz : l.length ≤ 90000) (hi : EvI wi σ B J) (w : Walk J l.length G Y) (hG : ∀ H1, Ex B H1 → G H1)
    (hb : Bnd Y g (L2.wipe σ vs) B l st) (hst : ∀ a ∈ l, L2.wipe (st a) vs = L2.wipe σ vs) (ht : ∀ a ∈ l, EvT tt (st a) B (q a)) (hm : ∀ a ∈ l, Mon (P a)) (he : ∀ a ∈ l, q a = true → EvP te (st a) B (P a)) :
    EvP (tLc wi g tt te vs) σ B fun v B2 => ∃ p ys, v = .ref p ∧ B2 p = some (.lst ys) ∧ Paired (fun a y => P a y B2) (l.filter q) ys := fun H1 e Q k => by
  refine hi H1 e _ fun H2 e2 D hD => ?_
  have hD1 : H1 D = none := fresh_back e2 hD
  refine lc_it w (fun i H' => ∃ B' ys, Gr B H1 B' H' ∧ B' D = none ∧ H' D = some (.lst ys) ∧ ys.length ≤ i ∧ Paired (fun a y => P a y B') ((l.take i).filter q) ys)
    ⟨B, [], (Gr.ex e (e2.trans (Ex.new hD))), fresh_back e hD1, upd_same, Nat.le_refl _, by simp; exact .nil⟩
    (fun i H' _ ⟨B', ys, gr, _⟩ => hG H' (gr.b.trans gr.bh)) (fun i x H' H'' hlt ⟨B', ys, gr, hBD, hD3, hl3, hp3⟩ y => ?_) fun H' ⟨B', ys, gr, hBD, hD3, _, hp3⟩ => ?_
  · obtain ⟨e4, hgo⟩ := hb i hlt x H' H'' (gr.b.trans gr.bh) y
    have memi := List.getElem_mem hlt
    refine hgo _ ⟨hst _ memi, ?_⟩
    refine ht _ memi H'' ((gr.b.trans gr.bh).trans e4) _ fun H4 e5 => ?_
    have gr4 := gr.up (e4.trans e5)
    have hD4 : H4 D = some (.lst ys) := (e4.trans e5) _ _ hD3
    cases hq : q l[i] with
    | true =>
      rw [if_pos rfl]
      refine (he _ memi hq).up (hm _ memi) gr.b H4 (gr.bh.trans (e4.trans e5)) _ fun v B5 H5 g5 pv => ?_
      have hD5 : H5 D = some (.lst ys) := g5.h _ _ hD4
      have hB5 : B5 D = none := g5.av D (by rw [hD4]; simp) hBD
      have g15 := gr4.trans g5
      refine ⟨ys, hD5, sz_lt (by omega), B5, ys ++ [v], ⟨g15.b, Ex.mut g15.bh hB5, Ex.mut g15.h hD1, g15.av⟩, hB5, upd_same, by rw [List.length_append]; exact Nat.add_le_add_right hl3 1, ?_⟩
      rw [take_filter_yes hlt hq]
      exact paired_snoc (mon_paired g5.b (fun a ha => hm a (List.mem_of_mem_take (List.mem_filter.mp ha).1)) hp3) pv
    | false =>
      rw [if_neg Bool.false_ne_true]
      refine ⟨B', ys, gr4, hBD, hD4, Nat.le_succ_of_le hl3, ?_⟩
      rw [take_filter_no hlt hq]
      exact hp3
  · rw [List.take_length] at hp3
    refine k _ (upd B' D (.lst ys)) H' ⟨gr.b.trans (Ex.new hBD), fun a u h => ?_, gr.h, fun a h1 h2 => ?_⟩ ⟨D, ys, rfl, upd_same, mon_paired (Ex.new hBD) (fun a ha => hm a (List.mem_filter.mp ha).1) hp3⟩
    · by_cases z : a = D
      · subst z; rw [upd_same] at h; rw [hD3]; exact h
      · rw [upd_ne z] at h; exact gr.bh a u h
    · have z : a ≠ D := fun z => h1 (z ▸ hD1)
      rw [upd_ne z]; exact gr.av a h1 h2
/-- a dict comprehension over any walk -/
theorem dc_it {J : It} {n : Nat} {G : Hp → Prop} {Y : Nat → Hp → V → Hp → Prop} (w : Walk J n G Y) {g : TG} {tk tv : TE} {vs : List Nat} {D : Addr} {Qd : Hp → Prop} (Pv : Nat → Hp → Prop) (h0 : Pv 0 (upd H1 D (.dK []))) (hG : ∀ i H, i ≤ n → Pv i H → G H)
    (hs : ∀ i x H H', i < n → Pv i H → Y i H x H' → g x (L2.wipe σ vs) H' fun σ2 H2 => L2.wipe σ2 vs = L2.wipe σ vs ∧ tt σ2 H2 fun b H3 =>
      if b = true then tk σ2 H3 fun y H4 => tv σ2 H4 fun z H5 => ∃ kvs k, y = kV k ∧ H5 D = some (.dK kvs) ∧ kvs.length < sizeLine ∧ Pv (i + 1) (upd H5 D (.dK (putK kvs k z))) else Pv (i + 1) H3) (hd : ∀ H, Pv n H → Qd H) :
    ∃ W : Nat → Nat → Hp → Prop, (∃ m, W 0 m (upd H1 D (.dK []))) ∧ ∀ i m H, W i m H →
      (J.stop i H ∧ Qd H) ∨ (J.go i H ∧ ∃ Nx : Hp → Prop, (∀ H', Nx H' → ∃ m', m' < m ∧ W (i + 1) m' H') ∧ ∀ x H', J.yld i H x H' → g x (L2.wipe σ vs) H' fun σ2 H2 => L2.wipe σ2 vs = L2.wipe σ vs ∧ tt σ2 H2 fun b H3 =>
        if b = true then tk σ2 H3 fun y H4 => tv σ2 H4 fun z H5 => ∃ kvs k, y = kV k ∧ H5 D = some (.dK kvs) ∧ kvs.length < sizeLine ∧ Nx (upd H5 D (.dK (putK kvs k z))) else Nx H3) := by
  refine ⟨fun i m H => m = n - i ∧ i ≤ n ∧ Pv i H, ⟨n, by simp, Nat.zero_le _, h0⟩, ?_⟩
  rintro i m H ⟨rfl, hi, p⟩
  have q := hG i H hi p
  by_cases hlt : i < n
  · exact .inr ⟨w.goes i H hlt q, Pv (i + 1), fun H' p' => ⟨n - (i + 1), by omega, rfl, hlt, p'⟩, fun x H' y => hs i x H H' hlt p (w.yields i H x H' hlt q y)⟩
  · have e : i = n := by omega
    subst e
    exact .inl ⟨w.stops H q, hd H p⟩
theorem putK_new {kvs : List (Key × V)} {k : Key} {v : V} (h : k ∉ kvs.map (·.1)) : putK kvs k v = kvs ++ [(k, v)] := by
  unfold putK
  rw [if_neg]
  intro z
  obtain ⟨p, hp, e⟩ := List.any_eq_true.mp z
  exact h (List.mem_map.mpr ⟨p, hp, of_decide_eq_true e⟩)
theorem paired_len {α β : Type} {R : α → β → Prop} : ∀ {l : List α} {ys : List β}, Paired R l ys → l.length = ys.length
  | _, _, .nil => rfl
  | _, _, .cons _ t => by rw [List.length_cons, List.length_cons, paired_len t]
/-- {k: v for .. in ..}: distinct texts as keys -/
theorem evp_dc {α : Type} {l : List α} {wi : TI} {g : TG} {vs : List Nat} {J : It} {G : Hp → Prop} {Y : Nat → Hp → V → Hp → Prop} {st : α → L2.St} {tk tv : TE} {key : α → Str} {P : α → V → Hp → Prop} (hz : l.length ≤ 90000) (hi : EvI wi σ B J) (w : Walk J l.length G Y) (hG : ∀ H1, Ex B H1 → G H1)
    (hb : Bnd Y g (L2.wipe σ vs) B l st) (hst : ∀ a ∈ l, L2.wipe (st a) vs = L2.wipe σ vs) (hk : ∀ a ∈ l, Ev tk (st a) B (.str (key a))) (hnd : (l.map key).Nodup) (hm : ∀ a ∈ l, Mon (P a)) (he : ∀ a ∈ l, EvP tv (st a) B (P a)) :
    EvP (tDc wi g tYes tk tv vs) σ B fun v B2 => ∃ p ys, v = .ref p ∧ B2 p = some (.dK ((l.map fun a => (Sum.inr (key a) : Key)).zip ys)) ∧ Paired (fun a y => P a y B2) l ys := fun H1 e Q k => by
  refine hi H1 e _ fun H2 e2 D hD => ?_
  have hD1 : H1 D = none := fresh_back e2 hD
  refine dc_it w (fun i H' => ∃ B' ys, Gr B H1 B' H' ∧ B' D = none ∧ H' D = some (.dK (((l.take i).map fun a => (Sum.inr (key a) : Key)).zip ys)) ∧ Paired (fun a y => P a y B') (l.take i) ys)
    ⟨B, [], (Gr.ex e (e2.trans (Ex.new hD))), fresh_back e hD1, by rw [upd_same]; simp, by simp; exact .nil⟩
    (fun i H' _ ⟨B', ys, gr, _⟩ => hG H' (gr.b.trans gr.bh)) (fun i x H' H'' hlt ⟨B', ys, gr, hBD, hD3, hp3⟩ y => ?_) fun H' ⟨B', ys, gr, hBD, hD3, hp3⟩ => ?_
  · obtain ⟨e4, hgo⟩ := hb i hlt x H' H'' (gr.b.trans gr.bh) y
    have memi := List.getElem_mem hlt
    refine hgo _ ⟨hst _ memi, ?_⟩
    unfold tYes
    dsimp only
    rw [if_pos rfl]
    have gr4 := gr.up e4
    refine hk _ memi H'' (gr4.b.trans gr4.bh) _ fun H4 e5 => ?_
    have gr5 := gr4.up e5
    refine (he _ memi).up (hm _ memi) gr.b H4 gr5.bh _ fun v B5 H5 g5 pv => ?_
    have hD5 : H5 D = some (.dK (((l.take i).map fun a => (Sum.inr (key a) : Key)).zip ys)) := g5.h _ _ ((e4.trans e5) _ _ hD3)
    have hB5 : B5 D = none := g5.av D (by rw [(e4.trans e5) _ _ hD3]; simp) hBD
    have g15 := gr5.trans g5
    have hl := paired_len hp3
    have hlz : ((l.take i).map fun a => (Sum.inr (key a) : Key)).length = ys.length := by rw [List.length_map]; exact hl
    have hli : (l.take i).length = i := by rw [List.length_take]; omega
    have hput : putK (((l.take i).map fun a => (Sum.inr (key a) : Key)).zip ys) (Sum.inr (key l[i])) v = ((l.take (i + 1)).map fun a => (Sum.inr (key a) : Key)).zip (ys ++ [v]) := by
      have et : l.take (i + 1) = l.take i ++ [l[i]] := by rw [List.take_add_one, List.getElem?_eq_getElem hlt]; rfl
      rw [putK_new, et, List.map_append, List.zip_append hlz]
      · rfl
      · intro hmem
        rw [List.map_fst_zip (by omega)] at hmem
        obtain ⟨b, hb', e'⟩ := List.mem_map.mp hmem
        have e2' : key b = key l[i] := Sum.inr.inj e'
        have hnd2 : ((l.take (i + 1)).map key).Nodup := (List.take_sublist _ _).map key |>.nodup hnd
        rw [et, List.map_append, List.nodup_append] at hnd2
        exact hnd2.2.2 (key b) (List.mem_map.mpr ⟨b, hb', rfl⟩) (key l[i]) (by simp) e2'
    refine ⟨_, Sum.inr (key l[i]), rfl, hD5, sz_lt (by rw [List.length_zip, hlz, Nat.min_self, ← hl, hli]; omega), B5, ys ++ [v], ⟨g15.b, Ex.mut g15.bh hB5, Ex.mut g15.h hD1, g15.av⟩, hB5, by rw [upd_same, hput], ?_⟩
    have et : l.take (i + 1) = l.take i ++ [l[i]] := by rw [List.take_add_one, List.getElem?_eq_getElem hlt]; rfl
    rw [et]
    exact paired_snoc (mon_paired g5.b (fun a ha => hm a (List.mem_of_mem_take ha)) hp3) pv
  · rw [List.take_length] at hp3 hD3
    refine k _ (upd B' D (.dK ((l.map fun a => (Sum.inr (key a) : Key)).zip ys))) H' ⟨gr.b.trans (Ex.new hBD), fun a u h => ?_, gr.h, fun a h1 h2 => ?_⟩ ⟨D, ys, rfl, upd_same, mon_paired (Ex.new hBD) (fun a ha => hm a ha) hp3⟩
    · by_cases z : a = D
      · subst z; rw [upd_same] at h; rw [hD3]; exact h
      · rw [upd_ne z] at h; exact gr.bh a u h
    · have z : a ≠ D := fun z => h1 (z ▸ hD1)
      rw [upd_ne z]; exact gr.av a h1 h2
/-! ### targets -/
theorem paired_at {α β : Type} {R : α → β → Prop} : ∀ {l : List α} {ys : List β}, Paired R l ys → ∀ {i : Nat} (hi : i < l.length) {y : β}, ys[i]? = some y → R l[i] y
  | _, _, .cons r t, 0, _, y, h => by simp at h; subst h; exact r
  | _, _, .cons r t, i + 1, hi, y, h => by simp at h; exact paired_at t (Nat.lt_of_succ_lt_succ hi) h
/-- x, over a sequence -/
theorem bnd_name {xs : List V} {σ0 : L2.St} {j : Nat} : Bnd (YAt xs) (gName j) σ0 B xs (fun a => σ0.set j (some a)) := fun i hi x H1 H1' _ y => by
  obtain ⟨rfl, hx⟩ := y
  rw [List.getElem?_eq_getElem hi] at hx
  cases hx
  exact ⟨Ex.refl _, fun k h => h⟩
theorem bnd_map {α : Type} {l : List α} {f : α → V} {σ0 : L2.St} {j : Nat} : Bnd (YAt (l.map f)) (gName j) σ0 B l (fun a => σ0.set j (some (f a))) := fun i hi x H1 H1' _ y => by
  obtain ⟨rfl, hx⟩ := y
  rw [List.getElem?_map, List.getElem?_eq_getElem hi] at hx
  cases hx
  exact ⟨Ex.refl _, fun k h => h⟩
/-- x, over range(n) -/
theorem bnd_range {n : Nat} {σ0 : L2.St} {j : Nat} : Bnd (YFn fun i => .int (0 + i)) (gName j) σ0 B (List.range n) (fun a => σ0.set j (some (.int (a : Nat)))) := fun i hi x H1 H1' _ y => by
  obtain ⟨rfl, rfl⟩ := y
  refine ⟨Ex.refl _, fun k h => ?_⟩
  rw [List.getElem_range] at h
  show k (σ0.set j (some (.int (0 + (i : Nat))))) _
  rw [Int.zero_add]
  exact h
/-- a, b over a sequence of pairs -/
theorem bnd_pair {α : Type} {K : PySem.W.Frag} {l : List α} {xs : List V} {f g : α → V} {σ0 : L2.St} {i1 i2 : Nat} (hp : Paired (fun a x => ∃ p, x = .ref p ∧ SqT K B p [f a, g a]) l xs) :
    Bnd (YAt xs) (gTup K 2 (gCons (gName i1) (gCons (gName i2) gNil))) σ0 B l (fun a => (σ0.set i1 (some (f a))).set i2 (some (g a))) := fun i hi x H1 H1' e y => by
  obtain ⟨rfl, hx⟩ := y
  obtain ⟨p, rfl, hs⟩ := paired_at hp hi hx
  exact ⟨Ex.refl _, fun k h => ⟨p, _, rfl, ex_t e hs, rfl, _, _, rfl, _, _, rfl, rfl, h⟩⟩
/-- i, x over enumerate -/
theorem bnd_enum {α : Type} {K : PySem.W.Frag} {l : List α} {f : α → V} {σ0 : L2.St} {i1 i2 : Nat} :
    Bnd (YPair (fun i => some (.int (i : Nat))) (fun i => (l.map f)[i]?)) (gTup K 2 (gCons (gName i1) (gCons (gName i2) gNil))) σ0 B l.zipIdx (fun a => (σ0.set i1 (some (.int (a.2 : Nat)))).set i2 (some (f a.1))) := fun i hi x H1 H1' e y => by
  obtain ⟨T, u, v, rfl, hT, rfl, h1, h2⟩ := y
  cases h1
  have hi' : i < l.length := by simpa using hi
  simp only [List.getElem?_map, List.getElem?_eq_getElem hi'] at h2
  cases h2
  refine ⟨Ex.new hT, fun k h => ⟨T, _, rfl, st_of upd_same, rfl, _, _, rfl, _, _, rfl, rfl, ?_⟩⟩
  rw [List.getElem_zipIdx, Nat.zero_add] at h
  exact h
/-! ### loops -/
theorem s_for {wi : TI} {g : TG} {tb : TS} {D : Ends} {J : It} {n : Nat} {G : Hp → Prop} {Y : Nat → Hp → V → Hp → Prop} (hB : Ex B H) (hi : EvI wi σ B J) (w : Walk J n G Y) (Pv : Nat → L2.St → Hp → Prop) (h0 : ∀ H1, Ex H H1 → Pv 0 σ H1) (hG : ∀ i σ' H', i ≤ n → Pv i σ' H' → G H')
    (turn : ∀ i x σ' H' H'', i < n → Pv i σ' H' → Y i H' x H'' → g x σ' H'' fun σ2 H2 => tb { D with nx := Pv (i + 1), ct := Pv (i + 1), bk := D.nx } σ2 H2) (hd : ∀ σ' H', Pv n σ' H' → D.nx σ' H') : tFor wi g tb D σ H :=
  hi H hB _ fun H2 e2 => for_it w Pv (h0 H2 e2) hG turn hd
theorem q_for {wi : TI} {g : TG} {tb tz : TS} {D : Ends} {J : It} {n : Nat} {G : Hp → Prop} {Y : Nat → Hp → V → Hp → Prop} (hB : Ex B H) (hi : EvI wi σ B J) (w : Walk J n G Y) (Pv : Nat → L2.St → Hp → Prop) (h0 : ∀ H1, Ex H H1 → Pv 0 σ H1) (hG : ∀ i σ' H', i ≤ n → Pv i σ' H' → G H')
    (turn : ∀ i x σ' H' H'', i < n → Pv i σ' H' → Y i H' x H'' → g x σ' H'' fun σ2 H2 => tb { D with nx := Pv (i + 1), ct := Pv (i + 1), bk := tz D } σ2 H2) (hd : ∀ σ' H', Pv n σ' H' → tz D σ' H') : tSeq (tFor wi g tb) tz D σ H :=
  hi H hB _ fun H2 e2 => for_it (D := { D with nx := tz D }) w Pv (h0 H2 e2) hG turn hd
end
end NP
namespace NP
open PySem PySem.Spec PyProof.Rows L2 Evl
theorem mkCal {P : Program} {w : World} {K : PySem.W.Frag} {mg : Str → Option Value} {base : Heap} {k : Nat} {x qual : Str} {params : Arguments} {body : List Stmt} {scope : Scope} {f : Addr} {fd : FuncData} {N ps : List Str} {sp : Sp} (D : FunD K x qual params body scope [] [] f fd) (S : FnScope N ps scope)
    (g : mg x = some (.ref f)) (hb : ∀ (kV doc pm : Value) (an : Option Addr) (cdv ct : Value) (us : List Value), us.length = ps.length → bindArgs (PySem.W.fnOf x qual params body scope .none kV doc pm an cdv ct) ⟨us, []⟩ = pure (ps.zip us))
    (len : ∀ vs H Q E, sp vs H Q E → vs.length = ps.length)
    (hbody : ∀ (cdv : Value) (A : Around) (outer : List Env) (s : Shared) (H : Hp) (vs : List V) (Q : VK) (E : XK), Room k (A.deeper (envOfC qual scope s.heap.objs.size f cdv)) → sp vs H Q E →
      ∃ t, PSs (cxOf L2.CX0 P w K mg base N qual scope f cdv A outer s H E).nox body t ∧ t { nx := fun _ H' => Q .non H', rt := Q } (L2.start N vs) H) : Cal P w K mg base (k + 1) x ps sp :=
  ⟨f, fd, D.ok S len (fun cdv A outer s H vs Q E hr h => let ⟨t, h1, h2⟩ := hbody cdv A outer s H vs Q E hr h; ⟨t, PSs.nox h1, h2⟩), g, D.kp, D.bindsN hb⟩
end NP
end

section
set_option maxHeartbeats 4000000
/-! small evaluations: isinstance, len, all, any, in, chains -/
namespace NP
open PySem PySem.Spec PyProof.Rows L2 Evl
section
variable {K : PySem.W.Frag} {σ : L2.St} {B B1 B2 H H1 H2 : Hp} {te ta tb tc u : TE} {tt : TT}
/-- a tuple or a list -/
def SqS (K : PySem.W.Frag) (H : Hp) (a : Addr) (xs : List V) : Prop := SqT K H a xs ∨ SqL K H a xs
theorem SqS.ex {a : Addr} {xs : List V} (h : SqS K H a xs) (e : Ex H H1) : SqS K H1 a xs := h.elim (fun h => .inl (ex_t e h)) fun h => .inr (ex_l e h)
theorem tyx_t {a : Addr} {xs : List V} (h : SqT K H a xs) : TyX K H (.ref a) (.type "tuple") := by
  rcases h with (h | ⟨o, h⟩) | ⟨o, its, n, h, c, _⟩
  · exact .base (.tup h)
  · exact .fTuple h
  · exact .kTuple h c
theorem tyx_l {a : Addr} {xs : List V} (h : SqL K H a xs) : TyX K H (.ref a) (.type "list") := by
  rcases h with (h | ⟨o, h⟩) | ⟨o, its, n, h, c, _⟩
  · exact .base (.lst h)
  · exact .base (.frz h)
  · exact .kList h c
theorem ev_isi {x c : V} {t w : Value} {b : Bool} (h : Ev ta σ B x) (hc : Ev tb σ B c) (cv : ClsV c w) (ty : ∀ H1, Ex B H1 → TyX K H1 x t) (hk : PySem.W.kitOne K t w = some b) : Ev (tCB (rIsi K) (tCons ta (tCons tb tNil))) σ B (.bl b) := fun H1 e Q q =>
  h H1 e _ fun H2 e2 => hc H2 (e.trans e2) _ fun H3 e3 => ⟨x, c, t, w, b, rfl, cv, ty H3 ((e.trans e2).trans e3), hk, q H3 (e2.trans e3)⟩
theorem ev_isiT {x c d : V} {t w z : Value} {b : Bool} (h : Ev ta σ B x) (hc : Ev tb σ B c) (hd : Ev tc σ B d) (cv : ClsV c w) (dv : ClsV d z) (ty : ∀ H1, Ex B H1 → TyX K H1 x t) (hk : PySem.W.kitAny K t [w, z] = some b) :
    Ev (tCB (rIsiT K) (tCons ta (tCons (tTup (tCons tb (tCons tc tNil))) tNil))) σ B (.bl b) := fun H1 e Q q =>
  h H1 e _ fun H2 e2 => hc H2 (e.trans e2) _ fun H3 e3 => hd H3 ((e.trans e2).trans e3) _ fun H4 e4 => ⟨by show 2 ≤ sizeLine; decide, fun p hp => by
    refine ⟨x, p, [c, d], t, [w, z], b, rfl, upd_same, .cons cv (.cons dv .nil), ty _ ((((e.trans e2).trans e3).trans e4).trans (Ex.new hp)), hk, q _ (((e2.trans e3).trans e4).trans (Ex.new hp))⟩⟩
/-- value is a tuple or a list: isinstance(value, (tuple, list)) -/
theorem ev_isSeq {a : Addr} {xs : List V} (h : Ev ta σ B (.ref a)) (hs : SqS K B a xs) : Ev (tCB (rIsiT K) (tCons ta (tCons (tTup (tCons (tC (.ty "tuple")) (tCons (tC (.ty "list")) tNil))) tNil))) σ B (.bl true) := by
  rcases hs with hs | hs
  · exact ev_isiT h ev_c ev_c (.ty _) (.ty _) (fun H1 e => tyx_t (ex_t e hs)) (kitAny_cons (b := true) (kit_ty (by decide +kernel)) (fun z => nomatch z) fun _ => rfl)
  · exact ev_isiT h ev_c ev_c (.ty _) (.ty _) (fun H1 e => tyx_l (ex_l e hs)) (kitAny_cons (b := false) (kit_ty (by decide +kernel)) (fun _ => kitAny_cons (b := true) (kit_ty (by decide +kernel)) (fun z => nomatch z) fun _ => rfl) fun z => nomatch z)
/-- len -/
abbrev rLn (K : PySem.W.Frag) : List V → Hp → VK → Prop := fun xs H Q => ∃ x n, xs = [x] ∧ LenV K x H n ∧ Q (.int n) H
theorem ev_lenSq {a : Addr} {xs : List V} (h : Ev ta σ B (.ref a)) (hs : SqS K B a xs) : Ev (tCB (rLn K) (tCons ta tNil)) σ B (.int (xs.length : Int)) := fun H1 e Q q =>
  h H1 e _ fun H2 e2 => ⟨.ref a, xs.length, rfl, (hs.ex (e.trans e2)).elim (fun z => .inr ⟨xs, z, rfl⟩) fun z => .inl ⟨xs, z, rfl⟩, q H2 e2⟩
theorem ev_lenSt {z : Str} (h : Ev ta σ B (.str z)) (hz : z.length ≤ 100000) : Ev (tCB (rLn K) (tCons ta tNil)) σ B (.int (z.length : Int)) := fun H1 e Q q =>
  h H1 e _ fun H2 e2 => ⟨.str z, z.length, rfl, ⟨sz_of hz, rfl⟩, q H2 e2⟩
/-- len of a new list or tuple -/
theorem ev_lenP {n : Nat} (h : EvP te σ B fun v B2 => ∃ p ys, v = .ref p ∧ (B2 p = some (.lst ys) ∨ B2 p = some (.tup ys)) ∧ ys.length = n) : Ev (tCB (rLn K) (tCons te tNil)) σ B (.int (n : Int)) := fun H1 e Q q =>
  h H1 e _ fun v B2 H2 g ⟨p, ys, ev, hp, hn⟩ => by
    subst ev hn
    exact ⟨.ref p, ys.length, rfl, hp.elim (fun z => .inl ⟨ys, sq_of (g.bh _ _ z), rfl⟩) fun z => .inr ⟨ys, st_of (g.bh _ _ z), rfl⟩, q H2 g.h⟩
/-- all, any of a comprehension of truths -/
theorem paired_bl {α : Type} {f : α → Bool} {l : List α} {ys : List V} (h : Paired (fun a y => y = V.bl (f a)) l ys) : ys = (l.map f).map V.bl := by
  rw [paired_eq h, List.map_map]
  rfl
theorem ev_all {α : Type} {f : α → Bool} {l : List α} {b : Bool} (h : EvP te σ B fun v B2 => ∃ p ys, v = .ref p ∧ B2 p = some (.lst ys) ∧ Paired (fun a y => y = V.bl (f a)) l ys) (hb : l.all f = b) : Ev (tCB (rAll K) (tCons te tNil)) σ B (.bl b) := fun H1 e Q q =>
  h H1 e _ fun v B2 H2 g ⟨p, ys, ev, hp, hy⟩ => by
    subst ev hb
    refine ⟨p, l.map f, rfl, sq_of (by rw [← paired_bl hy]; exact g.bh _ _ hp), ?_⟩
    have e1 : (l.map f).all id = l.all f := by simp [List.all_map]
    rw [e1]
    exact q H2 g.h
theorem ev_any {α : Type} {f : α → Bool} {l : List α} {b : Bool} (h : EvP te σ B fun v B2 => ∃ p ys, v = .ref p ∧ B2 p = some (.lst ys) ∧ Paired (fun a y => y = V.bl (f a)) l ys) (hb : l.any f = b) : Ev (tCB (rAny K) (tCons te tNil)) σ B (.bl b) := fun H1 e Q q =>
  h H1 e _ fun v B2 H2 g ⟨p, ys, ev, hp, hy⟩ => by
    subst ev hb
    refine ⟨p, l.map f, rfl, sq_of (by rw [← paired_bl hy]; exact g.bh _ _ hp), ?_⟩
    have e1 : (l.map f).any id = l.any f := by simp [List.any_map]
    rw [e1]
    exact q H2 g.h
/-- a comprehension without if whose items are values -/
theorem evp_lcV {α : Type} {l : List α} {wi : TI} {g : TG} {vs : List Nat} {J : It} {G : Hp → Prop} {Y : Nat → Hp → V → Hp → Prop} {st : α → L2.St} {f : α → V} (hz : l.length ≤ 90000) (hi : EvI wi σ B J) (w : Walk J l.length G Y) (hG : ∀ H1, Ex B H1 → G H1)
    (hb : Bnd Y g (L2.wipe σ vs) B l st) (hst : ∀ a ∈ l, L2.wipe (st a) vs = L2.wipe σ vs) (he : ∀ a ∈ l, Ev te (st a) B (f a)) : EvP (tLc wi g tYes te vs) σ B fun v B2 => ∃ p ys, v = .ref p ∧ B2 p = some (.lst ys) ∧ Paired (fun a y => y = f a) l ys := by
  have h := evp_lc (tt := tYes) (q := fun _ => true) (P := fun a w _ => w = f a) hz hi w hG hb hst (fun a _ H1 e Q q => q H1 (Ex.refl H1)) (fun a _ => mon_eq) (fun a ha _ => ev_p (he a ha))
  have e : l.filter (fun _ => true) = l := by simp
  rw [e] at h
  exact h
/-- .. with an if -/
theorem evp_lcF {α : Type} {l : List α} {wi : TI} {g : TG} {vs : List Nat} {J : It} {G : Hp → Prop} {Y : Nat → Hp → V → Hp → Prop} {st : α → L2.St} {f : α → V} {q : α → Bool} (hz : l.length ≤ 90000) (hi : EvI wi σ B J) (w : Walk J l.length G Y) (hG : ∀ H1, Ex B H1 → G H1)
    (hb : Bnd Y g (L2.wipe σ vs) B l st) (hst : ∀ a ∈ l, L2.wipe (st a) vs = L2.wipe σ vs) (ht : ∀ a ∈ l, EvT tt (st a) B (q a)) (he : ∀ a ∈ l, q a = true → Ev te (st a) B (f a)) : EvP (tLc wi g tt te vs) σ B fun v B2 => ∃ p, v = .ref p ∧ B2 p = some (.lst ((l.filter q).map f)) := by
  refine (evp_lc (q := q) (P := fun a w _ => w = f a) hz hi w hG hb hst ht (fun a _ => mon_eq) (fun a ha h => ev_p (he a ha h))).imp fun v B2 _ ⟨p, ys, e, h1, h2⟩ => ⟨p, e, ?_⟩
  rw [h1, paired_eq h2]
/-- in -/
theorem eqV_str {x y : Str} : eqV (.str x) (.str y) = decide (x = y) := by
  show (x == y) = decide (x = y)
  rw [Bool.eq_iff_iff]
  simp
theorem inV_str {x : Str} {l : List Str} : inV (.str x) (l.map V.str) = decide (x ∈ l) := by
  unfold inV
  rw [List.any_map]
  induction l with
  | nil => simp
  | cons y l ih =>
    rw [List.any_cons, ih]
    show (eqV (.str y) (.str x) || decide (x ∈ l)) = _
    rw [eqV_str, Bool.eq_iff_iff]
    simp only [Bool.or_eq_true, decide_eq_true_eq, List.mem_cons]
    exact ⟨fun h => h.elim (fun e => .inl e.symm) .inr, fun h => h.elim (fun e => .inl e.symm) .inr⟩
theorem flat_strs {l : List Str} : (l.map V.str).all flatV = true := by
  rw [List.all_map]
  exact List.all_eq_true.mpr fun _ _ => rfl
theorem ev_in {x : Str} {a : Addr} {l : List Str} (hx : Ev ta σ B (.str x)) (ha : Ev tb σ B (.ref a)) (hs : SqS K B a (l.map V.str)) : Ev (tOp (rIn K false) ta tb) σ B (.bl (decide (x ∈ l))) := ev_op hx ha fun H1 e Q q =>
  ⟨a, l.map V.str, rfl, (hs.ex e).symm, rfl, flat_strs, by
    rw [inV_str]
    exact q H1 (Ex.refl H1)⟩
theorem ev_nin {x : Str} {a : Addr} {l : List Str} (hx : Ev ta σ B (.str x)) (ha : Ev tb σ B (.ref a)) (hs : SqS K B a (l.map V.str)) : Ev (tOp (rIn K true) ta tb) σ B (.bl (!decide (x ∈ l))) := ev_op hx ha fun H1 e Q q =>
  ⟨a, l.map V.str, rfl, (hs.ex e).symm, rfl, flat_strs, by
    rw [inV_str]
    exact q H1 (Ex.refl H1)⟩
/-- in a new list or tuple of texts -/
theorem ev_inP {neg : Bool} {x : Str} {l : List Str} (hx : Ev ta σ B (.str x)) (ha : EvP tb σ B fun v B2 => ∃ p, v = .ref p ∧ (SqS K B2 p (l.map V.str))) : Ev (tOp (rIn K neg) ta tb) σ B (.bl (if neg then !decide (x ∈ l) else decide (x ∈ l))) := fun H1 e Q q => hx H1 e _ fun H2 e2 => ha H2 (e.trans e2) _ fun v B3 H3 g ⟨p, ev, hs⟩ => by
  subst ev
  refine ⟨p, l.map V.str, rfl, (hs.ex g.bh).symm, rfl, flat_strs, ?_⟩
  rw [inV_str]
  exact q H3 (e2.trans g.h)
/-- ==, != of texts, ints -/
theorem ev_eqS {x y : Str} (hx : Ev ta σ B (.str x)) (hy : Ev tb σ B (.str y)) : Ev (tOp rEq ta tb) σ B (.bl (decide (x = y))) := ev_op hx hy (by
  have h := rv_eq (x := V.str x) (y := V.str y) (H := B) rfl
  have e : decide (V.str x = V.str y) = decide (x = y) := by rw [Bool.eq_iff_iff]; simp
  rw [e] at h
  exact h)
theorem ev_neS {x y : Str} (hx : Ev ta σ B (.str x)) (hy : Ev tb σ B (.str y)) : Ev (tOp rNe ta tb) σ B (.bl (!decide (x = y))) := ev_op hx hy (by
  have h := rv_ne (x := V.str x) (y := V.str y) (H := B) rfl
  have e : decide (V.str x = V.str y) = decide (x = y) := by rw [Bool.eq_iff_iff]; simp
  rw [e] at h
  exact h)
theorem ev_eqI {x y : Int} (hx : Ev ta σ B (.int x)) (hy : Ev tb σ B (.int y)) : Ev (tOp rEq ta tb) σ B (.bl (decide (x = y))) := ev_op hx hy (by
  have h := rv_eq (x := V.int x) (y := V.int y) (H := B) rfl
  have e : decide (V.int x = V.int y) = decide (x = y) := by rw [Bool.eq_iff_iff]; simp
  rw [e] at h
  exact h)
theorem ev_neI {x y : Int} (hx : Ev ta σ B (.int x)) (hy : Ev tb σ B (.int y)) : Ev (tOp rNe ta tb) σ B (.bl (!decide (x = y))) := ev_op hx hy (by
  have h := rv_ne (x := V.int x) (y := V.int y) (H := B) rfl
  have e : decide (V.int x = V.int y) = decide (x = y) := by rw [Bool.eq_iff_iff]; simp
  rw [e] at h
  exact h)
/-- a <= b <= c -/
theorem ev_chain {r r' : R2} {x y z : V} {a b : Bool} (hx : Ev ta σ B x) (hy : Ev tb σ B y) (hz : Ev tc σ B z) (h1 : RV r x y B (.bl a)) (h2 : RV r' y z B (.bl b)) : Ev (tChain r r' ta tb tc) σ B (.bl (a && b)) := fun H1 e Q q =>
  hx H1 e _ fun H2 e2 => hy H2 (e.trans e2) _ fun H3 e3 => h1 H3 ((e.trans e2).trans e3) _ fun H4 e4 => ⟨a, rfl, by
    have e14 := (e2.trans e3).trans e4
    cases a with
    | true => rw [if_pos rfl]; exact hz H4 (e.trans e14) _ fun H5 e5 => h2 H5 ((e.trans e14).trans e5) _ fun H6 e6 => q H6 ((e14.trans e5).trans e6)
    | false => rw [if_neg Bool.false_ne_true]; exact q H4 e14⟩
/-- x is None -/
theorem ev_isN {x : V} (hx : Ev ta σ B x) : Ev (tOp (fun x y H Q => y = .non ∧ Q (.bl (decide (x = .non))) H) ta (tC .non)) σ B (.bl (decide (x = .non))) := ev_op hx ev_c fun H1 _ Q q => ⟨rfl, q H1 (Ex.refl H1)⟩
end
end NP
end

section
set_option maxHeartbeats 4000000
/-! the rules that speak of K, the K of a block told to be its def's -/
namespace NP
open PySem PySem.Spec PyProof.Rows L2 Evl
section
variable {X : Cx} {K : PySem.W.Frag} (h : X.K = K)
include h
theorem call_isi_k : CallR X (.builtin "isinstance") (rIsi K) := by subst h; exact call_isi
theorem call_isiT_k : CallR X (.builtin "isinstance") (rIsiT K) := by subst h; exact call_isiT
theorem call_len_k : CallR X (.builtin "len") (rLn K) := by subst h; exact call_len
theorem cr_all_k (hc : X.calm = true) : CallR X (.builtin "all") (rAll K) := by subst h; exact cr_all hc
theorem cr_any_k (hc : X.calm = true) : CallR X (.builtin "any") (rAny K) := by subst h; exact cr_any hc
theorem cr_sum_k (hc : X.calm = true) : CallR X (.builtin "sum") (rSum K) := by subst h; exact cr_sum hc
def rTupOf (K : PySem.W.Frag) : List V → Hp → VK → Prop := fun xs H Q => ∃ p ys, xs = [.ref p] ∧ ((SqL K H p ys ∧ ∀ l, H l = none → Q (.ref l) (upd H l (.tup ys))) ∨ (SqT K H p ys ∧ Q (.ref p) H))
theorem call_tuple_of_k : CallR X (.type "tuple") (rTupOf K) := by subst h; exact call_tuple_of
def rListOf (K : PySem.W.Frag) : List V → Hp → VK → Prop := fun xs H Q => ∃ p ys, xs = [.ref p] ∧ (SqL K H p ys ∨ SqT K H p ys) ∧ ∀ l, H l = none → Q (.ref l) (upd H l (.lst ys))
theorem call_list_of_k : CallR X (.type "list") (rListOf K) := by subst h; exact call_list_of
def rDictP (K : PySem.W.Frag) : List V → Hp → VK → Prop := fun xs H Q => ∃ (a : Addr) (ps : List Addr) (kvs : List (Key × V)), xs = [.ref a] ∧ SqL K H a (ps.map V.ref) ∧ Paired (fun p kv => SqT K H p [kV kv.1, kv.2]) ps kvs ∧ ∀ p, H p = none → Q (.ref p) (upd H p (.dK (mergeK [] kvs)))
theorem call_dictP_k (hc : X.calm = true) : CallR X (.type "dict") (rDictP K) := by subst h; exact call_dictP hc
theorem cr_sortedD_k (hr : X.A.units + 64 < cLine) : CallR X (.builtin "sorted") (rSortedD K) := by subst h; exact cr_sortedD hr
theorem op_in_seq_k : OpR X (compareOp .In) (rIn K false) := by subst h; exact op_in_seq
theorem op_notIn_seq_k : OpR X (compareOp .NotIn) (rIn K true) := by subst h; exact op_notIn_seq
theorem op_catA_k : OpR X (binaryOp .Add) (rCatA K) := by subst h; exact op_catA
theorem op_inDT_k (hu : X.A.units + 65 < cLine) : OpR X (compareOp .In) (rInDT K) := by subst h; exact op_inDT hu
theorem op_eqD_k (hu : X.A.units + 64 < cLine) : OpR X (compareOp .Eq) (rEqD K) := by subst h; exact op_eqD hu
theorem op_neD_k (hu : X.A.units + 64 < cLine) : OpR X (compareOp .NotEq) (rNeD K) := by subst h; exact op_neD hu
theorem sl_tupA_k : SlR X (rSlA K) := by subst h; exact sl_tupA
theorem sl_list_k : SlR X (rSlL K) := by subst h; exact sl_list
theorem ix_list_k : IxR X (rIxL K) := by subst h; exact ix_list
theorem ix_tup_k : IxR X (rIxT K) := by subst h; exact ix_tup
theorem pi_list_k {tg e : Expr} {te : TE} (he : PE X e te) : PI X tg e (iList K te) := by subst h; exact pi_list he
theorem pi_tup_k {tg e : Expr} {te : TE} (he : PE X e te) : PI X tg e (iTup K te) := by subst h; exact pi_tup he
theorem pi_enumT_k {e : Expr} {ta : TA} {p pos tpos : Pos} {elts : List Expr} {kk : Nat} (hg : Gl X "enumerate") (hm : X.mg "enumerate" = none) (ha : PA X [e] ta) (hs : starEach [e] X.env = [(false, eval e X.env)] := by rfl) :
    PI X (.Tuple elts kk tpos) (.Call (.Name "enumerate" p) [e] [] pos) (iEnumT K ta) := by subst h; exact pi_enumT hg hm ha hs
theorem pi_enum_k {e : Expr} {ta : TA} {p pos tpos : Pos} {elts : List Expr} {kk : Nat} (hg : Gl X "enumerate") (hm : X.mg "enumerate" = none) (ha : PA X [e] ta) (hs : starEach [e] X.env = [(false, eval e X.env)] := by rfl) :
    PI X (.Tuple elts kk tpos) (.Call (.Name "enumerate" p) [e] [] pos) (iEnum K ta) := by subst h; exact pi_enum hg hm ha hs
theorem pg_tup_k {es : List Expr} {k : Nat} {t : TGs} {n : Nat} {pos : Pos} (hc : X.calm = true) (hp : PGs X es t) (hn : (assignEach es X.env).length = n := by rfl) (hst : (assignEach es X.env).findIdx? (·.1) = none := by rfl) : PG X (.Tuple es k pos) (gTup K n t) := by subst h; exact pg_tup hc hp hn hst
theorem pe_fld_k {e : Expr} {ta : TE} {f : Str} {pos : Pos} (he : PE X e ta) (hb : attributeBase e f X.env (eval e X.env) = eval e X.env) : PE X (.Attribute e f pos) (tFld K ta f) := by subst h; exact pe_fld he hb
theorem pe_con_k {e : Expr} {ta : TE} {f : Str} {pos : Pos} (he : PE X e ta) (hb : attributeBase e f X.env (eval e X.env) = eval e X.env) : PE X (.Attribute e f pos) (tCon K ta f) := by subst h; exact pe_con he hb
theorem pe_bm_k {T : String} {id : String} {name : Str} {r : V → List V → Hp → VK → Prop} {o e : Expr} {es : List Expr} {to : TE} {t : TA} {apos cpos : Pos} (pa : PlainAttrs T) (slot : Slot T name id) (hty : typeOf (.builtin id) = pure (.type "method_descriptor")) (hm : MtR X id r) (ho : PE X o to) (ha : PA X (e :: es) t)
    (hbase : attributeBase o name X.env (eval o X.env) = eval o X.env := by rfl)
    (hfew : ((backTo cpos (starEach (e :: es) X.env)).all (fun x => !x.1) && (backToKw cpos (keywordEach [] X.env)).all (fun x => x.1.isSome)
      && decide ((e :: es).length + ([] : List Keyword).length + (if ([] : List Keyword).isEmpty then 0 else 1) < 30)) = true := by rfl)
    (hline : (apos.endLine == cpos.line) = true := by rfl) (hs : starEach (e :: es) X.env = (false, eval e X.env) :: starEach es X.env := by rfl) (hplain : (backTo cpos (starEach es X.env)).any (·.1) = false := by rfl) :
    PE X (.Call (.Attribute o name apos) (e :: es) [] cpos) (tBM K T r to t) := by subst h; exact pe_bm pa slot hty hm ho ha hbase hfew hline hs hplain
end
theorem roomU {k : Nat} {A : Around} (r : Room k A) : A.units + 65 < cLine := by have := r.un; omega
end NP
end

section
set_option maxHeartbeats 4000000
/-! operators of own instances as rules over callees -/
namespace NP
open PySem PySem.Spec PyProof.Rows L2 Evl
structure CalE (P : Program) (w : World) (K : PySem.W.Frag) (mg : Str → Option Value) (base : Heap) (k : Nat) (C : Addr) (R : Addr → Addr → Hp → Prop) : Prop where
  ex : ∃ fd, FnOk P w K mg base L2.CX0 k (He.ma K C "__eq__") fd ["self", "other"] (spEq R) ∧ Binds K fd ["self", "other"] []
abbrev EqC (K : PySem.W.Frag) (C : Addr) : Prop := PySem.W.findIn K (.ref C) "__eq__" = some (some (.ref (He.ma K C "__eq__"))) ∧ PySem.W.isFn K (.ref (He.ma K C "__eq__")) = true
def rNeG (D : Eqv) : R2 := fun x y H Q => D x y H ∧ ∀ H', Ext H H' → Q (.bl false) H'
section
variable {X : Cx} {k j : Nat} {C : Addr} {R : Addr → Addr → Hp → Prop} {sp : Sp}
theorem op_eqIns (c : CalE X.prog X.w X.K X.mg X.base j C R) (e : EqC X.K C) (hr : Room k X.A) (hk : j ≤ k) : OpR X (compareOp .Eq) (rEqG (DIns C R)) := by
  obtain ⟨fd, F, hb⟩ := c.ex
  exact op_eqG (rcG_ins F e.1 e.2 hb L2.pass0) (hr.mono hk)
theorem op_neIns (c : CalE X.prog X.w X.K X.mg X.base j C R) (e : EqC X.K C) (n : NeC X.K C) (hr : Room k X.A) (hk : j + 1 ≤ k) : OpR X (compareOp .NotEq) (rNeG (DIns C R)) := by
  obtain ⟨fd, F, hb⟩ := c.ex
  exact rcN_ins F n e.1 e.2 hb (hr.mono hk)
theorem eqG_cal (c : CalE X.prog X.w X.K X.mg X.base j C R) (e : EqC X.K C) : EqG X j (DIns C R) := by
  obtain ⟨fd, F, hb⟩ := c.ex
  exact eqG_ins F e.1 e.2 hb L2.pass0
theorem op_inIns {ps : List Str} (c : CalM X.prog X.w X.K X.mg X.base j C "__contains__" ps sp) (hr : Room k X.A) (hk : j ≤ k) : OpR X (compareOp .In) (rInO C sp false) := by
  obtain ⟨f, fd, F, m, hb⟩ := c.ex
  exact op_inO F m (hr.mono hk) hb
theorem op_notInIns {ps : List Str} (c : CalM X.prog X.w X.K X.mg X.base j C "__contains__" ps sp) (hr : Room k X.A) (hk : j ≤ k) : OpR X (compareOp .NotIn) (rInO C sp true) := by
  obtain ⟨f, fd, F, m, hb⟩ := c.ex
  exact op_notInO F m (hr.mono hk) hb
theorem op_xorIns {ps : List Str} (c : CalM X.prog X.w X.K X.mg X.base j C "__xor__" ps sp) (hs : PySem.W.selfFirst X.K C = true) (hr : Room k X.A) (hk : j ≤ k) : OpR X (binaryOp .BitXor) (rXorO C sp) := by
  obtain ⟨f, fd, F, m, hb⟩ := c.ex
  exact op_xorO F m hs (hr.mono hk) hb
end
section
variable {σ : L2.St} {B B1 B2 H H1 H2 : Hp} {te ta tb : TE} {C : Addr} {R : Addr → Addr → Hp → Prop}
theorem ev_eqIns {a b : Addr} (ha : Ev ta σ B (.ref a)) (hb : Ev tb σ B (.ref b)) (d : ∀ H1, Ex B H1 → DIns C R (.ref a) (.ref b) H1) : Ev (tOp (rEqG (DIns C R)) ta tb) σ B (.bl true) := ev_op ha hb fun H1 e Q q => ⟨d H1 e, fun H' e' => q H' e'⟩
theorem ev_neIns {a b : Addr} (ha : Ev ta σ B (.ref a)) (hb : Ev tb σ B (.ref b)) (d : ∀ H1, Ex B H1 → DIns C R (.ref a) (.ref b) H1) : Ev (tOp (rNeG (DIns C R)) ta tb) σ B (.bl false) := ev_op ha hb fun H1 e Q q => ⟨d H1 e, fun H' e' => q H' e'⟩
/-- the operands made on the way -/
theorem ev_neInsP {P1 P2 : V → Hp → Prop} (hm : NP.Mon P1) (ha : EvP ta σ B P1) (hb : ∀ B1, Ex B B1 → EvP tb σ B1 P2) (d : ∀ x y B1 H1, Ex B B1 → P1 x B1 → P2 y B1 → Ex B1 H1 → DIns C R x y H1) : Ev (tOp (rNeG (DIns C R)) ta tb) σ B (.bl false) :=
  (evp_op hm ha hb (S := fun w _ => w = .bl false) fun x y B1 H1 e1 p1 p2 e2 Q q => ⟨d x y B1 H1 e1 p1 p2 e2, fun H' e' => q _ B1 H' (Gr.ex e2 e') rfl⟩).v
/-- x in o, by a promise that gives a truth -/
theorem ev_inIns {δ : Type} {pre : δ → List V → Hp → Prop} {post : δ → V → Hp → Prop} {neg : Bool} {x : V} {a dx : Addr} {fs : List (Str × V)} {b : Bool} (d : δ) (hx : Ev ta σ B x) (ha : Ev tb σ B (.ref a)) (hi : B a = some (.ins C dx fs)) (hp : pre d [.ref a, x] B) (hpost : ∀ v B2, post d v B2 → v = .bl b) :
    Ev (tOp (rInO C (Prm pre post) neg) ta tb) σ B (.bl (if neg then !b else b)) := fun H1 e Q q => hx H1 e _ fun H2 e2 => ha H2 (e.trans e2) _ fun H3 e3 => by
  have e13 := e2.trans e3
  exact ⟨a, dx, fs, rfl, (e.trans e13) _ _ hi, d, B, e.trans e13, hp, fun v B' H' g p => ⟨b, hpost v B' p, q H' (e13.trans g.h)⟩⟩
theorem evp_xorIns {δ : Type} {pre : δ → List V → Hp → Prop} {post : δ → V → Hp → Prop} {a b dx dy : Addr} {fs gs : List (Str × V)} (d : δ) (hx : Ev ta σ B (.ref a)) (hy : Ev tb σ B (.ref b)) (h1 : B a = some (.ins C dx fs)) (h2 : B b = some (.ins C dy gs)) (hp : pre d [.ref a, .ref b] B) :
    EvP (tOp (rXorO C (Prm pre post)) ta tb) σ B (post d) := fun H1 e Q q => hx H1 e _ fun H2 e2 => hy H2 (e.trans e2) _ fun H3 e3 => by
  have e13 := e2.trans e3
  exact ⟨a, b, dx, dy, fs, gs, rfl, rfl, (e.trans e13) _ _ h1, (e.trans e13) _ _ h2, d, B, e.trans e13, hp, fun v B' H' g p => q v B' H' ((Gr.ex e e13).trans g) p⟩
end
end NP
end

section
set_option maxHeartbeats 4000000
namespace NP
open PySem PySem.Spec PyProof.Rows L2 Evl
section
variable {P : Program} {w : World} {K : PySem.W.Frag} {mg : Str → Option Value} {base : Heap}
/-! ### is_integer -/
def sp_is_integer : Sp := Prm (δ := Int) (fun i vs _ => vs = [.int i]) (fun _ v _ => v = .bl true)
theorem c_is_integer (F : Facts K mg) : Cal P w K mg base 1 "is_integer" ["value"] sp_is_integer := by
  obtain ⟨fd, D⟩ := F.d_is_integer
  refine mkCal D sc_is_integer F.g_is_integer (fun _ _ _ _ _ _ us hl => match us, hl with | [_], _ => rfl) (fun vs H Q E ⟨i, B, _, e, _⟩ => by rw [e]; rfl) fun cdv A outer s H vs Q E hr h => ⟨_, (pss_one (ps_ret (pe_and (pe_callB (call_isi_k (K := K) rfl) rfl F.f_isinstance (by decide +kernel) (pa_cons (pv 0) (pa_cons (pe_bltn (v := .ty "int") (u := .type "int") rfl F.f_int (by decide +kernel) rfl) pa_nil))) (pe_one (pe_not (pe_callB (call_isi_k (K := K) rfl) rfl F.f_isinstance (by decide +kernel) (pa_cons (pv 0) (pa_cons (pe_bltn (v := .ty "bool") (u := .type "bool") rfl F.f_bool (by decide +kernel) rfl) pa_nil)))))))), ?_⟩
  obtain ⟨i, B, hB, rfl, q⟩ := h
  have ty : ∀ H1, Ex B H1 → TyX K H1 (.int i) (.type "int") := fun _ _ => .base (.int i)
  exact s_retP hB (ev_p (ev_andV (a := true) (b := true) (ev_isi (ev_var rfl) ev_c (.ty _) ty (kit_ty (by decide +kernel))) fun _ => ev_notV (a := false) (ev_isi (ev_var rfl) ev_c (.ty _) ty (kit_ty (by decide +kernel))))) fun v B2 H2 g e => q v B2 H2 g e
/-! ### is_name -/
def nameB (z : Str) : Bool := decide (1 ≤ z.length) && decide (z.length ≤ 6) && z.cps.toList.all fun c => decide (c ∈ (Str.ofString "abcdefghijklmnopqrstuvwxyz").cps.toList)
def sp_is_name : Sp := Prm (δ := Str) (fun z vs _ => vs = [.str z] ∧ z.length ≤ 100 ∧ nameB z = true) (fun _ v _ => v = .bl true)
theorem c_is_name (F : Facts K mg) : Cal P w K mg base 1 "is_name" ["text"] sp_is_name := by
  obtain ⟨fd, D⟩ := F.d_is_name
  obtain ⟨tL, hLETTERS⟩ := F.v_LETTERS
  obtain ⟨tN, hLONGEST_NAME⟩ := F.v_LONGEST
  refine mkCal D sc_is_name F.g_is_name (fun _ _ _ _ _ _ us hl => match us, hl with | [_], _ => rfl) (fun vs H Q E ⟨i, B, _, e, _⟩ => by rw [e.1]; rfl) fun cdv A outer s H vs Q E hr h => ⟨_, (pss_one (ps_ret (pe_and (pe_chain op_le op_le pe_int (pe_callB (call_len_k (K := K) rfl) rfl F.f_len (by decide +kernel) (pa_cons (pv 0) pa_nil)) (pe_glob (v := .int 6) rfl hLONGEST_NAME ⟨_, rfl⟩)) (pe_one (pe_callB (cr_all_k (K := K) rfl rfl) rfl F.f_all (by decide +kernel) (pa_cons (pe_lc rfl sc_is_name.nd (pi_str (pv 0)) (blkOk_by (own := [("sign", 1)]) (N := N_is_name) (sc := defScope s_is_name) (by decide +kernel)) (fun _ _ _ _ _ => (pg_name (i := 1) sc_is_name.nd rfl (by first | exact .inl rfl | exact .inr rfl))) (fun _ _ _ _ _ => pts_nil) (fun _ _ _ _ _ => (pe_cmpR op_in_sign (pv 1) (pe_glob (v := .str "abcdefghijklmnopqrstuvwxyz") rfl hLETTERS ⟨_, rfl⟩) rfl))) pa_nil)))))), ?_⟩
  obtain ⟨z, B, hB, ⟨rfl, hz, hn⟩, q⟩ := h
  have hn' : (decide (1 ≤ z.length) && decide (z.length ≤ 6)) = true ∧ (z.cps.toList.all fun c => decide (c ∈ (Str.ofString "abcdefghijklmnopqrstuvwxyz").cps.toList)) = true := Bool.and_eq_true_iff.mp hn
  obtain ⟨h1, h2⟩ := hn'
  refine s_retP hB (ev_p (ev_andV (a := true) (b := true) (ev_is (ev_chain (a := decide ((1 : Int) ≤ (z.length : Int))) (b := decide ((z.length : Int) ≤ 6)) ev_c (ev_lenSt (ev_var rfl) (by omega)) ev_c rv_I0 rv_I0) ?_) fun _ => ?_)) fun v B2 H2 g e => q v B2 H2 g e
  · have h3 := Bool.and_eq_true_iff.mp h1
    have h4 := of_decide_eq_true h3.1
    have h5 := of_decide_eq_true h3.2
    rw [decide_eq_true (by omega), decide_eq_true (by omega)]
    rfl
  · refine ev_all (l := z.cps.toList) (f := fun c => decide (c ∈ (Str.ofString "abcdefghijklmnopqrstuvwxyz").cps.toList)) (evp_lcV (G := fun _ => True) (Y := fun i H v H' => H' = H ∧ ∃ c, z.cps[i]? = some c ∧ v = .str ⟨#[c]⟩) (st := fun c => [some (.str z), some (.str ⟨#[c]⟩)]) (by
        have : z.cps.toList.length = z.length := rfl
        omega) (ei_str (ev_var rfl)) walk_str (fun _ _ => trivial) (fun i hi x H1 H1' _ y => ?_) (fun _ _ => rfl) fun c _ => ev_op (ev_var rfl) ev_c fun H1 e Q q => ⟨c, _, rfl, rfl, q H1 (Ex.refl H1)⟩) h2
    obtain ⟨rfl, c, hc, rfl⟩ := y
    refine ⟨Ex.refl _, fun k h => ?_⟩
    have e : z.cps.toList[i] = c := by
      have : z.cps.toList[i]? = some c := by rw [Array.getElem?_toList]; exact hc
      rw [List.getElem?_eq_getElem hi] at this
      exact Option.some.inj this
    rw [e] at h
    exact h
end
end NP
end

section
set_option maxHeartbeats 4000000
namespace NP
open PySem PySem.Spec PyProof.Rows L2 Evl
section
variable {K : PySem.W.Frag} {σ : L2.St} {B B1 B2 H H1 H2 : Hp} {te ta tb tc u : TE} {tt : TT}
theorem ei_seqS {a : Addr} {xs : List V} (h : Ev te σ B (.ref a)) (hs : SqS K B a xs) : ∃ J, EvI (fun σ H R => iTup K te σ H R ∨ iList K te σ H R) σ B J ∧ Walk J xs.length (fun H => Ex B H) (YAt xs) := by
  rcases hs with hs | hs
  · exact ⟨_, ei_l (ei_tup h hs), walk_tup.mono (fun H e => ex_t e hs) fun _ _ _ _ _ _ y => y⟩
  · exact ⟨_, ei_r (ei_list h hs), walk_list.mono (fun H e => ex_l e hs) fun _ _ _ _ _ _ y => y⟩
theorem ei_enumS {t : TA} {a : Addr} {xs : List V} (h : EvA t σ B [.ref a]) (hs : SqS K B a xs) : ∃ J, EvI (fun σ H R => iEnumT K t σ H R ∨ iEnum K t σ H R) σ B J ∧ Walk J xs.length (fun H => Ex B H) (YPair (fun i => some (.int (i : Nat))) (fun i => xs[i]?)) := by
  rcases hs with hs | hs
  · exact ⟨_, ei_l (ei_enumT h hs), walk_enumT.mono (fun H e => ex_t e hs) fun _ _ _ _ _ _ y => y⟩
  · exact ⟨_, ei_r (ei_enumL h hs), walk_enum.mono (fun H e => ex_l e hs) fun _ _ _ _ _ _ y => y⟩
theorem walk_T {a : Addr} {xs : List V} (hs : SqT K B a xs) : Walk (Itt K a) xs.length (fun H => Ex B H) (YAt xs) := walk_tup.mono (fun H e => ex_t e hs) fun _ _ _ _ _ _ y => y
theorem walk_L {a : Addr} {xs : List V} (hs : SqL K B a xs) : Walk (Itl K a) xs.length (fun H => Ex B H) (YAt xs) := walk_list.mono (fun H e => ex_l e hs) fun _ _ _ _ _ _ y => y
theorem walk_eT {a : Addr} {xs : List V} (hs : SqT K B a xs) : Walk (IteT K a) xs.length (fun H => Ex B H) (YPair (fun i => some (.int (i : Nat))) (fun i => xs[i]?)) := walk_enumT.mono (fun H e => ex_t e hs) fun _ _ _ _ _ _ y => y
/-- pairs of texts -/
def PairV (K : PySem.W.Frag) (B : Hp) (x : Str × Str) (v : V) : Prop := ∃ p, v = .ref p ∧ SqT K B p [.str x.1, .str x.2]
theorem PairV.ex {x : Str × Str} {v : V} (h : PairV K B x v) (e : Ex B B1) : PairV K B1 x v := let ⟨p, h1, h2⟩ := h; ⟨p, h1, ex_t e h2⟩
def PairsAt (K : PySem.W.Frag) (B : Hp) (a : Addr) (l : List (Str × Str)) : Prop := ∃ xs, SqS K B a xs ∧ Paired (PairV K B) l xs
theorem PairsAt.ex {a : Addr} {l : List (Str × Str)} (h : PairsAt K B a l) (e : Ex B B1) : PairsAt K B1 a l := let ⟨xs, h1, h2⟩ := h; ⟨xs, h1.ex e, paired_imp (fun _ _ q => q.ex e) h2⟩
theorem paired_zip {α β : Type} {R : α → β → Prop} : ∀ {l : List α} {xs : List β}, Paired R l xs → ∃ z : List (α × β), z.map (·.1) = l ∧ z.map (·.2) = xs ∧ ∀ p ∈ z, R p.1 p.2
  | _, _, .nil => ⟨[], rfl, rfl, fun _ h => nomatch h⟩
  | _, _, .cons (a := a) (b := b) r t => by
    obtain ⟨z, h1, h2, h3⟩ := paired_zip t
    refine ⟨(a, b) :: z, by rw [List.map_cons, h1], by rw [List.map_cons, h2], fun p hp => ?_⟩
    rcases List.mem_cons.mp hp with e | hp
    · rw [e]; exact r
    · exact h3 p hp
theorem sqs_t {a : Addr} {xs : List V} (h : SqT K B a xs) : SqS K B a xs := .inl h
theorem sqs_l {a : Addr} {xs : List V} (h : SqL K B a xs) : SqS K B a xs := .inr h
end
section
variable {P : Program} {w : World} {K : PySem.W.Frag} {mg : Str → Option Value} {base : Heap}
/-! ### are_strings -/
def sp_are_strings (K : PySem.W.Frag) : Sp := Prm (δ := Addr × List Str) (fun d vs B => vs = [.ref d.1] ∧ SqS K B d.1 (d.2.map V.str) ∧ d.2.length ≤ 90000) (fun _ v _ => v = .bl true)
theorem c_are_strings (F : Facts K mg) : Cal P w K mg base 1 "are_strings" ["value"] (sp_are_strings K) := by
  obtain ⟨fd, D⟩ := F.d_are_strings
  refine mkCal D sc_are_strings F.g_are_strings (fun _ _ _ _ _ _ us hl => match us, hl with | [_], _ => rfl) (fun vs H Q E ⟨i, B, _, e, _⟩ => by rw [e.1]; rfl) fun cdv A outer s H vs Q E hr h => ⟨_, (pss_one (ps_ret (pe_and (pe_callB (call_isiT_k (K := K) rfl) rfl F.f_isinstance (by decide +kernel) (pa_cons (pv 0) (pa_cons (pe_tup (pa_cons (pe_bltn (v := .ty "tuple") (u := .type "tuple") rfl F.f_tuple (by decide +kernel) rfl) (pa_cons (pe_bltn (v := .ty "list") (u := .type "list") rfl F.f_list (by decide +kernel) rfl) pa_nil))) pa_nil))) (pe_one (pe_callB (cr_all_k (K := K) rfl rfl) rfl F.f_all (by decide +kernel) (pa_cons (pe_lc rfl sc_are_strings.nd (pi_alt (pi_tup_k (K := K) rfl (pv 0)) (pi_list_k (K := K) rfl (pv 0))) (blkOk_by (own := [("item", 1)]) (N := N_are_strings) (sc := defScope s_are_strings) (by decide +kernel)) (fun _ _ _ _ _ => (pg_name (i := 1) sc_are_strings.nd rfl (by first | exact .inl rfl | exact .inr rfl))) (fun _ _ _ _ _ => pts_nil) (fun _ _ _ _ _ => (pe_callB (call_isi_k (K := K) rfl) rfl F.f_isinstance (by decide +kernel) (pa_cons (pv 1) (pa_cons (pe_bltn (v := .ty "str") (u := .type "str") rfl F.f_str (by decide +kernel) rfl) pa_nil))))) pa_nil)))))), ?_⟩
  obtain ⟨⟨a, l⟩, B, hB, ⟨rfl, hs, hz⟩, q⟩ := h
  obtain ⟨J, hi, hw⟩ := ei_seqS (te := tVar 0) (σ := L2.start N_are_strings [.ref a]) (ev_var rfl) hs
  refine s_retP hB (ev_p (ev_andV (a := true) (b := true) (ev_isSeq (ev_var rfl) hs) fun _ => ?_)) fun v B2 H2 g e => q v B2 H2 g e
  rw [List.length_map] at hw
  refine ev_all (l := l) (f := fun _ => true) (evp_lcV (st := fun c => [some (.ref a), some (.str c)]) hz hi hw (fun _ e => e) bnd_map (fun _ _ => rfl) fun c _ => ev_isi (ev_var rfl) ev_c (.ty _) (fun _ _ => .base (.str c)) (kit_ty (by decide +kernel))) (by simp)
/-! ### are_pairs -/
def sp_are_pairs (K : PySem.W.Frag) : Sp := Prm (δ := Addr × List (Str × Str)) (fun d vs B => vs = [.ref d.1] ∧ PairsAt K B d.1 d.2 ∧ d.2.length ≤ 90000) (fun _ v _ => v = .bl true)
theorem c_are_pairs (F : Facts K mg) : Cal P w K mg base 2 "are_pairs" ["value"] (sp_are_pairs K) := by
  obtain ⟨fd, D⟩ := F.d_are_pairs
  have c_are_strings := c_are_strings (P := P) (w := w) (base := base) F
  refine mkCal D sc_are_pairs F.g_are_pairs (fun _ _ _ _ _ _ us hl => match us, hl with | [_], _ => rfl) (fun vs H Q E ⟨i, B, _, e, _⟩ => by rw [e.1]; rfl) fun cdv A outer s H vs Q E hr h => ⟨_, (pss_cons (ps_if (pt_not (pt_val (pe_callB (call_isiT_k (K := K) rfl) rfl F.f_isinstance (by decide +kernel) (pa_cons (pv 0) (pa_cons (pe_tup (pa_cons (pe_bltn (v := .ty "tuple") (u := .type "tuple") rfl F.f_tuple (by decide +kernel) rfl) (pa_cons (pe_bltn (v := .ty "list") (u := .type "list") rfl F.f_list (by decide +kernel) rfl) pa_nil))) pa_nil))))) (pss_one (ps_ret pe_bl)) pss_nil)
      (pss_one (ps_ret (pe_callB (cr_all_k (K := K) rfl rfl) rfl F.f_all (by decide +kernel) (pa_cons (pe_lc rfl sc_are_pairs.nd (pi_alt (pi_tup_k (K := K) rfl (pv 0)) (pi_list_k (K := K) rfl (pv 0))) (blkOk_by (own := [("pair", 1)]) (N := N_are_pairs) (sc := defScope s_are_pairs) (by decide +kernel)) (fun _ _ _ _ _ => (pg_name (i := 1) sc_are_pairs.nd rfl (by first | exact .inl rfl | exact .inr rfl))) (fun _ _ _ _ _ => pts_nil) (fun _ _ _ _ _ => (pe_and (pe_callB (call_isi_k (K := K) rfl) rfl F.f_isinstance (by decide +kernel) (pa_cons (pv 1) (pa_cons (pe_bltn (v := .ty "tuple") (u := .type "tuple") rfl F.f_tuple (by decide +kernel) rfl) pa_nil))) (pe_and (pe_cmpR op_eq (pe_callB (call_len_k (K := K) rfl) rfl F.f_len (by decide +kernel) (pa_cons (pv 1) pa_nil)) pe_int (nomark _)) (pe_one (pe_cal c_are_strings hr (by decide) rfl (pa_cons (pv 1) pa_nil))))))) pa_nil))))), ?_⟩
  obtain ⟨⟨a, l⟩, B, hB, ⟨rfl, ⟨xs, hs, hp⟩, hz⟩, q⟩ := h
  obtain ⟨J, hi, hw⟩ := ei_seqS (te := tVar 0) (σ := L2.start N_are_pairs [.ref a]) (ev_var rfl) hs
  refine q_skip hB (et_not (et_B (ev_isSeq (ev_var rfl) hs))) fun H1 e1 => ?_
  obtain ⟨z, rfl, rfl, hz2⟩ := paired_zip hp
  rw [List.length_map] at hw
  refine s_retP (hB.trans e1) (ev_p (v := .bl true) (ev_all (l := z) (f := fun _ => true) (evp_lcV (st := fun c => [some (.ref a), some c.2]) (by simpa using hz) hi hw (fun _ e => e) bnd_map (fun _ _ => rfl) fun c hc => ?_) (by simp))) fun v B2 H2 g e => q v B2 H2 ((Gr.ex hB e1).trans g) e
  obtain ⟨p, hcp, hsp⟩ := hz2 c hc
  refine ev_andV (a := true) (b := true) (ev_isi (ev_var (by rw [hcp]; rfl)) ev_c (.ty _) (fun H1 e => tyx_t (ex_t e hsp)) (kit_ty (by decide +kernel))) fun _ => ?_
  refine ev_andV (a := true) (b := true) (ev_eqI (ev_lenSq (ev_var (by rw [hcp]; rfl)) (sqs_t hsp)) ev_c) fun _ => ?_
  exact (evp_call (p, [c.1.1, c.1.2]) (ea_cons (ev_var (by rw [hcp]; rfl)) ea_nil) ⟨rfl, (sqs_t hsp), by show 2 ≤ 90000; decide⟩).v
end
end NP
end

section
set_option maxHeartbeats 4000000
namespace NP
open PySem PySem.Spec PyProof.Rows L2 Evl
section
variable {P : Program} {w : World} {K : PySem.W.Frag} {mg : Str → Option Value} {base : Heap}
/-! ### longer_row -/
def longer (R : List Str) (p : Str) (N : List Str) : List Str := if p ∈ R then R ++ N.filter (fun x => !decide (x ∈ R)) else R
structure DLong where
  r : Addr
  R : List Str
  p : Str
  n : Addr
  N : List Str
def sp_longer_row : Sp := Prm (δ := DLong) (fun d vs B => vs = [.ref d.r, .str d.p, .ref d.n] ∧ B d.r = some (.lst (d.R.map V.str)) ∧ B d.n = some (.lst (d.N.map V.str)) ∧ d.R.length ≤ 1000 ∧ d.N.length ≤ 1000) (fun d v B => ∃ q, v = .ref q ∧ B q = some (.lst ((longer d.R d.p d.N).map V.str)))
theorem c_longer_row (F : Facts K mg) : Cal P w K mg base 1 "longer_row" ["row", "peg", "needed"] sp_longer_row := by
  obtain ⟨fd, D⟩ := F.d_longer_row
  refine mkCal D sc_longer_row F.g_longer_row (fun _ _ _ _ _ _ us hl => match us, hl with | [_, _, _], _ => rfl) (fun vs H Q E ⟨i, B, _, e, _⟩ => by rw [e.1]; rfl) fun cdv A outer s H vs Q E hr h => ⟨_, (pss_one (ps_ret (pe_ifExp (pt_cmpR (op_in_seq_k (K := K) rfl) (pv 1) (pv 0) rfl) (pe_op op_cat (pv 0) (pe_lc rfl sc_longer_row.nd (pi_list_k (K := K) rfl (pv 2)) (blkOk_by (own := [("other", 3)]) (N := N_longer_row) (sc := defScope s_longer_row) (by decide +kernel)) (fun _ _ _ _ _ => (pg_name (i := 3) sc_longer_row.nd rfl (by first | exact .inl rfl | exact .inr rfl))) (fun _ _ _ _ _ => (pts_one (pt_cmpR (op_notIn_seq_k (K := K) rfl) (pv 3) (pv 0) rfl))) (fun _ _ _ _ _ => (pv 3)))) (pv 0)))), ?_⟩
  obtain ⟨⟨r, R, p, n, N⟩, B, hB, ⟨rfl, h1, h2, z1, z2⟩, q⟩ := h
  have z1 : R.length ≤ 1000 := z1
  have z2 : N.length ≤ 1000 := z2
  have sR := sqs_l (sq_of (K := K) h1)
  refine s_retP hB (evp_if (b := decide (p ∈ R)) (P := fun v B => ∃ q, v = .ref q ∧ B q = some (.lst ((longer R p N).map V.str))) (et_test (ev_in (ev_var rfl) (ev_var rfl) sR)) (fun hb => ?_) fun hb => ?_) fun v B2 H2 g e => q v B2 H2 g e
  · refine evp_op (P := fun v _ => v = .ref r) (R := fun v B2 => ∃ q, v = .ref q ∧ B2 q = some (.lst ((N.filter (fun x => !decide (x ∈ R))).map V.str))) mon_eq (ev_p (ev_var rfl)) (fun B1 e1 => ?_) fun x y B1 H1 e1 hx ⟨b, hy, hb1⟩ e2 Q k => ?_
    · have hs : SqL K B1 n (N.map V.str) := ex_l e1 (sq_of h2)
      have hw := walk_L hs
      rw [List.length_map] at hw
      exact evp_lcF (l := N) (f := V.str) (st := fun c => [some (.ref r), some (.str p), some (.ref n), some (.str c)]) (by omega) (ei_list (ev_var rfl) hs) hw (fun _ e => e) bnd_map (fun _ _ => rfl) (fun c _ => et_test (ev_nin (ev_var rfl) (ev_var rfl) (sR.ex e1))) fun c _ _ => ev_var rfl
    · subst hx hy
      refine ⟨r, b, _, _, rfl, rfl, e2 _ _ (e1 _ _ h1), e2 _ _ hb1, ?_, fun d hd => k _ _ _ ((Gr.refl e2).new hd) ⟨d, rfl, ?_⟩⟩
      · have := List.length_filter_le (fun x => !decide (x ∈ R)) N
        rw [List.length_map, List.length_map]
        exact sz_of (by omega)
      · rw [upd_same, longer, if_pos (of_decide_eq_true hb), List.map_append]
  · refine (ev_p (ev_var rfl)).imp fun v B2 e2 hv => ⟨r, hv, ?_⟩
    rw [longer, if_neg (of_decide_eq_false hb)]
    exact e2 _ _ h1
/-! ### barred_in -/
def barred (R S : List Str) (l : List (Str × Str)) : Bool := l.any fun x => (decide (x.1 ∈ R) && decide (x.2 ∈ S)) || (decide (x.2 ∈ R) && decide (x.1 ∈ S))
structure DBar where
  r : Addr
  R : List Str
  s : Addr
  S : List Str
  b : Addr
  l : List (Str × Str)
def sp_barred_in (K : PySem.W.Frag) : Sp := Prm (δ := DBar) (fun d vs B => vs = [.ref d.r, .ref d.s, .ref d.b] ∧ SqS K B d.r (d.R.map V.str) ∧ SqS K B d.s (d.S.map V.str) ∧ PairsAt K B d.b d.l ∧ d.l.length ≤ 90000) (fun d v B => v = .bl (barred d.R d.S d.l))
theorem c_barred_in (F : Facts K mg) : Cal P w K mg base 1 "barred_in" ["row", "other_row", "bars"] (sp_barred_in K) := by
  obtain ⟨fd, D⟩ := F.d_barred_in
  refine mkCal D sc_barred_in F.g_barred_in (fun _ _ _ _ _ _ us hl => match us, hl with | [_, _, _], _ => rfl) (fun vs H Q E ⟨i, B, _, e, _⟩ => by rw [e.1]; rfl) fun cdv A outer s H vs Q E hr h => ⟨_, (pss_one (ps_ret (pe_callB (cr_any_k (K := K) rfl rfl) rfl F.f_any (by decide +kernel) (pa_cons (pe_lc rfl sc_barred_in.nd (pi_alt (pi_tup_k (K := K) rfl (pv 2)) (pi_list_k (K := K) rfl (pv 2))) (blkOk_by (own := [("a", 3), ("b", 4)]) (N := N_barred_in) (sc := defScope s_barred_in) (by decide +kernel)) (fun _ _ _ _ _ => (pg_tup_k (K := K) (n := 2) rfl rfl (pgs_cons (pg_name (i := 3) sc_barred_in.nd rfl (by first | exact .inl rfl | exact .inr rfl)) (pgs_cons (pg_name (i := 4) sc_barred_in.nd rfl (by first | exact .inl rfl | exact .inr rfl)) pgs_nil)))) (fun _ _ _ _ _ => pts_nil) (fun _ _ _ _ _ => (pe_or (pe_and (pe_cmpR (op_in_seq_k (K := K) rfl) (pv 3) (pv 0) rfl) (pe_one (pe_cmpR (op_in_seq_k (K := K) rfl) (pv 4) (pv 1) rfl))) (pe_one (pe_and (pe_cmpR (op_in_seq_k (K := K) rfl) (pv 4) (pv 0) rfl) (pe_one (pe_cmpR (op_in_seq_k (K := K) rfl) (pv 3) (pv 1) rfl))))))) pa_nil)))), ?_⟩
  obtain ⟨⟨r, R, s', S, b, l⟩, B, hB, ⟨rfl, h1, h2, ⟨xs, hs, hp⟩, z2⟩, q⟩ := h
  obtain ⟨J, hi, hw⟩ := ei_seqS (te := tVar 2) (σ := L2.start N_barred_in [.ref r, .ref s', .ref b]) (ev_var rfl) hs
  have hl := paired_len hp
  rw [← hl] at hw
  refine s_retP hB (ev_p (v := .bl (barred R S l)) (ev_any (l := l) (f := fun x => (decide (x.1 ∈ R) && decide (x.2 ∈ S)) || (decide (x.2 ∈ R) && decide (x.1 ∈ S))) (evp_lcV (st := fun c => [some (.ref r), some (.ref s'), some (.ref b), some (.str c.1), some (.str c.2)]) z2 hi hw (fun _ e => e) (bnd_pair (f := fun x : Str × Str => V.str x.1) (g := fun x => V.str x.2) hp) (fun _ _ => rfl) fun c hc => ?_) rfl)) fun v B2 H2 g e => q v B2 H2 g e
  exact ev_orV (ev_andV (ev_in (ev_var rfl) (ev_var rfl) h1) fun _ => ev_in (ev_var rfl) (ev_var rfl) h2) fun _ => ev_andV (ev_in (ev_var rfl) (ev_var rfl) h1) fun _ => ev_in (ev_var rfl) (ev_var rfl) h2
/-! ### check_form -/
structure DForm where
  a : Addr
  pegs : List Str
  n : Addr
  needs : List (Str × Str)
  b : Addr
  bars : List (Str × Str)
  c : Addr
  costs : List Int
def sp_check_form (K : PySem.W.Frag) : Sp := Prm (δ := DForm) (fun d vs B => vs = [.ref d.a, .ref d.n, .ref d.b, .ref d.c] ∧ SqS K B d.a (d.pegs.map V.str) ∧ PairsAt K B d.n d.needs ∧ PairsAt K B d.b d.bars ∧ SqS K B d.c (d.costs.map V.int) ∧
  d.pegs.length ≤ 90000 ∧ d.needs.length ≤ 90000 ∧ d.bars.length ≤ 90000 ∧ d.costs.length ≤ 90000) (fun d v B => v = .non)
theorem c_check_form (F : Facts K mg) : Cal P w K mg base 3 "check_form" ["pegs", "needs", "bars", "costs"] (sp_check_form K) := by
  obtain ⟨fd, D⟩ := F.d_check_form
  have c_are_strings := c_are_strings (P := P) (w := w) (base := base) F
  have c_are_pairs := c_are_pairs (P := P) (w := w) (base := base) F
  have c_is_integer := c_is_integer (P := P) (w := w) (base := base) F
  refine mkCal D sc_check_form F.g_check_form (fun _ _ _ _ _ _ us hl => match us, hl with | [_, _, _, _], _ => rfl) (fun vs H Q E ⟨i, B, _, e, _⟩ => by rw [e.1]; rfl) fun cdv A outer s H vs Q E hr h => ⟨_, (pss_cons (ps_set (i := 4) sc_check_form.nd rfl (by first | exact .inl rfl | exact .inr rfl) (pe_or (pe_cmpR op_isN (pv 3) pe_non (nomark _)) (pe_one (pe_and (pe_callB (call_isiT_k (K := K) rfl) rfl F.f_isinstance (by decide +kernel) (pa_cons (pv 3) (pa_cons (pe_tup (pa_cons (pe_bltn (v := .ty "tuple") (u := .type "tuple") rfl F.f_tuple (by decide +kernel) rfl) (pa_cons (pe_bltn (v := .ty "list") (u := .type "list") rfl F.f_list (by decide +kernel) rfl) pa_nil))) pa_nil))) (pe_one (pe_callB (cr_all_k (K := K) rfl rfl) rfl F.f_all (by decide +kernel) (pa_cons (pe_lc rfl sc_check_form.nd (pi_alt (pi_tup_k (K := K) rfl (pv 3)) (pi_list_k (K := K) rfl (pv 3))) (blkOk_by (own := [("cost", 5)]) (N := N_check_form) (sc := defScope s_check_form) (by decide +kernel)) (fun _ _ _ _ _ => (pg_name (i := 5) sc_check_form.nd rfl (by first | exact .inl rfl | exact .inr rfl))) (fun _ _ _ _ _ => pts_nil) (fun _ _ _ _ _ => (pe_cal c_is_integer hr (by decide) rfl (pa_cons (pv 5) pa_nil)))) pa_nil)))))))
      (pss_one (ps_if (PW.pt (pw_or (pt_not (pt_val (pe_cal c_are_strings hr (by decide) rfl (pa_cons (pv 0) pa_nil)))) (pw_or (pt_not (pt_val (pe_cal c_are_pairs hr (by decide) rfl (pa_cons (pv 1) pa_nil)))) (pw_or (pt_not (pt_val (pe_cal c_are_pairs hr (by decide) rfl (pa_cons (pv 2) pa_nil)))) (pw_or1 (pt_not (pt_val (pv 4)))))))) (pss_one ps_never) pss_nil))), ?_⟩
  obtain ⟨⟨a, pegs, n, needs, b, bars, c, costs⟩, B, hB, ⟨rfl, h1, h2, h3, h4, z1, z2, z3, z4⟩, q⟩ := h
  obtain ⟨J, hi, hw⟩ := ei_seqS (te := tVar 3) (σ := L2.start N_check_form [.ref a, .ref n, .ref b, .ref c]) (ev_var rfl) h4
  rw [List.length_map] at hw
  refine q_asgP hB (ev_p (v := .bl true) (ev_orV (a := false) (b := true) (ev_is (ev_isN (x := .ref c) (ev_var rfl)) (by simp)) fun _ => ev_andV (a := true) (b := true) (ev_isSeq (ev_var rfl) h4) fun _ => ev_all (l := costs) (f := fun _ => true) (evp_lcV (st := fun x => [some (.ref a), some (.ref n), some (.ref b), some (.ref c), none, some (.int x)]) z4 hi hw (fun _ e => e) bnd_map (fun _ _ => rfl) fun x hx => (evp_call x (ea_cons (ev_var rfl) ea_nil) rfl).v) (by simp))) fun v B2 H2 g e => ?_
  subst e
  refine s_skip g.bh (et_or (a := false) (b := false) (et_not (a := true) (et_B (evp_call (a, pegs) (ea_cons (ev_var rfl) ea_nil) ⟨rfl, h1.ex g.b, z1⟩).v)) fun _ => et_or (a := false) (b := false) (et_not (a := true) (et_B (evp_call (n, needs) (ea_cons (ev_var rfl) ea_nil) ⟨rfl, h2.ex g.b, z2⟩).v)) fun _ => et_or (a := false) (b := false) (et_not (a := true) (et_B (evp_call (b, bars) (ea_cons (ev_var rfl) ea_nil) ⟨rfl, h3.ex g.b, z3⟩).v)) fun _ => et_not (a := true) (et_B (ev_var rfl))) fun H3 e3 => q _ _ _ (g.up e3) rfl
end
end NP
end

section
set_option maxHeartbeats 4000000
namespace NP
open PySem PySem.Spec PyProof.Rows L2 Evl
section
variable {K : PySem.W.Frag} {σ : L2.St} {B B1 B2 H H1 H2 : Hp} {te ta tb tc u : TE} {tt : TT}
/-! ### slices -/
theorem cut_to {xs : List V} {k : Nat} (h : k ≤ xs.length) : cutV xs none (some (k : Int)) = xs.take k := by
  unfold cutV
  rw [HT.sIx_none, HT.sIx_nat, Nat.min_eq_left h]
  simp
theorem cut_from {xs : List V} {k : Nat} (h : k ≤ xs.length) : cutV xs (some (k : Int)) none = xs.drop k := by
  unfold cutV
  rw [HT.sIx_none, HT.sIx_nat, Nat.min_eq_left h]
  rw [List.take_of_length_le (by rw [List.length_drop]; exact Nat.le_refl _)]
theorem cut_all {xs : List V} {lo hi : Option Int} (h : HT.sIx xs.length 0 lo = 0 ∧ HT.sIx xs.length xs.length hi = xs.length) : cutV xs lo hi = xs := by
  unfold cutV
  rw [h.1, h.2]
  simp
theorem evp_slT {tl th : TO} {a : Addr} {xs : List V} {lo hi : Option Int} (h : Ev te σ B (.ref a)) (h1 : EvO tl σ B lo) (h2 : EvO th σ B hi) (hs : SqT K B a xs) : EvP (tSl (rSlA K) te tl th) σ B fun v B2 => ∃ p, v = .ref p ∧ SqT K B2 p (cutV xs lo hi) := fun H1 e Q q =>
  h H1 e _ fun H2 e2 => h1 H2 (e.trans e2) _ fun H3 e3 => h2 H3 ((e.trans e2).trans e3) _ fun H4 e4 =>
    have e14 := (e2.trans e3).trans e4
    ⟨a, xs, rfl, ex_t (e.trans e14) hs, fun hw => q _ B H4 (Gr.ex e e14) ⟨a, rfl, by rw [cut_all hw]; exact hs⟩, fun hw p hp => q _ _ _ ((Gr.ex e e14).new hp) ⟨p, rfl, st_of upd_same⟩⟩
/-! ### loops that check -/
def BndF {α : Type} (Y : Nat → Hp → V → Hp → Prop) (g : TG) (B : Hp) (σ : L2.St) (l : List α) (st : α → L2.St) : Prop :=
  ∀ i (hi : i < l.length) x σ' H1 H1', (σ' = σ ∨ ∃ a ∈ l, σ' = st a) → Ex B H1 → Y i H1 x H1' → Ex H1 H1' ∧ ∀ k : L2.St → Hp → Prop, k (st l[i]) H1' → g x σ' H1' k
theorem q_check {α : Type} {l : List α} {wi : TI} {g : TG} {tz : TS} {D : Ends} {J : It} {Y : Nat → Hp → V → Hp → Prop} {st : α → L2.St} (hB : Ex B H) (hi : EvI wi σ B J) (w : Walk J l.length (fun H => Ex B H) Y) (hb : BndF Y g B σ l st) (ht : ∀ a ∈ l, EvT tt (st a) B false)
    (k : ∀ σ' H', (σ' = σ ∨ ∃ a ∈ l, σ' = st a) → Ex H H' → tz D σ' H') : tSeq (tFor wi g (tIfS tt tNever tNext)) tz D σ H := by
  refine q_for (G := fun H => Ex B H) hB hi w (fun i σ' H' => (σ' = σ ∨ ∃ a ∈ l, σ' = st a) ∧ Ex H H') (fun H1 e => ⟨.inl rfl, e⟩) (fun i σ' H' _ p => hB.trans p.2) (fun i x σ' H' H'' hlt p y => ?_) fun σ' H' p => k σ' H' p.1 p.2
  obtain ⟨e1, hgo⟩ := hb i hlt x σ' H' H'' p.1 (hB.trans p.2) y
  refine hgo _ ?_
  have memi := List.getElem_mem hlt
  exact s_skip ((hB.trans p.2).trans e1) (ht _ memi) fun H3 e3 => ⟨.inr ⟨_, memi, rfl⟩, (p.2.trans e1).trans e3⟩
theorem s_check {α : Type} {l : List α} {wi : TI} {g : TG} {D : Ends} {J : It} {Y : Nat → Hp → V → Hp → Prop} {st : α → L2.St} (hB : Ex B H) (hi : EvI wi σ B J) (w : Walk J l.length (fun H => Ex B H) Y) (hb : BndF Y g B σ l st) (ht : ∀ a ∈ l, EvT tt (st a) B false)
    (k : ∀ σ' H', (σ' = σ ∨ ∃ a ∈ l, σ' = st a) → Ex H H' → D.nx σ' H') : tFor wi g (tIfS tt tNever tNext) D σ H := by
  refine s_for (G := fun H => Ex B H) hB hi w (fun i σ' H' => (σ' = σ ∨ ∃ a ∈ l, σ' = st a) ∧ Ex H H') (fun H1 e => ⟨.inl rfl, e⟩) (fun i σ' H' _ p => hB.trans p.2) (fun i x σ' H' H'' hlt p y => ?_) fun σ' H' p => k σ' H' p.1 p.2
  obtain ⟨e1, hgo⟩ := hb i hlt x σ' H' H'' p.1 (hB.trans p.2) y
  refine hgo _ ?_
  have memi := List.getElem_mem hlt
  exact s_skip ((hB.trans p.2).trans e1) (ht _ memi) fun H3 e3 => ⟨.inr ⟨_, memi, rfl⟩, (p.2.trans e1).trans e3⟩
theorem bndF_enum {α : Type} {l : List α} {f : α → V} {st : α × Nat → L2.St} {i1 i2 : Nat} (hσ : ∀ σ', (σ' = σ ∨ ∃ a ∈ l.zipIdx, σ' = st a) → ∀ a : α × Nat, (σ'.set i1 (some (.int (a.2 : Nat)))).set i2 (some (f a.1)) = st a) :
    BndF (YPair (fun i => some (.int (i : Nat))) (fun i => (l.map f)[i]?)) (gTup K 2 (gCons (gName i1) (gCons (gName i2) gNil))) B σ l.zipIdx st := fun i hi x σ' H1 H1' hs e y => by
  obtain ⟨T, u, v, rfl, hT, rfl, h1, h2⟩ := y
  cases h1
  have hi' : i < l.length := by simpa using hi
  simp only [List.getElem?_map, List.getElem?_eq_getElem hi'] at h2
  cases h2
  refine ⟨Ex.new hT, fun k h => ⟨T, _, rfl, st_of upd_same, rfl, _, _, rfl, _, _, rfl, rfl, ?_⟩⟩
  rw [List.getElem_zipIdx, Nat.zero_add] at h
  show k ((σ'.set i1 (some (.int (i : Nat)))).set i2 (some (f l[i]))) _
  rw [hσ σ' hs (l[i], i)]
  exact h
theorem bndF_enumP {z : List ((Str × Str) × V)} {st : ((Str × Str) × V) × Nat → L2.St} {i1 i2 i3 : Nat} (hz : ∀ p ∈ z, PairV K B p.1 p.2)
    (hσ : ∀ σ', (σ' = σ ∨ ∃ a ∈ z.zipIdx, σ' = st a) → ∀ a : ((Str × Str) × V) × Nat, ((σ'.set i1 (some (.int (a.2 : Nat)))).set i2 (some (.str a.1.1.1))).set i3 (some (.str a.1.1.2)) = st a) :
    BndF (YPair (fun i => some (.int (i : Nat))) (fun i => (z.map (·.2))[i]?)) (gTup K 2 (gCons (gName i1) (gCons (gTup K 2 (gCons (gName i2) (gCons (gName i3) gNil))) gNil))) B σ z.zipIdx st := fun i hi x σ' H1 H1' hs e y => by
  obtain ⟨T, u, v, rfl, hT, rfl, h1, h2⟩ := y
  cases h1
  have hi' : i < z.length := by simpa using hi
  simp only [List.getElem?_map, List.getElem?_eq_getElem hi'] at h2
  cases h2
  obtain ⟨p, hp, hsp⟩ := hz _ (List.getElem_mem hi')
  refine ⟨Ex.new hT, fun k h => ⟨T, _, rfl, st_of upd_same, rfl, _, _, rfl, _, _, rfl, ⟨p, _, hp, ex_t (e.trans (Ex.new hT)) hsp, rfl, _, _, rfl, _, _, rfl, rfl, rfl, ?_⟩⟩⟩
  rw [List.getElem_zipIdx, Nat.zero_add] at h
  show k (((σ'.set i1 (some (.int (i : Nat)))).set i2 (some (.str z[i].1.1))).set i3 (some (.str z[i].1.2))) _
  rw [hσ σ' hs (z[i], i)]
  exact h
end
section
variable {P : Program} {w : World} {K : PySem.W.Frag} {mg : Str → Option Value} {base : Heap}
/-! ### check_pegs -/
structure DPegs where
  a : Addr
  l : List Str
  c : Addr
  costs : List Int
  m : Int
def NamesOk (l : List Str) : Prop := (∀ x ∈ l, x.length ≤ 100 ∧ nameB x = true) ∧ l.Nodup
def sp_check_pegs (K : PySem.W.Frag) : Sp := Prm (δ := DPegs) (fun d vs B => vs = [.ref d.a, .ref d.c, .int d.m] ∧ SqT K B d.a (d.l.map V.str) ∧ SqS K B d.c (d.costs.map V.int) ∧ NamesOk d.l ∧ (d.l.length : Int) ≤ d.m ∧ d.l.length ≤ 1000 ∧ d.costs.length = d.l.length ∧ ∀ c ∈ d.costs, 1 ≤ c ∧ c ≤ 1000) (fun d v B => v = .non)
theorem c_check_pegs (F : Facts K mg) : Cal P w K mg base 2 "check_pegs" ["pegs", "costs", "most"] (sp_check_pegs K) := by
  obtain ⟨fd, D⟩ := F.d_check_pegs
  have c_is_name := c_is_name (P := P) (w := w) (base := base) F
  obtain ⟨tC, hMOST_COST⟩ := F.v_COST
  refine mkCal D sc_check_pegs F.g_check_pegs (fun _ _ _ _ _ _ us hl => match us, hl with | [_, _, _], _ => rfl) (fun vs H Q E ⟨i, B, _, e, _⟩ => by rw [e.1]; rfl) fun cdv A outer s H vs Q E hr h => ⟨_, (pss_cons (ps_if (pt_cmpR op_gt (pe_callB (call_len_k (K := K) rfl) rfl F.f_len (by decide +kernel) (pa_cons (pv 0) pa_nil)) (pv 2) (nomark _)) (pss_one ps_never) pss_nil)
      (pss_cons (ps_for PassesOwn.never rfl (pi_enumT_k (K := K) rfl rfl F.f_enumerate (pa_cons (pv 0) pa_nil)) (pg_tup_k (K := K) (n := 2) rfl rfl (pgs_cons (pg_name (i := 3) sc_check_pegs.nd rfl (by first | exact .inl rfl | exact .inr rfl)) (pgs_cons (pg_name (i := 4) sc_check_pegs.nd rfl (by first | exact .inl rfl | exact .inr rfl)) pgs_nil))) (pss_one (ps_if (PW.pt (pw_or (pt_not (pt_val (pe_cal c_is_name hr (by decide) rfl (pa_cons (pv 4) pa_nil)))) (pw_or1 (pt_cmpR (op_in_seq_k (K := K) rfl) (pv 4) (pe_slice (sl_tupA_k (K := K) rfl) (pv 0) po_none (po_some (pv 3))) rfl)))) (pss_one ps_never) pss_nil)))
      (pss_cons (ps_if (pt_cmpR op_ne (pe_callB (call_len_k (K := K) rfl) rfl F.f_len (by decide +kernel) (pa_cons (pv 1) pa_nil)) (pe_callB (call_len_k (K := K) rfl) rfl F.f_len (by decide +kernel) (pa_cons (pv 0) pa_nil)) (nomark _)) (pss_one ps_never) pss_nil)
      (pss_one (ps_for PassesOwn.never rfl (pi_alt (pi_enumT_k (K := K) rfl rfl F.f_enumerate (pa_cons (pv 1) pa_nil)) (pi_enum_k (K := K) rfl rfl F.f_enumerate (pa_cons (pv 1) pa_nil))) (pg_tup_k (K := K) (n := 2) rfl rfl (pgs_cons (pg_name (i := 3) sc_check_pegs.nd rfl (by first | exact .inl rfl | exact .inr rfl)) (pgs_cons (pg_name (i := 5) sc_check_pegs.nd rfl (by first | exact .inl rfl | exact .inr rfl)) pgs_nil))) (pss_one (ps_if (pt_not (pt_chain op_le op_le pe_int (pv 5) (pe_glob (v := .int 1000) rfl hMOST_COST ⟨_, rfl⟩))) (pss_one ps_never) pss_nil))))))), ?_⟩
  obtain ⟨⟨a, l, c, costs, m⟩, B, hB, ⟨rfl, h1, h2, ⟨hn, hnd⟩, hm, z1, z2, hc⟩, q⟩ := h
  have z1 : l.length ≤ 1000 := z1
  have z2 : costs.length = l.length := z2
  refine q_skip hB (et_is (et_test (ev_op (ev_lenSq (ev_var rfl) (sqs_t h1)) (ev_var rfl) rv_I0)) (decide_eq_false (by rw [List.length_map]; exact Int.not_lt.mpr hm))) fun H1 e1 => ?_
  have hw := walk_eT h1
  rw [List.length_map, show l.length = l.zipIdx.length by simp] at hw
  refine q_check (l := l.zipIdx) (hB.trans e1) (ei_enumT (ea_cons (ev_var rfl) ea_nil) h1) hw (st := fun p => [some (.ref a), some (.ref c), some (.int m), some (.int (p.2 : Nat)), some (.str p.1), none]) (bndF_enum (by rintro σ' (rfl | ⟨p, _, rfl⟩) b <;> rfl)) (fun p hp => ?_) fun σ' H2 hσ e2 => ?_
  · have hp1 : p.2 < l.length := by have := List.snd_lt_of_mem_zipIdx hp; omega
    have hp2 : p.1 = l[p.2] := by
      have := List.fst_eq_of_mem_zipIdx hp
      simpa using this
    have hpm : p.1 ∈ l := by rw [hp2]; exact List.getElem_mem _
    refine et_or (a := false) (b := false) (et_not (a := true) (et_B (evp_call p.1 (ea_cons (ev_var rfl) ea_nil) ⟨rfl, hn _ hpm⟩).v)) fun _ => et_is (et_test (ev_inP (neg := false) (l := l.take p.2) (ev_var rfl) ((evp_slT (lo := none) (hi := some (p.2 : Nat)) (ev_var rfl) eo_none (eo_some (ev_var rfl)) h1).imp fun v B2 _ ⟨x, hv, hs⟩ => ⟨x, hv, sqs_t ?_⟩))) ?_
    · rw [cut_to (by rw [List.length_map]; exact Nat.le_of_lt hp1), ← List.map_take] at hs
      exact hs
    · refine decide_eq_false fun hin => ?_
      rw [hp2] at hin
      have hnd2 := hnd
      rw [List.nodup_iff_pairwise_ne, List.pairwise_iff_getElem] at hnd2
      obtain ⟨j, hj, hjj⟩ := List.mem_iff_getElem.mp hin
      have hj2 : j < p.2 := Nat.lt_of_lt_of_le hj (by rw [List.length_take]; exact Nat.min_le_left _ _)
      rw [List.getElem_take] at hjj
      exact hnd2 j p.2 (Nat.lt_trans hj2 hp1) hp1 hj2 hjj
  · have hz : EvT (tTest (tOp rNe (tCB (rLn K) (tCons (tVar 1) tNil)) (tCB (rLn K) (tCons (tVar 0) tNil)))) σ' B false := by
      rcases hσ with rfl | ⟨p, _, rfl⟩ <;> exact et_is (et_test (ev_neI (ev_lenSq (ev_var rfl) h2) (ev_lenSq (ev_var rfl) (sqs_t h1)))) (by simp [z2])
    refine q_skip ((hB.trans e1).trans e2) hz fun H3 e3 => ?_
    have hv : EvA (tCons (tVar 1) tNil) σ' B [.ref c] := by
      rcases hσ with rfl | ⟨p, _, rfl⟩ <;> exact ea_cons (ev_var rfl) ea_nil
    obtain ⟨J, hi, hw2⟩ := ei_enumS hv h2
    rw [List.length_map, show costs.length = costs.zipIdx.length by simp] at hw2
    have hσ3 : ∃ x y, σ' = [some (.ref a), some (.ref c), some (.int m), x, y, none] := by
      rcases hσ with rfl | ⟨p, _, rfl⟩
      · exact ⟨_, _, rfl⟩
      · exact ⟨_, _, rfl⟩
    obtain ⟨x, y, rfl⟩ := hσ3
    refine s_check (l := costs.zipIdx) (((hB.trans e1).trans e2).trans e3) hi hw2 (st := fun p => [some (.ref a), some (.ref c), some (.int m), some (.int (p.2 : Nat)), y, some (.int p.1)]) (bndF_enum (by rintro σ' (rfl | ⟨p, _, rfl⟩) b <;> rfl)) (fun p hp => ?_) fun σ' H4 _ e4 => q _ B _ (Gr.ex hB (((e1.trans e2).trans e3).trans e4)) rfl
    have hp2 : p.1 ∈ costs := by
      have := List.fst_eq_of_mem_zipIdx hp
      rw [this]
      exact List.getElem_mem _
    obtain ⟨k1, k2⟩ := hc _ hp2
    refine et_not (a := true) (et_is (et_test (ev_chain ev_c (ev_var rfl) ev_c rv_I0 rv_I0)) ?_)
    rw [decide_eq_true k1, decide_eq_true k2]
    rfl
/-! ### check_pairs -/
structure DPairs where
  a : Addr
  l : List Str
  b : Addr
  ps : List (Str × Str)
  z : Str
def PairsOk (l : List Str) (ps : List (Str × Str)) : Prop := ∀ x ∈ ps, x.1 ∈ l ∧ x.2 ∈ l ∧ x.1 ≠ x.2
def sp_check_pairs (K : PySem.W.Frag) : Sp := Prm (δ := DPairs) (fun d vs B => vs = [.ref d.a, .ref d.b, .str d.z] ∧ SqT K B d.a (d.l.map V.str) ∧ PairsAt K B d.b d.ps ∧ PairsOk d.l d.ps) (fun d v B => v = .non)
theorem c_check_pairs (F : Facts K mg) : Cal P w K mg base 1 "check_pairs" ["pegs", "pairs", "word"] (sp_check_pairs K) := by
  obtain ⟨fd, D⟩ := F.d_check_pairs
  refine mkCal D sc_check_pairs F.g_check_pairs (fun _ _ _ _ _ _ us hl => match us, hl with | [_, _, _], _ => rfl) (fun vs H Q E ⟨i, B, _, e, _⟩ => by rw [e.1]; rfl) fun cdv A outer s H vs Q E hr h => ⟨_, (pss_one (ps_for PassesOwn.never rfl (pi_alt (pi_enumT_k (K := K) rfl rfl F.f_enumerate (pa_cons (pv 1) pa_nil)) (pi_enum_k (K := K) rfl rfl F.f_enumerate (pa_cons (pv 1) pa_nil))) (pg_tup_k (K := K) (n := 2) rfl rfl (pgs_cons (pg_name (i := 3) sc_check_pairs.nd rfl (by first | exact .inl rfl | exact .inr rfl)) (pgs_cons (pg_tup_k (K := K) (n := 2) rfl rfl (pgs_cons (pg_name (i := 4) sc_check_pairs.nd rfl (by first | exact .inl rfl | exact .inr rfl)) (pgs_cons (pg_name (i := 5) sc_check_pairs.nd rfl (by first | exact .inl rfl | exact .inr rfl)) pgs_nil))) pgs_nil))) (pss_one (ps_if (PW.pt (pw_or (pt_cmpR (op_notIn_seq_k (K := K) rfl) (pv 4) (pv 0) rfl) (pw_or (pt_cmpR (op_notIn_seq_k (K := K) rfl) (pv 5) (pv 0) rfl) (pw_or1 (pt_cmpR op_eq (pv 4) (pv 5) (nomark _)))))) (pss_one ps_never) pss_nil)))), ?_⟩
  obtain ⟨⟨a, l, b, ps, z⟩, B, hB, ⟨rfl, h1, ⟨xs, h2, hp⟩, hok⟩, q⟩ := h
  obtain ⟨zs, hz1, rfl, hz3⟩ := paired_zip hp
  obtain ⟨J, hi, hw⟩ := ei_enumS (σ := L2.start N_check_pairs [.ref a, .ref b, .str z]) (t := tCons (tVar 1) tNil) (ea_cons (ev_var rfl) ea_nil) h2
  rw [List.length_map, show zs.length = zs.zipIdx.length by simp] at hw
  refine s_check (l := zs.zipIdx) hB hi hw (st := fun p => [some (.ref a), some (.ref b), some (.str z), some (.int (p.2 : Nat)), some (.str p.1.1.1), some (.str p.1.1.2)]) (bndF_enumP hz3 (by rintro σ' (rfl | ⟨p, _, rfl⟩) b <;> rfl)) (fun p hp => ?_) fun σ' H4 _ e4 => q _ B _ (Gr.ex hB e4) rfl
  have hp2 : p.1 ∈ zs := by
    have := List.fst_eq_of_mem_zipIdx hp
    rw [this]
    exact List.getElem_mem _
  obtain ⟨k1, k2, k3⟩ := hok p.1.1 (by rw [← hz1]; exact List.mem_map.mpr ⟨_, hp2, rfl⟩)
  refine et_or (a := false) (b := false) (et_is (et_test (ev_nin (ev_var rfl) (ev_var rfl) (sqs_t h1))) (by rw [decide_eq_true k1]; rfl)) fun _ => et_or (a := false) (b := false) (et_is (et_test (ev_nin (ev_var rfl) (ev_var rfl) (sqs_t h1))) (by rw [decide_eq_true k2]; rfl)) fun _ => et_is (et_test (ev_eqS (ev_var rfl) (ev_var rfl))) (decide_eq_false k3)
end
end NP
end

section
set_option maxHeartbeats 4000000
namespace NP
open PySem PySem.Spec PyProof.Rows L2 Evl
section
variable {K : PySem.W.Frag} {σ : L2.St} {B B1 B2 H H1 H2 : Hp} {te ta tb tc u : TE} {tt : TT}
/-! ### dicts -/
theorem ev_dget {d : Addr} {kvs : List (Key × V)} {p : Str} {v : V} {td ty : TE} (h : Ev td σ B (.ref d)) (hp : Ev ty σ B (.str p)) (hd : Rd B d (.dK kvs)) (hv : valV kvs (Sum.inr p) = some v) : Ev (tDGet td ty) σ B v := fun H1 e Q q =>
  h H1 e _ fun H2 e2 => hp H2 (e.trans e2) _ fun H3 e3 => ⟨d, v, rfl, .inl ⟨kvs, Sum.inr p, ex_rd ((e.trans e2).trans e3) hd, rfl, hv.symm⟩, q H3 (e2.trans e3)⟩
def RowV (ρ : Str → List Str) (B : Hp) (p : Str) (r : V) : Prop := ∃ q, r = .ref q ∧ B q = some (.lst ((ρ p).map V.str))
theorem RowV.ex {ρ : Str → List Str} {p : Str} {r : V} (h : RowV ρ B p r) (e : Ex B B1) : RowV ρ B1 p r := let ⟨q, h1, h2⟩ := h; ⟨q, h1, e _ _ h2⟩
theorem zip_get {R : Str → V → Prop} {p : Str} : ∀ {l : List Str} {rs : List V}, Paired R l rs → p ∈ l → ∃ r, valV ((l.map fun p => (Sum.inr p : Key)).zip rs) (Sum.inr p) = some r ∧ R p r
  | _, _, .nil, h => nomatch h
  | _, _, .cons (a := a) (b := b) r t, h => by
    by_cases e : a = p
    · subst e
      exact ⟨b, valV_pos rfl, r⟩
    · obtain ⟨r', h1, h2⟩ := zip_get t ((List.mem_cons.mp h).resolve_left (Ne.symm e))
      refine ⟨r', ?_, h2⟩
      rw [List.map_cons, List.zip_cons_cons, valV_neg (fun z => e (Sum.inr.inj z))]
      exact h1
/-- the dict at d is locked while t runs -/
theorem evp_lock {d : Addr} {o : HO} {t : TE} {P P' : V → Hp → Prop} (hd : B d = some o) (mu : Mut (some o)) (h : ∀ od, EvP t σ (upd B d (.frz od o)) P) (hP : ∀ od v B2, B2 d = some (.frz od o) → P v B2 → P' v (upd B2 d o)) : EvP (tLockE t) σ B P' := fun H1 e Q q => by
  refine ⟨d, o, e _ _ hd, mu, fun od => ?_⟩
  have e1 : Ex (upd B d (.frz od o)) (upd H1 d (.frz od o)) := fun a u z => by
    by_cases ha : a = d
    · subst ha; rw [upd_same] at z ⊢; exact z
    · rw [upd_ne ha] at z ⊢; exact e _ _ z
  refine h od _ e1 _ fun v B2 H2 g p => ⟨g.h _ _ upd_same, q v (upd B2 d o) _ ⟨fun a u z => ?_, fun a u z => ?_, fun a u z => ?_, fun a n1 n2 => ?_⟩ (hP od v B2 (g.b _ _ upd_same) p)⟩
  · by_cases ha : a = d
    · subst ha; rw [upd_same, ← hd]; exact z
    · rw [upd_ne ha]; exact g.b _ _ (by rw [upd_ne ha]; exact z)
  · by_cases ha : a = d
    · subst ha; rw [upd_same] at z ⊢; exact z
    · rw [upd_ne ha] at z ⊢; exact g.bh _ _ z
  · by_cases ha : a = d
    · subst ha; rw [upd_same, ← e _ _ hd]; exact z
    · rw [upd_ne ha]; exact g.h _ _ (by rw [upd_ne ha]; exact z)
  · have ha : a ≠ d := fun z => by rw [z, hd] at n2; cases n2
    rw [upd_ne ha]
    exact g.av a (by rw [upd_ne ha]; exact n1) (by rw [upd_ne ha]; exact n2)
theorem ei_items {d : Addr} {od : Obj} {kvs : List (Key × V)} {td : TE} (h : Ev td σ B (.ref d)) (hd : B d = some (.frz od (.dK kvs))) : EvI (iItems td) σ B (Iti d od kvs) := fun H1 e R q => h H1 e _ fun H2 e2 => ⟨d, od, kvs, rfl, (e.trans e2) _ _ hd, q H2 e2⟩
theorem walk_it {d : Addr} {od : Obj} {kvs : List (Key × V)} (hd : B d = some (.frz od (.dK kvs))) : Walk (Iti d od kvs) kvs.length (fun H => Ex B H) (YPair (fun i => kvs[i]?.map fun kv => kV kv.1) (fun i => kvs[i]?.map Prod.snd)) := walk_items.mono (fun H e => e _ _ hd) fun _ _ _ _ _ _ y => y
theorem bnd_items {l : List (Str × V)} {kvs : List (Key × V)} {σ0 : L2.St} {i1 i2 : Nat} (hk : kvs = l.map fun x => (Sum.inr x.1, x.2)) :
    Bnd (YPair (fun i => kvs[i]?.map fun kv => kV kv.1) (fun i => kvs[i]?.map Prod.snd)) (gTup K 2 (gCons (gName i1) (gCons (gName i2) gNil))) σ0 B l (fun a => (σ0.set i1 (some (.str a.1))).set i2 (some a.2)) := fun i hi x H1 H1' e y => by
  obtain ⟨T, u, v, rfl, hT, rfl, h1, h2⟩ := y
  subst hk
  simp only [List.getElem?_map, List.getElem?_eq_getElem hi, Option.map_some] at h1 h2
  cases h1
  cases h2
  exact ⟨Ex.new hT, fun k h => ⟨T, _, rfl, st_of upd_same, rfl, _, _, rfl, _, _, rfl, rfl, h⟩⟩
end
section
variable {P : Program} {w : World} {K : PySem.W.Frag} {mg : Str → Option Value} {base : Heap}
/-! ### needed_rows -/
def RowsAt (B : Hp) (d : Addr) (l : List Str) (ρ : Str → List Str) : Prop := ∃ rs, B d = some (.dK ((l.map fun p => (Sum.inr p : Key)).zip rs)) ∧ Paired (RowV ρ B) l rs
structure DNeed where
  a : Addr
  l : List Str
  b : Addr
  ps : List (Str × Str)
def stepR (x : Str × Str) (ρ : Str → List Str) : Str → List Str := fun p => longer (ρ p) x.1 (ρ x.2)
def rowsOf (ps : List (Str × Str)) : Str → List Str := ps.foldl (fun ρ x => stepR x ρ) fun p => [p]
theorem RowsAt.ex {B B1 : Hp} {d : Addr} {l : List Str} {ρ : Str → List Str} (h : RowsAt B d l ρ) (e : Evl.Ex B B1) : RowsAt B1 d l ρ := let ⟨rs, h1, h2⟩ := h; ⟨rs, e _ _ h1, paired_imp (fun _ _ q => q.ex e) h2⟩
theorem rowsOf_snoc {ps : List (Str × Str)} {x : Str × Str} : rowsOf (ps ++ [x]) = stepR x (rowsOf ps) := by
  unfold rowsOf
  rw [List.foldl_append]
  rfl
def NoCircle (ps : List (Str × Str)) : Prop := ∀ i (hi : i < ps.length), ps[i].1 ∉ rowsOf (ps.take i) ps[i].2
theorem paired_map_l {α β γ : Type} {R : β → γ → Prop} {f : α → β} : ∀ {l : List α} {ys : List γ}, Paired (fun a y => R (f a) y) l ys → Paired R (l.map f) ys
  | _, _, .nil => .nil
  | _, _, .cons r t => .cons r (paired_map_l t)
def RowsLe (l : List Str) (ps : List (Str × Str)) : Prop := ∀ i, ∀ p ∈ l, (rowsOf (ps.take i) p).length ≤ 1000
def sp_needed_rows (K : PySem.W.Frag) : Sp := Prm (δ := DNeed) (fun d vs B => vs = [.ref d.a, .ref d.b] ∧ SqT K B d.a (d.l.map V.str) ∧ PairsAt K B d.b d.ps ∧ d.l.Nodup ∧ d.l.length ≤ 100 ∧ PairsOk d.l d.ps ∧ NoCircle d.ps ∧ RowsLe d.l d.ps) (fun d v B => ∃ q, v = .ref q ∧ RowsAt B q d.l (rowsOf d.ps))
theorem c_needed_rows (F : Facts K mg) : Cal P w K mg base 2 "needed_rows" ["pegs", "needs"] (sp_needed_rows K) := by
  obtain ⟨fd, D⟩ := F.d_needed_rows
  have c_longer_row := c_longer_row (P := P) (w := w) (base := base) F
  refine mkCal D sc_needed_rows F.g_needed_rows (fun _ _ _ _ _ _ us hl => match us, hl with | [_, _], _ => rfl) (fun vs H Q E ⟨i, B, _, e, _⟩ => by rw [e.1]; rfl) fun cdv A outer s H vs Q E hr h => ⟨_, (pss_cons (ps_set (i := 2) sc_needed_rows.nd rfl (by first | exact .inl rfl | exact .inr rfl) (pe_dc rfl sc_needed_rows.nd (pi_tup_k (K := K) rfl (pv 0)) (blkOk_by (own := [("peg", 4)]) (N := N_needed_rows) (sc := defScope s_needed_rows) (by decide +kernel)) (fun _ _ _ _ _ => (pg_name (i := 4) sc_needed_rows.nd rfl (by first | exact .inl rfl | exact .inr rfl))) (fun _ _ _ _ _ => pts_nil) (fun _ _ _ _ _ => (pv 4)) (fun _ _ _ _ _ => (pe_lst (pa_cons (pv 4) pa_nil)))))
      (pss_cons (ps_for PassesOwn.never rfl (pi_alt (pi_enumT_k (K := K) rfl rfl F.f_enumerate (pa_cons (pv 1) pa_nil)) (pi_enum_k (K := K) rfl rfl F.f_enumerate (pa_cons (pv 1) pa_nil))) (pg_tup_k (K := K) (n := 2) rfl rfl (pgs_cons (pg_name (i := 3) sc_needed_rows.nd rfl (by first | exact .inl rfl | exact .inr rfl)) (pgs_cons (pg_tup_k (K := K) (n := 2) rfl rfl (pgs_cons (pg_name (i := 4) sc_needed_rows.nd rfl (by first | exact .inl rfl | exact .inr rfl)) (pgs_cons (pg_name (i := 5) sc_needed_rows.nd rfl (by first | exact .inl rfl | exact .inr rfl)) pgs_nil))) pgs_nil))) (pss_cons (ps_if (pt_cmpR (op_in_seq_k (K := K) rfl) (pv 4) (pe_dget (hu_of hr) (pv 2) (pv 5) (fun _ _ => rfl)) rfl) (pss_one ps_never) pss_nil)
      (pss_one (ps_set (i := 2) sc_needed_rows.nd rfl (by first | exact .inl rfl | exact .inr rfl) (pe_lock (pe_dc rfl sc_needed_rows.nd (pi_items (pv 2)) (blkOk_by (own := [("own", 6), ("row", 7)]) (N := N_needed_rows) (sc := defScope s_needed_rows) (by decide +kernel)) (fun _ _ _ _ _ => (pg_tup_k (K := K) (n := 2) rfl rfl (pgs_cons (pg_name (i := 6) sc_needed_rows.nd rfl (by first | exact .inl rfl | exact .inr rfl)) (pgs_cons (pg_name (i := 7) sc_needed_rows.nd rfl (by first | exact .inl rfl | exact .inr rfl)) pgs_nil)))) (fun _ _ _ _ _ => pts_nil) (fun _ _ _ _ _ => (pv 6)) (fun _ _ _ _ _ => (pe_cal c_longer_row hr (by decide) rfl (pa_cons (pv 7) (pa_cons (pv 4) (pa_cons (pe_dget (hu_of hr) (pv 2) (pv 5) (fun _ _ => rfl)) pa_nil)))))))))))
      (pss_one (ps_ret (pv 2))))), ?_⟩
  obtain ⟨⟨a, l, b, ps⟩, B, hB, ⟨rfl, h1, ⟨xs, h2, hp⟩, hnd, hz, hok, hcir, hlen⟩, q⟩ := h
  dsimp only at h1 h2 hp hnd hz hok hcir hlen
  obtain ⟨zs, hz1, rfl, hz3⟩ := paired_zip hp
  have hz : l.length ≤ 100 := hz
  have hw0 := walk_T h1
  rw [List.length_map] at hw0
  refine q_asgP hB (evp_dc (l := l) (key := id) (P := fun p r B => ∃ q, r = .ref q ∧ B q = some (.lst ([p].map V.str))) (by omega) (ei_tup (ev_var rfl) h1) hw0 (fun _ e => e) bnd_map (fun _ _ => rfl) (fun p _ => ev_var rfl) (by simpa using hnd) (fun p _ v H H' e ⟨q, hv, hq⟩ => ⟨q, hv, e _ _ hq⟩) (fun p _ => el_p (el_lst (ea_cons (ev_var rfl) ea_nil) (by show 1 ≤ 100000; decide)))) fun v B1 H1 g1 ⟨d0, rs0, hv, hd0, hr0⟩ => ?_
  subst hv
  have hrows0 : RowsAt B1 d0 l (rowsOf []) := ⟨rs0, hd0, hr0⟩
  have hbv : EvA (tCons (tVar 1) tNil) [some (.ref a), some (.ref b), some (.ref d0), none, none, none, none, none] B1 [.ref b] := ea_cons (ev_var rfl) ea_nil
  obtain ⟨J, hi, hw⟩ := ei_enumS hbv (h2.ex g1.b)
  have hzl : zs.length = ps.length := by rw [← hz1, List.length_map]
  rw [List.length_map] at hw
  refine q_for (G := fun H => Ex B1 H) g1.bh hi hw (fun i σ' H' => ∃ Bi d s3 s4 s5, σ' = [some (.ref a), some (.ref b), some (.ref d), s3, s4, s5, none, none] ∧ Gr B1 H1 Bi H' ∧ RowsAt Bi d l (rowsOf (ps.take i)))
    (fun H2 e2 => ⟨B1, d0, none, none, none, rfl, Gr.ex g1.bh e2, by simpa using hrows0⟩) (fun i σ' H' _ ⟨Bi, _, _, _, _, _, gr, _⟩ => gr.b.trans gr.bh) (fun i x σ' H' H'' hlt ⟨Bi, d, s3, s4, s5, hσ, gr, hrows⟩ y => ?_) fun σ' H' ⟨Bi, d, s3, s4, s5, hσ, gr, hrows⟩ => ?_
  · subst hσ
    obtain ⟨T, u, v, rfl, hT, rfl, k1, k2⟩ := y
    cases k1
    simp only [List.getElem?_map, List.getElem?_eq_getElem hlt, Option.map_some] at k2
    cases k2
    obtain ⟨p, hpv, hsp⟩ := hz3 _ (List.getElem_mem hlt)
    have eT : Ex H' (upd H' T (.tup [.int (i : Nat), zs[i].2])) := Ex.new hT
    have eB := g1.b.trans (gr.b.trans (gr.bh.trans eT))
    refine ⟨T, _, rfl, st_of upd_same, rfl, _, _, rfl, _, _, rfl, ⟨p, _, hpv, ex_t eB hsp, rfl, _, _, rfl, _, _, rfl, rfl, rfl, ?_⟩⟩
    have hips : i < ps.length := by omega
    have hx : zs[i].1 = ps[i] := by
      have : (zs.map (·.1))[i]? = ps[i]? := by rw [hz1]
      rw [List.getElem?_map, List.getElem?_eq_getElem hlt, List.getElem?_eq_getElem hips] at this
      exact Option.some.inj this
    obtain ⟨m1, m2, m3⟩ := hok _ (List.getElem_mem hips)
    rw [hx]
    obtain ⟨rs, hd, hr⟩ := hrows
    obtain ⟨rn, hvn, qn, hrn, hqn⟩ := zip_get hr m2
    subst hrn
    have grT := gr.up eT
    refine q_skip (B := Bi) grT.bh (et_is (et_test (ev_in (l := rowsOf (ps.take i) ps[i].2) (ev_var rfl) (ev_dget (ev_var rfl) (ev_var rfl) (.inl hd) hvn) (sqs_l (sq_of hqn)))) (decide_eq_false (hcir i hips))) fun H3 e3 => ?_
    have gr3 := grT.up e3
    -- the longer rows, the dict locked
    refine s_asgP (B := Bi) (P := fun v B2 => ∃ q, v = .ref q ∧ RowsAt B2 q l (rowsOf (ps.take (i + 1)))) gr3.bh (evp_lock hd trivial (P := fun v B2 => ∃ q, v = .ref q ∧ RowsAt B2 q l (rowsOf (ps.take (i + 1)))) (fun od => ?_) fun od v B2 hB2 ⟨q, hv, rs2, hq1, hq2⟩ => ⟨q, hv, rs2, ?_, ?_⟩) fun v B4 H4 g4 ⟨d4, hv, hr4⟩ => ?_
    · obtain ⟨z, hzl1, hzl2, hz4⟩ := paired_zip hr
      have hkz : ((l.map fun p => (Sum.inr p : Key)).zip rs) = z.map fun x => (Sum.inr x.1, x.2) := by
        rw [← hzl1, ← hzl2, List.map_map, List.zip_map', ]
        rfl
      have hzlen : z.length = l.length := by rw [← hzl1, List.length_map]
      have hwi := walk_it (B := upd Bi d (.frz od (.dK ((l.map fun p => (Sum.inr p : Key)).zip rs)))) (od := od) (kvs := (l.map fun p => (Sum.inr p : Key)).zip rs) upd_same
      have hkl : ((l.map fun p => (Sum.inr p : Key)).zip rs).length = z.length := by rw [hkz, List.length_map]
      rw [hkl] at hwi
      have fz : ∀ {q : Addr} {xs : List V}, Bi q = some (.lst xs) → upd Bi d (.frz od (.dK ((l.map fun p => (Sum.inr p : Key)).zip rs))) q = some (.lst xs) := fun {q xs} h => by
        rw [upd_ne (fun z => by rw [z, hd] at h; cases h)]; exact h
      refine (evp_dc (l := z) (key := fun x => x.1) (P := fun x r B => ∃ q, r = .ref q ∧ B q = some (.lst ((rowsOf (ps.take (i + 1)) x.1).map V.str))) (by omega) (ei_items (ev_var rfl) upd_same) hwi (fun _ e => e) (bnd_items hkz) (fun _ _ => rfl) (fun p _ => ev_var rfl) (by rw [hzl1]; exact hnd) (fun p _ v H H' e ⟨q, hv, hq⟩ => ⟨q, hv, e _ _ hq⟩) (fun x hx => ?_)).imp fun v B2 _ ⟨q, ys, hv, hq, hy⟩ => ⟨q, hv, ys, ?_, ?_⟩
      · obtain ⟨qx, hqx, hqx2⟩ := hz4 x hx
        have tk : ps.take (i + 1) = ps.take i ++ [ps[i]] := by rw [List.take_add_one, List.getElem?_eq_getElem hips]; rfl
        rw [tk, rowsOf_snoc]
        refine evp_call (⟨qx, rowsOf (ps.take i) x.1, ps[i].1, qn, rowsOf (ps.take i) ps[i].2⟩ : DLong) (ea_cons (ev_var (by rw [← hqx]; rfl)) (ea_cons (ev_var rfl) (ea_cons (ev_dget (ev_var rfl) (ev_var rfl) (.inr ⟨od, upd_same⟩) hvn) ea_nil))) ⟨rfl, fz hqx2, fz hqn, hlen _ _ ?_, hlen _ _ m2⟩
        rw [← hzl1]
        exact List.mem_map.mpr ⟨x, hx, rfl⟩
      · rw [hq, ← hzl1, List.map_map]
        rfl
      · rw [← hzl1]
        exact paired_map_l hy
    · rw [upd_ne (fun z => by rw [z, hB2] at hq1; cases hq1)]; exact hq1
    · refine paired_imp (fun p r ⟨q', h1, h2⟩ => ⟨q', h1, ?_⟩) hq2
      rw [upd_ne (fun z => by rw [z, hB2] at h2; cases h2)]; exact h2
    · subst hv
      exact ⟨B4, d4, _, _, _, rfl, gr3.trans g4, hr4⟩
  · subst hσ
    rw [hzl, List.take_length] at hrows
    exact s_retP gr.bh (ev_p (ev_var rfl)) fun v B2 H2 g e => q v B2 H2 ((g1.trans gr).trans g) ⟨d, e, hrows.ex g.b⟩
end
end NP
end

section
set_option maxHeartbeats 4000000
namespace NP
open PySem PySem.Spec PyProof.Rows L2 Evl
section
variable {K : PySem.W.Frag} {σ : L2.St} {B B1 B2 H H1 H2 : Hp} {te ta tb tc u : TE} {tt : TT}
/-! ### what is walked is made on the way -/
def EvIP (wi : TI) (σ : L2.St) (B : Hp) (W : It → Hp → Prop) : Prop := ∀ H1, Ex B H1 → ∀ R : It → Hp → Prop, (∀ J B2 H2, Gr B H1 B2 H2 → W J B2 → R J H2) → wi σ H1 R
theorem eip_tup {xs : List V} (h : EvP te σ B fun v B2 => ∃ p, v = .ref p ∧ SqT K B2 p xs) : EvIP (iTup K te) σ B fun J B2 => ∃ p, J = Itt K p ∧ SqT K B2 p xs := fun H1 e R q => h H1 e _ fun v B2 H2 g ⟨p, hv, hs⟩ => ⟨p, hv, ⟨xs, ex_t g.bh hs⟩, q _ B2 H2 g ⟨p, rfl, hs⟩⟩
theorem eip_list {xs : List V} (h : EvP te σ B fun v B2 => ∃ p, v = .ref p ∧ SqL K B2 p xs) : EvIP (iList K te) σ B fun J B2 => ∃ p, J = Itl K p ∧ SqL K B2 p xs := fun H1 e R q => h H1 e _ fun v B2 H2 g ⟨p, hv, hs⟩ => ⟨p, hv, ⟨xs, ex_l g.bh hs⟩, q _ B2 H2 g ⟨p, rfl, hs⟩⟩
theorem evp_lcP {wi : TI} {g : TG} {vs : List Nat} {W : It → Hp → Prop} {P : V → Hp → Prop} (h : EvIP wi σ B W) (main : ∀ J B2, Ex B B2 → W J B2 → EvP (tLc (fun _ H R => R J H) g tt te vs) σ B2 P) : EvP (tLc wi g tt te vs) σ B P := fun H1 e Q k =>
  h H1 e _ fun J B2 H2 gr hw => main J B2 gr.b hw H2 gr.bh Q fun v B3 H3 g3 p => k v B3 H3 (gr.trans g3) p
theorem evp_dcP {wi : TI} {g : TG} {vs : List Nat} {tk tv : TE} {W : It → Hp → Prop} {P : V → Hp → Prop} (h : EvIP wi σ B W) (main : ∀ J B2, Ex B B2 → W J B2 → EvP (tDc (fun _ H R => R J H) g tt tk tv vs) σ B2 P) : EvP (tDc wi g tt tk tv vs) σ B P := fun H1 e Q k =>
  h H1 e _ fun J B2 H2 gr hw => main J B2 gr.b hw H2 gr.bh Q fun v B3 H3 g3 p => k v B3 H3 (gr.trans g3) p
theorem ei_at {J : It} : EvI (fun _ H R => R J H) σ B J := fun H1 _ R q => q H1 (Ex.refl H1)
end
section
variable {P : Program} {w : World} {K : PySem.W.Frag} {mg : Str → Option Value} {base : Heap}
/-! ### check_dead -/
structure DDead where
  a : Addr
  l : List Str
  d : Addr
  ρ : Str → List Str
  b : Addr
  bs : List (Str × Str)
def sp_check_dead (K : PySem.W.Frag) : Sp := Prm (δ := DDead) (fun d vs B => vs = [.ref d.a, .ref d.d, .ref d.b] ∧ SqT K B d.a (d.l.map V.str) ∧ RowsAt B d.d d.l d.ρ ∧ PairsAt K B d.b d.bs ∧ d.bs.length ≤ 90000 ∧ ∀ p ∈ d.l, barred (d.ρ p) (d.ρ p) d.bs = false) (fun d v B => v = .non)
theorem c_check_dead (F : Facts K mg) : Cal P w K mg base 2 "check_dead" ["pegs", "rows", "bars"] (sp_check_dead K) := by
  obtain ⟨fd, D⟩ := F.d_check_dead
  have c_barred_in := c_barred_in (P := P) (w := w) (base := base) F
  refine mkCal D sc_check_dead F.g_check_dead (fun _ _ _ _ _ _ us hl => match us, hl with | [_, _, _], _ => rfl) (fun vs H Q E ⟨i, B, _, e, _⟩ => by rw [e.1]; rfl) fun cdv A outer s H vs Q E hr h => ⟨_, (pss_one (ps_for PassesOwn.never rfl (pi_enumT_k (K := K) rfl rfl F.f_enumerate (pa_cons (pv 0) pa_nil)) (pg_tup_k (K := K) (n := 2) rfl rfl (pgs_cons (pg_name (i := 3) sc_check_dead.nd rfl (by first | exact .inl rfl | exact .inr rfl)) (pgs_cons (pg_name (i := 4) sc_check_dead.nd rfl (by first | exact .inl rfl | exact .inr rfl)) pgs_nil))) (pss_one (ps_if (pt_val (pe_cal c_barred_in hr (by decide) rfl (pa_cons (pe_dget (hu_of hr) (pv 1) (pv 4) (fun _ _ => rfl)) (pa_cons (pe_dget (hu_of hr) (pv 1) (pv 4) (fun _ _ => rfl)) (pa_cons (pv 2) pa_nil))))) (pss_one ps_never) pss_nil)))), ?_⟩
  obtain ⟨⟨a, l, d, ρ, b, bs⟩, B, hB, ⟨rfl, h1, ⟨rs, hd, hrs⟩, h3, hz, hok⟩, q⟩ := h
  dsimp only at h1 hd hrs h3 hz hok
  have hw := walk_eT h1
  rw [List.length_map, show l.length = l.zipIdx.length by simp] at hw
  refine s_check (l := l.zipIdx) hB (ei_enumT (ea_cons (ev_var rfl) ea_nil) h1) hw (st := fun p => [some (.ref a), some (.ref d), some (.ref b), some (.int (p.2 : Nat)), some (.str p.1)]) (bndF_enum (by rintro σ' (rfl | ⟨p, _, rfl⟩) b <;> rfl)) (fun p hp => ?_) fun σ' H2 hσ e2 => q _ B _ (Gr.ex hB e2) rfl
  have hpm : p.1 ∈ l := by
    have := List.fst_eq_of_mem_zipIdx hp
    rw [this]
    exact List.getElem_mem _
  obtain ⟨r, hv, qr, rfl, hqr⟩ := zip_get hrs hpm
  refine et_is (et_B (evp_call (⟨qr, ρ p.1, qr, ρ p.1, b, bs⟩ : DBar) (ea_cons (ev_dget (ev_var rfl) (ev_var rfl) (.inl hd) hv) (ea_cons (ev_dget (ev_var rfl) (ev_var rfl) (.inl hd) hv) (ea_cons (ev_var rfl) ea_nil))) ⟨rfl, sqs_l (sq_of hqr), sqs_l (sq_of hqr), h3, hz⟩).v) (hok _ hpm)
/-! ### clash_pairs -/
def prs (c : Str → Str → Bool) (l : List Str) : List (Str × Str) := l.zipIdx.flatMap fun x => ((l.drop (x.2 + 1)).filter (c x.1)).map fun q => (x.1, q)
def sp_clash_pairs (K : PySem.W.Frag) : Sp := Prm (δ := DDead) (fun d vs B => vs = [.ref d.a, .ref d.d, .ref d.b] ∧ SqT K B d.a (d.l.map V.str) ∧ RowsAt B d.d d.l d.ρ ∧ PairsAt K B d.b d.bs ∧ d.bs.length ≤ 90000 ∧ d.l.length ≤ 100)
  (fun d v B => ∃ t ys, v = .ref t ∧ B t = some (.tup ys) ∧ Paired (PairV K B) (prs (fun x y => barred (d.ρ x) (d.ρ y) d.bs) d.l) ys)
theorem paired_app {α β : Type} {R : α → β → Prop} : ∀ {l m : List α} {ys zs : List β}, Paired R l ys → Paired R m zs → Paired R (l ++ m) (ys ++ zs)
  | _, _, _, _, .nil, h => h
  | _, _, _, _, .cons r t, h => .cons r (paired_app t h)
theorem prs_part {c : Str → Str → Bool} {l : List Str} {i : Nat} (hi : i < l.length) :
    (l.zipIdx.take (i + 1)).flatMap (fun x => ((l.drop (x.2 + 1)).filter (c x.1)).map fun q => (x.1, q)) = (l.zipIdx.take i).flatMap (fun x => ((l.drop (x.2 + 1)).filter (c x.1)).map fun q => (x.1, q)) ++ ((l.drop (i + 1)).filter (c l[i])).map fun q => (l[i], q) := by
  have hz : l.zipIdx[i]? = some (l[i], i) := by
    rw [List.getElem?_zipIdx, List.getElem?_eq_getElem hi]
    simp
  rw [List.take_add_one, hz, List.flatMap_append]
  simp
theorem c_clash_pairs (F : Facts K mg) : Cal P w K mg base 2 "clash_pairs" ["pegs", "rows", "bars"] (sp_clash_pairs K) := by
  obtain ⟨fd, D⟩ := F.d_clash_pairs
  have c_barred_in := c_barred_in (P := P) (w := w) (base := base) F
  refine mkCal D sc_clash_pairs F.g_clash_pairs (fun _ _ _ _ _ _ us hl => match us, hl with | [_, _, _], _ => rfl) (fun vs H Q E ⟨i, B, _, e, _⟩ => by rw [e.1]; rfl) fun cdv A outer s H vs Q E hr h => ⟨_, (pss_cons (ps_set (i := 3) sc_clash_pairs.nd rfl (by first | exact .inl rfl | exact .inr rfl) (pe_lst pa_nil))
      (pss_cons (ps_for PassesOwn.never rfl (pi_enumT_k (K := K) rfl rfl F.f_enumerate (pa_cons (pv 0) pa_nil)) (pg_tup_k (K := K) (n := 2) rfl rfl (pgs_cons (pg_name (i := 4) sc_clash_pairs.nd rfl (by first | exact .inl rfl | exact .inr rfl)) (pgs_cons (pg_name (i := 5) sc_clash_pairs.nd rfl (by first | exact .inl rfl | exact .inr rfl)) pgs_nil))) (pss_one (ps_expr (pe_bm_k (K := K) rfl PySem.F.plainAttrs_list PySem.F.slot_list_extend PySem.F.type_list_extend mt_extend (pv 3) (pa_cons (pe_lc rfl sc_clash_pairs.nd (pi_tup_k (K := K) rfl (pe_slice (sl_tupA_k (K := K) rfl) (pv 0) (po_some (pe_op op_add (pv 4) pe_int)) po_none)) (blkOk_by (own := [("other", 6)]) (N := N_clash_pairs) (sc := defScope s_clash_pairs) (by decide +kernel)) (fun _ _ _ _ _ => (pg_name (i := 6) sc_clash_pairs.nd rfl (by first | exact .inl rfl | exact .inr rfl))) (fun _ _ _ _ _ => (pts_one (pt_val (pe_cal c_barred_in hr (by decide) rfl (pa_cons (pe_dget (hu_of hr) (pv 1) (pv 5) (fun _ _ => rfl)) (pa_cons (pe_dget (hu_of hr) (pv 1) (pv 6) (fun _ _ => rfl)) (pa_cons (pv 2) pa_nil))))))) (fun _ _ _ _ _ => (pe_tup (pa_cons (pv 5) (pa_cons (pv 6) pa_nil))))) pa_nil)))))
      (pss_one (ps_ret (pe_callTy (call_tuple_of_k (K := K) rfl) rfl F.f_tuple (by decide +kernel) (pa_cons (pv 3) pa_nil)))))), ?_⟩
  obtain ⟨⟨a, l, d, ρ, b, bs⟩, B, hB, ⟨rfl, h1, ⟨rs, hd, hrs⟩, h3, hz, hzl⟩, q⟩ := h
  dsimp only at h1 hd hrs h3 hz hzl q
  refine q_asgL (el_lst ea_nil (by decide)) fun f H1 hf e1 hf1 => ?_
  have hw := walk_eT h1
  rw [List.length_map] at hw
  refine q_for (G := fun H => Ex B H) (hB.trans e1) (ei_enumT (ea_cons (ev_var rfl) ea_nil) h1) hw (fun i σ' H' => ∃ Bi s4 s5 ys, σ' = [some (.ref a), some (.ref d), some (.ref b), some (.ref f), s4, s5, none] ∧ Gr B H Bi H' ∧ Bi f = none ∧ H' f = some (.lst ys) ∧ ys.length ≤ i * 100 ∧
      Paired (PairV K Bi) ((l.zipIdx.take i).flatMap fun x => ((l.drop (x.2 + 1)).filter ((fun x y => barred (ρ x) (ρ y) bs) x.1)).map fun q => (x.1, q)) ys)
    (fun H2 e2 => ⟨B, none, none, [], rfl, Gr.ex hB (e1.trans e2), fresh_back hB hf, e2 _ _ hf1, by simp, by simp; exact .nil⟩) (fun i σ' H' _ ⟨Bi, _, _, _, _, gr, _⟩ => gr.b.trans gr.bh) (fun i x σ' H' H'' hlt ⟨Bi, s4, s5, ys, hσ, gr, hBf, hHf, hyl, hys⟩ y => ?_) fun σ' H' ⟨Bi, s4, s5, ys, hσ, gr, hBf, hHf, hyl, hys⟩ => ?_
  · subst hσ
    obtain ⟨T, u, v, rfl, hT, rfl, k1, k2⟩ := y
    cases k1
    simp only [List.getElem?_map, List.getElem?_eq_getElem hlt, Option.map_some] at k2
    cases k2
    have eT : Ex H' (upd H' T (.tup [.int (i : Nat), .str l[i]])) := Ex.new hT
    have grT := gr.up eT
    have hHfT := eT _ _ hHf
    refine ⟨T, _, rfl, st_of upd_same, rfl, _, _, rfl, _, _, rfl, rfl, ?_⟩
    obtain ⟨r1, hv1, q1, rfl, hq1⟩ := zip_get hrs (List.getElem_mem hlt)
    have hcut : cutV (l.map V.str) (some ((i + 1 : Nat) : Int)) none = (l.drop (i + 1)).map V.str := by rw [cut_from (by rw [List.length_map]; exact hlt), List.map_drop]
    have hlc : EvP _ [some (.ref a), some (.ref d), some (.ref b), some (.ref f), some (.int (i : Nat)), some (.str l[i]), none] Bi (fun v B2 => ∃ p zs, v = .ref p ∧ B2 p = some (.lst zs) ∧ Paired (fun y v => PairV K B2 (l[i], y) v) ((l.drop (i + 1)).filter fun y => barred (ρ l[i]) (ρ y) bs) zs) :=
      evp_lcP (eip_tup (K := K) (xs := (l.drop (i + 1)).map V.str) ((evp_slT (K := K) (lo := some ((i + 1 : Nat) : Int)) (hi := none) (tl := tPart (tOp (rI0 fun i j => .int (i + j)) (tVar 4) (tC (.int 1)))) (th := tNoPart) (te := tVar 0) (ev_var rfl) (eo_some (ev_is (ev_op (ev_var rfl) ev_c rv_I0) (by simp))) eo_none (ex_t gr.b h1)).imp fun v B2 _ ⟨p, hv, hs⟩ => ⟨p, hv, by rw [← hcut]; exact hs⟩)) fun J B2 e2 ⟨p, hJ, hs⟩ => by
        subst hJ
        have hw2 := walk_T hs
        rw [List.length_map] at hw2
        refine evp_lc (tt := tB (tCall (sp_barred_in K) [] L2.E0 (tCons (tDGet (tVar 1) (tVar 5)) (tCons (tDGet (tVar 1) (tVar 6)) (tCons (tVar 2) tNil))))) (te := tTup (tCons (tVar 5) (tCons (tVar 6) tNil))) (vs := [6]) (g := gName 6) (l := l.drop (i + 1)) (st := fun y => [some (.ref a), some (.ref d), some (.ref b), some (.ref f), some (.int (i : Nat)), some (.str l[i]), some (.str y)]) (P := fun y v B2 => PairV K B2 (l[i], y) v) (by rw [List.length_drop]; omega) ei_at hw2 (fun _ e => e) bnd_map (fun _ _ => rfl) (fun y hy => ?_) (fun y _ v H H' e h => h.ex e) fun y _ _ => (eu_p (eu_tup (ea_cons (ev_var rfl) (ea_cons (ev_var rfl) ea_nil)) (by show 2 ≤ 100000; decide))).imp fun v B2 _ ⟨p, hv, hp⟩ => ⟨p, hv, st_of hp⟩
        obtain ⟨r2, hv2, q2, rfl, hq2⟩ := zip_get hrs (List.mem_of_mem_drop hy)
        have eb := gr.b.trans e2
        exact et_B (evp_call (⟨q1, ρ l[i], q2, ρ y, b, bs⟩ : DBar) (ea_cons (ev_dget (ev_var rfl) (ev_var rfl) (.inl (eb _ _ hd)) hv1) (ea_cons (ev_dget (ev_var rfl) (ev_var rfl) (.inl (eb _ _ hd)) hv2) (ea_cons (ev_var rfl) ea_nil))) ⟨rfl, sqs_l (sq_of (eb _ _ hq1)), sqs_l (sq_of (eb _ _ hq2)), h3.ex eb, hz⟩).v
    refine ⟨.ref f, rfl, .inl ⟨rfl, _, sq_of hHfT⟩, ?_⟩
    refine hlc _ grT.bh _ fun v B5 H5 g5 ⟨p, zs, hv, hp, hzs⟩ => ?_
    subst hv
    have hf5 : H5 f = some (.lst ys) := g5.h _ _ hHfT
    have hB5 : B5 f = none := g5.av f (by rw [hHfT]; simp) hBf
    have g15 := grT.trans g5
    have hzl2 : zs.length ≤ 100 := by
      rw [← paired_len hzs]
      refine Nat.le_trans (List.length_filter_le _ _) ?_
      rw [List.length_drop]
      omega
    have hi100 : i < 100 := Nat.lt_of_lt_of_le hlt hzl
    refine ⟨f, p, ys, zs, rfl, rfl, hf5, g5.bh _ _ hp, sz_of (by omega), ?_⟩
    refine ⟨B5, _, _, ys ++ zs, rfl, ⟨g15.b, Ex.mut g15.bh hB5, Ex.mut g15.h hf, g15.av⟩, hB5, upd_same, by rw [List.length_append]; omega, ?_⟩
    have ep := prs_part (c := fun x y => barred (ρ x) (ρ y) bs) hlt
    rw [ep]
    exact paired_app (paired_imp (fun _ _ h => h.ex g5.b) hys) (paired_map_l (f := fun q => (l[i], q)) hzs)
  · subst hσ
    have e : l.zipIdx.take l.length = l.zipIdx := by rw [List.take_of_length_le (by simp)]
    rw [e] at hys
    exact ⟨.ref f, rfl, f, ys, rfl, .inl ⟨sq_of hHf, fun t ht => q _ (upd Bi t (.tup ys)) _ (gr.new ht) ⟨t, ys, rfl, upd_same, paired_imp (fun _ _ h => h.ex (Ex.new (fresh_back gr.bh ht))) hys⟩⟩⟩
end
end NP
end

section
set_option maxHeartbeats 4000000
namespace NP
open PySem PySem.Spec PyProof.Rows L2 Evl
/-! ### a board -/
structure Bd where
  pegs : List Str
  cost : List Int
  le : Str → Str → Bool
  cl : Str → Str → Bool
def Bd.row (b : Bd) (p : Str) : List Str := b.pegs.filter fun q => b.le p q
def Bd.costOf (b : Bd) (p : Str) : Int := ((b.pegs.zip b.cost).lookup p).getD 0
def pairD (x : Str × Str) : PyData := .tuple [.str x.1, .str x.2]
def strsD (l : List Str) : PyData := .tuple (l.map .str)
def Bd.clashes (b : Bd) : List (Str × Str) := prs b.cl b.pegs
def Bd.key (b : Bd) : PyData := .tuple [strsD b.pegs, .tuple (b.cost.map .int), .tuple (b.pegs.map fun p => strsD (b.row p)), .tuple (b.clashes.map pairD)]
structure Bd.Ok (b : Bd) : Prop where
  len : b.cost.length = b.pegs.length
  nd : b.pegs.Nodup
  most : b.pegs.length ≤ 12
  so : ∀ p ∈ b.pegs, PyData.strOk p = true
def TupV (ρ : Str → List Str) (K : PySem.W.Frag) (B : Hp) (p : Str) (r : V) : Prop := ∃ q, r = .ref q ∧ SqT K B q ((ρ p).map V.str)
structure BdAt (K : PySem.W.Frag) (B : Hp) (a : Addr) (b : Bd) : Prop where
  ok : b.Ok
  ex : ∃ dx o pr rw cs ky, B a = some (.ins (CB K) dx [("order", .ref o), ("prices", .ref pr), ("rows", .ref rw), ("clashes", .ref cs), ("key", .ref ky)]) ∧ SqT K B o (b.pegs.map V.str) ∧ B pr = some (.dK ((b.pegs.map fun p => (Sum.inr p : Key)).zip (b.cost.map V.int))) ∧
    (∃ rs, B rw = some (.dK ((b.pegs.map fun p => (Sum.inr p : Key)).zip rs)) ∧ Paired (TupV b.row K B) b.pegs rs) ∧ Dp K B (.ref cs) (.tuple (b.clashes.map pairD)) ∧ Dp K B (.ref ky) b.key
theorem TupV.ex {ρ : Str → List Str} {K : PySem.W.Frag} {B B1 : Hp} {p : Str} {r : V} (h : TupV ρ K B p r) (e : Evl.Ex B B1) : TupV ρ K B1 p r := let ⟨q, h1, h2⟩ := h; ⟨q, h1, ex_t e h2⟩
theorem dp_ex {K : PySem.W.Frag} {B B1 : Hp} {v : V} {d : PyData} (h : Dp K B v d) (e : Evl.Ex B B1) : Dp K B1 v d := Dp_ext e d v h
theorem BdAt.up {K : PySem.W.Frag} {B B1 : Hp} {a : Addr} {b : Bd} (h : BdAt K B a b) (e : Evl.Ex B B1) : BdAt K B1 a b := by
  obtain ⟨ok, dx, o, pr, rw, cs, ky, h1, h2, h3, ⟨rs, h4, h5⟩, h6, h7⟩ := h
  exact ⟨ok, dx, o, pr, rw, cs, ky, e _ _ h1, ex_t e h2, e _ _ h3, ⟨rs, e _ _ h4, paired_imp (fun _ _ q => q.ex e) h5⟩, dp_ex h6 e, dp_ex h7 e⟩
/-! ### data of texts -/
theorem shaped_of {d : PyData} (h1 : d.canLay0 = true) (h2 : d.depth ≤ 64) : SeqAt.shaped d = true := by
  show (d.canLay0 && decide (d.depth ≤ 64)) = true
  rw [h1, decide_eq_true h2]
  rfl
theorem lay_all {α : Type} {f : α → PyData} : ∀ {l : List α}, (∀ a ∈ l, (f a).canLay0 = true) → PyData.canLayAll0 (l.map f) = true
  | [], _ => by simp [PyData.canLayAll0]
  | a :: l, h => by
    rw [List.map_cons, PyData.canLayAll0, h a List.mem_cons_self, lay_all fun b hb => h b (List.mem_cons_of_mem _ hb)]
    rfl
theorem depth_all {α : Type} {f : α → PyData} {n : Nat} (h : ∀ a, (f a).depth ≤ n) : ∀ l : List α, PyData.depthAll (l.map f) ≤ n
  | [] => by simp [PyData.depthAll]
  | a :: l => by
    have h1 := depth_all h l
    have h2 := h a
    simp only [List.map_cons, PyData.depthAll]
    omega
theorem strsD_lay {l : List Str} (h : ∀ x ∈ l, PyData.strOk x = true) : (strsD l).canLay0 = true := by
  unfold strsD
  simp only [PyData.canLay0]
  exact lay_all fun x hx => by simp only [PyData.canLay0]; exact h x hx
theorem strsD_depth (l : List Str) : (strsD l).depth ≤ 1 := by
  unfold strsD
  have := depth_all (f := PyData.str) (n := 0) (fun _ => by simp [PyData.depth]) l
  simp only [PyData.depth]
  omega
theorem pairD_lay {x : Str × Str} (h1 : PyData.strOk x.1 = true) (h2 : PyData.strOk x.2 = true) : (pairD x).canLay0 = true := strsD_lay (l := [x.1, x.2]) (by simp [h1, h2])
theorem pairD_depth (x : Str × Str) : (pairD x).depth ≤ 1 := strsD_depth [x.1, x.2]
theorem pairsD_shaped {l : List (Str × Str)} (h : ∀ x ∈ l, PyData.strOk x.1 = true ∧ PyData.strOk x.2 = true) : SeqAt.shaped (.tuple (l.map pairD)) = true := by
  refine shaped_of ?_ ?_
  · simp only [PyData.canLay0]
    exact lay_all fun x hx => pairD_lay (h x hx).1 (h x hx).2
  · have := depth_all pairD_depth l
    simp only [PyData.depth]
    omega
theorem prs_mem {c : Str → Str → Bool} {l : List Str} {x : Str × Str} (h : x ∈ prs c l) : x.1 ∈ l ∧ x.2 ∈ l := by
  unfold prs at h
  obtain ⟨y, hy, h⟩ := List.mem_flatMap.mp h
  obtain ⟨z, hz, rfl⟩ := List.mem_map.mp h
  refine ⟨?_, List.mem_of_mem_drop (List.mem_filter.mp hz).1⟩
  have := List.fst_eq_of_mem_zipIdx hy
  rw [this]
  exact List.getElem_mem _
theorem Bd.Ok.cso {b : Bd} (ok : b.Ok) : ∀ x ∈ b.clashes, PyData.strOk x.1 = true ∧ PyData.strOk x.2 = true := fun x hx => ⟨ok.so _ (prs_mem hx).1, ok.so _ (prs_mem hx).2⟩
theorem key_shaped {b : Bd} (ok : b.Ok) : SeqAt.shaped b.key = true := by
  unfold Bd.key
  refine shaped_of ?_ ?_
  · have h1 : PyData.canLay0 (.tuple (b.cost.map .int)) = true := by
      simp only [PyData.canLay0]
      exact lay_all fun _ _ => by simp [PyData.canLay0]
    have h2 : PyData.canLay0 (.tuple (b.pegs.map fun p => strsD (b.row p))) = true := by
      simp only [PyData.canLay0]
      exact lay_all fun p _ => strsD_lay fun x hx => ok.so x (List.mem_filter.mp hx).1
    have h3 : PyData.canLay0 (.tuple (b.clashes.map pairD)) = true := by
      simp only [PyData.canLay0]
      exact lay_all fun x hx => pairD_lay (ok.cso x hx).1 (ok.cso x hx).2
    simp only [PyData.canLay0, PyData.canLayAll0] at h1 h2 h3 ⊢
    rw [show (strsD b.pegs).canLay0 = true from strsD_lay ok.so, h1, h2, h3]
    rfl
  · have h0 := strsD_depth b.pegs
    have h1 := depth_all (f := PyData.int) (n := 0) (fun _ => by simp [PyData.depth]) b.cost
    have h2 := depth_all (f := fun p => strsD (b.row p)) (n := 1) (fun _ => strsD_depth _) b.pegs
    have h3 := depth_all pairD_depth b.clashes
    simp only [PyData.depth, PyData.depthAll]
    omega
theorem pairD_eqv (x y : Str × Str) : PyData.eqv (pairD x) (pairD y) = decide (x = y) := by
  obtain ⟨a, b⟩ := x
  obtain ⟨c, d⟩ := y
  have e : PyData.eqv (pairD (a, b)) (pairD (c, d)) = ((a == c) && ((b == d) && true)) := by simp only [pairD, PyData.eqv, PyData.eqvAll]
  rw [e, Bool.eq_iff_iff]
  simp
theorem any_pairs {x : Str × Str} {l : List (Str × Str)} : ((l.map pairD).any fun z => PyData.eqv z (pairD x)) = decide (x ∈ l) := by
  rw [List.any_map, Bool.eq_iff_iff, List.any_eq_true, decide_eq_true_eq]
  constructor
  · rintro ⟨y, hy, e⟩
    have e' : PyData.eqv (pairD y) (pairD x) = true := e
    rw [pairD_eqv] at e'
    rw [← of_decide_eq_true e']
    exact hy
  · intro h
    refine ⟨x, h, ?_⟩
    show PyData.eqv (pairD x) (pairD x) = true
    rw [pairD_eqv]
    simp
section
variable {P : Program} {w : World} {K : PySem.W.Frag} {mg : Str → Option Value} {base : Heap}
theorem mkCalM {k : Nat} {C : Addr} {x qual : Str} {params : Arguments} {body : List Stmt} {scope : Scope} {f : Addr} {fd : FuncData} {N ps : List Str} {sp : Sp} (D : FunD K x qual params body scope [] [] f fd) (S : FnScope N ps scope) (M : Meth K C x f)
    (hb : ∀ (kV doc pm : Value) (an : Option Addr) (cdv ct : Value) (us : List Value), us.length = ps.length → bindArgs (PySem.W.fnOf x qual params body scope .none kV doc pm an cdv ct) ⟨us, []⟩ = pure (ps.zip us))
    (len : ∀ vs H Q E, sp vs H Q E → vs.length = ps.length)
    (hbody : ∀ (cdv : Value) (A : Around) (outer : List Env) (s : Shared) (H : Hp) (vs : List V) (Q : VK) (E : XK), Room k (A.deeper (envOfC qual scope s.heap.objs.size f cdv)) → sp vs H Q E →
      ∃ t, PSs (cxOf L2.CX0 P w K mg base N qual scope f cdv A outer s H E).nox body t ∧ t { nx := fun _ H' => Q .non H', rt := Q } (L2.start N vs) H) : CalM P w K mg base (k + 1) C x ps sp :=
  ⟨f, fd, D.ok S len (fun cdv A outer s H vs Q E hr h => let ⟨t, h1, h2⟩ := hbody cdv A outer s H vs Q E hr h; ⟨t, PSs.nox h1, h2⟩), M, D.bindsN hb⟩
theorem mkCalG {k : Nat} {C p g : Addr} {x qual : Str} {params : Arguments} {body : List Stmt} {scope : Scope} {fd : FuncData} {N : List Str} {sp : Sp} (D : FunD K x qual params body scope [] [] g fd) (S : FnScope N ["self"] scope) (M : PropOf K C x p g)
    (hb : ∀ (kV doc pm : Value) (an : Option Addr) (cdv ct : Value) (us : List Value), us.length = 1 → bindArgs (PySem.W.fnOf x qual params body scope .none kV doc pm an cdv ct) ⟨us, []⟩ = pure ((["self"] : List Str).zip us))
    (len : ∀ vs H Q E, sp vs H Q E → vs.length = 1)
    (hbody : ∀ (cdv : Value) (A : Around) (outer : List Env) (s : Shared) (H : Hp) (vs : List V) (Q : VK) (E : XK), Room k (A.deeper (envOfC qual scope s.heap.objs.size g cdv)) → sp vs H Q E →
      ∃ t, PSs (cxOf L2.CX0 P w K mg base N qual scope g cdv A outer s H E).nox body t ∧ t { nx := fun _ H' => Q .non H', rt := Q } (L2.start N vs) H) : CalG P w K mg base (k + 1) C x sp :=
  ⟨p, g, fd, M, D.ok S len (fun cdv A outer s H vs Q E hr h => let ⟨t, h1, h2⟩ := hbody cdv A outer s H vs Q E hr h; ⟨t, PSs.nox h1, h2⟩), D.bindsN hb⟩
/-! ### the board's methods -/
structure DB1 where
  a : Addr
  b : Bd
  p : Str
def sp_require (K : PySem.W.Frag) : Sp := Prm (δ := DB1) (fun d vs B => vs = [.ref d.a, .str d.p] ∧ BdAt K B d.a d.b ∧ d.p ∈ d.b.pegs) (fun d v B => v = .non)
theorem c_B_require (F : Facts K mg) : CalM P w K mg base 1 (CB K) "require" ["self", "peg"] (sp_require K) := by
  obtain ⟨fd, D⟩ := F.d_B_require
  refine mkCalM D sc_B_require F.mB_require (fun _ _ _ _ _ _ us hl => match us, hl with | [_, _], _ => rfl) (fun vs H Q E ⟨i, B, _, e, _⟩ => by rw [e.1]; rfl) fun cdv A outer s H vs Q E hr h => ⟨_, (pss_one (ps_if (pt_cmpR (op_notIn_seq_k (K := K) rfl) (pv 1) (pe_fld_k (K := K) rfl (pv 0) rfl) rfl) (pss_one ps_never) pss_nil)), ?_⟩
  obtain ⟨⟨a, b, p⟩, B, hB, ⟨rfl, ⟨ok, dx, o, pr, rw', cs, ky, h1, h2, h3, ⟨rs, h4, h5⟩, h6, h7⟩, hp⟩, q⟩ := h
  dsimp only at hp
  exact s_skip hB (et_is (et_test (ev_nin (ev_var rfl) (ev_fld (ev_var rfl) h1 F.clsB F.nB_order rfl) (sqs_t h2))) (by rw [decide_eq_true hp]; rfl)) fun H2 e2 => q _ B _ (Gr.ex hB e2) rfl
theorem lookup_valV {l : List Str} {c : List Int} {p : Str} (hl : c.length = l.length) (hp : p ∈ l) : valV ((l.map fun p => (Sum.inr p : Key)).zip (c.map V.int)) (Sum.inr p) = some (.int (((l.zip c).lookup p).getD 0)) := by
  induction l generalizing c with
  | nil => cases hp
  | cons a l ih =>
    cases c with
    | nil => simp at hl
    | cons n c =>
      by_cases e : a = p
      · subst e
        rw [List.map_cons, List.map_cons, List.zip_cons_cons, valV_pos rfl]
        simp
      · rw [List.map_cons, List.map_cons, List.zip_cons_cons, valV_neg (fun z => e (Sum.inr.inj z)), ih (by simpa using hl) ((List.mem_cons.mp hp).resolve_left (Ne.symm e))]
        have : (p == a) = false := beq_eq_false_iff_ne.mpr (Ne.symm e)
        simp [List.lookup, this]
def sp_cost_of (K : PySem.W.Frag) : Sp := Prm (δ := DB1) (fun d vs B => vs = [.ref d.a, .str d.p] ∧ BdAt K B d.a d.b ∧ d.p ∈ d.b.pegs) (fun d v B => v = .int (d.b.costOf d.p))
theorem c_B_cost_of (F : Facts K mg) : CalM P w K mg base 2 (CB K) "cost_of" ["self", "peg"] (sp_cost_of K) := by
  obtain ⟨fd, D⟩ := F.d_B_cost_of
  have c_B_require := c_B_require (P := P) (w := w) (base := base) F
  refine mkCalM D sc_B_cost_of F.mB_cost_of (fun _ _ _ _ _ _ us hl => match us, hl with | [_, _], _ => rfl) (fun vs H Q E ⟨i, B, _, e, _⟩ => by rw [e.1]; rfl) fun cdv A outer s H vs Q E hr h => ⟨_, (pss_cons (ps_expr (pe_calM c_B_require (pv 0) F.clsB hr (by decide) (pa_cons (pv 1) pa_nil)))
      (pss_one (ps_ret (pe_dget (hu_of hr) (pe_fld_k (K := K) rfl (pv 0) rfl) (pv 1) (fun _ _ => rfl))))), ?_⟩
  obtain ⟨⟨a, b, p⟩, B, hB, ⟨rfl, hb, hp⟩, q⟩ := h
  dsimp only at hp hb q
  obtain ⟨ok, dx, o, pr, rw', cs, ky, h1, h2, h3, ⟨rs, h4, h5⟩, h6, h7⟩ := id hb
  refine q_dropP hB (evp_meth (⟨a, b, p⟩ : DB1) (ev_var rfl) h1 rfl (ea_cons (ev_var rfl) ea_nil) ⟨rfl, hb, hp⟩) fun v B2 H2 g _ => ?_
  exact s_retP g.bh (ev_p (ev_dget (ev_fld (ev_var rfl) (g.b _ _ h1) F.clsB F.nB_prices rfl) (ev_var rfl) (.inl (g.b _ _ h3)) (lookup_valV ok.len hp))) fun v B3 H3 g3 e => q v B3 H3 (g.trans g3) e
def sp_below (K : PySem.W.Frag) : Sp := Prm (δ := DB1) (fun d vs B => vs = [.ref d.a, .str d.p] ∧ BdAt K B d.a d.b ∧ d.p ∈ d.b.pegs) (fun d v B => TupV d.b.row K B d.p v)
theorem c_B_below (F : Facts K mg) : CalM P w K mg base 2 (CB K) "below" ["self", "peg"] (sp_below K) := by
  obtain ⟨fd, D⟩ := F.d_B_below
  have c_B_require := c_B_require (P := P) (w := w) (base := base) F
  refine mkCalM D sc_B_below F.mB_below (fun _ _ _ _ _ _ us hl => match us, hl with | [_, _], _ => rfl) (fun vs H Q E ⟨i, B, _, e, _⟩ => by rw [e.1]; rfl) fun cdv A outer s H vs Q E hr h => ⟨_, (pss_cons (ps_expr (pe_calM c_B_require (pv 0) F.clsB hr (by decide) (pa_cons (pv 1) pa_nil)))
      (pss_one (ps_ret (pe_dget (hu_of hr) (pe_fld_k (K := K) rfl (pv 0) rfl) (pv 1) (fun _ _ => rfl))))), ?_⟩
  obtain ⟨⟨a, b, p⟩, B, hB, ⟨rfl, hb, hp⟩, q⟩ := h
  dsimp only at hp hb q
  obtain ⟨ok, dx, o, pr, rw', cs, ky, h1, h2, h3, ⟨rs, h4, h5⟩, h6, h7⟩ := id hb
  refine q_dropP hB (evp_meth (⟨a, b, p⟩ : DB1) (ev_var rfl) h1 rfl (ea_cons (ev_var rfl) ea_nil) ⟨rfl, hb, hp⟩) fun v B2 H2 g _ => ?_
  obtain ⟨r, hv, hr'⟩ := zip_get h5 hp
  exact s_retP g.bh (ev_p (ev_dget (ev_fld (ev_var rfl) (g.b _ _ h1) F.clsB F.nB_rows rfl) (ev_var rfl) (.inl (g.b _ _ h4)) hv)) fun v B3 H3 g3 e => q v B3 H3 (g.trans g3) (by rw [e]; exact hr'.ex (g.b.trans g3.b))
structure DB2 where
  a : Addr
  b : Bd
  p : Str
  o : Str
def sp_needs (K : PySem.W.Frag) : Sp := Prm (δ := DB2) (fun d vs B => vs = [.ref d.a, .str d.p, .str d.o] ∧ BdAt K B d.a d.b ∧ d.p ∈ d.b.pegs ∧ d.o ∈ d.b.pegs) (fun d v B => v = .bl (!decide (d.p = d.o) && d.b.le d.p d.o))
theorem c_B_needs (F : Facts K mg) : CalM P w K mg base 2 (CB K) "needs" ["self", "peg", "other"] (sp_needs K) := by
  obtain ⟨fd, D⟩ := F.d_B_needs
  have c_B_require := c_B_require (P := P) (w := w) (base := base) F
  refine mkCalM D sc_B_needs F.mB_needs (fun _ _ _ _ _ _ us hl => match us, hl with | [_, _, _], _ => rfl) (fun vs H Q E ⟨i, B, _, e, _⟩ => by rw [e.1]; rfl) fun cdv A outer s H vs Q E hr h => ⟨_, (pss_cons (ps_expr (pe_calM c_B_require (pv 0) F.clsB hr (by decide) (pa_cons (pv 1) pa_nil)))
      (pss_cons (ps_expr (pe_calM c_B_require (pv 0) F.clsB hr (by decide) (pa_cons (pv 2) pa_nil)))
      (pss_one (ps_ret (pe_and (pe_cmpR op_ne (pv 1) (pv 2) (nomark _)) (pe_one (pe_cmpR (op_in_seq_k (K := K) rfl) (pv 2) (pe_dget (hu_of hr) (pe_fld_k (K := K) rfl (pv 0) rfl) (pv 1) (fun _ _ => rfl)) rfl))))))), ?_⟩
  obtain ⟨⟨a, b, p, o'⟩, B, hB, ⟨rfl, hb, hp, ho⟩, q⟩ := h
  dsimp only at hp ho hb q
  obtain ⟨ok, dx, o, pr, rw', cs, ky, h1, h2, h3, ⟨rs, h4, h5⟩, h6, h7⟩ := id hb
  refine q_dropP hB (evp_meth (⟨a, b, p⟩ : DB1) (ev_var rfl) h1 rfl (ea_cons (ev_var rfl) ea_nil) ⟨rfl, hb, hp⟩) fun v B2 H2 g _ => ?_
  refine q_dropP g.bh (evp_meth (⟨a, b, o'⟩ : DB1) (ev_var rfl) (g.b _ _ h1) rfl (ea_cons (ev_var rfl) ea_nil) ⟨rfl, hb.up g.b, ho⟩) fun v B3 H3 g3 _ => ?_
  obtain ⟨r, hv, qr, rfl, hr'⟩ := zip_get h5 hp
  have eb := g.b.trans g3.b
  refine s_retP g3.bh (ev_p (v := .bl (!decide (p = o') && b.le p o')) (ev_andV (ev_neS (ev_var rfl) (ev_var rfl)) fun _ => ev_is (ev_in (l := b.row p) (ev_var rfl) (ev_dget (ev_fld (ev_var rfl) (eb _ _ h1) F.clsB F.nB_rows rfl) (ev_var rfl) (.inl (eb _ _ h4)) hv) (sqs_t (ex_t eb hr'))) ?_)) fun v B4 H4 g4 e => q v B4 H4 ((g.trans g3).trans g4) e
  congr 1
  rw [Bool.eq_iff_iff, decide_eq_true_eq]
  unfold Bd.row
  rw [List.mem_filter]
  exact ⟨fun h => h.2, fun h => ⟨ho, h⟩⟩
def Bd.clash (b : Bd) (p o : Str) : Bool := decide ((p, o) ∈ b.clashes) || decide ((o, p) ∈ b.clashes)
def sp_clash (K : PySem.W.Frag) : Sp := Prm (δ := DB2) (fun d vs B => vs = [.ref d.a, .str d.p, .str d.o] ∧ BdAt K B d.a d.b ∧ d.p ∈ d.b.pegs ∧ d.o ∈ d.b.pegs) (fun d v B => v = .bl (d.b.clash d.p d.o))
theorem ev_inPairs {σ : L2.St} {B : Hp} {tx ty tb : TE} {cs : Addr} {l : List (Str × Str)} {x : Str × Str} (hx : Ev tx σ B (.str x.1)) (hy : Ev ty σ B (.str x.2)) (hc : Ev tb σ B (.ref cs)) (hd : Dp K B (.ref cs) (.tuple (l.map pairD))) (so : ∀ z ∈ l, PyData.strOk z.1 = true ∧ PyData.strOk z.2 = true) (s1 : PyData.strOk x.1 = true) (s2 : PyData.strOk x.2 = true) :
    Ev (tOp (rInDT K) (tTup (tCons tx (tCons ty tNil))) tb) σ B (.bl (decide (x ∈ l))) := fun H1 e Q q => hx H1 e _ fun H2 e2 => hy H2 (e.trans e2) _ fun H3 e3 => ⟨by show 2 ≤ sizeLine; decide, fun p hp => by
  have e13 := (e2.trans e3).trans (Evl.Ex.new (o := .tup [.str x.1, .str x.2]) hp)
  refine hc _ (e.trans e13) _ fun H4 e4 => ⟨pairD x, l.map pairD, .tup (st_of (e4 _ _ upd_same)) (.cons (.str _) (.cons (.str _) .nil)), dp_ex hd ((e.trans e13).trans e4), shaped_of (pairD_lay s1 s2) (Nat.le_trans (pairD_depth x) (by decide)), pairsD_shaped so, ?_⟩
  rw [any_pairs]
  exact q _ (e13.trans e4)⟩
theorem c_B_clash (F : Facts K mg) : CalM P w K mg base 2 (CB K) "clash" ["self", "peg", "other"] (sp_clash K) := by
  obtain ⟨fd, D⟩ := F.d_B_clash
  have c_B_require := c_B_require (P := P) (w := w) (base := base) F
  refine mkCalM D sc_B_clash F.mB_clash (fun _ _ _ _ _ _ us hl => match us, hl with | [_, _, _], _ => rfl) (fun vs H Q E ⟨i, B, _, e, _⟩ => by rw [e.1]; rfl) fun cdv A outer s H vs Q E hr h => ⟨_, (pss_cons (ps_expr (pe_calM c_B_require (pv 0) F.clsB hr (by decide) (pa_cons (pv 1) pa_nil)))
      (pss_cons (ps_expr (pe_calM c_B_require (pv 0) F.clsB hr (by decide) (pa_cons (pv 2) pa_nil)))
      (pss_one (ps_ret (pe_or (pe_cmpR (op_inDT_k (K := K) rfl (roomU hr)) (pe_tup (pa_cons (pv 1) (pa_cons (pv 2) pa_nil))) (pe_fld_k (K := K) rfl (pv 0) rfl) rfl) (pe_one (pe_cmpR (op_inDT_k (K := K) rfl (roomU hr)) (pe_tup (pa_cons (pv 2) (pa_cons (pv 1) pa_nil))) (pe_fld_k (K := K) rfl (pv 0) rfl) rfl))))))), ?_⟩
  obtain ⟨⟨a, b, p, o'⟩, B, hB, ⟨rfl, hb, hp, ho⟩, q⟩ := h
  dsimp only at hp ho hb q
  obtain ⟨ok, dx, o, pr, rw', cs, ky, h1, h2, h3, ⟨rs, h4, h5⟩, h6, h7⟩ := id hb
  refine q_dropP hB (evp_meth (⟨a, b, p⟩ : DB1) (ev_var rfl) h1 rfl (ea_cons (ev_var rfl) ea_nil) ⟨rfl, hb, hp⟩) fun v B2 H2 g _ => ?_
  refine q_dropP g.bh (evp_meth (⟨a, b, o'⟩ : DB1) (ev_var rfl) (g.b _ _ h1) rfl (ea_cons (ev_var rfl) ea_nil) ⟨rfl, hb.up g.b, ho⟩) fun v B3 H3 g3 _ => ?_
  have eb := g.b.trans g3.b
  have hc := ev_fld (K := K) (ta := tVar 0) (σ := [some (.ref a), some (.str p), some (.str o')]) (ev_var rfl) (eb _ _ h1) F.clsB F.nB_clashes rfl
  exact s_retP g3.bh (ev_p (v := .bl (b.clash p o')) (ev_orV (ev_inPairs (x := (p, o')) (ev_var rfl) (ev_var rfl) hc (dp_ex h6 eb) ok.cso (ok.so _ hp) (ok.so _ ho)) fun _ => ev_inPairs (x := (o', p)) (ev_var rfl) (ev_var rfl) hc (dp_ex h6 eb) ok.cso (ok.so _ ho) (ok.so _ hp))) fun v B4 H4 g4 e => q v B4 H4 ((g.trans g3).trans g4) e
/-- pegs -/
def sp_Bpegs (K : PySem.W.Frag) : Sp := Prm (δ := Addr × Bd) (fun d vs B => vs = [.ref d.1] ∧ BdAt K B d.1 d.2) (fun d v B => ∃ o, v = .ref o ∧ SqT K B o (d.2.pegs.map V.str))
theorem c_B_pegs (F : Facts K mg) : CalG P w K mg base 1 (CB K) "pegs" (sp_Bpegs K) := by
  obtain ⟨pa, g, fd, PO, D⟩ := F.p_B_pegs
  refine mkCalG D sc_B_pegs PO (fun _ _ _ _ _ _ us hl => match us, hl with | [_], _ => rfl) (fun vs H Q E ⟨i, B, _, e, _⟩ => by rw [e.1]; rfl) fun cdv A outer s H vs Q E hr h => ⟨_, (pss_one (ps_ret (pe_fld_k (K := K) rfl (pv 0) rfl))), ?_⟩
  obtain ⟨⟨a, b⟩, B, hB, ⟨rfl, ok, dx, o, pr, rw', cs, ky, h1, h2, h3, ⟨rs, h4, h5⟩, h6, h7⟩, q⟩ := h
  exact s_retP hB (ev_p (ev_fld (ev_var rfl) h1 F.clsB F.nB_order rfl)) fun v B3 H3 g3 e => q v B3 H3 g3 ⟨o, e, ex_t g3.b h2⟩
end
end NP
end

section
set_option maxHeartbeats 4000000
namespace NP
open PySem PySem.Spec PyProof.Rows L2 Evl
section
variable {K : PySem.W.Frag} {σ : L2.St} {B B1 B2 H H1 H2 : Hp} {te ta tb tc u : TE} {tt : TT}
theorem s_forP {wi : TI} {g : TG} {t : TS} {D : Ends} {W : It → Hp → Prop} (hB : Ex B H) (hi : EvIP wi σ B W) (k : ∀ J B2 H2, Gr B H B2 H2 → W J B2 → tFor (fun _ H R => R J H) g t D σ H2) : tFor wi g t D σ H := hi H hB _ fun J B2 H2 gr hw => k J B2 H2 gr hw
theorem q_forP {wi : TI} {g : TG} {t tz : TS} {D : Ends} {W : It → Hp → Prop} (hB : Ex B H) (hi : EvIP wi σ B W) (k : ∀ J B2 H2, Gr B H B2 H2 → W J B2 → tSeq (tFor (fun _ H R => R J H) g t) tz D σ H2) : tSeq (tFor wi g t) tz D σ H := hi H hB _ fun J B2 H2 gr hw => k J B2 H2 gr hw
theorem bndF_map {α : Type} {l : List α} {f : α → V} {st : α → L2.St} {i1 : Nat} (hσ : ∀ σ', (σ' = σ ∨ ∃ a ∈ l, σ' = st a) → ∀ a : α, σ'.set i1 (some (f a)) = st a) : BndF (YAt (l.map f)) (gName i1) B σ l st := fun i hi x σ' H1 H1' hs e y => by
  obtain ⟨rfl, hx⟩ := y
  rw [List.getElem?_map, List.getElem?_eq_getElem hi] at hx
  cases hx
  refine ⟨Ex.refl _, fun k h => ?_⟩
  show k (σ'.set i1 (some (f l[i]))) _
  rw [hσ σ' hs]
  exact h
theorem kit_self {t : Value} : PySem.W.kitOne K t t = some true := by
  unfold PySem.W.kitOne
  rw [if_pos (by simp)]
theorem ev_eqD {x y : V} {d e : PyData} {b : Bool} (hx : Ev ta σ B x) (hy : Ev tb σ B y) (h1 : Dp K B x d) (h2 : Dp K B y e) (s1 : SeqAt.shaped d = true) (s2 : SeqAt.shaped e = true) (hb : PyData.eqv d e = b) : Ev (tOp (rEqD K) ta tb) σ B (.bl b) := ev_op hx hy fun H1 ex Q q =>
  ⟨d, e, dp_ex h1 ex, dp_ex h2 ex, s1, s2, by rw [hb]; exact q H1 (Ex.refl H1)⟩
theorem ev_neD {x y : V} {d e : PyData} {b : Bool} (hx : Ev ta σ B x) (hy : Ev tb σ B y) (h1 : Dp K B x d) (h2 : Dp K B y e) (s1 : SeqAt.shaped d = true) (s2 : SeqAt.shaped e = true) (hb : (!PyData.eqv d e) = b) : Ev (tOp (rNeD K) ta tb) σ B (.bl b) := ev_op hx hy fun H1 ex Q q =>
  ⟨d, e, dp_ex h1 ex, dp_ex h2 ex, s1, s2, by rw [hb]; exact q H1 (Ex.refl H1)⟩
theorem dp_strs {a : Addr} {l : List Str} (h : SqT K B a (l.map V.str)) : Dp K B (.ref a) (strsD l) := by
  refine .tup h ?_
  clear h
  induction l with
  | nil => exact .nil
  | cons x l ih => exact .cons (.str x) ih
theorem strsD_shaped {l : List Str} (h : ∀ x ∈ l, PyData.strOk x = true) : SeqAt.shaped (strsD l) = true := shaped_of (strsD_lay h) (Nat.le_trans (strsD_depth l) (by decide))
theorem strsD_eqv {l : List Str} (h : ∀ x ∈ l, PyData.strOk x = true) : PyData.eqv (strsD l) (strsD l) = true := SeqAt.eqv_refl _ (strsD_lay h)
theorem tyx_ins {C a dx : Addr} {fs : List (Str × V)} (h : B a = some (.ins C dx fs)) (cl : Cls K C) (t : TyC K C) (n : NeC K C) : TyX K B (.ref a) (.ref C) := .base (.ins h cl t.ha t.hn t.tk n.mro)
end
section
variable {P : Program} {w : World} {K : PySem.W.Frag} {mg : Str → Option Value} {base : Heap}
/-! ### Board.__eq__ -/
def RB (K : PySem.W.Frag) : Addr → Addr → Hp → Prop := fun a b H => ∃ x y, BdAt K H a x ∧ BdAt K H b y ∧ x.key = y.key
theorem RB.di {K : PySem.W.Frag} {H : Hp} {a b : Addr} {x y : Bd} (h1 : BdAt K H a x) (h2 : BdAt K H b y) (h : x.key = y.key) : DIns (CB K) (RB K) (.ref a) (.ref b) H := by
  obtain ⟨_, dx, _, _, _, _, _, k1, _⟩ := id h1
  obtain ⟨_, dy, _, _, _, _, _, k2, _⟩ := id h2
  exact ⟨a, b, _, _, _, _, rfl, rfl, k1, k2, x, y, h1, h2, h⟩
theorem c_B_eq (F : Facts K mg) : CalE P w K mg base 1 (CB K) (RB K) := by
  obtain ⟨fd, D⟩ := F.d_B_eq
  refine ⟨fd, D.ok sc_B_eq (fun vs H Q E ⟨a, b, e, _⟩ => by rw [e]; rfl) (fun cdv A outer s H vs Q E hr h => ⟨_, PSs.nox (pss_one (ps_ret (pe_and (pe_callB (call_isi_k (K := K) rfl) rfl F.f_isinstance (by decide +kernel) (pa_cons (pv 1) (pa_cons (pe_glob (v := .ref (He.ga K "Board")) rfl F.g_Board rfl) pa_nil))) (pe_one (pe_cmpR (op_eqD_k (K := K) rfl hr.units) (pe_fld_k (K := K) rfl (pv 0) rfl) (pe_fld_k (K := K) rfl (pv 1) rfl) (nomark _)))))), ?_⟩), D.bindsN (fun _ _ _ _ _ _ us hl => match us, hl with | [_, _], _ => rfl)⟩
  obtain ⟨a, b, rfl, ⟨x, y, ⟨okx, dx, o, pr, rw', cs, ky, h1, _, _, _, _, h7⟩, ⟨oky, dx2, o2, pr2, rw2, cs2, ky2, k1, _, _, _, _, k7⟩, hk⟩, q⟩ := h
  refine s_retP (B := H) (Evl.Ex.refl H) (ev_p (v := .bl true) (ev_andV (a := true) (b := true) (ev_isi (ev_var rfl) ev_c (.own _) (fun H1 e => tyx_ins (e _ _ k1) F.clsB F.tyB F.neB) kit_self) fun _ => ev_eqD (ev_fld (ev_var rfl) h1 F.clsB F.nB_key rfl) (ev_fld (ev_var rfl) k1 F.clsB F.nB_key rfl) h7 k7 (key_shaped okx) (key_shaped oky) (by rw [hk]; exact SeqAt.eqv_refl _ (SeqAt.canLay_of_shaped (key_shaped oky))))) fun v B2 H2 g e => ?_
  rw [e]
  exact q H2 g.h
/-! ### check_members -/
structure DMem where
  a : Addr
  b : Bd
  m : Addr
  M : List Str
/-- the pegs of a stand -/
structure StOk (b : Bd) (S : List Str) : Prop where
  sub : ∀ p ∈ S, p ∈ b.pegs
  down : ∀ p ∈ S, ∀ q ∈ b.row p, q ∈ S
  free : ∀ p ∈ S, ∀ q ∈ S, p ≠ q → b.clash p q = false
def sp_check_members (K : PySem.W.Frag) : Sp := Prm (δ := DMem) (fun d vs B => vs = [.ref d.a, .ref d.m] ∧ BdAt K B d.a d.b ∧ SqT K B d.m (d.M.map V.str) ∧ StOk d.b d.M ∧ d.M.Nodup) (fun d v B => v = .non)
theorem c_check_members (F : Facts K mg) : Cal P w K mg base 3 "check_members" ["board", "members"] (sp_check_members K) := by
  obtain ⟨fd, D⟩ := F.d_check_members
  have c_B_below := c_B_below (P := P) (w := w) (base := base) F
  have c_B_clash := c_B_clash (P := P) (w := w) (base := base) F
  refine mkCal D sc_check_members F.g_check_members (fun _ _ _ _ _ _ us hl => match us, hl with | [_, _], _ => rfl) (fun vs H Q E ⟨i, B, _, e, _⟩ => by rw [e.1]; rfl) fun cdv A outer s H vs Q E hr h => ⟨_, (pss_cons (ps_for PassesOwn.never rfl (pi_tup_k (K := K) rfl (pv 1)) (pg_name (i := 2) sc_check_members.nd rfl (by first | exact .inl rfl | exact .inr rfl)) (pss_one (ps_for PassesOwn.never rfl (pi_tup_k (K := K) rfl (pe_calM c_B_below (pv 0) F.clsB hr (by decide) (pa_cons (pv 2) pa_nil))) (pg_name (i := 3) sc_check_members.nd rfl (by first | exact .inl rfl | exact .inr rfl)) (pss_one (ps_if (pt_cmpR (op_notIn_seq_k (K := K) rfl) (pv 3) (pv 1) rfl) (pss_one ps_never) pss_nil)))))
      (pss_one (ps_for PassesOwn.never rfl (pi_enumT_k (K := K) rfl rfl F.f_enumerate (pa_cons (pv 1) pa_nil)) (pg_tup_k (K := K) (n := 2) rfl rfl (pgs_cons (pg_name (i := 4) sc_check_members.nd rfl (by first | exact .inl rfl | exact .inr rfl)) (pgs_cons (pg_name (i := 2) sc_check_members.nd rfl (by first | exact .inl rfl | exact .inr rfl)) pgs_nil))) (pss_one (ps_for PassesOwn.never rfl (pi_tup_k (K := K) rfl (pe_slice (sl_tupA_k (K := K) rfl) (pv 1) (po_some (pe_op op_add (pv 4) pe_int)) po_none)) (pg_name (i := 5) sc_check_members.nd rfl (by first | exact .inl rfl | exact .inr rfl)) (pss_one (ps_if (pt_val (pe_calM c_B_clash (pv 0) F.clsB hr (by decide) (pa_cons (pv 2) (pa_cons (pv 5) pa_nil)))) (pss_one ps_never) pss_nil))))))), ?_⟩
  obtain ⟨⟨a, b, m, M⟩, B, hB, ⟨rfl, hb, hm, hS, hnd⟩, q⟩ := h
  dsimp only at hb hm hS hnd q
  obtain ⟨_, dx, _, _, _, _, _, hins, _⟩ := id hb
  have hw := walk_T hm
  rw [List.length_map] at hw
  refine q_for (G := fun H => Ex B H) hB (ei_tup (ev_var rfl) hm) hw (fun i σ' H' => (∃ s2 s3, σ' = [some (.ref a), some (.ref m), s2, s3, none, none]) ∧ Ex H H') (fun H1 e => ⟨⟨_, _, rfl⟩, e⟩) (fun i σ' H' _ p => hB.trans p.2) (fun i x σ' H' H'' hlt p y => ?_) fun σ' H' p => ?_
  · obtain ⟨⟨s2, s3, rfl⟩, eH⟩ := p
    obtain ⟨rfl, hx⟩ := y
    rw [List.getElem?_map, List.getElem?_eq_getElem hlt] at hx
    cases hx
    have pm := List.getElem_mem hlt
    have eB := hB.trans eH
    refine s_forP eB (eip_tup (xs := (b.row M[i]).map V.str) ((evp_meth (⟨a, b, M[i]⟩ : DB1) (ev_var rfl) hins rfl (ea_cons (ev_var rfl) ea_nil) ⟨rfl, hb, hS.sub _ pm⟩).imp fun v B2 _ h => h)) fun J B2 H2 g2 ⟨p, hJ, hp⟩ => ?_
    subst hJ
    have hw2 := walk_T hp
    rw [List.length_map] at hw2
    refine s_check (l := b.row M[i]) g2.bh ei_at hw2 (st := fun r => [some (.ref a), some (.ref m), some (.str M[i]), some (.str r), none, none]) (bndF_map (f := V.str) (by rintro σ' (rfl | ⟨p, _, rfl⟩) b <;> rfl)) (fun r hr' => et_is (et_test (ev_nin (ev_var rfl) (ev_var rfl) (sqs_t (ex_t g2.b hm)))) (by rw [decide_eq_true (hS.down _ pm r hr')]; rfl)) fun σ' H3 hσ e3 => ⟨?_, (eH.trans g2.h).trans e3⟩
    rcases hσ with rfl | ⟨r, _, rfl⟩
    · exact ⟨_, _, rfl⟩
    · exact ⟨_, _, rfl⟩
  · obtain ⟨⟨s2, s3, rfl⟩, eH⟩ := p
    have hwe := walk_eT hm
    rw [List.length_map] at hwe
    refine s_for (G := fun H => Ex B H) (hB.trans eH) (ei_enumT (ea_cons (ev_var rfl) ea_nil) hm) hwe (fun i σ' H' => (∃ s2 s4 s5, σ' = [some (.ref a), some (.ref m), s2, s3, s4, s5]) ∧ Ex H H') (fun H1 e => ⟨⟨_, _, _, rfl⟩, eH.trans e⟩) (fun i σ' H' _ p => hB.trans p.2) (fun i x σ' H' H'' hlt p y => ?_) fun σ' H' p => q _ B _ (Gr.ex hB p.2) rfl
    obtain ⟨⟨s2, s4, s5, rfl⟩, eH⟩ := p
    obtain ⟨T, u, v, rfl, hT, rfl, k1, k2⟩ := y
    cases k1
    simp only [List.getElem?_map, List.getElem?_eq_getElem hlt, Option.map_some] at k2
    cases k2
    have eT : Ex H' (upd H' T (.tup [.int (i : Nat), .str M[i]])) := Ex.new hT
    have pm := List.getElem_mem hlt
    refine ⟨T, _, rfl, st_of upd_same, rfl, _, _, rfl, _, _, rfl, rfl, ?_⟩
    have eB := (hB.trans eH).trans eT
    have hcut : cutV (M.map V.str) (some ((i + 1 : Nat) : Int)) none = (M.drop (i + 1)).map V.str := by rw [cut_from (by rw [List.length_map]; exact hlt), List.map_drop]
    refine s_forP eB (eip_tup (xs := (M.drop (i + 1)).map V.str) ((evp_slT (K := K) (lo := some ((i + 1 : Nat) : Int)) (hi := none) (ev_var rfl) (eo_some (ev_is (ev_op (ev_var rfl) ev_c rv_I0) (by simp))) eo_none hm).imp fun v B2 _ ⟨p, hv, hs⟩ => ⟨p, hv, by rw [← hcut]; exact hs⟩)) fun J B2 H2 g2 ⟨p, hJ, hp⟩ => ?_
    subst hJ
    have hw2 := walk_T hp
    rw [List.length_map] at hw2
    refine s_check (l := M.drop (i + 1)) g2.bh ei_at hw2 (st := fun r => [some (.ref a), some (.ref m), some (.str M[i]), s3, some (.int (i : Nat)), some (.str r)]) (bndF_map (f := V.str) (by rintro σ' (rfl | ⟨p, _, rfl⟩) b <;> rfl)) (fun r hr' => et_is (et_B (evp_meth (⟨a, b, M[i], r⟩ : DB2) (ev_var rfl) (g2.b _ _ hins) rfl (ea_cons (ev_var rfl) (ea_cons (ev_var rfl) ea_nil)) ⟨rfl, hb.up g2.b, hS.sub _ pm, hS.sub _ (List.mem_of_mem_drop hr')⟩).v) (hS.free _ pm _ (List.mem_of_mem_drop hr') ?_)) fun σ' H3 hσ e3 => ⟨?_, ((eH.trans eT).trans g2.h).trans e3⟩
    · intro z
      obtain ⟨j, hj, hjj⟩ := List.mem_iff_getElem.mp hr'
      rw [List.getElem_drop] at hjj
      rw [List.length_drop] at hj
      have hnd2 := hnd
      rw [List.nodup_iff_pairwise_ne, List.pairwise_iff_getElem] at hnd2
      exact hnd2 i (i + 1 + j) hlt (by omega) (by omega) (z.trans hjj.symm)
    · rcases hσ with rfl | ⟨r, _, rfl⟩
      · exact ⟨_, _, _, rfl⟩
      · exact ⟨_, _, _, rfl⟩
end
end NP
end

section
set_option maxHeartbeats 4000000
namespace NP
open PySem PySem.Spec PyProof.Rows L2 Evl
structure CalI (P : Program) (w : World) (K : PySem.W.Frag) (mg : Str → Option Value) (base : Heap) (k : Nat) (C : Addr) (ps : List Str) (sp : Sp) : Prop where
  ex : ∃ f fd, FnOk P w K mg base L2.CX0 k f fd ps sp ∧ Mk K C f ∧ Binds K fd ps []
theorem pe_calI {X : Cx} {k j : Nat} {C : Addr} {x : Str} {ps : List Str} {sp : Sp} {e : Expr} {es : List Expr} {t : TA} {p pos : Pos} (c : CalI X.prog X.w X.K X.mg X.base j C ps sp) (hr : Room k X.A) (hk : j + 1 ≤ k) (hg : Gl X x) (hm : X.mg x = some (.ref C)) (ha : PA X (e :: es) t)
    (hdb : (x == ("__debug__" : Str)) = false := by decide) (he : starEach (e :: es) X.env = (false, eval e X.env) :: starEach es X.env := by rfl) (hpl : (backTo pos (starEach es X.env)).any (·.1) = false := by rfl) : PE X (.Call (.Name x p) (e :: es) [] pos) (tMake C sp [] L2.E0 t) := by
  obtain ⟨f, fd, F, M, hb⟩ := c.ex
  exact pe_make M F (hr.mono hk) hg hm hb .nil L2.pass0 ha hdb he hpl
section
variable {K : PySem.W.Frag} {σ : L2.St} {B B1 B2 B4 H H1 H2 H4 : Hp} {te ta tb tc u : TE} {tt : TT}
/-- tuple(..) of a new list -/
theorem evp_tupOf {xs : List V} (h : EvP te σ B fun v B2 => ∃ p, v = .ref p ∧ B2 p = some (.lst xs)) : EvP (tCB (rTupOf K) (tCons te tNil)) σ B fun v B2 => ∃ p, v = .ref p ∧ B2 p = some (.tup xs) := fun H1 e Q q =>
  h H1 e _ fun v B2 H2 g ⟨p, hv, hp⟩ => by
    subst hv
    exact ⟨p, xs, rfl, .inl ⟨sq_of (g.bh _ _ hp), fun l hl => q _ _ _ (g.new hl) ⟨l, rfl, upd_same⟩⟩⟩
theorem grI_fin {x dx C : Addr} {fs : List (Str × V)} (g : Gr B H B4 H4) (hx : H x = some (.ins C dx [])) (hd : H dx = some (.own x)) (nx : B x = none) (nd : B dx = none) : GrI x dx B H (upd (upd B4 dx (.own x)) x (.ins C dx fs)) (upd H4 x (.ins C dx fs)) := by
  have n4x : B4 x = none := g.av x (by rw [hx]; simp) nx
  have n4d : B4 dx = none := g.av dx (by rw [hd]; simp) nd
  have ne : dx ≠ x := fun z => by rw [z, hx] at hd; cases hd
  refine ⟨g.b.trans ((Ex.new n4d).trans (Ex.new (by rw [upd_ne (Ne.symm ne)]; exact n4x))), fun a u h => ?_, fun a o ha h => by rw [upd_ne ha]; exact g.h _ _ h, fun a h1 h2 h3 h4 => by rw [upd_ne h1, upd_ne h2]; exact g.av a h3 h4⟩
  by_cases h1 : a = x
  · subst h1; rw [upd_same] at h ⊢; exact h
  · rw [upd_ne h1] at h ⊢
    by_cases h2 : a = dx
    · subst h2; rw [upd_same] at h; rw [g.h _ _ hd]; exact h
    · rw [upd_ne h2] at h; exact g.bh _ _ h
theorem ex_fin {x dx C : Addr} {fs : List (Str × V)} (g : Gr B H B4 H4) (hx : H x = some (.ins C dx [])) (hd : H dx = some (.own x)) (nx : B x = none) (nd : B dx = none) : Ex B4 (upd (upd B4 dx (.own x)) x (.ins C dx fs)) := by
  have n4x : B4 x = none := g.av x (by rw [hx]; simp) nx
  have n4d : B4 dx = none := g.av dx (by rw [hd]; simp) nd
  have ne : dx ≠ x := fun z => by rw [z, hx] at hd; cases hd
  exact (Ex.new n4d).trans (Ex.new (by rw [upd_ne (Ne.symm ne)]; exact n4x))
end
/-! ### a stand -/
structure StAt (K : PySem.W.Frag) (B : Hp) (a : Addr) (b : Bd) (S : List Str) : Prop where
  ok : StOk b S
  ex : ∃ dx g m, B a = some (.ins (CS K) dx [("ground", .ref g), ("members", .ref m)]) ∧ BdAt K B g b ∧ SqT K B m (S.map V.str)
theorem StAt.up {K : PySem.W.Frag} {B B1 : Hp} {a : Addr} {b : Bd} {S : List Str} (h : StAt K B a b S) (e : Evl.Ex B B1) : StAt K B1 a b S := by
  obtain ⟨ok, dx, g, m, h1, h2, h3⟩ := h
  exact ⟨ok, dx, g, m, e _ _ h1, h2.up e, ex_t e h3⟩
def Bd.pick (b : Bd) (L : List Str) : List Str := b.pegs.filter fun p => decide (p ∈ L)
section
variable {P : Program} {w : World} {K : PySem.W.Frag} {mg : Str → Option Value} {base : Heap}
structure DInit where
  g : Addr
  b : Bd
  p : Addr
  L : List Str
def sp_S_init (K : PySem.W.Frag) : Sp := PrmI (CS K) (δ := DInit) (fun d ws B => ws = [.ref d.g, .ref d.p] ∧ BdAt K B d.g d.b ∧ SqS K B d.p (d.L.map V.str) ∧ (∀ x ∈ d.L, x ∈ d.b.pegs) ∧ StOk d.b (d.b.pick d.L)) (fun d x B => StAt K B x d.b (d.b.pick d.L))
theorem c_S_init (F : Facts K mg) : CalI P w K mg base 4 (CS K) ["self", "board", "pegs"] (sp_S_init K) := by
  obtain ⟨fd, D⟩ := F.d_S_init
  have c_B_require := c_B_require (P := P) (w := w) (base := base) F
  have c_B_pegs := c_B_pegs (P := P) (w := w) (base := base) F
  have c_check_members := c_check_members (P := P) (w := w) (base := base) F
  refine ⟨_, fd, D.ok sc_S_init (fun vs H Q E ⟨i, B, x, dx, ws, e, _, _, _, _, _, h, _⟩ => by rw [e, h.1]; rfl) (fun cdv A outer s H vs Q E hr h => ⟨_, PSs.nox (pss_cons (ps_for PassesOwn.never rfl (pi_alt (pi_tup_k (K := K) rfl (pv 2)) (pi_list_k (K := K) rfl (pv 2))) (pg_name (i := 3) sc_S_init.nd rfl (by first | exact .inl rfl | exact .inr rfl)) (pss_one (ps_expr (pe_calM c_B_require (pv 1) F.clsB hr (by decide) (pa_cons (pv 3) pa_nil)))))
      (pss_cons (ps_set (i := 4) sc_S_init.nd rfl (by first | exact .inl rfl | exact .inr rfl) (pe_callTy (call_tuple_of_k (K := K) rfl) rfl F.f_tuple (by decide +kernel) (pa_cons (pe_lc rfl sc_S_init.nd (pi_tup_k (K := K) rfl (pe_calG c_B_pegs (pv 1) F.clsB hr (by decide))) (blkOk_by (own := [("peg", 3)]) (N := N_S_init) (sc := defScope s_S_init) (by decide +kernel)) (fun _ _ _ _ _ => (pg_name (i := 3) sc_S_init.nd rfl (by first | exact .inl rfl | exact .inr rfl))) (fun _ _ _ _ _ => (pts_one (pt_cmpR (op_in_seq_k (K := K) rfl) (pv 3) (pv 2) rfl))) (fun _ _ _ _ _ => (pv 3))) pa_nil)))
      (pss_cons (ps_expr (pe_cal c_check_members hr (by decide) rfl (pa_cons (pv 1) (pa_cons (pv 4) pa_nil))))
      (pss_cons (ps_fld (pv 0) (pv 1) rfl)
      (pss_one (ps_fld (pv 0) (pv 4) rfl)))))), ?_⟩), F.mkS, D.bindsN (fun _ _ _ _ _ _ us hl => match us, hl with | [_, _, _], _ => rfl)⟩
  obtain ⟨⟨g, b, p, L⟩, B, x, dx, ws, rfl, hB, hx, hdx, nx, nd, ⟨rfl, hb, hp, hL, hS⟩, q⟩ := h
  dsimp only at hb hp hL hS q
  obtain ⟨_, dy, _, _, _, _, _, hins, _⟩ := id hb
  obtain ⟨J, hi, hw⟩ := ei_seqS (te := tVar 2) (σ := L2.start N_S_init [.ref x, .ref g, .ref p]) (ev_var rfl) hp
  rw [List.length_map] at hw
  refine q_for (G := fun H => Ex B H) hB hi hw (fun i σ' H' => (∃ s3, σ' = [some (.ref x), some (.ref g), some (.ref p), s3, none]) ∧ Ex H H') (fun H1 e => ⟨⟨_, rfl⟩, e⟩) (fun i σ' H' _ p => hB.trans p.2) (fun i z σ' H' H'' hlt p y => ?_) fun σ' H' p => ?_
  · obtain ⟨⟨s3, rfl⟩, eH⟩ := p
    obtain ⟨rfl, hz⟩ := y
    rw [List.getElem?_map, List.getElem?_eq_getElem hlt] at hz
    cases hz
    exact s_dropP (hB.trans eH) (evp_meth (⟨g, b, L[i]⟩ : DB1) (ev_var rfl) hins rfl (ea_cons (ev_var rfl) ea_nil) ⟨rfl, hb, hL _ (List.getElem_mem hlt)⟩) fun v B2 H2 g2 _ => ⟨⟨_, rfl⟩, eH.trans g2.h⟩
  · obtain ⟨⟨s3, rfl⟩, eH⟩ := p
    refine q_asgP (hB.trans eH) (evp_tupOf (xs := (b.pick L).map V.str) (evp_lcP (eip_tup (xs := b.pegs.map V.str) ((evp_prop (g, b) (ev_var rfl) hins ⟨rfl, hb⟩).imp fun v B2 _ h => h)) fun J B2 e2 ⟨o, hJ, ho⟩ => ?_)) fun v B2 H2 g2 ⟨m, hv, hm⟩ => ?_
    · subst hJ
      have hwo := walk_T ho
      rw [List.length_map] at hwo
      have hbl := hb.ok.most
      exact evp_lcF (l := b.pegs) (f := V.str) (q := fun p => decide (p ∈ L)) (st := fun c => [some (.ref x), some (.ref g), some (.ref p), some (.str c), none]) (by omega) ei_at hwo (fun _ e => e) bnd_map (fun _ _ => rfl) (fun c _ => et_test (ev_in (ev_var rfl) (ev_var rfl) (hp.ex e2))) fun c _ _ => ev_var rfl
    · subst hv
      refine q_dropP g2.bh (evp_call (⟨g, b, m, b.pick L⟩ : DMem) (ea_cons (ev_var rfl) (ea_cons (ev_var rfl) ea_nil)) ⟨rfl, hb.up g2.b, st_of hm, hS, hb.ok.nd.filter _⟩) fun v B3 H3 g3 _ => ?_
      have g13 := (Gr.ex hB eH).trans (g2.trans g3)
      have hx3 := g13.h _ _ hx
      refine ⟨_, rfl, _, rfl, x, _, dx, [], rfl, hx3, F.clsS, F.nS_ground, by decide, ?_⟩
      refine ⟨_, rfl, _, rfl, x, _, dx, _, rfl, upd_same, F.clsS, F.nS_members, by show 1 < 1000; decide, ?_⟩
      rw [upd_upd]
      have ee := ex_fin (fs := [("ground", .ref g), ("members", .ref m)]) g13 hx hdx nx nd
      exact q _ _ (grI_fin g13 hx hdx nx nd) ⟨hS, dx, g, m, upd_same, hb.up (g13.b.trans ee), st_of (ee _ _ (g3.b _ _ hm))⟩
/-- board, pegs -/
structure DS1 where
  a : Addr
  b : Bd
  S : List Str
def sp_Sboard (K : PySem.W.Frag) : Sp := Prm (δ := DS1) (fun d vs B => vs = [.ref d.a] ∧ StAt K B d.a d.b d.S) (fun d v B => ∃ g, v = .ref g ∧ BdAt K B g d.b)
theorem c_S_board (F : Facts K mg) : CalG P w K mg base 1 (CS K) "board" (sp_Sboard K) := by
  obtain ⟨pa, g, fd, PO, D⟩ := F.p_S_board
  refine mkCalG D sc_S_board PO (fun _ _ _ _ _ _ us hl => match us, hl with | [_], _ => rfl) (fun vs H Q E ⟨i, B, _, e, _⟩ => by rw [e.1]; rfl) fun cdv A outer s H vs Q E hr h => ⟨_, (pss_one (ps_ret (pe_fld_k (K := K) rfl (pv 0) rfl))), ?_⟩
  obtain ⟨⟨a, b, S⟩, B, hB, ⟨rfl, ok, dx, g, m, h1, h2, h3⟩, q⟩ := h
  exact s_retP hB (ev_p (ev_fld (ev_var rfl) h1 F.clsS F.nS_ground rfl)) fun v B3 H3 g3 e => q v B3 H3 g3 ⟨g, e, h2.up g3.b⟩
def sp_Spegs (K : PySem.W.Frag) : Sp := Prm (δ := DS1) (fun d vs B => vs = [.ref d.a] ∧ StAt K B d.a d.b d.S) (fun d v B => ∃ g, v = .ref g ∧ SqT K B g (d.S.map V.str))
theorem c_S_pegs (F : Facts K mg) : CalG P w K mg base 1 (CS K) "pegs" (sp_Spegs K) := by
  obtain ⟨pa, g, fd, PO, D⟩ := F.p_S_pegs
  refine mkCalG D sc_S_pegs PO (fun _ _ _ _ _ _ us hl => match us, hl with | [_], _ => rfl) (fun vs H Q E ⟨i, B, _, e, _⟩ => by rw [e.1]; rfl) fun cdv A outer s H vs Q E hr h => ⟨_, (pss_one (ps_ret (pe_fld_k (K := K) rfl (pv 0) rfl))), ?_⟩
  obtain ⟨⟨a, b, S⟩, B, hB, ⟨rfl, ok, dx, g, m, h1, h2, h3⟩, q⟩ := h
  exact s_retP hB (ev_p (ev_fld (ev_var rfl) h1 F.clsS F.nS_members rfl)) fun v B3 H3 g3 e => q v B3 H3 g3 ⟨m, e, ex_t g3.b h3⟩
/-- __contains__ -/
structure DS2 where
  a : Addr
  b : Bd
  S : List Str
  p : Str
def sp_Scontains (K : PySem.W.Frag) : Sp := Prm (δ := DS2) (fun d vs B => vs = [.ref d.a, .str d.p] ∧ StAt K B d.a d.b d.S) (fun d v B => v = .bl (decide (d.p ∈ d.S)))
theorem c_S_contains (F : Facts K mg) : CalM P w K mg base 1 (CS K) "__contains__" ["self", "peg"] (sp_Scontains K) := by
  obtain ⟨fd, D⟩ := F.d_S_contains
  refine mkCalM D sc_S_contains F.mS_contains (fun _ _ _ _ _ _ us hl => match us, hl with | [_, _], _ => rfl) (fun vs H Q E ⟨i, B, _, e, _⟩ => by rw [e.1]; rfl) fun cdv A outer s H vs Q E hr h => ⟨_, (pss_one (ps_ret (pe_cmpR (op_in_seq_k (K := K) rfl) (pv 1) (pe_fld_k (K := K) rfl (pv 0) rfl) rfl))), ?_⟩
  obtain ⟨⟨a, b, S, p⟩, B, hB, ⟨rfl, ok, dx, g, m, h1, h2, h3⟩, q⟩ := h
  exact s_retP hB (ev_p (ev_in (ev_var rfl) (ev_fld (ev_var rfl) h1 F.clsS F.nS_members rfl) (sqs_t h3))) fun v B3 H3 g3 e => q v B3 H3 g3 e
/-- __eq__ -/
def RS (K : PySem.W.Frag) : Addr → Addr → Hp → Prop := fun a b H => ∃ x y S, StAt K H a x S ∧ StAt K H b y S ∧ x.key = y.key
theorem RS.di {K : PySem.W.Frag} {H : Hp} {a b : Addr} {x y : Bd} {S : List Str} (h1 : StAt K H a x S) (h2 : StAt K H b y S) (h : x.key = y.key) : DIns (CS K) (RS K) (.ref a) (.ref b) H := by
  obtain ⟨_, dx, _, _, k1, _⟩ := id h1
  obtain ⟨_, dy, _, _, k2, _⟩ := id h2
  exact ⟨a, b, _, _, _, _, rfl, rfl, k1, k2, x, y, S, h1, h2, h⟩
theorem c_S_eq (F : Facts K mg) : CalE P w K mg base 2 (CS K) (RS K) := by
  obtain ⟨fd, D⟩ := F.d_S_eq
  have c_B_eq := c_B_eq (P := P) (w := w) (base := base) F
  refine ⟨fd, D.ok sc_S_eq (fun vs H Q E ⟨a, b, e, _⟩ => by rw [e]; rfl) (fun cdv A outer s H vs Q E hr h => ⟨_, PSs.nox (pss_one (ps_ret (pe_and (pe_callB (call_isi_k (K := K) rfl) rfl F.f_isinstance (by decide +kernel) (pa_cons (pv 1) (pa_cons (pe_glob (v := .ref (He.ga K "Stand")) rfl F.g_Stand rfl) pa_nil))) (pe_and (pe_cmpR (op_eqIns c_B_eq F.eqB hr (by decide)) (pe_fld_k (K := K) rfl (pv 0) rfl) (pe_fld_k (K := K) rfl (pv 1) rfl) (nomark _)) (pe_one (pe_cmpR (op_eqD_k (K := K) rfl hr.units) (pe_fld_k (K := K) rfl (pv 0) rfl) (pe_fld_k (K := K) rfl (pv 1) rfl) (nomark _))))))), ?_⟩), D.bindsN (fun _ _ _ _ _ _ us hl => match us, hl with | [_, _], _ => rfl)⟩
  obtain ⟨a, b, rfl, ⟨x, y, S, ⟨okx, dx, g, m, h1, h2, h3⟩, ⟨oky, dy, g', m', k1, k2, k3⟩, hk⟩, q⟩ := h
  have so : ∀ p ∈ S, PyData.strOk p = true := fun p hp => h2.ok.so p (okx.sub p hp)
  refine s_retP (B := H) (Evl.Ex.refl H) (ev_p (v := .bl true) (ev_andV (a := true) (b := true) (ev_isi (ev_var rfl) ev_c (.own _) (fun H1 e => tyx_ins (e _ _ k1) F.clsS F.tyS F.neS) kit_self) fun _ => ev_andV (a := true) (b := true) (ev_eqIns (ev_fld (ev_var rfl) h1 F.clsS F.nS_ground rfl) (ev_fld (ev_var rfl) k1 F.clsS F.nS_ground rfl) fun H1 e => RB.di (h2.up e) (k2.up e) hk) fun _ => ev_eqD (ev_fld (ev_var rfl) h1 F.clsS F.nS_members rfl) (ev_fld (ev_var rfl) k1 F.clsS F.nS_members rfl) (dp_strs h3) (dp_strs k3) (strsD_shaped so) (strsD_shaped so) (strsD_eqv so))) fun v B2 H2 g e => ?_
  rw [e]
  exact q H2 g.h
/-! ### check_board -/
structure DChk where
  g : Addr
  x : Bd
  a : Addr
  y : Bd
  S : List Str
def sp_check_board (K : PySem.W.Frag) : Sp := Prm (δ := DChk) (fun d vs B => vs = [.ref d.g, .ref d.a] ∧ BdAt K B d.g d.x ∧ StAt K B d.a d.y d.S ∧ d.x.key = d.y.key) (fun d v B => v = .non)
theorem c_check_board (F : Facts K mg) : Cal P w K mg base 3 "check_board" ["board", "thing"] (sp_check_board K) := by
  obtain ⟨fd, D⟩ := F.d_check_board
  have c_B_eq := c_B_eq (P := P) (w := w) (base := base) F
  have c_S_board := c_S_board (P := P) (w := w) (base := base) F
  refine mkCal D sc_check_board F.g_check_board (fun _ _ _ _ _ _ us hl => match us, hl with | [_, _], _ => rfl) (fun vs H Q E ⟨i, B, _, e, _⟩ => by rw [e.1]; rfl) fun cdv A outer s H vs Q E hr h => ⟨_, (pss_one (ps_if (pt_cmpR (op_neIns c_B_eq F.eqB F.neB hr (by decide)) (pe_calG c_S_board (pv 1) F.clsS hr (by decide)) (pv 0) (nomark _)) (pss_one ps_never) pss_nil)), ?_⟩
  obtain ⟨⟨g, x, a, y, S⟩, B, hB, ⟨rfl, hx, hs, hk⟩, q⟩ := h
  dsimp only at hx hs hk
  obtain ⟨_, dx, g', m, h1, _, _⟩ := id hs
  refine s_skip hB (et_test (ev_neInsP (C := CB K) (R := RB K) (P1 := fun v B => ∃ g, v = .ref g ∧ BdAt K B g y) (P2 := fun v _ => v = .ref g) (fun v H H' e ⟨g, hv, hb⟩ => ⟨g, hv, hb.up e⟩) ((evp_prop (⟨a, y, S⟩ : DS1) (ev_var rfl) h1 ⟨rfl, hs⟩).imp fun v B2 _ h => h) (fun B1 e1 => ev_p (ev_var rfl)) fun v u B1 H1 e1 ⟨g2, hv, hb⟩ hu e2 => ?_)) fun H2 e2 => q _ B _ (Gr.ex hB e2) rfl
  subst hv hu
  exact RB.di (hb.up e2) (hx.up (e1.trans e2)) hk.symm
end
end NP
end

section
set_option maxHeartbeats 4000000
namespace NP
open PySem PySem.Spec PyProof.Rows L2 Evl
def Bd.xor (b : Bd) (S T : List Str) : List Str := b.pegs.filter fun p => decide (p ∈ S) != decide (p ∈ T)
def Bd.mid (b : Bd) (S T U : List Str) : List Str := b.pegs.filter fun p => decide (1 < ([S, T, U].filter fun R => decide (p ∈ R)).length)
def btwB (S T U : List Str) : Bool := ((T.filter fun p => decide (p ∈ U)).all fun p => decide (p ∈ S)) && S.all fun p => decide (p ∈ T) || decide (p ∈ U)
def Bd.join (b : Bd) (p : Str) (R M : List Str) : Bool := !(((R.filter fun o => !decide (o = p)).any fun o => !decide (o ∈ M))) && !(M.any fun o => b.clash p o)
theorem pick_filter {b : Bd} {q : Str → Bool} : b.pick (b.pegs.filter q) = b.pegs.filter q := by
  unfold Bd.pick
  refine List.filter_congr fun p hp => ?_
  rw [Bool.eq_iff_iff, decide_eq_true_eq, List.mem_filter]
  exact ⟨fun h => h.2, fun h => ⟨hp, h⟩⟩
section
variable {K : PySem.W.Frag} {σ : L2.St} {B B1 B2 B4 H H1 H2 H4 : Hp} {te ta tb tc u : TE} {tt : TT}
theorem ev_neB {x y : Bool} (hx : Ev ta σ B (.bl x)) (hy : Ev tb σ B (.bl y)) : Ev (tOp rNe ta tb) σ B (.bl (x != y)) := ev_op hx hy (by
  have h := rv_ne (x := V.bl x) (y := V.bl y) (H := B) rfl
  have e : (!decide (V.bl x = V.bl y)) = (x != y) := by cases x <;> cases y <;> simp
  rw [e] at h
  exact h)
theorem ev_sum {ns : List Int} (h : EvP te σ B fun v B2 => ∃ p, v = .ref p ∧ B2 p = some (.lst (ns.map V.int))) : Ev (tCB (rSum K) (tCons te tNil)) σ B (.int ns.sum) := fun H1 e Q q =>
  h H1 e _ fun v B2 H2 g ⟨p, hv, hp⟩ => by
    subst hv
    exact ⟨p, ns, rfl, sq_of (g.bh _ _ hp), q H2 g.h⟩
/-- a comprehension without if, the items told by values: the new list -/
theorem evp_lcM {α : Type} {l : List α} {wi : TI} {g : TG} {vs : List Nat} {J : It} {G : Hp → Prop} {Y : Nat → Hp → V → Hp → Prop} {st : α → L2.St} {f : α → V} (hz : l.length ≤ 90000) (hi : EvI wi σ B J) (w : Walk J l.length G Y) (hG : ∀ H1, Ex B H1 → G H1)
    (hb : Bnd Y g (L2.wipe σ vs) B l st) (hst : ∀ a ∈ l, L2.wipe (st a) vs = L2.wipe σ vs) (he : ∀ a ∈ l, Ev te (st a) B (f a)) : EvP (tLc wi g tYes te vs) σ B fun v B2 => ∃ p, v = .ref p ∧ B2 p = some (.lst (l.map f)) :=
  (evp_lcV hz hi w hG hb hst he).imp fun v B2 _ ⟨p, ys, h1, h2, h3⟩ => ⟨p, h1, by rw [← paired_eq h3]; exact h2⟩
theorem mon_all {xs : List V} : Mon fun v B => ∃ p, v = .ref p ∧ B p = some (.lst xs) := mon_lst
end
section
variable {P : Program} {w : World} {K : PySem.W.Frag} {mg : Str → Option Value} {base : Heap}
structure DSS where
  a : Addr
  c : Addr
  b : Bd
  S : List Str
  T : List Str
/-! ### __xor__ -/
def sp_Sxor (K : PySem.W.Frag) : Sp := Prm (δ := DSS) (fun d vs B => vs = [.ref d.a, .ref d.c] ∧ StAt K B d.a d.b d.S ∧ StAt K B d.c d.b d.T) (fun d v B => ∃ t, v = .ref t ∧ SqT K B t ((d.b.xor d.S d.T).map V.str))
theorem c_S_xor (F : Facts K mg) : CalM P w K mg base 4 (CS K) "__xor__" ["self", "other"] (sp_Sxor K) := by
  obtain ⟨fd, D⟩ := F.d_S_xor
  have c_check_board := c_check_board (P := P) (w := w) (base := base) F
  have c_B_pegs := c_B_pegs (P := P) (w := w) (base := base) F
  refine mkCalM D sc_S_xor F.mS_xor (fun _ _ _ _ _ _ us hl => match us, hl with | [_, _], _ => rfl) (fun vs H Q E ⟨i, B, _, e, _⟩ => by rw [e.1]; rfl) fun cdv A outer s H vs Q E hr h => ⟨_, (pss_cons (ps_expr (pe_cal c_check_board hr (by decide) rfl (pa_cons (pe_fld_k (K := K) rfl (pv 0) rfl) (pa_cons (pv 1) pa_nil))))
      (pss_one (ps_ret (pe_callTy (call_tuple_of_k (K := K) rfl) rfl F.f_tuple (by decide +kernel) (pa_cons (pe_lc rfl sc_S_xor.nd (pi_tup_k (K := K) rfl (pe_calG c_B_pegs (pe_fld_k (K := K) rfl (pv 0) rfl) F.clsB hr (by decide))) (blkOk_by (own := [("peg", 2)]) (N := N_S_xor) (sc := defScope s_S_xor) (by decide +kernel)) (fun _ _ _ _ _ => (pg_name (i := 2) sc_S_xor.nd rfl (by first | exact .inl rfl | exact .inr rfl))) (fun _ _ _ _ _ => (pts_one (pt_cmpR op_ne (pe_cmpR (op_in_seq_k (K := K) rfl) (pv 2) (pe_fld_k (K := K) rfl (pv 0) rfl) rfl) (pe_cmpR (op_in_seq_k (K := K) rfl) (pv 2) (pe_fld_k (K := K) rfl (pv 1) rfl) rfl) (nomark _)))) (fun _ _ _ _ _ => (pv 2))) pa_nil))))), ?_⟩
  obtain ⟨⟨a, c, b, S, T⟩, B, hB, ⟨rfl, hs, ht⟩, q⟩ := h
  dsimp only at hs ht q
  obtain ⟨_, dx, g, m, h1, h2, h3⟩ := id hs
  obtain ⟨_, dy, g', m', k1, k2, k3⟩ := id ht
  refine q_dropP hB (evp_call (⟨g, b, c, b, T⟩ : DChk) (ea_cons (ev_fld (ev_var rfl) h1 F.clsS F.nS_ground rfl) (ea_cons (ev_var rfl) ea_nil)) ⟨rfl, h2, ht, rfl⟩) fun v B1 H1 g1 _ => ?_
  obtain ⟨_, dz, _, _, _, _, _, hins, _⟩ := id h2
  refine s_retP g1.bh (evp_tupOf (xs := (b.xor S T).map V.str) (evp_lcP (eip_tup (xs := b.pegs.map V.str) ((evp_prop (g, b) (ev_fld (ev_var rfl) (g1.b _ _ h1) F.clsS F.nS_ground rfl) (g1.b _ _ hins) ⟨rfl, h2.up g1.b⟩).imp fun v B2 _ h => h)) fun J B2 e2 ⟨o, hJ, ho⟩ => ?_)) fun v B3 H3 g3 ⟨p, hv, hp⟩ => q v B3 H3 (g1.trans g3) ⟨p, hv, st_of hp⟩
  subst hJ
  have hwo := walk_T ho
  rw [List.length_map] at hwo
  have hbl := h2.ok.most
  have e12 := g1.b.trans e2
  exact evp_lcF (l := b.pegs) (f := V.str) (q := fun p => decide (p ∈ S) != decide (p ∈ T)) (st := fun p => [some (.ref a), some (.ref c), some (.str p)]) (by omega) ei_at hwo (fun _ e => e) bnd_map (fun _ _ => rfl) (fun p _ => et_test (ev_neB (ev_in (ev_var rfl) (ev_fld (ev_var rfl) (e12 _ _ h1) F.clsS F.nS_members rfl) (sqs_t (ex_t e12 h3))) (ev_in (ev_var rfl) (ev_fld (ev_var rfl) (e12 _ _ k1) F.clsS F.nS_members rfl) (sqs_t (ex_t e12 k3))))) fun p _ _ => ev_var rfl
/-! ### distance -/
def Bd.dist (b : Bd) (S T : List Str) : Int := ((b.xor S T).map b.costOf).sum
def sp_Sdistance (K : PySem.W.Frag) : Sp := Prm (δ := DSS) (fun d vs B => vs = [.ref d.a, .ref d.c] ∧ StAt K B d.a d.b d.S ∧ StAt K B d.c d.b d.T) (fun d v B => v = .int (d.b.dist d.S d.T))
theorem c_S_distance (F : Facts K mg) : CalM P w K mg base 4 (CS K) "distance" ["self", "other"] (sp_Sdistance K) := by
  obtain ⟨fd, D⟩ := F.d_S_distance
  have c_check_board := c_check_board (P := P) (w := w) (base := base) F
  have c_B_pegs := c_B_pegs (P := P) (w := w) (base := base) F
  have c_B_cost_of := c_B_cost_of (P := P) (w := w) (base := base) F
  refine mkCalM D sc_S_distance F.mS_distance (fun _ _ _ _ _ _ us hl => match us, hl with | [_, _], _ => rfl) (fun vs H Q E ⟨i, B, _, e, _⟩ => by rw [e.1]; rfl) fun cdv A outer s H vs Q E hr h => ⟨_, (pss_cons (ps_expr (pe_cal c_check_board hr (by decide) rfl (pa_cons (pe_fld_k (K := K) rfl (pv 0) rfl) (pa_cons (pv 1) pa_nil))))
      (pss_cons (ps_setLc (i := 2) rfl sc_S_distance.nd rfl rfl (sw_true rfl rfl rfl (by decide +kernel)) (pi_tup_k (K := K) rfl (pe_calG c_B_pegs (pe_fld_k (K := K) rfl (pv 0) rfl) F.clsB hr (by decide))) (blkOk_by (own := [("peg", 3)]) (N := N_S_distance) (sc := defScope s_S_distance) (by decide +kernel)) (fun _ _ _ _ _ => (pg_name (i := 3) sc_S_distance.nd rfl (by first | exact .inl rfl | exact .inr rfl))) (fun _ _ _ _ _ => (pts_one (pt_cmpR op_ne (pe_cmpR (op_in_seq_k (K := K) rfl) (pv 3) (pe_fld_k (K := K) rfl (pv 0) rfl) rfl) (pe_cmpR (op_in_seq_k (K := K) rfl) (pv 3) (pe_fld_k (K := K) rfl (pv 1) rfl) rfl) (nomark _)))) (fun _ _ _ _ _ => (pv 3)))
      (pss_one (ps_ret (pe_callB (cr_sum_k (K := K) rfl rfl) rfl F.f_sum (by decide +kernel) (pa_cons (pe_lc rfl sc_S_distance.nd (pi_list_k (K := K) rfl (pv 2)) (blkOk_by (own := [("peg", 3)]) (N := N_S_distance) (sc := defScope s_S_distance) (by decide +kernel)) (fun _ _ _ _ _ => (pg_name (i := 3) sc_S_distance.nd rfl (by first | exact .inl rfl | exact .inr rfl))) (fun _ _ _ _ _ => pts_nil) (fun _ _ _ _ _ => (pe_calM c_B_cost_of (pe_fld_k (K := K) rfl (pv 0) rfl) F.clsB hr (by decide) (pa_cons (pv 3) pa_nil)))) pa_nil)))))), ?_⟩
  obtain ⟨⟨a, c, b, S, T⟩, B, hB, ⟨rfl, hs, ht⟩, q⟩ := h
  dsimp only at hs ht q
  obtain ⟨_, dx, g, m, h1, h2, h3⟩ := id hs
  obtain ⟨_, dy, g', m', k1, k2, k3⟩ := id ht
  refine q_dropP hB (evp_call (⟨g, b, c, b, T⟩ : DChk) (ea_cons (ev_fld (ev_var rfl) h1 F.clsS F.nS_ground rfl) (ea_cons (ev_var rfl) ea_nil)) ⟨rfl, h2, ht, rfl⟩) fun v B1 H1 g1 _ => ?_
  obtain ⟨_, dz, _, _, _, _, _, hins, _⟩ := id h2
  refine q_asgP (P := fun v B => ∃ p, v = .ref p ∧ B p = some (.lst ((b.xor S T).map V.str))) g1.bh (evp_lcP (eip_tup (xs := b.pegs.map V.str) ((evp_prop (g, b) (ev_fld (ev_var rfl) (g1.b _ _ h1) F.clsS F.nS_ground rfl) (g1.b _ _ hins) ⟨rfl, h2.up g1.b⟩).imp fun v B2 _ h => h)) fun J B2 e2 ⟨o, hJ, ho⟩ => ?_) fun v B3 H3 g3 ⟨p, hv, hp⟩ => ?_
  · subst hJ
    have hwo := walk_T ho
    rw [List.length_map] at hwo
    have hbl := h2.ok.most
    have e12 := g1.b.trans e2
    exact evp_lcF (l := b.pegs) (f := V.str) (q := fun p => decide (p ∈ S) != decide (p ∈ T)) (st := fun p => [some (.ref a), some (.ref c), none, some (.str p)]) (by omega) ei_at hwo (fun _ e => e) bnd_map (fun _ _ => rfl) (fun p _ => et_test (ev_neB (ev_in (ev_var rfl) (ev_fld (ev_var rfl) (e12 _ _ h1) F.clsS F.nS_members rfl) (sqs_t (ex_t e12 h3))) (ev_in (ev_var rfl) (ev_fld (ev_var rfl) (e12 _ _ k1) F.clsS F.nS_members rfl) (sqs_t (ex_t e12 k3))))) fun p _ _ => ev_var rfl
  · subst hv
    have hsq : SqL K B3 p ((b.xor S T).map V.str) := sq_of hp
    have hwl := walk_L hsq
    rw [List.length_map] at hwl
    have e13 := g1.b.trans g3.b
    have hbl := h2.ok.most
    have hxl : (b.xor S T).length ≤ b.pegs.length := List.length_filter_le _ _
    refine s_retP g3.bh (ev_p (v := .int (b.dist S T)) (ev_sum (ns := (b.xor S T).map b.costOf) ((evp_lcM (l := b.xor S T) (f := fun p => V.int (b.costOf p)) (st := fun x => [some (.ref a), some (.ref c), some (.ref p), some (.str x)]) (by omega) (ei_list (ev_var rfl) hsq) hwl (fun _ e => e) bnd_map (fun _ _ => rfl) fun x hx => ?_).imp fun v B2 _ ⟨p, h1, h2⟩ => ⟨p, h1, by rw [h2, List.map_map]; rfl⟩))) fun v B4 H4 g4 e => q v B4 H4 ((g1.trans g3).trans g4) e
    exact (evp_meth (⟨g, b, x⟩ : DB1) (ev_fld (ev_var rfl) (e13 _ _ h1) F.clsS F.nS_ground rfl) (e13 _ _ hins) rfl (ea_cons (ev_var rfl) ea_nil) ⟨rfl, h2.up e13, (List.mem_filter.mp hx).1⟩).v
/-! ### middle -/
structure D3S where
  a : Addr
  c : Addr
  e : Addr
  b : Bd
  S : List Str
  T : List Str
  U : List Str
def sp_Smiddle (K : PySem.W.Frag) : Sp := Prm (δ := D3S) (fun d vs B => vs = [.ref d.a, .ref d.c, .ref d.e] ∧ StAt K B d.a d.b d.S ∧ StAt K B d.c d.b d.T ∧ StAt K B d.e d.b d.U ∧ StOk d.b (d.b.mid d.S d.T d.U)) (fun d v B => ∃ t, v = .ref t ∧ StAt K B t d.b (d.b.mid d.S d.T d.U))
theorem c_S_middle (F : Facts K mg) : CalM P w K mg base 6 (CS K) "middle" ["self", "one", "other"] (sp_Smiddle K) := by
  obtain ⟨fd, D⟩ := F.d_S_middle
  have c_check_board := c_check_board (P := P) (w := w) (base := base) F
  have c_B_pegs := c_B_pegs (P := P) (w := w) (base := base) F
  have c_S_init := c_S_init (P := P) (w := w) (base := base) F
  refine mkCalM D sc_S_middle F.mS_middle (fun _ _ _ _ _ _ us hl => match us, hl with | [_, _, _], _ => rfl) (fun vs H Q E ⟨i, B, _, e, _⟩ => by rw [e.1]; rfl) fun cdv A outer s H vs Q E hr h => ⟨_, (pss_cons (ps_expr (pe_cal c_check_board hr (by decide) rfl (pa_cons (pe_fld_k (K := K) rfl (pv 0) rfl) (pa_cons (pv 1) pa_nil))))
      (pss_cons (ps_expr (pe_cal c_check_board hr (by decide) rfl (pa_cons (pe_fld_k (K := K) rfl (pv 0) rfl) (pa_cons (pv 2) pa_nil))))
      (pss_cons (ps_set (i := 3) sc_S_middle.nd rfl (by first | exact .inl rfl | exact .inr rfl) (pe_tup (pa_cons (pe_fld_k (K := K) rfl (pv 0) rfl) (pa_cons (pe_fld_k (K := K) rfl (pv 1) rfl) (pa_cons (pe_fld_k (K := K) rfl (pv 2) rfl) pa_nil)))))
      (pss_one (ps_ret (pe_calI c_S_init hr (by decide) rfl F.g_Stand (pa_cons (pe_fld_k (K := K) rfl (pv 0) rfl) (pa_cons (pe_lc rfl sc_S_middle.nd (pi_tup_k (K := K) rfl (pe_calG c_B_pegs (pe_fld_k (K := K) rfl (pv 0) rfl) F.clsB hr (by decide))) (blkOk_by (own := [("peg", 4)]) (N := N_S_middle) (sc := defScope s_S_middle) (by decide +kernel)) (fun _ _ _ _ _ => (pg_name (i := 4) sc_S_middle.nd rfl (by first | exact .inl rfl | exact .inr rfl))) (fun _ _ _ _ _ => (pts_one (pt_cmpR op_gt (pe_callB (call_len_k (K := K) rfl) rfl F.f_len (by decide +kernel) (pa_cons (pe_lc rfl sc_S_middle.nd (pi_tup_k (K := K) rfl (pv 3)) (blkOk_by (own := [("row", 5)]) (by first | rfl | kernel_rfl)) (fun _ _ _ _ _ => (pg_name (i := 5) sc_S_middle.nd rfl (by first | exact .inl rfl | exact .inr rfl))) (fun _ _ _ _ _ => (pts_one (pt_cmpR (op_in_seq_k (K := K) rfl) (pv 4) (pv 5) rfl))) (fun _ _ _ _ _ => (pv 5))) pa_nil)) pe_int (nomark _)))) (fun _ _ _ _ _ => (pv 4))) pa_nil)))))))), ?_⟩
  obtain ⟨⟨a, c, e, b, S, T, U⟩, B, hB, ⟨rfl, hs, ht, hu, hm⟩, q⟩ := h
  dsimp only at hs ht hu hm q
  obtain ⟨_, dx, g, m, h1, h2, h3⟩ := id hs
  obtain ⟨_, dy, g', m', k1, k2, k3⟩ := id ht
  obtain ⟨_, dz, g'', m'', l1, l2, l3⟩ := id hu
  refine q_dropP hB (evp_call (⟨g, b, c, b, T⟩ : DChk) (ea_cons (ev_fld (ev_var rfl) h1 F.clsS F.nS_ground rfl) (ea_cons (ev_var rfl) ea_nil)) ⟨rfl, h2, ht, rfl⟩) fun v B1 H1 g1 _ => ?_
  refine q_dropP g1.bh (evp_call (⟨g, b, e, b, U⟩ : DChk) (ea_cons (ev_fld (ev_var rfl) (g1.b _ _ h1) F.clsS F.nS_ground rfl) (ea_cons (ev_var rfl) ea_nil)) ⟨rfl, h2.up g1.b, hu.up g1.b, rfl⟩) fun v B2 H2 g2 _ => ?_
  have e2 := g1.b.trans g2.b
  refine q_asgP g2.bh (eu_p (eu_tup (ea_cons (ev_fld (ev_var rfl) (e2 _ _ h1) F.clsS F.nS_members rfl) (ea_cons (ev_fld (ev_var rfl) (e2 _ _ k1) F.clsS F.nS_members rfl) (ea_cons (ev_fld (ev_var rfl) (e2 _ _ l1) F.clsS F.nS_members rfl) ea_nil))) (by show 3 ≤ 100000; decide))) fun v B3 H3 g3 ⟨r, hv, hr3⟩ => ?_
  subst hv
  obtain ⟨_, dw, _, _, _, _, _, hins, _⟩ := id h2
  have e3 := e2.trans g3.b
  refine s_retP g3.bh (evp_make (P := fun v B => ∃ t, v = .ref t ∧ StAt K B t b (b.mid S T U)) (eap_cons mon_eq (ev_p (ev_fld (ev_var rfl) (e3 _ _ h1) F.clsS F.nS_ground rfl)) fun B4 e4 => eap_cons (P := fun v B => ∃ p, v = .ref p ∧ B p = some (.lst ((b.mid S T U).map V.str))) mon_lst (evp_lcP (eip_tup (xs := b.pegs.map V.str) ((evp_prop (g, b) (ev_fld (ev_var rfl) (e4 _ _ (e3 _ _ h1)) F.clsS F.nS_ground rfl) (e4 _ _ (e3 _ _ hins)) ⟨rfl, h2.up (e3.trans e4)⟩).imp fun v B2 _ h => h)) fun J B5 e5 ⟨o, hJ, ho⟩ => ?_) fun B6 _ => eap_nil) fun ws B7 e7 ⟨v1, vs1, hw1, hv1, v2, vs2, hw2, ⟨p, hv2, hp⟩, hw3⟩ => ?_) fun v B8 H8 g8 h8 => q v B8 H8 (((g1.trans g2).trans g3).trans g8) h8
  · subst hJ
    have hwo := walk_T ho
    rw [List.length_map] at hwo
    have hbl := h2.ok.most
    have e35 := (e3.trans e4).trans e5
    have hr5 : SqT K B5 r [.ref m, .ref m', .ref m''] := st_of (e5 _ _ (e4 _ _ hr3))
    refine evp_lcF (l := b.pegs) (f := V.str) (q := fun p => decide (1 < ([S, T, U].filter fun R => decide (p ∈ R)).length)) (st := fun p => [some (.ref a), some (.ref c), some (.ref e), some (.ref r), some (.str p), none]) (by omega) ei_at hwo (fun _ e => e) bnd_map (fun _ _ => rfl) (fun p _ => ?_) fun p _ _ => ev_var rfl
    have hwr := walk_T hr5
    have inner := evp_lc (l := [(m, S), (m', T), (m'', U)]) (B := B5) (σ := [some (.ref a), some (.ref c), some (.ref e), some (.ref r), some (.str p), none]) (wi := iTup K (tVar 3)) (g := gName 5) (vs := [5]) (tt := tTest (tOp (rIn K false) (tVar 4) (tVar 5))) (te := tVar 5) (st := fun x => [some (.ref a), some (.ref c), some (.ref e), some (.ref r), some (.str p), some (.ref x.1)]) (q := fun x => decide (p ∈ x.2)) (P := fun x v _ => v = .ref x.1) (by show 3 ≤ 90000; decide) (ei_tup (ev_var rfl) hr5) hwr (fun _ e => e) (bnd_map (l := [(m, S), (m', T), (m'', U)]) (f := fun x => V.ref x.1)) (fun _ _ => rfl) (fun x hx => ?_) (fun x _ => mon_eq) (fun x _ _ => ev_p (ev_var rfl))
    · refine et_is (et_test (ev_op (ev_lenP (n := ([S, T, U].filter fun R => decide (p ∈ R)).length) (inner.imp fun v B2 _ ⟨p', ys, hv, hp, hys⟩ => ⟨p', ys, hv, .inl hp, ?_⟩)) ev_c rv_I0)) ?_
      · rw [← paired_len hys]
        have e1 : [S, T, U] = [(m, S), (m', T), (m'', U)].map (·.2) := rfl
        rw [e1, List.filter_map, List.length_map]
        rfl
      · rw [Bool.eq_iff_iff, decide_eq_true_eq, decide_eq_true_eq]
        omega
    · have hx3 : SqS K B5 x.1 (x.2.map V.str) := by
        simp only [List.mem_cons, List.not_mem_nil, or_false] at hx
        rcases hx with rfl | rfl | rfl
        · exact sqs_t (ex_t e35 h3)
        · exact sqs_t (ex_t e35 k3)
        · exact sqs_t (ex_t e35 l3)
      exact et_test (ev_in (ev_var rfl) (ev_var rfl) hx3)
  · subst hw1 hv1 hw2 hv2 hw3
    refine ⟨⟨g, b, p, b.mid S T U⟩, ⟨rfl, h2.up (e3.trans e7), sqs_l (sq_of hp), fun x hx => (List.mem_filter.mp hx).1, ?_⟩, fun x B9 e9 h9 => ⟨x, rfl, ?_⟩⟩
    · show StOk b (b.pick (b.mid S T U))
      unfold Bd.mid
      rw [pick_filter]
      exact hm
    · have h9' : StAt K B9 x b (b.pick (b.mid S T U)) := h9
      unfold Bd.mid at h9' ⊢
      rw [pick_filter] at h9'
      exact h9'
end
end NP
end

section
set_option maxHeartbeats 4000000
namespace NP
open PySem PySem.Spec PyProof.Rows L2 Evl
section
variable {P : Program} {w : World} {K : PySem.W.Frag} {mg : Str → Option Value} {base : Heap}
/-! ### is_between -/
def sp_Sbetween (K : PySem.W.Frag) : Sp := Prm (δ := D3S) (fun d vs B => vs = [.ref d.a, .ref d.c, .ref d.e] ∧ StAt K B d.a d.b d.S ∧ StAt K B d.c d.b d.T ∧ StAt K B d.e d.b d.U ∧ d.S.length ≤ 1000 ∧ d.T.length ≤ 1000) (fun d v B => v = .bl (btwB d.S d.T d.U))
theorem c_S_is_between (F : Facts K mg) : CalM P w K mg base 4 (CS K) "is_between" ["self", "one", "other"] (sp_Sbetween K) := by
  obtain ⟨fd, D⟩ := F.d_S_is_between
  have c_check_board := c_check_board (P := P) (w := w) (base := base) F
  refine mkCalM D sc_S_is_between F.mS_is_between (fun _ _ _ _ _ _ us hl => match us, hl with | [_, _, _], _ => rfl) (fun vs H Q E ⟨i, B, _, e, _⟩ => by rw [e.1]; rfl) fun cdv A outer s H vs Q E hr h => ⟨_, (pss_cons (ps_expr (pe_cal c_check_board hr (by decide) rfl (pa_cons (pe_fld_k (K := K) rfl (pv 0) rfl) (pa_cons (pv 1) pa_nil))))
      (pss_cons (ps_expr (pe_cal c_check_board hr (by decide) rfl (pa_cons (pe_fld_k (K := K) rfl (pv 0) rfl) (pa_cons (pv 2) pa_nil))))
      (pss_cons (ps_setLc (i := 3) rfl sc_S_is_between.nd rfl rfl (sw_true rfl rfl rfl (by decide +kernel)) (pi_tup_k (K := K) rfl (pe_fld_k (K := K) rfl (pv 1) rfl)) (blkOk_by (own := [("peg", 4)]) (N := N_S_is_between) (sc := defScope s_S_is_between) (by decide +kernel)) (fun _ _ _ _ _ => (pg_name (i := 4) sc_S_is_between.nd rfl (by first | exact .inl rfl | exact .inr rfl))) (fun _ _ _ _ _ => (pts_one (pt_cmpR (op_in_seq_k (K := K) rfl) (pv 4) (pe_fld_k (K := K) rfl (pv 2) rfl) rfl))) (fun _ _ _ _ _ => (pv 4)))
      (pss_cons (ps_if (pt_not (pt_val (pe_callB (cr_all_k (K := K) rfl rfl) rfl F.f_all (by decide +kernel) (pa_cons (pe_lc rfl sc_S_is_between.nd (pi_list_k (K := K) rfl (pv 3)) (blkOk_by (own := [("peg", 4)]) (N := N_S_is_between) (sc := defScope s_S_is_between) (by decide +kernel)) (fun _ _ _ _ _ => (pg_name (i := 4) sc_S_is_between.nd rfl (by first | exact .inl rfl | exact .inr rfl))) (fun _ _ _ _ _ => pts_nil) (fun _ _ _ _ _ => (pe_cmpR (op_in_seq_k (K := K) rfl) (pv 4) (pe_fld_k (K := K) rfl (pv 0) rfl) rfl))) pa_nil)))) (pss_one (ps_ret pe_bl)) pss_nil)
      (pss_one (ps_ret (pe_callB (cr_all_k (K := K) rfl rfl) rfl F.f_all (by decide +kernel) (pa_cons (pe_lc rfl sc_S_is_between.nd (pi_tup_k (K := K) rfl (pe_fld_k (K := K) rfl (pv 0) rfl)) (blkOk_by (own := [("peg", 4)]) (N := N_S_is_between) (sc := defScope s_S_is_between) (by decide +kernel)) (fun _ _ _ _ _ => (pg_name (i := 4) sc_S_is_between.nd rfl (by first | exact .inl rfl | exact .inr rfl))) (fun _ _ _ _ _ => pts_nil) (fun _ _ _ _ _ => (pe_or (pe_cmpR (op_in_seq_k (K := K) rfl) (pv 4) (pe_fld_k (K := K) rfl (pv 1) rfl) rfl) (pe_one (pe_cmpR (op_in_seq_k (K := K) rfl) (pv 4) (pe_fld_k (K := K) rfl (pv 2) rfl) rfl))))) pa_nil)))))))), ?_⟩
  obtain ⟨⟨a, c, e, b, S, T, U⟩, B, hB, ⟨rfl, hs, ht, hu, z1, z2⟩, q⟩ := h
  dsimp only at hs ht hu z1 z2 q
  obtain ⟨_, dx, g, m, h1, h2, h3⟩ := id hs
  obtain ⟨_, dy, g', m', k1, k2, k3⟩ := id ht
  obtain ⟨_, dz, g'', m'', l1, l2, l3⟩ := id hu
  refine q_dropP hB (evp_call (⟨g, b, c, b, T⟩ : DChk) (ea_cons (ev_fld (ev_var rfl) h1 F.clsS F.nS_ground rfl) (ea_cons (ev_var rfl) ea_nil)) ⟨rfl, h2, ht, rfl⟩) fun v B1 H1 g1 _ => ?_
  refine q_dropP g1.bh (evp_call (⟨g, b, e, b, U⟩ : DChk) (ea_cons (ev_fld (ev_var rfl) (g1.b _ _ h1) F.clsS F.nS_ground rfl) (ea_cons (ev_var rfl) ea_nil)) ⟨rfl, h2.up g1.b, hu.up g1.b, rfl⟩) fun v B2 H2 g2 _ => ?_
  have e2 := g1.b.trans g2.b
  have hw1 := walk_T (ex_t e2 k3)
  rw [List.length_map] at hw1
  refine q_asgP g2.bh (evp_lcF (l := T) (f := V.str) (q := fun p => decide (p ∈ U)) (st := fun x => [some (.ref a), some (.ref c), some (.ref e), none, some (.str x)]) (by omega) (ei_tup (ev_fld (ev_var rfl) (e2 _ _ k1) F.clsS F.nS_members rfl) (ex_t e2 k3)) hw1 (fun _ e => e) bnd_map (fun _ _ => rfl) (fun x _ => et_test (ev_in (ev_var rfl) (ev_fld (ev_var rfl) (e2 _ _ l1) F.clsS F.nS_members rfl) (sqs_t (ex_t e2 l3)))) fun x _ _ => ev_var rfl) fun v B3 H3 g3 ⟨p, hv, hp⟩ => ?_
  subst hv
  have e3 := e2.trans g3.b
  have hsq : SqL K B3 p ((T.filter fun p => decide (p ∈ U)).map V.str) := sq_of hp
  have hw3 := walk_L hsq
  rw [List.length_map] at hw3
  have hfl : (T.filter fun p => decide (p ∈ U)).length ≤ T.length := List.length_filter_le _ _
  have t1 : EvT _ [some (.ref a), some (.ref c), some (.ref e), some (.ref p), none] B3 (!((T.filter fun p => decide (p ∈ U)).all fun p => decide (p ∈ S))) := et_not (et_B (ev_all (K := K) (l := T.filter fun p => decide (p ∈ U)) (f := fun p => decide (p ∈ S)) (evp_lcV (st := fun x => [some (.ref a), some (.ref c), some (.ref e), some (.ref p), some (.str x)]) (te := tOp (rIn K false) (tVar 4) (tFld K (tVar 0) "members")) (vs := [4]) (g := gName 4) (by omega) (ei_list (te := tVar 3) (ev_var rfl) hsq) hw3 (fun _ e => e) bnd_map (fun _ _ => rfl) fun x _ => ev_in (ev_var rfl) (ev_fld (ev_var rfl) (e3 _ _ h1) F.clsS F.nS_members rfl) (sqs_t (ex_t e3 h3))) rfl))
  refine q_ifP g3.bh t1 (fun hb H4 e4 => ?_) fun hb H4 e4 => ?_
  · have hb' : ((T.filter fun p => decide (p ∈ U)).all fun p => decide (p ∈ S)) = false := by
      cases h : ((T.filter fun p => decide (p ∈ U)).all fun p => decide (p ∈ S)) with
      | false => rfl
      | true => rw [h] at hb; cases hb
    refine q _ _ _ (((g1.trans g2).trans g3).up e4) ?_
    unfold btwB
    rw [hb']
    rfl
  · have hb' : ((T.filter fun p => decide (p ∈ U)).all fun p => decide (p ∈ S)) = true := by
      cases h : ((T.filter fun p => decide (p ∈ U)).all fun p => decide (p ∈ S)) with
      | true => rfl
      | false => rw [h] at hb; cases hb
    have hw4 := walk_T (ex_t e3 h3)
    rw [List.length_map] at hw4
    refine s_retP (g3.bh.trans e4) (ev_p (v := .bl (S.all fun p => decide (p ∈ T) || decide (p ∈ U))) (ev_all (l := S) (f := fun p => decide (p ∈ T) || decide (p ∈ U)) (evp_lcV (st := fun x => [some (.ref a), some (.ref c), some (.ref e), some (.ref p), some (.str x)]) (by omega) (ei_tup (ev_fld (ev_var rfl) (e3 _ _ h1) F.clsS F.nS_members rfl) (ex_t e3 h3)) hw4 (fun _ e => e) bnd_map (fun _ _ => rfl) fun x _ => ev_orV (ev_in (ev_var rfl) (ev_fld (ev_var rfl) (e3 _ _ k1) F.clsS F.nS_members rfl) (sqs_t (ex_t e3 k3))) fun _ => ev_in (ev_var rfl) (ev_fld (ev_var rfl) (e3 _ _ l1) F.clsS F.nS_members rfl) (sqs_t (ex_t e3 l3))) rfl)) fun v B5 H5 g5 e5 => q _ _ _ ((((g1.trans g2).trans g3).up e4).trans g5) ?_
    rw [e5]
    unfold btwB
    rw [hb', Bool.true_and]
/-! ### Board.__call__, empty -/
def sp_Bcall (K : PySem.W.Frag) : Sp := Prm (δ := DInit) (fun d vs B => vs = [.ref d.g, .ref d.p] ∧ BdAt K B d.g d.b ∧ SqS K B d.p (d.L.map V.str) ∧ (∀ x ∈ d.L, x ∈ d.b.pegs) ∧ StOk d.b (d.b.pick d.L)) (fun d v B => ∃ x, v = .ref x ∧ StAt K B x d.b (d.b.pick d.L))
theorem c_B_callR (F : Facts K mg) : FnR P w K mg base L2.CX0 6 (He.ma K (CB K) "__call__") (sp_Bcall K) := by
  obtain ⟨fd, D⟩ := F.d_B_call
  have c_S_init := c_S_init (P := P) (w := w) (base := base) F
  refine fnR_ok (ps := ["self", "pegs"]) (D.ok sc_B_call (fun vs H Q E ⟨i, B, _, e, _⟩ => by rw [e.1]; rfl) (fun cdv A outer s H vs Q E hr h => ⟨_, PSs.nox (pss_one (ps_ret (pe_calI c_S_init hr (by decide) rfl F.g_Stand (pa_cons (pv 0) (pa_cons (pv 1) pa_nil))))), ?_⟩)) (D.bindsN (fun _ _ _ _ _ _ us hl => match us, hl with | [_, _], _ => rfl))
  obtain ⟨⟨g, b, p, L⟩, B, hB, ⟨rfl, hb, hp, hL, hS⟩, q⟩ := h
  exact s_retP hB (evp_make (ea_p (ea_cons (ev_var rfl) (ea_cons (ev_var rfl) ea_nil))) fun ws B1 e1 hw => ⟨⟨g, b, p, L⟩, ⟨hw, hb.up e1, hp.ex e1, hL, hS⟩, fun x B2 e2 h => ⟨x, rfl, h⟩⟩) fun v B3 H3 g3 h => q v B3 H3 g3 h
theorem pick_nil {b : Bd} : b.pick [] = [] := by
  unfold Bd.pick
  simp
theorem stok_nil {b : Bd} : StOk b [] := ⟨fun _ h => (nomatch h), fun _ h => (nomatch h), fun _ h => (nomatch h)⟩
def sp_Bempty (K : PySem.W.Frag) : Sp := Prm (δ := Addr × Bd) (fun d vs B => vs = [.ref d.1] ∧ BdAt K B d.1 d.2) (fun d v B => ∃ x, v = .ref x ∧ StAt K B x d.2 [])
theorem c_B_empty (F : Facts K mg) : CalG P w K mg base 6 (CB K) "empty" (sp_Bempty K) := by
  obtain ⟨pa, g, fd, PO, D⟩ := F.p_B_empty
  have c_S_init := c_S_init (P := P) (w := w) (base := base) F
  refine mkCalG D sc_B_empty PO (fun _ _ _ _ _ _ us hl => match us, hl with | [_], _ => rfl) (fun vs H Q E ⟨i, B, _, e, _⟩ => by rw [e.1]; rfl) fun cdv A outer s H vs Q E hr h => ⟨_, (pss_one (ps_ret (pe_calI c_S_init hr (by decide) rfl F.g_Stand (pa_cons (pv 0) (pa_cons (pe_tup pa_nil) pa_nil))))), ?_⟩
  obtain ⟨⟨a, b⟩, B, hB, ⟨rfl, hb⟩, q⟩ := h
  dsimp only at hb q
  refine s_retP hB (evp_make (P := fun v B => ∃ x, v = .ref x ∧ StAt K B x b []) (eap_cons mon_eq (ev_p (ev_var rfl)) fun B4 e4 => eap_cons (P := fun v B => ∃ p, v = .ref p ∧ B p = some (.tup [])) mon_tup (eu_p (eu_tup ea_nil (by decide))) fun B6 _ => eap_nil) fun ws B1 e1 ⟨v1, vs1, hw1, hv1, v2, vs2, hw2, ⟨p, hv2, hp⟩, hw3⟩ => ?_) fun v B3 H3 g3 h => q v B3 H3 g3 h
  subst hw1 hv1 hw2 hv2 hw3
  refine ⟨⟨a, b, p, []⟩, ⟨rfl, hb.up e1, sqs_t (st_of hp), fun _ h => (nomatch h), ?_⟩, fun x B2 e2 h => ⟨x, rfl, ?_⟩⟩
  · show StOk b (b.pick [])
    rw [pick_nil]
    exact stok_nil
  · have h' : StAt K B2 x b (b.pick []) := h
    rw [pick_nil] at h'
    exact h'
/-! ### can_join -/
structure DJoin where
  a : Addr
  b : Bd
  p : Str
  r : Addr
  R : List Str
  m : Addr
  M : List Str
def sp_can_join (K : PySem.W.Frag) : Sp := Prm (δ := DJoin) (fun d vs B => vs = [.ref d.a, .str d.p, .ref d.r, .ref d.m] ∧ BdAt K B d.a d.b ∧ d.p ∈ d.b.pegs ∧ SqT K B d.r (d.R.map V.str) ∧ SqT K B d.m (d.M.map V.str) ∧ (∀ x ∈ d.M, x ∈ d.b.pegs) ∧ d.R.length ≤ 1000 ∧ d.M.length ≤ 1000) (fun d v B => v = .bl (d.b.join d.p d.R d.M))
theorem c_can_join (F : Facts K mg) : Cal P w K mg base 3 "can_join" ["board", "peg", "below", "row"] (sp_can_join K) := by
  obtain ⟨fd, D⟩ := F.d_can_join
  have c_B_clash := c_B_clash (P := P) (w := w) (base := base) F
  refine mkCal D sc_can_join F.g_can_join (fun _ _ _ _ _ _ us hl => match us, hl with | [_, _, _, _], _ => rfl) (fun vs H Q E ⟨i, B, _, e, _⟩ => by rw [e.1]; rfl) fun cdv A outer s H vs Q E hr h => ⟨_, (pss_cons (ps_if (pt_val (pe_callB (cr_any_k (K := K) rfl rfl) rfl F.f_any (by decide +kernel) (pa_cons (pe_lc rfl sc_can_join.nd (pi_tup_k (K := K) rfl (pv 2)) (blkOk_by (own := [("other", 4)]) (N := N_can_join) (sc := defScope s_can_join) (by decide +kernel)) (fun _ _ _ _ _ => (pg_name (i := 4) sc_can_join.nd rfl (by first | exact .inl rfl | exact .inr rfl))) (fun _ _ _ _ _ => (pts_one (pt_cmpR op_ne (pv 4) (pv 1) (nomark _)))) (fun _ _ _ _ _ => (pe_cmpR (op_notIn_seq_k (K := K) rfl) (pv 4) (pv 3) rfl))) pa_nil))) (pss_one (ps_ret pe_bl)) pss_nil)
      (pss_one (ps_ret (pe_not (pe_callB (cr_any_k (K := K) rfl rfl) rfl F.f_any (by decide +kernel) (pa_cons (pe_lc rfl sc_can_join.nd (pi_tup_k (K := K) rfl (pv 3)) (blkOk_by (own := [("other", 4)]) (N := N_can_join) (sc := defScope s_can_join) (by decide +kernel)) (fun _ _ _ _ _ => (pg_name (i := 4) sc_can_join.nd rfl (by first | exact .inl rfl | exact .inr rfl))) (fun _ _ _ _ _ => pts_nil) (fun _ _ _ _ _ => (pe_calM c_B_clash (pv 0) F.clsB hr (by decide) (pa_cons (pv 1) (pa_cons (pv 4) pa_nil))))) pa_nil)))))), ?_⟩
  obtain ⟨⟨a, b, p, r, R, m, M⟩, B, hB, ⟨rfl, hb, hp, hR, hM, hMs, z1, z2⟩, q⟩ := h
  dsimp only at hb hp hR hM hMs z1 z2 q
  obtain ⟨_, dx, _, _, _, _, _, hins, _⟩ := id hb
  have hw1 := walk_T hR
  rw [List.length_map] at hw1
  have hw2 := walk_T hM
  rw [List.length_map] at hw2
  have t1 : EvT _ (L2.start N_can_join [.ref a, .str p, .ref r, .ref m]) B ((R.filter fun o => !decide (o = p)).any fun o => !decide (o ∈ M)) := et_B (ev_any (K := K) (l := R.filter fun o => !decide (o = p)) (f := fun o => !decide (o ∈ M)) (evp_lc (l := R) (q := fun o => !decide (o = p)) (P := fun o v _ => v = .bl (!decide (o ∈ M))) (tt := tTest (tOp rNe (tVar 4) (tVar 1))) (te := tOp (rIn K true) (tVar 4) (tVar 3)) (vs := [4]) (g := gName 4) (st := fun x => [some (.ref a), some (.str p), some (.ref r), some (.ref m), some (.str x)]) (by omega) (ei_tup (te := tVar 2) (ev_var rfl) hR) hw1 (fun _ e => e) bnd_map (fun _ _ => rfl) (fun x _ => et_test (ev_neS (ev_var rfl) (ev_var rfl))) (fun _ _ => mon_eq) fun x _ _ => ev_p (ev_nin (ev_var rfl) (ev_var rfl) (sqs_t hM))) rfl)
  refine q_ifP hB t1 (fun hb1 H1 e1 => ?_) fun hb1 H1 e1 => ?_
  · refine q _ B _ (Gr.ex hB e1) ?_
    unfold Bd.join
    rw [hb1]
    rfl
  · refine s_retP (hB.trans e1) (ev_p (v := .bl (!(M.any fun o => b.clash p o))) (ev_notV (ev_any (l := M) (f := fun o => b.clash p o) (evp_lcV (st := fun x => [some (.ref a), some (.str p), some (.ref r), some (.ref m), some (.str x)]) (by omega) (ei_tup (ev_var rfl) hM) hw2 (fun _ e => e) bnd_map (fun _ _ => rfl) fun x hx => ?_) rfl))) fun v B5 H5 g5 e5 => q _ _ _ ((Gr.ex hB e1).trans g5) ?_
    · exact (evp_meth (⟨a, b, p, x⟩ : DB2) (ev_var rfl) hins rfl (ea_cons (ev_var rfl) (ea_cons (ev_var rfl) ea_nil)) ⟨rfl, hb, hp, hMs x hx⟩).v
    · rw [e5]
      unfold Bd.join
      rw [hb1]
      rfl
/-! ### occurs -/
structure DOcc where
  a : Addr
  b : Bd
  x : Str
  hx : Bool
  y : Str
  hy : Bool
def Bd.occ (b : Bd) (x : Str) (hx : Bool) (y : Str) (hy : Bool) : Bool :=
  if hx && hy then !b.clash x y else if hx then !(!decide (x = y) && b.le x y) else if hy then !(!decide (y = x) && b.le y x) else true
def sp_occurs (K : PySem.W.Frag) : Sp := Prm (δ := DOcc) (fun d vs B => vs = [.ref d.a, .str d.x, .bl d.hx, .str d.y, .bl d.hy] ∧ BdAt K B d.a d.b ∧ d.x ∈ d.b.pegs ∧ d.y ∈ d.b.pegs) (fun d v B => v = .bl (d.b.occ d.x d.hx d.y d.hy))
theorem c_occurs (F : Facts K mg) : Cal P w K mg base 3 "occurs" ["board", "x", "has_x", "y", "has_y"] (sp_occurs K) := by
  obtain ⟨fd, D⟩ := F.d_occurs
  have c_B_clash := c_B_clash (P := P) (w := w) (base := base) F
  have c_B_needs := c_B_needs (P := P) (w := w) (base := base) F
  refine mkCal D sc_occurs F.g_occurs (fun _ _ _ _ _ _ us hl => match us, hl with | [_, _, _, _, _], _ => rfl) (fun vs H Q E ⟨i, B, _, e, _⟩ => by rw [e.1]; rfl) fun cdv A outer s H vs Q E hr h => ⟨_, (pss_cons (ps_if (PW.pt (pw_and (pt_val (pv 2)) (pw_and1 (pt_val (pv 4))))) (pss_one (ps_ret (pe_not (pe_calM c_B_clash (pv 0) F.clsB hr (by decide) (pa_cons (pv 1) (pa_cons (pv 3) pa_nil)))))) pss_nil)
      (pss_cons (ps_if (pt_val (pv 2)) (pss_one (ps_ret (pe_not (pe_calM c_B_needs (pv 0) F.clsB hr (by decide) (pa_cons (pv 1) (pa_cons (pv 3) pa_nil)))))) pss_nil)
      (pss_cons (ps_if (pt_val (pv 4)) (pss_one (ps_ret (pe_not (pe_calM c_B_needs (pv 0) F.clsB hr (by decide) (pa_cons (pv 3) (pa_cons (pv 1) pa_nil)))))) pss_nil)
      (pss_one (ps_ret pe_bl))))), ?_⟩
  obtain ⟨⟨a, b, x, hx, y, hy⟩, B, hB, ⟨rfl, hb, hxp, hyp⟩, q⟩ := h
  dsimp only at hb hxp hyp q
  obtain ⟨_, dx, _, _, _, _, _, hins, _⟩ := id hb
  refine q_ifP hB (et_and (a := hx) (b := hy) (et_B (ev_var rfl)) fun _ => et_B (ev_var rfl)) (fun hb1 H1 e1 => ?_) fun hb1 H1 e1 => ?_
  · refine s_retP (hB.trans e1) (ev_p (ev_notV (evp_meth (⟨a, b, x, y⟩ : DB2) (ev_var rfl) hins rfl (ea_cons (ev_var rfl) (ea_cons (ev_var rfl) ea_nil)) ⟨rfl, hb, hxp, hyp⟩).v)) fun v B5 H5 g5 e5 => q _ _ _ ((Gr.ex hB e1).trans g5) ?_
    rw [e5]
    unfold Bd.occ
    rw [hb1]
    rfl
  · refine q_ifP (hB.trans e1) (et_B (b := hx) (ev_var rfl)) (fun hb2 H2 e2 => ?_) fun hb2 H2 e2 => ?_
    · refine s_retP ((hB.trans e1).trans e2) (ev_p (ev_notV (evp_meth (⟨a, b, x, y⟩ : DB2) (ev_var rfl) hins rfl (ea_cons (ev_var rfl) (ea_cons (ev_var rfl) ea_nil)) ⟨rfl, hb, hxp, hyp⟩).v)) fun v B5 H5 g5 e5 => q _ _ _ ((Gr.ex hB (e1.trans e2)).trans g5) ?_
      rw [e5]
      unfold Bd.occ
      rw [hb1, hb2]
      rfl
    · refine q_ifP ((hB.trans e1).trans e2) (et_B (b := hy) (ev_var rfl)) (fun hb3 H3 e3 => ?_) fun hb3 H3 e3 => ?_
      · refine s_retP (((hB.trans e1).trans e2).trans e3) (ev_p (ev_notV (evp_meth (⟨a, b, y, x⟩ : DB2) (ev_var rfl) hins rfl (ea_cons (ev_var rfl) (ea_cons (ev_var rfl) ea_nil)) ⟨rfl, hb, hyp, hxp⟩).v)) fun v B5 H5 g5 e5 => q _ _ _ ((Gr.ex hB ((e1.trans e2).trans e3)).trans g5) ?_
        rw [e5]
        unfold Bd.occ
        rw [hb1, hb2, hb3]
        rfl
      · unfold tNext
        dsimp only
        refine s_retP (((hB.trans e1).trans e2).trans e3) (ev_p (v := .bl true) ev_c) ?_
        intro v B5 H5 g5 e5
        refine q v B5 H5 ((Gr.ex hB ((e1.trans e2).trans e3)).trans g5) ?_
        rw [e5]
        unfold Bd.occ
        rw [hb1, hb2, hb3]
        rfl
end
end NP
end

section
set_option maxHeartbeats 4000000
namespace NP
open PySem PySem.Spec PyProof.Rows L2 Evl
structure CalK (P : Program) (w : World) (K : PySem.W.Frag) (mg : Str → Option Value) (base : Heap) (k : Nat) (C : Addr) (n : Nat) (ps ks : List Str) (sp : Sp) : Prop where
  ex : ∃ f fd, FnOk P w K mg base L2.CX0 k f fd ps sp ∧ Mk K C f ∧ KBn K fd ps (n + 1) ks (fun us ws => us ++ ws) (fun vs zs => vs ++ zs)
theorem pe_calK {X : Cx} {k j n : Nat} {C : Addr} {x : Str} {ps ks : List Str} {sp : Sp} {e : Expr} {es : List Expr} {kws : List Keyword} {t tk : TA} {p pos : Pos} (c : CalK X.prog X.w X.K X.mg X.base j C n ps ks sp) (hr : Room k X.A) (hk : j + 1 ≤ k) (hg : Gl X x) (hm : X.mg x = some (.ref C)) (ha : PA X (e :: es) t) (hkw : PK X kws tk)
    (hall : (backToKw pos (keywordEach kws X.env)).all (·.1.isSome) = true := by rfl) (hks : (backToKw pos (keywordEach kws X.env)).filterMap (·.1) = ks := by rfl) (hdb : (x == ("__debug__" : Str)) = false := by decide)
    (he : starEach (e :: es) X.env = (false, eval e X.env) :: starEach es X.env := by rfl) (hpl : ((backTo pos (starEach (e :: es) X.env)).any (·.1) || (backToKw pos (keywordEach kws X.env)).any (·.1.isNone)) = false := by rfl) :
    PE X (.Call (.Name x p) (e :: es) kws pos) (tMakeK C n ks.length sp (fun vs zs => vs ++ zs) L2.E0 t tk) := by
  obtain ⟨f, fd, F, M, hb⟩ := c.ex
  exact pe_makeK M F (hr.mono hk) hg hm hb L2.pass0 ha hkw hall hks hdb he hpl
section
variable {K : PySem.W.Frag} {σ : L2.St} {B B0 B1 B2 B4 H H0 H1 H2 H4 : Hp} {te ta tb tc u : TE} {tt : TT}
theorem evp_makeK {δ : Type} {pre : δ → List V → Hp → Prop} {post : δ → Addr → Hp → Prop} {C : Addr} {n m : Nat} {E : XK} {t tk : TA} {P : V → Hp → Prop} {R1 : List V → Hp → Prop} {R2 : List V → Hp → Prop} (h : EaP t σ B R1) (hk : ∀ ws B1, Ex B B1 → R1 ws B1 → EaP tk σ B1 fun zs B2 => ws.length = n ∧ zs.length = m ∧ R2 (ws ++ zs) B2)
    (hp : ∀ ws B1, Ex B B1 → R2 ws B1 → ∃ d, pre d ws B1 ∧ ∀ x B2, Ex B1 B2 → post d x B2 → P (.ref x) B2) : EvP (tMakeK C n m (PrmI C pre post) (fun vs zs => vs ++ zs) E t tk) σ B P := fun H1 e Q q =>
  h H1 e _ fun ws B2 H2 g r => hk ws B2 g.b r H2 g.bh _ fun zs B3 H3 g3 ⟨l1, l2, r3⟩ => ⟨l1, l2, fun x dx hx hdx ne => by
  obtain ⟨d, p1, p2⟩ := hp (ws ++ zs) B3 (g.b.trans g3.b) r3
  refine ⟨d, B3, x, dx, ws ++ zs, rfl, fun a u z => ?_, upd_same, by rw [upd_ne ne, upd_same], fresh_back g3.bh hx, fresh_back g3.bh hdx, p1, fun B' H' gi p => ⟨rfl, q _ _ _ ((g.trans g3).trans (grI_gr g3.bh hx hdx ne gi)) (p2 x B' gi.b p)⟩⟩
  have z2 := g3.bh a u z
  rw [upd_ne (ne_of_none z2 hx), upd_ne (ne_of_none z2 hdx)]
  exact z2⟩
/-- within __init__: x has the attributes fs -/
structure InS (x dx C : Addr) (fs : List (Str × V)) (B0 H0 B H : Hp) : Prop where
  b : Ex B0 B
  bh : Ex B H
  h : ∀ a o, a ≠ x → H0 a = some o → H a = some o
  av : ∀ a, H0 a ≠ none → B0 a = none → B a = none
  hx : H x = some (.ins C dx fs)
variable {x dx C : Addr} {fs : List (Str × V)}
theorem InS.step (i : InS x dx C fs B0 H0 B H) (g : Gr B H B2 H2) : InS x dx C fs B0 H0 B2 H2 := by
  refine ⟨i.b.trans g.b, g.bh, fun a o ha h => g.h _ _ (i.h a o ha h), fun a h1 h2 => g.av a ?_ (i.av a h1 h2), g.h _ _ i.hx⟩
  by_cases ha : a = x
  · rw [ha, i.hx]; simp
  · cases q : H0 a with
    | none => exact absurd q h1
    | some o => rw [i.h a o ha q]; simp
theorem InS.put (i : InS x dx C fs B0 H0 B H) (n0 : H0 x ≠ none) (nb : B0 x = none) (f : Str) (v : V) : InS x dx C (putF f v fs) B0 H0 B (upd H x (.ins C dx (putF f v fs))) :=
  ⟨i.b, Ex.mut i.bh (i.av x n0 nb), fun a o ha h => by rw [upd_ne ha]; exact i.h a o ha h, i.av, upd_same⟩
theorem InS.fin (i : InS x dx C fs B0 H0 B H) (hx : H0 x = some (.ins C dx [])) (hd : H0 dx = some (.own x)) (nx : B0 x = none) (nd : B0 dx = none) : GrI x dx B0 H0 (upd (upd B dx (.own x)) x (.ins C dx fs)) H ∧ Ex B (upd (upd B dx (.own x)) x (.ins C dx fs)) := by
  have n4x : B x = none := i.av x (by rw [hx]; simp) nx
  have n4d : B dx = none := i.av dx (by rw [hd]; simp) nd
  have ne : dx ≠ x := fun z => by rw [z, hx] at hd; cases hd
  have ee : Ex B (upd (upd B dx (.own x)) x (.ins C dx fs)) := (Ex.new n4d).trans (Ex.new (by rw [upd_ne (Ne.symm ne)]; exact n4x))
  refine ⟨⟨i.b.trans ee, fun a u h => ?_, i.h, fun a h1 h2 h3 h4 => by rw [upd_ne h1, upd_ne h2]; exact i.av a h3 h4⟩, ee⟩
  by_cases h1 : a = x
  · subst h1; rw [upd_same] at h; rw [i.hx]; exact h
  · rw [upd_ne h1] at h
    by_cases h2 : a = dx
    · subst h2; rw [upd_same] at h; rw [i.h _ _ ne hd]; exact h
    · rw [upd_ne h2] at h; exact i.bh _ _ h
/-- tuple(..) of a tuple or list -/
theorem evp_tupS {p : Addr} {ys : List V} (h : Ev te σ B (.ref p)) (hs : SqS K B p ys) : EvP (tCB (rTupOf K) (tCons te tNil)) σ B fun v B2 => ∃ q, v = .ref q ∧ SqT K B2 q ys := fun H1 e Q q => h H1 e _ fun H2 e2 => by
  rcases hs with hs | hs
  · exact ⟨p, ys, rfl, .inr ⟨ex_t (e.trans e2) hs, q _ B H2 (Gr.ex e e2) ⟨p, rfl, hs⟩⟩⟩
  · exact ⟨p, ys, rfl, .inl ⟨ex_l (e.trans e2) hs, fun l hl => q _ _ _ ((Gr.ex e e2).new hl) ⟨l, rfl, st_of upd_same⟩⟩⟩
theorem evp_dictZip {t tk : TA} {a b : Addr} {xs : List Str} {ys : List V} (h : EvA t σ B [.ref a, .ref b]) (hk : EvA tk σ B [.bl true]) (sa : SqS K B a (xs.map V.str)) (sb : SqS K B b ys) (hl : xs.length = ys.length) (hnd : xs.Nodup) : EvP (tDictZip K t tk) σ B fun v B2 => ∃ d, v = .ref d ∧ B2 d = some (.dK ((xs.map fun p => (Sum.inr p : Key)).zip ys)) := fun H1 e Q q =>
  h H1 e _ fun H2 e2 => hk H2 (e.trans e2) _ fun H3 e3 => ⟨a, b, xs, ys, rfl, rfl, sa.ex ((e.trans e2).trans e3), sb.ex ((e.trans e2).trans e3), hl, hnd, fun d hd => q _ _ _ ((Gr.ex e (e2.trans e3)).new hd) ⟨d, rfl, upd_same⟩⟩
end
def mkBd (L : List Str) (C : List Int) (N Bs : List (Str × Str)) : Bd := ⟨L, C, fun p q => decide (q ∈ rowsOf N p), fun p q => barred (rowsOf N p) (rowsOf N q) Bs⟩
structure DBI where
  a : Addr
  L : List Str
  n : Addr
  N : List (Str × Str)
  b : Addr
  Bs : List (Str × Str)
  c : Addr
  C : List Int
/-- what a board's parts must be -/
structure BdPre (L : List Str) (C : List Int) (N Bs : List (Str × Str)) : Prop where
  names : NamesOk L
  most : L.length ≤ 12
  so : ∀ p ∈ L, PyData.strOk p = true
  clen : C.length = L.length
  cost : ∀ c ∈ C, 1 ≤ c ∧ c ≤ 1000
  needs : PairsOk L N
  circ : NoCircle N
  rlen : RowsLe L N
  bars : PairsOk L Bs
  dead : ∀ p ∈ L, barred (rowsOf N p) (rowsOf N p) Bs = false
  nl : N.length ≤ 1000
  bl : Bs.length ≤ 1000
theorem BdPre.ok {L : List Str} {C : List Int} {N Bs : List (Str × Str)} (h : BdPre L C N Bs) : (mkBd L C N Bs).Ok := ⟨h.clen, h.names.2, h.most, h.so⟩
section
variable {P : Program} {w : World} {K : PySem.W.Frag} {mg : Str → Option Value} {base : Heap}
def sp_B_init (K : PySem.W.Frag) : Sp := PrmI (CB K) (δ := DBI) (fun d ws B => ws = [.ref d.a, .ref d.n, .ref d.b, .ref d.c] ∧ SqT K B d.a (d.L.map V.str) ∧ PairsAt K B d.n d.N ∧ PairsAt K B d.b d.Bs ∧ SqS K B d.c (d.C.map V.int) ∧ BdPre d.L d.C d.N d.Bs) (fun d x B => BdAt K B x (mkBd d.L d.C d.N d.Bs))
theorem dp_tup {K : PySem.W.Frag} {B : Hp} {a : Addr} {ys : List V} {ds : List PyData} (h : SqT K B a ys) (hp : Paired (fun d y => Dp K B y d) ds ys) : Dp K B (.ref a) (.tuple ds) := by
  refine .tup h ?_
  clear h
  induction hp with
  | nil => exact .nil
  | cons r _ ih => exact .cons r ih
theorem paired_self {α : Type} {R : α → V → Prop} {f : α → V} : ∀ l : List α, (∀ a, R a (f a)) → Paired R l (l.map f)
  | [], _ => .nil
  | a :: l, h => .cons (h a) (paired_self l h)
theorem paired_map_r {α β γ : Type} {R : β → γ → Prop} {f : α → β} : ∀ {l : List α} {ys : List γ}, Paired (fun a y => R (f a) y) l ys → Paired R (l.map f) ys := paired_map_l
theorem c_B_init (F : Facts K mg) : CalK P w K mg base 4 (CB K) 1 ["self", "pegs", "needs", "bars", "costs"] ["needs", "bars", "costs"] (sp_B_init K) := by
  obtain ⟨fd, D⟩ := F.d_B_init
  have c_check_form := c_check_form (P := P) (w := w) (base := base) F
  have c_check_pegs := c_check_pegs (P := P) (w := w) (base := base) F
  have c_check_pairs := c_check_pairs (P := P) (w := w) (base := base) F
  have c_needed_rows := c_needed_rows (P := P) (w := w) (base := base) F
  have c_check_dead := c_check_dead (P := P) (w := w) (base := base) F
  have c_clash_pairs := c_clash_pairs (P := P) (w := w) (base := base) F
  obtain ⟨uM, hM⟩ := F.conMOST
  refine ⟨_, fd, D.ok sc_B_init (fun vs H Q E ⟨i, B, x, dx, ws, e, _, _, _, _, _, h, _⟩ => by rw [e, h.1]; rfl) (fun cdv A outer s H vs Q E hr h => ⟨_, PSs.nox (pss_cons (ps_expr (pe_cal c_check_form hr (by decide) rfl (pa_cons (pv 1) (pa_cons (pv 2) (pa_cons (pv 3) (pa_cons (pv 4) pa_nil))))))
      (pss_cons (ps_set (i := 5) sc_B_init.nd rfl (by first | exact .inl rfl | exact .inr rfl) (pe_ifExp (pt_cmpR op_isN (pv 4) pe_non (nomark _)) (pe_lc rfl sc_B_init.nd (pi_tup_k (K := K) rfl (pv 1)) (blkOk_by (own := [("peg", 7)]) (N := N_B_init) (sc := defScope s_B_init) (by decide +kernel)) (fun _ _ _ _ _ => (pg_name (i := 7) sc_B_init.nd rfl (by first | exact .inl rfl | exact .inr rfl))) (fun _ _ _ _ _ => pts_nil) (fun _ _ _ _ _ => pe_int)) (pv 4)))
      (pss_cons (ps_expr (pe_cal c_check_pegs hr (by decide) rfl (pa_cons (pv 1) (pa_cons (pv 5) (pa_cons (pe_con_k (K := K) rfl (pv 0) rfl) pa_nil)))))
      (pss_cons (ps_expr (pe_cal c_check_pairs hr (by decide) rfl (pa_cons (pv 1) (pa_cons (pv 2) (pa_cons pe_str pa_nil)))))
      (pss_cons (ps_set (i := 6) sc_B_init.nd rfl (by first | exact .inl rfl | exact .inr rfl) (pe_cal c_needed_rows hr (by decide) rfl (pa_cons (pv 1) (pa_cons (pv 2) pa_nil))))
      (pss_cons (ps_expr (pe_cal c_check_pairs hr (by decide) rfl (pa_cons (pv 1) (pa_cons (pv 3) (pa_cons pe_str pa_nil)))))
      (pss_cons (ps_expr (pe_cal c_check_dead hr (by decide) rfl (pa_cons (pv 1) (pa_cons (pv 6) (pa_cons (pv 3) pa_nil)))))
      (pss_cons (ps_fld (pv 0) (pe_callTy (call_tuple_of_k (K := K) rfl) rfl F.f_tuple (by decide +kernel) (pa_cons (pv 1) pa_nil)) rfl)
      (pss_cons (ps_fld (pv 0) (pe_dictZip rfl (pa_cons (pv 1) (pa_cons (pv 5) pa_nil)) (pk_cons pe_bl pk_nil) rfl F.f_dict rfl F.f_zip) rfl)
      (pss_cons (ps_fld (pv 0) (pe_dc rfl sc_B_init.nd (pi_tup_k (K := K) rfl (pv 1)) (blkOk_by (own := [("peg", 7)]) (N := N_B_init) (sc := defScope s_B_init) (by decide +kernel)) (fun _ _ _ _ _ => (pg_name (i := 7) sc_B_init.nd rfl (by first | exact .inl rfl | exact .inr rfl))) (fun _ _ _ _ _ => pts_nil) (fun _ _ _ _ _ => (pv 7)) (fun _ _ _ _ _ => (pe_callTy (call_tuple_of_k (K := K) rfl) rfl F.f_tuple (by decide +kernel) (pa_cons (pe_lc rfl sc_B_init.nd (pi_tup_k (K := K) rfl (pv 1)) (blkOk_by (own := [("other", 8)]) (by first | rfl | kernel_rfl)) (fun _ _ _ _ _ => (pg_name (i := 8) sc_B_init.nd rfl (by first | exact .inl rfl | exact .inr rfl))) (fun _ _ _ _ _ => (pts_one (pt_cmpR (op_in_seq_k (K := K) rfl) (pv 8) (pe_dget (hu_of hr) (pv 6) (pv 7) (fun _ _ => rfl)) rfl))) (fun _ _ _ _ _ => (pv 8))) pa_nil)))) rfl)
      (pss_cons (ps_fld (pv 0) (pe_cal c_clash_pairs hr (by decide) rfl (pa_cons (pe_fld_k (K := K) rfl (pv 0) rfl) (pa_cons (pv 6) (pa_cons (pv 3) pa_nil)))) rfl)
      (pss_one (ps_fld (pv 0) (pe_tup (pa_cons (pe_fld_k (K := K) rfl (pv 0) rfl) (pa_cons (pe_callTy (call_tuple_of_k (K := K) rfl) rfl F.f_tuple (by decide +kernel) (pa_cons (pv 5) pa_nil)) (pa_cons (pe_tupVals rfl (pe_fld_k (K := K) rfl (pv 0) rfl) rfl F.f_tuple) (pa_cons (pe_fld_k (K := K) rfl (pv 0) rfl) pa_nil))))) rfl))))))))))))), ?_⟩), F.mkB, ?_⟩
  · obtain ⟨⟨a, L, n, N, b, Bs, c, C⟩, B, x, dx, ws, rfl, hB, hx, hdx, nx, nd, ⟨rfl, hL, hN, hBs, hC, hp⟩, q⟩ := h
    dsimp only at hL hN hBs hC hp q
    have z12 := hp.most
    have znl := hp.nl
    have zbl := hp.bl
    have zc := hp.clen
    refine q_dropP hB (evp_call (⟨a, L, n, N, b, Bs, c, C⟩ : DForm) (ea_cons (ev_var rfl) (ea_cons (ev_var rfl) (ea_cons (ev_var rfl) (ea_cons (ev_var rfl) ea_nil)))) ⟨rfl, sqs_t hL, hN, hBs, hC, by show L.length ≤ _; omega, by show N.length ≤ _; omega, by show Bs.length ≤ _; omega, by show C.length ≤ _; omega⟩) fun v B1 H1 g1 _ => ?_
    refine q_asgP g1.bh (evp_if (b := false) (P := fun v _ => v = .ref c) (et_is (et_test (ev_isN (x := .ref c) (ev_var rfl))) (by simp)) (fun z => nomatch z) fun _ => ev_p (ev_var rfl)) fun v B2 H2 g2 hv => ?_
    subst hv
    have G2 := g1.trans g2
    have i0 : InS x dx (CB K) [] B H B H := ⟨Evl.Ex.refl B, hB, fun a o _ h => h, fun a _ h => h, hx⟩
    have i2 := i0.step G2
    -- check_pegs: self.MOST is read off x
    refine ⟨.ref a, rfl, .ref c, rfl, .ref x, rfl, x, CB K, dx, [], _, uM, rfl, i2.hx, F.clsB, hM, rfl, ⟨⟨a, L, c, C, 12⟩, B2, i2.bh, ⟨rfl, ex_t i2.b hL, hC.ex i2.b, hp.names, by show (L.length : Int) ≤ 12; omega, by show L.length ≤ 1000; omega, hp.clen, hp.cost⟩, fun v B3 H3 g3 _ => ?_⟩⟩
    have i3 := i2.step g3
    refine q_dropP i3.bh (evp_call (⟨a, L, n, N, _⟩ : DPairs) (ea_cons (ev_var rfl) (ea_cons (ev_var rfl) (ea_cons ev_c ea_nil))) ⟨rfl, ex_t i3.b hL, hN.ex i3.b, hp.needs⟩) fun v B4 H4 g4 _ => ?_
    have i4 := i3.step g4
    refine q_asgP i4.bh (evp_call (⟨a, L, n, N⟩ : DNeed) (ea_cons (ev_var rfl) (ea_cons (ev_var rfl) ea_nil)) ⟨rfl, ex_t i4.b hL, hN.ex i4.b, hp.names.2, by show L.length ≤ 100; omega, hp.needs, hp.circ, hp.rlen⟩) fun v B5 H5 g5 ⟨d, hv, hrows⟩ => ?_
    subst hv
    dsimp only at hrows
    have i5 := i4.step g5
    refine q_dropP i5.bh (evp_call (⟨a, L, b, Bs, _⟩ : DPairs) (ea_cons (ev_var rfl) (ea_cons (ev_var rfl) (ea_cons ev_c ea_nil))) ⟨rfl, ex_t i5.b hL, hBs.ex i5.b, hp.bars⟩) fun v B6 H6 g6 _ => ?_
    have i6 := i5.step g6
    refine q_dropP i6.bh (evp_call (⟨a, L, d, rowsOf N, b, Bs⟩ : DDead) (ea_cons (ev_var rfl) (ea_cons (ev_var rfl) (ea_cons (ev_var rfl) ea_nil))) ⟨rfl, ex_t i6.b hL, hrows.ex g6.b, hBs.ex i6.b, by show Bs.length ≤ 90000; omega, hp.dead⟩) fun v B7 H7 g7 _ => ?_
    have i7 := i6.step g7
    have hrows7 := hrows.ex (g6.b.trans g7.b)
    have n0 : H x ≠ none := by rw [hx]; simp
    -- the attributes
    refine evp_tupS (K := K) (te := tVar 1) (ev_var rfl) (sqs_t (ex_t i7.b hL)) H7 i7.bh _ fun v B8 H8 g8 ⟨o, hv, ho⟩ => ?_
    subst hv
    have i8 := i7.step g8
    refine ⟨.ref x, rfl, x, CB K, dx, [], rfl, i8.hx, F.clsB, F.nB_order, by decide, ?_⟩
    have j8 := i8.put n0 nx "order" (.ref o)
    dsimp only [tSeq, sFld]
    refine evp_dictZip (K := K) (σ := [some (.ref x), some (.ref a), some (.ref n), some (.ref b), some (.ref c), some (.ref c), some (.ref d), none, none]) (t := tCons (tVar 1) (tCons (tVar 5) tNil)) (xs := L) (ys := C.map V.int) (ea_cons (ev_var rfl) (ea_cons (ev_var rfl) ea_nil)) (ea_cons ev_c ea_nil) (sqs_t (ex_t j8.b hL)) (hC.ex j8.b) (by rw [List.length_map]; omega) hp.names.2 _ j8.bh _ fun v B9 H9 g9 ⟨pr, hv, hpr⟩ => ?_
    subst hv
    have i9 := j8.step g9
    refine ⟨.ref x, rfl, x, CB K, dx, _, rfl, i9.hx, F.clsB, F.nB_prices, by show 1 < 1000; decide, ?_⟩
    have j9 := i9.put n0 nx "prices" (.ref pr)
    have hrows9 := (hrows7.ex g8.b).ex g9.b
    obtain ⟨rs, hd, hrs⟩ := hrows9
    have hwL := walk_T (ex_t j9.b hL)
    rw [List.length_map] at hwL
    refine evp_dc (l := L) (key := id) (P := fun p v B => TupV (mkBd L C N Bs).row K B p v) (by omega) (ei_tup (ev_var rfl) (ex_t j9.b hL)) hwL (fun _ e => e) bnd_map (fun _ _ => rfl) (fun p _ => ev_var rfl) (by simpa using hp.names.2) (fun p _ v H H' e h => h.ex e) (fun p hpL => ?_) _ j9.bh _ fun v B10 H10 g10 ⟨rw', ys, hv, hrw, hys⟩ => ?_
    · obtain ⟨r, hv, qr, rfl, hqr⟩ := zip_get hrs hpL
      have hwi := walk_T (ex_t j9.b hL)
      rw [List.length_map] at hwi
      refine (evp_tupOf (K := K) (xs := ((mkBd L C N Bs).row p).map V.str) (evp_lcF (l := L) (f := V.str) (q := fun y => decide (y ∈ rowsOf N p)) (st := fun y => [some (.ref x), some (.ref a), some (.ref n), some (.ref b), some (.ref c), some (.ref c), some (.ref d), some (.str p), some (.str y)]) (by omega) (ei_tup (ev_var rfl) (ex_t j9.b hL)) hwi (fun _ e => e) bnd_map (fun _ _ => rfl) (fun y _ => et_test (ev_in (ev_var rfl) (ev_dget (ev_var rfl) (ev_var rfl) (.inl hd) hv) (sqs_l (sq_of hqr)))) fun y _ _ => ev_var rfl)).imp fun v B2 _ ⟨t, hv, ht⟩ => ⟨t, hv, st_of ht⟩
    · subst hv
      have i10 := j9.step g10
      refine ⟨.ref x, rfl, x, CB K, dx, _, rfl, i10.hx, F.clsB, F.nB_rows, by show 2 < 1000; decide, ?_⟩
      have j10 := i10.put n0 nx "rows" (.ref rw')
      -- clashes
      refine ⟨.ref x, rfl, x, CB K, dx, _, .ref o, rfl, j10.hx, F.clsB, F.nB_order, rfl, .ref d, rfl, .ref b, rfl, ⟨⟨o, L, d, rowsOf N, b, Bs⟩, B10, j10.bh, ⟨rfl, ex_t (g9.b.trans g10.b) ho, ⟨rs, g10.b _ _ hd, paired_imp (fun _ _ q => q.ex g10.b) hrs⟩, hBs.ex j10.b, by show Bs.length ≤ 90000; omega, by show L.length ≤ 100; omega⟩, fun v B11 H11 g11 ⟨t, yt, hv, ht, hyt⟩ => ?_⟩⟩
      subst hv
      have i11 := j10.step g11
      refine ⟨.ref x, rfl, x, CB K, dx, _, rfl, i11.hx, F.clsB, F.nB_clashes, by show 3 < 1000; decide, ?_⟩
      have j11 := i11.put n0 nx "clashes" (.ref t)
      -- key
      refine ⟨.ref x, rfl, x, CB K, dx, _, .ref o, rfl, j11.hx, F.clsB, F.nB_order, rfl, ?_⟩
      refine evp_tupS (K := K) (te := tVar 5) (σ := [some (.ref x), some (.ref a), some (.ref n), some (.ref b), some (.ref c), some (.ref c), some (.ref d), none, none]) (ev_var rfl) (hC.ex j11.b) _ j11.bh _ fun v B12 H12 g12 ⟨pc, hv, hpc⟩ => ?_
      subst hv
      have i12 := j11.step g12
      have hrw12 := i12.bh _ _ (g12.b _ _ (g11.b _ _ hrw))
      refine ⟨.ref x, rfl, x, CB K, dx, _, .ref rw', rfl, i12.hx, F.clsB, F.nB_rows, rfl, rw', _, rfl, hrw12, fun qv hqv => ?_⟩
      have hmap : (((L.map fun a => (Sum.inr (id a) : Key)).zip ys).map (·.2)) = ys := by
        have := paired_len hys
        exact List.map_snd_zip (by rw [List.length_map]; omega)
      rw [hmap]
      have i13 := i12.step ((Gr.refl i12.bh).new (o := .tup ys) hqv)
      refine ⟨.ref x, rfl, x, CB K, dx, _, .ref t, rfl, i13.hx, F.clsB, F.nB_clashes, rfl, by show 4 ≤ sizeLine; decide, fun ky hky => ?_⟩
      have i14 := i13.step ((Gr.refl i13.bh).new (o := .tup [.ref o, .ref pc, .ref qv, .ref t]) hky)
      refine ⟨.ref x, rfl, x, CB K, dx, _, rfl, i14.hx, F.clsB, F.nB_key, by show 4 < 1000; decide, ?_⟩
      have j14 := i14.put n0 nx "key" (.ref ky)
      obtain ⟨gi, ee⟩ := j14.fin hx hdx nx nd
      have e13 : Evl.Ex B12 (upd B12 qv (.tup ys)) := Ex.new (fresh_back i12.bh hqv)
      have e14 : Evl.Ex (upd B12 qv (.tup ys)) (upd (upd B12 qv (.tup ys)) ky (.tup [.ref o, .ref pc, .ref qv, .ref t])) := Ex.new (fresh_back i13.bh hky)
      have eF := (e13.trans e14).trans ee
      have e10F := (g11.b.trans g12.b).trans eF
      have e8F := (g9.b.trans g10.b).trans e10F
      have hys' : Paired (TupV (mkBd L C N Bs).row K _) L ys := paired_imp (fun _ _ q => q.ex e10F) hys
      refine q _ _ gi ⟨hp.ok, dx, o, pr, rw', t, ky, upd_same, ex_t e8F ho, (g10.b.trans e10F) _ _ hpr, ⟨ys, e10F _ _ hrw, hys'⟩, ?_, ?_⟩
      · refine dp_tup (st_of (((g12.b).trans eF) _ _ ht)) ?_
        refine paired_map_l (paired_imp (fun z v ⟨p, hv, hs⟩ => ?_) hyt)
        rw [hv]
        exact dp_strs (l := [z.1, z.2]) (ex_t (g12.b.trans eF) hs)
      · refine dp_tup (ys := [.ref o, .ref pc, .ref qv, .ref t]) (st_of (ee _ _ upd_same)) (.cons (dp_strs (ex_t e8F ho)) (.cons ?_ (.cons ?_ (.cons ?_ .nil))))
        · refine dp_tup (ex_t eF hpc) ?_
          clear hpc
          exact paired_map_l (paired_self C fun z => .int z)
        · refine dp_tup (st_of ((e14.trans ee) _ _ upd_same)) (paired_map_l (paired_imp (fun z v ⟨p, hv, hs⟩ => ?_) hys'))
          rw [hv]
          exact dp_strs hs
        · refine dp_tup (st_of (((g12.b).trans eF) _ _ ht)) (paired_map_l (paired_imp (fun z v ⟨p, hv, hs⟩ => ?_) hyt))
          rw [hv]
          exact dp_strs (l := [z.1, z.2]) (ex_t (g12.b.trans eF) hs)
  · obtain ⟨oc, od, dV, kV, doc, pm, an, cdv, ct, osl, rfl, lk, hcd, hD, hK⟩ := D.ex
    rcases hD with ⟨_, rfl⟩ | ⟨e, _⟩
    · exact ⟨fun s us ws X l1 l2 => .of_eq (match us, ws, l1, l2 with | [_, _], [_, _, _], _, _ => rfl), fun r1 r2 => r1.append r2⟩
    · exact absurd rfl e
end
end NP
end

section
set_option maxHeartbeats 4000000
namespace NP
open PySem PySem.Spec PyProof.Rows L2 Evl
section
variable {K : PySem.W.Frag} {σ : L2.St} {B B0 B1 B2 B4 H H0 H1 H2 H4 : Hp} {te ta tb tc u : TE} {tt tt1 : TT}
theorem it_any {J : It} {n : Nat} {G : Hp → Prop} {Y : Nat → Hp → V → Hp → Prop} (w : Walk J n G Y) {Qd : Hp → Prop} {C : (Hp → Prop) → V → Hp → Prop} (Pv : Nat → Hp → Prop) (h0 : Pv 0 H0) (hG : ∀ i H, i ≤ n → Pv i H → G H)
    (hs : ∀ i x H H', i < n → Pv i H → Y i H x H' → C (Pv (i + 1)) x H') (hd : ∀ H, Pv n H → Qd H) :
    ∃ W : Nat → Nat → Hp → Prop, (∃ m, W 0 m H0) ∧ ∀ i m H, W i m H → (J.stop i H ∧ Qd H) ∨ (J.go i H ∧ ∃ Nx : Hp → Prop, (∀ H', Nx H' → ∃ m', m' < m ∧ W (i + 1) m' H') ∧ ∀ x H', J.yld i H x H' → C Nx x H') := by
  refine ⟨fun i m H => m = n - i ∧ i ≤ n ∧ Pv i H, ⟨n, by simp, Nat.zero_le _, h0⟩, ?_⟩
  rintro i m H ⟨rfl, hi, p⟩
  have q := hG i H hi p
  by_cases hlt : i < n
  · exact .inr ⟨w.goes i H hlt q, Pv (i + 1), fun H' p' => ⟨n - (i + 1), by omega, rfl, hlt, p'⟩, fun x H' y => hs i x H H' hlt p (w.yields i H x H' hlt q y)⟩
  · have e : i = n := by omega
    subst e
    exact .inl ⟨w.stops H q, hd H p⟩
def WalkB {β : Type} (g1 : TG) (τ : L2.St) (l1 : List β) (st1 : β → L2.St) (J1 : It) (B2 : Hp) : Prop := ∃ G1 Y1, Walk J1 l1.length G1 Y1 ∧ (∀ H, Ex B2 H → G1 H) ∧ Bnd Y1 g1 τ B2 l1 st1
theorem take_prod_succ {α β : Type} {l1 : List β} {a : α} {j : Nat} (h : j < l1.length) (q : α × β → Bool) : ((l1.take (j + 1)).map fun b => (a, b)).filter q = ((l1.take j).map fun b => (a, b)).filter q ++ (if q (a, l1[j]) then [(a, l1[j])] else []) := by
  rw [List.take_succ_eq_append_getElem h, List.map_append, List.filter_append]
  congr 1
  rw [List.map_singleton]
  cases h : q (a, l1[j]) <;> simp [h]
theorem take_flat_succ {α β : Type} {l : List α} {l1 : List β} {i : Nat} (h : i < l.length) : ((l.take (i + 1)).flatMap fun a => l1.map fun b => (a, b)) = ((l.take i).flatMap fun a => l1.map fun b => (a, b)) ++ l1.map fun b => (l[i], b) := by
  rw [List.take_succ_eq_append_getElem h, List.flatMap_append, List.flatMap_singleton]
theorem evp_lc2 {α β : Type} {l : List α} {l1 : List β} {wi wi1 : TI} {g g1 : TG} {vs vs1 : List Nat} {J : It} {G : Hp → Prop} {Y : Nat → Hp → V → Hp → Prop} {st : α → L2.St} {st1 : α → β → L2.St} {q : α × β → Bool} {P : α × β → V → Hp → Prop} (hz : l.length ≤ 100) (hz1 : l1.length ≤ 100) (hi : EvI wi σ B J) (w : Walk J l.length G Y) (hG : ∀ H1, Ex B H1 → G H1)
    (hb : Bnd Y g (L2.wipe σ vs) B l st) (hst : ∀ a ∈ l, L2.wipe (st a) vs = L2.wipe σ vs) (hin : ∀ a ∈ l, ∀ B', Ex B B' → EvIP wi1 (st a) B' (WalkB g1 (L2.wipe (st a) vs1) l1 (st1 a)))
    (hst1 : ∀ a ∈ l, ∀ b ∈ l1, L2.wipe (st1 a b) vs1 = L2.wipe (st a) vs1) (ht : ∀ a ∈ l, ∀ b ∈ l1, EvT tt1 (st1 a b) B (q (a, b))) (hm : ∀ c, Mon (P c)) (he : ∀ a ∈ l, ∀ b ∈ l1, q (a, b) = true → EvP te (st1 a b) B (P (a, b))) :
    EvP (tLc2 wi g tYes wi1 g1 tt1 te vs vs1) σ B fun v B2 => ∃ p ys, v = .ref p ∧ B2 p = some (.lst ys) ∧ Paired (fun a y => P a y B2) ((l.flatMap fun a => l1.map fun b => (a, b)).filter q) ys := fun H1 e Q k => by
  refine hi H1 e _ fun H2 e2 D hD => ?_
  have hD1 : H1 D = none := fresh_back e2 hD
  refine it_any w (fun i H' => ∃ B' ys, Gr B H1 B' H' ∧ B' D = none ∧ H' D = some (.lst ys) ∧ ys.length ≤ i * l1.length ∧ Paired (fun a y => P a y B') (((l.take i).flatMap fun a => l1.map fun b => (a, b)).filter q) ys)
    ⟨B, [], (Gr.ex e (e2.trans (Ex.new hD))), fresh_back e hD1, upd_same, Nat.zero_le _, by simp; exact .nil⟩
    (fun i H' _ ⟨B', ys, gr, _⟩ => hG H' (gr.b.trans gr.bh)) (fun i x H' H'' hlt ⟨B', ys, gr, hBD, hD3, hl3, hp3⟩ y => ?_) fun H' ⟨B', ys, gr, hBD, hD3, _, hp3⟩ => ?_
  · obtain ⟨e4, hgo⟩ := hb i hlt x H' H'' (gr.b.trans gr.bh) y
    have memi := List.getElem_mem hlt
    refine hgo _ ⟨hst _ memi, ?_⟩
    unfold tYes; dsimp only
    rw [if_pos rfl]
    refine hin _ memi B' gr.b H'' (gr.bh.trans e4) _ fun J1 B3 H3 g3 ⟨G1, Y1, w1, hG1, hb1⟩ => ?_
    have hD5 : H3 D = some (.lst ys) := g3.h _ _ (e4 _ _ hD3)
    have hB5 : B3 D = none := g3.av D (by rw [e4 _ _ hD3]; simp) hBD
    have g13 := (gr.up e4).trans g3
    refine it_any w1 (fun j H' => ∃ B' ys, Gr B H1 B' H' ∧ Ex B3 B' ∧ B' D = none ∧ H' D = some (.lst ys) ∧ ys.length ≤ i * l1.length + j ∧ Paired (fun a y => P a y B') ((((l.take i).flatMap fun a => l1.map fun b => (a, b)) ++ ((l1.take j).map fun b => (l[i], b))).filter q) ys)
      ⟨B3, ys, g13, Ex.refl _, hB5, hD5, by omega, by simpa using mon_paired g3.b (fun a _ => hm a) hp3⟩
      (fun i H' _ ⟨B', ys, gr, e3, _⟩ => hG1 H' (e3.trans gr.bh)) (fun j x H4 H5 hlt1 ⟨B4, zs, gr4, e34, hBD4, hD4, hl4, hp4⟩ y => ?_) fun H' ⟨B', ys, gr, _, hBD, hD3, hl, hp3⟩ => ?_
    · obtain ⟨e5, hgo1⟩ := hb1 j hlt1 x H4 H5 (e34.trans gr4.bh) y
      have memj := List.getElem_mem hlt1
      refine hgo1 _ ⟨hst1 _ memi _ memj, ?_⟩
      refine ht _ memi _ memj H5 ((gr4.b.trans gr4.bh).trans e5) _ fun H6 e6 => ?_
      have gr6 := gr4.up (e5.trans e6)
      have hD6 : H6 D = some (.lst zs) := (e5.trans e6) _ _ hD4
      have hsz : zs.length < sizeLine := by
        have : i * l1.length ≤ 100 * 100 := Nat.mul_le_mul (by omega) hz1
        exact sz_lt (by omega)
      cases hq : q (l[i], l1[j]) with
      | true =>
        rw [if_pos rfl]
        refine (he _ memi _ memj hq).up (hm _) gr4.b H6 (gr4.bh.trans (e5.trans e6)) _ fun v B7 H7 g7 pv => ?_
        have hD7 : H7 D = some (.lst zs) := g7.h _ _ hD6
        have hB7 : B7 D = none := g7.av D (by rw [hD6]; simp) hBD4
        have g17 := gr6.trans g7
        refine ⟨zs, hD7, hsz, B7, zs ++ [v], ⟨g17.b, Ex.mut g17.bh hB7, Ex.mut g17.h hD1, g17.av⟩, e34.trans g7.b, hB7, upd_same, by rw [List.length_append]; show zs.length + 1 ≤ _; omega, ?_⟩
        rw [List.filter_append, take_prod_succ hlt1, hq, if_pos rfl, ← List.append_assoc, ← List.filter_append]
        exact paired_snoc (mon_paired g7.b (fun a _ => hm a) hp4) pv
      | false =>
        rw [if_neg Bool.false_ne_true]
        refine ⟨B4, zs, gr6, e34, hBD4, hD6, by omega, ?_⟩
        rw [List.filter_append, take_prod_succ hlt1, hq, if_neg Bool.false_ne_true, List.append_nil, ← List.filter_append]
        exact hp4
    · refine ⟨B', ys, gr, hBD, hD3, by rw [Nat.succ_mul]; exact hl, ?_⟩
      rw [take_flat_succ hlt]
      rw [List.take_length] at hp3
      exact hp3
  · rw [List.take_length] at hp3
    refine k _ (upd B' D (.lst ys)) H' ⟨gr.b.trans (Ex.new hBD), fun a u h => ?_, gr.h, fun a h1 h2 => ?_⟩ ⟨D, ys, rfl, upd_same, mon_paired (Ex.new hBD) (fun a _ => hm a) hp3⟩
    · by_cases z : a = D
      · subst z; rw [upd_same] at h; rw [hD3]; exact h
      · rw [upd_ne z] at h; exact gr.bh a u h
    · have z : a ≠ D := fun z => h1 (z ▸ hD1)
      rw [upd_ne z]; exact gr.av a h1 h2
end
end NP
end

section
set_option maxHeartbeats 4000000
namespace NP
open PySem PySem.Spec PyProof.Rows L2 Evl
section
variable {K : PySem.W.Frag} {σ : L2.St} {B : Hp} {te : TE} {tt tt1 : TT}
theorem evp_lcP2 {wi wi1 : TI} {g g1 : TG} {vs vs1 : List Nat} {W : It → Hp → Prop} {P : V → Hp → Prop} (h : EvIP wi σ B W) (main : ∀ J B2, Ex B B2 → W J B2 → EvP (tLc2 (fun _ H R => R J H) g tt wi1 g1 tt1 te vs vs1) σ B2 P) : EvP (tLc2 wi g tt wi1 g1 tt1 te vs vs1) σ B P := fun H1 e Q k =>
  h H1 e _ fun J B2 H2 gr hw => main J B2 gr.b hw H2 gr.bh Q fun v B3 H3 g3 p => k v B3 H3 (gr.trans g3) p
end
section
variable {P : Program} {w : World} {K : PySem.W.Frag} {mg : Str → Option Value} {base : Heap}
/-! ### seen_from -/
def Bd.prod (b : Bd) : List (Str × Str) := (b.pegs.flatMap fun x => b.pegs.map fun y => (x, y)).filter fun c => !decide (c.1 = c.2)
def Bd.seenN (b : Bd) (O : List Str) : List (Str × Str) := b.prod.filter fun c => !b.occ c.1 (!decide (c.1 ∈ O)) c.2 (decide (c.2 ∈ O))
def Bd.seenB (b : Bd) (O : List Str) : List (Str × Str) := b.prod.filter fun c => !b.occ c.1 (!decide (c.1 ∈ O)) c.2 (!decide (c.2 ∈ O))
def Bd.costs (b : Bd) : List Int := b.pegs.map b.costOf
def Bd.seenF (b : Bd) (O : List Str) : Bd := mkBd b.pegs b.costs (b.seenN O) (b.seenB O)
def Bd.SeenOk (b : Bd) (O : List Str) : Prop := BdPre b.pegs b.costs (b.seenN O) (b.seenB O)
def sp_seen_from (K : PySem.W.Frag) : Sp := Prm (δ := DS1) (fun d vs B => vs = [.ref d.a] ∧ StAt K B d.a d.b d.S ∧ d.b.SeenOk d.S) (fun d v B => ∃ x, v = .ref x ∧ BdAt K B x (d.b.seenF d.S))
theorem mon_pairV {c : Str × Str} : Mon (fun v B => PairV K B c v) := fun v H H' e h => h.ex e
theorem mem_prod {b : Bd} {c : Str × Str} (h : c ∈ b.prod) : c.1 ∈ b.pegs ∧ c.2 ∈ b.pegs := by
  unfold Bd.prod at h
  rw [List.mem_filter, List.mem_flatMap] at h
  obtain ⟨⟨x, hx, h⟩, _⟩ := h
  rw [List.mem_map] at h
  obtain ⟨y, hy, rfl⟩ := h
  exact ⟨hx, hy⟩
theorem len_flat {α β : Type} {l1 : List β} : ∀ l : List α, (l.flatMap fun a => l1.map fun b => (a, b)).length = l.length * l1.length
  | [] => by simp
  | a :: l => by rw [List.flatMap_cons, List.length_append, len_flat l, List.length_map, List.length_cons, Nat.succ_mul, Nat.add_comm]
theorem len_prod {b : Bd} (h : b.Ok) : b.prod.length ≤ 144 := by
  have h1 := List.length_filter_le (fun c : Str × Str => !decide (c.1 = c.2)) (b.pegs.flatMap fun x => b.pegs.map fun y => (x, y))
  rw [len_flat] at h1
  have h2 : b.pegs.length * b.pegs.length ≤ 12 * 12 := Nat.mul_le_mul h.most h.most
  unfold Bd.prod
  omega
theorem c_seen_from (F : Facts K mg) : Cal P w K mg base 6 "seen_from" ["origin"] (sp_seen_from K) := by
  obtain ⟨fd, D⟩ := F.d_seen_from
  have c_S_board := c_S_board (P := P) (w := w) (base := base) F
  have c_B_pegs := c_B_pegs (P := P) (w := w) (base := base) F
  have c_B_cost_of := c_B_cost_of (P := P) (w := w) (base := base) F
  have c_S_contains := c_S_contains (P := P) (w := w) (base := base) F
  have c_occurs := c_occurs (P := P) (w := w) (base := base) F
  have c_B_init := c_B_init (P := P) (w := w) (base := base) F
  refine mkCal D sc_seen_from F.g_seen_from (fun _ _ _ _ _ _ us hl => match us, hl with | [_], _ => rfl) (fun vs H Q E ⟨i, B, _, e, _⟩ => by rw [e.1]; rfl) fun cdv A outer s H vs Q E hr h => ⟨_, (pss_cons (ps_set (i := 1) sc_seen_from.nd rfl (by first | exact .inl rfl | exact .inr rfl) (pe_calG c_S_board (pv 0) F.clsS hr (by decide)))
      (pss_cons (ps_setLc2 (i := 2) (vs1 := [6]) rfl sc_seen_from.nd rfl rfl (sw_true rfl rfl rfl (by decide +kernel)) (pi_tup_k (K := K) rfl (pe_calG c_B_pegs (pv 1) F.clsB hr (by decide))) (blkOk_by (own := [("x", 5), ("y", 6)]) (N := N_seen_from) (sc := defScope s_seen_from) (by decide +kernel)) (by decide) (fun _ _ _ _ _ => (pg_name (i := 5) sc_seen_from.nd rfl (by first | exact .inl rfl | exact .inr rfl))) (fun _ _ _ _ _ => pts_nil) (fun _ _ _ _ _ => (pi_tup_k (K := K) rfl (pe_calG c_B_pegs (pv 1) F.clsB hr (by decide)))) (fun _ _ _ _ _ => (pg_name (i := 6) sc_seen_from.nd rfl (by first | exact .inl rfl | exact .inr rfl))) (fun _ _ _ _ _ => (pts_one (pt_cmpR op_ne (pv 5) (pv 6) (nomark _)))) (fun _ _ _ _ _ => (pe_tup (pa_cons (pv 5) (pa_cons (pv 6) pa_nil)))))
      (pss_cons (ps_setLc (i := 3) rfl sc_seen_from.nd rfl rfl (sw_true rfl rfl rfl (by decide +kernel)) (pi_list_k (K := K) rfl (pv 2)) (blkOk_by (own := [("x", 5), ("y", 6)]) (N := N_seen_from) (sc := defScope s_seen_from) (by decide +kernel)) (fun _ _ _ _ _ => (pg_tup_k (K := K) (n := 2) rfl rfl (pgs_cons (pg_name (i := 5) sc_seen_from.nd rfl (by first | exact .inl rfl | exact .inr rfl)) (pgs_cons (pg_name (i := 6) sc_seen_from.nd rfl (by first | exact .inl rfl | exact .inr rfl)) pgs_nil)))) (fun _ _ _ _ _ => (pts_one (pt_not (pt_val (pe_cal c_occurs hr (by decide) rfl (pa_cons (pv 1) (pa_cons (pv 5) (pa_cons (pe_cmpR (op_notInIns c_S_contains hr (by decide)) (pv 5) (pv 0) rfl) (pa_cons (pv 6) (pa_cons (pe_cmpR (op_inIns c_S_contains hr (by decide)) (pv 6) (pv 0) rfl) pa_nil)))))))))) (fun _ _ _ _ _ => (pe_tup (pa_cons (pv 5) (pa_cons (pv 6) pa_nil)))))
      (pss_cons (ps_setLc (i := 4) rfl sc_seen_from.nd rfl rfl (sw_true rfl rfl rfl (by decide +kernel)) (pi_list_k (K := K) rfl (pv 2)) (blkOk_by (own := [("x", 5), ("y", 6)]) (N := N_seen_from) (sc := defScope s_seen_from) (by decide +kernel)) (fun _ _ _ _ _ => (pg_tup_k (K := K) (n := 2) rfl rfl (pgs_cons (pg_name (i := 5) sc_seen_from.nd rfl (by first | exact .inl rfl | exact .inr rfl)) (pgs_cons (pg_name (i := 6) sc_seen_from.nd rfl (by first | exact .inl rfl | exact .inr rfl)) pgs_nil)))) (fun _ _ _ _ _ => (pts_one (pt_not (pt_val (pe_cal c_occurs hr (by decide) rfl (pa_cons (pv 1) (pa_cons (pv 5) (pa_cons (pe_cmpR (op_notInIns c_S_contains hr (by decide)) (pv 5) (pv 0) rfl) (pa_cons (pv 6) (pa_cons (pe_cmpR (op_notInIns c_S_contains hr (by decide)) (pv 6) (pv 0) rfl) pa_nil)))))))))) (fun _ _ _ _ _ => (pe_tup (pa_cons (pv 5) (pa_cons (pv 6) pa_nil)))))
      (pss_one (ps_ret (pe_calK c_B_init hr (by decide) rfl F.g_Board (pa_cons (pe_calG c_B_pegs (pv 1) F.clsB hr (by decide)) pa_nil) (pk_cons (pv 3) (pk_cons (pv 4) (pk_cons (pe_lc rfl sc_seen_from.nd (pi_tup_k (K := K) rfl (pe_calG c_B_pegs (pv 1) F.clsB hr (by decide))) (blkOk_by (own := [("peg", 7)]) (N := N_seen_from) (sc := defScope s_seen_from) (by decide +kernel)) (fun _ _ _ _ _ => (pg_name (i := 7) sc_seen_from.nd rfl (by first | exact .inl rfl | exact .inr rfl))) (fun _ _ _ _ _ => pts_nil) (fun _ _ _ _ _ => (pe_calM c_B_cost_of (pv 1) F.clsB hr (by decide) (pa_cons (pv 7) pa_nil)))) pk_nil)))))))))), ?_⟩
  obtain ⟨⟨a, b, O⟩, B, hB, ⟨rfl, hs, hok⟩, q⟩ := h
  dsimp only at hs hok q
  obtain ⟨_, dx, g, m, h1, h2, h3⟩ := id hs
  refine q_asgP hB (evp_prop (⟨a, b, O⟩ : DS1) (ev_var rfl) h1 ⟨rfl, hs⟩) fun v B1 H1 g1 ⟨d, hv, hd⟩ => ?_
  subst hv
  dsimp only at hd
  have hbl := h2.ok.most
  have hbd (B' : Hp) (e : Evl.Ex B1 B') : BdAt K B' d b := hd.up e
  obtain ⟨_, dx1, o1, _, _, _, _, hins, _⟩ := id hd
  have hpl := len_prod h2.ok
  have ein : ∀ (σ : L2.St) (B' : Hp), Evl.Ex B1 B' → σ[1]? = some (some (.ref d)) → EvIP (iTup K (tProp (CB K) (sp_Bpegs K) [] L2.E0 (tVar 1))) σ B' fun J B2 => ∃ p, J = Itt K p ∧ SqT K B2 p (b.pegs.map V.str) := fun σ B' e hσ =>
    eip_tup (xs := b.pegs.map V.str) ((evp_prop (d, b) (ev_var hσ) (e _ _ hins) ⟨rfl, hd.up e⟩).imp fun v B2 _ h => h)
  refine q_asgP g1.bh (P := fun v B => ∃ p ys, v = .ref p ∧ B p = some (.lst ys) ∧ Paired (PairV K B) b.prod ys) (evp_lcP2 (ein _ _ (Evl.Ex.refl _) rfl) fun J B2 e2 ⟨p, hJ, hp⟩ => ?_) fun v B2 H2 g2 ⟨pl, pys, hv, hpl1, hpl2⟩ => ?_
  · subst hJ
    have hwo := walk_T hp
    rw [List.length_map] at hwo
    refine (evp_lc2 (l := b.pegs) (l1 := b.pegs) (st := fun x => [some (.ref a), some (.ref d), none, none, none, some (.str x), none, none]) (st1 := fun x y => [some (.ref a), some (.ref d), none, none, none, some (.str x), some (.str y), none]) (q := fun c => !decide (c.1 = c.2)) (P := fun c v B => PairV K B c v) (by omega) (by omega) ei_at hwo (fun _ e => e) bnd_map (fun _ _ => rfl) (fun x _ B' e' => ?_) (fun _ _ _ _ => rfl) (fun x _ y _ => et_test (ev_neS (ev_var rfl) (ev_var rfl))) (fun c => mon_pairV) fun x _ y _ _ => ?_)
    · refine fun H1 e R r => ein _ B' (e2.trans e') rfl H1 e R fun J B2 H2 g ⟨p, hJ, hp⟩ => r J B2 H2 g ?_
      subst hJ
      have hwo := walk_T hp
      rw [List.length_map] at hwo
      exact ⟨_, _, hwo, fun _ e => e, bnd_map⟩
    · exact (eu_p (eu_tup (ea_cons (ev_var rfl) (ea_cons (ev_var rfl) ea_nil)) (by show 2 ≤ 100000; decide))).imp fun v B2 _ ⟨p, hv, hp⟩ => ⟨p, hv, st_of hp⟩
  · subst hv
    have hst2 := hs.up (g1.b.trans g2.b)
    have hd2 := hd.up g2.b
    have h12 := g2.b _ _ (g1.b _ _ h1)
    have ok := hd2.ok
    have hqP : SqL K B2 pl pys := sq_of hpl1
    have hsub : ∀ z : Str × Str, Evl.Ev (tVar 5) [some (.ref a), some (.ref d), some (.ref pl), none, none, some (.str z.1), some (.str z.2), none] B2 (.str z.1) := fun z => ev_var rfl
    have hwP := walk_L hqP
    rw [← paired_len hpl2] at hwP
    refine q_asgP g2.bh (P := fun v B => ∃ p ys, v = .ref p ∧ B p = some (.lst ys) ∧ Paired (PairV K B) (b.seenN O) ys) (evp_lc (l := b.prod) (q := fun c => !b.occ c.1 (!decide (c.1 ∈ O)) c.2 (decide (c.2 ∈ O))) (P := fun c v B => PairV K B c v) (st := fun z => [some (.ref a), some (.ref d), some (.ref pl), none, none, some (.str z.1), some (.str z.2), none]) (by omega) (ei_list (ev_var rfl) hqP) hwP (fun _ e => e) (bnd_pair (f := fun x : Str × Str => V.str x.1) (g := fun x => V.str x.2) hpl2) (fun _ _ => rfl) (fun c hc => ?_) (fun c _ => mon_pairV) fun c _ _ => ?_) fun v B3 H3 g3 ⟨nl, nys, hv, hnl1, hnl2⟩ => ?_
    · obtain ⟨m1, m2⟩ := mem_prod hc
      exact et_not (et_B (evp_call (⟨d, b, c.1, !decide (c.1 ∈ O), c.2, decide (c.2 ∈ O)⟩ : DOcc) (ea_cons (ev_var rfl) (ea_cons (ev_var rfl) (ea_cons (ev_inIns (neg := true) (b := decide (c.1 ∈ O)) (⟨a, b, O, c.1⟩ : DS2) (ev_var rfl) (ev_var rfl) h12 ⟨rfl, hst2⟩ fun v B2 h => h) (ea_cons (ev_var rfl) (ea_cons (ev_inIns (neg := false) (b := decide (c.2 ∈ O)) (⟨a, b, O, c.2⟩ : DS2) (ev_var rfl) (ev_var rfl) h12 ⟨rfl, hst2⟩ fun v B2 h => h) ea_nil))))) ⟨rfl, hd2, m1, m2⟩).v)
    · exact (eu_p (eu_tup (ea_cons (ev_var rfl) (ea_cons (ev_var rfl) ea_nil)) (by show 2 ≤ 100000; decide))).imp fun v B2 _ ⟨p, hv, hp⟩ => ⟨p, hv, st_of hp⟩
    subst hv
    have hst3 := hst2.up g3.b
    have hd3 := hd2.up g3.b
    have h13 := g3.b _ _ h12
    have hqP3 := ex_l g3.b hqP
    have hpl3 : Paired (PairV K B3) b.prod pys := paired_imp (fun _ _ h => h.ex g3.b) hpl2
    have hwP3 := walk_L hqP3
    rw [← paired_len hpl2] at hwP3
    refine q_asgP g3.bh (P := fun v B => ∃ p ys, v = .ref p ∧ B p = some (.lst ys) ∧ Paired (PairV K B) (b.seenB O) ys) (evp_lc (l := b.prod) (q := fun c => !b.occ c.1 (!decide (c.1 ∈ O)) c.2 (!decide (c.2 ∈ O))) (P := fun c v B => PairV K B c v) (st := fun z => [some (.ref a), some (.ref d), some (.ref pl), some (.ref nl), none, some (.str z.1), some (.str z.2), none]) (by omega) (ei_list (ev_var rfl) hqP3) hwP3 (fun _ e => e) (bnd_pair (f := fun x : Str × Str => V.str x.1) (g := fun x => V.str x.2) hpl3) (fun _ _ => rfl) (fun c hc => ?_) (fun c _ => mon_pairV) fun c _ _ => ?_) fun v B4 H4 g4 ⟨bl, bys, hv, hbl1, hbl2⟩ => ?_
    · obtain ⟨m1, m2⟩ := mem_prod hc
      exact et_not (et_B (evp_call (⟨d, b, c.1, !decide (c.1 ∈ O), c.2, !decide (c.2 ∈ O)⟩ : DOcc) (ea_cons (ev_var rfl) (ea_cons (ev_var rfl) (ea_cons (ev_inIns (neg := true) (b := decide (c.1 ∈ O)) (⟨a, b, O, c.1⟩ : DS2) (ev_var rfl) (ev_var rfl) h13 ⟨rfl, hst3⟩ fun v B2 h => h) (ea_cons (ev_var rfl) (ea_cons (ev_inIns (neg := true) (b := decide (c.2 ∈ O)) (⟨a, b, O, c.2⟩ : DS2) (ev_var rfl) (ev_var rfl) h13 ⟨rfl, hst3⟩ fun v B2 h => h) ea_nil))))) ⟨rfl, hd3, m1, m2⟩).v)
    · exact (eu_p (eu_tup (ea_cons (ev_var rfl) (ea_cons (ev_var rfl) ea_nil)) (by show 2 ≤ 100000; decide))).imp fun v B2 _ ⟨p, hv, hp⟩ => ⟨p, hv, st_of hp⟩
    subst hv
    have e14 := (g2.b.trans g3.b).trans g4.b
    have hd4 := hd.up e14
    have hN4 : PairsAt K B4 nl (b.seenN O) := ⟨nys, sqs_l (sq_of (g4.b _ _ hnl1)), paired_imp (fun _ _ h => h.ex g4.b) hnl2⟩
    have hB4 : PairsAt K B4 bl (b.seenB O) := ⟨bys, sqs_l (sq_of hbl1), hbl2⟩
    have hin4 := e14 _ _ hins
    refine s_retP g4.bh (P := fun v B => ∃ x, v = .ref x ∧ BdAt K B x (b.seenF O)) (evp_makeK (R2 := fun ws B => ∃ o c, ws = [.ref o, .ref nl, .ref bl, .ref c] ∧ SqT K B o (b.pegs.map V.str) ∧ SqS K B c (b.costs.map V.int)) (eap_cons (P := fun v B => ∃ o, v = .ref o ∧ SqT K B o (b.pegs.map V.str)) (fun _ _ _ e ⟨p, h, q⟩ => ⟨p, h, ex_t e q⟩) ((evp_prop (d, b) (ev_var rfl) hin4 ⟨rfl, hd4⟩).imp fun v B2 _ h => h) fun B5 e5 => eap_nil) (fun ws B5 e5 ⟨v1, vs1, hw1, ⟨o, hv1, ho⟩, hw2⟩ => ?_) fun ws B5 e5 ⟨o, c, hw, ho, hc⟩ => ?_) fun v B6 H6 g6 h => q v B6 H6 ((((g1.trans g2).trans g3).trans g4).trans g6) h
    · subst hw1 hv1 hw2
      have e4J : Evl.Ex B1 B5 := e14.trans e5
      refine (eap_cons (P := fun v _ => v = .ref nl) mon_eq (ev_p (ev_var rfl)) fun B6 e6 => eap_cons (P := fun v _ => v = .ref bl) mon_eq (ev_p (ev_var rfl)) fun B7 e7 => eap_cons (P := fun v B => ∃ p, v = .ref p ∧ B p = some (.lst (b.costs.map V.int))) mon_lst (evp_lcP (ein [some (.ref a), some (.ref d), some (.ref pl), some (.ref nl), some (.ref bl), none, none, none] _ ((e4J.trans e6).trans e7) rfl) fun J B8 e8 ⟨p, hJ, hp⟩ => ?_) fun B9 _ => eap_nil).imp fun zs B9 e9 ⟨v3, vs3, hw3, hv3, v4, vs4, hw4, hv4, v5, vs5, hw5, ⟨c, hv5, hc⟩, hw6⟩ => ?_
      · subst hJ
        have hwo := walk_T hp
        rw [List.length_map] at hwo
        refine (evp_lcM (l := b.pegs) (f := fun p => V.int (b.costOf p)) (st := fun y => [some (.ref a), some (.ref d), some (.ref pl), some (.ref nl), some (.ref bl), none, none, some (.str y)]) (by omega) ei_at hwo (fun _ e => e) bnd_map (fun _ _ => rfl) fun y hy => ?_).imp fun v B2 _ ⟨p, hv, hp⟩ => ⟨p, hv, by unfold Bd.costs; rw [List.map_map]; exact hp⟩
        have ee := ((e4J.trans e6).trans e7).trans e8
        exact (evp_meth (⟨d, b, y⟩ : DB1) (ev_var rfl) (ee _ _ hins) rfl (ea_cons (ev_var rfl) ea_nil) ⟨rfl, hd.up ee, hy⟩).v
      · subst hw3 hv3 hw4 hv4 hw5 hv5 hw6
        exact ⟨rfl, rfl, o, c, rfl, ex_t e9 ho, sqs_l (sq_of hc)⟩
    · refine ⟨⟨o, b.pegs, nl, b.seenN O, bl, b.seenB O, c, b.costs⟩, ⟨hw, ho, hN4.ex e5, hB4.ex e5, hc, hok⟩, fun x B2 e2 h => ⟨x, rfl, h⟩⟩
end
end NP
end

section
set_option maxHeartbeats 4000000
namespace NP
open PySem PySem.Spec PyProof.Rows L2 Evl
section
variable {P : Program} {w : World} {K : PySem.W.Frag} {mg : Str → Option Value} {base : Heap}
/-! ### calling a board -/
theorem evp_callO {X : Cx} {σ : L2.St} {B : Hp} {te : TE} {t : TA} {E : XK} {δ : Type} {pre : δ → List V → Hp → Prop} {post : δ → V → Hp → Prop} {C : Addr} {a dx : Addr} {fs : List (Str × V)} {R : List V → Hp → Prop} {P : V → Hp → Prop} (ho : Ev te σ B (.ref a)) (hi : B a = some (.ins C dx fs)) (h : EaP t σ B R)
    (hp : ∀ vs B1, Ex B B1 → R vs B1 → ∃ d, pre d (.ref a :: vs) B1 ∧ ∀ v B2, Ex B1 B2 → post d v B2 → P v B2) : EvP (StX.tCallO X C (Prm pre post) E te t) σ B P := fun H1 e Q q => ho H1 e _ fun H2 e2 => ⟨a, rfl, h H2 (e.trans e2) _ fun vs B3 H3 g3 r => ⟨.inr ⟨dx, fs, g3.h _ _ (e2 _ _ (e _ _ hi))⟩, by
  obtain ⟨d, p1, p2⟩ := hp vs B3 g3.b r
  exact ⟨d, B3, g3.bh, p1, fun v B' H' g p => q v B' H' (((Gr.ex e e2).trans g3).trans g) (p2 v B' g.b p)⟩⟩⟩
/-! ### seen -/
def Bd.seenS (b : Bd) (O S : List Str) : List Str := (b.seenF O).pick (b.xor S O)
def sp_seen (K : PySem.W.Frag) : Sp := Prm (δ := DSS) (fun d vs B => vs = [.ref d.a, .ref d.c] ∧ StAt K B d.a d.b d.S ∧ StAt K B d.c d.b d.T ∧ d.b.SeenOk d.T ∧ StOk (d.b.seenF d.T) (d.b.seenS d.T d.S)) (fun d v B => ∃ x, v = .ref x ∧ StAt K B x (d.b.seenF d.T) (d.b.seenS d.T d.S))
theorem c_seen (F : Facts K mg) : Cal P w K mg base 8 "seen" ["stand", "origin"] (sp_seen K) := by
  obtain ⟨fd, D⟩ := F.d_seen
  have c_S_board := c_S_board (P := P) (w := w) (base := base) F
  have c_B_eq := c_B_eq (P := P) (w := w) (base := base) F
  have c_seen_from := c_seen_from (P := P) (w := w) (base := base) F
  have c_S_xor := c_S_xor (P := P) (w := w) (base := base) F
  have c_B_callR := c_B_callR (P := P) (w := w) (base := base) F
  refine mkCal D sc_seen F.g_seen (fun _ _ _ _ _ _ us hl => match us, hl with | [_, _], _ => rfl) (fun vs H Q E ⟨i, B, _, e, _⟩ => by rw [e.1]; rfl) fun cdv A outer s H vs Q E hr h => ⟨_, (pss_cons (ps_if (pt_cmpR (op_neIns c_B_eq F.eqB F.neB hr (by decide)) (pe_calG c_S_board (pv 0) F.clsS hr (by decide)) (pe_calG c_S_board (pv 1) F.clsS hr (by decide)) (nomark _)) (pss_one ps_never) pss_nil)
      (pss_cons (ps_set (i := 2) sc_seen.nd rfl (by first | exact .inl rfl | exact .inr rfl) (pe_cal c_seen_from hr (by decide) rfl (pa_cons (pv 1) pa_nil)))
      (pss_one (ps_ret (StX.pe_callO (pv 2) F.callB c_B_callR (hr.mono (by decide)) L2.pass0 (pa_cons (pe_op (op_xorIns c_S_xor F.selfS hr (by decide)) (pv 0) (pv 1)) pa_nil)))))), ?_⟩
  obtain ⟨⟨a, c, b, S, O⟩, B, hB, ⟨rfl, hs, ho, hok, hst⟩, q⟩ := h
  dsimp only at hs ho hok hst q
  obtain ⟨_, dx, g, m, h1, h2, h3⟩ := id hs
  obtain ⟨_, dy, g', m', k1, k2, k3⟩ := id ho
  refine s_skip hB (et_test (ev_neInsP (C := CB K) (R := RB K) (P1 := fun v B => ∃ g, v = .ref g ∧ BdAt K B g b) (P2 := fun v B => ∃ g, v = .ref g ∧ BdAt K B g b) (fun v H H' e ⟨g, hv, hb⟩ => ⟨g, hv, hb.up e⟩) ((evp_prop (⟨a, b, S⟩ : DS1) (ev_var rfl) h1 ⟨rfl, hs⟩).imp fun v B2 _ h => h) (fun B1 e1 => (evp_prop (⟨c, b, O⟩ : DS1) (ev_var rfl) (e1 _ _ k1) ⟨rfl, ho.up e1⟩).imp fun v B2 _ h => h) fun v u B1 H1 e1 ⟨g2, hv, hb⟩ ⟨g3, hu, hb3⟩ e2 => ?_)) fun H2 e2 => ?_
  · subst hv hu
    exact RB.di (hb.up e2) (hb3.up e2) rfl
  · refine q_asgP (hB.trans e2) (evp_call (⟨c, b, O⟩ : DS1) (ea_cons (ev_var rfl) ea_nil) ⟨rfl, ho, hok⟩) fun v B3 H3 g3 ⟨d, hv, hd⟩ => ?_
    subst hv
    dsimp only at hd
    obtain ⟨_, dz, _, _, _, _, _, hins, _⟩ := id hd
    have ho3 := ho.up g3.b
    have hs3 := hs.up g3.b
    refine s_retP g3.bh (P := fun v B => ∃ x, v = .ref x ∧ StAt K B x (b.seenF O) (b.seenS O S)) (evp_callO (ev_var rfl) hins (eap_cons (P := fun v B => ∃ t, v = .ref t ∧ SqT K B t ((b.xor S O).map V.str)) (fun _ _ _ e ⟨p, h, q⟩ => ⟨p, h, ex_t e q⟩) ((evp_xorIns (⟨a, c, b, S, O⟩ : DSS) (ev_var rfl) (ev_var rfl) (g3.b _ _ h1) (g3.b _ _ k1) ⟨rfl, hs3, ho3⟩).imp fun v B2 _ h => h) fun B4 _ => eap_nil) fun ws B4 e4 ⟨v1, vs1, hw1, ⟨t, hv1, ht⟩, hw2⟩ => ?_) fun v B5 H5 g5 h => q v B5 H5 (((Gr.ex hB e2).trans g3).trans g5) h
    subst hw1 hv1 hw2
    refine ⟨⟨d, b.seenF O, t, b.xor S O⟩, ⟨rfl, hd.up e4, sqs_t ht, fun x hx => ?_, hst⟩, fun v B2 e2 h => h⟩
    show x ∈ b.pegs
    exact (List.mem_filter.mp hx).1
end
end NP
end

section
set_option maxHeartbeats 4000000
namespace NP
open PySem PySem.Spec PyProof.Rows L2
theorem sw_par {x y : Str} {px py : Pos} {kt pt : _} {a b : Expr} {k2 p2 : _} {env : Env} (hk : env.scope.kind = .function) (hx : env.scope.names.lookup x = some .local) (hy : env.scope.names.lookup y = some .local) (hl : (py.line == px.line) = true)
    (he : ([x, y].eraseDups.length != 2) = false) (ha : ∀ v p, a ≠ .Starred v p) (hb' : ∀ v p, b ≠ .Starred v p) (h1 : ([a, b].all (foldedForSure 8)) = false) (h2 : ([a, b].all (constantsAlone 8)) = false) :
    swappedStores [.Tuple [.Name x px, .Name y py] kt pt] (.Tuple [a, b] k2 p2) env = pure (some [x, y]) := by
  have kx : env.kindOf x = some .local := hx
  have ky : env.kindOf y = some .local := hy
  have hb : env.blockKind = .function := by unfold Env.blockKind; rw [hk]; rfl
  unfold swappedStores
  simp only [hb, kx, ky, Expr.pos, hl, List.head?, Option.map, Option.getD, List.filterMap, beq_self_eq_true, Bool.and_true, if_pos, h1, h2]
  simp [he]
theorem sw_par3 {x y z : Str} {px py pz : Pos} {kt pt : _} {a b c : Expr} {k2 p2 : _} {env : Env} (hk : env.scope.kind = .function) (hx : env.scope.names.lookup x = some .local) (hy : env.scope.names.lookup y = some .local) (hz : env.scope.names.lookup z = some .local) (hl : (py.line == px.line) = true) (hl3 : (pz.line == px.line) = true)
    (he : ([x, y, z].eraseDups.length != 3) = false) (ha : ∀ v p, a ≠ .Starred v p) (hb' : ∀ v p, b ≠ .Starred v p) (hc' : ∀ v p, c ≠ .Starred v p) (h1 : ([a, b, c].all (foldedForSure 8)) = false) (h2 : ([a, b, c].all (constantsAlone 8)) = false) :
    swappedStores [.Tuple [.Name x px, .Name y py, .Name z pz] kt pt] (.Tuple [a, b, c] k2 p2) env = pure (some [x, y, z]) := by
  have kx : env.kindOf x = some .local := hx
  have ky : env.kindOf y = some .local := hy
  have kz : env.kindOf z = some .local := hz
  have hb : env.blockKind = .function := by unfold Env.blockKind; rw [hk]; rfl
  unfold swappedStores
  simp only [hb, kx, ky, kz, Expr.pos, hl, hl3, List.head?, Option.map, Option.getD, List.filterMap, beq_self_eq_true, Bool.and_true, if_pos, h1, h2]
  simp [he]
end NP
end

section
set_option maxHeartbeats 4000000
namespace NP
open PySem PySem.Spec PyProof.Rows L2 Evl LamX
section
variable {P : Program} {w : World} {K : PySem.W.Frag} {mg : Str → Option Value} {base : Heap}
/-- the rule of a def, its code object told -/
theorem okC {CX : CXT} {x qual : Str} {params : Arguments} {body : List Stmt} {scope : Scope} {dvs : List V} {kws : List (Str × V)} {p : Str × Option Str} {fd : FuncData} {N ps : List Str} {k : Nat} {sp : Sp} (F : FunD K x qual params body scope dvs kws (He.fAd K p) fd) (S : FnScope N ps scope) (len : ∀ vs H Q E, sp vs H Q E → vs.length = ps.length)
    (hbody : ∀ (A : Around) (outer : List Env) (s : Shared) (H : Hp) (vs : List V) (Q : VK) (E : XK), Room k (A.deeper (envOfC qual scope s.heap.objs.size (He.fAd K p) (.ref (He.codeOf K p)))) → sp vs H Q E →
      ∃ t, PSs (cxOf CX P w K mg base N qual scope (He.fAd K p) (.ref (He.codeOf K p)) A outer s H E) body t ∧ t { nx := fun _ H' => Q .non H', rt := Q } (start N vs) H) : FnOk P w K mg base CX (k + 1) (He.fAd K p) fd ps sp := by
  obtain ⟨oc, od, dV, kV, doc, pm, an, cdv, ct, osl, rfl, lk, hcd, _, _⟩ := F.ex
  obtain ⟨c, rfl⟩ := He.codeIn_ref hcd
  have e := He.codeOf_eq lk rfl
  exact fn_of lk hcd S len fun A outer s H vs Q E hr hsp => by
    have := hbody A outer s H vs Q E
    rw [e] at this
    exact this hr hsp
abbrev mrD : He.Defn := ("member_rows", none)
abbrev lamT (K : PySem.W.Frag) : List (Addr × Str) := [((He.cT K mrD).2, "member_rows.<locals>.<lambda>")]
theorem lam_mem {K : PySem.W.Frag} : ((He.cT K mrD).2, ("member_rows" ++ ".<locals>." : Str) ++ ("<lambda>" : Str)) ∈ lamT K := List.mem_singleton.mpr (congrArg (Prod.mk _) (by decide +kernel))
theorem lam_uniq {K : PySem.W.Frag} : ∀ q ∈ lamT K, q.1 = (He.cT K mrD).2 → q.2 = ("member_rows" ++ ".<locals>." : Str) ++ ("<lambda>" : Str) := fun q h _ => by
  rw [List.mem_singleton.mp h]
  show Str.ofString "member_rows.<locals>.<lambda>" = _
  decide +kernel
/-- tables told apart -/
def NT (B : Hp) : Prop := ∀ a ps, B a ≠ some (.tbl ps)
def cut (f : Addr) (B : Hp) : Hp := fun x => if x = f then none else match B x with | some (.tbl _) => none | o => o
theorem cut_le {f : Addr} {B : Hp} : Ex (cut f B) B := fun a o h => by
  unfold cut at h
  split at h
  · cases h
  · split at h
    · cases h
    · exact h
theorem cut_nt {f : Addr} {B : Hp} : NT (cut f B) := fun a ps h => by
  unfold cut at h
  split at h
  · cases h
  · split at h
    · cases h
    · rename_i hn
      exact hn _ h
theorem cut_at {f : Addr} {B : Hp} : cut f B f = none := by simp [cut]
theorem cut_get {f : Addr} {B : Hp} {a : Addr} {o : HO} (h : B a = some o) (hf : a ≠ f) (ho : ∀ ps, o ≠ .tbl ps) : cut f B a = some o := by
  unfold cut
  rw [if_neg hf, h]
  cases o <;> first | rfl | exact absurd rfl (ho _)
theorem cut_ex {f : Addr} {B0 B : Hp} (e : Ex B0 B) (n : NT B0) (hf : B0 f = none) : Ex B0 (cut f B) := fun a o h => cut_get (e a o h) (fun z => by rw [z, hf] at h; cases h) fun ps z => n a ps (by rw [h, z])
theorem cut_st {f : Addr} {B : Hp} {a : Addr} {xs ys : List V} (h : SqT K B a xs) (hf : B f = some (.lst ys)) : SqT K (cut f B) a xs := by
  rcases h with h | h
  · refine .inl ?_
    rcases h with h | ⟨o, h⟩
    · exact .inl (cut_get h (fun z => by rw [z, hf] at h; cases h) fun _ z => nomatch z)
    · exact .inr ⟨o, cut_get h (fun z => by rw [z, hf] at h; cases h) fun _ z => nomatch z⟩
  · exact .inr h
theorem nt_ext {B H H2 : Hp} (n : NT B) (e : Ex B H) (x : ExtN H H2) : Ex B H2 := fun a o h => x a o (e a o h) fun ps z => n a ps (by rw [h, z])
structure GrN (B H B2 H2 : Hp) : Prop where
  b : Ex B B2
  bh : Ex B2 H2
  h : ExtN H H2
def stepR2 (b : Bd) (rows : List (List Str)) (p : Str) : List (List Str) := rows ++ (rows.filter fun R => b.join p (b.row p) R).map fun R => R ++ [p]
def Bd.ord (b : Bd) : List Str := b.pegs.mergeSort fun x y => decide ((b.row x).length ≤ (b.row y).length)
def Bd.rowsAll (b : Bd) : List (List Str) := b.ord.foldl (stepR2 b) [[]]
theorem rows_len {b : Bd} : ∀ (l : List Str) (rows : List (List Str)), (l.foldl (stepR2 b) rows).length ≤ rows.length * 2 ^ l.length
  | [], rows => by simp
  | p :: l, rows => by
    have h2 := rows_len (b := b) l (stepR2 b rows p)
    have h1 : (stepR2 b rows p).length ≤ rows.length * 2 := by
      unfold stepR2
      rw [List.length_append, List.length_map]
      have := List.length_filter_le (fun R => b.join p (b.row p) R) rows
      omega
    rw [List.foldl_cons]
    refine Nat.le_trans h2 ?_
    rw [List.length_cons, Nat.pow_succ, Nat.mul_comm (2 ^ l.length) 2, ← Nat.mul_assoc]
    exact Nat.mul_le_mul_right _ h1
theorem rows_sub {b : Bd} {S : List Str} : ∀ (l : List Str) (rows : List (List Str)) (n : Nat), (∀ x ∈ l, x ∈ S) → (∀ R ∈ rows, (∀ x ∈ R, x ∈ S) ∧ R.length ≤ n) → ∀ R ∈ l.foldl (stepR2 b) rows, (∀ x ∈ R, x ∈ S) ∧ R.length ≤ n + l.length
  | [], rows, n, _, h => by simpa using h
  | p :: l, rows, n, hl, h => fun R hR => by
    rw [List.foldl_cons] at hR
    have := rows_sub l (stepR2 b rows p) (n + 1) (fun x hx => hl x (List.mem_cons_of_mem _ hx)) (fun R hR => ?_) R hR
    · rw [List.length_cons]
      exact ⟨this.1, by omega⟩
    · unfold stepR2 at hR
      rcases List.mem_append.mp hR with hR | hR
      · exact ⟨(h R hR).1, by have := (h R hR).2; omega⟩
      · obtain ⟨R0, hR0, rfl⟩ := List.mem_map.mp hR
        have h0 := h R0 (List.mem_filter.mp hR0).1
        refine ⟨fun x hx => ?_, by rw [List.length_append]; have := h0.2; simp; omega⟩
        rcases List.mem_append.mp hx with hx | hx
        · exact h0.1 x hx
        · rw [List.mem_singleton.mp hx]
          exact hl p List.mem_cons_self
theorem ord_mem {b : Bd} {p : Str} (h : p ∈ b.ord) : p ∈ b.pegs := (List.mergeSort_perm _ _).mem_iff.mp h
theorem ord_len {b : Bd} : b.ord.length = b.pegs.length := (List.mergeSort_perm _ _).length_eq
def kn (b : Bd) : V → Nat
  | .str p => (b.row p).length
  | _ => 0
def kd1 (b : Bd) : V → PyData := fun y => .int (kn b y : Int)
theorem kd1_ord {b : Bd} : (b.pegs.map V.str).mergeSort (PySem.W.dataLe false (kd1 b)) = b.ord.map V.str := by
  unfold Bd.ord
  refine (List.map_mergeSort fun x _ y _ => ?_).symm
  have e : PySem.W.dataLe false (kd1 b) = _ := PySem.W.dataLe_int (fun y : V => (kn b y : Int))
  rw [e]
  simp [kn]
def sp_member_rows (K : PySem.W.Frag) : Sp := fun vs H Q _ => ∃ a b B, vs = [.ref a] ∧ Ex B H ∧ NT B ∧ Tabs (lamT K) H ∧ BdAt K B a b ∧ ∀ v B' H', GrN B H B' H' → Tabs (lamT K) H' → (∃ l ys, v = .ref l ∧ B' l = some (.lst ys) ∧ ys.length = b.rowsAll.length) → Q v H'
theorem q_asgGP {σ : L2.St} {B H : Hp} {te : TE} {tz : TS} {D : Ends} {P : V → Hp → Prop} {g : TG} (hB : Ex B H) (h : EvP te σ B P) (k : ∀ v B2 H2, Gr B H B2 H2 → P v B2 → g v σ H2 (tz D)) : tSeq (tAsg te g) tz D σ H := h H hB _ k
def del (f : Addr) (B : Hp) : Hp := fun x => if x = f then none else B x
theorem del_le {f : Addr} {B : Hp} : Ex (del f B) B := fun a o h => by
  unfold del at h
  split at h
  · cases h
  · exact h
theorem del_at {f : Addr} {B : Hp} : del f B f = none := by simp [del]
theorem del_ex {f : Addr} {B0 B : Hp} (e : Ex B0 B) (hf : B0 f = none) : Ex B0 (del f B) := fun a o h => by
  have : a ≠ f := fun z => by rw [z, hf] at h; cases h
  unfold del
  rw [if_neg this]
  exact e a o h
theorem del_mut {f : Addr} {B H : Hp} {o : HO} (e : Ex B H) : Ex (del f B) (upd H f o) := fun a u h => by
  have : a ≠ f := fun z => by rw [z, del_at] at h; cases h
  rw [upd_ne this]
  exact e a u (del_le a u h)
theorem del_st {f : Addr} {B : Hp} {a : Addr} {xs ys : List V} (h : SqT K B a xs) (hf : B f = some (.lst ys)) : SqT K (del f B) a xs := by
  rcases h with h | h
  · refine .inl ?_
    have g : ∀ o : HO, B a = some o → (∀ zs, o ≠ .lst zs) → del f B a = some o := fun o h n => by
      have : a ≠ f := fun z => by rw [z, hf] at h; exact n ys (Option.some.inj h).symm
      unfold del
      rw [if_neg this]
      exact h
    rcases h with h | ⟨o, h⟩
    · exact .inl (g _ h fun _ z => nomatch z)
    · exact .inr ⟨o, g _ h fun _ z => nomatch z⟩
  · exact .inr h
theorem tabs_mut {T : List (Addr × Str)} {H : Hp} {f : Addr} {xs ys : List V} (h : Tabs T H) (hf : H f = some (.lst xs)) : Tabs T (upd H f (.lst ys)) := fun p hp => by
  obtain ⟨ps, h1, h2, h3⟩ := h p hp
  refine ⟨ps, by rw [upd_ne (fun z => by rw [z, hf] at h1; cases h1)]; exact h1, h2, fun pos cv hc => ?_⟩
  obtain ⟨c, e1, e2⟩ := h3 pos cv hc
  exact ⟨c, e1, by rw [upd_ne (fun z => by rw [z, hf] at e2; cases e2)]; exact e2⟩
def RowP (K : PySem.W.Frag) (B : Hp) (R : List Str) (v : V) : Prop := ∃ t, v = .ref t ∧ SqT K B t (R.map V.str)
def IntsP (B : Hp) (n : Nat) (v : V) : Prop := ∃ (t : Addr) (is : List Int), v = .ref t ∧ B t = some (.tup (is.map V.int)) ∧ is.length ≤ n ∧ ∀ z ∈ is, 0 ≤ z ∧ z < n
theorem evp_catT {σ : L2.St} {B : Hp} {ta tb : TE} {xs ys : List V} (ha : EvP ta σ B fun v B2 => ∃ p, v = .ref p ∧ SqT K B2 p xs) (hb : ∀ B1, Ex B B1 → EvP tb σ B1 fun v B2 => ∃ p, v = .ref p ∧ SqT K B2 p ys) (hz : xs.length + ys.length ≤ 1000) : EvP (tOp (rCatA K) ta tb) σ B fun v B2 => ∃ p, v = .ref p ∧ SqT K B2 p (xs ++ ys) :=
  evp_op (fun _ _ _ e ⟨p, h, q⟩ => ⟨p, h, ex_t e q⟩) ha hb fun x y B1 H1 e ⟨p, hx, hp⟩ ⟨q, hy, hq⟩ e1 Q k => by
    subst hx hy
    refine ⟨p, q, xs, ys, rfl, rfl, ex_t e1 hp, ex_t e1 hq, sz_of (Nat.le_trans hz (by decide)), fun z => ?_, fun _ z => ?_, fun _ _ t ht => ?_⟩
    · subst z
      exact k _ B1 H1 (Gr.refl e1) ⟨q, rfl, hq⟩
    · subst z
      exact k _ B1 H1 (Gr.refl e1) ⟨p, rfl, by rw [List.append_nil]; exact hp⟩
    · exact k _ _ _ ((Gr.refl e1).new ht) ⟨t, rfl, st_of upd_same⟩
/-- the key of a row of places: its length, itself -/
def intsOf (B : Hp) : V → List Int
  | .ref t => match B t with
    | some (.tup xs) => xs.map fun v => match v with | .int i => i | _ => 0
    | _ => []
  | _ => []
def kd2 (B : Hp) (y : V) : PyData := .tuple [.int ((intsOf B y).length : Nat), .tuple ((intsOf B y).map .int)]
theorem lc_N {σ : L2.St} {H : Hp} {Q : VK} {wi : TI} {g : TG} {tt : TT} {te : TE} {vs : List Nat} (hi : wi σ H fun J H2 => tLc (fun _ H R => R J H) g tt te vs σ H2 Q) : tLc wi g tt te vs σ H Q := hi
theorem evp_tupE {σ : L2.St} {B : Hp} {te : TE} {P : List V → Hp → Prop} (h : EvP te σ B fun v B2 => ∃ p ys, v = .ref p ∧ B2 p = some (.lst ys) ∧ P ys B2) : EvP (tCB (rTupOf K) (tCons te tNil)) σ B fun _ _ => True := fun H1 e Q q =>
  h H1 e _ fun v B2 H2 g ⟨p, ys, hv, hp, _⟩ => by
    subst hv
    exact ⟨p, ys, rfl, .inl ⟨sq_of (g.bh _ _ hp), fun l hl => q _ _ _ (g.new hl) trivial⟩⟩
theorem q_forN {σ : L2.St} {H : Hp} {wi : TI} {g : TG} {t tz : TS} {D : Ends} (hi : wi σ H fun J H2 => tSeq (tFor (fun _ H R => R J H) g t) tz D σ H2) : tSeq (tFor wi g t) tz D σ H := hi
theorem il_sorted {T : List (Addr × Str)} {te tb : TE} {σ : L2.St} {C H : Hp} {o : Addr} {ys : List V} {kd : V → PyData} {R : It → Hp → Prop} (hCH : Ex C H) (nC : NT C) (h : Evl.Ev te σ C (.ref o)) (hs : SqS K C o ys) (hT : Tabs T H) (hal : PySem.W.AllAlike (ys.map kd)) (hsk : PySem.W.Sortable (ys.map kd)) (hdep : ∀ y ∈ ys, (kd y).depth ≤ 20)
    (hlam : ∀ y ∈ ys, ∀ H4, Ex C H4 → tb (some y :: σ) H4 fun kv H5 => Ext H4 H5 ∧ Dp K H5 kv (kd y)) (k : ∀ q H4, ExtN H H4 → Tabs T H4 → Ex C H4 → H4 q = none → R (Itl K q) (upd H4 q (.lst (ys.mergeSort (PySem.W.dataLe false kd))))) : iList K (tSortedLam K T te tb) σ H R :=
  h H hCH _ fun H3 e3 => ⟨hT.ext e3, o, ys, rfl, hs.ex (hCH.trans e3), kd, hal, hsk, hdep, fun y hy H4 e4 => hlam y hy H4 (nt_ext nC (hCH.trans e3) e4), fun q H4 e4 hT4 hq => ⟨q, rfl, ⟨_, sq_of upd_same⟩, k q H4 ((ExtN.of e3).trans e4) hT4 (nt_ext nC (hCH.trans e3) e4) hq⟩⟩
theorem evp_lstF {σ : L2.St} {B : Hp} {t : TA} {R : List V → Hp → Prop} (h : EaP t σ B R) (hz : ∀ vs H1, R vs H1 → vs.length ≤ 1000) (hR : MonL R) : EvP (tLst t) σ B fun v B2 => ∃ p vs, v = .ref p ∧ B p = none ∧ B2 p = some (.lst vs) ∧ R vs B2 := fun H1 e Q q =>
  h H1 e _ fun vs B2 H2 g r => ⟨sz_of (Nat.le_trans (hz vs B2 r) (by decide)), fun p hp => q _ _ _ (g.new hp) ⟨p, vs, rfl, fresh_back (g.b.trans g.bh) hp, upd_same, hR vs _ _ (Ex.new (fresh_back g.bh hp)) r⟩⟩
theorem ev_lenT {σ : L2.St} {B : Hp} {te : TE} {n : Nat} (h : EvP te σ B fun v B2 => ∃ p xs, v = .ref p ∧ SqT K B2 p xs ∧ xs.length = n) : Ev (tCB (rLn K) (tCons te tNil)) σ B (.int (n : Int)) := fun H1 e Q q =>
  h H1 e _ fun v B2 H2 g ⟨p, xs, hv, hs, hn⟩ => by
    subst hv hn
    exact ⟨.ref p, xs.length, rfl, .inr ⟨xs, ex_t g.bh hs, rfl⟩, q H2 g.h⟩
theorem c_member_rows (F : Facts K mg) (TB : TabB base mg (He.cT K mrD).1 (He.cT K mrD).2) : Cal P w K mg base 7 "member_rows" ["board"] (sp_member_rows K) := by
  obtain ⟨fd, D⟩ := F.d_member_rows
  have c_B_pegs := c_B_pegs (P := P) (w := w) (base := base) F
  have c_B_below := c_B_below (P := P) (w := w) (base := base) F
  have c_can_join := c_can_join (P := P) (w := w) (base := base) F
  refine ⟨_, fd, okC D sc_member_rows (fun vs H Q E ⟨a, b, B, e, _⟩ => by rw [e]; rfl) (fun A outer s H vs Q E hr h => ⟨_, PSs.nox (pss_cons (ps_asg (pe_tup (pa_cons (pe_calG c_B_pegs (pv 0) F.clsB hr (by decide)) (pa_cons (pe_lst (pa_cons (pe_tup pa_nil) pa_nil)) pa_nil))) (pg_tup_k (K := K) (n := 2) rfl rfl (pgs_cons (pg_name (i := 1) sc_member_rows.nd rfl (by first | exact .inl rfl | exact .inr rfl)) (pgs_cons (pg_name (i := 2) sc_member_rows.nd rfl (by first | exact .inl rfl | exact .inr rfl)) pgs_nil))))
      (pss_cons (ps_for PassesOwn.never rfl (pi_list_k (K := K) rfl (pe_sortedLam (k := 3) (T := lamT K) (c := (He.cT K mrD).1) (P := (He.cT K mrD).2) (p := "own") (pv 1) rfl F.f_sorted TB rfl lam_mem lam_uniq (lamP_by (sc := defScope s_member_rows) (p := "own") (by decide +kernel)) rfl (fun _ _ _ _ _ _ => rfl) (show ("own" : Str) ∉ N_member_rows by decide) (hr.mono (by decide)) (fun _ _ _ _ hr => (pe_callB (call_len_k (K := K) rfl) rfl F.f_len (by decide +kernel) (pa_cons (pe_calM c_B_below (pv 1) F.clsB hr (by decide) (pa_cons (pv 0) pa_nil)) pa_nil))))) (pg_name (i := 3) sc_member_rows.nd rfl (by first | exact .inl rfl | exact .inr rfl)) (pss_cons (ps_set (i := 4) sc_member_rows.nd rfl (by first | exact .inl rfl | exact .inr rfl) (pe_calM c_B_below (pv 0) F.clsB hr (by decide) (pa_cons (pv 3) pa_nil)))
      (pss_one (ps_expr (pe_bm_k (K := K) rfl PySem.F.plainAttrs_list PySem.F.slot_list_extend PySem.F.type_list_extend mt_extend (pv 2) (pa_cons (pe_lc rfl sc_member_rows.nd (pi_list_k (K := K) rfl (pv 2)) (blkOk_by (own := [("row", 6)]) (N := N_member_rows) (sc := defScope s_member_rows) (by decide +kernel)) (fun _ _ _ _ _ => (pg_name (i := 6) sc_member_rows.nd rfl (by first | exact .inl rfl | exact .inr rfl))) (fun _ _ _ _ _ => (pts_one (pt_val (pe_cal c_can_join hr (by decide) rfl (pa_cons (pv 0) (pa_cons (pv 3) (pa_cons (pv 4) (pa_cons (pv 6) pa_nil)))))))) (fun _ _ _ _ _ => (pe_op (op_catA_k (K := K) rfl) (pv 6) (pe_tup (pa_cons (pv 3) pa_nil))))) pa_nil))))))
      (pss_cons (ps_set (i := 5) sc_member_rows.nd rfl (by first | exact .inl rfl | exact .inr rfl) (pe_lst pa_nil))
      (pss_cons (ps_for PassesOwn.never rfl (pi_list_k (K := K) rfl (pv 2)) (pg_name (i := 6) sc_member_rows.nd rfl (by first | exact .inl rfl | exact .inr rfl)) (pss_one (ps_expr (pe_bm_k (K := K) rfl PySem.F.plainAttrs_list PySem.F.slot_list_append PySem.F.type_list_append mt_append (pv 5) (pa_cons (pe_callTy (call_tuple_of_k (K := K) rfl) rfl F.f_tuple (by decide +kernel) (pa_cons (pe_lc rfl sc_member_rows.nd (pi_enumT_k (K := K) rfl rfl F.f_enumerate (pa_cons (pv 1) pa_nil)) (blkOk_by (own := [("at", 7), ("peg", 3)]) (N := N_member_rows) (sc := defScope s_member_rows) (by decide +kernel)) (fun _ _ _ _ _ => (pg_tup_k (K := K) (n := 2) rfl rfl (pgs_cons (pg_name (i := 7) sc_member_rows.nd rfl (by first | exact .inl rfl | exact .inr rfl)) (pgs_cons (pg_name (i := 3) sc_member_rows.nd rfl (by first | exact .inl rfl | exact .inr rfl)) pgs_nil)))) (fun _ _ _ _ _ => (pts_one (pt_cmpR (op_in_seq_k (K := K) rfl) (pv 3) (pv 6) rfl))) (fun _ _ _ _ _ => (pv 7))) pa_nil)) pa_nil)))))
      (pss_one (ps_ret (pe_lc rfl sc_member_rows.nd (pi_list_k (K := K) rfl (pe_sortedLam (k := 3) (T := lamT K) (c := (He.cT K mrD).1) (P := (He.cT K mrD).2) (p := "own") (pv 5) rfl F.f_sorted TB rfl lam_mem lam_uniq (lamP_by (sc := defScope s_member_rows) (p := "own") (by decide +kernel)) rfl (fun _ _ _ _ _ _ => rfl) (show ("own" : Str) ∉ N_member_rows by decide) (hr.mono (by decide)) (fun _ _ _ _ hr => (pe_tup (pa_cons (pe_callB (call_len_k (K := K) rfl) rfl F.f_len (by decide +kernel) (pa_cons (pv 0) pa_nil)) (pa_cons (pv 0) pa_nil)))))) (blkOk_by (own := [("row", 6)]) (N := N_member_rows) (sc := defScope s_member_rows) (by decide +kernel)) (fun _ _ _ _ _ => (pg_name (i := 6) sc_member_rows.nd rfl (by first | exact .inl rfl | exact .inr rfl))) (fun _ _ _ _ _ => pts_nil) (fun _ _ _ _ _ => (pe_callTy (call_tuple_of_k (K := K) rfl) rfl F.f_tuple (by decide +kernel) (pa_cons (pe_lc rfl sc_member_rows.nd (pi_tup_k (K := K) rfl (pv 6)) (blkOk_by (own := [("at", 7)]) (by first | rfl | kernel_rfl)) (fun _ _ _ _ _ => (pg_name (i := 7) sc_member_rows.nd rfl (by first | exact .inl rfl | exact .inr rfl))) (fun _ _ _ _ _ => pts_nil) (fun _ _ _ _ _ => (pe_ix (ix_tup_k (K := K) rfl) (pv 1) (pv 7) (fun _ _ => rfl)))) pa_nil)))))))))), ?_⟩), F.g_member_rows, D.kp, D.bindsN (fun _ _ _ _ _ _ us hl => match us, hl with | [_], _ => rfl)⟩
  obtain ⟨a, b, B0, rfl, hB0, hNT, hT, hb, q⟩ := h
  have hb0 := hb
  replace hb := hb.up hB0
  have hB : Ex H H := Ex.refl H
  have hbl := hb.ok.most
  obtain ⟨_, dx, _, _, _, _, _, hins, _⟩ := id hb
  have hP1 : EvP (tTup (tCons (tProp (CB K) (sp_Bpegs K) [] L2.E0 (tVar 0)) (tCons (tLst (tCons (tTup tNil) tNil)) tNil))) (L2.start N_member_rows [.ref a]) H fun v B2 => ∃ t o f e, v = .ref t ∧ B2 t = some (.tup [.ref o, .ref f]) ∧ SqT K B2 o (b.pegs.map V.str) ∧ H f = none ∧ B2 f = some (.lst [.ref e]) ∧ B2 e = some (.tup []) := by
    refine (evp_tup (eap_cons (P := fun v B => ∃ o, v = .ref o ∧ SqT K B o (b.pegs.map V.str)) (fun _ _ _ e ⟨p, h, q⟩ => ⟨p, h, ex_t e q⟩) ((evp_prop (a, b) (ev_var rfl) hins ⟨rfl, hb⟩).imp fun v B2 _ h => h) fun B1 e1 => eap_cons (P := fun v B2 => ∃ f e, v = .ref f ∧ H f = none ∧ B2 f = some (.lst [.ref e]) ∧ B2 e = some (.tup [])) (fun _ _ _ e ⟨f, t, h1, h2, h3, h4⟩ => ⟨f, t, h1, h2, e _ _ h3, e _ _ h4⟩) ?_ fun _ _ => eap_nil) ?_ ?_).imp fun v B2 _ ⟨t, vs, hv, ht, v1, vs1, e1, ⟨o, hv1, ho⟩, v2, vs2, e2, ⟨f, e, hv2, hf0, hf, he⟩, e3⟩ => ?_
    · refine (evp_lstF (eap_cons (P := fun v B => ∃ p, v = .ref p ∧ B p = some (.tup [])) mon_tup (eu_p (eu_tup ea_nil (by decide))) fun B6 _ => eap_nil) ?_ ?_).imp fun v B2 e2 ⟨f, vs, hv, hf0, hf, v1, vs1, e1', ⟨e, hv1, he⟩, e3⟩ => ?_
      · rintro vs H1 ⟨v, vs1, rfl, _, rfl⟩
        show 1 ≤ 1000
        decide
      · rintro vs H1 H2 e ⟨v, vs1, h1, ⟨p, h2, h3⟩, h4⟩
        exact ⟨v, vs1, h1, ⟨p, h2, e _ _ h3⟩, h4⟩
      · subst e1' hv1 e3
        exact ⟨f, e, hv, fresh_back e1 hf0, hf, he⟩
    · rintro vs H1 ⟨v, vs1, rfl, _, v2, vs2, rfl, _, rfl⟩
      show 2 ≤ 1000
      decide
    · rintro vs H1 H2 e ⟨v, vs1, h1, ⟨p, h2, h3⟩, v2, vs2, h4, ⟨f, t, h5, h6, h7, h8⟩, h9⟩
      exact ⟨v, vs1, h1, ⟨p, h2, ex_t e h3⟩, v2, vs2, h4, ⟨f, t, h5, h6, e _ _ h7, e _ _ h8⟩, h9⟩
    · subst e1 hv1 e2 hv2 e3
      exact ⟨t, o, f, e, hv, ht, ho, hf0, hf, he⟩
  refine q_asgGP hB hP1 fun v B2 H2 g2 ⟨t, o, f, e, hv, ht, ho, hf0, hf, he⟩ => ?_
  subst hv
  refine ⟨t, _, rfl, st_of (g2.bh _ _ ht), rfl, _, _, rfl, _, _, rfl, rfl, ?_⟩
  have hBC : Ex B0 (cut f B2) := cut_ex (hB0.trans g2.b) hNT (fresh_back hB0 hf0)
  have hHC : ExtN H (cut f B2) := fun x u h n => cut_get (g2.b _ _ h) (fun z => by rw [z, hf0] at h; cases h) n
  have hCo : SqT K (cut f B2) o (b.pegs.map V.str) := cut_st ho hf
  have hCe : cut f B2 e = some (.tup []) := cut_get he (fun z => by rw [z, hf] at he; cases he) fun _ z => nomatch z
  have hCH : Ex (cut f B2) H2 := cut_le.trans g2.bh
  have hCn : NT (cut f B2) := cut_nt
  have hCf : cut f B2 f = none := cut_at
  have hHf := g2.bh _ _ hf
  have hxN : ExtN H H2 := ExtN.of g2.h
  have hT2 : Tabs (lamT K) H2 := hT.ext g2.h
  clear ht ho hf he
  generalize cut f B2 = C at hBC hCo hCe hCH hCn hCf hHC
  have hbC := hb0.up hBC
  obtain ⟨_, dxC, _, _, _, _, _, hinsC, _⟩ := id hbC
  refine q_forN (il_sorted (kd := kd1 b) (ys := b.pegs.map V.str) hCH hCn (ev_var rfl) (sqs_t hCo) hT2 (PySem.W.AllAlike.of fun _ _ => rfl) (PySem.W.Sortable.others fun _ => ⟨fun z => (nomatch z), fun _ z => (nomatch z)⟩) (fun y _ => by show 0 ≤ 20; decide) (fun y hy H4 hC4 => ?_) fun s H4 e4 hT4 hC4 hs4 => ?_)
  · obtain ⟨p, hp, rfl⟩ := List.mem_map.mp hy
    exact ev_lenT (K := K) (n := (b.row p).length) (te := tMeth (CB K) "below" (sp_below K) [] L2.E0 (tVar 1) (tCons (tVar 0) tNil)) (σ := some (.str p) :: [some (.ref a), some (.ref o), some (.ref f), none, none, none, none, none]) (B := C) ((evp_meth (⟨a, b, p⟩ : DB1) (ev_var rfl) hinsC rfl (ea_cons (ev_var rfl) ea_nil) ⟨rfl, hbC, hp⟩).imp fun v B2 _ ⟨q, hv, hs⟩ => ⟨q, _, hv, hs, by rw [List.length_map]⟩) H4 hC4 _ fun H5 e5 => ⟨e5, .int _⟩
  rw [kd1_ord]
  have hsC : C s = none := fresh_back hC4 hs4
  have hH4f : H4 f = some (.lst [.ref e]) := e4 _ _ hHf fun _ z => nomatch z
  have hfs : f ≠ s := fun z => by rw [z, hs4] at hH4f; cases hH4f
  have e1 : Ex C (upd C s (.lst (b.ord.map V.str))) := Ex.new hsC
  have hC1f : upd C s (.lst (b.ord.map V.str)) f = none := by rw [upd_ne hfs]; exact hCf
  have hC1H : Ex (upd C s (.lst (b.ord.map V.str))) (upd H4 s (.lst (b.ord.map V.str))) := fun x u h => by
    by_cases z : x = s
    · subst z; rw [upd_same] at h ⊢; exact h
    · rw [upd_ne z] at h ⊢; exact hC4 _ _ h
  have hs1 : SqL K (upd C s (.lst (b.ord.map V.str))) s (b.ord.map V.str) := sq_of upd_same
  have hT5 : Tabs (lamT K) (upd H4 s (.lst (b.ord.map V.str))) := hT4.ext (Ex.new hs4)
  have hH5f : upd H4 s (.lst (b.ord.map V.str)) f = some (.lst [.ref e]) := by rw [upd_ne hfs]; exact hH4f
  clear hHf hT2 hH4f hs4 hC4 hT4 hCH e4
  generalize upd H4 s (.lst (b.ord.map V.str)) = H5 at hC1H hT5 hH5f ⊢
  generalize upd C s (.lst (b.ord.map V.str)) = C1 at e1 hC1f hC1H hs1
  have hwo := walk_L hs1
  rw [List.length_map] at hwo
  have hordl := ord_len (b := b)
  refine q_for (wi := fun _ H R => R (Itl K s) H) hC1H ei_at hwo (fun i σ' H' => ∃ Bi s3 s4 ys, σ' = [some (.ref a), some (.ref o), some (.ref f), s3, s4, none, none, none] ∧ Ex C1 Bi ∧ Ex Bi H' ∧ Bi f = none ∧ H' f = some (.lst ys) ∧ Tabs (lamT K) H' ∧ Paired (RowP K Bi) ((b.ord.take i).foldl (stepR2 b) [[]]) ys)
    (fun H6 e6 => ⟨C1, none, none, [.ref e], rfl, Ex.refl _, hC1H.trans e6, hC1f, e6 _ _ hH5f, hT5.ext e6, .cons ⟨e, rfl, st_of (e1 _ _ hCe)⟩ .nil⟩) (fun i σ' H' _ ⟨Bi, _, _, _, _, g1, g2, _⟩ => g1.trans g2) (fun i x σ' H' H'' hlt ⟨Bi, s3, s4, ys, hσ, g1, g2, hBf, hHf, hTi, hys⟩ y => ?_) fun σ' H' ⟨Bi, s3, s4, ys, hσ, g1, g2, hBf, hHf, hTi, hys⟩ => ?_
  · subst hσ
    obtain ⟨rfl, hx⟩ := y
    rw [List.getElem?_map, List.getElem?_eq_getElem hlt] at hx
    cases hx
    have hpm : b.ord[i] ∈ b.pegs := ord_mem (List.getElem_mem hlt)
    have hbi := hbC.up (e1.trans g1)
    have hinsi := g1 _ _ (e1 _ _ hinsC)
    refine q_asgP g2 (evp_meth (⟨a, b, b.ord[i]⟩ : DB1) (ev_var rfl) hinsi rfl (ea_cons (ev_var rfl) ea_nil) ⟨rfl, hbi, hpm⟩) fun v B5 H5' g5 ⟨t, hv, ht⟩ => ?_
    subst hv
    have hB5f : B5 f = none := g5.av f (by rw [hHf]; simp) hBf
    have hH5f' : H5' f = some (.lst ys) := g5.h _ _ hHf
    refine ⟨.ref f, rfl, .inl ⟨rfl, _, sq_of hH5f'⟩, ?_⟩
    have eBf : Ex B5 (upd B5 f (.lst ys)) := Ex.new hB5f
    have eBfH : Ex (upd B5 f (.lst ys)) H5' := fun x u h => by
      by_cases z : x = f
      · subst z; rw [upd_same] at h; rw [hH5f']; exact h
      · rw [upd_ne z] at h; exact g5.bh _ _ h
    have hlen : ((b.ord.take i).foldl (stepR2 b) [[]]).length ≤ 4096 := by
      refine Nat.le_trans (rows_len (b := b) (b.ord.take i) [[]]) ?_
      have : (b.ord.take i).length ≤ 12 := by rw [List.length_take]; omega
      have := Nat.pow_le_pow_right (n := 2) (by decide) this
      simpa using this
    have hsub := rows_sub (b := b) (S := b.pegs) (b.ord.take i) [[]] 0 (fun x hx => ord_mem (List.mem_of_mem_take hx)) (by simp)
    have hord12 : (b.ord.take i).length ≤ 12 := by rw [List.length_take]; omega
    have hys' : Paired (RowP K (upd B5 f (.lst ys))) ((b.ord.take i).foldl (stepR2 b) [[]]) ys := paired_imp (fun _ _ ⟨t, h1, h2⟩ => ⟨t, h1, ex_t (g5.b.trans eBf) h2⟩) hys
    obtain ⟨z, hz1, hz2, hz3⟩ := paired_zip hys'
    generalize hrows : (b.ord.take i).foldl (stepR2 b) [[]] = rows at hlen hsub hz1 hys hys'
    have hzl : z.length ≤ 4096 := by
      have : z.length = rows.length := by rw [← hz1, List.length_map]
      omega
    have hwz := walk_L (K := K) (B := upd B5 f (.lst ys)) (a := f) (xs := ys) (sq_of upd_same)
    rw [← hz2, List.length_map] at hwz
    have hb6 := hbi.up (g5.b.trans eBf)
    have hlc : EvP (tLc (iList K (tVar 2)) (gName 6) (tB (tCall (sp_can_join K) [] L2.E0 (tCons (tVar 0) (tCons (tVar 3) (tCons (tVar 4) (tCons (tVar 6) tNil)))))) (tOp (rCatA K) (tVar 6) (tTup (tCons (tVar 3) tNil))) [6]) [some (.ref a), some (.ref o), some (.ref f), some (.str b.ord[i]), some (.ref t), none, none, none] (upd B5 f (.lst ys)) (fun v B2 => ∃ p zs, v = .ref p ∧ B2 p = some (.lst zs) ∧ Paired (fun c v => RowP K B2 (c.1 ++ [b.ord[i]]) v) (z.filter fun c => b.join b.ord[i] (b.row b.ord[i]) c.1) zs) := by
      refine evp_lc (l := z) (q := fun c => b.join b.ord[i] (b.row b.ord[i]) c.1) (P := fun c v B2 => RowP K B2 (c.1 ++ [b.ord[i]]) v) (st := fun c => [some (.ref a), some (.ref o), some (.ref f), some (.str b.ord[i]), some (.ref t), none, some c.2, none]) (by omega) (ei_list (te := tVar 2) (ev_var rfl) (sq_of (by rw [← hz2]; exact upd_same))) hwz (fun _ e => by rw [hz2]; exact e) (bnd_map (f := fun c : List Str × V => c.2)) (fun _ _ => rfl) (fun c hc => ?_) (fun c _ v H H' e ⟨t, h1, h2⟩ => ⟨t, h1, ex_t e h2⟩) fun c hc _ => ?_
      · obtain ⟨t2, hv2, ht2⟩ := hz3 c hc
        have hcm : c.1 ∈ rows := by rw [← hz1]; exact List.mem_map.mpr ⟨c, hc, rfl⟩
        have hs2 := hsub c.1 hcm
        have hrl : (b.row b.ord[i]).length ≤ 1000 := by
          have := List.length_filter_le (fun q => b.le b.ord[i] q) b.pegs
          unfold Bd.row
          omega
        show EvT _ [some (.ref a), some (.ref o), some (.ref f), some (.str b.ord[i]), some (.ref t), none, some c.2, none] _ _
        rw [hv2]
        exact et_B (evp_call (⟨a, b, b.ord[i], t, b.row b.ord[i], t2, c.1⟩ : DJoin) (ea_cons (ev_var rfl) (ea_cons (ev_var rfl) (ea_cons (ev_var rfl) (ea_cons (ev_var rfl) ea_nil)))) ⟨rfl, hb6, hpm, ex_t eBf ht, ht2, hs2.1, hrl, by show c.1.length ≤ 1000; have := hs2.2; omega⟩).v
      · obtain ⟨t2, hv2, ht2⟩ := hz3 c hc
        have hcm : c.1 ∈ rows := by rw [← hz1]; exact List.mem_map.mpr ⟨c, hc, rfl⟩
        have hs2 := hsub c.1 hcm
        show EvP _ [some (.ref a), some (.ref o), some (.ref f), some (.str b.ord[i]), some (.ref t), none, some c.2, none] _ _
        rw [hv2]
        refine (evp_catT (xs := c.1.map V.str) (ys := [.str b.ord[i]]) ((ev_p (ev_var rfl)).imp fun v B2 e hv => ⟨t2, hv, ex_t e ht2⟩) (fun B1 _ => (eu_p (eu_tup (ea_cons (ev_var rfl) ea_nil) (by show 1 ≤ 100000; decide))).imp fun v B2 _ ⟨p, hv, hp⟩ => ⟨p, hv, st_of hp⟩) (by rw [List.length_map]; have := hs2.2; show _ + 1 ≤ 1000; omega)).imp fun v B2 _ ⟨p, hv, hp⟩ => ⟨p, hv, by rw [List.map_append]; exact hp⟩
    refine hlc _ eBfH _ fun v B6 H6 g6 ⟨p, zs, hv, hp, hzs⟩ => ?_
    subst hv
    have hB6f : B6 f = some (.lst ys) := g6.b _ _ upd_same
    have hH6f : H6 f = some (.lst ys) := g6.bh _ _ hB6f
    have hzz : zs.length ≤ 4096 := by
      rw [← paired_len hzs]
      exact Nat.le_trans (List.length_filter_le _ _) hzl
    have hyl : ys.length ≤ 4096 := by
      rw [← paired_len hys]
      exact hlen
    refine ⟨f, p, ys, zs, rfl, rfl, hH6f, g6.bh _ _ hp, sz_of (by omega), ?_⟩
    refine ⟨del f B6, _, _, ys ++ zs, rfl, del_ex (g1.trans (g5.b.trans (eBf.trans g6.b))) hC1f, del_mut g6.bh, del_at, upd_same, tabs_mut ((hTi.ext g5.h).ext g6.h) hH6f, ?_⟩
    have est : (b.ord.take (i + 1)).foldl (stepR2 b) [[]] = rows ++ (rows.filter fun R => b.join b.ord[i] (b.row b.ord[i]) R).map fun R => R ++ [b.ord[i]] := by
      rw [List.take_succ_eq_append_getElem hlt, List.foldl_append, hrows]
      rfl
    rw [est]
    refine paired_app (paired_imp (fun _ _ ⟨t, h1, h2⟩ => ⟨t, h1, del_st (ex_t (g5.b.trans (eBf.trans g6.b)) h2) hB6f⟩) hys) ?_
    rw [← hz1, List.filter_map, List.map_map]
    exact paired_map_l (paired_imp (fun _ _ ⟨t, h1, h2⟩ => ⟨t, h1, del_st h2 hB6f⟩) hzs)
  · rw [List.take_length] at hys
    subst hσ
    change Paired (RowP K Bi) b.rowsAll ys at hys
    have hCi := e1.trans g1
    have hCfB : Ex Bi (upd Bi f (.lst ys)) := Ex.new hBf
    have hBH : Ex (upd Bi f (.lst ys)) H' := fun x u h => by
      by_cases z : x = f
      · subst z; rw [upd_same] at h; rw [hHf]; exact h
      · rw [upd_ne z] at h; exact g2 _ _ h
    have hBf2 : upd Bi f (.lst ys) f = some (.lst ys) := upd_same
    have hys2 : Paired (RowP K (upd Bi f (.lst ys))) b.rowsAll ys := paired_imp (fun _ _ ⟨t, h1, h2⟩ => ⟨t, h1, ex_t hCfB h2⟩) hys
    have hCB := hCi.trans hCfB
    have hyl : ys.length = b.rowsAll.length := (paired_len hys).symm
    have hlen : b.rowsAll.length ≤ 4096 := by
      refine Nat.le_trans (rows_len (b := b) b.ord [[]]) ?_
      have : b.ord.length ≤ 12 := by omega
      have := Nat.pow_le_pow_right (n := 2) (by decide) this
      simpa using this
    generalize upd Bi f (.lst ys) = B5 at hCfB hBH hBf2 hys2 hCB
    refine q_asgL (el_lst ea_nil (by decide)) fun f2 H6 hf2 e6 hf26 => ?_
    have hB5f2 : B5 f2 = none := fresh_back hBH hf2
    have hwy := walk_L (K := K) (B := B5) (a := f) (xs := ys) (sq_of hBf2)
    refine q_for (hBH.trans e6) (ei_list (te := tVar 2) (ev_var rfl) (sq_of hBf2)) hwy (fun i σ' H' => ∃ Bi s3 s6 s7 xs, σ' = [some (.ref a), some (.ref o), some (.ref f), s3, s4, some (.ref f2), s6, s7] ∧ Ex B5 Bi ∧ Ex Bi H' ∧ Bi f2 = none ∧ H' f2 = some (.lst xs) ∧ xs.length = i ∧ Tabs (lamT K) H' ∧ ∀ v ∈ xs, IntsP Bi b.pegs.length v)
      (fun H7 e7 => ⟨B5, s3, none, none, [], rfl, Ex.refl _, hBH.trans (e6.trans e7), hB5f2, e7 _ _ hf26, rfl, (hTi.ext e6).ext e7, fun v h => (nomatch h)⟩) (fun i σ' H' _ ⟨Bi, _, _, _, _, _, g1, g2, _⟩ => g1.trans g2) (fun i x σ' H7 H7' hlt ⟨Bj, s3, s6, s7, xs, hσ, k1, k2, hBjf, hHjf, hxl, hTj, hxs⟩ y => ?_) fun σ' H7 ⟨Bj, s3, s6, s7, xs, hσ, k1, k2, hBjf, hHjf, hxl, hTj, hxs⟩ => ?_
    · subst hσ
      obtain ⟨rfl, hx⟩ := y
      have hlt' : i < b.rowsAll.length := by omega
      obtain ⟨t, ht1, ht2⟩ := paired_at hys2 hlt' hx
      subst ht1
      refine ⟨.ref f2, rfl, .inl ⟨rfl, _, sq_of hHjf⟩, ?_⟩
      have hoj := ex_t (hCB.trans k1) hCo
      have hwe := walk_eT hoj
      rw [List.length_map, show b.pegs.length = b.pegs.zipIdx.length by simp] at hwe
      refine evp_tupOf (evp_lcF (l := b.pegs.zipIdx) (f := fun z => V.int (z.2 : Nat)) (q := fun z => decide (z.1 ∈ b.rowsAll[i])) (st := fun z => [some (.ref a), some (.ref o), some (.ref f), some (.str z.1), s4, some (.ref f2), some (.ref t), some (.int (z.2 : Nat))]) (by simp; omega) (ei_enumT (ea_cons (ev_var rfl) ea_nil) hoj) hwe (fun _ e => e) (bnd_enum (f := V.str)) (fun _ _ => rfl) (fun z _ => et_test (ev_in (ev_var rfl) (ev_var rfl) (sqs_t (ex_t k1 ht2)))) fun z _ _ => ev_var rfl) _ k2 _ fun v B6 H8 g6 ⟨p, hv, hp⟩ => ?_
      subst hv
      have hB6f : B6 f2 = none := g6.av f2 (by rw [hHjf]; simp) hBjf
      have hH8f : H8 f2 = some (.lst xs) := g6.h _ _ hHjf
      refine ⟨f2, xs, .ref p, rfl, rfl, hH8f, sz_lt (by omega), B6, _, _, _, xs ++ [.ref p], rfl, k1.trans g6.b, Ex.mut g6.bh hB6f, hB6f, upd_same, by rw [List.length_append, hxl]; rfl, tabs_mut (hTj.ext g6.h) hH8f, fun v hv => ?_⟩
      rcases List.mem_append.mp hv with hv | hv
      · obtain ⟨t, is, h1, h2, h3⟩ := hxs v hv
        exact ⟨t, is, h1, g6.b _ _ h2, h3⟩
      · refine ⟨p, (b.pegs.zipIdx.filter fun z => decide (z.1 ∈ b.rowsAll[i])).map fun z => ((z.2 : Nat) : Int), List.mem_singleton.mp hv, by rw [hp, List.map_map]; rfl, by rw [List.length_map]; refine Nat.le_trans (List.length_filter_le _ _) ?_; rw [List.length_zipIdx]; exact Nat.le_refl _, fun z hz => ?_⟩
        obtain ⟨c, hc, rfl⟩ := List.mem_map.mp hz
        have hc1 := (List.mem_filter.mp hc).1
        have := List.snd_lt_of_mem_zipIdx hc1
        exact ⟨by omega, by simpa using this⟩
    · subst hσ
      have hCj := hCB.trans k1
      have hC2 : Ex C (cut f2 Bj) := cut_ex hCj hCn (fresh_back hCB hB5f2)
      have hn2 : NT (upd (cut f2 Bj) f2 (.lst xs)) := fun x ps h => by
        by_cases z : x = f2
        · subst z; rw [upd_same] at h; cases h
        · rw [upd_ne z] at h; exact cut_nt _ _ h
      have e2 : Ex (cut f2 Bj) (upd (cut f2 Bj) f2 (.lst xs)) := Ex.new cut_at
      have hC2H : Ex (upd (cut f2 Bj) f2 (.lst xs)) H7 := fun x u h => by
        by_cases z : x = f2
        · subst z; rw [upd_same] at h; rw [hHjf]; exact h
        · rw [upd_ne z] at h; exact k2 _ _ (cut_le _ _ h)
      have hf2L : SqL K (upd (cut f2 Bj) f2 (.lst xs)) f2 xs := sq_of upd_same
      have hxs2 : ∀ v ∈ xs, IntsP (upd (cut f2 Bj) f2 (.lst xs)) b.pegs.length v := fun v hv => by
        obtain ⟨t, is, h1, h2, h3⟩ := hxs v hv
        exact ⟨t, is, h1, e2 _ _ (cut_get h2 (fun z => by rw [z, hBjf] at h2; cases h2) fun _ z => nomatch z), h3⟩
      have hCC := hC2.trans e2
      generalize upd (cut f2 Bj) f2 (.lst xs) = C2 at hn2 e2 hC2H hf2L hxs2 hCC
      have hT7 := hTj
      refine (?_ : tLc (iList K (tSortedLam K (lamT K) (tVar 5) (tTup (tCons (tCB (rLn K) (tCons (tVar 0) tNil)) (tCons (tVar 0) tNil))))) (gName 6) tYes (tCB (rTupOf K) (tCons (tLc (iTup K (tVar 6)) (gName 7) tYes (tOp (rIxT K) (tVar 1) (tVar 7)) [7]) tNil)) [6] _ H7 Q)
      refine lc_N (il_sorted (kd := kd2 C2) (ys := xs) hC2H hn2 (ev_var rfl) (sqs_l hf2L) hT7 (PySem.W.AllAlike.of fun x y => ?_) (PySem.W.Sortable.tuples fun x => ⟨_, _, rfl⟩) (fun y _ => ?_) (fun y hy H4 hC4 => ?_) fun s2 H8 e8 hT8 hC8 hs8 => ?_)
      · show PySem.W.alike (kd2 C2 x) (kd2 C2 y) = true
        unfold kd2
        simp [PySem.W.alike, PySem.W.alikeAll, PySem.W.alike_ints]
      · have := depth_all (f := PyData.int) (n := 0) (fun _ => by simp [PyData.depth]) (intsOf C2 y)
        unfold kd2
        simp only [PyData.depth, PyData.depthAll]
        omega
      · obtain ⟨t, is, hv, ht, hl, hz⟩ := hxs2 y hy
        subst hv
        have eI : intsOf C2 (.ref t) = is := by
          unfold intsOf
          simp only [ht]
          rw [List.map_map]
          exact List.map_id' is
        refine (eu_tup (ea_cons (ev_lenSq (K := K) (ta := tVar 0) (ev_var rfl) (sqs_t (st_of ht))) (ea_cons (ev_var rfl) ea_nil)) (by show 2 ≤ 100000; decide)) H4 hC4 _ fun p H5 hp e5 hp5 => ⟨e5, ?_⟩
        unfold kd2
        rw [eI]
        refine .tup (st_of hp5) (.cons ?_ (.cons (dp_tup (st_of ((hC4.trans e5) _ _ ht)) (paired_map_l (paired_self is fun z => .int z))) .nil))
        rw [List.length_map]
        exact .int _
      · have hs2C : C2 s2 = none := fresh_back hC8 hs8
        have e3 : Ex C2 (upd C2 s2 (.lst (xs.mergeSort (PySem.W.dataLe false (kd2 C2))))) := Ex.new hs2C
        have hperm : (xs.mergeSort (PySem.W.dataLe false (kd2 C2))).Perm xs := List.mergeSort_perm _ _
        have hsL : SqL K (upd C2 s2 (.lst (xs.mergeSort (PySem.W.dataLe false (kd2 C2))))) s2 (xs.mergeSort (PySem.W.dataLe false (kd2 C2))) := sq_of upd_same
        have hCH8 : Ex (upd C2 s2 (.lst (xs.mergeSort (PySem.W.dataLe false (kd2 C2))))) (upd H8 s2 (.lst (xs.mergeSort (PySem.W.dataLe false (kd2 C2))))) := fun x u h => by
          by_cases z : x = s2
          · subst z; rw [upd_same] at h ⊢; exact h
          · rw [upd_ne z] at h ⊢; exact hC8 _ _ h
        have hT9 : Tabs (lamT K) (upd H8 s2 (.lst (xs.mergeSort (PySem.W.dataLe false (kd2 C2))))) := hT8.ext (Ex.new hs8)
        generalize hvs : xs.mergeSort (PySem.W.dataLe false (kd2 C2)) = vs at hperm hsL hCH8 e3 hT9 ⊢
        generalize upd C2 s2 (.lst vs) = C3 at hsL hCH8 e3
        have hwv := walk_L hsL
        have hvl : vs.length = b.rowsAll.length := by rw [hperm.length_eq]; omega
        refine evp_lc (l := vs) (q := fun _ => true) (P := fun _ _ _ => True) (st := fun y => [some (.ref a), some (.ref o), some (.ref f), s3, s4, some (.ref f2), some y, s7]) (wi := fun _ H R => R (Itl K s2) H) (by omega) ei_at hwv (fun _ e => e) bnd_name (fun _ _ => rfl) (fun _ _ H1 e Q q => q H1 (Ex.refl H1)) (fun _ _ _ _ _ _ h => h) (fun y hy _ => ?_) _ hCH8 _ fun v B7 H9 g7 ⟨p, zs, hv, hp, hzs⟩ => ?_
        · obtain ⟨t, is, hv, ht, hl, hz⟩ := hxs2 y (hperm.mem_iff.mp hy)
          subst hv
          have ht3 := st_of (K := K) (e3 _ _ ht)
          have hwi := walk_T ht3
          rw [List.length_map] at hwi
          refine evp_tupE (evp_lc (l := is) (q := fun _ => true) (P := fun _ _ _ => True) (st := fun z => [some (.ref a), some (.ref o), some (.ref f), s3, s4, some (.ref f2), some (.ref t), some (.int z)]) (by omega) (ei_tup (ev_var rfl) ht3) hwi (fun _ e => e) (bnd_map (f := V.int)) (fun _ _ => rfl) (fun _ _ H1 e Q q => q H1 (Ex.refl H1)) (fun _ _ _ _ _ _ h => h) fun z hz' _ => ?_)
          obtain ⟨z0, z1⟩ := hz z hz'
          have hzn : z.toNat < b.pegs.length := by omega
          have ea : atI (b.pegs.map V.str) z = some (.str (b.pegs[z.toNat])) := by
            have := atI_nat (xs := b.pegs.map V.str) (j := z.toNat) (v := .str (b.pegs[z.toNat])) (by rw [List.getElem?_map, List.getElem?_eq_getElem hzn]; rfl)
            rwa [Int.toNat_of_nonneg z0] at this
          exact (ev_p (ev_op (ev_var rfl) (ev_var rfl) (rv_ixT (ex_t (hCC.trans e3) hCo) ea))).imp fun _ _ _ _ => trivial
        · have hBC3 := hBC.trans (hCC.trans e3)
          have hCf7 : Ex C B7 := (hCC.trans e3).trans g7.b
          refine q v B7 H9 ⟨hBC3.trans g7.b, g7.bh, fun x u h n => g7.bh _ _ (hCf7 _ _ (hHC x u h n))⟩ (hT9.ext g7.h) ⟨p, zs, hv, hp, ?_⟩
          rw [← paired_len hzs, List.filter_eq_self.mpr fun _ _ => rfl]
          exact hvl
end
end NP
end

section
set_option maxHeartbeats 4000000
namespace NP
open PySem PySem.Spec PyProof.Rows L2 Evl LamX
section
variable {P : Program} {w : World} {K : PySem.W.Frag} {mg : Str → Option Value} {base : Heap}
def sp_count (K : PySem.W.Frag) : Sp := fun vs H Q _ => ∃ a b B, vs = [.ref a] ∧ Ex B H ∧ NT B ∧ Tabs (lamT K) H ∧ BdAt K B a b ∧ ∀ B' H', GrN B H B' H' → Tabs (lamT K) H' → Q (.int (b.rowsAll.length : Nat)) H'
theorem c_B_count_stands (F : Facts K mg) (TB : TabB base mg (He.cT K mrD).1 (He.cT K mrD).2) : CalM P w K mg base 8 (CB K) "count_stands" ["self"] (sp_count K) := by
  obtain ⟨fd, D⟩ := F.d_B_count_stands
  have c_member_rows := c_member_rows (P := P) (w := w) (base := base) F TB
  refine mkCalM D sc_B_count_stands F.mB_count_stands (fun _ _ _ _ _ _ us hl => match us, hl with | [_], _ => rfl) (fun vs H Q E ⟨a, b, B, e, _⟩ => by rw [e]; rfl) fun cdv A outer s H vs Q E hr h => ⟨_, (pss_one (ps_ret (pe_callB (call_len_k (K := K) rfl) rfl F.f_len (by decide +kernel) (pa_cons (pe_cal c_member_rows hr (by decide) rfl (pa_cons (pv 0) pa_nil)) pa_nil)))), ?_⟩
  obtain ⟨a, b, B, rfl, hB, hN, hT, hb, q⟩ := h
  refine ⟨.ref a, rfl, a, b, B, rfl, hB, hN, hT, hb, fun v B' H' g hT' ⟨l, ys, hv, hl, hn⟩ => ?_⟩
  subst hv
  refine ⟨_, ys.length, rfl, .inl ⟨ys, sq_of (g.bh _ _ hl), rfl⟩, ?_⟩
  rw [hn]
  exact q B' H' g hT'
end
end NP
end

section
set_option maxHeartbeats 4000000
/-! evaluation with one object x (the box) that changes and lies outside the base -/
namespace NP
open PySem PySem.Spec PyProof.Rows L2 Evl
variable {σ : L2.St} {B B1 B2 B3 H H1 H2 H3 : Hp} {te ta tb u : TE} {tt : TT} {x : Addr} {n n1 n2 : Nat}
structure GrX (x : Addr) (B H B2 H2 : Hp) : Prop where
  b : Ex B B2
  bh : Ex B2 H2
  h : ∀ a o, a ≠ x → H a = some o → H2 a = some o
  x2 : H2 x ≠ none
  av : ∀ a, H a ≠ none → B a = none → B2 a = none
theorem GrX.some (g : GrX x B H B2 H2) {a : Addr} (h : H a ≠ none) : H2 a ≠ none := by
  by_cases q : a = x
  · rw [q]; exact g.x2
  · cases e : H a with
    | none => exact absurd e h
    | some o => rw [g.h a o q e]; simp
theorem GrX.trans (g : GrX x B H B1 H1) (g' : GrX x B1 H1 B2 H2) : GrX x B H B2 H2 := ⟨g.b.trans g'.b, g'.bh, fun a o h e => g'.h a o h (g.h a o h e), g'.x2, fun a h1 h2 => g'.av a (g.some h1) (g.av a h1 h2)⟩
theorem Gr.toX (g : Gr B H B2 H2) (hx : H x ≠ none) : GrX x B H B2 H2 := ⟨g.b, g.bh, fun a o _ e => g.h a o e, ex_some g.h hx, g.av⟩
theorem GrX.refl (h : Ex B H) (hx : H x ≠ none) : GrX x B H B H := (Gr.refl h).toX hx
theorem GrX.up (g : GrX x B H B1 H1) (e : Ex H1 H2) : GrX x B H B1 H2 := ⟨g.b, g.bh.trans e, fun a o h1 h2 => e _ _ (g.h a o h1 h2), ex_some e g.x2, g.av⟩
theorem GrX.new (g : GrX x B H B1 H1) {p : Addr} {o : HO} (hp : H1 p = none) : GrX x B H (upd B1 p o) (upd H1 p o) := g.trans (((Gr.refl g.bh).new hp).toX g.x2)
theorem GrX.none_ (g : GrX x B H B2 H2) (hx : H x ≠ none) (nb : B x = none) : B2 x = none := g.av x hx nb
/-- the box: at most n numbers were taken -/
def Box (x : Addr) (n : Nat) (H : Hp) : Prop := ∃ a b c : Int, H x = some (.lst [.int a, .int b, .int c]) ∧ 0 ≤ b ∧ b ≤ 2147483629 ∧ 0 ≤ c ∧ c ≤ n
theorem Box.ex (h : Box x n H) (e : Ex H H1) : Box x n H1 := let ⟨a, b, c, h1, r⟩ := h; ⟨a, b, c, e _ _ h1, r⟩
theorem Box.ne (h : Box x n H) : H x ≠ none := by obtain ⟨a, b, c, h1, _⟩ := h; rw [h1]; simp
theorem Box.mono (h : Box x n H) (l : n ≤ n1) : Box x n1 H := let ⟨a, b, c, h1, h2, h3, h4, h5⟩ := h; ⟨a, b, c, h1, h2, h3, h4, by omega⟩
def EvX (x : Addr) (te : TE) (σ : L2.St) (B : Hp) (n n' : Nat) (P : V → Hp → Prop) : Prop := ∀ H1, Ex B H1 → B x = none → Box x n H1 → ∀ Q : VK, (∀ v B2 H2, GrX x B H1 B2 H2 → Box x n' H2 → P v B2 → Q v H2) → te σ H1 Q
def EaX (x : Addr) (t : TA) (σ : L2.St) (B : Hp) (n n' : Nat) (P : List V → Hp → Prop) : Prop := ∀ H1, Ex B H1 → B x = none → Box x n H1 → ∀ Q : List V → Hp → Prop, (∀ v B2 H2, GrX x B H1 B2 H2 → Box x n' H2 → P v B2 → Q v H2) → t σ H1 Q
section
variable {P P' : V → Hp → Prop}
theorem EvX.imp (h : EvX x te σ B n n1 P) (f : ∀ v B2, Ex B B2 → P v B2 → P' v B2) : EvX x te σ B n n1 P' := fun H1 e hn hb Q q => h H1 e hn hb Q fun v B2 H2 g b p => q v B2 H2 g b (f v B2 g.b p)
theorem EvX.le (h : EvX x te σ B n n1 P) (l : n1 ≤ n2) : EvX x te σ B n n2 P := fun H1 e hn hb Q q => h H1 e hn hb Q fun v B2 H2 g b p => q v B2 H2 g (b.mono l) p
theorem evx_p (h : EvP te σ B P) : EvX x te σ B n n P := fun H1 e hn hb Q q => h H1 e Q fun v B2 H2 g p => q v B2 H2 (g.toX hb.ne) (hb.ex g.h) p
theorem evx_v {v : V} (h : Ev te σ B v) : EvX x te σ B n n fun w _ => w = v := evx_p (ev_p h)
theorem eax_p {t : TA} {R : List V → Hp → Prop} (h : EaP t σ B R) : EaX x t σ B n n R := fun H1 e hn hb Q q => h H1 e Q fun v B2 H2 g p => q v B2 H2 (g.toX hb.ne) (hb.ex g.h) p
theorem eax_nil : EaX x tNil σ B n n fun ws _ => ws = [] := eax_p eap_nil
theorem eax_cons {tr : TA} {R : List V → Hp → Prop} (hm : Mon P) (h : EvX x ta σ B n n1 P) (hr : ∀ B1, Ex B B1 → EaX x tr σ B1 n1 n2 R) : EaX x (tCons ta tr) σ B n n2 fun ws B2 => ∃ v vs, ws = v :: vs ∧ P v B2 ∧ R vs B2 := fun H1 e hn hb Q q =>
  h H1 e hn hb _ fun v B2 H2 g b p => hr B2 g.b H2 g.bh (g.none_ hb.ne hn) b _ fun vs B3 H3 g3 b3 r => q _ B3 H3 (g.trans g3) b3 ⟨v, vs, rfl, hm v B2 B3 g3.b p, r⟩
theorem EaX.imp {t : TA} {R R' : List V → Hp → Prop} (h : EaX x t σ B n n1 R) (f : ∀ v B2, Ex B B2 → R v B2 → R' v B2) : EaX x t σ B n n1 R' := fun H1 e hn hb Q q => h H1 e hn hb Q fun v B2 H2 g b p => q v B2 H2 g b (f v B2 g.b p)
theorem evx_op {r : R2} {R S : V → Hp → Prop} (hm : Mon P) (ha : EvX x ta σ B n n1 P) (hb : ∀ B1, Ex B B1 → EvX x tb σ B1 n1 n2 R) (hr : ∀ v w B1 H1, Ex B B1 → P v B1 → R w B1 → Ex B1 H1 → ∀ Q : VK, (∀ v B2 H2, Gr B1 H1 B2 H2 → S v B2 → Q v H2) → r v w H1 Q) : EvX x (tOp r ta tb) σ B n n2 S := fun H1 e hn hbx Q q =>
  ha H1 e hn hbx _ fun v B2 H2 g b p => hb B2 g.b H2 g.bh (g.none_ hbx.ne hn) b _ fun w B3 H3 g3 b3 p3 => hr v w B3 H3 (g.b.trans g3.b) (hm v B2 B3 g3.b p) p3 g3.bh _ fun z B4 H4 g4 s => q z B4 H4 ((g.trans g3).trans (g4.toX b3.ne)) (b3.ex g4.h) s
theorem evx_cb {r : List V → Hp → VK → Prop} {t : TA} {R : List V → Hp → Prop} {S : V → Hp → Prop} (h : EaX x t σ B n n1 R) (hr : ∀ vs B1 H1, Ex B B1 → R vs B1 → Ex B1 H1 → ∀ Q : VK, (∀ v B2 H2, Gr B1 H1 B2 H2 → S v B2 → Q v H2) → r vs H1 Q) : EvX x (tCB r t) σ B n n1 S := fun H1 e hn hb Q q =>
  h H1 e hn hb _ fun vs B2 H2 g b p => hr vs B2 H2 g.b p g.bh _ fun v B4 H4 g4 s => q v B4 H4 (g.trans (g4.toX b.ne)) (b.ex g4.h) s
theorem evx_tup {t : TA} {R : List V → Hp → Prop} (h : EaX x t σ B n n1 R) (hz : ∀ vs H1, R vs H1 → vs.length ≤ 1000) (hR : MonL R) : EvX x (tTup t) σ B n n1 fun v B2 => ∃ p vs, v = .ref p ∧ B2 p = some (.tup vs) ∧ R vs B2 := fun H1 e hn hb Q q =>
  h H1 e hn hb _ fun vs B2 H2 g b r => ⟨sz_of (Nat.le_trans (hz vs B2 r) (by decide)), fun p hp => q _ _ _ (g.new hp) (b.ex (Ex.new hp)) ⟨p, vs, rfl, upd_same, hR vs _ _ (Ex.new (fresh_back g.bh hp)) r⟩⟩
theorem evx_lst {t : TA} {R : List V → Hp → Prop} (h : EaX x t σ B n n1 R) (hz : ∀ vs H1, R vs H1 → vs.length ≤ 1000) (hR : MonL R) : EvX x (tLst t) σ B n n1 fun v B2 => ∃ p vs, v = .ref p ∧ B2 p = some (.lst vs) ∧ R vs B2 := fun H1 e hn hb Q q =>
  h H1 e hn hb _ fun vs B2 H2 g b r => ⟨sz_of (Nat.le_trans (hz vs B2 r) (by decide)), fun p hp => q _ _ _ (g.new hp) (b.ex (Ex.new hp)) ⟨p, vs, rfl, upd_same, hR vs _ _ (Ex.new (fresh_back g.bh hp)) r⟩⟩
/-- a promise that changes the box: bx its place, bn the numbers taken so far, k how many more -/
def PrmX {δ : Type} (bx : δ → Addr) (bn : δ → Nat) (k : δ → Nat) (pre : δ → List V → Hp → Prop) (post : δ → V → Hp → Prop) : Sp := fun vs H Q _ => ∃ d B, Ex B H ∧ B (bx d) = none ∧ Box (bx d) (bn d) H ∧ pre d vs B ∧ ∀ v B' H', GrX (bx d) B H B' H' → Box (bx d) (bn d + k d) H' → post d v B' → Q v H'
theorem evx_call {δ : Type} {bx : δ → Addr} {bn k : δ → Nat} {pre : δ → List V → Hp → Prop} {post : δ → V → Hp → Prop} {t : TA} {E : XK} {R : List V → Hp → Prop} (h : EaX x t σ B n n1 R)
    (hp : ∀ vs B1, Ex B B1 → R vs B1 → ∃ d, bx d = x ∧ bn d = n1 ∧ n1 + k d ≤ n2 ∧ pre d vs B1 ∧ ∀ v B2, Ex B1 B2 → post d v B2 → P v B2) : EvX x (tCall (PrmX bx bn k pre post) [] E t) σ B n n2 P := fun H1 e hn hb Q q => h H1 e hn hb _ fun vs B2 H2 g b r => by
  obtain ⟨d, e1, e2, e3, p1, p2⟩ := hp vs B2 g.b r
  rw [List.append_nil]
  refine ⟨d, B2, g.bh, by rw [e1]; exact g.none_ hb.ne hn, by rw [e1, e2]; exact b, p1, fun v B' H' g' b' p => ?_⟩
  rw [e1] at g' b'
  rw [e2] at b'
  exact q v B' H' (g.trans g') (b'.mono e3) (p2 v B' g'.b p)
section
variable {D : Ends} {tz : TS}
theorem q_asgX {i : Nat} (hB : Ex B H) (hn : B x = none) (hb : Box x n H) (h : EvX x te σ B n n1 P) (k : ∀ v B2 H2, GrX x B H B2 H2 → B2 x = none → Box x n1 H2 → P v B2 → tz D (σ.set i (some v)) H2) : tSeq (tAsg te (gName i)) tz D σ H := h H hB hn hb _ fun v B2 H2 g b p => k v B2 H2 g (g.none_ hb.ne hn) b p
theorem s_retX (hB : Ex B H) (hn : B x = none) (hb : Box x n H) (h : EvX x te σ B n n1 P) (k : ∀ v B2 H2, GrX x B H B2 H2 → B2 x = none → Box x n1 H2 → P v B2 → D.rt v H2) : tRet te D σ H := h H hB hn hb _ fun v B2 H2 g b p => k v B2 H2 g (g.none_ hb.ne hn) b p
end
end
end NP
end

section
set_option maxHeartbeats 4000000
namespace NP
open PySem PySem.Spec PyProof.Rows L2 Evl
theorem GrX.mut {x : Addr} {B H B1 H1 : Hp} {o : HO} (g : GrX x B H B1 H1) (hn : B1 x = none) : GrX x B H B1 (upd H1 x o) := ⟨g.b, Ex.mut g.bh hn, fun a u h e => by rw [upd_ne h]; exact g.h a u h e, by rw [upd_same]; simp, g.av⟩
section
variable {σ : L2.St} {B H : Hp} {te to ti : TE} {tz : TS} {D : Ends}
theorem q_setL {v : V} {p : Addr} {k : Int} {j : Nat} {xs : List V} (he : Ev te σ H v) (ho : Ev to σ H (.ref p)) (hi : Ev ti σ H (.int k)) (hp : H p = some (.lst xs)) (hj : ixN xs.length k = some j) (q : ∀ H1, Ex H H1 → tz D σ (upd H1 p (.lst (xs.set j v)))) : tSeq (tAsg te (gSub to ti rSetL)) tz D σ H :=
  he H (Ex.refl H) _ fun H1 e1 => ho H1 e1 _ fun H2 e2 => hi H2 (e1.trans e2) _ fun H3 e3 => ⟨p, xs, k, j, rfl, rfl, ((e1.trans e2).trans e3) _ _ hp, hj, q H3 ((e1.trans e2).trans e3)⟩
end
section
variable {P : Program} {w : World} {K : PySem.W.Frag} {mg : Str → Option Value} {base : Heap}
structure DTake where
  x : Addr
  n : Nat
  m : Int
def sp_l_take : Sp := PrmX (δ := DTake) (·.x) (·.n) (fun _ => 1) (fun d vs _ => vs = [.ref d.x, .int d.m] ∧ d.n ≤ 1000000 ∧ 1 ≤ d.m ∧ d.m ≤ 1000000) (fun d v _ => ∃ r : Int, v = .int r ∧ 0 ≤ r ∧ r < d.m)
theorem c_l_take (F : Facts K mg) : Cal P w K mg base 1 "_law_take" ["_law_box_here", "_law_many"] sp_l_take := by
  obtain ⟨fd, D⟩ := F.d_l_take
  refine mkCal D sc_l_take F.g_l_take (fun _ _ _ _ _ _ us hl => match us, hl with | [_, _], _ => rfl) (fun vs H Q E ⟨d, B, _, _, _, e, _⟩ => by rw [e.1]; rfl) fun cdv A outer s H vs Q E hr h => ⟨_, (pss_cons (ps_if (pt_cmpR op_gt (pe_ix (ix_list_k (K := K) rfl) (pv 0) pe_int (fun _ _ => rfl)) pe_int (nomark _)) (pss_cons (ps_set (i := 2) sc_l_take.nd rfl (by first | exact .inl rfl | exact .inr rfl) (pe_op op_mod (pe_ix (ix_list_k (K := K) rfl) (pv 0) pe_int (fun _ _ => rfl)) (pv 1)))
      (pss_cons (ps_asg (pe_op op_fdivW (pe_ix (ix_list_k (K := K) rfl) (pv 0) pe_int (fun _ _ => rfl)) (pv 1)) (pg_sub (pv 0) pe_int set_list))
      (pss_one (ps_ret (pv 2))))) pss_nil)
      (pss_cons (ps_asg (pe_op op_add (pe_ix (ix_list_k (K := K) rfl) (pv 0) pe_int (fun _ _ => rfl)) pe_int) (pg_sub (pv 0) pe_int set_list))
      (pss_cons (ps_set (i := 3) sc_l_take.nd rfl (by first | exact .inl rfl | exact .inr rfl) (pe_op op_mod (pe_op op_mulW (pe_op op_add (pe_ix (ix_list_k (K := K) rfl) (pv 0) pe_int (fun _ _ => rfl)) (pe_op op_mulW pe_int (pe_ix (ix_list_k (K := K) rfl) (pv 0) pe_int (fun _ _ => rfl)))) pe_int) pe_int))
      (pss_cons (ps_asg (pe_op op_add (pe_op op_mod (pe_op op_add (pe_op op_mulW (pv 3) pe_int) pe_int) pe_int) pe_int) (pg_sub (pv 0) pe_int set_list))
      (pss_one (ps_ret (pe_op op_mod (pe_op op_fdivW (pe_op op_add (pe_op op_mulW (pv 3) pe_int) (pe_ix (ix_list_k (K := K) rfl) (pv 0) pe_int (fun _ _ => rfl))) pe_int) (pv 1)))))))), ?_⟩
  obtain ⟨⟨x, n, m⟩, B, hB, hn, ⟨a, b, c, hx, b0, b1, c0, c1⟩, ⟨rfl, hnn, m1, m2⟩, q⟩ := h
  dsimp only at hn hx c1 hnn m1 m2 q
  have hxn : H x ≠ none := by rw [hx]; simp
  have hm0 : m ≠ 0 := by omega
  have hm1 : 0 < m := by omega
  have hdv : CDivW a m := wide_div (b := 20) (by omega) (by omega) (by decide) (by decide)
  have ei : ∀ (σ : L2.St) (H' : Hp) (a b c : Int) (k : Int) (v : V), σ[0]? = some (some (.ref x)) → H' x = some (.lst [.int a, .int b, .int c]) → atI [V.int a, .int b, .int c] k = some v → Ev (tOp (rIxL K) (tVar 0) (tC (.int k))) σ H' v := fun σ H' a b c k v hσ hx ha => ev_op (ev_var hσ) ev_c (rv_ixL (sq_of hx) ha)
  refine q_if (b := decide ((0 : Int) < a)) (et_test (ev_op (ei _ _ a b c 0 _ rfl hx rfl) ev_c rv_I0)) (fun hb H1 e1 => ?_) fun hb H1 e1 => ?_
  · have ha : 0 < a := of_decide_eq_true hb
    have hx1 := e1 _ _ hx
    refine q_asg (ev_op (ei _ _ a b c 0 _ rfl hx1 rfl) (ev_var rfl) (rv_I (by show 0 < m; omega))) fun H2 e2 => ?_
    have hx2 := e2 _ _ hx1
    refine q_setL (p := x) (k := 0) (j := 0) (xs := [.int a, .int b, .int c]) (ev_op (ei _ _ a b c 0 _ rfl hx2 rfl) (ev_var rfl) (rv_I hdv)) (ev_var rfl) ev_c hx2 rfl fun H3 e3 => ?_
    refine s_ret (ev_var rfl) fun H4 e4 => ?_
    have e13 := (e1.trans e2).trans e3
    refine q _ B H4 ((((GrX.refl hB hxn).up e13).mut hn).up e4) (Box.ex (n := n + 1) ⟨a / m, b, c, upd_same, b0, b1, c0, by omega⟩ e4) ⟨a % m, rfl, Int.emod_nonneg _ hm0, Int.emod_lt_of_pos _ hm1⟩
  · have hx1 := e1 _ _ hx
    refine q_setL (p := x) (k := 2) (j := 2) (xs := [.int a, .int b, .int c]) (ev_op (ei _ _ a b c 2 _ rfl hx1 rfl) ev_c rv_I0) (ev_var rfl) ev_c hx1 rfl fun H2 e2 => ?_
    have hx2 : upd H2 x (.lst ([V.int a, .int b, .int c].set 2 (.int (c + 1)))) x = some (.lst [.int a, .int b, .int (c + 1)]) := upd_same
    generalize hH2' : upd H2 x (.lst ([V.int a, .int b, .int c].set 2 (.int (c + 1)))) = H2' at hx2
    have g2 : GrX x B H B H2' := by rw [← hH2']; exact ((GrX.refl hB hxn).up (e1.trans e2)).mut hn
    have k1 : (b + 104729 * (c + 1)).natAbs < 2 ^ 40 := by omega
    refine q_asg (ev_op (ev_op (ev_op (ei _ _ a b (c + 1) 1 _ rfl hx2 rfl) (ev_op ev_c (ei _ _ a b (c + 1) 2 _ rfl hx2 rfl) (rv_I (wide_mul (a := 17) (b := 20) (by decide) (by omega) (by decide) (by decide) (by decide)))) rv_I0) ev_c (rv_I (wide_mul (a := 40) (b := 17) k1 (by decide) (by decide) (by decide) (by decide)))) ev_c (rv_I (by show (0 : Int) < 2147483647; decide))) fun H3 e3 => ?_
    have o0 := Int.emod_nonneg ((b + 104729 * (c + 1)) * 69623) (b := 2147483647) (by decide)
    have o1 := Int.emod_lt_of_pos ((b + 104729 * (c + 1)) * 69623) (b := 2147483647) (by decide)
    generalize (b + 104729 * (c + 1)) * 69623 % 2147483647 = one at o0 o1 ⊢
    have hx3 := e3 _ _ hx2
    refine q_setL (p := x) (k := 1) (j := 1) (xs := [.int a, .int b, .int (c + 1)]) (ev_op (ev_op (ev_op (ev_op (ev_var rfl) ev_c (rv_I (wide_mul (a := 31) (b := 16) (by omega) (by decide) (by decide) (by decide) (by decide)))) ev_c rv_I0) ev_c (rv_I (by show (0 : Int) < 2147483629; decide))) ev_c rv_I0) (ev_var rfl) ev_c hx3 rfl fun H4 e4 => ?_
    have p0 := Int.emod_nonneg (one * 48271 + 30103) (b := 2147483629) (by decide)
    have p1 := Int.emod_lt_of_pos (one * 48271 + 30103) (b := 2147483629) (by decide)
    have hx4 : upd H4 x (.lst ([V.int a, .int b, .int (c + 1)].set 1 (.int ((one * 48271 + 30103) % 2147483629 + 1)))) x = some (.lst [.int a, .int ((one * 48271 + 30103) % 2147483629 + 1), .int (c + 1)]) := upd_same
    have g4 : GrX x B H B (upd H4 x (.lst ([V.int a, .int b, .int (c + 1)].set 1 (.int ((one * 48271 + 30103) % 2147483629 + 1))))) := (g2.up (e3.trans e4)).mut hn
    refine s_ret (ev_op (ev_op (ev_op (ev_op (ev_var rfl) ev_c (rv_I (wide_mul (a := 31) (b := 32) (by omega) (by decide) (by decide) (by decide) (by decide)))) (ei _ _ a _ (c + 1) 1 _ rfl hx4 rfl) rv_I0) ev_c (rv_I (wide_div (b := 20) (by decide) (by decide) (by decide) (by decide)))) (ev_var rfl) (rv_I (by show 0 < m; omega))) fun H5 e5 => ?_
    refine q _ B H5 (g4.up e5) (Box.ex (n := n + 1) ⟨a, _, c + 1, hx4, by omega, by omega, by omega, by omega⟩ e5) ⟨_, rfl, Int.emod_nonneg _ hm0, Int.emod_lt_of_pos _ hm1⟩
end
end NP
end

section
set_option maxHeartbeats 4000000
namespace NP
open PySem PySem.Spec PyProof.Rows L2 Evl
section
variable {K : PySem.W.Frag} {σ : L2.St} {B H : Hp} {te : TE}
theorem erase_map {α β : Type} {f : α → β} : ∀ (l : List α) (k : Nat), (l.map f).eraseIdx k = (l.eraseIdx k).map f
  | [], _ => by simp
  | a :: l, 0 => by simp
  | a :: l, k + 1 => by simp [erase_map l k]
theorem erase_perm {α : Type} : ∀ (l : List α) (k : Nat) (h : k < l.length), (l[k] :: l.eraseIdx k).Perm l
  | [], _, h => absurd h (by simp)
  | a :: l, 0, _ => by simp
  | a :: l, k + 1, h => by
    simp only [List.getElem_cons_succ, List.eraseIdx_cons_succ]
    exact (List.Perm.swap _ _ _).trans ((erase_perm l k (by simpa using h)).cons a)
theorem dp_lst {B : Hp} {a : Addr} {ys : List V} {ds : List PyData} (h : SqL K B a ys) (hp : Paired (fun d y => Dp K B y d) ds ys) : Dp K B (.ref a) (.list ds) := by
  refine .lst h ?_
  clear h
  induction hp with
  | nil => exact .nil
  | cons r _ ih => exact .cons r ih
theorem dp_strsL {a : Addr} {l : List Str} (h : SqL K B a (l.map V.str)) : Dp K B (.ref a) (.list (l.map .str)) := dp_lst h (paired_map_l (paired_self l fun z => .str z))
theorem lay_strs {l : List Str} (h : ∀ x ∈ l, PyData.strOk x = true) : SeqAt.shaped (.list (l.map .str)) = true := by
  have h1 := strsD_lay h
  have h2 := strsD_depth l
  unfold strsD at h1 h2
  refine shaped_of ?_ ?_
  · simp only [PyData.canLay0] at h1 ⊢
    exact h1
  · simp only [PyData.depth] at h2 ⊢
    omega
theorem eqv_nil : ∀ ds : List PyData, PyData.eqv (.list ds) (.list []) = ds.isEmpty
  | [] => by simp [PyData.eqv, PyData.eqvAll]
  | d :: ds => by simp [PyData.eqv, PyData.eqvAll]
theorem ev_neNil {f : Addr} {ds : List PyData} (h : Ev te σ H (.ref f)) (hd : Dp K H (.ref f) (.list ds)) (s : SeqAt.shaped (.list ds) = true) : Ev (tOp (rNeD K) te (tLst tNil)) σ H (.bl (!ds.isEmpty)) := fun H1 e Q q =>
  h H1 e _ fun H2 e2 => ⟨Nat.zero_le _, fun p hp => ⟨.list ds, .list [], dp_ex hd ((e.trans e2).trans (Ex.new hp)), .lst (sq_of upd_same) .nil, s, by decide, by rw [eqv_nil]; exact q _ (e2.trans (Ex.new hp))⟩⟩
theorem ev_neNilP {b : Bool} (h : EvP te σ B fun v B2 => ∃ p ds, v = .ref p ∧ Dp K B2 (.ref p) (.list ds) ∧ SeqAt.shaped (.list ds) = true ∧ ds.isEmpty = b) : Ev (tOp (rNeD K) te (tLst tNil)) σ B (.bl (!b)) := fun H1 e Q q =>
  h H1 e _ fun v B2 H2 g ⟨p, ds, hv, hd, s, hb⟩ => by
    subst hv
    exact ⟨Nat.zero_le _, fun p hp => ⟨.list ds, .list [], dp_ex hd (g.bh.trans (Ex.new hp)), .lst (sq_of upd_same) .nil, s, by decide, by rw [eqv_nil, hb]; exact q _ (g.h.trans (Ex.new hp))⟩⟩
theorem ev_eqNilP {b : Bool} (h : EvP te σ B fun v B2 => ∃ p ds, v = .ref p ∧ Dp K B2 (.ref p) (.list ds) ∧ SeqAt.shaped (.list ds) = true ∧ ds.isEmpty = b) : Ev (tOp (rEqD K) te (tLst tNil)) σ B (.bl b) := fun H1 e Q q =>
  h H1 e _ fun v B2 H2 g ⟨p, ds, hv, hd, s, hb⟩ => by
    subst hv
    exact ⟨Nat.zero_le _, fun p hp => ⟨.list ds, .list [], dp_ex hd (g.bh.trans (Ex.new hp)), .lst (sq_of upd_same) .nil, s, by decide, by rw [eqv_nil, hb]; exact q _ (g.h.trans (Ex.new hp))⟩⟩
end
section
variable {P : Program} {w : World} {K : PySem.W.Frag} {mg : Str → Option Value} {base : Heap}
structure DMix where
  x : Addr
  n : Nat
  a : Addr
  L : List Str
def sp_l_mixed (K : PySem.W.Frag) : Sp := PrmX (δ := DMix) (·.x) (·.n) (·.L.length) (fun d vs B => vs = [.ref d.x, .ref d.a] ∧ SqS K B d.a (d.L.map V.str) ∧ (∀ s ∈ d.L, PyData.strOk s = true) ∧ d.L.length ≤ 100 ∧ d.n ≤ 900000) (fun d v B => ∃ (p : Addr) (L' : List Str), v = .ref p ∧ B p = some (.lst (L'.map V.str)) ∧ L'.Perm d.L)
theorem c_l_mixed (F : Facts K mg) : Cal P w K mg base 2 "_law_mixed" ["_law_box_here", "_law_things"] (sp_l_mixed K) := by
  obtain ⟨fd, D⟩ := F.d_l_mixed
  have c_l_take := c_l_take (P := P) (w := w) (base := base) F
  refine mkCal D sc_l_mixed F.g_l_mixed (fun _ _ _ _ _ _ us hl => match us, hl with | [_, _], _ => rfl) (fun vs H Q E ⟨d, B, _, _, _, e, _⟩ => by rw [e.1]; rfl) fun cdv A outer s H vs Q E hr h => ⟨_, (pss_cons (ps_par (i := 2) (j := 3) rfl sc_l_mixed.nd rfl rfl (by decide) rfl rfl (pa_cons (pe_callTy (call_list_of_k (K := K) rfl) rfl F.f_list (by decide +kernel) (pa_cons (pv 1) pa_nil)) (pa_cons (pe_lst pa_nil) pa_nil)) (sw_par rfl rfl rfl rfl (by decide +kernel) (fun _ _ h => nomatch h) (fun _ _ h => nomatch h) rfl rfl))
      (pss_cons (ps_while PassesOwn.never (pt_cmpR (op_neD_k (K := K) rfl hr.units) (pv 2) (pe_lst pa_nil) (nomark _)) (pss_one (ps_expr (pe_bm_k (K := K) rfl PySem.F.plainAttrs_list PySem.F.slot_list_append PySem.F.type_list_append mt_append (pv 3) (pa_cons (pe_bm_k (K := K) rfl PySem.F.plainAttrs_list PySem.F.slot_list_pop PySem.F.type_list_pop mt_popAt (pv 2) (pa_cons (pe_cal c_l_take hr (by decide) rfl (pa_cons (pv 0) (pa_cons (pe_callB (call_len_k (K := K) rfl) rfl F.f_len (by decide +kernel) (pa_cons (pv 2) pa_nil)) pa_nil))) pa_nil)) pa_nil)))))
      (pss_one (ps_ret (pv 3))))), ?_⟩
  obtain ⟨⟨x, n, a, L⟩, B, hB, hn, hbx, ⟨rfl, ha, hso, hL, hnn⟩, q⟩ := h
  dsimp only at hn hbx ha hso hL hnn q
  have hxn := hbx.ne
  refine ⟨.ref a, rfl, a, L.map V.str, rfl, (ha.ex hB).symm, fun f1 hf1 => ⟨Nat.zero_le _, fun f2 hf2 => ⟨_, _, rfl, ?_⟩⟩⟩
  have e2 : Ex H (upd (upd H f1 (.lst (L.map V.str))) f2 (.lst [])) := (Ex.new hf1).trans (Ex.new hf2)
  have h12 : f1 ≠ f2 := fun z => by rw [z, upd_same] at hf2; cases hf2
  have hH1 : upd (upd H f1 (.lst (L.map V.str))) f2 (.lst []) f1 = some (.lst (L.map V.str)) := by rw [upd_ne h12, upd_same]
  have hH2 : upd (upd H f1 (.lst (L.map V.str))) f2 (.lst []) f2 = some (.lst []) := upd_same
  have hf20 : H f2 = none := fresh_back (Ex.new hf1) hf2
  have x1 : x ≠ f1 := fun z => hxn (z ▸ hf1)
  have x2 : x ≠ f2 := fun z => hxn (z ▸ hf20)
  generalize upd (upd H f1 (.lst (L.map V.str))) f2 (.lst []) = H2 at e2 hH1 hH2
  refine ⟨fun m σ' H' => ∃ L1 L2 B', m = L1.length ∧ σ' = [some (.ref x), some (.ref a), some (.ref f1), some (.ref f2)] ∧ GrX x B H B' H' ∧ B' f1 = none ∧ B' f2 = none ∧ H' f1 = some (.lst (L1.map V.str)) ∧ H' f2 = some (.lst (L2.map V.str)) ∧ (L2 ++ L1).Perm L ∧ Box x (n + L2.length) H',
    ⟨L.length, L, [], B, rfl, rfl, (GrX.refl hB hxn).up e2, fresh_back hB hf1, fresh_back hB hf20, hH1, hH2, List.Perm.refl _, (show Box x (n + ([] : List Str).length) H2 from hbx.ex e2)⟩, ?_⟩
  rintro m σ' H3 ⟨L1, L2, B', rfl, rfl, g, b1, b2, k1, k2, hp, hb3⟩
  have hL12 : L2.length + L1.length = L.length := by
    have := hp.length_eq
    rwa [List.length_append] at this
  have ht : EvT (tTest (tOp (rNeD K) (tVar 2) (tLst tNil))) [some (.ref x), some (.ref a), some (.ref f1), some (.ref f2)] H3 (!(L1.map PyData.str).isEmpty) := et_test (ev_neNil (ev_var rfl) (dp_strsL (sq_of k1)) (lay_strs fun s hs => hso s (hp.mem_iff.mp (List.mem_append_right _ hs))))
  refine ht H3 (Ex.refl H3) _ fun H4 e4 => ?_
  cases L1 with
  | nil =>
    show (if false = true then _ else _)
    rw [if_neg Bool.false_ne_true]
    have g4 := g.up e4
    have k24 := e4 _ _ k2
    refine ⟨_, rfl, q (.ref f2) (upd B' f2 (.lst (L2.map V.str))) H4 ⟨g4.b.trans (Ex.new b2), fun y u h => ?_, g4.h, g4.x2, fun y h1 h2 => ?_⟩ ((hb3.ex e4).mono (by show n + L2.length ≤ n + L.length; omega)) ⟨f2, L2, rfl, upd_same, by rw [List.append_nil] at hp; exact hp⟩⟩
    · by_cases z : y = f2
      · subst z; rw [upd_same] at h; rw [k24]; exact h
      · rw [upd_ne z] at h; exact g4.bh _ _ h
    · have z : y ≠ f2 := fun z => h1 (z ▸ hf20)
      rw [upd_ne z]
      exact g4.av y h1 h2
  | cons s0 L1' =>
    show (if true = true then _ else _)
    rw [if_pos rfl]
    have g4 := g.up e4
    have k14 := e4 _ _ k1
    have k24 := e4 _ _ k2
    have n4 : B' x = none := g4.none_ hxn hn
    refine ⟨_, fun σ' H' h => h, ?_⟩
    generalize hL1 : s0 :: L1' = L1 at *
    have hpos : 0 < L1.length := by rw [← hL1]; simp
    refine ⟨.ref f2, rfl, .inl ⟨rfl, _, sq_of k24⟩, .ref f1, rfl, .inl ⟨rfl, _, sq_of k14⟩, ?_⟩
    have eB4 : Ex B' (upd B' f1 (.lst (L1.map V.str))) := Ex.new b1
    have hB4H : Ex (upd B' f1 (.lst (L1.map V.str))) H4 := fun y u h => by
      by_cases z : y = f1
      · subst z; rw [upd_same] at h; rw [k14]; exact h
      · rw [upd_ne z] at h; exact g4.bh _ _ h
    have hB4x : upd B' f1 (.lst (L1.map V.str)) x = none := by rw [upd_ne x1]; exact n4
    have hlen := ev_lenSq (K := K) (ta := tVar 2) (σ := [some (.ref x), some (.ref a), some (.ref f1), some (.ref f2)]) (B := upd B' f1 (.lst (L1.map V.str))) (ev_var rfl) (sqs_l (sq_of upd_same))
    rw [List.length_map] at hlen
    refine (evx_call (n := n + L2.length) (n2 := n + L2.length + 1) (P := fun v _ => ∃ r : Int, v = .int r ∧ 0 ≤ r ∧ r < (L1.length : Int)) (eax_p (ea_p (ea_cons (ev_var rfl) (ea_cons hlen ea_nil)))) fun ws B1 e1 hw => ⟨⟨x, n + L2.length, L1.length⟩, rfl, rfl, Nat.le_refl _, ⟨hw, by show n + L2.length ≤ 1000000; omega, by show (1 : Int) ≤ L1.length; omega, by show (L1.length : Int) ≤ 1000000; omega⟩, fun v B2 _ h => h⟩) H4 hB4H hB4x (hb3.ex e4) _ fun v B5 H5 g5 b5 ⟨r, hv, r0, r1⟩ => ?_
    subst hv
    have k15 : H5 f1 = some (.lst (L1.map V.str)) := g5.h _ _ (Ne.symm x1) k14
    have k25 : H5 f2 = some (.lst (L2.map V.str)) := g5.h _ _ (Ne.symm x2) k24
    have hrk : r.toNat < L1.length := by omega
    refine ⟨f1, L1.map V.str, r, r.toNat, .str L1[r.toNat], rfl, rfl, k15, by omega, by omega, ?_, by rw [List.getElem?_map, List.getElem?_eq_getElem hrk]; rfl, ?_⟩
    · rw [List.length_map]
      exact seqIndex_of r0 r1
    refine ⟨f2, L2.map V.str, .str L1[r.toNat], rfl, rfl, by rw [upd_ne (Ne.symm h12)]; exact k25, sz_lt (by rw [List.length_map]; omega), (L1.eraseIdx r.toNat).length, by rw [List.length_eraseIdx_of_lt hrk]; omega, L1.eraseIdx r.toNat, L2 ++ [L1[r.toNat]], B', rfl, rfl, ⟨g4.b, Ex.mut (Ex.mut ((eB4.trans g5.b).trans g5.bh) b1) b2, fun y u h e => ?_, ?_, g4.av⟩, b1, b2, ?_, ?_, ?_, ?_⟩
    · have y1 : y ≠ f1 := fun z => by rw [z, hf1] at e; cases e
      have y2 : y ≠ f2 := fun z => by rw [z, hf20] at e; cases e
      rw [upd_ne y2, upd_ne y1]
      exact g5.h _ _ h (g4.h _ _ h e)
    · rw [upd_ne x2, upd_ne x1]
      exact g5.x2
    · rw [upd_ne h12, upd_same, erase_map]
    · rw [upd_same, List.map_append]; rfl
    · refine List.Perm.trans ?_ hp
      rw [List.append_assoc]
      exact List.Perm.append_left _ (erase_perm L1 _ hrk)
    · refine Box.mono (n := n + L2.length + 1) ?_ (by rw [List.length_append]; show _ ≤ n + (L2.length + 1); omega)
      obtain ⟨a', b', c', z1, z2⟩ := b5
      exact ⟨a', b', c', by rw [upd_ne x2, upd_ne x1]; exact z1, z2⟩
end
end NP
end

section
set_option maxHeartbeats 4000000
namespace NP
open PySem PySem.Spec PyProof.Rows L2 Evl
section
variable {P : Program} {w : World} {K : PySem.W.Frag} {mg : Str → Option Value} {base : Heap}
theorem q_join {α : Type} {st : α → L2.St} {t tz : TS} {D : Ends} {σ : L2.St} {H : Hp} (rest : ∀ (c : α) H2, Ex H H2 → tz D (st c) H2) (main : (∀ (c : α) H2, Ex H H2 → tz D (st c) H2) → tSeq t tz D σ H) : tSeq t tz D σ H := main rest
theorem ev_pick {σ : L2.St} {H : Hp} {t : TA} {tb : TE} {x y : V} {b : Bool} (h : EvA t σ H [x, y]) (hb : ∀ H1, Ex H H1 → Ev tb σ H1 (.bl b)) : Ev (tOp (rIxL K) (tLst t) (tCB (fun xs H Q => (∃ i, xs = [.int i] ∧ Q (.int i) H) ∨ ∃ k, xs = [.bl k] ∧ Q (.int (if k then 1 else 0)) H) (tCons tb tNil))) σ H (if b then y else x) :=
  ev_opL1 (el_lst h (by show 2 ≤ 100000; decide)) (fun H1 e => ev_cb (ea_cons (hb H1 e) ea_nil) (z := .int (if b then 1 else 0)) fun H2 e2 Q q => .inr ⟨b, rfl, q H2 (Ex.refl H2)⟩) fun p H1 hp e => rv_ixL (sq_of hp) (by cases b <;> rfl)
def sp_l_box (K : PySem.W.Frag) : Sp := fun vs H Q _ => ∃ (a : Addr) (ns : List Int) (k : Nat), vs = [.ref a, .int k] ∧ k ≤ 100 ∧ ns.length ≤ 100 ∧ SqL K H a (ns.map V.int) ∧ ∀ p H', H p = none → Ex H H' → Box p 0 H' → Q (.ref p) H'
theorem c_l_box (F : Facts K mg) : Cal P w K mg base 1 "_law_box" ["_law_script", "_law_k"] (sp_l_box K) := by
  obtain ⟨fd, D⟩ := F.d_l_box
  refine mkCal D sc_l_box F.g_l_box (fun _ _ _ _ _ _ us hl => match us, hl with | [_, _], _ => rfl) (fun vs H Q E ⟨a, ns, k, e, _⟩ => by rw [e]; rfl) fun cdv A outer s H vs Q E hr h => ⟨_, (pss_cons (ps_set (i := 2) sc_l_box.nd rfl (by first | exact .inl rfl | exact .inr rfl) (pe_op op_add (pe_op op_mulW pe_int (pv 1)) pe_int))
      (pss_cons (ps_if (pt_cmpR op_lt (pv 1) (pe_callB (call_len_k (K := K) rfl) rfl F.f_len (by decide +kernel) (pa_cons (pv 0) pa_nil)) (nomark _)) (pss_one (ps_set (i := 2) sc_l_box.nd rfl (by first | exact .inl rfl | exact .inr rfl) (pe_ix (ix_list_k (K := K) rfl) (pv 0) (pv 1) (fun _ _ => rfl)))) (pss_one (ps_if (pt_cmpR op_gt (pe_callB (call_len_k (K := K) rfl) rfl F.f_len (by decide +kernel) (pa_cons (pv 0) pa_nil)) pe_int (nomark _)) (pss_one (ps_set (i := 2) sc_l_box.nd rfl (by first | exact .inl rfl | exact .inr rfl) (pe_op op_add (pv 2) (pe_op op_mulW (pe_op op_mod (pe_ix (ix_list_k (K := K) rfl) (pv 0) (pe_op op_mod (pv 1) (pe_callB (call_len_k (K := K) rfl) rfl F.f_len (by decide +kernel) (pa_cons (pv 0) pa_nil))) (fun _ _ => rfl)) pe_int) pe_int)))) pss_nil)))
      (pss_cons (ps_set (i := 3) sc_l_box.nd rfl (by first | exact .inl rfl | exact .inr rfl) (pe_op op_add (pe_op op_mod (pe_op op_add (pe_op op_mulW (pe_op op_mod (pv 2) pe_int) pe_int) (pe_op op_mulW pe_int (pv 1))) pe_int) pe_int))
      (pss_one (ps_ret (pe_lst (pa_cons (pe_ix (ix_list_k (K := K) rfl) (pe_lst (pa_cons pe_int (pa_cons (pv 2) pa_nil))) (pe_callTy call_int1 rfl F.f_int (by decide +kernel) (pa_cons (pe_cmpR op_ge (pv 2) (pe_op op_pow pe_int pe_int) (nomark _)) pa_nil)) (fun _ _ => rfl)) (pa_cons (pv 3) (pa_cons pe_int pa_nil))))))))), ?_⟩
  obtain ⟨a, ns, k, rfl, hk, hns, ha, q⟩ := h
  refine q_asg (ev_op (ev_op ev_c (ev_var rfl) (rv_I (wide_mul (a := 13) (b := 7) (by decide) (by omega) (by decide) (by decide) (by decide)))) ev_c rv_I0) fun H1 e1 => ?_
  have ha1 := ex_l e1 ha
  have hl : ∀ (σ : L2.St) (H' : Hp), Ex H1 H' → σ[0]? = some (some (.ref a)) → Ev (tCB (rLn K) (tCons (tVar 0) tNil)) σ H' (.int (ns.length : Nat)) := fun σ H' e hσ => by
    have := ev_lenSq (K := K) (ev_var hσ) (sqs_l (ex_l e ha1))
    rwa [List.length_map] at this
  refine q_join (st := fun c : Int => [some (.ref a), some (.int k), some (.int c), none]) (fun c H2 e2 => ?_) fun rest => ?_
  · have p0 := Int.emod_nonneg (c % 2147483629 * 48271 + 40692 * k) (b := 2147483629) (by decide)
    have p1 := Int.emod_lt_of_pos (c % 2147483629 * 48271 + 40692 * k) (b := 2147483629) (by decide)
    have o0 := Int.emod_nonneg c (b := 2147483629) (by decide)
    have o1 := Int.emod_lt_of_pos c (b := 2147483629) (by decide)
    refine q_asg (σ := [some (.ref a), some (.int k), some (.int c), none]) (i := 3) (ev_op (ev_op (ev_op (ev_op (ev_op (ev_var (i := 2) rfl) ev_c (rv_I (by show (0 : Int) < 2147483629; decide))) ev_c (rv_I (wide_mul (a := 31) (b := 16) (by omega) (by decide) (by decide) (by decide) (by decide)))) (ev_op ev_c (ev_var (i := 1) rfl) (rv_I (wide_mul (a := 16) (b := 7) (by decide) (by omega) (by decide) (by decide) (by decide)))) rv_I0) ev_c (rv_I (by show (0 : Int) < 2147483629; decide))) ev_c rv_I0) fun H3 e3 => ?_
    exact s_retL (te := _) (D := { nx := fun x H' => Q V.non H', rt := Q }) (el_lst (ea_cons (ev_pick (K := K) (x := .int 0) (y := .int c) (b := decide ((10 : Int) ^ (18 : Int).toNat ≤ c)) (ea_cons ev_c (ea_cons (ev_var rfl) ea_nil)) fun H4 e4 => ev_op (ev_var rfl) (ev_op ev_c ev_c (rv_I ⟨by decide, by decide, by decide⟩)) rv_I0) (ea_cons (ev_var rfl) (ea_cons ev_c ea_nil))) (by show 3 ≤ 100000; decide)) fun p H4 hp e4 hp4 => by
      refine q p H4 (fresh_back ((e1.trans e2).trans e3) hp) (((e1.trans e2).trans e3).trans e4) ?_
      refine ⟨if decide ((10 : Int) ^ (18 : Int).toNat ≤ c) then c else 0, (c % 2147483629 * 48271 + 40692 * k) % 2147483629 + 1, 0, ?_, by omega, by omega, by omega, by omega⟩
      rw [hp4]
      congr 3
      split <;> rfl
  refine q_if (b := decide ((k : Int) < (ns.length : Nat))) (et_test (ev_op (ev_var rfl) (hl _ _ (Ex.refl _) rfl) rv_I0)) (fun hb H2 e2 => ?_) fun hb H2 e2 => ?_
  · have hkl : k < ns.length := by have := of_decide_eq_true hb; omega
    refine s_asg (ev_op (ev_var rfl) (ev_var rfl) (rv_ixL (ex_l e2 ha1) (atI_nat (v := .int ns[k]) (by rw [List.getElem?_map, List.getElem?_eq_getElem hkl]; rfl)))) fun H3 e3 => ?_
    exact rest ns[k] H3 (e2.trans e3)
  · refine s_if (b := decide ((0 : Int) < (ns.length : Nat))) (et_test (ev_op (hl _ _ e2 rfl) ev_c rv_I0)) (fun hb2 H3 e3 => ?_) fun hb2 H3 e3 => ?_
    · have hpos : 0 < ns.length := by have := of_decide_eq_true hb2; omega
      have hkl : k % ns.length < ns.length := Nat.mod_lt _ hpos
      refine s_asg (ev_op (ev_var rfl) (ev_op (ev_op (ev_op (ev_var rfl) (ev_op (ev_var rfl) (hl _ _ (e2.trans e3) rfl) (rv_I (by show (0 : Int) < ns.length; omega))) (rv_ixL (ex_l (e2.trans e3) ha1) (atI_nat (j := k % ns.length) (v := .int ns[k % ns.length]) (by rw [List.getElem?_map, List.getElem?_eq_getElem hkl]; rfl)))) ev_c (rv_I (by show (0 : Int) < 2147483629; decide))) ev_c (rv_I (wide_mul (a := 31) (b := 17) (by have := Int.emod_nonneg (ns[k % ns.length]) (b := 2147483629) (by decide); have := Int.emod_lt_of_pos (ns[k % ns.length]) (b := 2147483629) (by decide); omega) (by decide) (by decide) (by decide) (by decide)))) rv_I0) fun H4 e4 => ?_
      exact rest _ H4 ((e2.trans e3).trans e4)
    · exact rest _ H3 (e2.trans e3)
end
end NP
end

section
set_option maxHeartbeats 4000000
namespace NP
open PySem PySem.Spec PyProof.Rows L2 Evl
structure Parts where
  L : List Str
  N : List (Str × Str)
  Bs : List (Str × Str)
  C : List Int
def TupPairs (K : PySem.W.Frag) (B : Hp) (a : Addr) (l : List (Str × Str)) : Prop := ∃ xs, SqT K B a xs ∧ Paired (PairV K B) l xs
theorem TupPairs.ex {K : PySem.W.Frag} {B B1 : Hp} {a : Addr} {l : List (Str × Str)} (h : TupPairs K B a l) (e : Ex B B1) : TupPairs K B1 a l := let ⟨xs, h1, h2⟩ := h; ⟨xs, ex_t e h1, paired_imp (fun _ _ q => q.ex e) h2⟩
theorem TupPairs.p {K : PySem.W.Frag} {B : Hp} {a : Addr} {l : List (Str × Str)} (h : TupPairs K B a l) : PairsAt K B a l := let ⟨xs, h1, h2⟩ := h; ⟨xs, sqs_t h1, h2⟩
def PartsAt (K : PySem.W.Frag) (B : Hp) (a : Addr) (d : Parts) : Prop := ∃ p n b c, SqT K B a [.ref p, .ref n, .ref b, .ref c] ∧ SqT K B p (d.L.map V.str) ∧ TupPairs K B n d.N ∧ TupPairs K B b d.Bs ∧ SqT K B c (d.C.map V.int)
theorem PartsAt.ex {K : PySem.W.Frag} {B B1 : Hp} {a : Addr} {d : Parts} (h : PartsAt K B a d) (e : Ex B B1) : PartsAt K B1 a d := let ⟨p, n, b, c, h1, h2, h3, h4, h5⟩ := h; ⟨p, n, b, c, ex_t e h1, ex_t e h2, h3.ex e, h4.ex e, ex_t e h5⟩
def isStand (N Bs : List (Str × Str)) (R : List Str) : Bool := (N.all fun x => !(decide (x.1 ∈ R) && !decide (x.2 ∈ R))) && Bs.all fun x => !(decide (x.1 ∈ R) && decide (x.2 ∈ R))
section
variable {K : PySem.W.Frag} {σ : L2.St} {B H : Hp} {te : TE} {tt : TT}
theorem filter_none {α : Type} {q : α → Bool} : ∀ l : List α, (l.filter q).isEmpty = !(l.any q)
  | [] => rfl
  | a :: l => by
    cases ha : q a with
    | true => simp [List.filter, ha]
    | false => simpa [List.filter, ha] using filter_none (q := q) l
theorem ones_shaped {α : Type} (l : List α) : SeqAt.shaped (.list (l.map fun _ => PyData.int 1)) = true := by
  have h1 := lay_all (f := fun _ : α => PyData.int 1) (l := l) fun _ _ => by simp [PyData.canLay0]
  have h2 := depth_all (f := fun _ : α => PyData.int 1) (n := 0) (fun _ => by simp [PyData.depth]) l
  refine shaped_of ?_ ?_
  · simp only [PyData.canLay0]; exact h1
  · simp only [PyData.depth]; omega
/-- the ones of a comprehension [1 for .. if ..] -/
theorem ones_nil {α : Type} {l : List α} {q : α → Bool} (h : EvP te σ B fun v B2 => ∃ p, v = .ref p ∧ B2 p = some (.lst ((l.filter q).map fun _ => V.int 1))) : EvP te σ B fun v B2 => ∃ p ds, v = .ref p ∧ Dp K B2 (.ref p) (.list ds) ∧ SeqAt.shaped (.list ds) = true ∧ ds.isEmpty = !(l.any q) :=
  h.imp fun v B2 _ ⟨p, hv, hp⟩ => ⟨p, (l.filter q).map fun _ => PyData.int 1, hv, dp_lst (sq_of hp) (paired_map_l (paired_self (R := fun _ y => Dp K B2 y (.int 1)) (l.filter q) fun _ => .int 1)), ones_shaped _, by
    rw [List.isEmpty_map, filter_none]⟩
end
section
variable {P : Program} {w : World} {K : PySem.W.Frag} {mg : Str → Option Value} {base : Heap}
structure DBar2 where
  r : Addr
  R : List Str
  s : Addr
  S : List Str
  b : Addr
  l : List (Str × Str)
def sp_l_is_barred (K : PySem.W.Frag) : Sp := Prm (δ := DBar2) (fun d vs B => vs = [.ref d.r, .ref d.s, .ref d.b] ∧ SqT K B d.r (d.R.map V.str) ∧ SqT K B d.s (d.S.map V.str) ∧ (∃ xs, SqL K B d.b xs ∧ Paired (PairV K B) d.l xs) ∧ d.l.length ≤ 90000) (fun d v B => v = .bl (barred d.R d.S d.l))
theorem c_l_is_barred (F : Facts K mg) : Cal P w K mg base 1 "_law_is_barred" ["_law_row", "_law_other", "_law_blocks"] (sp_l_is_barred K) := by
  obtain ⟨fd, D⟩ := F.d_l_is_barred
  refine mkCal D sc_l_is_barred F.g_l_is_barred (fun _ _ _ _ _ _ us hl => match us, hl with | [_, _, _], _ => rfl) (fun vs H Q E ⟨i, B, _, e, _⟩ => by rw [e.1]; rfl) fun cdv A outer s H vs Q E hr h => ⟨_, (pss_one (ps_ret (pe_cmpR (op_neD_k (K := K) rfl hr.units) (pe_lc rfl sc_l_is_barred.nd (pi_list_k (K := K) rfl (pv 2)) (blkOk_by (own := [("_law_a", 3), ("_law_b", 4)]) (N := N_l_is_barred) (sc := defScope s_l_is_barred) (by decide +kernel)) (fun _ _ _ _ _ => (pg_tup_k (K := K) (n := 2) rfl rfl (pgs_cons (pg_name (i := 3) sc_l_is_barred.nd rfl (by first | exact .inl rfl | exact .inr rfl)) (pgs_cons (pg_name (i := 4) sc_l_is_barred.nd rfl (by first | exact .inl rfl | exact .inr rfl)) pgs_nil)))) (fun _ _ _ _ _ => (pts_one (PW.pt (pw_or (PW.pt (pw_and (pt_cmpR (op_in_seq_k (K := K) rfl) (pv 3) (pv 0) rfl) (pw_and1 (pt_cmpR (op_in_seq_k (K := K) rfl) (pv 4) (pv 1) rfl)))) (pw_or1 (PW.pt (pw_and (pt_cmpR (op_in_seq_k (K := K) rfl) (pv 4) (pv 0) rfl) (pw_and1 (pt_cmpR (op_in_seq_k (K := K) rfl) (pv 3) (pv 1) rfl))))))))) (fun _ _ _ _ _ => pe_int)) (pe_lst pa_nil) (nomark _)))), ?_⟩
  obtain ⟨⟨r, R, s', S, b, l⟩, B, hB, ⟨rfl, h1, h2, ⟨xs, hs, hp⟩, z2⟩, q⟩ := h
  dsimp only at h1 h2 hs hp z2 q
  have hw := walk_L hs
  rw [← paired_len hp] at hw
  have := ev_neNilP (K := K) (ones_nil (evp_lcF (l := l) (f := fun _ => V.int 1) (q := fun c => (decide (c.1 ∈ R) && decide (c.2 ∈ S)) || (decide (c.2 ∈ R) && decide (c.1 ∈ S))) (σ := L2.start N_l_is_barred [.ref r, .ref s', .ref b]) (st := fun c => [some (.ref r), some (.ref s'), some (.ref b), some (.str c.1), some (.str c.2)]) (te := tC (.int 1)) (tt := _) z2 (ei_list (te := tVar 2) (ev_var rfl) hs) hw (fun _ e => e) (bnd_pair (i1 := 3) (i2 := 4) (f := fun x : Str × Str => V.str x.1) (g := fun x => V.str x.2) hp) (vs := [3, 4]) (fun _ _ => rfl) (fun c hc => et_or (et_and (et_test (ev_in (ta := tVar 3) (tb := tVar 0) (ev_var rfl) (ev_var rfl) (sqs_t h1))) fun _ => et_test (ev_in (ta := tVar 4) (tb := tVar 1) (ev_var rfl) (ev_var rfl) (sqs_t h2))) fun _ => et_and (et_test (ev_in (ta := tVar 4) (tb := tVar 0) (ev_var rfl) (ev_var rfl) (sqs_t h1))) fun _ => et_test (ev_in (ta := tVar 3) (tb := tVar 1) (ev_var rfl) (ev_var rfl) (sqs_t h2))) fun _ _ _ => ev_c))
  refine s_retP hB (ev_p this) fun v B2 H2 g e => q v B2 H2 g ?_
  rw [e, Bool.not_not]
  rfl
structure DIs where
  a : Addr
  d : Parts
  r : Addr
  R : List Str
def sp_l_is_stand (K : PySem.W.Frag) : Sp := Prm (δ := DIs) (fun d vs B => vs = [.ref d.a, .ref d.r] ∧ PartsAt K B d.a d.d ∧ SqL K B d.r (d.R.map V.str) ∧ d.d.N.length ≤ 1000 ∧ d.d.Bs.length ≤ 1000) (fun d v B => v = .bl (isStand d.d.N d.d.Bs d.R))
theorem c_l_is_stand (F : Facts K mg) : Cal P w K mg base 1 "_law_is_stand" ["_law_parts_here", "_law_row"] (sp_l_is_stand K) := by
  obtain ⟨fd, D⟩ := F.d_l_is_stand
  refine mkCal D sc_l_is_stand F.g_l_is_stand (fun _ _ _ _ _ _ us hl => match us, hl with | [_, _], _ => rfl) (fun vs H Q E ⟨i, B, _, e, _⟩ => by rw [e.1]; rfl) fun cdv A outer s H vs Q E hr h => ⟨_, (pss_cons (ps_if (pt_cmpR (op_neD_k (K := K) rfl hr.units) (pe_lc rfl sc_l_is_stand.nd (pi_tup_k (K := K) rfl (pe_ix (ix_tup_k (K := K) rfl) (pv 0) pe_int (fun _ _ => rfl))) (blkOk_by (own := [("_law_peg", 2), ("_law_needed", 3)]) (N := N_l_is_stand) (sc := defScope s_l_is_stand) (by decide +kernel)) (fun _ _ _ _ _ => (pg_tup_k (K := K) (n := 2) rfl rfl (pgs_cons (pg_name (i := 2) sc_l_is_stand.nd rfl (by first | exact .inl rfl | exact .inr rfl)) (pgs_cons (pg_name (i := 3) sc_l_is_stand.nd rfl (by first | exact .inl rfl | exact .inr rfl)) pgs_nil)))) (fun _ _ _ _ _ => (pts_one (PW.pt (pw_and (pt_cmpR (op_in_seq_k (K := K) rfl) (pv 2) (pv 1) rfl) (pw_and1 (pt_cmpR (op_notIn_seq_k (K := K) rfl) (pv 3) (pv 1) rfl)))))) (fun _ _ _ _ _ => pe_int)) (pe_lst pa_nil) (nomark _)) (pss_one (ps_ret pe_bl)) pss_nil)
      (pss_one (ps_ret (pe_cmpR (op_eqD_k (K := K) rfl hr.units) (pe_lc rfl sc_l_is_stand.nd (pi_tup_k (K := K) rfl (pe_ix (ix_tup_k (K := K) rfl) (pv 0) pe_int (fun _ _ => rfl))) (blkOk_by (own := [("_law_a", 4), ("_law_b", 5)]) (N := N_l_is_stand) (sc := defScope s_l_is_stand) (by decide +kernel)) (fun _ _ _ _ _ => (pg_tup_k (K := K) (n := 2) rfl rfl (pgs_cons (pg_name (i := 4) sc_l_is_stand.nd rfl (by first | exact .inl rfl | exact .inr rfl)) (pgs_cons (pg_name (i := 5) sc_l_is_stand.nd rfl (by first | exact .inl rfl | exact .inr rfl)) pgs_nil)))) (fun _ _ _ _ _ => (pts_one (PW.pt (pw_and (pt_cmpR (op_in_seq_k (K := K) rfl) (pv 4) (pv 1) rfl) (pw_and1 (pt_cmpR (op_in_seq_k (K := K) rfl) (pv 5) (pv 1) rfl)))))) (fun _ _ _ _ _ => pe_int)) (pe_lst pa_nil) (nomark _))))), ?_⟩
  obtain ⟨⟨a, ⟨L, N, Bs, C⟩, r, R⟩, B, hB, ⟨rfl, ⟨p, n, b, c, h1, h2, ⟨xs, hs, hp⟩, ⟨ys, ht, hpt⟩, h5⟩, hR, z1, z2⟩, q⟩ := h
  dsimp only at h1 h2 hs hp ht hpt h5 hR z1 z2 q
  have hw := walk_T hs
  rw [← paired_len hp] at hw
  have hw2 := walk_T ht
  rw [← paired_len hpt] at hw2
  have t1 := ev_neNilP (K := K) (ones_nil (evp_lcF (l := N) (f := fun _ => V.int 1) (q := fun c => decide (c.1 ∈ R) && !decide (c.2 ∈ R)) (σ := L2.start N_l_is_stand [.ref a, .ref r]) (st := fun c => [some (.ref a), some (.ref r), some (.str c.1), some (.str c.2), none, none]) (te := tC (.int 1)) (by omega) (ei_tup (te := tOp (rIxT K) (tVar 0) (tC (.int 1))) (ev_op (ev_var rfl) ev_c (rv_ixT h1 (v := .ref n) rfl)) hs) hw (fun _ e => e) (bnd_pair (i1 := 2) (i2 := 3) (f := fun x : Str × Str => V.str x.1) (g := fun x => V.str x.2) hp) (vs := [2, 3]) (fun _ _ => rfl) (fun c hc => et_and (et_test (ev_in (ta := tVar 2) (tb := tVar 1) (ev_var rfl) (ev_var rfl) (sqs_l hR))) fun _ => et_test (ev_nin (ta := tVar 3) (tb := tVar 1) (ev_var rfl) (ev_var rfl) (sqs_l hR))) fun _ _ _ => ev_c))
  rw [Bool.not_not] at t1
  refine q_ifP hB (et_test t1) (fun hb H1 e1 => ?_) fun hb H1 e1 => ?_
  · refine s_retP (hB.trans e1) (ev_p (v := .bl false) ev_c) fun v B2 H2 g e => q v B2 H2 ((Gr.ex hB e1).trans g) ?_
    rw [e]
    unfold isStand
    have : (N.all fun x => !(decide (x.1 ∈ R) && !decide (x.2 ∈ R))) = false := by
      rw [List.all_eq_not_any_not]
      simpa using hb
    simp only [this, Bool.false_and]
  · unfold tNext
    dsimp only
    have t2 := ev_eqNilP (K := K) (ones_nil (evp_lcF (l := Bs) (f := fun _ => V.int 1) (q := fun c => decide (c.1 ∈ R) && decide (c.2 ∈ R)) (σ := L2.start N_l_is_stand [.ref a, .ref r]) (st := fun c => [some (.ref a), some (.ref r), none, none, some (.str c.1), some (.str c.2)]) (te := tC (.int 1)) (by omega) (ei_tup (te := tOp (rIxT K) (tVar 0) (tC (.int 2))) (ev_op (ev_var rfl) ev_c (rv_ixT h1 (v := .ref b) rfl)) ht) hw2 (fun _ e => e) (bnd_pair (i1 := 4) (i2 := 5) (f := fun x : Str × Str => V.str x.1) (g := fun x => V.str x.2) hpt) (vs := [4, 5]) (fun _ _ => rfl) (fun c hc => et_and (et_test (ev_in (ta := tVar 4) (tb := tVar 1) (ev_var rfl) (ev_var rfl) (sqs_l hR))) fun _ => et_test (ev_in (ta := tVar 5) (tb := tVar 1) (ev_var rfl) (ev_var rfl) (sqs_l hR))) fun _ _ _ => ev_c))
    refine s_retP (hB.trans e1) (ev_p t2) fun v B2 H2 g e => q v B2 H2 ((Gr.ex hB e1).trans g) ?_
    rw [e]
    unfold isStand
    have e1 : (N.all fun x => !(decide (x.1 ∈ R) && !decide (x.2 ∈ R))) = true := by
      rw [List.all_eq_not_any_not]
      simpa using hb
    have e2 : (Bs.all fun x => !(decide (x.1 ∈ R) && decide (x.2 ∈ R))) = !(Bs.any fun c => decide (c.1 ∈ R) && decide (c.2 ∈ R)) := by
      rw [List.all_eq_not_any_not]
      simp
    rw [e1, e2, Bool.true_and]
structure DPt where
  a : Addr
  d : Parts
def sp_l_board (K : PySem.W.Frag) : Sp := Prm (δ := DPt) (fun d vs B => vs = [.ref d.a] ∧ PartsAt K B d.a d.d ∧ BdPre d.d.L d.d.C d.d.N d.d.Bs) (fun d v B => ∃ x, v = .ref x ∧ BdAt K B x (mkBd d.d.L d.d.C d.d.N d.d.Bs))
theorem c_l_board (F : Facts K mg) : Cal P w K mg base 6 "_law_board" ["_law_parts_here"] (sp_l_board K) := by
  obtain ⟨fd, D⟩ := F.d_l_board
  have c_B_init := c_B_init (P := P) (w := w) (base := base) F
  refine mkCal D sc_l_board F.g_l_board (fun _ _ _ _ _ _ us hl => match us, hl with | [_], _ => rfl) (fun vs H Q E ⟨i, B, _, e, _⟩ => by rw [e.1]; rfl) fun cdv A outer s H vs Q E hr h => ⟨_, (pss_one (ps_ret (pe_calK c_B_init hr (by decide) rfl F.g_Board (pa_cons (pe_ix (ix_tup_k (K := K) rfl) (pv 0) pe_int (fun _ _ => rfl)) pa_nil) (pk_cons (pe_ix (ix_tup_k (K := K) rfl) (pv 0) pe_int (fun _ _ => rfl)) (pk_cons (pe_ix (ix_tup_k (K := K) rfl) (pv 0) pe_int (fun _ _ => rfl)) (pk_cons (pe_ix (ix_tup_k (K := K) rfl) (pv 0) pe_int (fun _ _ => rfl)) pk_nil)))))), ?_⟩
  obtain ⟨⟨a, ⟨L, N, Bs, C⟩⟩, B, hB, ⟨rfl, ⟨p, n, b, c, h1, h2, h3, h4, h5⟩, hok⟩, q⟩ := h
  dsimp only at h1 h2 h3 h4 h5 hok q
  have ix : ∀ (i : Int) (v : V) (B1 : Hp), Ex B B1 → atI [V.ref p, .ref n, .ref b, .ref c] i = some v → Ev (tOp (rIxT K) (tVar 0) (tC (.int i))) (L2.start N_l_board [.ref a]) B1 v := fun i v B1 e ha => ev_op (ev_var rfl) ev_c (rv_ixT (ex_t e h1) ha)
  refine s_retP hB (P := fun v B => ∃ x, v = .ref x ∧ BdAt K B x (mkBd L C N Bs)) (evp_makeK (R2 := fun ws _ => ws = [.ref p, .ref n, .ref b, .ref c]) (ea_p (ea_cons (ix 0 _ B (Ex.refl B) rfl) ea_nil)) (fun ws B1 e1 hw => (ea_p (ea_cons (ix 1 _ B1 e1 rfl) (ea_cons (ix 2 _ B1 e1 rfl) (ea_cons (ix 3 _ B1 e1 rfl) ea_nil)))).imp fun zs B2 _ hz => ?_) fun ws B1 e1 hw => ⟨⟨p, L, n, N, b, Bs, c, C⟩, ⟨hw, ex_t e1 h2, h3.p.ex e1, h4.p.ex e1, sqs_t (ex_t e1 h5), hok⟩, fun x B2 e2 h => ⟨x, rfl, h⟩⟩) fun v B3 H3 g3 h => q v B3 H3 g3 h
  subst hw hz
  exact ⟨rfl, rfl, rfl⟩
end
end NP
end

section
set_option maxHeartbeats 4000000
namespace NP
open PySem PySem.Spec PyProof.Rows L2 Evl
/-! ### the law's rows -/
def stepL (x : Str × Str) (ρ : Str → List Str) : Str → List Str := fun q => if q = x.1 then ρ x.1 ++ (ρ x.2).filter (fun o => !decide (o ∈ ρ x.1)) else ρ q
def roundL (N : List (Str × Str)) (ρ : Str → List Str) : Str → List Str := N.foldl (fun ρ x => stepL x ρ) ρ
def rounds (N : List (Str × Str)) : Nat → Str → List Str
  | 0 => fun p => [p]
  | i + 1 => roundL N (rounds N i)
def lawRow (L : List Str) (N : List (Str × Str)) (p : Str) : List Str := L.filter fun o => decide (o ∈ rounds N L.length p)
def RowInv (L : List Str) (ρ : Str → List Str) : Prop := ∀ p ∈ L, (ρ p).Nodup ∧ ∀ o ∈ ρ p, o ∈ L
theorem nodup_len : ∀ (l m : List Str), l.Nodup → (∀ x ∈ l, x ∈ m) → l.length ≤ m.length
  | [], _, _, _ => Nat.zero_le _
  | a :: l, m, hn, hs => by
    rw [List.nodup_cons] at hn
    have ha := hs a List.mem_cons_self
    have := nodup_len l (m.erase a) hn.2 fun x hx => (List.mem_erase_of_ne (fun z : x = a => hn.1 (by rw [← z]; exact hx))).mpr (hs x (List.mem_cons_of_mem _ hx))
    rw [List.length_erase_of_mem ha] at this
    have hp := List.length_pos_of_mem ha
    rw [List.length_cons]
    omega
theorem RowInv.len {L : List Str} {ρ : Str → List Str} (h : RowInv L ρ) {p : Str} (hp : p ∈ L) : (ρ p).length ≤ L.length := nodup_len _ _ (h p hp).1 (h p hp).2
theorem RowInv.step {L : List Str} {ρ : Str → List Str} {x : Str × Str} (h : RowInv L ρ) (h1 : x.1 ∈ L) (h2 : x.2 ∈ L) : RowInv L (stepL x ρ) := fun p hp => by
  unfold stepL
  split
  · refine ⟨?_, fun o ho => ?_⟩
    · rw [List.nodup_append]
      refine ⟨(h _ h1).1, (h _ h2).1.filter _, fun a ha b hb => ?_⟩
      rw [List.mem_filter] at hb
      intro z
      subst z
      simp [ha] at hb
    · rcases List.mem_append.mp ho with ho | ho
      · exact (h _ h1).2 o ho
      · exact (h _ h2).2 o (List.mem_filter.mp ho).1
  · exact h p hp
theorem RowInv.fold {L : List Str} : ∀ (N : List (Str × Str)) (ρ : Str → List Str), RowInv L ρ → (∀ x ∈ N, x.1 ∈ L ∧ x.2 ∈ L) → RowInv L (N.foldl (fun ρ x => stepL x ρ) ρ)
  | [], _, h, _ => h
  | x :: N, ρ, h, hN => RowInv.fold N _ (h.step (hN x List.mem_cons_self).1 (hN x List.mem_cons_self).2) fun y hy => hN y (List.mem_cons_of_mem _ hy)
theorem rounds_inv {L : List Str} {N : List (Str × Str)} (hN : ∀ x ∈ N, x.1 ∈ L ∧ x.2 ∈ L) : ∀ i, RowInv L (rounds N i)
  | 0 => fun p hp => ⟨by simp [rounds], fun o ho => by simp [rounds] at ho; rw [ho]; exact hp⟩
  | i + 1 => RowInv.fold N _ (rounds_inv hN i) hN
/-! ### dicts -/
theorem mergeK_app : ∀ (kvs acc : List (Key × V)), (acc.map (·.1) ++ kvs.map (·.1)).Nodup → mergeK acc kvs = acc ++ kvs
  | [], acc, _ => by simp [mergeK]
  | (k, v) :: kvs, acc, h => by
    have hk : (acc.any fun kv => decide (kv.1 = k)) = false := by
      rw [List.any_eq_false]
      intro kv hkv
      rw [List.nodup_append] at h
      have := h.2.2 kv.1 (List.mem_map.mpr ⟨kv, hkv, rfl⟩) k (by simp)
      simpa using this
    show mergeK (putK acc k v) kvs = _
    have : putK acc k v = acc ++ [(k, v)] := by
      unfold putK
      rw [hk]
      rfl
    rw [this, mergeK_app kvs]
    · simp
    · rw [List.map_append, List.append_assoc]
      exact h
theorem putK_zip {R : Str → V → Prop} {p : Str} {v : V} : ∀ {L : List Str} {rs : List V}, Paired R L rs → p ∈ L → ∃ rs', putK ((L.map fun p => (Sum.inr p : Key)).zip rs) (Sum.inr p) v = (L.map fun p => (Sum.inr p : Key)).zip rs' ∧ Paired (fun q r => if q = p then r = v else R q r) L rs' := by
  intro L rs h hp
  have hany : (((L.map fun p => (Sum.inr p : Key)).zip rs).any fun kv => decide (kv.1 = Sum.inr p)) = true := by
    rw [List.any_eq_true]
    induction h with
    | nil => cases hp
    | cons r _ ih =>
      rename_i a b l ys t
      by_cases e : a = p
      · exact ⟨(Sum.inr a, b), by simp, by simp [e]⟩
      · obtain ⟨kv, h1, h2⟩ := ih ((List.mem_cons.mp hp).resolve_left (Ne.symm e))
        exact ⟨kv, by simp only [List.map_cons, List.zip_cons_cons]; exact List.mem_cons_of_mem _ h1, h2⟩
  unfold putK
  rw [if_pos hany]
  clear hany hp
  induction h with
  | nil => exact ⟨[], rfl, .nil⟩
  | cons r _ ih =>
    rename_i a b l ys t
    obtain ⟨rs', h1, h2⟩ := ih
    refine ⟨(if a = p then v else b) :: rs', ?_, .cons ?_ h2⟩
    · simp only [List.map_cons, List.zip_cons_cons, h1]
      congr 1
      by_cases e : a = p
      · simp [e]
      · simp [e]
    · by_cases e : a = p
      · simp [e]
      · simp [e, r]
section
variable {K : PySem.W.Frag} {σ : L2.St} {B H : Hp} {te ta tb : TE}
theorem evp_catL {xs ys : List V} (ha : EvP ta σ B fun v B2 => ∃ p, v = .ref p ∧ B2 p = some (.lst xs)) (hb : ∀ B1, Ex B B1 → EvP tb σ B1 fun v B2 => ∃ p, v = .ref p ∧ B2 p = some (.lst ys)) (hz : xs.length + ys.length ≤ 1000) : EvP (tOp rCat ta tb) σ B fun v B2 => ∃ p, v = .ref p ∧ B2 p = some (.lst (xs ++ ys)) :=
  evp_op mon_lst ha hb fun x y B1 H1 e ⟨p, hx, hp⟩ ⟨q, hy, hq⟩ e1 Q k => by
    subst hx hy
    exact ⟨p, q, xs, ys, rfl, rfl, e1 _ _ hp, e1 _ _ hq, sz_of (Nat.le_trans hz (by decide)), fun t ht => k _ _ _ ((Gr.refl e1).new ht) ⟨t, rfl, upd_same⟩⟩
/-- a comprehension without if -/
theorem evp_lcY {α : Type} {l : List α} {wi : TI} {g : TG} {vs : List Nat} {J : It} {G : Hp → Prop} {Y : Nat → Hp → V → Hp → Prop} {st : α → L2.St} {P : α → V → Hp → Prop} (hz : l.length ≤ 90000) (hi : EvI wi σ B J) (w : Walk J l.length G Y) (hG : ∀ H1, Ex B H1 → G H1)
    (hb : Bnd Y g (L2.wipe σ vs) B l st) (hst : ∀ a ∈ l, L2.wipe (st a) vs = L2.wipe σ vs) (hm : ∀ a ∈ l, Mon (P a)) (he : ∀ a ∈ l, EvP te (st a) B (P a)) : EvP (tLc wi g tYes te vs) σ B fun v B2 => ∃ p ys, v = .ref p ∧ B2 p = some (.lst ys) ∧ Paired (fun a y => P a y B2) l ys :=
  (evp_lc (q := fun _ => true) hz hi w hG hb hst (fun _ _ H1 e Q q => q H1 (Ex.refl H1)) hm fun a ha _ => he a ha).imp fun v B2 _ ⟨p, ys, h1, h2, h3⟩ => ⟨p, ys, h1, h2, by rw [List.filter_eq_self.mpr fun _ _ => rfl] at h3; exact h3⟩
/-- dict of a list of pairs -/
theorem evp_dictP {L : List Str} {R : Str → V → Hp → Prop} (hR : ∀ p, Mon (R p)) (h : EvP te σ B fun v B2 => ∃ p ys, v = .ref p ∧ B2 p = some (.lst ys) ∧ Paired (fun p y => ∃ t r, y = .ref t ∧ SqT K B2 t [.str p, r] ∧ R p r B2) L ys) (hnd : L.Nodup) :
    EvP (tCB (rDictP K) (tCons te tNil)) σ B fun v B2 => ∃ d rs, v = .ref d ∧ B d = none ∧ B2 d = some (.dK ((L.map fun p => (Sum.inr p : Key)).zip rs)) ∧ Paired (fun p r => R p r B2) L rs := fun H1 e Q q =>
  h H1 e _ fun v B2 H2 g ⟨p, ys, hv, hp, hys⟩ => by
    subst hv
    have key : ∀ {L : List Str} {ys : List V}, Paired (fun p y => ∃ t r, y = .ref t ∧ SqT K B2 t [.str p, r] ∧ R p r B2) L ys → ∃ (ps : List Addr) (rs : List V), ys = ps.map V.ref ∧ Paired (fun a kv => SqT K B2 a [kV kv.1, kv.2]) ps ((L.map fun p => (Sum.inr p : Key)).zip rs) ∧ Paired (fun p r => R p r B2) L rs ∧ rs.length = L.length := by
      intro L ys h
      induction h with
      | nil => exact ⟨[], [], rfl, .nil, .nil, rfl⟩
      | cons r _ ih =>
        obtain ⟨t, r, rfl, h1, h2⟩ := r
        obtain ⟨ps, rs, rfl, i1, i2, i3⟩ := ih
        exact ⟨t :: ps, r :: rs, rfl, .cons h1 i1, .cons h2 i2, by simp [i3]⟩
    obtain ⟨ps, rs, rfl, k1, k2, k3⟩ := key hys
    refine ⟨p, ps, _, rfl, sq_of (g.bh _ _ hp), paired_imp (fun _ _ z => ex_t g.bh z) k1, fun d hd => ?_⟩
    have hk : (((L.map fun p => (Sum.inr p : Key)).zip rs).map (·.1)) = L.map fun p => (Sum.inr p : Key) := List.map_fst_zip (by rw [List.length_map]; omega)
    rw [mergeK_app _ [] (by rw [hk]; simpa using nodup_inr hnd), List.nil_append]
    exact q _ _ _ (g.new hd) ⟨d, rs, rfl, fresh_back (g.b.trans g.bh) hd, upd_same, paired_imp (fun p r z => hR p r _ _ (Ex.new (fresh_back g.bh hd)) z) k2⟩
end
section
variable {P : Program} {w : World} {K : PySem.W.Frag} {mg : Str → Option Value} {base : Heap}
structure DRow where
  a : Addr
  L : List Str
  b : Addr
  N : List (Str × Str)
def RowsT (K : PySem.W.Frag) (B : Hp) (d : Addr) (L : List Str) (ρ : Str → List Str) : Prop := ∃ rs, B d = some (.dK ((L.map fun p => (Sum.inr p : Key)).zip rs)) ∧ Paired (TupV ρ K B) L rs
def sp_l_rows (K : PySem.W.Frag) : Sp := Prm (δ := DRow) (fun d vs B => vs = [.ref d.a, .ref d.b] ∧ SqS K B d.a (d.L.map V.str) ∧ PairsAt K B d.b d.N ∧ d.L.Nodup ∧ d.L.length ≤ 100 ∧ d.N.length ≤ 1000 ∧ ∀ x ∈ d.N, x.1 ∈ d.L ∧ x.2 ∈ d.L) (fun d v B => ∃ q, v = .ref q ∧ RowsT K B q d.L (lawRow d.L d.N))
theorem c_l_rows (F : Facts K mg) : Cal P w K mg base 1 "_law_rows" ["_law_pegs", "_law_wants"] (sp_l_rows K) := by
  obtain ⟨fd, D⟩ := F.d_l_rows
  refine mkCal D sc_l_rows F.g_l_rows (fun _ _ _ _ _ _ us hl => match us, hl with | [_, _], _ => rfl) (fun vs H Q E ⟨i, B, _, e, _⟩ => by rw [e.1]; rfl) fun cdv A outer s H vs Q E hr h => ⟨_, (pss_cons (ps_set (i := 2) sc_l_rows.nd rfl (by first | exact .inl rfl | exact .inr rfl) (pe_callTy (call_dictP_k (K := K) rfl rfl) rfl F.f_dict (by decide +kernel) (pa_cons (pe_lc rfl sc_l_rows.nd (pi_alt (pi_tup_k (K := K) rfl (pv 0)) (pi_list_k (K := K) rfl (pv 0))) (blkOk_by (own := [("_law_peg", 4)]) (N := N_l_rows) (sc := defScope s_l_rows) (by decide +kernel)) (fun _ _ _ _ _ => (pg_name (i := 4) sc_l_rows.nd rfl (by first | exact .inl rfl | exact .inr rfl))) (fun _ _ _ _ _ => pts_nil) (fun _ _ _ _ _ => (pe_tup (pa_cons (pv 4) (pa_cons (pe_lst (pa_cons (pv 4) pa_nil)) pa_nil))))) pa_nil)))
      (pss_cons (ps_for PassesOwn.never rfl (pi_range1 rfl F.f_range (pa_cons (pe_callB (call_len_k (K := K) rfl) rfl F.f_len (by decide +kernel) (pa_cons (pv 0) pa_nil)) pa_nil)) (pg_name (i := 3) sc_l_rows.nd rfl (by first | exact .inl rfl | exact .inr rfl)) (pss_one (ps_for PassesOwn.never rfl (pi_alt (pi_tup_k (K := K) rfl (pv 1)) (pi_list_k (K := K) rfl (pv 1))) (pg_tup_k (K := K) (n := 2) rfl rfl (pgs_cons (pg_name (i := 4) sc_l_rows.nd rfl (by first | exact .inl rfl | exact .inr rfl)) (pgs_cons (pg_name (i := 5) sc_l_rows.nd rfl (by first | exact .inl rfl | exact .inr rfl)) pgs_nil))) (pss_one (ps_asg (pe_op op_cat (pe_dget (hu_of hr) (pv 2) (pv 4) (fun _ _ => rfl)) (pe_lc rfl sc_l_rows.nd (pi_list_k (K := K) rfl (pe_dget (hu_of hr) (pv 2) (pv 5) (fun _ _ => rfl))) (blkOk_by (own := [("_law_one", 6)]) (N := N_l_rows) (sc := defScope s_l_rows) (by decide +kernel)) (fun _ _ _ _ _ => (pg_name (i := 6) sc_l_rows.nd rfl (by first | exact .inl rfl | exact .inr rfl))) (fun _ _ _ _ _ => (pts_one (pt_cmpR (op_notIn_seq_k (K := K) rfl) (pv 6) (pe_dget (hu_of hr) (pv 2) (pv 4) (fun _ _ => rfl)) rfl))) (fun _ _ _ _ _ => (pv 6)))) (pg_sub (pv 2) (pv 4) (set_dict (hu_of hr))))))))
      (pss_one (ps_ret (pe_callTy (call_dictP_k (K := K) rfl rfl) rfl F.f_dict (by decide +kernel) (pa_cons (pe_lc rfl sc_l_rows.nd (pi_alt (pi_tup_k (K := K) rfl (pv 0)) (pi_list_k (K := K) rfl (pv 0))) (blkOk_by (own := [("_law_peg", 4)]) (N := N_l_rows) (sc := defScope s_l_rows) (by decide +kernel)) (fun _ _ _ _ _ => (pg_name (i := 4) sc_l_rows.nd rfl (by first | exact .inl rfl | exact .inr rfl))) (fun _ _ _ _ _ => pts_nil) (fun _ _ _ _ _ => (pe_tup (pa_cons (pv 4) (pa_cons (pe_callTy (call_tuple_of_k (K := K) rfl) rfl F.f_tuple (by decide +kernel) (pa_cons (pe_lc rfl sc_l_rows.nd (pi_alt (pi_tup_k (K := K) rfl (pv 0)) (pi_list_k (K := K) rfl (pv 0))) (blkOk_by (own := [("_law_one", 6)]) (by first | rfl | kernel_rfl)) (fun _ _ _ _ _ => (pg_name (i := 6) sc_l_rows.nd rfl (by first | exact .inl rfl | exact .inr rfl))) (fun _ _ _ _ _ => (pts_one (pt_cmpR (op_in_seq_k (K := K) rfl) (pv 6) (pe_dget (hu_of hr) (pv 2) (pv 4) (fun _ _ => rfl)) rfl))) (fun _ _ _ _ _ => (pv 6))) pa_nil)) pa_nil))))) pa_nil)))))), ?_⟩
  obtain ⟨⟨a, L, b, N⟩, B, hB, ⟨rfl, hL, ⟨xs, hN, hNp⟩, hnd, hz, hz2, hmem⟩, q⟩ := h
  dsimp only at hL hN hNp hnd hz hz2 hmem q
  obtain ⟨J, hJ, hwJ⟩ := ei_seqS (te := tVar 0) (σ := L2.start N_l_rows [.ref a, .ref b]) (B := B) (ev_var rfl) hL
  rw [List.length_map] at hwJ
  refine q_asgP hB (evp_dictP (L := L) (R := fun p r B => RowV (fun p => [p]) B p r) (fun p v H H' e h => h.ex e) (evp_lcY (l := L) (P := fun p v B2 => ∃ t r, v = .ref t ∧ SqT K B2 t [.str p, r] ∧ RowV (fun p => [p]) B2 p r) (st := fun p => [some (.ref a), some (.ref b), none, none, some (.str p), none, none]) (by omega) hJ hwJ (fun _ e => e) bnd_map (fun _ _ => rfl) (fun p _ v H H' e ⟨t, r, h1, h2, h3⟩ => ⟨t, r, h1, ex_t e h2, h3.ex e⟩) fun p hp => ?_) hnd) fun v B1 H1 g1 ⟨d, rs, hv, hd0, hd, hrs⟩ => ?_
  · refine (evp_tup (eap_cons mon_eq (ev_p (ev_var rfl)) fun B1 e1 => eap_cons (P := fun v B => ∃ p', v = .ref p' ∧ B p' = some (.lst [.str p])) mon_lst (el_p (el_lst (ea_cons (ev_var rfl) ea_nil) (by show 1 ≤ 100000; decide))) fun _ _ => eap_nil) ?_ ?_).imp fun v B2 _ ⟨t, vs, hv, ht, v1, vs1, w1, hv1, v2, vs2, w2, ⟨r, hv2, hr⟩, w3⟩ => ?_
    · rintro vs H1 ⟨v, vs1, rfl, _, v2, vs2, rfl, _, rfl⟩
      show 2 ≤ 1000
      decide
    · rintro vs H1 H2 e ⟨v, vs1, h1, h2, v2, vs2, h4, ⟨p, h5, h6⟩, h9⟩
      exact ⟨v, vs1, h1, h2, v2, vs2, h4, ⟨p, h5, e _ _ h6⟩, h9⟩
    · subst w1 hv1 w2 hv2 w3
      exact ⟨t, _, hv, st_of ht, r, rfl, hr⟩
  · subst hv
    -- the dict changes from now on
    have hH1d := g1.bh _ _ hd
    have hHd : H d = none := by
      cases e : H d with
      | none => rfl
      | some o => exact absurd hd (by rw [g1.av d (by rw [e]; simp) hd0]; simp)
    have hBd : Ex B (del d B1) := del_ex g1.b hd0
    have g0 : GrX d B H (del d B1) H1 := ⟨hBd, del_le.trans g1.bh, fun x o _ h => g1.h _ _ h, by rw [hH1d]; simp, fun x h1 h2 => by
      have := g1.av x h1 h2
      unfold del
      split
      · rfl
      · exact this⟩
    have hrs0 : Paired (RowV (rounds N 0) (del d B1)) L rs := paired_imp (fun p r ⟨t, h1, h2⟩ => ⟨t, h1, by
      have : t ≠ d := fun z => by rw [z, hd] at h2; cases h2
      unfold del
      rw [if_neg this]
      exact h2⟩) hrs
    have hlen : ∀ (σ : L2.St) (B' : Hp), Ex B B' → σ[0]? = some (some (.ref a)) → Ev (tCB (rLn K) (tCons (tVar 0) tNil)) σ B' (.int (L.length : Nat)) := fun σ B' e hσ => by
      have := ev_lenSq (K := K) (ev_var hσ) (hL.ex e)
      rwa [List.length_map] at this
    have hinv := rounds_inv hmem
    have hw0 := walk_range (lo := 0) (n := L.length)
    refine q_for (B := del d B1) g0.bh (ei_range1 (n := L.length) (ea_cons (hlen _ _ hBd rfl) ea_nil) (by omega)) hw0 (fun i σ' H' => ∃ Bi s3 s4 s5 rs, σ' = [some (.ref a), some (.ref b), some (.ref d), s3, s4, s5, none] ∧ GrX d B H Bi H' ∧ Bi d = none ∧ H' d = some (.dK ((L.map fun p => (Sum.inr p : Key)).zip rs)) ∧ Paired (RowV (rounds N i) Bi) L rs)
      (fun H2 e2 => ⟨del d B1, none, none, none, rs, rfl, g0.up e2, del_at, e2 _ _ hH1d, hrs0⟩) (fun i σ' H' _ _ => trivial) (fun i x σ' H2 H2' hlt ⟨Bi, s3, s4, s5, rs, hσ, gi, hBd', hHd', hrs'⟩ y => ?_) fun σ' H2 ⟨Bi, s3, s4, s5, rs, hσ, gi, hBd', hHd', hrs'⟩ => ?_
    · subst hσ
      obtain ⟨rfl, rfl⟩ := y
      obtain ⟨J2, hJ2, hwJ2⟩ := ei_seqS (te := tVar 1) (σ := [some (.ref a), some (.ref b), some (.ref d), some (.int (0 + (i : Nat))), s4, s5, none]) (B := Bi) (ev_var rfl) (hN.ex gi.b)
      rw [← paired_len hNp] at hwJ2
      refine s_for gi.bh hJ2 hwJ2 (fun j σ' H' => ∃ Bj s4 s5 rs, σ' = [some (.ref a), some (.ref b), some (.ref d), some (.int (0 + (i : Nat))), s4, s5, none] ∧ GrX d B H Bj H' ∧ Ex Bi Bj ∧ Bj d = none ∧ H' d = some (.dK ((L.map fun p => (Sum.inr p : Key)).zip rs)) ∧ Paired (RowV ((N.take j).foldl (fun ρ x => stepL x ρ) (rounds N i)) Bj) L rs)
        (fun H3 e3 => ⟨Bi, s4, s5, rs, rfl, gi.up e3, Ex.refl _, hBd', e3 _ _ hHd', hrs'⟩) (fun j σ' H' _ ⟨Bj, _, _, _, _, gj, ej, _⟩ => ej.trans gj.bh) (fun j x σ' H3 H3' hlt2 ⟨Bj, s4, s5, rs, hσ, gj, ej, hBj, hHj, hrsj⟩ y => ?_) fun σ' H3 ⟨Bj, s4, s5, rs, hσ, gj, ej, hBj, hHj, hrsj⟩ => ?_
      · subst hσ
        obtain ⟨rfl, hx⟩ := y
        obtain ⟨t, rfl, ht⟩ := paired_at hNp hlt2 hx
        have ht3 := ex_t (gi.b.trans (ej.trans gj.bh)) ht
        refine ⟨t, _, rfl, ht3, rfl, _, _, rfl, _, _, rfl, rfl, ?_⟩
        obtain ⟨m1, m2⟩ := hmem _ (List.getElem_mem hlt2)
        have hρ : RowInv L ((N.take j).foldl (fun ρ x => stepL x ρ) (rounds N i)) := RowInv.fold _ _ (hinv i) fun x hx => hmem x (List.mem_of_mem_take hx)
        have enx : (N.take (j + 1)).foldl (fun ρ x => stepL x ρ) (rounds N i) = stepL N[j] ((N.take j).foldl (fun ρ x => stepL x ρ) (rounds N i)) := by
          rw [List.take_succ_eq_append_getElem hlt2, List.foldl_append]
          rfl
        rw [enx]
        generalize (N.take j).foldl (fun ρ x => stepL x ρ) (rounds N i) = ρ at hρ hrsj
        generalize N[j] = x at m1 m2
        obtain ⟨x1, x2⟩ := x
        dsimp only at m1 m2
        have eBt : Ex Bj (upd Bj d (.dK ((L.map fun p => (Sum.inr p : Key)).zip rs))) := Ex.new hBj
        have hBtH : Ex (upd Bj d (.dK ((L.map fun p => (Sum.inr p : Key)).zip rs))) H3' := fun y u h => by
          by_cases z : y = d
          · subst z; rw [upd_same] at h; rw [hHj]; exact h
          · rw [upd_ne z] at h; exact gj.bh _ _ h
        have hBtd : upd Bj d (.dK ((L.map fun p => (Sum.inr p : Key)).zip rs)) d = some (.dK ((L.map fun p => (Sum.inr p : Key)).zip rs)) := upd_same
        have hrst : Paired (RowV ρ (upd Bj d (.dK ((L.map fun p => (Sum.inr p : Key)).zip rs)))) L rs := paired_imp (fun _ _ z => z.ex eBt) hrsj
        have htd : EvP _ _ (upd Bj d (.dK ((L.map fun p => (Sum.inr p : Key)).zip rs))) (fun v B2 => ∃ p, v = .ref p ∧ B2 p = some (.lst ((ρ x1).map V.str ++ ((ρ x2).filter fun o => !decide (o ∈ ρ x1)).map V.str))) := evp_catL (ta := tDGet (tVar 2) (tVar 4)) (tb := tLc (iList K (tDGet (tVar 2) (tVar 5))) (gName 6) (tTest (tOp (rIn K true) (tVar 6) (tDGet (tVar 2) (tVar 4)))) (tVar 6) [6]) (σ := [some (.ref a), some (.ref b), some (.ref d), some (.int (0 + (i : Nat))), some (.str x1), some (.str x2), none]) ?c1 (fun B6 e6 => ?c2) ?c3
        case c1 =>
          obtain ⟨r, hv, q1, rfl, hq1⟩ := zip_get hrst m1
          exact (ev_p (ev_dget (ev_var rfl) (ev_var rfl) (.inl hBtd) hv)).imp fun v B2 e hv' => ⟨q1, hv', e _ _ hq1⟩
        case c2 =>
          obtain ⟨r, hv, q1, rfl, hq1⟩ := zip_get hrst m1
          obtain ⟨r2, hv2, q2, rfl, hq2⟩ := zip_get hrst m2
          have hd6 := e6 _ _ hBtd
          have hw6 := walk_L (K := K) (sq_of (e6 _ _ hq2))
          rw [List.length_map] at hw6
          have hl2 := hρ.len m2
          refine (evp_lcF (l := ρ x2) (f := V.str) (q := fun o => !decide (o ∈ ρ x1)) (st := fun o => [some (.ref a), some (.ref b), some (.ref d), some (.int (0 + (i : Nat))), some (.str x1), some (.str x2), some (.str o)]) (by omega) (ei_list (ev_dget (ev_var rfl) (ev_var rfl) (.inl hd6) hv2) (sq_of (e6 _ _ hq2))) hw6 (fun _ e => e) bnd_map (fun _ _ => rfl) (fun o _ => et_test (ev_nin (ev_var rfl) (ev_dget (ev_var rfl) (ev_var rfl) (.inl hd6) hv) (sqs_l (sq_of (e6 _ _ hq1))))) fun o _ _ => ev_var rfl)
        case c3 =>
          have h1 := hρ.len m1
          have h2 := hρ.len m2
          have h3 := List.length_filter_le (fun o => !decide (o ∈ ρ x1)) (ρ x2)
          rw [List.length_map, List.length_map]
          omega
        refine htd H3' hBtH _ fun v B5 H5 g5 ⟨p, hv, hp⟩ => ?_
        subst hv
        have hB5d := g5.b _ _ hBtd
        have hH5d := g5.bh _ _ hB5d
        obtain ⟨rs', hput, hrs'⟩ := putK_zip (p := x1) (v := .ref p) hrst m1
        have hkl : ((L.map fun p => (Sum.inr p : Key)).zip rs).length ≤ 100 := by
          rw [List.length_zip, List.length_map]
          omega
        refine ⟨_, rfl, _, rfl, d, _, rfl, DPut.k (k := Sum.inr x1) hH5d (sz_lt (by omega)), del d B5, _, _, rs', rfl, ⟨gj.b.trans (del_ex (eBt.trans g5.b) hBj), del_mut g5.bh, fun y u h e => ?_, by rw [upd_same]; simp, fun y h1 h2 => ?_⟩, del_ex (ej.trans (eBt.trans g5.b)) hBd', del_at, by rw [upd_same, hput], ?_⟩
        · rw [upd_ne h]
          exact g5.h _ _ (gj.h _ _ h e)
        · unfold del
          split
          · rfl
          · rename_i hyd
            refine g5.av y (gj.some h1) ?_
            rw [upd_ne hyd]
            exact gj.av y h1 h2
        · refine paired_imp (fun q r z => ?_) hrs'
          have dl : ∀ {y : Addr} {xs : List V}, B5 y = some (.lst xs) → del d B5 y = some (.lst xs) := fun {y xs} h => by
            have : y ≠ d := fun z => by rw [z, hB5d] at h; cases h
            unfold del
            rw [if_neg this]
            exact h
          by_cases e : q = x1
          · rw [if_pos e] at z
            refine ⟨p, z, ?_⟩
            unfold stepL
            rw [if_pos e, List.map_append]
            exact dl hp
          · rw [if_neg e] at z
            obtain ⟨y, h1, h2⟩ := z
            refine ⟨y, h1, ?_⟩
            unfold stepL
            rw [if_neg e]
            exact dl (g5.b _ _ h2)
      · rw [List.take_length] at hrsj
        exact ⟨Bj, _, s4, s5, rs, hσ, gj, hBj, hHj, hrsj⟩
    · subst hσ
      have eBt : Ex Bi (upd Bi d (.dK ((L.map fun p => (Sum.inr p : Key)).zip rs))) := Ex.new hBd'
      have gt : Gr B H (upd Bi d (.dK ((L.map fun p => (Sum.inr p : Key)).zip rs))) H2 := ⟨gi.b.trans eBt, fun y u h => by
        by_cases z : y = d
        · subst z; rw [upd_same] at h; rw [hHd']; exact h
        · rw [upd_ne z] at h; exact gi.bh _ _ h, fun y u h => gi.h _ _ (fun z => by rw [z, hHd] at h; cases h) h, fun y h1 h2 => by
        have : y ≠ d := fun z => h1 (z ▸ hHd)
        rw [upd_ne this]
        exact gi.av y h1 h2⟩
      have hBtd : upd Bi d (.dK ((L.map fun p => (Sum.inr p : Key)).zip rs)) d = some (.dK ((L.map fun p => (Sum.inr p : Key)).zip rs)) := upd_same
      have hrst : Paired (RowV (rounds N L.length) (upd Bi d (.dK ((L.map fun p => (Sum.inr p : Key)).zip rs)))) L rs := paired_imp (fun _ _ z => z.ex eBt) hrs'
      generalize upd Bi d (.dK ((L.map fun p => (Sum.inr p : Key)).zip rs)) = Bt at gt hBtd hrst
      obtain ⟨J3, hJ3, hwJ3⟩ := ei_seqS (te := tVar 0) (σ := [some (.ref a), some (.ref b), some (.ref d), s3, s4, s5, none]) (B := Bt) (ev_var rfl) (hL.ex gt.b)
      rw [List.length_map] at hwJ3
      refine s_retP gt.bh (P := fun v B => ∃ q, v = .ref q ∧ RowsT K B q L (lawRow L N)) ((evp_dictP (L := L) (R := fun p r B => TupV (lawRow L N) K B p r) (fun p v H H' e h => h.ex e) (evp_lcY (l := L) (P := fun p v B2 => ∃ t r, v = .ref t ∧ SqT K B2 t [.str p, r] ∧ TupV (lawRow L N) K B2 p r) (st := fun p => [some (.ref a), some (.ref b), some (.ref d), s3, some (.str p), s5, none]) (by omega) hJ3 hwJ3 (fun _ e => e) bnd_map (fun _ _ => rfl) (fun p _ v H H' e ⟨t, r, h1, h2, h3⟩ => ⟨t, r, h1, ex_t e h2, h3.ex e⟩) fun p hp => ?_) hnd).imp fun v B2 _ ⟨d2, rs2, h1, _, h3, h4⟩ => ⟨d2, h1, rs2, h3, h4⟩) fun v B5 H5 g5 h => q v B5 H5 (gt.trans g5) h
      refine (evp_tup (eap_cons mon_eq (ev_p (ev_var rfl)) fun B6 e6 => eap_cons (P := fun v B => ∃ p', v = .ref p' ∧ B p' = some (.tup ((lawRow L N p).map V.str))) mon_tup (evp_tupOf ?_) fun _ _ => eap_nil) ?_ ?_).imp fun v B2 _ ⟨t, vs, hv, ht, v1, vs1, w1, hv1, v2, vs2, w2, ⟨r, hv2, hr⟩, w3⟩ => ?_
      · obtain ⟨r, hv, q1, rfl, hq1⟩ := zip_get hrst hp
        obtain ⟨J4, hJ4, hwJ4⟩ := ei_seqS (te := tVar 0) (σ := [some (.ref a), some (.ref b), some (.ref d), s3, some (.str p), s5, none]) (B := B6) (ev_var rfl) (hL.ex (gt.b.trans e6))
        rw [List.length_map] at hwJ4
        exact evp_lcF (l := L) (f := V.str) (q := fun o => decide (o ∈ rounds N L.length p)) (st := fun o => [some (.ref a), some (.ref b), some (.ref d), s3, some (.str p), s5, some (.str o)]) (by omega) hJ4 hwJ4 (fun _ e => e) bnd_map (fun _ _ => rfl) (fun o _ => et_test (ev_in (ev_var rfl) (ev_dget (ev_var rfl) (ev_var rfl) (.inl (e6 _ _ hBtd)) hv) (sqs_l (sq_of (e6 _ _ hq1))))) fun o _ _ => ev_var rfl
      · rintro vs H1 ⟨v, vs1, rfl, _, v2, vs2, rfl, _, rfl⟩
        show 2 ≤ 1000
        decide
      · rintro vs H1 H2 e ⟨v, vs1, h1, h2, v2, vs2, h4, ⟨p, h5, h6⟩, h9⟩
        exact ⟨v, vs1, h1, h2, v2, vs2, h4, ⟨p, h5, e _ _ h6⟩, h9⟩
      · subst w1 hv1 w2 hv2 w3
        exact ⟨t, _, hv, st_of ht, r, rfl, st_of hr⟩
end
end NP
end

section
set_option maxHeartbeats 4000000
namespace NP
open PySem PySem.Spec PyProof.Rows L2 Evl
def bitB (m k : Nat) : Bool := decide (m / 2 ^ k % 2 = 1)
def spots (n m : Nat) : List Nat := (List.range n).filter fun k => bitB m k
def maskRow (L : List Str) (m : Nat) : List Str := (spots L.length m).map fun k => L.getD k default
def masks (d : Parts) : List Nat := (List.range (2 ^ d.L.length)).filter fun m => isStand d.N d.Bs (maskRow d.L m)
section
variable {K : PySem.W.Frag} {σ : L2.St} {B H : Hp} {te : TE}
def itemsOf (B : Hp) : V → List V
  | .ref t => match B t with
    | some (.tup xs) => xs
    | _ => []
  | _ => []
def intOf : V → Int
  | .int i => i
  | _ => 0
def kd3 (B : Hp) (y : V) : PyData := .tuple [.int (intOf ((itemsOf B y).getD 0 .non)), .tuple ((itemsOf B ((itemsOf B y).getD 1 .non)).map fun v => .int (intOf v))]
def SpotP (B : Hp) (n : Nat) (v : V) : Prop := ∃ (t s : Addr) (c : Int) (is : List Int), v = .ref t ∧ B t = some (.tup [.int c, .ref s]) ∧ B s = some (.tup (is.map V.int)) ∧ is.length ≤ n ∧ ∀ z ∈ is, 0 ≤ z ∧ z < n
theorem SpotP.ex {n : Nat} {v : V} {B1 : Hp} (h : SpotP B n v) (e : Ex B B1) : SpotP B1 n v := let ⟨t, s, c, is, h1, h2, h3, h4⟩ := h; ⟨t, s, c, is, h1, e _ _ h2, e _ _ h3, h4⟩
theorem evp_sorted {a : Addr} {xs : List V} {kd : V → PyData} (h : Ev te σ B (.ref a)) (hs : SqL K B a xs) (hd : ∀ x ∈ xs, Dp K B x (kd x)) (hal : PySem.W.AllAlike (xs.map kd)) (hsk : PySem.W.Sortable (xs.map kd)) (hdep : ∀ x ∈ xs, (kd x).depth ≤ 20) : EvIP (iList K (tCB (rSortedD K) (tCons te tNil))) σ B fun J B2 => ∃ p ys, J = Itl K p ∧ SqL K B2 p ys ∧ ys.Perm xs := fun H1 e R q =>
  h H1 e _ fun H2 e2 => ⟨a, xs, kd, rfl, ex_l (e.trans e2) hs, fun x hx => dp_ex (hd x hx) (e.trans e2), hal, hsk, hdep, fun ys p hp hq => ⟨p, rfl, ⟨ys, sq_of upd_same⟩, q _ _ _ ((Gr.ex e e2).new hq) ⟨p, ys, rfl, sq_of upd_same, hp⟩⟩⟩
end
section
variable {P : Program} {w : World} {K : PySem.W.Frag} {mg : Str → Option Value} {base : Heap}
def sp_l_sets (K : PySem.W.Frag) : Sp := Prm (δ := DPt) (fun d vs B => vs = [.ref d.a] ∧ PartsAt K B d.a d.d ∧ d.d.L.length ≤ 6 ∧ d.d.N.length ≤ 1000 ∧ d.d.Bs.length ≤ 1000) (fun d v B => ∃ p ys, v = .ref p ∧ B p = some (.lst ys) ∧ ys.length = (masks d.d).length)
theorem c_l_sets (F : Facts K mg) : Cal P w K mg base 3 "_law_sets" ["_law_parts_here"] (sp_l_sets K) := by
  obtain ⟨fd, D⟩ := F.d_l_sets
  have c_l_is_stand := c_l_is_stand (P := P) (w := w) (base := base) F
  refine mkCal D sc_l_sets F.g_l_sets (fun _ _ _ _ _ _ us hl => match us, hl with | [_], _ => rfl) (fun vs H Q E ⟨i, B, _, e, _⟩ => by rw [e.1]; rfl) fun cdv A outer s H vs Q E hr h => ⟨_, (pss_cons (ps_asg (pe_tup (pa_cons (pe_ix (ix_tup_k (K := K) rfl) (pv 0) pe_int (fun _ _ => rfl)) (pa_cons (pe_lst pa_nil) pa_nil))) (pg_tup_k (K := K) (n := 2) rfl rfl (pgs_cons (pg_name (i := 1) sc_l_sets.nd rfl (by first | exact .inl rfl | exact .inr rfl)) (pgs_cons (pg_name (i := 2) sc_l_sets.nd rfl (by first | exact .inl rfl | exact .inr rfl)) pgs_nil))))
      (pss_cons (ps_for PassesOwn.never rfl (pi_range1 rfl F.f_range (pa_cons (pe_op op_shlW pe_int (pe_callB (call_len_k (K := K) rfl) rfl F.f_len (by decide +kernel) (pa_cons (pv 1) pa_nil))) pa_nil)) (pg_name (i := 3) sc_l_sets.nd rfl (by first | exact .inl rfl | exact .inr rfl)) (pss_cons (ps_set (i := 4) sc_l_sets.nd rfl (by first | exact .inl rfl | exact .inr rfl) (pe_callTy (call_tuple_of_k (K := K) rfl) rfl F.f_tuple (by decide +kernel) (pa_cons (pe_lc rfl sc_l_sets.nd (pi_range1 rfl F.f_range (pa_cons (pe_callB (call_len_k (K := K) rfl) rfl F.f_len (by decide +kernel) (pa_cons (pv 1) pa_nil)) pa_nil)) (blkOk_by (own := [("_law_k", 5)]) (N := N_l_sets) (sc := defScope s_l_sets) (by decide +kernel)) (fun _ _ _ _ _ => (pg_name (i := 5) sc_l_sets.nd rfl (by first | exact .inl rfl | exact .inr rfl))) (fun _ _ _ _ _ => (pts_one (pt_cmpR op_eq (pe_op op_andM (pe_op op_shr (pv 3) (pv 5)) pe_int) pe_int (nomark _)))) (fun _ _ _ _ _ => (pv 5))) pa_nil)))
      (pss_one (ps_if (pt_val (pe_cal c_l_is_stand hr (by decide) rfl (pa_cons (pv 0) (pa_cons (pe_lc rfl sc_l_sets.nd (pi_tup_k (K := K) rfl (pv 4)) (blkOk_by (own := [("_law_k", 5)]) (N := N_l_sets) (sc := defScope s_l_sets) (by decide +kernel)) (fun _ _ _ _ _ => (pg_name (i := 5) sc_l_sets.nd rfl (by first | exact .inl rfl | exact .inr rfl))) (fun _ _ _ _ _ => pts_nil) (fun _ _ _ _ _ => (pe_ix (ix_tup_k (K := K) rfl) (pv 1) (pv 5) (fun _ _ => rfl)))) pa_nil)))) (pss_one (ps_expr (pe_bm_k (K := K) rfl PySem.F.plainAttrs_list PySem.F.slot_list_append PySem.F.type_list_append mt_append (pv 2) (pa_cons (pe_tup (pa_cons (pe_callB (call_len_k (K := K) rfl) rfl F.f_len (by decide +kernel) (pa_cons (pv 4) pa_nil)) (pa_cons (pv 4) pa_nil))) pa_nil)))) pss_nil))))
      (pss_one (ps_ret (pe_lc rfl sc_l_sets.nd (pi_list_k (K := K) rfl (pe_callB (cr_sortedD_k (K := K) rfl hr.units) rfl F.f_sorted (by decide +kernel) (pa_cons (pv 2) pa_nil))) (blkOk_by (own := [("_law_many", 6), ("_law_spots", 4)]) (N := N_l_sets) (sc := defScope s_l_sets) (by decide +kernel)) (fun _ _ _ _ _ => (pg_tup_k (K := K) (n := 2) rfl rfl (pgs_cons (pg_name (i := 6) sc_l_sets.nd rfl (by first | exact .inl rfl | exact .inr rfl)) (pgs_cons (pg_name (i := 4) sc_l_sets.nd rfl (by first | exact .inl rfl | exact .inr rfl)) pgs_nil)))) (fun _ _ _ _ _ => pts_nil) (fun _ _ _ _ _ => (pe_callTy (call_tuple_of_k (K := K) rfl) rfl F.f_tuple (by decide +kernel) (pa_cons (pe_lc rfl sc_l_sets.nd (pi_tup_k (K := K) rfl (pv 4)) (blkOk_by (own := [("_law_k", 5)]) (by first | rfl | kernel_rfl)) (fun _ _ _ _ _ => (pg_name (i := 5) sc_l_sets.nd rfl (by first | exact .inl rfl | exact .inr rfl))) (fun _ _ _ _ _ => pts_nil) (fun _ _ _ _ _ => (pe_ix (ix_tup_k (K := K) rfl) (pv 1) (pv 5) (fun _ _ => rfl)))) pa_nil)))))))), ?_⟩
  obtain ⟨⟨a, d⟩, B, hB, ⟨rfl, hd, hl, hz1, hz2⟩, q⟩ := h
  dsimp only at hd hl hz1 hz2 q
  obtain ⟨pp, pn, pb, pc, h1, h2, h3, h4, h5⟩ := id hd
  -- pegs, found
  have hP1 : EvP (tTup (tCons (tOp (rIxT K) (tVar 0) (tC (.int 0))) (tCons (tLst tNil) tNil))) (L2.start N_l_sets [.ref a]) H fun v B2 => ∃ t f, v = .ref t ∧ B2 t = some (.tup [.ref pp, .ref f]) ∧ H f = none ∧ B2 f = some (.lst []) := by
    refine (evp_tup (eap_cons (P := fun v _ => v = .ref pp) mon_eq (ev_p (ev_op (ev_var rfl) ev_c (rv_ixT (ex_t hB h1) rfl))) fun B1 e1 => eap_cons (P := fun v B2 => ∃ f, v = .ref f ∧ H f = none ∧ B2 f = some (.lst [])) (fun _ _ _ e ⟨f, h1, h2, h3⟩ => ⟨f, h1, h2, e _ _ h3⟩) ((evp_lstF eap_nil (fun vs _ h => by rw [h]; exact Nat.zero_le _) fun _ _ _ _ h => h).imp fun v B2 _ ⟨p, vs, hv, hp, hp2, hvs⟩ => ⟨p, hv, fresh_back e1 hp, by rw [← hvs]; exact hp2⟩) fun _ _ => eap_nil) ?_ ?_).imp fun v B2 _ ⟨t, vs, hv, ht, v1, vs1, w1, hv1, v2, vs2, w2, ⟨f, hv2, hf0, hf⟩, w3⟩ => ?_
    · rintro vs H1 ⟨v, vs1, rfl, _, v2, vs2, rfl, _, rfl⟩
      show 2 ≤ 1000
      decide
    · rintro vs H1 H2 e ⟨v, vs1, h1, h2, v2, vs2, h4, ⟨p, h5, h6, h7⟩, h9⟩
      exact ⟨v, vs1, h1, h2, v2, vs2, h4, ⟨p, h5, h6, e _ _ h7⟩, h9⟩
    · subst w1 hv1 w2 hv2 w3
      exact ⟨t, f, hv, ht, hf0, hf⟩
  refine q_asgGP (Ex.refl H) hP1 fun v B2 H2 g2 ⟨t, f, hv, ht, hf0, hf⟩ => ?_
  subst hv
  refine ⟨t, _, rfl, st_of (g2.bh _ _ ht), rfl, _, _, rfl, _, _, rfl, rfl, ?_⟩
  have hBf : B f = none := fresh_back hB hf0
  have hHf := g2.bh _ _ hf
  have g0 : GrX f B H B H2 := ⟨Ex.refl B, hB.trans g2.h, fun x o _ e => g2.h _ _ e, by rw [hHf]; simp, fun x _ h => h⟩
  have hlen : ∀ (σ : L2.St) (B' : Hp), Ex B B' → σ[1]? = some (some (.ref pp)) → Ev (tCB (rLn K) (tCons (tVar 1) tNil)) σ B' (.int (d.L.length : Nat)) := fun σ B' e hσ => by
    have := ev_lenSq (K := K) (ev_var hσ) (sqs_t (ex_t e h2))
    rwa [List.length_map] at this
  have h64 : 2 ^ d.L.length ≤ 64 := Nat.pow_le_pow_right (n := 2) (by decide) hl
  have hsh : ∀ (σ : L2.St) (B' : Hp), Ex B B' → σ[1]? = some (some (.ref pp)) → Ev (tOp (rI CShl fun i j => .int (i * 2 ^ j.toNat)) (tC (.int 1)) (tCB (rLn K) (tCons (tVar 1) tNil))) σ B' (.int ((2 ^ d.L.length : Nat) : Int)) := fun σ B' e hσ => by
    have hb1 : Builtin.Int.intBits 1 ≤ 1 := by decide
    have hc : CShl 1 (d.L.length : Nat) := ⟨by omega, by omega⟩
    have := ev_op (σ := σ) (H := B') (ev_c (v := .int 1)) (hlen σ B' e hσ) (rv_I (C := CShl) (g := fun i j => .int (i * 2 ^ j.toNat)) hc)
    have e1 : (1 : Int) * 2 ^ ((d.L.length : Nat) : Int).toNat = ((2 ^ d.L.length : Nat) : Int) := by simp
    rw [e1] at this
    exact this
  refine q_for (B := B) (hB.trans g2.h) (ei_range1 (n := 2 ^ d.L.length) (ea_cons (hsh _ _ (Ex.refl B) rfl) ea_nil) (by omega)) walk_range (fun i σ' H' => ∃ Bi s3 s4 xs, σ' = [some (.ref a), some (.ref pp), some (.ref f), s3, s4, none, none] ∧ GrX f B H Bi H' ∧ Bi f = none ∧ H' f = some (.lst xs) ∧ xs.length = ((List.range i).filter fun m => isStand d.N d.Bs (maskRow d.L m)).length ∧ ∀ v ∈ xs, SpotP Bi d.L.length v)
    (fun H3 e3 => ⟨B, none, none, [], rfl, g0.up e3, hBf, e3 _ _ hHf, rfl, fun v h => (nomatch h)⟩) (fun i σ' H' _ _ => trivial) (fun i x σ' H3 H3' hlt ⟨Bi, s3, s4, xs, hσ, gi, hBif, hHif, hxl, hxs⟩ y => ?_) fun σ' H3 ⟨Bi, s3, s4, xs, hσ, gi, hBif, hHif, hxl, hxs⟩ => ?_
  · subst hσ
    obtain ⟨rfl, rfl⟩ := y
    have hxl64 : xs.length ≤ 64 := by
      rw [hxl]
      refine Nat.le_trans (List.length_filter_le _ _) ?_
      rw [List.length_range]
      omega
    refine q_asgP gi.bh (evp_tupOf (evp_lcF (l := List.range d.L.length) (f := fun k => V.int (k : Nat)) (q := fun k => bitB i k) (st := fun k => [some (.ref a), some (.ref pp), some (.ref f), some (.int (0 + (i : Nat))), s4, some (.int (k : Nat)), none]) (by rw [List.length_range]; omega) (ei_range1 (n := d.L.length) (ea_cons (hlen _ _ gi.b rfl) ea_nil) (by omega)) (by rw [List.length_range]; exact walk_range) (fun _ _ => trivial) bnd_range (fun _ _ => rfl) (fun k _ => ?_) fun k _ _ => ev_var rfl)) fun v B5 H5 g5 ⟨p, hv, hp⟩ => ?_
    · have := ev_eqI (ev_op (σ := [some (.ref a), some (.ref pp), some (.ref f), some (.int (0 + (i : Nat))), s4, some (.int (k : Nat)), none]) (H := Bi) (ev_op (ev_var (i := 3) rfl) (ev_var (i := 5) rfl) (rv_I (C := fun _ j => 0 ≤ j) (g := fun i j => .int (i / 2 ^ j.toNat)) (by show (0 : Int) ≤ (k : Nat); omega))) (ev_c (v := .int 1)) (r := fun x y H Q => ∃ (i : Int) (k : Nat), x = .int i ∧ y = .int (2 ^ k - 1) ∧ Q (.int (i % 2 ^ k)) H) (z := .int ((0 + (i : Nat)) / 2 ^ ((k : Nat) : Int).toNat % 2 ^ 1)) fun H1 _ Q q => ⟨_, 1, rfl, rfl, q H1 (Ex.refl H1)⟩) (ev_c (v := .int 1))
      refine et_is (et_test this) ?_
      unfold bitB
      have e1 : ((0 : Int) + (i : Nat)) / 2 ^ ((k : Nat) : Int).toNat % 2 ^ 1 = ((i / 2 ^ k % 2 : Nat) : Int) := by simp
      rw [e1]
      simp only [decide_eq_decide]
      omega
    subst hv
    have hp' : B5 p = some (.tup ((spots d.L.length i).map fun k => V.int (k : Nat))) := hp
    have hd5 := hd.ex (gi.b.trans g5.b)
    have h25 := ex_t (gi.b.trans g5.b) h2
    have hB5f : B5 f = none := g5.av f (by rw [hHif]; simp) hBif
    have hH5f := g5.h _ _ hHif
    have hsl : (spots d.L.length i).length ≤ d.L.length := by
      refine Nat.le_trans (List.length_filter_le _ _) ?_
      rw [List.length_range]
      exact Nat.le_refl _
    have hsm : ∀ k ∈ spots d.L.length i, k < d.L.length := fun k hk => List.mem_range.mp (List.mem_filter.mp hk).1
    have hwp := walk_T (K := K) (st_of hp')
    rw [List.length_map] at hwp
    have ht : Ev (tCall (sp_l_is_stand K) [] L2.E0 (tCons (tVar 0) (tCons (tLc (iTup K (tVar 4)) (gName 5) tYes (tOp (rIxT K) (tVar 1) (tVar 5)) [5]) tNil))) [some (.ref a), some (.ref pp), some (.ref f), some (.int (0 + (i : Nat))), some (.ref p), none, none] B5 (.bl (isStand d.N d.Bs (maskRow d.L i))) := (evp_callP (P := fun v _ => v = .bl (isStand d.N d.Bs (maskRow d.L i))) (eap_cons (P := fun v _ => v = .ref a) mon_eq (ev_p (ev_var rfl)) fun B6 e6 => eap_cons (P := fun v B => ∃ r, v = .ref r ∧ B r = some (.lst ((maskRow d.L i).map V.str))) mon_lst ((evp_lcM (l := spots d.L.length i) (f := fun k => V.str (d.L.getD k default)) (st := fun k => [some (.ref a), some (.ref pp), some (.ref f), some (.int (0 + (i : Nat))), some (.ref p), some (.int (k : Nat)), none]) (by omega) (ei_tup (ev_var rfl) (st_of (e6 _ _ hp'))) (hwp.mono (fun H e => e6.trans e) fun _ _ _ _ _ _ y => y) (fun _ e => e) (bnd_map (f := fun k : Nat => V.int (k : Nat))) (fun _ _ => rfl) fun k hk => ev_op (ev_var rfl) (ev_var rfl) (rv_ixT (ex_t e6 h25) (atI_nat (by
        have := hsm k hk
        rw [List.getElem?_map, List.getElem?_eq_getElem this, List.getD_eq_getElem?_getD, List.getElem?_eq_getElem this]
        rfl)))).imp fun v B2 _ ⟨r, hv, hr⟩ => ⟨r, hv, by unfold maskRow; rw [List.map_map]; exact hr⟩) fun _ _ => eap_nil) fun vs B6 e6 ⟨v1, vs1, w1, hv1, v2, vs2, w2, ⟨r, hv2, hr⟩, w3⟩ => by
        subst w1 hv1 w2 hv2 w3
        exact ⟨⟨a, d, r, maskRow d.L i⟩, ⟨rfl, hd5.ex e6, sq_of hr, hz1, hz2⟩, fun v B2 _ h => h⟩).v
    have hfs : ((List.range (i + 1)).filter fun m => isStand d.N d.Bs (maskRow d.L m)).length = ((List.range i).filter fun m => isStand d.N d.Bs (maskRow d.L m)).length + (if isStand d.N d.Bs (maskRow d.L i) then 1 else 0) := by
      rw [List.range_succ, List.filter_append, List.length_append]
      congr 1
      cases h : isStand d.N d.Bs (maskRow d.L i) <;> simp [h]
    have g15 : GrX f B H B5 H5 := ⟨gi.b.trans g5.b, g5.bh, fun x o h e => g5.h _ _ (gi.h _ _ h e), ex_some g5.h gi.x2, fun x h1 h2 => g5.av x (gi.some h1) (gi.av x h1 h2)⟩
    have hxs5 : ∀ v ∈ xs, SpotP B5 d.L.length v := fun v hv => (hxs v hv).ex g5.b
    refine s_if (fun H1 e Q q => et_B ht H1 (g5.bh.trans e) Q q) (fun hb H6 e6 => ?_) fun hb H6 e6 => ?_
    · refine ⟨.ref f, rfl, .inl ⟨rfl, _, sq_of (e6 _ _ hH5f)⟩, ?_⟩
      have hlp := ev_lenSq (K := K) (ta := tVar 4) (σ := [some (.ref a), some (.ref pp), some (.ref f), some (.int (0 + (i : Nat))), some (.ref p), none, none]) (B := B5) (ev_var rfl) (sqs_t (st_of hp'))
      refine (eu_p (eu_tup (ea_cons hlp (ea_cons (ev_var rfl) ea_nil)) (by show 2 ≤ 100000; decide))) H6 (g5.bh.trans e6) _ fun v B6 H7 g6 ⟨t2, hv, ht2⟩ => ?_
      subst hv
      have hB6f : B6 f = none := g6.av f (by rw [e6 _ _ hH5f]; simp) hB5f
      have hH7f := g6.h _ _ (e6 _ _ hH5f)
      refine ⟨f, xs, .ref t2, rfl, rfl, hH7f, sz_lt (by omega), B6, _, _, xs ++ [.ref t2], rfl, ⟨g15.b.trans g6.b, Ex.mut g6.bh hB6f, fun x o h e => by rw [upd_ne h]; exact g6.h _ _ (e6 _ _ (g15.h _ _ h e)), by rw [upd_same]; simp, fun x h1 h2 => g6.av x (ex_some e6 (g15.some h1)) (g15.av x h1 h2)⟩, hB6f, upd_same, by rw [hfs, hb, List.length_append, hxl]; rfl, fun v hv => ?_⟩
      rcases List.mem_append.mp hv with hv | hv
      · exact (hxs5 v hv).ex g6.b
      · refine ⟨t2, p, _, (spots d.L.length i).map fun k => ((k : Nat) : Int), List.mem_singleton.mp hv, ht2, by rw [List.map_map]; exact g6.b _ _ hp', by rw [List.length_map]; exact hsl, fun z hz => ?_⟩
        obtain ⟨k, hk, rfl⟩ := List.mem_map.mp hz
        have := hsm k hk
        exact ⟨by omega, by omega⟩
    · exact ⟨B5, _, _, xs, rfl, g15.up e6, hB5f, e6 _ _ hH5f, by rw [hfs, hb, hxl]; rfl, hxs5⟩
  · subst hσ
    have eBt : Ex Bi (upd Bi f (.lst xs)) := Ex.new hBif
    have gt : Gr B H (upd Bi f (.lst xs)) H3 := ⟨gi.b.trans eBt, fun y u h => by
      by_cases z : y = f
      · subst z; rw [upd_same] at h; rw [hHif]; exact h
      · rw [upd_ne z] at h; exact gi.bh _ _ h, fun y u h => gi.h _ _ (fun z => by rw [z, hf0] at h; cases h) h, fun y h1 h2 => by
      have : y ≠ f := fun z => h1 (z ▸ hf0)
      rw [upd_ne this]
      exact gi.av y h1 h2⟩
    have hBtf : upd Bi f (.lst xs) f = some (.lst xs) := upd_same
    have hxst : ∀ v ∈ xs, SpotP (upd Bi f (.lst xs)) d.L.length v := fun v hv => (hxs v hv).ex eBt
    generalize upd Bi f (.lst xs) = Bt at gt hBtf hxst
    have hkd : ∀ v ∈ xs, ∃ (t s : Addr) (c : Int) (is : List Int), v = .ref t ∧ Bt t = some (.tup [.int c, .ref s]) ∧ Bt s = some (.tup (is.map V.int)) ∧ kd3 Bt v = .tuple [.int c, .tuple (is.map .int)] := fun v hv => by
      obtain ⟨t, s, c, is, h1, h2, h3, _⟩ := hxst v hv
      refine ⟨t, s, c, is, h1, h2, h3, ?_⟩
      subst h1
      unfold kd3
      simp only [itemsOf, h2, h3, intOf, List.getD_cons_zero, List.getD_cons_succ, List.map_map]
      rfl
    refine s_retP (P := fun v B => ∃ p ys, v = .ref p ∧ B p = some (.lst ys) ∧ ys.length = (masks d).length) gt.bh (evp_lcP (evp_sorted (K := K) (kd := kd3 Bt) (ev_var rfl) (sq_of hBtf) (fun v hv => ?_) (PySem.W.AllAlike.of fun x y => ?_) (PySem.W.Sortable.tuples fun x => ⟨_, _, rfl⟩) fun v hv => ?_) fun J B5 e5 ⟨p, ys, hJ, hp, hperm⟩ => ?_) fun v B5 H5 g5 h => q v B5 H5 (gt.trans g5) h
    · obtain ⟨t, s, c, is, rfl, h2, h3, hk⟩ := hkd v hv
      rw [hk]
      exact .tup (st_of h2) (.cons (.int _) (.cons (dp_tup (st_of h3) (paired_map_l (paired_self is fun z => .int z))) .nil))
    · have e : ∀ v, (itemsOf Bt ((itemsOf Bt v).getD 1 .non)).map (fun v => PyData.int (intOf v)) = ((itemsOf Bt ((itemsOf Bt v).getD 1 .non)).map intOf).map .int := fun v => by rw [List.map_map]; rfl
      show PySem.W.alike (kd3 Bt x) (kd3 Bt y) = true
      unfold kd3
      rw [e x, e y]
      generalize (itemsOf Bt ((itemsOf Bt x).getD 1 .non)).map intOf = l1
      generalize (itemsOf Bt ((itemsOf Bt y).getD 1 .non)).map intOf = l2
      simp [PySem.W.alike, PySem.W.alikeAll, PySem.W.alike_ints]
    · obtain ⟨t, s, c, is, rfl, h2, h3, hk⟩ := hkd v hv
      rw [hk]
      have := depth_all (f := PyData.int) (n := 0) (fun _ => by simp [PyData.depth]) is
      simp only [PyData.depth, PyData.depthAll]
      omega
    · subst hJ
      have hwy := walk_L hp
      have hyl : ys.length = (masks d).length := by
        rw [hperm.length_eq, hxl]
        rfl
      have hy64 : ys.length ≤ 64 := by
        rw [hyl]
        refine Nat.le_trans (List.length_filter_le _ _) ?_
        rw [List.length_range]
        omega
      have hitems : ∀ v ∈ ys, ∃ (t s : Addr) (c : Int) (is : List Int), v = .ref t ∧ B5 t = some (.tup [.int c, .ref s]) ∧ B5 s = some (.tup (is.map V.int)) ∧ is.length ≤ d.L.length ∧ (∀ z ∈ is, 0 ≤ z ∧ z < d.L.length) ∧ (itemsOf B5 v).getD 0 .non = .int c ∧ (itemsOf B5 v).getD 1 .non = .ref s := fun v hv => by
        obtain ⟨t, s, c, is, h1, h2, h3, h4, h5⟩ := (hxst v (hperm.mem_iff.mp hv)).ex e5
        refine ⟨t, s, c, is, h1, h2, h3, h4, h5, ?_, ?_⟩
        · subst h1
          simp [itemsOf, h2]
        · subst h1
          simp [itemsOf, h2]
      have hpairs : Paired (fun a x => ∃ p, x = .ref p ∧ SqT K B5 p [(itemsOf B5 a).getD 0 .non, (itemsOf B5 a).getD 1 .non]) ys ys := by
        clear hwy hy64 hyl hperm hp
        induction ys with
        | nil => exact .nil
        | cons v ys ih =>
          refine .cons ?_ (ih fun v hv => hitems v (List.mem_cons_of_mem _ hv))
          obtain ⟨t, s, c, is, h1, h2, h3, h4, h5, h6, h7⟩ := hitems v List.mem_cons_self
          rw [h6, h7]
          exact ⟨t, h1, st_of h2⟩
      refine (evp_lcY (l := ys) (P := fun _ _ _ => True) (st := fun v => [some (.ref a), some (.ref pp), some (.ref f), s3, some ((itemsOf B5 v).getD 1 .non), none, some ((itemsOf B5 v).getD 0 .non)]) (by omega) ei_at hwy (fun _ e => e) (bnd_pair (f := fun v => (itemsOf B5 v).getD 0 .non) (g := fun v => (itemsOf B5 v).getD 1 .non) hpairs) (fun _ _ => rfl) (fun _ _ _ _ _ _ h => h) fun v hv => ?_).imp fun v B2 _ ⟨p, zs, hv, hp, hzs⟩ => ⟨p, zs, hv, hp, by rw [← paired_len hzs]; exact hyl⟩
      obtain ⟨t, s, c, is, rfl, k2, k3, k4, k5, k6, k7⟩ := hitems v hv
      show EvP _ [some (.ref a), some (.ref pp), some (.ref f), s3, some ((itemsOf B5 (.ref t)).getD 1 .non), none, some ((itemsOf B5 (.ref t)).getD 0 .non)] _ _
      rw [k6, k7]
      have hws := walk_T (K := K) (st_of k3)
      rw [List.length_map] at hws
      refine evp_tupE (evp_lcY (l := is) (P := fun _ _ _ => True) (st := fun z => [some (.ref a), some (.ref pp), some (.ref f), s3, some (.ref s), some (.int z), some (.int c)]) (by omega) (ei_tup (ev_var rfl) (st_of k3)) hws (fun _ e => e) (bnd_map (f := V.int)) (fun _ _ => rfl) (fun _ _ _ _ _ _ h => h) fun z hz => ?_)
      obtain ⟨z0, z1⟩ := k5 z hz
      have hzn : z.toNat < d.L.length := by omega
      have ea : atI (d.L.map V.str) z = some (.str (d.L[z.toNat])) := by
        have := atI_nat (xs := d.L.map V.str) (j := z.toNat) (v := .str (d.L[z.toNat])) (by rw [List.getElem?_map, List.getElem?_eq_getElem hzn]; rfl)
        rwa [Int.toNat_of_nonneg z0] at this
      exact (ev_p (ev_op (ev_var rfl) (ev_var rfl) (rv_ixT (ex_t (gt.b.trans e5) h2) ea))).imp fun _ _ _ _ => trivial
end
end NP
end

section
set_option maxHeartbeats 4000000
namespace NP
open PySem PySem.Spec PyProof.Rows L2 Evl
section
variable {P : Program} {w : World} {K : PySem.W.Frag} {mg : Str → Option Value} {base : Heap}
structure DSome where
  x : Addr
  n : Nat
  a : Addr
  d : Parts
/-- what the law's parts are -/
structure PartsOk (d : Parts) : Prop where
  nd : d.L.Nodup
  len : d.L.length ≤ 12
  so : ∀ p ∈ d.L, PyData.strOk p = true
  nl : d.N.length ≤ 1000
  bl : d.Bs.length ≤ 1000
  nm : ∀ x ∈ d.N, x.1 ∈ d.L ∧ x.2 ∈ d.L
theorem lawRow_sub {L : List Str} {N : List (Str × Str)} {p o : Str} (h : o ∈ lawRow L N p) : o ∈ L := (List.mem_filter.mp h).1
def sp_l_some_stand (K : PySem.W.Frag) : Sp := PrmX (δ := DSome) (·.x) (·.n) (fun _ => 20) (fun d vs B => vs = [.ref d.x, .ref d.a] ∧ PartsAt K B d.a d.d ∧ PartsOk d.d ∧ d.n ≤ 800000) (fun d v B => ∃ t R, v = .ref t ∧ SqT K B t ((d.d.L.filter fun p => decide (p ∈ R)).map V.str) ∧ isStand d.d.N d.d.Bs R = true ∧ ∀ p ∈ R, p ∈ d.d.L)
theorem c_l_some_stand (F : Facts K mg) : Cal P w K mg base 3 "_law_some_stand" ["_law_box_here", "_law_parts_here"] (sp_l_some_stand K) := by
  obtain ⟨fd, D⟩ := F.d_l_some_stand
  have c_l_is_stand := c_l_is_stand (P := P) (w := w) (base := base) F
  have c_l_rows := c_l_rows (P := P) (w := w) (base := base) F
  have c_l_mixed := c_l_mixed (P := P) (w := w) (base := base) F
  have c_l_take := c_l_take (P := P) (w := w) (base := base) F
  refine mkCal D sc_l_some_stand F.g_l_some_stand (fun _ _ _ _ _ _ us hl => match us, hl with | [_, _], _ => rfl) (fun vs H Q E ⟨d, B, _, _, _, e, _⟩ => by rw [e.1]; rfl) fun cdv A outer s H vs Q E hr h => ⟨_, (pss_cons (ps_asg (pe_tup (pa_cons (pe_ix (ix_tup_k (K := K) rfl) (pv 1) pe_int (fun _ _ => rfl)) (pa_cons (pe_cal c_l_rows hr (by decide) rfl (pa_cons (pe_ix (ix_tup_k (K := K) rfl) (pv 1) pe_int (fun _ _ => rfl)) (pa_cons (pe_ix (ix_tup_k (K := K) rfl) (pv 1) pe_int (fun _ _ => rfl)) pa_nil))) (pa_cons (pe_lst pa_nil) pa_nil)))) (pg_tup_k (K := K) (n := 3) rfl rfl (pgs_cons (pg_name (i := 2) sc_l_some_stand.nd rfl (by first | exact .inl rfl | exact .inr rfl)) (pgs_cons (pg_name (i := 3) sc_l_some_stand.nd rfl (by first | exact .inl rfl | exact .inr rfl)) (pgs_cons (pg_name (i := 4) sc_l_some_stand.nd rfl (by first | exact .inl rfl | exact .inr rfl)) pgs_nil)))))
      (pss_cons (ps_for PassesOwn.never rfl (pi_list_k (K := K) rfl (pe_slice (sl_list_k (K := K) rfl) (pe_cal c_l_mixed hr (by decide) rfl (pa_cons (pv 0) (pa_cons (pv 2) pa_nil))) po_none (po_some (pe_cal c_l_take hr (by decide) rfl (pa_cons (pv 0) (pa_cons (pe_op op_add (pe_callB (call_len_k (K := K) rfl) rfl F.f_len (by decide +kernel) (pa_cons (pv 2) pa_nil)) pe_int) pa_nil)))))) (pg_name (i := 5) sc_l_some_stand.nd rfl (by first | exact .inl rfl | exact .inr rfl)) (pss_cons (ps_set (i := 6) sc_l_some_stand.nd rfl (by first | exact .inl rfl | exact .inr rfl) (pe_op op_cat (pv 4) (pe_lc rfl sc_l_some_stand.nd (pi_tup_k (K := K) rfl (pe_dget (hu_of hr) (pv 3) (pv 5) (fun _ _ => rfl))) (blkOk_by (own := [("_law_one", 7)]) (N := N_l_some_stand) (sc := defScope s_l_some_stand) (by decide +kernel)) (fun _ _ _ _ _ => (pg_name (i := 7) sc_l_some_stand.nd rfl (by first | exact .inl rfl | exact .inr rfl))) (fun _ _ _ _ _ => (pts_one (pt_cmpR (op_notIn_seq_k (K := K) rfl) (pv 7) (pv 4) rfl))) (fun _ _ _ _ _ => (pv 7)))))
      (pss_one (ps_if (pt_val (pe_cal c_l_is_stand hr (by decide) rfl (pa_cons (pv 1) (pa_cons (pv 6) pa_nil)))) (pss_one (ps_set (i := 4) sc_l_some_stand.nd rfl (by first | exact .inl rfl | exact .inr rfl) (pv 6))) pss_nil))))
      (pss_one (ps_ret (pe_callTy (call_tuple_of_k (K := K) rfl) rfl F.f_tuple (by decide +kernel) (pa_cons (pe_lc rfl sc_l_some_stand.nd (pi_tup_k (K := K) rfl (pv 2)) (blkOk_by (own := [("_law_peg", 5)]) (N := N_l_some_stand) (sc := defScope s_l_some_stand) (by decide +kernel)) (fun _ _ _ _ _ => (pg_name (i := 5) sc_l_some_stand.nd rfl (by first | exact .inl rfl | exact .inr rfl))) (fun _ _ _ _ _ => (pts_one (pt_cmpR (op_in_seq_k (K := K) rfl) (pv 5) (pv 4) rfl))) (fun _ _ _ _ _ => (pv 5))) pa_nil)))))), ?_⟩
  obtain ⟨⟨x, n, a, d⟩, B, hB, hn, hbx, ⟨rfl, hd, ok, hnn⟩, q⟩ := h
  dsimp only at hn hbx hd ok hnn q
  obtain ⟨pp, pn, pb, pc, h1, h2, h3, h4, h5⟩ := id hd
  have hL12 := ok.len
  have hxn := hbx.ne
  have hP1 : EvP (tTup (tCons (tOp (rIxT K) (tVar 1) (tC (.int 0))) (tCons (tCall (sp_l_rows K) [] L2.E0 (tCons (tOp (rIxT K) (tVar 1) (tC (.int 0))) (tCons (tOp (rIxT K) (tVar 1) (tC (.int 1))) tNil))) (tCons (tLst tNil) tNil)))) (L2.start N_l_some_stand [.ref x, .ref a]) B fun v B2 => ∃ t rd f, v = .ref t ∧ B2 t = some (.tup [.ref pp, .ref rd, .ref f]) ∧ RowsT K B2 rd d.L (lawRow d.L d.N) ∧ B2 f = some (.lst []) := by
    refine (evp_tup (eap_cons (P := fun v _ => v = .ref pp) mon_eq (ev_p (ev_op (ev_var rfl) ev_c (rv_ixT h1 rfl))) fun B1 e1 => eap_cons (P := fun v B => ∃ r, v = .ref r ∧ RowsT K B r d.L (lawRow d.L d.N)) (fun _ _ _ e ⟨r, h1, rs, h2, h3⟩ => ⟨r, h1, rs, e _ _ h2, paired_imp (fun _ _ z => z.ex e) h3⟩) (evp_call (⟨pp, d.L, pn, d.N⟩ : DRow) (ea_cons (ev_op (ev_var rfl) ev_c (rv_ixT (ex_t e1 h1) rfl)) (ea_cons (ev_op (ev_var rfl) ev_c (rv_ixT (ex_t e1 h1) rfl)) ea_nil)) ⟨rfl, sqs_t (ex_t e1 h2), h3.p.ex e1, ok.nd, by show d.L.length ≤ 100; omega, ok.nl, ok.nm⟩) fun B2 e2 => eap_cons (P := fun v B => ∃ f, v = .ref f ∧ B f = some (.lst [])) mon_lst (el_p (el_lst ea_nil (by decide))) fun _ _ => eap_nil) ?_ ?_).imp fun v B2 _ ⟨t, vs, hv, ht, v1, vs1, w1, hv1, v2, vs2, w2, ⟨rd, hv2, hrd⟩, v3, vs3, w3, ⟨f, hv3, hf⟩, w4⟩ => ?_
    · rintro vs H1 ⟨v, vs1, rfl, _, v2, vs2, rfl, _, v3, vs3, rfl, _, rfl⟩
      show 3 ≤ 1000
      decide
    · rintro vs H1 H2 e ⟨v, vs1, k1, k2, v2, vs2, k4, ⟨r, k5, rs, k6, k7⟩, v3, vs3, k8, ⟨f, k9, k10⟩, k11⟩
      exact ⟨v, vs1, k1, k2, v2, vs2, k4, ⟨r, k5, rs, e _ _ k6, paired_imp (fun _ _ z => z.ex e) k7⟩, v3, vs3, k8, ⟨f, k9, e _ _ k10⟩, k11⟩
    · subst w1 hv1 w2 hv2 w3 hv3 w4
      exact ⟨t, rd, f, hv, ht, hrd, hf⟩
  refine q_asgGP hB hP1 fun v B1 H1 g1 ⟨t, rd, f, hv, ht, hrd, hf⟩ => ?_
  subst hv
  refine ⟨t, _, rfl, st_of (g1.bh _ _ ht), rfl, _, _, rfl, _, _, rfl, _, _, rfl, rfl, ?_⟩
  have gx1 : GrX x B H B1 H1 := g1.toX hxn
  have hb1 := hbx.ex g1.h
  have hn1 := gx1.none_ hxn hn
  have h21 := ex_t g1.b h2
  have hlen : ∀ (σ : L2.St) (B' : Hp), Ex B B' → σ[2]? = some (some (.ref pp)) → Ev (tCB (rLn K) (tCons (tVar 2) tNil)) σ B' (.int (d.L.length : Nat)) := fun σ B' e hσ => by
    have := ev_lenSq (K := K) (ev_var hσ) (sqs_t (ex_t e h2))
    rwa [List.length_map] at this
  refine q_forN ?_
  refine (evx_call (x := x) (n := n) (n1 := n) (n2 := n + d.L.length) (B := B1) (P := fun v B => ∃ (p : Addr) (L' : List Str), v = .ref p ∧ B p = some (.lst (L'.map V.str)) ∧ L'.Perm d.L) (eax_p (ea_p (ea_cons (ev_var rfl) (ea_cons (ev_var rfl) ea_nil)))) fun ws B2 e2 hw => ⟨⟨x, n, pp, d.L⟩, rfl, rfl, Nat.le_refl _, ⟨hw, sqs_t (ex_t e2 h21), ok.so, by show d.L.length ≤ 100; omega, by show n ≤ 900000; omega⟩, fun v B2 _ h => h⟩) H1 g1.bh hn1 hb1 _ fun v B2 H2 g2 b2 ⟨p, L', hv, hp, hperm⟩ => ?_
  subst hv
  have hn2 := g2.none_ hb1.ne hn1
  refine (evx_call (x := x) (n := n + d.L.length) (n1 := n + d.L.length) (n2 := n + d.L.length + 1) (B := B2) (P := fun v _ => ∃ r : Int, v = .int r ∧ 0 ≤ r ∧ r < (d.L.length : Int) + 1) (eax_p (ea_p (ea_cons (ev_var rfl) (ea_cons (ev_op (hlen _ _ (g1.b.trans g2.b) rfl) ev_c rv_I0) ea_nil)))) fun ws B3 e3 hw => ⟨⟨x, n + d.L.length, (d.L.length : Int) + 1⟩, rfl, rfl, Nat.le_refl _, ⟨hw, by show n + d.L.length ≤ 1000000; omega, by show (1 : Int) ≤ (d.L.length : Int) + 1; omega, by show (d.L.length : Int) + 1 ≤ 1000000; omega⟩, fun v B2 _ h => h⟩) H2 g2.bh hn2 b2 _ fun v B3 H3 g3 b3 ⟨r, hv, r0, r1⟩ => ?_
  subst hv
  have hn3 := g3.none_ b2.ne hn2
  refine ⟨r, rfl, p, L'.map V.str, rfl, sq_of (g3.bh _ _ (g3.b _ _ hp)), fun l hl => ⟨l, rfl, ⟨_, sq_of upd_same⟩, ?_⟩⟩
  have hrl : r.toNat ≤ (L'.map V.str).length := by
    rw [List.length_map, hperm.length_eq]
    omega
  have ecut : cutV (L'.map V.str) none (some r) = (L'.take r.toNat).map V.str := by
    have := cut_to hrl
    rw [Int.toNat_of_nonneg r0] at this
    rw [this, List.map_take]
  rw [ecut]
  have hx3 : H3 x ≠ none := b3.ne
  have hxl : x ≠ l := fun z => hx3 (z ▸ hl)
  have gL : GrX x B H (upd B3 l (.lst ((L'.take r.toNat).map V.str))) (upd H3 l (.lst ((L'.take r.toNat).map V.str))) := ((gx1.trans g2).trans g3).new hl
  have hlL : SqL K (upd B3 l (.lst ((L'.take r.toNat).map V.str))) l ((L'.take r.toNat).map V.str) := sq_of upd_same
  have hB4 : Ex B3 (upd B3 l (.lst ((L'.take r.toNat).map V.str))) := Ex.new (fresh_back g3.bh hl)
  have hb4 : Box x (n + d.L.length + 1) (upd H3 l (.lst ((L'.take r.toNat).map V.str))) := b3.ex (Ex.new hl)
  have hn4 : upd B3 l (.lst ((L'.take r.toNat).map V.str)) x = none := by rw [upd_ne hxl]; exact hn3
  have e14 : Ex B1 (upd B3 l (.lst ((L'.take r.toNat).map V.str))) := (g2.b.trans g3.b).trans hB4
  have hsub : ∀ y ∈ L'.take r.toNat, y ∈ d.L := fun y hy => hperm.mem_iff.mp (List.mem_of_mem_take hy)
  have hlen' : (L'.take r.toNat).length ≤ 12 := by
    rw [List.length_take, hperm.length_eq]
    omega
  generalize L'.take r.toNat = LL at gL hlL hB4 hb4 hn4 e14 hsub hlen' ⊢
  generalize upd B3 l (.lst (LL.map V.str)) = B4 at gL hlL hB4 hn4 e14
  generalize upd H3 l (.lst (LL.map V.str)) = H4 at gL hb4
  have hwl := walk_L hlL
  rw [List.length_map] at hwl
  have hd4 := hd.ex gL.b
  obtain ⟨rs, hrd1, hrd2⟩ := hrd
  have hrd4 := e14 _ _ hrd1
  have hrs4 : Paired (TupV (lawRow d.L d.N) K B4) d.L rs := paired_imp (fun _ _ z => z.ex e14) hrd2
  have hf4 := e14 _ _ hf
  have h24 := ex_t gL.b h2
  refine q_for (B := B4) (wi := fun _ H R => R (Itl K l) H) gL.bh ei_at hwl (fun i σ' H' => ∃ Bi f fd s5 s6, σ' = [some (.ref x), some (.ref a), some (.ref pp), some (.ref rd), some (.ref f), s5, s6, none] ∧ Gr B4 H4 Bi H' ∧ Bi f = some (.lst (fd.map V.str)) ∧ isStand d.N d.Bs fd = true ∧ fd.Nodup ∧ ∀ y ∈ fd, y ∈ d.L)
    (fun H5 e5 => ⟨B4, f, [], none, none, rfl, Gr.ex gL.bh e5, hf4, by
      unfold isStand
      simp, List.nodup_nil, fun _ h => (nomatch h)⟩) (fun i σ' H' _ ⟨Bi, _, _, _, _, _, gi, _⟩ => gi.b.trans gi.bh) (fun i y σ' H5 H5' hlt ⟨Bi, f, fd, s5, s6, hσ, gi, hfi, hst, hfn, hfs⟩ hy => ?_) fun σ' H5 ⟨Bi, f, fd, s5, s6, hσ, gi, hfi, hst, hfn, hfs⟩ => ?_
  · subst hσ
    obtain ⟨rfl, hx⟩ := hy
    rw [List.getElem?_map, List.getElem?_eq_getElem hlt] at hx
    cases hx
    have hpm := hsub _ (List.getElem_mem hlt)
    generalize LL[i] = p1 at hpm
    obtain ⟨rv, hv, q1, rfl, hq1⟩ := zip_get hrs4 hpm
    have hfl := nodup_len _ _ hfn hfs
    have hrn : (lawRow d.L d.N p1).Nodup := ok.nd.filter _
    have hrlen : (lawRow d.L d.N p1).length ≤ d.L.length := List.length_filter_le _ _
    have hml : ((lawRow d.L d.N p1).filter fun o => !decide (o ∈ fd)).length ≤ 12 := Nat.le_trans (List.length_filter_le _ _) (by omega)
    refine q_asgP gi.bh (evp_catL (xs := fd.map V.str) (ys := ((lawRow d.L d.N p1).filter fun o => !decide (o ∈ fd)).map V.str) ((ev_p (ev_var rfl)).imp fun v B2 e hv => ⟨f, hv, e _ _ hfi⟩) (fun B6 e6 => ?_) (by rw [List.length_map, List.length_map]; omega)) fun v B6 H6 g6 ⟨m, hv2, hm⟩ => ?_
    · have hq6 := ex_t (gi.b.trans e6) hq1
      have hw6 := walk_T hq6
      rw [List.length_map] at hw6
      exact evp_lcF (l := lawRow d.L d.N p1) (f := V.str) (q := fun o => !decide (o ∈ fd)) (st := fun o => [some (.ref x), some (.ref a), some (.ref pp), some (.ref rd), some (.ref f), some (.str p1), s6, some (.str o)]) (by omega) (ei_tup (ev_dget (ev_var rfl) (ev_var rfl) (.inl ((gi.b.trans e6) _ _ hrd4)) hv) hq6) hw6 (fun _ e => e) bnd_map (fun _ _ => rfl) (fun o _ => et_test (ev_nin (ev_var rfl) (ev_var rfl) (sqs_l (sq_of (e6 _ _ hfi))))) fun o _ _ => ev_var rfl
    subst hv2
    rw [← List.map_append] at hm
    have gi6 := gi.trans g6
    have hmn : (fd ++ (lawRow d.L d.N p1).filter fun o => !decide (o ∈ fd)).Nodup := by
      rw [List.nodup_append]
      refine ⟨hfn, hrn.filter _, fun u hu z hz => ?_⟩
      rw [List.mem_filter] at hz
      intro e
      subst e
      simp [hu] at hz
    have hms : ∀ y ∈ fd ++ (lawRow d.L d.N p1).filter fun o => !decide (o ∈ fd), y ∈ d.L := fun y hy => by
      rcases List.mem_append.mp hy with hy | hy
      · exact hfs y hy
      · exact lawRow_sub (List.mem_filter.mp hy).1
    generalize (fd ++ (lawRow d.L d.N p1).filter fun o => !decide (o ∈ fd)) = more at hm hmn hms
    have ht := evp_call (⟨a, d, m, more⟩ : DIs) (σ := [some (.ref x), some (.ref a), some (.ref pp), some (.ref rd), some (.ref f), some (.str p1), some (.ref m), none]) (E := L2.E0) (t := tCons (tVar 1) (tCons (tVar 6) tNil)) (pre := fun (d : DIs) vs B => vs = [.ref d.a, .ref d.r] ∧ PartsAt K B d.a d.d ∧ SqL K B d.r (d.R.map V.str) ∧ d.d.N.length ≤ 1000 ∧ d.d.Bs.length ≤ 1000) (post := fun (d : DIs) v B => v = .bl (isStand d.d.N d.d.Bs d.R)) (B := B6) (ea_cons (ev_var rfl) (ea_cons (ev_var rfl) ea_nil)) ⟨rfl, hd4.ex gi6.b, sq_of hm, ok.nl, ok.bl⟩
    refine s_if (fun H1 e Q q => et_B ht.v H1 (gi6.bh.trans e) Q q) (fun hb H7 e7 => ?_) fun hb H7 e7 => ?_
    · refine s_asg (ev_var rfl) fun H8 e8 => ?_
      exact ⟨B6, m, more, _, _, rfl, gi6.up (e7.trans e8), hm, hb, hmn, hms⟩
    · exact ⟨B6, f, fd, _, _, rfl, gi6.up e7, g6.b _ _ hfi, hst, hfn, hfs⟩
  · subst hσ
    have h2i := ex_t gi.b h24
    have hw6 := walk_T h2i
    rw [List.length_map] at hw6
    refine s_retP gi.bh (evp_tupOf (evp_lcF (l := d.L) (f := V.str) (q := fun o => decide (o ∈ fd)) (st := fun o => [some (.ref x), some (.ref a), some (.ref pp), some (.ref rd), some (.ref f), some (.str o), s6, none]) (by omega) (ei_tup (ev_var rfl) h2i) hw6 (fun _ e => e) bnd_map (fun _ _ => rfl) (fun o _ => et_test (ev_in (ev_var rfl) (ev_var rfl) (sqs_l (sq_of hfi)))) fun o _ _ => ev_var rfl)) fun v B7 H7 g7 ⟨t, hv, ht⟩ => ?_
    have gg := gi.trans g7
    exact q v B7 H7 (gL.trans (gg.toX gL.x2)) ((hb4.ex gg.h).mono (by show n + d.L.length + 1 ≤ n + 20; omega)) ⟨t, fd, hv, st_of ht, hst, hfs⟩
end
end NP
end

section
set_option maxHeartbeats 4000000
namespace NP
open PySem PySem.Spec PyProof.Rows L2 Evl
/-! ### the names' letters -/
def ltr (first k : Nat) : Nat := 97 + (first + 7 * k) % 26
def baseN (cs : List Nat) (s first k : Nat) : List Nat := cs.take s ++ ltr first k :: cs.drop s
def nameN (form1 : Bool) (cs : List Nat) (s first k : Nat) : List Nat := if form1 && decide (k % 2 = 1) then baseN cs s first (k - 1) ++ [ltr first k] else baseN cs s first k
theorem ltr_inj {first k j : Nat} (hk : k < 26) (hj : j < 26) (h : ltr first k = ltr first j) : k = j := by
  unfold ltr at h
  omega
theorem baseN_len {cs : List Nat} {s first k : Nat} : (baseN cs s first k).length = cs.length + 1 := by
  unfold baseN
  rw [List.length_append, List.length_cons, List.length_take, List.length_drop]
  omega
theorem nameN_inj {f1 : Bool} {cs : List Nat} {s first k j : Nat} (hk : k < 26) (hj : j < 26) (h : nameN f1 cs s first k = nameN f1 cs s first j) : k = j := by
  unfold nameN at h
  split at h
  · split at h
    · have := (List.append_inj' h rfl).2
      simp only [List.cons.injEq, and_true] at this
      exact ltr_inj hk hj this
    · have := congrArg List.length h
      rw [List.length_append, baseN_len, baseN_len] at this
      simp at this
  · split at h
    · have := congrArg List.length h
      rw [List.length_append, baseN_len, baseN_len] at this
      simp at this
    · unfold baseN at h
      have := (List.append_inj h rfl).2
      simp only [List.cons.injEq, and_true] at this
      exact ltr_inj hk hj this
theorem nameN_mem {f1 : Bool} {cs : List Nat} {s first k : Nat} (hc : ∀ c ∈ cs, 97 ≤ c ∧ c < 123) : ∀ c ∈ nameN f1 cs s first k, 97 ≤ c ∧ c < 123 := by
  have hl : ∀ k, 97 ≤ ltr first k ∧ ltr first k < 123 := fun k => by unfold ltr; omega
  have hb : ∀ k, ∀ c ∈ baseN cs s first k, 97 ≤ c ∧ c < 123 := fun k c h => by
    unfold baseN at h
    rcases List.mem_append.mp h with h | h
    · exact hc c (List.mem_of_mem_take h)
    · rcases List.mem_cons.mp h with h | h
      · rw [h]; exact hl k
      · exact hc c (List.mem_of_mem_drop h)
  intro c h
  unfold nameN at h
  split at h
  · rcases List.mem_append.mp h with h | h
    · exact hb _ c h
    · rw [List.mem_singleton.mp h]; exact hl k
  · exact hb _ c h
theorem nameN_len {f1 : Bool} {cs : List Nat} {s first k : Nat} (h1 : f1 = true → cs.length ≤ 4) (h2 : cs.length ≤ 5) : 1 ≤ (nameN f1 cs s first k).length ∧ (nameN f1 cs s first k).length ≤ 6 := by
  unfold nameN
  split
  · rename_i h
    rw [Bool.and_eq_true] at h
    have := h1 h.1
    rw [List.length_append, baseN_len]
    simp
    omega
  · rw [baseN_len]
    omega
def NameS (s : Str) : Prop := 1 ≤ s.length ∧ s.length ≤ 6 ∧ ∀ c ∈ s.cps.toList, 97 ≤ c ∧ c < 123
theorem NameS.nameB {s : Str} (h : NameS s) : nameB s = true := by
  obtain ⟨h1, h2, h3⟩ := h
  unfold NP.nameB
  rw [decide_eq_true h1, decide_eq_true h2, Bool.true_and, Bool.true_and, List.all_eq_true]
  intro c hc
  obtain ⟨k1, k2⟩ := h3 c hc
  have : c ∈ (List.range 26).map (97 + ·) := List.mem_map.mpr ⟨c - 97, List.mem_range.mpr (by omega), by omega⟩
  have e : (Str.ofString "abcdefghijklmnopqrstuvwxyz").cps.toList = (List.range 26).map (97 + ·) := by decide +kernel
  rw [e]
  exact decide_eq_true this
theorem NameS.ok {s : Str} (h : NameS s) : PyData.strOk s = true := by
  unfold PyData.strOk
  rw [Array.all_eq_true_iff_forall_mem]
  intro c hc
  have := h.2.2 c (by simpa using hc)
  simp
  omega
end NP
end

section
set_option maxHeartbeats 4000000
namespace NP
open PySem PySem.Spec PyProof.Rows L2 Evl
section
variable {X : Cx} {K : PySem.W.Frag} {o e : Expr} {to te : TE}
def rJoinK (K : PySem.W.Frag) : V → List V → Hp → VK → Prop := fun x xs H Q => ∃ a p, ∃ ys : List Str, x = .str a ∧ xs = [.ref p] ∧ (SqL K H p (ys.map V.str) ∨ SqT K H p (ys.map V.str)) ∧ (ys.map (·.length)).sum + ys.length * a.length ≤ 16777216 ∧ Q (.str (Txt.join a ys)) H
theorem pe_join_k {apos pos : Pos} (h : X.K = K) (ho : PE X o to) (he : PE X e te) (hs : starEach [e] X.env = [(false, eval e X.env)] := by rfl) (hbase : attributeBase o "join" X.env (eval o X.env) = eval o X.env := by rfl) (hline : (apos.endLine == pos.line) = true := by rfl) :
    PE X (.Call (.Attribute o "join" apos) [e] [] pos) (tM1 (rJoinK K) to te) := by subst h; exact pe_join ho he hs hbase hline
end
section
variable {σ : L2.St} {B B1 B2 B3 H H1 H2 H3 : Hp} {te ta tb u : TE} {tt : TT} {x : Addr} {n n1 n2 : Nat}
/-- a comprehension without if, each item changes the box -/
theorem evx_lc {α : Type} {l : List α} {g : TG} {vs : List Nat} {J : It} {G : Hp → Prop} {Y : Nat → Hp → V → Hp → Prop} {st : α → L2.St} {P : α → V → Hp → Prop} {k : Nat} (hz : l.length ≤ 90000) (w : Walk J l.length G Y) (hG : ∀ H1, Ex B H1 → G H1)
    (hb : Bnd Y g (L2.wipe σ vs) B l st) (hst : ∀ a ∈ l, L2.wipe (st a) vs = L2.wipe σ vs) (hm : ∀ a ∈ l, Mon (P a)) (he : ∀ a ∈ l, ∀ B', Ex B B' → ∀ m, m ≤ n + l.length * k → EvX x te (st a) B' m (m + k) (P a)) :
    EvX x (tLc (fun _ H R => R J H) g tYes te vs) σ B n (n + l.length * k) fun v B2 => ∃ p ys, v = .ref p ∧ B2 p = some (.lst ys) ∧ Paired (fun a y => P a y B2) l ys := fun H1 e hn hbx Q q => by
  intro D hD
  have hxD : x ≠ D := fun z => hbx.ne (z ▸ hD)
  have hBD : B D = none := fresh_back e hD
  refine it_any w (fun i H' => ∃ B' ys, GrX x B H1 B' H' ∧ B' D = none ∧ H' D = some (.lst ys) ∧ ys.length ≤ i ∧ Box x (n + i * k) H' ∧ Paired (fun a y => P a y B') (l.take i) ys)
    ⟨B, [], (GrX.refl e hbx.ne).up (Ex.new hD), hBD, upd_same, Nat.le_refl _, by rw [Nat.zero_mul]; exact hbx.ex (Ex.new hD), by simp; exact .nil⟩
    (fun i H' _ ⟨B', ys, gr, _⟩ => hG H' (gr.b.trans gr.bh)) (fun i y H' H'' hlt ⟨B', ys, gr, hBD, hD3, hl3, hbi, hp3⟩ yy => ?_) fun H' ⟨B', ys, gr, hBD, hD3, _, hbi, hp3⟩ => ?_
  · obtain ⟨e4, hgo⟩ := hb i hlt y H' H'' (gr.b.trans gr.bh) yy
    have memi := List.getElem_mem hlt
    refine hgo _ ⟨hst _ memi, ?_⟩
    unfold tYes
    dsimp only
    rw [if_pos rfl]
    have gr4 := gr.up e4
    have hik : n + i * k ≤ n + l.length * k := Nat.add_le_add_left (Nat.mul_le_mul_right k (by omega)) n
    refine he _ memi B' gr.b (n + i * k) hik H'' gr4.bh (gr.none_ hbx.ne hn) (hbi.ex e4) _ fun v B5 H5 g5 b5 pv => ?_
    have hD5 : H5 D = some (.lst ys) := g5.h _ _ (Ne.symm hxD) (e4 _ _ hD3)
    have hB5 : B5 D = none := g5.av D (by rw [e4 _ _ hD3]; simp) hBD
    have g15 := gr4.trans g5
    refine ⟨ys, hD5, sz_lt (by omega), B5, ys ++ [v], ⟨g15.b, Ex.mut g15.bh hB5, fun a o h1 h2 => by rw [upd_ne (ne_of_none h2 hD)]; exact g15.h a o h1 h2, by rw [upd_ne hxD]; exact g15.x2, g15.av⟩, hB5, upd_same, by rw [List.length_append]; exact Nat.add_le_add_right hl3 1, ?_, ?_⟩
    · obtain ⟨a', b', c', z1, z2⟩ := b5
      rw [show n + (i + 1) * k = n + i * k + k by rw [Nat.succ_mul, Nat.add_assoc]]
      exact ⟨a', b', c', by rw [upd_ne hxD]; exact z1, z2⟩
    · rw [List.take_succ_eq_append_getElem hlt]
      exact paired_snoc (mon_paired g5.b (fun a ha => hm a (List.mem_of_mem_take ha)) hp3) pv
  · rw [List.take_length] at hp3
    refine q _ (upd B' D (.lst ys)) H' ⟨gr.b.trans (Ex.new hBD), fun a u h => ?_, gr.h, gr.x2, fun a h1 h2 => ?_⟩ hbi ⟨D, ys, rfl, upd_same, mon_paired (Ex.new hBD) (fun a ha => hm a ha) hp3⟩
    · by_cases z : a = D
      · subst z; rw [upd_same] at h; rw [hD3]; exact h
      · rw [upd_ne z] at h; exact gr.bh a u h
    · have z : a ≠ D := fun z => h1 (z ▸ hD)
      rw [upd_ne z]; exact gr.av a h1 h2
/-- the iterable changes the box, too -/
theorem evx_lcN {wi : TI} {g : TG} {vs : List Nat} {P : V → Hp → Prop} {W : It → Hp → Prop} (h : ∀ H1, Ex B H1 → B x = none → Box x n H1 → ∀ R : It → Hp → Prop, (∀ J B2 H2, GrX x B H1 B2 H2 → Box x n1 H2 → W J B2 → R J H2) → wi σ H1 R)
    (main : ∀ J B2, Ex B B2 → W J B2 → EvX x (tLc (fun _ H R => R J H) g tt te vs) σ B2 n1 n2 P) : EvX x (tLc wi g tt te vs) σ B n n2 P := fun H1 e hn hb Q q =>
  h H1 e hn hb _ fun J B2 H2 g b w => main J B2 g.b w H2 g.bh (g.none_ hb.ne hn) b Q fun v B3 H3 g3 b3 p => q v B3 H3 (g.trans g3) b3 p
/-- range of a number that changes the box -/
theorem eix_range {t : TA} {m : Nat} (h : EaX x t σ B n n1 fun ws _ => ∃ r : Int, ws = [.int r] ∧ 0 ≤ r ∧ r ≤ m) (hm : m ≤ 100000) : ∀ H1, Ex B H1 → B x = none → Box x n H1 → ∀ R : It → Hp → Prop, (∀ J B2 H2, GrX x B H1 B2 H2 → Box x n1 H2 → (∃ r : Nat, J = Itr 0 r ∧ r ≤ m) → R J H2) → iRng1 t σ H1 R := fun H1 e hn hb R q =>
  h H1 e hn hb _ fun ws B2 H2 g b ⟨r, hw, r0, r1⟩ => ⟨r, hw, by omega, by omega, q _ B2 H2 g b ⟨r.toNat, rfl, by omega⟩⟩
end
end NP
end

section
set_option maxHeartbeats 4000000
namespace NP
open PySem PySem.Spec PyProof.Rows L2 Evl
theorem joinL_ones : ∀ cs : List Nat, TL.joinL [] (cs.map fun c => [c]) = cs
  | [] => rfl
  | [c] => rfl
  | c :: d :: cs => by
    have := joinL_ones (d :: cs)
    simp only [List.map_cons, TL.joinL] at this ⊢
    rw [this]
    rfl
theorem join_ones (cs : List Nat) : Txt.join ("" : Str) (cs.map fun c => SX.S [c]) = SX.S cs := by
  have := SX.join_S [] (cs.map fun c => [c])
  rw [joinL_ones, List.map_map] at this
  exact this
theorem ones_sum : ∀ cs : List Nat, ((cs.map fun c => SX.S [c]).map (·.length)).sum = cs.length
  | [] => rfl
  | c :: cs => by
    have := ones_sum cs
    simp only [List.map_cons, List.sum_cons, List.length_cons] at this ⊢
    rw [this, SX.S_len]
    simp
    omega
theorem cut_take {cs : List Nat} {s : Nat} (h : s ≤ cs.length) : cutS (SX.S cs) none (some (s : Int)) = SX.S (cs.take s) := by
  unfold cutS
  have e : (SX.S cs).length = cs.length := SX.S_len cs
  rw [e, HT.sIx_none, HT.sIx_nat, Nat.min_eq_left h]
  simp
theorem cut_drop {cs : List Nat} {s : Nat} (h : s ≤ cs.length) : cutS (SX.S cs) (some (s : Int)) none = SX.S (cs.drop s) := by
  unfold cutS
  have e : (SX.S cs).length = cs.length := SX.S_len cs
  rw [e, HT.sIx_none, HT.sIx_nat, Nat.min_eq_left h]
  simp
  exact List.take_of_length_le (by rw [List.length_drop]; exact Nat.le_refl _)
abbrev alpha : Str := "abcdefghijklmnopqrstuvwxyz"
theorem alpha_at {r : Int} (h0 : 0 ≤ r) (h1 : r < 26) : atI alpha.cps.toList r = some (97 + r.toNat) := by
  have e : alpha.cps.toList = (List.range 26).map (97 + ·) := by decide +kernel
  have := atI_nat (xs := alpha.cps.toList) (j := r.toNat) (v := 97 + r.toNat) (by rw [e, List.getElem?_map, List.getElem?_range (by omega)]; rfl)
  rwa [Int.toNat_of_nonneg h0] at this
section
variable {K : PySem.W.Frag} {σ : L2.St} {B H : Hp} {te ta tb : TE} {x : Addr} {n n1 n2 : Nat}
abbrev rInt1 : List V → Hp → VK → Prop := fun xs H Q => (∃ i, xs = [.int i] ∧ Q (.int i) H) ∨ ∃ k, xs = [.bl k] ∧ Q (.int (if k then 1 else 0)) H
theorem evx_pick {b : Bool} {c : Int} {P : Int → Prop} (h : EvX x ta σ B n n1 fun v _ => ∃ r, v = .int r ∧ P r) (hb : ∀ B1, Ex B B1 → Ev tb σ B1 (.bl b)) : EvX x (tOp (rIxL K) (tLst (tCons ta (tCons (tC (.int c)) tNil))) (tCB rInt1 (tCons tb tNil))) σ B n n1 fun v _ => ∃ r, v = .int r ∧ (if b then r = c else P r) := by
  refine evx_op (P := fun v B => ∃ p r, v = .ref p ∧ B p = some (.lst [.int r, .int c]) ∧ P r) (R := fun w _ => w = .int (if b then 1 else 0)) (fun _ _ _ e ⟨p, r, h1, h2, h3⟩ => ⟨p, r, h1, e _ _ h2, h3⟩) ((evx_lst (eax_cons (P := fun v _ => ∃ r, v = .int r ∧ P r) (fun _ _ _ _ h => h) h fun B1 e1 => eax_cons (P := fun v _ => v = .int c) mon_eq (evx_v ev_c) fun _ _ => eax_nil) ?_ ?_).imp fun v B2 _ ⟨p, vs, hv, hp, v1, vs1, w1, ⟨r, hr, pr⟩, v2, vs2, w2, hv2, w3⟩ => ?_) (fun B1 e1 => evx_v (ev_cb (ea_cons (hb B1 e1) ea_nil) fun H2 e2 Q q => .inr ⟨b, rfl, q H2 (Ex.refl H2)⟩)) fun v w B1 H1 e ⟨p, r, hv, hp, pr⟩ hw e1 Q q => ?_
  · rintro vs H1 ⟨v, vs1, rfl, _, v2, vs2, rfl, _, rfl⟩
    show 2 ≤ 1000
    decide
  · intro vs H1 H2 e h
    exact h
  · subst w1 hr w2 hv2 w3
    exact ⟨p, r, hv, hp, pr⟩
  · subst hv hw
    refine ⟨p, [.int r, .int c], if b then 1 else 0, if b then .int c else .int r, rfl, rfl, sq_of (e1 _ _ hp), by cases b <;> rfl, q _ B1 H1 (Gr.refl e1) ?_⟩
    cases b
    · exact ⟨r, rfl, pr⟩
    · exact ⟨c, rfl, rfl⟩
theorem ev_slS {z : Str} {tl th : TO} {lo hi : Option Int} (h : Ev te σ H (.str z)) (h1 : EvO tl σ H lo) (h2 : EvO th σ H hi) (hz : z.length ≤ 100000) : Ev (tSl rSlS te tl th) σ H (.str (cutS z lo hi)) := fun H1 e Q q =>
  h H1 e _ fun H2 e2 => h1 H2 (e.trans e2) _ fun H3 e3 => h2 H3 ((e.trans e2).trans e3) _ fun H4 e4 => ⟨z, rfl, sz_of hz, q H4 ((e2.trans e3).trans e4)⟩
theorem rv_addS {a b : Str} (h : a.length + b.length ≤ 100000) : RV (fun x y H Q => ∃ i j, x = .str i ∧ y = .str j ∧ i.length + j.length ≤ sizeLine ∧ Q (.str (i ++ j)) H) (.str a) (.str b) H (.str (a ++ b)) := fun H1 _ Q q => ⟨a, b, rfl, rfl, sz_of h, q H1 (Ex.refl H1)⟩
theorem q_asgGX {tz : TS} {D : Ends} {g : TG} {P : V → Hp → Prop} (hB : Ex B H) (hn : B x = none) (hb : Box x n H) (h : EvX x te σ B n n1 P) (k : ∀ v B2 H2, GrX x B H B2 H2 → B2 x = none → Box x n1 H2 → P v B2 → g v σ H2 (tz D)) : tSeq (tAsg te g) tz D σ H := h H hB hn hb _ fun v B2 H2 g b p => k v B2 H2 g (g.none_ hb.ne hn) b p
theorem q_parX {tz : TS} {D : Ends} {i j : Nat} {t : TA} {R : List V → Hp → Prop} (hB : Ex B H) (hn : B x = none) (hb : Box x n H) (h : EaX x t σ B n n1 R) (k : ∀ ws B2 H2, GrX x B H B2 H2 → B2 x = none → Box x n1 H2 → R ws B2 → ∃ v w, ws = [v, w] ∧ tz D ((σ.set i (some v)).set j (some w)) H2) : tSeq (tPar i j t) tz D σ H := h H hB hn hb _ fun ws B2 H2 g b r => k ws B2 H2 g (g.none_ hb.ne hn) b r
theorem take_evx {m : Int} {B : Hp} {σ : L2.St} {n : Nat} {t : TA} (h : EvA t σ B [.ref x, .int m]) (hn : n ≤ 1000000) (h1 : 1 ≤ m) (h2 : m ≤ 1000000) : EvX x (tCall sp_l_take [] L2.E0 t) σ B n (n + 1) fun v _ => ∃ r : Int, v = .int r ∧ 0 ≤ r ∧ r < m :=
  evx_call (eax_p (ea_p h)) fun ws B1 e1 hw => ⟨⟨x, n, m⟩, rfl, rfl, Nat.le_refl _, ⟨hw, hn, h1, h2⟩, fun v B2 _ h => h⟩
end
theorem ones_vals {l : List Nat} {ys : List V} (h : Paired (fun _ y => ∃ c : Nat, y = V.str ⟨#[c]⟩ ∧ 97 ≤ c ∧ c < 123) l ys) : ∃ cs : List Nat, ys = (cs.map fun c => SX.S [c]).map V.str ∧ cs.length = l.length ∧ ∀ c ∈ cs, 97 ≤ c ∧ c < 123 := by
  induction h with
  | nil => exact ⟨[], rfl, rfl, fun _ h => (nomatch h)⟩
  | cons r _ ih =>
    obtain ⟨c, rfl, h1⟩ := r
    obtain ⟨cs, rfl, h2, h3⟩ := ih
    refine ⟨c :: cs, rfl, by simp [h2], fun d hd => ?_⟩
    rcases List.mem_cons.mp hd with hd | hd
    · rw [hd]; exact h1
    · exact h3 d hd
section
variable {P : Program} {w : World} {K : PySem.W.Frag} {mg : Str → Option Value} {base : Heap}
structure DNm where
  x : Addr
  n : Nat
  m : Nat
def wordsL : List Str := ["peg", "needs", "bars", "enter", "leave", "walk", "obey", "gather", "undo", "best", "show", "table"]
theorem words_ok : ∀ s ∈ wordsL, NameS s := by
  have h : (wordsL.all fun s => decide (1 ≤ s.length) && decide (s.length ≤ 6) && s.cps.toList.all fun c => decide (97 ≤ c) && decide (c < 123)) = true := by decide +kernel
  rw [List.all_eq_true] at h
  intro s hs
  have := h s hs
  rw [Bool.and_eq_true, Bool.and_eq_true, List.all_eq_true] at this
  refine ⟨of_decide_eq_true this.1.1, of_decide_eq_true this.1.2, fun c hc => ?_⟩
  have := this.2 c hc
  rw [Bool.and_eq_true] at this
  exact ⟨of_decide_eq_true this.1, of_decide_eq_true this.2⟩
theorem words_nd : wordsL.Nodup := by decide +kernel
def sp_l_names (K : PySem.W.Frag) : Sp := PrmX (δ := DNm) (·.x) (·.n) (fun _ => 100) (fun d vs _ => vs = [.ref d.x, .int (d.m : Nat)] ∧ d.m ≤ 12 ∧ d.n ≤ 700000) (fun d v B => ∃ (p : Addr) (L : List Str), v = .ref p ∧ B p = some (.lst (L.map V.str)) ∧ L.length = d.m ∧ L.Nodup ∧ ∀ s ∈ L, NameS s)
theorem c_l_names (F : Facts K mg) : Cal P w K mg base 3 "_law_names" ["_law_box_here", "_law_many"] (sp_l_names K) := by
  obtain ⟨fd, D⟩ := F.d_l_names
  have c_l_mixed := c_l_mixed (P := P) (w := w) (base := base) F
  have c_l_take := c_l_take (P := P) (w := w) (base := base) F
  refine mkCal D sc_l_names F.g_l_names (fun _ _ _ _ _ _ us hl => match us, hl with | [_, _], _ => rfl) (fun vs H Q E ⟨d, B, _, _, _, e, _⟩ => by rw [e.1]; rfl) fun cdv A outer s H vs Q E hr h => ⟨_, (pss_cons (ps_asg (pe_tup (pa_cons pe_str (pa_cons (pe_cal c_l_take hr (by decide) rfl (pa_cons (pv 0) (pa_cons pe_int pa_nil))) pa_nil))) (pg_tup_k (K := K) (n := 2) rfl rfl (pgs_cons (pg_name (i := 2) sc_l_names.nd rfl (by first | exact .inl rfl | exact .inr rfl)) (pgs_cons (pg_name (i := 3) sc_l_names.nd rfl (by first | exact .inl rfl | exact .inr rfl)) pgs_nil))))
      (pss_cons (ps_if (pt_cmpR op_eq (pv 3) pe_int (nomark _)) (pss_cons (ps_set (i := 4) sc_l_names.nd rfl (by first | exact .inl rfl | exact .inr rfl) (pe_lst (pa_cons pe_str (pa_cons pe_str (pa_cons pe_str (pa_cons pe_str (pa_cons pe_str (pa_cons pe_str (pa_cons pe_str (pa_cons pe_str (pa_cons pe_str (pa_cons pe_str (pa_cons pe_str (pa_cons pe_str pa_nil))))))))))))))
      (pss_one (ps_ret (pe_slice (sl_list_k (K := K) rfl) (pe_cal c_l_mixed hr (by decide) rfl (pa_cons (pv 0) (pa_cons (pv 4) pa_nil))) po_none (po_some (pv 1)))))) pss_nil)
      (pss_cons (ps_set (i := 5) sc_l_names.nd rfl (by first | exact .inl rfl | exact .inr rfl) (pe_join_k (K := K) rfl pe_str (pe_lc rfl sc_l_names.nd (pi_range1 rfl F.f_range (pa_cons (pe_ix (ix_list_k (K := K) rfl) (pe_lst (pa_cons (pe_cal c_l_take hr (by decide) rfl (pa_cons (pv 0) (pa_cons pe_int pa_nil))) (pa_cons pe_int pa_nil))) (pe_callTy call_int1 rfl F.f_int (by decide +kernel) (pa_cons (pe_cmpR op_eq (pv 3) pe_int (nomark _)) pa_nil)) (fun _ _ => rfl)) pa_nil)) (blkOk_by (own := [("_law_k", 9)]) (N := N_l_names) (sc := defScope s_l_names) (by decide +kernel)) (fun _ _ _ _ _ => (pg_name (i := 9) sc_l_names.nd rfl (by first | exact .inl rfl | exact .inr rfl))) (fun _ _ _ _ _ => pts_nil) (fun _ _ _ _ _ => (pe_ix ix_str (pv 2) (pe_cal c_l_take hr (by decide) rfl (pa_cons (pv 0) (pa_cons pe_int pa_nil))) (fun _ _ => rfl))))))
      (pss_cons (ps_par (i := 6) (j := 7) rfl sc_l_names.nd rfl rfl (by decide) rfl rfl (pa_cons (pe_ix (ix_list_k (K := K) rfl) (pe_lst (pa_cons (pe_cal c_l_take hr (by decide) rfl (pa_cons (pv 0) (pa_cons (pe_op op_add (pe_callB (call_len_k (K := K) rfl) rfl F.f_len (by decide +kernel) (pa_cons (pv 5) pa_nil)) pe_int) pa_nil))) (pa_cons pe_int pa_nil))) (pe_callTy call_int1 rfl F.f_int (by decide +kernel) (pa_cons (pe_cmpR op_eq (pv 3) pe_int (nomark _)) pa_nil)) (fun _ _ => rfl)) (pa_cons (pe_cal c_l_take hr (by decide) rfl (pa_cons (pv 0) (pa_cons pe_int pa_nil))) pa_nil)) (sw_par rfl rfl rfl rfl (by decide +kernel) (fun _ _ h => nomatch h) (fun _ _ h => nomatch h) rfl rfl))
      (pss_cons (ps_set (i := 8) sc_l_names.nd rfl (by first | exact .inl rfl | exact .inr rfl) (pe_lst pa_nil))
      (pss_cons (ps_for PassesOwn.never rfl (pi_range1 rfl F.f_range (pa_cons (pv 1) pa_nil)) (pg_name (i := 9) sc_l_names.nd rfl (by first | exact .inl rfl | exact .inr rfl)) (pss_cons (ps_set (i := 10) sc_l_names.nd rfl (by first | exact .inl rfl | exact .inr rfl) (pe_ix ix_str (pv 2) (pe_op op_mod (pe_op op_add (pv 7) (pe_op op_mulW pe_int (pv 9))) pe_int) (fun _ _ => rfl)))
      (pss_cons (ps_set (i := 11) sc_l_names.nd rfl (by first | exact .inl rfl | exact .inr rfl) (pe_op op_add_str (pe_op op_add_str (pe_slice sl_str (pv 5) po_none (po_some (pv 6))) (pv 10)) (pe_slice sl_str (pv 5) (po_some (pv 6)) po_none)))
      (pss_cons (ps_if (PW.pt (pw_and (pt_cmpR op_eq (pv 3) pe_int (nomark _)) (pw_and1 (pt_cmpR op_eq (pe_op op_mod (pv 9) pe_int) pe_int (nomark _))))) (pss_one (ps_set (i := 11) sc_l_names.nd rfl (by first | exact .inl rfl | exact .inr rfl) (pe_op op_add_str (pe_ix (ix_list_k (K := K) rfl) (pv 8) (pe_un un_neg pe_int) (fun _ _ => rfl)) (pv 10)))) pss_nil)
      (pss_one (ps_expr (pe_bm_k (K := K) rfl PySem.F.plainAttrs_list PySem.F.slot_list_append PySem.F.type_list_append mt_append (pv 8) (pa_cons (pv 11) pa_nil))))))))
      (pss_one (ps_ret (pe_cal c_l_mixed hr (by decide) rfl (pa_cons (pv 0) (pa_cons (pv 8) pa_nil))))))))))), ?_⟩
  obtain ⟨⟨x, n, m⟩, B, hB, hn, hbx, ⟨rfl, hm, hnn⟩, q⟩ := h
  dsimp only at hn hbx hm hnn q
  refine q_asgGX hB hn hbx (P := fun v B => ∃ t r, v = .ref t ∧ B t = some (.tup [.str alpha, .int r]) ∧ 0 ≤ r ∧ r < 5) ((evx_tup (eax_cons (P := fun v _ => v = .str alpha) mon_eq (evx_v ev_c) fun B1 e1 => eax_cons (P := fun v _ => ∃ r : Int, v = .int r ∧ 0 ≤ r ∧ r < 5) (fun _ _ _ _ h => h) (take_evx (n := n) (ea_cons (ev_var rfl) (ea_cons ev_c ea_nil)) (by omega) (by decide) (by decide)) fun _ _ => eax_nil) ?_ ?_).imp fun v B2 _ ⟨t, vs, hv, ht, v1, vs1, w1, hv1, v2, vs2, w2, ⟨r, hv2, hr⟩, w3⟩ => ?_) fun v B1 H1 g1 hn1 hb1 ⟨t, r, hv, ht, r0, r1⟩ => ?_
  · rintro vs H1 ⟨v, vs1, rfl, _, v2, vs2, rfl, _, rfl⟩
    show 2 ≤ 1000
    decide
  · intro vs H1 H2 e h
    exact h
  · subst w1 hv1 w2 hv2 w3
    exact ⟨t, r, hv, ht, hr⟩
  subst hv
  refine ⟨t, _, rfl, st_of (g1.bh _ _ ht), rfl, _, _, rfl, _, _, rfl, rfl, ?_⟩
  refine q_if (b := decide (r = 0)) (et_test (ev_eqI (ev_var rfl) ev_c)) (fun hb H2 e2 => ?_) fun hb H2 e2 => ?_
  · have g2 := g1.up e2
    have hb2 := hb1.ex e2
    have hwds : EvP (tLst (tCons (tC (.str "peg")) (tCons (tC (.str "needs")) (tCons (tC (.str "bars")) (tCons (tC (.str "enter")) (tCons (tC (.str "leave")) (tCons (tC (.str "walk")) (tCons (tC (.str "obey")) (tCons (tC (.str "gather")) (tCons (tC (.str "undo")) (tCons (tC (.str "best")) (tCons (tC (.str "show")) (tCons (tC (.str "table")) tNil))))))))))))) [some (.ref x), some (.int (m : Nat)), some (.str alpha), some (.int r), none, none, none, none, none, none, none, none] B1 (fun v B2 => ∃ p, v = .ref p ∧ B2 p = some (.lst (wordsL.map V.str))) :=
      el_p (el_lst (ea_cons ev_c (ea_cons ev_c (ea_cons ev_c (ea_cons ev_c (ea_cons ev_c (ea_cons ev_c (ea_cons ev_c (ea_cons ev_c (ea_cons ev_c (ea_cons ev_c (ea_cons ev_c (ea_cons ev_c ea_nil)))))))))))) (by decide))
    refine q_asgP g2.bh hwds fun v B3 H3 g3 ⟨wl, hv, hwl⟩ => ?_
    subst hv
    have gx3 := g2.trans (g3.toX hb2.ne)
    have hb3 := hb2.ex g3.h
    have hn3 := gx3.none_ hbx.ne hn
    refine (evx_call (x := x) (n := n + 1) (n1 := n + 1) (n2 := n + 13) (B := B3) (P := fun v B => ∃ (p : Addr) (L' : List Str), v = .ref p ∧ B p = some (.lst (L'.map V.str)) ∧ L'.Perm wordsL) (eax_p (ea_p (ea_cons (ev_var rfl) (ea_cons (ev_var rfl) ea_nil)))) fun ws B4 e4 hw => ⟨⟨x, n + 1, wl, wordsL⟩, rfl, rfl, by show n + 1 + 12 ≤ n + 13; omega, ⟨hw, sqs_l (sq_of (e4 _ _ hwl)), fun s hs => (words_ok s hs).ok, by show wordsL.length ≤ 100; decide, by show n + 1 ≤ 900000; omega⟩, fun v B2 _ h => h⟩) H3 g3.bh hn3 hb3 _ fun v B4 H4 g4 b4 ⟨p, L', hv, hp, hperm⟩ => ?_
    subst hv
    refine ⟨_, rfl, (m : Nat), rfl, p, L'.map V.str, rfl, sq_of (g4.bh _ _ hp), fun l hl => ?_⟩
    have hml : m ≤ (L'.map V.str).length := by
      rw [List.length_map, hperm.length_eq]
      exact hm
    rw [cut_to hml, ← List.map_take]
    refine q _ _ _ ((gx3.trans g4).new hl) ((b4.ex (Ex.new hl)).mono (by show n + 13 ≤ n + 100; omega)) ⟨l, L'.take m, rfl, upd_same, ?_, (hperm.nodup_iff.mpr words_nd).sublist (List.take_sublist _ _), fun s hs => words_ok s (hperm.mem_iff.mp (List.mem_of_mem_take hs))⟩
    rw [List.length_map] at hml
    rw [List.length_take]
    exact Nat.min_eq_left hml
  · unfold tNext
    dsimp only
    have g2 := g1.up e2
    have hb2 := hb1.ex e2
    have hform : ∀ (σ : L2.St) (B' : Hp), σ[3]? = some (some (.int r)) → Ev (tOp rEq (tVar 3) (tC (.int 4))) σ B' (.bl (decide (r = 4))) := fun σ B' hσ => ev_eqI (ev_var hσ) ev_c
    -- the stem
    have hlc : EvX x (tLc (iRng1 (tCons (tOp (rIxL K) (tLst (tCons (tCall sp_l_take [] L2.E0 (tCons (tVar 0) (tCons (tC (.int 5)) tNil))) (tCons (tC (.int 5)) tNil))) (tCB rInt1 (tCons (tOp rEq (tVar 3) (tC (.int 4))) tNil))) tNil)) (gName 9) tYes (tOp rIxS (tVar 2) (tCall sp_l_take [] L2.E0 (tCons (tVar 0) (tCons (tC (.int 26)) tNil)))) [9]) [some (.ref x), some (.int (m : Nat)), some (.str alpha), some (.int r), none, none, none, none, none, none, none, none] B1 (n + 1) (n + 20) (fun v B => ∃ p cs, v = .ref p ∧ B p = some (.lst (((cs : List Nat).map fun c => SX.S [c]).map V.str)) ∧ (r ≠ 4 → cs.length ≤ 4) ∧ (r = 4 → cs.length = 5) ∧ ∀ c ∈ cs, 97 ≤ c ∧ c < 123) := by
      refine evx_lcN (n1 := n + 2) (W := fun J _ => ∃ c : Nat, J = Itr 0 c ∧ (r ≠ 4 → c ≤ 4) ∧ (r = 4 → c = 5)) (fun H3 e3 hn3 hb3 R k => (eax_cons (P := fun v _ => ∃ c : Int, v = .int c ∧ (if decide (r = 4) then c = 5 else 0 ≤ c ∧ c < 5)) (fun _ _ _ _ h => h) (evx_pick (b := decide (r = 4)) (c := 5) (P := fun c => 0 ≤ c ∧ c < 5) (take_evx (n := n + 1) (ea_cons (ev_var rfl) (ea_cons ev_c ea_nil)) (by omega) (by decide) (by decide)) fun B5 e5 => hform _ _ rfl) fun _ _ => eax_nil) H3 e3 hn3 hb3 _ fun ws B4 H4 g4 b4 ⟨v, vs, hw, ⟨c, hv, hc⟩, hvs⟩ => ?_) fun J B4 e4 ⟨c, hJ, hc1, hc2⟩ => ?_
      · subst hw hv hvs
        have hcc : 0 ≤ c ∧ c ≤ 5 ∧ (r ≠ 4 → c ≤ 4) ∧ (r = 4 → c = 5) := by
          by_cases h4 : r = 4
          · simp [h4] at hc
            exact ⟨by omega, by omega, fun z => absurd h4 z, fun _ => hc⟩
          · simp [h4] at hc
            exact ⟨hc.1, by omega, fun _ => by omega, fun z => absurd z h4⟩
        exact ⟨c, rfl, by omega, by omega, k _ B4 H4 g4 b4 ⟨c.toNat, rfl, fun z => by have := hcc.2.2.1 z; omega, fun z => by have := hcc.2.2.2 z; omega⟩⟩
      · subst hJ
        have hc5 : c ≤ 5 := by
          by_cases h4 : r = 4
          · rw [hc2 h4]; decide
          · exact Nat.le_succ_of_le (hc1 h4)
        have := evx_lc (x := x) (n := n + 2) (k := 1) (l := List.range c) (g := gName 9) (vs := [9]) (σ := [some (.ref x), some (.int (m : Nat)), some (.str alpha), some (.int r), none, none, none, none, none, none, none, none]) (B := B4) (te := tOp rIxS (tVar 2) (tCall sp_l_take [] L2.E0 (tCons (tVar 0) (tCons (tC (.int 26)) tNil)))) (P := fun _ v _ => ∃ c : Nat, v = V.str ⟨#[c]⟩ ∧ 97 ≤ c ∧ c < 123) (st := fun k => [some (.ref x), some (.int (m : Nat)), some (.str alpha), some (.int r), none, none, none, none, none, some (.int (k : Nat)), none, none]) (by rw [List.length_range]; omega) (J := Itr 0 c) (by rw [List.length_range]; exact walk_range) (fun _ _ => trivial) bnd_range (fun _ _ => rfl) (fun _ _ _ _ _ _ h => h) (fun k hk B5 e5 m5 hm5 => ?_)
        · rw [List.length_range] at this
          refine (this.le (by omega)).imp fun v B5 _ ⟨p, ys, hv, hp, hys⟩ => ?_
          obtain ⟨cs, rfl, h2, h3⟩ := ones_vals hys
          rw [List.length_range] at h2
          exact ⟨p, cs, hv, hp, fun z => by rw [h2]; exact hc1 z, fun z => by rw [h2]; exact hc2 z, h3⟩
        · rw [List.length_range] at hm5
          refine evx_op (P := fun v _ => v = .str alpha) (R := fun v _ => ∃ r : Int, v = .int r ∧ 0 ≤ r ∧ r < 26) mon_eq (evx_v (ev_var rfl)) (fun B6 e6 => take_evx (n := m5) (ea_cons (ev_var rfl) (ea_cons ev_c ea_nil)) (by omega) (by decide) (by decide)) fun v w B6 H6 e6 hv ⟨z, hw, z0, z1⟩ e7 Q q => ?_
          subst hv hw
          exact ⟨alpha, z, _, rfl, rfl, by decide +kernel, alpha_at z0 z1, q _ B6 H6 (Gr.refl e7) ⟨97 + z.toNat, rfl, by omega, by omega⟩⟩
    refine (?_ : tSeq (tAsg (tM1 (rJoinK K) (tC (.str "")) (tLc (iRng1 (tCons (tOp (rIxL K) (tLst (tCons (tCall sp_l_take [] L2.E0 (tCons (tVar 0) (tCons (tC (.int 5)) tNil))) (tCons (tC (.int 5)) tNil))) (tCB rInt1 (tCons (tOp rEq (tVar 3) (tC (.int 4))) tNil))) tNil)) (gName 9) tYes (tOp rIxS (tVar 2) (tCall sp_l_take [] L2.E0 (tCons (tVar 0) (tCons (tC (.int 26)) tNil)))) [9])) (gName 5)) _ _ _ H2)
    refine ⟨⟨_, rfl⟩, hlc H2 g2.bh hn1 hb2 _ fun v B3 H3 g3 b3 ⟨p, cs, hv, hp, hl4, hl5, hcs⟩ => ?_⟩
    subst hv
    have hcl5 : cs.length ≤ 5 := by
      by_cases h4 : r = 4
      · rw [hl5 h4]; decide
      · exact Nat.le_succ_of_le (hl4 h4)
    refine ⟨"", p, cs.map fun c => SX.S [c], rfl, rfl, .inl (sq_of (g3.bh _ _ hp)), ?_, ?_⟩
    · rw [ones_sum, show (Str.ofString "").length = 0 from rfl]
      omega
    rw [join_ones]
    have gx3 := g2.trans g3
    have hn3 := g3.none_ hb2.ne hn1
    have hlen := ev_lenSt (K := K) (z := SX.S cs) (ta := tVar 5) (σ := [some (.ref x), some (.int (m : Nat)), some (.str alpha), some (.int r), none, some (.str (SX.S cs)), none, none, none, none, none, none]) (B := B3) (ev_var rfl) (by rw [SX.S_len]; omega)
    rw [SX.S_len] at hlen
    have hpar : EaX x (tCons (tOp (rIxL K) (tLst (tCons (tCall sp_l_take [] L2.E0 (tCons (tVar 0) (tCons (tOp (rI0 fun i j => .int (i + j)) (tCB (rLn K) (tCons (tVar 5) tNil)) (tC (.int 1))) tNil))) (tCons (tC (.int 5)) tNil))) (tCB rInt1 (tCons (tOp rEq (tVar 3) (tC (.int 4))) tNil))) (tCons (tCall sp_l_take [] L2.E0 (tCons (tVar 0) (tCons (tC (.int 26)) tNil))) tNil)) [some (.ref x), some (.int (m : Nat)), some (.str alpha), some (.int r), none, some (.str (SX.S cs)), none, none, none, none, none, none] B3 (n + 20) (n + 22) (fun ws _ => ∃ s ft : Nat, ws = [.int (s : Nat), .int (ft : Nat)] ∧ s ≤ cs.length ∧ ft < 26) := by
      refine (eax_cons (n1 := n + 21) (P := fun v _ => ∃ c : Int, v = .int c ∧ (if decide (r = 4) then c = 5 else 0 ≤ c ∧ c < (cs.length : Int) + 1)) (fun _ _ _ _ h => h) (evx_pick (b := decide (r = 4)) (c := 5) (P := fun c => 0 ≤ c ∧ c < (cs.length : Int) + 1) (take_evx (n := n + 20) (ea_cons (ev_var rfl) (ea_cons (ev_op hlen ev_c rv_I0) ea_nil)) (by omega) (by omega) (by omega)) fun B5 e5 => hform _ _ rfl) fun B5 e5 => eax_cons (P := fun v _ => ∃ c : Int, v = .int c ∧ 0 ≤ c ∧ c < 26) (fun _ _ _ _ h => h) (take_evx (n := n + 21) (ea_cons (ev_var rfl) (ea_cons ev_c ea_nil)) (by omega) (by decide) (by decide)) fun _ _ => eax_nil).imp fun ws B4 e4 ⟨v1, vs1, w1, ⟨c, hv1, hc⟩, v2, vs2, w2, ⟨z, hv2, z0, z1⟩, w3⟩ => ?_
      subst w1 hv1 w2 hv2 w3
      have hcc : 0 ≤ c ∧ c ≤ cs.length := by
        by_cases h4 : r = 4
        · simp [h4] at hc
          have := hl5 h4
          omega
        · simp [h4] at hc
          omega
      refine ⟨c.toNat, z.toNat, ?_, by omega, by omega⟩
      rw [Int.toNat_of_nonneg hcc.1, Int.toNat_of_nonneg z0]
    refine q_parX g3.bh hn3 b3 hpar fun ws B4 H4 g4 hn4 b4 ⟨s, ft, hw, hs, hft⟩ => ?_
    subst hw
    refine ⟨_, _, rfl, ?_⟩
    have gx4 := gx3.trans g4
    refine q_asgL (el_lst ea_nil (by decide)) fun f H5 hf e5 hf5 => ?_
    have hB4f : B4 f = none := fresh_back g4.bh hf
    have hxf : x ≠ f := fun z => b4.ne (z ▸ hf)
    have gx5 := gx4.up e5
    have hb5 := b4.ex e5
    refine q_for (B := B4) gx5.bh (ei_range1 (n := m) (ea_cons (ev_var rfl) ea_nil) (by omega)) walk_range (fun i σ' H' => ∃ s9 s10 s11, σ' = [some (.ref x), some (.int (m : Nat)), some (.str alpha), some (.int r), none, some (.str (SX.S cs)), some (.int (s : Nat)), some (.int (ft : Nat)), some (.ref f), s9, s10, s11] ∧ GrX f B4 H5 B4 H' ∧ H' f = some (.lst ((List.range i).map fun k => V.str (SX.S (nameN (decide (r = 1)) cs s ft k)))))
      (fun H6 e6 => ⟨none, none, none, rfl, (GrX.refl gx5.bh (by rw [hf5]; simp)).up e6, e6 _ _ hf5⟩) (fun i σ' H' _ _ => trivial) (fun i y σ' H6 H6' hlt ⟨s9, s10, s11, hσ, gi, hfi⟩ hy => ?_) fun σ' H6 ⟨s9, s10, s11, hσ, gi, hfi⟩ => ?_
    · subst hσ
      obtain ⟨rfl, rfl⟩ := hy
      have em : ((ft : Int) + 7 * (0 + (i : Nat))) % 26 = (((ft + 7 * i) % 26 : Nat) : Int) := by simp
      have hm26 : (ft + 7 * i) % 26 < 26 := Nat.mod_lt _ (by decide)
      have hl1 := ev_op (σ := [some (.ref x), some (.int (m : Nat)), some (.str alpha), some (.int r), none, some (.str (SX.S cs)), some (.int (s : Nat)), some (.int (ft : Nat)), some (.ref f), some (.int (0 + (i : Nat))), s10, s11]) (H := H6') (ev_var (i := 2) rfl) (ev_op (ev_op (ev_var (i := 7) rfl) (ev_op (ev_c (v := .int 7)) (ev_var (i := 9) rfl) (rv_I (C := CMulW) (g := fun i j => .int (i * j)) (wide_mul (a := 3) (b := 7) (by decide) (by omega) (by decide) (by decide) (by decide)))) (rv_I0 (g := fun i j => .int (i + j)))) (ev_c (v := .int 26)) (rv_I (C := fun _ j => 0 < j) (g := fun i j => .int (i % j)) (by decide))) (rv_ixS (w := alpha) (c := ltr ft i) (by decide +kernel) (by
        rw [em, alpha_at (by omega) (by omega)]
        unfold ltr
        rw [Int.toNat_natCast]))
      refine q_asg hl1 fun H7 e7 => ?_
      have hfi7 := e7 _ _ hfi
      refine q_asg (v := .str (SX.S (baseN cs s ft i))) (by
        have := ev_op (σ := [some (.ref x), some (.int (m : Nat)), some (.str alpha), some (.int r), none, some (.str (SX.S cs)), some (.int (s : Nat)), some (.int (ft : Nat)), some (.ref f), some (.int (0 + (i : Nat))), some (.str ⟨#[ltr ft i]⟩), s11]) (H := H7) (ev_op (ev_slS (te := tVar 5) (ev_var rfl) eo_none (eo_some (te := tVar 6) (ev_var rfl)) (by rw [SX.S_len]; omega)) (ev_var (i := 10) rfl) (rv_addS (by
          rw [cut_take hs, SX.S_len, List.length_take]
          show _ + 1 ≤ 100000
          omega))) (ev_slS (te := tVar 5) (ev_var rfl) (eo_some (te := tVar 6) (ev_var rfl)) eo_none (by rw [SX.S_len]; omega)) (rv_addS (by
          rw [cut_take hs, cut_drop hs, show (⟨#[ltr ft i]⟩ : Str) = SX.S [ltr ft i] from rfl, SX.S_cat, SX.S_len, SX.S_len, List.length_append, List.length_take, List.length_drop]
          show _ + 1 + _ ≤ 100000
          omega))
        rw [cut_take hs, cut_drop hs, show (⟨#[ltr ft i]⟩ : Str) = SX.S [ltr ft i] from rfl, SX.S_cat, SX.S_cat, List.append_assoc] at this
        exact this) fun H8 e8 => ?_
      have hfi8 := e8 _ _ hfi7
      have gi8 := (gi.up e7).up e8
      refine q_join (st := fun _ : Unit => [some (.ref x), some (.int (m : Nat)), some (.str alpha), some (.int r), none, some (.str (SX.S cs)), some (.int (s : Nat)), some (.int (ft : Nat)), some (.ref f), some (.int (0 + (i : Nat))), some (.str ⟨#[ltr ft i]⟩), some (.str (SX.S (nameN (decide (r = 1)) cs s ft i)))]) (fun _ H9 e9 => ?_) fun rest => ?_
      · refine ⟨.ref f, rfl, .inl ⟨rfl, _, sq_of (e9 _ _ hfi8)⟩, _, rfl, f, _, _, rfl, rfl, e9 _ _ hfi8, sz_lt (by rw [List.length_map, List.length_range]; omega), _, _, _, rfl, ((gi8.up e9).mut hB4f), ?_⟩
        rw [upd_same, List.range_succ, List.map_append]
        rfl
      · refine q_if (b := decide (r = 1) && decide (i % 2 = 1)) (et_and (et_test (ev_eqI (ev_var rfl) ev_c)) fun _ => et_is (et_test (ev_eqI (ev_op (ev_var rfl) ev_c (rv_I (by show (0 : Int) < 2; decide))) ev_c)) ?_) (fun hb H9 e9 => ?_) fun hb H9 e9 => ?_
        · simp only [decide_eq_decide]
          omega
        · rw [Bool.and_eq_true] at hb
          have hi2 := of_decide_eq_true hb.2
          have hl : (List.range i).map (fun k => V.str (SX.S (nameN (decide (r = 1)) cs s ft k))) = ((List.range (i - 1)).map fun k => V.str (SX.S (nameN (decide (r = 1)) cs s ft k))) ++ [V.str (SX.S (baseN cs s ft (i - 1)))] := by
            have e1 : i = (i - 1) + 1 := by omega
            rw [e1, List.range_succ, List.map_append]
            simp only [Nat.add_sub_cancel]
            congr 1
            have : nameN (decide (r = 1)) cs s ft (i - 1) = baseN cs s ft (i - 1) := by
              unfold nameN
              rw [show decide ((i - 1) % 2 = 1) = false from decide_eq_false (by omega), Bool.and_false]
              rfl
            simp [this]
          have hx9 := e9 _ _ hfi8
          rw [hl] at hx9
          refine s_asg (v := .str (SX.S (nameN (decide (r = 1)) cs s ft i))) (by
            have := ev_op (σ := [some (.ref x), some (.int (m : Nat)), some (.str alpha), some (.int r), none, some (.str (SX.S cs)), some (.int (s : Nat)), some (.int (ft : Nat)), some (.ref f), some (.int (0 + (i : Nat))), some (.str ⟨#[ltr ft i]⟩), some (.str (SX.S (baseN cs s ft i)))]) (H := H9) (ev_op (ev_var (i := 8) rfl) (ev_un (r := rU fun i => .int (-i)) (ev_c (v := .int 1)) (z := .int (-1)) fun H1 _ Q q => ⟨1, rfl, q H1 (Ex.refl H1)⟩) (rv_ixL (K := K) (sq_of hx9) (atI_last _ _))) (ev_var (i := 10) rfl) (rv_addS (by
              rw [SX.S_len, baseN_len]
              show _ + 1 ≤ 100000
              omega))
            rw [show (⟨#[ltr ft i]⟩ : Str) = SX.S [ltr ft i] from rfl, SX.S_cat] at this
            have en : nameN (decide (r = 1)) cs s ft i = baseN cs s ft (i - 1) ++ [ltr ft i] := by
              unfold nameN
              rw [hb.1, hb.2]
              rfl
            rw [en]
            exact this) fun H10 e10 => ?_
          exact rest () H10 (e9.trans e10)
        · have en : nameN (decide (r = 1)) cs s ft i = baseN cs s ft i := by
            unfold nameN
            rw [hb]
            rfl
          have := rest () H9 e9
          rw [en] at this
          exact this
    · subst hσ
      have hfr : ∀ L : List Str, L = (List.range m).map (fun k => SX.S (nameN (decide (r = 1)) cs s ft k)) → H6 f = some (.lst (L.map V.str)) := fun L e => by rw [e, List.map_map]; exact hfi
      have hnm : ∀ z ∈ (List.range m).map (fun k => SX.S (nameN (decide (r = 1)) cs s ft k)), NameS z := fun z hz => by
        obtain ⟨k, _, rfl⟩ := List.mem_map.mp hz
        have h1 := nameN_len (f1 := decide (r = 1)) (cs := cs) (s := s) (first := ft) (k := k) (fun z => hl4 (by have := of_decide_eq_true z; omega)) hcl5
        exact ⟨by rw [SX.S_len]; exact h1.1, by rw [SX.S_len]; exact h1.2, fun c hc => nameN_mem hcs c hc⟩
      have hnd : ((List.range m).map (fun k => SX.S (nameN (decide (r = 1)) cs s ft k))).Nodup := by
        rw [List.Nodup, List.pairwise_map]
        exact List.Pairwise.imp_of_mem (fun ha hb hne e => hne (nameN_inj (by have := List.mem_range.mp ha; omega) (by have := List.mem_range.mp hb; omega) (SX.S_inj e))) List.nodup_range
      have hlL : ((List.range m).map (fun k => SX.S (nameN (decide (r = 1)) cs s ft k))).length = m := by rw [List.length_map, List.length_range]
      have hf6 := hfr _ rfl
      generalize (List.range m).map (fun k => SX.S (nameN (decide (r = 1)) cs s ft k)) = L at hnm hnd hlL hf6
      have hH0f : H f = none := by
        cases e : H f with
        | none => rfl
        | some o => exact absurd hf (gx4.some (by rw [e]; simp))
      have g6 : GrX x B H (upd B4 f (.lst (L.map V.str))) H6 := ⟨gx5.b.trans (Ex.new hB4f), fun y u h => by
        by_cases z : y = f
        · subst z; rw [upd_same] at h; rw [hf6]; exact h
        · rw [upd_ne z] at h; exact gi.bh _ _ h, fun y u h e => gi.h _ _ (fun z => by rw [z, hH0f] at e; cases e) (gx5.h _ _ h e), by
        obtain ⟨a', b', c', z1, _⟩ := hb5
        rw [gi.h _ _ hxf z1]; simp, fun y h1 h2 => by
        have : y ≠ f := fun z => h1 (z ▸ hH0f)
        rw [upd_ne this]
        exact gx5.av y h1 h2⟩
      have hb6 : Box x (n + 22) H6 := by
        obtain ⟨a', b', c', z1, z2⟩ := hb5
        exact ⟨a', b', c', gi.h _ _ hxf z1, z2⟩
      have hfB : upd B4 f (.lst (L.map V.str)) f = some (.lst (L.map V.str)) := upd_same
      generalize upd B4 f (.lst (L.map V.str)) = B6 at g6 hfB
      refine s_retX (x := x) (n := n + 22) (n1 := n + 40) g6.bh (g6.none_ hbx.ne hn) hb6 (P := fun v B => ∃ (p : Addr) (L' : List Str), v = .ref p ∧ B p = some (.lst (L'.map V.str)) ∧ L'.Perm L) (evx_call (eax_p (ea_p (ea_cons (ev_var rfl) (ea_cons (ev_var rfl) ea_nil)))) fun ws B7 e7 hw => ⟨⟨x, n + 22, f, L⟩, rfl, rfl, by show n + 22 + L.length ≤ n + 40; omega, ⟨hw, sqs_l (sq_of (e7 _ _ hfB)), fun s hs => (hnm s hs).ok, by show L.length ≤ 100; omega, by show n + 22 ≤ 900000; omega⟩, fun v B2 _ h => h⟩) fun v B7 H7 g7 _ b7 ⟨p, L', hv, hp, hperm⟩ => ?_
      exact q v B7 H7 (g6.trans g7) (b7.mono (by show n + 40 ≤ n + 100; omega)) ⟨p, L', hv, hp, by rw [hperm.length_eq]; exact hlL, hperm.nodup_iff.mpr hnd, fun s hs => hnm s (hperm.mem_iff.mp hs)⟩
end
end NP
end

section
set_option maxHeartbeats 4000000
namespace NP
open PySem
/-! ### what a peg needs: reachability -/
inductive Reach (N : List (Str × Str)) : Str → Str → Prop
  | refl (p : Str) : Reach N p p
  | step {p q r : Str} : (p, q) ∈ N → Reach N q r → Reach N p r
theorem Reach.trans {N : List (Str × Str)} {p q r : Str} (h : Reach N p q) (h2 : Reach N q r) : Reach N p r := by
  induction h with
  | refl => exact h2
  | step e _ ih => exact .step e (ih h2)
theorem Reach.mono {N M : List (Str × Str)} {p q : Str} (s : ∀ x ∈ N, x ∈ M) (h : Reach N p q) : Reach M p q := by
  induction h with
  | refl => exact .refl _
  | step e _ ih => exact .step (s _ e) ih
theorem Reach.snoc {N : List (Str × Str)} {x : Str × Str} {p q : Str} (h : Reach (N ++ [x]) p q) : Reach N p q ∨ (Reach N p x.1 ∧ Reach N x.2 q) := by
  induction h with
  | refl => exact .inl (.refl _)
  | step e _ ih =>
    rcases List.mem_append.mp e with e | e
    · rcases ih with ih | ih
      · exact .inl (.step e ih)
      · exact .inr ⟨.step e ih.1, ih.2⟩
    · have e := List.mem_singleton.mp e
      subst e
      rcases ih with ih | ih
      · exact .inr ⟨.refl _, ih⟩
      · exact .inr ⟨.refl _, ih.2⟩
theorem mem_longer {R N : List Str} {p q : Str} : q ∈ longer R p N ↔ q ∈ R ∨ (p ∈ R ∧ q ∈ N) := by
  unfold longer
  split
  · rename_i h
    rw [List.mem_append, List.mem_filter]
    constructor
    · rintro (a | a)
      · exact .inl a
      · exact .inr ⟨h, a.1⟩
    · rintro (a | a)
      · exact .inl a
      · by_cases z : q ∈ R
        · exact .inl z
        · exact .inr ⟨a.2, by simp [z]⟩
  · rename_i h
    constructor
    · exact .inl
    · rintro (a | a)
      · exact a
      · exact absurd a.1 h
theorem list_snoc_ind {α : Type} {P : List α → Prop} (h0 : P []) (hs : ∀ l a, P l → P (l ++ [a])) (l : List α) : P l := by
  have : ∀ m : List α, P m.reverse := fun m => by
    induction m with
    | nil => exact h0
    | cons a m ih => rw [List.reverse_cons]; exact hs _ _ ih
  have h := this l.reverse
  rwa [List.reverse_reverse] at h
theorem mem_rowsOf {N : List (Str × Str)} : ∀ {p q : Str}, q ∈ rowsOf N p ↔ Reach N p q := by
  refine list_snoc_ind (P := fun N => ∀ {p q : Str}, q ∈ rowsOf N p ↔ Reach N p q) ?_ ?_ N
  · intro p q
    constructor
    · intro h
      have : q = p := by simpa [rowsOf] using h
      rw [this]
      exact .refl _
    · intro h
      cases h with
      | refl => simp [rowsOf]
      | step e _ => cases e
  · intro l x ih p q
    rw [rowsOf_snoc]
    unfold stepR
    rw [mem_longer, ih, ih, ih]
    constructor
    · rintro (h | ⟨h1, h2⟩)
      · exact h.mono fun y hy => List.mem_append_left _ hy
      · exact (h1.mono fun y hy => List.mem_append_left _ hy).trans (.step (List.mem_append_right _ (List.mem_singleton.mpr rfl)) (h2.mono fun y hy => List.mem_append_left _ hy))
    · exact Reach.snoc
theorem Reach.sub {L : List Str} {N : List (Str × Str)} (hN : ∀ x ∈ N, x.1 ∈ L ∧ x.2 ∈ L) {p q : Str} (h : Reach N p q) (hp : p ∈ L) : q ∈ L := by
  induction h with
  | refl => exact hp
  | step e _ ih => exact ih (hN _ e).2
theorem longer_nodup {R N : List Str} {p : Str} (h : R.Nodup) (h2 : N.Nodup) : (longer R p N).Nodup := by
  unfold longer
  split
  · rw [List.nodup_append]
    refine ⟨h, h2.filter _, fun a ha b hb => ?_⟩
    rw [List.mem_filter] at hb
    intro z
    subst z
    simp [ha] at hb
  · exact h
theorem rowsOf_nodup {N : List (Str × Str)} : ∀ p, (rowsOf N p).Nodup := by
  refine list_snoc_ind (P := fun N => ∀ p, (rowsOf N p).Nodup) ?_ ?_ N
  · intro p
    simp [rowsOf]
  · intro l x ih p
    rw [rowsOf_snoc]
    exact longer_nodup (ih _) (ih _)
theorem rowsLe_of {L : List Str} {N : List (Str × Str)} (hl : L.length ≤ 1000) (hN : ∀ x ∈ N, x.1 ∈ L ∧ x.2 ∈ L) : RowsLe L N := fun i p hp => by
  refine Nat.le_trans (nodup_len _ L (rowsOf_nodup p) fun q hq => ?_) hl
  exact (mem_rowsOf.mp hq).sub (fun x hx => hN x (List.mem_of_mem_take hx)) hp
/-- a rank: what is needed ranks lower -/
def Ranked (N : List (Str × Str)) (r : Str → Nat) : Prop := ∀ x ∈ N, r x.2 < r x.1
theorem Reach.rank {N : List (Str × Str)} {r : Str → Nat} (hr : Ranked N r) {p q : Str} (h : Reach N p q) : r q ≤ r p := by
  induction h with
  | refl => exact Nat.le_refl _
  | step e _ ih => exact Nat.le_trans ih (Nat.le_of_lt (hr _ e))
theorem Reach.anti {N : List (Str × Str)} {r : Str → Nat} (hr : Ranked N r) {p q : Str} (h : Reach N p q) (h2 : Reach N q p) : p = q := by
  cases h with
  | refl => rfl
  | step e h =>
    have a := hr _ e
    have b := h.rank hr
    have c := h2.rank hr
    dsimp only at a
    omega
theorem noCircle_of {N : List (Str × Str)} {r : Str → Nat} (hr : Ranked N r) : NoCircle N := fun i hi h => by
  have h1 := ((mem_rowsOf.mp h).mono fun x hx => List.mem_of_mem_take hx).rank hr
  have h2 := hr _ (List.getElem_mem hi)
  omega
/-- a strict order has no circles -/
theorem noCircle_le {N : List (Str × Str)} {le : Str → Str → Prop} (h0 : ∀ x ∈ N, le x.1 x.2) (ht : ∀ p q r, le p q → le q r → le p r) (hi : ∀ p, ¬ le p p) : NoCircle N := fun i hi' h => by
  have h1 : ∀ {p q : Str}, Reach N p q → p = q ∨ le p q := fun h => by
    induction h with
    | refl => exact .inl rfl
    | step e _ ih =>
      rcases ih with ih | ih
      · exact .inr (ih ▸ h0 _ e)
      · exact .inr (ht _ _ _ (h0 _ e) ih)
  have h2 := h1 ((mem_rowsOf.mp h).mono fun x hx => List.mem_of_mem_take hx)
  have h3 := h0 _ (List.getElem_mem hi')
  rcases h2 with h2 | h2
  · rw [h2] at h3
    exact hi _ h3
  · exact hi _ (ht _ _ _ h3 h2)
/-! ### the law's rows are the same -/
theorem stepL_le {x : Str × Str} {ρ : Str → List Str} {p q : Str} (h : q ∈ ρ p) : q ∈ stepL x ρ p := by
  unfold stepL
  split
  · rename_i e
    subst e
    exact List.mem_append_left _ h
  · exact h
theorem mem_stepL {x : Str × Str} {ρ : Str → List Str} {p q : Str} : q ∈ stepL x ρ p ↔ q ∈ ρ p ∨ (p = x.1 ∧ q ∈ ρ x.2) := by
  unfold stepL
  split
  · rename_i e
    subst e
    rw [List.mem_append, List.mem_filter]
    constructor
    · rintro (a | a)
      · exact .inl a
      · exact .inr ⟨rfl, a.1⟩
    · rintro (a | a)
      · exact .inl a
      · by_cases z : q ∈ ρ x.1
        · exact .inl z
        · exact .inr ⟨a.2, by simp [z]⟩
  · rename_i e
    exact ⟨.inl, fun h => h.elim id fun h => absurd h.1 e⟩
theorem foldL_le : ∀ (N : List (Str × Str)) {ρ : Str → List Str} {p q : Str}, q ∈ ρ p → q ∈ N.foldl (fun ρ x => stepL x ρ) ρ p
  | [], _, _, _, h => h
  | x :: N, _, _, _, h => foldL_le N (stepL_le h)
theorem foldL_edge : ∀ (N : List (Str × Str)) {ρ : Str → List Str} {p q r : Str}, (p, q) ∈ N → r ∈ ρ q → r ∈ N.foldl (fun ρ x => stepL x ρ) ρ p
  | [], _, _, _, _, h, _ => nomatch h
  | x :: N, ρ, p, q, r, h, hr => by
    rcases List.mem_cons.mp h with h | h
    · subst h
      exact foldL_le N (mem_stepL.mpr (.inr ⟨rfl, hr⟩))
    · exact foldL_edge N h (stepL_le hr)
theorem rounds_self {N : List (Str × Str)} {p : Str} : ∀ i, p ∈ rounds N i p
  | 0 => by simp [rounds]
  | i + 1 => foldL_le N (rounds_self i)
theorem rounds_of {N : List (Str × Str)} {r : Str → Nat} (hr : Ranked N r) : ∀ (i : Nat) {p o : Str}, r p ≤ i → Reach N p o → o ∈ rounds N i p
  | 0, p, o, h, h2 => by
    cases h2 with
    | refl => exact rounds_self 0
    | step e _ =>
      have := hr _ e
      dsimp only at this
      omega
  | i + 1, p, o, h, h2 => by
    cases h2 with
    | refl => exact rounds_self _
    | step e h2 =>
      have := hr _ e
      dsimp only at this
      exact foldL_edge N e (rounds_of hr i (by omega) h2)
theorem foldL_reach {M : List (Str × Str)} : ∀ (N : List (Str × Str)) {ρ : Str → List Str}, (∀ x ∈ N, x ∈ M) → (∀ p, ∀ o ∈ ρ p, Reach M p o) → ∀ p, ∀ o ∈ N.foldl (fun ρ x => stepL x ρ) ρ p, Reach M p o
  | [], _, _, h => h
  | x :: N, ρ, hs, h => foldL_reach N (fun y hy => hs y (List.mem_cons_of_mem _ hy)) fun p o ho => by
    rcases mem_stepL.mp ho with h3 | ⟨h4, h3⟩
    · exact h _ _ h3
    · rw [h4]
      exact .step (hs _ List.mem_cons_self) (h _ _ h3)
theorem rounds_reach {N : List (Str × Str)} : ∀ i, ∀ p, ∀ o ∈ rounds N i p, Reach N p o
  | 0 => fun p o ho => by
    have : o = p := by simpa [rounds] using ho
    rw [this]
    exact .refl _
  | i + 1 => foldL_reach N (fun _ h => h) (rounds_reach i)
theorem mem_lawRow {L : List Str} {N : List (Str × Str)} {r : Str → Nat} (hr : Ranked N r) (hN : ∀ x ∈ N, x.1 ∈ L ∧ x.2 ∈ L) {p o : Str} (hp : p ∈ L) (hl : r p ≤ L.length) : o ∈ lawRow L N p ↔ Reach N p o := by
  unfold lawRow
  rw [List.mem_filter, decide_eq_true_eq]
  exact ⟨fun h => rounds_reach _ _ _ h.2, fun h => ⟨h.sub hN hp, rounds_of hr _ hl h⟩⟩
theorem barred_congr {R R' S S' : List Str} {l : List (Str × Str)} (h : ∀ o, o ∈ R ↔ o ∈ R') (h2 : ∀ o, o ∈ S ↔ o ∈ S') : barred R S l = barred R' S' l := by
  unfold barred
  congr 1
  funext x
  simp only [h, h2]
theorem dead_of {L : List Str} {N Bs : List (Str × Str)} {r : Str → Nat} (hr : Ranked N r) (hN : ∀ x ∈ N, x.1 ∈ L ∧ x.2 ∈ L) (hl : ∀ p ∈ L, r p ≤ L.length) (h : ∀ p ∈ L, barred (lawRow L N p) (lawRow L N p) Bs = false) : ∀ p ∈ L, barred (rowsOf N p) (rowsOf N p) Bs = false := fun p hp => by
  have e : ∀ o, o ∈ rowsOf N p ↔ o ∈ lawRow L N p := fun o => by rw [mem_rowsOf, mem_lawRow hr hN hp (hl p hp)]
  rw [barred_congr e e]
  exact h p hp
end NP
end

section
set_option maxHeartbeats 4000000
namespace NP
open PySem
/-! ### boards as orders with clashes -/
structure Bd.Good (b : Bd) : Prop where
  nd : b.pegs.Nodup
  refl : ∀ p, b.le p p = true
  trans : ∀ p q r, b.le p q = true → b.le q r = true → b.le p r = true
  anti : ∀ p q, b.le p q = true → b.le q p = true → p = q
  sym : ∀ p q, b.cl p q = b.cl q p
  up : ∀ p' p q, b.le p' p = true → b.cl p q = true → b.cl p' q = true
  irr : ∀ p ∈ b.pegs, b.cl p p = false
theorem Bd.Good.no {b : Bd} (g : b.Good) {p q : Str} (hp : p ∈ b.pegs) (h1 : b.le p q = true) (h2 : b.cl p q = true) : False := by
  rw [g.sym] at h2
  have := g.up _ _ _ h1 h2
  rw [g.irr p hp] at this
  exact nomatch this
theorem mem_prs {c : Str → Str → Bool} {l : List Str} {p q : Str} : (p, q) ∈ prs c l ↔ c p q = true ∧ ∃ i j : Nat, i < j ∧ l[i]? = some p ∧ l[j]? = some q := by
  unfold prs
  rw [List.mem_flatMap]
  constructor
  · rintro ⟨⟨y, i⟩, hy, h2⟩
    obtain ⟨z, hz, e⟩ := List.mem_map.mp h2
    obtain ⟨h3, h4⟩ := List.mem_filter.mp hz
    cases e
    have h5 := List.mem_zipIdx_iff_getElem?.mp hy
    obtain ⟨j, hj⟩ := List.mem_iff_getElem?.mp h3
    rw [List.getElem?_drop] at hj
    exact ⟨h4, i, i + 1 + j, by omega, h5, hj⟩
  · rintro ⟨h, i, j, hij, hi, hj⟩
    refine ⟨(p, i), List.mem_zipIdx_iff_getElem?.mpr hi, List.mem_map.mpr ⟨q, List.mem_filter.mpr ⟨List.mem_iff_getElem?.mpr ⟨j - (i + 1), ?_⟩, h⟩, rfl⟩⟩
    rw [List.getElem?_drop]
    rw [show i + 1 + (j - (i + 1)) = j by omega]
    exact hj
theorem Bd.Good.clash {b : Bd} (g : b.Good) {p q : Str} (hp : p ∈ b.pegs) (hq : q ∈ b.pegs) : b.clash p q = b.cl p q := by
  have key : ∀ p q, b.cl p q = true → p ∈ b.pegs → q ∈ b.pegs → b.clash p q = true := fun p q h hp hq => by
    obtain ⟨i, hi⟩ := List.mem_iff_getElem?.mp hp
    obtain ⟨j, hj⟩ := List.mem_iff_getElem?.mp hq
    unfold Bd.clash Bd.clashes
    rw [Bool.or_eq_true, decide_eq_true_eq, decide_eq_true_eq]
    rcases Nat.lt_trichotomy i j with z | z | z
    · exact .inl (mem_prs.mpr ⟨h, i, j, z, hi, hj⟩)
    · subst z
      rw [hi] at hj
      cases hj
      rw [g.irr p hp] at h
      exact nomatch h
    · exact .inr (mem_prs.mpr ⟨by rw [g.sym]; exact h, j, i, z, hj, hi⟩)
  cases h : b.cl p q with
  | true => exact key p q h hp hq
  | false =>
    unfold Bd.clash Bd.clashes
    rw [Bool.or_eq_false_iff, decide_eq_false_iff_not, decide_eq_false_iff_not]
    refine ⟨fun z => ?_, fun z => ?_⟩
    · have := (mem_prs.mp z).1
      rw [h] at this
      exact nomatch this
    · have := (mem_prs.mp z).1
      rw [g.sym, h] at this
      exact nomatch this
theorem reach_le {N : List (Str × Str)} {le : Str → Str → Prop} (h0 : ∀ x ∈ N, le x.1 x.2) (ht : ∀ p q r, le p q → le q r → le p r) {p q : Str} (h : Reach N p q) : p = q ∨ le p q := by
  induction h with
  | refl => exact .inl rfl
  | step e _ ih =>
    rcases ih with ih | ih
    · exact .inr (ih ▸ h0 _ e)
    · exact .inr (ht _ _ _ (h0 _ e) ih)
theorem barred_iff {R S : List Str} {l : List (Str × Str)} : barred R S l = true ↔ ∃ x ∈ l, (x.1 ∈ R ∧ x.2 ∈ S) ∨ (x.2 ∈ R ∧ x.1 ∈ S) := by
  unfold barred
  rw [List.any_eq_true]
  simp only [Bool.or_eq_true, Bool.and_eq_true, decide_eq_true_eq]
theorem barred_sym {R S : List Str} {l : List (Str × Str)} : barred R S l = barred S R l := by
  rw [Bool.eq_iff_iff, barred_iff, barred_iff]
  constructor
  · rintro ⟨x, hx, h | h⟩
    · exact ⟨x, hx, .inr ⟨h.2, h.1⟩⟩
    · exact ⟨x, hx, .inl ⟨h.2, h.1⟩⟩
  · rintro ⟨x, hx, h | h⟩
    · exact ⟨x, hx, .inr ⟨h.2, h.1⟩⟩
    · exact ⟨x, hx, .inl ⟨h.2, h.1⟩⟩
theorem mkBd_le {L : List Str} {C : List Int} {N Bs : List (Str × Str)} {p q : Str} : (mkBd L C N Bs).le p q = true ↔ Reach N p q := by
  show decide (q ∈ rowsOf N p) = true ↔ _
  rw [decide_eq_true_eq, mem_rowsOf]
theorem mkBd_cl {L : List Str} {C : List Int} {N Bs : List (Str × Str)} {p q : Str} : (mkBd L C N Bs).cl p q = true ↔ ∃ x ∈ Bs, (Reach N p x.1 ∧ Reach N q x.2) ∨ (Reach N p x.2 ∧ Reach N q x.1) := by
  show barred _ _ _ = true ↔ _
  rw [barred_iff]
  simp only [mem_rowsOf]
theorem mkBd_good {L : List Str} {C : List Int} {N Bs : List (Str × Str)} (nd : L.Nodup) (anti : ∀ p q, Reach N p q → Reach N q p → p = q) (dead : ∀ p ∈ L, barred (rowsOf N p) (rowsOf N p) Bs = false) : (mkBd L C N Bs).Good where
  nd := nd
  refl := fun p => mkBd_le.mpr (.refl p)
  trans := fun p q r h1 h2 => mkBd_le.mpr ((mkBd_le.mp h1).trans (mkBd_le.mp h2))
  anti := fun p q h1 h2 => anti p q (mkBd_le.mp h1) (mkBd_le.mp h2)
  sym := fun p q => barred_sym
  up := fun p' p q h1 h2 => by
    rw [mkBd_cl] at h2 ⊢
    obtain ⟨x, hx, h | h⟩ := h2
    · exact ⟨x, hx, .inl ⟨(mkBd_le.mp h1).trans h.1, h.2⟩⟩
    · exact ⟨x, hx, .inr ⟨(mkBd_le.mp h1).trans h.1, h.2⟩⟩
  irr := dead
/-! ### the board seen from a stand -/
def dLe (b : Bd) (O : List Str) (x y : Str) : Bool := if x ∈ O then (if y ∈ O then b.le y x else false) else if y ∈ O then b.cl x y else b.le x y
def dCl (b : Bd) (O : List Str) (x y : Str) : Bool := if x ∈ O then (if y ∈ O then false else b.le y x) else if y ∈ O then b.le x y else b.cl x y
theorem mem_prod2 {b : Bd} {x y : Str} : (x, y) ∈ b.prod ↔ x ∈ b.pegs ∧ y ∈ b.pegs ∧ x ≠ y := by
  unfold Bd.prod
  rw [List.mem_filter, List.mem_flatMap]
  constructor
  · rintro ⟨⟨a, ha, h⟩, hne⟩
    obtain ⟨c, hc, e⟩ := List.mem_map.mp h
    cases e
    exact ⟨ha, hc, by simpa using hne⟩
  · rintro ⟨h1, h2, h3⟩
    exact ⟨⟨x, h1, List.mem_map.mpr ⟨y, h2, rfl⟩⟩, by simpa using h3⟩
theorem occ_le {b : Bd} (g : b.Good) {O : List Str} {x y : Str} (hx : x ∈ b.pegs) (hy : y ∈ b.pegs) (ne : x ≠ y) : (!b.occ x (!decide (x ∈ O)) y (decide (y ∈ O))) = dLe b O x y := by
  unfold Bd.occ dLe
  rw [g.clash hx hy]
  by_cases h1 : x ∈ O <;> by_cases h2 : y ∈ O <;> simp [h1, h2, ne, Ne.symm ne]
theorem occ_cl {b : Bd} (g : b.Good) {O : List Str} {x y : Str} (hx : x ∈ b.pegs) (hy : y ∈ b.pegs) (ne : x ≠ y) : (!b.occ x (!decide (x ∈ O)) y (!decide (y ∈ O))) = dCl b O x y := by
  unfold Bd.occ dCl
  rw [g.clash hx hy]
  by_cases h1 : x ∈ O <;> by_cases h2 : y ∈ O <;> simp [h1, h2, ne, Ne.symm ne]
theorem mem_seenN {b : Bd} (g : b.Good) {O : List Str} {x y : Str} : (x, y) ∈ b.seenN O ↔ x ∈ b.pegs ∧ y ∈ b.pegs ∧ x ≠ y ∧ dLe b O x y = true := by
  unfold Bd.seenN
  rw [List.mem_filter, mem_prod2]
  constructor
  · rintro ⟨⟨h1, h2, h3⟩, h4⟩
    rw [occ_le g h1 h2 h3] at h4
    exact ⟨h1, h2, h3, h4⟩
  · rintro ⟨h1, h2, h3, h4⟩
    refine ⟨⟨h1, h2, h3⟩, ?_⟩
    rw [occ_le g h1 h2 h3]
    exact h4
theorem mem_seenB {b : Bd} (g : b.Good) {O : List Str} {x y : Str} : (x, y) ∈ b.seenB O ↔ x ∈ b.pegs ∧ y ∈ b.pegs ∧ x ≠ y ∧ dCl b O x y = true := by
  unfold Bd.seenB
  rw [List.mem_filter, mem_prod2]
  constructor
  · rintro ⟨⟨h1, h2, h3⟩, h4⟩
    rw [occ_cl g h1 h2 h3] at h4
    exact ⟨h1, h2, h3, h4⟩
  · rintro ⟨h1, h2, h3, h4⟩
    refine ⟨⟨h1, h2, h3⟩, ?_⟩
    rw [occ_cl g h1 h2 h3]
    exact h4
/-- the strict order of the seen board -/
def sLe (b : Bd) (O : List Str) (x y : Str) : Prop := x ∈ b.pegs ∧ y ∈ b.pegs ∧ x ≠ y ∧ dLe b O x y = true
def sCl (b : Bd) (O : List Str) (x y : Str) : Prop := x ∈ b.pegs ∧ y ∈ b.pegs ∧ x ≠ y ∧ dCl b O x y = true
theorem sLe_trans {b : Bd} (g : b.Good) {O : List Str} {x y z : Str} (h : sLe b O x y) (h2 : sLe b O y z) : sLe b O x z := by
  obtain ⟨hx, hy, n1, h⟩ := h
  obtain ⟨_, hz, n2, h2⟩ := h2
  have key : x ≠ z := by
    rintro rfl
    unfold dLe at h h2
    by_cases q1 : x ∈ O <;> by_cases q2 : y ∈ O <;> simp [q1, q2] at h h2
    · exact n1 (g.anti _ _ h2 h)
    · exact n1 (g.anti _ _ h h2)
  refine ⟨hx, hz, key, ?_⟩
  unfold dLe at h h2 ⊢
  by_cases q1 : x ∈ O <;> by_cases q2 : y ∈ O <;> by_cases q3 : z ∈ O <;> simp [q1, q2, q3] at h h2 ⊢
  · exact g.trans _ _ _ h2 h
  · rw [g.sym]; exact g.up _ _ _ h2 (by rw [g.sym]; exact h)
  · exact g.up _ _ _ h h2
  · exact g.trans _ _ _ h h2
theorem sLe_irr {b : Bd} {O : List Str} {x : Str} : ¬ sLe b O x x := fun h => h.2.2.1 rfl
theorem sCl_sym {b : Bd} (g : b.Good) {O : List Str} {x y : Str} (h : sCl b O x y) : sCl b O y x := by
  obtain ⟨hx, hy, n1, h⟩ := h
  refine ⟨hy, hx, n1.symm, ?_⟩
  unfold dCl at h ⊢
  by_cases q1 : x ∈ O <;> by_cases q2 : y ∈ O <;> simp [q1, q2] at h ⊢
  · exact h
  · exact h
  · rw [g.sym]; exact h
theorem sLe_sCl {b : Bd} (g : b.Good) {O : List Str} {x y : Str} (h : sLe b O x y) (h2 : sCl b O x y) : False := by
  obtain ⟨hx, hy, n1, h⟩ := h
  obtain ⟨_, _, _, h2⟩ := h2
  unfold dLe at h
  unfold dCl at h2
  by_cases q1 : x ∈ O <;> by_cases q2 : y ∈ O <;> simp [q1, q2] at h h2
  · exact g.no hx h2 h
  · exact g.no hx h h2
theorem sCl_up {b : Bd} (g : b.Good) {O : List Str} {w x y : Str} (h : sLe b O w x) (h2 : sCl b O x y) : sCl b O w y := by
  have key : w ≠ y := by
    rintro rfl
    exact sLe_sCl g h (sCl_sym g h2)
  obtain ⟨hw, hx, n1, h⟩ := h
  obtain ⟨_, hy, n2, h2⟩ := h2
  refine ⟨hw, hy, key, ?_⟩
  unfold dLe at h
  unfold dCl at h2 ⊢
  by_cases q1 : w ∈ O <;> by_cases q2 : x ∈ O <;> by_cases q3 : y ∈ O <;> simp [q1, q2, q3] at h h2 ⊢
  · exact g.trans _ _ _ h2 h
  · rw [g.sym]; exact g.up _ _ _ h2 (by rw [g.sym]; exact h)
  · exact g.trans _ _ _ h h2
  · exact g.up _ _ _ h h2
theorem seen_reach {b : Bd} (g : b.Good) {O : List Str} {x y : Str} : Reach (b.seenN O) x y ↔ x = y ∨ sLe b O x y := by
  constructor
  · exact reach_le (le := sLe b O) (fun x hx => (mem_seenN g).mp hx) (fun _ _ _ => sLe_trans g)
  · rintro (h | h)
    · rw [h]; exact .refl _
    · exact .step ((mem_seenN g).mpr h) (.refl _)
theorem seen_le {b : Bd} (g : b.Good) {O : List Str} {x y : Str} : (b.seenF O).le x y = true ↔ x = y ∨ sLe b O x y := mkBd_le.trans (seen_reach g)
theorem seen_cl {b : Bd} (g : b.Good) {O : List Str} {x y : Str} : (b.seenF O).cl x y = true ↔ sCl b O x y := by
  refine mkBd_cl.trans ⟨?_, fun h => ⟨(x, y), (mem_seenB g).mpr h, .inl ⟨.refl _, .refl _⟩⟩⟩
  have up : ∀ {p q r : Str}, Reach (b.seenN O) p q → sCl b O q r → sCl b O p r := fun h h2 => by
    rcases (seen_reach g).mp h with h | h
    · rw [h]; exact h2
    · exact sCl_up g h h2
  rintro ⟨⟨u, v⟩, hx, h | h⟩
  · exact up h.1 (sCl_sym g (up h.2 (sCl_sym g ((mem_seenB g).mp hx))))
  · exact up h.1 (sCl_sym g (up h.2 ((mem_seenB g).mp hx)))
theorem seen_dead {b : Bd} (g : b.Good) {O : List Str} (p : Str) : barred (rowsOf (b.seenN O) p) (rowsOf (b.seenN O) p) (b.seenB O) = false := by
  cases h : barred (rowsOf (b.seenN O) p) (rowsOf (b.seenN O) p) (b.seenB O) with
  | false => rfl
  | true => exact absurd rfl ((seen_cl g).mp (show (b.seenF O).cl p p = true from h)).2.2.1
theorem seen_good {b : Bd} (g : b.Good) (O : List Str) : (b.seenF O).Good := mkBd_good g.nd (fun p q h1 h2 => by
  rcases (seen_reach g).mp h1 with h1 | h1
  · exact h1
  · rcases (seen_reach g).mp h2 with h2 | h2
    · exact h2.symm
    · exact absurd (sLe_trans g h1 h2) sLe_irr) fun p _ => seen_dead g p
end NP
end

section
set_option maxHeartbeats 4000000
namespace NP
open PySem
/-! ### boards seen and seen back -/
structure Bd.Nice (b : Bd) : Prop where
  good : b.Good
  ok : b.Ok
  names : NamesOk b.pegs
  cost : ∀ c ∈ b.cost, 1 ≤ c ∧ c ≤ 1000
theorem lookup_all : ∀ {l : List Str} {c : List Int}, c.length = l.length → l.Nodup → (l.map fun p => ((l.zip c).lookup p).getD 0) = c
  | [], [], _, _ => rfl
  | [], _ :: _, h, _ => nomatch h
  | _ :: _, [], h, _ => nomatch h
  | a :: l, x :: c, h, nd => by
    rw [List.nodup_cons] at nd
    rw [List.map_cons, List.zip_cons_cons]
    congr 1
    · simp [List.lookup]
    · refine Eq.trans (List.map_congr_left fun p hp => ?_) (lookup_all (by simpa using h) nd.2)
      have : (p == a) = false := by
        rw [beq_eq_false_iff_ne]
        rintro rfl
        exact nd.1 hp
      simp only [List.lookup, this]
theorem costs_eq {b : Bd} (h : b.Ok) : b.costs = b.cost := lookup_all h.len h.nd
theorem seen_ok {b : Bd} (n : b.Nice) (O : List Str) : b.SeenOk O where
  names := n.names
  most := n.ok.most
  so := n.ok.so
  clen := by rw [costs_eq n.ok]; exact n.ok.len
  cost := by rw [costs_eq n.ok]; exact n.cost
  needs := fun x hx => by
    obtain ⟨h1, h2, h3, _⟩ := (mem_seenN n.good).mp hx
    exact ⟨h1, h2, h3⟩
  circ := noCircle_le (le := sLe b O) (fun x hx => (mem_seenN n.good).mp hx) (fun _ _ _ => sLe_trans n.good) fun _ => sLe_irr
  rlen := rowsLe_of (Nat.le_trans n.ok.most (by decide)) fun x hx => by
    obtain ⟨h1, h2, _⟩ := (mem_seenN n.good).mp hx
    exact ⟨h1, h2⟩
  bars := fun x hx => by
    obtain ⟨h1, h2, h3, _⟩ := (mem_seenB n.good).mp hx
    exact ⟨h1, h2, h3⟩
  dead := fun p _ => seen_dead n.good p
  nl := Nat.le_trans (Nat.le_trans (List.length_filter_le _ _) (len_prod n.ok)) (by decide)
  bl := Nat.le_trans (Nat.le_trans (List.length_filter_le _ _) (len_prod n.ok)) (by decide)
theorem seen_nice {b : Bd} (n : b.Nice) (O : List Str) : (b.seenF O).Nice := ⟨seen_good n.good O, (seen_ok n O).ok, n.names, by
  show ∀ c ∈ b.costs, _
  rw [costs_eq n.ok]
  exact n.cost⟩
theorem seen_le2 {b : Bd} (g : b.Good) {O : List Str} {x y : Str} (hx : x ∈ b.pegs) (hy : y ∈ b.pegs) (ne : x ≠ y) : (b.seenF O).le x y = dLe b O x y := by
  rw [Bool.eq_iff_iff, seen_le g]
  exact ⟨fun h => h.elim (fun e => absurd e ne) fun h => h.2.2.2, fun h => .inr ⟨hx, hy, ne, h⟩⟩
theorem seen_cl2 {b : Bd} (g : b.Good) {O : List Str} {x y : Str} (hx : x ∈ b.pegs) (hy : y ∈ b.pegs) (ne : x ≠ y) : (b.seenF O).cl x y = dCl b O x y := by
  rw [Bool.eq_iff_iff, seen_cl g]
  exact ⟨fun h => h.2.2.2, fun h => ⟨hx, hy, ne, h⟩⟩
theorem mem_row {b : Bd} {p q : Str} : q ∈ b.row p ↔ q ∈ b.pegs ∧ b.le p q = true := by
  unfold Bd.row
  rw [List.mem_filter]
theorem StOk.cl {b : Bd} {S : List Str} (g : b.Good) (h : StOk b S) {p q : Str} (hp : p ∈ S) (hq : q ∈ S) : b.cl p q = false := by
  by_cases e : p = q
  · subst e; exact g.irr p (h.sub p hp)
  · rw [← g.clash (h.sub p hp) (h.sub q hq)]
    exact h.free p hp q hq e
theorem StOk.le {b : Bd} {S : List Str} (h : StOk b S) {p q : Str} (hp : p ∈ S) (hq : q ∈ b.pegs) (e : b.le p q = true) : q ∈ S := h.down p hp q (mem_row.mpr ⟨hq, e⟩)
/-- the same board -/
structure Bd.Same (b c : Bd) : Prop where
  pegs : c.pegs = b.pegs
  cost : c.cost = b.cost
  rows : c.pegs.map c.row = b.pegs.map b.row
  clashes : c.clashes = b.clashes
theorem prs_congr {c d : Str → Str → Bool} {l : List Str} (h : ∀ p ∈ l, ∀ q ∈ l, c p q = d p q) : prs c l = prs d l := by
  unfold prs
  rw [List.flatMap_def, List.flatMap_def]
  congr 1
  refine List.map_congr_left fun x hx => ?_
  congr 1
  have hx1 : x.1 ∈ l := by
    obtain ⟨y, i⟩ := x
    exact List.mem_iff_getElem?.mpr ⟨i, List.mem_zipIdx_iff_getElem?.mp hx⟩
  exact List.filter_congr fun q hq => h _ hx1 _ (List.mem_of_mem_drop hq)
theorem same_of {b c : Bd} (h1 : c.pegs = b.pegs) (h2 : c.cost = b.cost) (h3 : ∀ p ∈ b.pegs, ∀ q ∈ b.pegs, c.le p q = b.le p q) (h4 : ∀ p ∈ b.pegs, ∀ q ∈ b.pegs, c.cl p q = b.cl p q) : b.Same c where
  pegs := h1
  cost := h2
  rows := by
    rw [h1]
    refine List.map_congr_left fun p hp => ?_
    unfold Bd.row
    rw [h1]
    exact List.filter_congr fun q hq => h3 p hp q hq
  clashes := by
    unfold Bd.clashes
    rw [h1]
    exact prs_congr h4
theorem seen_back_le {b : Bd} (n : b.Nice) {O : List Str} (st : StOk b O) {x y : Str} (hx : x ∈ b.pegs) (hy : y ∈ b.pegs) : ((b.seenF O).seenF O).le x y = b.le x y := by
  have g := n.good
  have g1 := seen_good g O
  have g2 := seen_good g1 O
  by_cases ne : x = y
  · subst ne
    rw [g.refl, g2.refl]
  rw [seen_le2 g1 hx hy ne]
  unfold dLe
  rw [seen_le2 g hx hy ne, seen_le2 g hy hx (Ne.symm ne), seen_cl2 g hx hy ne]
  unfold dLe dCl
  by_cases q1 : x ∈ O <;> by_cases q2 : y ∈ O <;> simp [q1, q2]
  cases h : b.le x y with
  | false => rfl
  | true => exact absurd (st.le q1 hy h) q2
theorem seen_back_cl {b : Bd} (n : b.Nice) {O : List Str} (st : StOk b O) {x y : Str} (hx : x ∈ b.pegs) (hy : y ∈ b.pegs) : ((b.seenF O).seenF O).cl x y = b.cl x y := by
  have g := n.good
  have g1 := seen_good g O
  have g2 := seen_good g1 O
  by_cases ne : x = y
  · subst ne
    rw [g.irr _ hx, g2.irr _ hx]
  rw [seen_cl2 g1 hx hy ne]
  unfold dCl
  rw [seen_le2 g hx hy ne, seen_le2 g hy hx (Ne.symm ne), seen_cl2 g hx hy ne]
  unfold dLe dCl
  by_cases q1 : x ∈ O <;> by_cases q2 : y ∈ O <;> simp [q1, q2]
  · exact st.cl g q1 q2
  · exact g.sym _ _
theorem seen_back {b : Bd} (n : b.Nice) {O : List Str} (st : StOk b O) : b.Same ((b.seenF O).seenF O) := by
  refine same_of rfl ?_ (fun x hx y hy => seen_back_le n st hx hy) fun x hx y hy => seen_back_cl n st hx hy
  show (b.seenF O).costs = b.cost
  rw [costs_eq (seen_nice n O).ok]
  exact costs_eq n.ok
/-! ### stands seen -/
theorem mem_xor {b : Bd} {S T : List Str} {p : Str} : p ∈ b.xor S T ↔ p ∈ b.pegs ∧ ((p ∈ S ∧ p ∉ T) ∨ (p ∉ S ∧ p ∈ T)) := by
  unfold Bd.xor
  rw [List.mem_filter]
  by_cases h1 : p ∈ S <;> by_cases h2 : p ∈ T <;> simp [h1, h2]
theorem mem_mid {b : Bd} {S T U : List Str} {p : Str} : p ∈ b.mid S T U ↔ p ∈ b.pegs ∧ ((p ∈ S ∧ p ∈ T) ∨ (p ∈ S ∧ p ∈ U) ∨ (p ∈ T ∧ p ∈ U)) := by
  unfold Bd.mid
  rw [List.mem_filter]
  by_cases h1 : p ∈ S <;> by_cases h2 : p ∈ T <;> by_cases h3 : p ∈ U <;> simp [h1, h2, h3]
theorem seenS_eq {b : Bd} {O S : List Str} : b.seenS O S = b.xor S O := pick_filter (b := b.seenF O)
theorem seen_st {b : Bd} (g : b.Good) {O S : List Str} (hS : StOk b S) : StOk (b.seenF O) (b.xor S O) where
  sub := fun p hp => (mem_xor.mp hp).1
  down := fun p hp q hq => by
    obtain ⟨hq1, hq2⟩ := mem_row.mp hq
    obtain ⟨hp1, hp2⟩ := mem_xor.mp hp
    have hq1 : q ∈ b.pegs := hq1
    by_cases ne : p = q
    · rw [← ne]; exact hp
    rw [seen_le2 g hp1 hq1 ne] at hq2
    refine mem_xor.mpr ⟨hq1, ?_⟩
    unfold dLe at hq2
    by_cases q1 : p ∈ O <;> by_cases q2 : q ∈ O <;> simp [q1, q2] at hq2 hp2 ⊢
    · exact fun z => hp2 (hS.le z hp1 hq2)
    · exact fun z => by
        rw [hS.cl g hp2 z] at hq2
        exact nomatch hq2
    · exact hS.le hp2 hq1 hq2
  free := fun p hp q hq ne => by
    obtain ⟨hp1, hp2⟩ := mem_xor.mp hp
    obtain ⟨hq1, hq2⟩ := mem_xor.mp hq
    rw [(seen_good g O).clash hp1 hq1, seen_cl2 g hp1 hq1 ne]
    unfold dCl
    by_cases q1 : p ∈ O <;> by_cases q2 : q ∈ O <;> simp [q1, q2] at hq2 hp2 ⊢
    · cases h : b.le q p with
      | false => rfl
      | true => exact absurd (hS.le hq2 hp1 h) hp2
    · cases h : b.le p q with
      | false => rfl
      | true => exact absurd (hS.le hp2 hq1 h) hq2
    · exact hS.cl g hp2 hq2
theorem mid_st {b : Bd} (g : b.Good) {S T U : List Str} (hS : StOk b S) (hT : StOk b T) (hU : StOk b U) : StOk b (b.mid S T U) where
  sub := fun p hp => (mem_mid.mp hp).1
  down := fun p hp q hq => by
    obtain ⟨hq1, hq2⟩ := mem_row.mp hq
    obtain ⟨hp1, h⟩ := mem_mid.mp hp
    refine mem_mid.mpr ⟨hq1, ?_⟩
    rcases h with h | h | h
    · exact .inl ⟨hS.le h.1 hq1 hq2, hT.le h.2 hq1 hq2⟩
    · exact .inr (.inl ⟨hS.le h.1 hq1 hq2, hU.le h.2 hq1 hq2⟩)
    · exact .inr (.inr ⟨hT.le h.1 hq1 hq2, hU.le h.2 hq1 hq2⟩)
  free := fun p hp q hq ne => by
    obtain ⟨hp1, hp2⟩ := mem_mid.mp hp
    obtain ⟨hq1, hq2⟩ := mem_mid.mp hq
    rw [g.clash hp1 hq1]
    rcases hp2 with h | h | h <;> rcases hq2 with k | k | k
    · exact hS.cl g h.1 k.1
    · exact hS.cl g h.1 k.1
    · exact hT.cl g h.2 k.1
    · exact hS.cl g h.1 k.1
    · exact hS.cl g h.1 k.1
    · exact hU.cl g h.2 k.2
    · exact hT.cl g h.1 k.2
    · exact hU.cl g h.2 k.2
    · exact hT.cl g h.1 k.1
theorem pick_pick {b : Bd} {L : List Str} : b.pick (b.pick L) = b.pick L := pick_filter
theorem pick_xor {b : Bd} {S T : List Str} : b.pick (b.xor S T) = b.xor S T := pick_filter
theorem pick_mid {b : Bd} {S T U : List Str} : b.pick (b.mid S T U) = b.mid S T U := pick_filter
theorem xor_back {b : Bd} {S O : List Str} : b.xor (b.xor S O) O = b.pick S := by
  unfold Bd.xor Bd.pick
  refine List.filter_congr fun p hp => ?_
  by_cases h1 : p ∈ S <;> by_cases h2 : p ∈ O <;> simp [h1, h2, hp]
theorem xor_both {b : Bd} {S T O : List Str} : b.xor (b.xor S O) (b.xor T O) = b.xor S T := by
  unfold Bd.xor
  refine List.filter_congr fun p hp => ?_
  by_cases h1 : p ∈ S <;> by_cases h2 : p ∈ T <;> by_cases h3 : p ∈ O <;> simp [h1, h2, h3, hp]
theorem xor_self {b : Bd} {O : List Str} : b.xor O O = [] := by
  unfold Bd.xor
  rw [List.filter_eq_nil_iff]
  intro p hp
  simp
theorem xor_nil {b : Bd} {O : List Str} : b.xor [] O = b.pick O := by
  unfold Bd.xor Bd.pick
  refine List.filter_congr fun p hp => ?_
  by_cases h2 : p ∈ O <;> simp [h2]
theorem mid_xor {b : Bd} {S T U O : List Str} : b.mid (b.xor S O) (b.xor T O) (b.xor U O) = b.xor (b.mid S T U) O := by
  have e : ∀ {P Q : Str → Bool}, (∀ p ∈ b.pegs, P p = Q p) → b.pegs.filter P = b.pegs.filter Q := fun h => List.filter_congr h
  refine e fun p hp => ?_
  have h1 : decide (p ∈ b.mid S T U) = decide ((p ∈ S ∧ p ∈ T) ∨ (p ∈ S ∧ p ∈ U) ∨ (p ∈ T ∧ p ∈ U)) := by
    rw [decide_eq_decide, mem_mid]
    simp [hp]
  rw [h1]
  by_cases h1 : p ∈ S <;> by_cases h2 : p ∈ T <;> by_cases h3 : p ∈ U <;> by_cases h4 : p ∈ O <;> simp [mem_xor, h1, h2, h3, h4, hp]
theorem btw_iff {S T U : List Str} : btwB S T U = true ↔ ∀ p, ((p ∈ T ∧ p ∈ U) → p ∈ S) ∧ (p ∈ S → p ∈ T ∨ p ∈ U) := by
  unfold btwB
  simp only [Bool.and_eq_true, List.all_eq_true, List.mem_filter, decide_eq_true_eq, Bool.or_eq_true]
  exact ⟨fun h p => ⟨h.1 p, h.2 p⟩, fun h => ⟨fun p => (h p).1, fun p => (h p).2⟩⟩
theorem btw_xor {b : Bd} {S T U O : List Str} (hS : StOk b S) (hT : StOk b T) (hU : StOk b U) : btwB (b.xor S O) (b.xor T O) (b.xor U O) = btwB S T U := by
  rw [Bool.eq_iff_iff, btw_iff, btw_iff]
  refine forall_congr' fun p => ?_
  by_cases hp : p ∈ b.pegs
  · by_cases h1 : p ∈ S <;> by_cases h2 : p ∈ T <;> by_cases h3 : p ∈ U <;> by_cases h4 : p ∈ O <;> simp [mem_xor, h1, h2, h3, h4, hp]
  · have h1 : p ∉ S := fun z => hp (hS.sub p z)
    have h2 : p ∉ T := fun z => hp (hT.sub p z)
    have h3 : p ∉ U := fun z => hp (hU.sub p z)
    simp [mem_xor, h1, h2, h3, hp]
theorem seen_costOf {b : Bd} (n : b.Nice) {O : List Str} : (b.seenF O).costOf = b.costOf := by
  funext p
  show ((b.pegs.zip b.costs).lookup p).getD 0 = ((b.pegs.zip b.cost).lookup p).getD 0
  rw [costs_eq n.ok]
theorem dist_xor {b : Bd} (n : b.Nice) {S T O : List Str} : (b.seenF O).dist (b.xor S O) (b.xor T O) = b.dist S T := by
  show ((b.xor (b.xor S O) (b.xor T O)).map (b.seenF O).costOf).sum = _
  rw [xor_both, seen_costOf n]
  rfl
end NP
end

section
set_option maxHeartbeats 4000000
namespace NP
open PySem
/-! ### the number of stands -/
theorem StOk.congr {b : Bd} {S T : List Str} (h : StOk b S) (e : ∀ p, p ∈ T ↔ p ∈ S) : StOk b T :=
  ⟨fun p hp => h.sub p ((e p).mp hp), fun p hp q hq => (e q).mpr (h.down p ((e p).mp hp) q hq), fun p hp q hq => h.free p ((e p).mp hp) q ((e q).mp hq)⟩
theorem clash_sym {b : Bd} {p q : Str} : b.clash p q = b.clash q p := by
  unfold Bd.clash
  rw [Bool.or_comm]
theorem row_lt {b : Bd} (g : b.Good) {p q : Str} (hp : p ∈ b.pegs) (hq : q ∈ b.pegs) (ne : p ≠ q) (h : b.le p q = true) : (b.row q).length < (b.row p).length := by
  have h1 : (p :: b.row q).length ≤ (b.row p).length := by
    refine nodup_len _ _ ?_ fun x hx => ?_
    · rw [List.nodup_cons]
      refine ⟨fun z => ne (g.anti _ _ h (mem_row.mp z).2), g.nd.filter _⟩
    · rcases List.mem_cons.mp hx with hx | hx
      · rw [hx]
        exact mem_row.mpr ⟨hp, g.refl _⟩
      · obtain ⟨h1, h2⟩ := mem_row.mp hx
        exact mem_row.mpr ⟨h1, g.trans _ _ _ h h2⟩
  exact h1
theorem ord_perm {b : Bd} : b.ord.Perm b.pegs := List.mergeSort_perm _ _
theorem ord_sorted {b : Bd} : b.ord.Pairwise fun x y => (b.row x).length ≤ (b.row y).length := by
  have := List.pairwise_mergeSort (le := fun x y => decide ((b.row x).length ≤ (b.row y).length)) (fun x y z h1 h2 => by
    simp only [decide_eq_true_eq] at h1 h2 ⊢
    omega) (fun x y => by
    simp only [Bool.or_eq_true, decide_eq_true_eq]
    omega) b.pegs
  exact this.imp fun h => of_decide_eq_true h
theorem filter_snoc_yes {l R : List Str} {p : Str} (hp : p ∉ l) : (l ++ [p]).filter (fun x => decide (x ∈ R ++ [p])) = l.filter (fun x => decide (x ∈ R)) ++ [p] := by
  rw [List.filter_append]
  congr 1
  · refine List.filter_congr fun x hx => ?_
    have : x ≠ p := fun z => hp (z ▸ hx)
    simp [this]
  · simp
theorem rows_inv {b : Bd} (g : b.Good) : ∀ (l1 l2 : List Str), b.ord = l1 ++ l2 → (l1.foldl (stepR2 b) [[]]).Nodup ∧ ∀ R, R ∈ l1.foldl (stepR2 b) [[]] ↔ R = l1.filter (fun x => decide (x ∈ R)) ∧ StOk b R := by
  intro l1
  refine list_snoc_ind (P := fun l1 => ∀ l2 : List Str, b.ord = l1 ++ l2 → (l1.foldl (stepR2 b) [[]]).Nodup ∧ ∀ R, R ∈ l1.foldl (stepR2 b) [[]] ↔ R = l1.filter (fun x => decide (x ∈ R)) ∧ StOk b R) ?_ ?_ l1
  · intro l2 _
    refine ⟨by simp, fun R => ?_⟩
    simp only [List.foldl_nil, List.mem_singleton, List.filter_nil]
    refine ⟨fun h => ⟨h, ?_⟩, fun h => h.1⟩
    subst h
    exact ⟨fun _ h => (nomatch h), fun _ h => (nomatch h), fun _ h => (nomatch h)⟩
  · intro l p ih l2 he
    obtain ⟨hn, hm⟩ := ih (p :: l2) (by rw [he]; simp)
    rw [List.foldl_append]
    have hnd : b.ord.Nodup := ord_perm.nodup_iff.mpr g.nd
    have hpl : p ∉ l := fun z => by
      rw [he] at hnd
      rw [List.append_assoc, List.nodup_append] at hnd
      exact hnd.2.2 p z p (by simp) rfl
    have hsub : ∀ x ∈ l ++ [p], x ∈ b.pegs := fun x hx => ord_perm.mem_iff.mp (by rw [he]; exact List.mem_append_left _ hx)
    have hpp : p ∈ b.pegs := hsub p (by simp)
    have hord : ∀ x ∈ l, (b.row x).length ≤ (b.row p).length := fun x hx => by
      have := ord_sorted (b := b)
      rw [he, List.append_assoc, List.pairwise_append] at this
      exact this.2.2 x hx p (by simp)
    generalize l.foldl (stepR2 b) [[]] = rows at hn hm
    have hpr : ∀ R ∈ rows, p ∉ R := fun R hR z => by
      have := ((hm R).mp hR).1
      rw [this] at z
      exact hpl (List.mem_filter.mp z).1
    show (stepR2 b rows p).Nodup ∧ ∀ R, R ∈ stepR2 b rows p ↔ _
    unfold stepR2
    refine ⟨?_, fun R => ?_⟩
    · rw [List.nodup_append]
      refine ⟨hn, ?_, fun A hA C hC e => ?_⟩
      · rw [List.Nodup, List.pairwise_map]
        exact (hn.filter _).imp fun h e => h (List.append_cancel_right e)
      · obtain ⟨R0, _, h⟩ := List.mem_map.mp hC
        refine hpr A hA ?_
        rw [e, ← h]
        simp
    · rw [List.mem_append, List.mem_map]
      constructor
      · rintro (h | ⟨R0, h, rfl⟩)
        · have h1 := hpr R h
          obtain ⟨h2, h3⟩ := (hm R).mp h
          refine ⟨?_, h3⟩
          rw [List.filter_append, ← h2]
          simp [h1]
        · obtain ⟨h1, h2⟩ := List.mem_filter.mp h
          obtain ⟨h3, h4⟩ := (hm R0).mp h1
          unfold Bd.join at h2
          simp only [Bool.and_eq_true, Bool.not_eq_true', List.any_eq_false, List.mem_filter, Bool.not_eq_true', decide_eq_true_eq, decide_eq_false_iff_not, Decidable.not_not, and_imp] at h2
          obtain ⟨j1, j2⟩ := h2
          refine ⟨?_, fun x hx => ?_, fun x hx y hy => ?_, fun x hx y hy ne => ?_⟩
          · rw [filter_snoc_yes hpl, ← h3]
          · rcases List.mem_append.mp hx with hx | hx
            · exact h4.sub x hx
            · rw [List.mem_singleton.mp hx]; exact hpp
          · rcases List.mem_append.mp hx with hx | hx
            · exact List.mem_append_left _ (h4.down x hx y hy)
            · rw [List.mem_singleton.mp hx] at hy
              by_cases e : y = p
              · rw [e]; simp
              · exact List.mem_append_left _ (j1 y hy e)
          · rcases List.mem_append.mp hx with hx | hx <;> rcases List.mem_append.mp hy with hy | hy
            · exact h4.free x hx y hy ne
            · rw [List.mem_singleton.mp hy, clash_sym]
              simpa using j2 x hx
            · rw [List.mem_singleton.mp hx]
              simpa using j2 y hy
            · exact absurd ((List.mem_singleton.mp hx).trans (List.mem_singleton.mp hy).symm) ne
      · rintro ⟨h1, h2⟩
        by_cases hpR : p ∈ R
        · refine .inr ⟨l.filter fun x => decide (x ∈ R), ?_, ?_⟩
          · have e0 : ∀ q, q ∈ l.filter (fun x => decide (x ∈ R)) ↔ q ∈ R ∧ q ≠ p := fun q => by
              rw [List.mem_filter, decide_eq_true_eq]
              constructor
              · exact fun h => ⟨h.2, fun z => hpl (z ▸ h.1)⟩
              · rintro ⟨h, h3⟩
                refine ⟨?_, h⟩
                rw [h1] at h
                rcases List.mem_append.mp (List.mem_filter.mp h).1 with h | h
                · exact h
                · exact absurd (List.mem_singleton.mp h) h3
            refine List.mem_filter.mpr ⟨(hm _).mpr ⟨?_, fun x hx => h2.sub x ((e0 x).mp hx).1, fun x hx y hy => ?_, fun x hx y hy ne => h2.free x ((e0 x).mp hx).1 y ((e0 y).mp hy).1 ne⟩, ?_⟩
            · refine List.filter_congr fun x hx => ?_
              have : x ≠ p := fun z => hpl (z ▸ hx)
              rw [decide_eq_decide, e0]
              exact ⟨fun h => ⟨h, this⟩, fun h => h.1⟩
            · obtain ⟨k1, k2⟩ := (e0 x).mp hx
              refine (e0 y).mpr ⟨h2.down x k1 y hy, ?_⟩
              rintro rfl
              have := row_lt g (h2.sub x k1) hpp k2 (mem_row.mp hy).2
              have := hord x (List.mem_filter.mp hx).1
              omega
            · unfold Bd.join
              simp only [Bool.and_eq_true, Bool.not_eq_true', List.any_eq_false, List.mem_filter, Bool.not_eq_true', decide_eq_true_eq, decide_eq_false_iff_not, Decidable.not_not, and_imp]
              refine ⟨fun x hx ne => ⟨(List.mem_filter.mp ((e0 x).mpr ⟨h2.down p hpR x hx, ne⟩)).1, h2.down p hpR x hx⟩, fun x hx1 hx2 => ?_⟩
              have := h2.free p hpR x hx2 (fun z => hpl (z ▸ hx1))
              simp [this]
          · have h5 := h1
            have : [p].filter (fun x => decide (x ∈ R)) = [p] := by simp [hpR]
            rw [List.filter_append, this] at h5
            exact h5.symm
        · refine .inl ((hm R).mpr ⟨?_, h2⟩)
          rw [List.filter_append] at h1
          have : [p].filter (fun x => decide (x ∈ R)) = [] := by simp [hpR]
          rw [this, List.append_nil] at h1
          exact h1
theorem mem_rowsAll {b : Bd} (g : b.Good) {R : List Str} : R ∈ b.rowsAll ↔ R = b.ord.filter (fun x => decide (x ∈ R)) ∧ StOk b R := (rows_inv g b.ord [] (by simp)).2 R
theorem rowsAll_nodup {b : Bd} (g : b.Good) : b.rowsAll.Nodup := (rows_inv g b.ord [] (by simp)).1
/-! ### masks -/
theorem bitB_eq {m k : Nat} : bitB m k = m.testBit k := by
  unfold bitB
  rw [Nat.testBit_eq_decide_div_mod_eq]
theorem mask_ex (f : Nat → Bool) : ∀ n, ∃ m, m < 2 ^ n ∧ ∀ k, k < n → bitB m k = f k
  | 0 => ⟨0, by simp, fun k h => absurd h (by omega)⟩
  | n + 1 => by
    obtain ⟨m, h1, h2⟩ := mask_ex f n
    cases h : f n with
    | false =>
      refine ⟨m, by rw [Nat.pow_succ]; omega, fun k hk => ?_⟩
      by_cases e : k = n
      · subst e
        rw [bitB_eq, Nat.testBit_lt_two_pow h1, h]
      · exact h2 k (by omega)
    | true =>
      refine ⟨2 ^ n + m, by rw [Nat.pow_succ]; omega, fun k hk => ?_⟩
      rw [bitB_eq]
      by_cases e : k = n
      · subst e
        rw [Nat.testBit_two_pow_add_eq, Nat.testBit_lt_two_pow h1, h]
        rfl
      · rw [Nat.testBit_two_pow_add_gt (by omega), ← bitB_eq]
        exact h2 k (by omega)
theorem mask_inj {n m m' : Nat} (h : m < 2 ^ n) (h' : m' < 2 ^ n) (e : ∀ k, k < n → bitB m k = bitB m' k) : m = m' := by
  refine Nat.eq_of_testBit_eq fun k => ?_
  by_cases hk : k < n
  · rw [← bitB_eq, ← bitB_eq]
    exact e k hk
  · have : 2 ^ n ≤ 2 ^ k := Nat.pow_le_pow_right (by decide) (by omega)
    rw [Nat.testBit_lt_two_pow (by omega), Nat.testBit_lt_two_pow (by omega)]
theorem mem_maskRow {L : List Str} {m : Nat} {p : Str} : p ∈ maskRow L m ↔ ∃ k, bitB m k = true ∧ L[k]? = some p := by
  unfold maskRow spots
  rw [List.mem_map]
  constructor
  · rintro ⟨k, hk, rfl⟩
    obtain ⟨h1, h2⟩ := List.mem_filter.mp hk
    have := List.mem_range.mp h1
    refine ⟨k, h2, ?_⟩
    rw [List.getD_eq_getElem?_getD, List.getElem?_eq_getElem this]
    rfl
  · rintro ⟨k, h1, h2⟩
    obtain ⟨h3, h4⟩ := List.getElem?_eq_some_iff.mp h2
    refine ⟨k, List.mem_filter.mpr ⟨List.mem_range.mpr h3, h1⟩, ?_⟩
    rw [List.getD_eq_getElem?_getD, h2]
    rfl
theorem maskRow_at {L : List Str} (nd : L.Nodup) {m k : Nat} (hk : k < L.length) : L[k] ∈ maskRow L m ↔ bitB m k = true := by
  rw [mem_maskRow]
  constructor
  · rintro ⟨j, h1, h2⟩
    obtain ⟨h3, h4⟩ := List.getElem?_eq_some_iff.mp h2
    have : j = k := by
      rw [List.nodup_iff_pairwise_ne] at nd
      rcases Nat.lt_trichotomy j k with z | z | z
      · exact absurd h4 (List.pairwise_iff_getElem.mp nd j k h3 hk z)
      · exact z
      · exact absurd h4.symm (List.pairwise_iff_getElem.mp nd k j hk h3 z)
    rw [← this]
    exact h1
  · exact fun h => ⟨k, h, List.getElem?_eq_getElem hk⟩
theorem maskRow_sub {L : List Str} {m : Nat} {p : Str} (h : p ∈ maskRow L m) : p ∈ L := by
  obtain ⟨k, _, h⟩ := mem_maskRow.mp h
  exact List.mem_iff_getElem?.mpr ⟨k, h⟩
/-! ### stands of the parts -/
theorem isStand_iff {N Bs : List (Str × Str)} {R : List Str} : isStand N Bs R = true ↔ (∀ x ∈ N, x.1 ∈ R → x.2 ∈ R) ∧ ∀ x ∈ Bs, ¬ (x.1 ∈ R ∧ x.2 ∈ R) := by
  unfold isStand
  simp only [Bool.and_eq_true, List.all_eq_true, Bool.not_eq_true', Bool.and_eq_false_iff, decide_eq_false_iff_not, Bool.not_eq_false', decide_eq_true_eq]
  constructor
  · exact fun h => ⟨fun x hx z => (h.1 x hx).elim (fun y => absurd z y) id, fun x hx z => (h.2 x hx).elim (fun y => y z.1) fun y => y z.2⟩
  · exact fun h => ⟨fun x hx => by
      by_cases z : x.1 ∈ R
      · exact .inr (h.1 x hx z)
      · exact .inl z, fun x hx => by
      by_cases z : x.1 ∈ R
      · exact .inr fun y => h.2 x hx ⟨z, y⟩
      · exact .inl z⟩
theorem st_of_isStand {L : List Str} {C : List Int} {N Bs : List (Str × Str)} {R : List Str} (g : (mkBd L C N Bs).Good) (h : isStand N Bs R = true) (hs : ∀ p ∈ R, p ∈ L) : StOk (mkBd L C N Bs) R := by
  obtain ⟨h1, h2⟩ := isStand_iff.mp h
  have cl : ∀ {p q : Str}, Reach N p q → p ∈ R → q ∈ R := fun h => by
    induction h with
    | refl => exact id
    | step e _ ih => exact fun z => ih (h1 _ e z)
  refine ⟨hs, fun p hp q hq => cl (mkBd_le.mp (mem_row.mp hq).2) hp, fun p hp q hq ne => ?_⟩
  rw [g.clash (hs p hp) (hs q hq)]
  cases e : (mkBd L C N Bs).cl p q with
  | false => rfl
  | true =>
    obtain ⟨x, hx, k | k⟩ := mkBd_cl.mp e
    · exact absurd ⟨cl k.1 hp, cl k.2 hq⟩ (h2 x hx)
    · exact absurd ⟨cl k.2 hq, cl k.1 hp⟩ (h2 x hx)
theorem isStand_of {L : List Str} {C : List Int} {N Bs : List (Str × Str)} {R : List Str} (g : (mkBd L C N Bs).Good) (hN : ∀ x ∈ N, x.1 ∈ L ∧ x.2 ∈ L) (h : StOk (mkBd L C N Bs) R) : isStand N Bs R = true := by
  refine isStand_iff.mpr ⟨fun x hx z => h.le z (hN x hx).2 (mkBd_le.mpr (.step hx (.refl _))), fun x hx z => ?_⟩
  have := h.cl g z.1 z.2
  rw [mkBd_cl.mpr ⟨x, hx, .inl ⟨.refl _, .refl _⟩⟩] at this
  exact nomatch this
theorem nodup_len_eq {l m : List (List Str)} (h1 : l.Nodup) (h2 : m.Nodup) (h : ∀ R, R ∈ l ↔ R ∈ m) : l.length = m.length := by
  have key : ∀ (l m : List (List Str)), l.Nodup → (∀ x ∈ l, x ∈ m) → l.length ≤ m.length := by
    intro l
    induction l with
    | nil => exact fun _ _ _ => Nat.zero_le _
    | cons a l ih =>
      intro m hn hs
      rw [List.nodup_cons] at hn
      have ha := hs a List.mem_cons_self
      have := ih (m.erase a) hn.2 fun x hx => (List.mem_erase_of_ne (fun z : x = a => hn.1 (by rw [← z]; exact hx))).mpr (hs x (List.mem_cons_of_mem _ hx))
      rw [List.length_erase_of_mem ha] at this
      have hp := List.length_pos_of_mem ha
      rw [List.length_cons]
      omega
  exact Nat.le_antisymm (key l m h1 fun x => (h x).mp) (key m l h2 fun x => (h x).mpr)
theorem count_eq {d : Parts} (n : (mkBd d.L d.C d.N d.Bs).Nice) (hN : ∀ x ∈ d.N, x.1 ∈ d.L ∧ x.2 ∈ d.L) {O : List Str} (st : StOk (mkBd d.L d.C d.N d.Bs) O) : ((mkBd d.L d.C d.N d.Bs).seenF O).rowsAll.length = (masks d).length := by
  generalize hb : mkBd d.L d.C d.N d.Bs = b at n st
  have hpegs : b.pegs = d.L := by rw [← hb]; rfl
  have g := n.good
  have g1 := seen_good g O
  have hop : ∀ p, p ∈ (b.seenF O).ord ↔ p ∈ b.pegs := fun p => ord_perm.mem_iff
  have hnd : d.L.Nodup := by rw [← hpegs]; exact g.nd
  have hmk : ∀ m ∈ masks d, StOk b (maskRow d.L m) := fun m hm => by
    have := (List.mem_filter.mp hm).2
    subst hb
    exact st_of_isStand g this fun p => maskRow_sub
  let f : Nat → List Str := fun m => (b.seenF O).ord.filter fun p => decide (p ∈ b.xor (maskRow d.L m) O)
  have hf : ∀ m p, p ∈ f m ↔ p ∈ b.xor (maskRow d.L m) O := fun m p => by
    show p ∈ List.filter _ _ ↔ _
    rw [List.mem_filter, decide_eq_true_eq, hop]
    exact ⟨fun h => h.2, fun h => ⟨(mem_xor.mp h).1, h⟩⟩
  rw [← List.length_map (f := f)]
  refine nodup_len_eq (rowsAll_nodup g1) ?_ fun R => ?_
  · rw [List.Nodup, List.pairwise_map]
    refine List.Pairwise.imp_of_mem (fun {m m'} h1 h2 ne e => ne ?_) (List.nodup_range.filter _)
    have k1 := List.mem_range.mp (List.mem_filter.mp h1).1
    have k2 := List.mem_range.mp (List.mem_filter.mp h2).1
    refine mask_inj k1 k2 fun k hk => ?_
    rw [Bool.eq_iff_iff, ← maskRow_at hnd hk, ← maskRow_at hnd hk]
    have hp : d.L[k] ∈ b.pegs := by rw [hpegs]; exact List.getElem_mem hk
    have e1 : d.L[k] ∈ b.xor (maskRow d.L m) O ↔ d.L[k] ∈ b.xor (maskRow d.L m') O := by rw [← hf, ← hf, e]
    rw [mem_xor, mem_xor] at e1
    by_cases z : d.L[k] ∈ O <;> simp [z, hp] at e1
    · by_cases z1 : d.L[k] ∈ maskRow d.L m <;> by_cases z2 : d.L[k] ∈ maskRow d.L m' <;> simp [z1, z2] at e1 ⊢
    · exact e1
  · rw [mem_rowsAll g1, List.mem_map]
    constructor
    · rintro ⟨h1, h2⟩
      have hS : StOk b (b.xor R O) := by
        have := seen_st g1 (O := O) h2
        refine ⟨this.sub, fun p hp q hq => ?_, fun p hp q hq ne => ?_⟩
        · obtain ⟨hq1, hq2⟩ := mem_row.mp hq
          exact this.down p hp q (mem_row.mpr ⟨hq1, by rw [seen_back_le n st (this.sub p hp) hq1]; exact hq2⟩)
        · have hp1 : p ∈ b.pegs := this.sub p hp
          have hq1 : q ∈ b.pegs := this.sub q hq
          rw [g.clash hp1 hq1, ← seen_back_cl n st hp1 hq1]
          exact this.cl (seen_good g1 O) hp hq
      obtain ⟨m, hm1, hm2⟩ := mask_ex (fun k => decide (∃ p, d.L[k]? = some p ∧ p ∈ b.xor R O)) d.L.length
      have hmem : ∀ p, p ∈ maskRow d.L m ↔ p ∈ b.xor R O := fun p => by
        rw [mem_maskRow]
        constructor
        · rintro ⟨k, k1, k2⟩
          obtain ⟨k3, k4⟩ := List.getElem?_eq_some_iff.mp k2
          rw [hm2 k k3, decide_eq_true_eq] at k1
          obtain ⟨q, hq, hq2⟩ := k1
          rw [k2] at hq
          cases hq
          exact hq2
        · intro hp
          have : p ∈ d.L := by rw [← hpegs]; exact (mem_xor.mp hp).1
          obtain ⟨k, hk⟩ := List.mem_iff_getElem?.mp this
          obtain ⟨k3, k4⟩ := List.getElem?_eq_some_iff.mp hk
          exact ⟨k, by rw [hm2 k k3, decide_eq_true_eq]; exact ⟨p, hk, hp⟩, hk⟩
      refine ⟨m, List.mem_filter.mpr ⟨List.mem_range.mpr hm1, ?_⟩, ?_⟩
      · have h3 := hS.congr hmem
        subst hb
        exact isStand_of g hN h3
      · rw [h1]
        refine List.filter_congr fun p hp => ?_
        have hp1 := (hop p).mp hp
        rw [decide_eq_decide, mem_xor, hmem, mem_xor]
        by_cases z1 : p ∈ R <;> by_cases z2 : p ∈ O <;> simp [z1, z2, hp1]
    · rintro ⟨m, hm, rfl⟩
      refine ⟨?_, (seen_st g (O := O) (hmk m hm)).congr (hf m)⟩
      refine List.filter_congr fun p hp => ?_
      rw [decide_eq_decide]
      exact (hf m p).symm
end NP
end

section
set_option maxHeartbeats 4000000
namespace NP
open PySem PySem.Spec PyProof.Rows L2 Evl
/-! ### the law's parts make a board -/
structure PartsG (d : Parts) : Prop where
  ok : PartsOk d
  name : ∀ s ∈ d.L, NameS s
  rk : ∃ r : Str → Nat, Ranked d.N r ∧ ∀ p ∈ d.L, r p ≤ d.L.length
  bm : PairsOk d.L d.Bs
  dead : ∀ p ∈ d.L, barred (lawRow d.L d.N p) (lawRow d.L d.N p) d.Bs = false
  cl : d.C.length = d.L.length
  cc : ∀ c ∈ d.C, 1 ≤ c ∧ c ≤ 1000
theorem PartsG.pre {d : Parts} (h : PartsG d) : BdPre d.L d.C d.N d.Bs := by
  obtain ⟨r, h1, h2⟩ := h.rk
  exact {
    names := ⟨fun x hx => ⟨Nat.le_trans (h.name x hx).2.1 (by decide), (h.name x hx).nameB⟩, h.ok.nd⟩
    most := h.ok.len
    so := h.ok.so
    clen := h.cl
    cost := h.cc
    needs := fun x hx => ⟨(h.ok.nm x hx).1, (h.ok.nm x hx).2, fun e => by
      have := h1 x hx
      rw [e] at this
      exact Nat.lt_irrefl _ this⟩
    circ := noCircle_of h1
    rlen := rowsLe_of (Nat.le_trans h.ok.len (by decide)) h.ok.nm
    bars := h.bm
    dead := dead_of h1 h.ok.nm h2 h.dead
    nl := h.ok.nl
    bl := h.ok.bl }
def Parts.bd (d : Parts) : Bd := mkBd d.L d.C d.N d.Bs
theorem PartsG.nice {d : Parts} (h : PartsG d) : d.bd.Nice := by
  have p := h.pre
  obtain ⟨r, h1, h2⟩ := h.rk
  exact ⟨mkBd_good h.ok.nd (fun p q a b => a.anti h1 b) p.dead, p.ok, p.names, p.cost⟩
theorem Bd.Same.key {b c : Bd} (h : b.Same c) : c.key = b.key := by
  have h3 := h.rows
  have h4 := h.clashes
  unfold Bd.key
  rw [h.cost, h4]
  have e : ∀ d : Bd, (d.pegs.map fun p => strsD (d.row p)) = (d.pegs.map d.row).map strsD := fun d => by rw [List.map_map]; rfl
  rw [e, e, h3, h.pegs]
/-- the order in which the law draws the needs -/
theorem idx_at {l : List Str} (nd : l.Nodup) {i : Nat} {a : Str} (h : l[i]? = some a) : l.idxOf a = i := by
  obtain ⟨h1, h2⟩ := List.getElem?_eq_some_iff.mp h
  rw [← h2]
  exact nd.idxOf_getElem i h1
def WantsOk (l : List Str) (W : List (Str × Str)) : Prop := ∀ x ∈ W, ∃ i j : Nat, j ≤ i ∧ l[i]? = some x.1 ∧ l[j]? = some x.2
theorem wants_rank {l : List Str} (nd : l.Nodup) {W : List (Str × Str)} (h : WantsOk l W) : Ranked (W.filter fun x => !decide (x.1 = x.2)) l.idxOf := fun x hx => by
  obtain ⟨h1, h2⟩ := List.mem_filter.mp hx
  obtain ⟨i, j, hij, hi, hj⟩ := h x h1
  show l.idxOf x.2 < l.idxOf x.1
  rw [idx_at nd hi, idx_at nd hj]
  have : i ≠ j := fun e => by
    subst e
    rw [hi] at hj
    simp [Option.some.inj hj] at h2
  omega
theorem wants_mem {l : List Str} {W : List (Str × Str)} (h : WantsOk l W) : ∀ x ∈ W, x.1 ∈ l ∧ x.2 ∈ l := fun x hx => by
  obtain ⟨i, j, _, hi, hj⟩ := h x hx
  exact ⟨List.mem_iff_getElem?.mpr ⟨i, hi⟩, List.mem_iff_getElem?.mpr ⟨j, hj⟩⟩
theorem idx_le {l : List Str} {p : Str} (h : p ∈ l) : l.idxOf p ≤ l.length := List.idxOf_le_length
end NP
end

section
set_option maxHeartbeats 4000000
namespace NP
open PySem PySem.Spec PyProof.Rows L2 Evl
section
variable {K : PySem.W.Frag} {σ : L2.St} {B B1 B2 H H1 H2 : Hp} {te ta tb : TE} {x f : Addr} {n n1 n2 : Nat}
theorem GrX.mutF {o : HO} (g : GrX x B H B1 H1) (hf : B1 f = none) (h0 : H f = none) (nx : f ≠ x) : GrX x B H B1 (upd H1 f o) :=
  ⟨g.b, Ex.mut g.bh hf, fun a u h e => by
    have : a ≠ f := fun z => by rw [z, h0] at e; cases e
    rw [upd_ne this]
    exact g.h a u h e, by rw [upd_ne (Ne.symm nx)]; exact g.x2, g.av⟩
theorem GrX.freeze {o : HO} (g : GrX x B H B1 H1) (hf : B1 f = none) (h1 : H1 f = Option.some o) (h0 : H f = none) : GrX x B H (upd B1 f o) H1 :=
  ⟨g.b.trans (Ex.new hf), fun a u h => by
    by_cases z : a = f
    · subst z; rw [upd_same] at h; rw [h1]; exact h
    · rw [upd_ne z] at h; exact g.bh _ _ h, g.h, g.x2, fun a h1 h2 => by
    have : a ≠ f := fun z => h1 (z ▸ h0)
    rw [upd_ne this]
    exact g.av a h1 h2⟩
theorem GrX.back (g : GrX x B H B1 H1) {a : Addr} (h : H1 a = none) : H a = none := by
  cases e : H a with
  | none => rfl
  | some o => exact absurd h (GrX.some g (by rw [e]; simp))
theorem Box.mutF {o : HO} (h : Box x n H) (nx : f ≠ x) : Box x n (upd H f o) := by
  obtain ⟨a, b, c, z, r⟩ := h
  exact ⟨a, b, c, by rw [upd_ne (Ne.symm nx)]; exact z, r⟩
theorem evx_ixL {xs : List V} {m : Int} (h : EvP ta σ B fun v B2 => ∃ p, v = .ref p ∧ SqL K B2 p xs) (hm : m ≤ xs.length) (hb : ∀ B1, Ex B B1 → EvX x tb σ B1 n n1 fun v _ => ∃ r : Int, v = .int r ∧ 0 ≤ r ∧ r < m) : EvX x (tOp (rIxL K) ta tb) σ B n n1 fun v _ => ∃ i : Nat, (i : Int) < m ∧ xs[i]? = some v := by
  refine evx_op (P := fun v B => ∃ p, v = .ref p ∧ SqL K B p xs) (fun _ _ _ e ⟨p, h1, h2⟩ => ⟨p, h1, ex_l e h2⟩) (evx_p h) hb fun v w B1 H1 e ⟨p, hv, hp⟩ ⟨r, hw, r0, r1⟩ e1 Q q => ?_
  subst hv hw
  have hk : r.toNat < xs.length := by omega
  refine ⟨p, xs, r, xs[r.toNat], rfl, rfl, ex_l e1 hp, ?_, q _ B1 H1 (Gr.refl e1) ⟨r.toNat, by omega, List.getElem?_eq_getElem hk⟩⟩
  have := atI_nat (xs := xs) (j := r.toNat) (v := xs[r.toNat]) (List.getElem?_eq_getElem hk)
  rwa [Int.toNat_of_nonneg r0] at this
theorem take_evxA {M : Int} {t : TA} (h : EaX x t σ B n n1 fun ws _ => ∃ m : Int, ws = [.ref x, .int m] ∧ 1 ≤ m ∧ m ≤ M) (hn : n1 ≤ 1000000) (hM : M ≤ 1000000) : EvX x (tCall sp_l_take [] L2.E0 t) σ B n (n1 + 1) fun v _ => ∃ r : Int, v = .int r ∧ 0 ≤ r ∧ r < M :=
  evx_call h fun ws B1 e1 ⟨m, hw, m1, m2⟩ => ⟨⟨x, n1, m⟩, rfl, rfl, Nat.le_refl _, ⟨hw, hn, m1, by show m ≤ 1000000; omega⟩, fun v B2 _ ⟨r, hv, r0, r1⟩ => ⟨r, hv, r0, by
    have : r < m := r1
    omega⟩⟩
/-- [1, 2][take(2)] -/
theorem pick_evx {cs : List Int} {t : TA} {m : Int} (hl : EvA t σ B (cs.map V.int)) (hz : cs.length ≤ 100) (hm : m = cs.length) (h1 : 1 ≤ m) (hx : σ[0]? = some (some (.ref x))) (hn : n ≤ 1000000) : EvX x (tOp (rIxL K) (tLst t) (tCall sp_l_take [] L2.E0 (tCons (tVar 0) (tCons (tC (.int m)) tNil)))) σ B n (n + 1) fun v _ => ∃ c : Int, v = .int c ∧ c ∈ cs := by
  refine (evx_ixL (K := K) (xs := cs.map V.int) (m := m) ((el_p (el_lst hl (by rw [List.length_map]; omega))).imp fun v B2 _ ⟨p, hv, hp⟩ => ⟨p, hv, sq_of hp⟩) (by rw [List.length_map, hm]; exact Int.le_refl _) fun B1 e1 => take_evx (ea_cons (ev_var hx) (ea_cons ev_c ea_nil)) hn h1 (by omega)).imp fun v B2 _ ⟨i, _, hi⟩ => ?_
  rw [List.getElem?_map] at hi
  obtain ⟨c, hc, rfl⟩ := Option.map_eq_some_iff.mp hi
  exact ⟨c, rfl, List.mem_iff_getElem?.mpr ⟨i, hc⟩⟩
/-- take([1, 2][take(2)] * len(pegs) + 1) -/
theorem turns_evx {a : Addr} {xs : List V} (hx : σ[0]? = some (some (.ref x))) (h2 : σ[2]? = some (some (.ref a))) (hs : SqL K B a xs) (hl : xs.length ≤ 12) (hn : n ≤ 900000) : EaX x (tCons (tCall sp_l_take [] L2.E0 (tCons (tVar 0) (tCons (tOp (rI0 fun i j => .int (i + j)) (tOp (rI CMulW fun i j => .int (i * j)) (tOp (rIxL K) (tLst (tCons (tC (.int 1)) (tCons (tC (.int 2)) tNil))) (tCall sp_l_take [] L2.E0 (tCons (tVar 0) (tCons (tC (.int 2)) tNil)))) (tCB (rLn K) (tCons (tVar 2) tNil))) (tC (.int 1))) tNil))) tNil) σ B n (n + 2)
    fun ws _ => ∃ r : Int, ws = [.int r] ∧ 0 ≤ r ∧ r ≤ ((2 * xs.length : Nat) : Int) := by
  refine (eax_cons (n1 := n + 2) (P := fun v _ => ∃ r : Int, v = .int r ∧ 0 ≤ r ∧ r ≤ ((2 * xs.length : Nat) : Int)) (fun _ _ _ _ h => h) ((take_evxA (n := n) (n1 := n + 1) (M := ((2 * xs.length : Nat) : Int) + 1) ((eax_cons (n1 := n) (P := fun v _ => v = .ref x) mon_eq (evx_v (ev_var hx)) fun B1 e1 => eax_cons (n1 := n + 1) (P := fun v _ => ∃ m : Int, v = .int m ∧ 1 ≤ m ∧ m ≤ ((2 * xs.length : Nat) : Int) + 1) (fun _ _ _ _ h => h) (evx_op (P := fun v _ => ∃ m : Int, v = .int m ∧ 0 ≤ m ∧ m ≤ ((2 * xs.length : Nat) : Int)) (R := fun v _ => v = .int 1) (fun _ _ _ _ h => h) (evx_op (P := fun v _ => ∃ c : Int, v = .int c ∧ c ∈ [(1 : Int), 2]) (R := fun v _ => v = .int (xs.length : Nat)) (fun _ _ _ _ h => h) (pick_evx (K := K) (cs := [1, 2]) (m := 2) (ea_cons ev_c (ea_cons ev_c ea_nil)) (by decide) rfl (by decide) hx (by omega)) (fun B2 e2 => evx_v (ev_lenSq (ev_var h2) (sqs_l (ex_l (e1.trans e2) hs)))) fun v w B3 H3 e3 ⟨c, hv, hc⟩ hw e4 Q q => ?ga) (fun B2 e2 => evx_v ev_c) fun v w B3 H3 e3 ⟨c, hv, c0, c1⟩ hw e4 Q q => ?gb) fun _ _ => eax_nil).imp fun ws B2 e2 ⟨v1, vs1, w1, hv1, v2, vs2, w2, ⟨m, hv2, m1, m2⟩, w3⟩ => ?gc) (by omega) (by omega)).imp fun v B2 _ ⟨r, hv, r0, r1⟩ => ⟨r, hv, r0, by omega⟩) fun _ _ => eax_nil).imp fun ws B2 e2 ⟨v1, vs1, w1, ⟨r, hv1, r0, r1⟩, w2⟩ => ?gd
  case ga =>
    subst hv hw
    have hc12 : c = 1 ∨ c = 2 := by simpa using hc
    refine ⟨c, (xs.length : Nat), rfl, rfl, wide_mul (a := 2) (b := 4) (by rcases hc12 with h | h <;> rw [h] <;> decide) (by omega) (by decide) (by decide) (by decide), q _ B3 H3 (Gr.refl e4) ⟨_, rfl, ?_, ?_⟩⟩
    · rcases hc12 with h | h <;> rw [h] <;> omega
    · rcases hc12 with h | h <;> rw [h] <;> omega
  case gb =>
    subst hv hw
    exact ⟨c, 1, rfl, rfl, q _ B3 H3 (Gr.refl e4) ⟨_, rfl, by omega, by omega⟩⟩
  case gc =>
    subst w1 hv1 w2 hv2 w3
    exact ⟨m, rfl, m1, m2⟩
  case gd =>
    subst w1 hv1 w2
    exact ⟨r, rfl, r0, r1⟩
theorem ev_eqNil {p : Addr} {ds : List PyData} (h : Ev te σ B (.ref p)) (hd : Dp K B (.ref p) (.list ds)) (s : SeqAt.shaped (.list ds) = true) : Ev (tOp (rEqD K) te (tLst tNil)) σ B (.bl ds.isEmpty) :=
  ev_eqNilP ((ev_p h).imp fun v B2 e hv => ⟨p, ds, hv, dp_ex hd e, s, rfl⟩)
end
end NP
end

section
set_option maxHeartbeats 4000000
namespace NP
open PySem PySem.Spec PyProof.Rows L2 Evl
section
variable {P : Program} {w : World} {K : PySem.W.Frag} {mg : Str → Option Value} {base : Heap}
structure DPar where
  x : Addr
  n : Nat
def sp_l_parts (K : PySem.W.Frag) : Sp := PrmX (δ := DPar) (·.x) (·.n) (fun _ => 300) (fun d vs _ => vs = [.ref d.x, .int 12] ∧ d.n ≤ 500000) (fun d v B => ∃ t p, v = .ref t ∧ PartsAt K B t p ∧ PartsG p)
theorem c_l_parts (F : Facts K mg) : Cal P w K mg base 4 "_law_parts" ["_law_box_here", "_law_most"] (sp_l_parts K) := by
  obtain ⟨fd, D⟩ := F.d_l_parts
  have c_l_names := c_l_names (P := P) (w := w) (base := base) F
  have c_l_mixed := c_l_mixed (P := P) (w := w) (base := base) F
  have c_l_take := c_l_take (P := P) (w := w) (base := base) F
  have c_l_rows := c_l_rows (P := P) (w := w) (base := base) F
  have c_l_is_barred := c_l_is_barred (P := P) (w := w) (base := base) F
  refine mkCal D sc_l_parts F.g_l_parts (fun _ _ _ _ _ _ us hl => match us, hl with | [_, _], _ => rfl) (fun vs H Q E ⟨d, B, _, _, _, e, _⟩ => by rw [e.1]; rfl) fun cdv A outer s H vs Q E hr h => ⟨_, (pss_cons (ps_set (i := 2) sc_l_parts.nd rfl (by first | exact .inl rfl | exact .inr rfl) (pe_cal c_l_names hr (by decide) rfl (pa_cons (pv 0) (pa_cons (pe_cal c_l_take hr (by decide) rfl (pa_cons (pv 0) (pa_cons (pe_op op_add (pv 1) pe_int) pa_nil))) pa_nil))))
      (pss_cons (ps_asg (pe_tup (pa_cons (pe_cal c_l_mixed hr (by decide) rfl (pa_cons (pv 0) (pa_cons (pv 2) pa_nil))) (pa_cons (pe_lst pa_nil) (pa_cons (pe_lst pa_nil) pa_nil)))) (pg_tup_k (K := K) (n := 3) rfl rfl (pgs_cons (pg_name (i := 3) sc_l_parts.nd rfl (by first | exact .inl rfl | exact .inr rfl)) (pgs_cons (pg_name (i := 4) sc_l_parts.nd rfl (by first | exact .inl rfl | exact .inr rfl)) (pgs_cons (pg_name (i := 5) sc_l_parts.nd rfl (by first | exact .inl rfl | exact .inr rfl)) pgs_nil)))))
      (pss_cons (ps_for PassesOwn.never rfl (pi_range1 rfl F.f_range (pa_cons (pe_cal c_l_take hr (by decide) rfl (pa_cons (pv 0) (pa_cons (pe_op op_add (pe_op op_mulW (pe_ix (ix_list_k (K := K) rfl) (pe_lst (pa_cons pe_int (pa_cons pe_int pa_nil))) (pe_cal c_l_take hr (by decide) rfl (pa_cons (pv 0) (pa_cons pe_int pa_nil))) (fun _ _ => rfl)) (pe_callB (call_len_k (K := K) rfl) rfl F.f_len (by decide +kernel) (pa_cons (pv 2) pa_nil))) pe_int) pa_nil))) pa_nil)) (pg_name (i := 6) sc_l_parts.nd rfl (by first | exact .inl rfl | exact .inr rfl)) (pss_cons (ps_set (i := 7) sc_l_parts.nd rfl (by first | exact .inl rfl | exact .inr rfl) (pe_cal c_l_take hr (by decide) rfl (pa_cons (pv 0) (pa_cons (pe_callB (call_len_k (K := K) rfl) rfl F.f_len (by decide +kernel) (pa_cons (pv 3) pa_nil)) pa_nil))))
      (pss_one (ps_expr (pe_bm_k (K := K) rfl PySem.F.plainAttrs_list PySem.F.slot_list_extend PySem.F.type_list_extend mt_extend (pv 4) (pa_cons (pe_lst (pa_cons (pe_tup (pa_cons (pe_ix (ix_list_k (K := K) rfl) (pv 3) (pv 7) (fun _ _ => rfl)) (pa_cons (pe_ix (ix_list_k (K := K) rfl) (pv 3) (pe_cal c_l_take hr (by decide) rfl (pa_cons (pv 0) (pa_cons (pe_op op_add (pv 7) pe_int) pa_nil))) (fun _ _ => rfl)) pa_nil))) pa_nil)) pa_nil))))))
      (pss_cons (ps_setLc (i := 4) rfl sc_l_parts.nd rfl rfl (sw_true rfl rfl rfl (by decide +kernel)) (pi_list_k (K := K) rfl (pv 4)) (blkOk_by (own := [("_law_peg", 12), ("_law_needed", 13)]) (N := N_l_parts) (sc := defScope s_l_parts) (by decide +kernel)) (fun _ _ _ _ _ => (pg_tup_k (K := K) (n := 2) rfl rfl (pgs_cons (pg_name (i := 12) sc_l_parts.nd rfl (by first | exact .inl rfl | exact .inr rfl)) (pgs_cons (pg_name (i := 13) sc_l_parts.nd rfl (by first | exact .inl rfl | exact .inr rfl)) pgs_nil)))) (fun _ _ _ _ _ => (pts_one (pt_cmpR op_ne (pv 12) (pv 13) (nomark _)))) (fun _ _ _ _ _ => (pe_tup (pa_cons (pv 12) (pa_cons (pv 13) pa_nil)))))
      (pss_cons (ps_set (i := 8) sc_l_parts.nd rfl (by first | exact .inl rfl | exact .inr rfl) (pe_cal c_l_rows hr (by decide) rfl (pa_cons (pv 2) (pa_cons (pv 4) pa_nil))))
      (pss_cons (ps_for PassesOwn.never rfl (pi_range1 rfl F.f_range (pa_cons (pe_cal c_l_take hr (by decide) rfl (pa_cons (pv 0) (pa_cons (pe_op op_add (pe_op op_mulW (pe_ix (ix_list_k (K := K) rfl) (pe_lst (pa_cons pe_int (pa_cons pe_int pa_nil))) (pe_cal c_l_take hr (by decide) rfl (pa_cons (pv 0) (pa_cons pe_int pa_nil))) (fun _ _ => rfl)) (pe_callB (call_len_k (K := K) rfl) rfl F.f_len (by decide +kernel) (pa_cons (pv 2) pa_nil))) pe_int) pa_nil))) pa_nil)) (pg_name (i := 6) sc_l_parts.nd rfl (by first | exact .inl rfl | exact .inr rfl)) (pss_cons (ps_set (i := 9) sc_l_parts.nd rfl (by first | exact .inl rfl | exact .inr rfl) (pe_tup (pa_cons (pe_ix (ix_list_k (K := K) rfl) (pv 2) (pe_cal c_l_take hr (by decide) rfl (pa_cons (pv 0) (pa_cons (pe_callB (call_len_k (K := K) rfl) rfl F.f_len (by decide +kernel) (pa_cons (pv 2) pa_nil)) pa_nil))) (fun _ _ => rfl)) (pa_cons (pe_ix (ix_list_k (K := K) rfl) (pv 2) (pe_cal c_l_take hr (by decide) rfl (pa_cons (pv 0) (pa_cons (pe_callB (call_len_k (K := K) rfl) rfl F.f_len (by decide +kernel) (pa_cons (pv 2) pa_nil)) pa_nil))) (fun _ _ => rfl)) pa_nil))))
      (pss_cons (ps_setLc (i := 10) rfl sc_l_parts.nd rfl rfl (sw_true rfl rfl rfl (by decide +kernel)) (pi_list_k (K := K) rfl (pv 2)) (blkOk_by (own := [("_law_peg", 12)]) (N := N_l_parts) (sc := defScope s_l_parts) (by decide +kernel)) (fun _ _ _ _ _ => (pg_name (i := 12) sc_l_parts.nd rfl (by first | exact .inl rfl | exact .inr rfl))) (fun _ _ _ _ _ => (pts_one (pt_val (pe_cal c_l_is_barred hr (by decide) rfl (pa_cons (pe_dget (hu_of hr) (pv 8) (pv 12) (fun _ _ => rfl)) (pa_cons (pe_dget (hu_of hr) (pv 8) (pv 12) (fun _ _ => rfl)) (pa_cons (pe_op op_cat (pv 5) (pe_lst (pa_cons (pv 9) pa_nil))) pa_nil))))))) (fun _ _ _ _ _ => (pv 12)))
      (pss_one (ps_if (PW.pt (pw_and (pt_cmpR op_ne (pe_ix (ix_tup_k (K := K) rfl) (pv 9) pe_int (fun _ _ => rfl)) (pe_ix (ix_tup_k (K := K) rfl) (pv 9) pe_int (fun _ _ => rfl)) (nomark _)) (pw_and1 (pt_cmpR (op_eqD_k (K := K) rfl hr.units) (pv 10) (pe_lst pa_nil) (nomark _))))) (pss_one (ps_expr (pe_bm_k (K := K) rfl PySem.F.plainAttrs_list PySem.F.slot_list_append PySem.F.type_list_append mt_append (pv 5) (pa_cons (pv 9) pa_nil)))) pss_nil)))))
      (pss_cons (ps_setLc (i := 11) rfl sc_l_parts.nd rfl rfl (sw_true rfl rfl rfl (by decide +kernel)) (pi_list_k (K := K) rfl (pv 2)) (blkOk_by (own := [("_law_peg", 12)]) (N := N_l_parts) (sc := defScope s_l_parts) (by decide +kernel)) (fun _ _ _ _ _ => (pg_name (i := 12) sc_l_parts.nd rfl (by first | exact .inl rfl | exact .inr rfl))) (fun _ _ _ _ _ => pts_nil) (fun _ _ _ _ _ => (pe_op op_add pe_int (pe_cal c_l_take hr (by decide) rfl (pa_cons (pv 0) (pa_cons (pe_ix (ix_list_k (K := K) rfl) (pe_lst (pa_cons pe_int (pa_cons pe_int (pa_cons pe_int pa_nil)))) (pe_cal c_l_take hr (by decide) rfl (pa_cons (pv 0) (pa_cons pe_int pa_nil))) (fun _ _ => rfl)) pa_nil))))))
      (pss_one (ps_ret (pe_tup (pa_cons (pe_callTy (call_tuple_of_k (K := K) rfl) rfl F.f_tuple (by decide +kernel) (pa_cons (pv 2) pa_nil)) (pa_cons (pe_callTy (call_tuple_of_k (K := K) rfl) rfl F.f_tuple (by decide +kernel) (pa_cons (pv 4) pa_nil)) (pa_cons (pe_callTy (call_tuple_of_k (K := K) rfl) rfl F.f_tuple (by decide +kernel) (pa_cons (pv 5) pa_nil)) (pa_cons (pe_callTy (call_tuple_of_k (K := K) rfl) rfl F.f_tuple (by decide +kernel) (pa_cons (pv 11) pa_nil)) pa_nil)))))))))))))), ?_⟩
  obtain ⟨⟨x, n⟩, B, hB, hn, hbx, ⟨rfl, hnn⟩, q⟩ := h
  dsimp only at hn hbx hnn q
  have hxn := hbx.ne
  refine q_asgX hB hn hbx (n1 := n + 101) (P := fun v B => ∃ p L, v = .ref p ∧ B p = some (.lst ((L : List Str).map V.str)) ∧ L.length ≤ 12 ∧ L.Nodup ∧ ∀ s ∈ L, NameS s) (evx_call (n1 := n + 1) (eax_cons (n1 := n) (P := fun v _ => v = .ref x) mon_eq (evx_v (ev_var rfl)) fun B1 e1 => eax_cons (n1 := n + 1) (P := fun v _ => ∃ r : Int, v = .int r ∧ 0 ≤ r ∧ r < 12 + 1) (fun _ _ _ _ h => h) (take_evx (ea_cons (ev_var rfl) (ea_cons (ev_op (ev_var rfl) ev_c rv_I0) ea_nil)) (by omega) (by decide) (by decide)) fun _ _ => eax_nil) fun ws B1 e1 ⟨v1, vs1, w1, hv1, v2, vs2, w2, ⟨r, hv2, r0, r1⟩, w3⟩ => ?ga) fun v B1 H1 g1 hn1 hb1 ⟨pl, L, hv, hpl, hL12, hnd, hnm⟩ => ?gb
  case ga =>
    subst w1 hv1 w2 hv2 w3
    refine ⟨⟨x, n + 1, r.toNat⟩, rfl, rfl, Nat.le_refl _, ⟨?_, by show r.toNat ≤ 12; omega, by show n + 1 ≤ 700000; omega⟩, fun v B2 _ ⟨p, L, hv, hp, hl, hnd, hnm⟩ => ⟨p, L, hv, hp, ?_, hnd, hnm⟩⟩
    · show _ = [V.ref x, .int (r.toNat : Nat)]
      rw [Int.toNat_of_nonneg r0]
    · have : L.length = r.toNat := hl
      omega
  subst hv
  have hso : ∀ s ∈ L, PyData.strOk s = true := fun s hs => (hnm s hs).ok
  -- order, wants, blocks
  refine (evx_call (x := x) (n := n + 101) (n1 := n + 101) (n2 := n + 120) (B := B1) (P := fun v B => ∃ (p : Addr) (L' : List Str), v = .ref p ∧ B p = some (.lst (L'.map V.str)) ∧ L'.Perm L) (eax_p (ea_p (ea_cons (ev_var rfl) (ea_cons (ev_var rfl) ea_nil)))) fun ws B2 e2 hw => ⟨⟨x, n + 101, pl, L⟩, rfl, rfl, by show n + 101 + L.length ≤ n + 120; omega, ⟨hw, sqs_l (sq_of (e2 _ _ hpl)), hso, by show L.length ≤ 100; omega, by show n + 101 ≤ 900000; omega⟩, fun v B2 _ h => h⟩) H1 g1.bh hn1 hb1 _ fun v B2 H2 g2 b2 ⟨p, O, hv, hp, hperm⟩ => ?_
  subst hv
  refine ⟨Nat.zero_le _, fun f1 hf1 => ⟨Nat.zero_le _, fun f2 hf2 => ⟨by show 3 ≤ sizeLine; decide, fun t ht => ?_⟩⟩⟩
  have hf20 : H2 f2 = none := fresh_back (Ex.new hf1) hf2
  have h12 : f1 ≠ f2 := fun z => by rw [z, upd_same] at hf2; cases hf2
  have ht1 : t ≠ f1 := fun z => by rw [z, upd_ne h12, upd_same] at ht; cases ht
  have ht2 : t ≠ f2 := fun z => by rw [z, upd_same] at ht; cases ht
  have e3 : Ex H2 (upd (upd (upd H2 f1 (.lst [])) f2 (.lst [])) t (.tup [.ref p, .ref f1, .ref f2])) := ((Ex.new hf1).trans (Ex.new hf2)).trans (Ex.new ht)
  have k1 : upd (upd (upd H2 f1 (.lst [])) f2 (.lst [])) t (.tup [.ref p, .ref f1, .ref f2]) f1 = some (.lst []) := by rw [upd_ne (Ne.symm ht1), upd_ne h12, upd_same]
  have k2 : upd (upd (upd H2 f1 (.lst [])) f2 (.lst [])) t (.tup [.ref p, .ref f1, .ref f2]) f2 = some (.lst []) := by rw [upd_ne (Ne.symm ht2), upd_same]
  have k3 : upd (upd (upd H2 f1 (.lst [])) f2 (.lst [])) t (.tup [.ref p, .ref f1, .ref f2]) t = some (.tup [.ref p, .ref f1, .ref f2]) := upd_same
  refine ⟨t, _, rfl, st_of k3, rfl, _, _, rfl, _, _, rfl, _, _, rfl, rfl, ?_⟩
  have gx2 := g1.trans g2
  have gx3 := gx2.up e3
  have hb3 := b2.ex e3
  have x1 : f1 ≠ x := fun z => b2.ne (z ▸ hf1)
  have x2 : f2 ≠ x := fun z => b2.ne (z ▸ hf20)
  have hH1 : H f1 = none := gx2.back hf1
  have hH2 : H f2 = none := gx2.back hf20
  have hB1f : B2 f1 = none := fresh_back g2.bh hf1
  have hB2f : B2 f2 = none := fresh_back g2.bh hf20
  generalize upd (upd (upd H2 f1 (.lst [])) f2 (.lst [])) t (.tup [.ref p, .ref f1, .ref f2]) = H3 at k1 k2 gx3 hb3
  have hn2 := gx3.none_ hxn hn
  have hpl2 := g2.b _ _ hpl
  have hOl : O.length = L.length := hperm.length_eq
  have hOnd : O.Nodup := hperm.nodup_iff.mpr hnd
  have hlm : (L.map V.str).length = L.length := List.length_map _
  -- the needs
  refine q_forN (eix_range (x := x) (n := n + 120) (n1 := n + 122) (B := B2) (m := 2 * L.length) (by
    have := turns_evx (K := K) (x := x) (n := n + 120) (σ := [some (.ref x), some (.int 12), some (.ref pl), some (.ref p), some (.ref f1), some (.ref f2), none, none, none, none, none, none, none, none]) (B := B2) rfl rfl (sq_of hpl2) (by rw [hlm]; exact hL12) (by omega)
    rw [hlm] at this
    exact this) (by omega) H3 gx3.bh hn2 hb3 _ fun J B4 H4 g4 b4 ⟨r, hJ, hr⟩ => ?_)
  subst hJ
  have gx4 := gx3.trans g4
  have hn4 := g4.none_ hb3.ne hn2
  have hp4 := g4.b _ _ hp
  have hpl4 := g4.b _ _ hpl2
  have hB4f1 : B4 f1 = none := g4.av f1 (by rw [k1]; simp) hB1f
  have hB4f2 : B4 f2 = none := g4.av f2 (by rw [k2]; simp) hB2f
  have k14 : H4 f1 = some (.lst []) := g4.h _ _ x1 k1
  have k24 : H4 f2 = some (.lst []) := g4.h _ _ x2 k2
  refine q_for (B := B4) (wi := fun _ H R => R (Itr 0 r) H) gx4.bh ei_at (walk_range (lo := 0) (n := r)) (fun i σ' H' => ∃ Bi s6 s7 xs W, σ' = [some (.ref x), some (.int 12), some (.ref pl), some (.ref p), some (.ref f1), some (.ref f2), s6, s7, none, none, none, none, none, none] ∧ GrX x B H Bi H' ∧ Ex B4 Bi ∧ Bi f1 = none ∧ Bi f2 = none ∧ H' f1 = some (.lst xs) ∧ H' f2 = some (.lst []) ∧ Paired (PairV K Bi) W xs ∧ W.length ≤ i ∧ WantsOk O W ∧ Box x (n + 122 + 2 * i) H')
    (fun H5 e5 => ⟨B4, none, none, [], [], rfl, gx4.up e5, Ex.refl _, hB4f1, hB4f2, e5 _ _ k14, e5 _ _ k24, .nil, Nat.le_refl _, (fun _ h => nomatch h), b4.ex e5⟩) (fun i σ' H' _ _ => trivial) (fun i y σ' H5 H5' hlt ⟨Bi, s6, s7, xs, W, hσ, gi, ei, hBi1, hBi2, hf1i, hf2i, hpw, hwl, hwo, hbi⟩ hy => ?_) fun σ' H5 ⟨Bi, s6, s7, xs, W, hσ, gi, ei, hBi1, hBi2, hf1i, hf2i, hpw, hwl, hwo, hbi⟩ => ?_
  · subst hσ
    obtain ⟨rfl, rfl⟩ := hy
    have hni := gi.none_ hxn hn
    have hpi := ei _ _ hp4
    have hO1 : (1 : Int) ≤ (O.length : Nat) := by omega
    have hlen : ∀ (σ : L2.St) (B' : Hp), Ex Bi B' → σ[3]? = some (some (.ref p)) → Ev (tCB (rLn K) (tCons (tVar 3) tNil)) σ B' (.int (O.length : Nat)) := fun σ B' e hσ => by
      have := ev_lenSq (K := K) (ev_var hσ) (sqs_l (sq_of (e _ _ hpi)))
      rwa [List.length_map] at this
    refine q_asgX (n1 := n + 122 + 2 * i + 1) gi.bh hni hbi (take_evx (ea_cons (ev_var rfl) (ea_cons (hlen _ _ (Ex.refl _) rfl) ea_nil)) (by omega) hO1 (by omega)) fun v B6 H6 g6 hn6 b6 ⟨l, hv, l0, l1⟩ => ?_
    subst hv
    have gi6 := gi.trans g6
    have hf16 := g6.h _ _ x1 hf1i
    have hf26 := g6.h _ _ x2 hf2i
    have hB61 : B6 f1 = none := g6.av f1 (by rw [hf1i]; simp) hBi1
    have hB62 : B6 f2 = none := g6.av f2 (by rw [hf2i]; simp) hBi2
    have hp6 := g6.b _ _ hpi
    refine ⟨.ref f1, rfl, .inl ⟨rfl, _, sq_of hf16⟩, ?_⟩
    have hOm : (O.map V.str).length = O.length := List.length_map _
    refine (eax_cons (x := x) (n := n + 122 + 2 * i + 1) (n1 := n + 122 + 2 * i + 2) (n2 := n + 122 + 2 * i + 2) (σ := [some (.ref x), some (.int 12), some (.ref pl), some (.ref p), some (.ref f1), some (.ref f2), some (.int (0 + (i : Nat))), some (.int l), none, none, none, none, none, none]) (B := B6) (P := fun v B => ∃ q t, ∃ a b : Str, v = .ref q ∧ B q = some (.lst [.ref t]) ∧ B t = some (.tup [.str a, .str b]) ∧ ∃ i j : Nat, j ≤ i ∧ O[i]? = some a ∧ O[j]? = some b) (fun _ _ _ e ⟨q, t, a, b, h1, h2, h3, h4⟩ => ⟨q, t, a, b, h1, e _ _ h2, e _ _ h3, h4⟩) ((evx_lst (R := fun ws B => ∃ t, ∃ a b : Str, ws = [.ref t] ∧ B t = some (.tup [.str a, .str b]) ∧ ∃ i j : Nat, j ≤ i ∧ O[i]? = some a ∧ O[j]? = some b) ((eax_cons (n1 := n + 122 + 2 * i + 2) (P := fun v B => ∃ t, ∃ a b : Str, v = .ref t ∧ B t = some (.tup [.str a, .str b]) ∧ ∃ i j : Nat, j ≤ i ∧ O[i]? = some a ∧ O[j]? = some b) (fun _ _ _ e ⟨t, a, b, h1, h2, h3⟩ => ⟨t, a, b, h1, e _ _ h2, h3⟩) ((evx_tup (R := fun ws _ => ∃ a b : Str, ws = [.str a, .str b] ∧ ∃ i j : Nat, j ≤ i ∧ O[i]? = some a ∧ O[j]? = some b) ((eax_cons (n1 := n + 122 + 2 * i + 1) (P := fun v _ => v = .str (O.getD l.toNat default)) mon_eq (evx_v (ev_op (ev_var rfl) (ev_var rfl) (rv_ixL (K := K) (sq_of hp6) ?gat))) fun B7 e7 => eax_cons (n1 := n + 122 + 2 * i + 2) (P := fun v _ => ∃ j : Nat, (j : Int) < l + 1 ∧ (O.map V.str)[j]? = some v) (fun _ _ _ _ h => h) (evx_ixL (K := K) (xs := O.map V.str) (m := l + 1) ((ev_p (ev_var rfl)).imp fun v B2 e hv => ⟨p, hv, sq_of (e _ _ (e7 _ _ hp6))⟩) (by rw [hOm]; omega) fun B8 e8 => take_evx (ea_cons (ev_var rfl) (ea_cons (ev_op (ev_var rfl) ev_c rv_I0) ea_nil)) (by omega) (by omega) (by omega)) fun _ _ => eax_nil).imp fun ws B7 e7 ⟨v1, vs1, w1, hv1, v2, vs2, w2, ⟨j, hj, hv2⟩, w3⟩ => ?gtup) ?gz1 ?gm1).imp fun v B7 e7 ⟨t, vs, hv, ht, a, b, hvs, hij⟩ => ?gt2) fun _ _ => eax_nil).imp fun ws B7 e7 ⟨v1, vs1, w1, ⟨t, a, b, hv1, h2, h3⟩, w2⟩ => ?gl) ?gz2 ?gm2).imp fun v B7 e7 ⟨q, vs, hv, hq, t, a, b, hvs, h2, h3⟩ => ?gl2) fun _ _ => eax_nil) H6 gi6.bh hn6 b6 _ fun ws B7 H7 g7 b7 ⟨v1, vs1, w1, ⟨qq, t, a, b, hv1, hq, ht, i', j', hij⟩, w2⟩ => ?_
    case gat =>
      have hl : l.toNat < O.length := by omega
      have := atI_nat (xs := O.map V.str) (j := l.toNat) (v := .str (O.getD l.toNat default)) (by
        rw [List.getElem?_map, List.getElem?_eq_getElem hl, List.getD_eq_getElem?_getD, List.getElem?_eq_getElem hl]
        rfl)
      rwa [Int.toNat_of_nonneg l0] at this
    case gtup =>
      subst w1 hv1 w2 w3
      rw [List.getElem?_map] at hv2
      obtain ⟨b, hb, rfl⟩ := Option.map_eq_some_iff.mp hv2
      have hl : l.toNat < O.length := by omega
      refine ⟨_, b, rfl, l.toNat, j, by omega, ?_, hb⟩
      rw [List.getD_eq_getElem?_getD, List.getElem?_eq_getElem hl]
      rfl
    case gz1 =>
      rintro vs H1 ⟨a, b, rfl, _⟩
      show 2 ≤ 1000
      decide
    case gm1 => exact fun _ _ _ _ h => h
    case gt2 =>
      subst hvs
      exact ⟨t, a, b, hv, ht, hij⟩
    case gl =>
      subst w1 hv1 w2
      exact ⟨t, a, b, rfl, h2, h3⟩
    case gz2 =>
      rintro vs H1 ⟨t, a, b, rfl, _⟩
      show 1 ≤ 1000
      decide
    case gm2 => exact fun _ _ _ e ⟨t, a, b, h1, h2, h3⟩ => ⟨t, a, b, h1, e _ _ h2, h3⟩
    case gl2 =>
      subst hvs
      exact ⟨q, t, a, b, hv, hq, h2, h3⟩
    subst w1 hv1 w2
    have gi7 := gi6.trans g7
    have hf17 := g7.h _ _ x1 hf16
    have hf27 := g7.h _ _ x2 hf26
    have hB71 : B7 f1 = none := g7.av f1 (by rw [hf16]; simp) hB61
    have hB72 : B7 f2 = none := g7.av f2 (by rw [hf26]; simp) hB62
    have hxl : xs.length ≤ 24 := by rw [← paired_len hpw]; omega
    refine ⟨f1, qq, xs, [.ref t], rfl, rfl, hf17, g7.bh _ _ hq, sz_of (by show xs.length + 1 ≤ 100000; omega), ?_⟩
    refine ⟨B7, _, _, xs ++ [.ref t], W ++ [(a, b)], rfl, gi7.mutF hB71 hH1 x1, ei.trans (g6.b.trans g7.b), hB71, hB72, upd_same, by rw [upd_ne (Ne.symm h12)]; exact hf27, paired_snoc (paired_imp (fun _ _ z => z.ex (g6.b.trans g7.b)) hpw) ⟨t, rfl, st_of ht⟩, by rw [List.length_append]; show W.length + 1 ≤ i + 1; omega, fun z hz => ?_, ?_⟩
    · rcases List.mem_append.mp hz with hz | hz
      · exact hwo z hz
      · rw [List.mem_singleton.mp hz]
        exact ⟨i', j', hij⟩
    · have := b7.mutF (o := .lst (xs ++ [.ref t])) x1
      rw [show n + 122 + 2 * (i + 1) = n + 122 + 2 * i + 2 by omega]
      exact this
  subst hσ
  -- the needs stand still from now on
  have gA := gi.freeze hBi1 hf1i hH1
  have eA : Ex Bi (upd Bi f1 (.lst xs)) := Ex.new hBi1
  have hAf1 : upd Bi f1 (.lst xs) f1 = some (.lst xs) := upd_same
  have hAf2 : upd Bi f1 (.lst xs) f2 = none := by rw [upd_ne (Ne.symm h12)]; exact hBi2
  have hpwA : Paired (PairV K (upd Bi f1 (.lst xs))) W xs := paired_imp (fun _ _ z => z.ex eA) hpw
  have hplA := eA _ _ (ei _ _ hpl4)
  generalize upd Bi f1 (.lst xs) = BA at gA eA hAf1 hAf2 hpwA hplA
  have hwL := walk_L (K := K) (sq_of hAf1)
  rw [← paired_len hpwA] at hwL
  refine q_asgP gA.bh (P := fun v B => ∃ p ys, v = .ref p ∧ B p = some (.lst ys) ∧ Paired (PairV K B) (W.filter fun z => !decide (z.1 = z.2)) ys) (evp_lc (l := W) (q := fun z => !decide (z.1 = z.2)) (P := fun c v B => PairV K B c v) (st := fun z => [some (.ref x), some (.int 12), some (.ref pl), some (.ref p), some (.ref f1), some (.ref f2), s6, s7, none, none, none, none, some (.str z.1), some (.str z.2)]) (by omega) (ei_list (ev_var rfl) (sq_of hAf1)) hwL (fun _ e => e) (bnd_pair (f := fun x : Str × Str => V.str x.1) (g := fun x => V.str x.2) hpwA) (fun _ _ => rfl) (fun c hc => et_test (ev_neS (ev_var rfl) (ev_var rfl))) (fun c _ => mon_pairV) fun c _ _ => (eu_p (eu_tup (ea_cons (ev_var rfl) (ea_cons (ev_var rfl) ea_nil)) (by show 2 ≤ 100000; decide))).imp fun v B2 _ ⟨p, hv, hp⟩ => ⟨p, hv, st_of hp⟩) fun v B6 H6 g6 ⟨wl, ws, hv, hwl6, hpw6⟩ => ?_
  subst hv
  have hNr := wants_rank hOnd hwo
  have hNm : ∀ z ∈ W.filter (fun z => !decide (z.1 = z.2)), z.1 ∈ L ∧ z.2 ∈ L := fun z hz => by
    have := wants_mem hwo z (List.mem_filter.mp hz).1
    exact ⟨hperm.mem_iff.mp this.1, hperm.mem_iff.mp this.2⟩
  have hNl : (W.filter fun z => !decide (z.1 = z.2)).length ≤ 1000 := Nat.le_trans (List.length_filter_le _ _) (by omega)
  generalize W.filter (fun z => !decide (z.1 = z.2)) = N at hpw6 hNr hNm hNl
  have gx6 := gA.trans (g6.toX hbi.ne)
  have hb6 := hbi.ex g6.h
  have hf26 : H6 f2 = some (.lst []) := g6.h _ _ hf2i
  have hB62 : B6 f2 = none := g6.av f2 (by rw [hf2i]; simp) hAf2
  have hpl6 := g6.b _ _ hplA
  refine q_asgP gx6.bh (evp_call (⟨pl, L, wl, N⟩ : DRow) (ea_cons (ev_var rfl) (ea_cons (ev_var rfl) ea_nil)) ⟨rfl, sqs_l (sq_of hpl6), ⟨ws, sqs_l (sq_of hwl6), hpw6⟩, hnd, by show L.length ≤ 100; omega, hNl, hNm⟩) fun v B7 H7 g7 ⟨rd, hv, hrd⟩ => ?_
  subst hv
  have hwl7 := g7.b _ _ hwl6
  have hpw7 : Paired (PairV K B7) N ws := paired_imp (fun _ _ z => z.ex g7.b) hpw6
  have gx7 := gx6.trans (g7.toX hb6.ne)
  have hb7 := hb6.ex g7.h
  have hf27 : H7 f2 = some (.lst []) := g7.h _ _ hf26
  have hB72 : B7 f2 = none := g7.av f2 (by rw [hf26]; simp) hB62
  have hpl7 := g7.b _ _ hpl6
  have hn7 := gx7.none_ hxn hn
  have hbr : n + 122 + 2 * r ≤ n + 170 := by omega
  have hb7 := hb7.mono hbr
  obtain ⟨rs, hrd1, hrd2⟩ := hrd
  -- the bars
  refine q_forN (eix_range (x := x) (n := n + 170) (n1 := n + 172) (B := B7) (m := 2 * L.length) (by
    have := turns_evx (K := K) (x := x) (n := n + 170) (σ := [some (.ref x), some (.int 12), some (.ref pl), some (.ref p), some (.ref wl), some (.ref f2), s6, s7, some (.ref rd), none, none, none, none, none]) (B := B7) rfl rfl (sq_of hpl7) (by rw [hlm]; exact hL12) (by omega)
    rw [hlm] at this
    exact this) (by omega) H7 gx7.bh hn7 hb7 _ fun J B8 H8 g8 b8 ⟨r2, hJ, hr2⟩ => ?_)
  subst hJ
  have gx8 := gx7.trans g8
  have hn8 := g8.none_ hb7.ne hn7
  have hB82 : B8 f2 = none := g8.av f2 (by rw [hf27]; simp) hB72
  have hf28 : H8 f2 = some (.lst []) := g8.h _ _ x2 hf27
  have hpl8 := g8.b _ _ hpl7
  have hrd8 := g8.b _ _ hrd1
  have hrs8 : Paired (TupV (lawRow L N) K B8) L rs := paired_imp (fun _ _ z => z.ex g8.b) hrd2
  have hwl8 := g8.b _ _ hwl7
  have hpw8 : Paired (PairV K B8) N ws := paired_imp (fun _ _ z => z.ex g8.b) hpw7
  refine q_for (B := B8) (wi := fun _ H R => R (Itr 0 r2) H) gx8.bh ei_at (walk_range (lo := 0) (n := r2)) (fun i σ' H' => ∃ Bi s6 s9 s10 xs Bs, σ' = [some (.ref x), some (.int 12), some (.ref pl), some (.ref p), some (.ref wl), some (.ref f2), s6, s7, some (.ref rd), s9, s10, none, none, none] ∧ GrX x B H Bi H' ∧ Ex B8 Bi ∧ Bi f2 = none ∧ H' f2 = some (.lst xs) ∧ Paired (PairV K Bi) Bs xs ∧ Bs.length ≤ i ∧ PairsOk L Bs ∧ (∀ p ∈ L, barred (lawRow L N p) (lawRow L N p) Bs = false) ∧ Box x (n + 172 + 2 * i) H')
    (fun H9 e9 => ⟨B8, s6, none, none, [], [], rfl, gx8.up e9, Ex.refl _, hB82, e9 _ _ hf28, .nil, Nat.le_refl _, (fun _ h => nomatch h), fun _ _ => rfl, b8.ex e9⟩) (fun i σ' H' _ _ => trivial) (fun i y σ' H9 H9' hlt ⟨Bi, s6, s9, s10, xs, Bs, hσ, gi, ei, hBi2, hf2i, hpb, hbl, hbo, hbd, hbi⟩ hy => ?_) fun σ' H9 ⟨Bi, s6, s9, s10, xs, Bs, hσ, gi, ei, hBi2, hf2i, hpb, hbl, hbo, hbd, hbi⟩ => ?_
  · subst hσ
    obtain ⟨rfl, rfl⟩ := hy
    have hni := gi.none_ hxn hn
    have hpli := ei _ _ hpl8
    have hL1 : (1 : Int) ≤ (L.length : Nat) := by omega
    have hlen : ∀ (σ : L2.St) (B' : Hp), Ex Bi B' → σ[2]? = some (some (.ref pl)) → Ev (tCB (rLn K) (tCons (tVar 2) tNil)) σ B' (.int (L.length : Nat)) := fun σ B' e hσ => by
      have := ev_lenSq (K := K) (ev_var hσ) (sqs_l (sq_of (e _ _ hpli)))
      rwa [List.length_map] at this
    have hone : ∀ (σ : L2.St) (B' : Hp) (m : Nat), Ex Bi B' → m ≤ 900000 → σ[0]? = some (some (.ref x)) → σ[2]? = some (some (.ref pl)) → EvX x (tOp (rIxL K) (tVar 2) (tCall sp_l_take [] L2.E0 (tCons (tVar 0) (tCons (tCB (rLn K) (tCons (tVar 2) tNil)) tNil)))) σ B' m (m + 1) fun v _ => ∃ a : Str, v = .str a ∧ a ∈ L := fun σ B' m e hm h0 h2 =>
      (evx_ixL (K := K) (xs := L.map V.str) (m := (L.length : Nat)) ((ev_p (ev_var h2)).imp fun v B2 e2 hv => ⟨pl, hv, sq_of (e2 _ _ (e _ _ hpli))⟩) (by rw [hlm]; exact Int.le_refl _) fun B9 e9 => take_evx (ea_cons (ev_var h0) (ea_cons (hlen _ _ (e.trans e9) h2) ea_nil)) (by omega) hL1 (by omega)).imp fun v B2 _ ⟨j, _, hj⟩ => by
        rw [List.getElem?_map] at hj
        obtain ⟨a, ha, rfl⟩ := Option.map_eq_some_iff.mp hj
        exact ⟨a, rfl, List.mem_iff_getElem?.mpr ⟨j, ha⟩⟩
    refine q_asgX (n1 := n + 172 + 2 * i + 2) gi.bh hni hbi (P := fun v B => ∃ t, ∃ a b : Str, v = .ref t ∧ B t = some (.tup [.str a, .str b]) ∧ a ∈ L ∧ b ∈ L) ((evx_tup (R := fun ws _ => ∃ a b : Str, ws = [.str a, .str b] ∧ a ∈ L ∧ b ∈ L) ((eax_cons (n1 := n + 172 + 2 * i + 1) (P := fun v _ => ∃ a : Str, v = .str a ∧ a ∈ L) (fun _ _ _ _ h => h) (hone _ _ _ (Ex.refl _) (by omega) rfl rfl) fun B9 e9 => eax_cons (n1 := n + 172 + 2 * i + 2) (P := fun v _ => ∃ a : Str, v = .str a ∧ a ∈ L) (fun _ _ _ _ h => h) (hone _ _ _ e9 (by omega) rfl rfl) fun _ _ => eax_nil).imp fun ws B9 e9 ⟨v1, vs1, w1, ⟨a, hv1, ha⟩, v2, vs2, w2, ⟨b, hv2, hb⟩, w3⟩ => ?hp1) ?hp2 ?hp3).imp fun v B9 e9 ⟨t, vs, hv, ht, a, b, hvs, hab⟩ => ?hp4) fun v B9 H10 g9 hn9 b9 ⟨t, a, b, hv, ht, ha, hb⟩ => ?hp5
    case hp1 =>
      subst w1 hv1 w2 hv2 w3
      exact ⟨a, b, rfl, ha, hb⟩
    case hp2 =>
      rintro vs H1 ⟨a, b, rfl, _⟩
      show 2 ≤ 1000
      decide
    case hp3 => exact fun _ _ _ _ h => h
    case hp4 =>
      subst hvs
      exact ⟨t, a, b, hv, ht, hab⟩
    subst hv
    have gi9 := gi.trans g9
    have hf29 := g9.h _ _ x2 hf2i
    have hB92 : B9 f2 = none := g9.av f2 (by rw [hf2i]; simp) hBi2
    have ei9 := ei.trans g9.b
    have hpb9 : Paired (PairV K B9) Bs xs := paired_imp (fun _ _ z => z.ex g9.b) hpb
    -- for a while the list of bars is known
    have eC : Ex B9 (upd B9 f2 (.lst xs)) := Ex.new hB92
    have hCH : Ex (upd B9 f2 (.lst xs)) H10 := fun y u h => by
      by_cases z : y = f2
      · subst z; rw [upd_same] at h; rw [hf29]; exact h
      · rw [upd_ne z] at h; exact gi9.bh _ _ h
    have hCf : upd B9 f2 (.lst xs) f2 = some (.lst xs) := upd_same
    generalize upd B9 f2 (.lst xs) = BC at eC hCH hCf
    have hplC := eC _ _ (g9.b _ _ hpli)
    have htC := eC _ _ ht
    have hrdC := eC _ _ (ei9 _ _ hrd8)
    have hrsC : Paired (TupV (lawRow L N) K BC) L rs := paired_imp (fun _ _ z => z.ex (ei9.trans eC)) hrs8
    have hpbC : Paired (PairV K BC) Bs xs := paired_imp (fun _ _ z => z.ex eC) hpb9
    have hwp := walk_L (K := K) (sq_of hplC)
    rw [hlm] at hwp
    have hxl : xs.length ≤ 24 := by rw [← paired_len hpb]; omega
    refine q_asgP hCH (evp_lcF (l := L) (f := V.str) (q := fun z => barred (lawRow L N z) (lawRow L N z) (Bs ++ [(a, b)])) (st := fun z => [some (.ref x), some (.int 12), some (.ref pl), some (.ref p), some (.ref wl), some (.ref f2), some (.int (0 + (i : Nat))), s7, some (.ref rd), some (.ref t), s10, none, some (.str z), none]) (by omega) (ei_list (ev_var rfl) (sq_of hplC)) hwp (fun _ e => e) bnd_map (fun _ _ => rfl) (fun z hz => ?hd1) fun z _ _ => ev_var rfl) fun v BD HD gD ⟨dd, hv, hdd⟩ => ?hd2
    case hd1 =>
      obtain ⟨rv, hv, q1, rfl, hq1⟩ := zip_get hrsC hz
      have hcat : ∀ B', Ex BC B' → EvP (tOp rCat (tVar 5) (tLst (tCons (tVar 9) tNil))) [some (.ref x), some (.int 12), some (.ref pl), some (.ref p), some (.ref wl), some (.ref f2), some (.int (0 + (i : Nat))), s7, some (.ref rd), some (.ref t), s10, none, some (.str z), none] B' (fun v B => ∃ p, v = .ref p ∧ B p = some (.lst (xs ++ [.ref t]))) := fun B' e' => evp_catL (xs := xs) (ys := [.ref t]) ((ev_p (ev_var rfl)).imp fun v B2 e hv => ⟨f2, hv, e _ _ (e' _ _ hCf)⟩) (fun BF eF => el_p (el_lst (ea_cons (ev_var rfl) ea_nil) (by show 1 ≤ 100000; decide))) (by show xs.length + 1 ≤ 1000; omega)
      have hget : ∀ B', Ex BC B' → Ev (tDGet (tVar 8) (tVar 12)) [some (.ref x), some (.int 12), some (.ref pl), some (.ref p), some (.ref wl), some (.ref f2), some (.int (0 + (i : Nat))), s7, some (.ref rd), some (.ref t), s10, none, some (.str z), none] B' (.ref q1) := fun B' e' => ev_dget (ev_var rfl) (ev_var rfl) (.inl (e' _ _ hrdC)) hv
      have hargs : EaP (tCons (tDGet (tVar 8) (tVar 12)) (tCons (tDGet (tVar 8) (tVar 12)) (tCons (tOp rCat (tVar 5) (tLst (tCons (tVar 9) tNil))) tNil))) [some (.ref x), some (.int 12), some (.ref pl), some (.ref p), some (.ref wl), some (.ref f2), some (.int (0 + (i : Nat))), s7, some (.ref rd), some (.ref t), s10, none, some (.str z), none] BC (fun vs B => ∃ c, vs = [.ref q1, .ref q1, .ref c] ∧ B c = some (.lst (xs ++ [.ref t]))) := fun H1 e Q k =>
        hget BC (Ex.refl _) H1 e _ fun H2 e2 => hget BC (Ex.refl _) H2 (e.trans e2) _ fun H3 e3 => hcat BC (Ex.refl _) H3 ((e.trans e2).trans e3) _ fun v B4 H4 g4 ⟨c, hv, hc⟩ => by
          subst hv
          exact k _ B4 H4 ((Gr.ex e (e2.trans e3)).trans g4) ⟨c, rfl, hc⟩
      exact et_B (evp_callP (P := fun v _ => v = .bl (barred (lawRow L N z) (lawRow L N z) (Bs ++ [(a, b)]))) hargs fun vs BE eE ⟨c, hvs, hc⟩ => ⟨⟨q1, lawRow L N z, q1, lawRow L N z, c, Bs ++ [(a, b)]⟩, ⟨hvs, ex_t eE hq1, ex_t eE hq1, ⟨xs ++ [.ref t], sq_of hc, paired_snoc (paired_imp (fun _ _ z => z.ex eE) hpbC) ⟨t, rfl, st_of (eE _ _ htC)⟩⟩, by show (Bs ++ [(a, b)]).length ≤ 90000; rw [List.length_append]; show Bs.length + 1 ≤ 90000; omega⟩, fun v B2 _ h => h⟩).v
    subst hv
    have htD := gD.b _ _ htC
    have hdL : ∀ z ∈ L.filter (fun z => barred (lawRow L N z) (lawRow L N z) (Bs ++ [(a, b)])), PyData.strOk z = true := fun z hz => hso z (List.mem_filter.mp hz).1
    have hHD : Ex H10 HD := gD.h
    have hf2D := hHD _ _ hf29
    have giD : GrX x B H B9 HD := gi9.up hHD
    have bD : Box x (n + 172 + 2 * (i + 1)) HD := by
      rw [show n + 172 + 2 * (i + 1) = n + 172 + 2 * i + 2 by omega]
      exact b9.ex hHD
    have htest := et_and (et_test (ev_neS (ev_op (ev_var (σ := [some (.ref x), some (.int 12), some (.ref pl), some (.ref p), some (.ref wl), some (.ref f2), some (.int (0 + (i : Nat))), s7, some (.ref rd), some (.ref t), some (.ref dd), none, none, none]) (i := 9) (H := BD) rfl) (ev_c (v := .int 0)) (rv_ixT (K := K) (st_of htD) (v := .str a) rfl)) (ev_op (ev_var (i := 9) rfl) (ev_c (v := .int 1)) (rv_ixT (K := K) (st_of htD) (v := .str b) rfl)))) fun _ => et_test (ev_eqNil (ev_var (i := 10) rfl) (dp_strsL (K := K) (sq_of hdd)) (lay_strs hdL))
    refine s_if (fun H1 e Q q => htest H1 (gD.bh.trans e) Q q) (fun hb2 HE eE => ?_) fun hb2 HE eE => ?_
    · rw [Bool.and_eq_true] at hb2
      have hab : a ≠ b := by simpa using hb2.1
      have hdead : ∀ z ∈ L, barred (lawRow L N z) (lawRow L N z) (Bs ++ [(a, b)]) = false := fun z hz => by
        have h0 := hb2.2
        rw [List.isEmpty_map, List.isEmpty_iff, List.filter_eq_nil_iff] at h0
        simpa using h0 z hz
      have hf2E := eE _ _ hf2D
      refine ⟨.ref f2, rfl, .inl ⟨rfl, _, sq_of hf2E⟩, _, rfl, f2, xs, _, rfl, rfl, hf2E, sz_lt (by omega), B9, _, _, _, xs ++ [.ref t], Bs ++ [(a, b)], rfl, (giD.up eE).mutF hB92 hH2 x2, ei9, hB92, upd_same, paired_snoc hpb9 ⟨t, rfl, st_of ht⟩, by rw [List.length_append]; show Bs.length + 1 ≤ i + 1; omega, fun z hz => ?_, hdead, (bD.ex eE).mutF x2⟩
      rcases List.mem_append.mp hz with hz | hz
      · exact hbo z hz
      · rw [List.mem_singleton.mp hz]
        exact ⟨ha, hb, hab⟩
    · exact ⟨B9, _, _, _, xs, Bs, rfl, giD.up eE, ei9, hB92, eE _ _ hf2D, hpb9, Nat.le_succ_of_le hbl, hbo, hbd, bD.ex eE⟩
  subst hσ
  have gB := gi.freeze hBi2 hf2i hH2
  have eB : Ex Bi (upd Bi f2 (.lst xs)) := Ex.new hBi2
  have hBf2 : upd Bi f2 (.lst xs) f2 = some (.lst xs) := upd_same
  have hpbB : Paired (PairV K (upd Bi f2 (.lst xs))) Bs xs := paired_imp (fun _ _ z => z.ex eB) hpb
  generalize upd Bi f2 (.lst xs) = BB at gB eB hBf2 hpbB
  have e8B := ei.trans eB
  have hplB := e8B _ _ hpl8
  have hwlB := e8B _ _ hwl8
  have hpwB : Paired (PairV K BB) N ws := paired_imp (fun _ _ z => z.ex e8B) hpw8
  have hnB := gB.none_ hxn hn
  have hbB := hbi.mono (show n + 172 + 2 * r2 ≤ n + 220 by omega)
  have hwp := walk_L (K := K) (sq_of hplB)
  rw [hlm] at hwp
  have hprices := evx_lcN (x := x) (n := n + 220) (n1 := n + 220) (n2 := n + 220 + L.length * 2) (B := BB) (W := fun J _ => J = Itl K pl) (wi := iList K (tVar 2)) (σ := [some (.ref x), some (.int 12), some (.ref pl), some (.ref p), some (.ref wl), some (.ref f2), s6, s7, some (.ref rd), s9, s10, none, none, none]) (g := gName 12) (vs := [12]) (tt := tYes) (te := tOp (rI0 fun i j => .int (i + j)) (tC (.int 1)) (tCall sp_l_take [] L2.E0 (tCons (tVar 0) (tCons (tOp (rIxL K) (tLst (tCons (tC (.int 1)) (tCons (tC (.int 3)) (tCons (tC (.int 1000)) tNil)))) (tCall sp_l_take [] L2.E0 (tCons (tVar 0) (tCons (tC (.int 3)) tNil)))) tNil))))
    (P := fun v B => ∃ p ys, v = .ref p ∧ B p = some (.lst ys) ∧ Paired (fun _ y => ∃ c : Int, y = .int c ∧ 1 ≤ c ∧ c ≤ 1000) L ys)
    (fun H1 e1 _ hb R k => ei_list (K := K) (H := BB) (ev_var rfl) (sq_of hplB) H1 e1 R fun H2 e2 => k _ BB H2 ((GrX.refl e1 hb.ne).up e2) (hb.ex e2) rfl) fun J B1 e1 hJ => ?gpr
  case gpr =>
    subst hJ
    have := evx_lc (x := x) (n := n + 220) (k := 2) (l := L) (g := gName 12) (vs := [12]) (σ := [some (.ref x), some (.int 12), some (.ref pl), some (.ref p), some (.ref wl), some (.ref f2), s6, s7, some (.ref rd), s9, s10, none, none, none]) (B := B1) (te := tOp (rI0 fun i j => .int (i + j)) (tC (.int 1)) (tCall sp_l_take [] L2.E0 (tCons (tVar 0) (tCons (tOp (rIxL K) (tLst (tCons (tC (.int 1)) (tCons (tC (.int 3)) (tCons (tC (.int 1000)) tNil)))) (tCall sp_l_take [] L2.E0 (tCons (tVar 0) (tCons (tC (.int 3)) tNil)))) tNil)))) (P := fun _ v _ => ∃ c : Int, v = .int c ∧ 1 ≤ c ∧ c ≤ 1000) (st := fun z => [some (.ref x), some (.int 12), some (.ref pl), some (.ref p), some (.ref wl), some (.ref f2), s6, s7, some (.ref rd), s9, s10, none, some (.str z), none]) (by omega) hwp (fun _ e => e1.trans e) bnd_map (fun _ _ => rfl) (fun _ _ _ _ _ _ h => h) (fun z hz B5 e5 m5 hm5 => ?_)
    · exact this
    · refine evx_op (n1 := m5) (P := fun v _ => v = .int 1) (R := fun v _ => ∃ r : Int, v = .int r ∧ 0 ≤ r ∧ r < 1000) mon_eq (evx_v ev_c) (fun B6 e6 => take_evxA (n1 := m5 + 1) ((eax_cons (n1 := m5) (P := fun v _ => v = .ref x) mon_eq (evx_v (ev_var rfl)) fun B7 e7 => eax_cons (n1 := m5 + 1) (P := fun v _ => ∃ c : Int, v = .int c ∧ c ∈ [(1 : Int), 3, 1000]) (fun _ _ _ _ h => h) (pick_evx (K := K) (cs := [1, 3, 1000]) (m := 3) (ea_cons ev_c (ea_cons ev_c (ea_cons ev_c ea_nil))) (by decide) rfl (by decide) rfl (by omega)) fun _ _ => eax_nil).imp fun ws B7 e7 ⟨v1, vs1, w1, hv1, v2, vs2, w2, ⟨c, hv2, hc⟩, w3⟩ => ?gc) (by omega) (by decide)) fun v w B6 H6 e6 hv ⟨c, hw, c0, c1⟩ e7 Q q => ?gd
      case gc =>
        subst w1 hv1 w2 hv2 w3
        have hc3 : c = 1 ∨ c = 3 ∨ c = 1000 := by simpa using hc
        refine ⟨c, rfl, ?_, ?_⟩ <;> (rcases hc3 with h | h | h <;> rw [h] <;> decide)
      case gd =>
        subst hv hw
        exact ⟨1, c, rfl, rfl, q _ B6 H6 (Gr.refl e7) ⟨1 + c, rfl, by omega, by omega⟩⟩
  refine q_asgX gB.bh hnB hbB hprices fun v BE HE gE hnE bE ⟨pr, ys, hv, hpr, hys⟩ => ?_
  subst hv
  have hyc : ∃ C : List Int, ys = C.map V.int ∧ C.length = L.length ∧ ∀ c ∈ C, 1 ≤ c ∧ c ≤ 1000 := by
    clear hprices hpr
    clear hwp
    revert hys
    generalize L = L0
    intro hys
    induction hys with
    | nil => exact ⟨[], rfl, rfl, fun _ h => (nomatch h)⟩
    | cons r _ ih =>
      obtain ⟨c, rfl, h1⟩ := r
      obtain ⟨C, rfl, h2, h3⟩ := ih
      refine ⟨c :: C, rfl, by simp [h2], fun d hd => ?_⟩
      rcases List.mem_cons.mp hd with hd | hd
      · rw [hd]; exact h1
      · exact h3 d hd
  obtain ⟨C, rfl, hCl, hCc⟩ := hyc
  have gxE := gB.trans gE
  have hplE := gE.b _ _ hplB
  have hwlE := gE.b _ _ hwlB
  have hpwE : Paired (PairV K BE) N ws := paired_imp (fun _ _ z => z.ex gE.b) hpwB
  have hBf2E := gE.b _ _ hBf2
  have hpbE : Paired (PairV K BE) Bs xs := paired_imp (fun _ _ z => z.ex gE.b) hpbB
  refine s_retP gxE.bh (P := fun v B => ∃ t, v = .ref t ∧ PartsAt K B t ⟨L, N, Bs, C⟩) ((evp_tup (R := fun vs B => ∃ p n b c, vs = [.ref p, .ref n, .ref b, .ref c] ∧ SqT K B p (L.map V.str) ∧ TupPairs K B n N ∧ TupPairs K B b Bs ∧ SqT K B c (C.map V.int)) ((eap_cons (P := fun v B => ∃ p, v = .ref p ∧ B p = some (.tup (L.map V.str))) mon_tup (evp_tupOf ((ev_p (ev_var rfl)).imp fun v B2 e hv => ⟨pl, hv, e _ _ hplE⟩)) fun BF eF => eap_cons (P := fun v B => ∃ p, v = .ref p ∧ B p = some (.tup ws)) mon_tup (evp_tupOf ((ev_p (ev_var rfl)).imp fun v B2 e hv => ⟨wl, hv, e _ _ (eF _ _ hwlE)⟩)) fun BG eG => eap_cons (P := fun v B => ∃ p, v = .ref p ∧ B p = some (.tup xs)) mon_tup (evp_tupOf ((ev_p (ev_var rfl)).imp fun v B2 e hv => ⟨f2, hv, e _ _ (eG _ _ (eF _ _ hBf2E))⟩)) fun BH eH => eap_cons (P := fun v B => ∃ p, v = .ref p ∧ B p = some (.tup (C.map V.int))) mon_tup (evp_tupOf ((ev_p (ev_var rfl)).imp fun v B2 e hv => ⟨pr, hv, e _ _ (eH _ _ (eG _ _ (eF _ _ hpr)))⟩)) fun _ _ => eap_nil).imp fun vs BF eF ⟨v1, vs1, w1, ⟨a1, hv1, h1⟩, v2, vs2, w2, ⟨a2, hv2, h2⟩, v3, vs3, w3, ⟨a3, hv3, h3⟩, v4, vs4, w4, ⟨a4, hv4, h4⟩, w5⟩ => ?hr1) ?hr2 ?hr3).imp fun v BF eF ⟨t, vs, hv, ht, a1, a2, a3, a4, hvs, h1, h2, h3, h4⟩ => ?hr4) fun v BF HF gF ⟨t, hv, hparts⟩ => ?hr5
  case hr1 =>
    subst w1 hv1 w2 hv2 w3 hv3 w4 hv4 w5
    exact ⟨a1, a2, a3, a4, rfl, st_of h1, ⟨ws, st_of h2, paired_imp (fun _ _ z => z.ex eF) hpwE⟩, ⟨xs, st_of h3, paired_imp (fun _ _ z => z.ex eF) hpbE⟩, st_of h4⟩
  case hr2 =>
    rintro vs H1 ⟨a1, a2, a3, a4, rfl, _⟩
    show 4 ≤ 1000
    decide
  case hr3 => exact fun vs H1 H2 e ⟨a1, a2, a3, a4, h0, h1, h2, h3, h4⟩ => ⟨a1, a2, a3, a4, h0, ex_t e h1, h2.ex e, h3.ex e, ex_t e h4⟩
  case hr4 =>
    subst hvs
    exact ⟨t, hv, a1, a2, a3, a4, st_of ht, h1, h2, h3, h4⟩
  case hr5 =>
    refine q v BF HF (gxE.trans (gF.toX bE.ne)) ((bE.ex gF.h).mono (by show n + 220 + L.length * 2 ≤ n + 300; omega)) ⟨t, ⟨L, N, Bs, C⟩, hv, hparts, ?_⟩
    exact {
      ok := ⟨hnd, hL12, hso, hNl, by show Bs.length ≤ 1000; omega, hNm⟩
      name := hnm
      rk := ⟨O.idxOf, hNr, fun p hp => by
        have := idx_le (hperm.mem_iff.mpr hp)
        show O.idxOf p ≤ L.length
        omega⟩
      bm := hbo
      dead := hbd
      cl := hCl
      cc := hCc }
end
end NP
end

section
set_option maxHeartbeats 4000000
namespace NP
open PySem PySem.Spec PyProof.Rows L2 Evl
theorem pg_lst_k {X : Cx} {K : PySem.W.Frag} {pos : Pos} {es : List Expr} {k : Nat} {t : TGs} {n : Nat} (h : X.K = K) (hc : X.calm = true) (hp : PGs X es t) (hn : (assignEach es X.env).length = n := by rfl) (hst : (assignEach es X.env).findIdx? (·.1) = none := by rfl) : PG X (.Tuple es k pos) (gLst K n t) := by subst h; exact pg_lst hc hp hn hst
theorem rs_mon {K : PySem.W.Frag} : ∀ a b H H', L2.Ext H H' → RS K a b H → RS K a b H' := fun a b H H' e ⟨x, y, S, h1, h2, h3⟩ => ⟨x, y, S, h1.up e, h2.up e, h3⟩
section
variable {K : PySem.W.Frag} {σ : L2.St} {B B1 H : Hp} {te ta tb : TE}
theorem evp_methP {δ : Type} {pre : δ → List V → Hp → Prop} {post : δ → V → Hp → Prop} {E : XK} {t : TA} {P : V → Hp → Prop} {R : List V → Hp → Prop} {C : Addr} {m : Str} {a dx : Addr} {fs : List (Str × V)} (ho : Ev ta σ B (.ref a)) (ha : B a = some (.ins C dx fs)) (hl : fs.lookup m = none) (h : EaP t σ B R)
    (hp : ∀ vs B1, Ex B B1 → R vs B1 → ∃ d, pre d (.ref a :: vs) B1 ∧ ∀ v B2, Ex B1 B2 → post d v B2 → P v B2) : EvP (tMeth C m (Prm pre post) [] E ta t) σ B P := fun H1 e Q q => ho H1 e _ fun H2 e2 => ⟨a, dx, fs, rfl, e2 _ _ (e _ _ ha), hl, h H2 (e.trans e2) _ fun vs B3 H3 g3 r => by
  rw [List.append_nil]
  obtain ⟨d, p1, p2⟩ := hp vs B3 g3.b r
  exact ⟨d, B3, g3.bh, p1, fun v B' H' g p => q v B' H' (((Gr.ex e e2).trans g3).trans g) (p2 v B' g.b p)⟩⟩
/-- != of two new tuples of texts that are equal -/
theorem ev_neDP {l : List Str} (so : ∀ s ∈ l, PyData.strOk s = true) (ha : EvP ta σ B fun v B => ∃ t, v = .ref t ∧ SqT K B t (l.map V.str)) (hb : ∀ B1, Ex B B1 → EvP tb σ B1 fun v B => ∃ t, v = .ref t ∧ SqT K B t (l.map V.str)) : Ev (tOp (rNeD K) ta tb) σ B (.bl false) :=
  (evp_op (P := fun v B => ∃ t, v = .ref t ∧ SqT K B t (l.map V.str)) (S := fun w _ => w = .bl false) (fun _ _ _ e ⟨t, h1, h2⟩ => ⟨t, h1, ex_t e h2⟩) ha hb fun x y B1 H1 e1 ⟨t, hx, ht⟩ ⟨u, hy, hu⟩ e2 Q q => by
    subst hx hy
    refine ⟨strsD l, strsD l, dp_ex (dp_strs ht) e2, dp_ex (dp_strs hu) e2, strsD_shaped so, strsD_shaped so, ?_⟩
    rw [strsD_eqv so]
    exact q _ B1 H1 (Gr.refl e2) rfl).v
theorem ev_neI0 {x y : Int} (hx : Ev ta σ B (.int x)) (hy : Ev tb σ B (.int y)) (e : x = y) : Ev (tOp rNe ta tb) σ B (.bl false) := by
  have := ev_neI hx hy
  rw [decide_eq_true e] at this
  exact this
theorem ev_neS0 {x y : Str} (hx : Ev ta σ B (.str x)) (hy : Ev tb σ B (.str y)) (e : x = y) : Ev (tOp rNe ta tb) σ B (.bl false) := by
  have := ev_neS hx hy
  rw [decide_eq_true e] at this
  exact this
theorem et_or2 {t1 t2 : TT} (h1 : EvT t1 σ B false) (h2 : EvT t2 σ B false) : EvT (tOr t1 t2) σ B false := et_is (et_or h1 fun _ => h2) rfl
end
section
variable {P : Program} {w : World} {K : PySem.W.Frag} {mg : Str → Option Value} {base : Heap}
/-- seen, of stands of a nice board -/
theorem seen_evp {σ : L2.St} {B : Hp} {t : TA} {E : XK} {b : Bd} {O S : List Str} (n : b.Nice) {R : List V → Hp → Prop} (h : EaP t σ B R) (hR : ∀ vs B1, Ex B B1 → R vs B1 → ∃ a o, vs = [.ref a, .ref o] ∧ StAt K B1 a b S ∧ StAt K B1 o b O) : EvP (tCall (sp_seen K) [] E t) σ B fun v B2 => ∃ y, v = .ref y ∧ StAt K B2 y (b.seenF O) (b.xor S O) :=
  evp_callP h fun vs B1 e1 r => by
    obtain ⟨a, o, hv, ha, ho⟩ := hR vs B1 e1 r
    refine ⟨⟨a, o, b, S, O⟩, ⟨hv, ha, ho, seen_ok n O, ?_⟩, fun v B2 _ ⟨y, h1, h2⟩ => ⟨y, h1, ?_⟩⟩
    · show StOk (b.seenF O) (b.seenS O S)
      rw [seenS_eq]
      exact seen_st n.good ha.ok
    · have h2 : StAt K B2 y (b.seenF O) (b.seenS O S) := h2
      rw [seenS_eq] at h2
      exact h2
theorem pick_len {b : Bd} (h : b.Ok) {S : List Str} (e : b.pick S = S) : S.length ≤ 12 := by
  rw [← e]
  exact Nat.le_trans (List.length_filter_le _ _) h.most
structure DRt where
  o : Addr
  l : Addr
  k : Addr
  a1 : Addr
  a2 : Addr
  a3 : Addr
  b : Bd
  O : List Str
  A1 : List Str
  A2 : List Str
  A3 : List Str
def sp_l_right (K : PySem.W.Frag) : Sp := Prm (δ := DRt) (fun d vs B => vs = [.ref d.o, .ref d.l, .ref d.k] ∧ StAt K B d.o d.b d.O ∧ B d.l = some (.lst [.ref d.a1, .ref d.a2, .ref d.a3]) ∧ StAt K B d.a1 d.b d.A1 ∧ StAt K B d.a2 d.b d.A2 ∧ StAt K B d.a3 d.b d.A3 ∧ StAt K B d.k (d.b.seenF d.O) d.O ∧ d.b.Nice ∧ d.b.pick d.A1 = d.A1 ∧ d.b.pick d.A2 = d.A2 ∧ d.b.pick d.A3 = d.A3) (fun d v B => v = .bl true)
theorem c_l_right (F : Facts K mg) : Cal P w K mg base 9 "_law_right" ["_law_origin", "_law_some", "_law_back"] (sp_l_right K) := by
  obtain ⟨fd, D⟩ := F.d_l_right
  have c_seen := c_seen (P := P) (w := w) (base := base) F
  have c_S_distance := c_S_distance (P := P) (w := w) (base := base) F
  have c_S_middle := c_S_middle (P := P) (w := w) (base := base) F
  have c_S_is_between := c_S_is_between (P := P) (w := w) (base := base) F
  have c_S_eq := c_S_eq (P := P) (w := w) (base := base) F
  have c_S_xor := c_S_xor (P := P) (w := w) (base := base) F
  refine mkCal D sc_l_right F.g_l_right (fun _ _ _ _ _ _ us hl => match us, hl with | [_, _, _], _ => rfl) (fun vs H Q E ⟨i, B, _, e, _⟩ => by rw [e.1]; rfl) fun cdv A outer s H vs Q E hr h => ⟨_, (pss_cons (ps_asg (pv 1) (pg_lst_k (K := K) (n := 3) rfl rfl (pgs_cons (pg_name (i := 3) sc_l_right.nd rfl (by first | exact .inl rfl | exact .inr rfl)) (pgs_cons (pg_name (i := 4) sc_l_right.nd rfl (by first | exact .inl rfl | exact .inr rfl)) (pgs_cons (pg_name (i := 5) sc_l_right.nd rfl (by first | exact .inl rfl | exact .inr rfl)) pgs_nil)))))
      (pss_cons (ps_asg (pe_lc rfl sc_l_right.nd (pi_list_k (K := K) rfl (pv 1)) (blkOk_by (own := [("_law_stand", 9)]) (N := N_l_right) (sc := defScope s_l_right) (by decide +kernel)) (fun _ _ _ _ _ => (pg_name (i := 9) sc_l_right.nd rfl (by first | exact .inl rfl | exact .inr rfl))) (fun _ _ _ _ _ => pts_nil) (fun _ _ _ _ _ => (pe_cal c_seen hr (by decide) rfl (pa_cons (pv 9) (pa_cons (pv 0) pa_nil))))) (pg_lst_k (K := K) (n := 3) rfl rfl (pgs_cons (pg_name (i := 6) sc_l_right.nd rfl (by first | exact .inl rfl | exact .inr rfl)) (pgs_cons (pg_name (i := 7) sc_l_right.nd rfl (by first | exact .inl rfl | exact .inr rfl)) (pgs_cons (pg_name (i := 8) sc_l_right.nd rfl (by first | exact .inl rfl | exact .inr rfl)) pgs_nil)))))
      (pss_cons (ps_if (PW.pt (pw_or (pt_cmpR op_ne (pe_calM c_S_distance (pv 6) F.clsS hr (by decide) (pa_cons (pv 7) pa_nil)) (pe_calM c_S_distance (pv 3) F.clsS hr (by decide) (pa_cons (pv 4) pa_nil)) (nomark _)) (pw_or1 (pt_cmpR op_ne (pe_calM c_S_distance (pv 6) F.clsS hr (by decide) (pa_cons (pe_cal c_seen hr (by decide) rfl (pa_cons (pv 0) (pa_cons (pv 0) pa_nil))) pa_nil)) (pe_calM c_S_distance (pv 3) F.clsS hr (by decide) (pa_cons (pv 0) pa_nil)) (nomark _))))) (pss_one (ps_ret pe_bl)) pss_nil)
      (pss_cons (ps_if (PW.pt (pw_or (pt_cmpR (op_neIns c_S_eq F.eqS F.neS hr (by decide)) (pe_calM c_S_middle (pv 6) F.clsS hr (by decide) (pa_cons (pv 7) (pa_cons (pv 8) pa_nil))) (pe_cal c_seen hr (by decide) rfl (pa_cons (pe_calM c_S_middle (pv 3) F.clsS hr (by decide) (pa_cons (pv 4) (pa_cons (pv 5) pa_nil))) (pa_cons (pv 0) pa_nil))) (nomark _)) (pw_or1 (pt_cmpR (op_neD_k (K := K) rfl hr.units) (pe_op (op_xorIns c_S_xor F.selfS hr (by decide)) (pv 6) (pv 7)) (pe_op (op_xorIns c_S_xor F.selfS hr (by decide)) (pv 3) (pv 4)) (nomark _))))) (pss_one (ps_ret pe_bl)) pss_nil)
      (pss_cons (ps_if (pt_cmpR op_ne (pe_callB call_repr_bool rfl F.f_repr (by decide +kernel) (pa_cons (pe_calM c_S_is_between (pv 6) F.clsS hr (by decide) (pa_cons (pv 7) (pa_cons (pv 8) pa_nil))) pa_nil)) (pe_callB call_repr_bool rfl F.f_repr (by decide +kernel) (pa_cons (pe_calM c_S_is_between (pv 3) F.clsS hr (by decide) (pa_cons (pv 4) (pa_cons (pv 5) pa_nil))) pa_nil)) (nomark _)) (pss_one (ps_ret pe_bl)) pss_nil)
      (pss_one (ps_ret (pe_cmpR (op_eqG (rcG_list (mon_ins rs_mon) (eqG_cal c_S_eq F.eqS)) (hr.mono (by decide))) (pe_lc rfl sc_l_right.nd (pi_tup_k (K := K) rfl (pe_tup (pa_cons (pv 6) (pa_cons (pv 7) (pa_cons (pv 8) pa_nil))))) (blkOk_by (own := [("_law_stand", 9)]) (N := N_l_right) (sc := defScope s_l_right) (by decide +kernel)) (fun _ _ _ _ _ => (pg_name (i := 9) sc_l_right.nd rfl (by first | exact .inl rfl | exact .inr rfl))) (fun _ _ _ _ _ => pts_nil) (fun _ _ _ _ _ => (pe_cal c_seen hr (by decide) rfl (pa_cons (pv 9) (pa_cons (pv 2) pa_nil))))) (pv 1) (nomark _))))))))), ?_⟩
  obtain ⟨⟨o, l, k, a1, a2, a3, b, O, A1, A2, A3⟩, B, hB, ⟨rfl, ho, hl, h1, h2, h3, hk, n, p1, p2, p3⟩, q⟩ := h
  dsimp only at ho hl h1 h2 h3 hk n p1 p2 p3 q
  refine ⟨.ref l, rfl, l, _, rfl, sq_of (hB _ _ hl), rfl, _, _, rfl, _, _, rfl, _, _, rfl, rfl, ?_⟩
  have hwl := walk_L (K := K) (B := B) (sq_of hl)
  -- the three stands seen
  refine q_asgGP hB (evp_lcY (g := gName 9) (vs := [9]) (σ := [some (.ref o), some (.ref l), some (.ref k), some (.ref a1), some (.ref a2), some (.ref a3), none, none, none, none]) (l := [(a1, A1), (a2, A2), (a3, A3)]) (P := fun z v B => ∃ y, v = .ref y ∧ StAt K B y (b.seenF O) (b.xor z.2 O)) (st := fun z => [some (.ref o), some (.ref l), some (.ref k), some (.ref a1), some (.ref a2), some (.ref a3), none, none, none, some (.ref z.1)]) (by show 3 ≤ 90000; decide) (ei_list (ev_var rfl) (sq_of hl)) hwl (fun _ e => e) (bnd_map (l := [(a1, A1), (a2, A2), (a3, A3)]) (f := fun z => V.ref z.1)) (fun _ _ => rfl) (fun z _ v H H' e ⟨y, h1, h2⟩ => ⟨y, h1, h2.up e⟩) fun z hz => seen_evp n (ea_p (ea_cons (ev_var rfl) (ea_cons (ev_var rfl) ea_nil))) fun vs B1 e1 hv => ⟨z.1, o, hv, ?_, ho.up e1⟩) fun v B1 H1 g1 ⟨p, ys, hv, hp, hys⟩ => ?_
  · simp only [List.mem_cons, List.not_mem_nil, or_false] at hz
    rcases hz with rfl | rfl | rfl
    · exact h1.up e1
    · exact h2.up e1
    · exact h3.up e1
  subst hv
  cases hys with
  | cons r1 hys =>
  cases hys with
  | cons r2 hys =>
  cases hys with
  | cons r3 hys =>
  cases hys
  obtain ⟨y1, rfl, s1⟩ := r1
  obtain ⟨y2, rfl, s2⟩ := r2
  obtain ⟨y3, rfl, s3⟩ := r3
  dsimp only at s1 s2 s3
  refine ⟨p, _, rfl, sq_of (g1.bh _ _ hp), rfl, _, _, rfl, _, _, rfl, _, _, rfl, rfl, ?_⟩
  have ho1 := ho.up g1.b
  have hl1 := g1.b _ _ hl
  have h11 := h1.up g1.b
  have h21 := h2.up g1.b
  have h31 := h3.up g1.b
  have hk1 := hk.up g1.b
  have n' := seen_nice n O
  obtain ⟨_, dy1, _, _, iy1, _⟩ := id s1
  obtain ⟨_, da1, _, _, ia1, _⟩ := id h11
  obtain ⟨_, dy2, _, _, iy2, _⟩ := id s2
  obtain ⟨_, da2, _, _, ia2, _⟩ := id h21
  have hso : ∀ L : List Str, (∀ x ∈ L, x ∈ b.pegs) → ∀ x ∈ L, PyData.strOk x = true := fun L h x hx => n.ok.so x (h x hx)
  generalize hσ : List.set (α := Option V) _ _ _ = σ1
  have v0 : σ1[0]? = some (some (.ref o)) := by rw [← hσ]; rfl
  have v1 : σ1[1]? = some (some (.ref l)) := by rw [← hσ]; rfl
  have v2 : σ1[2]? = some (some (.ref k)) := by rw [← hσ]; rfl
  have v3 : σ1[3]? = some (some (.ref a1)) := by rw [← hσ]; rfl
  have v4 : σ1[4]? = some (some (.ref a2)) := by rw [← hσ]; rfl
  have v5 : σ1[5]? = some (some (.ref a3)) := by rw [← hσ]; rfl
  have v6 : σ1[6]? = some (some (.ref y1)) := by rw [← hσ]; rfl
  have v7 : σ1[7]? = some (some (.ref y2)) := by rw [← hσ]; rfl
  have v8 : σ1[8]? = some (some (.ref y3)) := by rw [← hσ]; rfl
  -- distances
  refine q_skip g1.bh (et_or2 (et_test (ev_neI0 (x := (b.seenF O).dist (b.xor A1 O) (b.xor A2 O)) (y := b.dist A1 A2) (evp_meth (⟨y1, y2, b.seenF O, b.xor A1 O, b.xor A2 O⟩ : DSS) (ev_var v6) iy1 rfl (ea_cons (ev_var v7) ea_nil) ⟨rfl, s1, s2⟩).v (evp_meth (⟨a1, a2, b, A1, A2⟩ : DSS) (ev_var v3) ia1 rfl (ea_cons (ev_var v4) ea_nil) ⟨rfl, h11, h21⟩).v (dist_xor n))) (et_test (ev_neI0 (x := (b.seenF O).dist (b.xor A1 O) (b.xor O O)) (y := b.dist A1 O) (EvP.v (evp_methP (R := fun vs B => ∃ z, vs = [.ref z] ∧ StAt K B z (b.seenF O) (b.xor O O)) (ev_var v6) iy1 rfl ((eap_cons (P := fun v B => ∃ z, v = .ref z ∧ StAt K B z (b.seenF O) (b.xor O O)) (fun _ _ _ e ⟨z, h1, h2⟩ => ⟨z, h1, h2.up e⟩) (seen_evp n (ea_p (ea_cons (ev_var v0) (ea_cons (ev_var v0) ea_nil))) fun vs B2 e2 hv => ⟨o, o, hv, ho1.up e2, ho1.up e2⟩) fun _ _ => eap_nil).imp fun vs B2 e2 ⟨u1, us, w1, ⟨z, hz, hs⟩, w2⟩ => ⟨z, by rw [w1, hz, w2], hs⟩) fun vs B2 e2 ⟨z, hv, hs⟩ => ⟨(⟨y1, z, b.seenF O, b.xor A1 O, b.xor O O⟩ : DSS), ⟨by rw [hv], s1.up e2, hs⟩, fun v B3 _ h => h⟩)) (evp_meth (⟨a1, o, b, A1, O⟩ : DSS) (ev_var v3) ia1 rfl (ea_cons (ev_var v0) ea_nil) ⟨rfl, h11, ho1⟩).v (dist_xor n)))) fun H2 e2 => ?_
  have hB2 := g1.bh.trans e2
  -- middles, differences
  have hmid : StOk b (b.mid A1 A2 A3) := mid_st n.good h1.ok h2.ok h3.ok
  have hmid' : StOk (b.seenF O) ((b.seenF O).mid (b.xor A1 O) (b.xor A2 O) (b.xor A3 O)) := mid_st n'.good s1.ok s2.ok s3.ok
  have emid : (b.seenF O).mid (b.xor A1 O) (b.xor A2 O) (b.xor A3 O) = b.xor (b.mid A1 A2 A3) O := mid_xor (b := b)
  have exor : (b.seenF O).xor (b.xor A1 O) (b.xor A2 O) = b.xor A1 A2 := xor_both (b := b)
  have sxor : ∀ x ∈ b.xor A1 A2, PyData.strOk x = true := hso _ fun x hx => (mem_xor.mp hx).1
  have mst : ∀ {c : Bd} {S : List Str}, NP.Mon (fun v B => ∃ z, v = .ref z ∧ StAt K B z c S) := fun _ _ _ e ⟨z, h1, h2⟩ => ⟨z, h1, h2.up e⟩
  refine q_skip hB2 (et_or2 (et_test (ev_neInsP (C := CS K) (R := RS K) (P1 := fun v B => ∃ z, v = .ref z ∧ StAt K B z (b.seenF O) (b.xor (b.mid A1 A2 A3) O)) (P2 := fun v B => ∃ z, v = .ref z ∧ StAt K B z (b.seenF O) (b.xor (b.mid A1 A2 A3) O)) mst ((evp_meth (⟨y1, y2, y3, b.seenF O, b.xor A1 O, b.xor A2 O, b.xor A3 O⟩ : D3S) (ev_var v6) iy1 rfl (ea_cons (ev_var v7) (ea_cons (ev_var v8) ea_nil)) ⟨rfl, s1, s2, s3, hmid'⟩).imp fun v B3 _ ⟨z, hz, hs⟩ => ⟨z, hz, by rw [← emid]; exact hs⟩) (fun B3 e3 => seen_evp n (R := fun vs B => ∃ z, vs = [.ref z, .ref o] ∧ StAt K B z b (b.mid A1 A2 A3)) ((eap_cons (P := fun v B => ∃ z, v = .ref z ∧ StAt K B z b (b.mid A1 A2 A3)) mst (evp_meth (⟨a1, a2, a3, b, A1, A2, A3⟩ : D3S) (ev_var v3) (e3 _ _ ia1) rfl (ea_cons (ev_var v4) (ea_cons (ev_var v5) ea_nil)) ⟨rfl, h11.up e3, h21.up e3, h31.up e3, hmid⟩) fun B4 e4 => eap_cons (P := fun v _ => v = .ref o) mon_eq (ev_p (ev_var v0)) fun _ _ => eap_nil).imp fun vs B4 e4 ⟨u1, us, w1, ⟨z, hz, hs⟩, u2, us2, w2, hu2, w3⟩ => ⟨z, by rw [w1, hz, w2, hu2, w3], hs⟩) fun vs B4 e4 ⟨z, hv, hs⟩ => ⟨z, o, hv, hs, ho1.up (e3.trans e4)⟩) fun v u B3 H3 e3 ⟨z, hv, hs⟩ ⟨z2, hu, hs2⟩ e4 => ?ge)) (et_test (ev_neDP (l := b.xor A1 A2) sxor ((evp_xorIns (⟨y1, y2, b.seenF O, b.xor A1 O, b.xor A2 O⟩ : DSS) (ev_var v6) (ev_var v7) iy1 iy2 ⟨rfl, s1, s2⟩).imp fun v B3 _ ⟨z, hz, hs⟩ => ⟨z, hz, by rw [← exor]; exact hs⟩) fun B3 e3 => evp_xorIns (⟨a1, a2, b, A1, A2⟩ : DSS) (ev_var v3) (ev_var v4) (e3 _ _ ia1) (e3 _ _ ia2) ⟨rfl, h11.up e3, h21.up e3⟩))) fun H3 e3 => ?_
  case ge =>
    subst hv hu
    exact RS.di (hs.up e4) (hs2.up e4) rfl
  have hB3 := hB2.trans e3
  have l1 : A1.length ≤ 1000 := Nat.le_trans (pick_len n.ok p1) (by decide)
  have l2 : A2.length ≤ 1000 := Nat.le_trans (pick_len n.ok p2) (by decide)
  have lx : ∀ S : List Str, (b.xor S O).length ≤ 1000 := fun S => Nat.le_trans (List.length_filter_le _ _) (Nat.le_trans n.ok.most (by decide))
  have ebt : btwB (b.xor A1 O) (b.xor A2 O) (b.xor A3 O) = btwB A1 A2 A3 := btw_xor h1.ok h2.ok h3.ok
  refine q_skip hB3 (et_test (ev_neS0 (ev_cb (ea_cons (evp_meth (⟨y1, y2, y3, b.seenF O, b.xor A1 O, b.xor A2 O, b.xor A3 O⟩ : D3S) (ev_var v6) iy1 rfl (ea_cons (ev_var v7) (ea_cons (ev_var v8) ea_nil)) ⟨rfl, s1, s2, s3, lx _, lx _⟩).v ea_nil) fun H4 e4 Q q => ⟨_, rfl, q H4 (Ex.refl H4)⟩) (ev_cb (ea_cons (evp_meth (⟨a1, a2, a3, b, A1, A2, A3⟩ : D3S) (ev_var v3) ia1 rfl (ea_cons (ev_var v4) (ea_cons (ev_var v5) ea_nil)) ⟨rfl, h11, h21, h31, l1, l2⟩).v ea_nil) fun H4 e4 Q q => ⟨_, rfl, q H4 (Ex.refl H4)⟩) (by show (if btwB (b.xor A1 O) (b.xor A2 O) (b.xor A3 O) = true then _ else _) = _; rw [ebt]))) fun H4 e4 => ?_
  have hB4 := hB3.trans e4
  -- and back
  have hback : ∀ (y : Addr) (A : List Str) (B2 : Hp), b.pick A = A → StAt K B2 y ((b.seenF O).seenF O) ((b.seenF O).xor (b.xor A O) O) → StAt K B2 y ((b.seenF O).seenF O) A := fun y A B2 e h => by
    have : (b.seenF O).xor (b.xor A O) O = A := (xor_back (b := b)).trans e
    rw [this] at h
    exact h
  refine s_retP hB4 (ev_p (v := .bl true) (EvP.v (evp_op (P := fun v B => ∃ p z1 z2 z3, v = .ref p ∧ B p = some (.lst [.ref z1, .ref z2, .ref z3]) ∧ StAt K B z1 ((b.seenF O).seenF O) A1 ∧ StAt K B z2 ((b.seenF O).seenF O) A2 ∧ StAt K B z3 ((b.seenF O).seenF O) A3) (R := fun v _ => v = .ref l) (S := fun w _ => w = .bl true) (fun _ _ _ e ⟨p, z1, z2, z3, h1, h2, h3, h4, h5⟩ => ⟨p, z1, z2, z3, h1, e _ _ h2, h3.up e, h4.up e, h5.up e⟩) (evp_lcP (eip_tup (xs := [.ref y1, .ref y2, .ref y3]) ((eu_p (eu_tup (ea_cons (ev_var v6) (ea_cons (ev_var v7) (ea_cons (ev_var v8) ea_nil))) (by show 3 ≤ 100000; decide))).imp fun v B5 _ ⟨p, hv, hp⟩ => ⟨p, hv, st_of hp⟩)) fun J B5 e5 ⟨tp, hJ, htp⟩ => ?gf) (fun B5 e5 => ev_p (ev_var v1)) fun v u B5 H5 e5 ⟨z, z1, z2, z3, hv, hz, k1, k2, k3⟩ hu e6 Q q => ?gg))) fun v B5 H5 g5 h5 => q v B5 H5 ((g1.up ((e2.trans e3).trans e4)).trans g5) h5
  case gf =>
    subst hJ
    have hwt := walk_T htp
    have hc := evp_lcY (te := tCall (sp_seen K) [] L2.E0 (tCons (tVar 9) (tCons (tVar 2) tNil))) (wi := fun _ H R => R (Itt K tp) H) (g := gName 9) (vs := [9]) (σ := σ1) (B := B5) (l := [(y1, A1), (y2, A2), (y3, A3)]) (P := fun z v B => ∃ y, v = .ref y ∧ StAt K B y ((b.seenF O).seenF O) z.2) (st := fun z => [some (.ref o), some (.ref l), some (.ref k), some (.ref a1), some (.ref a2), some (.ref a3), some (.ref y1), some (.ref y2), some (.ref y3), some (.ref z.1)]) (by show 3 ≤ 90000; decide) ei_at hwt (fun _ e => e) (by rw [← hσ]; exact bnd_map (l := [(y1, A1), (y2, A2), (y3, A3)]) (f := fun z => V.ref z.1)) (fun _ _ => by rw [← hσ]; rfl) (fun z _ v H H' e ⟨y, h1, h2⟩ => ⟨y, h1, h2.up e⟩) fun z hz => (seen_evp n' (S := b.xor z.2 O) (O := O) (ea_p (ea_cons (ev_var rfl) (ea_cons (ev_var rfl) ea_nil))) fun vs B6 e6 hv => ⟨z.1, k, hv, ?gh, hk1.up (e5.trans e6)⟩).imp fun v B6 _ ⟨y, hv, hs⟩ => ⟨y, hv, hback y z.2 B6 ?gi hs⟩
    case gh =>
      simp only [List.mem_cons, List.not_mem_nil, or_false] at hz
      rcases hz with rfl | rfl | rfl
      · exact s1.up (e5.trans e6)
      · exact s2.up (e5.trans e6)
      · exact s3.up (e5.trans e6)
    case gi =>
      simp only [List.mem_cons, List.not_mem_nil, or_false] at hz
      rcases hz with rfl | rfl | rfl
      · exact p1
      · exact p2
      · exact p3
    refine hc.imp fun v B6 _ ⟨pz, zs, hv, hp, hzs⟩ => ?_
    cases hzs with
    | cons r1 hzs =>
    cases hzs with
    | cons r2 hzs =>
    cases hzs with
    | cons r3 hzs =>
    cases hzs
    obtain ⟨z1, rfl, t1⟩ := r1
    obtain ⟨z2, rfl, t2⟩ := r2
    obtain ⟨z3, rfl, t3⟩ := r3
    exact ⟨pz, z1, z2, z3, hv, hp, t1, t2, t3⟩
  case gg =>
    subst hv hu
    have ek : ((b.seenF O).seenF O).key = b.key := (seen_back n ho.ok).key
    refine ⟨⟨z, l, _, _, rfl, rfl, e6 _ _ hz, e6 _ _ (e5 _ _ hl1), Prs.cons (RS.di (k1.up e6) (h11.up (e5.trans e6)) ek) (Prs.cons (RS.di (k2.up e6) (h21.up (e5.trans e6)) ek) (Prs.cons (RS.di (k3.up e6) (h31.up (e5.trans e6)) ek) Prs.nil))⟩, fun H' e' => q _ B5 H' (Gr.ex e6 e') rfl⟩
end
end NP
end

section
set_option maxHeartbeats 4000000
namespace NP
open PySem PySem.Spec PyProof.Rows L2 Evl LamX
/-! ### a heap without its tables -/
def ntp (H : Hp) : Hp := fun x => match H x with
  | some (.tbl _) => none
  | o => o
theorem ntp_le {H : Hp} : Evl.Ex (ntp H) H := fun a o h => by
  unfold ntp at h
  split at h
  · cases h
  · exact h
theorem ntp_nt {H : Hp} : NT (ntp H) := fun a ps h => by
  unfold ntp at h
  split at h
  · cases h
  · rename_i hn
    exact hn _ h
theorem ntp_ext {H : Hp} : ExtN H (ntp H) := fun a o h hn => by
  unfold ntp
  rw [h]
  cases o <;> first | rfl | exact absurd rfl (hn _)
theorem ntp_ex {B H : Hp} (n : NT B) (e : Evl.Ex B H) : Evl.Ex B (ntp H) := nt_ext n e ntp_ext
section
variable {K : PySem.W.Frag} {H H1 : Hp}
theorem sqt_n {a : Addr} {xs : List V} (e : ExtN H H1) (h : SqT K H a xs) : SqT K H1 a xs := by
  rcases h with h | h
  · refine .inl ?_
    rcases h with h | ⟨o, h⟩
    · exact .inl (e _ _ h fun _ z => nomatch z)
    · exact .inr ⟨o, e _ _ h fun _ z => nomatch z⟩
  · exact .inr h
theorem sql_n {a : Addr} {xs : List V} (e : ExtN H H1) (h : SqL K H a xs) : SqL K H1 a xs := by
  rcases h with h | h
  · refine .inl ?_
    rcases h with h | ⟨o, h⟩
    · exact .inl (e _ _ h fun _ z => nomatch z)
    · exact .inr ⟨o, e _ _ h fun _ z => nomatch z⟩
  · exact .inr h
mutual
theorem dp_n (e : ExtN H H1) : ∀ {v : V} {d : PyData}, Dp K H v d → Dp K H1 v d
  | _, _, .non => .non
  | _, _, .bl b => .bl b
  | _, _, .int i => .int i
  | _, _, .str x => .str x
  | _, _, .lst h1 h2 => .lst (sql_n e h1) (dpAll_n e h2)
  | _, _, .tup h1 h2 => .tup (sqt_n e h1) (dpAll_n e h2)
theorem dpAll_n (e : ExtN H H1) : ∀ {v : List V} {d : List PyData}, DpAll K H v d → DpAll K H1 v d
  | _, _, .nil => .nil
  | _, _, .cons h1 h2 => .cons (dp_n e h1) (dpAll_n e h2)
end
theorem BdAt.n {a : Addr} {b : Bd} (e : ExtN H H1) (h : BdAt K H a b) : BdAt K H1 a b := by
  obtain ⟨ok, dx, o, pr, rw, cs, ky, h1, h2, h3, ⟨rs, h4, h5⟩, h6, h7⟩ := h
  exact ⟨ok, dx, o, pr, rw, cs, ky, e _ _ h1 (fun _ z => nomatch z), sqt_n e h2, e _ _ h3 (fun _ z => nomatch z), ⟨rs, e _ _ h4 (fun _ z => nomatch z), paired_imp (fun _ _ ⟨q, z1, z2⟩ => ⟨q, z1, sqt_n e z2⟩) h5⟩, dp_n e h6, dp_n e h7⟩
theorem TupPairs.n {a : Addr} {l : List (Str × Str)} (e : ExtN H H1) (h : TupPairs K H a l) : TupPairs K H1 a l := let ⟨xs, h1, h2⟩ := h; ⟨xs, sqt_n e h1, paired_imp (fun _ _ ⟨p, z1, z2⟩ => ⟨p, z1, sqt_n e z2⟩) h2⟩
theorem PartsAt.n {a : Addr} {d : Parts} (e : ExtN H H1) (h : PartsAt K H a d) : PartsAt K H1 a d := let ⟨p, n, b, c, h1, h2, h3, h4, h5⟩ := h; ⟨p, n, b, c, sqt_n e h1, sqt_n e h2, h3.n e, h4.n e, sqt_n e h5⟩
theorem tabs_x {T : List (Addr × Str)} {x : Addr} {n : Nat} {B B1 : Hp} (t : Tabs T H) (hb : Box x n H) (g : GrX x B H B1 H1) : Tabs T H1 := fun p hp => by
  obtain ⟨a, b, c, hx, _⟩ := hb
  obtain ⟨ps, h1, h2, h3⟩ := t p hp
  refine ⟨ps, g.h _ _ (fun z => by rw [z, hx] at h1; cases h1) h1, h2, fun pos cv hc => ?_⟩
  obtain ⟨c', e1, e2⟩ := h3 pos cv hc
  exact ⟨c', e1, g.h _ _ (fun z => by rw [z, hx] at e2; cases e2) e2⟩
/-- f(e, ..), f an instance: no block in sight -/
def tCallI (C : Addr) (sp : Sp) (E : XK) (tf : TE) (t : TA) : TE := fun σ H Q => tf σ H fun y H1 => ∃ a, y = V.ref a ∧ t σ H1 fun vs H2 => ((∃ dx vs, SlX.Slt H2 a C dx vs) ∨ ∃ dx fs, H2 a = some (.ins C dx fs)) ∧ sp (V.ref a :: vs) H2 Q E
theorem pe_callI {X : Cx} {CX : CXT} {C g : Addr} {k : Nat} {sp : Sp} {E : XK} {fe e : Expr} {es : List Expr} {tf : TE} {t : TA} {pos : Pos} (hf : PE X fe tf) (c : StX.CallO X.K C g) (F : FnR X.prog X.w X.K X.mg X.base CX k g sp) (hr : Room k X.A) (hx : Passes CX X E) (ha : PA X (e :: es) t)
    (ht : eval (.Call fe (e :: es) [] pos) X.env = (do callWith pos (← eval fe X.env) [] (backTo pos (starEach (e :: es) X.env)) (backToKw pos (keywordEach [] X.env))) := by rfl)
    (he : starEach (e :: es) X.env = (false, eval e X.env) :: starEach es X.env := by rfl) (hpl : (backTo pos (starEach es X.env)).any (·.1) = false := by rfl) : PE X (.Call fe (e :: es) [] pos) (tCallI C sp E tf t) := StX.pe_callO hf c F hr hx ha ht he hpl
theorem evx_callO {σ : L2.St} {B : Hp} {te : TE} {t : TA} {E : XK} {x : Addr} {m m1 : Nat} {δ : Type} {pre : δ → List V → Hp → Prop} {post : δ → V → Hp → Prop} {C : Addr} {a dx : Addr} {fs : List (Str × V)} {R : List V → Hp → Prop} {P : V → Hp → Prop} (ho : Ev te σ B (.ref a)) (hi : B a = some (.ins C dx fs)) (h : EaX x t σ B m m1 R)
    (hp : ∀ vs B1, Evl.Ex B B1 → R vs B1 → ∃ d, pre d (.ref a :: vs) B1 ∧ ∀ v B2, Evl.Ex B1 B2 → post d v B2 → P v B2) : EvX x (tCallI C (Prm pre post) E te t) σ B m m1 P := fun H1 e hn hb Q q => ho H1 e _ fun H2 e2 => ⟨a, rfl, h H2 (e.trans e2) hn (hb.ex e2) _ fun vs B3 H3 g3 b3 r => ⟨.inr ⟨dx, fs, g3.bh _ _ (g3.b _ _ hi)⟩, by
  obtain ⟨d, p1, p2⟩ := hp vs B3 g3.b r
  exact ⟨d, B3, g3.bh, p1, fun v B' H' g p => q v B' H' ((((GrX.refl e hb.ne).up e2).trans g3).trans (g.toX b3.ne)) (b3.ex g.h) (p2 v B' g.b p)⟩⟩⟩
/-- a stand drawn -/
theorem stand_evx {σ : L2.St} {B : Hp} {E E' : XK} {x pt bd : Addr} {m : Nat} {d : Parts} (v2 : σ[2]? = some (some (.ref x))) (v3 : σ[3]? = some (some (.ref pt))) (v4 : σ[4]? = some (some (.ref bd))) (hd : PartsAt K B pt d) (g : PartsG d) (hb : BdAt K B bd d.bd) (hm : m ≤ 800000) :
    EvX x (tCallI (CB K) (sp_Bcall K) E (tVar 4) (tCons (tCall (sp_l_some_stand K) [] E' (tCons (tVar 2) (tCons (tVar 3) tNil))) tNil)) σ B m (m + 20) fun v B => ∃ o O, v = .ref o ∧ StAt K B o d.bd O ∧ d.bd.pick O = O := by
  obtain ⟨_, dx, _, _, _, _, _, hins, _⟩ := id hb
  refine evx_callO (R := fun vs B => ∃ t R, vs = [.ref t] ∧ SqT K B t ((d.bd.pick R).map V.str) ∧ isStand d.N d.Bs R = true ∧ ∀ p ∈ R, p ∈ d.L) (ev_var v4) hins ((eax_cons (P := fun v B => ∃ t R, v = .ref t ∧ SqT K B t ((d.bd.pick R).map V.str) ∧ isStand d.N d.Bs R = true ∧ ∀ p ∈ R, p ∈ d.L) (fun _ _ _ e ⟨t, R, h1, h2, h3⟩ => ⟨t, R, h1, ex_t e h2, h3⟩) (evx_call (n1 := m) (eax_p (ea_p (ea_cons (ev_var v2) (ea_cons (ev_var v3) ea_nil)))) fun ws B1 e1 hw => ⟨⟨x, m, pt, d⟩, rfl, rfl, Nat.le_refl _, ⟨hw, hd.ex e1, g.ok, hm⟩, fun v B2 _ h => h⟩) fun _ _ => eax_nil).imp fun vs B1 e1 ⟨u, us, w1, ⟨t, R, hv, h⟩, w2⟩ => ⟨t, R, by rw [w1, hv, w2], h⟩) fun vs B1 e1 ⟨t, R, hv, ht, hs, hsub⟩ => ?_
  have st : StOk d.bd R := st_of_isStand g.nice.good hs hsub
  have st2 : StOk d.bd (d.bd.pick R) := st.congr fun p => by
    unfold Bd.pick
    rw [List.mem_filter, decide_eq_true_eq]
    exact ⟨fun h => h.2, fun h => ⟨hsub p h, h⟩⟩
  refine ⟨⟨bd, d.bd, t, d.bd.pick R⟩, ⟨by rw [hv], hb.up e1, sqs_t ht, fun p hp => (List.mem_filter.mp hp).1, by show StOk d.bd (d.bd.pick (d.bd.pick R)); rw [pick_pick]; exact st2⟩, fun v B2 _ ⟨o, h1, h2⟩ => ⟨o, _, h1, h2, by show d.bd.pick (d.bd.pick (d.bd.pick R)) = _; rw [pick_pick]⟩⟩
theorem ev_neDPv {σ : L2.St} {B : Hp} {ta tb : TE} {l : List Str} (so : ∀ s ∈ l, PyData.strOk s = true) (ha : EvP ta σ B fun v B => ∃ t, v = .ref t ∧ SqT K B t (l.map V.str)) (hb : ∀ B1, Evl.Ex B B1 → EvP tb σ B1 fun v B => ∃ t, v = .ref t ∧ SqT K B t (l.map V.str)) : Ev (tOp (rNeD K) ta tb) σ B (.bl false) := ev_neDP so ha hb
end
section
variable {P : Program} {w : World} {K : PySem.W.Frag} {mg : Str → Option Value} {base : Heap}
def sp_law (K : PySem.W.Frag) : Sp := fun vs H Q _ => ∃ (a : Addr) (ns : List Int), vs = [.ref a] ∧ SqL K H a (ns.map V.int) ∧ ns.length ≤ 63 ∧ Tabs (lamT K) H ∧ ∀ H', Q (.bl true) H'
theorem fn_law (F : Facts K mg) (TB : TabB base mg (He.cT K mrD).1 (He.cT K mrD).2) {fd : FuncData} (D : FunD K "law" "law" (defArgs s_law) (defBody s_law) (defScope s_law) [] [] (He.fAd K ("law", none)) fd) : FnOk P w K mg base L2.CX0 10 (He.fAd K ("law", none)) fd ["_law_script"] (sp_law K) := by
  have c_l_box := c_l_box (P := P) (w := w) (base := base) F
  have c_l_parts := c_l_parts (P := P) (w := w) (base := base) F
  have c_l_board := c_l_board (P := P) (w := w) (base := base) F
  have c_l_some_stand := c_l_some_stand (P := P) (w := w) (base := base) F
  have c_B_callR := c_B_callR (P := P) (w := w) (base := base) F
  have c_seen := c_seen (P := P) (w := w) (base := base) F
  have c_seen_from := c_seen_from (P := P) (w := w) (base := base) F
  have c_B_empty := c_B_empty (P := P) (w := w) (base := base) F
  have c_B_eq := c_B_eq (P := P) (w := w) (base := base) F
  have c_S_eq := c_S_eq (P := P) (w := w) (base := base) F
  have c_S_pegs := c_S_pegs (P := P) (w := w) (base := base) F
  have c_l_right := c_l_right (P := P) (w := w) (base := base) F
  have c_B_count_stands := c_B_count_stands (P := P) (w := w) (base := base) F TB
  have c_l_sets := c_l_sets (P := P) (w := w) (base := base) F
  refine D.ok sc_law (fun vs H Q E ⟨a, ns, e, _⟩ => by rw [e]; rfl) fun cdv A outer s H vs Q E hr h => ⟨_, PSs.nox ((pss_cons (ps_for PassesOwn.never rfl (pi_range1 rfl F.f_range (pa_cons (pe_callB (call_max2 rfl) rfl F.f_max (by decide +kernel) (pa_cons pe_int (pa_cons (pe_callB (call_min2 rfl) rfl F.f_min (by decide +kernel) (pa_cons pe_int (pa_cons (pe_callB (call_len_k (K := K) rfl) rfl F.f_len (by decide +kernel) (pa_cons (pv 0) pa_nil)) pa_nil))) pa_nil))) pa_nil)) (pg_name (i := 1) sc_law.nd rfl (by first | exact .inl rfl | exact .inr rfl)) (pss_cons (ps_set (i := 2) sc_law.nd rfl (by first | exact .inl rfl | exact .inr rfl) (pe_cal c_l_box hr (by decide) rfl (pa_cons (pv 0) (pa_cons (pv 1) pa_nil))))
      (pss_cons (ps_set (i := 3) sc_law.nd rfl (by first | exact .inl rfl | exact .inr rfl) (pe_cal c_l_parts hr (by decide) rfl (pa_cons (pv 2) (pa_cons pe_int pa_nil))))
      (pss_cons (ps_set (i := 4) sc_law.nd rfl (by first | exact .inl rfl | exact .inr rfl) (pe_cal c_l_board hr (by decide) rfl (pa_cons (pv 3) pa_nil)))
      (pss_cons (ps_for PassesOwn.never rfl (pi_range1 rfl F.f_range (pa_cons pe_int pa_nil)) (pg_name (i := 5) sc_law.nd rfl (by first | exact .inl rfl | exact .inr rfl)) (pss_cons (ps_set (i := 6) sc_law.nd rfl (by first | exact .inl rfl | exact .inr rfl) (pe_callI (pv 4) F.callB c_B_callR (hr.mono (by decide)) L2.pass0 (pa_cons (pe_cal c_l_some_stand hr (by decide) rfl (pa_cons (pv 2) (pa_cons (pv 3) pa_nil))) pa_nil)))
      (pss_cons (ps_par (i := 7) (j := 8) rfl sc_law.nd rfl rfl (by decide) rfl rfl (pa_cons (pe_cal c_seen_from hr (by decide) rfl (pa_cons (pv 6) pa_nil)) (pa_cons (pe_cal c_seen hr (by decide) rfl (pa_cons (pe_calG c_B_empty (pv 4) F.clsB hr (by decide)) (pa_cons (pv 6) pa_nil))) pa_nil)) (sw_par rfl rfl rfl rfl (by decide +kernel) (fun _ _ h => nomatch h) (fun _ _ h => nomatch h) rfl rfl))
      (pss_cons (ps_if (PW.pt (pw_or (pt_cmpR (op_neIns c_B_eq F.eqB F.neB hr (by decide)) (pe_cal c_seen_from hr (by decide) rfl (pa_cons (pv 8) pa_nil)) (pv 4) (nomark _)) (pw_or (pt_cmpR (op_neIns c_S_eq F.eqS F.neS hr (by decide)) (pe_cal c_seen hr (by decide) rfl (pa_cons (pv 6) (pa_cons (pv 6) pa_nil))) (pe_calG c_B_empty (pv 7) F.clsB hr (by decide)) (nomark _)) (pw_or1 (pt_cmpR (op_neD_k (K := K) rfl hr.units) (pe_calG c_S_pegs (pv 8) F.clsS hr (by decide)) (pe_calG c_S_pegs (pv 6) F.clsS hr (by decide)) (nomark _)))))) (pss_one (ps_ret pe_bl)) pss_nil)
      (pss_one (ps_for PassesOwn.never rfl (pi_range1 rfl F.f_range (pa_cons pe_int pa_nil)) (pg_name (i := 9) sc_law.nd rfl (by first | exact .inl rfl | exact .inr rfl)) (pss_cons (ps_setLc (i := 10) rfl sc_law.nd rfl rfl (sw_true rfl rfl rfl (by decide +kernel)) (pi_range1 rfl F.f_range (pa_cons pe_int pa_nil)) (blkOk_by (own := [("_law_j", 11)]) (N := N_law) (sc := defScope s_law) (by decide +kernel)) (fun _ _ _ _ _ => (pg_name (i := 11) sc_law.nd rfl (by first | exact .inl rfl | exact .inr rfl))) (fun _ _ _ _ _ => pts_nil) (fun _ _ _ _ _ => (pe_callI (pv 4) F.callB c_B_callR (hr.mono (by decide)) L2.pass0 (pa_cons (pe_cal c_l_some_stand hr (by decide) rfl (pa_cons (pv 2) (pa_cons (pv 3) pa_nil))) pa_nil))))
      (pss_one (ps_if (pt_not (pt_val (pe_cal c_l_right hr (by decide) rfl (pa_cons (pv 6) (pa_cons (pv 10) (pa_cons (pv 8) pa_nil)))))) (pss_one (ps_ret pe_bl)) pss_nil)))))))))
      (pss_one (ps_if (PW.pt (pw_and (pt_cmpR op_lt (pe_callB (call_len_k (K := K) rfl) rfl F.f_len (by decide +kernel) (pa_cons (pe_ix (ix_tup_k (K := K) rfl) (pv 3) pe_int (fun _ _ => rfl)) pa_nil)) pe_int (nomark _)) (pw_and1 (pt_cmpR op_ne (pe_calM0 c_B_count_stands (pe_cal c_seen_from hr (by decide) rfl (pa_cons (pv 6) pa_nil)) F.clsB hr (by decide)) (pe_callB (call_len_k (K := K) rfl) rfl F.f_len (by decide +kernel) (pa_cons (pe_cal c_l_sets hr (by decide) rfl (pa_cons (pv 3) pa_nil)) pa_nil)) (nomark _))))) (pss_one (ps_ret pe_bl)) pss_nil)))))))
      (pss_one (ps_ret pe_bl)))), ?_⟩
  obtain ⟨a, ns, rfl, ha, hns, hT, q⟩ := h
  have haB : SqL K (ntp H) a (ns.map V.int) := sql_n ntp_ext ha
  have hNB : NT (ntp H) := ntp_nt
  have hBH : Evl.Ex (ntp H) H := ntp_le
  generalize ntp H = B at haB hNB hBH
  have hrange : ∃ z : Nat, z ≤ 4 ∧ Ev (tCB (fun xs H Q => ∃ i j, xs = [.int i, .int j] ∧ Q (.int (if j > i then j else i)) H) (tCons (tC (.int 2)) (tCons (tCB (fun xs H Q => ∃ i j, xs = [.int i, .int j] ∧ Q (.int (if j < i then j else i)) H) (tCons (tC (.int 4)) (tCons (tCB (rLn K) (tCons (tVar 0) tNil)) tNil))) tNil))) (L2.start N_law [.ref a]) B (.int (z : Nat)) := by
    have hl := ev_lenSq (K := K) (ta := tVar 0) (σ := L2.start N_law [.ref a]) (B := B) (ev_var rfl) (sqs_l haB)
    rw [List.length_map] at hl
    refine ⟨max 2 (min 4 ns.length), by omega, ev_is (ev_cb (ea_cons ev_c (ea_cons (ev_cb (ea_cons ev_c (ea_cons hl ea_nil)) fun H2 e2 Q q => ⟨_, _, rfl, q H2 (Evl.Ex.refl H2)⟩) ea_nil)) fun H2 e2 Q q => ⟨_, _, rfl, q H2 (Evl.Ex.refl H2)⟩) ?_⟩
    congr 1
    split <;> split <;> omega
  obtain ⟨z, hz4, hrg⟩ := hrange
  refine q_for (B := B) hBH (ei_range1 (n := z) (ea_cons hrg ea_nil) (by omega)) (walk_range (lo := 0) (n := z)) (fun i σ' H' => ∃ s1 s2 s3 s4 s5 s6 s7 s8 s9 s10, σ' = [some (.ref a), s1, s2, s3, s4, s5, s6, s7, s8, s9, s10, none] ∧ Evl.Ex B H' ∧ Tabs (lamT K) H')
    (fun H1 e1 => ⟨none, none, none, none, none, none, none, none, none, none, rfl, hBH.trans e1, hT.ext e1⟩) (fun i σ' H' _ _ => trivial) (fun i y σ' H1 H1' hlt ⟨s1, s2, s3, s4, s5, s6, s7, s8, s9, s10, hσ, hB1, hT1⟩ hy => ?_) fun σ' H1 ⟨s1, s2, s3, s4, s5, s6, s7, s8, s9, s10, hσ, hB1, hT1⟩ => ?_
  · subst hσ
    obtain ⟨rfl, rfl⟩ := hy
    -- the box
    refine ⟨.ref a, rfl, .int (0 + (i : Nat)), rfl, a, ns, i, by rw [Int.zero_add]; rfl, by omega, by omega, ex_l hB1 haB, fun x H2 hx e2 hb2 => ?_⟩
    have hBx : B x = none := fresh_back hB1 hx
    have hB2 := hB1.trans e2
    have hT2 := hT1.ext e2
    -- the parts
    refine q_asgX (x := x) (n := 0) (n1 := 300) hB2 hBx hb2 (P := fun v B => ∃ t p, v = .ref t ∧ PartsAt K B t p ∧ PartsG p) (evx_call (n1 := 0) (eax_p (ea_p (ea_cons (ev_var rfl) (ea_cons ev_c ea_nil)))) fun ws B1 e1 hw => ⟨⟨x, 0⟩, rfl, rfl, by show 0 + 300 ≤ 300; decide, ⟨hw, by show 0 ≤ 500000; decide⟩, fun v B2 _ h => h⟩) fun v B3 H3 g3 hn3 b3 ⟨pt, d, hv, hd, G⟩ => ?_
    subst hv
    have hT3 := tabs_x hT2 hb2 g3
    -- the board
    refine q_asgP g3.bh (evp_call (⟨pt, d⟩ : DPt) (ea_cons (ev_var rfl) ea_nil) ⟨rfl, hd, G.pre⟩) fun v B4 H4 g4 ⟨bd, hv, hb⟩ => ?_
    subst hv
    have hb : BdAt K B4 bd d.bd := hb
    have hd4 := hd.ex g4.b
    have hT4 := hT3.ext g4.h
    have b4 := b3.ex g4.h
    have hn4 : B4 x = none := g4.av x b3.ne hn3
    have hBB4 := g3.b.trans g4.b
    have n := G.nice
    have hL : d.bd.pegs = d.L := rfl
    -- the origins
    refine q_for (B := B4) g4.bh (ei_range1 (n := 4) (ea_cons ev_c ea_nil) (by decide)) (walk_range (lo := 0) (n := 4)) (fun j σ' H' => ∃ Bj s5 s6 s7 s8 s9 s10, σ' = [some (.ref a), some (.int (0 + (i : Nat))), some (.ref x), some (.ref pt), some (.ref bd), s5, s6, s7, s8, s9, s10, none] ∧ GrX x B4 H4 Bj H' ∧ Box x (300 + 300 * j) H' ∧ (0 < j → ∃ o O, s6 = some (.ref o) ∧ StAt K Bj o d.bd O))
      (fun H5 e5 => ⟨B4, s5, s6, s7, s8, s9, s10, rfl, (GrX.refl g4.bh b4.ne).up e5, b4.ex e5, fun h => absurd h (by decide)⟩) (fun j σ' H' _ _ => trivial) (fun j y σ' H5 H5' hlt ⟨Bj, s5, s6, s7, s8, s9, s10, hσ, gj, bj, _⟩ hy => ?_) fun σ' H5 ⟨Bj, s5, s6, s7, s8, s9, s10, hσ, gj, bj, hor⟩ => ?_
    · subst hσ
      obtain ⟨rfl, rfl⟩ := hy
      have hnj := gj.none_ b4.ne hn4
      have hdj := hd4.ex gj.b
      have hbj := hb.up gj.b
      refine q_asgX (x := x) (n := 300 + 300 * j) (n1 := 300 + 300 * j + 20) gj.bh hnj bj (stand_evx (K := K) (m := 300 + 300 * j) rfl rfl rfl hdj G hbj (by omega)) fun v B6 H6 g6 hn6 b6 ⟨o, O, hv, ho, hO⟩ => ?_
      subst hv
      have g46 := gj.trans g6
      have hb6 := hb.up g46.b
      have hd6 := hd4.ex g46.b
      obtain ⟨_, dbx, _, _, _, _, _, hins6, _⟩ := id hb6
      -- seen from it, and its image of the empty stand
      refine q_parX (x := x) (n := 300 + 300 * j + 20) (n1 := 300 + 300 * j + 20) g46.bh hn6 b6 (R := fun ws B => ∃ ot bk, ws = [.ref ot, .ref bk] ∧ BdAt K B ot (d.bd.seenF O) ∧ StAt K B bk (d.bd.seenF O) O) (eax_p ((eap_cons (P := fun v B => ∃ y, v = .ref y ∧ BdAt K B y (d.bd.seenF O)) (fun _ _ _ e ⟨y, h1, h2⟩ => ⟨y, h1, h2.up e⟩) (evp_call (⟨o, d.bd, O⟩ : DS1) (ea_cons (ev_var rfl) ea_nil) ⟨rfl, ho, seen_ok n O⟩) fun B7 e7 => eap_cons (P := fun v B => ∃ y, v = .ref y ∧ StAt K B y (d.bd.seenF O) (d.bd.xor [] O)) (fun _ _ _ e ⟨y, h1, h2⟩ => ⟨y, h1, h2.up e⟩) (seen_evp n (R := fun vs B => ∃ z, vs = [.ref z, .ref o] ∧ StAt K B z d.bd []) ((eap_cons (P := fun v B => ∃ z, v = .ref z ∧ StAt K B z d.bd []) (fun _ _ _ e ⟨y, h1, h2⟩ => ⟨y, h1, h2.up e⟩) (evp_prop (bd, d.bd) (ev_var rfl) (e7 _ _ hins6) ⟨rfl, hb6.up e7⟩) fun B8 e8 => eap_cons (P := fun v _ => v = .ref o) mon_eq (ev_p (ev_var rfl)) fun _ _ => eap_nil).imp fun vs B8 e8 ⟨u1, us, w1, ⟨z, hz, hs⟩, u2, us2, w2, hu2, w3⟩ => ⟨z, by rw [w1, hz, w2, hu2, w3], hs⟩) fun vs B8 e8 ⟨z, hv, hs⟩ => ⟨z, o, hv, hs, ho.up (e7.trans e8)⟩) fun _ _ => eap_nil).imp fun ws B7 e7 ⟨u1, us, w1, ⟨ot, hv1, h1⟩, u2, us2, w2, ⟨bk, hv2, h2⟩, w3⟩ => ⟨ot, bk, by rw [w1, hv1, w2, hv2, w3], h1, by rw [xor_nil, hO] at h2; exact h2⟩)) fun ws B7 H7 g7 hn7 b7 ⟨ot, bk, hw, hot, hbk⟩ => ?_
      subst hw
      refine ⟨_, _, rfl, ?_⟩
      have g47 := g46.trans g7
      have ho7 := ho.up g7.b
      have hb7 := hb6.up g7.b
      have hd7 := hd6.ex g7.b
      obtain ⟨_, dox, _, _, _, _, _, iot, _⟩ := id hot
      obtain ⟨_, dbk, _, _, ibk, _⟩ := id hbk
      obtain ⟨_, doo, _, _, ioo, _⟩ := id ho7
      have hstb : StOk d.bd O := ho.ok
      have ek : ((d.bd.seenF O).seenF O).key = d.bd.key := (seen_back n hstb).key
      have hOs : ∀ z ∈ O, PyData.strOk z = true := fun z hz => n.ok.so z (hstb.sub z hz)
      have n' := seen_nice n O
      -- the first three questions
      refine q_skip g47.bh (et_or2 (et_test (ev_neInsP (C := CB K) (R := RB K) (P1 := fun v B => ∃ y, v = .ref y ∧ BdAt K B y ((d.bd.seenF O).seenF O)) (P2 := fun v _ => v = .ref bd) (fun _ _ _ e ⟨y, h1, h2⟩ => ⟨y, h1, h2.up e⟩) (evp_call (⟨bk, d.bd.seenF O, O⟩ : DS1) (ea_cons (ev_var rfl) ea_nil) ⟨rfl, hbk, seen_ok n' O⟩) (fun B8 e8 => ev_p (ev_var rfl)) fun v u B8 H8 e8 ⟨y, hv, hy⟩ hu e9 => ?gq1)) (et_or2 (et_test (ev_neInsP (C := CS K) (R := RS K) (P1 := fun v B => ∃ y, v = .ref y ∧ StAt K B y (d.bd.seenF O) (d.bd.xor O O)) (P2 := fun v B => ∃ y, v = .ref y ∧ StAt K B y (d.bd.seenF O) []) (fun _ _ _ e ⟨y, h1, h2⟩ => ⟨y, h1, h2.up e⟩) (seen_evp n (ea_p (ea_cons (ev_var rfl) (ea_cons (ev_var rfl) ea_nil))) fun vs B8 e8 hv => ⟨o, o, hv, ho7.up e8, ho7.up e8⟩) (fun B8 e8 => evp_prop (ot, d.bd.seenF O) (ev_var rfl) (e8 _ _ iot) ⟨rfl, hot.up e8⟩) fun v u B8 H8 e8 ⟨y, hv, hy⟩ ⟨y2, hu, hy2⟩ e9 => ?gq2)) (et_test (ev_neDP (l := O) hOs (evp_prop (⟨bk, d.bd.seenF O, O⟩ : DS1) (ev_var rfl) ibk ⟨rfl, hbk⟩) fun B8 e8 => evp_prop (⟨o, d.bd, O⟩ : DS1) (ev_var rfl) (e8 _ _ ioo) ⟨rfl, ho7.up e8⟩)))) fun H8 e8 => ?gq3
      case gq1 =>
        subst hv hu
        exact RB.di (hy.up e9) (hb7.up (e8.trans e9)) ek
      case gq2 =>
        subst hv hu
        rw [xor_self] at hy
        exact RS.di (hy.up e9) (hy2.up e9) rfl
      -- the stands
      have g48 := g47.up e8
      have b8 := b7.ex e8
      refine s_for (B := B7) g48.bh (ei_range1 (n := 4) (ea_cons ev_c ea_nil) (by decide)) (walk_range (lo := 0) (n := 4)) (fun l σ' H' => ∃ Bl s9 s10, σ' = [some (.ref a), some (.int (0 + (i : Nat))), some (.ref x), some (.ref pt), some (.ref bd), some (.int (0 + (j : Nat))), some (.ref o), some (.ref ot), some (.ref bk), s9, s10, none] ∧ GrX x B7 H8 Bl H' ∧ Box x (300 + 300 * j + 20 + 60 * l) H')
        (fun H9 e9 => ⟨B7, s9, s10, rfl, (GrX.refl g48.bh b8.ne).up e9, b8.ex e9⟩) (fun l σ' H' _ _ => trivial) (fun l y σ' H9 H9' hlt2 ⟨Bl, s9, s10, hσ, gl, bl⟩ hy => ?_) fun σ' H9 ⟨Bl, s9, s10, hσ, gl, bl⟩ => ?_
      · subst hσ
        obtain ⟨rfl, rfl⟩ := hy
        have hnl := gl.none_ b8.ne hn7
        have hdl := hd7.ex gl.b
        have hbl := hb7.up gl.b
        have hthree := evx_lcN (x := x) (n := 300 + 300 * j + 20 + 60 * l) (n1 := 300 + 300 * j + 20 + 60 * l) (n2 := 300 + 300 * j + 20 + 60 * l + (List.range 3).length * 20) (B := Bl) (W := fun J _ => J = Itr 0 3) (wi := iRng1 (tCons (tC (.int 3)) tNil)) (σ := [some (.ref a), some (.int (0 + (i : Nat))), some (.ref x), some (.ref pt), some (.ref bd), some (.int (0 + (j : Nat))), some (.ref o), some (.ref ot), some (.ref bk), some (.int (0 + (l : Nat))), s10, none]) (g := gName 11) (vs := [11]) (tt := tYes) (te := tCallI (CB K) (sp_Bcall K) L2.E0 (tVar 4) (tCons (tCall (sp_l_some_stand K) [] L2.E0 (tCons (tVar 2) (tCons (tVar 3) tNil))) tNil))
          (P := fun v B => ∃ p ys, v = .ref p ∧ B p = some (.lst ys) ∧ Paired (fun _ y => ∃ o O, y = .ref o ∧ StAt K B o d.bd O ∧ d.bd.pick O = O) (List.range 3) ys)
          (fun H1 e1 _ hb R k => ei_range1 (n := 3) (H := Bl) (ea_cons ev_c ea_nil) (by decide) H1 e1 R fun H2 e2 => k _ Bl H2 ((GrX.refl e1 hb.ne).up e2) (hb.ex e2) rfl) fun J B1 e1 hJ => ?gth
        case gth =>
          subst hJ
          exact evx_lc (x := x) (n := 300 + 300 * j + 20 + 60 * l) (k := 20) (l := List.range 3) (g := gName 11) (vs := [11]) (σ := [some (.ref a), some (.int (0 + (i : Nat))), some (.ref x), some (.ref pt), some (.ref bd), some (.int (0 + (j : Nat))), some (.ref o), some (.ref ot), some (.ref bk), some (.int (0 + (l : Nat))), s10, none]) (B := B1) (P := fun _ v B => ∃ o O, v = .ref o ∧ StAt K B o d.bd O ∧ d.bd.pick O = O) (st := fun k => [some (.ref a), some (.int (0 + (i : Nat))), some (.ref x), some (.ref pt), some (.ref bd), some (.int (0 + (j : Nat))), some (.ref o), some (.ref ot), some (.ref bk), some (.int (0 + (l : Nat))), s10, some (.int (k : Nat))]) (by decide) (J := Itr 0 3) (walk_range (lo := 0) (n := 3)) (fun _ _ => trivial) bnd_range (fun _ _ => rfl) (fun _ _ _ _ _ e ⟨o, O, h1, h2, h3⟩ => ⟨o, O, h1, h2.up e, h3⟩) (fun k hk B5 e5 m5 hm5 => stand_evx (K := K) (m := m5) rfl rfl rfl (hdl.ex (e1.trans e5)) G (hbl.up (e1.trans e5)) (by rw [List.length_range] at hm5; omega))
        rw [List.length_range] at hthree
        refine q_asgX (x := x) gl.bh hnl bl hthree fun v BA HA gA hnA bA ⟨p, ys, hv, hp, hys⟩ => ?_
        subst hv
        rw [show List.range 3 = [0, 1, 2] from rfl] at hys
        cases hys with
        | cons r1 hys =>
        cases hys with
        | cons r2 hys =>
        cases hys with
        | cons r3 hys =>
        cases hys
        obtain ⟨z1, A1, rfl, t1, p1⟩ := r1
        obtain ⟨z2, A2, rfl, t2, p2⟩ := r2
        obtain ⟨z3, A3, rfl, t3, p3⟩ := r3
        have glA := gl.trans gA
        have hright := evp_call (⟨o, p, bk, z1, z2, z3, d.bd, O, A1, A2, A3⟩ : DRt) (σ := [some (.ref a), some (.int (0 + (i : Nat))), some (.ref x), some (.ref pt), some (.ref bd), some (.int (0 + (j : Nat))), some (.ref o), some (.ref ot), some (.ref bk), some (.int (0 + (l : Nat))), some (.ref p), none]) (E := L2.E0) (t := tCons (tVar 6) (tCons (tVar 10) (tCons (tVar 8) tNil))) (B := BA) (pre := fun (d : DRt) vs B => vs = [.ref d.o, .ref d.l, .ref d.k] ∧ StAt K B d.o d.b d.O ∧ B d.l = some (.lst [.ref d.a1, .ref d.a2, .ref d.a3]) ∧ StAt K B d.a1 d.b d.A1 ∧ StAt K B d.a2 d.b d.A2 ∧ StAt K B d.a3 d.b d.A3 ∧ StAt K B d.k (d.b.seenF d.O) d.O ∧ d.b.Nice ∧ d.b.pick d.A1 = d.A1 ∧ d.b.pick d.A2 = d.A2 ∧ d.b.pick d.A3 = d.A3) (post := fun (d : DRt) v B => v = .bl true) (ea_cons (ev_var rfl) (ea_cons (ev_var rfl) (ea_cons (ev_var rfl) ea_nil))) ⟨rfl, ho7.up glA.b, hp, t1, t2, t3, hbk.up glA.b, n, p1, p2, p3⟩
        refine s_skip glA.bh (et_is (et_not (et_B hright.v)) rfl) fun HB eB => ?_
        refine ⟨BA, _, _, rfl, glA.up eB, ?_⟩
        rw [show 300 + 300 * j + 20 + 60 * (l + 1) = 300 + 300 * j + 20 + 60 * l + 3 * 20 by omega]
        exact bA.ex eB
      · subst hσ
        have g49 := g48.trans (gl.up (Evl.Ex.refl _))
        exact ⟨Bl, _, _, _, _, _, _, rfl, g49, bl.mono (by omega), fun _ => ⟨o, O, rfl, ho7.up gl.b⟩⟩
    · -- the number of stands
      subst hσ
      obtain ⟨o, O, rfl, ho⟩ := hor (by decide)
      have hdj := hd4.ex gj.b
      have hT5 := tabs_x hT4 b4 gj
      have hBj := hBB4.trans gj.b
      have hdj2 := hdj
      obtain ⟨pp, pn, pb, pc, h1, h2, h3, h4, h5⟩ := hdj2
      have hlen : Ev (tCB (rLn K) (tCons (tOp (rIxT K) (tVar 3) (tC (.int 0))) tNil)) [some (.ref a), some (.int (0 + (i : Nat))), some (.ref x), some (.ref pt), some (.ref bd), s5, some (.ref o), s7, s8, s9, s10, none] Bj (.int (d.L.length : Nat)) := by
        have := ev_lenSq (K := K) (ta := tOp (rIxT K) (tVar 3) (tC (.int 0))) (σ := [some (.ref a), some (.int (0 + (i : Nat))), some (.ref x), some (.ref pt), some (.ref bd), s5, some (.ref o), s7, s8, s9, s10, none]) (B := Bj) (ev_op (ev_var rfl) ev_c (rv_ixT h1 (v := .ref pp) rfl)) (sqs_t h2)
        rwa [List.length_map] at this
      have hlt := et_test (ev_op hlen (ev_c (v := .int 7)) (rv_I0 (g := fun i j => .bl (decide (i < j)))))
      by_cases hL7 : d.L.length < 7
      · refine hlt H5 gj.bh _ fun H6 e6 => ?_
        have hB6 := gj.bh.trans e6
        rw [if_pos (decide_eq_true (by omega))]
        have hst : StOk d.bd O := ho.ok
        refine (evp_call (⟨o, d.bd, O⟩ : DS1) (ea_cons (ev_var rfl) ea_nil) ⟨rfl, ho, seen_ok n O⟩) H6 hB6 _ fun v B7 H7 g7 ⟨y, hv, hy⟩ => ?_
        have hy : BdAt K B7 y (d.bd.seenF O) := hy
        obtain ⟨_, dyx, _, _, _, _, _, iy, _⟩ := id hy
        have hT7 := (hT5.ext e6).ext g7.h
        have hyn : BdAt K (ntp B7) y (d.bd.seenF O) := hy.n ntp_ext
        have hdn : PartsAt K (ntp B7) pt d := (hdj.ex g7.b).n ntp_ext
        have hBn : Evl.Ex B (ntp B7) := ntp_ex hNB (hBj.trans g7.b)
        refine ⟨y, dyx, _, hv, g7.bh _ _ iy, rfl, y, d.bd.seenF O, ntp B7, by rw [hv]; rfl, ntp_le.trans g7.bh, ntp_nt, hT7, hyn, fun B8 H8 g8 hT8 => ?_⟩
        have hset := ev_lenP (K := K) (n := (masks d).length) (σ := [some (.ref a), some (.int (0 + (i : Nat))), some (.ref x), some (.ref pt), some (.ref bd), s5, some (.ref o), s7, s8, s9, s10, none]) ((evp_call (⟨pt, d⟩ : DPt) (E := L2.E0) (t := tCons (tVar 3) tNil) (B := B8) (pre := fun (d : DPt) vs B => vs = [.ref d.a] ∧ PartsAt K B d.a d.d ∧ d.d.L.length ≤ 6 ∧ d.d.N.length ≤ 1000 ∧ d.d.Bs.length ≤ 1000) (post := fun (d : DPt) v B => ∃ p ys, v = .ref p ∧ B p = some (.lst ys) ∧ ys.length = (masks d.d).length) (ea_cons (ev_var rfl) ea_nil) ⟨rfl, hdn.ex g8.b, by show d.L.length ≤ 6; omega, G.ok.nl, G.ok.bl⟩).imp fun v B9 _ ⟨p, ys, h1, h2, h3⟩ => ⟨p, ys, h1, .inl h2, h3⟩)
        refine hset H8 g8.bh _ fun H9 e9 => ?_
        have ec : ((d.bd.seenF O).rowsAll.length : Int) = ((masks d).length : Nat) := by
          have := count_eq n G.ok.nm hst
          exact congrArg _ this
        refine rv_ne (x := .int _) (y := .int _) rfl H9 (Evl.Ex.refl _) _ fun H10 e10 => ⟨_, rfl, ?_⟩
        rw [ec]
        dsimp only
        rw [if_neg (by simp)]
        exact ⟨_, _, _, _, _, _, _, _, _, _, rfl, (((hBn.trans g8.b).trans g8.bh).trans e9).trans e10, (hT8.ext e9).ext e10⟩
      · refine s_skip (B := Bj) gj.bh (et_is (et_and (b := false) hlt fun z => absurd (of_decide_eq_true z) (by omega)) ?_) fun H6 e6 => ⟨_, _, _, _, _, _, _, _, _, _, rfl, hBj.trans (gj.bh.trans e6), hT5.ext e6⟩
        rw [decide_eq_false (by omega)]
        rfl
  · subst hσ
    exact q _
end
end NP
end

section
set_option maxHeartbeats 0
namespace NP
open PySem PySem.Spec PyProof.Rows L2 LamX
theorem law_end {w : World} {K : PySem.W.Frag} {mg : Str → Option Value} {fa : Addr} {h : Heap} (KX : K.In h) (c : SaysY w h K) (G : h.Ns mainGlobals mg) (hmg : mg ("law" : Str) = some (.ref fa)) : LawAtS PySem.Challenge.rw_needpegs_k62_whole_seen_and_back w K L2.CX0 10 63 "_law_script" mg fa h := by
  have F : Facts K mg := facts KX G c
  obtain ⟨fd, D⟩ := F.d_law
  have ef : fa = He.fAd K ("law", none) := by
    have e := hmg.symm.trans F.g_law
    injection e with e
    injection e
  subst ef
  have hb := FunD.bindsA (ps := ["_law_script"]) D fun _ _ _ _ _ _ us hl => match us, hl with | [_], _ => rfl
  have one : ∀ {p : Addr × Addr}, p ∈ [He.cT K mrD] → p = He.cT K mrD := fun hp => List.mem_singleton.mp hp
  refine ⟨fd, [He.cT K mrD], sp_law K, fun p hp => ?_, fun p hp => ?_, fun p hp => ?_, fun s u => hb s [u] rfl, fun H a ns hl _ ht hS => ?_, fun base _ _ ht => ?_⟩
  · rw [one hp]
    exact c.1.empty mrD (List.mem_singleton.mpr rfl)
  · rw [one hp]
    exact c.1.out mrD (List.mem_singleton.mpr rfl)
  · rw [one hp]
    exact PySem.W.codeHd_of_K KX (c.1.hd mrD (List.mem_singleton.mpr rfl))
  · refine ⟨a, ns, rfl, hS, hl, fun p hp => ?_, fun _ => rfl⟩
    rw [List.mem_singleton.mp hp]
    exact TabS.nil (ht _ (List.mem_singleton.mpr rfl))
  · exact fn_law F (ht _ (List.mem_singleton.mpr rfl)) D
end NP
open PySem PySem.W PySem.Calls PyProof.Rows
theorem PySem.Challenge.cw_needpegs_k62_whole_seen_and_back_holds : PySem.Challenge.rw_needpegs_k62_whole_seen_and_back.Holds := by
  w_on; o_law
  refine HandSHeadRun.head_any (r := OpenLaw.row PySem.Challenge.rw_needpegs_k62_whole_seen_and_back) (q := view (OpenLaw.row PySem.Challenge.rw_needpegs_k62_whole_seen_and_back).prog [74]) (H := NP.hook) (ob := NP.obT) (M := 20000) (loose := NP.hloose) (d := HandSHeadRun.topDef (OpenLaw.row PySem.Challenge.rw_needpegs_k62_whole_seen_and_back).prog 74) (kwd := []) NP.obT_eq
    (by kernel_rfl) (fun s => by kernel_rfl) NP.hrun (by kernel_rfl) (by kernel_rfl) (by kernel_rfl) (by rfl) (by first | assumption | decide +kernel) (by decide +kernel) ⟨rfl, rfl, rfl, rfl, rfl, by decide +kernel⟩ ?hw ?hc
  case hw => w_witness2
  case hc =>
    refine LamX.walk_ofTsE (l := PySem.Challenge.rw_needpegs_k62_whole_seen_and_back) (n := 63) (k := 10) (x := "_law_script") (CX := fun _ => L2.CX0) rfl (by decide) (by kernel_rfl) ⟨rfl, by decide, by decide⟩ ?F (fun _ _ _ _ _ z => z)
    intro w mg fa h Y G hmg0
    obtain ⟨K, KX, c⟩ := Y
    have hmg : mg ("law" : PySem.Str) = some (.ref fa) := by
      have e : (HandSHeadRun.topDef (OpenLaw.row PySem.Challenge.rw_needpegs_k62_whole_seen_and_back).prog 74).name = ("law" : PySem.Str) := by kernel_rfl
      rw [← e]
      exact hmg0
    exact ⟨K, KX, NP.law_end KX c G hmg⟩
end
