import PyProof.Rows.All
import Wide.All
import OpenK.AllK
import Wide.FinOn
import KE.KCallOwn
import PyProof.InstNe
import HandS.ForMost
import HandS.Star
import HandS.SlotsOwn
import HandS.NamedTupSort
import KE.KParD
import KE.KSuper
import HandS.Nested
import HandS.Defaults
import HandS.HeadHook1
import HandS.HeadHook2
import HandS.ClsMeth
import HandS.Property
import HandS.Flow
import HandS.IsInst
import HandS.FStr
import KE.KStateDown
import HandS.HeadNt
import HandS.Head0
import HandS.Head1
import HandS.Head2
import KE.KUnpackStar
import KE.KDictItemsList
import KE.KDictList
import HandS.ListItems
import HandS.OwnEq
import HandS.Iter
import PyProof.EqKinds
import KE.KEqDict
import HandS.DictEq
import HandS.Ends
import HandS.HeadEnd
import PyProof.ReprLoop
import PyProof.ReprHeadsTuple
import PyProof.StrHeap
import HandS.Set
import HandS.SetFor
import HandS.SetKeys
import HandS.More
import KE.KRevSl
import HandS.Style
import HandS.DictComp
import HandS.Dict
import HandS.TupMul
import PyProof.StrBlockL
import HandS.NoneIn
import HandS.DeepEq
import PyProof.P3Eq
import PySem.Challenge.RW_betweenfaces_k12_whole_rooms_meet
section
set_option Elab.async false
set_option linter.all false
set_option maxRecDepth 100000
/-! own ==, !=, in, [], &, str of instances with a dict -/
namespace Bf
open PySem PySem.Spec PyProof.Rows L2

section
variable {X : Cx} {CX : CXT} {pins : List (Addr × Obj)} {σ : L2.St} {H : Hp} {s : Shared} {a C dx f : Addr} {fs : List (Str × V)} {n : Nat} {sp : Sp} {E : XK}
theorem insAt (I : Inv X pins σ H s) (e : H a = some (.ins C dx fs)) : ∃ od, PySem.W.InstAt s.heap a (PySem.W.instObj C dx) C (some od) := by
  obtain ⟨mA, O, _⟩ := ins_get I.hok e
  obtain ⟨od, J, _⟩ := O.look
  exact ⟨od, J⟩
/-- a own def called within the running body, at another place of the machine -/
theorem runW {A : Around} {Q : VK} {us : List Value} {ws : List V} (F : FnR X.prog X.w X.K X.mg X.base CX n f sp) (hr : Room n A) (fr : A.frames = X.A.frames) (hx : Passes CX X E)
    (I : Inv X pins σ H s) (r : Vals ws us) (h : sp ws H Q E) : wpAny (model X.prog X.w) A (call (.ref f) us) (EP X pins σ Q) X.xe s := by
  have e := I.env0
  have e0 : Env0 X.prog X.w X.K X.mg X.base A X.stack s H :=
    { frames := by rw [fr]; exact e.frames, mod := e.mod, bs := e.bs, bsz := e.bsz, funs := e.funs, frf := e.frf, hok := e.hok, bare := e.bare }
  exact wpAny_call (SlX.run_at F hr e0 hx I r h)

/-- x == y (or another comparison), both instances of the class at C -/
def rCmpI (C : Addr) (sp : Sp) (E : XK) : R2 := fun x y H Q => ∃ a dx fs b dy gs, x = .ref a ∧ y = .ref b ∧ H a = some (.ins C dx fs) ∧ H b = some (.ins C dy gs) ∧ sp [x, y] H Q E
theorem op_cmpI {op : CmpOp} (hop : ∀ a b, compareOp op a b = richCompare op a b) (hs : PySem.W.findIn X.K (.ref C) (cmpInfo op).2.1 = some (some (.ref f))) (hf : PySem.W.isFn X.K (.ref f) = true)
    (F : FnR X.prog X.w X.K X.mg X.base CX n f sp) (hr : Room n X.A) (hx : Passes CX X E) : OpR X (compareOp op) (rCmpI C sp E) := by
  rintro pins s σ H x y v u Q I rx ry ⟨a, dx, fs, b, dy, gs, rfl, rfl, ha, hb, q⟩
  cases (show v = Value.ref a from rx)
  cases (show u = Value.ref b from ry)
  obtain ⟨od, J⟩ := insAt I ha
  obtain ⟨od', J'⟩ := insAt I hb
  obtain ⟨m, hF⟩ := I.fr
  rw [hop]
  refine PySem.W.cmp_K (op := op) (tb := .ref C) hr.units0 hF I.ok.mod.kin J J'.type (by simp [PySem.W.notFirst]) hs hf ?_
  refine wpAny_mono (runW (us := [.ref a, .ref b]) (ws := [.ref a, .ref b]) F hr rfl hx I (.cons rfl (.cons rfl .nil)) q) (fun w s' z => ?_) fun _ _ x => x
  obtain ⟨z', H', I', rz, qz⟩ := z
  exact SlX.cmpback rz ⟨z', H', I', rz, qz⟩

/-- x != y where the class has an own == and object's != -/
def rNeI (C : Addr) (sp : Sp) (E : XK) : R2 := fun x y H Q => ∃ a dx fs b dy gs, x = .ref a ∧ y = .ref b ∧ H a = some (.ins C dx fs) ∧ H b = some (.ins C dy gs) ∧
  sp [x, y] H (fun z H' => ∃ k, z = .bl k ∧ Q (.bl (!k)) H') E
theorem op_neI (hs : PySem.W.findIn X.K (.ref C) "__eq__" = some (some (.ref f))) (hf : PySem.W.isFn X.K (.ref f) = true)
    (hne : PySem.W.findIn X.K (.ref C) "__ne__" = some (some (.builtin "object.__ne__"))) (hm : PySem.W.mroIn X.K C (.type "object") = some true)
    (F : FnR X.prog X.w X.K X.mg X.base CX n f sp) (hr : Room (n + 1) X.A) (hx : Passes CX X E) : OpR X (compareOp .NotEq) (rNeI C sp E) := by
  rintro pins s σ H x y v u Q I rx ry ⟨a, dx, fs, b, dy, gs, rfl, rfl, ha, hb, q⟩
  cases (show v = Value.ref a from rx)
  cases (show u = Value.ref b from ry)
  obtain ⟨od, J⟩ := insAt I ha
  obtain ⟨od', J'⟩ := insAt I hb
  have slot : Slot "object" "__ne__" "object.__ne__" :=
    .of (owner := "object") (n := "__ne__") (by rw [typeLookup_type, builtinLookup_eq_fast]; kernel_rfl) (by decide +kernel) (by decide +kernel) (by decide +kernel) (by decide +kernel) (by kernel_rfl)
  have inner : wpAny (model X.prog X.w) X.A.in1 (Builtin.«object.__ne__» ⟨[.ref a, .ref b], []⟩)
      (fun fin s' => ∃ v, fin = .done (.ret v) ∧ EP X pins σ Q v s' ∧ v ≠ .notImplemented) X.xe s := by
    unfold Builtin.«object.__ne__»
    have fin : wpAny (model X.prog X.w) X.A.in1 (call (.ref f) [.ref a, .ref b]) (fun v s' => ∃ k, v = .bool k ∧ EP X pins σ Q (.bool (!k)) s') X.xe s := by
      refine wpAny_mono (runW (us := [.ref a, .ref b]) (ws := [.ref a, .ref b]) F hr.in1 rfl hx I (.cons rfl (.cons rfl .nil)) q) (fun w s' z => ?_) fun _ _ x => x
      obtain ⟨z', H', I', rz, k, rfl, qz⟩ := z
      cases rz
      exact ⟨k, rfl, .bl (!k), H', I', rfl, qz⟩
    repeat (first
      | with_reducible refine wpAny_cRoomFor hr.in1.units0 ?_
      | (refine wpAny_bind (m := callSpecialIfBound? (.ref a) (Str.ofString "__eq__") [.ref b]) (PySem.W.ifBound_K I.kIn J hs hf (wpAny_mono fin (fun r s' hr => by
          obtain ⟨k, rfl, hq⟩ := hr
          repeat (first | exact ⟨_, rfl, hq, fun z => nomatch z⟩ | exact wpAny_pure ⟨_, rfl, hq, fun z => nomatch z⟩ | (refine wpAny_bind (m := truthy (.bool _)) (wpAny_truthy_bool ?_)) | wp_step)) fun _ _ e => e)))
      | wp_step)
  show wpAny (model X.prog X.w) X.A (richCompare .NotEq (.ref a) (.ref b)) _ _ _
  have one : wpAny (model X.prog X.w) X.A (tryCompare (.ref a) "__ne__" (.ref b)) (fun r s' => ∃ v, r = some v ∧ EP X pins σ Q v s') X.xe s := by
    unfold tryCompare
    refine wpAny_bind (NtL.csib (J.type.andThen (PySem.W.looks_findIn I.kIn hne)) (slot.bind _) ?_)
    refine wpAny_call (codeAny_call_builtin slot.plain PySem.F.cmpEntry_ne (PySem.W.check_slot (i := "object.__ne__") (owner := "object") (n := "__ne__") PySem.F.cmpKind_ne PySem.F.cmpSplit_ne (J.type.andThen (PySem.W.looks_mroIn I.kIn hm)) (PySem.F.cmpArgs_ne _ _) ?_))
    refine wpAny_mono inner (fun fin s' z => ?_) fun _ _ x => x
    obtain ⟨v, rfl, hq, hv⟩ := z
    cases v <;> first | exact absurd rfl hv | exact wpAny_pure ⟨_, rfl, hq⟩ | exact wpAny_pure (wpAny_pure ⟨_, rfl, hq⟩)
  unfold richCompare
  simp only [oneThing_ref]
  refine wpAny_holding (wpAny_bind (wpAny_cRoomFor hr.units0 ?_))
  rw [cmpInfo_NotEq]
  dsimp only
  refine wpAny_bind (J.type.here (wpAny_bind (J'.type.here ?_)))
  rw [show (Value.ref C != Value.ref C) = false from by simp]
  simp only [Bool.false_eq_true, if_false]
  refine wpAny_bind (wpAny_pure ?_)
  simp only [Bool.false_eq_true, if_false]
  refine wpAny_bind (wpAny_mono one (fun r s' z => ?_) fun _ _ e => e)
  obtain ⟨v, rfl, hq⟩ := z
  exact wpAny_pure hq

/-- z in y, z not in y, y an instance whose class has an own __contains__ that answers a bool -/
def rInI (C : Addr) (sp : Sp) (E : XK) (g : Bool → Bool) : R2 := fun x y H Q => ∃ b dy gs, y = .ref b ∧ H b = some (.ins C dy gs) ∧ sp [y, x] H (fun z H' => ∃ k, z = .bl k ∧ Q (.bl (g k)) H') E
theorem op_inI (hs : PySem.W.findIn X.K (.ref C) "__contains__" = some (some (.ref f))) (hf : PySem.W.isFn X.K (.ref f) = true)
    (F : FnR X.prog X.w X.K X.mg X.base CX n f sp) (hr : Room n X.A) (hx : Passes CX X E) : OpR X (compareOp .In) (rInI C sp E fun k => k) := by
  rintro pins s σ H x y v u Q I rx ry ⟨b, dy, gs, rfl, hb, q⟩
  cases (show u = Value.ref b from ry)
  obtain ⟨od', J'⟩ := insAt I hb
  obtain ⟨m, hF⟩ := I.fr
  refine PySem.W.in_K hF I.ok.mod.kin J' hs hf ?_
  refine wpAny_mono (runW (us := [.ref b, v]) (ws := [.ref b, x]) F hr rfl hx I (.cons rfl (.cons rx .nil)) q) (fun w s' z => ?_) fun _ _ x => x
  obtain ⟨z', H', I', rz, k, rfl, qz⟩ := z
  cases rz
  exact wpAny_truthy_bool ⟨.bl k, H', I', rfl, qz⟩
theorem op_notInI (hs : PySem.W.findIn X.K (.ref C) "__contains__" = some (some (.ref f))) (hf : PySem.W.isFn X.K (.ref f) = true)
    (F : FnR X.prog X.w X.K X.mg X.base CX n f sp) (hr : Room n X.A) (hx : Passes CX X E) : OpR X (compareOp .NotIn) (rInI C sp E fun k => !k) := by
  rintro pins s σ H x y v u Q I rx ry ⟨b, dy, gs, rfl, hb, q⟩
  cases (show u = Value.ref b from ry)
  obtain ⟨od', J'⟩ := insAt I hb
  obtain ⟨m, hF⟩ := I.fr
  refine PySem.W.notIn_K hF I.ok.mod.kin J' hs hf ?_
  refine wpAny_mono (runW (us := [.ref b, v]) (ws := [.ref b, x]) F hr rfl hx I (.cons rfl (.cons rx .nil)) q) (fun w s' z => ?_) fun _ _ x => x
  obtain ⟨z', H', I', rz, k, rfl, qz⟩ := z
  cases rz
  exact wpAny_truthy_bool ⟨.bl (!k), H', I', rfl, qz⟩

/-- x[i], x an instance whose class has an own __getitem__ -/
def rGetI (C : Addr) (sp : Sp) (E : XK) : R2 := fun x y H Q => ∃ a dx fs, x = .ref a ∧ H a = some (.ins C dx fs) ∧ sp [x, y] H Q E
def IxOwn (b : Expr) : Prop := ∀ o i, subscripted b true o i = runValue (.builtin "lifetime.subscript" ⟨[o, i], []⟩)
theorem pe_getI {ea eb : Expr} {ta tb : TE} {pos : Pos} (hs : PySem.W.findIn X.K (.ref C) "__getitem__" = some (some (.ref f))) (hf : PySem.W.isFn X.K (.ref f) = true) (hfi : PySem.W.fnIn X.K f = true)
    (F : FnR X.prog X.w X.K X.mg X.base CX n f sp) (hr : Room (n + 1) X.A) (hx : Passes CX X E) (ha : PE X ea ta) (hb : PE X eb tb) (hsl : IxOwn eb) : PE X (.Subscript ea eb pos) (tOp (rGetI C sp E) ta tb) := by
  refine ⟨fun pins s σ H Q I h => ?_⟩
  refine Subscript_ (binT ha hb I h fun v u s2 x y H2 I2 rx ry q => ?_)
  obtain ⟨a, dx, fs, rfl, ha, q⟩ := q
  cases (show v = Value.ref a from rx)
  obtain ⟨od, J⟩ := insAt I2 ha
  obtain ⟨m, hF⟩ := I2.fr
  exact PySem.W.sub_K hF I2.ok.mod.kin J hs hfi hf (runW (us := [.ref a, u]) (ws := [.ref a, y]) F hr.in1 rfl hx I2 (.cons rfl (.cons ry .nil)) q) (hsl _ _)

/-- x & y (or another operator), both instances of the class at C -/
theorem op_binI {op : Operator} (hc : PySem.W.selfFirst X.K C = true) (hs : PySem.W.findIn X.K (.ref C) (PySem.dunder op.info.2) = some (some (.ref f))) (hf : PySem.W.isFn X.K (.ref f) = true)
    (F : FnR X.prog X.w X.K X.mg X.base CX n f sp) (hr : Room n X.A) (hx : Passes CX X E) : OpR X (binaryOp op) (rCmpI C sp E) := by
  rintro pins s σ H x y v u Q I rx ry ⟨a, dx, fs, b, dy, gs, rfl, rfl, ha, hb, q⟩
  cases (show v = Value.ref a from rx)
  cases (show u = Value.ref b from ry)
  obtain ⟨od, J⟩ := insAt I ha
  obtain ⟨od', J'⟩ := insAt I hb
  obtain ⟨m, hF⟩ := I.fr
  refine PySem.W.binop_K hF I.ok.mod.kin J J'.type hc hs hf ?_
  refine wpAny_mono (runW (us := [.ref a, .ref b]) (ws := [.ref a, .ref b]) F hr rfl hx I (.cons rfl (.cons rfl .nil)) q) (fun w s' z => ?_) fun _ _ x => x
  obtain ⟨z', H', I', rz, qz⟩ := z
  exact SlX.cmpback rz ⟨z', H', I', rz, qz⟩

/-- str(x), x an instance whose class has an own __str__ that answers a text -/
def rStrI (C : Addr) (sp : Sp) (E : XK) : List V → Hp → VK → Prop := fun xs H Q => ∃ a dx fs, xs = [.ref a] ∧ H a = some (.ins C dx fs) ∧ sp xs H (fun z H' => ∃ t, z = .str t ∧ Q z H') E
theorem call_strI (hs : PySem.W.findIn X.K (.ref C) "__str__" = some (some (.ref f))) (hf : PySem.W.isFn X.K (.ref f) = true) (F : FnR X.prog X.w X.K X.mg X.base CX n f sp) (hr : Room (n + 2) X.A) (hx : Passes CX X E) : CallR X (.type "str") (rStrI C sp E) := by
  rintro pins s σ H xs us Q I r ⟨a, dx, fs, rfl, ha, q⟩
  obtain ⟨u, rfl, ru⟩ := vals1 r
  cases (show u = Value.ref a from ru)
  obtain ⟨od, J⟩ := insAt I ha
  have hr2 : Room n X.A.in1.in1 := (show Room (n + 1) X.A.in1 from Room.in1 hr).in1
  refine PySem.W.kso_call hr2.units0 I.kIn J hs hf (wpAny_mono (runW (us := [.ref a]) (ws := [.ref a]) F hr2 rfl hx I (.cons rfl .nil) q) (fun w s' z => ?_) fun _ _ x => x)
  obtain ⟨z', H', I', rz, t, rfl, qz⟩ := z
  obtain ⟨tk, e⟩ := (show ∃ tk, w = Value.str t tk from rz)
  cases e
  exact ⟨.str t, H', I', ⟨tk, rfl⟩, qz⟩
end
end Bf
end

section
set_option Elab.async false
set_option linter.all false
set_option maxRecDepth 100000
/-! def __init__(self, **spans), C(**d) -/
namespace Bf
open PySem PySem.Spec PyProof.Rows L2

section
variable {prog : Program} {w : World} {M : Model} {A : Around} {E : Value → Shared → Prop}
theorem wpT {α : Type} {c : Prop} [Decidable c] {x y : Sem α} {s : Shared} {Q : α → Shared → Prop} (hc : c) (h : wpAny M A x Q E s) : wpAny M A (if c then x else y) Q E s := by rw [if_pos hc]; exact h
theorem wpF {α : Type} {c : Prop} [Decidable c] {x y : Sem α} {s : Shared} {Q : α → Shared → Prop} (hc : ¬ c) (h : wpAny M A y Q E s) : wpAny M A (if c then x else y) Q E s := by rw [if_neg hc]; exact h
abbrev dO (es : List DictEntry) (n : Nat) : Obj := { cls := .type "dict", dict := none, data := .dict es.toArray n }
theorem kwSet {s : Shared} {d : Addr} {es : List DictEntry} {n : Nat} {k : Str} {v : Value} {Q : Unit → Shared → Prop} (ho : s.heap.get? d = some (dO es n))
    (hs : ∀ e ∈ es, e.key.isStr k = false) (hr : ∀ e ∈ es, e.refKey = false)
    (h : ∀ h', h'.get? d = some (dO (es ++ [⟨PyData.keyHash w.params k, .str k s.toks, v⟩]) (n + 1)) → (∀ b o, b ≠ d → s.heap.get? b = some o → h'.get? b = some o) → Q () { s with heap := h', toks := s.toks + 1 }) :
    wpAny (model prog w) A (nsSet d k v) Q E s := by
  have e1 : es.any (·.key.isStr k) = false := List.any_eq_false.mpr fun e he => by rw [hs e he]; exact Bool.false_ne_true
  have e2 : es.any (·.refKey) = false := List.any_eq_false.mpr fun e he => by rw [hr e he]; exact Bool.false_ne_true
  have e : Obj.putName k (PyData.keyHash w.params k) (.str k s.toks) v (dO es n) = dO (es ++ [⟨PyData.keyHash w.params k, .str k s.toks, v⟩]) (n + 1) := by
    show Obj.putName k _ _ v (PySem.W.dictOf es n) = _
    rw [PySem.W.putName_dict, PySem.W.putL_new hs]
    show PySem.W.dictOf _ (if es.any (·.key.isStr k) then n else n + 1) = _
    rw [e1, if_neg Bool.false_ne_true]
  have c : aRefKeyMayBeTheName k es.toArray = false := by
    rw [aRefKeyMayBeTheName_at, ← Array.any_toList, ← Array.any_toList]
    show (!es.any (·.key.isStr k) && es.any (·.refKey)) = false
    rw [e2, Bool.and_false]
  unfold nsSet
  refine wpAny_bind (wpAny_bind (wpAny_askSetting (wpAny_pure (wpAny_bind (wpAny_mkText (wpAny_bind (wpAny_loadPart ho ?_)))))))
  dsimp only
  rw [c]
  refine wpAny_updatePart ho (h _ ?_ fun b o hb q => (Heap.get?_update_ne _ _ _ _ hb).trans q)
  have := Heap.get?_update_self (Obj.putName k (PyData.keyHash w.params k) (.str k s.toks) v) ho (by rw [e]; rfl)
  rw [e] at this
  exact this
theorem kwFill {d : Addr} {Q : PUnit → Shared → Prop} : ∀ (ex : List (Str × Value)) (s : Shared) (es : List DictEntry) (n : Nat), s.heap.get? d = some (dO es n) →
    (∀ e ∈ es, ∀ x ∈ ex, e.key.isStr x.1 = false) → (∀ e ∈ es, e.refKey = false) → (ex.map (·.1)).Nodup →
    (∀ h', h'.get? d = some (dO (es ++ PySem.W.kwEs w.params s.toks ex) (n + ex.length)) → (∀ b o, b ≠ d → s.heap.get? b = some o → h'.get? b = some o) → Q ⟨⟩ { s with heap := h', toks := s.toks + ex.length }) →
    wpAny (model prog w) A (forIn ex PUnit.unit fun x _ => (nsSet d x.1 x.2 >>= fun _ => pure (ForInStep.yield PUnit.unit))) Q E s
  | [], s, es, n, ho, _, _, _, h => by
    rw [List.forIn_nil]
    refine wpAny_pure (h s.heap ?_ fun _ _ _ q => q)
    rw [ho, show es ++ PySem.W.kwEs w.params s.toks [] = es from List.append_nil _]
    rfl
  | x :: r, s, es, n, ho, hs, hr, hn, h => by
    obtain ⟨hn1, hn2⟩ := List.nodup_cons.mp (show (x.1 :: r.map (·.1)).Nodup from hn)
    rw [List.forIn_cons]
    refine wpAny_bind (wpAny_bind (kwSet ho (fun e he => hs e he x (.head _)) hr fun h' ho' kp => wpAny_pure ?_))
    show wpAny (model prog w) A (forIn r PUnit.unit fun x _ => (nsSet d x.1 x.2 >>= fun _ => pure (ForInStep.yield PUnit.unit))) Q E { s with heap := h', toks := s.toks + 1 }
    refine kwFill r { s with heap := h', toks := s.toks + 1 } _ _ ho' (fun e he y hy => ?_) (fun e he => ?_) hn2 fun h'' ho'' kp' => ?_
    · rcases List.mem_append.mp he with he | he
      · exact hs e he y (.tail _ hy)
      · obtain rfl := List.mem_singleton.mp he
        show (x.1 == y.1) = false
        exact beq_eq_false_iff_ne.mpr fun q => hn1 (by rw [q]; exact List.mem_map_of_mem hy)
    · rcases List.mem_append.mp he with he | he
      · exact hr e he
      · obtain rfl := List.mem_singleton.mp he
        rfl
    · have t1 : s.toks + 1 + r.length = s.toks + (r.length + 1) := by omega
      have t2 : n + 1 + r.length = n + (r.length + 1) := by omega
      show Q ⟨⟩ { s with heap := h'', toks := s.toks + 1 + r.length }
      rw [t1]
      refine h h'' ?_ fun b o hb q => kp' b o hb (kp b o hb q)
      rw [t2, List.append_assoc] at ho''
      exact ho''

/-- the parameters (self, **nm) -/
def kwParams (p1 p2 : Pos) (nm : Str) : Arguments := { posonlyargs := [], args := [{ arg := "self", annotation := none, pos := p1 }], vararg := none, kwonlyargs := [], kw_defaults := [], kwarg := some { arg := nm, annotation := none, pos := p2 }, defaults := [] }
theorem bindKw {s : Shared} {fd : FuncData} {p1 p2 : Pos} {nm : Str} {self : Value} {kw : List (Str × Value)} {Q : List (Str × Value) → Shared → Prop} (hp : fd.params = kwParams p1 p2 nm) (hd : fd.defaults = .none)
    (hk : ∀ x ∈ kw, x.1 ≠ "self") (hz : kw.length ≤ 1000) (hn : (kw.map (·.1)).Nodup)
    (h : ∀ h', h'.get? s.heap.objs.size = some (dO (PySem.W.kwEs w.params s.toks kw) kw.length) → (∀ b o, s.heap.get? b = some o → h'.get? b = some o) → Q [("self", self), (nm, .ref s.heap.objs.size)] { s with heap := h', toks := s.toks + kw.length }) :
    wpAny (model prog w) A (bindArgs fd ⟨[self], kw⟩) Q E s := by
  unfold bindArgs
  rw [hp, hd]
  simp only [kwParams]
  refine wpAny_bind (wpAny_forIn_list _ (fun rest b s' => s' = s ∧ ∃ done, kw = done ++ rest ∧ b = ([(("self" : Str), self)], done)) _ ?turn ?fin kw _ ⟨rfl, [], rfl, rfl⟩)
  case turn =>
    rintro ⟨k, v⟩ rest b s' ⟨rfl, done, e, rfl⟩
    have hne : k ≠ "self" := hk (k, v) (by rw [e]; simp)
    have hc : ((List.map (fun x : Arg => x.arg) [({ arg := ("self" : Str), annotation := none, pos := p1 } : Arg)]).contains k || (List.map (fun x : Arg => x.arg) []).contains k) = false := by
      simp only [List.map_cons, List.map_nil, List.contains_cons, List.contains_nil, Bool.or_false]
      exact beq_eq_false_iff_ne.mpr hne
    dsimp only
    rw [hc, if_neg Bool.false_ne_true]
    refine wpT rfl ?_
    exact wpAny_pure ⟨rfl, done ++ [(k, v)], by rw [e, List.append_assoc]; rfl, rfl⟩
  case fin =>
    rintro b s' ⟨rfl, done, e, rfl⟩
    rw [List.append_nil] at e
    subst e
    refine wpAny_bind (wpAny_of_eq (a := none) rfl ?_)
    refine wpF (by simp) ?_
    refine wpF (by simp [List.lookup]) ?_
    refine wpAny_bind (wpAny_of_eq (a := [(("self" : Str), self)]) rfl ?_)
    refine wpAny_bind (wpAny_of_eq (a := ([(("self" : Str), self)], [])) rfl ?_)
    refine wpF (by simp) ?_
    refine wpF (by show ¬ kw.length > sizeLine + 1; rw [sizeLine_eq]; omega) ?_
    refine wpAny_bind (wpAny_alloc (wpAny_bind ?_))
    refine kwFill kw _ [] 0 (Heap.get?_push_size _ rfl) (fun _ q => nomatch q) (fun _ q => nomatch q) hn fun h' ho kp => wpAny_pure ?_
    rw [Nat.zero_add] at ho
    exact h h' ho fun b o q => kp b o (Nat.ne_of_lt (Heap.lt_size q)) (Heap.get?_push_of_some _ q)
end
end Bf
end

section
set_option Elab.async false
set_option linter.all false
set_option maxRecDepth 100000
/-! the defs, what is asked of the top -/
namespace Bf
open PySem PySem.Spec PyProof.Rows L2
def top (i : Nat) : Stmt := PySem.Challenge.pw_betweenfaces_k12_whole_rooms_meet.main.body.getD i (.Pass ⟨0, 0, 0, 0⟩)
def clsBody : Stmt → List Stmt
  | .ClassDef _ _ _ b .. => b
  | _ => []
def mth (i j : Nat) : Stmt := (clsBody (top i)).getD j (.Pass ⟨0, 0, 0, 0⟩)
def dG (x : Str) (i : Nat) (dfl : List He.Dv := []) : He.DefD := ⟨(x, none), x, x, defArgs (top i), defBody (top i), defScope (top i), dfl, []⟩
def dM (C m q : Str) (i j : Nat) (dfl : List He.Dv := []) : He.DefD := ⟨(C, some m), m, q, defArgs (mth i j), defBody (mth i j), defScope (mth i j), dfl, []⟩
/-- where the name x stands -/
abbrev gA (K : PySem.W.Frag) (x : Str) : Addr := He.ga K x
abbrev mA (K : PySem.W.Frag) (C m : Str) : Addr := He.ma K (He.ga K C) m
abbrev CRt (K : PySem.W.Frag) : Addr := He.ga K "Ratio"
abbrev CRm (K : PySem.W.Frag) : Addr := He.ga K "Room"
abbrev CSt (K : PySem.W.Frag) : Addr := He.ga K "Setting"
/-- a def of the top, a method -/
abbrev FG (K : PySem.W.Frag) (x : Str) (i : Nat) (fd : FuncData) : Prop := FunD K x x (defArgs (top i)) (defBody (top i)) (defScope (top i)) [] [] (gA K x) fd
abbrev FM (K : PySem.W.Frag) (C m q : Str) (i j : Nat) (fd : FuncData) : Prop := FunD K m q (defArgs (mth i j)) (defBody (mth i j)) (defScope (mth i j)) [] [] (mA K C m) fd

/-- a call by a promise without defaults -/
def tCallF (sp : Sp) (E : XK) (t : TA) : TE := fun σ H Q => t σ H fun vs H1 => sp vs H1 Q E
section
variable {X : Cx} {CX : CXT} {k : Nat} {f C : Addr} {sp : Sp} {E : XK} {x m : Str} {p pos apos : Pos} {e o : Expr} {es : List Expr} {t : TA} {ta : TE}
theorem pe_callF (F : FnR X.prog X.w X.K X.mg X.base CX k f sp) (hr : Room k X.A) (hg : Gl X x) (hm : X.mg x = some (.ref f)) (hk : PySem.W.keepIn X.K (.ref f) = true) (hx : Passes CX X E)
    (ha : PA X (e :: es) t) (hdb : (x == ("__debug__" : Str)) = false := by decide) (he : starEach (e :: es) X.env = (false, eval e X.env) :: starEach es X.env := by rfl) (hpl : (backTo pos (starEach es X.env)).any (·.1) = false := by rfl) :
    PE X (.Call (.Name x p) (e :: es) [] pos) (tCallF sp E t) := by
  refine ⟨fun pins s σ H Q I h => ?_⟩
  refine wpAny_Call_Name_kw (ld_glob I hg hm ?_ hdb)
  refine PySem.W.callWith_K (h₀ := X.base) I.ok.mod.kin hk (thn (ha.run pos pins s σ H _ I h) fun us s1 ⟨vs, H1, I1, r, q⟩ => ⟨I1.kIn, ?_⟩) he hpl
  exact wpAny_call (run_fnR F hr hx I1 r q)
/-- a method's call by a promise without defaults -/
def tMethF (C : Addr) (m : Str) (sp : Sp) (E : XK) (ta : TE) (t : TA) : TE := fun σ H Q => ta σ H fun x H1 => ∃ a dx fs, x = .ref a ∧ H1 a = some (.ins C dx fs) ∧ fs.lookup m = none ∧ t σ H1 fun vs H2 => sp (x :: vs) H2 Q E
theorem pe_methF {pl : Sem Bool} (he : PE X o ta) (c : Cls X.K C) (hm : Meth X.K C m f) (F : FnR X.prog X.w X.K X.mg X.base CX k f sp) (hr : Room k X.A) (hx : Passes CX X E) (ha : PA X (e :: es) t)
    (hst : starEach (e :: es) X.env = (false, eval e X.env) :: starEach es X.env := by rfl) (hpl : (backTo pos (starEach es X.env)).any (·.1) = false := by rfl)
    (ht : eval (.Call (.Attribute o m apos) (e :: es) [] pos) X.env = (do
      let ov ← eval o X.env
      standAt apos.atName
      let (f, first) ← holding [ov] (getMethod ov m pl)
      callWith pos f first (backTo pos (starEach (e :: es) X.env)) (backToKw pos (keywordEach [] X.env))) := by rfl) :
    PE X (.Call (.Attribute o m apos) (e :: es) [] pos) (tMethF C m sp E ta t) := by
  refine ⟨fun pins s σ H Q I h => ?_⟩
  refine PySem.W.methodCall_KW (pl := pl) (thn (he.run pins s σ H _ I h) fun u s1 ⟨x, H1, I1, rx, a, dx, fs, ex, ea, l, q⟩ => ?_) ht
  subst ex
  obtain rfl : u = Value.ref a := rx
  refine getmeth_ok I1 ea c hm l ?_
  refine PySem.W.callWith_K (first := [.ref a]) (h₀ := X.base) I.ok.mod.kin hm.kp (thn (ha.run pos pins s1 σ H1 _ I1 q) fun us s2 ⟨vs, H2, I2, r, q2⟩ => ⟨I2.kIn, ?_⟩) hst hpl
  exact wpAny_call (run_fnR (us := .ref a :: us) (vs := .ref a :: vs) F hr hx I2 (.cons rfl r) q2)
end

/-- a def without defaults keeps its promise: the rule -/
theorem fnR_of {P : Program} {w : World} {K : PySem.W.Frag} {mg : Str → Option Value} {base : Heap} {x qual : Str} {params : Arguments} {body : List Stmt} {scope : Scope} {f : Addr} {fd : FuncData} {CX : CXT} {N ps : List Str} {k : Nat} {sp : Sp}
    (F : FunD K x qual params body scope [] [] f fd) (S : FnScope N ps scope)
    (hb : ∀ (kV doc pm : Value) (an : Option Addr) (cdv ct : Value) (us : List Value), us.length = ps.length → bindArgs (PySem.W.fnOf x qual params body scope .none kV doc pm an cdv ct) ⟨us, []⟩ = pure (ps.zip us))
    (len : ∀ vs H Q E, sp vs H Q E → vs.length = ps.length)
    (hbody : ∀ (cdv : Value) (A : Around) (outer : List Env) (s : Shared) (H : Hp) (vs : List V) (Q : VK) (E : XK), Room k (A.deeper (envOfC qual scope s.heap.objs.size f cdv)) → sp vs H Q E →
      ∃ t, PSs (cxOf CX P w K mg base N qual scope f cdv A outer s H E) body t ∧ t { nx := fun _ H' => Q .non H', rt := Q } (start N vs) H) : FnR P w K mg base CX (k + 1) f sp :=
  ((F.ok S len hbody).raw (F.bindsN hb) .nil).imp fun vs H Q E h => by
    show sp (vs ++ []) H Q E
    rw [List.append_nil]
    exact h

def gNames : List Str := ["Ratio", "Room", "Setting", "is_integer", "divisor", "is_number", "least", "greatest", "is_axis_name", "span_of", "need_spans", "put_into", "shared_span", "span_value", "span_text", "need_places", "_law_pen", "_law_draw", "_law_span", "_law_spans", "_law_room", "_law_met", "_law_bare", "_law_settings", "_law_pair_right", "_law_three_right", "law"]
def bNames : List Str := ["isinstance", "int", "bool", "abs", "str", "len", "all", "any", "tuple", "dict", "list", "sorted", "set", "super", "repr", "max", "min", "range"]
def gDefs : List (Str × Nat) := [("is_integer", 14), ("divisor", 15), ("is_number", 19), ("least", 20), ("greatest", 21), ("is_axis_name", 25), ("span_of", 36), ("need_spans", 37), ("put_into", 38), ("shared_span", 39), ("span_value", 40), ("span_text", 41), ("need_places", 44), ("_law_pen", 47), ("_law_draw", 48), ("_law_span", 49), ("_law_spans", 50), ("_law_room", 51), ("_law_met", 52), ("_law_bare", 53), ("_law_settings", 54), ("_law_pair_right", 55), ("_law_three_right", 56), ("law", 57)]
def mDefs : List (Str × Str × Str × Nat × Nat) := [("Named", "__init__", "Named.__init__", 10, 0), ("Named", "__contains__", "Named.__contains__", 10, 3), ("Named", "__getitem__", "Named.__getitem__", 10, 5),
  ("Ratio", "under", "Ratio.under", 18, 3), ("Ratio", "__eq__", "Ratio.__eq__", 18, 9), ("Ratio", "__str__", "Ratio.__str__", 18, 11),
  ("Room", "holds", "Room.holds", 42, 3), ("Room", "__and__", "Room.__and__", 42, 4), ("Room", "__eq__", "Room.__eq__", 42, 5), ("Room", "__repr__", "Room.__repr__", 42, 7)]
def naNames : List (Str × Str) := [("Ratio", "top"), ("Ratio", "bottom"), ("Room", "held"), ("Setting", "held")]
def nClNames : List Str := ["Room", "Setting"]
def clNames : List Str := ["Ratio", "Room", "Setting"]
def mNames : List (Str × Str) := [("Ratio", "under"), ("Ratio", "__eq__"), ("Ratio", "__str__"), ("Room", "holds"), ("Room", "__and__"), ("Room", "__eq__"), ("Room", "__repr__")]
/-- a class whose instances are asked by isinstance -/
structure CI (K : PySem.W.Frag) (C : Addr) : Prop where
  cl : Cls K C
  ha : PySem.W.findIn K (.ref C) "__class__" = some (some (.builtin "object.__class__"))
  hn : PySem.W.specialIn K (.builtin "object.__class__") "__get__" = some (some (.builtin "getset_descriptor.__get__"))
  htk : PySem.W.takesIn K (.builtin "object.__class__") = some true
  hm : PySem.W.mroIn K C (.type "object") = some true
theorem CI.ty {K : PySem.W.Frag} {C : Addr} (c : CI K C) {H : Hp} {a dx : Addr} {fs : List (Str × V)} (e : H a = some (.ins C dx fs)) : TyX K H (.ref a) (.ref C) := .base (.ins e c.cl c.ha c.hn c.htk c.hm)
theorem kit_self {K : PySem.W.Frag} {t : Value} : PySem.W.kitOne K t t = some true := if_pos (beq_self_eq_true _)
def kitNo : List (Value × Str) := [(.type "tuple", "Ratio"), (.type "NoneType", "Ratio")]
/-- what the top leaves -/
structure Tx (K : PySem.W.Frag) (mg : Str → Option Value) : Prop where
  g : ∀ x ∈ gNames, mg x = some (.ref (gA K x))
  n : ∀ x ∈ bNames, mg x = none
  k : ∀ x ∈ gNames, PySem.W.keepIn K (.ref (gA K x)) = true
  gd : ∀ p ∈ gDefs, ∃ fd, FG K p.1 p.2 fd
  md : ∀ q ∈ mDefs, ∃ fd, FM K q.1 q.2.1 q.2.2.1 q.2.2.2.1 q.2.2.2.2 fd
  c : ∀ x ∈ clNames, CI K (gA K x)
  kn : ∀ p ∈ kitNo, PySem.W.kitOne K p.1 (.ref (gA K p.2)) = some false
  kt : PySem.W.kitOne K (.ref (CRt K)) (.type "tuple") = some false
  ri : ∃ fd, FunD K "__init__" "Ratio.__init__" (defArgs (mth 18 0)) (defBody (mth 18 0)) (defScope (mth 18 0)) [.int 1] [] (mA K "Ratio" "__init__") fd
  rm : Mk K (CRt K) (mA K "Ratio" "__init__")
  cr : ∀ x ∈ clNames, ClX.CRead K (gA K x) (.type "type")
  ro : ∃ p g fd, ClX.CMet K (CRt K) (.type "type") "of" p g ∧ FunD K "of" "Ratio.of" (defArgs (mth 18 1)) (defBody (mth 18 1)) (defScope (mth 18 1)) [] [] g fd
  mo : ∃ p g fd, ClX.CMet K (CRm K) (.type "type") "of" p g ∧ FunD K "of" "Room.of" (defArgs (mth 42 1)) (defBody (mth 42 1)) (defScope (mth 42 1)) [] [] g fd
  so : ∃ p g fd, ClX.CMet K (CSt K) (.type "type") "of" p g ∧ FunD K "of" "Setting.of" (defArgs (mth 45 1)) (defBody (mth 45 1)) (defScope (mth 45 1)) [] [] g fd
  nc : ∀ x ∈ nClNames, PySem.W.findIn K (.ref (gA K x)) "__contains__" = some (some (.ref (mA K "Named" "__contains__"))) ∧ PySem.W.isFn K (.ref (mA K "Named" "__contains__")) = true
  ng : ∀ x ∈ nClNames, PySem.W.findIn K (.ref (gA K x)) "__getitem__" = some (some (.ref (mA K "Named" "__getitem__"))) ∧ PySem.W.isFn K (.ref (mA K "Named" "__getitem__")) = true ∧ PySem.W.fnIn K (mA K "Named" "__getitem__") = true
  np : ∃ p g fd, PropOf K (CRm K) "names" p g ∧ FunD K "names" "Named.names" (defArgs (mth 10 1)) (defBody (mth 10 1)) (defScope (mth 10 1)) [] [] g fd
  nfi : PySem.W.notFirst K (CRt K) (.type "NoneType") = true
  ml : ∃ t, mg "MOST_LETTERS" = some (.int 8 t)
  lt : ∃ t, mg "LETTERS" = some (.str "abcdefghijklmnopqrstuvwxyz" t)
  na : ∀ p ∈ naNames, NoAttr K (gA K p.1) p.2
  m : ∀ p ∈ mNames, Meth K (gA K p.1) p.2 (mA K p.1 p.2)
end Bf
end

section
set_option Elab.async false
set_option linter.all false
set_option maxRecDepth 100000
set_option maxHeartbeats 0
/-! the head's facts as Bools; the run -/
namespace Bf
open PySem PySem.Spec PyProof.Rows L2
abbrev PrG : Program := PySem.Challenge.rw_betweenfaces_k12_whole_rooms_meet.prog
abbrev RW : PySem.W.OpenRow := PySem.W.OpenLaw.row PySem.Challenge.rw_betweenfaces_k12_whole_rooms_meet
def ciB (K : PySem.W.Frag) (x : Str) : Bool := (He.Fa.cls x).ok K && (He.eqO (PySem.W.findIn K (.ref (gA K x)) "__class__") (some (some (.builtin "object.__class__"))) && (He.eqO (PySem.W.specialIn K (.builtin "object.__class__") "__get__") (some (some (.builtin "getset_descriptor.__get__"))) &&
  (decide (PySem.W.takesIn K (.builtin "object.__class__") = some true) && decide (PySem.W.mroIn K (gA K x) (.type "object") = some true))))
def crB (K : PySem.W.Frag) (x : Str) : Bool := PySem.W.readsIn K (gA K x) (.type "type") && He.eqO (PySem.W.specialIn K (.ref (gA K x)) "__getattribute__") (some (some (.builtin "type.__getattribute__")))
abbrev ofF (K : PySem.W.Frag) (x : Str) : Addr := He5.wf K (gA K x) "classmethod" "of"
def cmB (K : PySem.W.Frag) (x : Str) : Bool := He5.wrapB K (gA K x) "classmethod" "classmethod.__get__" "of" && PySem.W.fnIn K (ofF K x)
def ncB (K : PySem.W.Frag) (x : Str) : Bool := He.eqO (PySem.W.findIn K (.ref (gA K x)) "__contains__") (some (some (.ref (mA K "Named" "__contains__")))) && PySem.W.isFn K (.ref (mA K "Named" "__contains__"))
def ngB (K : PySem.W.Frag) (x : Str) : Bool := He.eqO (PySem.W.findIn K (.ref (gA K x)) "__getitem__") (some (some (.ref (mA K "Named" "__getitem__")))) && (PySem.W.isFn K (.ref (mA K "Named" "__getitem__")) && PySem.W.fnIn K (mA K "Named" "__getitem__"))
abbrev nmF (K : PySem.W.Frag) : Addr := He5.wf K (gA K "Room") "property" "names"
def npB (K : PySem.W.Frag) : Bool := He.eqO (PySem.W.findIn K (.ref (CRm K)) "names") (some (some (.ref (mA K "Room" "names")))) && (He.eqO (PySem.W.specialIn K (.ref (mA K "Room" "names")) "__get__") (some (some (.builtin "property.__get__"))) &&
  (decide (PySem.W.takesIn K (.ref (mA K "Room" "names")) = some true) && (match PySem.W.recIn K (mA K "Room" "names") "property" with
    | some (.ref _ :: _) => true
    | _ => false)))
abbrev KwO : Type := Option (Str × Str × Arguments × FuncBody × Scope × Addr × List Str × Addr)
def kwO (K : PySem.W.Frag) (C : Str) : KwO := match K.lookup (mA K C "__init__") with
  | some ⟨_, _, .func fd, _⟩ => some (fd.name, fd.qualname, fd.params, fd.body, fd.scope, fd.globals, fd.closure.map (·.1), fd.builtins)
  | _ => none
def kwL : List (Str × Str × Nat) := [("Room", "Room.__init__", 42), ("Setting", "Setting.__init__", 45)]
def kwV (k : Str × Str × Nat) : KwO := some ("__init__", k.2.1, defArgs (mth k.2.2 0), .stmts (defBody (mth k.2.2 0)), defScope (mth k.2.2 0), mainGlobals, ["__class__"], builtinsNs)
def cellB (K : PySem.W.Frag) (C : Addr) : List (Str × Addr) → Bool
  | [(_, cc)] => (match K.lookup cc with
    | some ⟨_, _, .cell (some (.ref D)), _⟩ => decide (D = C)
    | _ => false)
  | _ => false
def codeB (K : PySem.W.Frag) : Value → Bool
  | .ref cda => (match K.lookup cda with
    | some ⟨_, _, .fields vs, _⟩ => (match (vs[2]? : Option Value) with
      | some (Value.str file _) => ((PrG.main.file : Str) == file)
      | _ => false)
    | _ => false)
  | _ => false
def nonB : Value → Bool
  | .none => true
  | _ => false
def kwB (K : PySem.W.Frag) (k : Str × Str × Nat) : Bool := match K.lookup (mA K k.1 "__init__") with
  | some ⟨_, _, .func fd, _⟩ => PySem.W.codeIn K fd.code k.2.1 && (nonB fd.defaults && (nonB fd.kwdefaults && (cellB K (gA K k.1) fd.closure && codeB K fd.code)))
  | _ => false
def supB (K : PySem.W.Frag) (k : Str × Str × Nat) : Bool := (PySem.W.clsIn K (gA K k.1)).isSome && (decide (PySem.W.mroIn K (gA K k.1) (.ref (gA K k.1)) = some true) && (He.eqO (PySem.W.nsIn K cStatics "thirdparty.any") (some none) &&
  (He.eqO (PySem.W.ks_superIn K (gA K k.1) (gA K k.1) "__init__") (some (some (.ref (mA K "Named" "__init__")))) && (decide (PySem.W.typeIn K (.ref (mA K "Named" "__init__")) = some (.type "function")) && (PySem.W.fnIn K (mA K "Named" "__init__") && (He.Fa.mkr k.1).ok K)))))
def dfs : List He5.DefA := (gDefs.map fun p => (⟨fun K => gA K p.1, p.1, p.1, defArgs (top p.2), defBody (top p.2), defScope (top p.2), [], []⟩ : He5.DefA)) ++
  (mDefs.map fun q => (⟨fun K => mA K q.1 q.2.1, q.2.1, q.2.2.1, defArgs (mth q.2.2.2.1 q.2.2.2.2), defBody (mth q.2.2.2.1 q.2.2.2.2), defScope (mth q.2.2.2.1 q.2.2.2.2), [], []⟩ : He5.DefA)) ++
  [⟨fun K => mA K "Ratio" "__init__", "__init__", "Ratio.__init__", defArgs (mth 18 0), defBody (mth 18 0), defScope (mth 18 0), [.int 1], []⟩,
   ⟨fun K => ofF K "Ratio", "of", "Ratio.of", defArgs (mth 18 1), defBody (mth 18 1), defScope (mth 18 1), [], []⟩,
   ⟨fun K => ofF K "Room", "of", "Room.of", defArgs (mth 42 1), defBody (mth 42 1), defScope (mth 42 1), [], []⟩,
   ⟨fun K => ofF K "Setting", "of", "Setting.of", defArgs (mth 45 1), defBody (mth 45 1), defScope (mth 45 1), [], []⟩,
   ⟨fun K => nmF K, "names", "Named.names", defArgs (mth 10 1), defBody (mth 10 1), defScope (mth 10 1), [], []⟩]
def exL (K : PySem.W.Frag) : List Bool := [
  gNames.all fun x => (He.Fa.glo x).ok K,
  bNames.all fun x => (He.Fa.free x).ok K,
  gNames.all fun x => PySem.W.keepIn K (.ref (gA K x)),
  clNames.all (ciB K),
  kitNo.all fun p => decide (PySem.W.kitOne K p.1 (.ref (gA K p.2)) = some false),
  decide (PySem.W.kitOne K (.ref (CRt K)) (.type "tuple") = some false),
  (He.Fa.mkr "Ratio").ok K,
  clNames.all (crB K),
  clNames.all (cmB K),
  nClNames.all (ncB K),
  nClNames.all (ngB K),
  npB K,
  PySem.W.notFirst K (CRt K) (.type "NoneType"),
  (He.Fa.int "MOST_LETTERS" 8).ok K,
  (He.Fa.str "LETTERS" "abcdefghijklmnopqrstuvwxyz").ok K,
  naNames.all fun p => (He.Fa.noat p.1 p.2).ok K,
  mNames.all fun p => (He.Fa.meth p.1 p.2).ok K,
  kwL.all (kwB K),
  kwL.all (supB K),
  PySem.W.selfFirst K (CRm K),
  He.eqO (PySem.W.findIn K (.ref (CRm K)) "__ne__") (some (some (.builtin "object.__ne__"))),
  dfs.all fun d => d.ok K]
abbrev AlB : Type := Bool × List He.FnW × List KwO
def obsB (K : PySem.W.Frag) : AlB := ((exL K).all id, dfs.map fun d => He5.fnA K (d.at_ K), kwL.map fun k => kwO K k.1)
def valB : AlB := (true, dfs.map He5.DefA.val, kwL.map kwV)
def SaysB (K : PySem.W.Frag) : Prop := obsB K = valB
/-- what such an object names, as far as the facts ask -/
def refsM (o : Obj) : List Addr := match o.data with
  | .cls cd => [cd.ns]
  | .dict es _ => es.toList.flatMap fun e => He.refV e.val
  | .func fd => He.refV fd.code ++ (He.refV fd.defaults ++ fd.closure.map (·.2))
  | .fields vs => (match o.cls with
    | .type n => (match decide (n = "classmethod") || decide (n = "property") with
      | true => vs.toList.flatMap He.refV
      | false => [])
    | _ => [])
  | _ => []
def nxM (g : Addr → Option Obj) (l : List Addr) : List Addr := l.flatMap fun a => match g a with
  | some o => refsM o
  | none => []
def namM : List Str := "Named" :: gNames
def l1M (g : Addr → Option Obj) : List Addr := namM.map fun x => gA (He.frG g [mainGlobals, cStatics]) x
def asM (g : Addr → Option Obj) : List Addr := mainGlobals :: cStatics :: (l1M g ++ (nxM g (l1M g) ++ (nxM g (nxM g (l1M g)) ++ (nxM g (nxM g (nxM g (l1M g))) ++ nxM g (nxM g (nxM g (nxM g (l1M g))))))))
def obsBG (_ : Nat) (g : Addr → Option Obj) : AlB := obsB (He.frG g (asM g))
def hookB (n : Nat) : PySem.W.Hook where
  α := AlB
  obs := fun s => obsBG n s.heap.get?
  val := fun _ => valB
  says := fun _ h => ∃ K : PySem.W.Frag, K.In h ∧ SaysB K
  of := fun _ _ e => ⟨_, He.frG_in, e⟩
  keeps := fun _ _ _ ⟨K, hK, c⟩ k => ⟨K, PySem.W.Frag.In.keeps hK k, c⟩
theorem obsBG_eq {n : Nat} {g : Addr → Option Obj} {s : Shared} (h : ∀ a, g a = s.heap.get? a) : obsBG n g = (hookB n).obs s := by
  have e : g = s.heap.get? := funext h
  rw [e] <;> rfl
def loose1 : List Str := ["_wall", "__name__", "FaceError", "InvalidRatio", "InvalidSetting", "InvalidRoom", "InvalidText", "MissingError", "UnknownAxis", "Named", "FIGURES", "MOST_FIGURES", "is_integer", "divisor", "is_written", "is_ratio_text", "Ratio", "is_number", "least", "greatest", "LETTERS", "MOST_LETTERS", "is_axis_name", "number_in", "numbers_in", "named_numbers", "place_in", "span_in"]
def loose2 : List Str := ["fresh", "Line", "line_of", "collected_in", "span_of", "need_spans", "put_into", "shared_span", "span_value", "span_text", "Room", "need_places", "Setting", "_law_pen", "_law_draw", "_law_span", "_law_spans", "_law_room", "_law_met", "_law_bare", "_law_settings", "_law_pair_right", "_law_three_right"]
def loose : List Str := loose1 ++ loose2
def ob (s : PySem.W.SharedT) : AlB := obsBG 6 (HandSHeadRun.getT s)
theorem ob_eq (s : PySem.W.SharedT) : ob s = (hookB 6).obs s.abs := obsBG_eq (HandSHeadRun.getT_eq s)
theorem run (w : World) : HandSHeadRun.RunEq RW (PySem.W.view RW.prog [57]) (hookB 6) ob 6000 loose w := by
  intro os
  kernel_rfl
end Bf
end

section
set_option Elab.async false
set_option linter.all false
set_option maxRecDepth 100000
/-! super().__init__(e) in a def of a class; a def __init__(self, **nm) -/
namespace Bf
open PySem PySem.Spec PyProof.Rows L2

/-- what the written part tells about a def that says super().__init__(..): C = D its class, g the def that is meant -/
structure SupF (prog : Program) (K : PySem.W.Frag) (C f cc cda g : Addr) : Prop where
  fn : ∃ (o : Obj) (fd : FuncData) (ar : Arg), K.lookup f = some o ∧ o.data = .func fd ∧ (fd.params.posonlyargs ++ fd.params.args).head? = some ar ∧ ar.arg = "self"
  code : ∃ (o : Obj) (vs : Array Value) (file : Str) (tf : Tok), K.lookup cda = some o ∧ o.data = .fields vs ∧ vs[2]? = some (.str file tf) ∧ ((prog.main.file : Str) == file) = true
  cell : ∃ o : Obj, K.lookup cc = some o ∧ o.data = .cell (some (.ref C))
  cls : ∃ cd, PySem.W.clsIn K C = some cd
  sub : PySem.W.mroIn K C (.ref C) = some true
  opq : PySem.W.nsIn K cStatics "thirdparty.any" = some none
  meth : PySem.W.ks_superIn K C C "__init__" = some (some (.ref g))
  mty : PySem.W.typeIn K (.ref g) = some (.type "function")
  fi : PySem.W.fnIn K g = true
  top : (prog.main.scope.names.lookup ("super" : Str)).isSome = false

section
variable {X : Cx} {CX : CXT} {pins : List (Addr × Obj)} {σ : L2.St} {H : Hp} {s : Shared} {C dx f cc cda g x : Addr} {fs : List (Str × V)} {k : Nat} {sp : Sp} {E : XK} {e : Expr} {te : TE} {p0 p1 apos cpos pos : Pos} {body : List Stmt}
theorem st_super (T : SupF X.prog X.K C f cc cda g) (hfu : X.env.func = some f) (hco : X.env.code = .ref cda) (hcl : X.env.cells.lookup ("__class__" : Str) = some cc)
    (hks : X.env.kindOf "super" = some .globalImplicit) (hms : X.mg "super" = none) (hkc : X.env.kindOf "__class__" = some .free) (hka : X.env.kindOf "self" = some .local) (hN : X.N[0]? = some ("self" : Str))
    (F : FnR X.prog X.w X.K X.mg X.base CX k g sp) (hr : Room k X.A) (hxp : Passes CX X E) (he : PE X e te)
    (hst : starEach [e] X.env = (false, eval e X.env) :: starEach [] X.env) (hsw : swapsWith (.Call (.Attribute (.Call (.Name "super" p0) [] [] p1) "__init__" apos) [e] [] cpos) none pos.line X.env = pure false)
    (hte : eval (.Call (.Attribute (.Call (.Name "super" p0) [] [] p1) "__init__" apos) [e] [] cpos) X.env = (do
      let ov ← attributeBase (.Call (.Name "super" p0) [] [] p1) "__init__" X.env (eval (.Call (.Name "super" p0) [] [] p1) X.env)
      standAt apos.atName
      let (f, first) ← holding [ov] (getMethod ov "__init__" (pure false))
      callWith cpos f first (backTo cpos (starEach [e] X.env)) []))
    (I : Inv X pins σ H s) (h0 : σ[0]? = some (some (.ref x))) (hi : H x = some (.ins C dx fs)) {D : Ends}
    (h : te σ H fun y H1 => sp [.ref x, y] H1 (fun _ H2 => D.nx σ H2) E) :
    _root_.PySem.wpAt (model X.prog X.w) X.A (.func body X.env) (exec (.Expr (.Call (.Attribute (.Call (.Name "super" p0) [] [] p1) "__init__" apos) [e] [] cpos) pos) X.env) (SP X pins D) X.xe s := by
  obtain ⟨of, fd, ar, hf, hfd, hp, har⟩ := T.fn
  obtain ⟨oc, vs, file, tf, hc, hcd, hvs, hfile⟩ := T.code
  obtain ⟨ol, hl, hld⟩ := T.cell
  obtain ⟨cd, hcls⟩ := T.cls
  have XK := I.kIn
  obtain ⟨oD, hD1, hD2⟩ : ∃ oD, s.heap.get? C = some oD ∧ oD.data = .cls cd := by
    have q := hcls
    unfold PySem.W.clsIn at q
    split at q
    · rename_i c d cd' sl' ho
      cases q
      exact ⟨_, XK _ _ ho, rfl⟩
    · cases q
  obtain ⟨og, hg1, hg2⟩ : ∃ of, s.heap.get? g = some of ∧ of.cls = .type "function" := by
    have ht' : (X.K.lookup g).map (·.cls) = some (.type "function") := T.mty
    cases z : X.K.lookup g with
    | none => rw [z] at ht'; cases ht'
    | some of => rw [z] at ht'; exact ⟨of, XK _ _ z, Option.some.inj ht'⟩
  obtain ⟨od, J⟩ := insAt I hi
  obtain ⟨m, hn, hloc⟩ := I.loc
  obtain ⟨u, ru, hlk⟩ := hloc 0 "self" (.ref x) hN h0 (.inl hka)
  obtain rfl : u = Value.ref x := ru
  have hmx : m "self" = some (.ref x) := by
    rcases hlk with ⟨_, q⟩ | ⟨q, _⟩
    · exact q
    · rw [hka] at q
      rcases q with q | q <;> cases q
  obtain ⟨mb, hb1, hb2⟩ := I.mod.blt
  have noCls : ∀ c, (PySem.W.instObj C dx).data ≠ .cls c := fun c q => nomatch q
  have hall : (fun (s' : Shared) => Inv X pins σ H s') s := I
  refine PySem.ks_wpAt_Expr_any ?_ I.quiet hsw
  refine PySem.ks_wpAt_MethodCall (pl := pure false) ?_ hte
  refine PySem.ks_wpAt_super_base (env := X.env) hks hkc (by decide +kernel) hfu (XK _ _ hf) hfd hp hco (XK _ _ hc) hcd hvs hfile T.top ?_
  refine PySem.W.ks_loadName_global I.ok.kind hks (Calls.loadGlobal_builtin (by rw [I.ok.glob]; exact I.mod.glob.keeps I.bk) hms (by rw [I.ok.blt]; exact hb1.keeps I.bk) ((hb2 _ (by decide +kernel)).trans (show bootBuiltins "super" = some (.type "super") from by decide +kernel)) ⟨rfl, ?_⟩)
  refine wpAny_loadName_free I.ok.kind hkc hcl ⟨_, XK _ _ hl, hld⟩ ?_
  rw [har]
  refine wpAny_loadName_local I.ok.kind hka hn hmx ?_
  obtain ⟨hh, gs, dr, tk, os⟩ := s
  refine PySem.ks_wpAny_isType_cls hD1 hD2 ⟨rfl, ?_⟩
  refine PySem.ks_wpAny_call_super hD1 hD2 J.at_ rfl noCls (PySem.W.looks_mroIn XK T.sub) fun h' hso kp => ?_
  have I1 : Inv X pins σ H ⟨h', gs, dr, tk, os⟩ := I.kept (t' := tk) kp
  have hm := T.meth
  unfold PySem.W.ks_superIn at hm
  rw [hcls] at hm
  refine PySem.ks_wpAny_getMethod_super hso (PySem.W.looks_opaque I1.kIn T.opq) (l₀ := cd.mro) (fun A Q E s k q => wpAny_bind ((PySem.W.looks_clsIn I1.kIn hcls) A _ E s k (wpAny_pure q))) rfl I1.kIn hm (kp _ _ hg1) hg2 (PySem.W.ks_ne XK J hcls) (by decide +kernel) ?_
  have I2 : Inv X ((h'.objs.size, PySem.W.methodObj (.ref g) (.ref x)) :: pins) σ H ⟨h'.push (PySem.W.methodObj (.ref g) (.ref x)), gs, dr, tk + 1, os⟩ :=
    ClX.pin_new I1 (fun _ _ z => Heap.get?_push_of_some _ z) (Nat.le_refl _) (Heap.get?_push_size h' rfl) (fun v z => nomatch z)
  refine ClX.callwith_cm (s := ⟨h'.push (PySem.W.methodObj (.ref g) (.ref x)), gs, dr, tk + 1, os⟩) I2 (ClX.base_none I1 (Nat.le_refl _)) T.fi ?_ hst rfl
  rw [hst]
  refine Calls.spliced_cons (thn (he.run _ _ σ H _ I2 h) fun v s3 ⟨y, H2, I3, rv, q2⟩ => Calls.spliced_nil ⟨⟨ClX.pin_at I3, I3.kIn⟩, ?_⟩)
  refine thn (ClX.run_cm (us := [v]) (vs := [y]) F hr hxp I3 (.cons rv .nil) q2) fun r s4 ⟨z, H4, I4, rz, q4⟩ => ?_
  exact ⟨σ, H4, I4, q4⟩
end
end Bf
end

section
set_option Elab.async false
set_option linter.all false
set_option maxRecDepth 100000
/-! a def __init__(self, **nm) whose body says st1; super().__init__(e) -/
namespace Bf
open PySem PySem.Spec PyProof.Rows L2

abbrev KVs : List (Str × V) → List (Str × Value) → Prop := KV (κ := Str)
abbrev keyd (kw : List (Str × V)) : List (Key × V) := kw.map fun p => (Sum.inr p.1, p.2)
/-- the promise of a def(self, **nm) -/
abbrev SpKw := V → List (Str × V) → Hp → VK → XK → Prop
def FnKw (P : Program) (w : World) (K : PySem.W.Frag) (mg : Str → Option Value) (base : Heap) (k : Nat) (f : Addr) (sp : SpKw) : Prop :=
  ∀ (A : Around) (outer : List Env) (s : Shared) (H : Hp) (u : Value) (x : V) (kwU : List (Str × Value)) (kw : List (Str × V)) (Q : VK) (E : XK), Room k A → Env0 P w K mg base A outer s H → RelV x u → KVs kw kwU → sp x kw H Q E →
    codeAny (model P w) A (.call (.ref f) ⟨[u], kwU⟩) (CR CX0 outer P w H s Q E) s

abbrev kenv (qual : Str) (scope : Scope) (L f cda cc : Addr) (nm : Str) : Env := PySem.W.envX qual scope L f (.ref cda) [(nm, L + 1), ("__class__", cc)]
structure KScope (scope : Scope) (nm : Str) (cc : Addr) : Prop where
  kind : scope.kind = .function
  co : scope.isCoroutine = false
  gen : scope.isGenerator = false
  self : scope.names.lookup ("self" : Str) = some .local
  kw : scope.names.lookup nm = some .cell
  cl : scope.names.lookup ("__class__" : Str) = some .free
  n1 : nm ≠ "self"
  n2 : nm ≠ "__class__"
  cell : ∀ y, scope.names.lookup y = some .cell → y = nm
  free : ∀ y, scope.names.lookup y = some .free → y = "__class__"
  lay : ∀ n, cellsFrom n scope.names [("__class__", cc)] = [(nm, n), ("__class__", cc)]
  push : ∀ h, pushCells h scope.names = h.push { cls := .type "cell", data := .cell none }
def kcx (P : Program) (w : World) (K : PySem.W.Frag) (mg : Str → Option Value) (base : Heap) (qual : Str) (scope : Scope) (f cda cc : Addr) (nm : Str) (A : Around) (outer : List Env) (s : Shared) (H : Hp) : Cx where
  prog := P
  w := w
  K := K
  mg := mg
  base := base
  A := A.deeper (kenv qual scope s.heap.objs.size f cda cc nm)
  N := ["self", nm, "name"]
  s_0 := s
  H_0 := H
  env := kenv qual scope s.heap.objs.size f cda cc nm
  outer := outer
  stack := kenv qual scope s.heap.objs.size f cda cc nm :: outer
  ex := []
  calm := true
  fn := fun y => y == nm
  pn := []
  xe := fun e s' => wpAny (model P w) (A.deeper (kenv qual scope s.heap.objs.size f cda cc nm)) (leaving (kenv qual scope s.heap.objs.size f cda cc nm) e) (fun _ _ => False) (fun _ _ => False) s'

section
variable {P : Program} {w : World} {M : Model} {K : PySem.W.Frag} {mg : Str → Option Value} {base : Heap} {qual nm : Str} {scope : Scope} {f cda cc : Addr} {A : Around} {outer : List Env} {s : Shared} {H : Hp} {E : Value → Shared → Prop} {u d : Value}
theorem newEnvK (S : KScope scope nm cc) {Q : Env → Shared → Prop}
    (h : ∀ h' tk, h'.Ns s.heap.objs.size (fun y => if y = "self" then some u else none) → h'.IsCell (s.heap.objs.size + 1) (some d) → (∀ b o, s.heap.get? b = some o → h'.get? b = some o) → Q (kenv qual scope s.heap.objs.size f cda cc nm) { s with heap := h', toks := tk }) :
    wpAny M A (newFunctionEnv scope mainGlobals [("__class__", cc)] [("self", u), (nm, d)] (qual ++ ".<locals>.") (some f) (.ref cda) none builtinsNs) Q E s := by
  simp only [newFunctionEnv, Option.isSome_none, Bool.false_eq_true, if_false]
  refine wpAny_bind (wpAny_alloc ?_)
  refine wpAny_bind (wpAny_layCells _ (fun name kind cells => by cases hkc : kind == NameKind.cell <;> simp [hkc]) _ _ _ _ ?_)
  have e1 : (s.heap.push { cls := .type "frame", data := .dict #[] }).objs.size = s.heap.objs.size + 1 := Heap.size_push _ _
  rw [S.push, e1, S.lay]
  have nL : ((s.heap.push { cls := .type "frame", data := .dict #[] }).push { cls := .type "cell", data := .cell none }).Ns s.heap.objs.size (fun _ => none) :=
    ⟨{ cls := .type "frame", data := .dict #[] }, #[], _, Heap.get?_push_of_some _ (Heap.get?_push_size _ rfl), rfl, (fun e he => absurd he (by simp)), fun _ => rfl⟩
  have cL : ((s.heap.push { cls := .type "frame", data := .dict #[] }).push { cls := .type "cell", data := .cell none }).IsCell (s.heap.objs.size + 1) none := by
    refine ⟨({ cls := .type "cell", data := .cell none } : Obj), ?_, rfl⟩
    have := Heap.get?_push_size (s.heap.push { cls := .type "frame", data := .dict #[] }) (o := ({ cls := .type "cell", data := .cell none } : Obj)) rfl
    rw [e1] at this
    exact this
  have kp : ∀ b o, s.heap.get? b = some o → ((s.heap.push { cls := .type "frame", data := .dict #[] }).push { cls := .type "cell", data := .cell none }).get? b = some o := fun b o q => Heap.get?_push_of_some _ (Heap.get?_push_of_some _ q)
  rw [List.forIn_cons]
  refine wpAny_bind (wpAny_bind (wpAny_bind (wpAny_storeName_local (env := kenv qual scope s.heap.objs.size f cda cc nm) (name := "self") S.self nL (fun h1 n1 b1 => wpAny_pure ?_) (by show (scope.kind == .class || _) = false; rw [S.kind]; rfl))))
  show wpAny M A (forIn [(nm, d)] _ _) _ E _
  rw [List.forIn_cons]
  have c1 := cL.sameBut b1 (Nat.succ_ne_self _)
  refine wpAny_bind (wpAny_bind (wpAny_storeName_cell (env := kenv qual scope s.heap.objs.size f cda cc nm) S.kind S.kw (c := s.heap.objs.size + 1) (by simp [List.lookup]) c1 (fun h2 c2 b2 => wpAny_pure ?_)))
  show wpAny M A (forIn [] _ _) _ E _
  rw [List.forIn_nil]
  refine wpAny_pure (wpAny_pure (h h2 _ (n1.sameBut b2 (Nat.ne_of_lt (Nat.lt_succ_self _))) c2 fun b o q => ?_))
  have hb := Heap.lt_size q
  have q1 : h1.get? b = some o := (b1.2 b (Nat.ne_of_lt hb)).trans (kp b o q)
  exact (b2.2 b (Nat.ne_of_lt (Nat.lt_succ_of_lt hb))).trans q1

/-- the state behind the frame's making is one of the layer's states -/
theorem inv_startK {h1 : Heap} {tk : Nat} {x y : V} (S : KScope scope nm cc) (hr : A.handled = none) (e0 : Env0 P w K mg base A outer s H) (rx : RelV x u) (ry : RelV y d) (hcK : ∃ o v, K.lookup cc = some o ∧ o.data = .cell v)
    (hn : h1.Ns s.heap.objs.size (fun y => if y = "self" then some u else none)) (hc : h1.IsCell (s.heap.objs.size + 1) (some d)) (kp : ∀ b o, s.heap.get? b = some o → h1.get? b = some o) :
    Inv (kcx P w K mg base qual scope f cda cc nm A outer s H) [] [some x, some y, none] H { s with heap := h1, toks := tk } := by
  have noA : ∀ b : Addr, b ∉ (kcx P w K mg base qual scope f cda cc nm A outer s H).ex := fun b z => absurd (show b ∈ ([] : List Addr) from z) (by simp)
  obtain ⟨oc, vc, hk, hv⟩ := hcK
  have kin : base.get? cc = some oc := e0.mod.kin _ _ hk
  have hcc : s.heap.get? cc = some oc ∧ H cc = none := e0.bs _ _ kin
  have lt : cc < s.heap.objs.size := Heap.lt_size hcc.1
  have look : ∀ y c, (kcx P w K mg base qual scope f cda cc nm A outer s H).env.cells.lookup y = some c → (y = nm ∧ c = s.heap.objs.size + 1) ∨ (y = "__class__" ∧ c = cc) := fun y c z => by
    have z' := PySem.mem_of_lookup (show List.lookup y [(nm, s.heap.objs.size + 1), (("__class__" : Str), cc)] = some c from z)
    simp only [List.mem_cons, Prod.mk.injEq, List.not_mem_nil, or_false] at z'
    exact z'
  have l1 : (kcx P w K mg base qual scope f cda cc nm A outer s H).env.cells.lookup nm = some (s.heap.objs.size + 1) := by
    show List.lookup nm [(nm, s.heap.objs.size + 1), (("__class__" : Str), cc)] = _
    simp [List.lookup]
  have l2 : (kcx P w K mg base qual scope f cda cc nm A outer s H).env.cells.lookup ("__class__" : Str) = some cc := by
    show List.lookup ("__class__" : Str) [(nm, s.heap.objs.size + 1), (("__class__" : Str), cc)] = _
    have : (("__class__" : Str) == nm) = false := beq_eq_false_iff_ne.mpr (Ne.symm S.n2)
    simp [List.lookup, this]
  refine ⟨⟨e0.mod, S.kind, rfl, rfl, Nat.le_refl _, fun y z c h1 h2 => ?_, fun y hy => ?_, fun y c hf h => ?_, fun _ => hr, Around.frames_deeper e0.frames, .inr ⟨rfl, rfl⟩, fun b z => absurd z (noA b), e0.bs, e0.bsz, fun b _ _ => noA b, fun b z => absurd z (noA b), e0.funs, e0.frf⟩,
    rfl, e0.bare, Un.kept kp, ⟨_, hn, fun i y v h1 h2 h3 => ?_⟩, fun y c h => ?_, e0.hok.fresh (Nat.le_refl _), fun y c h => ?_, fun p hp => absurd (show p ∈ ([] : List (Addr × Obj)) from hp) (by simp), e0.hok.kept kp, rfl⟩
  · rcases look y c h1 with ⟨a1, b1⟩ | ⟨a1, b1⟩ <;> rcases look z c h2 with ⟨a2, b2⟩ | ⟨a2, b2⟩
    · exact a1.trans a2.symm
    · exact absurd (b1.symm.trans b2) (Nat.ne_of_gt (Nat.lt_succ_of_lt lt))
    · exact absurd (b2.symm.trans b1) (Nat.ne_of_gt (Nat.lt_succ_of_lt lt))
    · exact a1.trans a2.symm
  · rcases hy with hy | hy
    · rw [S.cell y hy]; exact ⟨_, l1⟩
    · rw [S.free y hy]; exact ⟨_, l2⟩
  · rcases look y c h with ⟨a1, b1⟩ | ⟨a1, b1⟩
    · rw [b1]; exact Nat.le_succ _
    · have hf' : (y == nm) = true := hf
      rw [a1] at hf'
      exact absurd (beq_iff_eq.mp hf').symm S.n2
  · match i, h1, h2 with
    | 0, h1, h2 =>
      have e1 : ("self" : Str) = y := Option.some.inj h1
      subst e1
      have e2 : x = v := Option.some.inj (Option.some.inj h2)
      subst e2
      exact ⟨u, rx, .inl ⟨S.self, if_pos rfl⟩⟩
    | 1, h1, h2 =>
      have e1 : nm = y := Option.some.inj h1
      subst e1
      have e2 : _ = v := Option.some.inj (Option.some.inj h2)
      subst e2
      exact ⟨d, ry, .inr ⟨.inl S.kw, _, l1, hc⟩⟩
    | 2, _, h2 => exact nomatch (Option.some.inj h2)
    | i + 3, h1, _ =>
      exact absurd h1 (by show ¬ ((["self", nm, "name"] : List Str)[i + 3]? = some y); simp)
  · rcases look y c h with ⟨a1, b1⟩ | ⟨a1, b1⟩
    · rw [b1]; exact ⟨_, hc⟩
    · rw [b1]; exact ⟨_, oc, kp _ _ hcc.1, hv⟩
  · rcases look y c h with ⟨a1, b1⟩ | ⟨a1, b1⟩
    · rw [b1]; exact e0.hok.fresh (Nat.le_succ _)
    · rw [b1]; exact hcc.2
/-- the dict of the keywords is tracked -/
theorem kwDict {h' : Heap} {a : Addr} {kw : List (Str × V)} {kwU : List (Str × Value)} {t n : Nat} (hz : kw.length ≤ 1000) (ha : (a == sysModules) = false) (r : KVs kw kwU) (hn : (kwU.map (·.1)).Nodup) (ho : h'.get? a = some (dO (PySem.W.kwEs w.params t kwU) n)) {H' : Hp} :
    ObjOk P w H' h' a (.dK (keyd kw)) := by
  have len := Paired.length r
  refine ⟨by rw [List.length_map, sizeLine_eq]; omega, ha, kwU.map (fun p => (Sum.inr p.1, p.2)), ?_, _, (PySem.W.kwEs w.params t kwU).toArray, n, ho, ⟨rfl, rfl, rfl⟩, rfl, fun e he => ?_, ?_, ?_⟩
  · clear hn ho len hz
    induction r with
    | nil => exact .nil
    | cons a t ih => exact .cons ⟨congrArg Sum.inr a.1, a.2⟩ ih
  · obtain ⟨k, u, hk, hh⟩ := PySem.W.kwEs_key kwU t e (List.mem_toArray.mp he)
    exact ⟨Sum.inr k, by rw [hk]; exact mixKind_str P w k u, hh⟩
  · have go : ∀ (ex : List (Str × Value)) (t : Nat), Pairs (mixKind P w) (PySem.W.kwEs w.params t ex) (ex.map (fun p => ((Sum.inr p.1 : Key), p.2))) := by
      intro ex
      induction ex with
      | nil => intro t; exact Pairs.nil
      | cons x r ih => intro t; exact Pairs.cons (mixKind_str P w x.1 t) rfl (ih (t + 1))
    exact go kwU t
  · rw [List.map_map]
    have e : ((fun x : Key × Value => x.1) ∘ fun p : Str × Value => ((Sum.inr p.1 : Key), p.2)) = (fun s : Str => (Sum.inr s : Key)) ∘ (fun p : Str × Value => p.1) := rfl
    rw [e, ← List.map_map]
    exact List.Pairwise.map _ (fun a b hab q => hab (Sum.inr.inj q)) hn
end
section
variable {P : Program} {w : World} {K : PySem.W.Frag} {mg : Str → Option Value} {base : Heap} {k : Nat} {f C cc cda g : Addr} {nm qual : Str} {e : Expr} {st1 : Stmt} {p0 p1 p2 p3 apos cpos pos : Pos} {scope : Scope} {doc pm ct oc : Value} {an od : Option Addr} {osl : Array (Option Value)} {spN : Sp}
abbrev superSt (e : Expr) (p0 p1 apos cpos pos : Pos) : Stmt := .Expr (.Call (.Attribute (.Call (.Name "super" p0) [] [] p1) "__init__" apos) [e] [] cpos) pos
theorem fn_kw (lk : K.lookup f = some ⟨oc, od, .func (PySem.W.fnX "__init__" qual (kwParams p2 p3 nm) [st1, superSt e p0 p1 apos cpos pos] scope [("__class__", cc)] .none .none doc pm an (.ref cda) ct), osl⟩)
    (hcd : PySem.W.codeIn K (.ref cda) qual = true) (S : KScope scope nm cc) (T : SupF P K C f cc cda g) (hsu : scope.names.lookup ("super" : Str) = some .globalImplicit) (hms : mg "super" = none)
    (F : FnR P w K mg base CX0 k g spN) (spB : V → Addr → Hp → VK → Prop)
    (hsw : ∀ env, swapsWith (.Call (.Attribute (.Call (.Name "super" p0) [] [] p1) "__init__" apos) [e] [] cpos) none pos.line env = pure false)
    (hst : ∀ env, starEach [e] env = (false, eval e env) :: starEach [] env)
    (hte : ∀ env, eval (.Call (.Attribute (.Call (.Name "super" p0) [] [] p1) "__init__" apos) [e] [] cpos) env = (do
      let ov ← attributeBase (.Call (.Name "super" p0) [] [] p1) "__init__" env (eval (.Call (.Name "super" p0) [] [] p1) env)
      standAt apos.atName
      let (f, first) ← holding [ov] (getMethod ov "__init__" (pure false))
      callWith cpos f first (backTo cpos (starEach [e] env)) []))
    (hbody : ∀ (A : Around) (outer : List Env) (s : Shared) (H : Hp) (x : V) (d : Addr) (Q : VK), Room k (A.deeper (kenv qual scope s.heap.objs.size f cda cc nm)) → spB x d H Q →
      ∃ (t1 : TS) (te : TE), PS (kcx P w K mg base qual scope f cda cc nm A outer s H) st1 t1 ∧ PE (kcx P w K mg base qual scope f cda cc nm A outer s H) e te ∧
        t1 { nx := fun σ H1 => ∃ a dx fs, σ[0]? = some (some (.ref a)) ∧ H1 a = some (.ins C dx fs) ∧ te σ H1 fun y H2 => spN [.ref a, y] H2 (fun _ H3 => Q .non H3) E0, rt := fun _ _ => False } [some x, some (.ref d), none] H) :
    FnKw P w K mg base (k + 1) f (fun x kw H Q _ => kw.length ≤ 1000 ∧ (kw.map (·.1)).Nodup ∧ (∀ p ∈ kw, p.1 ≠ "self") ∧ ∀ d, H d = none → spB x d (upd H d (.dK (keyd kw))) Q) := by
  intro A outer s H u x kwU kw Q E hr e0 rx r ⟨hz, hnd, hns, hq⟩
  have KX : K.In s.heap := e0.mod.kin.keeps fun b o e => (e0.bs b o e).1
  have hlen := Paired.length r
  have hkeys : kw.map (·.1) = kwU.map (·.1) := by
    clear hz hnd hns hq hlen
    induction r with
    | nil => rfl
    | cons a t ih => rw [List.map_cons, List.map_cons, a.1, ih]
  have hkU : ∀ y ∈ kwU, y.1 ≠ "self" := fun y hy => by
    have : y.1 ∈ kw.map (·.1) := by rw [hkeys]; exact List.mem_map_of_mem hy
    obtain ⟨p, hp, e⟩ := List.mem_map.mp this
    rw [← e]
    exact hns p hp
  have hnU : (kwU.map (·.1)).Nodup := by rw [← hkeys]; exact hnd
  refine codeAny_call_function hr.depth (KX _ _ lk) rfl S.co S.gen rfl (PySem.W.codeRec_of KX hcd) ?_
  refine bindKw rfl rfl hkU (by omega) hnU fun h' ho kp => ?_
  have hn : H s.heap.objs.size = none := e0.hok.fresh (Nat.le_refl _)
  have big : sysModules < s.heap.objs.size := StX.env0_big e0
  have dok : ObjOk P w (upd H s.heap.objs.size (.dK (keyd kw))) h' s.heap.objs.size (.dK (keyd kw)) :=
    kwDict hz (beq_eq_false_iff_ne.mpr (Nat.ne_of_gt big)) r hnU ho
  have e2 : Env0 P w K mg base A outer { s with heap := h', toks := s.toks + kwU.length } (upd H s.heap.objs.size (.dK (keyd kw))) := by
    refine ⟨e0.frames, e0.mod, fun b o e => ⟨kp b o (e0.bs b o e).1, ?_⟩, ?_, Heap.FunFrames.of_keeps (fun b o e _ => ⟨o, kp b o e, rfl⟩) e0.funs, fun b hb => ?_, e0.hok.laid kp (Nat.le_refl _) dok, e0.bare⟩
    · rw [upd_ne (Nat.ne_of_lt (Heap.lt_size (e0.bs b o e).1))]
      exact (e0.bs b o e).2
    · exact Nat.le_of_lt (Nat.lt_of_le_of_lt e0.bsz (Heap.lt_size ho))
    · obtain ⟨_, o, ho2, _⟩ := e0.funs.mem hb
      rw [upd_ne (Nat.ne_of_lt (Heap.lt_size ho2))]
      exact e0.frf b hb
  have un : Un (frs outer) [] H (upd H s.heap.objs.size (.dK (keyd kw))) s.heap h' := Un.laid kp (Nat.le_refl _) hn
  refine newEnvK (s := { s with heap := h', toks := s.toks + kwU.length }) S fun h2 tk2 hN hC kp2 => ?_
  have lim : h'.NoLimit := e0.mod.nolimit.keeps fun b o e => (e2.bs b o e).1
  refine ⟨lim.keeps kp2, PySem.ks_codeAny_funcAt ?_⟩
  have hcK : ∃ o v, K.lookup cc = some o ∧ o.data = .cell v := let ⟨o, a, b⟩ := T.cell; ⟨o, _, a, b⟩
  have I := inv_startK (P := P) (w := w) (qual := qual) (f := f) (cda := cda) (tk := tk2) (y := V.ref s.heap.objs.size) S hr.hd e2 rx rfl hcK hN hC kp2
  have hrd : Room k (A.deeper (kenv qual scope h'.objs.size f cda cc nm)) := hr.deeper _
  obtain ⟨t1, te, hp1, hpe, ht⟩ := hbody A outer { s with heap := h', toks := s.toks + kwU.length } _ x s.heap.objs.size Q hrd (hq _ hn)
  have nm2 : (("__class__" : Str) == nm) = false := beq_eq_false_iff_ne.mpr (Ne.symm S.n2)
  have fin : ∀ (σ' : L2.St) (H' : Hp) (s' : Shared), Inv (kcx P w K mg base qual scope f cda cc nm A outer { s with heap := h', toks := s.toks + kwU.length } (upd H s.heap.objs.size (.dK (keyd kw)))) [] σ' H' s' → Q .non H' → CR CX0 outer P w H s Q E (.ok (.ret .none)) s' :=
    fun σ' H' s' J q => ⟨.non, H', J.os, J.bare, un.trans J.base, J.hok, rfl, q⟩
  refine PySem.ks_wpAt_mono (Q := fun (fl : Flow) s' => fl = .next ∧ ∃ σ' H', Inv (kcx P w K mg base qual scope f cda cc nm A outer { s with heap := h', toks := s.toks + kwU.length } (upd H s.heap.objs.size (.dK (keyd kw)))) [] σ' H' s' ∧ Q .non H') (E := (kcx P w K mg base qual scope f cda cc nm A outer { s with heap := h', toks := s.toks + kwU.length } (upd H s.heap.objs.size (.dK (keyd kw)))).xe) ?_ (fun fl s' hs => ?_) (fun e s' hs => wpAny_mono hs (fun _ _ z => z.elim) fun _ _ z => z.elim)
  · refine PySem.ks_wpAt_execs_cons (PySem.ks_wpAt_mono (PySem.wpAt_of_wpAny (hp1.run [] _ _ _ _ I ht)) (fun fl s3 q => ?_) fun _ _ z => z)
    cases fl with
    | ret v =>
      obtain ⟨_, _, _, _, _, q⟩ := q
      exact False.elim q
    | brk =>
      obtain ⟨_, _, _, q⟩ := q
      exact False.elim q
    | cont =>
      obtain ⟨_, _, _, q⟩ := q
      exact False.elim q
    | next =>
      obtain ⟨σ3, H3, I3, a, dx, fs, h0, hi, q3⟩ := q
      refine PySem.ks_wpAt_execs_cons (PySem.ks_wpAt_mono (st_super (X := kcx P w K mg base qual scope f cda cc nm A outer { s with heap := h', toks := s.toks + kwU.length } (upd H s.heap.objs.size (.dK (keyd kw)))) (D := { nx := fun _ H => Q .non H, rt := fun _ _ => False }) (E := E0) T rfl rfl (by show List.lookup ("__class__" : Str) [(nm, _), (("__class__" : Str), cc)] = _; simp [List.lookup, nm2]) hsu hms S.cl S.self rfl F hrd pass0 hpe (hst _) (hsw _) (hte _) I3 h0 hi q3) (fun fl s4 q4 => ?_) fun _ _ z => z)
      cases fl with
      | ret v =>
        obtain ⟨_, _, _, _, _, q⟩ := q4
        exact False.elim q
      | brk =>
        obtain ⟨_, _, _, q⟩ := q4
        exact False.elim q
      | cont =>
        obtain ⟨_, _, _, q⟩ := q4
        exact False.elim q
      | next =>
        obtain ⟨σ4, H4, I4, q5⟩ := q4
        exact PySem.wpAt_of_wpAny (wpAny_execs_nil ⟨rfl, σ4, H4, I4, q5⟩)
  · obtain ⟨rfl, σ', H', J, q⟩ := hs
    exact fin σ' H' s' J q
end
end Bf
end

section
set_option Elab.async false
set_option linter.all false
set_option maxRecDepth 100000
/-! C(), C(**e) where C's __init__ is a def(self, **nm) -/
namespace Bf
open PySem PySem.Spec PyProof.Rows L2
section
variable {X : Cx} {pins : List (Addr × Obj)} {σ : L2.St} {H : Hp} {s : Shared} {C f : Addr} {k : Nat} {sp : SpKw} {x : Str} {p pos kpos : Pos} {e : Expr} {te : TE}
theorem run_makeKw {Q : VK} {kw : List (Str × V)} {kwU : List (Str × Value)} (M : Mk X.K C f) (F : FnKw X.prog X.w X.K X.mg X.base k f sp) (hr : Room (k + 1) X.A) (I : Inv X pins σ H s) (r : KVs kw kwU)
    (h : ∀ x dx, H x = none → H dx = none → dx ≠ x → sp (.ref x) kw (upd (upd H dx (.own x)) x (.ins C dx [])) (fun v H2 => v = .non ∧ Q (.ref x) H2) E0) :
    wpAny (model X.prog X.w) X.A (call (.ref C) [] kwU) (EP X pins σ Q) X.xe s := by
  have hq := h (s.heap.objs.size + 1) s.heap.objs.size (I.hok.fresh (Nat.le_succ _)) (I.hok.fresh (Nat.le_refl _)) (Nat.ne_of_lt (Nat.lt_succ_self _))
  have I2 := Inv.made (C := C) I
  refine wpAny_call (make_map (f := f) I.kIn M.makes M.init (beq_iff_eq.mp M.fn) (codeAny_mono (F _ X.stack _ _ (Value.ref (s.heap.objs.size + 1)) (V.ref (s.heap.objs.size + 1)) kwU kw _ E0 (hr.make C [] kwU) (I2.env0.make C [] kwU) rfl r hq) fun r s' hq' => ?_))
  cases r with
  | error e => exact False.elim hq'
  | ok fl =>
    cases fl with
    | ret u =>
      obtain ⟨v, H', I3, rv, ev, q3⟩ := I2.after hq'
      subst ev
      exact ⟨rv, ⟨V.ref (s.heap.objs.size + 1), H', I3, rfl, q3⟩⟩
    | next => exact False.elim hq'
    | brk => exact False.elim hq'
    | cont => exact False.elim hq'
def tMakeKw0 (C : Addr) (sp : SpKw) : TE := fun _ H Q => ∀ x dx, H x = none → H dx = none → dx ≠ x → sp (.ref x) [] (upd (upd H dx (.own x)) x (.ins C dx [])) (fun v H2 => v = .non ∧ Q (.ref x) H2) E0
theorem pe_makeKw0 (M : Mk X.K C f) (F : FnKw X.prog X.w X.K X.mg X.base k f sp) (hr : Room (k + 1) X.A) (hg : Gl X x) (hm : X.mg x = some (.ref C)) (hdb : (x == ("__debug__" : Str)) = false := by decide) : PE X (.Call (.Name x p) [] [] pos) (tMakeKw0 C sp) := by
  refine ⟨fun pins s σ H Q I h => ?_⟩
  refine wpAny_Call_Name_kw (ld_glob I hg hm ?_ hdb)
  exact PySem.W.callWith_K0 I.kIn M.kp (run_makeKw (kwU := []) M F hr I .nil h)
end

section
variable {prog : Program} {w : World} {A : Around} {E : Value → Shared → Prop} {s : Shared}
/-- the entries of a dict all whose keys are texts, as keywords -/
def kwOf (es : List DictEntry) : List (Str × Value) := es.map fun e => (match e.key with | .str x _ => x | _ => Str.empty, e.val)
theorem kwIn {fv : Value} {d : Addr} {o : Obj} {es : Array DictEntry} {ep : Nat} {Q : List (Str × Value) → Shared → Prop} (ho : s.heap.get? d = some o) (hd : o.data = .dict es ep) (hk : ∀ e ∈ es.toList, ∃ x t, e.key = .str x t)
    (h : Q (kwOf es.toList) s) : wpAny (model prog w) A (keywordsIn fv d) Q E s := by
  unfold keywordsIn
  refine wpAny_bind (wpAny_dictEntries ho hd ?_)
  obtain ⟨l⟩ := es
  simp only [List.forIn_toArray]
  refine wpAny_bind (wpAny_forIn_list _ (fun rest b s' => s' = s ∧ ∃ done, l = done ++ rest ∧ b = kwOf done) _ ?turn ?fin l _ ⟨rfl, [], rfl, rfl⟩)
  case turn =>
    rintro e rest b s' ⟨rfl, done, el, rfl⟩
    obtain ⟨x, t, ex⟩ := hk e (by show e ∈ l; rw [el]; simp)
    rw [ex]
    refine wpAny_pure ⟨rfl, done ++ [e], by rw [el, List.append_assoc]; rfl, ?_⟩
    unfold kwOf
    rw [List.map_append, List.map_cons, List.map_nil, ex]
  case fin =>
    rintro b s' ⟨rfl, done, el, rfl⟩
    rw [List.append_nil] at el
    subst el
    exact wpAny_pure h
def kName (e : DictEntry) : Str := match e.key with | .str x _ => x | _ => Str.empty
/-- entries whose keys are texts, each with its hash, no text twice -/
structure TxtEs (w : World) (es : List DictEntry) : Prop where
  key : ∀ e ∈ es, ∃ x t, e.key = .str x t ∧ e.hash = PyData.keyHash w.params x
  nd : (es.map kName).Nodup
theorem kwOf_eq (es : List DictEntry) : kwOf es = es.map fun e => (kName e, e.val) := rfl
theorem mergeInto {d m : Addr} {om : Obj} {es : Array DictEntry} {ep n : Nat} {Q : Unit → Shared → Prop} (hdm : d ≠ m) (hm : (m == sysModules) = false) (ho : s.heap.get? m = some om) (hx : om.ExactDict) (hod : om.data = .dict es ep) (T : TxtEs w es.toList) (hz : es.size ≤ 1000)
    (hd : s.heap.get? d = some (dO [] n)) (h : ∀ h' n', h'.get? d = some (dO es.toList n') → (∀ b o, b ≠ d → s.heap.get? b = some o → h'.get? b = some o) → Q () { s with heap := h' }) :
    wpAny (model prog w) A (mergeMapping d (.ref m) true) Q E s := by
  have hT : s.TypeIs (.ref m) "dict" := ⟨om, ho, hx.1⟩
  obtain ⟨l⟩ := es
  unfold mergeMapping
  refine wpAny_bind (m := isInstance (.ref m) (.type "dict")) (wpAny_isInstance hT isSubtype_dict_dict ?_)
  refine wpT rfl ?_
  refine wpAny_bind (m := specialOf (.ref m) (Str.ofString "__iter__")) (wpAny_specialOf hT PySem.F.slot_dict_iter.lookup (wpAny_bind (wpAny_pure ?_)))
  dsimp only
  rw [show (some (Value.builtin "dict.__iter__") == some (Value.builtin "dict.__iter__")) = true from by simp]
  dsimp only
  refine wpF (by rw [hm]; exact Bool.false_ne_true) ?_
  refine wpAny_bind (m := dictEntries d) (wpAny_dictEntries hd rfl ?_)
  refine wpT rfl ?_
  refine wpAny_bind (m := dictEntries m) (wpAny_dictEntries ho hod ?_)
  simp only [List.forIn_toArray]
  refine wpAny_bind (wpAny_forIn_list _ (fun rest _ s' => s' = s ∧ ∃ done, l = done ++ rest) _ ?turn1 ?fin1 l _ ⟨rfl, [], rfl⟩)
  case turn1 =>
    rintro e rest b s' ⟨rfl, done, el⟩
    obtain ⟨x, t, ex, _⟩ := T.key e (by show e ∈ l; rw [el]; simp)
    rw [ex]
    exact wpAny_pure ⟨rfl, done ++ [e], by rw [el, List.append_assoc]; rfl⟩
  case fin1 =>
    rintro b s' ⟨es', -⟩
    rw [es']
    refine wpAny_bind (m := dictEntries m) (wpAny_dictEntries ho hod ?_)
    refine wpAny_bind (m := dictEpoch m) (wpAny_dictEpoch ho hod ?_)
    refine wpAny_bind (wpAny_forIn_list _ (fun rest _ s' => ∃ i h' n', rest = (List.range l.length).drop i ∧ i ≤ l.length ∧ s' = { s with heap := h' } ∧ h'.get? d = some (dO (l.take i) n') ∧ (∀ b o, b ≠ d → s.heap.get? b = some o → h'.get? b = some o)) _ ?turn2 ?fin2 _ _ ⟨0, s.heap, n, rfl, Nat.zero_le _, rfl, hd, fun _ _ _ q => q⟩)
    case turn2 =>
      rintro i rest b s' ⟨j, h', n', hr, hj, rfl, hd', kp⟩
      have hlt : j < l.length := by
        rcases Nat.lt_or_ge j l.length with q | q
        · exact q
        · rw [List.drop_of_length_le (by simpa using q)] at hr
          cases hr
      rw [List.drop_eq_getElem_cons (by simpa using hlt)] at hr
      injection hr with hi hrest
      rw [List.getElem_range] at hi
      subst hi
      have hom : h'.get? m = some om := kp m om (Ne.symm hdm) ho
      obtain ⟨x, t, ex, eh⟩ := T.key l[i] (List.getElem_mem hlt)
      refine wpAny_bind (m := dictEntries m) (wpAny_dictEntries hom hod ?_)
      rw [show l.toArray[i]? = some l[i] from by simp [hlt]]
      dsimp only
      refine wpAny_bind (wpAny_holding ?_)
      refine wpT trivial ?_
      have hkey : (mixKind prog w).is (Sum.inr x) l[i].key = true := by rw [ex]; exact mixKind_str prog w x t
      have hkk : KeysOf (mixKind prog w) (l.take i).toArray := fun e he => by
        obtain ⟨y, u, ey, eyh⟩ := T.key e (List.mem_of_mem_take (List.mem_toArray.mp he))
        exact ⟨Sum.inr y, by rw [ey]; exact mixKind_str prog w y u, eyh⟩
      have hnone : (l.take i).toArray.findIdx? (fun e => (mixKind prog w).is (Sum.inr x) e.key) = none := by
        rw [List.findIdx?_toArray, List.findIdx?_eq_none_iff]
        intro e he
        obtain ⟨y, u, ey, _⟩ := T.key e (List.mem_of_mem_take he)
        have hne : ¬ y = x := fun q => by
          have nd := T.nd
          have e1 : kName e = x := by unfold kName; rw [ey]; exact q
          have e2 : kName l[i] = x := by unfold kName; rw [ex]
          have sp : l = l.take i ++ l[i] :: l.drop (i + 1) := by rw [List.getElem_cons_drop, List.take_append_drop]
          have nd' : ((l.take i ++ l[i] :: l.drop (i + 1)).map kName).Nodup := by rw [← sp]; exact nd
          rw [List.map_append, List.map_cons, List.nodup_append] at nd'
          exact nd'.2.2 (kName e) (List.mem_map_of_mem he) (kName l[i]) List.mem_cons_self (e1.trans e2.symm)
        rw [ey]
        show Value.isStrOf x (.str y u) = false
        simp [Value.isStrOf, hne]
      have eh' : l[i].hash = (mixKind prog w).hash (Sum.inr x) := eh
      rw [eh']
      refine wpAny_bind (m := dictFind d _ _) (wpAny_dictFind_of (s := { s with heap := h' }) hkey hd' rfl hkk ?_)
      rw [hnone]
      refine wpF (by simp) ?_
      unfold dictPut
      refine wpAny_bind (m := dictFind d _ _) (wpAny_dictFind_of (s := { s with heap := h' }) hkey hd' rfl hkk ?_)
      rw [hnone]
      have hsz : (l.take i).toArray.size ≤ sizeLine := by
        have := List.length_take_le i l
        have hz' : l.length ≤ 1000 := hz
        rw [List.size_toArray, sizeLine_eq]
        omega
      refine wpAny_updateDictKeys (hz := hsz) (s := { s with heap := h' }) hd' rfl ?_
      refine wpAny_bind (m := dictEpoch m) (wpAny_dictEpoch (s := { s with heap := h'.update d _ }) ((Heap.get?_update_ne _ _ _ _ (Ne.symm hdm)).trans hom) hod ?_)
      refine wpF (by simp) (wpAny_pure ⟨i + 1, _, n' + 1, hrest, hlt, rfl, ?_, fun b o hb q => (Heap.get?_update_ne _ _ _ _ hb).trans (kp b o hb q)⟩)
      have eo : Obj.mapDictKeys (fun x_1 => x_1.push { hash := (mixKind prog w).hash (Sum.inr x), key := l[i].key, val := l[i].val }) (dO (l.take i) n') = dO (l.take (i + 1)) (n' + 1) := by
        show ({ cls := .type "dict", dict := none, data := .dict ((l.take i).toArray.push _) (n' + 1) } : Obj) = _
        rw [← eh', List.push_toArray]
        show dO (l.take i ++ [l[i]]) (n' + 1) = _
        rw [List.take_append_getElem]
      have := Heap.get?_update_self (Obj.mapDictKeys fun x_1 => x_1.push { hash := (mixKind prog w).hash (Sum.inr x), key := l[i].key, val := l[i].val }) hd' (by rw [eo]; rfl)
      rw [eo] at this
      exact this
    case fin2 =>
      rintro b s' ⟨j, h', n', hr, hj, rfl, hd', kp⟩
      have hj' : j = l.length := by
        have := congrArg List.length hr
        simp at this
        omega
      rw [hj', List.take_length] at hd'
      exact wpAny_pure (h h' n' hd' kp)
theorem noRaise {α : Type} {M : Model} {m : Sem α} {k : Value → Sem Unit} {Q : α → Shared → Prop} (h : wpAny M A m Q (fun _ _ => False) s) : wpAny M A (m.onRaise k) Q E s :=
  wpAny_onRaise (wpAny_mono h (fun _ _ z => z) fun _ _ z => z.elim)
theorem noCatch {α : Type} {M : Model} {m : Sem α} {k : Value → Sem α} {Q : α → Shared → Prop} (h : wpAny M A m Q (fun _ _ => False) s) : wpAny M A (m.tryCatch k) Q E s :=
  wpAny_tryCatch (wpAny_mono h (fun _ _ z => z) fun _ _ z => z.elim)
theorem callDD {K : PySem.W.Frag} {fv : Value} {x : Sem Value} {pos : Pos} {Q : Value → Shared → Prop} (hk : PySem.W.keepIn K fv = true)
    (h : wpAny (model prog w) A (evalArgs fv true [] [(none, x)]) (fun a s₁ => K.In s₁.heap ∧ wpAny (model prog w) A (call fv a.pos a.kw) Q E s₁) E s) :
    wpAny (model prog w) A (callWith pos fv [] [] [(none, x)]) Q E s := by
  unfold callWith
  refine wpAny_bind (wpAny_holding (wpAny_mono h (fun a s₁ h₁ => wpAny_bind (wpAny_standAt ?_)) fun _ _ x => x))
  obtain ⟨k, hk', L⟩ := PySem.W.keeps_K (M := model prog w) hk _ h₁.1
  have hst : ((([] : List (Bool × Sem Value)).any (·.1)) || ([((none : Option Str), x)].any (·.1.isNone))) = true := rfl
  simp only [hst]
  refine wpAny_bind (L.here ?_)
  have tail : ∀ {t : Sem Value}, wpAny (model prog w) A t Q E s₁ → wpAny (model prog w) A (t >>= fun r => holding [r] point >>= fun _ => pure r) Q E s₁ :=
    fun ht => wpAny_bind (wpAny_mono ht (fun r s₂ hr => wpAny_bind (wpAny_holding (wpAny_point (wpAny_pure hr)))) fun _ _ x => x)
  have marked (mk : Value) : wpAny (model prog w) A (callMarked mk fv ([] ++ a.pos) a.kw) Q E s₁ := by unfold callMarked; exact Calls.wpAny_keep h₁.2
  rcases hk' with rfl | rfl | rfl <;> dsimp only <;> first | exact tail (marked _) | exact tail (wpAny_operating h₁.2)
theorem argsDD {fv : Value} {x : Sem Value} {Q : Args → Shared → Prop}
    (h : wpAny (model prog w) A x (fun v s₁ => ∃ (m : Addr) (om : Obj) (es : Array DictEntry) (ep n : Nat), v = .ref m ∧ s.heap.objs.size ≠ m ∧ (m == sysModules) = false ∧ s₁.heap.get? m = some om ∧ om.ExactDict ∧ om.data = .dict es ep ∧ TxtEs w es.toList ∧ es.size ≤ 1000 ∧
      s₁.heap.get? s.heap.objs.size = some (dO [] n) ∧ ∀ h', (∀ b o, b ≠ s.heap.objs.size → s₁.heap.get? b = some o → h'.get? b = some o) → (∃ o, h'.get? s.heap.objs.size = some o) → Q ⟨[], kwOf es.toList⟩ { s₁ with heap := h' }) E { s with heap := s.heap.push (dO [] 0) }) :
    wpAny (model prog w) A (evalArgs fv true [] [(none, x)]) Q E s := by
  unfold evalArgs
  refine wpAny_bind (wpAny_of_eq (a := []) rfl (wpAny_bind (wpAny_pure ?_)))
  refine wpAny_holding ?_
  refine wpF (by simp) ?_
  unfold mergedKeywords
  refine wpAny_bind (wpAny_bind (wpAny_alloc ?_))
  refine wpAny_bind (wpAny_holding ?_)
  refine wpAny_bind ?_
  rw [List.forIn_cons]
  refine wpAny_bind ?_
  refine wpAny_bind (m := (if ([] : List (Str × Sem Value)).isEmpty = true then pure () else _)) (wpT rfl (wpAny_pure ?_))
  refine wpAny_bind (wpAny_mono h (fun v s₁ h₁ => ?_) fun _ _ z => z)
  obtain ⟨m, om, es, ep, n, rfl, hdm, hm, ho, hx, hod, T, hz, hd, hq⟩ := h₁
  have go : ∀ (h' : Heap) (n' : Nat), h'.get? s.heap.objs.size = some (dO es.toList n') → (∀ b o, b ≠ s.heap.objs.size → s₁.heap.get? b = some o → h'.get? b = some o) →
      wpAny (model prog w) A (keywordsIn fv s.heap.objs.size) (fun kw s2 => Q ⟨[], kw⟩ s2) E { s₁ with heap := h' } := fun h' n' hd' kp =>
    kwIn (s := { s₁ with heap := h' }) hd' rfl (fun e he => by
      obtain ⟨x, t, ex, _⟩ := T.key e (by simpa using he)
      exact ⟨x, t, ex⟩) (by
      have := hq h' kp ⟨_, hd'⟩
      simpa using this)
  refine wpAny_bind ?_
  refine noRaise (wpAny_holding (noCatch (noRaise (mergeInto hdm hm ho hx hod T hz hd fun h' n' hd' kp => ?_))))
  refine wpAny_pure ?_
  show wpAny (model prog w) A (forIn ([] : List (Option Str × Sem Value)) _ _) _ E _
  rw [List.forIn_nil]
  refine wpAny_pure ?_
  refine wpT rfl (wpAny_pure (wpAny_pure ?_))
  refine wpAny_bind (wpAny_pure ?_)
  refine wpAny_bind (wpAny_holding (wpAny_mono (go h' n' hd' kp) (fun kw s2 q => wpAny_pure q) fun _ _ z => z))
end
section
variable {X : Cx} {pins : List (Addr × Obj)} {σ : L2.St} {H : Hp} {s : Shared} {C f : Addr} {k : Nat} {sp : SpKw} {x : Str} {p pos kpos : Pos} {e : Expr} {te : TE}
theorem pairs_txt {P : Program} {w : World} {es : List DictEntry} {vs : List (Key × Value)} (p : Pairs (mixKind P w) es vs) : ∀ {kw : List (Str × V)}, KV (keyd kw) vs → (∀ e ∈ es, ∃ k, (mixKind P w).is k e.key = true ∧ e.hash = (mixKind P w).hash k) →
    (∀ e ∈ es, ∃ x t, e.key = .str x t ∧ e.hash = PyData.keyHash w.params x) ∧ es.map kName = kw.map (·.1) ∧ KVs kw (kwOf es) := by
  induction p with
  | nil =>
    intro kw r _
    cases kw with
    | nil => exact ⟨fun e h => (nomatch h), rfl, Paired.nil⟩
    | cons a b =>
      have r' : Paired (fun (p : Key × V) (q : Key × Value) => p.1 = q.1 ∧ RelV p.2 q.2) ((Sum.inr a.1, a.2) :: keyd b) [] := r
      cases r'
  | @cons e kv es vs h1 h2 t ih =>
    intro kw r hk
    cases kw with
    | nil =>
      have r' : Paired (fun (p : Key × V) (q : Key × Value) => p.1 = q.1 ∧ RelV p.2 q.2) [] (kv :: vs) := r
      cases r'
    | cons a b =>
      have r' : Paired (fun (p : Key × V) (q : Key × Value) => p.1 = q.1 ∧ RelV p.2 q.2) ((Sum.inr a.1, a.2) :: keyd b) (kv :: vs) := r
      cases r' with
      | cons r0 rt =>
        obtain ⟨r1, r2⟩ := r0
        obtain ⟨i1, i2, i3⟩ := ih rt fun e he => hk e (List.mem_cons_of_mem _ he)
        have r1' : (Sum.inr a.1 : Key) = kv.1 := r1
        rw [← r1'] at h1
        obtain ⟨tk, ek⟩ := Value.isStrOf_shape (x := a.1) (v := e.key) h1
        obtain ⟨k', hk1, hk2⟩ := hk e List.mem_cons_self
        have e1 : k' = Sum.inr a.1 := (mixKind P w).inj e.key _ _ hk1 h1
        rw [e1] at hk2
        have en : kName e = a.1 := by
          unfold kName
          rw [ek]
        refine ⟨fun e' he => ?_, ?_, Paired.cons ⟨?_, ?_⟩ i3⟩
        · rcases List.mem_cons.mp he with q | q
          · rw [q]; exact ⟨a.1, tk, ek, hk2⟩
          · exact i1 e' q
        · rw [List.map_cons, List.map_cons, i2, en]
        · exact en.symm
        · show RelV a.2 e.val
          rw [h2]
          exact r2
/-- C(**e) -/
def tMakeDD (C : Addr) (sp : SpKw) (te : TE) : TE := fun σ H Q => te σ H fun y H1 => ∃ (m : Addr) (kw : List (Str × V)), y = .ref m ∧ Rd H1 m (.dK (keyd kw)) ∧ kw.length ≤ 1000 ∧
  ∀ x dx, H1 x = none → H1 dx = none → dx ≠ x → sp (.ref x) kw (upd (upd H1 dx (.own x)) x (.ins C dx [])) (fun v H2 => v = .non ∧ Q (.ref x) H2) E0
theorem pe_makeDD (M : Mk X.K C f) (F : FnKw X.prog X.w X.K X.mg X.base k f sp) (hr : Room (k + 1) X.A) (hg : Gl X x) (hm : X.mg x = some (.ref C)) (he : PE X e te) (hdb : (x == ("__debug__" : Str)) = false := by decide)
    (hkw : backToKw pos (keywordEach [⟨none, e, kpos⟩] X.env) = [(none, (do let v ← eval e X.env; standAt pos; pure v))] := by rfl) : PE X (.Call (.Name x p) [] [⟨none, e, kpos⟩] pos) (tMakeDD C sp te) := by
  refine ⟨fun pins s σ H Q I h => ?_⟩
  refine wpAny_Call_Name_kw (ld_glob I hg hm ?_ hdb)
  rw [hkw]
  show wpAny _ _ (callWith pos (.ref C) [] [] _) _ _ _
  refine callDD M.kp (argsDD ?_)
  have I1 : Inv X ((s.heap.objs.size, dO [] 0) :: pins) σ H { s with heap := s.heap.push (dO [] 0) } := ClX.pin_new (t' := s.toks) I (fun _ _ z => Heap.get?_push_of_some _ z) (Nat.le_refl _) (Heap.get?_push_size s.heap rfl) (fun v z => nomatch z)
  refine wpAny_bind (thn (he.run _ _ σ H _ I1 h) fun v s2 ⟨y, H2, I2, ry, m, kw, ey, hrd, hz, q⟩ => wpAny_bind (wpAny_standAt (wpAny_pure ?_)))
  subst ey
  obtain rfl : v = Value.ref m := ry
  obtain ⟨z, hsm, vs, rel, o, es, ep, ho, hx, hod, hks, hps, hnd⟩ := dk_rd I2.hok hrd
  have hpin := ClX.pin_at I2
  have hun := ClX.pin_un I2
  have hne : s.heap.objs.size ≠ m := fun q => by
    have q' : s.heap.objs.size = m := q
    rcases hrd with hrd | ⟨o, hrd⟩
    · rw [q'] at hun; rw [hun] at hrd; cases hrd
    · rw [q'] at hun; rw [hun] at hrd; cases hrd
  obtain ⟨t1, t2, t3⟩ := pairs_txt (kw := kw) hps rel fun e he => hks e (Array.mem_toList_iff.mp he)
  have hlen : es.size = kw.length := by
    have := congrArg List.length t2
    simpa using this
  have hnk : (kw.map (·.1)).Nodup := by
    have e1 : (keyd kw).map (·.1) = vs.map (·.1) := rel.keys
    have : ((keyd kw).map (·.1)).Nodup := by rw [e1]; exact hnd
    rw [List.map_map] at this
    have e2 : ((fun x : Key × V => x.1) ∘ fun p : Str × V => ((Sum.inr p.1 : Key), p.2)) = (fun s : Str => (Sum.inr s : Key)) ∘ (fun p : Str × V => p.1) := rfl
    rw [e2, ← List.map_map] at this
    exact List.Pairwise.of_map _ (fun a b hab q => hab (congrArg Sum.inr q)) this
  refine ⟨m, o, es, ep, 0, rfl, hne, hsm, ho, hx, hod, ⟨t1, by rw [t2]; exact hnk⟩, by omega, hpin, fun h' kp ho' => ?_⟩
  have hpL := I2.pin (s.heap.objs.size, dO [] 0) (List.mem_append_right _ List.mem_cons_self)
  have hpL' := I1.pin (s.heap.objs.size, dO [] 0) (List.mem_append_right _ List.mem_cons_self)
  have I3 : Inv X pins σ H2 s2 := ClX.unpin I2
  have I4 : Inv X pins σ H2 { s2 with heap := h' } := by
    refine I3.turned (it := s.heap.objs.size) (t' := s2.toks) (fun b o hb e => kp b o hb e) hun hpL.2.2.1 (.inr I.sz) (fun y c hc => ?_) (fun p hp => ?_)
    · obtain ⟨v, o, hco, hcd⟩ := I.cell y c hc
      exact Nat.ne_of_lt (Heap.lt_size hco)
    · exact Nat.ne_of_lt (Heap.lt_size (I.pin p hp).1)
  exact ⟨I4.kIn, run_makeKw M F hr I4 t3 q⟩
end
end Bf
end

section
set_option Elab.async false
set_option linter.all false
set_option maxRecDepth 100000
/-! a, *b, c = xs; [*a.items(), *b.items()]; tuple(d); None in d.values() -/
namespace Bf
open PySem PySem.Spec PyProof.Rows L2

/-! ### a, *b, c = xs -/
section
variable {prog : Program} {w : World} {A : Around} {E : Value → Shared → Prop} {s : Shared} {env : Env} {elts : List Expr} {k : Nat} {pos : Pos}
theorem starUn {l : Addr} {items : Array Value} {n i : Nat} {Q : List Value → Shared → Prop} (hl : s.heap.IsList l items) (hh : A.handled = none) (hi : i < n) (hn : n ≤ items.size + 1) (hz : items.size ≤ 16384)
    (h : ∀ (h' : Heap) (tk : Nat), (∀ b o, s.heap.get? b = some o → h'.get? b = some o) →
      Q (items.toList.take i ++ [.ref h'.objs.size] ++ (items.toList.drop i).drop (items.size + 1 - n)) { s with heap := h'.push { cls := .type "list", data := .seq ((items.toList.drop i).take (items.size + 1 - n)).toArray }, toks := tk }) :
    wpAny (model prog w) A (unpackItems (.ref l) n (some i)) Q E s := by
  have hlt : l ≠ s.heap.objs.size := by obtain ⟨o, ho, _⟩ := hl; exact Nat.ne_of_lt (Heap.lt_size ho)
  unfold unpackItems notIterableAtAll
  refine wpAny_bind (wpAny_bind (wpAny_specialOf hl.typeIs slot_list_iter.lookup (wpAny_pure ?_)))
  simp only [Bool.false_eq_true, if_false]
  refine wpAny_bind (wpAny_holding (wpAny_pyIter_list hl ?_))
  refine wpAny_bind (wpAny_holding (PySem.W.kun_draw hlt i 0 _ _ ⟨_, Heap.get?_push_size _ rfl, rfl, rfl⟩ (hl.push _) (by omega) fun h₁ it1 sb => ?_))
  have l1 : h₁.IsList l items := (hl.push _).extBut sb.extBut hlt
  rw [Nat.zero_add] at it1
  obtain ⟨oi, hoi, _⟩ := id it1
  obtain ⟨ol, hol, _⟩ := id l1
  rw [List.drop_zero]
  have tl : (items.toList.take i).length = i := by rw [List.length_take, Array.length_toList]; omega
  rw [if_neg (show ¬ ((items.toList.take i).length < i) by rw [tl]; omega)]
  refine wpAny_bind (wpAny_holding (PySem.W.kun_collect (s := { s with heap := h₁ }) (T := "list_iterator") (.inr (.inr (.inl rfl))) (Walks.list (A := A.in1) hh s.heap.objs.size l hlt items) (fun j u st => st.1.typeIs) (k := i) (by omega) ⟨it1, l1⟩ (Heap.lt_size hoi) (Heap.lt_size hol) (fun h₂ tk hk => ?_) (by rw [sizeLine_eq]; omega)))
  have rl : (items.toList.drop i).length = items.size - i := by rw [List.length_drop, Array.length_toList]
  have ml : (items.toList.drop i).length - (n - 1 - i) = items.size + 1 - n := by rw [rl]; omega
  show wpAny _ _ (if (items.toList.drop i).length < n - 1 - i then _ else _) _ _ _
  rw [if_neg (by rw [rl]; omega)]
  show wpAny _ _ (newList ((items.toList.drop i).take ((items.toList.drop i).length - (n - 1 - i))) >>= fun d => pure (items.toList.take i ++ [d] ++ (items.toList.drop i).drop ((items.toList.drop i).length - (n - 1 - i)))) _ _ _
  rw [ml]
  have kp : ∀ b o, s.heap.get? b = some o → h₂.get? b = some o := fun b o e => hk b o (Nat.ne_of_lt (Heap.lt_size e)) (sb.extBut b o (Nat.ne_of_lt (Heap.lt_size e)) (Heap.get?_push_of_some _ e))
  exact wpAny_bind (wpAny_newList (wpAny_pure (h h₂ tk kp)) (by rw [List.length_take, rl, sizeLine_eq]; omega))
end
/-- a, *b, c = xs, xs a list; i the place of the star, n the number of targets -/
def gStar (K : PySem.W.Frag) (n i : Nat) (t : TGs) : TG := fun v σ H Q => ∃ a xs, v = .ref a ∧ SqL K H a xs ∧ n ≤ xs.length + 1 ∧ xs.length ≤ 1000 ∧
  ∀ D, H D = none → t (xs.take i ++ [.ref D] ++ (xs.drop i).drop (xs.length + 1 - n)) σ (upd H D (.lst ((xs.drop i).take (xs.length + 1 - n)))) Q
section
variable {X : Cx}
theorem pg_star {elts names : List Expr} {t : TGs} {k n i : Nat} {pos : Pos} (hc : X.calm = true) (h : PGs X names t) (hi : i < n) (hlen : (assignEach elts X.env).length = n := by rfl) (hstar : (assignEach elts X.env).findIdx? (·.1) = some i := by rfl)
    (hsame : (assignEach elts X.env).map (·.2) = (assignEach names X.env).map (·.2) := by rfl) : PG X (.Tuple elts k pos) (gStar X.K n i t) := by
  refine ⟨fun pins s σ H v u Q I r hw => ?_⟩
  obtain ⟨a, xs, rfl, hl, hn, hz, q⟩ := hw
  obtain rfl : u = Value.ref a := r
  obtain ⟨its, rv, pl, _⟩ := I.list hl
  have ln : its.toArray.size = xs.length := by rw [List.size_toArray, ← rv.length]
  rw [assign_Tuple]
  refine wpAny_bind (wpAny_standAt ?_)
  unfold unpack
  rw [hlen, hstar]
  refine wpAny_bind (wpAny_holding (starUn pl.isList (I.ok.hd hc) hi (by rw [ln]; exact hn) (by rw [ln]; omega) fun h' tk kp => ?_))
  rw [ln, hsame]
  have I1 : Inv X pins σ H { s with heap := h', toks := tk } := I.kept kp
  have e : its.toArray.toList = its := by simp
  rw [e]
  have rm : Vals ((xs.drop i).take (xs.length + 1 - n)) ((its.drop i).take (xs.length + 1 - n)) := (rv.drop i).take _
  have I2 : Inv X pins σ (upd H h'.objs.size (.lst ((xs.drop i).take (xs.length + 1 - n)))) { s with heap := h'.push { cls := .type "list", data := .seq ((its.drop i).take (xs.length + 1 - n)).toArray }, toks := tk } := by
    refine I1.laid (t' := tk) (fun b o e => Heap.get?_push_of_some _ e) (Nat.le_refl _) ⟨?_, _, 0, rm, Heap.get?_push_size _ rfl⟩
    have := List.length_take_le (xs.length + 1 - n) (xs.drop i)
    have h2 : (xs.drop i).length ≤ xs.length := by rw [List.length_drop]; omega
    have h3 : ((xs.drop i).take (xs.length + 1 - n)).length ≤ (xs.drop i).length := by rw [List.length_take]; omega
    rw [sizeLine_eq]; omega
  exact h.run pins _ σ _ _ _ Q I2 (((rv.take i).append (.cons (show RelV (.ref h'.objs.size) (.ref h'.objs.size) from rfl) .nil)).append ((rv.drop i).drop _)) (q _ (I1.hok.fresh (Nat.le_refl _)))
end

/-! ### tuple(d) -/
section
variable {X : Cx}
theorem call_tupleD (hcalm : X.calm = true) : CallR X (.type "tuple") (fun xs H Q => ∃ (a : Addr) (kvs : List (Key × V)), xs = [.ref a] ∧ Rd H a (.dK kvs) ∧ ∀ p, H p = none → Q (.ref p) (upd H p (.tup (kvs.map fun kv => kV kv.1)))) := by
  rintro pins s σ H xs us Q I r ⟨a, kvs, rfl, hd, q⟩
  obtain ⟨u, rfl, rx⟩ := vals1 r
  obtain rfl : u = Value.ref a := rx
  obtain ⟨z, lo, vs, rel, dd⟩ := dk_rd I.hok hd
  obtain ⟨ep, hat⟩ := dd.dictAt
  have ek : (kvs.map fun kv => kV kv.1) = vs.map fun p => kV p.1 := by
    have e := congrArg (List.map kV) rel.keys
    rw [List.map_map, List.map_map] at e
    exact e
  have h16 : vs.length ≤ sizeLine := by rw [← rel.length]; exact z
  have code : codeAny (model X.prog X.w) X.A.in1 (.call (.builtin "tuple.__new__") ⟨[.type "tuple", .ref a], []⟩) (wants (fun obj s₁ => s₁.TypeIs obj "tuple" ∧ EP X pins σ Q obj s₁) X.xe) s := by
    refine codeAny_of_tree ?_
    show wpAny _ X.A.in1.in1 (do checkBuiltinCall "tuple.__new__" ⟨[.type "tuple", .ref a], []⟩; again (.builtin "tuple.__new__" ⟨[.type "tuple", .ref a], []⟩)) _ _ s
    refine wpAny_bind (wpAny_of_eq (PySem.F.newCall_tuple_1 _) (wpAny_pure ⟨plainId_quiet PySem.F.plain_tuple_new _, codeAny_builtin PySem.F.entry_tuple_new ?_⟩))
    rw [Around.under_plainId PySem.F.plain_tuple_new _]
    have hsub := sub_tuple_self
    have hinit := init_tuple_lookup
    have hmh := madeHere_tuple
    have hTI : s.TypeIs (.ref a) "dict" := dd.typeIs
    have hh1 : X.A.in1.in1.handled = none := I.ok.hd hcalm
    wp_walk using wpAny_typeOf hTI, PySem.W.kdu_collect (A := X.A.in1.in1) (PySem.W.kdl_dict (knd := mixKind X.prog X.w) (kvs := vs) (ep := ep) lo) hh1 hat h16
    intro h' tk acc hk hacc
    show wpAny _ _ (Builtin.Tuple.tupleExact acc.toList.toArray >>= fun v => ret v) _ _ _
    unfold Builtin.Tuple.tupleExact
    refine wpAny_bind (wpAny_newObj_type ?_ (by show acc.toList.toArray.size ≤ sizeLine; simp only [Array.toArray_toList]; rw [hacc.1]; exact h16))
    have hv : Vals (vs.map fun p => kV p.1) acc.toList := keys_at (by rw [Array.length_toList]; exact hacc.1) fun j v e => hacc.2 j v (by rw [← Array.getElem?_toList]; exact e)
    have I1 : Inv X pins σ H { s with heap := h', toks := tk } := I.kept hk
    have I2 : Inv X pins σ (upd H h'.objs.size (.tup (kvs.map fun kv => kV kv.1))) { s with heap := h'.push { cls := .type "tuple", data := .seq acc.toList.toArray }, toks := tk } :=
      I1.laid (t' := tk) (fun b o e => Heap.get?_push_of_some _ e) (Nat.le_refl _) (show ObjOk X.prog X.w _ _ _ (.tup _) from ⟨by rw [List.length_map]; exact z, acc.toList, by rw [ek]; exact hv, IsTup.new _ _⟩)
    exact wpAny_pure ⟨⟨_, Heap.get?_push_size _ rfl, rfl⟩, .ref h'.objs.size, _, I2, rfl, q _ (I1.hok.fresh (Nat.le_refl _))⟩
  refine callType_codes (Q₁ := fun obj s₁ => s₁.TypeIs obj "tuple" ∧ EP X pins σ Q obj s₁) PySem.F.called_tuple (PySem.F.typeCall_tuple_1 _) PySem.F.entry_object_init code fun obj s₁ h₁ => ?_
  exact ⟨h₁.1, PySem.F.args_object_init_2 obj _, object_init_meets PySem.F.called_tuple.init.lookup PySem.F.called_tuple.made (by decide) X.prog X.w X.A.in1 _ s₁ ⟨h₁.1, rfl, h₁.2⟩⟩
end
end Bf
end

section
set_option Elab.async false
set_option linter.all false
set_option maxRecDepth 100000
/-! *e.items() in a display; None in e.values() -/
namespace Bf
open PySem PySem.Spec PyProof.Rows L2

theorem pairs_at {P : Program} {w : World} {es : List DictEntry} {vs : List (Key × Value)} (p : Pairs (mixKind P w) es vs) : ∀ {j : Nat} {e : DictEntry}, es[j]? = some e → ∃ kv, vs[j]? = some kv ∧ keyIs kv.1 e.key = true ∧ e.val = kv.2 := by
  induction p with
  | nil => intro j e h; simp at h
  | @cons e0 kv0 es vs h1 h2 t ih =>
    intro j e h
    cases j with
    | zero =>
      simp only [List.getElem?_cons_zero, Option.some.injEq] at h
      subst h
      exact ⟨kv0, rfl, h1, h2⟩
    | succ j =>
      simp only [List.getElem?_cons_succ] at h
      obtain ⟨kv, e1, e2, e3⟩ := ih h
      exact ⟨kv, by simpa using e1, e2, e3⟩
section
variable {X : Cx}
theorem itemsLaid {pins : List (Addr × Obj)} {σ : L2.St} {H : Hp} {s : Shared} {h' : Heap} {tk lo : Nat} {kvs : List (Key × V)} {vs : List (Key × Value)} {es : Array DictEntry} {as : List Addr} (I : Inv X pins σ H s) (kv : KV kvs vs) (hp : Pairs (mixKind X.prog X.w) es.toList vs)
    (hk : ∀ b o, s.heap.get? b = some o → h'.get? b = some o) (hlo : s.heap.objs.size ≤ lo) (hl : as.length = es.size) (hG : PySem.W.DilG es lo h' as) :
    ∃ H' : Hp, Ext H H' ∧ Paired (fun (t : Addr) (q : Key × V) => H' t = some (.tup [kV q.1, q.2])) as kvs ∧ Inv X pins σ H' { s with heap := h', toks := tk } := by
  have lk : kvs.length = vs.length := Paired.length kv
  have lp : es.toList.length = vs.length := hp.length
  have nd : as.Nodup := List.Pairwise.imp (fun {a b} (h : a < b) => Nat.ne_of_lt h) hG.rise
  have new : ∀ t ∈ as, H t = none := fun t ht => I.hok.fresh (Nat.le_of_lt (Nat.lt_of_le_of_lt hlo (hG.above t ht)))
  have atP := LiI.putT_at as kvs H (by rw [hl, lk, ← lp, Array.length_toList]) nd
  have off : ∀ b, b ∉ as → LiI.putT H as kvs b = H b := fun b h1 => LiI.putT_off as kvs _ h1
  have low : ∀ b o, s.heap.get? b = some o → b ∉ as := fun b o e z => absurd (Heap.lt_size e) (Nat.not_lt.mpr (Nat.le_of_lt (Nat.lt_of_le_of_lt hlo (hG.above b z))))
  have kp : ∀ b u, H b = some u → LiI.putT H as kvs b = some u := fun b u e => by
    rw [off b (fun z => by rw [new b z] at e; cases e)]
    exact e
  refine ⟨LiI.putT H as kvs, kp, atP, ?_⟩
  refine I.call' (ch := []) rfl ⟨fun b o q _ _ _ => hk b o q, fun b o q _ _ _ => ⟨o.slots, hk b o q⟩, fun b o q n _ => ?_, fun b o q _ => ⟨o, hk b o q⟩, fun b xs q => kp b _ q, fun b o u q => kp b _ q, fun b ps q => ⟨#[], by rw [kp b _ q]; simp⟩⟩ (fun b u q => ?_) I.bare fun b z => by simp at z
  · rw [off b (low b o q)]
    exact n
  · by_cases hb : b ∈ as
    · obtain ⟨j, pk, e1, e2, e3⟩ := LiI.paired_ix atP hb
      rw [e3] at q
      cases q
      obtain ⟨hj, f3⟩ := hG.pairs j b e1
      obtain ⟨v0, f1, f2, f4⟩ := pairs_at hp (j := j) (e := es[j]) (by rw [Array.getElem?_toList]; exact Array.getElem?_eq_getElem hj)
      obtain ⟨qv, g1, g2, g3⟩ := LiI.paired_get kv e2
      rw [f1] at g1
      cases g1
      have rk : RelV (kV pk.1) es[j].key := by
        rw [g2]
        exact relV_key f2
      exact ⟨by show 2 ≤ sizeLine; decide, [es[j].key, es[j].val], .cons rk (.cons (by rw [f4]; exact g3) .nil), ⟨_, f3, rfl, _, rfl⟩⟩
    · rw [off b hb] at q
      exact (I.hok b u q).stay (fun d v _ y => hk d v y) (fun d y => kp d _ y) fun d xs y => kp d _ y

/-- *e.items() in front of other items -/
def tStarItems (te : TE) (t : TA) : TA := fun σ H Q => te σ H fun x H1 => ∃ (d : Addr) (kvs : List (Key × V)), x = .ref d ∧ Rd H1 d (.dK kvs) ∧
  ∀ (H2 : Hp) (ts : List Addr), Ext H1 H2 → Paired (fun (t : Addr) (q : Key × V) => H2 t = some (.tup [kV q.1, q.2])) ts kvs → t σ H2 fun ys H3 => Q (ts.map V.ref ++ ys) H3
theorem pa_starItems {e : Expr} {es : List Expr} {te : TE} {t : TA} {p apos cpos : Pos} (hc : X.calm = true) (he : PE X e te) (hr : PA X es t) (hbase : attributeBase e "items" X.env (eval e X.env) = eval e X.env := by rfl) (hline : (apos.endLine == cpos.line) = true := by rfl)
    (hs : starEach (.Starred (.Call (.Attribute e "items" apos) [] [] cpos) p :: es) X.env = (true, eval (.Call (.Attribute e "items" apos) [] [] cpos) X.env) :: starEach es X.env := by rfl) : PA X (.Starred (.Call (.Attribute e "items" apos) [] [] cpos) p :: es) (tStarItems te t) := by
  refine ⟨fun pos pins s σ H Q I h => ?_⟩
  refine PySem.W.items_star ?_ hs
  refine wpAny_Call_method (T := "dict") (id := "dict.items") hbase rfl hline F.plainAttrs_dict F.slot_dict_items F.type_dict_items (thn (he.run pins s σ H _ I h) fun u s1 ⟨x, H1, I1, rx, d, kvs, ex, hd, q⟩ => ?_)
  subst ex
  obtain rfl : u = Value.ref d := rx
  obtain ⟨hz, hs0, vs, kv, hdo⟩ := dk_rd I1.hok hd
  have lk : kvs.length = vs.length := Paired.length kv
  have I2 : Inv X pins σ H1 { s1 with heap := s1.heap.push { cls := .type "dict_items", data := .fields #[.ref d] } } := I1.kept (t' := s1.toks) fun b ob q => Heap.get?_push_of_some _ q
  refine ⟨hdo.typeIs, hdo.mapOf.noDict, ?_⟩
  show wpAny _ _ (callWith cpos (.builtin "dict.items") [.ref d] [] []) _ X.xe s1
  refine method_meetsIn F.slot_dict_items F.entry_dict_items rfl (PySem.evalArgs_none ⟨rfl, hdo.typeIs, F.args_dict_items_1 _, _, meets_dict_items (mixKind X.prog X.w) d hs0, ⟨vs, hdo⟩, ?_⟩)
  obtain ⟨o, ea, ep, ho, hx, hod, hks, hps, hnd⟩ := id hdo
  have hv : ({ s1 with heap := s1.heap.push { cls := .type "dict_items", data := .fields #[.ref d] } } : Shared).heap.IsItemsView s1.heap.objs.size d := ⟨_, Heap.get?_push_size _ rfl, rfl, rfl⟩
  have hraw : ({ s1 with heap := s1.heap.push { cls := .type "dict_items", data := .fields #[.ref d] } } : Shared).heap.DictRaw d ea ep := ⟨o, Heap.get?_push_of_some _ ho, hx, hod⟩
  have le : ea.size = vs.length := by rw [← hps.length, Array.length_toList]
  have col : wpAny (model X.prog X.w) X.A (collect (.ref s1.heap.objs.size)) (fun here s₂ => wpAny (model X.prog X.w) X.A (spliced (backTo pos (starEach es X.env))) (fun vs s₃ => AP X pins σ Q (here ++ vs) s₃) X.xe s₂) X.xe { s1 with heap := s1.heap.push { cls := .type "dict_items", data := .fields #[.ref d] } } := by
    refine PySem.W.dil_collect (I1.ok.hd hc) hv hraw (by rw [le, ← lk]; exact hz) fun h' tk as hk hl hG => ?_
    obtain ⟨H', k1, k6, J⟩ := itemsLaid (tk := tk) I2 kv hps hk (Nat.le_refl _) hl hG
    refine thn (hr.run pos pins _ σ H' _ J (q H' as k1 k6)) fun ws s3 ⟨ys, H3, I3, r3, q3⟩ => ⟨as.map V.ref ++ ys, H3, I3, (LiI.vals_refs as).append r3, q3⟩
  unfold PySem.W.StarOf notIterableAtAll
  exact wpAny_bind (wpAny_specialOf hv.typeIs PySem.F.slot_dict_items_iter.lookup (wpAny_pure ⟨rfl, col⟩))
end
end Bf
end

section
set_option Elab.async false
set_option linter.all false
set_option maxRecDepth 100000
/-! None in d.values() -/
namespace Bf
open PySem PySem.Spec PyProof.Rows L2

theorem ci_plain : plainId "proto.contains_iter" = true := by decide +kernel
theorem ci_entry : entryFor table "proto.contains_iter" = some Builtin.«proto.contains_iter» := by first | exact entryFor_of_tree (by kernel_rfl) | exact entryFor_of_fast (by kernel_rfl)
theorem dv_look : typeLookup (.type "dict_values") "__contains__" = pure none := by rw [typeLookup_type, builtinLookup_eq_fast]; kernel_rfl

def isNon : V → Bool
  | .non => true
  | _ => false
/-- a value that == None answers at once -/
def NV (C : Addr) (sp : Sp) (E : XK) (v : V) (H : Hp) : Prop := v = .non ∨ (∃ t xs, v = .ref t ∧ H t = some (.tup xs)) ∨
  ∃ r dx fs, v = .ref r ∧ H r = some (.ins C dx fs) ∧ sp [v, .non] H (fun z H' => z = .bl false ∧ H' = H) E

section
variable {X : Cx} {CX : CXT} {pins : List (Addr × Obj)} {σ : L2.St} {H : Hp} {s : Shared} {C f : Addr} {n : Nat} {sp : Sp} {E : XK}

theorem nv_eq {A : Around} {it : Addr} {oi : Obj} {v : V} {u : Value} {Q : Bool → Shared → Prop} (hs : PySem.W.findIn X.K (.ref C) "__eq__" = some (some (.ref f))) (hf : PySem.W.isFn X.K (.ref f) = true)
    (hn : PySem.W.notFirst X.K C (.type "NoneType") = true) (F : FnR X.prog X.w X.K X.mg X.base CX n f sp) (hr : Room n A) (fr : A.frames = X.A.frames) (hx : Passes CX X E)
    (I : Inv X ((it, oi) :: pins) σ H s) (r : RelV v u) (h : NV C sp E v H) (q : ∀ s', Inv X ((it, oi) :: pins) σ H s' → Q (isNon v) s') : wpAny (model X.prog X.w) A (eqBool u .none) Q X.xe s := by
  rcases h with rfl | ⟨t, xs, rfl, ht⟩ | ⟨r, dx, fs, rfl, ha, hsp⟩
  · cases r
    exact SeqAt.EqAt.same _ _ _ _ _ (q s I)
  · cases r
    obtain ⟨_, its, rv, pl⟩ := I.hok t _ ht
    exact SeqAt.EqAt.tuple_none pl hr.units0 _ _ _ _ (q s I)
  · cases r
    obtain ⟨od, J⟩ := insAt I ha
    obtain ⟨m, hF⟩ := I.fr
    unfold eqBool
    refine wpAny_holding ?_
    refine wpAny_ite_split (fun hab => absurd (eq_of_beq hab) nofun) (fun _ => ?_)
    refine wpAny_bind (PySem.W.cmp_K (op := .Eq) (tb := .type "NoneType") hr.units0 hF I.ok.mod.kin J (PySem.W.Looks.of_pure rfl) hn hs hf ?_)
    · refine wpAny_mono (runW (us := [.ref r, .none]) (ws := [.ref r, .non]) F hr fr hx I (.cons rfl (.cons rfl .nil)) hsp) (fun w s' z => ?_) fun _ _ x => x
      obtain ⟨z', H', I', rz, rfl, rfl⟩ := z
      cases rz
      exact wpAny_truthy_bool (q _ I')

theorem nv_loop {A : Around} {it d : Addr} {od : Obj} {es : Array DictEntry} {ep : Nat} {kvs : List (Key × V)} {R : Result → Shared → Prop} (hc : X.calm = true) (hA : A.handled = X.A.handled) (hs : PySem.W.findIn X.K (.ref C) "__eq__" = some (some (.ref f))) (hf : PySem.W.isFn X.K (.ref f) = true)
    (hn : PySem.W.notFirst X.K C (.type "NoneType") = true) (F : FnR X.prog X.w X.K X.mg X.base CX n f sp) (hr : Room n A.in1) (fr : A.in1.frames = X.A.frames) (hx : Passes CX X E)
    (hdd : od.data = .dict es ep) (hd : H d = some (.frz od (.dK kvs))) (hv : ∀ p ∈ kvs, NV C sp E p.2 H) (he : ∀ e s', X.xe e s' → R (.error e) s')
    (q : ∀ s', Inv X pins σ H s' → R (.ok (.ret (.bool (kvs.any fun p => isNon p.2)))) s') :
    ∀ (m i : Nat), i + m = kvs.length → (kvs.take i).any (fun p => isNon p.2) = false → ∀ s, Inv X pins σ H s → FpOk X pins H it → s.heap.IsValIter it d i kvs.length ep →
      codeAny (model X.prog X.w) A (.builtin "proto.contains_iter" ⟨[.ref it, .none], []⟩) R s := by
  intro m
  induction m with
  | zero =>
    intro i him hno s I hp st
    have ei : i = kvs.length := by omega
    obtain ⟨hs0, hgd, hx0, es', ep', vs, hdt, hsz, kv, hm⟩ := I.frzK hd
    obtain ⟨rfl, rfl⟩ := dict_ep hdd hdt
    have hl : kvs.length = vs.length := Paired.length kv
    rw [hl] at st
    obtain ⟨f0, f1, f2, f3, f4, f5⟩ := hp
    refine codeAny_builtin ci_entry ?_
    rw [Around.under_plainId ci_plain _]
    show wpAny _ A.in1 (pyNext (.ref it) >>= _) _ _ s
    refine wpAny_bind (wpAny_pyNext_values_end (by rw [show A.in1.handled = A.handled from rfl, hA]; exact I.ok.hd hc) st hm (List.getElem?_eq_none (by omega)) fun h' eb => ?_)
    have J : Inv X pins σ H { s with heap := h' } := I.turned (t' := s.toks) (fun b ob hb e => eb b ob hb e) f0 f1 f3 f4 f5
    have e0 : kvs.any (fun p => isNon p.2) = false := by
      rw [ei, List.take_length] at hno
      exact hno
    have z := q _ J
    rw [e0] at z
    exact wpAny_bind (wpAny_rule (wpAny_pure z))
  | succ m ih =>
    intro i him hno s I hp st
    have hi : i < kvs.length := by omega
    obtain ⟨hs0, hgd, hx0, es', ep', vs, hdt, hsz, kv, hm⟩ := I.frzK hd
    obtain ⟨rfl, rfl⟩ := dict_ep hdd hdt
    have hl : kvs.length = vs.length := Paired.length kv
    obtain ⟨u, hu, ru⟩ := kv_get kv (List.getElem?_eq_getElem hi : kvs[i]? = some (kvs[i].1, kvs[i].2))
    rw [hl] at st
    obtain ⟨f0, f1, f2, f3, f4, f5⟩ := id hp
    refine codeAny_builtin ci_entry ?_
    rw [Around.under_plainId ci_plain _]
    show wpAny _ A.in1 (pyNext (.ref it) >>= _) _ _ s
    refine wpAny_bind (wpAny_pyNext_values_item st hm hu fun h' st' sb => ?_)
    have I1 : Inv X pins σ H { s with heap := h' } := I.turned (t' := s.toks) (fun b ob hb e => (sb.2 b hb).trans e) f0 f1 f3 f4 f5
    obtain ⟨oi, e1, e2, e3⟩ := id st'
    have I2 : Inv X ((it, oi) :: pins) σ H { s with heap := h' } := by
      refine I1.pins_of fun p hp => ?_
      rcases List.mem_cons.mp hp with z | z
      · subst z
        exact ⟨e1, f0, f1, f2, fun v z => by rw [e3] at z; cases z⟩
      · exact (I1.pin p (List.mem_append_right _ z))
    show wpAny _ A.in1 (eqBool u .none >>= _) _ _ _
    refine wpAny_bind (wpAny_mono (nv_eq (Q := fun b s' => b = isNon kvs[i].2 ∧ Inv X ((it, oi) :: pins) σ H s') hs hf hn F hr fr hx I2 ru (hv _ (List.getElem_mem hi)) fun s' J => ⟨rfl, J⟩) (fun b s' z => ?_) fun e s' z => he e s' z)
    obtain ⟨rfl, J⟩ := z
    cases hb : isNon kvs[i].2 with
    | true =>
      have e0 : kvs.any (fun p => isNon p.2) = true := List.any_eq_true.mpr ⟨_, List.getElem_mem hi, hb⟩
      have z := q _ (ClX.unpin J)
      rw [e0] at z
      exact wpAny_bind (wpAny_rule (wpAny_pure z))
    | false =>
      refine wpAny_pure ⟨plainId_quiet ci_plain _, ih (i + 1) (by omega) ?_ s' (ClX.unpin J) hp ?_⟩
      · rw [List.take_succ, List.any_append, hno, List.getElem?_eq_getElem hi]
        simp [hb]
      · rw [hl]
        exact ⟨oi, ClX.pin_at J, e2, e3⟩

/-- None in e.values() -/
def tNoneVals (C : Addr) (sp : Sp) (E : XK) (te : TE) : TE := fun σ H Q => te σ H fun x H1 => ∃ d od kvs, x = .ref d ∧ H1 d = some (.frz od (.dK kvs)) ∧ (∀ p ∈ kvs, NV C sp E p.2 H1) ∧ Q (.bl (kvs.any fun p => isNon p.2)) H1
theorem pc_noneVals {e : Expr} {te : TE} {apos cpos p : Pos} {kc : Nat} (hc : X.calm = true) (hs : PySem.W.findIn X.K (.ref C) "__eq__" = some (some (.ref f))) (hf : PySem.W.isFn X.K (.ref f) = true)
    (hn : PySem.W.notFirst X.K C (.type "NoneType") = true) (G : FnR X.prog X.w X.K X.mg X.base CX n f sp) (hr : Room (n + 1) X.A) (hx : Passes CX X E) (he : PE X e te)
    (hbase : attributeBase e "values" X.env (eval e X.env) = eval e X.env := by rfl) (hline : (apos.endLine == cpos.line) = true := by rfl) :
    PC X .In (.Constant .none kc p) (.Call (.Attribute e "values" apos) [] [] cpos) (tNoneVals C sp E te) := by
  refine ⟨fun pins s σ H Q I h => ?_⟩
  refine wpAny_of_eq (a := Value.none) rfl ?_
  refine wpAny_Call_method (T := "dict") (id := "dict.values") hbase rfl hline F.plainAttrs_dict F.slot_dict_values F.type_dict_values (thn (he.run pins s σ H _ I h) fun u s1 ⟨x, H1, I1, rx, d, od, kvs, ex, hd, hv, q⟩ => ?_)
  subst ex
  obtain rfl : u = Value.ref d := rx
  obtain ⟨hs0, hgd, hx0, es, ep, vs, hdt, hsz, kv, hm⟩ := I1.frzK hd
  have hl : kvs.length = vs.length := Paired.length kv
  refine ⟨hm.dictOf.typeIs, hm.dictOf.mapOf.noDict, ?_⟩
  have I2 : Inv X pins σ H1 { s1 with heap := s1.heap.push { cls := .type "dict_values", data := .fields #[.ref d] } } := I1.kept (t' := s1.toks) fun b ob q => Heap.get?_push_of_some _ q
  have fin : wpAny (model X.prog X.w) X.A (compareOp .In .none (.ref s1.heap.objs.size)) (EP X pins σ Q) X.xe { s1 with heap := s1.heap.push { cls := .type "dict_values", data := .fields #[.ref d] } } := by
    have hv0 : ({ s1 with heap := s1.heap.push { cls := .type "dict_values", data := .fields #[.ref d] } } : Shared).heap.IsValuesView s1.heap.objs.size d := ⟨_, Heap.get?_push_size _ rfl, rfl, rfl⟩
    show wpAny _ _ (do return Value.bool (← contains (.ref s1.heap.objs.size) .none)) _ X.xe _
    refine wpAny_bind ?_
    unfold contains
    refine wpAny_holding ?_
    refine wpAny_bind (wpAny_specialOf hv0.typeIs dv_look ?_)
    refine PySem.W.KFB.if_not rfl ?_
    refine wpAny_bind (wpAny_bind (m := specialOf _ _) (wpAny_specialOf hv0.typeIs dv_look (wpAny_pure ?_)))
    refine wpAny_bind (wpAny_rule ?_)
    refine wpAny_bind (wpAny_tryCatch ?_)
    refine wpAny_pyIter_values (d := d) (knd := mixKind X.prog X.w) hv0 (hm.push _) ?_
    refine wpAny_bind (wpAny_runValue ?_)
    have I3 := I2.kept (t' := s1.toks) (h' := (s1.heap.push { cls := .type "dict_values", data := .fields #[.ref d] }).push { cls := .type "dict_valueiterator", data := .fields #[.ref d, .int 0 0, .int vs.length 0, .int ep 0] }) fun b ob q => Heap.get?_push_of_some _ q
    refine nv_loop (A := X.A) hc rfl hs hf hn G (Room.in1 hr) rfl hx hdt hd hv (fun e s' z => z) (fun s' J => (wpAny_pure (wpAny_pure (show EP X pins σ Q (.bool _) s' from ⟨.bl _, H1, J, rfl, q⟩)) : wpAny (model X.prog X.w) X.A (pure (kvs.any fun p => isNon p.2)) (fun a s' => wpAny (model X.prog X.w) X.A (pure (Value.bool a)) (EP X pins σ Q) X.xe s') X.xe s')) kvs.length 0 (by omega) rfl _ I3 (I2.fpOk (Nat.le_refl _) (I2.hok.fresh (Nat.le_refl _))) ⟨_, Heap.get?_push_size _ rfl, rfl, ?_⟩
    rw [hl] <;> rfl
  show wpAny _ _ (callWith cpos (.builtin "dict.values") [.ref d] [] []) _ X.xe s1
  exact method_meetsIn F.slot_dict_values F.entry_dict_values rfl (PySem.evalArgs_none ⟨rfl, hm.dictOf.typeIs, F.args_dict_values_1 _, _, meets_dict_values (mixKind X.prog X.w) d hs0, ⟨vs, hm.dictOf⟩, fin⟩)
end
end Bf
end

section
set_option Elab.async false
set_option linter.all false
set_option maxRecDepth 100000
/-! == of dicts with equal keys in one order, values judged by EqG -/
namespace Bf
open PySem PySem.Spec PyProof.Rows L2

section
variable {prog : Program} {w : World} {A : Around} {E : Value → Shared → Prop} {s : Shared}
/-- one dict's entries against its keys and values -/
structure Ent (prog : Program) (w : World) (es : Array DictEntry) (kvs : List (Key × V)) : Prop where
  size : es.size = kvs.length
  all : ∀ e ∈ es, ∃ k, (mixKind prog w).is k e.key = true ∧ e.hash = (mixKind prog w).hash k
  at_ : ∀ (i : Nat) (h : i < es.size) k v, kvs[i]? = some (k, v) → (mixKind prog w).is k es[i].key = true ∧ RelV v es[i].val

theorem samePairsG {nm : String} {a b : Addr} {oa ob : Obj} {es es' : Array DictEntry} {ep ep' : Nat} {ka kb : List (Key × V)} {Q : Bool → Shared → Prop} (ha : (a == sysModules) = false) (hb : (b == sysModules) = false)
    (hda : oa.data = .dict es ep) (hdb : ob.data = .dict es' ep') (ea : Ent prog w es ka) (eb : Ent prog w es' kb) (hk : ka.map Prod.fst = kb.map Prod.fst) (nd : (kb.map Prod.fst).Nodup)
    (I : Nat → Shared → Prop) (get : ∀ i s, I i s → s.heap.get? a = some oa ∧ s.heap.get? b = some ob)
    (turn : ∀ i (h1 : i < es.size) (h2 : i < es'.size) s, I i s → wpAny (model prog w) A (eqBool es[i].val es'[i].val) (fun r s' => r = true ∧ I (i + 1) s') E s)
    (fin : ∀ s, I es.size s → Q true s) (h : I 0 s) : wpAny (model prog w) A (Builtin.Dict.samePairs nm a b) Q E s := by
  have hl : ka.length = kb.length := by simpa using congrArg List.length hk
  have hsz : es.size = es'.size := by rw [ea.size, eb.size, hl]
  obtain ⟨hoa, hob⟩ := get 0 s h
  unfold Builtin.Dict.samePairs Builtin.Dict.showsAll
  rw [if_neg (show ¬ (a == sysModules) = true by rw [ha]; exact Bool.false_ne_true), if_neg (show ¬ (b == sysModules) = true by rw [hb]; exact Bool.false_ne_true)]
  refine wpAny_bind (wpAny_pure (wpAny_bind (wpAny_pure ?_)))
  refine wpAny_bind (wpAny_dictEntries hoa hda ?_)
  dsimp only
  refine wpAny_bind (wpAny_dictEntries hob hdb ?_)
  rw [if_neg (by rw [hsz]; simp)]
  refine wpAny_bind (wpAny_dictEpoch hoa hda ?_)
  refine wpAny_bind ?_
  rw [Std.Legacy.Range.forIn_eq_forIn_range']
  simp only [Std.Legacy.Range.size, Nat.sub_zero, Nat.add_sub_cancel, Nat.div_one]
  refine wpAny_forIn_list _
    (fun rest q s' => q = (none, ()) ∧ ∃ i, rest = List.range' i (es.size - i) ∧ i ≤ es.size ∧ I i s')
    _ ?_ ?_ _ _ ⟨rfl, 0, by simp, Nat.zero_le _, h⟩
  · rintro x rest q s' ⟨rfl, i, hr, hi, hI⟩
    obtain ⟨hoa, hob⟩ := get i s' hI
    have hlt : i < es.size := by
      rcases Nat.lt_or_ge i es.size with h | h
      · exact h
      · rw [Nat.sub_eq_zero_of_le h] at hr; simp at hr
    obtain ⟨rfl, hrest⟩ : x = i ∧ rest = List.range' (i + 1) (es.size - (i + 1)) := by
      have e : es.size - i = (es.size - (i + 1)) + 1 := by omega
      rw [e, List.range'_succ] at hr
      injection hr with h1 h2
      exact ⟨h1, h2⟩
    have hlt2 : x < es'.size := hsz ▸ hlt
    refine wpAny_bind (wpAny_dictEntries hoa hda ?_)
    rw [Array.getElem?_eq_getElem hlt]
    have hla : x < ka.length := ea.size ▸ hlt
    have hlb : x < kb.length := eb.size ▸ hlt2
    have hka : ka[x]? = some (ka[x].1, ka[x].2) := List.getElem?_eq_getElem hla
    have hkb : kb[x]? = some (kb[x].1, kb[x].2) := List.getElem?_eq_getElem hlb
    have hke : ka[x].1 = kb[x].1 := by
      have e1 : (ka.map Prod.fst)[x]? = some ka[x].1 := by rw [List.getElem?_map, hka] <;> rfl
      have e2 : (kb.map Prod.fst)[x]? = some kb[x].1 := by rw [List.getElem?_map, hkb] <;> rfl
      rw [hk, e2] at e1
      exact (Option.some.inj e1).symm
    obtain ⟨hkey, _⟩ := ea.at_ x hlt _ _ hka
    obtain ⟨hkey2, _⟩ := eb.at_ x hlt2 _ _ hkb
    obtain ⟨k', hk', hh⟩ := ea.all es[x] (Array.getElem_mem hlt)
    have ekk : k' = ka[x].1 := (mixKind prog w).inj _ _ _ hk' hkey
    rw [ekk] at hh
    show wpAny _ _ (holding [es[x].key, es[x].val] _ >>= _) _ _ _
    rw [hh]
    refine wpAny_bind (wpAny_holding (wpAny_bind (wpAny_dictFind_of hkey hob hdb eb.all ?_)))
    have hf : (es'.findIdx? fun e => (mixKind prog w).is ka[x].1 e.key) = some x := by
      rw [Array.findIdx?_eq_some_iff_getElem]
      refine ⟨hlt2, by rw [hke]; exact hkey2, fun j hj z => ?_⟩
      have hj2 : j < es'.size := Nat.lt_trans hj hlt2
      have hjb : j < kb.length := eb.size ▸ hj2
      obtain ⟨hkj, _⟩ := eb.at_ j hj2 _ _ (List.getElem?_eq_getElem hjb : kb[j]? = some (kb[j].1, kb[j].2))
      have e := (mixKind prog w).inj _ _ _ hkj z
      rw [hke] at e
      have n1 : (kb.map Prod.fst)[j]? = some kb[x].1 := by rw [List.getElem?_map, List.getElem?_eq_getElem hjb, ← e] <;> rfl
      have n2 : (kb.map Prod.fst)[x]? = some kb[x].1 := by rw [List.getElem?_map, hkb] <;> rfl
      have hlj : j < (kb.map Prod.fst).length := by rw [List.length_map]; exact hjb
      have ej : j = x := (List.getElem?_inj hlj nd).mp (n1.trans n2.symm)
      omega
    rw [hf]
    refine wpAny_bind (wpAny_dictEntries hob hdb ?_)
    rw [Array.getElem?_eq_getElem hlt2]
    refine wpAny_holding (wpAny_mono (turn x hlt hlt2 s' hI) (fun r s2 z => ?_) fun _ _ e => e)
    obtain ⟨rfl, hI2⟩ := z
    obtain ⟨hoa2, hob2⟩ := get _ _ hI2
    show wpAny _ _ (if (!true) = true then _ else _) _ _ _
    rw [if_neg (by decide)]
    refine wpAny_bind (wpAny_dictEpoch hoa2 hda ?_)
    rw [if_neg (by simp)]
    exact wpAny_pure ⟨rfl, x + 1, hrest, hlt, hI2⟩
  · rintro q s' ⟨rfl, i, hr, hi, hI⟩
    have hin : i = es.size := by
      rcases Nat.lt_or_ge i es.size with h | h
      · have e : es.size - i = (es.size - (i + 1)) + 1 := by omega
        rw [e, List.range'_succ] at hr; exact nomatch hr
      · exact Nat.le_antisymm hi h
    refine wpAny_pure ?_
    rw [hin] at hI
    exact fin _ hI
end

section
variable {X : Cx} {n : Nat} {D : Eqv}
theorem entOf {pins : List (Addr × Obj)} {σ : L2.St} {H : Hp} {s : Shared} {d : Addr} {o : Obj} {kvs : List (Key × V)} (I : Inv X pins σ H s) (h : H d = some (.frz o (.dK kvs))) :
    (d == sysModules) = false ∧ s.TypeIs (.ref d) "dict" ∧ (kvs.map Prod.fst).Nodup ∧ ∃ (es : Array DictEntry) (ep : Nat), o.data = .dict es ep ∧ Ent X.prog X.w es kvs := by
  obtain ⟨hs0, hgd, hx0, es, ep, vs, hdt, hsz, kv, hm⟩ := I.frzK h
  have ty := hm.dictOf.typeIs
  obtain ⟨o', es', ho, hx, hd', hk, hp, hnd⟩ := hm
  rw [hgd] at ho
  cases ho
  obtain ⟨rfl, _⟩ := dict_ep hdt hd'
  have hl : kvs.length = vs.length := Paired.length kv
  have e1 : kvs.map Prod.fst = vs.map Prod.fst := by
    refine List.ext_getElem? fun i => ?_
    rw [List.getElem?_map, List.getElem?_map]
    cases q : kvs[i]? with
    | none =>
      rw [List.getElem?_eq_none_iff] at q
      rw [List.getElem?_eq_none (by omega)] <;> rfl
    | some p =>
      obtain ⟨u, hu, _⟩ := kv_get kv (k := p.1) (v := p.2) q
      rw [hu] <;> rfl
  refine ⟨hs0, ty, by rw [e1]; exact hnd, es', ep, hdt, hsz, hk, fun i hi k v e => ?_⟩
  obtain ⟨u, hu, ru⟩ := kv_get kv e
  obtain ⟨g1, g2⟩ := hp.get? (i := i) (e := es'[i]) (k := k) (v := u) (by rw [Array.getElem?_toList]; exact Array.getElem?_eq_getElem hi) hu
  exact ⟨g1, by rw [g2]; exact ru⟩

def lck (H : Hp) (a b : Addr) (oa ob : Obj) (ka kb : List (Key × V)) : Hp := upd (upd H a (.frz oa (.dK ka))) b (.frz ob (.dK kb))
/-- two dicts -/
def DDict (D : Eqv) : Eqv := fun x y H => ∃ a b ka kb, x = .ref a ∧ y = .ref b ∧ a ≠ b ∧ H a = some (.dK ka) ∧ H b = some (.dK kb) ∧ ka.map Prod.fst = kb.map Prod.fst ∧
  ∀ oa ob, Prs D (ka.map Prod.snd) (kb.map Prod.snd) (lck H a b oa ob ka kb)
theorem rcG_dict (hD : Mon D) (h : EqG X n D) : RcG X (n + 1) (DDict D) := by
  intro A pins s σ H x y u v sb I rx ry d
  obtain ⟨a, b, ka, kb, rfl, rfl, hab, ha, hb, hk, hp⟩ := d
  cases rx
  cases ry
  have muA : Mut (some (HO.dK ka)) := by simp [Mut]
  have muB : Mut (some (HO.dK kb)) := by simp [Mut]
  obtain ⟨oa, I1⟩ := I.lock ha muA
  have hb1 : upd H a (.frz oa (.dK ka)) b = some (.dK kb) := by rw [upd_ne (fun e => hab e.symm)]; exact hb
  obtain ⟨ob, I2⟩ := I1.lock hb1 muB
  have la : lck H a b oa ob ka kb a = some (.frz oa (.dK ka)) := by unfold lck; rw [upd_ne hab, upd_same]
  have lb : lck H a b oa ob ka kb b = some (.frz ob (.dK kb)) := upd_same
  obtain ⟨sa, ta, na, es, ep, hda, ea⟩ := entOf I2 la
  obtain ⟨sb', tb, nb, es', ep', hdb, eb⟩ := entOf I2 lb
  refine wpAny_mono (Q := fun r s' => r = .bool true ∧ LoopI X pins σ (lck H a b oa ob ka kb) s') ?_ (fun r s' z => ?_) fun _ _ e => e
  · refine wpAny_richCompare_same_room (op := .Eq) ta tb PySem.F.slot_dict_eq (wpAny_call_entry PySem.F.slot_dict_eq ta PySem.F.entry_dict_eq ?_ (PySem.F.args_dict_eq_2 _ _)) sb.room.units0
    show wpAny _ _ (Builtin.Dict.dictSlotArgs "__eq__" ⟨[.ref a, .ref b], []⟩ >>= _) _ _ s
    refine wpAny_bind ?_
    unfold Builtin.Dict.dictSlotArgs
    refine wpAny_bind (wpAny_notOrdered_dict ta ?_)
    show wpAny _ _ (pure (Value.ref a, Value.ref b)) _ _ s
    refine wpAny_pure ?_
    refine wpAny_bind (wpAny_isInstance (T := "dict") tb PySem.F.sub_dict_dict ?_)
    simp only [Bool.not_true, Bool.false_eq_true, if_false]
    refine wpAny_bind (wpAny_pure (wpAny_bind (wpAny_pure ?_)))
    refine wpAny_bind (samePairsG (A := A.in1) sa sb' hda hdb ea eb hk nb (fun _ s' => LoopI X pins σ (lck H a b oa ob ka kb) s') (fun i s' q => ?_) (fun i h1 h2 s' q => ?_) (fun s' q => ?_) ⟨_, I2, Ext.rfl'⟩)
    · obtain ⟨H1, J, e⟩ := q
      exact ⟨(J.frzK (e _ _ la)).2.1, (J.frzK (e _ _ lb)).2.1⟩
    · obtain ⟨H1, J, e⟩ := q
      have k1 : i < ka.length := ea.size ▸ h1
      have k2 : i < kb.length := eb.size ▸ h2
      obtain ⟨_, ru⟩ := ea.at_ i h1 _ _ (List.getElem?_eq_getElem k1 : ka[i]? = some (ka[i].1, ka[i].2))
      obtain ⟨_, rv⟩ := eb.at_ i h2 _ _ (List.getElem?_eq_getElem k2 : kb[i]? = some (kb[i].1, kb[i].2))
      refine wpAny_mono (h A.in1 pins s' σ H1 _ _ _ _ sb.in1 J ru rv (hD _ _ _ _ e ((hp oa ob).2 i _ _ (by rw [List.getElem?_map, List.getElem?_eq_getElem k1] <;> rfl) (by rw [List.getElem?_map, List.getElem?_eq_getElem k2] <;> rfl)))) (fun r s2 z => ?_) fun _ _ x => x
      obtain ⟨hr, H2, J2, e2⟩ := z
      exact ⟨hr, H2, J2, e.trans e2⟩
    · exact wpAny_pure ⟨_, rfl, (fun x => nomatch x), rfl, q⟩
  · obtain ⟨hr, H3, J, e⟩ := z
    have a3 := e _ _ la
    have b3 := e _ _ lb
    have J1 := J.unlock b3 (I1.nofrz hb1 muB)
    have a4 : upd H3 b (.dK kb) a = some (.frz oa (.dK ka)) := by rw [upd_ne hab]; exact a3
    refine ⟨hr, _, J1.unlock a4 (I.nofrz ha muA), fun c o hc => ?_⟩
    by_cases ca : c = a
    · subst ca
      rw [upd_same, ← hc, ha]
    · rw [upd_ne ca]
      by_cases cb : c = b
      · subst cb
        rw [upd_same, ← hc, hb]
      · rw [upd_ne cb]
        refine e c o ?_
        unfold lck
        rw [upd_ne cb, upd_ne ca]
        exact hc

/-- own == by a promise -/
def DInsR (C : Addr) (sp : Sp) (E : XK) : Eqv := fun x y H => ∃ a b dx dy fs gs, x = .ref a ∧ y = .ref b ∧ H a = some (.ins C dx fs) ∧ H b = some (.ins C dy gs) ∧ ∀ H', Ext H H' → sp [x, y] H' (fun z H2 => z = .bl true ∧ Ext H' H2) E
theorem mon_insR {C : Addr} {sp : Sp} {E : XK} : Mon (DInsR C sp E) := fun x y H H' e d => by
  obtain ⟨a, b, dx, dy, fs, gs, hx, hy, h1, h2, r⟩ := d
  exact ⟨a, b, dx, dy, fs, gs, hx, hy, e _ _ h1, e _ _ h2, fun H2 e2 => r H2 (e.trans e2)⟩
theorem rcG_insR {CX : CXT} {C f : Addr} {sp : Sp} {E : XK} (hs : PySem.W.findIn X.K (.ref C) "__eq__" = some (some (.ref f))) (hf : PySem.W.isFn X.K (.ref f) = true)
    (F : FnR X.prog X.w X.K X.mg X.base CX n f sp) (hx : Passes CX X E) : RcG X n (DInsR C sp E) := by
  intro A pins s σ H x y u v sb I rx ry d
  obtain ⟨a, b, dx, dy, fs, gs, rfl, rfl, ha, hb', hr⟩ := d
  cases rx
  cases ry
  obtain ⟨od, J⟩ := insAt I ha
  obtain ⟨od', J'⟩ := insAt I hb'
  obtain ⟨m, hF⟩ := I.fr
  refine PySem.W.cmp_K (op := .Eq) (tb := .ref C) sb.room.units0 hF I.ok.mod.kin J J'.type (by simp [PySem.W.notFirst]) hs hf ?_
  refine wpAny_mono (runW (us := [.ref a, .ref b]) (ws := [.ref a, .ref b]) F sb.room sb.fr hx I (.cons rfl (.cons rfl .nil)) (hr H Ext.rfl')) (fun w s' z => ?_) fun _ _ x => x
  obtain ⟨z, H', I', rz, rfl, e⟩ := z
  cases rz
  exact ⟨rfl, H', I', e⟩
theorem eqG_insR {CX : CXT} {C f : Addr} {sp : Sp} {E : XK} (hs : PySem.W.findIn X.K (.ref C) "__eq__" = some (some (.ref f))) (hf : PySem.W.isFn X.K (.ref f) = true)
    (F : FnR X.prog X.w X.K X.mg X.base CX n f sp) (hx : Passes CX X E) : EqG X n (DInsR C sp E) :=
  (rcG_insR hs hf F hx).eqG fun _ _ _ d => let ⟨a, b, _, _, _, _, hx, hy, _⟩ := d; ⟨a, b, hx, hy⟩
end
end Bf
end

section
set_option Elab.async false
set_option linter.all false
set_option maxRecDepth 100000
set_option maxHeartbeats 2000000
/-! promises of defs that are called with no repr on the stack -/
namespace Bf
open PySem PySem.Spec PyProof.Rows L2
structure FnOkG (P : Program) (w : World) (K : PySem.W.Frag) (mg : Str → Option Value) (base : Heap) (CX : CXT) (k : Nat) (f : Addr) (fd : FuncData) (ps : List Str) (sp : Sp) : Prop where
  len : ∀ vs H Q E, sp vs H Q E → vs.length = ps.length
  run : ∀ (A : Around) (outer : List Env) (s : Shared) (H : Hp) (args : Args) (us : List Value) (vs : List V) (Q : VK) (E : XK), A.guards = some [] → Room k A → Env0 P w K mg base A outer s H → BindsTo s fd args (ps.zip us) → Vals vs us → sp vs H Q E →
    codeAny (model P w) A (.call (.ref f) args) (CR CX outer P w H s Q E) s
theorem fn_ofG {CX : CXT} {P : Program} {w : World} {K : PySem.W.Frag} {mg : Str → Option Value} {base : Heap} {k : Nat} {f : Addr} {name qual : Str} {params : Arguments} {body : List Stmt} {scope : Scope} {dV kV doc pm cdv ct oc : Value} {an od : Option Addr}
    {osl : Array (Option Value)} {N ps : List Str} {sp : Sp} (lk : K.lookup f = some ⟨oc, od, .func (PySem.W.fnOf name qual params body scope dV kV doc pm an cdv ct), osl⟩) (hcd : PySem.W.codeIn K cdv qual = true) (S : FnScope N ps scope)
    (len : ∀ vs H Q E, sp vs H Q E → vs.length = ps.length)
    (hbody : ∀ (A : Around) (outer : List Env) (s : Shared) (H : Hp) (vs : List V) (Q : VK) (E : XK), A.guards = some [] → Room k (A.deeper (envOfC qual scope s.heap.objs.size f cdv)) → sp vs H Q E →
      ∃ t, PSs (cxOf CX P w K mg base N qual scope f cdv A outer s H E) body t ∧ t { nx := fun _ H' => Q .non H', rt := Q } (start N vs) H) :
    FnOkG P w K mg base CX (k + 1) f (PySem.W.fnOf name qual params body scope dV kV doc pm an cdv ct) ps sp := by
  refine ⟨len, fun A outer s H args us vs Q E hgd hr e0 hb r hsp => ?_⟩
  have hl := len _ _ _ _ hsp
  have KX : K.In s.heap := e0.mod.kin.keeps fun b o e => (e0.bs b o e).1
  have lim : s.heap.NoLimit := e0.mod.nolimit.keeps fun b o e => (e0.bs b o e).1
  have hkind : ∀ y ∈ ps.zip us, scope.names.lookup y.1 = some .local ∨ (scope.names.lookup y.1 = some .cell ∧ ((cellsFrom (s.heap.objs.size + 1) scope.names []).lookup y.1).isSome = true) := fun ⟨n, v⟩ hy => by
    rcases S.par n (List.of_mem_zip hy).1 with q | q
    · exact .inl q
    · exact .inr ⟨q, PySem.W.cellsFrom_some _ _ _ (.inl q)⟩
  refine codeAny_call_function hr.depth (KX _ _ lk) rfl S.co S.gen rfl (PySem.W.codeRec_of KX hcd) (hb _ _ _ _ ?_)
  refine wpAny_newFunctionEnv_cells S.kind hkind fun env he s1 x => ?_
  subst he
  refine ⟨lim.keeps x.toInCall.keep, codeAny_func ?_⟩
  obtain ⟨t, ht, hq⟩ := hbody A outer s H vs Q E hgd (hr.deeper _) hsp
  have I : Inv (cxOf CX P w K mg base N qual scope f cdv A outer s H E) [] (start N vs) H s1 := inv_start S hr.hd e0 hl r x
  refine wpAny_mono (ht.run [] s1 (start N vs) H _ I hq) (fun fl s' hs => ?_) fun e s' hs => hs
  have fin : ∀ {σ' : L2.St} {H' : Hp} {v : V} {u : Value}, Inv (cxOf CX P w K mg base N qual scope f cdv A outer s H E) [] σ' H' s' → RelV v u → Q v H' → CE outer P w H s Q u s' :=
    fun {σ' H' v u} J rv q => ⟨v, H', J.os, J.bare, J.base, J.hok, rv, q⟩
  cases fl with
  | ret u =>
    obtain ⟨v, σ', H', J, rv, q⟩ := hs
    exact fin J rv q
  | next =>
    obtain ⟨σ', H', J, q⟩ := hs
    exact fin (v := V.non) (u := Value.none) J rfl q
  | brk =>
    obtain ⟨_, _, _, q⟩ := hs
    exact False.elim q
  | cont =>
    obtain ⟨_, _, _, q⟩ := hs
    exact False.elim q

section
variable {P : Program} {w : World} {K : PySem.W.Frag} {mg : Str → Option Value} {base : Heap} {x qual : Str} {params : Arguments} {body : List Stmt} {scope : Scope} {dvs : List V} {kws : List (Str × V)} {f : Addr} {fd : FuncData}
theorem okG {CX : CXT} {N ps : List Str} {k : Nat} {sp : Sp} (F : FunD K x qual params body scope dvs kws f fd) (S : FnScope N ps scope) (len : ∀ vs H Q E, sp vs H Q E → vs.length = ps.length)
    (hbody : ∀ (cdv : Value) (A : Around) (outer : List Env) (s : Shared) (H : Hp) (vs : List V) (Q : VK) (E : XK), A.guards = some [] → Room k (A.deeper (envOfC qual scope s.heap.objs.size f cdv)) → sp vs H Q E →
      ∃ t, PSs (cxOf CX P w K mg base N qual scope f cdv A outer s H E) body t ∧ t { nx := fun _ H' => Q .non H', rt := Q } (start N vs) H) : FnOkG P w K mg base CX (k + 1) f fd ps sp := by
  obtain ⟨oc, od, dV, kV, doc, pm, an, cdv, ct, osl, rfl, lk, hcd, _, _⟩ := F.ex
  exact fn_ofG lk hcd S len fun A outer s H vs Q E hgd hr hsp => hbody cdv A outer s H vs Q E hgd hr hsp
end

section
variable {X : Cx} {CX : CXT} {k : Nat} {f : Addr} {fd : FuncData} {ps : List Str} {sp : Sp} {dvs : List V} {ds : List Value} {E : XK} {x : Str} {p pos : Pos} {e : Expr} {es : List Expr} {t : TA}
theorem run_fnG {pins : List (Addr × Obj)} {σ : L2.St} {H : Hp} {s : Shared} {Q : VK} {us : List Value} {vs : List V} (hG : X.A.guards = some []) (F : FnOkG X.prog X.w X.K X.mg X.base CX k f fd ps sp) (hr : Room k X.A) (hb : Binds X.K fd ps ds) (hd : Vals dvs ds) (hx : Passes CX X E)
    (I : Inv X pins σ H s) (r : Vals vs us) (h : sp (vs ++ dvs) H Q E) : wpAny (model X.prog X.w) X.A (call (.ref f) us) (EP X pins σ Q) X.xe s := by
  have r2 : Vals (vs ++ dvs) (us ++ ds) := r.append hd
  have hl : (us ++ ds).length = ps.length := by rw [← r2.length]; exact F.len _ _ _ _ h
  refine wpAny_call (codeAny_mono (F.run X.A X.stack s H ⟨us, []⟩ (us ++ ds) (vs ++ dvs) Q E hG hr I.env0 (hb s us I.kIn hl) r2 h) fun r s' hq => ?_)
  cases r with
  | error e => exact hx pins σ H s e s' I hq
  | ok fl =>
    cases fl with
    | ret u => exact I.after hq
    | next => exact False.elim hq
    | brk => exact False.elim hq
    | cont => exact False.elim hq
theorem pe_callG (hG : X.A.guards = some []) (F : FnOkG X.prog X.w X.K X.mg X.base CX k f fd ps sp) (hr : Room k X.A) (hg : Gl X x) (hm : X.mg x = some (.ref f)) (hk : PySem.W.keepIn X.K (.ref f) = true) (hb : Binds X.K fd ps ds) (hd : Vals dvs ds) (hx : Passes CX X E)
    (ha : PA X (e :: es) t) (hdb : (x == ("__debug__" : Str)) = false := by decide) (he : starEach (e :: es) X.env = (false, eval e X.env) :: starEach es X.env := by rfl) (hpl : (backTo pos (starEach es X.env)).any (·.1) = false := by rfl) :
    PE X (.Call (.Name x p) (e :: es) [] pos) (tCall sp dvs E t) := by
  refine ⟨fun pins s σ H Q I h => ?_⟩
  refine wpAny_Call_Name_kw (ld_glob I hg hm ?_ hdb)
  refine PySem.W.callWith_K (h₀ := X.base) I.ok.mod.kin hk (thn (ha.run pos pins s σ H _ I h) fun us s1 ⟨vs, H1, I1, r, q⟩ => ⟨I1.kIn, ?_⟩) he hpl
  exact run_fnG hG F hr hb hd hx I1 r q
end

theorem law_callG {P : Program} {w : World} {K : PySem.W.Frag} {mg mb : Str → Option Value} {CX : CXT} {k : Nat} {fa a : Addr} {fd : FuncData} {x : Str} {sp : Sp} {s₁ : Shared} {vs : List Value} {ns : List Int}
    (KX : K.In s₁.heap) (hns : s₁.heap.Ns mainGlobals mg) (hb : s₁.heap.Ns builtinsNs mb) (hbb : ∀ x : Str, x ≠ "__name__" → mb x = bootBuiltins x) (hlim : s₁.heap.NoLimit) (hg : s₁.gens = #[])
    (ha : s₁.heap.get? a = some { cls := .type "list", data := .seq vs.toArray }) (hi : IntsAre vs ns) (hl : ns.length ≤ sizeLine) (hr : Room k callerA)
    (F : ∀ base : Heap, K.In base → base.Ns mainGlobals mg → FnOkG P w K mg base CX k fa fd [x] sp) (hbind : ∀ (s : Shared) (u : Value), BindsTo s fd ⟨[u], []⟩ [(x, u)])
    (hsp : ∀ H : Hp, Only H → SqL K H a (ns.map V.int) → sp [.ref a] H (fun v _ => v = .bl true) fun _ _ _ => False)
    (hCX : ∀ H e s', CX [] H s₁ (fun _ _ _ => False) e s' → False) :
    codeAny (model P w) callerA (.call (.ref fa) ⟨[.ref a], []⟩) (fun r s' => r = .ok (.ret (.bool true)) ∧ OldK s₁.heap s'.heap ∧ s'.os = s₁.os ∧ AllBare s'.gens) s₁ := by
  have rv := vals_ints hi
  have lenV := hi.length
  -- from an abstract heap in which nothing but the script may be tracked
  have core : ∀ H : Hp, Only H → SqL K H a (ns.map V.int) → HOk P w H s₁.heap → (∀ b, H b ≠ none → b = a) → (H a ≠ none → K.lookup a = none) →
      codeAny (model P w) callerA (.call (.ref fa) ⟨[.ref a], []⟩) (fun r s' => r = .ok (.ret (.bool true)) ∧ OldK s₁.heap s'.heap ∧ s'.os = s₁.os ∧ AllBare s'.gens) s₁ := by
    intro H hO hS hok hA hK
    have base_of : ∀ {b : Addr} {o : Obj}, s₁.heap.get? b = some o → H b = none → (hidT s₁.heap H).get? b = some o := fun e n => hidT_get e n
    have noA : ∀ {b : Addr} {o : Obj} {es : Array DictEntry} {ep : Nat}, s₁.heap.get? b = some o → o.data = .dict es ep → H b = none := fun {b o es ep} e d => by
      cases q : H b with
      | none => rfl
      | some u =>
        have e' : b = a := hA b (by rw [q]; simp)
        subst e'
        rw [ha] at e; cases e
        have d' : Data.seq vs.toArray _ = Data.dict es ep := d
        cases d'
    have nsK : ∀ {b : Addr} {m : Str → Option Value}, s₁.heap.Ns b m → (hidT s₁.heap H).Ns b m := fun {b m} ⟨o, es, ep, e, d, r⟩ => ⟨o, es, ep, base_of e (noA e d), d, r⟩
    have hKb : K.In (hidT s₁.heap H) := fun b o e => base_of (KX b o e) (by
      cases q : H b with
      | none => rfl
      | some u =>
        have e' : b = a := hA b (by rw [q]; simp)
        subst e'
        rw [hK (by rw [q]; simp)] at e; cases e)
    have hM : Mod K mg (hidT s₁.heap H) := ⟨hKb, nsK hns, ⟨mb, nsK hb, hbb⟩, let ⟨mc, h1, h2⟩ := hlim; ⟨mc, nsK h1, h2⟩⟩
    have e0 : Env0 P w K mg (hidT s₁.heap H) callerA [] s₁ H := ⟨rfl, hM, fun b o e => of_hidT e, Nat.le_of_eq (hidT_size _ _), trivial, fun b hb => absurd (show b ∈ ([] : List Addr) from hb) (by simp), hok, .of_eq hg⟩
    refine codeAny_mono ((F _ hKb (nsK hns)).run callerA [] s₁ H ⟨[.ref a], []⟩ [.ref a] [.ref a] _ _ rfl hr e0 (hbind s₁ (.ref a)) (.cons rfl .nil) (hsp H hO hS)) fun r s' h => ?_
    cases r with
    | error e => exact (hCX H e s' h).elim
    | ok fl =>
      cases fl with
      | next => exact False.elim h
      | brk => exact False.elim h
      | cont => exact False.elim h
      | ret u =>
        obtain ⟨v, H', os, bare, un, hok', r', q⟩ := h
        have q' : v = .bl true := q
        subst q'
        obtain rfl : u = Value.bool true := r'
        refine ⟨rfl, OldK.of_keep fun b o e => ?_, os, bare⟩
        cases q : H b with
        | none => exact un.keep b o e q (by intro z; exact absurd (show b ∈ ([] : List Addr) from z) (by simp)) (by simp)
        | some u =>
          rcases hO b with z | ⟨ob, xs, z⟩
          · rw [q] at z; cases z
          · have z2 := un.frzs b ob _ z
            obtain ⟨e1, _⟩ := hok b _ z
            obtain ⟨e2, _⟩ := hok' b _ z2
            rw [e] at e1; cases e1
            exact e2
  cases hk : K.lookup a with
  | some o =>
    -- the script is one of the module's own objects
    have e := KX a o hk
    rw [ha] at e
    cases e
    refine core (fun _ => none) (fun _ => .inl rfl) (.inr ⟨_, vs.toArray, _, hk, rfl, rfl, rfl, by rw [List.size_toArray, lenV]; exact hl, by simpa using rv⟩) (fun b u z => by have z' : (none : Option HO) = some u := z; cases z') (fun b z => absurd rfl z) fun z => absurd rfl z
  | none =>
    refine core (fun b => if b = a then some (.frz { cls := .type "list", data := .seq vs.toArray } (.lst (ns.map V.int))) else none) (fun b => ?_) (.inl (.inr ⟨{ cls := .type "list", data := .seq vs.toArray }, if_pos rfl⟩)) (fun b u z => ?_) (fun b z => ?_) fun _ => hk
    · by_cases hb : b = a
      · exact .inr ⟨_, _, if_pos hb⟩
      · exact .inl (if_neg hb)
    · by_cases hb : b = a
      · have z' := (if_pos hb).symm.trans z
        cases z'
        subst hb
        exact ⟨ha, by rw [List.length_map]; exact hl, vs, _, rv, ha⟩
      · have z' := (if_neg hb).symm.trans z
        cases z'
    · by_cases hb : b = a
      · exact hb
      · exact absurd (if_neg hb) z

theorem walk_ofG {l : PySem.W.OpenLaw} {n k : Nat} {q : Program} {loose : List Str} {XP : (Str → Option Value) → Heap → Prop} {YP : World → Heap → Prop} {d : DefRec} {CX : CXT} {x : Str}
    (hn : l.most = some n) (hn2 : n ≤ sizeLine) (hdf : d.params.defaults = []) (hr : Room k callerA)
    (F : ∀ (w : World) (mg : Str → Option Value) (fa : Addr) (h : Heap), YP w h → h.Ns mainGlobals mg → mg d.name = some (.ref fa) →
      ∃ (K : PySem.W.Frag) (fd : FuncData) (sp : Sp), K.In h ∧ (∀ (s : Shared) (u : Value), BindsTo s fd ⟨[u], []⟩ [(x, u)]) ∧
        (∀ (H : Hp) (a : Addr) (ns : List Int), ns.length ≤ n → Only H → SqL K H a (ns.map V.int) → sp [.ref a] H (fun v _ => v = .bl true) fun _ _ _ => False) ∧
        ∀ base : Heap, K.In base → base.Ns mainGlobals mg → FnOkG l.prog w K mg base CX k fa fd [x] sp)
    (hCX : ∀ (H : Hp) (s : Shared) (e : Value) (s' : Shared), CX [] H s (fun _ _ _ => False) e s' → False) :
    PySem.W.WalkO q loose XP YP l.row.toRowW d [] (fun f vs => PySem.call f vs) := by
  refine Att.attach_call hn hdf fun w s₀ s₁ mg mb fa o pm cd doc a vs ns G Y ho hd hcd hmg hobj hints hlen hg => ?_
  obtain ⟨K, fd, sp, KX, hb, hsp, hF⟩ := F w mg fa _ Y G.T.g hmg
  exact law_callG KX G.T.g G.T.b G.T.builtins G.T.nolimit hg hobj hints (Nat.le_trans hlen hn2) hr hF hb (fun H hO hS => hsp H a ns hlen hO hS) fun H e s' => hCX H s₁ e s'
end Bf
end

section
set_option Elab.async false
set_option linter.all false
set_option maxRecDepth 100000
/-! repr of a tuple of instances with an own __repr__ -/
namespace Bf
open PySem PySem.Spec PyProof.Rows L2

/-- one instance writes the text t -/
def RpI (C : Addr) (sp : Sp) (E : XK) (v : V) (t : Str) (H : Hp) : Prop := ∃ r dx fs, v = .ref r ∧ H r = some (.ins C dx fs) ∧ ∀ H', Ext H H' → sp [v] H' (fun z H2 => z = .str t ∧ Ext H' H2) E
theorem RpI.ext {C : Addr} {sp : Sp} {E : XK} {v : V} {t : Str} {H H' : Hp} (h : RpI C sp E v t H) (e : Ext H H') : RpI C sp E v t H' :=
  let ⟨r, dx, fs, a, b, c⟩ := h
  ⟨r, dx, fs, a, e _ _ b, fun H2 e2 => c H2 (e.trans e2)⟩

section
variable {X : Cx} {CX : CXT} {pins : List (Addr × Obj)} {σ : L2.St} {C f : Addr} {n : Nat} {sp : Sp} {E : XK}

theorem under_one {A : Around} {H : Hp} {s : Shared} {v : V} {u : Value} {t : Str} {m : Nat} {Q : Str → Shared → Prop} (hs : PySem.W.findIn X.K (.ref C) "__repr__" = some (some (.ref f))) (hf : PySem.W.isFn X.K (.ref f) = true)
    (F : FnR X.prog X.w X.K X.mg X.base CX n f sp) (sb : Sub X n A) (hx : Passes CX X E) (I : Inv X pins σ H s) (ru : RelV v u) (hr : RpI C sp E v t H) (hm : m ≤ sizeLine)
    (q : ∀ H' s', Inv X pins σ H' s' → Ext H H' → Q t s') : wpAny (model X.prog X.w) A (pyReprUnder m u) Q X.xe s := by
  obtain ⟨r, dx, fs, rfl, ha, hsp⟩ := hr
  cases ru
  obtain ⟨od, J⟩ := insAt I ha
  have KX := I.kIn
  unfold pyReprUnder
  rw [if_neg (by omega)]
  refine wpAny_bind ?_
  unfold pyReprObjUnder pyReprObjBy
  refine wpAny_bind (wpAny_cRoomFor sb.room.units0 ?_)
  refine wpAny_bind (wpAny_bind (J.type.here ((PySem.W.looks_findIn KX hs).here ?_)))
  show wpAny _ _ (if (some (Value.ref f)).isNone = true then _ else _) _ _ _
  rw [if_neg (by simp)]
  refine wpAny_bind ?_
  simp only [callSpecialIfBoundBy?, bindSpecialIfBound?]
  refine wpAny_holding (wpAny_bind (wpAny_bind (wpAny_bind (J.type.here ((PySem.W.looks_findIn KX hs).here ?_)))))
  refine wpAny_bind (wpAny_askSetting (wpAny_ite ?_))
  have fin : wpAny (model X.prog X.w) A (call (.ref f) ([.ref r] ++ [])) (fun v s' => ∃ tk, v = .str t tk ∧ Q t s') X.xe s := by
    refine wpAny_mono (runW (us := [.ref r]) (ws := [.ref r]) F sb.room sb.fr hx I (.cons rfl .nil) (hsp H Ext.rfl')) (fun w s' z => ?_) fun _ _ x => x
    obtain ⟨z', H', I', rz, rfl, e⟩ := z
    obtain ⟨tk, rfl⟩ := rz
    exact ⟨tk, rfl, q H' s' I' e⟩
  split
  · refine wpAny_bind ((PySem.W.bind_fn KX _ (beq_iff_eq.mp hf)).here (wpAny_pure ?_))
    refine wpAny_bind (wpAny_mono fin (fun v s' z => ?_) fun _ _ e => e)
    obtain ⟨tk, rfl, z⟩ := z
    refine wpAny_pure (wpAny_bind (wpAny_isInstance (typeIs_str _ _ _) isSubtype_str_str ?_))
    exact wpAny_pure (wpAny_pure z)
  · refine wpAny_tryCatch (wpAny_bind ((PySem.W.bind_fn KX _ (beq_iff_eq.mp hf)).here (wpAny_pure ?_)))
    refine wpAny_bind (wpAny_mono fin (fun v s' z => ?_) fun _ _ e => e)
    obtain ⟨tk, rfl, z⟩ := z
    refine wpAny_pure (wpAny_bind (wpAny_isInstance (typeIs_str _ _ _) isSubtype_str_str ?_))
    exact wpAny_pure (wpAny_pure z)

theorem under_all {A : Around} (hs : PySem.W.findIn X.K (.ref C) "__repr__" = some (some (.ref f))) (hf : PySem.W.isFn X.K (.ref f) = true)
    (F : FnR X.prog X.w X.K X.mg X.base CX n f sp) (sb : Sub X n A) (hx : Passes CX X E) :
    ∀ {vs : List V} {l : List Value} (ts : List Str) (acc : Array Str) (m : Nat) (H : Hp) (s : Shared) (Q : (Array Str × Nat) → Shared → Prop), Vals vs l → Inv X pins σ H s → Paired (fun v t => RpI C sp E v t H) vs ts → m + piled ts ≤ sizeLine →
      (∀ H' s', Inv X pins σ H' s' → Ext H H' → Q ⟨acc ++ ts.toArray, m + piled ts⟩ s') → wpAny (model X.prog X.w) A (forIn l (⟨acc, m⟩ : (Array Str × Nat)) tupBody) Q X.xe s := by
  intro vs l ts acc m H s Q hv
  induction hv generalizing ts acc m H s with
  | nil =>
    intro I hp hm h
    cases hp
    have h0 := h H s I Ext.rfl'
    simp only [List.forIn_nil]
    exact wpAny_pure (by simpa [piled] using h0)
  | cons ru hl ih =>
    intro I hp hm h
    cases hp with
    | cons hx1 hp =>
      rename_i t ts'
      rw [piled_cons] at hm
      rw [List.forIn_cons]
      refine wpAny_bind (wpAny_bind (under_one hs hf F sb hx I ru hx1 (by omega) fun H1 s1 I1 e1 => wpAny_pure ?_))
      refine ih ts' (acc.push t) (m + (t.length + 2)) H1 s1 I1 ?_ (by omega) fun H2 s2 I2 e2 => ?_
      · clear ih h hl hm
        induction hp with
        | nil => exact .nil
        | cons a _ i => exact .cons (a.ext e1) i
      · have h1 := h H2 s2 I2 (e1.trans e2)
        have e : m + piled (t :: ts') = m + (t.length + 2) + piled ts' := by rw [piled_cons]; omega
        rw [e] at h1
        simpa using h1

/-- repr(t), t a tuple of such instances -/
def rRepT (C : Addr) (sp : Sp) (E : XK) : List V → Hp → VK → Prop := fun xs H Q => ∃ (a : Addr) (vs : List V) (ts : List Str), xs = [.ref a] ∧ H a = some (.tup vs) ∧ Paired (fun v t => RpI C sp E v t H) vs ts ∧ (tupleText ts).length ≤ sizeLine ∧
  ∀ H', Ext H H' → Q (.str (tupleText ts)) H'
theorem call_repT (hs : PySem.W.findIn X.K (.ref C) "__repr__" = some (some (.ref f))) (hf : PySem.W.isFn X.K (.ref f) = true)
    (hG : X.A.guards = some []) (F : FnR X.prog X.w X.K X.mg X.base CX n f sp) (hr : Room (n + 4) X.A) (hx : Passes CX X E) : CallR X (.builtin "repr") (rRepT C sp E) := by
  rintro pins s σ H xs us Q I rv ⟨a, vs, ts, rfl, ha, hp, hz, q⟩
  obtain ⟨u, rfl, ru⟩ := vals1 rv
  cases (show u = Value.ref a from ru)
  obtain ⟨hz0, its, rl, pl⟩ := I.hok a _ ha
  have hT : s.TypeIs (.ref a) "tuple" := pl.typeIs
  have fr0 : X.A.in1.guards = some [] := hG
  have hlen : ts.length = its.length := by rw [← rl.length]; exact (Paired.length hp).symm
  have hpl := piled_le_tupleText ts
  refine call_repr_slot (Room.mono hr (by omega) : Room (n + 1) X.A).in1.units0 hT PySem.F.slot_tuple_repr (wpAny_call ?_)
  refine codeAny_call_builtin_own (Code.quiet_builtin _ (by decide +kernel)) PySem.F.entry_tuple_repr (PySem.F.slot_tuple_repr.check _ _ _ _ _ _ _ _ hT (PySem.F.args_tuple_repr_1 _) ?_)
  show wpOwn _ _ _ (Builtin.tupleReprAt 0 ⟨[.ref a], []⟩) _ _ s
  rw [tuple_repr_tree, tupleReprUnderWay_eq]
  refine wpOwn_bind (wpOwn_stackTailAny (g := []) fr0 (tupGuardF_off _) (tupGuardF_pos _) ?_)
  rw [List.any_nil]
  refine wpOwn_of_wpAny ?_
  obtain ⟨o, ho, hcls, k, hd⟩ := id pl
  show wpAny _ _ (Builtin.Tuple.tupleItemsOf (.ref a) >>= _) _ _ s
  unfold Builtin.Tuple.tupleItemsOf
  refine wpAny_bind (wpAny_bind (wpAny_seqItems ho hd (wpAny_pure ?_)))
  rw [← Array.forIn_toList]
  have sb : Sub X n (X.A.in1.under (.builtin "tuple.__repr__" ⟨[.ref a], []⟩)) := by
    refine ⟨⟨hr.hd, ?_, ?_⟩, rfl⟩
    · have h1 : (X.A.in1.under (.builtin "tuple.__repr__" ⟨[.ref a], []⟩)).depth = X.A.depth + 1 := by first | rfl | simp [Around.under, Code.weight]
      have := hr.dp
      omega
    · have h1 : (X.A.in1.under (.builtin "tuple.__repr__" ⟨[.ref a], []⟩)).units = X.A.units + 2 := by first | rfl | simp [Around.under, Code.cUnits, Code.frames, Code.isFrame]
      have := hr.un
      omega
  refine wpAny_bind (under_all hs hf F sb hx ts #[] 0 H s _ rl I hp (by omega) fun H1 s1 I1 e1 => ?_)
  refine wpAny_bind (wpAny_mkStr (wpAny_pure ?_) (by simpa [tupleText, hlen] using hz))
  have e0 : (("(" : Str) ++ Str.join ", " (#[] ++ ts.toArray).toList ++ (if its.toArray.size == 1 then ",)" else ")" : String) : Str) = tupleText ts := by simp [tupleText, hlen]
  refine ⟨_, _, rfl, .str (tupleText ts), H1, I1.tok _, ⟨s1.toks, ?_⟩, q H1 e1⟩
  rw [← e0]
end
end Bf
end

section
set_option Elab.async false
set_option linter.all false
set_option maxRecDepth 100000
/-! sorted(set(list of texts)) -/
namespace Bf
open PySem PySem.Spec PyProof.Rows L2
def keyOf (e : Int × Value) : Str := match e.2 with | .str k _ => k | _ => ""
def GoodE (w : World) (e : Int × Value) : Prop := ∃ k tk, e.2 = Value.str k tk ∧ e.1 = hashStr w k

/-- the set of ints at a: S its members, n their number; its table rises and can be walked -/
def SetRS (w : World) (h : Heap) (a : Addr) (S : Str → Bool) (n : Nat) : Prop :=
  ∃ o es ep t, h.get? a = some o ∧ o.ExactSet ∧ o.data = .set es ep t ∧ (∀ e ∈ es.toList, GoodE w e) ∧ (es.toList.map keyOf).Nodup ∧ (∀ k, S k = true ↔ k ∈ es.toList.map keyOf) ∧
    es.size < scanBound ∧ t.fits es.size = true ∧ es.size = n ∧ Ris t.place.toList ∧ (w.params.followText "set-order" = true ∨ t.led = true)

section
variable {P : Program} {w : World} {h h' : Heap} {a : Addr} {S : Str → Bool} {n : Nat}

theorem SetRS.at (R : SetRS w h a S n) (k : ∀ o, h.get? a = some o → h'.get? a = some o) : SetRS w h' a S n := by
  obtain ⟨o, es, ep, t, ho, r⟩ := R
  exact ⟨o, es, ep, t, k o ho, r⟩
theorem SetRS.lt (R : SetRS w h a S n) : a < h.objs.size := by
  obtain ⟨o, es, ep, t, ho, r⟩ := R
  exact Heap.lt_size ho
theorem SetRS.congr {S' : Str → Bool} (R : SetRS w h a S n) (e : ∀ k, S' k = S k) : SetRS w h a S' n := by
  have q : S' = S := funext e
  rw [q]; exact R
theorem good_elems {l : List (Int × Value)} (g : ∀ e ∈ l, GoodE w e) : ElemsOf (strKind P w) l := fun e he => by
  obtain ⟨k, tk, h1, h2⟩ := g e he
  exact ⟨⟨k, by rw [h1]; exact strKind_is P w k tk, h2⟩, by rw [h1] <;> rfl⟩
theorem good_is {e : Int × Value} (g : GoodE w e) (k : Str) : (strKind P w).is k e.2 = true ↔ keyOf e = k := by
  obtain ⟨k0, tk, h1, _⟩ := g
  unfold keyOf
  rw [h1]
  show ((k0 == k) = true) ↔ k0 = k
  exact beq_iff_eq
theorem good_mem {l : List (Int × Value)} (g : ∀ e ∈ l, GoodE w e) (k : Str) : k ∈ l.map keyOf ↔ ∃ e ∈ l, (strKind P w).is k e.2 = true := by
  rw [List.mem_map]
  constructor
  · rintro ⟨e, he, q⟩
    exact ⟨e, he, (good_is (g e he) k).2 q⟩
  · rintro ⟨e, he, q⟩
    exact ⟨e, he, (good_is (g e he) k).1 q⟩
theorem SetRS.setOf (R : SetRS w h a S n) : h.SetOf (strKind P w) a S n := by
  obtain ⟨o, es, ep, t, ho, hx, hd, g, nd, hm, hb, hf, hn, _⟩ := R
  exact ⟨o, es, ep, t, ho, hx, hd, good_elems g, fun k => (hm k).trans (good_mem g k), hb, hf, hn⟩
end

section
variable {P : Program} {w : World} {A : Around} {E : Value → Shared → Prop} {s : Shared} {a : Addr} {S : Str → Bool} {n : Nat}

section
variable {P : Program} {w : World} {A : Around} {E : Value → Shared → Prop} {s : Shared} {a : Addr} {S : Str → Bool} {n : Nat}
theorem setRS_add_tail {g : Bool → Sem Unit} (hg : ∀ (b : Bool) (s₁ : Shared) (Q' : Unit → Shared → Prop), Q' () s₁ → wpAny (model P w) A (g b) Q' E s₁)
    {o : Obj} {es : Array (Int × Value)} {ep : Nat} {t : SetTable} (ho : s.heap.get? a = some o) (hex : o.ExactSet) (hd : o.data = .set es ep t)
    {es1 : Array (Int × Value)} {t2 : SetTable} {S' : Str → Bool} (g1 : ∀ e ∈ es1.toList, GoodE w e) (nd1 : (es1.toList.map keyOf).Nodup) (m1 : ∀ k, S' k = true ↔ k ∈ es1.toList.map keyOf)
    (hb1 : es1.size < scanBound) (hf2 : t2.fits es1.size = true) (hr : Ris t2.place.toList) (hl : w.params.followText "set-order" = true ∨ t2.led = true) {wasDummy : Bool} {R : Option Bool → Shared → Prop}
    (hR : ∀ h', Heap.SameBut a s.heap h' → SetRS w h' a S' es1.size → R (some true) { s with heap := h' }) :
    wpAny (model P w) A (do
        storeSet a es1 t2
        if (!wasDummy && t2.tooFull) = true then do
            g (relayAll t2 es1 (SetTable.grown es1.size)).2.2
            storeSet a (relayAll t2 es1 (SetTable.grown es1.size)).1 (relayAll t2 es1 (SetTable.grown es1.size)).2.1
            pure (some true)
          else pure (some true)) R E s := by
  refine wpAny_bind (wpAny_storeSet_of ho hd ?_ (fits_of_scanBound hb1))
  have ho1 := store_at (es' := es1) (t' := t2) ho hd
  have sb1 := Heap.SameBut.update s.heap a (Obj.putSet es1 t2)
  split
  · have pm := relayAll_perm t2 es1 (SetTable.grown es1.size)
    have hf3 := relayAll_fits t2 es1 (SetTable.grown es1.size)
    have hr3 := relayAll_ris t2 es1 (SetTable.grown es1.size)
    have hl3 := relayAll_led t2 es1 (SetTable.grown es1.size)
    generalize relayAll t2 es1 (SetTable.grown es1.size) = Z at pm hf3 hr3 hl3 ⊢
    obtain ⟨es2, t3, gave⟩ := Z
    dsimp only at pm hf3 hr3 hl3 ⊢
    have hsz : es2.size = es1.size := by rw [← Array.length_toList, pm.length_eq, Array.length_toList]
    have hb2 : es2.size < scanBound := by rw [hsz]; exact hb1
    refine wpAny_bind (hg _ _ _ ?_)
    refine wpAny_bind (wpAny_storeSet_of ho1 rfl ?_ (fits_of_scanBound hb2))
    have ho2 := store_at (es' := es2) (t' := t3) ho1 rfl
    refine wpAny_pure (hR _ (sb1.trans (Heap.SameBut.update _ a _)) ?_)
    exact ⟨_, es2, _, t3, ho2, hex, rfl, fun e he => g1 e (pm.mem_iff.mp he), (pm.map keyOf).nodup_iff.mpr nd1, fun k => (m1 k).trans (pm.map keyOf).mem_iff.symm, hb2, hf3, hsz, hr3,
      hl.imp id fun z => by rw [hl3]; exact z⟩
  · exact wpAny_pure (hR _ sb1 ⟨_, es1, _, t2, ho1, hex, rfl, g1, nd1, m1, hb1, hf2, rfl, hr, hl⟩)

theorem setRS_add_hashed {k : Str} {tk : Tok} {Q : Bool → Shared → Prop} (R : SetRS w s.heap a S n) (room : n + 1 < scanBound)
    (hQ : ∀ h', Heap.SameBut a s.heap h' → SetRS w h' a (fun j => S j || decide (j = k)) (if S k = true then n else n + 1) → Q (!S k) { s with heap := h' }) :
    wpAny (model P w) A (setAddHashed a (.str k tk) ((strKind P w).hash k)) Q E s := by
  obtain ⟨o, es, ep, t, ho, hex, hd, g, nd, hm, hb, hf, hn, hr, hl⟩ := R
  have hkey : (strKind P w).is k (.str k tk) = true := strKind_is P w k tk
  have hsc : (Value.str k tk).scannable = true := rfl
  have hel : ElemsOf (strKind P w) es.toList := good_elems g
  unfold setAddHashed setAddHashedIn
  refine wpAny_holding (wpAny_bind (wpAny_setState_of ho hd hf ?_))
  dsimp only
  rw [byScan_of hsc hb hel]
  simp only [↓reduceIte]
  unfold setAddByScan
  refine wpAny_bind ?_
  refine wpAny_bind (wpAny_rule ?_)
  refine wpAny_bind (wpAny_setScan_of hkey ho hd hf hel ?_)
  cases hfi : List.findIdx? (fun e => (strKind P w).is k e.2) es.toList with
  | some j =>
    dsimp only
    obtain ⟨hj, pj, _⟩ := List.findIdx?_eq_some_iff_getElem.mp hfi
    have hSk : S k = true := (hm k).2 ((good_mem (P := P) (w := w) g k).2 ⟨es.toList[j], List.getElem_mem hj, pj⟩)
    refine wpAny_pure (wpAny_pure ?_)
    have q := hQ s.heap (Heap.SameBut.refl a s.heap) ⟨o, es, ep, t, ho, hex, hd, g, nd, fun i => by
      rw [Bool.or_eq_true, decide_eq_true_eq, ← hm i]
      exact ⟨fun z => z.elim id (fun e => e ▸ hSk), .inl⟩, hb, hf, by rw [if_pos hSk]; exact hn, hr, hl⟩
    rw [hSk] at q
    exact q
  | none =>
    dsimp only
    have hnk : k ∉ es.toList.map keyOf := fun z => by
      obtain ⟨e, he, q⟩ := (good_mem (P := P) (w := w) g k).1 z
      have c := List.findIdx?_eq_none_iff.mp hfi e he
      rw [q] at c
      cases c
    have hSk : S k = false := by
      cases q : S k with
      | false => rfl
      | true => exact absurd ((hm k).1 q) hnk
    have hgw : ∀ (b : Bool) {s₁ : Shared} {Q' : Unit → Shared → Prop}, Q' () s₁ → wpAny (model P w) A (match b with | true => rule "set.scan.the-table-gave-way" | false => pure ()) Q' E s₁ :=
      fun b s₁ Q' q => by cases b <;> first | exact wpAny_pure q | exact wpAny_rule q
    have pm := layNew_perm t es ((strKind P w).hash k) (.str k tk)
    have hf1 := layNew_fits t es ((strKind P w).hash k) (.str k tk)
    have hr1 := layNew_ris t es ((strKind P w).hash k) (.str k tk) hr
    have hl1 := layNew_led t es ((strKind P w).hash k) (.str k tk)
    generalize layNew t es ((strKind P w).hash k) (.str k tk) = Z at pm hf1 hr1 hl1 ⊢
    obtain ⟨es1, t1, wasDummy, gave⟩ := Z
    dsimp only at pm hf1 hr1 hl1 ⊢
    rw [Array.toList_push] at pm
    have pc : es1.toList.Perm (((strKind P w).hash k, Value.str k tk) :: es.toList) := pm.trans (List.perm_append_singleton _ _)
    have pk : (es1.toList.map keyOf).Perm (k :: es.toList.map keyOf) := pc.map keyOf
    have g1 : ∀ e ∈ es1.toList, GoodE w e := fun e he => by
      rcases List.mem_cons.mp (pc.mem_iff.mp he) with z | z
      · rw [z]; exact ⟨k, tk, rfl, rfl⟩
      · exact g e z
    have nd1 : (es1.toList.map keyOf).Nodup := pk.nodup_iff.mpr (List.nodup_cons.mpr ⟨hnk, nd⟩)
    have m1 : ∀ i, (S i || decide (i = k)) = true ↔ i ∈ es1.toList.map keyOf := fun i => by
      rw [Bool.or_eq_true, decide_eq_true_eq, hm i, pk.mem_iff, List.mem_cons]
      exact Or.comm
    have hsz : es1.size = n + 1 := by rw [← Array.length_toList, pc.length_eq, List.length_cons, Array.length_toList, hn]
    have hb1 : es1.size < scanBound := by rw [hsz]; exact room
    have hled : w.params.followText "set-order" = true ∨ t1.led = true := hl.imp id fun z => by rw [hl1]; exact z
    have fin : ∀ h', Heap.SameBut a s.heap h' → SetRS w h' a (fun j => S j || decide (j = k)) es1.size → Q true { s with heap := h' } := fun h' sb r => by
      have q := hQ h' sb
      rw [hSk] at q
      rw [hsz] at r
      exact q r
    refine wpAny_bind (hgw _ ?_)
    split
    · refine wpAny_bind ?_
      rw [hashByValue_scannable 8 hsc]
      refine wpAny_pure ?_
      refine setRS_add_tail ?_ ho hex hd g1 nd1 m1 hb1 ?_ ?_ ?_ ?_
      · intro b s₁ Q' q; cases b <;> first | exact wpAny_pure q | exact wpAny_rule q
      · first | (split <;> first | exact hf1 | exact SetTable.fits_plain_off hf1) | exact hf1
      · first | (split <;> exact hr1) | exact hr1
      · first | (split <;> exact hled) | exact hled
      · intro h' sb r; dsimp only; exact wpAny_pure (fin h' sb r)
    · refine wpAny_bind (wpAny_pure ?_)
      simp only [↓reduceIte]
      refine setRS_add_tail ?_ ho hex hd g1 nd1 m1 hb1 hf1 hr1 hled ?_
      · intro b s₁ Q' q; cases b <;> first | exact wpAny_pure q | exact wpAny_rule q
      · intro h' sb r; dsimp only; exact wpAny_pure (fin h' sb r)

end
theorem setRS_new_at {w : World} {h : Heap} {a : Addr} {ns : List Str} (ho : h.get? a = some { cls := .type "set", dict := none, data := .set #[] 0 (.fresh 0 0 (!w.params.followText "set-order")) }) : SetRS w h a (fun j => decide (j ∈ ns.take 0)) 0 :=
  ⟨_, #[], 0, _, ho, ⟨rfl, rfl, rfl⟩, rfl, (fun e he => by simp at he), (by simp), (fun k => by simp), (by decide), (by rfl), rfl, List.Pairwise.nil, by
    show _ ∨ (!w.params.followText "set-order") = true
    cases w.params.followText "set-order"
    · exact .inr rfl
    · exact .inl rfl⟩
section
variable {P : Program} {w : World} {A : Around} {E : Value → Shared → Prop} {s : Shared}
theorem set_update_ints {I : Addr} {fp wr : List Addr} {G : Array GenState → Array GenState → Prop} {n : Nat} {Pv : Nat → Value → Prop} {St : Nat → Shared → Prop} {R : Result → Shared → Prop}
    (W : WalksS P w A.in1 I fp wr G n Pv St) (S : Addr) (hSf : S ∉ fp) (ns : List Str) (hn : n = ns.length) (hb : ns.length + 1 < scanBound) (hval : ∀ i v, Pv i v → ∃ k t, ns[i]? = some k ∧ v = .str k t) :
    ∀ (k i : Nat) (s : Shared), n - i = k → i ≤ n → St i s → (∃ c, c ≤ i ∧ SetRS w s.heap S (fun j => decide (j ∈ ns.take i)) c) →
      (∀ s' c, Moved (S :: wr) G s s' → c ≤ n → SetRS w s'.heap S (fun j => decide (j ∈ ns)) c → R (.ok (.ret .none)) s') →
      codeAny (model P w) A (.builtin "set.update.loop" ⟨[.ref S, .ref I], []⟩) R s := by
  have hSw : S ∉ wr := fun h => hSf (W.sub _ h)
  have hsub : ∀ b ∈ wr, b ∈ S :: wr := fun b hb => List.mem_cons_of_mem _ hb
  intro k
  induction k with
  | zero =>
    intro i s hk' hi hst ⟨c, hc, hS⟩ hR
    have hin : i = n := by omega
    subst hin
    refine codeAny_builtin F.entry_set_update_loop ?_
    rw [Around.under_plainId F.plain_set_update_loop _]
    show wpAny _ A.in1 (pyNext (.ref I) >>= _) _ _ s
    refine wpAny_bind (W.done s _ _ hst fun s' hm => ?_)
    show wpAny _ A.in1 (ret Value.none) _ _ s'
    have e : ns.take i = ns := List.take_of_length_le (by omega)
    rw [e] at hS
    exact wpAny_pure (hR s' c (hm.mono hsub) hc (hS.at fun o e => hm.heap S o hSw e))
  | succ k ih =>
    intro i s hk' hi hst ⟨c, hc, hS⟩ hR
    have hlt : i < n := by omega
    refine codeAny_builtin F.entry_set_update_loop ?_
    rw [Around.under_plainId F.plain_set_update_loop _]
    show wpAny _ A.in1 (pyNext (.ref I) >>= _) _ _ s
    refine wpAny_bind (W.item i s _ _ hlt hst fun v s' hP hst' hm => ?_)
    obtain ⟨z, t, hz, rfl⟩ := hval i v hP
    have hS' : SetRS w s'.heap S (fun j => decide (j ∈ ns.take i)) c := hS.at fun o e => hm.heap S o hSw e
    show wpAny _ A.in1 (holding [Value.str z t] (setAdd S (.str z t)) >>= _) _ _ s'
    refine wpAny_bind (wpAny_holding ?_)
    unfold setAdd
    refine wpAny_holding ?_
    refine wpAny_bind ((strKind P w).pyHash (k := z) (strKind_is _ _ _ _) ?_)
    refine setRS_add_hashed (s := { s' with toks := s'.toks + 1 }) hS' (by omega) fun h' hsb hS2 => ?_
    have hS3 : SetRS w h' S (fun j => decide (j ∈ ns.take (i + 1))) (if decide (z ∈ ns.take i) = true then c else c + 1) := hS2.congr fun j => by
      rw [List.take_add_one, hz]
      simp [List.mem_append]
    have hc3 : (if decide (z ∈ ns.take i) = true then c else c + 1) ≤ i + 1 := by
      split <;> omega
    refine wpAny_pure ⟨plainId_quiet F.plain_set_update_loop _, ih (i + 1) _ (by omega) hlt (W.frame _ s' _ _ hst' (Nat.le_succ _) fun b hb o e => ?_) ⟨_, hc3, hS3⟩ fun s'' c2 hm'' hc'' hS'' => ?_⟩
    · rw [hsb.2 b (fun h : b = S => hSf (by rw [← h]; exact hb))]; exact e
    · refine hR s'' c2 (Moved.trans W.gtrans ((hm.mono hsub).then_heap (Nat.le_succ _) fun b o hb e => ?_) hm'') hc'' hS''
      rw [hsb.2 b (fun h : b = S => hb (by rw [h]; exact List.mem_cons_self))]; exact e

theorem code_set_led1 (a : Value) {Q₁ : Value → Shared → Prop}
    (h : Q₁ (.ref s.heap.objs.size) { s with heap := s.heap.push { cls := .type "set", dict := none, data := .set #[] 0 (.fresh 0 0 (!w.params.followText "set-order")) } }) :
    codeAny (model P w) A (.call (.builtin "set.__new__") ⟨[.type "set", a], []⟩) (wants Q₁ E) s := by
  refine codeAny_of_tree ?_
  show wpAny _ A.in1 (do checkBuiltinCall "set.__new__" ⟨[.type "set", a], []⟩; again (.builtin "set.__new__" ⟨[.type "set", a], []⟩)) _ _ s
  refine wpAny_bind (wpAny_of_eq (F.newCall_set_1 a) (wpAny_pure ⟨plainId_quiet F.plain_set_new _, codeAny_builtin F.entry_set_new ?_⟩))
  rw [Around.under_plainId F.plain_set_new _]
  unfold Builtin.«set.__new__» Builtin.Frozenset.newClass
  have hsub := sub_set_self
  obtain ⟨hp, g, d, tk, os⟩ := s
  dsimp only
  wp_walk
  refine wpAny_askSetting (wpAny_pure ?_)
  dsimp only
  simp only [newObj]
  refine wpAny_bind (wpAny_alloc (wpAny_pure ?_))
  exact wpAny_pure h

end
end
end Bf
end

section
set_option Elab.async false
set_option linter.all false
set_option maxRecDepth 100000
/-! set(list of texts), sorted(set) */ -/
namespace Bf
open PySem PySem.Spec PyProof.Rows L2
section
variable {P : Program} {w : World} {A : Around} {E : Value → Shared → Prop} {s : Shared}
set_option maxRecDepth 100000 in
set_option maxHeartbeats 3200000 in
theorem call_set_lstS {l : Addr} {items : Array Value} (ns : List Str) {Q : Value → Shared → Prop} (hh : A.handled = none) (hl : s.heap.IsList l items) (hit : Vals (ns.map V.str) items.toList) (hb : ns.length + 1 < scanBound)
    (h : ∀ (h' : Heap) (tk c : Nat), SetRS w h' s.heap.objs.size (fun j => decide (j ∈ ns)) c → c ≤ ns.length → (∀ b o, s.heap.get? b = some o → h'.get? b = some o) → Q (.ref s.heap.objs.size) { s with heap := h', toks := tk }) :
    wpAny (model P w) A (call (.type "set") [.ref l]) Q E s := by
  have hisz : items.size = ns.length := by
    have q := hit.length
    rw [List.length_map] at q
    rw [← Array.length_toList]
    exact q.symm
  obtain ⟨c, tl, hmro⟩ := F.called_set.mro
  have hmade := F.called_set.made
  have hsub := F.called_set.sub
  refine wpAny_call (codeAny_of_tree ?_)
  show wpAny _ _ (callAny (.type "set") _) _ _ _
  refine wpAny_pure ⟨Code.quiet_builtin _ (by decide +kernel), codeAny_builtin F.entry_type_call ?_⟩
  rw [Around.under_plain (weight_type_call_type "set" [.ref l] []) rfl]
  have h1 := F.called_set.notType
  have h2 := F.called_set.canCreate
  have hct := F.typeCall_set_1 (.ref l)
  repeat (any_goals (first | assumption | wp_step))

  refine codeAny_mono (code_set_led1 (.ref l) (E := E) (Q₁ := fun obj s₁ => obj = .ref s.heap.objs.size ∧ s₁ = { s with heap := s.heap.push { cls := .type "set", dict := none, data := .set #[] 0 (.fresh 0 0 (!w.params.followText "set-order")) } }) ⟨rfl, rfl⟩) fun r s₁ hr => ?_
  cases r with
  | error e => exact hr
  | ok fl =>
    cases fl with
    | ret obj =>
      obtain ⟨rfl, rfl⟩ := hr
      have hS : (s.heap.push { cls := .type "set", dict := none, data := .set #[] 0 (.fresh 0 0 (!w.params.followText "set-order")) }).get? s.heap.objs.size = some { cls := .type "set", dict := none, data := .set #[] 0 (.fresh 0 0 (!w.params.followText "set-order")) } := Heap.get?_push_size _ rfl
      have hT : Shared.TypeIs { s with heap := s.heap.push { cls := .type "set", dict := none, data := .set #[] 0 (.fresh 0 0 (!w.params.followText "set-order")) } } (.ref s.heap.objs.size) "set" := ⟨_, hS, rfl⟩
      have hli := F.called_set.init.lookup
      have hbi := F.called_set.init.bind (.ref s.heap.objs.size)
      repeat (any_goals (first | assumption | wp_step))

      refine codeAny_mono (codeAny_call_builtin (R := wants (fun r s₂ => r = .none ∧ ∃ h' tk c, s₂ = { s with heap := h', toks := tk } ∧ SetRS w h' s.heap.objs.size (fun j => decide (j ∈ ns)) c ∧ c ≤ ns.length ∧
          (∀ b o, s.heap.get? b = some o → h'.get? b = some o)) E) F.called_set.init.plain F.entry_set_init (check_set_init_1 hT ?_)) fun r₂ s₂ hr₂ => ?_
      · obtain ⟨ol, hol, hcl, nl, hdl⟩ := hl
        obtain ⟨ocls, odict, odata, oslots⟩ := ol
        simp only at hcl hdl
        subst hcl; subst hdl
        have hol' : (s.heap.push { cls := .type "set", dict := none, data := .set #[] 0 (.fresh 0 0 (!w.params.followText "set-order")) }).get? l = some { cls := .type "list", dict := odict, data := .seq items nl, slots := oslots } := Heap.get?_push_of_some _ hol
        have hsls := F.sub_list_set
        have hslf := F.sub_list_frozenset
        have hne : (Value.type "list" == Value.type "dict") = false := by decide
        have hl1 : (s.heap.push { cls := .type "set", dict := none, data := .set #[] 0 (.fresh 0 0 (!w.params.followText "set-order")) }).IsList l items := ⟨_, hol', rfl, nl, rfl⟩
        unfold Builtin.«set.__init__» noKeywords Builtin.Frozenset.updateFrom
        generalize hPI : pyIter = PI
        wp_walk
        subst hPI

        refine wpAny_pyIter_list hl1 ?_
        refine wpAny_bind (wpAny_runValue ?_)
        have hlS : l < s.heap.objs.size := Heap.lt_size hol
        have hh3 : A.in1.in1.in1.handled = none := by simp [hh]
        have hz1 : (s.heap.push { cls := .type "set", dict := none, data := .set #[] 0 (.fresh 0 0 (!w.params.followText "set-order")) }).objs.size = s.heap.objs.size + 1 := Heap.size_push ..
        have hneI : l ≠ (s.heap.push { cls := .type "set", dict := none, data := .set #[] 0 (.fresh 0 0 (!w.params.followText "set-order")) }).objs.size := by
          rw [Heap.size_push]; exact Nat.ne_of_lt (Nat.lt_succ_of_lt hlS)
        have hSf : s.heap.objs.size ∉ [(s.heap.push { cls := .type "set", dict := none, data := .set #[] 0 (.fresh 0 0 (!w.params.followText "set-order")) }).objs.size, l] := by
          rw [Heap.size_push]; simp only [List.mem_cons, List.mem_singleton, List.not_mem_nil, or_false, not_or]
          exact ⟨Nat.ne_of_lt (Nat.lt_succ_self _), Nat.ne_of_gt hlS⟩
        have hval : ∀ (i : Nat) (v : Value), items[i]? = some v → ∃ k t, ns[i]? = some k ∧ v = .str k t := fun i v hv => by
          have hi : i < ns.length := by rw [← hisz]; exact (Array.getElem?_eq_some_iff.mp hv).1
          obtain ⟨u, hu, ru⟩ := hit.get (show (ns.map V.str)[i]? = some (V.str ns[i]) from by rw [List.getElem?_map, List.getElem?_eq_getElem hi] <;> rfl)
          rw [Array.getElem?_toList, hv] at hu
          cases hu
          obtain ⟨t, e⟩ := ru
          exact ⟨ns[i], t, List.getElem?_eq_getElem hi, e⟩
        refine set_update_ints ((Walks.list hh3 _ l hneI items).toS) s.heap.objs.size
          hSf ns hisz hb hval (items.size - 0) 0 _ (by omega) (Nat.zero_le _)
          ⟨⟨_, Heap.get?_push_size _ rfl, rfl, rfl⟩, (hl1.push _)⟩ ?hS0 ?hR
        case hS0 =>
          have hget : ((s.heap.push { cls := .type "set", dict := none, data := .set #[] 0 (.fresh 0 0 (!w.params.followText "set-order")) }).push { cls := .type "list_iterator", data := .fields #[.ref l, .int 0 0] }).get? s.heap.objs.size
              = some { cls := .type "set", dict := none, data := .set #[] 0 (.fresh 0 0 (!w.params.followText "set-order")) } := Heap.get?_push_of_some _ hS
          exact ⟨0, Nat.le_refl 0, setRS_new_at hget⟩
        case hR =>
          intro s' c' hm hc' hS'
          obtain ⟨h', g2, d', tk', os'⟩ := s'
          have eg : g2 = s.gens := hm.gens
          have ed : d' = s.drawn := hm.drawn
          have eo : os' = s.os := hm.os
          subst eg; subst ed; subst eo
          show wpAny _ _ _ _ _ _
          refine wpAny_pure ?_
          show wpAny _ _ (ret Value.none) _ _ _
          rw [hisz] at hc'
          refine wpAny_pure ⟨rfl, h', tk', c', rfl, hS', hc', fun b o e => ?_⟩
          have hb0 : b < s.heap.objs.size := Heap.lt_size e
          have hb1 : b ≠ s.heap.objs.size := Nat.ne_of_lt hb0
          have hb2 : b ≠ (s.heap.push { cls := .type "set", dict := none, data := .set #[] 0 (.fresh 0 0 (!w.params.followText "set-order")) }).objs.size := by
            rw [Heap.size_push]; exact Nat.ne_of_lt (Nat.lt_succ_of_lt hb0)
          exact hm.heap b o (by simp only [List.mem_cons, List.mem_singleton, List.not_mem_nil, or_false, not_or]; exact ⟨hb1, hb2⟩) (Heap.get?_push_of_some _ (Heap.get?_push_of_some _ e))

      · cases r₂ with
        | error e => exact hr₂
        | ok fl₂ =>
          cases fl₂ with
          | ret r =>
            obtain ⟨rfl, h', tk, c', rfl, hS', hc', hk'⟩ := hr₂
            repeat (any_goals (first | assumption | wp_step))
            exact h _ _ _ hS' hc' hk'
          | _ => exact hr₂.elim
    | _ => exact hr.elim

end
end Bf
end

section
set_option Elab.async false
set_option linter.all false
set_option maxRecDepth 100000
/-! set(list of texts), sorted(set): the rules -/
namespace Bf
open PySem PySem.Spec PyProof.Rows L2
/-- the set of the texts zs at a -/
def SetS (w : World) (a : Addr) (zs : List Str) : HO := .ext fun h => ∃ c, c ≤ zs.length ∧ SetRS w h a (fun j => decide (j ∈ zs)) c
theorem setS_new {w : World} {P : Program} {H : Hp} {h : Heap} {a : Addr} {zs : List Str} {c : Nat} (hc : c ≤ zs.length) (R : SetRS w h a (fun j => decide (j ∈ zs)) c) : ObjOk P w H h a (SetS w a zs) := by
  have ⟨o, _, _, _, ho, _⟩ := R
  exact ⟨⟨c, hc, R⟩, ⟨o, ho⟩, fun h1 h2 p k => let ⟨c, hc, r⟩ := p; ⟨c, hc, r.at k⟩⟩
section
variable {X : Cx}
/-- set(list of texts) -/
def rSetL (K : PySem.W.Frag) (w : World) : List V → Hp → VK → Prop := fun xs H Q => ∃ (l : Addr) (zs : List Str), xs = [.ref l] ∧ SqL K H l (zs.map V.str) ∧ zs.length < 64 ∧ ∀ p, H p = none → Q (.ref p) (upd H p (SetS w p zs))
theorem call_setL (hc : X.calm = true) : CallR X (.type "set") (rSetL X.K X.w) := by
  rintro pins s σ H xs us Q I r ⟨l, zs, rfl, hq, h64, q⟩
  obtain ⟨u, rfl, ru⟩ := vals1 r
  cases (show u = Value.ref l from ru)
  obtain ⟨its, rv, pl, hz⟩ := I.list hq
  have hl : s.heap.IsList l its.toArray := by
    obtain ⟨o, m, e, c, d, q⟩ := pl
    exact ⟨o, e, c, m, q⟩
  refine call_set_lstS zs (I.ok.hd hc) hl (by simpa using rv) (by unfold scanBound; omega) fun h' tk c R hcl hk => ?_
  exact ⟨.ref _, upd H s.heap.objs.size (SetS X.w s.heap.objs.size zs), I.laid (t' := tk) hk (Nat.le_refl _) (setS_new hcl R), rfl, q _ (I.hok.fresh (Nat.le_refl _))⟩

theorem strs_of : ∀ (l : List Value), (∀ v ∈ l, ∃ k tk, v = Value.str k tk) → ∃ ks, StrsAre l ks
  | [], _ => ⟨[], .nil⟩
  | v :: l, h => by
    obtain ⟨k, tk, rfl⟩ := h v List.mem_cons_self
    obtain ⟨ks, hk⟩ := strs_of l fun u hu => h u (List.mem_cons_of_mem _ hu)
    exact ⟨k :: ks, .cons k tk hk⟩
/-- sorted(set of texts) -/
def rSortS (w : World) : List V → Hp → VK → Prop := fun xs H Q => ∃ (a : Addr) (zs : List Str), xs = [.ref a] ∧ H a = some (SetS w a zs) ∧ zs.length < 64 ∧
  ∀ (ys : List Str) p, ys.Nodup → (∀ k, k ∈ ys ↔ k ∈ zs) → sortedS ys = true → H p = none → Q (.ref p) (upd H p (.lst (ys.map V.str)))
theorem call_sortS (hcalm : X.calm = true) : CallR X (.builtin "sorted") (rSortS X.w) := by
  rintro pins s σ H xs us Q I r ⟨a, zs, rfl, ha, h64z, q⟩
  obtain ⟨u, rfl, ru⟩ := vals1 r
  cases (show u = Value.ref a from ru)
  obtain ⟨c0, hc0, R⟩ := (I.hok a _ ha).1
  obtain ⟨o, es, ep, t, ho, hex, hd, g, nd, hm, hb, hf, hn, hr, hl⟩ := R
  refine Calls.call_function_entry PyProof.Rows.kind_sorted PyProof.Rows.plain_sorted PyProof.Rows.entry_sorted (PyProof.Rows.args_sorted1 _) ?_
  unfold Builtin.«sorted»
  refine wpAny_bind (m := checkCount "sorted" 1 1 _) (wpAny_pure ?_)
  refine wpAny_bind (collect_set (A := X.A.in1) (I.ok.hd hcalm) ⟨o, ho, hex.1, hd⟩ hf hb hr hl fun s1 vs k1 hz g1 o1 pm => ?_)
  have hvl : vs.length = c0 := by rw [pm.length_eq, List.length_map, Array.length_toList]; exact hn
  obtain ⟨ks, hS⟩ := strs_of vs fun v hv => by
    obtain ⟨e, he, q⟩ := List.mem_map.mp (pm.mem_iff.mp hv)
    obtain ⟨k, tk, h1, _⟩ := g e he
    exact ⟨k, tk, by rw [← q]; exact h1⟩
  have kk : ∀ (l : List Value) (js : List Str), StrsAre l js → l.map (fun v => keyOf (0, v)) = js := fun l js h => by
    induction h with
    | nil => rfl
    | cons k tk _ ih => rw [List.map_cons, ih] <;> rfl
  have pk : ks.Perm (es.toList.map keyOf) := by
    have q := pm.map (fun v => keyOf (0, v))
    rw [List.map_map, kk _ _ hS] at q
    exact q
  have h64 : vs.length < 64 := by omega
  refine wpAny_bind (wpAny_newList ?_ (by rw [hvl, sizeLine_eq]; omega))
  have hoL : (s1.heap.push (seqObj "list" vs.toArray 0)).get? s1.heap.objs.size = some (seqObj "list" vs.toArray 0) := Heap.get?_push_size _ rfl
  refine wpAny_bind (wpAny_holding (wpAny_call_entry slot_list_sort ⟨_, hoL, rfl⟩ entry_list_sort
    (list_sort_treeK strKind_oneLt hoL hS.keysOf (fun v₁ v₂ rest e => keyKind_strs (by rw [← e]; exact hS)) h64 fun st' hp hs => ⟨_, rfl, ?_⟩) (args_list_sort _)))
  obtain ⟨ys, g1', g2, g3⟩ := sorted_out_str hS hp hs
  obtain ⟨e', he'⟩ := sortedHeap_at (vs := vs) (out := (arrOf st').map (·.2)) hoL
  have hlen : (ys.map V.str).length ≤ sizeLine := by
    have e1 := hS.length
    rw [List.length_map, g2.length_eq, sizeLine_eq]
    omega
  have pn : ys.Perm (es.toList.map keyOf) := g2.trans pk
  have hn' : H s1.heap.objs.size = none := I.hok.fresh hz
  have hk : ∀ b u, s.heap.get? b = some u → (sortedHeap (s1.heap.push (seqObj "list" vs.toArray 0)) s1.heap.objs.size vs ((arrOf st').map (·.2))).get? b = some u := fun b u e => by
    have q := k1 b u e
    have hlt := Heap.lt_size q
    rw [sortedHeap_old (Nat.ne_of_lt hlt) (by rw [size_push']; exact Nat.lt_succ_of_lt hlt)]
    exact Heap.get?_push_of_some _ q
  have J : Inv X pins σ (upd H s1.heap.objs.size (.lst (ys.map V.str))) { s with heap := sortedHeap (s1.heap.push (seqObj "list" vs.toArray 0)) s1.heap.objs.size vs ((arrOf st').map (·.2)), gens := s1.gens, drawn := s1.drawn, toks := s1.toks } :=
    I.call (ch := []) (Un.laid hk hz hn') (I.hok.laid hk hz ⟨hlen, ((arrOf st').map (·.2)).toList, e', vals_of_strs g1', by rw [Array.toArray_toList]; exact he'⟩) (by rw [g1]; exact I.bare) (fun _ z => nomatch z)
  refine wpAny_pure ⟨_, rfl, .ref s1.heap.objs.size, _, ?_, rfl, q ys _ (pn.nodup_iff.mpr nd) (fun k => by rw [pn.mem_iff, ← hm k]; simp) g3 hn'⟩
  cases s1
  cases s
  cases o1
  exact J
end
end Bf
end

section
set_option Elab.async false
set_option linter.all false
set_option maxRecDepth 100000
/-! xs[::2] of a list of three -/
namespace Bf
open PySem PySem.Spec PyProof.Rows L2
theorem pick2 (x y z : Value) : slicePick ([x, y, z].toArray) none none (some 2) = [x, z].toArray := by
  have e : sliceRange (sliceBounds none none (some 2) 3).1 (sliceBounds none none (some 2) 3).2.1 (sliceBounds none none (some 2) 3).2.2 = [0, 2] := by decide
  unfold slicePick
  show ((sliceRange (sliceBounds none none (some 2) 3).1 (sliceBounds none none (some 2) 3).2.1 (sliceBounds none none (some 2) 3).2.2).filterMap _).toArray = _
  rw [e]
  rfl
def tEnds (K : PySem.W.Frag) (te : TE) : TE := fun σ H Q => te σ H fun x H1 => ∃ a v1 v2 v3, x = .ref a ∧ SqL K H1 a [v1, v2, v3] ∧ ∀ p, H1 p = none → Q (.ref p) (upd H1 p (.lst [v1, v3]))
section
variable {X : Cx}
theorem pe_ends {e : Expr} {te : TE} {k : Nat} {p1 p3 pos : Pos} (he : PE X e te) : PE X (.Subscript e (.Slice none none (some (.Constant (.int 2) k p1)) p3) pos) (tEnds X.K te) := by
  refine ⟨fun pins s σ H Q I h => ?_⟩
  refine Subscript_ (thn (he.run pins s σ H _ I h) fun v s1 ⟨x, H1, I1, r1, q1⟩ => ?_)
  obtain ⟨a, v1, v2, v3, ex, hx, q⟩ := q1
  subst ex
  cases r1
  have hst : PO X (some (.Constant (.int 2) k p1)) (tPart (tC (.int 2))) := po_some pe_int
  refine wpAny_Slice (thn (po_none.run pins s1 σ H1 (fun o H2 => o = none ∧ H2 = H1) I1 ⟨rfl, rfl⟩) fun vl s2 ⟨l, H2, I2, pl, el, e2⟩ => ?_)
  subst el e2
  refine thn (po_none.run pins s2 σ H2 (fun o H3 => o = none ∧ H3 = H2) I2 ⟨rfl, rfl⟩) fun vu s3 ⟨u, H3, I3, pu, eu, e3⟩ => ?_
  subst eu e3
  refine thn (hst.run pins s3 σ H3 (fun o H4 => o = some 2 ∧ H4 = H3) I3 ⟨2, rfl, rfl, rfl⟩) fun vs s4 ⟨o, H4, I4, ps, eo, e4⟩ => ?_
  subst eo e4
  have I5 : Inv X pins σ H4 { s4 with heap := s4.heap.push { cls := .type "slice", data := .fields #[vl, vu, vs] } } := I4.kept (t' := s4.toks) fun b ob q => Heap.get?_push_of_some _ q
  obtain ⟨its, r, ht, hz⟩ := I5.list hx
  have hlen := r.length
  obtain ⟨u1, u2, u3, rfl, r1, r2, r3⟩ : ∃ u1 u2 u3, its = [u1, u2, u3] ∧ RelV v1 u1 ∧ RelV v2 u2 ∧ RelV v3 u3 := by
    cases r with
    | cons p q =>
      cases q with
      | cons p' q' =>
        cases q' with
        | cons p'' q'' =>
          cases q''
          exact ⟨_, _, _, rfl, p, p', p''⟩
  show wpAny (model X.prog X.w) X.A (subscriptTail e (.Slice none none (some (.Constant (.int 2) k p1)) p3) (.ref a) (.ref s4.heap.objs.size)) (EP X pins σ Q) X.xe { s4 with heap := s4.heap.push { cls := .type "slice", data := .fields #[vl, vu, vs] } }
  refine tail_any (ops := [.ref a, .ref s4.heap.objs.size]) ht.isList.typeIs (PySem.slot_list_getitem.lookup) ?_ (by with_unfolding_all rfl)
  refine wpAny_getItem_list_slice ht.isList (Heap.IsSliceOf.new _ vl vu vs) pl pu ps (by decide) ?_ (by rw [List.size_toArray]; show 3 ≤ sizeLine; decide)
  rw [pick2]
  refine ⟨.ref _, _, I5.laid (t' := s4.toks) (o := .lst [v1, v3]) (fun b ob q => Heap.get?_push_of_some _ q) (Nat.le_refl _) ?_, rfl, q _ (I5.hok.fresh (Nat.le_refl _))⟩
  exact ⟨by show 2 ≤ sizeLine; decide, _, 0, .cons r1 (.cons r3 .nil), Heap.get?_push_size _ rfl⟩
end
end Bf
end

section
set_option Elab.async false
set_option linter.all false
set_option maxRecDepth 100000
/-! loops and comprehensions over anything with n turns -/
namespace Bf
open PySem PySem.Spec PyProof.Rows L2
theorem lc_gen {J : It} {n : Nat} {g : TG} {tt : TT} {te : TE} {vs : List Nat} {σ : L2.St} {H1 : Hp} {D : Addr} {Qd : Hp → Prop} (Pv : Nat → Hp → Prop) (h0 : Pv 0 (upd H1 D (.lst []))) (hgo : ∀ i H, i < n → Pv i H → J.go i H) (hst : ∀ H, Pv n H → J.stop n H)
    (hs : ∀ i x H H', i < n → Pv i H → J.yld i H x H' → g x (wipe σ vs) H' fun σ2 H2 => wipe σ2 vs = wipe σ vs ∧ tt σ2 H2 fun b H3 =>
      if b = true then te σ2 H3 fun y H4 => ∃ acc, H4 D = some (.lst acc) ∧ acc.length < sizeLine ∧ Pv (i + 1) (upd H4 D (.lst (acc ++ [y]))) else Pv (i + 1) H3) (hd : ∀ H, Pv n H → Qd H) :
    ∃ W : Nat → Nat → Hp → Prop, (∃ m, W 0 m (upd H1 D (.lst []))) ∧ ∀ i m H, W i m H →
      (J.stop i H ∧ Qd H) ∨ (J.go i H ∧ ∃ Nx : Hp → Prop, (∀ H', Nx H' → ∃ m', m' < m ∧ W (i + 1) m' H') ∧ ∀ x H', J.yld i H x H' → g x (wipe σ vs) H' fun σ2 H2 => wipe σ2 vs = wipe σ vs ∧ tt σ2 H2 fun b H3 =>
        if b = true then te σ2 H3 fun y H4 => ∃ acc, H4 D = some (.lst acc) ∧ acc.length < sizeLine ∧ Nx (upd H4 D (.lst (acc ++ [y]))) else Nx H3) := by
  refine ⟨fun i m H => m = n - i ∧ i ≤ n ∧ Pv i H, ⟨n, by simp, Nat.zero_le _, h0⟩, ?_⟩
  rintro i m H ⟨rfl, hi, p⟩
  by_cases hlt : i < n
  · exact .inr ⟨hgo i H hlt p, Pv (i + 1), fun H' p' => ⟨n - (i + 1), by omega, rfl, hlt, p'⟩, fun x H' y => hs i x H H' hlt p y⟩
  · have e : i = n := by omega
    subst e
    exact .inl ⟨hst H p, hd H p⟩
theorem dc_gen {J : It} {n : Nat} {g : TG} {tt : TT} {tk tv : TE} {vs : List Nat} {σ : L2.St} {H1 : Hp} {D : Addr} {Qd : Hp → Prop} (Pv : Nat → Hp → Prop) (h0 : Pv 0 (upd H1 D (.dK []))) (hgo : ∀ i H, i < n → Pv i H → J.go i H) (hst : ∀ H, Pv n H → J.stop n H)
    (hs : ∀ i x H H', i < n → Pv i H → J.yld i H x H' → g x (wipe σ vs) H' fun σ2 H2 => wipe σ2 vs = wipe σ vs ∧ tt σ2 H2 fun b H3 =>
      if b = true then tk σ2 H3 fun y H4 => tv σ2 H4 fun z H5 => ∃ kvs k, y = kV k ∧ H5 D = some (.dK kvs) ∧ kvs.length < sizeLine ∧ Pv (i + 1) (upd H5 D (.dK (putK kvs k z))) else Pv (i + 1) H3) (hd : ∀ H, Pv n H → Qd H) :
    ∃ W : Nat → Nat → Hp → Prop, (∃ m, W 0 m (upd H1 D (.dK []))) ∧ ∀ i m H, W i m H →
      (J.stop i H ∧ Qd H) ∨ (J.go i H ∧ ∃ Nx : Hp → Prop, (∀ H', Nx H' → ∃ m', m' < m ∧ W (i + 1) m' H') ∧ ∀ x H', J.yld i H x H' → g x (wipe σ vs) H' fun σ2 H2 => wipe σ2 vs = wipe σ vs ∧ tt σ2 H2 fun b H3 =>
        if b = true then tk σ2 H3 fun y H4 => tv σ2 H4 fun z H5 => ∃ kvs k, y = kV k ∧ H5 D = some (.dK kvs) ∧ kvs.length < sizeLine ∧ Nx (upd H5 D (.dK (putK kvs k z))) else Nx H3) := by
  refine ⟨fun i m H => m = n - i ∧ i ≤ n ∧ Pv i H, ⟨n, by simp, Nat.zero_le _, h0⟩, ?_⟩
  rintro i m H ⟨rfl, hi, p⟩
  by_cases hlt : i < n
  · exact .inr ⟨hgo i H hlt p, Pv (i + 1), fun H' p' => ⟨n - (i + 1), by omega, rfl, hlt, p'⟩, fun x H' y => hs i x H H' hlt p y⟩
  · have e : i = n := by omega
    subst e
    exact .inl ⟨hst H p, hd H p⟩
theorem dc_list {K : PySem.W.Frag} {a : Addr} {xs : List V} {g : TG} {tt : TT} {tk tv : TE} {vs : List Nat} {σ : L2.St} {H1 : Hp} {D : Addr} {Qd : Hp → Prop} (Pv : Nat → Hp → Prop) (h0 : Pv 0 (upd H1 D (.dK []))) (hl : ∀ i H, i ≤ xs.length → Pv i H → SqL K H a xs)
    (hs : ∀ i x H, xs[i]? = some x → Pv i H → g x (wipe σ vs) H fun σ2 H2 => wipe σ2 vs = wipe σ vs ∧ tt σ2 H2 fun b H3 =>
      if b = true then tk σ2 H3 fun y H4 => tv σ2 H4 fun z H5 => ∃ kvs k, y = kV k ∧ H5 D = some (.dK kvs) ∧ kvs.length < sizeLine ∧ Pv (i + 1) (upd H5 D (.dK (putK kvs k z))) else Pv (i + 1) H3) (hd : ∀ H, Pv xs.length H → Qd H) :
    ∃ W : Nat → Nat → Hp → Prop, (∃ m, W 0 m (upd H1 D (.dK []))) ∧ ∀ i m H, W i m H →
      ((Itl K a).stop i H ∧ Qd H) ∨ ((Itl K a).go i H ∧ ∃ Nx : Hp → Prop, (∀ H', Nx H' → ∃ m', m' < m ∧ W (i + 1) m' H') ∧ ∀ x H', (Itl K a).yld i H x H' → g x (wipe σ vs) H' fun σ2 H2 => wipe σ2 vs = wipe σ vs ∧ tt σ2 H2 fun b H3 =>
        if b = true then tk σ2 H3 fun y H4 => tv σ2 H4 fun z H5 => ∃ kvs k, y = kV k ∧ H5 D = some (.dK kvs) ∧ kvs.length < sizeLine ∧ Nx (upd H5 D (.dK (putK kvs k z))) else Nx H3) :=
  dc_gen (n := xs.length) Pv h0 (fun i H hi p => ⟨xs, xs[i], hl i H (Nat.le_of_lt hi) p, by simp [hi]⟩) (fun H p => ⟨xs, hl _ H (Nat.le_refl _) p, Nat.le_refl _⟩)
    (fun i x H H' hi p y => by
      obtain ⟨e, y⟩ := y
      subst e
      exact hs i x _ (y xs (hl i _ (Nat.le_of_lt hi) p)) p) hd
theorem for_gen {J : It} {n : Nat} {g : TG} {tb : TS} {D : Ends} {σ : L2.St} {H : Hp} (Pv : Nat → L2.St → Hp → Prop) (h0 : Pv 0 σ H) (hgo : ∀ i σ H, i < n → Pv i σ H → J.go i H) (hst : ∀ σ H, Pv n σ H → J.stop n H)
    (hs : ∀ i x σ H H', i < n → Pv i σ H → J.yld i H x H' → g x σ H' fun σ2 H2 => tb { D with nx := Pv (i + 1), ct := Pv (i + 1), bk := D.nx } σ2 H2) (hd : ∀ σ H, Pv n σ H → D.nx σ H) :
    ∃ W : Nat → Nat → L2.St → Hp → Prop, (∃ m, W 0 m σ H) ∧ ∀ i m σ H, W i m σ H →
      (J.stop i H ∧ D.nx σ H) ∨ (J.go i H ∧ ∃ N : L2.St → Hp → Prop, (∀ σ' H', N σ' H' → ∃ m', m' < m ∧ W (i + 1) m' σ' H') ∧ ∀ x H', J.yld i H x H' → g x σ H' fun σ2 H2 => tb { D with nx := N, ct := N, bk := D.nx } σ2 H2) := by
  refine ⟨fun i m σ H => m = n - i ∧ i ≤ n ∧ Pv i σ H, ⟨n, by simp, Nat.zero_le _, h0⟩, ?_⟩
  rintro i m σ H ⟨rfl, hi, p⟩
  by_cases hlt : i < n
  · exact .inr ⟨hgo i σ H hlt p, Pv (i + 1), fun σ' H' p' => ⟨n - (i + 1), by omega, rfl, hlt, p'⟩, fun x H' y => hs i x σ H H' hlt p y⟩
  · have e : i = n := by omega
    subst e
    exact .inl ⟨hst σ H p, hd σ H p⟩
end Bf
end

section
set_option Elab.async false
set_option linter.all false
set_option maxRecDepth 100000
/-! numbers, spans, rooms: what they are, and in the heap -/
namespace Bf
open PySem PySem.Spec PyProof.Rows L2
/-! ### numbers in 24ths -/
def gc (k : Int) : Nat := Nat.gcd k.natAbs 24
def rt (k : Int) : Int := k / (gc k : Int)
def rb (k : Int) : Int := 24 / (gc k : Int)
theorem gc_pos (k : Int) : 0 < gc k := Nat.gcd_pos_of_pos_right _ (by decide)
theorem rt_rb (k : Int) : 24 * rt k = k * rb k := by
  have h0 := gc_pos k
  have h1 : (gc k : Int) ∣ k := Int.ofNat_dvd_left.mpr (Nat.gcd_dvd_left _ _)
  have h2 : (gc k : Int) ∣ 24 := by
    have := Nat.gcd_dvd_right k.natAbs 24
    exact Int.natCast_dvd_natCast.mpr this
  obtain ⟨a, ha⟩ := h1
  obtain ⟨b, hb⟩ := h2
  have hg : (gc k : Int) ≠ 0 := by omega
  have e1 : rt k = a := by unfold rt; rw (config := {occs := .pos [1]}) [ha]; exact Int.mul_ediv_cancel_left _ hg
  have e2 : rb k = b := by unfold rb; rw [hb]; exact Int.mul_ediv_cancel_left _ hg
  rw [e1, e2, hb]
  rw (config := {occs := .pos [2]}) [ha]
  rw [Int.mul_assoc, Int.mul_assoc, Int.mul_comm b a]
theorem rb_pos (k : Int) : 0 < rb k := by
  have h0 := gc_pos k
  have h2 : gc k ≤ 24 := Nat.gcd_le_right _ (by decide)
  unfold rb
  exact Int.ediv_pos_of_pos_of_dvd (by decide) (by omega) (Int.natCast_dvd_natCast.mpr (Nat.gcd_dvd_right _ _))
theorem rb_le (k : Int) : rb k ≤ 24 := by
  have h0 := gc_pos k
  unfold rb
  exact Int.ediv_le_self _ (by decide)
theorem rt_lt_iff (k l : Int) : rt k * rb l < rt l * rb k ↔ k < l := by
  have pk := rb_pos k
  have pl := rb_pos l
  have pp : 0 < rb k * rb l := Int.mul_pos pk pl
  have e1 : 24 * (rt k * rb l) = k * (rb k * rb l) := by rw [← Int.mul_assoc, rt_rb, Int.mul_assoc]
  have e2 : 24 * (rt l * rb k) = l * (rb k * rb l) := by rw [← Int.mul_assoc, rt_rb, Int.mul_assoc, Int.mul_comm (rb l)]
  constructor
  · intro h
    have h1 : k * (rb k * rb l) < l * (rb k * rb l) := by omega
    exact Int.lt_of_mul_lt_mul_right h1 (Int.le_of_lt pp)
  · intro h
    have h1 : k * (rb k * rb l) < l * (rb k * rb l) := Int.mul_lt_mul_of_pos_right h pp
    omega
theorem rt_eq_iff (k l : Int) : (rt k = rt l ∧ rb k = rb l) ↔ k = l := by
  constructor
  · rintro ⟨h1, h2⟩
    have a := rt_rb k
    have b := rt_rb l
    rw [h1, h2] at a
    have hl := rb_pos l
    exact Int.eq_of_mul_eq_mul_right (by omega) (a.symm.trans b)
  · rintro rfl
    exact ⟨rfl, rfl⟩
theorem rt_bound {k : Int} (h1 : -100 ≤ k) (h2 : k ≤ 100) : -100 ≤ rt k ∧ rt k ≤ 100 := by
  have a := rt_rb k
  have b := rb_pos k
  have c := rb_le k
  have d1 : k * rb k ≤ 100 * 24 := by
    have : k * rb k ≤ 100 * rb k := Int.mul_le_mul_of_nonneg_right h2 (Int.le_of_lt b)
    omega
  have d2 : -(100 * 24) ≤ k * rb k := by
    have : -100 * rb k ≤ k * rb k := Int.mul_le_mul_of_nonneg_right h1 (Int.le_of_lt b)
    omega
  omega

/-! ### spans, in 12ths -/
structure Spn where
  lo : Int
  home : Option Int
  hi : Int
deriving DecidableEq
def Spn.Ok (s : Spn) : Prop := 0 ≤ s.lo ∧ s.lo ≤ s.hi ∧ s.hi ≤ 12 ∧ (∀ h, s.home = some h → s.lo ≤ h ∧ h ≤ s.hi) ∧ (s.lo = s.hi → s.home = some s.lo)
def clp (h lo hi : Int) : Int := min (max h lo) hi
def hmO (b a : Option Int) : Option Int := match b with
  | some h => some h
  | none => a
/-- where two spans meet -/
def meet (a b : Spn) : Option Spn :=
  let lo := max a.lo b.lo
  let hi := min a.hi b.hi
  if hi < lo then none else if lo = hi then some ⟨lo, some lo, lo⟩
  else some ⟨lo, (hmO b.home a.home).map fun h => clp h lo hi, hi⟩
theorem meet_ok {a b c : Spn} (ha : a.Ok) (hb : b.Ok) (h : meet a b = some c) : c.Ok := by
  obtain ⟨a1, a2, a3, _, _⟩ := ha
  obtain ⟨b1, b2, b3, _, _⟩ := hb
  unfold meet at h
  simp only at h
  split at h
  · cases h
  · split at h
    · cases h
      refine ⟨?_, ?_, ?_, ?_, fun _ => rfl⟩ <;> simp only <;> try omega
      intro h e; cases e; omega
    · rename_i h1 h2
      cases h
      refine ⟨?_, ?_, ?_, ?_, ?_⟩ <;> simp only <;> try omega
      · intro h e
        obtain ⟨h0, _, e⟩ := Option.map_eq_some_iff.mp e
        subst e
        unfold clp
        omega
theorem meet_self {a : Spn} (ha : a.Ok) : meet a a = some a := by
  obtain ⟨a1, a2, a3, a4, a5⟩ := ha
  obtain ⟨lo, home, hi⟩ := a
  unfold meet
  simp only at *
  rw [if_neg (by omega)]
  by_cases e : lo = hi
  · subst e
    rw [if_pos (by omega), a5 rfl]
    simp
  · rw [if_neg (by omega)]
    cases home with
    | none => simp [hmO]
    | some h =>
      obtain ⟨h1, h2⟩ := a4 h rfl
      simp only [hmO, Option.map_some, clp]
      congr 2
      · omega
      · congr 1; omega
      · omega
def bnd (x y : Option Spn) : Option Spn := match x, y with
  | some a, some b => meet a b
  | _, _ => none
theorem clp_clp (h lo hi lo' hi' : Int) (h1 : lo ≤ lo') (h2 : hi' ≤ hi) (h3 : lo' ≤ hi') (h4 : lo ≤ hi) : clp (clp h lo hi) lo' hi' = clp h lo' hi' := by
  unfold clp
  omega
theorem meet_assoc {a b c : Spn} (ha : a.Ok) (hb : b.Ok) (hc : c.Ok) : bnd (meet a b) (some c) = bnd (some a) (meet b c) := by
  obtain ⟨al, ah, ar⟩ := a
  obtain ⟨bl, bh, br⟩ := b
  obtain ⟨cl, ch, cr⟩ := c
  obtain ⟨a1, a2, a3, a4, a5⟩ := ha
  obtain ⟨b1, b2, b3, b4, b5⟩ := hb
  obtain ⟨c1, c2, c3, c4, c5⟩ := hc
  simp only at *
  -- the two meetings' ends
  have eL : ∀ x y z : Int, max (max x y) z = max x (max y z) := fun x y z => by omega
  have eR : ∀ x y z : Int, min (min x y) z = min x (min y z) := fun x y z => by omega
  have key : ∀ (l r : Option Spn), l = r → l = r := fun _ _ h => h
  by_cases e0 : min ar (min br cr) < max al (max bl cl)
  · -- none both ways
    have L : bnd (meet ⟨al, ah, ar⟩ ⟨bl, bh, br⟩) (some ⟨cl, ch, cr⟩) = none := by
      unfold meet
      simp only
      split
      · rfl
      · split <;> (simp only [bnd, meet]; rw [if_pos (by omega)])
    have R : bnd (some ⟨al, ah, ar⟩) (meet ⟨bl, bh, br⟩ ⟨cl, ch, cr⟩) = none := by
      unfold meet
      simp only
      split
      · rfl
      · split <;> (simp only [bnd, meet]; rw [if_pos (by omega)])
    rw [L, R]
  · by_cases e1 : max al (max bl cl) = min ar (min br cr)
    · have L : bnd (meet ⟨al, ah, ar⟩ ⟨bl, bh, br⟩) (some ⟨cl, ch, cr⟩) = some ⟨max al (max bl cl), some (max al (max bl cl)), max al (max bl cl)⟩ := by
        unfold meet
        simp only
        rw [if_neg (by omega)]
        split <;> (simp only [bnd, meet]; rw [if_neg (by omega), if_pos (by omega), eL])
      have R : bnd (some ⟨al, ah, ar⟩) (meet ⟨bl, bh, br⟩ ⟨cl, ch, cr⟩) = some ⟨max al (max bl cl), some (max al (max bl cl)), max al (max bl cl)⟩ := by
        unfold meet
        simp only
        rw [if_neg (by omega)]
        split <;> (simp only [bnd, meet]; rw [if_neg (by omega), if_pos (by omega)])
      rw [L, R]
    · have m1 : meet ⟨al, ah, ar⟩ ⟨bl, bh, br⟩ = some ⟨max al bl, (hmO bh ah).map fun h => clp h (max al bl) (min ar br), min ar br⟩ := by
        unfold meet
        simp only
        rw [if_neg (by omega), if_neg (by omega)]
      have m2 : meet ⟨bl, bh, br⟩ ⟨cl, ch, cr⟩ = some ⟨max bl cl, (hmO ch bh).map fun h => clp h (max bl cl) (min br cr), min br cr⟩ := by
        unfold meet
        simp only
        rw [if_neg (by omega), if_neg (by omega)]
      rw [m1, m2]
      simp only [bnd, meet]
      rw [if_neg (by omega), if_neg (by omega), if_neg (by omega), if_neg (by omega), eL, eR]
      congr 2
      cases ch with
      | some h => simp only [hmO, Option.map_some]; rw [clp_clp] <;> omega
      | none =>
        cases bh with
        | some h => simp only [hmO, Option.map_some]; rw [clp_clp, clp_clp] <;> omega
        | none =>
          cases ah with
          | none => rfl
          | some h => simp only [hmO, Option.map_some, Option.map_none]; rw [clp_clp] <;> omega
end Bf
end

section
set_option Elab.async false
set_option linter.all false
set_option maxRecDepth 100000
/-! numbers, spans, rooms in the heap -/
namespace Bf
open PySem PySem.Spec PyProof.Rows L2
section
variable {K : PySem.W.Frag} {H H' : Hp}
/-- v is the number k / 24 -/
def NR (K : PySem.W.Frag) (k : Int) (v : V) (H : Hp) : Prop := -100 ≤ k ∧ k ≤ 100 ∧ ∃ r dx, v = .ref r ∧ H r = some (.ins (CRt K) dx [("top", .int (rt k)), ("bottom", .int (rb k))])
theorem NR.ext {k : Int} {v : V} (h : NR K k v H) (e : Ext H H') : NR K k v H' := let ⟨a, b, r, dx, c, d⟩ := h; ⟨a, b, r, dx, c, e _ _ d⟩
def HomeAt (K : PySem.W.Frag) (o : Option Int) (v : V) (H : Hp) : Prop := match o with
  | none => v = .non
  | some h => NR K (2 * h) v H
theorem HomeAt.ext {o : Option Int} {v : V} (h : HomeAt K o v H) (e : Ext H H') : HomeAt K o v H' := by
  cases o with
  | none => exact h
  | some k => exact NR.ext h e
/-- v is the span s, as a room holds it -/
def SpanAt (K : PySem.W.Frag) (s : Spn) (v : V) (H : Hp) : Prop := s.Ok ∧ ∃ t v1 v2 v3, v = .ref t ∧ H t = some (.tup [v1, v2, v3]) ∧ NR K (2 * s.lo) v1 H ∧ HomeAt K s.home v2 H ∧ NR K (2 * s.hi) v3 H
theorem SpanAt.ext {s : Spn} {v : V} (h : SpanAt K s v H) (e : Ext H H') : SpanAt K s v H' := by
  obtain ⟨ok, t, v1, v2, v3, a, b, c, d, f⟩ := h
  exact ⟨ok, t, v1, v2, v3, a, e _ _ b, c.ext e, d.ext e, f.ext e⟩
/-- v is the span s, as it is told -/
def Told (K : PySem.W.Frag) (s : Spn) (v : V) (H : Hp) : Prop := s.Ok ∧ ((s.lo = s.hi ∧ NR K (2 * s.lo) v H) ∨ (s.lo < s.hi ∧ s.home = none ∧ ∃ t v1 v3, v = .ref t ∧ H t = some (.tup [v1, v3]) ∧ NR K (2 * s.lo) v1 H ∧ NR K (2 * s.hi) v3 H) ∨
  (s.lo < s.hi ∧ ∃ h, s.home = some h ∧ ∃ t v1 v2 v3, v = .ref t ∧ H t = some (.tup [v1, v2, v3]) ∧ NR K (2 * s.lo) v1 H ∧ NR K (2 * h) v2 H ∧ NR K (2 * s.hi) v3 H))
theorem Told.ext {s : Spn} {v : V} (h : Told K s v H) (e : Ext H H') : Told K s v H' := by
  obtain ⟨ok, ⟨a, b⟩ | ⟨a, b, t, v1, v3, c, d, f, g⟩ | ⟨a, h, b, t, v1, v2, v3, c, d, f, g, i⟩⟩ := h
  · exact ⟨ok, .inl ⟨a, b.ext e⟩⟩
  · exact ⟨ok, .inr (.inl ⟨a, b, t, v1, v3, c, e _ _ d, f.ext e, g.ext e⟩)⟩
  · exact ⟨ok, .inr (.inr ⟨a, h, b, t, v1, v2, v3, c, e _ _ d, f.ext e, g.ext e, i.ext e⟩)⟩

/-- what the values of a dict say -/
abbrev AtP (α : Type) := α → V → Hp → Prop
def AtP.Mono {α : Type} (At : AtP α) : Prop := ∀ (s : α) (v : V) (H H' : Hp), At s v H → Ext H H' → At s v H'
/-- the dict kvs has the keys ns, in their order, and the values that f tells -/
def DictF {α : Type} (At : AtP α) (f : Str → Option α) (ns : List Str) (kvs : List (Key × V)) (H : Hp) : Prop := Paired (fun n (q : Key × V) => q.1 = Sum.inr n ∧ ∃ s, f n = some s ∧ At s q.2 H) ns kvs
theorem DictF.ext {α : Type} {At : AtP α} {f : Str → Option α} (hM : At.Mono) : ∀ {ns : List Str} {kvs : List (Key × V)}, DictF At f ns kvs H → Ext H H' → DictF At f ns kvs H'
  | _, _, .nil, _ => .nil
  | _, _, .cons ⟨a, s, b, c⟩ t, e => .cons ⟨a, s, b, hM _ _ _ _ c e⟩ (DictF.ext hM t e)
theorem DictF.ks {α : Type} {At : AtP α} {f : Str → Option α} : ∀ {ns : List Str} {kvs : List (Key × V)}, DictF At f ns kvs H → kvs.map Prod.fst = ns.map Sum.inr
  | _, _, .nil => rfl
  | _, _, .cons ⟨a, _⟩ t => by rw [List.map_cons, List.map_cons, a, DictF.ks t]
theorem DictF.len {α : Type} {At : AtP α} {f : Str → Option α} {ns : List Str} {kvs : List (Key × V)} (h : DictF At f ns kvs H) : kvs.length = ns.length := (Paired.length h).symm
theorem DictF.get1 {α : Type} {At : AtP α} {f : Str → Option α} {n : Str} : ∀ {ns : List Str} {kvs : List (Key × V)}, DictF At f ns kvs H → n ∈ ns → ∃ v s, valV kvs (Sum.inr n) = some v ∧ f n = some s ∧ At s v H
  | _, _, .nil, h => nomatch h
  | m :: ns, (k, v) :: kvs, .cons ⟨a, s, b, c⟩ t, h => by
    have a' : k = Sum.inr m := a
    subst a'
    by_cases e : m = n
    · subst e
      exact ⟨v, s, by simp [valV], b, c⟩
    · have h' : n ∈ ns := (List.mem_cons.mp h).resolve_left fun z => e z.symm
      obtain ⟨v', s', x, y, z⟩ := DictF.get1 t h'
      refine ⟨v', s', ?_, y, z⟩
      have ne : (Sum.inr m : Key) ≠ Sum.inr n := fun z => e (Sum.inr.inj z)
      simpa [valV, ne] using x
theorem DictF.get0 {α : Type} {At : AtP α} {f : Str → Option α} {n : Str} : ∀ {ns : List Str} {kvs : List (Key × V)}, DictF At f ns kvs H → n ∉ ns → valV kvs (Sum.inr n) = none
  | _, _, .nil, h => rfl
  | m :: ns, (k, v) :: kvs, .cons ⟨a, s, b, c⟩ t, h => by
    have a' : k = Sum.inr m := a
    subst a'
    have e : m ≠ n := fun z => h (by rw [z]; exact List.mem_cons_self)
    have x := DictF.get0 t fun z => h (List.mem_cons_of_mem _ z)
    have ne : (Sum.inr m : Key) ≠ Sum.inr n := fun z => e (Sum.inr.inj z)
    simpa [valV, ne] using x
theorem any_keys {kvs : List (Key × V)} {ns : List Str} (h : kvs.map Prod.fst = ns.map Sum.inr) (n : Str) : (kvs.any fun kv => decide (kv.1 = Sum.inr n)) = decide (n ∈ ns) := by
  induction kvs generalizing ns with
  | nil =>
    cases ns with
    | nil => rfl
    | cons _ _ => cases h
  | cons q kvs ih =>
    cases ns with
    | nil => cases h
    | cons m ns =>
      rw [List.map_cons, List.map_cons] at h
      injection h with h1 h2
      rw [List.any_cons, ih h2, h1]
      by_cases e : m = n
      · subst e; simp
      · have : ¬ n = m := fun z => e z.symm
        simp [e, this]
/-- a new name -/
theorem DictF.push {α : Type} {At : AtP α} {f g : Str → Option α} {ns : List Str} {kvs : List (Key × V)} {n : Str} {v : V} {s : α} (h : DictF At f ns kvs H) (hn : n ∉ ns) (hs : At s v H) (hg : ∀ m ∈ ns, g m = f m) (hgn : g n = some s) : DictF At g (ns ++ [n]) (putK kvs (Sum.inr n) v) H := by
  have e : putK kvs (Sum.inr n) v = kvs ++ [(Sum.inr n, v)] := by
    unfold putK
    rw [any_keys h.ks, if_neg (by simpa using hn)]
  rw [e]
  clear e
  induction h with
  | nil => exact .cons ⟨rfl, s, hgn, hs⟩ .nil
  | cons a t ih =>
    obtain ⟨a1, s1, a2, a3⟩ := a
    refine .cons ⟨a1, s1, ?_, a3⟩ (ih (fun z => hn (List.mem_cons_of_mem _ z)) fun m hm => hg m (List.mem_cons_of_mem _ hm))
    rw [hg _ List.mem_cons_self]
    exact a2
/-- a name once more -/
theorem DictF.again {α : Type} {At : AtP α} {f g : Str → Option α} {ns : List Str} {kvs : List (Key × V)} {n : Str} {v : V} {s : α} (h : DictF At f ns kvs H) (hn : n ∈ ns) (hs : At s v H) (hg : ∀ m ∈ ns, m ≠ n → g m = f m) (hgn : g n = some s) : DictF At g ns (putK kvs (Sum.inr n) v) H := by
  have e : putK kvs (Sum.inr n) v = kvs.map (fun kv => if kv.1 = Sum.inr n then (kv.1, v) else kv) := by
    unfold putK
    rw [any_keys h.ks, if_pos (by simpa using hn)]
  rw [e]
  clear e hn
  induction h with
  | nil => exact .nil
  | @cons m q ns kvs a t ih =>
    obtain ⟨a1, s1, a2, a3⟩ := a
    have tl := ih fun m hm => hg m (List.mem_cons_of_mem _ hm)
    rw [List.map_cons]
    by_cases c : m = n
    · subst c
      rw [if_pos a1]
      exact .cons ⟨a1, s, hgn, hs⟩ tl
    · rw [if_neg (fun z => c (Sum.inr.inj (a1.symm.trans z)))]
      refine .cons ⟨a1, s1, ?_, a3⟩ tl
      rw [hg _ List.mem_cons_self c]
      exact a2
/-- other values told -/
theorem DictF.imp {α β : Type} {At : AtP α} {Bt : AtP β} {f : Str → Option α} {g : Str → Option β} {ns : List Str} {kvs : List (Key × V)} (h : DictF At f ns kvs H) (hi : ∀ n ∈ ns, ∀ s v, f n = some s → At s v H → ∃ r, g n = some r ∧ Bt r v H') : DictF Bt g ns kvs H' := by
  induction h with
  | nil => exact .nil
  | cons a t ih =>
    obtain ⟨a1, s1, a2, a3⟩ := a
    exact .cons ⟨a1, hi _ List.mem_cons_self _ _ a2 a3⟩ (ih fun m hm => hi m (List.mem_cons_of_mem _ hm))
/-- by place -/
theorem DictF.ix {α : Type} {At : AtP α} {f : Str → Option α} {ns : List Str} {kvs : List (Key × V)} (h : DictF At f ns kvs H) : ∀ {i : Nat} {k : Key} {v : V}, kvs[i]? = some (k, v) → ∃ n s, ns[i]? = some n ∧ k = Sum.inr n ∧ f n = some s ∧ At s v H := by
  induction h with
  | nil => intro i k v e; simp at e
  | cons a t ih =>
    intro i k v e
    obtain ⟨a1, s1, a2, a3⟩ := a
    cases i with
    | zero =>
      simp only [List.getElem?_cons_zero, Option.some.injEq] at e
      subst e
      exact ⟨_, s1, rfl, a1, a2, a3⟩
    | succ i =>
      simp only [List.getElem?_cons_succ] at e
      obtain ⟨n, s, x, y⟩ := ih e
      exact ⟨n, s, by simpa using x, y⟩

/-! ### rooms, settings -/
def names4 : List Str := ["a", "is", "w", "wt"]
/-- only the four names -/
def Four {α : Type} (f : Str → Option α) : Prop := ∀ n s, f n = some s → n ∈ names4
/-- the names that f tells, sorted -/
def nms {α : Type} (f : Str → Option α) : List Str := names4.filter fun n => (f n).isSome
theorem mem_nms {α : Type} {f : Str → Option α} (h4 : Four f) (n : Str) : n ∈ nms f ↔ (f n).isSome = true := by
  unfold nms
  rw [List.mem_filter]
  constructor
  · exact fun h => h.2
  · intro h
    obtain ⟨s, e⟩ := Option.isSome_iff_exists.mp h
    exact ⟨h4 n s e, h⟩
theorem nodup_nms {α : Type} (f : Str → Option α) : (nms f).Nodup := List.Pairwise.filter _ (show names4.Nodup by decide +kernel)
theorem len_nms {α : Type} (f : Str → Option α) : (nms f).length ≤ 4 := Nat.le_trans (List.length_filter_le _ _) (by decide)
/-- v is an instance of the class at C that holds, sorted, what f tells -/
def Held (K : PySem.W.Frag) {α : Type} (At : AtP α) (C : Addr) (f : Str → Option α) (v : V) (H : Hp) : Prop := Four f ∧ ∃ a dx hd kvs, v = .ref a ∧ H a = some (.ins C dx [("held", .ref hd)]) ∧ H hd = some (.dK kvs) ∧ DictF At f (nms f) kvs H
theorem Held.ext {α : Type} {At : AtP α} (hM : At.Mono) {C : Addr} {f : Str → Option α} {v : V} (h : Held K At C f v H) (e : Ext H H') : Held K At C f v H' := by
  obtain ⟨h4, a, dx, hd, kvs, x, y, z, d⟩ := h
  exact ⟨h4, a, dx, hd, kvs, x, e _ _ y, e _ _ z, d.ext hM e⟩
theorem monoS : AtP.Mono (SpanAt K) := fun _ _ _ _ h e => h.ext e
theorem monoT : AtP.Mono (Told K) := fun _ _ _ _ h e => h.ext e
theorem monoN : AtP.Mono (NR K) := fun _ _ _ _ h e => h.ext e
abbrev RoomAt (K : PySem.W.Frag) (f : Str → Option Spn) (v : V) (H : Hp) : Prop := Held K (SpanAt K) (CRm K) f v H
abbrev SetAt (K : PySem.W.Frag) (g : Str → Option Int) (v : V) (H : Hp) : Prop := Held K (NR K) (CSt K) g v H
theorem RoomAt.ext {f : Str → Option Spn} {v : V} (h : RoomAt K f v H) (e : Ext H H') : RoomAt K f v H' := Held.ext monoS h e
theorem SetAt.ext {f : Str → Option Int} {v : V} (h : SetAt K f v H) (e : Ext H H') : SetAt K f v H' := Held.ext monoN h e
/-- a promise: x from what stands, y behind -/
def spE {α : Type} (pre : α → List V → Hp → Prop) (post : α → V → Hp → Prop) : Sp := fun vs H Q _ => ∃ x, pre x vs H ∧ ∀ v H', Ext H H' → post x v H' → Q v H'
end
end Bf
end

section
set_option Elab.async false
set_option linter.all false
set_option maxRecDepth 100000
/-! rooms met; dicts merged -/
namespace Bf
open PySem PySem.Spec PyProof.Rows L2
abbrev Rm := Str → Option Spn
/-- the entries of two rooms, put together -/
def comb (f g : Rm) : Rm := fun n => match f n, g n with
  | some a, some b => meet a b
  | some a, none => some a
  | none, y => y
def clash1 (f g : Rm) (n : Str) : Bool := match f n, g n with
  | some a, some b => (meet a b).isNone
  | _, _ => false
def clash (f g : Rm) : Bool := names4.any (clash1 f g)
def meetF (f g : Rm) : Option Rm := if clash f g = true then none else some (comb f g)
theorem Four.comb {f g : Rm} (hf : Four f) (hg : Four g) : Four (comb f g) := by
  intro n s h
  unfold Bf.comb at h
  cases e : f n with
  | some a => exact hf n a e
  | none =>
    rw [e] at h
    exact hg n s h
section
variable {K : PySem.W.Frag} {H : Hp}
theorem mergeK_cons (kvs more : List (Key × V)) (q : Key × V) : mergeK kvs (q :: more) = mergeK (putK kvs q.1 q.2) more := rfl
theorem merge_blk {α : Type} {At : AtP α} {g : Str → Option α} {ms : List Str} {more : List (Key × V)} (hg : DictF At g ms more H) : ∀ {h : Str → Option α} {ns : List Str} {kvs : List (Key × V)}, ms.Nodup → DictF At h ns kvs H → ns.Nodup →
    ∃ ns', DictF At (fun n => if n ∈ ms then g n else h n) ns' (mergeK kvs more) H ∧ ns'.Nodup ∧ ∀ n, n ∈ ns' ↔ n ∈ ns ∨ n ∈ ms := by
  induction hg with
  | nil =>
    intro h ns kvs _ hh nd
    refine ⟨ns, ?_, nd, fun n => by simp⟩
    have e : (fun n => if n ∈ ([] : List Str) then g n else h n) = h := by
      funext n
      simp
    rw [e]
    exact hh
  | @cons m q ms more a t ih =>
    intro h ns kvs ndm hh nd
    obtain ⟨hm1, hm2⟩ := List.nodup_cons.mp ndm
    obtain ⟨k, v⟩ := q
    obtain ⟨a1, s, a2, a3⟩ := a
    have a1' : k = Sum.inr m := a1
    subst a1'
    rw [mergeK_cons]
    have fin : ∀ n, (if n ∈ ms then g n else if n = m then g m else h n) = (if n ∈ m :: ms then g n else h n) := by
      intro n
      by_cases c : n = m
      · subst c
        simp [hm1]
      · simp [c]
    by_cases c : m ∈ ns
    · have z : DictF At (fun n => if n = m then g m else h n) ns (putK kvs (Sum.inr m) v) H := hh.again c a3 (fun j _ hj => if_neg hj) (by rw [if_pos rfl]; exact a2)
      obtain ⟨ns', x1, x2, x3⟩ := ih hm2 z nd
      refine ⟨ns', ?_, x2, fun n => ?_⟩
      · rw [funext fin] at x1
        exact x1
      · rw [x3, List.mem_cons]
        constructor
        · rintro (y | y)
          · exact .inl y
          · exact .inr (.inr y)
        · rintro (y | y | y)
          · exact .inl y
          · exact .inl (y ▸ c)
          · exact .inr y
    · have z : DictF At (fun n => if n = m then g m else h n) (ns ++ [m]) (putK kvs (Sum.inr m) v) H := hh.push c a3 (fun j hj => if_neg (show ¬ j = m from fun z => c (z ▸ hj))) (by rw [if_pos rfl]; exact a2)
      obtain ⟨ns', x1, x2, x3⟩ := ih hm2 z ((List.nodup_append.mpr ⟨nd, List.nodup_cons.mpr ⟨List.not_mem_nil, List.nodup_nil⟩, fun x hx y hy z => c (by rw [List.mem_singleton] at hy; rw [← hy, ← z]; exact hx)⟩))
      refine ⟨ns', ?_, x2, fun n => ?_⟩
      · rw [funext fin] at x1
        exact x1
      · rw [x3, List.mem_append, List.mem_singleton, List.mem_cons]
        constructor
        · rintro ((y | y) | y)
          · exact .inl y
          · exact .inr (.inl y)
          · exact .inr (.inr y)
        · rintro (y | y | y)
          · exact .inl (.inl y)
          · exact .inl (.inr y)
          · exact .inr y
end
end Bf
end

section
set_option Elab.async false
set_option linter.all false
set_option maxRecDepth 100000
/-! Ratio's defs -/
namespace Bf
open PySem PySem.Spec PyProof.Rows L2
section
variable {P : Program} {w : World} {K : PySem.W.Frag} {mg : Str → Option Value} {base : Heap}
theorem Tx.gl (T : Tx K mg) (x : Str) (h : x ∈ gNames := by decide +kernel) : mg x = some (.ref (gA K x)) := T.g x h
theorem Tx.kp (T : Tx K mg) (x : Str) (h : x ∈ gNames := by decide +kernel) : PySem.W.keepIn K (.ref (gA K x)) = true := T.k x h
theorem Tx.no (T : Tx K mg) (x : Str) (h : x ∈ bNames := by decide +kernel) : mg x = none := T.n x h
theorem Tx.fd (T : Tx K mg) (x : Str) (i : Nat) (h : (x, i) ∈ gDefs := by decide +kernel) : ∃ fd, FG K x i fd := T.gd (x, i) h
theorem Tx.mf (T : Tx K mg) (C m q : Str) (i j : Nat) (h : (C, m, q, i, j) ∈ mDefs := by decide +kernel) : ∃ fd, FM K C m q i j fd := T.md (C, m, q, i, j) h
theorem Tx.ci (T : Tx K mg) (x : Str) (h : x ∈ clNames := by decide +kernel) : CI K (gA K x) := T.c x h
theorem Tx.me (T : Tx K mg) (C m : Str) (h : (C, m) ∈ mNames := by decide +kernel) : Meth K (gA K C) m (mA K C m) := T.m (C, m) h
theorem Tx.nf (T : Tx K mg) (C f : Str) (h : (C, f) ∈ naNames := by decide +kernel) : NoAttr K (gA K C) f := T.na (C, f) h
theorem Tx.rd (T : Tx K mg) (x : Str) (h : x ∈ clNames := by decide +kernel) : ClX.CRead K (gA K x) (.type "type") := T.cr x h
theorem Tx.kno (T : Tx K mg) (t : Value) (x : Str) (h : (t, x) ∈ kitNo) : PySem.W.kitOne K t (.ref (gA K x)) = some false := T.kn (t, x) h

/-! is_integer -/
def spIsInt : Sp := fun vs H Q _ => (∃ i : Int, vs = [.int i] ∧ Q (.bl true) H) ∨ ∃ t xs, vs = [.ref t] ∧ H t = some (.tup xs) ∧ Q (.bl false) H
theorem sc14 : FnScope ["value"] ["value"] (defScope (top 14)) := ⟨rfl, rfl, rfl, by decide +kernel, rfl, by decide +kernel, by decide +kernel⟩
theorem r_isint (T : Tx K mg) : FnR P w K mg base CX0 1 (gA K "is_integer") spIsInt := by
  obtain ⟨fd, F⟩ := T.fd "is_integer" 14
  refine fnR_of F sc14 (fun _ _ _ _ _ _ us hl => match us, hl with | [_], _ => rfl) (fun vs H Q E h => ?_) (fun cdv A outer s H vs Q E hr h => ⟨_, PSs.nox (pss_one (ps_ret (pe_and (pe_callB call_isi (by rfl) (T.no "isinstance") (by decide +kernel) (pa_cons (pv 0) (pa_cons (pe_bltn (v := .ty "int") (by rfl) (T.no "int") (by decide +kernel) rfl) pa_nil)))
      (pe_one (pe_not (pe_callB call_isi (by rfl) (T.no "isinstance") (by decide +kernel) (pa_cons (pv 0) (pa_cons (pe_bltn (v := .ty "bool") (by rfl) (T.no "bool") (by decide +kernel) rfl) pa_nil)))))))), ?_⟩)
  · rcases h with ⟨i, rfl, _⟩ | ⟨t, xs, rfl, _⟩ <;> rfl
  · rcases h with ⟨i, rfl, q⟩ | ⟨t, xs, rfl, ht, q⟩
    · refine ⟨_, rfl, _, _, _, _, true, rfl, .ty "int", .base (.int i), kit_ty (by decide +kernel), true, rfl, iteT ⟨_, rfl, _, _, _, _, false, rfl, .ty "bool", .base (.int i), kit_ty (by decide +kernel), false, rfl, q⟩⟩
    · refine ⟨_, rfl, _, _, _, _, false, rfl, .ty "int", .base (.tup ht), kit_ty (by decide +kernel), false, rfl, iteF q⟩

/-! divisor -/
def spDiv : Sp := fun vs H Q _ => ∃ a b : Nat, vs = [.int a, .int b] ∧ Q (.int (Nat.gcd a b : Nat)) H
theorem sc15 : FnScope ["one", "other"] ["one", "other"] (defScope (top 15)) := ⟨rfl, rfl, rfl, by decide +kernel, rfl, by decide +kernel, by decide +kernel⟩
theorem r_div (T : Tx K mg) : FnR P w K mg base CX0 1 (gA K "divisor") spDiv := by
  obtain ⟨fd, F⟩ := T.fd "divisor" 15
  refine fnR_of F sc15 (fun _ _ _ _ _ _ us hl => match us, hl with | [_, _], _ => rfl) (fun vs H Q E h => ?_) (fun cdv A outer s H vs Q E hr h => ⟨_, PSs.nox (pss_cons
    (ps_while PassesOwn.never (pt_cmpR op_gt (pv 1) pe_int (nomark _)) (pss_one (ps_par (i := 0) (j := 1) (by rfl) sc15.nd rfl rfl (by decide) rfl rfl (pa_cons (pv 1) (pa_cons (pe_op op_modN (pv 0) (pv 1)) pa_nil)) (by rfl))))
    (pss_one (ps_ret (pv 0)))), ?_⟩)
  · obtain ⟨a, b, rfl, _⟩ := h
    rfl
  · obtain ⟨a, b, rfl, q⟩ := h
    refine while_by (fun σ' H' => ∃ x y : Nat, σ' = [some (.int x), some (.int y)] ∧ Nat.gcd x y = Nat.gcd a b ∧ H' = H) (fun σ' _ => match σ' with | [_, some (.int y)] => y.toNat | _ => 0) ⟨a, b, rfl, rfl, rfl⟩ ?_ ?_
    · rintro σ' H' ⟨x, y, rfl, e, rfl⟩
      refine ⟨_, rfl, _, _, rfl, rfl, _, rfl, ite2 (fun hc => ?_) (fun hc => ?_)⟩
      · have hy : 0 < (y : Int) := of_decide_eq_true hc
        refine ⟨_, rfl, _, rfl, _, rfl, _, _, rfl, rfl, by omega, _, _, rfl, ?_, ?_⟩
        · refine ⟨y, x % y, ?_, ?_, rfl⟩
          · show [some (V.int (y : Int)), some (V.int (Int.fmod (x : Int) (y : Int)))] = _
            rw [Int.fmod_eq_emod_of_nonneg (x : Int) (by omega : (0 : Int) ≤ y)] <;> rfl
          · rw [Nat.gcd_comm, ← Nat.gcd_rec, Nat.gcd_comm, e]
        · have hy' : 0 < y := by omega
          show (Int.fmod (x : Int) (y : Int)).toNat < (y : Int).toNat
          rw [Int.fmod_eq_emod_of_nonneg (x : Int) (by omega : (0 : Int) ≤ y)]
          have := Nat.mod_lt x hy'
          omega
      · have hy : ¬ 0 < (y : Int) := fun z => hc (decide_eq_true z)
        have hy0 : y = 0 := by omega
        subst hy0
        rw [Nat.gcd_zero_right] at e
        refine ⟨_, rfl, ?_⟩
        show Q (.int (x : Int)) H'
        rw [e]
        exact q
    · rintro σ' H' Q1 Q2 hi ⟨v, h1, i, j, e1, e2, k, l, z⟩
      exact ⟨v, h1, i, j, e1, e2, k, l, hi _ _ z⟩

/-! Ratio(n, 12), Ratio(n, 24) -/
theorem gc_mul {c n : Int} {b : Nat} (hc : 0 ≤ c) (h : (24 : Int) = c * b) : (gc (c * n) : Int) = c * (Nat.gcd n.natAbs b : Nat) := by
  obtain ⟨c', rfl⟩ := Int.eq_ofNat_of_zero_le hc
  have h' : 24 = c' * b := by exact_mod_cast h
  unfold gc
  rw [h', Int.natAbs_mul, Int.natAbs_natCast, Nat.gcd_mul_left]
  exact Int.natCast_mul _ _
theorem rt_mul {c n : Int} {b : Nat} (hc : 0 < c) (h : (24 : Int) = c * b) : rt (c * n) = n / (Nat.gcd n.natAbs b : Nat) := by
  unfold rt
  rw [gc_mul (Int.le_of_lt hc) h, Int.mul_ediv_mul_of_pos _ _ hc]
theorem rb_mul {c n : Int} {b : Nat} (hc : 0 < c) (h : (24 : Int) = c * b) : rb (c * n) = b / (Nat.gcd n.natAbs b : Nat) := by
  unfold rb
  rw [gc_mul (Int.le_of_lt hc) h, h, Int.mul_ediv_mul_of_pos _ _ hc]
def spRInit (K : PySem.W.Frag) : Sp := fun vs H Q _ => ∃ (x dx : Addr) (n c : Int) (b : Nat), vs = [.ref x, .int n, .int b] ∧ H x = some (.ins (CRt K) dx []) ∧ 0 < c ∧ (24 : Int) = c * b ∧ Q .non (upd H x (.ins (CRt K) dx [("top", .int (rt (c * n))), ("bottom", .int (rb (c * n)))]))
theorem sc18_0 : FnScope ["self", "top", "bottom", "common"] ["self", "top", "bottom"] (defScope (mth 18 0)) := ⟨rfl, rfl, rfl, by decide +kernel, rfl, by decide +kernel, by decide +kernel⟩
theorem r_rinit (T : Tx K mg) : FnR P w K mg base CX0 2 (mA K "Ratio" "__init__") (spRInit K) := by
  obtain ⟨fd, F⟩ := T.ri
  obtain ⟨ds, hv, hb⟩ := F.binds1 (ps := ["self", "top", "bottom"]) 3 1 (by simp) rfl (fun TT kV doc pm an cdv ct us its h1 h2 => match us, its, h1, h2 with | [_, _, _], [_], _, _ => ⟨_, rfl, rfl⟩)
  have G : FnOk P w K mg base CX0 2 (mA K "Ratio" "__init__") fd ["self", "top", "bottom"] (spRInit K) := by
    refine F.ok sc18_0 (fun vs H Q E h => ?_) (fun cdv A outer s H vs Q E hr h => ⟨_, PSs.nox (pss_cons
      (ps_if (PW.pt (pw_or (pt_not (pt_val (pe_callF (r_isint T) hr rfl (T.gl "is_integer") (T.kp "is_integer") pass0 (pa_cons (pv 1) pa_nil)))) (pw_or (pt_not (pt_val (pe_callF (r_isint T) hr rfl (T.gl "is_integer") (T.kp "is_integer") pass0 (pa_cons (pv 2) pa_nil))))
        (pw_or1 (pt_cmpR op_eq (pv 2) pe_int (nomark _)))))) pss_never pss_nil)
      (pss_cons (ps_set (i := 3) sc18_0.nd rfl (.inl rfl) (pe_callF (r_div T) hr rfl (T.gl "divisor") (T.kp "divisor") pass0 (pa_cons (pe_callB call_abs (by rfl) (T.no "abs") (by decide +kernel) (pa_cons (pv 1) pa_nil)) (pa_cons (pe_callB call_abs (by rfl) (T.no "abs") (by decide +kernel) (pa_cons (pv 2) pa_nil)) pa_nil))))
      (pss_cons (ps_if (pt_cmpR op_lt (pv 2) pe_int (nomark _)) pss_never pss_nil)
      (pss_cons (ps_fld (pv 0) (pe_op op_fdiv (pv 1) (pv 3)) rfl)
      (pss_one (ps_fld (pv 0) (pe_op op_fdiv (pe_callB call_abs (by rfl) (T.no "abs") (by decide +kernel) (pa_cons (pv 2) pa_nil)) (pv 3)) rfl)))))), ?_⟩)
    · obtain ⟨x, dx, n, c, b, rfl, _⟩ := h
      rfl
    · obtain ⟨x, dx, n, c, b, rfl, hx, hc, h24, q⟩ := h
      have hb0 : 0 < b := by
        rcases Nat.eq_zero_or_pos b with z | z
        · subst z; simp at h24
        · exact z
      have hb24 : (b : Int) ≤ 24 := by
        have : (1 : Int) * b ≤ c * b := Int.mul_le_mul_of_nonneg_right (by omega) (by omega)
        omega
      have hg0 : 0 < Nat.gcd n.natAbs b := Nat.gcd_pos_of_pos_right _ hb0
      have hg1 : Nat.gcd n.natAbs b ≤ b := Nat.gcd_le_right _ hb0
      have ea : (if n < 0 then -n else n) = ((n.natAbs : Nat) : Int) := by split <;> omega
      have eb : (if (b : Int) < 0 then -(b : Int) else b) = b := if_neg (by omega)
      have e24 : decide (V.int (b : Int) = V.int 0) = false := decide_eq_false fun z => by injection z; omega
      refine ⟨_, rfl, .inl ⟨_, rfl, true, rfl, iteF ⟨_, rfl, .inl ⟨_, rfl, true, rfl, iteF ⟨_, rfl, rfl, _, rfl, ?_⟩⟩⟩⟩⟩
      rw [e24]
      refine iteF ?_
      refine ⟨_, rfl, _, rfl, _, rfl, _, rfl, n.natAbs, b, ?_, ?_⟩
      · rw [ea, eb]
      refine ⟨_, rfl, _, _, rfl, rfl, _, rfl, ?_⟩
      rw [decide_eq_false (by omega)]
      refine iteF ?_
      refine ⟨_, rfl, _, rfl, _, _, rfl, rfl, ⟨by omega, by omega⟩, _, rfl, x, _, dx, _, rfl, hx, (T.ci "Ratio").cl, T.nf "Ratio" "top", by decide, ?_⟩
      refine ⟨_, rfl, _, rfl, _, rfl, _, _, rfl, rfl, ⟨by omega, by omega⟩, _, rfl, x, _, dx, _, rfl, upd_same, (T.ci "Ratio").cl, T.nf "Ratio" "bottom", (by show 1 < 1000; decide), ?_⟩
      rw [eb, upd_upd]
      rw [rt_mul hc h24, rb_mul hc h24] at q
      exact q
  exact (G.raw hb hv).imp fun vs H Q E h => by
    show spRInit K (vs ++ []) H Q E
    rw [List.append_nil]
    exact h
end
end Bf
end

section
set_option Elab.async false
set_option linter.all false
set_option maxRecDepth 100000
/-! Ratio's defs, least, greatest -/
namespace Bf
open PySem PySem.Spec PyProof.Rows L2
section
variable {P : Program} {w : World} {K : PySem.W.Frag} {mg : Str → Option Value} {base : Heap}
theorem NR.ty {k : Int} {v : V} {H : Hp} (T : Tx K mg) (h : NR K k v H) : TyX K H v (.ref (CRt K)) := by
  obtain ⟨_, _, r, dx, rfl, hr⟩ := h
  exact (T.ci "Ratio").ty hr
/-! Ratio.of(x), x a Ratio -/
def spROf (K : PySem.W.Frag) : Sp := fun vs H Q _ => ∃ v k, vs = [.ref (CRt K), v] ∧ NR K k v H ∧ Q v H
theorem sc18_1 : FnScope ["cls", "number"] ["cls", "number"] (defScope (mth 18 1)) := ⟨rfl, rfl, rfl, by decide +kernel, rfl, by decide +kernel, by decide +kernel⟩
theorem r_rof (T : Tx K mg) : ∃ p g, ClX.CMet K (CRt K) (.type "type") "of" p g ∧ FnR P w K mg base CX0 1 g (spROf K) := by
  obtain ⟨p, g, fd, cm, F⟩ := T.ro
  refine ⟨p, g, cm, fnR_of F sc18_1 (fun _ _ _ _ _ _ us hl => match us, hl with | [_, _], _ => rfl) (fun vs H Q E h => ?_) (fun cdv A outer s H vs Q E hr h => ⟨_, PSs.nox (pss_cons
    (ps_if (pt_val (pe_callB call_isi (by rfl) (T.no "isinstance") (by decide +kernel) (pa_cons (pv 1) (pa_cons (pe_glob (v := .ref (gA K "Ratio")) rfl (T.gl "Ratio") rfl) pa_nil)))) (pss_one (ps_ret (pv 1))) pss_nil)
    (pss_one ps_never)), ?_⟩)⟩
  · obtain ⟨v, k, rfl, _⟩ := h
    rfl
  · obtain ⟨v, k, rfl, hv, q⟩ := h
    exact ⟨_, rfl, _, _, _, _, true, rfl, .own _, hv.ty T, kit_self, true, rfl, iteT ⟨_, rfl, q⟩⟩
/-! under, ==, str -/
def spUnder (K : PySem.W.Frag) : Sp := fun vs H Q _ => ∃ u v k l, vs = [u, v] ∧ NR K k u H ∧ NR K l v H ∧ Q (.bl (decide (k < l))) H
theorem sc18_3 : FnScope ["self", "other"] ["self", "other"] (defScope (mth 18 3)) := ⟨rfl, rfl, rfl, by decide +kernel, rfl, by decide +kernel, by decide +kernel⟩
theorem r_under (T : Tx K mg) : FnR P w K mg base CX0 1 (mA K "Ratio" "under") (spUnder K) := by
  obtain ⟨fd, F⟩ := T.mf "Ratio" "under" "Ratio.under" 18 3
  refine fnR_of F sc18_3 (fun _ _ _ _ _ _ us hl => match us, hl with | [_, _], _ => rfl) (fun vs H Q E h => ?_) (fun cdv A outer s H vs Q E hr h => ⟨_, PSs.nox (pss_one
    (ps_ret (pe_cmpR op_lt (pe_op op_mul (pe_fld (pv 0) rfl) (pe_fld (pv 1) rfl)) (pe_op op_mul (pe_fld (pv 1) rfl) (pe_fld (pv 0) rfl)) (nomark _)))), ?_⟩)
  · obtain ⟨u, v, k, l, rfl, _⟩ := h
    rfl
  · obtain ⟨u, v, k, l, rfl, ⟨k1, k2, a, da, rfl, ha⟩, ⟨l1, l2, b, db, rfl, hb⟩, q⟩ := h
    have b1 := rt_bound k1 k2
    have b2 := rt_bound l1 l2
    have cl := (T.ci "Ratio").cl
    have n1 := T.nf "Ratio" "top"
    have n2 := T.nf "Ratio" "bottom"
    refine ⟨_, rfl, a, _, da, _, _, rfl, ha, cl, n1, rfl, _, rfl, b, _, db, _, _, rfl, hb, cl, n2, rfl, _, _, rfl, rfl, .inl ⟨by omega, by omega⟩,
      _, rfl, b, _, db, _, _, rfl, hb, cl, n1, rfl, _, rfl, a, _, da, _, _, rfl, ha, cl, n2, rfl, _, _, rfl, rfl, .inl ⟨by omega, by omega⟩, _, _, rfl, rfl, ?_⟩
    show Q (.bl (decide (rt k * rb l < rt l * rb k))) H
    rw [show decide (rt k * rb l < rt l * rb k) = decide (k < l) from decide_eq_decide.mpr (rt_lt_iff k l)]
    exact q
def spREq (K : PySem.W.Frag) : Sp := fun vs H Q _ => ∃ u v k, vs = [u, v] ∧ NR K k u H ∧ ((v = .non ∧ Q (.bl false) H) ∨ ∃ l, NR K l v H ∧ Q (.bl (decide (k = l))) H)
theorem sc18_9 : FnScope ["self", "other"] ["self", "other"] (defScope (mth 18 9)) := ⟨rfl, rfl, rfl, by decide +kernel, rfl, by decide +kernel, by decide +kernel⟩
theorem r_req (T : Tx K mg) : FnR P w K mg base CX0 1 (mA K "Ratio" "__eq__") (spREq K) := by
  obtain ⟨fd, F⟩ := T.mf "Ratio" "__eq__" "Ratio.__eq__" 18 9
  refine fnR_of F sc18_9 (fun _ _ _ _ _ _ us hl => match us, hl with | [_, _], _ => rfl) (fun vs H Q E h => ?_) (fun cdv A outer s H vs Q E hr h => ⟨_, PSs.nox (pss_cons
    (ps_if (pt_not (pt_val (pe_callB call_isi (by rfl) (T.no "isinstance") (by decide +kernel) (pa_cons (pv 1) (pa_cons (pe_glob (v := .ref (gA K "Ratio")) rfl (T.gl "Ratio") rfl) pa_nil))))) (pss_one (ps_ret pe_bl)) pss_nil)
    (pss_one (ps_ret (pe_and (pe_cmpR op_eq (pe_fld (pv 0) rfl) (pe_fld (pv 1) rfl) (nomark _)) (pe_one (pe_cmpR op_eq (pe_fld (pv 0) rfl) (pe_fld (pv 1) rfl) (nomark _))))))), ?_⟩)
  · obtain ⟨u, v, k, rfl, _⟩ := h
    rfl
  · obtain ⟨u, v, k, rfl, ⟨k1, k2, a, da, rfl, ha⟩, h⟩ := h
    have cl := (T.ci "Ratio").cl
    have n1 := T.nf "Ratio" "top"
    have n2 := T.nf "Ratio" "bottom"
    rcases h with ⟨rfl, q⟩ | ⟨l, hl, q⟩
    · exact ⟨_, rfl, _, _, _, _, false, rfl, .own _, .base .non, T.kno _ _ (by simp [kitNo]), false, rfl, iteT q⟩
    · refine ⟨_, rfl, _, _, _, _, true, rfl, .own _, hl.ty T, kit_self, true, rfl, iteF ?_⟩
      obtain ⟨l1, l2, b, db, rfl, hb⟩ := hl
      refine ⟨_, rfl, a, _, da, _, _, rfl, ha, cl, n1, rfl, _, rfl, b, _, db, _, _, rfl, hb, cl, n1, rfl, rfl, _, rfl, ite2 (fun h1 => ?_) fun h1 => ?_⟩
      · refine ⟨_, rfl, a, _, da, _, _, rfl, ha, cl, n2, rfl, _, rfl, b, _, db, _, _, rfl, hb, cl, n2, rfl, rfl, ?_⟩
        have e1 : rt k = rt l := by have := of_decide_eq_true h1; injection this
        have e : decide (V.int (rb k) = V.int (rb l)) = decide (k = l) := decide_eq_decide.mpr ⟨fun z => by injection z with z; exact (rt_eq_iff k l).mp ⟨e1, z⟩, fun z => by rw [z]⟩
        rw [e]
        exact q
      · have e1 : ¬ k = l := fun z => h1 (by rw [z]; exact decide_eq_true rfl)
        rw [decide_eq_false e1] at q
        exact q

def intT (i : Int) : Str := toString i
theorem intT_len {i : Int} (h1 : -100 ≤ i) (h2 : i ≤ 100) : (intT i).length ≤ 4 := by
  have key : ∀ n : Fin 201, (intT ((n.val : Int) - 100)).length ≤ 4 := by decide +kernel
  have := key ⟨(i + 100).toNat, by omega⟩
  have e : (((i + 100).toNat : Nat) : Int) - 100 = i := by omega
  rw [← e]
  exact this
theorem log_small {i : Int} (h1 : -100 ≤ i) (h2 : i ≤ 100) : i.natAbs.log2 < 1920 := by
  have h : i.natAbs < 2 ^ 1920 := Nat.lt_of_lt_of_le (show i.natAbs < 2 ^ 7 by omega) (Nat.pow_le_pow_right (by decide) (by decide))
  by_cases h0 : i.natAbs = 0
  · rw [h0]; decide
  · exact (Nat.log2_lt h0).mpr h
def numT (k : Int) : Str := if rb k = 1 then intT (rt k) else ((Str.empty ++ intT (rt k)) ++ "/") ++ intT (rb k)
theorem numT_len {k : Int} (h1 : -100 ≤ k) (h2 : k ≤ 100) : (numT k).length ≤ 9 := by
  obtain ⟨a, b⟩ := rt_bound h1 h2
  have c := rb_pos k
  have d := rb_le k
  have e1 := intT_len a b
  have e2 := intT_len (i := rb k) (by omega) (by omega)
  unfold numT
  split
  · omega
  · rw [strLen_append, strLen_append, strLen_append]
    have z1 : (("/" : String) : Str).length = 1 := rfl
    have z2 : (Str.empty).length = 0 := rfl
    rw [z1, z2]
    omega
def spRStr (K : PySem.W.Frag) : Sp := fun vs H Q _ => ∃ u k, vs = [u] ∧ NR K k u H ∧ Q (.str (numT k)) H
theorem sc18_11 : FnScope ["self"] ["self"] (defScope (mth 18 11)) := ⟨rfl, rfl, rfl, by decide +kernel, rfl, by decide +kernel, by decide +kernel⟩
theorem r_rstr (T : Tx K mg) : FnR P w K mg base CX0 1 (mA K "Ratio" "__str__") (spRStr K) := by
  obtain ⟨fd, F⟩ := T.mf "Ratio" "__str__" "Ratio.__str__" 18 11
  refine fnR_of F sc18_11 (fun _ _ _ _ _ _ us hl => match us, hl with | [_], _ => rfl) (fun vs H Q E h => ?_) (fun cdv A outer s H vs Q E hr h => ⟨_, PSs.nox (pss_cons
    (ps_if (pt_cmpR op_eq (pe_fld (pv 0) rfl) pe_int (nomark _)) (pss_one (ps_ret (pe_callTy call_str_int (by rfl) (T.no "str") (by decide +kernel) (pa_cons (pe_fld (pv 0) rfl) pa_nil)))) pss_nil)
    (pss_one (ps_ret (pe_joined (.cons (pe_fmt (pe_fld (pv 0) rfl)) (.cons pe_str (.cons (pe_fmt (pe_fld (pv 0) rfl)) .nil))))))), ?_⟩)
  · obtain ⟨u, k, rfl, _⟩ := h
    rfl
  · obtain ⟨u, k, rfl, ⟨k1, k2, a, da, rfl, ha⟩, q⟩ := h
    have cl := (T.ci "Ratio").cl
    have n1 := T.nf "Ratio" "top"
    have n2 := T.nf "Ratio" "bottom"
    obtain ⟨b1, b2⟩ := rt_bound k1 k2
    have c := rb_pos k
    have d := rb_le k
    have l1 := intT_len b1 b2
    have l2 := intT_len (i := rb k) (by omega) (by omega)
    refine ⟨_, rfl, a, _, da, _, _, rfl, ha, cl, n2, rfl, rfl, _, rfl, ite2 (fun h1 => ?_) fun h1 => ?_⟩
    · have e1 : rb k = 1 := by have := of_decide_eq_true h1; injection this
      refine ⟨_, rfl, a, _, da, _, _, rfl, ha, cl, n1, rfl, _, rfl, log_small b1 b2, ?_⟩
      unfold numT at q
      rw [if_pos e1] at q
      exact q
    · have e1 : ¬ rb k = 1 := fun z => h1 (by rw [z]; exact decide_eq_true rfl)
      unfold numT at q
      rw [if_neg e1] at q
      have hz : 100 ≤ sizeLine := by decide
      have z1 : (("/" : String) : Str).length = 1 := rfl
      have z2 : (Str.empty).length = 0 := rfl
      refine ⟨_, rfl, a, _, da, _, _, rfl, ha, cl, n1, rfl, .inr ⟨_, rfl, log_small b1 b2, _, rfl, ?_, _, rfl, ?_, _, rfl, a, _, da, _, _, rfl, ha, cl, n2, rfl, .inr ⟨_, rfl, log_small (by omega) (by omega), _, rfl, ?_, q⟩⟩⟩
      · show (Str.empty ++ intT (rt k)).length ≤ sizeLine
        rw [strLen_append, z2]; omega
      · show ((Str.empty ++ intT (rt k)) ++ "/").length ≤ sizeLine
        rw [strLen_append, strLen_append, z2, z1]; omega
      · show (((Str.empty ++ intT (rt k)) ++ "/") ++ intT (rb k)).length ≤ sizeLine
        rw [strLen_append, strLen_append, strLen_append, z2, z1]; omega

/-! is_number: a Ratio, or no: a tuple -/
def spIsNum (K : PySem.W.Frag) : Sp := fun vs H Q _ => ∃ v, vs = [v] ∧ ((∃ k, NR K k v H ∧ Q (.bl true) H) ∨ ∃ t xs, v = .ref t ∧ H t = some (.tup xs) ∧ Q (.bl false) H)
theorem sc19 : FnScope ["value"] ["value"] (defScope (top 19)) := ⟨rfl, rfl, rfl, by decide +kernel, rfl, by decide +kernel, by decide +kernel⟩
theorem r_isnum (T : Tx K mg) : FnR P w K mg base CX0 2 (gA K "is_number") (spIsNum K) := by
  obtain ⟨fd, F⟩ := T.fd "is_number" 19
  refine fnR_of F sc19 (fun _ _ _ _ _ _ us hl => match us, hl with | [_], _ => rfl) (fun vs H Q E h => ?_) (fun cdv A outer s H vs Q E hr h => ⟨_, PSs.nox (pss_one (ps_ret (pe_or (pe_callB call_isi (by rfl) (T.no "isinstance") (by decide +kernel) (pa_cons (pv 0) (pa_cons (pe_glob (v := .ref (gA K "Ratio")) rfl (T.gl "Ratio") rfl) pa_nil)))
    (pe_one (pe_callF (r_isint T) hr rfl (T.gl "is_integer") (T.kp "is_integer") pass0 (pa_cons (pv 0) pa_nil)))))), ?_⟩)
  · obtain ⟨v, rfl, _⟩ := h
    rfl
  · obtain ⟨v, rfl, ⟨k, hv, q⟩ | ⟨t, xs, rfl, ht, q⟩⟩ := h
    · exact ⟨_, rfl, _, _, _, _, true, rfl, .own _, hv.ty T, kit_self, true, rfl, iteT q⟩
    · exact ⟨_, rfl, _, _, _, _, false, rfl, .own _, .base (.tup ht), T.kno _ _ (by simp [kitNo]), false, rfl, iteF ⟨_, rfl, .inr ⟨t, xs, rfl, ht, q⟩⟩⟩
/-! least, greatest -/
def two (K : PySem.W.Frag) (pick : Int → Int → Int) : Sp := fun vs H Q _ => ∃ l u v a b, vs = [.ref l] ∧ H l = some (.lst [u, v]) ∧ NR K a u H ∧ NR K b v H ∧ ∀ z, NR K (pick a b) z H → Q z H
theorem sc20 : FnScope ["numbers", "found", "number"] ["numbers"] (defScope (top 20)) := ⟨rfl, rfl, rfl, by decide +kernel, rfl, by decide +kernel, by decide +kernel⟩
theorem r_least (T : Tx K mg) : FnR P w K mg base CX0 2 (gA K "least") (two K min) := by
  obtain ⟨fd, F⟩ := T.fd "least" 20
  obtain ⟨p, g, cm, RO⟩ := r_rof (P := P) (w := w) (base := base) T
  refine fnR_of F sc20 (fun _ _ _ _ _ _ us hl => match us, hl with | [_], _ => rfl) (fun vs H Q E h => ?_) (fun cdv A outer s H vs Q E hr h => ⟨_, PSs.nox (pss_cons
    (ps_set (i := 1) sc20.nd rfl (.inl rfl) (ClX.pe_cmeth (pe_glob (v := .ref (gA K "Ratio")) rfl (T.gl "Ratio") rfl) (T.rd "Ratio") cm RO hr pass0 (pa_cons (pe_ix ix_list (pv 0) pe_int (fun _ _ => rfl)) pa_nil)))
    (pss_cons (ps_for PassesOwn.never rfl (pi_list (pv 0)) (pg_name (i := 2) sc20.nd rfl (Or.inl rfl))
      (pss_one (ps_if (pt_val (pe_methF (ClX.pe_cmeth (pe_glob (v := .ref (gA K "Ratio")) rfl (T.gl "Ratio") rfl) (T.rd "Ratio") cm RO hr pass0 (pa_cons (pv 2) pa_nil)) (T.ci "Ratio").cl (T.me "Ratio" "under") (r_under T) hr pass0 (pa_cons (pv 1) pa_nil)))
        (pss_one (ps_set (i := 1) sc20.nd rfl (.inl rfl) (ClX.pe_cmeth (pe_glob (v := .ref (gA K "Ratio")) rfl (T.gl "Ratio") rfl) (T.rd "Ratio") cm RO hr pass0 (pa_cons (pv 2) pa_nil)))) pss_nil)))
    (pss_one (ps_ret (pv 1))))), ?_⟩)
  · obtain ⟨l, u, v, a, b, rfl, _⟩ := h
    rfl
  · obtain ⟨l, u, v, a, b, rfl, hl, ha, hb, q⟩ := h
    refine ⟨rfl, _, rfl, l, _, _, _, rfl, rfl, SqL.of hl, atI_nat rfl, u, a, rfl, ha, ?_⟩
    refine ⟨_, rfl, l, rfl, ⟨_, SqL.of hl⟩, for_list (K := K) (a := l) (xs := [u, v]) (fun i σ' H' => H' = H ∧ ∃ z n, σ' = [some (.ref l), some z, n] ∧ NR K (if i < 2 then a else min a b) z H) ⟨rfl, u, none, rfl, ha⟩ (fun i σ' H' _ h => by rw [h.1]; exact SqL.of hl) ?_ ?_⟩
    · rintro i x σ' H' hx ⟨rfl, z, n, rfl, hz⟩
      match i, hx with
      | 0, hx =>
        cases hx
        refine ⟨rfl, _, rfl, u, a, rfl, ha, ?_⟩
        obtain ⟨k1, k2, r, dx, rfl, hr⟩ := id ha
        refine ⟨r, dx, _, rfl, hr, rfl, _, rfl, _, _, _, _, rfl, ha, hz, _, rfl, ?_⟩
        rw [show decide (a < (if 0 < 2 then a else min a b)) = false from decide_eq_false (by simp)]
        exact iteF ⟨rfl, z, _, rfl, hz⟩
      | 1, hx =>
        cases hx
        refine ⟨rfl, _, rfl, v, b, rfl, hb, ?_⟩
        obtain ⟨k1, k2, r, dx, rfl, hr⟩ := id hb
        refine ⟨r, dx, _, rfl, hr, rfl, _, rfl, _, _, _, _, rfl, hb, hz, _, rfl, ite2 (fun hc => ?_) (fun hc => ?_)⟩
        · have hc' : b < a := by simpa using hc
          refine ⟨rfl, _, rfl, _, b, rfl, hb, ?_⟩
          refine ⟨rfl, _, _, rfl, ?_⟩
          show NR K (min a b) _ _
          rw [show min a b = b by omega]
          exact hb
        · have hc' : ¬ b < a := by simpa using hc
          refine ⟨rfl, z, _, rfl, ?_⟩
          show NR K (min a b) _ _
          rw [show min a b = a by omega]
          exact hz
      | _ + 2, hx => simp at hx
    · rintro σ' H' ⟨rfl, z, n, rfl, hz⟩
      exact ⟨z, rfl, q z hz⟩
theorem sc21 : FnScope ["numbers", "found", "number"] ["numbers"] (defScope (top 21)) := ⟨rfl, rfl, rfl, by decide +kernel, rfl, by decide +kernel, by decide +kernel⟩
theorem r_great (T : Tx K mg) : FnR P w K mg base CX0 2 (gA K "greatest") (two K max) := by
  obtain ⟨fd, F⟩ := T.fd "greatest" 21
  obtain ⟨p, g, cm, RO⟩ := r_rof (P := P) (w := w) (base := base) T
  refine fnR_of F sc21 (fun _ _ _ _ _ _ us hl => match us, hl with | [_], _ => rfl) (fun vs H Q E h => ?_) (fun cdv A outer s H vs Q E hr h => ⟨_, PSs.nox (pss_cons
    (ps_set (i := 1) sc21.nd rfl (.inl rfl) (ClX.pe_cmeth (pe_glob (v := .ref (gA K "Ratio")) rfl (T.gl "Ratio") rfl) (T.rd "Ratio") cm RO hr pass0 (pa_cons (pe_ix ix_list (pv 0) pe_int (fun _ _ => rfl)) pa_nil)))
    (pss_cons (ps_for PassesOwn.never rfl (pi_list (pv 0)) (pg_name (i := 2) sc21.nd rfl (Or.inl rfl))
      (pss_one (ps_if (pt_val (pe_methF (pv 1) (T.ci "Ratio").cl (T.me "Ratio" "under") (r_under T) hr pass0 (pa_cons (ClX.pe_cmeth (pe_glob (v := .ref (gA K "Ratio")) rfl (T.gl "Ratio") rfl) (T.rd "Ratio") cm RO hr pass0 (pa_cons (pv 2) pa_nil)) pa_nil)))
        (pss_one (ps_set (i := 1) sc21.nd rfl (.inl rfl) (ClX.pe_cmeth (pe_glob (v := .ref (gA K "Ratio")) rfl (T.gl "Ratio") rfl) (T.rd "Ratio") cm RO hr pass0 (pa_cons (pv 2) pa_nil)))) pss_nil)))
    (pss_one (ps_ret (pv 1))))), ?_⟩)
  · obtain ⟨l, u, v, a, b, rfl, _⟩ := h
    rfl
  · obtain ⟨l, u, v, a, b, rfl, hl, ha, hb, q⟩ := h
    refine ⟨rfl, _, rfl, l, _, _, _, rfl, rfl, SqL.of hl, atI_nat rfl, u, a, rfl, ha, ?_⟩
    refine ⟨_, rfl, l, rfl, ⟨_, SqL.of hl⟩, for_list (K := K) (a := l) (xs := [u, v]) (fun i σ' H' => H' = H ∧ ∃ z n, σ' = [some (.ref l), some z, n] ∧ NR K (if i < 2 then a else max a b) z H) ⟨rfl, u, none, rfl, ha⟩ (fun i σ' H' _ h => by rw [h.1]; exact SqL.of hl) ?_ ?_⟩
    · rintro i x σ' H' hx ⟨rfl, z, n, rfl, hz⟩
      match i, hx with
      | 0, hx =>
        cases hx
        obtain ⟨k1, k2, r, dx, rfl, hr⟩ := id hz
        refine ⟨_, rfl, r, dx, _, rfl, hr, rfl, rfl, _, rfl, u, a, rfl, ha, _, _, _, _, rfl, hz, ha, _, rfl, ?_⟩
        rw [show decide ((if 0 < 2 then a else max a b) < a) = false from decide_eq_false (by simp)]
        exact iteF ⟨rfl, _, _, rfl, hz⟩
      | 1, hx =>
        cases hx
        obtain ⟨k1, k2, r, dx, rfl, hr⟩ := id hz
        refine ⟨_, rfl, r, dx, _, rfl, hr, rfl, rfl, _, rfl, v, b, rfl, hb, _, _, _, _, rfl, hz, hb, _, rfl, ite2 (fun hc => ?_) (fun hc => ?_)⟩
        · have hc' : a < b := by simpa using hc
          refine ⟨rfl, _, rfl, _, b, rfl, hb, ?_⟩
          refine ⟨rfl, _, _, rfl, ?_⟩
          show NR K (max a b) _ _
          rw [show max a b = b by omega]
          exact hb
        · have hc' : ¬ a < b := by simpa using hc
          refine ⟨rfl, _, _, rfl, ?_⟩
          show NR K (max a b) _ _
          rw [show max a b = a by omega]
          exact hz
      | _ + 2, hx => simp at hx
    · rintro σ' H' ⟨rfl, z, n, rfl, hz⟩
      exact ⟨z, rfl, q z hz⟩
end
end Bf
end

section
set_option Elab.async false
set_option linter.all false
set_option maxRecDepth 100000
/-! spans: put_into, is_axis_name, span_of .. */ -/
namespace Bf
open PySem PySem.Spec PyProof.Rows L2
section
variable {P : Program} {w : World} {K : PySem.W.Frag} {mg : Str → Option Value} {base : Heap}
theorem ext1 {H : Hp} {p : Addr} {o : HO} (h : H p = none) : Ext H (upd H p o) := Ext.upd h
/-! put_into -/
def spPut (K : PySem.W.Frag) : Sp := fun vs H Q _ => ∃ u l r a b c, vs = [u, l, r] ∧ NR K a u H ∧ NR K b l H ∧ NR K c r H ∧ ∀ z H', Ext H H' → NR K (min (max a b) c) z H' → Q z H'
theorem sc38 : FnScope ["number", "low", "high"] ["number", "low", "high"] (defScope (top 38)) := ⟨rfl, rfl, rfl, by decide +kernel, rfl, by decide +kernel, by decide +kernel⟩
theorem r_put (T : Tx K mg) : FnR P w K mg base CX0 3 (gA K "put_into") (spPut K) := by
  obtain ⟨fd, F⟩ := T.fd "put_into" 38
  refine fnR_of F sc38 (fun _ _ _ _ _ _ us hl => match us, hl with | [_, _, _], _ => rfl) (fun vs H Q E h => ?_) (fun cdv A outer s H vs Q E hr h => ⟨_, PSs.nox (pss_one
    (ps_ret (pe_callF (r_least T) hr rfl (T.gl "least") (T.kp "least") pass0 (pa_cons (pe_lst (pa_cons (pe_callF (r_great T) hr rfl (T.gl "greatest") (T.kp "greatest") pass0 (pa_cons (pe_lst (pa_cons (pv 0) (pa_cons (pv 1) pa_nil))) pa_nil)) (pa_cons (pv 2) pa_nil))) pa_nil)))), ?_⟩)
  · obtain ⟨u, l, r, a, b, c, rfl, _⟩ := h
    rfl
  · obtain ⟨u, l, r, a, b, c, rfl, ha, hb, hc, q⟩ := h
    refine ⟨_, rfl, _, rfl, by show 2 ≤ sizeLine; decide, fun p hp => ?_⟩
    have e1 := ext1 (o := .lst [u, l]) hp
    refine ⟨p, u, l, a, b, rfl, upd_same, ha.ext e1, hb.ext e1, fun z hz => ?_⟩
    refine ⟨_, rfl, by show 2 ≤ sizeLine; decide, fun p2 hp2 => ?_⟩
    have e2 := ext1 (o := .lst [z, r]) hp2
    refine ⟨p2, z, r, _, c, rfl, upd_same, hz.ext e2, (hc.ext e1).ext e2, fun y hy => q y _ (e1.trans e2) hy⟩
/-! is_axis_name of one of the four names -/
def letters : Str := "abcdefghijklmnopqrstuvwxyz"
def spAxis : Sp := fun vs H Q _ => ∃ n, vs = [.str n] ∧ n ∈ names4 ∧ ∀ H', Ext H H' → Q (.bl true) H'
theorem sc25 : FnScope ["value", "sign"] ["value"] (defScope (top 25)) := ⟨rfl, rfl, rfl, by decide +kernel, rfl, by decide +kernel, by decide +kernel⟩
theorem names_ok : ∀ n ∈ names4, n.length ≤ 2 ∧ 1 ≤ n.length ∧ n ≠ ("self" : Str) ∧ (∀ c ∈ n.cps.toList, c ∈ letters.cps.toList) := by decide +kernel
theorem r_axis (T : Tx K mg) : FnR P w K mg base CX0 1 (gA K "is_axis_name") spAxis := by
  obtain ⟨fd, F⟩ := T.fd "is_axis_name" 25
  obtain ⟨t1, m1⟩ := T.ml
  obtain ⟨t2, m2⟩ := T.lt
  refine fnR_of F sc25 (fun _ _ _ _ _ _ us hl => match us, hl with | [_], _ => rfl) (fun vs H Q E h => ?_) (fun cdv A outer s H vs Q E hr h => ⟨_, PSs.nox (pss_cons
    (ps_if (PW.pt (pw_or (pt_not (pt_val (pe_callB call_isi (by rfl) (T.no "isinstance") (by decide +kernel) (pa_cons (pv 0) (pa_cons (pe_bltn (v := .ty "str") (by rfl) (T.no "str") (by decide +kernel) rfl) pa_nil)))))
      (pw_or (pt_not (pt_chain op_le op_le pe_int (pe_callB call_len_str (by rfl) (T.no "len") PySem.boot_len (pa_cons (pv 0) pa_nil)) (pe_glob (v := .int 8) rfl m1 ⟨t1, rfl⟩))) (pw_or1 (pt_cmpR op_eq (pv 0) pe_str (nomark _)))))) (pss_one (ps_ret pe_bl)) pss_nil)
    (pss_one (ps_ret (pe_callB (cr_all rfl) (by rfl) (T.no "all") (by decide +kernel) (pa_cons
      (pe_lc (own := [("sign", 1)]) (g := gName 1) (tt := tYes) rfl sc25.nd (pi_str (pv 0)) (blkOk_by (N := ["value", "sign"]) (sc := defScope (top 25)) (by decide +kernel)) (fun _ _ _ _ _ => pg_name (i := 1) sc25.nd rfl (Or.inl rfl)) (fun _ _ _ _ _ => pts_nil)
        (fun _ _ _ _ _ => pe_cmpR op_in_sign (pv 1) (pe_glob (v := .str letters) rfl m2 ⟨t2, rfl⟩) (by rfl))) pa_nil))))), ?_⟩)
  · obtain ⟨n, rfl, _⟩ := h
    rfl
  · obtain ⟨n, rfl, hn, q⟩ := h
    obtain ⟨n1, n2, n3, n4⟩ := names_ok n hn
    have hz : 100 ≤ sizeLine := by decide
    refine ⟨_, rfl, _, _, _, _, true, rfl, .ty "str", .base (.str n), kit_ty (by decide +kernel), true, rfl, iteF ?_⟩
    refine ⟨_, rfl, n, rfl, by omega, _, _, rfl, rfl, _, rfl, ?_⟩
    rw [decide_eq_true (show (1 : Int) ≤ (n.length : Nat) by omega)]
    refine iteT ⟨_, _, rfl, rfl, _, rfl, ?_⟩
    rw [decide_eq_true (show ((n.length : Nat) : Int) ≤ 8 by omega)]
    refine iteF ⟨_, rfl, rfl, _, rfl, ?_⟩
    rw [decide_eq_false (show ¬ V.str n = V.str "self" from fun z => n3 (by injection z))]
    refine iteF ⟨_, rfl, n, rfl, fun D hD => lc_gen (n := n.cps.size) (fun i H' => ∃ acc, H' = upd H D (.lst (acc.map V.bl)) ∧ acc.length = i ∧ acc.all id = true) ⟨[], rfl, rfl, rfl⟩ (fun i H' h _ => h) (fun H' _ => Nat.le_refl _) ?_ ?_⟩
    · rintro i x H' H2 hi ⟨acc, rfl, hl, ha⟩ ⟨rfl, c, hc, rfl⟩
      have hm : c ∈ letters.cps.toList := n4 c (by
        obtain ⟨h1, h2⟩ := Array.getElem?_eq_some_iff.mp hc
        rw [← h2]
        exact Array.mem_toList_iff.mpr (Array.getElem_mem h1))
      refine ⟨rfl, ?_⟩
      unfold tYes
      refine iteT ⟨_, rfl, c, letters, rfl, rfl, acc.map V.bl, upd_same, ?_, acc ++ [true], ?_, ?_, ?_⟩
      · rw [List.length_map]
        have : n.cps.size = n.length := rfl
        omega
      · rw [upd_upd, decide_eq_true hm]
        simp
      · simp [hl]
      · simp [ha]
    · rintro H' ⟨acc, rfl, hl, ha⟩
      refine ⟨D, acc, rfl, SqL.of upd_same, ?_⟩
      rw [ha]
      exact q _ (ext1 hD)
end
end Bf
end

section
set_option Elab.async false
set_option linter.all false
set_option maxRecDepth 100000
/-! span_value, shared_span, span_of -/
namespace Bf
open PySem PySem.Spec PyProof.Rows L2
section
variable {P : Program} {w : World} {K : PySem.W.Frag} {mg : Str → Option Value} {base : Heap}
/-- Ratio == Ratio as an operator -/
theorem op_eqRt {X : Cx} (T : Tx X.K X.mg) {k : Nat} (hr : Room (k + 1) X.A) (hx : Passes CX0 X E0) : OpR X (compareOp .Eq) (rCmpI (CRt X.K) (spREq X.K) E0) :=
  op_cmpI (fun _ _ => rfl) (T.me "Ratio" "__eq__").at_ (T.me "Ratio" "__eq__").fn (r_req T) (hr.mono (by omega)) hx
theorem NR.cmp {K : PySem.W.Frag} {k l : Int} {u v : V} {H : Hp} {Q : VK} (hu : NR K k u H) (hv : NR K l v H) (q : Q (.bl (decide (k = l))) H) : rCmpI (CRt K) (spREq K) E0 u v H Q := by
  obtain ⟨_, _, a, da, rfl, ha⟩ := id hu
  obtain ⟨_, _, b, db, rfl, hb⟩ := id hv
  exact ⟨a, da, _, b, db, _, rfl, rfl, ha, hb, _, _, k, rfl, hu, .inr ⟨l, hv, q⟩⟩
/-- x.under(y): the reading -/
theorem NR.meth {K : PySem.W.Frag} {k : Int} {u : V} {H : Hp} {R : Addr → Addr → List (Str × V) → Prop} (hu : NR K k u H) (h : ∀ r dx, u = .ref r → H r = some (.ins (CRt K) dx [("top", .int (rt k)), ("bottom", .int (rb k))]) → R r dx [("top", .int (rt k)), ("bottom", .int (rb k))]) :
    ∃ r dx fs, u = .ref r ∧ H r = some (.ins (CRt K) dx fs) ∧ R r dx fs := by
  obtain ⟨_, _, a, da, rfl, ha⟩ := id hu
  exact ⟨a, da, _, rfl, ha, h a da rfl ha⟩
/-! span_value -/
def spSVal (K : PySem.W.Frag) : Sp := fun vs H Q _ => ∃ v s, vs = [v] ∧ SpanAt K s v H ∧ ∀ z H', Ext H H' → Told K s z H' → Q z H'
theorem sc40 : FnScope ["span", "low", "home", "high"] ["span"] (defScope (top 40)) := ⟨rfl, rfl, rfl, by decide +kernel, rfl, by decide +kernel, by decide +kernel⟩
theorem r_sval (T : Tx K mg) : FnR P w K mg base CX0 2 (gA K "span_value") (spSVal K) := by
  obtain ⟨fd, F⟩ := T.fd "span_value" 40
  refine fnR_of F sc40 (fun _ _ _ _ _ _ us hl => match us, hl with | [_], _ => rfl) (fun vs H Q E h => ?_) (fun cdv A outer s H vs Q E hr h => ⟨_, PSs.nox (pss_cons
    (ps_asg (pv 0) (pg_tup (by rfl) (pgs_cons (pg_name (i := 1) sc40.nd rfl (Or.inl rfl)) (pgs_cons (pg_name (i := 2) sc40.nd rfl (Or.inl rfl)) (pgs_cons (pg_name (i := 3) sc40.nd rfl (Or.inl rfl)) pgs_nil)))))
    (pss_cons (ps_if (pt_cmpR (op_eqRt T hr pass0) (pv 1) (pv 3) (nomark _)) (pss_one (ps_ret (pv 1))) pss_nil)
    (pss_one (ps_ret (pe_ifExp (pt_cmpR op_isN (pv 2) pe_non (nomark _)) (pe_tup (pa_cons (pv 1) (pa_cons (pv 3) pa_nil))) (pv 0)))))), ?_⟩)
  · obtain ⟨v, s, rfl, _⟩ := h
    rfl
  · obtain ⟨v, s, rfl, ⟨ok, t, v1, v2, v3, rfl, ht, h1, h2, h3⟩, q⟩ := h
    obtain ⟨o1, o2, o3, o4, o5⟩ := id ok
    refine ⟨_, rfl, t, _, rfl, SqT.of ht, rfl, _, _, rfl, _, _, rfl, _, _, rfl, rfl, ?_⟩
    refine ⟨_, rfl, _, rfl, h1.cmp h3 ⟨_, rfl, ite2 (fun hc => ?_) (fun hc => ?_)⟩⟩
    · have e : s.lo = s.hi := by have := of_decide_eq_true hc; omega
      exact ⟨_, rfl, q _ _ Ext.rfl' ⟨ok, .inl ⟨e, h1⟩⟩⟩
    · have e : s.lo < s.hi := by
        have : ¬ (2 * s.lo = 2 * s.hi) := fun z => hc (decide_eq_true z)
        omega
      cases hh : s.home with
      | none =>
        rw [hh] at h2
        have h2' : v2 = .non := h2
        subst h2'
        refine ⟨_, rfl, rfl, _, rfl, iteT ⟨_, rfl, _, rfl, by show 2 ≤ sizeLine; decide, fun p hp => ?_⟩⟩
        have e1 := ext1 (o := .tup [v1, v3]) hp
        exact q _ _ e1 ⟨ok, .inr (.inl ⟨e, hh, p, v1, v3, rfl, upd_same, h1.ext e1, h3.ext e1⟩)⟩
      | some k =>
        rw [hh] at h2
        have h2' : NR K (2 * k) v2 H := h2
        refine ⟨_, rfl, rfl, _, rfl, ?_⟩
        have en : decide (v2 = V.non) = false := by
          obtain ⟨_, _, r, dx, rfl, _⟩ := h2'
          exact decide_eq_false (fun z => nomatch z)
        rw [en]
        exact iteF ⟨_, rfl, q _ _ Ext.rfl' ⟨ok, .inr (.inr ⟨e, k, hh, t, v1, v2, v3, rfl, ht, h1, h2', h3⟩)⟩⟩
/-! shared_span -/
def ToldO (K : PySem.W.Frag) (o : Option Spn) (v : V) (H : Hp) : Prop := match o with
  | none => v = .non
  | some s => Told K s v H
def spShare (K : PySem.W.Frag) : Sp := fun vs H Q _ => ∃ u v a b, vs = [u, v] ∧ SpanAt K a u H ∧ SpanAt K b v H ∧ ∀ z H', Ext H H' → ToldO K (meet a b) z H' → Q z H'
theorem sc39 : FnScope ["one", "other", "low", "high", "home"] ["one", "other"] (defScope (top 39)) := ⟨rfl, rfl, rfl, by decide +kernel, rfl, by decide +kernel, by decide +kernel⟩
theorem r_share (T : Tx K mg) : FnR P w K mg base CX0 4 (gA K "shared_span") (spShare K) := by
  obtain ⟨fd, F⟩ := T.fd "shared_span" 39
  refine fnR_of F sc39 (fun _ _ _ _ _ _ us hl => match us, hl with | [_, _], _ => rfl) (fun vs H Q E h => ?_) (fun cdv A outer s H vs Q E hr h => ⟨_, PSs.nox (pss_cons
    (ps_par (i := 2) (j := 3) (by rfl) sc39.nd rfl rfl (by decide) rfl rfl (pa_cons (pe_callF (r_great T) (hr.mono (by decide)) rfl (T.gl "greatest") (T.kp "greatest") pass0 (pa_cons (pe_lst (pa_cons (pe_ix ix_tup (pv 0) pe_int (fun _ _ => rfl)) (pa_cons (pe_ix ix_tup (pv 1) pe_int (fun _ _ => rfl)) pa_nil))) pa_nil))
      (pa_cons (pe_callF (r_least T) (hr.mono (by decide)) rfl (T.gl "least") (T.kp "least") pass0 (pa_cons (pe_lst (pa_cons (pe_ix ix_tup (pv 0) pe_int (fun _ _ => rfl)) (pa_cons (pe_ix ix_tup (pv 1) pe_int (fun _ _ => rfl)) pa_nil))) pa_nil)) pa_nil)) (by rfl))
    (pss_cons (ps_if (pt_val (pe_methF (pv 3) (T.ci "Ratio").cl (T.me "Ratio" "under") (r_under T) (hr.mono (by decide)) pass0 (pa_cons (pv 2) pa_nil))) (pss_one (ps_ret pe_non)) pss_nil)
    (pss_cons (ps_if (pt_cmpR (op_eqRt T hr pass0) (pv 2) (pv 3) (nomark _)) (pss_one (ps_ret (pv 2))) pss_nil)
    (pss_cons (ps_set (i := 4) sc39.nd rfl (.inl rfl) (pe_ifExp (pt_cmpR op_isN (pe_ix ix_tup (pv 1) pe_int (fun _ _ => rfl)) pe_non (nomark _)) (pe_ix ix_tup (pv 0) pe_int (fun _ _ => rfl)) (pe_ix ix_tup (pv 1) pe_int (fun _ _ => rfl))))
    (pss_one (ps_ret (pe_ifExp (pt_cmpR op_isN (pv 4) pe_non (nomark _)) (pe_tup (pa_cons (pv 2) (pa_cons (pv 3) pa_nil))) (pe_tup (pa_cons (pv 2) (pa_cons (pe_callF (r_put T) hr rfl (T.gl "put_into") (T.kp "put_into") pass0 (pa_cons (pv 4) (pa_cons (pv 2) (pa_cons (pv 3) pa_nil)))) (pa_cons (pv 3) pa_nil)))))))))))
    , ?_⟩)
  · obtain ⟨u, v, a, b, rfl, _⟩ := h
    rfl
  · obtain ⟨u, v, a, b, rfl, ⟨ok1, t, v1, v2, v3, rfl, ht, h1, h2, h3⟩, ⟨ok2, t', w1, w2, w3, rfl, ht', g1, g2, g3⟩, q⟩ := h
    refine ⟨_, rfl, t, _, _, _, rfl, rfl, SqT.of ht, atI_nat rfl, _, rfl, t', _, _, _, rfl, rfl, SqT.of ht', atI_nat rfl, by show 2 ≤ sizeLine; decide, fun p hp => ?_⟩
    have e1 := ext1 (o := .lst [v1, w1]) hp
    refine ⟨p, v1, w1, _, _, rfl, upd_same, h1.ext e1, g1.ext e1, fun lo hlo => ?_⟩
    have ht1 := e1 _ _ ht
    have ht1' := e1 _ _ ht'
    refine ⟨_, rfl, t, _, _, _, rfl, rfl, SqT.of ht1, atI_nat rfl, _, rfl, t', _, _, _, rfl, rfl, SqT.of ht1', atI_nat rfl, by show 2 ≤ sizeLine; decide, fun p2 hp2 => ?_⟩
    have e2 := e1.trans (ext1 (o := .lst [v3, w3]) hp2)
    refine ⟨p2, v3, w3, _, _, rfl, upd_same, h3.ext e2, g3.ext e2, fun hi hhi => ⟨lo, hi, rfl, ?_⟩⟩
    have hlo := hlo.ext (ext1 (o := .lst [v3, w3]) hp2)
    have elo : max (2 * a.lo) (2 * b.lo) = 2 * max a.lo b.lo := by omega
    have ehi : min (2 * a.hi) (2 * b.hi) = 2 * min a.hi b.hi := by omega
    rw [elo] at hlo
    rw [ehi] at hhi
    have ht2 := e2 _ _ ht
    have ht2' := e2 _ _ ht'
    have h2 := h2.ext e2
    have g2 := g2.ext e2
    have hok := fun c => meet_ok (c := c) ok1 ok2
    generalize upd (upd H p (.lst [v1, w1])) p2 (.lst [v3, w3]) = H2 at *
    unfold meet at q hok
    simp only at q hok
    refine ⟨_, rfl, hhi.meth fun r dx er hr => ⟨rfl, _, rfl, hi, lo, _, _, rfl, hhi, hlo, _, rfl, ite2 (fun hc => ?_) (fun hc => ?_)⟩⟩
    · have hc' : min a.hi b.hi < max a.lo b.lo := by have := of_decide_eq_true hc; omega
      rw [if_pos hc'] at q
      exact q _ _ e2 rfl
    · have hc' : ¬ (min a.hi b.hi < max a.lo b.lo) := fun z => hc (decide_eq_true (by omega))
      rw [if_neg hc'] at q hok
      refine ⟨_, rfl, _, rfl, hlo.cmp hhi ⟨_, rfl, ite2 (fun hd => ?_) (fun hd => ?_)⟩⟩
      · have hd' : max a.lo b.lo = min a.hi b.hi := by have := of_decide_eq_true hd; omega
        rw [if_pos hd'] at q hok
        exact ⟨_, rfl, q _ _ e2 ⟨hok _ rfl, .inl ⟨rfl, hlo⟩⟩⟩
      · have hd' : ¬ (max a.lo b.lo = min a.hi b.hi) := fun z => hd (decide_eq_true (by omega))
        rw [if_neg hd'] at q hok
        have hlt : max a.lo b.lo < min a.hi b.hi := by omega
        -- the home
        have fin : ∀ (oh : Option Int) (hm : V), HomeAt K oh hm H2 → oh = hmO b.home a.home →
            tRet (tIf (tTest (tOp (fun x y H Q => y = V.non ∧ Q (V.bl (decide (x = V.non))) H) (tVar 4) (tC V.non))) (tTup (tCons (tVar 2) (tCons (tVar 3) tNil)))
              (tTup (tCons (tVar 2) (tCons (tCallF (spPut K) E0 (tCons (tVar 4) (tCons (tVar 2) (tCons (tVar 3) tNil)))) (tCons (tVar 3) tNil)))))
              { nx := fun _ H' => Q .non H', rt := Q } [some (.ref t), some (.ref t'), some lo, some hi, some hm] H2 := by
          intro oh hm hmA eo
          rw [← eo] at q hok
          cases oh with
          | none =>
            have z : hm = .non := hmA
            subst z
            refine ⟨_, rfl, rfl, _, rfl, iteT ⟨_, rfl, _, rfl, by show 2 ≤ sizeLine; decide, fun p3 hp3 => ?_⟩⟩
            have e3 := ext1 (o := .tup [lo, hi]) hp3
            exact q _ _ (e2.trans e3) ⟨hok _ rfl, .inr (.inl ⟨hlt, rfl, p3, lo, hi, rfl, upd_same, hlo.ext e3, hhi.ext e3⟩)⟩
          | some k =>
            have z : NR K (2 * k) hm H2 := hmA
            have en : decide (hm = V.non) = false := by
              obtain ⟨_, _, r, dx, rfl, _⟩ := z
              exact decide_eq_false (fun z => nomatch z)
            refine ⟨_, rfl, rfl, _, rfl, ?_⟩
            rw [en]
            refine iteF ⟨_, rfl, _, rfl, _, rfl, _, rfl, hm, lo, hi, _, _, _, rfl, z, hlo, hhi, fun m H3 e3 hm3 => ⟨_, rfl, by show 3 ≤ sizeLine; decide, fun p3 hp3 => ?_⟩⟩
            have e4 := e3.trans (ext1 (o := .tup [lo, m, hi]) hp3)
            have ek : min (max (2 * k) (2 * max a.lo b.lo)) (2 * min a.hi b.hi) = 2 * clp k (max a.lo b.lo) (min a.hi b.hi) := by unfold clp; omega
            rw [ek] at hm3
            exact q _ _ (e2.trans e4) ⟨hok _ rfl, .inr (.inr ⟨hlt, _, rfl, p3, lo, m, hi, rfl, upd_same, hlo.ext e4, hm3.ext (ext1 hp3), hhi.ext e4⟩)⟩
        refine ⟨_, rfl, t', _, _, _, rfl, rfl, SqT.of ht2', atI_nat rfl, rfl, _, rfl, ?_⟩
        cases hb : b.home with
        | none =>
          rw [hb] at g2
          have z : w2 = .non := g2
          subst z
          refine iteT ⟨_, rfl, t, _, _, _, rfl, rfl, SqT.of ht2, atI_nat rfl, ?_⟩
          exact fin a.home v2 h2 (by rw [hb] <;> rfl)
        | some k =>
          rw [hb] at g2
          have z : NR K (2 * k) w2 H2 := g2
          have en : decide (w2 = V.non) = false := by
            obtain ⟨_, _, r, dx, rfl, _⟩ := z
            exact decide_eq_false (fun z => nomatch z)
          rw [en]
          refine iteF ⟨_, rfl, t', _, _, _, rfl, rfl, SqT.of ht2', atI_nat rfl, ?_⟩
          exact fin (some k) w2 z (by rw [hb] <;> rfl)
end
end Bf
end

section
set_option Elab.async false
set_option linter.all false
set_option maxRecDepth 100000
/-! span_of -/
namespace Bf
open PySem PySem.Spec PyProof.Rows L2
section
variable {P : Program} {w : World} {K : PySem.W.Frag} {mg : Str → Option Value} {base : Heap}
def spSOf (K : PySem.W.Frag) : Sp := fun vs H Q _ => ∃ v s, vs = [v] ∧ Told K s v H ∧ ∀ z H', Ext H H' → SpanAt K s z H' → Q z H'
def N36 : List Str := ["value", "low", "middle", "high", "part", "home"]
theorem sc36 : FnScope N36 ["value"] (defScope (top 36)) := ⟨rfl, rfl, rfl, by decide +kernel, rfl, by decide +kernel, by decide +kernel⟩
theorem r_sof (T : Tx K mg) : FnR P w K mg base CX0 3 (gA K "span_of") (spSOf K) := by
  obtain ⟨fd, F⟩ := T.fd "span_of" 36
  obtain ⟨p, g, cm, RO⟩ := r_rof (P := P) (w := w) (base := base) T
  refine fnR_of F sc36 (fun _ _ _ _ _ _ us hl => match us, hl with | [_], _ => rfl) (fun vs H Q E h => ?_) (fun cdv A outer s H vs Q E hr h => ⟨_, PSs.nox (pss_cons
    (ps_if (pt_val (pe_callF (r_isnum T) hr rfl (T.gl "is_number") (T.kp "is_number") pass0 (pa_cons (pv 0) pa_nil)))
      (pss_one (ps_ret (pe_op op_repT (pe_tup (pa_cons (ClX.pe_cmeth (pe_glob (v := .ref (gA K "Ratio")) rfl (T.gl "Ratio") rfl) (T.rd "Ratio") cm RO (hr.mono (by decide)) pass0 (pa_cons (pv 0) pa_nil)) pa_nil)) pe_int))) pss_nil)
    (pss_cons (ps_if (PW.pt (pw_or (pt_not (pt_val (pe_callB call_isi (by rfl) (T.no "isinstance") (by decide +kernel) (pa_cons (pv 0) (pa_cons (pe_bltn (v := .ty "tuple") (by rfl) (T.no "tuple") (by decide +kernel) rfl) pa_nil)))))
        (pw_or (pt_cmpR op_notIn_seq (pe_callB call_len_seq (by rfl) (T.no "len") PySem.boot_len (pa_cons (pv 0) pa_nil)) (pe_tup (pa_cons pe_int (pa_cons pe_int pa_nil))) (by rfl))
        (pw_or1 (pt_not (pt_val (pe_callB (cr_all rfl) (by rfl) (T.no "all") (by decide +kernel) (pa_cons
          (pe_lc (own := [("part", 4)]) (g := gName 4) (tt := tYes) rfl sc36.nd (pi_tup (pv 0)) (blkOk_by (N := N36) (sc := defScope (top 36)) (by decide +kernel)) (fun _ _ _ _ _ => pg_name (i := 4) sc36.nd rfl (Or.inl rfl)) (fun _ _ _ _ _ => pts_nil)
            (fun _ _ _ _ _ => pe_callF (r_isnum T) hr rfl (T.gl "is_number") (T.kp "is_number") pass0 (pa_cons (pv 4) pa_nil))) pa_nil))))))))
      (pss_one (ps_ret pe_non)) pss_nil)
    (pss_cons (ps_asg (pe_lc (own := [("part", 4)]) (g := gName 4) (tt := tYes) rfl sc36.nd (pi_tup (pv 0)) (blkOk_by (N := N36) (sc := defScope (top 36)) (by decide +kernel)) (fun _ _ _ _ _ => pg_name (i := 4) sc36.nd rfl (Or.inl rfl)) (fun _ _ _ _ _ => pts_nil)
            (fun _ _ _ _ _ => ClX.pe_cmeth (pe_glob (v := .ref (gA K "Ratio")) rfl (T.gl "Ratio") rfl) (T.rd "Ratio") cm RO (hr.mono (by decide)) pass0 (pa_cons (pv 4) pa_nil)))
        (pg_star (names := [.Name "low" ⟨227, 4, 227, 7⟩, .Name "middle" ⟨227, 10, 227, 16⟩, .Name "high" ⟨227, 18, 227, 22⟩]) (n := 3) (i := 1) rfl (pgs_cons (pg_name (i := 1) sc36.nd rfl (Or.inr rfl)) (pgs_cons (pg_name (i := 2) sc36.nd rfl (Or.inl rfl)) (pgs_cons (pg_name (i := 3) sc36.nd rfl (Or.inr rfl)) pgs_nil))) (by decide)))
    (pss_cons (ps_if (PW.pt (pw_or (pt_not (pt_val (pe_methF (pv 1) (T.ci "Ratio").cl (T.me "Ratio" "under") (r_under T) (hr.mono (by decide)) pass0 (pa_cons (pv 3) pa_nil))))
        (pw_or1 (pt_val (pe_callB (cr_any rfl) (by rfl) (T.no "any") (by decide +kernel) (pa_cons
          (pe_lc (own := [("home", 5)]) (g := gName 5) (tt := tYes) rfl sc36.nd (pi_list (pv 2)) (blkOk_by (N := N36) (sc := defScope (top 36)) (by decide +kernel)) (fun _ _ _ _ _ => pg_name (i := 5) sc36.nd rfl (Or.inl rfl)) (fun _ _ _ _ _ => pts_nil)
            (fun _ _ _ _ _ => pe_or (pe_methF (pv 5) (T.ci "Ratio").cl (T.me "Ratio" "under") (r_under T) (hr.mono (by decide)) pass0 (pa_cons (pv 1) pa_nil)) (pe_one (pe_methF (pv 3) (T.ci "Ratio").cl (T.me "Ratio" "under") (r_under T) (hr.mono (by decide)) pass0 (pa_cons (pv 5) pa_nil))))) pa_nil))))))
      (pss_one (ps_ret pe_non)) pss_nil)
    (pss_one (ps_ret (pe_tup (pa_cons (pv 1) (pa_cons (pe_ifExp (pt_cmpR op_gt (pe_callB call_len_seq (by rfl) (T.no "len") PySem.boot_len (pa_cons (pv 2) pa_nil)) pe_int (nomark _)) (pe_ix ix_list (pv 2) pe_int (fun _ _ => rfl)) pe_non) (pa_cons (pv 3) pa_nil)))))))))), ?_⟩)
  · obtain ⟨v, s, rfl, _⟩ := h
    rfl
  · obtain ⟨v, s, rfl, ⟨ok, h⟩, q⟩ := h
    obtain ⟨o1, o2, o3, o4, o5⟩ := id ok
    rcases h with ⟨e, hv⟩ | h
    · refine ⟨_, rfl, v, rfl, .inl ⟨_, hv, true, rfl, iteT ⟨rfl, _, rfl, v, _, rfl, hv, by show 1 ≤ sizeLine; decide, fun p hp => ⟨p, 3, [v], rfl, rfl, SqT.of upd_same, by simp, by decide, by decide, by show 1 ≤ 1000; decide, fun p2 hp2 => ?_⟩⟩⟩⟩
      have e1 := (ext1 (o := .tup [v]) hp).trans (ext1 (o := .tup [v, v, v]) hp2)
      refine q _ _ e1 ⟨ok, p2, v, v, v, rfl, upd_same, hv.ext e1, ?_, ?_⟩
      · rw [o5 e]
        exact hv.ext e1
      · rw [← e]
        exact hv.ext e1
    · obtain ⟨t, xs, ks, rfl, ht, hp, hl, hlt, hcase⟩ : ∃ (t : Addr) (xs : List V) (ks : List Int), v = .ref t ∧ H t = some (.tup xs) ∧ Paired (fun k v => NR K k v H) ks xs ∧ (xs.length = 2 ∨ xs.length = 3) ∧ s.lo < s.hi ∧
          ((s.home = none ∧ ∃ a b, xs = [a, b] ∧ NR K (2 * s.lo) a H ∧ NR K (2 * s.hi) b H) ∨ ∃ k, s.home = some k ∧ ∃ a c b, xs = [a, c, b] ∧ NR K (2 * s.lo) a H ∧ NR K (2 * k) c H ∧ NR K (2 * s.hi) b H) := by
        rcases h with ⟨a, b, t, v1, v3, c, d, f, g⟩ | ⟨a, k, b, t, v1, v2, v3, c, d, f, g, i⟩
        · exact ⟨t, [v1, v3], [_, _], c, d, .cons f (.cons g .nil), .inl rfl, a, .inl ⟨b, v1, v3, rfl, f, g⟩⟩
        · exact ⟨t, [v1, v2, v3], [_, _, _], c, d, .cons f (.cons g (.cons i .nil)), .inr rfl, a, .inr ⟨k, b, v1, v2, v3, rfl, f, g, i⟩⟩
      have nth : ∀ (i : Nat) x, xs[i]? = some x → ∃ k, NR K k x H := fun i x hx => by
        have z : ∀ (ks : List Int) (xs : List V), Paired (fun k v => NR K k v H) ks xs → ∀ (i : Nat) x, xs[i]? = some x → ∃ k, NR K k x H := by
          intro ks xs hp
          induction hp with
          | nil => intro i x e; simp at e
          | cons a _ ih =>
            intro i x e
            cases i with
            | zero => simp at e; subst e; exact ⟨_, a⟩
            | succ i => exact ih i x (by simpa using e)
        exact z ks xs hp i x hx
      refine ⟨_, rfl, _, rfl, .inr ⟨t, xs, rfl, ht, false, rfl, iteF ?_⟩⟩
      refine ⟨_, rfl, _, _, _, _, true, rfl, .ty "tuple", .base (.tup ht), kit_ty (by decide +kernel), true, rfl, iteF ?_⟩
      refine ⟨_, rfl, t, xs, rfl, .inr (SqT.of ht), by show 2 ≤ sizeLine; decide, fun p1 hp1 => ⟨p1, _, rfl, .inr (SqT.of upd_same), rfl, rfl, _, rfl, ?_⟩⟩
      have e1 := ext1 (o := .tup [.int 2, .int 3]) hp1
      have hin : inV (.int (xs.length : Nat)) [.int 2, .int 3] = true := by rcases hl with z | z <;> rw [z] <;> decide
      rw [show (if true = true then !inV (.int (xs.length : Nat)) [.int 2, .int 3] else inV (.int (xs.length : Nat)) [.int 2, .int 3]) = false by rw [hin] <;> rfl]
      refine iteF ?_
      have ht1 := e1 _ _ ht
      generalize upd H p1 (.tup [.int 2, .int 3]) = H1 at *
      refine ⟨_, rfl, t, rfl, ⟨_, SqT.of ht1⟩, fun D hD => lc_tup (K := K) (a := t) (xs := xs) (fun i H' => ∃ acc, H' = upd H1 D (.lst (acc.map V.bl)) ∧ acc.length = i ∧ acc.all id = true) ⟨[], rfl, rfl, rfl⟩ ?_ ?_ ?_⟩
      · rintro i H' _ ⟨acc, rfl, _⟩
        exact SqT.of (ext1 hD _ _ ht1)
      · rintro i x H' hx ⟨acc, rfl, hal, ha⟩
        obtain ⟨k, hk⟩ := nth i x hx
        refine ⟨rfl, ?_⟩
        unfold tYes
        refine iteT ⟨_, rfl, x, rfl, .inl ⟨k, (hk.ext e1).ext (ext1 hD), acc.map V.bl, upd_same, ?_, acc ++ [true], ?_, ?_, ?_⟩⟩
        · rw [List.length_map]
          have hi := (List.getElem?_eq_some_iff.mp hx).1
          have : 100 ≤ sizeLine := by decide
          omega
        · rw [upd_upd]; simp
        · simp [hal]
        · simp [ha]
      rintro H' ⟨acc, rfl, hal, ha⟩
      refine ⟨D, acc, rfl, SqL.of upd_same, true, by rw [ha], iteF ?_⟩
      have e2 := e1.trans (ext1 (o := .lst (acc.map V.bl)) hD)
      have ht2 := e2 _ _ ht
      generalize upd H1 D (.lst (acc.map V.bl)) = H2 at *
      refine ⟨_, rfl, t, rfl, ⟨_, SqT.of ht2⟩, fun D2 hD2 => lc_tup (K := K) (a := t) (xs := xs) (fun i H' => H' = upd H2 D2 (.lst (xs.take i))) rfl ?_ ?_ ?_⟩
      · rintro i H' _ rfl
        exact SqT.of (ext1 hD2 _ _ ht2)
      · rintro i x H' hx rfl
        obtain ⟨k, hk⟩ := nth i x hx
        refine ⟨rfl, ?_⟩
        unfold tYes
        refine iteT ⟨rfl, _, rfl, x, k, rfl, (hk.ext e2).ext (ext1 hD2), xs.take i, upd_same, ?_, ?_⟩
        · rw [List.length_take]
          have : 100 ≤ sizeLine := by decide
          omega
        · rw [upd_upd]
          congr 2
          rw [List.take_add_one, hx] <;> rfl
      rintro H' rfl
      rw [List.take_length]
      refine ⟨D2, xs, rfl, SqL.of upd_same, by omega, by omega, fun D3 hD3 => ?_⟩
      have e3 := (e2.trans (ext1 (o := .lst xs) hD2)).trans (ext1 (o := .lst ((xs.drop 1).take (xs.length + 1 - 3))) hD3)
      rcases hcase with ⟨hh, a, b, rfl, ha, hb⟩ | ⟨k, hh, a, c, b, rfl, ha, hc, hb⟩
      · have hM : upd (upd H2 D2 (.lst [a, b])) D3 (.lst []) D3 = some (.lst []) := upd_same
        change Ext H (upd (upd H2 D2 (.lst [a, b])) D3 (.lst [])) at e3
        refine ⟨_, _, rfl, _, _, rfl, _, _, rfl, rfl, ?_⟩
        show tSeq _ _ _ _ (upd (upd H2 D2 (.lst [a, b])) D3 (.lst []))
        generalize upd (upd H2 D2 (.lst [a, b])) D3 (.lst []) = H3 at *
        have ha := ha.ext e3
        have hb := hb.ext e3
        refine ⟨_, rfl, ha.meth fun r dx er hr => ⟨rfl, _, rfl, a, b, _, _, rfl, ha, hb, _, rfl, ?_⟩⟩
        rw [decide_eq_true (show 2 * s.lo < 2 * s.hi by omega)]
        refine iteF ⟨_, rfl, D3, rfl, ⟨_, SqL.of hM⟩, fun D4 hD4 => lc_list (K := K) (a := D3) (xs := []) (fun i H' => H' = upd H3 D4 (.lst [])) rfl (fun i H' _ h => by rw [h]; exact SqL.of (ext1 hD4 _ _ hM)) (fun i x H' hx => by simp at hx) ?_⟩
        rintro H' rfl
        refine ⟨D4, [], rfl, SqL.of upd_same, false, rfl, iteF ?_⟩
        have e4 := ext1 (o := .lst []) hD4
        refine ⟨_, rfl, _, rfl, D3, [], rfl, .inl (SqL.of (e4 _ _ hM)), _, _, rfl, rfl, _, rfl, iteF ⟨_, rfl, by show 3 ≤ sizeLine; decide, fun p hp => ?_⟩⟩
        have e5 := e4.trans (ext1 (o := .tup [a, .non, b]) hp)
        refine q _ _ (e3.trans e5) ⟨ok, p, a, .non, b, rfl, upd_same, ha.ext e5, ?_, hb.ext e5⟩
        rw [hh]
        exact rfl
      · have hM : upd (upd H2 D2 (.lst [a, c, b])) D3 (.lst [c]) D3 = some (.lst [c]) := upd_same
        change Ext H (upd (upd H2 D2 (.lst [a, c, b])) D3 (.lst [c])) at e3
        refine ⟨_, _, rfl, _, _, rfl, _, _, rfl, rfl, ?_⟩
        show tSeq _ _ _ _ (upd (upd H2 D2 (.lst [a, c, b])) D3 (.lst [c]))
        generalize upd (upd H2 D2 (.lst [a, c, b])) D3 (.lst [c]) = H3 at *
        have ha := ha.ext e3
        have hb := hb.ext e3
        have hc := hc.ext e3
        obtain ⟨hk1, hk2⟩ := o4 k hh
        refine ⟨_, rfl, ha.meth fun r dx er hr => ⟨rfl, _, rfl, a, b, _, _, rfl, ha, hb, _, rfl, ?_⟩⟩
        rw [decide_eq_true (show 2 * s.lo < 2 * s.hi by omega)]
        refine iteF ⟨_, rfl, D3, rfl, ⟨_, SqL.of hM⟩, fun D4 hD4 => lc_list (K := K) (a := D3) (xs := [c]) (fun i H' => H' = upd H3 D4 (.lst (List.replicate i (.bl false)))) rfl (fun i H' _ h => by rw [h]; exact SqL.of (ext1 hD4 _ _ hM)) ?_ ?_⟩
        · rintro i x H' hx rfl
          have ei : i = 0 := by
            have := (List.getElem?_eq_some_iff.mp hx).1
            simp at this
            exact this
          subst ei
          simp at hx
          subst hx
          have e4 := ext1 (o := .lst []) hD4
          refine ⟨rfl, ?_⟩
          unfold tYes
          refine iteT ⟨_, rfl, (hc.ext e4).meth fun r dx er hr => ⟨rfl, _, rfl, c, a, _, _, rfl, hc.ext e4, ha.ext e4, _, rfl, ?_⟩⟩
          rw [decide_eq_false (show ¬ 2 * k < 2 * s.lo by omega)]
          refine iteF ⟨_, rfl, (hb.ext e4).meth fun r dx er hr => ⟨rfl, _, rfl, b, c, _, _, rfl, hb.ext e4, hc.ext e4, [], upd_same, by decide, ?_⟩⟩
          rw [decide_eq_false (show ¬ 2 * s.hi < 2 * k by omega)]
          show upd (upd H3 D4 (.lst [])) D4 _ = _
          rw [upd_upd]
          rfl
        rintro H' rfl
        refine ⟨D4, [false], rfl, SqL.of upd_same, false, rfl, iteF ?_⟩
        show tNext _ _ (upd H3 D4 (.lst [.bl false]))
        have e4 := ext1 (o := .lst [.bl false]) hD4
        refine ⟨_, rfl, _, rfl, D3, [c], rfl, .inl (SqL.of (e4 _ _ hM)), _, _, rfl, rfl, _, rfl, iteT ⟨_, rfl, D3, _, _, _, rfl, rfl, SqL.of (e4 _ _ hM), atI_nat rfl, _, rfl, by show 3 ≤ sizeLine; decide, fun p hp => ?_⟩⟩
        have e5 := e4.trans (ext1 (o := .tup [a, c, b]) hp)
        refine q _ _ (e3.trans e5) ⟨ok, p, a, c, b, rfl, upd_same, ha.ext e5, ?_, hb.ext e5⟩
        rw [hh]
        exact hc.ext e5
end
end Bf
end

section
set_option Elab.async false
set_option linter.all false
set_option maxRecDepth 100000
/-! span_text, sorted names, need_spans -/
namespace Bf
open PySem PySem.Spec PyProof.Rows L2
/-! names, sorted -/
def lists4 : Nat → List (List Str)
  | 0 => [[]]
  | n + 1 => [] :: names4.flatMap fun x => (lists4 n).map (x :: ·)
theorem mem_lists4 : ∀ (n : Nat) (ys : List Str), (∀ y ∈ ys, y ∈ names4) → ys.length ≤ n → ys ∈ lists4 n
  | 0, [], _, _ => by simp [lists4]
  | 0, _ :: _, _, h => by simp at h
  | n + 1, [], _, _ => by simp [lists4]
  | n + 1, y :: ys, h, hl => by
    unfold lists4
    refine List.mem_cons_of_mem _ (List.mem_flatMap.mpr ⟨y, h y List.mem_cons_self, List.mem_map.mpr ⟨ys, mem_lists4 n ys (fun z hz => h z (List.mem_cons_of_mem _ hz)) (by simpa using hl), rfl⟩⟩)
theorem sorted4 : ∀ ys ∈ lists4 4, sortedS ys = true → ys.Nodup → ys = names4.filter fun n => decide (n ∈ ys) := by decide +kernel
theorem nodup4 {ys : List Str} (h : ∀ y ∈ ys, y ∈ names4) (nd : ys.Nodup) : ys.length ≤ 4 := by
  exact nd.length_le_of_subset h
/-- the sorted names of f -/
theorem sorted_nms {α : Type} {f : Str → Option α} (h4 : Four f) {ys : List Str} (hs : sortedS ys = true) (nd : ys.Nodup) (hm : ∀ n, n ∈ ys ↔ (f n).isSome = true) : ys = nms f := by
  have hsub : ∀ y ∈ ys, y ∈ names4 := fun y hy => by
    obtain ⟨s, e⟩ := Option.isSome_iff_exists.mp ((hm y).mp hy)
    exact h4 y s e
  rw [sorted4 ys (mem_lists4 4 ys hsub (nodup4 hsub nd)) hs nd]
  unfold nms
  refine List.filter_congr fun n _ => ?_
  by_cases h : n ∈ ys
  · rw [decide_eq_true h, (hm n).mp h]
  · rw [decide_eq_false h]
    cases e : (f n).isSome with
    | false => rfl
    | true => exact absurd ((hm n).mpr e) h
section
variable {P : Program} {w : World} {K : PySem.W.Frag} {mg : Str → Option Value} {base : Heap}
/-! span_text -/
def spanT (s : Spn) : Str := if s.lo = s.hi then numT (2 * s.lo) else match s.home with
  | none => Txt.join ".." [numT (2 * s.lo), numT (2 * s.hi)]
  | some h => Txt.join ".." [numT (2 * s.lo), numT (2 * h), numT (2 * s.hi)]
theorem spanT_len {s : Spn} (ok : s.Ok) : (spanT s).length ≤ 40 := by
  obtain ⟨o1, o2, o3, o4, o5⟩ := ok
  have z : ((".." : String) : Str).length = 2 := rfl
  have a := numT_len (k := 2 * s.lo) (by omega) (by omega)
  have b := numT_len (k := 2 * s.hi) (by omega) (by omega)
  unfold spanT
  split
  · omega
  · cases hh : s.home with
    | none =>
      have j := StrLaws.join_length_le ".." [numT (2 * s.lo), numT (2 * s.hi)]
      simp only [List.map_cons, List.map_nil, List.sum_cons, List.sum_nil, List.length_cons, List.length_nil, z] at j
      have e : (Txt.join ".." [numT (2 * s.lo), numT (2 * s.hi)]).length = (Str.join ".." [numT (2 * s.lo), numT (2 * s.hi)]).length := by
        show (Builtin.Str.glued _ _).length = _
        rw [StrLaws.glued_eq_join]
      show (Txt.join ".." [numT (2 * s.lo), numT (2 * s.hi)]).length ≤ 40
      omega
    | some h =>
      obtain ⟨h1, h2⟩ := o4 h hh
      have c := numT_len (k := 2 * h) (by omega) (by omega)
      have j := StrLaws.join_length_le ".." [numT (2 * s.lo), numT (2 * h), numT (2 * s.hi)]
      simp only [List.map_cons, List.map_nil, List.sum_cons, List.sum_nil, List.length_cons, List.length_nil, z] at j
      have e : (Txt.join ".." [numT (2 * s.lo), numT (2 * h), numT (2 * s.hi)]).length = (Str.join ".." [numT (2 * s.lo), numT (2 * h), numT (2 * s.hi)]).length := by
        show (Builtin.Str.glued _ _).length = _
        rw [StrLaws.glued_eq_join]
      show (Txt.join ".." [numT (2 * s.lo), numT (2 * h), numT (2 * s.hi)]).length ≤ 40
      omega
def spText (K : PySem.W.Frag) : Sp := fun vs H Q _ => ∃ v s, vs = [v] ∧ SpanAt K s v H ∧ ∀ H', Ext H H' → Q (.str (spanT s)) H'
theorem sc41 : FnScope ["span", "value", "part"] ["span"] (defScope (top 41)) := ⟨rfl, rfl, rfl, by decide +kernel, rfl, by decide +kernel, by decide +kernel⟩
theorem call_strRt {X : Cx} (T : Tx K mg) (hK : X.K = K) (hm : X.mg = mg) (hr : Room 3 X.A) : CallR X (.type "str") (rStrI (CRt K) (spRStr K) E0) := by
  subst hK hm
  exact call_strI (T.me "Ratio" "__str__").at_ (T.me "Ratio" "__str__").fn (r_rstr T) (hr.mono (by omega)) pass0
theorem NR.str {K : PySem.W.Frag} {k : Int} {u : V} {H : Hp} {Q : VK} (hu : NR K k u H) (q : Q (.str (numT k)) H) : rStrI (CRt K) (spRStr K) E0 [u] H Q := by
  obtain ⟨_, _, a, da, rfl, ha⟩ := id hu
  exact ⟨a, da, _, rfl, ha, _, k, rfl, hu, _, rfl, q⟩
theorem r_text (T : Tx K mg) : FnR P w K mg base CX0 4 (gA K "span_text") (spText K) := by
  obtain ⟨fd, F⟩ := T.fd "span_text" 41
  refine fnR_of F sc41 (fun _ _ _ _ _ _ us hl => match us, hl with | [_], _ => rfl) (fun vs H Q E h => ?_) (fun cdv A outer s H vs Q E hr h => ⟨_, PSs.nox (pss_cons
    (ps_set (i := 1) sc41.nd rfl (.inl rfl) (pe_callF (r_sval T) (hr.mono (by decide)) rfl (T.gl "span_value") (T.kp "span_value") pass0 (pa_cons (pv 0) pa_nil)))
    (pss_one (ps_ret (pe_ifExp (pt_val (pe_callB call_isi (by rfl) (T.no "isinstance") (by decide +kernel) (pa_cons (pv 1) (pa_cons (pe_bltn (v := .ty "tuple") (by rfl) (T.no "tuple") (by decide +kernel) rfl) pa_nil))))
      (pe_join pe_str (pe_lc (own := [("part", 2)]) (g := gName 2) (tt := tYes) rfl sc41.nd (pi_tup (pv 1)) (blkOk_by (N := ["span", "value", "part"]) (sc := defScope (top 41)) (by decide +kernel)) (fun _ _ _ _ _ => pg_name (i := 2) sc41.nd rfl (Or.inl rfl)) (fun _ _ _ _ _ => pts_nil)
        (fun _ _ _ _ _ => pe_callTy (call_strRt T rfl rfl (hr.mono (by decide))) (by rfl) (T.no "str") (by decide +kernel) (pa_cons (pv 2) pa_nil))))
      (pe_callTy (call_strRt T rfl rfl (hr.mono (by decide))) (by rfl) (T.no "str") (by decide +kernel) (pa_cons (pv 1) pa_nil)))))), ?_⟩)
  · obtain ⟨v, s, rfl, _⟩ := h
    rfl
  · obtain ⟨v, s, rfl, hv, q⟩ := h
    refine ⟨_, rfl, v, s, rfl, hv, fun z H1 e1 ht => ?_⟩
    obtain ⟨ok, ht⟩ := ht
    have hsl := spanT_len ok
    obtain ⟨o1, o2, o3, o4, o5⟩ := id ok
    rcases ht with ⟨e, hz⟩ | ht
    · refine ⟨_, rfl, _, _, _, _, false, rfl, .ty "tuple", hz.ty T, T.kt, false, rfl, iteF ⟨_, rfl, hz.str ?_⟩⟩
      have eq := q H1 e1
      unfold spanT at eq
      rw [if_pos e] at eq
      exact eq
    · obtain ⟨t, xs, ks, rfl, ht, hp, hl, hb, hT⟩ : ∃ (t : Addr) (xs : List V) (ks : List Int), z = .ref t ∧ H1 t = some (.tup xs) ∧ Paired (fun v k => NR K k v H1) xs ks ∧ xs.length ≤ 3 ∧ (∀ k ∈ ks, -100 ≤ k ∧ k ≤ 100) ∧ Txt.join ".." (ks.map numT) = spanT s := by
        rcases ht with ⟨a, b, t, v1, v3, c, d, f, g⟩ | ⟨a, k, b, t, v1, v2, v3, c, d, f, g, i⟩
        · refine ⟨t, [v1, v3], [2 * s.lo, 2 * s.hi], c, d, .cons f (.cons g .nil), by simp, fun k hk => ?_, ?_⟩
          · simp at hk; omega
          · unfold spanT
            rw [if_neg (by omega), b] <;> rfl
        · obtain ⟨h1, h2⟩ := o4 k b
          refine ⟨t, [v1, v2, v3], [2 * s.lo, 2 * k, 2 * s.hi], c, d, .cons f (.cons g (.cons i .nil)), by simp, fun k hk => ?_, ?_⟩
          · simp at hk; omega
          · unfold spanT
            rw [if_neg (by omega), b] <;> rfl
      refine ⟨_, rfl, _, _, _, _, true, rfl, .ty "tuple", .base (.tup ht), kit_ty (by decide +kernel), true, rfl, iteT ?_⟩
      have lk : xs.length = ks.length := Paired.length hp
      refine ⟨⟨_, rfl⟩, _, rfl, t, rfl, ⟨_, SqT.of ht⟩, fun D hD => lc_tup (K := K) (a := t) (xs := xs) (fun i H' => H' = upd H1 D (.lst ((ks.take i).map fun k => V.str (numT k)))) rfl ?_ ?_ ?_⟩
      · rintro i H' _ rfl
        exact SqT.of (ext1 hD _ _ ht)
      · rintro i x H' hx rfl
        obtain ⟨k, hk, hn⟩ := paired_get hp hx
        refine ⟨rfl, ?_⟩
        unfold tYes
        refine iteT ⟨_, rfl, (hn.ext (ext1 hD)).str ⟨_, upd_same, ?_, ?_⟩⟩
        · rw [List.length_map, List.length_take]
          have : 100 ≤ sizeLine := by decide
          omega
        · rw [upd_upd]
          congr 2
          rw [List.take_add_one, hk] <;> simp
      rintro H' rfl
      rw [lk, List.take_length]
      refine ⟨_, D, ks.map numT, rfl, rfl, .inl (SqL.of (by rw [List.map_map]; exact upd_same)), ?_, ?_⟩
      · have hs : ∀ ks : List Int, (∀ k ∈ ks, -100 ≤ k ∧ k ≤ 100) → ((ks.map numT).map (·.length)).sum ≤ 9 * ks.length := by
          intro ks
          induction ks with
          | nil => intro _; simp
          | cons k ks ih =>
            intro h
            obtain ⟨h1, h2⟩ := h k List.mem_cons_self
            have a := numT_len h1 h2
            have b := ih fun k hk => h k (List.mem_cons_of_mem _ hk)
            simp only [List.map_cons, List.sum_cons, List.length_cons]
            omega
        have a := hs ks hb
        have z : ((".." : String) : Str).length = 2 := rfl
        rw [List.length_map, z]
        omega
      · rw [hT]
        exact q _ (e1.trans (ext1 hD))
end
end Bf
end

section
set_option Elab.async false
set_option linter.all false
set_option maxRecDepth 100000
/-! need_spans, need_places -/
namespace Bf
open PySem PySem.Spec PyProof.Rows L2
section
variable {P : Program} {w : World} {K : PySem.W.Frag} {mg : Str → Option Value} {base : Heap}
/-- all but the object at D stands -/
def ExtB (D : Addr) (H H' : Hp) : Prop := ∀ b o, b ≠ D → H b = some o → H' b = some o
/-- behind a lock: what stood stands -/
theorem ext_unlock {H H' : Hp} {d : Addr} {u : HO} {od : Obj} (hd : H d = some u) (e : ∀ b o, upd H d (.frz od u) b = some o → H' b = some o) : Ext H (upd H' d u) := fun b o hb => by
  by_cases c : b = d
  · subst c
    rw [upd_same, ← hb, hd]
  · rw [upd_ne c]
    exact e b o (by rw [upd_ne c]; exact hb)
def spNeedS (K : PySem.W.Frag) : Sp := fun vs H Q _ => ∃ (d : Addr) (kvs : List (Key × V)) (ns : List Str) (f : Str → Option Spn), vs = [.ref d] ∧ H d = some (.dK kvs) ∧ DictF (Told K) f ns kvs H ∧ (∀ n ∈ ns, n ∈ names4) ∧ ns.length ≤ 10 ∧ ∀ H', Ext H H' → Q .non H'
theorem sc37 : FnScope ["spans", "name"] ["spans"] (defScope (top 37)) := ⟨rfl, rfl, rfl, by decide +kernel, rfl, by decide +kernel, by decide +kernel⟩
theorem r_needS (T : Tx K mg) : FnR P w K mg base CX0 4 (gA K "need_spans") (spNeedS K) := by
  obtain ⟨fd, F⟩ := T.fd "need_spans" 37
  refine fnR_of F sc37 (fun _ _ _ _ _ _ us hl => match us, hl with | [_], _ => rfl) (fun vs H Q E h => ?_) (fun cdv A outer s H vs Q E hr h => ⟨_, PSs.nox (pss_cons
    (ps_if (PW.pt (pw_or (pt_not (pt_val (pe_callB call_isi (by rfl) (T.no "isinstance") (by decide +kernel) (pa_cons (pv 0) (pa_cons (pe_bltn (v := .ty "dict") (by rfl) (T.no "dict") (by decide +kernel) rfl) pa_nil)))))
      (pw_or1 (pt_not (pt_val (pe_callB (cr_all rfl) (by rfl) (T.no "all") (by decide +kernel) (pa_cons
          (pe_lock (pe_lc (own := [("name", 1)]) (g := gName 1) (tt := tYes) rfl sc37.nd (pi_keys (pv 0)) (blkOk_by (N := ["spans", "name"]) (sc := defScope (top 37)) (by decide +kernel)) (fun _ _ _ _ _ => pg_name (i := 1) sc37.nd rfl (Or.inl rfl)) (fun _ _ _ _ _ => pts_nil)
            (fun _ _ _ _ _ => pe_callF (r_axis T) (hr.mono (by decide)) rfl (T.gl "is_axis_name") (T.kp "is_axis_name") pass0 (pa_cons (pv 1) pa_nil)))) pa_nil))))))) pss_never pss_nil)
    (pss_one (ps_for PassesOwn.never rfl (pi_list (pe_callB (call_sortedD rfl) (by rfl) (T.no "sorted") (by decide +kernel) (pa_cons (pv 0) pa_nil))) (pg_name (i := 1) sc37.nd rfl (Or.inl rfl))
      (pss_one (ps_if (pt_cmpR op_isN (pe_callF (r_sof T) hr rfl (T.gl "span_of") (T.kp "span_of") pass0 (pa_cons (pe_dget (hu_of hr) (pv 0) (pv 1) (fun _ _ => rfl)) pa_nil)) pe_non (nomark _)) pss_never pss_nil))))), ?_⟩)
  · obtain ⟨d, kvs, ns, f, rfl, _⟩ := h
    rfl
  · obtain ⟨d, kvs, ns, f, rfl, hd, hf, h4, hl, q⟩ := h
    have hz : 100 ≤ sizeLine := by decide
    have lk := hf.len
    refine ⟨_, rfl, _, _, _, _, true, rfl, .ty "dict", .base (.dK hd), kit_ty (by decide +kernel), true, rfl, iteF ?_⟩
    refine ⟨d, _, hd, by simp [Mut], fun od => ⟨_, rfl, d, od, rfl, .inl ⟨kvs, upd_same, fun D hD => lc_gen (n := kvs.length) (fun i H' => ∃ acc, H' D = some (.lst (acc.map V.bl)) ∧ acc.length = i ∧ acc.all id = true ∧ ExtB D (upd H d (.frz od (.dK kvs))) H') ⟨[], upd_same, rfl, rfl, fun b o hb h => by rw [upd_ne hb]; exact h⟩ ?_ ?_ ?_ ?_⟩⟩⟩
    · rintro i H' hi ⟨acc, _, _, _, e⟩
      refine ⟨e d _ (fun z => ?_) upd_same, hi⟩
      rw [← z, upd_same] at hD
      cases hD
    · rintro H' ⟨acc, _, _, _, e⟩
      refine ⟨e d _ (fun z => ?_) upd_same, Nat.le_refl _⟩
      rw [← z, upd_same] at hD
      cases hD
    · rintro i x H' H2 hi ⟨acc, hA, hal, ha, e⟩ ⟨rfl, k, v, hk, rfl⟩
      obtain ⟨n, s, hn, rfl, hs, _⟩ := hf.ix hk
      refine ⟨rfl, ?_⟩
      unfold tYes
      refine iteT ⟨_, rfl, n, rfl, h4 n (List.mem_of_getElem? hn), fun H3 e3 => ⟨acc.map V.bl, e3 _ _ hA, by rw [List.length_map]; omega, acc ++ [true], ?_, by simp [hal], by simp [ha], fun b o hb hh => ?_⟩⟩
      · rw [upd_same]; simp
      · rw [upd_ne hb]
        exact e3 _ _ (e b o hb hh)
    · rintro H' ⟨acc, hA, hal, ha, e⟩
      have hdD : d ≠ D := fun z => by
        rw [← z, upd_same] at hD
        cases hD
      refine ⟨e d _ hdD upd_same, D, acc, rfl, SqL.of (by rw [upd_ne (Ne.symm hdD)]; exact hA), true, by rw [ha], iteF ?_⟩
      have e1 : Ext H (upd H' d (.dK kvs)) := ext_unlock hd fun b o hb => e b o (fun z => by rw [z, hD] at hb; cases hb) hb
      have hd1 := e1 _ _ hd
      have hf1 := hf.ext monoT e1
      generalize upd H' d (.dK kvs) = H1 at *
      refine ⟨_, rfl, d, kvs, ns, rfl, .inl hd1, hf.ks, by omega, fun ys p hp hs hpn => ?_⟩
      have e2 := e1.trans (ext1 (o := .lst (ys.map V.str)) hpn)
      have hf2 := hf1.ext monoT (ext1 (o := .lst (ys.map V.str)) hpn)
      refine ⟨p, rfl, ⟨_, SqL.of upd_same⟩, for_list (K := K) (a := p) (xs := ys.map V.str) (fun i σ' H' => Ext (upd H1 p (.lst (ys.map V.str))) H' ∧ ∃ z, σ' = [some (.ref d), z]) ⟨Ext.rfl', none, rfl⟩ (fun i σ' H' _ h => SqL.of (h.1 _ _ upd_same)) ?_ ?_⟩
      · rintro i x σ' H3 hx ⟨e3, z, rfl⟩
        rw [List.getElem?_map] at hx
        obtain ⟨n, hn, rfl⟩ := Option.map_eq_some_iff.mp hx
        have hnn : n ∈ ns := hp.mem_iff.mp (List.mem_of_getElem? hn)
        obtain ⟨v, sp, hv, hfs, hT⟩ := (hf2.ext monoT e3).get1 hnn
        refine ⟨_, rfl, _, rfl, d, v, rfl, .inl ⟨kvs, Sum.inr n, .inl (e3 _ _ (ext1 hpn _ _ hd1)), rfl, hv.symm⟩, v, sp, rfl, hT, fun y H4 e4 hy => ⟨rfl, _, rfl, ?_⟩⟩
        have en : decide (y = V.non) = false := by
          obtain ⟨_, t, _, _, _, rfl, _⟩ := hy
          exact decide_eq_false (fun z => nomatch z)
        rw [en]
        exact iteF ⟨e3.trans e4, _, rfl⟩
      · rintro σ' H3 ⟨e3, z, rfl⟩
        exact q _ (e2.trans e3)
def spNeedP (K : PySem.W.Frag) : Sp := fun vs H Q _ => ∃ (d : Addr) (kvs : List (Key × V)) (ns : List Str) (f : Str → Option Int), vs = [.ref d] ∧ H d = some (.dK kvs) ∧ DictF (NR K) f ns kvs H ∧ (∀ n ∈ ns, n ∈ names4) ∧ ns.length ≤ 10 ∧ ∀ H', Ext H H' → Q .non H'
theorem sc44 : FnScope ["places", "name"] ["places"] (defScope (top 44)) := ⟨rfl, rfl, rfl, by decide +kernel, rfl, by decide +kernel, by decide +kernel⟩
theorem r_needP (T : Tx K mg) : FnR P w K mg base CX0 3 (gA K "need_places") (spNeedP K) := by
  obtain ⟨fd, F⟩ := T.fd "need_places" 44
  refine fnR_of F sc44 (fun _ _ _ _ _ _ us hl => match us, hl with | [_], _ => rfl) (fun vs H Q E h => ?_) (fun cdv A outer s H vs Q E hr h => ⟨_, PSs.nox (pss_cons
    (ps_if (PW.pt (pw_or (pt_not (pt_val (pe_callB call_isi (by rfl) (T.no "isinstance") (by decide +kernel) (pa_cons (pv 0) (pa_cons (pe_bltn (v := .ty "dict") (by rfl) (T.no "dict") (by decide +kernel) rfl) pa_nil)))))
      (pw_or1 (pt_not (pt_val (pe_callB (cr_all rfl) (by rfl) (T.no "all") (by decide +kernel) (pa_cons
          (pe_lock (pe_lc (own := [("name", 1)]) (g := gName 1) (tt := tYes) rfl sc44.nd (pi_keys (pv 0)) (blkOk_by (N := ["places", "name"]) (sc := defScope (top 44)) (by decide +kernel)) (fun _ _ _ _ _ => pg_name (i := 1) sc44.nd rfl (Or.inl rfl)) (fun _ _ _ _ _ => pts_nil)
            (fun _ _ _ _ _ => pe_callF (r_axis T) (hr.mono (by decide)) rfl (T.gl "is_axis_name") (T.kp "is_axis_name") pass0 (pa_cons (pv 1) pa_nil)))) pa_nil))))))) pss_never pss_nil)
    (pss_one (ps_for PassesOwn.never rfl (pi_list (pe_callB (call_sortedD rfl) (by rfl) (T.no "sorted") (by decide +kernel) (pa_cons (pv 0) pa_nil))) (pg_name (i := 1) sc44.nd rfl (Or.inl rfl))
      (pss_one (ps_if (pt_not (pt_val (pe_callF (r_isnum T) hr rfl (T.gl "is_number") (T.kp "is_number") pass0 (pa_cons (pe_dget (hu_of hr) (pv 0) (pv 1) (fun _ _ => rfl)) pa_nil)))) pss_never pss_nil))))), ?_⟩)
  · obtain ⟨d, kvs, ns, f, rfl, _⟩ := h
    rfl
  · obtain ⟨d, kvs, ns, f, rfl, hd, hf, h4, hl, q⟩ := h
    have hz : 100 ≤ sizeLine := by decide
    have lk := hf.len
    refine ⟨_, rfl, _, _, _, _, true, rfl, .ty "dict", .base (.dK hd), kit_ty (by decide +kernel), true, rfl, iteF ?_⟩
    refine ⟨d, _, hd, by simp [Mut], fun od => ⟨_, rfl, d, od, rfl, .inl ⟨kvs, upd_same, fun D hD => lc_gen (n := kvs.length) (fun i H' => ∃ acc, H' D = some (.lst (acc.map V.bl)) ∧ acc.length = i ∧ acc.all id = true ∧ ExtB D (upd H d (.frz od (.dK kvs))) H') ⟨[], upd_same, rfl, rfl, fun b o hb h => by rw [upd_ne hb]; exact h⟩ ?_ ?_ ?_ ?_⟩⟩⟩
    · rintro i H' hi ⟨acc, _, _, _, e⟩
      refine ⟨e d _ (fun z => ?_) upd_same, hi⟩
      rw [← z, upd_same] at hD
      cases hD
    · rintro H' ⟨acc, _, _, _, e⟩
      refine ⟨e d _ (fun z => ?_) upd_same, Nat.le_refl _⟩
      rw [← z, upd_same] at hD
      cases hD
    · rintro i x H' H2 hi ⟨acc, hA, hal, ha, e⟩ ⟨rfl, k, v, hk, rfl⟩
      obtain ⟨n, s, hn, rfl, hs, _⟩ := hf.ix hk
      refine ⟨rfl, ?_⟩
      unfold tYes
      refine iteT ⟨_, rfl, n, rfl, h4 n (List.mem_of_getElem? hn), fun H3 e3 => ⟨acc.map V.bl, e3 _ _ hA, by rw [List.length_map]; omega, acc ++ [true], ?_, by simp [hal], by simp [ha], fun b o hb hh => ?_⟩⟩
      · rw [upd_same]; simp
      · rw [upd_ne hb]
        exact e3 _ _ (e b o hb hh)
    · rintro H' ⟨acc, hA, hal, ha, e⟩
      have hdD : d ≠ D := fun z => by
        rw [← z, upd_same] at hD
        cases hD
      refine ⟨e d _ hdD upd_same, D, acc, rfl, SqL.of (by rw [upd_ne (Ne.symm hdD)]; exact hA), true, by rw [ha], iteF ?_⟩
      have e1 : Ext H (upd H' d (.dK kvs)) := ext_unlock hd fun b o hb => e b o (fun z => by rw [z, hD] at hb; cases hb) hb
      have hd1 := e1 _ _ hd
      have hf1 := hf.ext monoN e1
      generalize upd H' d (.dK kvs) = H1 at *
      refine ⟨_, rfl, d, kvs, ns, rfl, .inl hd1, hf.ks, by omega, fun ys p hp hs hpn => ?_⟩
      have e2 := e1.trans (ext1 (o := .lst (ys.map V.str)) hpn)
      have hf2 := hf1.ext monoN (ext1 (o := .lst (ys.map V.str)) hpn)
      refine ⟨p, rfl, ⟨_, SqL.of upd_same⟩, for_list (K := K) (a := p) (xs := ys.map V.str) (fun i σ' H' => Ext (upd H1 p (.lst (ys.map V.str))) H' ∧ ∃ z, σ' = [some (.ref d), z]) ⟨Ext.rfl', none, rfl⟩ (fun i σ' H' _ h => SqL.of (h.1 _ _ upd_same)) ?_ ?_⟩
      · rintro i x σ' H3 hx ⟨e3, z, rfl⟩
        rw [List.getElem?_map] at hx
        obtain ⟨n, hn, rfl⟩ := Option.map_eq_some_iff.mp hx
        have hnn : n ∈ ns := hp.mem_iff.mp (List.mem_of_getElem? hn)
        obtain ⟨v, sp, hv, hfs, hT⟩ := (hf2.ext monoN e3).get1 hnn
        exact ⟨_, rfl, _, rfl, d, v, rfl, .inl ⟨kvs, Sum.inr n, .inl (e3 _ _ (ext1 hpn _ _ hd1)), rfl, hv.symm⟩, v, rfl, .inl ⟨sp, hT, true, rfl, iteF ⟨e3, _, rfl⟩⟩⟩
      · rintro σ' H3 ⟨e3, z, rfl⟩
        exact q _ (e2.trans e3)
end
end Bf
end

section
set_option Elab.async false
set_option linter.all false
set_option maxRecDepth 100000
/-! Named's defs -/
namespace Bf
open PySem PySem.Spec PyProof.Rows L2
section
variable {P : Program} {w : World} {K : PySem.W.Frag} {mg : Str → Option Value} {base : Heap}
/-- Named.__init__: the new instance holds the dict's entries, by sorted names -/
def spNInit (K : PySem.W.Frag) {α : Type} (At : AtP α) (C : Addr) : Sp := fun vs H Q _ => ∃ (x dx d : Addr) (kvs : List (Key × V)) (ns : List Str) (f : Str → Option α), vs = [.ref x, .ref d] ∧ Cls K C ∧ NoAttr K C "held" ∧ H x = some (.ins C dx []) ∧ H d = some (.dK kvs) ∧ DictF At f ns kvs H ∧ Four f ∧ ns.Nodup ∧ (∀ n, n ∈ ns ↔ (f n).isSome = true) ∧
  ∀ H' hd kvs', ExtB x H H' → H' x = some (.ins C dx [("held", .ref hd)]) → H' hd = some (.dK kvs') → DictF At f (nms f) kvs' H' → Q .non H'
theorem sc10_0 : FnScope ["self", "held", "name"] ["self", "held"] (defScope (mth 10 0)) := ⟨rfl, rfl, rfl, by decide +kernel, rfl, by decide +kernel, by decide +kernel⟩
theorem r_ninit {α : Type} {At : AtP α} (hM : At.Mono) (hI : ∀ (s : α) (v : V) (H H' : Hp) (x : Addr), At s v H → (∃ C dx, H x = some (.ins C dx [])) → ExtB x H H' → At s v H') {C : Addr} (T : Tx K mg) : FnR P w K mg base CX0 1 (mA K "Named" "__init__") (spNInit K At C) := by
  obtain ⟨fd, F⟩ := T.mf "Named" "__init__" "Named.__init__" 10 0
  refine fnR_of F sc10_0 (fun _ _ _ _ _ _ us hl => match us, hl with | [_, _], _ => rfl) (fun vs H Q E h => ?_) (fun cdv A outer s H vs Q E hr h => ⟨_, PSs.nox (pss_one
    (ps_fld (pv 0) (pe_dc (own := [("name", 2)]) (g := gName 2) (tt := tYes) rfl sc10_0.nd (pi_list (pe_callB (call_sortedD rfl) (by rfl) (T.no "sorted") (by decide +kernel) (pa_cons (pv 1) pa_nil))) (blkOk_by (N := ["self", "held", "name"]) (sc := defScope (mth 10 0)) (by decide +kernel)) (fun _ _ _ _ _ => pg_name (i := 2) sc10_0.nd rfl (Or.inl rfl)) (fun _ _ _ _ _ => pts_nil)
      (fun _ _ _ _ _ => pv 2) (fun _ _ _ _ _ => pe_dget (hu_of hr) (pv 1) (pv 2) (fun _ _ => rfl))) rfl)), ?_⟩)
  · obtain ⟨x, dx, d, kvs, ns, f, rfl, _⟩ := h
    rfl
  · obtain ⟨x, dx, d, kvs, ns, f, rfl, cl, na, hx, hd, hf, h4, nd, hm, q⟩ := h
    have hz : 100 ≤ sizeLine := by decide
    have hsub : ∀ n ∈ ns, n ∈ names4 := fun n hn => by
      obtain ⟨s, e⟩ := Option.isSome_iff_exists.mp ((hm n).mp hn)
      exact h4 n s e
    have l4 := nodup4 hsub nd
    have lk := hf.len
    refine ⟨_, rfl, d, kvs, ns, rfl, .inl hd, hf.ks, by omega, fun ys p hp hs hpn => ?_⟩
    have ey : ys = nms f := sorted_nms h4 hs (hp.nodup_iff.mpr nd) fun n => by rw [hp.mem_iff]; exact hm n
    subst ey
    have e1 := ext1 (o := .lst ((nms f).map V.str)) hpn
    have hd1 := e1 _ _ hd
    have hx1 := e1 _ _ hx
    have hf1 := hf.ext hM e1
    have hl1 : SqL K (upd H p (.lst ((nms f).map V.str))) p ((nms f).map V.str) := SqL.of upd_same
    generalize upd H p (.lst ((nms f).map V.str)) = H1 at *
    refine ⟨p, rfl, ⟨_, hl1⟩, fun D hD => dc_list (K := K) (a := p) (xs := (nms f).map V.str) (fun i H' => ∃ kvs', H' = upd H1 D (.dK kvs') ∧ DictF At f ((nms f).take i) kvs' H1) ⟨[], rfl, .nil⟩ ?_ ?_ ?_⟩
    · rintro i H' _ ⟨kvs', rfl, _⟩
      exact hl1.ext (ext1 hD)
    · rintro i v H' hv ⟨kvs', rfl, hk⟩
      rw [List.getElem?_map] at hv
      obtain ⟨n, hn, rfl⟩ := Option.map_eq_some_iff.mp hv
      have hnn : n ∈ ns := (hm n).mpr ((mem_nms h4 n).mp (List.mem_of_getElem? hn))
      obtain ⟨u, sp, hu, hfs, hT⟩ := hf1.get1 hnn
      refine ⟨rfl, ?_⟩
      unfold tYes
      refine iteT ⟨_, rfl, _, rfl, _, rfl, d, u, rfl, .inl ⟨kvs, Sum.inr n, .inl (ext1 hD _ _ hd1), rfl, hu.symm⟩, kvs', Sum.inr n, rfl, upd_same, ?_, putK kvs' (Sum.inr n) u, by rw [upd_upd], ?_⟩
      · rw [hk.len, List.length_take]
        have := len_nms f
        omega
      · rw [List.take_add_one, hn]
        refine hk.push (s := sp) ?_ hT (fun m _ => rfl) hfs
        intro hmem
        obtain ⟨j, hj⟩ := List.mem_iff_getElem?.mp hmem
        rw [List.getElem?_take] at hj
        split at hj
        · rename_i hji
          have nd2 := nodup_nms f
          have hjl := (List.getElem?_eq_some_iff.mp hj).1
          have := (List.getElem?_inj hjl nd2).mp (hj.trans hn.symm)
          omega
        · cases hj
    rintro H' ⟨kvs', rfl, hk⟩
    rw [List.length_map, List.take_length] at hk
    have hxD : x ≠ D := fun z => by rw [← z, hx1] at hD; cases hD
    refine ⟨_, rfl, x, C, dx, [], rfl, by rw [upd_ne hxD]; exact hx1, cl, na, by decide, ?_⟩
    have eB : ExtB x (upd H1 D (.dK kvs')) (upd (upd H1 D (.dK kvs')) x (.ins C dx (putF "held" (.ref D) []))) := fun b o hb hh => by rw [upd_ne hb]; exact hh
    refine q _ D kvs' (fun b o hb hh => eB b o hb (ext1 hD _ _ (e1 _ _ hh))) upd_same (by rw [upd_ne (Ne.symm hxD)]; exact upd_same) ?_
    refine hk.imp fun n hn s v hs hv => ⟨s, hs, hI s v _ _ x (hM _ _ _ _ hv (ext1 hD)) ⟨C, dx, by rw [upd_ne hxD]; exact hx1⟩ eB⟩

/-! n in x, x[n], x.names -/
def HoldsD (K : PySem.W.Frag) (C a : Addr) (kvs : List (Key × V)) (H : Hp) : Prop := ∃ dx hd, H a = some (.ins C dx [("held", .ref hd)]) ∧ Rd H hd (.dK kvs)
def spCont (K : PySem.W.Frag) (C : Addr) : Sp := fun vs H Q _ => ∃ a n kvs, vs = [.ref a, .str n] ∧ HoldsD K C a kvs H ∧ Q (.bl (valV kvs (Sum.inr n)).isSome) H
theorem sc10_3 : FnScope ["self", "name"] ["self", "name"] (defScope (mth 10 3)) := ⟨rfl, rfl, rfl, by decide +kernel, rfl, by decide +kernel, by decide +kernel⟩
theorem r_cont (T : Tx K mg) (x : Str) (hx : x ∈ nClNames) (hx2 : x ∈ clNames) (hx3 : (x, ("held" : Str)) ∈ naNames) : FnR P w K mg base CX0 1 (mA K "Named" "__contains__") (spCont K (gA K x)) := by
  obtain ⟨fd, F⟩ := T.mf "Named" "__contains__" "Named.__contains__" 10 3
  refine fnR_of F sc10_3 (fun _ _ _ _ _ _ us hl => match us, hl with | [_, _], _ => rfl) (fun vs H Q E h => ?_) (fun cdv A outer s H vs Q E hr h => ⟨_, PSs.nox (pss_one
    (ps_ret (pe_and (pe_callB call_isi (by rfl) (T.no "isinstance") (by decide +kernel) (pa_cons (pv 1) (pa_cons (pe_bltn (v := .ty "str") (by rfl) (T.no "str") (by decide +kernel) rfl) pa_nil))) (pe_one (pe_cmp (pc_din (hu_of hr) (pv 1) (pe_fld (pv 0) rfl)) rfl))))), ?_⟩)
  · obtain ⟨a, n, kvs, rfl, _⟩ := h
    rfl
  · obtain ⟨a, n, kvs, rfl, ⟨dx, hd, ha, hr⟩, q⟩ := h
    exact ⟨_, rfl, _, _, _, _, true, rfl, .ty "str", .base (.str n), kit_ty (by decide +kernel), true, rfl, iteT ⟨_, rfl, _, rfl, a, _, dx, _, _, rfl, ha, (T.ci x hx2).cl, T.nf x "held" hx3, rfl, hd, _, rfl, .inl ⟨kvs, Sum.inr n, hr, rfl, rfl⟩, q⟩⟩
def spGet (K : PySem.W.Frag) (C : Addr) : Sp := fun vs H Q _ => ∃ a n kvs v, vs = [.ref a, .str n] ∧ HoldsD K C a kvs H ∧ valV kvs (Sum.inr n) = some v ∧ Q v H
theorem sc10_5 : FnScope ["self", "name"] ["self", "name"] (defScope (mth 10 5)) := ⟨rfl, rfl, rfl, by decide +kernel, rfl, by decide +kernel, by decide +kernel⟩
theorem op_ninN (T : Tx K mg) (x : Str) (hx : x ∈ nClNames) (hx2 : x ∈ clNames) (hx3 : (x, ("held" : Str)) ∈ naNames) {X : Cx} (hK : X.K = K) (hm : X.mg = mg) (hr : Room 1 X.A) : OpR X (compareOp .NotIn) (rInI (gA K x) (spCont K (gA K x)) E0 fun k => !k) := by
  subst hK hm
  exact op_notInI (T.nc x hx).1 (T.nc x hx).2 (r_cont T x hx hx2 hx3) hr pass0
theorem op_inN (T : Tx K mg) (x : Str) (hx : x ∈ nClNames) (hx2 : x ∈ clNames) (hx3 : (x, ("held" : Str)) ∈ naNames) {X : Cx} (hK : X.K = K) (hm : X.mg = mg) (hr : Room 1 X.A) : OpR X (compareOp .In) (rInI (gA K x) (spCont K (gA K x)) E0 fun k => k) := by
  subst hK hm
  exact op_inI (T.nc x hx).1 (T.nc x hx).2 (r_cont T x hx hx2 hx3) hr pass0
theorem r_get (T : Tx K mg) (x : Str) (hx : x ∈ nClNames) (hx2 : x ∈ clNames) (hx3 : (x, ("held" : Str)) ∈ naNames) : FnR P w K mg base CX0 2 (mA K "Named" "__getitem__") (spGet K (gA K x)) := by
  obtain ⟨fd, F⟩ := T.mf "Named" "__getitem__" "Named.__getitem__" 10 5
  refine fnR_of F sc10_5 (fun _ _ _ _ _ _ us hl => match us, hl with | [_, _], _ => rfl) (fun vs H Q E h => ?_) (fun cdv A outer s H vs Q E hr h => ⟨_, PSs.nox (pss_cons
    (ps_if (pt_cmpR (op_ninN T x hx hx2 hx3 rfl rfl hr) (pv 1) (pv 0) (by rfl)) pss_never pss_nil)
    (pss_one (ps_ret (pe_dget (hu_of hr) (pe_fld (pv 0) rfl) (pv 1) (fun _ _ => rfl))))), ?_⟩)
  · obtain ⟨a, n, kvs, v, rfl, _⟩ := h
    rfl
  · obtain ⟨a, n, kvs, v, rfl, ⟨dx, hd, ha, hr⟩, hv, q⟩ := h
    refine ⟨_, rfl, _, rfl, a, dx, _, rfl, ha, a, n, kvs, rfl, ⟨dx, hd, ha, hr⟩, _, rfl, _, rfl, ?_⟩
    rw [hv]
    exact iteF ⟨_, rfl, a, _, dx, _, _, rfl, ha, (T.ci x hx2).cl, T.nf x "held" hx3, rfl, _, rfl, hd, v, rfl, .inl ⟨kvs, Sum.inr n, hr, rfl, hv.symm⟩, q⟩
theorem pe_getN (T : Tx K mg) (x : Str) (hx : x ∈ nClNames) (hx2 : x ∈ clNames) (hx3 : (x, ("held" : Str)) ∈ naNames) {X : Cx} {ea eb : Expr} {ta tb : TE} {pos : Pos} (hK : X.K = K) (hm : X.mg = mg) (hr : Room 3 X.A) (ha : PE X ea ta) (hb : PE X eb tb) (hsl : IxOwn eb) : PE X (.Subscript ea eb pos) (tOp (rGetI (gA K x) (spGet K (gA K x)) E0) ta tb) := by
  subst hK hm
  exact pe_getI (T.ng x hx).1 (T.ng x hx).2.1 (T.ng x hx).2.2 (r_get T x hx hx2 hx3) hr pass0 ha hb hsl
def spNames (K : PySem.W.Frag) : Sp := fun vs H Q _ => ∃ a kvs, vs = [.ref a] ∧ HoldsD K (CRm K) a kvs H ∧ ∀ p, H p = none → Q (.ref p) (upd H p (.tup (kvs.map fun kv => kV kv.1)))
theorem sc10_1 : FnScope ["self"] ["self"] (defScope (mth 10 1)) := ⟨rfl, rfl, rfl, by decide +kernel, rfl, by decide +kernel, by decide +kernel⟩
theorem r_names (T : Tx K mg) : ∃ p g fd, PropOf K (CRm K) "names" p g ∧ FnOk P w K mg base CX0 1 g fd ["self"] (spNames K) ∧ L2.Binds K fd ["self"] [] := by
  obtain ⟨p, g, fd, hp, F⟩ := T.np
  refine ⟨p, g, fd, hp, F.ok sc10_1 (fun vs H Q E h => ?_) (fun cdv A outer s H vs Q E hr h => ⟨_, PSs.nox (pss_one (ps_ret (pe_callTy (call_tupleD rfl) (by rfl) (T.no "tuple") (by decide +kernel) (pa_cons (pe_fld (pv 0) rfl) pa_nil)))), ?_⟩), F.bindsN fun _ _ _ _ _ _ us hl => match us, hl with | [_], _ => rfl⟩
  · obtain ⟨a, kvs, rfl, _⟩ := h
    rfl
  · obtain ⟨a, kvs, rfl, ⟨dx, hd, ha, hr⟩, q⟩ := h
    exact ⟨_, rfl, a, _, dx, _, _, rfl, ha, (T.ci "Room").cl, T.nf "Room" "held", rfl, hd, kvs, rfl, hr, q⟩
end
end Bf
end

section
set_option Elab.async false
set_option linter.all false
set_option maxRecDepth 100000
/-! Room.__init__, Setting.__init__, of -/
namespace Bf
open PySem PySem.Spec PyProof.Rows L2
/-- a def __init__(self, **nm) of a class above Named -/
structure KwDef (P : Program) (K : PySem.W.Frag) (C q : Str) (i : Nat) : Prop where
  ex : ∃ (oc : Value) (od : Option Addr) (doc pm : Value) (an : Option Addr) (cda cc : Addr) (ct : Value) (osl : Array (Option Value)),
    K.lookup (mA K C "__init__") = some ⟨oc, od, .func (PySem.W.fnX "__init__" q (defArgs (mth i 0)) (defBody (mth i 0)) (defScope (mth i 0)) [("__class__", cc)] .none .none doc pm an (.ref cda) ct), osl⟩ ∧
    PySem.W.codeIn K (.ref cda) q = true ∧ SupF P K (gA K C) (mA K C "__init__") cc cda (mA K "Named" "__init__")
  mkd : Mk K (gA K C) (mA K C "__init__")
structure TyP (P : Program) (K : PySem.W.Frag) : Prop where
  rm : KwDef P K "Room" "Room.__init__" 42
  st : KwDef P K "Setting" "Setting.__init__" 45
theorem look_mem {α : Type} {y : Str} {k : α} : ∀ {l : List (Str × α)}, l.lookup y = some k → (y, k) ∈ l
  | [], h => by cases h
  | (b, u) :: r, h => by
    have h2 : (match y == b with | true => some u | false => r.lookup y) = some k := h
    cases q : (y == b) with
    | true =>
      rw [q] at h2
      have e : u = k := Option.some.inj h2
      rw [beq_iff_eq.mp q, e]
      exact List.mem_cons_self
    | false =>
      rw [q] at h2
      exact List.mem_cons_of_mem _ (look_mem h2)
theorem ks42 (cc : Addr) : KScope (defScope (mth 42 0)) "spans" cc := by
  refine ⟨rfl, rfl, rfl, rfl, rfl, rfl, by decide +kernel, by decide +kernel, fun y h => ?_, fun y h => ?_, fun n => rfl, fun h => rfl⟩
  · have := look_mem h
    revert this
    have key : ∀ p ∈ (defScope (mth 42 0)).names, p.2 = .cell → p.1 = "spans" := by decide +kernel
    exact fun m => key _ m rfl
  · have := look_mem h
    have key : ∀ p ∈ (defScope (mth 42 0)).names, p.2 = .free → p.1 = "__class__" := by decide +kernel
    exact key _ this rfl
theorem ks45 (cc : Addr) : KScope (defScope (mth 45 0)) "places" cc := by
  refine ⟨rfl, rfl, rfl, rfl, rfl, rfl, by decide +kernel, by decide +kernel, fun y h => ?_, fun y h => ?_, fun n => rfl, fun h => rfl⟩
  · have := look_mem h
    have key : ∀ p ∈ (defScope (mth 45 0)).names, p.2 = .cell → p.1 = "places" := by decide +kernel
    exact key _ this rfl
  · have := look_mem h
    have key : ∀ p ∈ (defScope (mth 45 0)).names, p.2 = .free → p.1 = "__class__" := by decide +kernel
    exact key _ this rfl
section
variable {P : Program} {w : World} {K : PySem.W.Frag} {mg : Str → Option Value} {base : Heap}
/-- what Named.__init__ keeps: values that are no fresh instance -/
theorem atS_init : ∀ (s : Spn) (v : V) (H H' : Hp) (x : Addr), SpanAt K s v H → (∃ C dx, H x = some (.ins C dx [])) → ExtB x H H' → SpanAt K s v H' := by
  rintro s v H H' x ⟨ok, t, v1, v2, v3, rfl, ht, h1, h2, h3⟩ ⟨C, dx, hx⟩ e
  have hn : ∀ k v, NR K k v H → NR K k v H' := by
    rintro k v ⟨a, b, r, dr, rfl, hr⟩
    exact ⟨a, b, r, dr, rfl, e r _ (fun z => by rw [z, hx] at hr; cases hr) hr⟩
  refine ⟨ok, t, v1, v2, v3, rfl, e t _ (fun z => by rw [z, hx] at ht; cases ht) ht, hn _ _ h1, ?_, hn _ _ h3⟩
  cases hh : s.home with
  | none => rw [hh] at h2; exact h2
  | some k => rw [hh] at h2; exact hn _ _ h2
theorem atN_init : ∀ (s : Int) (v : V) (H H' : Hp) (x : Addr), NR K s v H → (∃ C dx, H x = some (.ins C dx [])) → ExtB x H H' → NR K s v H' := by
  rintro k v H H' x ⟨a, b, r, dr, rfl, hr⟩ ⟨C, dx, hx⟩ e
  exact ⟨a, b, r, dr, rfl, e r _ (fun z => by rw [z, hx] at hr; cases hr) hr⟩
/-- no instance, no tuple at d -/
def Plain (H : Hp) (d : Addr) : Prop := (∀ C dx fs, H d ≠ some (.ins C dx fs)) ∧ ∀ xs, H d ≠ some (.tup xs)
theorem plain_dK {H : Hp} {d : Addr} {kvs : List (Key × V)} (h : H d = some (.dK kvs)) : Plain H d := ⟨fun _ _ _ z => (by rw [h] at z; cases z), fun _ z => (by rw [h] at z; cases z)⟩
theorem plain_frz {H : Hp} {d : Addr} {o : Obj} {u : HO} (h : H d = some (.frz o u)) : Plain H d := ⟨fun _ _ _ z => (by rw [h] at z; cases z), fun _ z => (by rw [h] at z; cases z)⟩
theorem NR.off {k : Int} {v : V} {H H' : Hp} {d : Addr} (h : NR K k v H) (p : Plain H d) (e : ExtB d H H') : NR K k v H' := by
  obtain ⟨a, b, r, dr, rfl, hr⟩ := h
  exact ⟨a, b, r, dr, rfl, e r _ (fun z => p.1 _ _ _ (z ▸ hr)) hr⟩
theorem HomeAt.off {k : Option Int} {v : V} {H H' : Hp} {d : Addr} (h : HomeAt K k v H) (p : Plain H d) (e : ExtB d H H') : HomeAt K k v H' := by
  cases k with
  | none => exact h
  | some k => exact NR.off h p e
theorem SpanAt.off {s : Spn} {v : V} {H H' : Hp} {d : Addr} (h : SpanAt K s v H) (p : Plain H d) (e : ExtB d H H') : SpanAt K s v H' := by
  obtain ⟨ok, t, v1, v2, v3, rfl, ht, h1, h2, h3⟩ := h
  exact ⟨ok, t, v1, v2, v3, rfl, e t _ (fun z => p.2 _ (z ▸ ht)) ht, h1.off p e, h2.off p e, h3.off p e⟩
theorem Told.off {s : Spn} {v : V} {H H' : Hp} {d : Addr} (h : Told K s v H) (p : Plain H d) (e : ExtB d H H') : Told K s v H' := by
  obtain ⟨ok, ⟨a, b⟩ | ⟨a, b, t, v1, v3, c, ht, f, g⟩ | ⟨a, h, b, t, v1, v2, v3, c, ht, f, g, i⟩⟩ := h
  · exact ⟨ok, .inl ⟨a, b.off p e⟩⟩
  · exact ⟨ok, .inr (.inl ⟨a, b, t, v1, v3, c, e t _ (fun z => p.2 _ (z ▸ ht)) ht, f.off p e, g.off p e⟩)⟩
  · exact ⟨ok, .inr (.inr ⟨a, h, b, t, v1, v2, v3, c, e t _ (fun z => p.2 _ (z ▸ ht)) ht, f.off p e, g.off p e, i.off p e⟩)⟩
theorem DictF.off {α : Type} {At : AtP α} {f : Str → Option α} (hM : ∀ (s : α) (v : V) (H H' : Hp) (d : Addr), At s v H → Plain H d → ExtB d H H' → At s v H') {H H' : Hp} {d : Addr} (p : Plain H d) (e : ExtB d H H') {ns : List Str} {kvs : List (Key × V)} (h : DictF At f ns kvs H) : DictF At f ns kvs H' :=
  h.imp fun n _ s v hs hv => ⟨s, hs, hM _ _ _ _ _ hv p e⟩
theorem offS : ∀ (s : Spn) (v : V) (H H' : Hp) (d : Addr), SpanAt K s v H → Plain H d → ExtB d H H' → SpanAt K s v H' := fun _ _ _ _ _ h p e => h.off p e
theorem offT : ∀ (s : Spn) (v : V) (H H' : Hp) (d : Addr), Told K s v H → Plain H d → ExtB d H H' → Told K s v H' := fun _ _ _ _ _ h p e => h.off p e
theorem offN : ∀ (s : Int) (v : V) (H H' : Hp) (d : Addr), NR K s v H → Plain H d → ExtB d H H' → NR K s v H' := fun _ _ _ _ _ h p e => h.off p e
theorem take_new {ns : List Str} (nd : ns.Nodup) {i : Nat} {n : Str} (hn : ns[i]? = some n) : n ∉ ns.take i := by
  intro hmem
  obtain ⟨j, hj⟩ := List.mem_iff_getElem?.mp hmem
  rw [List.getElem?_take] at hj
  split at hj
  · rename_i hji
    have hjl := (List.getElem?_eq_some_iff.mp hj).1
    have := (List.getElem?_inj hjl nd).mp (hj.trans hn.symm)
    omega
  · cases hj
def spRmB (K : PySem.W.Frag) : V → Addr → Hp → VK → Prop := fun x d H Q => ∃ (a dx : Addr) (kvs : List (Key × V)) (ns : List Str) (f : Str → Option Spn), x = .ref a ∧ H a = some (.ins (CRm K) dx []) ∧ H d = some (.dK kvs) ∧ DictF (Told K) f ns kvs H ∧ Four f ∧ ns.Nodup ∧ (∀ n, n ∈ ns ↔ (f n).isSome = true) ∧
  ∀ H', ExtB a H H' → RoomAt K f (.ref a) H' → Q .non H'
abbrev spKwOf (spB : V → Addr → Hp → VK → Prop) : SpKw := fun x kw H Q _ => kw.length ≤ 1000 ∧ (kw.map (·.1)).Nodup ∧ (∀ p ∈ kw, p.1 ≠ "self") ∧ ∀ d, H d = none → spB x d (upd H d (.dK (keyd kw))) Q
theorem r_rminit (T : Tx K mg) (Y : TyP P K) : FnKw P w K mg base 5 (mA K "Room" "__init__") (spKwOf (spRmB K)) := by
  obtain ⟨oc, od, doc, pm, an, cda, cc, ct, osl, lk, hcd, S⟩ := Y.rm.ex
  refine fn_kw (spN := spNInit K (SpanAt K) (CRm K)) lk hcd (ks42 cc) S rfl (T.no "super") ((r_ninit monoS atS_init T).mono (by decide)) (spRmB K) (fun env => by rfl) (fun env => by rfl) (fun env => by rfl) ?_
  intro A outer s H x d Q hr h
  refine ⟨_, _, ps_expr (pe_callF (r_needS T) hr rfl (T.gl "need_spans") (T.kp "need_spans") pass0 (pa_cons (pv 1) pa_nil)),
    pe_lock (pe_dc (own := [("name", 2)]) (g := gName 2) (tt := tYes) rfl (show (["self", "spans", "name"] : List Str).Nodup by decide +kernel) (pi_keys (pv 1)) (blkOk_by (N := ["self", "spans", "name"]) (sc := defScope (mth 42 0)) (by decide +kernel)) (fun _ _ _ _ _ => pg_name (i := 2) (show (["self", "spans", "name"] : List Str).Nodup by decide +kernel) rfl (Or.inl rfl)) (fun _ _ _ _ _ => pts_nil)
      (fun _ _ _ _ _ => pv 2) (fun _ _ _ _ _ => pe_callF (r_sof T) (hr.mono (by decide)) rfl (T.gl "span_of") (T.kp "span_of") pass0 (pa_cons (pe_dget (hu_of hr) (pv 1) (pv 2) (fun _ _ => rfl)) pa_nil))), ?_⟩
  obtain ⟨a, dx, kvs, ns, f, rfl, ha, hd, hf, h4, nd, hm, q⟩ := h
  have hz : 100 ≤ sizeLine := by decide
  have hsub : ∀ n ∈ ns, n ∈ names4 := fun n hn => by
    obtain ⟨s, e⟩ := Option.isSome_iff_exists.mp ((hm n).mp hn)
    exact h4 n s e
  have l4 := nodup4 hsub nd
  have lk := hf.len
  refine ⟨_, rfl, d, kvs, ns, f, rfl, hd, hf, hsub, by omega, fun H1 e1 => ⟨a, dx, _, rfl, e1 _ _ ha, ?_⟩⟩
  have hd1 := e1 _ _ hd
  have ha1 := e1 _ _ ha
  have hf1 := hf.ext monoT e1
  refine ⟨d, _, hd1, by simp [Mut], fun od => ⟨_, rfl, d, od, rfl, .inl ⟨kvs, upd_same, fun D hD => dc_gen (n := kvs.length) (fun i H' => ∃ kvs', H' D = some (.dK kvs') ∧ DictF (SpanAt K) f (ns.take i) kvs' H' ∧ ExtB D (upd H1 d (.frz od (.dK kvs))) H') ⟨[], upd_same, .nil, fun b o hb h => by rw [upd_ne hb]; exact h⟩ ?_ ?_ ?_ ?_⟩⟩⟩
  all_goals have hdD : d ≠ D := fun z => by rw [← z, upd_same] at hD; cases hD
  · rintro i H' hi ⟨kvs', _, _, e⟩
    exact ⟨e d _ hdD upd_same, hi⟩
  · rintro H' ⟨kvs', _, _, e⟩
    exact ⟨e d _ hdD upd_same, Nat.le_refl _⟩
  · rintro i x H' H2 hi ⟨kvs', hK', hk, e⟩ ⟨rfl, k, v, hkv, rfl⟩
    obtain ⟨n, s0, hn, rfl, _, _⟩ := hf.ix hkv
    have eB : ExtB d H1 H2 := fun b o hb hh => e b o (fun z => by rw [z] at hh hb; rw [upd_ne (fun y => hb y)] at hD; rw [hD] at hh; cases hh) (by rw [upd_ne hb]; exact hh)
    obtain ⟨u, sp, hu, hfs, hT⟩ := (hf1.off offT (plain_dK hd1) eB).get1 (List.mem_of_getElem? hn)
    refine ⟨rfl, ?_⟩
    unfold tYes
    refine iteT ⟨_, rfl, _, rfl, _, rfl, d, u, rfl, .inl ⟨kvs, Sum.inr n, .inr ⟨od, e d _ hdD upd_same⟩, rfl, hu.symm⟩, u, sp, rfl, hT, fun z H3 e3 hz3 => ⟨kvs', Sum.inr n, rfl, e3 _ _ hK', ?_, putK kvs' (Sum.inr n) z, upd_same, ?_, ?_⟩⟩
    · rw [hk.len, List.length_take]; omega
    · have eD : ExtB D H3 (upd H3 D (.dK (putK kvs' (Sum.inr n) z))) := fun b o hb hh => by rw [upd_ne hb]; exact hh
      rw [List.take_add_one, hn]
      exact ((hk.ext monoS e3).push (take_new nd hn) hz3 (fun m _ => rfl) hfs).off offS (plain_dK (e3 _ _ hK')) eD
    · intro b o hb hh
      rw [upd_ne hb]
      exact e3 _ _ (e b o hb hh)
  · rintro H' ⟨kvs', hK', hk, e⟩
    rw [lk, List.take_length] at hk
    have hdl := e d _ hdD upd_same
    refine ⟨hdl, ?_⟩
    have e2 : Ext H1 (upd H' d (.dK kvs)) := ext_unlock hd1 fun b o hb => e b o (fun z => by rw [z, hD] at hb; cases hb) hb
    have hk2 := hk.off offS (plain_frz hdl) (H' := upd H' d (.dK kvs)) fun b o hb hh => by rw [upd_ne hb]; exact hh
    refine ⟨a, dx, D, kvs', ns, f, rfl, (T.ci "Room").cl, T.nf "Room" "held", e2 _ _ ha1, by rw [upd_ne (Ne.symm hdD)]; exact hK', hk2, h4, nd, hm, fun H3 hd3 kvs3 eB hx3 hh3 hf3 => ?_⟩
    exact q H3 (fun b o hb hh => eB b o hb (e2 _ _ (e1 _ _ hh))) ⟨h4, a, dx, hd3, kvs3, rfl, hx3, hh3, hf3⟩
def spStB (K : PySem.W.Frag) : V → Addr → Hp → VK → Prop := fun x d H Q => ∃ (a dx : Addr) (kvs : List (Key × V)) (ns : List Str) (f : Str → Option Int), x = .ref a ∧ H a = some (.ins (CSt K) dx []) ∧ H d = some (.dK kvs) ∧ DictF (NR K) f ns kvs H ∧ Four f ∧ ns.Nodup ∧ (∀ n, n ∈ ns ↔ (f n).isSome = true) ∧
  ∀ H', ExtB a H H' → SetAt K f (.ref a) H' → Q .non H'
theorem r_stinit (T : Tx K mg) (Y : TyP P K) : FnKw P w K mg base 4 (mA K "Setting" "__init__") (spKwOf (spStB K)) := by
  obtain ⟨oc, od, doc, pm, an, cda, cc, ct, osl, lk, hcd, S⟩ := Y.st.ex
  obtain ⟨pR, gR, cm, RO⟩ := r_rof (P := P) (w := w) (base := base) T
  refine fn_kw (spN := spNInit K (NR K) (CSt K)) lk hcd (ks45 cc) S rfl (T.no "super") ((r_ninit monoN atN_init T).mono (by decide)) (spStB K) (fun env => by rfl) (fun env => by rfl) (fun env => by rfl) ?_
  intro A outer s H x d Q hr h
  refine ⟨_, _, ps_expr (pe_callF (r_needP T) hr rfl (T.gl "need_places") (T.kp "need_places") pass0 (pa_cons (pv 1) pa_nil)),
    pe_lock (pe_dc (own := [("name", 2)]) (g := gName 2) (tt := tYes) rfl (show (["self", "places", "name"] : List Str).Nodup by decide +kernel) (pi_keys (pv 1)) (blkOk_by (N := ["self", "places", "name"]) (sc := defScope (mth 45 0)) (by decide +kernel)) (fun _ _ _ _ _ => pg_name (i := 2) (show (["self", "places", "name"] : List Str).Nodup by decide +kernel) rfl (Or.inl rfl)) (fun _ _ _ _ _ => pts_nil)
      (fun _ _ _ _ _ => pv 2) (fun _ _ _ _ _ => ClX.pe_cmeth (pe_glob (v := .ref (gA K "Ratio")) rfl (T.gl "Ratio") rfl) (T.rd "Ratio") cm RO (hr.mono (by decide)) pass0 (pa_cons (pe_dget (hu_of hr) (pv 1) (pv 2) (fun _ _ => rfl)) pa_nil))), ?_⟩
  obtain ⟨a, dx, kvs, ns, f, rfl, ha, hd, hf, h4, nd, hm, q⟩ := h
  have hz : 100 ≤ sizeLine := by decide
  have hsub : ∀ n ∈ ns, n ∈ names4 := fun n hn => by
    obtain ⟨s, e⟩ := Option.isSome_iff_exists.mp ((hm n).mp hn)
    exact h4 n s e
  have l4 := nodup4 hsub nd
  have lk := hf.len
  refine ⟨_, rfl, d, kvs, ns, f, rfl, hd, hf, hsub, by omega, fun H1 e1 => ⟨a, dx, _, rfl, e1 _ _ ha, ?_⟩⟩
  have hd1 := e1 _ _ hd
  have ha1 := e1 _ _ ha
  have hf1 := hf.ext monoN e1
  refine ⟨d, _, hd1, by simp [Mut], fun od => ⟨_, rfl, d, od, rfl, .inl ⟨kvs, upd_same, fun D hD => dc_gen (n := kvs.length) (fun i H' => ∃ kvs', H' D = some (.dK kvs') ∧ DictF (NR K) f (ns.take i) kvs' H' ∧ ExtB D (upd H1 d (.frz od (.dK kvs))) H') ⟨[], upd_same, .nil, fun b o hb h => by rw [upd_ne hb]; exact h⟩ ?_ ?_ ?_ ?_⟩⟩⟩
  all_goals have hdD : d ≠ D := fun z => by rw [← z, upd_same] at hD; cases hD
  · rintro i H' hi ⟨kvs', _, _, e⟩
    exact ⟨e d _ hdD upd_same, hi⟩
  · rintro H' ⟨kvs', _, _, e⟩
    exact ⟨e d _ hdD upd_same, Nat.le_refl _⟩
  · rintro i x H' H2 hi ⟨kvs', hK', hk, e⟩ ⟨rfl, k, v, hkv, rfl⟩
    obtain ⟨n, s0, hn, rfl, _, _⟩ := hf.ix hkv
    have eB : ExtB d H1 H2 := fun b o hb hh => e b o (fun z => by rw [z] at hh hb; rw [upd_ne (fun y => hb y)] at hD; rw [hD] at hh; cases hh) (by rw [upd_ne hb]; exact hh)
    obtain ⟨u, sp, hu, hfs, hT⟩ := (hf1.off offN (plain_dK hd1) eB).get1 (List.mem_of_getElem? hn)
    refine ⟨rfl, ?_⟩
    unfold tYes
    have e3 : Ext H2 H2 := Ext.rfl'
    have hz3 := hT
    refine iteT ⟨_, rfl, rfl, _, rfl, _, rfl, d, u, rfl, .inl ⟨kvs, Sum.inr n, .inr ⟨od, e d _ hdD upd_same⟩, rfl, hu.symm⟩, u, sp, rfl, hT, kvs', Sum.inr n, rfl, hK', ?_, putK kvs' (Sum.inr n) u, upd_same, ?_, ?_⟩
    · rw [hk.len, List.length_take]; omega
    · have eD : ExtB D H2 (upd H2 D (.dK (putK kvs' (Sum.inr n) u))) := fun b o hb hh => by rw [upd_ne hb]; exact hh
      rw [List.take_add_one, hn]
      exact ((hk.ext monoN e3).push (take_new nd hn) hz3 (fun m _ => rfl) hfs).off offN (plain_dK (e3 _ _ hK')) eD
    · intro b o hb hh
      rw [upd_ne hb]
      exact e3 _ _ (e b o hb hh)
  · rintro H' ⟨kvs', hK', hk, e⟩
    rw [lk, List.take_length] at hk
    have hdl := e d _ hdD upd_same
    refine ⟨hdl, ?_⟩
    have e2 : Ext H1 (upd H' d (.dK kvs)) := ext_unlock hd1 fun b o hb => e b o (fun z => by rw [z, hD] at hb; cases hb) hb
    have hk2 := hk.off offN (plain_frz hdl) (H' := upd H' d (.dK kvs)) fun b o hb hh => by rw [upd_ne hb]; exact hh
    refine ⟨a, dx, D, kvs', ns, f, rfl, (T.ci "Setting").cl, T.nf "Setting" "held", e2 _ _ ha1, by rw [upd_ne (Ne.symm hdD)]; exact hK', hk2, h4, nd, hm, fun H3 hd3 kvs3 eB hx3 hh3 hf3 => ?_⟩
    exact q H3 (fun b o hb hh => eB b o hb (e2 _ _ (e1 _ _ hh))) ⟨h4, a, dx, hd3, kvs3, rfl, hx3, hh3, hf3⟩

/-! Room.of, Setting.of -/
theorem kw_of {α : Type} {At : AtP α} {f : Str → Option α} {H : Hp} {ns : List Str} {kvs : List (Key × V)} (h : DictF At f ns kvs H) : ∃ kw : List (Str × V), kvs = keyd kw ∧ kw.map Prod.fst = ns := by
  induction h with
  | nil => exact ⟨[], rfl, rfl⟩
  | @cons n q ns kvs a _ ih =>
    obtain ⟨kw, h1, h2⟩ := ih
    obtain ⟨k, v⟩ := q
    obtain ⟨a1, _⟩ := a
    have a1' : k = Sum.inr n := a1
    subst a1'
    exact ⟨(n, v) :: kw, by rw [h1] <;> rfl, by rw [List.map_cons, h2]⟩
def spRmOf (K : PySem.W.Frag) : Sp := fun vs H Q _ => ∃ (d : Addr) (kvs : List (Key × V)) (ns : List Str) (f : Str → Option Spn), vs = [.ref (CRm K), .ref d] ∧ H d = some (.dK kvs) ∧ DictF (Told K) f ns kvs H ∧ Four f ∧ ns.Nodup ∧ (∀ n, n ∈ ns ↔ (f n).isSome = true) ∧
  ∀ z H', Ext H H' → RoomAt K f z H' → Q z H'
theorem sc42_1 : FnScope ["cls", "spans"] ["cls", "spans"] (defScope (mth 42 1)) := ⟨rfl, rfl, rfl, by decide +kernel, rfl, by decide +kernel, by decide +kernel⟩
theorem r_rmof (T : Tx K mg) (Y : TyP P K) : ∃ p g, ClX.CMet K (CRm K) (.type "type") "of" p g ∧ FnR P w K mg base CX0 7 g (spRmOf K) := by
  obtain ⟨p, g, fd, cm, F⟩ := T.mo
  refine ⟨p, g, cm, fnR_of F sc42_1 (fun _ _ _ _ _ _ us hl => match us, hl with | [_, _], _ => rfl) (fun vs H Q E h => ?_) (fun cdv A outer s H vs Q E hr h => ⟨_, PSs.nox (pss_cons
    (ps_expr (pe_callF (r_needS T) (hr.mono (by decide)) rfl (T.gl "need_spans") (T.kp "need_spans") pass0 (pa_cons (pv 1) pa_nil)))
    (pss_one (ps_ret (pe_makeDD Y.rm.mkd (r_rminit T Y) hr rfl (T.gl "Room") (pv 1))))), ?_⟩)⟩
  · obtain ⟨d, kvs, ns, f, rfl, _⟩ := h
    rfl
  · obtain ⟨d, kvs, ns, f, rfl, hd, hf, h4, nd, hm, q⟩ := h
    have hsub : ∀ n ∈ ns, n ∈ names4 := fun n hn => by
      obtain ⟨s, e⟩ := Option.isSome_iff_exists.mp ((hm n).mp hn)
      exact h4 n s e
    have l4 := nodup4 hsub nd
    obtain ⟨kw, hkw, hks⟩ := kw_of hf
    subst hkw
    have hkl : kw.length = ns.length := by rw [← hks, List.length_map]
    refine ⟨_, rfl, d, keyd kw, ns, f, rfl, hd, hf, hsub, by omega, fun H1 e1 => ⟨_, rfl, d, kw, rfl, .inl (e1 _ _ hd), by omega, fun x dx hx hdx hne => ⟨by omega, by rw [hks]; exact nd, ?_, fun d2 hd2 => ?_⟩⟩⟩
    · intro p hp he
      have : p.1 ∈ ns := by rw [← hks]; exact List.mem_map_of_mem hp
      rw [he] at this
      exact absurd (hsub _ this) (by decide +kernel)
    · have e2 : Ext H1 (upd (upd H1 dx (.own x)) x (.ins (CRm K) dx [])) := (Ext.upd hdx).upd' (by rw [upd_ne (Ne.symm hne)]; exact hx)
      have e3 := e2.trans (ext1 (o := .dK (keyd kw)) hd2)
      have hxd : x ≠ d2 := fun z => by rw [← z, upd_same] at hd2; cases hd2
      refine ⟨x, dx, keyd kw, ns, f, rfl, by rw [upd_ne hxd]; exact upd_same, upd_same, hf.ext monoT (e1.trans e3), h4, nd, hm, fun H2 eB hR => ⟨rfl, q _ H2 (fun b o hb => eB b o (fun z => ?_) (e3 _ _ (e1 _ _ hb))) hR⟩⟩
      have := e1 _ _ hb
      rw [z, hx] at this
      cases this
def spStOf (K : PySem.W.Frag) : Sp := fun vs H Q _ => ∃ (d : Addr) (kvs : List (Key × V)) (ns : List Str) (f : Str → Option Int), vs = [.ref (CSt K), .ref d] ∧ H d = some (.dK kvs) ∧ DictF (NR K) f ns kvs H ∧ Four f ∧ ns.Nodup ∧ (∀ n, n ∈ ns ↔ (f n).isSome = true) ∧
  ∀ z H', Ext H H' → SetAt K f z H' → Q z H'
theorem sc45_1 : FnScope ["cls", "places"] ["cls", "places"] (defScope (mth 45 1)) := ⟨rfl, rfl, rfl, by decide +kernel, rfl, by decide +kernel, by decide +kernel⟩
theorem r_stof (T : Tx K mg) (Y : TyP P K) : ∃ p g, ClX.CMet K (CSt K) (.type "type") "of" p g ∧ FnR P w K mg base CX0 6 g (spStOf K) := by
  obtain ⟨p, g, fd, cm, F⟩ := T.so
  refine ⟨p, g, cm, fnR_of F sc45_1 (fun _ _ _ _ _ _ us hl => match us, hl with | [_, _], _ => rfl) (fun vs H Q E h => ?_) (fun cdv A outer s H vs Q E hr h => ⟨_, PSs.nox (pss_cons
    (ps_expr (pe_callF (r_needP T) (hr.mono (by decide)) rfl (T.gl "need_places") (T.kp "need_places") pass0 (pa_cons (pv 1) pa_nil)))
    (pss_one (ps_ret (pe_makeDD Y.st.mkd (r_stinit T Y) hr rfl (T.gl "Setting") (pv 1))))), ?_⟩)⟩
  · obtain ⟨d, kvs, ns, f, rfl, _⟩ := h
    rfl
  · obtain ⟨d, kvs, ns, f, rfl, hd, hf, h4, nd, hm, q⟩ := h
    have hsub : ∀ n ∈ ns, n ∈ names4 := fun n hn => by
      obtain ⟨s, e⟩ := Option.isSome_iff_exists.mp ((hm n).mp hn)
      exact h4 n s e
    have l4 := nodup4 hsub nd
    obtain ⟨kw, hkw, hks⟩ := kw_of hf
    subst hkw
    have hkl : kw.length = ns.length := by rw [← hks, List.length_map]
    refine ⟨_, rfl, d, keyd kw, ns, f, rfl, hd, hf, hsub, by omega, fun H1 e1 => ⟨_, rfl, d, kw, rfl, .inl (e1 _ _ hd), by omega, fun x dx hx hdx hne => ⟨by omega, by rw [hks]; exact nd, ?_, fun d2 hd2 => ?_⟩⟩⟩
    · intro p hp he
      have : p.1 ∈ ns := by rw [← hks]; exact List.mem_map_of_mem hp
      rw [he] at this
      exact absurd (hsub _ this) (by decide +kernel)
    · have e2 : Ext H1 (upd (upd H1 dx (.own x)) x (.ins (CSt K) dx [])) := (Ext.upd hdx).upd' (by rw [upd_ne (Ne.symm hne)]; exact hx)
      have e3 := e2.trans (ext1 (o := .dK (keyd kw)) hd2)
      have hxd : x ≠ d2 := fun z => by rw [← z, upd_same] at hd2; cases hd2
      refine ⟨x, dx, keyd kw, ns, f, rfl, by rw [upd_ne hxd]; exact upd_same, upd_same, hf.ext monoN (e1.trans e3), h4, nd, hm, fun H2 eB hR => ⟨rfl, q _ H2 (fun b o hb => eB b o (fun z => ?_) (e3 _ _ (e1 _ _ hb))) hR⟩⟩
      have := e1 _ _ hb
      rw [z, hx] at this
      cases this
end
end Bf
end

section
set_option Elab.async false
set_option linter.all false
set_option maxRecDepth 100000
/-! Room.holds, Room.__repr__ -/
namespace Bf
open PySem PySem.Spec PyProof.Rows L2
def in1 (f : Str → Option Spn) (g : Str → Option Int) (n : Str) : Bool := match f n, g n with
  | some s, some p => decide (2 * s.lo ≤ p) && decide (p ≤ 2 * s.hi)
  | some _, none => false
  | none, _ => true
def holdsB (f : Str → Option Spn) (g : Str → Option Int) : Bool := (nms f).all (in1 f g)
section
variable {P : Program} {w : World} {K : PySem.W.Frag} {mg : Str → Option Value} {base : Heap}
theorem r4 : ("Room" : Str) ∈ nClNames ∧ ("Room" : Str) ∈ clNames ∧ (("Room" : Str), ("held" : Str)) ∈ naNames := by decide +kernel
theorem s4 : ("Setting" : Str) ∈ nClNames ∧ ("Setting" : Str) ∈ clNames ∧ (("Setting" : Str), ("held" : Str)) ∈ naNames := by decide +kernel
def spHolds (K : PySem.W.Frag) : Sp := fun vs H Q _ => ∃ u v f g, vs = [u, v] ∧ RoomAt K f u H ∧ SetAt K g v H ∧ ∀ H', Ext H H' → Q (.bl (holdsB f g)) H'
def N42_3 : List Str := ["self", "setting", "name", "low", "home", "high"]
theorem sc42_3 : FnScope N42_3 ["self", "setting"] (defScope (mth 42 3)) := ⟨rfl, rfl, rfl, by decide +kernel, rfl, by decide +kernel, by decide +kernel⟩
theorem r_holds (T : Tx K mg) : FnR P w K mg base CX0 4 (mA K "Room" "holds") (spHolds K) := by
  obtain ⟨fd, F⟩ := T.mf "Room" "holds" "Room.holds" 42 3
  refine fnR_of F sc42_3 (fun _ _ _ _ _ _ us hl => match us, hl with | [_, _], _ => rfl) (fun vs H Q E h => ?_) (fun cdv A outer s H vs Q E hr h => ⟨_, PSs.nox (pss_cons
    (ps_lock (ps_for PassesOwn.never rfl (pi_items (pe_fld (pv 0) rfl)) (pg_tup (by rfl) (pgs_cons (pg_name (i := 2) sc42_3.nd rfl (Or.inl rfl)) (pgs_cons
        (pg_tup (by rfl) (pgs_cons (pg_name (i := 3) sc42_3.nd rfl (Or.inl rfl)) (pgs_cons (pg_name (i := 4) sc42_3.nd rfl (Or.inl rfl)) (pgs_cons (pg_name (i := 5) sc42_3.nd rfl (Or.inl rfl)) pgs_nil)))) pgs_nil)))
      (pss_one (ps_if (PW.pt (pw_or (pt_cmpR (op_ninN T "Setting" s4.1 s4.2.1 s4.2.2 rfl rfl (hr.mono (by decide))) (pv 2) (pv 1) (by rfl))
        (pw_or (pt_val (pe_methF (pe_getN T "Setting" s4.1 s4.2.1 s4.2.2 rfl rfl hr (pv 1) (pv 2) (fun _ _ => rfl)) (T.ci "Ratio").cl (T.me "Ratio" "under") (r_under T) (hr.mono (by decide)) pass0 (pa_cons (pv 3) pa_nil)))
        (pw_or1 (pt_val (pe_methF (pv 5) (T.ci "Ratio").cl (T.me "Ratio" "under") (r_under T) (hr.mono (by decide)) pass0 (pa_cons (pe_getN T "Setting" s4.1 s4.2.1 s4.2.2 rfl rfl hr (pv 1) (pv 2) (fun _ _ => rfl)) pa_nil)))))))
        (pss_one (ps_ret pe_bl)) pss_nil))))
    (pss_one (ps_ret pe_bl))), ?_⟩)
  · obtain ⟨u, v, f, g, rfl, _⟩ := h
    rfl
  · obtain ⟨u, v, f, g, rfl, ⟨f4, a, dx, d, kvs, rfl, ha, hd, hf⟩, ⟨g4, b, db, hdb, kvs', rfl, hb, hdd, hg⟩, q⟩ := h
    have lk := hf.len
    refine ⟨d, _, hd, by simp [Mut], fun od => ⟨_, rfl, a, _, dx, [("held", .ref d)], _, rfl, ?_, (T.ci "Room").cl, T.nf "Room" "held", rfl, d, od, kvs, rfl, upd_same, ?_⟩⟩
    · rw [upd_ne (ne_of ha hd (fun z => nomatch z))]
      exact ha
    have hbd : b ≠ d := ne_of hb hd (fun z => nomatch z)
    have eL : ExtB d H (upd H d (.frz od (.dK kvs))) := fun c o hc hh => by rw [upd_ne hc]; exact hh
    have hb1 := eL b _ hbd hb
    have hg1 := hg.off offN (plain_dK hd) eL
    have hf1 := hf.off offS (plain_dK hd) eL
    have hl : upd H d (.frz od (.dK kvs)) d = some (.frz od (.dK kvs)) := upd_same
    have hrd : ∀ H', Ext (upd H d (.frz od (.dK kvs))) H' → Rd H' hdb (.dK kvs') := fun H' e => by
      by_cases c : hdb = d
      · rw [c] at hdd ⊢
        rw [hd] at hdd
        cases hdd
        exact .inr ⟨od, e _ _ upd_same⟩
      · exact .inl (e _ _ (eL hdb _ c hdd))
    have back : ∀ H', Ext (upd H d (.frz od (.dK kvs))) H' → Ext H (upd H' d (.dK kvs)) := fun H' e => ext_unlock hd e
    generalize upd H d (.frz od (.dK kvs)) = Hl at *
    refine for_gen (n := kvs.length) (fun i σ' H' => Ext Hl H' ∧ (∃ z1 z2 z3 z4, σ' = [some (.ref a), some (.ref b), z1, z2, z3, z4]) ∧ ((nms f).take i).all (in1 f g) = true) ⟨Ext.rfl', ⟨none, none, none, none, rfl⟩, rfl⟩ ?_ ?_ ?_ ?_
    · rintro i σ' H' hi ⟨e, _⟩
      exact ⟨e _ _ hl, hi⟩
    · rintro σ' H' ⟨e, _⟩
      exact ⟨e _ _ hl, Nat.le_refl _⟩
    · rintro i x σ' H2 H' hi ⟨e, ⟨z1, z2, z3, z4, rfl⟩, hal⟩ ⟨TT, k, v, hkv, rfl, hTT, rfl⟩
      obtain ⟨n, s, hn, rfl, hfs, hS⟩ := hf1.ix hkv
      have e2 := e.trans (ext1 (o := .tup [kV (Sum.inr n), v]) hTT)
      obtain ⟨ok, t, v1, v2, v3, rfl, ht, h1, h2, h3⟩ := hS.ext e2
      refine ⟨TT, _, rfl, SqT.of upd_same, rfl, _, _, rfl, _, _, rfl, ⟨t, _, rfl, SqT.of ht, rfl, _, _, rfl, _, _, rfl, _, _, rfl, rfl, rfl, ?_⟩⟩
      have hb2 := e2 _ _ hb1
      have hdd2' := hrd _ e2
      have hg2 := hg1.ext monoN e2
      have eTk : ((nms f).take (i + 1)).all (in1 f g) = in1 f g n := by
        rw [List.take_add_one, hn, List.all_append, hal]
        simp
      have end_ := back _ e2
      generalize upd H2 TT (.tup [kV (Sum.inr n), .ref t]) = H3 at *
      have hl3 := e2 _ _ hl
      refine ⟨_, rfl, _, rfl, b, db, _, rfl, hb2, b, n, kvs', rfl, ⟨db, hdb, hb2, hdd2'⟩, _, rfl, _, rfl, ?_⟩
      cases hgn : g n with
      | none =>
        have hv0 : valV kvs' (Sum.inr n) = none := hg2.get0 fun hm => by
          have := (mem_nms g4 n).mp hm
          rw [hgn] at this
          cases this
        rw [hv0]
        refine iteT ⟨hl3, ?_⟩
        have hB : holdsB f g = false := by
          unfold holdsB
          rw [List.all_eq_false]
          refine ⟨n, List.mem_of_getElem? hn, ?_⟩
          unfold in1
          rw [hfs, hgn]
          simp
        have := q _ end_
        rw [hB] at this
        exact this
      | some p =>
        obtain ⟨vp, sp, hvp, hgs, hN⟩ := hg2.get1 ((mem_nms g4 n).mpr (by rw [hgn] <;> rfl))
        rw [hgn] at hgs
        cases hgs
        rw [hvp]
        refine iteF ?_
        have hB : in1 f g n = (decide (2 * s.lo ≤ p) && decide (p ≤ 2 * s.hi)) := by
          unfold in1
          rw [hfs, hgn]
        refine ⟨_, rfl, _, rfl, b, db, _, rfl, hb2, b, n, kvs', vp, rfl, ⟨db, hdb, hb2, hdd2'⟩, hvp, hN.meth fun r dr er hr2 => ⟨rfl, _, rfl, vp, v1, _, _, rfl, hN, h1, _, rfl, ite2 (fun hc => ?_) (fun hc => ?_)⟩⟩
        · have hc' : p < 2 * s.lo := by have := of_decide_eq_true hc; omega
          refine ⟨hl3, ?_⟩
          have hB2 : holdsB f g = false := by
            unfold holdsB
            rw [List.all_eq_false]
            refine ⟨n, List.mem_of_getElem? hn, ?_⟩
            rw [hB, decide_eq_false (by omega)]
            simp
          have := q _ end_
          rw [hB2] at this
          exact this
        · have hc' : ¬ p < 2 * s.lo := fun z => hc (decide_eq_true z)
          refine ⟨_, rfl, h3.meth fun r dr er hr2 => ⟨rfl, _, rfl, _, rfl, b, db, _, rfl, hb2, b, n, kvs', vp, rfl, ⟨db, hdb, hb2, hdd2'⟩, hvp, v3, vp, _, _, rfl, h3, hN, _, rfl, ite2 (fun hc2 => ?_) (fun hc2 => ?_)⟩⟩
          · have hc3 : 2 * s.hi < p := by have := of_decide_eq_true hc2; omega
            refine ⟨hl3, ?_⟩
            have hB2 : holdsB f g = false := by
              unfold holdsB
              rw [List.all_eq_false]
              refine ⟨n, List.mem_of_getElem? hn, ?_⟩
              rw [hB, decide_eq_false (show ¬ p ≤ 2 * s.hi by omega)]
              simp
            have := q _ end_
            rw [hB2] at this
            exact this
          · have hc3 : ¬ 2 * s.hi < p := fun z => hc2 (decide_eq_true z)
            refine ⟨e2, ⟨_, _, _, _, rfl⟩, ?_⟩
            rw [eTk, hB, decide_eq_true (by omega), decide_eq_true (by omega)]
            rfl
    · rintro σ' H' ⟨e, _, hal⟩
      rw [lk, List.take_length] at hal
      refine ⟨e _ _ hl, ?_⟩
      have := q _ (back _ e)
      unfold holdsB at this
      rw [hal] at this
      exact this
end
end Bf
end

section
set_option Elab.async false
set_option linter.all false
set_option maxRecDepth 100000
/-! Room.__repr__, Room.__eq__ -/
namespace Bf
open PySem PySem.Spec PyProof.Rows L2
def entT (f : Str → Option Spn) (n : Str) : Str := match f n with
  | some s => ((Str.empty ++ n) ++ "=") ++ spanT s
  | none => ""
def innerT (f : Str → Option Spn) : Str := Txt.join ", " ((nms f).map (entT f))
def repT (f : Str → Option Spn) : Str := ((Str.empty ++ "Room(") ++ innerT f) ++ ")"
def OkF (f : Str → Option Spn) : Prop := ∀ n s, f n = some s → s.Ok
theorem nm_len : ∀ n ∈ names4, n.length ≤ 2 := fun n hn => (names_ok n hn).1
theorem entT_len {f : Str → Option Spn} (hf : OkF f) {n : Str} (hn : n ∈ names4) : (entT f n).length ≤ 43 := by
  have z1 : (("=" : String) : Str).length = 1 := rfl
  have z2 : (Str.empty).length = 0 := rfl
  have z3 : (("" : String) : Str).length = 0 := rfl
  have a := nm_len n hn
  unfold entT
  cases h : f n with
  | none => show (("" : String) : Str).length ≤ 43; omega
  | some s =>
    have b := spanT_len (hf n s h)
    show (((Str.empty ++ n) ++ "=") ++ spanT s).length ≤ 43
    rw [strLen_append, strLen_append, strLen_append, z1, z2]
    omega
theorem sum_le {l : List Str} {b : Nat} (h : ∀ x ∈ l, x.length ≤ b) : (l.map (·.length)).sum ≤ b * l.length := by
  induction l with
  | nil => simp
  | cons x l ih =>
    have a := h x List.mem_cons_self
    have c := ih fun y hy => h y (List.mem_cons_of_mem _ hy)
    simp only [List.map_cons, List.sum_cons, List.length_cons]
    rw [Nat.mul_succ]
    omega
theorem inner_sum {f : Str → Option Spn} (hf : OkF f) : ((((nms f).map (entT f)).map (·.length)).sum ≤ 172) := by
  have h := sum_le (l := (nms f).map (entT f)) (b := 43) fun x hx => by
    obtain ⟨n, hn, rfl⟩ := List.mem_map.mp hx
    exact entT_len hf (List.mem_filter.mp hn).1
  have l := len_nms f
  rw [List.length_map] at h
  omega
theorem innerT_len {f : Str → Option Spn} (hf : OkF f) : (innerT f).length ≤ 200 := by
  have a := inner_sum hf
  have l := len_nms f
  have z : ((", " : String) : Str).length = 2 := rfl
  have j := StrLaws.join_length_le ", " ((nms f).map (entT f))
  have e : (innerT f).length = (Str.join ", " ((nms f).map (entT f))).length := by
    show (Builtin.Str.glued _ _).length = _
    rw [StrLaws.glued_eq_join]
  rw [e]
  rw [List.length_map, z] at j
  omega
theorem repT_len {f : Str → Option Spn} (hf : OkF f) : (repT f).length ≤ 206 := by
  have a := innerT_len hf
  have z1 : (("Room(" : String) : Str).length = 5 := rfl
  have z2 : (Str.empty).length = 0 := rfl
  have z3 : ((")" : String) : Str).length = 1 := rfl
  unfold repT
  rw [strLen_append, strLen_append, strLen_append, z1, z2, z3]
  omega
section
variable {P : Program} {w : World} {K : PySem.W.Frag} {mg : Str → Option Value} {base : Heap}
theorem RoomAt.okF {f : Str → Option Spn} {v : V} {H : Hp} (h : RoomAt K f v H) : OkF f := by
  obtain ⟨f4, a, dx, d, kvs, rfl, ha, hd, hf⟩ := h
  intro n s hn
  obtain ⟨v, s', _, h1, h2⟩ := hf.get1 ((mem_nms f4 n).mpr (by rw [hn] <;> rfl))
  rw [hn] at h1
  cases h1
  exact h2.1
def tJoin (ts : List TE) : TE := fun σ H Q => tJs ts Str.empty σ H fun out H1 => Q (.str out) H1
theorem pe_joinT {X : Cx} {v1 v2 : Expr} {rest : List Expr} {ts : List TE} {pos : Pos} (h : PJ X (v1 :: v2 :: rest) ts) : PE X (.JoinedStr (v1 :: v2 :: rest) pos) (tJoin ts) := pe_joined h
def spRep (K : PySem.W.Frag) : Sp := fun vs H Q _ => ∃ u f, vs = [u] ∧ RoomAt K f u H ∧ ∀ H', Ext H H' → Q (.str (repT f)) H'
def N42_7 : List Str := ["self", "inner", "name", "span"]
theorem sc42_7 : FnScope N42_7 ["self"] (defScope (mth 42 7)) := ⟨rfl, rfl, rfl, by decide +kernel, rfl, by decide +kernel, by decide +kernel⟩
theorem r_repr (T : Tx K mg) : FnR P w K mg base CX0 5 (mA K "Room" "__repr__") (spRep K) := by
  obtain ⟨fd, F⟩ := T.mf "Room" "__repr__" "Room.__repr__" 42 7
  refine fnR_of F sc42_7 (fun _ _ _ _ _ _ us hl => match us, hl with | [_], _ => rfl) (fun vs H Q E h => ?_) (fun cdv A outer s H vs Q E hr h => ⟨_, PSs.nox (pss_cons
    (ps_set (i := 1) sc42_7.nd rfl (.inl rfl) (pe_join pe_str (pe_lock (pe_lc (own := [("name", 2), ("span", 3)]) (g := gTup K 2 (gCons (gName 2) (gCons (gName 3) gNil))) (tt := tYes) rfl sc42_7.nd (pi_items (pe_fld (pv 0) rfl)) (blkOk_by (N := N42_7) (sc := defScope (mth 42 7)) (by decide +kernel))
      (fun _ _ _ _ _ => pg_tup (by rfl) (pgs_cons (pg_name (i := 2) sc42_7.nd rfl (Or.inl rfl)) (pgs_cons (pg_name (i := 3) sc42_7.nd rfl (Or.inl rfl)) pgs_nil))) (fun _ _ _ _ _ => pts_nil)
      (fun _ _ _ _ _ => pe_joinT (.cons (pe_fmt (pv 2)) (.cons pe_str (.cons (pe_fmt (pe_callF (r_text T) hr rfl (T.gl "span_text") (T.kp "span_text") pass0 (pa_cons (pv 3) pa_nil))) .nil))))))))
    (pss_one (ps_ret (pe_joined (.cons pe_str (.cons (pe_fmt (pv 1)) (.cons pe_str .nil))))))), ?_⟩)
  · obtain ⟨u, f, rfl, _⟩ := h
    rfl
  · obtain ⟨u, f, rfl, hR, q⟩ := h
    have okf := hR.okF
    obtain ⟨f4, a, dx, d, kvs, rfl, ha, hd, hf⟩ := hR
    have lk := hf.len
    have hz : 1000 ≤ sizeLine := by decide
    have z1 : (("=" : String) : Str).length = 1 := rfl
    have z2 : (Str.empty).length = 0 := rfl
    refine ⟨⟨_, rfl⟩, d, _, hd, by simp [Mut], fun od => ⟨_, rfl, a, _, dx, [("held", .ref d)], _, rfl, ?_, (T.ci "Room").cl, T.nf "Room" "held", rfl, d, od, kvs, rfl, upd_same, fun D hD => ?_⟩⟩
    · rw [upd_ne (ne_of ha hd (fun z => nomatch z))]
      exact ha
    have hdD : d ≠ D := fun z => by rw [← z, upd_same] at hD; cases hD
    have eL : ExtB d H (upd H d (.frz od (.dK kvs))) := fun c o hc hh => by rw [upd_ne hc]; exact hh
    have hf1 := hf.off offS (plain_dK hd) eL
    have hl : upd H d (.frz od (.dK kvs)) d = some (.frz od (.dK kvs)) := upd_same
    have back : ∀ H', Ext (upd H d (.frz od (.dK kvs))) H' → Ext H (upd H' d (.dK kvs)) := fun H' e => ext_unlock hd e
    generalize upd H d (.frz od (.dK kvs)) = Hl at *
    refine lc_gen (n := kvs.length) (fun i H' => H' D = some (.lst (((nms f).take i).map fun n => V.str (entT f n))) ∧ ExtB D Hl H') ⟨upd_same, fun b o hb h => by rw [upd_ne hb]; exact h⟩ ?_ ?_ ?_ ?_
    · rintro i H' hi ⟨_, e⟩
      exact ⟨e d _ hdD hl, hi⟩
    · rintro H' ⟨_, e⟩
      exact ⟨e d _ hdD hl, Nat.le_refl _⟩
    · rintro i x H2 H' hi ⟨hDl, e⟩ ⟨TT, k, v, hkv, rfl, hTT, rfl⟩
      obtain ⟨n, s, hn, rfl, hfs, hS⟩ := hf1.ix hkv
      have e0 : Ext Hl H2 := fun b o hb => e b o (fun z => by rw [z, hD] at hb; cases hb) hb
      have e2 := e0.trans (ext1 (o := .tup [kV (Sum.inr n), v]) hTT)
      have hnn : n ∈ names4 := (List.mem_filter.mp (List.mem_of_getElem? hn)).1
      have l1 := nm_len n hnn
      have l2 := spanT_len (okf n s hfs)
      refine ⟨TT, _, rfl, SqT.of upd_same, rfl, _, _, rfl, _, _, rfl, rfl, rfl, ?_⟩
      unfold tYes
      have hDT : D ≠ TT := fun z => by rw [← z, hDl] at hTT; cases hTT
      refine iteT ⟨_, rfl, .inl ⟨n, rfl, by omega, n, rfl, ?_, _, rfl, ?_, _, rfl, v, s, rfl, hS.ext e2, fun H3 e3 => .inl ⟨_, rfl, by omega, _, rfl, ?_, _, e3 _ _ (by rw [upd_ne hDT]; exact hDl), ?_, ?_, ?_⟩⟩⟩
      · rw [strLen_append, z2]; omega
      · rw [strLen_append, strLen_append, z2, z1]; omega
      · rw [strLen_append, strLen_append, strLen_append, z2, z1]; omega
      · have a3 := len_nms f
        rw [List.length_map, List.length_take]; omega
      · rw [upd_same, List.take_add_one, hn]
        have en : entT f n = ((Str.empty ++ n) ++ "=") ++ spanT s := by unfold entT; rw [hfs]
        rw [List.map_append]
        simp [en]
      · intro b o hb hh
        rw [upd_ne hb]
        exact e3 _ _ (ext1 hTT _ _ (e b o hb hh))
    · rintro H' ⟨hDl, e⟩
      rw [lk, List.take_length] at hDl
      have e0 : Ext Hl H' := fun b o hb => e b o (fun z => by rw [z, hD] at hb; cases hb) hb
      have a1 := inner_sum okf
      have a2 := innerT_len okf
      have a3 := len_nms f
      have z3 : ((", " : String) : Str).length = 2 := rfl
      have z4 : (("Room(" : String) : Str).length = 5 := rfl
      have z5 : ((")" : String) : Str).length = 1 := rfl
      refine ⟨e d _ hdD hl, _, D, (nms f).map (entT f), rfl, rfl, .inl (SqL.of (by rw [upd_ne (Ne.symm hdD), List.map_map]; exact hDl)), ?_, ?_⟩
      · rw [List.length_map, z3]; omega
      · refine ⟨_, rfl, ?_, _, rfl, .inl ⟨_, rfl, ?_, _, rfl, ?_, _, rfl, ?_, ?_⟩⟩
        · rw [strLen_append, z2, z4]; omega
        · show (innerT f).length ≤ sizeLine; omega
        · show ((Str.empty ++ "Room(") ++ innerT f).length ≤ sizeLine
          rw [strLen_append, strLen_append, z2, z4]; omega
        · show (((Str.empty ++ "Room(") ++ innerT f) ++ ")").length ≤ sizeLine
          rw [strLen_append, strLen_append, strLen_append, z2, z4, z5]; omega
        · exact q _ (back _ e0)

/-! Room.__eq__: two rooms that hold the same -/
theorem NR.dins {k : Int} {x y : V} {H : Hp} (h1 : NR K k x H) (h2 : NR K k y H) : DInsR (CRt K) (spREq K) E0 x y H := by
  obtain ⟨_, _, a, da, rfl, ha⟩ := id h1
  obtain ⟨_, _, b, db, rfl, hb⟩ := id h2
  exact ⟨a, b, da, db, _, _, rfl, rfl, ha, hb, fun H' e => ⟨_, _, k, rfl, h1.ext e, .inr ⟨k, h2.ext e, by rw [decide_eq_true rfl], Ext.rfl'⟩⟩⟩
def Dh (K : PySem.W.Frag) : Eqv := fun x y H => DFlat x y H ∨ DInsR (CRt K) (spREq K) E0 x y H
theorem HomeAt.dh {o : Option Int} {x y : V} {H : Hp} (h1 : HomeAt K o x H) (h2 : HomeAt K o y H) : Dh K x y H := by
  cases o with
  | none =>
    have e1 : x = .non := h1
    have e2 : y = .non := h2
    subst e1 e2
    exact .inl ⟨rfl, rfl, by decide⟩
  | some k => exact .inr (NR.dins h1 h2)
theorem SpanAt.dt {s : Spn} {x y : V} {H : Hp} (h1 : SpanAt K s x H) (h2 : SpanAt K s y H) : DTup K (Dh K) x y H := by
  obtain ⟨_, t, v1, v2, v3, rfl, ht, a1, a2, a3⟩ := h1
  obtain ⟨_, t', w1, w2, w3, rfl, ht', b1, b2, b3⟩ := h2
  exact ⟨t, t', _, _, rfl, rfl, SqT.of ht, SqT.of ht', .cons (.inr (a1.dins b1)) (.cons (a2.dh b2) (.cons (.inr (a3.dins b3)) .nil))⟩
theorem monDh : Mon (Dh K) := mon_flat.or mon_insR
theorem rc_held {X : Cx} (T : Tx K mg) (hK : X.K = K) (hm : X.mg = mg) : RcG X 3 (DDict (DTup K (Dh K))) := by
  subst hK hm
  have h1 : EqG X 1 (Dh X.K) := (eqG_flat.mono (by decide)).or (eqG_insR (T.me "Ratio" "__eq__").at_ (T.me "Ratio" "__eq__").fn (r_req T) pass0)
  exact rcG_dict (mon_tup monDh) (eqG_tup monDh h1)
def spRmEq (K : PySem.W.Frag) : Sp := fun vs H Q _ => ∃ a b dx dy d d' kvs kvs' f, vs = [.ref a, .ref b] ∧ a ≠ b ∧ Four f ∧ H a = some (.ins (CRm K) dx [("held", .ref d)]) ∧ H b = some (.ins (CRm K) dy [("held", .ref d')]) ∧ d ≠ d' ∧ H d = some (.dK kvs) ∧ H d' = some (.dK kvs') ∧ DictF (SpanAt K) f (nms f) kvs H ∧ DictF (SpanAt K) f (nms f) kvs' H ∧
  ∀ H', Ext H H' → Q (.bl true) H'
theorem sc42_5 : FnScope ["self", "other"] ["self", "other"] (defScope (mth 42 5)) := ⟨rfl, rfl, rfl, by decide +kernel, rfl, by decide +kernel, by decide +kernel⟩
theorem prs_of {f : Str → Option Spn} : ∀ {ns : List Str} {kvs kvs' : List (Key × V)} {H H1 : Hp}, DictF (SpanAt K) f ns kvs H → DictF (SpanAt K) f ns kvs' H → (∀ s v, SpanAt K s v H → SpanAt K s v H1) → Prs (DTup K (Dh K)) (kvs.map Prod.snd) (kvs'.map Prod.snd) H1
  | _, _, _, _, _, .nil, .nil, _ => Prs.nil
  | _, _, _, _, _, .cons ⟨_, s, b, c⟩ t, .cons ⟨_, s', b', c'⟩ t', h => by
    rw [b] at b'
    cases b'
    exact Prs.cons ((h _ _ c).dt (h _ _ c')) (prs_of t t' h)
theorem r_rmeq (T : Tx K mg) : FnR P w K mg base CX0 4 (mA K "Room" "__eq__") (spRmEq K) := by
  obtain ⟨fd, F⟩ := T.mf "Room" "__eq__" "Room.__eq__" 42 5
  refine fnR_of F sc42_5 (fun _ _ _ _ _ _ us hl => match us, hl with | [_, _], _ => rfl) (fun vs H Q E h => ?_) (fun cdv A outer s H vs Q E hr h => ⟨_, PSs.nox (pss_one
    (ps_ret (pe_and (pe_callB call_isi (by rfl) (T.no "isinstance") (by decide +kernel) (pa_cons (pv 1) (pa_cons (pe_glob (v := .ref (gA K "Room")) rfl (T.gl "Room") rfl) pa_nil)))
      (pe_one (pe_cmpR (op_eqG (rc_held T rfl rfl) hr) (pe_fld (pv 0) rfl) (pe_fld (pv 1) rfl) (nomark _)))))), ?_⟩)
  · obtain ⟨a, b, dx, dy, d, d', kvs, kvs', f, rfl, _⟩ := h
    rfl
  · obtain ⟨a, b, dx, dy, d, d', kvs, kvs', f, rfl, hab, f4, ha, hb, hdd, hd, hd', hf, hf', q⟩ := h
    have cl := (T.ci "Room").cl
    have na := T.nf "Room" "held"
    refine ⟨_, rfl, _, _, _, _, true, rfl, .own _, (T.ci "Room").ty hb, kit_self, true, rfl, iteT ⟨_, rfl, a, _, dx, _, _, rfl, ha, cl, na, rfl, _, rfl, b, _, dy, _, _, rfl, hb, cl, na, rfl, ⟨d, d', kvs, kvs', rfl, rfl, hdd, hd, hd', by rw [hf.ks, hf'.ks], fun oa ob => ?_⟩, q⟩⟩
    refine prs_of hf hf' fun s v hv => ?_
    have e1 : ExtB d H (upd H d (.frz oa (.dK kvs))) := fun c o hc hh => by rw [upd_ne hc]; exact hh
    have h1 := hv.off (plain_dK hd) e1
    have hd1 : upd H d (.frz oa (.dK kvs)) d' = some (.dK kvs') := by rw [upd_ne (Ne.symm hdd)]; exact hd'
    exact h1.off (plain_dK hd1) fun c o hc hh => by
      show lck H d d' oa ob kvs kvs' c = some o
      unfold lck
      rw [upd_ne hc]
      exact hh
end
end Bf
end

section
set_option Elab.async false
set_option linter.all false
set_option maxRecDepth 100000
/-! the plain law of rooms -/
namespace Bf
open PySem PySem.Spec PyProof.Rows L2
theorem holdsB_iff (f : Rm) (s : Str → Option Int) : holdsB f s = names4.all (in1 f s) := by
  unfold holdsB nms
  rw [Bool.eq_iff_iff, List.all_eq_true, List.all_eq_true]
  constructor
  · intro h n hn
    cases e : f n with
    | some a => exact h n (List.mem_filter.mpr ⟨hn, by rw [e] <;> rfl⟩)
    | none => unfold in1; rw [e]
  · intro h n hn
    exact h n (List.mem_filter.mp hn).1
theorem in1_comb {f g : Rm} {s : Str → Option Int} {n : Str} (hc : clash1 f g n = false) : in1 (comb f g) s n = (in1 f s n && in1 g s n) := by
  unfold in1 comb
  unfold clash1 at hc
  cases hf : f n with
  | none => simp
  | some a =>
    cases hg : g n with
    | none => simp
    | some b =>
      rw [hf, hg] at hc
      simp only at hc ⊢
      cases hm : meet a b with
      | none => rw [hm] at hc; cases hc
      | some c =>
        cases hs : s n with
        | none => rfl
        | some p =>
          simp only
          unfold meet at hm
          simp only at hm
          rw [Bool.eq_iff_iff]
          simp only [Bool.and_eq_true, decide_eq_true_eq]
          split at hm
          · cases hm
          · split at hm
            · cases hm
              simp only
              omega
            · cases hm
              simp only
              omega
theorem holds_comb {f g : Rm} {s : Str → Option Int} (hc : clash f g = false) : holdsB (comb f g) s = (holdsB f s && holdsB g s) := by
  rw [holdsB_iff, holdsB_iff, holdsB_iff, Bool.eq_iff_iff, Bool.and_eq_true, List.all_eq_true, List.all_eq_true, List.all_eq_true]
  have key : ∀ n ∈ names4, in1 (comb f g) s n = (in1 f s n && in1 g s n) := fun n hn => in1_comb (by
    cases e : clash1 f g n with
    | false => rfl
    | true => rw [show clash f g = true from List.any_eq_true.mpr ⟨n, hn, e⟩] at hc; cases hc)
  constructor
  · intro h
    refine ⟨fun n hn => ?_, fun n hn => ?_⟩
    · have := h n hn; rw [key n hn, Bool.and_eq_true] at this; exact this.1
    · have := h n hn; rw [key n hn, Bool.and_eq_true] at this; exact this.2
  · rintro ⟨h1, h2⟩ n hn
    rw [key n hn, h1 n hn, h2 n hn] <;> rfl
theorem holds_clash {f g : Rm} {s : Str → Option Int} (hc : clash f g = true) : (holdsB f s && holdsB g s) = false := by
  obtain ⟨n, hn, hx⟩ := List.any_eq_true.mp hc
  rw [holdsB_iff, holdsB_iff]
  cases h : (names4.all (in1 f s) && names4.all (in1 g s)) with
  | false => rfl
  | true =>
    rw [Bool.and_eq_true, List.all_eq_true, List.all_eq_true] at h
    have h1 := h.1 n hn
    have h2 := h.2 n hn
    unfold clash1 at hx
    unfold in1 at h1 h2
    cases hf : f n with
    | none => rw [hf] at hx; cases hx
    | some a =>
      cases hg : g n with
      | none => rw [hf, hg] at hx; cases hx
      | some b =>
        rw [hf, hg] at hx
        rw [hf] at h1
        rw [hg] at h2
        simp only at hx h1 h2
        cases hs : s n with
        | none => rw [hs] at h1; cases h1
        | some p =>
          rw [hs] at h1 h2
          simp only [Bool.and_eq_true, decide_eq_true_eq] at h1 h2
          unfold meet at hx
          simp only at hx
          rw [if_neg (by omega)] at hx
          split at hx <;> cases hx
/-! ### at one name -/
def mo (x y : Option Spn) : Option (Option Spn) := match x, y with
  | some a, some b => (meet a b).map some
  | some a, none => some (some a)
  | none, y => some y
theorem mo_assoc {x y z : Option Spn} (hx : ∀ a, x = some a → a.Ok) (hy : ∀ a, y = some a → a.Ok) (hz : ∀ a, z = some a → a.Ok) : (mo x y).bind (fun r => mo r z) = (mo y z).bind (fun r => mo x r) := by
  cases x with
  | none =>
    show mo y z = (mo y z).bind fun r => mo none r
    cases h : mo y z <;> rfl
  | some a =>
    cases y with
    | none => simp [mo]
    | some b =>
      cases z with
      | none =>
        cases h : meet a b with
        | none => simp [mo, h]
        | some c => simp [mo, h]
      | some c =>
        have k := meet_assoc (hx a rfl) (hy b rfl) (hz c rfl)
        cases h1 : meet a b with
        | none =>
          rw [h1] at k
          cases h2 : meet b c with
          | none => simp [mo, h1, h2]
          | some e =>
            rw [h2] at k
            have k' : none = meet a e := k
            simp [mo, h1, h2, ← k']
        | some d =>
          rw [h1] at k
          cases h2 : meet b c with
          | none =>
            rw [h2] at k
            have k' : meet d c = none := k
            simp [mo, h1, h2, k']
          | some e =>
            rw [h2] at k
            have k' : meet d c = meet a e := k
            simp [mo, h1, h2, k']
theorem clash1_mo (f g : Rm) (n : Str) : clash1 f g n = (mo (f n) (g n)).isNone := by
  unfold clash1 mo
  cases f n with
  | none => rfl
  | some a =>
    cases g n with
    | none => rfl
    | some b => simp
theorem comb_mo {f g : Rm} {n : Str} {r : Option Spn} (h : mo (f n) (g n) = some r) : comb f g n = r := by
  unfold mo at h
  unfold comb
  cases hf : f n with
  | none => rw [hf] at h; exact Option.some.inj h
  | some a =>
    cases hg : g n with
    | none => rw [hf, hg] at h; exact Option.some.inj h
    | some b =>
      rw [hf, hg] at h
      simp only at h ⊢
      cases hm : meet a b with
      | none => rw [hm] at h; cases h
      | some c => rw [hm] at h; exact Option.some.inj h
theorem comb_ok {f g : Rm} (hf : OkF f) (hg : OkF g) : OkF (comb f g) := by
  intro n s h
  unfold comb at h
  cases ef : f n with
  | none => rw [ef] at h; exact hg n s h
  | some a =>
    cases eg : g n with
    | none => rw [ef, eg] at h; exact Option.some.inj h ▸ hf n a ef
    | some b => rw [ef, eg] at h; exact meet_ok (hf n a ef) (hg n b eg) h
theorem clash_false {f g : Rm} (h : ∀ n ∈ names4, ∃ r, mo (f n) (g n) = some r) : clash f g = false := by
  cases c : clash f g with
  | false => rfl
  | true =>
    obtain ⟨n, hn, hx⟩ := List.any_eq_true.mp c
    obtain ⟨r, hr⟩ := h n hn
    rw [clash1_mo, hr] at hx
    cases hx
theorem no_clash {f g : Rm} (h : clash f g = false) {n : Str} (hn : n ∈ names4) : ∃ r, mo (f n) (g n) = some r ∧ comb f g n = r := by
  cases e : mo (f n) (g n) with
  | none =>
    rw [show clash f g = true from List.any_eq_true.mpr ⟨n, hn, by rw [clash1_mo, e] <;> rfl⟩] at h
    cases h
  | some r => exact ⟨r, rfl, comb_mo e⟩
theorem meetF_self {f : Rm} (hf : OkF f) : meetF f f = some f := by
  have h1 : ∀ n, mo (f n) (f n) = some (f n) := fun n => by
    cases e : f n with
    | none => rfl
    | some a => show (meet a a).map some = _; rw [meet_self (hf n a e)] <;> rfl
  unfold meetF
  rw [clash_false fun n _ => ⟨_, h1 n⟩]
  exact congrArg some (funext fun n => comb_mo (h1 n))
theorem meetF_right {f : Rm} : meetF f (fun _ => none) = some f := by
  have h1 : ∀ n, mo (f n) none = some (f n) := fun n => by cases f n <;> rfl
  unfold meetF
  rw [clash_false fun n _ => ⟨_, h1 n⟩]
  exact congrArg some (funext fun n => comb_mo (h1 n))
theorem meetF_left {f : Rm} : meetF (fun _ => none) f = some f := by
  have h1 : ∀ n, mo none (f n) = some (f n) := fun n => rfl
  unfold meetF
  rw [clash_false fun n _ => ⟨_, h1 n⟩]
  exact congrArg some (funext fun n => comb_mo (h1 n))
theorem meetF_assoc {f g h : Rm} (f4 : Four f) (g4 : Four g) (h4 : Four h) (hf : OkF f) (hg : OkF g) (hh : OkF h) : (meetF f g).bind (fun e => meetF e h) = (meetF g h).bind (fun e => meetF f e) := by
  have A : ∀ n, (mo (f n) (g n)).bind (fun r => mo r (h n)) = (mo (g n) (h n)).bind (fun r => mo (f n) r) := fun n => mo_assoc (hf n) (hg n) (hh n)
  have none_of : ∀ {f : Rm}, Four f → ∀ n, n ∉ names4 → f n = none := fun {f} f4 n hn => by
    cases e : f n with
    | none => rfl
    | some s => exact absurd (f4 n s e) hn
  cases c1 : clash f g with
  | true =>
    have L : meetF f g = none := by unfold meetF; rw [if_pos c1]
    rw [L]
    obtain ⟨n, hn, hx⟩ := List.any_eq_true.mp c1
    rw [clash1_mo, Option.isNone_iff_eq_none] at hx
    have An := A n
    rw [hx] at An
    cases c2 : clash g h with
    | true => have R : meetF g h = none := by unfold meetF; rw [if_pos c2]
              rw [R] <;> rfl
    | false =>
      have R : meetF g h = some (comb g h) := by unfold meetF; rw [c2] <;> rfl
      rw [R]
      obtain ⟨r, h1, h2⟩ := no_clash c2 hn
      rw [h1] at An
      have An' : none = mo (f n) r := An
      have c3 : clash f (comb g h) = true := List.any_eq_true.mpr ⟨n, hn, by rw [clash1_mo, h2, ← An'] <;> rfl⟩
      show none = meetF f (comb g h)
      unfold meetF
      rw [if_pos c3]
  | false =>
    have L : meetF f g = some (comb f g) := by unfold meetF; rw [c1] <;> rfl
    rw [L]
    show meetF (comb f g) h = _
    cases c2 : clash g h with
    | true =>
      have R : meetF g h = none := by unfold meetF; rw [if_pos c2]
      rw [R]
      obtain ⟨n, hn, hx⟩ := List.any_eq_true.mp c2
      rw [clash1_mo, Option.isNone_iff_eq_none] at hx
      have An := A n
      rw [hx] at An
      obtain ⟨r, h1, h2⟩ := no_clash c1 hn
      rw [h1] at An
      have An' : mo r (h n) = none := An
      have c3 : clash (comb f g) h = true := List.any_eq_true.mpr ⟨n, hn, by rw [clash1_mo, h2, An'] <;> rfl⟩
      show meetF (comb f g) h = none
      unfold meetF
      rw [if_pos c3]
    | false =>
      have R : meetF g h = some (comb g h) := by unfold meetF; rw [c2] <;> rfl
      rw [R]
      show meetF (comb f g) h = meetF f (comb g h)
      have B : ∀ n ∈ names4, mo (comb f g n) (h n) = mo (f n) (comb g h n) := fun n hn => by
        obtain ⟨r, h1, h2⟩ := no_clash c1 hn
        obtain ⟨q, k1, k2⟩ := no_clash c2 hn
        have An := A n
        rw [h1, k1] at An
        rw [h2, k2]
        exact An
      have hc : clash (comb f g) h = clash f (comb g h) := by
        unfold clash
        rw [Bool.eq_iff_iff, List.any_eq_true, List.any_eq_true]
        constructor
        · rintro ⟨n, hn, hx⟩
          exact ⟨n, hn, by rw [clash1_mo] at hx ⊢; rw [← B n hn]; exact hx⟩
        · rintro ⟨n, hn, hx⟩
          exact ⟨n, hn, by rw [clash1_mo] at hx ⊢; rw [B n hn]; exact hx⟩
      unfold meetF
      rw [hc]
      cases c3 : clash f (comb g h) with
      | true => rfl
      | false =>
        refine congrArg some (funext fun n => ?_)
        by_cases hn : n ∈ names4
        · obtain ⟨r, h1, h2⟩ := no_clash c3 hn
          rw [h2]
          rw [← B n hn] at h1
          exact comb_mo h1
        · have k1 : comb f g n = none := none_of (f4.comb g4) n hn
          have k2 : comb g h n = none := none_of (g4.comb h4) n hn
          have e1 : comb (comb f g) h n = none := none_of ((f4.comb g4).comb h4) n hn
          have e2 : comb f (comb g h) n = none := none_of (f4.comb (g4.comb h4)) n hn
          rw [e1, e2]
end Bf
end

section
set_option Elab.async false
set_option linter.all false
set_option maxRecDepth 100000
/-! Room.__and__ -/
namespace Bf
open PySem PySem.Spec PyProof.Rows L2
section
variable {P : Program} {w : World} {K : PySem.W.Frag} {mg : Str → Option Value} {base : Heap}
def tLockT (t : TT) : TT := fun σ H Q => ∃ d u, H d = some u ∧ Mut (some u) ∧ ∀ od, t σ (upd H d (.frz od u)) fun b H' => H' d = some (.frz od u) ∧ Q b (upd H' d u)
theorem pt_lock {X : Cx} {e : Expr} {t : TT} (h : PT X e t) : PT X e (tLockT t) := by
  refine ⟨fun pins s σ H Q I hw => ?_⟩
  obtain ⟨d, u, hd, mu, hw⟩ := hw
  obtain ⟨od, I1⟩ := I.lock hd mu
  refine thn (h.run pins s σ _ _ I1 (hw od)) fun v s1 ⟨H1, I2, e2, q⟩ => ?_
  exact ⟨_, I2.unlock e2 (I.nofrz hd mu), q⟩
def RoomO (K : PySem.W.Frag) (o : Option Rm) (v : V) (H : Hp) : Prop := match o with
  | none => v = .non
  | some f => RoomAt K f v H
theorem upd_id {H : Hp} {a : Addr} {o : HO} (h : H a = some o) : upd H a o = H := by
  funext b
  by_cases c : b = a
  · subst c; rw [upd_same, h]
  · rw [upd_ne c]
theorem paired_app {α β : Type} {G : α → β → Prop} {l1 l2 : List α} {m1 m2 : List β} (h1 : Paired G l1 m1) (h2 : Paired G l2 m2) : Paired G (l1 ++ l2) (m1 ++ m2) := by
  induction h1 with
  | nil => exact h2
  | cons a _ ih => exact .cons a ih
theorem paired_split {α β : Type} {G : α → β → Prop} {l2 : List α} : ∀ {l1 : List α} {m : List β}, Paired G (l1 ++ l2) m → ∃ m1 m2, m = m1 ++ m2 ∧ Paired G l1 m1 ∧ Paired G l2 m2
  | [], m, h => ⟨[], m, rfl, .nil, h⟩
  | x :: l1, _, .cons a t => by
    obtain ⟨m1, m2, e, p1, p2⟩ := paired_split t
    exact ⟨_ :: m1, m2, by rw [e] <;> rfl, .cons a p1, p2⟩
theorem paired_imp {α β : Type} {G G' : α → β → Prop} {l : List α} {m : List β} (h : Paired G l m) (hi : ∀ a b, G a b → G' a b) : Paired G' l m := by
  induction h with
  | nil => exact .nil
  | cons a _ ih => exact .cons (hi _ _ a) ih
theorem paired_snoc {α β : Type} {G : α → β → Prop} {l : List α} {m : List β} {a : α} {b : β} (h : Paired G l m) (x : G a b) : Paired G (l ++ [a]) (m ++ [b]) := paired_app h (.cons x .nil)
/-- the entries by place -/
theorem DictF.list {α : Type} {At : AtP α} {f : Str → Option α} {H : Hp} {ns : List Str} {kvs : List (Key × V)} (h : DictF At f ns kvs H) : ∃ L : List (Str × α), L.map Prod.fst = ns ∧ (∀ p ∈ L, f p.1 = some p.2) ∧ Paired (fun (q : Key × V) (p : Str × α) => q.1 = Sum.inr p.1 ∧ At p.2 q.2 H) kvs L := by
  induction h with
  | nil => exact ⟨[], rfl, fun p hp => (nomatch hp), .nil⟩
  | @cons n q ns kvs a _ ih =>
    obtain ⟨L, h1, h2, h3⟩ := ih
    obtain ⟨a1, s, a2, a3⟩ := a
    exact ⟨(n, s) :: L, by rw [List.map_cons, h1], fun p hp => (List.mem_cons.mp hp).elim (fun e => by rw [e]; exact a2) (h2 p), .cons ⟨a1, a3⟩ h3⟩
theorem DictF.of_list {α : Type} {At : AtP α} {f : Str → Option α} {H : Hp} {L : List (Str × α)} {ws : List (Key × V)} (h : Paired (fun (p : Str × α) (q : Key × V) => q.1 = Sum.inr p.1 ∧ At p.2 q.2 H) L ws) (hL : ∀ p ∈ L, f p.1 = some p.2) : DictF At f (L.map Prod.fst) ws H := by
  induction h with
  | nil => exact .nil
  | cons a _ ih => exact .cons ⟨a.1, _, hL _ List.mem_cons_self, a.2⟩ (ih fun p hp => hL p (List.mem_cons_of_mem _ hp))
def h0 (f g : Rm) : Str → Option (Option Spn) := fun n => match g n with
  | some b => some (some b)
  | none => (f n).map some
def h1 (f g : Rm) : Str → Option (Option Spn) := fun n => match f n, g n with
  | some a, some b => some (meet a b)
  | _, _ => h0 f g n
theorem ToldO.off {o : Option Spn} {v : V} {H H' : Hp} {d : Addr} (h : ToldO K o v H) (p : Plain H d) (e : ExtB d H H') : ToldO K o v H' := by
  cases o with
  | none => exact h
  | some s => exact Told.off h p e
theorem offO : ∀ (s : Option Spn) (v : V) (H H' : Hp) (d : Addr), ToldO K s v H → Plain H d → ExtB d H H' → ToldO K s v H' := fun _ _ _ _ _ h p e => h.off p e
theorem monoO : AtP.Mono (ToldO K) := fun o v H H' h e => by
  cases o with
  | none => exact h
  | some s => exact Told.ext h e
theorem Told.isNon {s : Spn} {v : V} {H : Hp} (h : Told K s v H) : isNon v = false := by
  obtain ⟨ok, ⟨a, _, _, r, dx, rfl, _⟩ | ⟨a, b, t, v1, v3, rfl, _⟩ | ⟨a, h, b, t, v1, v2, v3, rfl, _⟩⟩ := h <;> rfl
theorem Told.nv {s : Spn} {v : V} {H : Hp} (h : Told K s v H) : NV (CRt K) (spREq K) E0 v H := by
  obtain ⟨ok, ⟨a, hn⟩ | ⟨a, b, t, v1, v3, rfl, ht, _⟩ | ⟨a, h, b, t, v1, v2, v3, rfl, ht, _⟩⟩ := h
  · obtain ⟨_, _, r, dx, rfl, hr⟩ := id hn
    exact .inr (.inr ⟨r, dx, _, rfl, hr, _, _, _, rfl, hn, .inl ⟨rfl, rfl, rfl⟩⟩)
  · exact .inr (.inl ⟨t, _, rfl, ht⟩)
  · exact .inr (.inl ⟨t, _, rfl, ht⟩)
theorem ToldO.nv {o : Option Spn} {v : V} {H : Hp} (h : ToldO K o v H) : NV (CRt K) (spREq K) E0 v H := by
  cases o with
  | none => exact .inl h
  | some s => exact Told.nv h
theorem any_non {f g : Rm} {ns : List Str} {kvs : List (Key × V)} {H : Hp} (h : DictF (ToldO K) (h1 f g) ns kvs H) (hf : Four f) (hm : ∀ n, (f n).isSome = true → n ∈ ns) : (kvs.any fun p => isNon p.2) = clash f g := by
  cases e : clash f g with
  | true =>
    obtain ⟨n, hn, hc⟩ := List.any_eq_true.mp e
    unfold clash1 at hc
    cases hfn : f n with
    | none => rw [hfn] at hc; simp at hc
    | some a =>
      cases hgn : g n with
      | none => rw [hfn, hgn] at hc; simp at hc
      | some b =>
        rw [hfn, hgn] at hc
        have hc' : meet a b = none := by simpa using hc
        obtain ⟨v, s, hv, hs, hA⟩ := h.get1 (hm n (by rw [hfn] <;> rfl))
        unfold h1 at hs
        rw [hfn, hgn] at hs
        have hs' : s = none := by
          have := Option.some.inj hs
          rw [← this, hc']
        subst hs'
        have hv' : v = .non := hA
        unfold valV at hv
        obtain ⟨q, hq1, hq2⟩ := Option.map_eq_some_iff.mp hv
        refine List.any_eq_true.mpr ⟨q, List.mem_of_find?_eq_some hq1, ?_⟩
        rw [hq2, hv'] <;> rfl
  | false =>
    rw [List.any_eq_false]
    intro q hq
    obtain ⟨i, hi⟩ := List.mem_iff_getElem?.mp hq
    obtain ⟨n, o, hn, _, ho, hA⟩ := h.ix (k := q.1) (v := q.2) hi
    cases o with
    | some s =>
      have := Told.isNon (show Told K s q.2 H from hA)
      rw [this]
      exact Bool.false_ne_true
    | none =>
      exfalso
      unfold h1 at ho
      cases hfn : f n with
      | none =>
        rw [hfn] at ho
        unfold h0 at ho
        rw [hfn] at ho
        cases hgn : g n with
        | none => rw [hgn] at ho; cases ho
        | some b => rw [hgn] at ho; cases ho
      | some a =>
        rw [hfn] at ho
        cases hgn : g n with
        | none =>
          rw [hgn] at ho
          unfold h0 at ho
          rw [hgn, hfn] at ho
          cases ho
        | some b =>
          rw [hgn] at ho
          have hc : meet a b = none := Option.some.inj ho
          have : clash f g = true := List.any_eq_true.mpr ⟨n, hf n a hfn, by unfold clash1; rw [hfn, hgn]; show (meet a b).isNone = true; rw [hc] <;> rfl⟩
          rw [e] at this
          cases this
theorem h1_comb {f g : Rm} (hc : clash f g = false) (hf : Four f) {n : Str} {o : Option Spn} (h : h1 f g n = some o) : ∃ s, o = some s ∧ comb f g n = some s := by
  unfold h1 at h
  unfold comb
  cases hfn : f n with
  | none =>
    rw [hfn] at h
    unfold h0 at h
    rw [hfn] at h
    cases hgn : g n with
    | none => rw [hgn] at h; cases h
    | some b => rw [hgn] at h; cases h; exact ⟨b, rfl, rfl⟩
  | some a =>
    rw [hfn] at h
    cases hgn : g n with
    | none =>
      rw [hgn] at h
      unfold h0 at h
      rw [hgn, hfn] at h
      cases h
      exact ⟨a, rfl, rfl⟩
    | some b =>
      rw [hgn] at h
      cases hm : meet a b with
      | some s => exact ⟨s, by rw [← Option.some.inj h, hm], hm⟩
      | none =>
        exfalso
        have : clash f g = true := List.any_eq_true.mpr ⟨n, hf n a hfn, by unfold clash1; rw [hfn, hgn]; show (meet a b).isNone = true; rw [hm] <;> rfl⟩
        rw [hc] at this
        cases this
def spAnd (K : PySem.W.Frag) : Sp := fun vs H Q _ => ∃ u v f g, vs = [u, v] ∧ RoomAt K f u H ∧ RoomAt K g v H ∧ ∀ z H', Ext H H' → RoomO K (meetF f g) z H' → Q z H'
def N42_4 : List Str := ["self", "other", "name", "found", "span"]
theorem sc42_4 : FnScope N42_4 ["self", "other"] (defScope (mth 42 4)) := ⟨rfl, rfl, rfl, by decide +kernel, rfl, by decide +kernel, by decide +kernel⟩
theorem r_and (T : Tx K mg) (Y : TyP P K) : FnR P w K mg base CX0 8 (mA K "Room" "__and__") (spAnd K) := by
  obtain ⟨fd, F⟩ := T.mf "Room" "__and__" "Room.__and__" 42 4
  obtain ⟨pn, gn, fdn, hpn, Gn, Bn⟩ := r_names (P := P) (w := w) (base := base) T
  obtain ⟨pm, gm, cm, RM⟩ := r_rmof (P := P) (w := w) (base := base) T Y
  refine fnR_of F sc42_4 (fun _ _ _ _ _ _ us hl => match us, hl with | [_, _], _ => rfl) (fun vs H Q E h => ?_) (fun cdv A outer s H vs Q E hr h => ⟨_, PSs.nox (pss_cons
    (ps_set (i := 3) sc42_4.nd rfl (.inl rfl) (pe_callTy (call_dictP rfl) (by rfl) (T.no "dict") (by decide +kernel) (pa_cons
      (pe_lc (own := [("name", 2), ("span", 4)]) (g := gTup K 2 (gCons (gName 2) (gCons (gName 4) gNil))) (tt := tYes) rfl sc42_4.nd
        (pi_list (pe_lst (pa_starItems rfl (pe_fld (pv 0) rfl) (pa_starItems rfl (pe_fld (pv 1) rfl) pa_nil)))) (blkOk_by (N := N42_4) (sc := defScope (mth 42 4)) (by decide +kernel))
        (fun _ _ _ _ _ => pg_tup (by rfl) (pgs_cons (pg_name (i := 2) sc42_4.nd rfl (Or.inl rfl)) (pgs_cons (pg_name (i := 4) sc42_4.nd rfl (Or.inl rfl)) pgs_nil))) (fun _ _ _ _ _ => pts_nil)
        (fun _ _ _ _ _ => pe_tup (pa_cons (pv 2) (pa_cons (pe_callF (r_sval T) (hr.mono (by decide)) rfl (T.gl "span_value") (T.kp "span_value") pass0 (pa_cons (pv 4) pa_nil)) pa_nil)))) pa_nil)))
    (pss_cons (ps_for PassesOwn.never rfl (pi_tup (pe_prop (pv 0) (T.ci "Room").cl hpn Gn (hr.mono (by decide)) Bn .nil pass0 (by rfl))) (pg_name (i := 2) sc42_4.nd rfl (Or.inl rfl))
      (pss_one (ps_if (pt_cmpR (op_inN T "Room" r4.1 r4.2.1 r4.2.2 rfl rfl (hr.mono (by decide))) (pv 2) (pv 1) (by rfl))
        (pss_one (ps_dput (hu_of hr) (pv 3) (pv 2) (pe_callF (r_share T) (hr.mono (by decide)) rfl (T.gl "shared_span") (T.kp "shared_span") pass0 (pa_cons (pe_getN T "Room" r4.1 r4.2.1 r4.2.2 rfl rfl (hr.mono (by decide)) (pv 0) (pv 2) (fun _ _ => rfl)) (pa_cons (pe_getN T "Room" r4.1 r4.2.1 r4.2.2 rfl rfl (hr.mono (by decide)) (pv 1) (pv 2) (fun _ _ => rfl)) pa_nil))) rfl)) pss_nil)))
    (pss_one (ps_ret (pe_ifExp (pt_lock (pt_cmp (pc_noneVals rfl (T.me "Ratio" "__eq__").at_ (T.me "Ratio" "__eq__").fn T.nfi (r_req T) (hr.mono (by decide)) pass0 (pv 3)) rfl)) pe_non
      (ClX.pe_cmeth (pe_glob (v := .ref (gA K "Room")) rfl (T.gl "Room") rfl) (T.rd "Room") cm RM hr pass0 (pa_cons (pv 3) pa_nil))))))), ?_⟩)
  · obtain ⟨u, v, f, g, rfl, _⟩ := h
    rfl
  · obtain ⟨u, v, f, g, rfl, ⟨f4, a, dx, d, kvs, rfl, ha, hd, df⟩, ⟨g4, b, db, e, lvs, rfl, hb, he, dg⟩, q⟩ := h
    have cl := (T.ci "Room").cl
    have na := T.nf "Room" "held"
    have hz : 1000 ≤ sizeLine := by decide
    have lf := len_nms f
    have lg := len_nms g
    have lk := df.len
    have ll := dg.len
    refine ⟨_, rfl, a, _, dx, [("held", .ref d)], _, rfl, ha, cl, na, rfl, d, kvs, rfl, .inl hd, fun H1 ts e1 p1 => ⟨_, rfl, b, _, db, [("held", .ref e)], _, rfl, e1 _ _ hb, cl, na, rfl, e, lvs, rfl, .inl (e1 _ _ he), fun H2 us e2 p2 => ⟨?_, fun p hp => ⟨p, rfl, ⟨_, SqL.of upd_same⟩, fun D hD => ?_⟩⟩⟩⟩
    · have a1 := Paired.length p1
      have a2 := Paired.length p2
      simp only [List.length_append, List.length_map, List.length_nil]
      omega
    rw [List.append_nil, ← List.map_append] at hD ⊢
    have pq : Paired (fun (t : Addr) (q : Key × V) => H2 t = some (.tup [kV q.1, q.2])) (ts ++ us) (kvs ++ lvs) := paired_app (paired_imp p1 fun t q h => e2 _ _ h) p2
    obtain ⟨L1, l1a, l1b, l1c⟩ := df.list
    obtain ⟨L2, l2a, l2b, l2c⟩ := dg.list
    have E2 := e1.trans e2
    have pL : Paired (fun (q : Key × V) (p : Str × Spn) => q.1 = Sum.inr p.1 ∧ SpanAt K p.2 q.2 H) (kvs ++ lvs) (L1 ++ L2) := paired_app l1c l2c
    have e3 := ext1 (o := .lst ((ts ++ us).map V.ref)) hp
    have E3 := E2.trans e3
    have pq3 := paired_imp pq fun t q h => e3 _ _ h
    have hl3 : SqL K (upd H2 p (.lst ((ts ++ us).map V.ref))) p ((ts ++ us).map V.ref) := SqL.of upd_same
    have lts : (ts ++ us).length ≤ 8 := by
      have := Paired.length pq
      rw [this, List.length_append]
      omega
    have lL : (ts ++ us).length = (L1 ++ L2).length := (Paired.length pq).trans (Paired.length pL)
    generalize upd H2 p (.lst ((ts ++ us).map V.ref)) = H3 at *
    refine lc_list (K := K) (a := p) (xs := (ts ++ us).map V.ref) (fun i H' => ∃ (ps : List Addr) (ws : List (Key × V)), H' D = some (.lst (ps.map V.ref)) ∧ Paired (fun (p : Addr) (kv : Key × V) => H' p = some (.tup [kV kv.1, kv.2])) ps ws ∧
      Paired (fun (p : Str × Spn) (q : Key × V) => q.1 = Sum.inr p.1 ∧ Told K p.2 q.2 H') ((L1 ++ L2).take i) ws ∧ Ext H3 H') ⟨[], [], upd_same, .nil, .nil, ext1 hD⟩ ?_ ?_ ?_
    · rintro i H' _ ⟨_, _, _, _, _, x⟩
      exact hl3.ext x
    · rintro i x H' hx ⟨ps, ws, hDl, hps, hws, ex⟩
      rw [List.getElem?_map] at hx
      obtain ⟨t, ht, rfl⟩ := Option.map_eq_some_iff.mp hx
      obtain ⟨⟨k, v⟩, hq, hT⟩ := paired_get pq3 ht
      obtain ⟨⟨n, s⟩, hL, hk, hS⟩ := paired_get pL hq
      have hk' : k = Sum.inr n := hk
      subst hk'
      have hS' : SpanAt K s v H' := SpanAt.ext hS (E3.trans ex)
      refine ⟨t, _, rfl, SqT.of (ex _ _ hT), rfl, _, _, rfl, _, _, rfl, rfl, rfl, ?_⟩
      unfold tYes
      have lps : ps.length = i := by
        have a1 := Paired.length hps
        have a2 := Paired.length hws
        rw [List.length_take] at a2
        have a3 := (List.getElem?_eq_some_iff.mp hL).1
        omega
      refine iteT ⟨_, rfl, _, rfl, v, s, rfl, hS', fun z H5 e5 hz5 => ⟨by show 2 ≤ sizeLine; decide, fun p5 hp5 => ⟨ps.map V.ref, ?_, ?_, ps ++ [p5], ws ++ [(Sum.inr n, z)], ?_, ?_, ?_, ?_⟩⟩⟩
      · have : D ≠ p5 := fun y => by rw [← y, e5 _ _ hDl] at hp5; cases hp5
        rw [upd_ne this]
        exact e5 _ _ hDl
      · rw [List.length_map]
        have a3 := (List.getElem?_eq_some_iff.mp ht).1
        omega
      all_goals have hDp : D ≠ p5 := fun y => by rw [← y, e5 _ _ hDl] at hp5; cases hp5
      all_goals have hP : Plain (upd H5 p5 (.tup [V.str n, z])) D := ⟨fun _ _ _ y => (by rw [upd_ne hDp, e5 _ _ hDl] at y; cases y), fun _ y => (by rw [upd_ne hDp, e5 _ _ hDl] at y; cases y)⟩
      all_goals have eD : ExtB D (upd H5 p5 (.tup [V.str n, z])) (upd (upd H5 p5 (.tup [V.str n, z])) D (.lst (ps.map V.ref ++ [.ref p5]))) := fun c o hc hh => by rw [upd_ne hc]; exact hh
      · rw [List.map_append]
        exact upd_same
      · refine paired_snoc (paired_imp hps fun pp kv h => eD _ _ (fun y => by rw [y, hDl] at h; cases h) (ext1 hp5 _ _ (e5 _ _ h))) ?_
        exact eD _ _ (Ne.symm hDp) upd_same
      · rw [List.take_add_one, hL]
        refine paired_snoc (paired_imp hws fun pp kv h => ⟨h.1, (Told.ext h.2 (e5.trans (ext1 hp5))).off hP eD⟩) ⟨rfl, (hz5.ext (ext1 hp5)).off hP eD⟩
      · intro c o hc
        refine eD _ _ (fun y => ?_) (ext1 hp5 _ _ (e5 _ _ (ex _ _ hc)))
        rw [y, hD] at hc
        cases hc
    rintro H4 ⟨ps, ws, hDl, hps, hws, ex⟩
    rw [List.length_map, lL, List.take_length] at hws
    refine ⟨D, ps, ws, rfl, SqL.of hDl, paired_imp hps fun p kv h => SqT.of h, fun M hM => ?_⟩
    have E4 := E3.trans ex
    obtain ⟨ns, D0, ndn, hmn⟩ : ∃ ns, DictF (ToldO K) (h0 f g) ns (mergeK [] ws) H4 ∧ ns.Nodup ∧ ∀ n, n ∈ ns ↔ (f n).isSome = true ∨ (g n).isSome = true := by
      obtain ⟨w1, w2, rfl, q1, q2⟩ := paired_split hws
      have d1 : DictF (ToldO K) (fun n => (f n).map some) (nms f) w1 H4 := by
        rw [← l1a]
        exact (DictF.of_list q1 l1b).imp fun n _ s v hs hv => ⟨some s, by simp only [hs]; rfl, hv⟩
      have d2 : DictF (ToldO K) (fun n => (g n).map some) (nms g) w2 H4 := by
        rw [← l2a]
        exact (DictF.of_list q2 l2b).imp fun n _ s v hs hv => ⟨some s, by simp only [hs]; rfl, hv⟩
      obtain ⟨n1, x1, x2, x3⟩ := merge_blk d1 (h := fun _ => none) (ns := []) (kvs := []) (nodup_nms f) .nil List.nodup_nil
      obtain ⟨n2, y1, y2, y3⟩ := merge_blk d2 (nodup_nms g) x1 x2
      refine ⟨n2, ?_, y2, fun n => ?_⟩
      · have em : mergeK [] (w1 ++ w2) = mergeK (mergeK [] w1) w2 := List.foldl_append ..
        rw [em]
        have ef : (fun n => if n ∈ nms g then (fun n => (g n).map some) n else if n ∈ nms f then (fun n => (f n).map some) n else none) = h0 f g := by
          funext n
          unfold h0
          cases hgn : g n with
          | some b =>
            rw [if_pos ((mem_nms g4 n).mpr (by rw [hgn] <;> rfl))]
            simp only [hgn]
            rfl
          | none =>
            rw [if_neg (fun z => by have := (mem_nms g4 n).mp z; rw [hgn] at this; cases this)]
            cases hfn : f n with
            | some a =>
              rw [if_pos ((mem_nms f4 n).mpr (by rw [hfn] <;> rfl))]
              simp only [hfn]
            | none =>
              rw [if_neg (fun z => by have := (mem_nms f4 n).mp z; rw [hfn] at this; cases this)]
              rfl
        rw [ef] at y1
        exact y1
      · rw [y3, x3, mem_nms f4, mem_nms g4]
        simp
    have E5 := E4.trans (ext1 (o := .dK (mergeK [] ws)) hM)
    have D5 := D0.ext monoO (ext1 (o := .dK (mergeK [] ws)) hM)
    have hMd : upd H4 M (.dK (mergeK [] ws)) M = some (.dK (mergeK [] ws)) := upd_same
    have nM : ∀ c o, H c = some o → c ≠ M := fun c o hc z => by
      have := E4 _ _ hc
      rw [z, hM] at this
      cases this
    generalize upd H4 M (.dK (mergeK [] ws)) = H5 at *
    generalize mergeK [] ws = kvs0 at *
    refine ⟨_, rfl, a, dx, _, rfl, E5 _ _ ha, a, kvs, rfl, ⟨dx, d, E5 _ _ ha, .inl (E5 _ _ hd)⟩, fun p6 hp6 => ⟨p6, rfl, ⟨_, SqT.of upd_same⟩, ?_⟩⟩
    have ek : (kvs.map fun kv => kV kv.1) = (nms f).map V.str := by
      have := congrArg (List.map kV) df.ks
      rw [List.map_map, List.map_map] at this
      exact this
    rw [ek]
    have E6 := E5.trans (ext1 (o := .tup ((nms f).map V.str)) hp6)
    have D6 := D5.ext monoO (ext1 (o := .tup ((nms f).map V.str)) hp6)
    have hM6 := ext1 (o := .tup ((nms f).map V.str)) hp6 _ _ hMd
    have hp7 : upd H5 p6 (.tup ((nms f).map V.str)) p6 = some (.tup ((nms f).map V.str)) := upd_same
    have hpM : p6 ≠ M := fun z => by rw [z, hMd] at hp6; cases hp6
    generalize upd H5 p6 (.tup ((nms f).map V.str)) = H6 at *
    refine for_tup (K := K) (a := p6) (xs := (nms f).map V.str) (fun i σ' H' => (∃ z, σ' = [some (.ref a), some (.ref b), z, some (.ref M), none]) ∧ ExtB M H6 H' ∧ ∃ kvs', H' M = some (.dK kvs') ∧
      DictF (ToldO K) (fun n => if n ∈ (nms f).take i then h1 f g n else h0 f g n) ns kvs' H') ⟨⟨none, rfl⟩, fun _ _ _ h => h, kvs0, hM6, ?_⟩ ?_ ?_ ?_
    · have ef : (fun n => if n ∈ (nms f).take 0 then h1 f g n else h0 f g n) = h0 f g := by
        funext n
        rw [List.take_zero, if_neg List.not_mem_nil]
      rw [ef]
      exact D6
    · rintro i σ' H' _ ⟨_, ex2, _⟩
      exact SqT.of (ex2 _ _ hpM hp7)
    · rintro i x σ' H' hx ⟨⟨z, rfl⟩, ex2, kvs', hMk, DF⟩
      rw [List.getElem?_map] at hx
      obtain ⟨n, hn, rfl⟩ := Option.map_eq_some_iff.mp hx
      have E7 : Ext H H' := fun c o hc => ex2 c o (nM c o hc) (E6 _ _ hc)
      have hfn : (f n).isSome = true := (mem_nms f4 n).mp (List.mem_of_getElem? hn)
      obtain ⟨va, sa, hva, hsa, hSa⟩ := (df.ext monoS E7).get1 (List.mem_of_getElem? hn)
      have hb' := E7 _ _ hb
      have he' := E7 _ _ he
      refine ⟨_, rfl, _, rfl, b, db, _, rfl, hb', b, n, lvs, rfl, ⟨db, e, hb', .inl he'⟩, _, rfl, _, rfl, ?_⟩
      have et : ∀ m, (m ∈ (nms f).take (i + 1)) ↔ (m ∈ (nms f).take i ∨ m = n) := fun m => by
        rw [List.take_add_one, hn, List.mem_append]
        simp
      cases hgn : g n with
      | none =>
        have hv0 : valV lvs (Sum.inr n) = none := (dg.ext monoS E7).get0 fun hm => by
          have := (mem_nms g4 n).mp hm
          rw [hgn] at this
          cases this
        rw [hv0]
        refine iteF ⟨⟨_, rfl⟩, ex2, kvs', hMk, ?_⟩
        have ef : (fun m => if m ∈ (nms f).take (i + 1) then h1 f g m else h0 f g m) = (fun m => if m ∈ (nms f).take i then h1 f g m else h0 f g m) := by
          funext m
          by_cases c : m = n
          · have e1 : h1 f g n = h0 f g n := by unfold h1; rw [hgn]; cases f n <;> rfl
            rw [c, e1]
            simp
          · by_cases c2 : m ∈ (nms f).take i
            · rw [if_pos ((et m).mpr (.inl c2)), if_pos c2]
            · rw [if_neg (fun y => ((et m).mp y).elim c2 c), if_neg c2]
        rw [ef]
        exact DF
      | some sb =>
        obtain ⟨vb, sb', hvb, hsb, hSb⟩ := (dg.ext monoS E7).get1 ((mem_nms g4 n).mpr (by rw [hgn] <;> rfl))
        rw [hgn] at hsb
        cases hsb
        rw [hvb]
        have ha' := E7 _ _ ha
        have hd' := E7 _ _ hd
        refine iteT ⟨_, rfl, _, rfl, a, dx, _, rfl, ha', a, n, kvs, va, rfl, ⟨dx, d, ha', .inl hd'⟩, hva, _, rfl, _, rfl, b, db, _, rfl, hb', b, n, lvs, vb, rfl, ⟨db, e, hb', .inl he'⟩, hvb, va, vb, sa, sb, rfl, hSa, hSb, fun y H8 e8 hy => ⟨_, rfl, _, rfl, M, _, rfl, DPut.k (k := Sum.inr n) (e8 _ _ hMk) ?_, ⟨_, rfl⟩, ?_, _, upd_same, ?_⟩⟩
        · have a1 := DF.len
          have a2 : ns.length ≤ 4 := nodup4 (fun m hm => ((hmn m).mp hm).elim (fun h => by
            obtain ⟨s, e⟩ := Option.isSome_iff_exists.mp h
            exact f4 m s e) fun h => by
            obtain ⟨s, e⟩ := Option.isSome_iff_exists.mp h
            exact g4 m s e) ndn
          omega
        · intro c o hc hh
          rw [upd_ne hc]
          exact e8 _ _ (ex2 c o hc hh)
        · have D8 := (DF.ext monoO e8).again (g := fun m => if m ∈ (nms f).take (i + 1) then h1 f g m else h0 f g m) (n := n) (v := y) (s := meet sa sb) ((hmn n).mpr (.inl hfn)) hy ?_ ?_
          · exact D8.off offO (plain_dK (e8 _ _ hMk)) fun c o hc hh => by rw [upd_ne hc]; exact hh
          · intro m _ hmne
            by_cases c2 : m ∈ (nms f).take i
            · simp only [if_pos ((et m).mpr (.inl c2)), if_pos c2]
            · have c3 : ¬ m ∈ (nms f).take (i + 1) := fun y => ((et m).mp y).elim c2 hmne
              simp only [if_neg c3, if_neg c2]
          · simp only [if_pos ((et n).mpr (.inr rfl))]
            unfold h1
            rw [hsa, hgn]
    · rintro σ' H' ⟨⟨z, rfl⟩, ex2, kvs', hMk, DF⟩
      have E7 : Ext H H' := fun c o hc => ex2 c o (nM c o hc) (E6 _ _ hc)
      have DF1 : DictF (ToldO K) (h1 f g) ns kvs' H' := by
        have ef : (fun n => if n ∈ (nms f).take ((nms f).map V.str).length then h1 f g n else h0 f g n) = h1 f g := by
          funext m
          rw [List.length_map, List.take_length]
          by_cases c : m ∈ nms f
          · rw [if_pos c]
          · rw [if_neg c]
            have hfm : f m = none := by
              cases hfm : f m with
              | none => rfl
              | some s => exact absurd ((mem_nms f4 m).mpr (by rw [hfm] <;> rfl)) c
            unfold h1
            rw [hfm]
        rw [ef] at DF
        exact DF
      have hnon := any_non DF1 f4 fun n hn => (hmn n).mpr (.inl hn)
      refine ⟨M, _, hMk, by simp [Mut], fun od => ⟨_, rfl, M, od, kvs', rfl, upd_same, fun pk hpk => ?_, _, rfl, upd_same, ?_⟩⟩
      · obtain ⟨i, hi⟩ := List.mem_iff_getElem?.mp hpk
        obtain ⟨n, o, _, _, _, hA⟩ := DF1.ix (k := pk.1) (v := pk.2) hi
        exact ToldO.nv (ToldO.off hA (plain_dK hMk) fun c o hc hh => by rw [upd_ne hc]; exact hh)
      · rw [upd_upd, upd_id hMk, hnon]
        unfold meetF at q
        cases hcl : clash f g with
        | true =>
          rw [hcl] at q
          exact iteT (q _ _ E7 rfl)
        | false =>
          rw [hcl] at q
          have sub : ∀ n ∈ ns, ∃ s, comb f g n = some s := fun n hn => by
            obtain ⟨v, o, _, ho, _⟩ := DF1.get1 hn
            obtain ⟨s, _, hs⟩ := h1_comb hcl f4 ho
            exact ⟨s, hs⟩
          refine iteF ⟨rfl, _, rfl, M, kvs', ns, comb f g, rfl, hMk, DF1.imp fun n _ o v ho hv => ?_, f4.comb g4, ndn, fun n => ?_, fun z9 H9 e9 hR => q _ _ (E7.trans e9) hR⟩
          · obtain ⟨s, rfl, hs⟩ := h1_comb hcl f4 ho
            exact ⟨s, hs, hv⟩
          · constructor
            · intro hn
              obtain ⟨s, hs⟩ := sub n hn
              rw [hs] <;> rfl
            · intro hn
              rw [hmn]
              cases hfn : f n with
              | some a => exact .inl rfl
              | none =>
                unfold comb at hn
                rw [hfn] at hn
                exact .inr hn
end
end Bf
end

section
set_option Elab.async false
set_option linter.all false
set_option maxRecDepth 100000
/-! the law's pen and draws -/
namespace Bf
open PySem PySem.Spec PyProof.Rows L2
section
variable {P : Program} {w : World} {K : PySem.W.Frag} {mg : Str → Option Value} {base : Heap}
theorem cutS {t u : TS} {D : Ends} {σ : L2.St} {H : Hp} (R : L2.St → Hp → Prop) (hk : ∀ σ' H', R σ' H' → u D σ' H') (h : (∀ σ' H', R σ' H' → u D σ' H') → tSeq t u D σ H) : tSeq t u D σ H := h hk
theorem dpInts {H : Hp} : ∀ zs : List Int, DpAll K H (zs.map V.int) (zs.map PyData.int)
  | [] => .nil
  | z :: zs => .cons (.int z) (dpInts zs)
theorem shapedInts : ∀ zs : List Int, SeqAt.shaped (.list (zs.map PyData.int)) = true := PySem.W.ke_shaped_ints
theorem fmodB (i : Int) {m : Int} (hm : 0 < m) : 0 ≤ Int.fmod i m ∧ Int.fmod i m < m := by
  rw [Int.fmod_eq_emod_of_nonneg i (by omega)]
  exact ⟨Int.emod_nonneg _ (by omega), Int.emod_lt_of_pos _ hm⟩
/-- the pen at p: at most n cells were read -/
def PenAt (p c : Addr) (n : Int) (H : Hp) : Prop := ∃ (zs : List Int) (a l : Int), H p = some (.lst [.ref c, .int a, .int l]) ∧ H c = some (.lst (zs.map V.int)) ∧ c ≠ p ∧ zs.length ≤ 63 ∧ 0 ≤ a ∧ a ≤ n ∧ 0 ≤ l
theorem ExtB.trans {p : Addr} {H H1 H2 : Hp} (a : ExtB p H H1) (b : ExtB p H1 H2) : ExtB p H H2 := fun c o hc h => b c o hc (a c o hc h)
theorem ExtB.of {p : Addr} {H H1 : Hp} (a : Ext H H1) : ExtB p H H1 := fun c o _ h => a c o h
theorem ExtB.new {p q : Addr} {H H1 : Hp} {o : HO} (a : ExtB p H H1) (h : H1 q = none) : ExtB p H (upd H1 q o) := a.trans (.of (ext1 h))
theorem ExtB.self {p : Addr} {H : Hp} : ExtB p H H := fun _ _ _ h => h
theorem ExtB.at_ {p : Addr} {H : Hp} {o : HO} : ExtB p H (upd H p o) := fun c u hc h => by rw [upd_ne hc]; exact h
theorem PenAt.ext {p c : Addr} {n : Int} {H H' : Hp} (h : PenAt p c n H) (e : Ext H H') : PenAt p c n H' := by
  obtain ⟨zs, a, l, h1, h2, r⟩ := h
  exact ⟨zs, a, l, e _ _ h1, e _ _ h2, r⟩
theorem PenAt.le {p c : Addr} {n m : Int} {H : Hp} (h : PenAt p c n H) (e : n ≤ m) : PenAt p c m H := by
  obtain ⟨zs, a, l, h1, h2, h3, h4, h5, h6, h7⟩ := h
  exact ⟨zs, a, l, h1, h2, h3, h4, h5, by omega, h7⟩
theorem PenAt.plain {p c : Addr} {n : Int} {H : Hp} (h : PenAt p c n H) : Plain H p := by
  obtain ⟨zs, a, l, h1, _⟩ := h
  exact ⟨fun _ _ _ z => (by rw [h1] at z; cases z), fun _ z => (by rw [h1] at z; cases z)⟩
def spPen (K : PySem.W.Frag) : Sp := fun vs H Q _ => ∃ (a : Addr) (ns : List Int), vs = [.ref a] ∧ SqL K H a (ns.map V.int) ∧ ns.length ≤ 63 ∧ ∀ p c H', Ext H H' → H p = none → PenAt p c 0 H' → Q (.ref p) H'
theorem sc47 : FnScope ["_law_script"] ["_law_script"] (defScope (top 47)) := ⟨rfl, rfl, rfl, by decide +kernel, rfl, by decide +kernel, by decide +kernel⟩
theorem cut_ints (ns : List Int) (lo hi : Option Int) : ∃ zs : List Int, cutV (ns.map V.int) lo hi = zs.map V.int ∧ zs.length ≤ ns.length := by
  refine ⟨(ns.drop (HT.sIx ns.length 0 lo)).take (HT.sIx ns.length ns.length hi - HT.sIx ns.length 0 lo), ?_, ?_⟩
  · unfold cutV
    rw [List.length_map, List.map_take, List.map_drop]
  · rw [List.length_take, List.length_drop]
    omega
theorem r_pen (T : Tx K mg) : FnR P w K mg base CX0 1 (gA K "_law_pen") (spPen K) := by
  obtain ⟨fd, F⟩ := T.fd "_law_pen" 47
  refine fnR_of F sc47 (fun _ _ _ _ _ _ us hl => match us, hl with | [_], _ => rfl) (fun vs H Q E h => ?_) (fun cdv A outer s H vs Q E hr h => ⟨_, PSs.nox (pss_one
    (ps_ret (pe_lst (pa_cons (pe_callTy call_list_of (by rfl) (T.no "list") (by decide +kernel) (pa_cons (pe_slice sl_list (pv 0) po_none (po_some pe_int)) pa_nil)) (pa_cons pe_int (pa_cons pe_int pa_nil)))))), ?_⟩)
  · obtain ⟨a, ns, rfl, _⟩ := h
    rfl
  · obtain ⟨a, ns, rfl, hs, hl, q⟩ := h
    obtain ⟨zs, ez, lz⟩ := cut_ints ns none (some 63)
    refine ⟨_, rfl, 63, rfl, a, _, rfl, hs, fun p1 h1 => ⟨p1, _, rfl, .inl (SqL.of upd_same), fun p2 h2 => ⟨by show 3 ≤ sizeLine; decide, fun p3 h3 => ?_⟩⟩⟩
    have hp3 : H p3 = none := by
      have c1 : p3 ≠ p2 := fun z => by rw [z, upd_same] at h3; cases h3
      rw [upd_ne c1] at h3
      have c2 : p3 ≠ p1 := fun z => by rw [z, upd_same] at h3; cases h3
      rw [upd_ne c2] at h3
      exact h3
    have c1 : p2 ≠ p3 := fun z => by rw [← z, upd_same] at h3; cases h3
    exact q p3 p2 _ (((ext1 h1).trans (ext1 h2)).trans (ext1 h3)) hp3 ⟨zs, 0, 0, upd_same, by rw [upd_ne c1, ← ez]; exact upd_same, c1, by omega, by omega, by omega, by omega⟩
/-! a draw -/
def spDraw : Sp := fun vs H Q _ => ∃ (p c : Addr) (m n : Int), vs = [.ref p, .int m] ∧ PenAt p c n H ∧ n ≤ 100000 ∧ 1 ≤ m ∧ m ≤ 1000 ∧ ∀ d H', 0 ≤ d → d < m → ExtB p H H' → PenAt p c (n + 1) H' → Q (.int d) H'
def N48 : List Str := ["_law_pen_here", "_law_many", "_law_digit", "_law_at", "_law_cell", "_law_large", "_law_mixed"]
theorem sc48 : FnScope N48 ["_law_pen_here", "_law_many"] (defScope (top 48)) := ⟨rfl, rfl, rfl, by decide +kernel, rfl, by decide +kernel, by decide +kernel⟩
theorem r_draw (T : Tx K mg) : FnR P w K mg base CX0 1 (gA K "_law_draw") spDraw := by
  obtain ⟨fd, F⟩ := T.fd "_law_draw" 48
  refine fnR_of F sc48 (fun _ _ _ _ _ _ us hl => match us, hl with | [_, _], _ => rfl) (fun vs H Q E h => ?_) (fun cdv A outer s H vs Q E hr h => ⟨_, PSs.nox (pss_cons
    (ps_if (pt_cmpR op_gt (pe_ix ix_list (pv 0) pe_int (fun _ _ => rfl)) pe_int (nomark _))
      (pss_cons (ps_set (i := 2) sc48.nd rfl (.inl rfl) (pe_op op_modN (pe_callTy call_int1 (by rfl) (T.no "int") (by decide +kernel) (pa_cons (pe_ix ix_list (pv 0) pe_int (fun _ _ => rfl)) pa_nil)) (pv 1)))
      (pss_cons (ps_asg (pe_op op_fdiv (pe_ix ix_list (pv 0) pe_int (fun _ _ => rfl)) (pv 1)) (pg_sub (pv 0) pe_int set_list))
      (pss_one (ps_ret (pv 2))))) pss_nil)
    (pss_cons (ps_set (i := 3) sc48.nd rfl (.inl rfl) (pe_ix ix_list (pv 0) pe_int (fun _ _ => rfl)))
    (pss_cons (ps_asg (pe_op op_add (pv 3) pe_int) (pg_sub (pv 0) pe_int set_list))
    (pss_cons (ps_set (i := 4) sc48.nd rfl (.inl rfl) (pe_op op_add (pe_op op_mul pe_int (pv 3)) pe_int))
    (pss_cons (ps_if (pt_cmpR (op_neD hr.units) (pe_ix ix_list (pv 0) pe_int (fun _ _ => rfl)) (pe_lst pa_nil) (nomark _))
      (pss_one (ps_set (i := 4) sc48.nd rfl (.inl rfl) (pe_ix ix_list (pe_ix ix_list (pv 0) pe_int (fun _ _ => rfl)) (pe_op op_modN (pe_callTy call_int1 (by rfl) (T.no "int") (by decide +kernel) (pa_cons (pv 3) pa_nil)) (pe_callB call_len_seq (by rfl) (T.no "len") PySem.boot_len (pa_cons (pe_ix ix_list (pv 0) pe_int (fun _ _ => rfl)) pa_nil))) (fun _ _ => rfl)))) pss_nil)
    (pss_cons (ps_if (PW.pt (pw_and (pt_cmpR op_lt (pv 3) (pe_callB call_len_seq (by rfl) (T.no "len") PySem.boot_len (pa_cons (pe_ix ix_list (pv 0) pe_int (fun _ _ => rfl)) pa_nil)) (nomark _)) (pw_and1 (pt_cmpR op_ge (pe_callB call_abs (by rfl) (T.no "abs") (by decide +kernel) (pa_cons (pv 4) pa_nil)) (pe_op op_pow pe_int pe_int) (nomark _)))))
      (pss_cons (ps_set (i := 5) sc48.nd rfl (.inl rfl) (pe_op op_add (pe_op op_mul pe_int (pe_callB call_abs (by rfl) (T.no "abs") (by decide +kernel) (pa_cons (pv 4) pa_nil))) (pe_callTy call_int1 (by rfl) (T.no "int") (by decide +kernel) (pa_cons (pe_cmpR op_lt (pv 4) pe_int (nomark _)) pa_nil))))
      (pss_cons (ps_asg (pe_op op_fdiv (pv 5) (pv 1)) (pg_sub (pv 0) pe_int set_list))
      (pss_one (ps_ret (pe_op op_modN (pe_callTy call_int1 (by rfl) (T.no "int") (by decide +kernel) (pa_cons (pv 5) pa_nil)) (pv 1)))))) pss_nil)
    (pss_cons (ps_set (i := 6) sc48.nd rfl (.inl rfl) (pe_op op_modN (pe_op op_pow (pe_callTy call_int1 (by rfl) (T.no "int") (by decide +kernel) (pa_cons (pe_op op_add (pe_op op_add (pe_op op_modN (pe_callTy call_int1 (by rfl) (T.no "int") (by decide +kernel) (pa_cons (pv 4) pa_nil)) pe_int) (pe_op op_mul pe_int (pv 3))) pe_int) pa_nil)) pe_int) pe_int))
    (pss_cons (ps_set (i := 6) sc48.nd rfl (.inl rfl) (pe_op op_modN (pe_op op_pow (pe_callTy call_int1 (by rfl) (T.no "int") (by decide +kernel) (pa_cons (pe_op op_add (pe_op op_add (pe_op op_mul (pv 6) (pe_op op_add (pe_op op_mul pe_int (pv 3)) pe_int)) (pe_op op_mul (pe_op op_mul pe_int (pv 3)) (pv 3))) pe_int) pa_nil)) pe_int) pe_int))
    (pss_one (ps_ret (pe_op op_modN (pe_callTy call_int1 (by rfl) (T.no "int") (by decide +kernel) (pa_cons (pe_op op_fdiv (pv 6) pe_int) pa_nil)) (pv 1)))))))))))), ?_⟩)
  · obtain ⟨p, c, m, n, rfl, _⟩ := h
    rfl
  · obtain ⟨p, c, m, n, rfl, ⟨zs, a, l, hp, hc, hcp, hz, ha0, han, hl0⟩, hn, hm0, hm1, q⟩ := h
    have modB : ∀ i : Int, 0 ≤ Int.fmod i m ∧ Int.fmod i m < m := fun i => by
      rw [Int.fmod_eq_emod_of_nonneg i (by omega)]
      exact ⟨Int.emod_nonneg _ (by omega), Int.emod_lt_of_pos _ (by omega)⟩
    have divB : ∀ i : Int, 0 ≤ i → 0 ≤ i / m := fun i hi => Int.ediv_nonneg hi (by omega)
    refine ⟨_, rfl, p, _, _, _, rfl, rfl, SqL.of hp, atI_nat rfl, _, _, rfl, rfl, _, rfl, ite2 (fun hb => ?_) (fun hb => ?_)⟩
    · refine ⟨_, rfl, p, _, _, _, rfl, rfl, SqL.of hp, atI_nat rfl, .inl ⟨_, rfl, _, rfl, _, _, rfl, rfl, by omega, ?_⟩⟩
      refine ⟨_, rfl, p, _, _, _, rfl, rfl, SqL.of hp, atI_nat rfl, _, rfl, _, _, rfl, rfl, ⟨by omega, by omega⟩, _, rfl, p, _, _, 2, rfl, rfl, hp, rfl, ?_⟩
      refine ⟨_, rfl, q _ _ (modB l).1 (modB l).2 .at_ ⟨zs, a, l / m, upd_same, by rw [upd_ne hcp]; exact hc, hcp, hz, ha0, by omega, divB l hl0⟩⟩
    · refine ⟨_, rfl, p, _, _, _, rfl, rfl, SqL.of hp, atI_nat rfl, ?_⟩
      refine ⟨_, rfl, _, _, rfl, rfl, _, rfl, p, _, _, 1, rfl, rfl, hp, rfl, ?_⟩
      have hp1 : upd H p (.lst [.ref c, .int (a + 1), .int l]) p = some (.lst [.ref c, .int (a + 1), .int l]) := upd_same
      have hc1 : upd H p (.lst [.ref c, .int (a + 1), .int l]) c = some (.lst (zs.map V.int)) := by rw [upd_ne hcp]; exact hc
      have e1 : ExtB p H (upd H p (.lst [.ref c, .int (a + 1), .int l])) := .at_
      show tSeq _ _ _ _ (upd H p (.lst [.ref c, .int (a + 1), .int l]))
      generalize upd H p (.lst [.ref c, .int (a + 1), .int l]) = H1 at *
      refine ⟨_, rfl, _, _, rfl, rfl, .inl ⟨by decide, by decide⟩, _, _, rfl, rfl, ?_⟩
      dsimp only [gName]
      refine cutS (fun σ' H' => ∃ cell : Int, σ' = [some (.ref p), some (.int m), none, some (.int a), some (.int cell), none, none] ∧ ExtB p H H' ∧ H' p = some (.lst [.ref c, .int (a + 1), .int l]) ∧ H' c = some (.lst (zs.map V.int))) ?_ (fun hk => ?_)
      · rintro σ' H2 ⟨cell, rfl, e2, hp2, hc2⟩
        refine cutS (fun σ' H' => σ' = [some (.ref p), some (.int m), none, some (.int a), some (.int cell), none, none] ∧ H' = H2) ?_ (fun hk => ?_)
        · rintro σ' H3 ⟨rfl, rfl⟩
          obtain ⟨b1, b2⟩ := fmodB cell (m := 2147483549) (by decide)
          refine ⟨_, rfl, .inl ⟨_, rfl, _, _, rfl, rfl, by show (2147483549 : Int) ≠ 0; decide, _, rfl, _, _, rfl, rfl, .inl ⟨by decide, by decide⟩, _, _, rfl, rfl, _, _, rfl, rfl, ?_⟩⟩
          refine .inl ⟨_, rfl, _, _, rfl, rfl, ⟨by decide, by decide, ?_⟩, _, _, rfl, rfl, by show (2147483579 : Int) ≠ 0; decide, ?_⟩
          · show (Int.fmod cell 2147483549 + 55411 * a + 31).natAbs < 2 ^ 64
            omega
          obtain ⟨x1, x2⟩ := fmodB ((Int.fmod cell 2147483549 + 55411 * a + 31) ^ Int.toNat 5) (m := 2147483579) (by decide)
          dsimp only [gName]
          generalize Int.fmod ((Int.fmod cell 2147483549 + 55411 * a + 31) ^ Int.toNat 5) 2147483579 = mx at *
          have y1 : 0 ≤ mx * (2 * a + 73) := Int.mul_nonneg x1 (by omega)
          have y2 : mx * (2 * a + 73) ≤ 2147483579 * 200073 := Int.mul_le_mul (by omega) (by omega) (by omega) (by decide)
          have y3 : 0 ≤ 70001 * a * a := Int.mul_nonneg (by omega) ha0
          have y4 : 70001 * a * a ≤ 7000100000 * 100000 := Int.mul_le_mul (by omega) (by omega) ha0 (by decide)
          refine ⟨_, rfl, _, rfl, _, _, rfl, rfl, .inl ⟨by decide, by decide⟩, _, _, rfl, rfl, _, _, rfl, rfl, .inl ⟨by omega, by omega⟩, _, rfl, _, _, rfl, rfl, .inl ⟨by decide, by decide⟩, _, rfl, _, _, rfl, rfl, .inl ⟨by omega, by omega⟩, _, _, rfl, rfl, _, _, rfl, rfl, ?_⟩
          refine .inl ⟨_, rfl, _, _, rfl, rfl, ⟨by decide, by decide, ?_⟩, _, _, rfl, rfl, by show (2147483629 : Int) ≠ 0; decide, ?_⟩
          · show (mx * (2 * a + 73) + 70001 * a * a + 17).natAbs < 2 ^ 64
            omega
          dsimp only [gName]
          refine ⟨_, rfl, _, _, rfl, rfl, ⟨by decide, by decide⟩, .inl ⟨_, rfl, _, rfl, _, _, rfl, rfl, by omega, ?_⟩⟩
          exact q _ _ (modB _).1 (modB _).2 e2 ⟨zs, a + 1, l, hp2, hc2, hcp, hz, by omega, by omega, hl0⟩
        · refine ⟨_, rfl, _, rfl, p, _, _, _, rfl, rfl, SqL.of hp2, atI_nat rfl, c, _, rfl, .inl (SqL.of hc2), _, _, rfl, rfl, _, rfl, ite2 (fun _ => ?_) (fun _ => hk _ _ ⟨rfl, rfl⟩)⟩
          refine ⟨_, rfl, _, rfl, _, _, rfl, rfl, ⟨by decide, by decide, by decide⟩, _, _, rfl, rfl, _, rfl, ite2 (fun _ => ?_) (fun _ => hk _ _ ⟨rfl, rfl⟩)⟩
          refine ⟨_, rfl, _, rfl, _, _, rfl, rfl, .inl ⟨by decide, by decide⟩, _, rfl, _, _, rfl, rfl, .inr ⟨_, rfl, _, _, rfl, rfl, ?_⟩⟩
          have hbig : 0 ≤ 2 * (if cell < 0 then -cell else cell) + (if decide (cell < 0) = true then 1 else 0) := by
            split <;> split <;> omega
          dsimp only [gName]
          generalize 2 * (if cell < 0 then -cell else cell) + (if decide (cell < 0) = true then 1 else 0) = big at *
          refine ⟨_, rfl, _, rfl, _, _, rfl, rfl, ⟨by omega, by omega⟩, _, rfl, p, _, _, 2, rfl, rfl, hp2, rfl, ?_⟩
          refine ⟨_, rfl, .inl ⟨_, rfl, _, rfl, _, _, rfl, rfl, by omega, q _ _ (modB big).1 (modB big).2 (e2.trans .at_) ⟨zs, a + 1, big / m, upd_same, by rw [upd_ne hcp]; exact hc2, hcp, hz, by omega, by omega, divB big hbig⟩⟩⟩
      · refine ⟨_, rfl, p, _, _, _, rfl, rfl, SqL.of hp1, atI_nat rfl, by show 0 ≤ sizeLine; decide, fun p2 h2 => ⟨.list (zs.map .int), .list [], .lst (SqL.of (ext1 h2 _ _ hc1)) (dpInts zs), .lst (SqL.of upd_same) .nil, shapedInts zs, shapedInts [], _, rfl, ?_⟩⟩
        have hp2 := ext1 (o := .lst []) h2 _ _ hp1
        have hc2 := ext1 (o := .lst []) h2 _ _ hc1
        have e2 := e1.new (o := .lst []) h2
        generalize upd H1 p2 (.lst []) = H2 at *
        cases zs with
        | nil => exact iteF (hk _ _ ⟨_, rfl, e2, hp2, hc2⟩)
        | cons z zs =>
          have hln : (0 : Int) < ((z :: zs).length : Nat) := by rw [List.length_cons]; omega
          obtain ⟨b1, b2⟩ := fmodB a hln
          obtain ⟨j, ej, hj⟩ : ∃ j : Nat, Int.fmod a ((z :: zs).length : Nat) = (j : Int) ∧ j < (z :: zs).length := ⟨(Int.fmod a ((z :: zs).length : Nat)).toNat, by omega, by omega⟩
          refine iteT ⟨_, rfl, p, _, _, _, rfl, rfl, SqL.of hp2, atI_nat rfl, _, rfl, .inl ⟨_, rfl, _, rfl, p, _, _, _, rfl, rfl, SqL.of hp2, atI_nat rfl, c, _, rfl, .inl (SqL.of hc2), _, _, rfl, rfl, by rw [List.length_map]; omega, c, _, _, .int ((z :: zs)[j]), rfl, rfl, SqL.of hc2, ?_, ?_⟩⟩
          · show atI ((z :: zs).map V.int) (Int.fmod a (((z :: zs).map V.int).length : Nat)) = _
            rw [List.length_map, ej]
            refine atI_nat ?_
            rw [List.getElem?_map, List.getElem?_eq_getElem hj] <;> rfl
          · exact hk _ _ ⟨_, rfl, e2, hp2, hc2⟩
end
end Bf
end

section
set_option Elab.async false
set_option linter.all false
set_option maxRecDepth 100000
/-! the law's spans drawn -/
namespace Bf
open PySem PySem.Spec PyProof.Rows L2
section
variable {P : Program} {w : World} {K : PySem.W.Frag} {mg : Str → Option Value} {base : Heap}
def hv (o : Option Int) : V := match o with
  | none => .non
  | some h => .int h
/-- v is the list of the span s, in 12ths -/
def LAt (s : Spn) (v : V) (H : Hp) : Prop := s.Ok ∧ ∃ l, v = .ref l ∧ H l = some (.lst [.int s.lo, hv s.home, .int s.hi])
theorem LAt.ext {s : Spn} {v : V} {H H' : Hp} (h : LAt s v H) (e : Ext H H') : LAt s v H' := let ⟨a, l, b, c⟩ := h; ⟨a, l, b, e _ _ c⟩
theorem monoL : AtP.Mono LAt := fun _ _ _ _ h e => h.ext e
def spLSpan : Sp := fun vs H Q _ => ∃ (p c : Addr) (n : Int), vs = [.ref p] ∧ PenAt p c n H ∧ n ≤ 90000 ∧ ∀ v s H', ExtB p H H' → PenAt p c (n + 6) H' → LAt s v H' → Q v H'
def N49 : List Str := ["_law_pen_here", "_law_first", "_law_last", "_law_mid"]
theorem sc49 : FnScope N49 ["_law_pen_here"] (defScope (top 49)) := ⟨rfl, rfl, rfl, by decide +kernel, rfl, by decide +kernel, by decide +kernel⟩
theorem penNe {p c q : Addr} {n : Int} {H : Hp} (h : PenAt p c n H) (hq : H q = none) : p ≠ q := by
  obtain ⟨zs, a, l, h1, _⟩ := h
  intro z
  rw [z, hq] at h1
  cases h1
theorem r_lspan (T : Tx K mg) : FnR P w K mg base CX0 2 (gA K "_law_span") spLSpan := by
  obtain ⟨fd, F⟩ := T.fd "_law_span" 49
  refine fnR_of F sc49 (fun _ _ _ _ _ _ us hl => match us, hl with | [_], _ => rfl) (fun vs H Q E h => ?_) (fun cdv A outer s H vs Q E hr h => ⟨_, PSs.nox (pss_cons
    (ps_set (i := 1) sc49.nd rfl (.inl rfl) (pe_callF (r_draw T) hr rfl (T.gl "_law_draw") (T.kp "_law_draw") pass0 (pa_cons (pv 0) (pa_cons pe_int pa_nil))))
    (pss_cons (ps_set (i := 2) sc49.nd rfl (.inl rfl) (pe_op op_add (pv 1) (pe_ix ix_list (pe_lst (pa_cons pe_int (pa_cons pe_int (pa_cons (pe_callF (r_draw T) hr rfl (T.gl "_law_draw") (T.kp "_law_draw") pass0 (pa_cons (pv 0) (pa_cons pe_int pa_nil))) (pa_cons pe_int pa_nil))))) (pe_callF (r_draw T) hr rfl (T.gl "_law_draw") (T.kp "_law_draw") pass0 (pa_cons (pv 0) (pa_cons pe_int pa_nil))) (fun _ _ => rfl))))
    (pss_cons (ps_set (i := 3) sc49.nd rfl (.inl rfl) (pe_ix ix_list (pe_lst (pa_cons pe_non (pa_cons pe_non (pa_cons (pv 1) (pa_cons (pv 2) (pa_cons (pe_op op_add (pv 1) (pe_callF (r_draw T) hr rfl (T.gl "_law_draw") (T.kp "_law_draw") pass0 (pa_cons (pv 0) (pa_cons (pe_op op_add (pe_op op_sub (pv 2) (pv 1)) pe_int) pa_nil)))) pa_nil)))))) (pe_callF (r_draw T) hr rfl (T.gl "_law_draw") (T.kp "_law_draw") pass0 (pa_cons (pv 0) (pa_cons pe_int pa_nil))) (fun _ _ => rfl)))
    (pss_one (ps_ret (pe_ifExp (pt_cmpR op_eq (pv 1) (pv 2) (nomark _)) (pe_lst (pa_cons (pv 1) (pa_cons (pv 1) (pa_cons (pv 1) pa_nil)))) (pe_lst (pa_cons (pv 1) (pa_cons (pv 3) (pa_cons (pv 2) pa_nil))))))))))
    , ?_⟩)
  · obtain ⟨p, c, n, rfl, _⟩ := h
    rfl
  · obtain ⟨p, c, n, rfl, hP, hn, q⟩ := h
    have hz : 100 ≤ sizeLine := by decide
    refine ⟨_, rfl, p, c, 7, n, rfl, hP, by omega, by decide, by decide, fun f H1 f0 f1 e1 P1 => ?_⟩
    dsimp only [gName]
    refine cutS (fun σ' H' => ∃ L, σ' = [some (.ref p), some (.int f), some (.int L), none] ∧ f ≤ L ∧ L ≤ f + 6 ∧ ExtB p H H' ∧ PenAt p c (n + 3) H') ?_ (fun hk => ?_)
    · rintro σ' H2 ⟨L, rfl, L1, L2, e2, P2⟩
      refine cutS (fun σ' H' => ∃ o : Option Int, σ' = [some (.ref p), some (.int f), some (.int L), some (hv o)] ∧ (∀ h, o = some h → f ≤ h ∧ h ≤ L) ∧ ExtB p H H' ∧ PenAt p c (n + 5) H') ?_ (fun hk => ?_)
      · rintro σ' H3 ⟨o, rfl, ho, e3, P3⟩
        refine ⟨_, rfl, _, rfl, rfl, _, rfl, ite2 (fun hc => ?_) (fun hc => ?_)⟩
        · have hc' : f = L := by have := of_decide_eq_true hc; injection this
          subst hc'
          refine ⟨_, rfl, _, rfl, _, rfl, by show 3 ≤ sizeLine; decide, fun l hl => ?_⟩
          refine q _ ⟨f, some f, f⟩ _ (e3.new hl) ((P3.ext (ext1 hl)).le (by omega)) ⟨⟨by show 0 ≤ f; omega, by show f ≤ f; omega, by show f ≤ 12; omega, fun h e => ?_, fun _ => rfl⟩, l, rfl, upd_same⟩
          cases e
          exact ⟨Int.le_refl _, Int.le_refl _⟩
        · have hc' : ¬ f = L := fun z => hc (by rw [z]; exact decide_eq_true rfl)
          refine ⟨_, rfl, _, rfl, _, rfl, by show 3 ≤ sizeLine; decide, fun l hl => ?_⟩
          refine q _ ⟨f, o, L⟩ _ (e3.new hl) ((P3.ext (ext1 hl)).le (by omega)) ⟨⟨by show 0 ≤ f; omega, by show f ≤ L; omega, by show L ≤ 12; omega, ho, fun e => absurd e hc'⟩, l, rfl, upd_same⟩
      · refine ⟨_, rfl, _, rfl, _, rfl, _, rfl, _, rfl, _, rfl, _, _, rfl, rfl, _, _, rfl, rfl, p, c, _, n + 3, rfl, P2, by omega, by omega, by omega, fun d H3 d0 d1 e3 P3 => ⟨_, _, rfl, rfl, by show 5 ≤ sizeLine; decide, fun p2 h2 => ?_⟩⟩
        refine ⟨_, rfl, p, c, 5, n + 4, rfl, (P3.ext (ext1 h2)).le (by omega), by omega, by decide, by decide, fun j H4 j0 j1 e4 P4 => ?_⟩
        have hp2 : H4 p2 = some (.lst [.non, .non, .int f, .int L, .int (f + d)]) := e4 _ _ (Ne.symm (penNe P3 h2)) upd_same
        have eF : ExtB p H H4 := ((e2.trans e3).new h2).trans e4
        have PF : PenAt p c (n + 5) H4 := P4.le (by omega)
        rcases (show j = 0 ∨ j = 1 ∨ j = 2 ∨ j = 3 ∨ j = 4 by omega) with rfl | rfl | rfl | rfl | rfl
        · exact ⟨p2, _, _, _, rfl, rfl, SqL.of hp2, atI_nat (j := 0) rfl, hk _ _ ⟨none, rfl, fun h e => (nomatch e), eF, PF⟩⟩
        · exact ⟨p2, _, _, _, rfl, rfl, SqL.of hp2, atI_nat (j := 1) rfl, hk _ _ ⟨none, rfl, fun h e => (nomatch e), eF, PF⟩⟩
        · exact ⟨p2, _, _, _, rfl, rfl, SqL.of hp2, atI_nat (j := 2) rfl, hk _ _ ⟨some f, rfl, fun h e => (by cases e; omega), eF, PF⟩⟩
        · exact ⟨p2, _, _, _, rfl, rfl, SqL.of hp2, atI_nat (j := 3) rfl, hk _ _ ⟨some L, rfl, fun h e => (by cases e; omega), eF, PF⟩⟩
        · exact ⟨p2, _, _, _, rfl, rfl, SqL.of hp2, atI_nat (j := 4) rfl, hk _ _ ⟨some (f + d), rfl, fun h e => (by cases e; omega), eF, PF⟩⟩
    · refine ⟨_, rfl, _, rfl, p, c, 7, n + 1, rfl, P1, by omega, by decide, by decide, fun d H2 d0 d1 e2 P2 => ⟨by show 4 ≤ sizeLine; decide, fun p2 h2 => ?_⟩⟩
      refine ⟨_, rfl, p, c, 4, n + 2, rfl, (P2.ext (ext1 h2)).le (by omega), by omega, by decide, by decide, fun j H4 j0 j1 e4 P4 => ?_⟩
      have hp2 : H4 p2 = some (.lst [.int 0, .int 1, .int d, .int 6]) := e4 _ _ (Ne.symm (penNe P2 h2)) upd_same
      have eF : ExtB p H H4 := ((e1.trans e2).new h2).trans e4
      have PF : PenAt p c (n + 3) H4 := P4.le (by omega)
      rcases (show j = 0 ∨ j = 1 ∨ j = 2 ∨ j = 3 by omega) with rfl | rfl | rfl | rfl
      · exact ⟨p2, _, _, _, rfl, rfl, SqL.of hp2, atI_nat (j := 0) rfl, _, _, rfl, rfl, hk _ _ ⟨_, rfl, by omega, by omega, eF, PF⟩⟩
      · exact ⟨p2, _, _, _, rfl, rfl, SqL.of hp2, atI_nat (j := 1) rfl, _, _, rfl, rfl, hk _ _ ⟨_, rfl, by omega, by omega, eF, PF⟩⟩
      · exact ⟨p2, _, _, _, rfl, rfl, SqL.of hp2, atI_nat (j := 2) rfl, _, _, rfl, rfl, hk _ _ ⟨_, rfl, by omega, by omega, eF, PF⟩⟩
      · exact ⟨p2, _, _, _, rfl, rfl, SqL.of hp2, atI_nat (j := 3) rfl, _, _, rfl, rfl, hk _ _ ⟨_, rfl, by omega, by omega, eF, PF⟩⟩
end
end Bf
end

section
set_option Elab.async false
set_option linter.all false
set_option maxRecDepth 100000
/-! the law's dicts of spans -/
namespace Bf
open PySem PySem.Spec PyProof.Rows L2
section
variable {P : Program} {w : World} {K : PySem.W.Frag} {mg : Str → Option Value} {base : Heap}
theorem erase_map {α β : Type} (g : α → β) : ∀ (l : List α) (k : Nat), (l.map g).eraseIdx k = (l.eraseIdx k).map g
  | [], _ => by simp
  | x :: l, 0 => by simp
  | x :: l, k + 1 => by simp [erase_map g l k]
theorem nodup_erase {α : Type} : ∀ {l : List α} {k : Nat} {x : α}, l.Nodup → l[k]? = some x → x ∉ l.eraseIdx k
  | [], _, _, _, h => by simp at h
  | y :: l, 0, x, nd, h => by
    simp at h
    subst h
    simpa using (List.nodup_cons.mp nd).1
  | y :: l, k + 1, x, nd, h => by
    obtain ⟨h1, h2⟩ := List.nodup_cons.mp nd
    have h' : l[k]? = some x := by simpa using h
    simp only [List.eraseIdx_cons_succ, List.mem_cons, not_or]
    exact ⟨fun z => h1 (z ▸ List.mem_of_getElem? h'), nodup_erase h2 h'⟩
theorem PenAt.upd {p c q : Addr} {n : Int} {H : Hp} {o : HO} (h : PenAt p c n H) (h1 : q ≠ p) (h2 : q ≠ c) : PenAt p c n (upd H q o) := by
  obtain ⟨zs, a, l, x, y, r⟩ := h
  exact ⟨zs, a, l, by rw [upd_ne (Ne.symm h1)]; exact x, by rw [upd_ne (Ne.symm h2)]; exact y, r⟩
theorem penNc {p c q : Addr} {n : Int} {H : Hp} (h : PenAt p c n H) (hq : H q = none) : q ≠ c := by
  obtain ⟨zs, a, l, _, x, _⟩ := h
  intro z
  rw [← z, hq] at x
  cases x
/-- v is the dict of the spans f -/
def SpansAt (f : Rm) (v : V) (H : Hp) : Prop := Four f ∧ ∃ d kvs ns, v = .ref d ∧ H d = some (.dK kvs) ∧ DictF LAt f ns kvs H ∧ ns.Nodup ∧ ∀ n, n ∈ ns ↔ (f n).isSome = true
theorem SpansAt.ext {f : Rm} {v : V} {H H' : Hp} (h : SpansAt f v H) (e : Ext H H') : SpansAt f v H' := by
  obtain ⟨a, d, kvs, ns, b, c, x, y⟩ := h
  exact ⟨a, d, kvs, ns, b, e _ _ c, x.ext monoL e, y⟩
/-- an object that is no list of a span -/
def NoL (H : Hp) (d : Addr) : Prop := ∀ a b c, H d ≠ some (.lst [.int a, b, c])
theorem LAt.off {s : Spn} {v : V} {H H' : Hp} {d : Addr} (h : LAt s v H) (p : NoL H d) (e : ExtB d H H') : LAt s v H' := by
  obtain ⟨ok, l, rfl, hl⟩ := h
  exact ⟨ok, l, rfl, e l _ (fun z => p _ _ _ (z ▸ hl)) hl⟩
theorem PenAt.noL {p c : Addr} {n : Int} {H : Hp} (h : PenAt p c n H) : NoL H p := by
  obtain ⟨zs, a, l, h1, _⟩ := h
  intro x y z e
  rw [h1] at e
  cases e
theorem SpansAt.off {f : Rm} {v : V} {H H' : Hp} {p c : Addr} {n : Int} (h : SpansAt f v H) (hp : PenAt p c n H) (e : ExtB p H H') : SpansAt f v H' := by
  obtain ⟨a, d, kvs, ns, b, c, x, y⟩ := h
  have hn := hp.noL
  refine ⟨a, d, kvs, ns, b, e _ _ (fun z => ?_) c, x.imp fun n _ s v hs hv => ⟨s, hs, hv.off hn e⟩, y⟩
  obtain ⟨zs, a', l, h1, _⟩ := hp
  rw [z, h1] at c
  cases c
def rLenK (K : PySem.W.Frag) : List V → Hp → VK → Prop := fun xs H Q => ∃ (p : Addr) (ys : List V), xs = [.ref p] ∧ (SqL K H p ys ∨ SqT K H p ys) ∧ Q (.int ys.length) H
theorem call_lenK {X : Cx} (hK : X.K = K) : CallR X (.builtin "len") (rLenK K) := by
  subst hK
  exact call_len_seq
def spSpans : Sp := fun vs H Q _ => ∃ (p c : Addr) (n : Int), vs = [.ref p] ∧ PenAt p c n H ∧ n ≤ 80000 ∧ ∀ v f H', ExtB p H H' → PenAt p c (n + 30) H' → SpansAt f v H' → Q v H'
def N50 : List Str := ["_law_pen_here", "_law_rest", "_law_turn"]
theorem sc50 : FnScope N50 ["_law_pen_here"] (defScope (top 50)) := ⟨rfl, rfl, rfl, by decide +kernel, rfl, by decide +kernel, by decide +kernel⟩
theorem r_spans (T : Tx K mg) : FnR P w K mg base CX0 3 (gA K "_law_spans") spSpans := by
  obtain ⟨fd, F⟩ := T.fd "_law_spans" 50
  refine fnR_of F sc50 (fun _ _ _ _ _ _ us hl => match us, hl with | [_], _ => rfl) (fun vs H Q E h => ?_) (fun cdv A outer s H vs Q E hr h => ⟨_, PSs.nox (pss_cons
    (ps_set (i := 1) sc50.nd rfl (.inr rfl) (pe_lst (pa_cons pe_str (pa_cons pe_str (pa_cons pe_str (pa_cons pe_str pa_nil))))))
    (pss_one (ps_ret (pe_callTy (call_dictP rfl) (by rfl) (T.no "dict") (by decide +kernel) (pa_cons
      (pe_lc (own := [("_law_turn", 2)]) (g := gName 2) (tt := tYes) (te := tTup (tCons (tBM K "list" rPopAt (tVar 1) (tCons (tCallF spDraw E0 (tCons (tVar 0) (tCons (tCB (rLenK K) (tCons (tVar 1) tNil)) tNil))) tNil)) (tCons (tCallF spLSpan E0 (tCons (tVar 0) tNil)) tNil))) rfl sc50.nd (pi_range1 (by rfl) (T.no "range") (pa_cons (pe_callF (r_draw T) (hr.mono (by decide)) rfl (T.gl "_law_draw") (T.kp "_law_draw") pass0 (pa_cons (pv 0) (pa_cons pe_int pa_nil))) pa_nil)) (blkOk_by (N := N50) (sc := defScope (top 50)) (by decide +kernel)) (fun _ _ _ _ _ => pg_name (i := 2) sc50.nd rfl (Or.inl rfl)) (fun _ _ _ _ _ => pts_nil)
        (fun _ _ _ _ _ => pe_tup (pa_cons (pe_bm PySem.F.plainAttrs_list PySem.F.slot_list_pop PySem.F.type_list_pop mt_popAt (pv 1) (pa_cons (pe_callF (r_draw T) (hr.mono (by decide)) rfl (T.gl "_law_draw") (T.kp "_law_draw") pass0 (pa_cons (pv 0) (pa_cons (pe_callB (call_lenK rfl) (by rfl) (T.no "len") PySem.boot_len (pa_cons (pv 1) pa_nil)) pa_nil))) pa_nil)) (pa_cons (pe_callF (r_lspan T) hr rfl (T.gl "_law_span") (T.kp "_law_span") pass0 (pa_cons (pv 0) pa_nil)) pa_nil)))) pa_nil))))), ?_⟩)
  · obtain ⟨p, c, n, rfl, _⟩ := h
    rfl
  · obtain ⟨p, c, n, rfl, hP, hn, q⟩ := h
    have hz : 100 ≤ sizeLine := by decide
    refine ⟨by show 4 ≤ sizeLine; decide, fun R hR => ?_⟩
    refine ⟨_, rfl, p, c, 4, n, rfl, hP.ext (ext1 hR), by omega, by decide, by decide, fun d H1 d0 d1 e1 P1 => ⟨_, rfl, by omega, by omega, fun D hD => ?_⟩⟩
    have hRp : R ≠ p := Ne.symm (penNe hP hR)
    have hR1 : H1 R = some (.lst ((["a", "w", "wt", "is"] : List Str).map V.str)) := e1 _ _ hRp upd_same
    have E1 : ExtB p H H1 := (ExtB.self.new hR).trans e1
    refine lc_range (lo := 0) (n := d.toNat) (fun i H' => ∃ (ps : List Addr) (ws : List (Key × V)) (L : List (Str × Spn)) (rs : List Str), H' D = some (.lst (ps.map V.ref)) ∧ ps.length = i ∧ Paired (fun (p : Addr) (kv : Key × V) => H' p = some (.tup [kV kv.1, kv.2])) ps ws ∧
      Paired (fun (p : Str × Spn) (q : Key × V) => q.1 = Sum.inr p.1 ∧ LAt p.2 q.2 H') L ws ∧ (L.map Prod.fst).Nodup ∧ rs.Nodup ∧ (∀ r ∈ rs, r ∈ names4) ∧ (∀ x ∈ L.map Prod.fst, x ∈ names4 ∧ x ∉ rs) ∧ H' R = some (.lst (rs.map V.str)) ∧ rs.length + i = 4 ∧ ExtB p H H' ∧ PenAt p c (n + 1 + 7 * i) H') ?_ ?_ ?_
    · have hDR : R ≠ D := fun z => by rw [← z, hR1] at hD; cases hD
      exact ⟨[], [], [], ["a", "w", "wt", "is"], upd_same, rfl, .nil, .nil, List.nodup_nil, by decide +kernel, by decide +kernel, fun x hx => (nomatch hx), by rw [upd_ne hDR]; exact hR1, rfl, E1.new hD, (P1.ext (ext1 hD)).le (by omega)⟩
    all_goals have hDR : R ≠ D := fun z => by rw [← z, hR1] at hD; cases hD
    all_goals have hDp : D ≠ p := Ne.symm (penNe P1 hD)
    all_goals have hRc : R ≠ c := penNc hP hR
    all_goals have hDc : D ≠ c := penNc P1 hD
    · rintro i H' hi ⟨ps, ws, L, rs, hDl, hpl, hps, hws, nL, nr, r4, L4, hRl, hrl, e, Pn⟩
      refine ⟨rfl, ?_⟩
      unfold tYes
      have hl0 : (0 : Int) < ((rs.map V.str).length : Nat) := by rw [List.length_map]; omega
      refine iteT ⟨_, rfl, .inl ⟨rfl, _, SqL.of hRl⟩, _, rfl, _, rfl, R, _, rfl, .inl (SqL.of hRl), p, c, _, _, rfl, Pn, by omega, by omega, by rw [List.length_map]; omega, fun j H2 j0 j1 e2 P2 => ?_⟩
      have hR2 := e2 _ _ hRp hRl
      have hj : j.toNat < rs.length := by rw [List.length_map] at j1; omega
      refine ⟨R, _, j, j.toNat, .str rs[j.toNat], rfl, rfl, hR2, by omega, by omega, seqIndex_of j0 j1, by rw [List.getElem?_map, List.getElem?_eq_getElem hj] <;> rfl, ?_⟩
      rw [erase_map]
      have P3 : PenAt p c (n + 1 + 7 * i + 1) (upd H2 R (.lst ((rs.eraseIdx j.toNat).map V.str))) := P2.upd hRp hRc
      refine ⟨_, rfl, p, c, _, rfl, P3, by omega, fun v s H4 e4 P4 hL => ⟨by show 2 ≤ sizeLine; decide, fun p5 hp5 => ?_⟩⟩
      have hD4 : H4 D = some (.lst (ps.map V.ref)) := e4 _ _ hDp (by rw [upd_ne (Ne.symm hDR)]; exact e2 _ _ hDp hDl)
      have hDp5 : D ≠ p5 := fun z => by rw [← z, hD4] at hp5; cases hp5
      have hR4 : H4 R = some (.lst ((rs.eraseIdx j.toNat).map V.str)) := e4 _ _ hRp upd_same
      have hRp5 : R ≠ p5 := fun z => by rw [← z, hR4] at hp5; cases hp5
      have hgx : rs[j.toNat]? = some rs[j.toNat] := List.getElem?_eq_getElem hj
      -- one thing that stands at H' stands behind the turn
      have mv : ∀ b o, b ≠ p → b ≠ R → b ≠ D → H' b = some o → upd (upd H4 p5 (.tup [V.str rs[j.toNat], v])) D (.lst (ps.map V.ref ++ [.ref p5])) b = some o := fun b o b1 b2 b3 hb => by
        rw [upd_ne b3]
        refine ext1 hp5 _ _ (e4 _ _ b1 ?_)
        rw [upd_ne b2]
        exact e2 _ _ b1 hb
      refine ⟨ps.map V.ref, by rw [upd_ne hDp5]; exact hD4, by rw [List.length_map]; omega, ps ++ [p5], ws ++ [(Sum.inr rs[j.toNat], v)], L ++ [(rs[j.toNat], s)], rs.eraseIdx j.toNat, ?_, ?_, ?_, ?_, ?_, ?_, ?_, ?_, ?_, ?_, ?_, ?_⟩
      · rw [List.map_append]
        exact upd_same
      · rw [List.length_append, hpl]; rfl
      · refine paired_snoc (paired_imp hps fun pp kv h => mv _ _ (fun z => ?_) (fun z => ?_) (fun z => ?_) h) (by rw [upd_ne (Ne.symm hDp5)]; exact upd_same)
        · obtain ⟨zs, a, l, x, _⟩ := Pn
          rw [z, x] at h
          cases h
        · rw [z, hRl] at h
          cases h
        · rw [z, hDl] at h
          cases h
      · refine paired_snoc (paired_imp hws fun pp kv h => ⟨h.1, ?_⟩) ⟨rfl, ?_⟩
        · obtain ⟨ok, l, el, hl⟩ := h.2
          refine ⟨ok, l, el, mv _ _ (fun z => ?_) (fun z => ?_) (fun z => ?_) hl⟩
          · exact Pn.noL _ _ _ (z ▸ hl)
          · rw [z, hRl] at hl
            cases rs with
            | nil => cases hl
            | cons a b => cases hl
          · rw [z, hDl] at hl
            cases ps with
            | nil => cases hl
            | cons a b => cases hl
        · obtain ⟨ok, l, el, hl⟩ := hL
          refine ⟨ok, l, el, ?_⟩
          have hlD : l ≠ D := fun z => by
            rw [z, hD4] at hl
            cases ps with
            | nil => cases hl
            | cons a b => cases hl
          rw [upd_ne hlD]
          exact ext1 hp5 _ _ hl
      · rw [List.map_append]
        refine List.nodup_append.mpr ⟨nL, List.nodup_cons.mpr ⟨List.not_mem_nil, List.nodup_nil⟩, fun x hx y hy z => ?_⟩
        simp only [List.map_cons, List.map_nil, List.mem_singleton] at hy
        rw [z, hy] at hx
        exact (L4 _ hx).2 (List.mem_of_getElem? hgx)
      · exact nr.eraseIdx _
      · exact fun r hr => r4 r (List.mem_of_mem_eraseIdx hr)
      · intro x hx
        rw [List.map_append, List.mem_append] at hx
        rcases hx with hx | hx
        · exact ⟨(L4 x hx).1, fun z => (L4 x hx).2 (List.mem_of_mem_eraseIdx z)⟩
        · simp only [List.map_cons, List.map_nil, List.mem_singleton] at hx
          rw [hx]
          exact ⟨r4 _ (List.mem_of_getElem? hgx), nodup_erase nr hgx⟩
      · rw [upd_ne hDR]
        exact ext1 hp5 _ _ hR4
      · rw [List.length_eraseIdx, if_pos hj]; omega
      · intro b o hb hh
        have hbR : b ≠ R := fun z => by rw [z, hR] at hh; cases hh
        have hbD : b ≠ D := fun z => by
          rw [z] at hh
          rw [E1 D _ hDp hh] at hD
          cases hD
        exact mv b o hb hbR hbD (e b o hb hh)
      · exact ((P4.ext (ext1 hp5)).upd hDp hDc).le (by push_cast; omega)
    · rintro H' ⟨ps, ws, L, rs, hDl, hpl, hps, hws, nL, nr, r4, L4, hRl, hrl, e, Pn⟩
      refine ⟨D, ps, ws, rfl, SqL.of hDl, paired_imp hps fun p kv h => SqT.of h, fun M hM => ?_⟩
      let f : Rm := fun n => (L.find? fun q => decide (q.1 = n)).map Prod.snd
      have hf : ∀ q ∈ L, f q.1 = some q.2 := by
        have key : ∀ (L : List (Str × Spn)), (L.map Prod.fst).Nodup → ∀ q ∈ L, (L.find? fun r => decide (r.1 = q.1)).map Prod.snd = some q.2 := by
          intro L
          induction L with
          | nil => intro _ q hq; cases hq
          | cons a L ih =>
            intro nd q hq
            obtain ⟨n1, n2⟩ := List.nodup_cons.mp nd
            rw [List.find?_cons]
            by_cases ca : a.1 = q.1
            · rw [decide_eq_true ca]
              rcases List.mem_cons.mp hq with z | z
              · rw [z] <;> rfl
              · exact absurd (List.mem_map_of_mem z) (ca ▸ n1)
            · rw [decide_eq_false ca]
              rcases List.mem_cons.mp hq with z | z
              · exact absurd (by rw [z]) ca
              · exact ih n2 q z
        exact key L nL
      have hd1 : DictF LAt f (L.map Prod.fst) ws H' := DictF.of_list hws hf
      obtain ⟨ns, x1, x2, x3⟩ := merge_blk hd1 (h := fun _ => none) (ns := []) (kvs := []) nL .nil List.nodup_nil
      have hfm : ∀ m s, f m = some s → m ∈ L.map Prod.fst := by
        intro m s hm
        obtain ⟨q, hq1, hq2⟩ := Option.map_eq_some_iff.mp hm
        have h1 := List.mem_of_find?_eq_some hq1
        have h2 := List.find?_some hq1
        have h3 : q.1 = m := of_decide_eq_true h2
        rw [← h3]
        exact List.mem_map_of_mem h1
      have ef : (fun n => if n ∈ L.map Prod.fst then f n else none) = f := by
        funext m
        by_cases cm : m ∈ L.map Prod.fst
        · rw [if_pos cm]
        · rw [if_neg cm]
          cases hm : f m with
          | none => rfl
          | some s => exact absurd (hfm m s hm) cm
      rw [ef] at x1
      refine q _ f _ (e.new hM) ((Pn.ext (ext1 hM)).le (by omega)) ⟨fun m s hm => (L4 m (hfm m s hm)).1, M, _, ns, rfl, upd_same, x1.ext monoL (ext1 hM), x2, fun m => ?_⟩
      rw [x3]
      constructor
      · rintro (z | z)
        · cases z
        · obtain ⟨q0, h1, h2⟩ := List.mem_map.mp z
          rw [← h2, hf q0 h1] <;> rfl
      · intro z
        obtain ⟨s, hs⟩ := Option.isSome_iff_exists.mp z
        exact .inr (hfm m s hs)
end
end Bf
end

section
set_option Elab.async false
set_option linter.all false
set_option maxRecDepth 100000
/-! the law's rooms -/
namespace Bf
open PySem PySem.Spec PyProof.Rows L2
section
variable {P : Program} {w : World} {K : PySem.W.Frag} {mg : Str → Option Value} {base : Heap}
theorem putK_putK (kvs : List (Key × V)) (k : Key) (a b : V) : putK (putK kvs k a) k b = putK kvs k b := by
  by_cases h : (kvs.any fun kv => decide (kv.1 = k)) = true
  · have e1 : putK kvs k a = kvs.map (fun kv => if kv.1 = k then (kv.1, a) else kv) := by unfold putK; rw [if_pos h]
    have e2 : putK kvs k b = kvs.map (fun kv => if kv.1 = k then (kv.1, b) else kv) := by unfold putK; rw [if_pos h]
    have h2 : ((kvs.map (fun kv => if kv.1 = k then (kv.1, a) else kv)).any fun kv => decide (kv.1 = k)) = true := by
      obtain ⟨q, hq, hk⟩ := List.any_eq_true.mp h
      have hk' : q.1 = k := of_decide_eq_true hk
      exact List.any_eq_true.mpr ⟨(q.1, a), List.mem_map.mpr ⟨q, hq, if_pos hk'⟩, decide_eq_true hk'⟩
    rw [e1, e2]
    unfold putK
    rw [if_pos h2, List.map_map]
    refine List.map_congr_left fun q _ => ?_
    show (if (if q.1 = k then (q.1, a) else q).1 = k then ((if q.1 = k then (q.1, a) else q).1, b) else (if q.1 = k then (q.1, a) else q)) = _
    by_cases c : q.1 = k
    · rw [if_pos c, if_pos c, if_pos c]
    · rw [if_neg c, if_neg c]
  · have e1 : putK kvs k a = kvs ++ [(k, a)] := by unfold putK; rw [if_neg h]
    have e2 : putK kvs k b = kvs ++ [(k, b)] := by unfold putK; rw [if_neg h]
    rw [e1, e2]
    have h2 : ((kvs ++ [(k, a)]).any fun kv => decide (kv.1 = k)) = true := by
      rw [List.any_append]
      simp
    unfold putK
    rw [if_pos h2, List.map_append]
    have e3 : kvs.map (fun kv => if kv.1 = k then (kv.1, b) else kv) = kvs := by
      have key : ∀ q ∈ kvs, (if q.1 = k then (q.1, b) else q) = q := fun q hq => by
        have : ¬ q.1 = k := fun z => h (List.any_eq_true.mpr ⟨q, hq, decide_eq_true z⟩)
        rw [if_neg this]
      calc kvs.map (fun kv => if kv.1 = k then (kv.1, b) else kv) = kvs.map id := List.map_congr_left key
        _ = kvs := List.map_id _
    rw [e3]
    simp
theorem putK_len (kvs : List (Key × V)) (k : Key) (v : V) : (putK kvs k v).length ≤ kvs.length + 1 := by
  unfold putK
  split
  · rw [List.length_map]; omega
  · rw [List.length_append]; exact Nat.le_refl _
/-- Ratio(n, b): the number c * n -/
theorem mk_ratio {H : Hp} {n c : Int} {b : Nat} {Q : VK} (hc : 0 < c) (h24 : (24 : Int) = c * b) (h1 : -100 ≤ c * n) (h2 : c * n ≤ 100) (q : ∀ v H', Ext H H' → NR K (c * n) v H' → Q v H') :
    ∀ x dx, H x = none → H dx = none → dx ≠ x → spRInit K [.ref x, .int n, .int b] (upd (upd H dx (.own x)) x (.ins (CRt K) dx [])) (fun v H2 => v = .non ∧ Q (.ref x) H2) E0 := by
  intro x dx hx hdx hne
  refine ⟨x, dx, n, c, b, rfl, upd_same, hc, h24, rfl, ?_⟩
  rw [upd_upd]
  exact q _ _ ((Ext.upd hdx).upd' (by rw [upd_ne (Ne.symm hne)]; exact hx)) ⟨h1, h2, x, dx, rfl, upd_same⟩
def spLRoom (K : PySem.W.Frag) : Sp := fun vs H Q _ => ∃ v f, vs = [v] ∧ SpansAt f v H ∧ ∀ z H', Ext H H' → RoomAt K f z H' → Q z H'
def N51 : List Str := ["_law_spans_here", "_law_found", "_law_tag", "_law_numbers", "_law_first", "_law_mid", "_law_last", "_law_one"]
theorem sc51 : FnScope N51 ["_law_spans_here"] (defScope (top 51)) := ⟨rfl, rfl, rfl, by decide +kernel, rfl, by decide +kernel, by decide +kernel⟩
theorem r_lroom (T : Tx K mg) (Y : TyP P K) : FnR P w K mg base CX0 8 (gA K "_law_room") (spLRoom K) := by
  obtain ⟨fd, F⟩ := T.fd "_law_room" 51
  obtain ⟨pm, gm, cm, RM⟩ := r_rmof (P := P) (w := w) (base := base) T Y
  refine fnR_of F sc51 (fun _ _ _ _ _ _ us hl => match us, hl with | [_], _ => rfl) (fun vs H Q E h => ?_) (fun cdv A outer s H vs Q E hr h => ⟨_, PSs.nox (pss_cons
    (ps_set (i := 1) sc51.nd rfl (.inl rfl) pe_dnewK)
    (pss_cons (ps_lock (ps_for PassesOwn.never rfl (pi_keys (pv 0)) (pg_name (i := 2) sc51.nd rfl (Or.inl rfl)) (pss_cons
      (ps_setLc (i := 3) (own := [("_law_one", 7)]) (g := gName 7) (tt := tYes) rfl sc51.nd rfl rfl (sw_true rfl rfl rfl (by decide +kernel)) (pi_list (pe_dget (hu_of hr) (pv 0) (pv 2) (fun _ _ => rfl))) (blkOk_by (N := N51) (sc := defScope (top 51)) (by decide +kernel)) (fun _ _ _ _ _ => pg_name (i := 7) sc51.nd rfl (Or.inl rfl)) (fun _ _ _ _ _ => pts_nil)
        (fun _ _ _ _ _ => pe_ifExp (pt_cmpR op_isN (pv 7) pe_non (nomark _)) pe_non (StX.pe_makeR T.rm (r_rinit T) (hr.mono (by decide)) rfl (T.gl "Ratio") pass0 (pa_cons (pv 7) (pa_cons pe_int pa_nil)))))
      (pss_cons (ps_asg (pv 3) (pg_unl (by rfl) (pgs_cons (pg_name (i := 4) sc51.nd rfl (Or.inl rfl)) (pgs_cons (pg_name (i := 5) sc51.nd rfl (Or.inl rfl)) (pgs_cons (pg_name (i := 6) sc51.nd rfl (Or.inl rfl)) pgs_nil)))))
      (pss_cons (ps_dput (hu_of hr) (pv 1) (pv 2) (pv 4) rfl)
      (pss_one (ps_if (pt_cmpR op_lt (pe_ix ix_list (pe_dget (hu_of hr) (pv 0) (pv 2) (fun _ _ => rfl)) pe_int (fun _ _ => rfl)) (pe_ix ix_list (pe_dget (hu_of hr) (pv 0) (pv 2) (fun _ _ => rfl)) pe_int (fun _ _ => rfl)) (nomark _))
        (pss_one (ps_dput (hu_of hr) (pv 1) (pv 2) (pe_ifExp (pt_cmpR op_isN (pv 5) pe_non (nomark _)) (pe_tup (pa_cons (pv 4) (pa_cons (pv 6) pa_nil))) (pe_tup (pa_cons (pv 4) (pa_cons (pv 5) (pa_cons (pv 6) pa_nil))))) rfl)) pss_nil)))))))
    (pss_one (ps_ret (ClX.pe_cmeth (pe_glob (v := .ref (gA K "Room")) rfl (T.gl "Room") rfl) (T.rd "Room") cm RM hr pass0 (pa_cons (pv 1) pa_nil)))))), ?_⟩)
  · obtain ⟨v, f, rfl, _⟩ := h
    rfl
  · obtain ⟨v, f, rfl, ⟨f4, d, kvs, ns, rfl, hd, df, nd, hm⟩, q⟩ := h
    have hz : 100 ≤ sizeLine := by decide
    have lk := df.len
    have hsub : ∀ n ∈ ns, n ∈ names4 := fun n hn => by
      obtain ⟨s, e⟩ := Option.isSome_iff_exists.mp ((hm n).mp hn)
      exact f4 n s e
    have l4 := nodup4 hsub nd
    intro M hM
    have hdM : d ≠ M := fun z => by rw [z, hM] at hd; cases hd
    refine ⟨d, .dK kvs, by rw [upd_ne hdM]; exact hd, by simp [Mut], fun od => ⟨_, rfl, d, od, rfl, .inl ⟨kvs, upd_same, ?_⟩⟩⟩
    have hMl : upd (upd H M (.dK [])) d (.frz od (.dK kvs)) M = some (.dK []) := by rw [upd_ne (Ne.symm hdM)]; exact upd_same
    have hdl : upd (upd H M (.dK [])) d (.frz od (.dK kvs)) d = some (.frz od (.dK kvs)) := upd_same
    have mv : ∀ b o, b ≠ d → H b = some o → b ≠ M ∧ upd (upd H M (.dK [])) d (.frz od (.dK kvs)) b = some o := fun b o hb hh => by
      have hbM : b ≠ M := fun z => by rw [z, hM] at hh; cases hh
      exact ⟨hbM, by rw [upd_ne hb, upd_ne hbM]; exact hh⟩
    have back : ∀ H', ExtB M (upd (upd H M (.dK [])) d (.frz od (.dK kvs))) H' → Ext H (upd H' d (.dK kvs)) := fun H' e b o hb => by
      by_cases c : b = d
      · rw [c] at hb ⊢
        rw [hd] at hb
        cases hb
        exact upd_same
      · obtain ⟨h1, h2⟩ := mv b o c hb
        rw [upd_ne c]
        exact e b o h1 h2
    generalize upd (upd H M (.dK [])) d (.frz od (.dK kvs)) = Hl at *
    refine for_gen (n := kvs.length) (fun i σ' H' => (∃ z2 z3 z4 z5 z6 z7, σ' = [some (.ref d), some (.ref M), z2, z3, z4, z5, z6, z7]) ∧ ExtB M Hl H' ∧ ∃ kvs', H' M = some (.dK kvs') ∧ DictF (Told K) f (ns.take i) kvs' H') ⟨⟨none, none, none, none, none, none, rfl⟩, .self, [], hMl, .nil⟩ ?_ ?_ ?_ ?_
    · rintro i σ' H' hi ⟨_, e, _⟩
      exact ⟨e _ _ hdM hdl, hi⟩
    · rintro σ' H' ⟨_, e, _⟩
      exact ⟨e _ _ hdM hdl, Nat.le_refl _⟩
    · rintro i x σ' H' H2 hi ⟨⟨z2, z3, z4, z5, z6, z7, rfl⟩, e, kvs', hMk, DF⟩ ⟨rfl, k, v0, hkv, rfl⟩
      obtain ⟨n, s0, hn, rfl, _, _⟩ := df.ix hkv
      obtain ⟨v', s, hv', hfs, ⟨ok, l, rfl, hl⟩⟩ := df.get1 (List.mem_of_getElem? hn)
      obtain ⟨o1, o2, o3, o4, o5⟩ := id ok
      obtain ⟨hlM, hll⟩ := mv l _ (fun z => by rw [z, hd] at hl; cases hl) hl
      have hl2 := e l _ hlM hll
      have hd2 := e d _ hdM hdl
      refine ⟨_, rfl, _, rfl, d, .ref l, rfl, .inl ⟨kvs, Sum.inr n, .inr ⟨od, hd2⟩, rfl, hv'.symm⟩, l, rfl, ⟨_, SqL.of hl2⟩, fun D hD => ?_⟩
      have hops : [V.int s.lo, hv s.home, .int s.hi] = ([some s.lo, s.home, some s.hi] : List (Option Int)).map hv := rfl
      have hMD : M ≠ D := fun z => by rw [← z, hMk] at hD; cases hD
      refine lc_list (K := K) (a := l) (xs := ([some s.lo, s.home, some s.hi] : List (Option Int)).map hv) (fun j H' => ∃ ys, H' D = some (.lst ys) ∧ Paired (fun o y => HomeAt K o y H') (([some s.lo, s.home, some s.hi] : List (Option Int)).take j) ys ∧ ExtB D H2 H') ⟨[], upd_same, .nil, fun b o hb hh => by rw [upd_ne hb]; exact hh⟩ ?_ ?_ ?_
      · rintro j H3 _ ⟨_, _, _, e3⟩
        exact SqL.of (e3 l _ (fun z => by rw [← z, hl2] at hD; cases hD) hl2)
      · rintro j x H3 hx ⟨ys, hDy, hys, e3⟩
        rw [List.getElem?_map] at hx
        obtain ⟨o, ho, rfl⟩ := Option.map_eq_some_iff.mp hx
        have hj := (List.getElem?_eq_some_iff.mp ho).1
        have lys : ys.length = j := by
          have := Paired.length hys
          rw [List.length_take] at this
          omega
        have hj3 : j < 3 := hj
        have hb : ∀ h, o = some h → 0 ≤ h ∧ h ≤ 12 := by
          intro h eh
          have hm' := List.mem_of_getElem? ho
          simp only [List.mem_cons, List.not_mem_nil, or_false] at hm'
          rcases hm' with z | z | z
          · rw [eh] at z; cases z; omega
          · obtain ⟨q1, q2⟩ := o4 h (z.symm.trans eh); omega
          · rw [eh] at z; cases z; omega
        have fin : ∀ (y : V) (H4 : Hp), Ext H3 H4 → HomeAt K o y H4 → ∃ acc, H4 D = some (.lst acc) ∧ acc.length < sizeLine ∧ ∃ ys, upd H4 D (.lst (acc ++ [y])) D = some (.lst ys) ∧ Paired (fun o y' => HomeAt K o y' (upd H4 D (.lst (acc ++ [y])))) (([some s.lo, s.home, some s.hi] : List (Option Int)).take (j + 1)) ys ∧ ExtB D H2 (upd H4 D (.lst (acc ++ [y]))) := by
          intro y H4 e4 hy
          have hD4 := e4 _ _ hDy
          have hP : Plain H4 D := ⟨fun _ _ _ z => (by rw [hD4] at z; cases z), fun _ z => (by rw [hD4] at z; cases z)⟩
          have eD : ExtB D H4 (upd H4 D (.lst (ys ++ [y]))) := fun b o hb hh => by rw [upd_ne hb]; exact hh
          refine ⟨ys, hD4, by omega, ys ++ [y], upd_same, ?_, fun b o hb hh => eD b o hb (e4 _ _ (e3 b o hb hh))⟩
          rw [List.take_add_one, ho]
          exact paired_snoc (paired_imp hys fun a b h => (HomeAt.ext h e4).off hP eD) (hy.off hP eD)
        refine ⟨rfl, ?_⟩
        unfold tYes
        refine iteT ⟨_, rfl, rfl, _, rfl, ?_⟩
        cases o with
        | none => exact iteT (fin .non H3 Ext.rfl' rfl)
        | some h =>
          obtain ⟨hb1, hb2⟩ := hb h rfl
          rw [show decide (hv (some h) = V.non) = false from decide_eq_false (fun z => nomatch z)]
          exact iteF ⟨_, rfl, mk_ratio (b := 12) (by decide) (by decide) (by omega) (by omega) fun y H4 e4 hy => fin y H4 e4 hy⟩
      rintro H3 ⟨ys, hDy, hys, e3⟩
      obtain ⟨y1, y2, y3, rfl, a1, a2, a3⟩ : ∃ y1 y2 y3, ys = [y1, y2, y3] ∧ NR K (2 * s.lo) y1 H3 ∧ HomeAt K s.home y2 H3 ∧ NR K (2 * s.hi) y3 H3 := by
        cases hys with
        | cons a t => cases t with
          | cons b t => cases t with
            | cons c t =>
              cases t
              exact ⟨_, _, _, rfl, a, b, c⟩
      have hM3 := e3 M _ hMD hMk
      have hd3 := e3 d _ (fun z => by rw [← z, hd2] at hD; cases hD) hd2
      have hl3 := e3 l _ (fun z => by rw [← z, hl2] at hD; cases hD) hl2
      have E3 : ExtB M Hl H3 := fun b o hb hh => e3 b o (fun z => by rw [z] at hh hb; rw [e D o hb hh] at hD; cases hD) (e b o hb hh)
      have DF3 : DictF (Told K) f (ns.take i) kvs' H3 := DF.ext monoT fun b o hb => e3 b o (fun z => by rw [z, hD] at hb; cases hb) hb
      refine ⟨_, rfl, D, [y1, y2, y3], rfl, SqL.of hDy, rfl, _, _, rfl, _, _, rfl, _, _, rfl, rfl, ?_⟩
      have lkv : kvs'.length ≤ 4 := by rw [DF.len, List.length_take]; omega
      refine ⟨_, rfl, _, rfl, _, rfl, M, _, rfl, DPut.k (k := Sum.inr n) hM3 (by omega), ?_⟩
      have hM4 : upd H3 M (.dK (putK kvs' (Sum.inr n) y1)) M = some (.dK (putK kvs' (Sum.inr n) y1)) := upd_same
      have eM : ExtB M H3 (upd H3 M (.dK (putK kvs' (Sum.inr n) y1))) := fun b o hb hh => by rw [upd_ne hb]; exact hh
      have pM := plain_dK hM3
      have hd4 := eM d _ hdM hd3
      have hl4 := eM l _ hlM hl3
      have hnew := take_new nd hn
      have dlen : (putK kvs' (Sum.inr n) y1).length ≤ 5 := Nat.le_trans (putK_len _ _ _) (by omega)
      -- the turn's end
      have fin : ∀ (H5 : Hp) (y : V) (σ5 : L2.St), ExtB M Hl H5 → H5 M = some (.dK (putK kvs' (Sum.inr n) y)) → DictF (Told K) f (ns.take i) kvs' H5 → Told K s y H5 → (∃ z2 z3 z4 z5 z6 z7, σ5 = [some (.ref d), some (.ref M), z2, z3, z4, z5, z6, z7]) →
          (∃ z2 z3 z4 z5 z6 z7, σ5 = [some (.ref d), some (.ref M), z2, z3, z4, z5, z6, z7]) ∧ ExtB M Hl H5 ∧ ∃ kvs', H5 M = some (.dK kvs') ∧ DictF (Told K) f (ns.take (i + 1)) kvs' H5 := by
        intro H5 y σ5 x1 x2 x3 x4 x5
        refine ⟨x5, x1, _, x2, ?_⟩
        rw [List.take_add_one, hn]
        exact x3.push hnew x4 (fun m _ => rfl) hfs
      refine ⟨_, rfl, _, rfl, d, .ref l, rfl, .inl ⟨kvs, Sum.inr n, .inr ⟨od, hd4⟩, rfl, hv'.symm⟩, l, _, _, _, rfl, rfl, SqL.of hl4, atI_nat (j := 0) rfl, _, rfl, _, rfl, d, .ref l, rfl, .inl ⟨kvs, Sum.inr n, .inr ⟨od, hd4⟩, rfl, hv'.symm⟩, l, _, _, _, rfl, rfl, SqL.of hl4, atI_nat (j := 2) rfl, _, _, rfl, rfl, _, rfl, ite2 (fun hc => ?_) (fun hc => ?_)⟩
      · have hlt : s.lo < s.hi := of_decide_eq_true hc
        have b1 := a1.off pM eM
        have b2 := a2.off pM eM
        have b3 := a3.off pM eM
        have DF4 := DF3.off offT pM eM
        have E4 := E3.trans eM
        generalize upd H3 M (.dK (putK kvs' (Sum.inr n) y1)) = H4 at *
        have put : ∀ (t : Addr) (o : HO) (y : V), H4 t = none → Told K s y (upd H4 t o) → y = .ref t → ∀ (σ5 : L2.St), (∃ z2 z3 z4 z5 z6 z7, σ5 = [some (.ref d), some (.ref M), z2, z3, z4, z5, z6, z7]) →
            (∃ z2 z3 z4 z5 z6 z7, σ5 = [some (.ref d), some (.ref M), z2, z3, z4, z5, z6, z7]) ∧ ExtB M Hl (upd (upd H4 t o) M (.dK (putK (putK kvs' (Sum.inr n) y1) (Sum.inr n) y))) ∧ ∃ kvs'', (upd (upd H4 t o) M (.dK (putK (putK kvs' (Sum.inr n) y1) (Sum.inr n) y))) M = some (.dK kvs'') ∧
              DictF (Told K) f (ns.take (i + 1)) kvs'' (upd (upd H4 t o) M (.dK (putK (putK kvs' (Sum.inr n) y1) (Sum.inr n) y))) := by
          intro t o y ht hy _ σ5 hσ
          have hMt := ext1 (o := o) ht _ _ hM4
          have e5 : ExtB M (upd H4 t o) (upd (upd H4 t o) M (.dK (putK (putK kvs' (Sum.inr n) y1) (Sum.inr n) y))) := .at_
          rw [putK_putK]
          rw [putK_putK] at e5
          exact fin _ y σ5 ((E4.new ht).trans e5) upd_same ((DF4.ext monoT (ext1 ht)).off offT (plain_dK hMt) e5) (hy.off (plain_dK hMt) e5) hσ
        refine ⟨_, rfl, rfl, _, rfl, ?_⟩
        cases hh : s.home with
        | none =>
          rw [hh] at b2
          have b2' : y2 = .non := b2
          subst b2'
          refine iteT ⟨_, rfl, _, rfl, by show 2 ≤ sizeLine; decide, fun t ht => ⟨_, rfl, _, rfl, M, _, rfl, DPut.k (k := Sum.inr n) (ext1 ht _ _ hM4) (by omega), ?_⟩⟩
          exact put t _ _ ht ⟨ok, .inr (.inl ⟨hlt, hh, t, y1, y3, rfl, upd_same, b1.ext (ext1 ht), b3.ext (ext1 ht)⟩)⟩ rfl _ ⟨_, _, _, _, _, _, rfl⟩
        | some h =>
          rw [hh] at b2
          have b2' : NR K (2 * h) y2 H4 := b2
          have en : decide (y2 = V.non) = false := by
            obtain ⟨_, _, r, dx, rfl, _⟩ := b2'
            exact decide_eq_false (fun z => nomatch z)
          rw [en]
          refine iteF ⟨_, rfl, _, rfl, _, rfl, by show 3 ≤ sizeLine; decide, fun t ht => ⟨_, rfl, _, rfl, M, _, rfl, DPut.k (k := Sum.inr n) (ext1 ht _ _ hM4) (by omega), ?_⟩⟩
          exact put t _ _ ht ⟨ok, .inr (.inr ⟨hlt, h, hh, t, y1, y2, y3, rfl, upd_same, b1.ext (ext1 ht), b2'.ext (ext1 ht), b3.ext (ext1 ht)⟩)⟩ rfl _ ⟨_, _, _, _, _, _, rfl⟩
      · have heq : s.lo = s.hi := by
          have : ¬ s.lo < s.hi := fun z => hc (decide_eq_true z)
          omega
        exact fin _ y1 _ (E3.trans eM) hM4 (DF3.off offT pM eM) ⟨ok, .inl ⟨heq, a1.off pM eM⟩⟩ ⟨_, _, _, _, _, _, rfl⟩
    · rintro σ' H' ⟨⟨z2, z3, z4, z5, z6, z7, rfl⟩, e, kvs', hMk, DF⟩
      rw [lk, List.take_length] at DF
      have eb := back _ e
      refine ⟨e _ _ hdM hdl, rfl, _, rfl, M, kvs', ns, f, rfl, by rw [upd_ne (Ne.symm hdM)]; exact hMk, DF.off offT (plain_frz (e _ _ hdM hdl)) (fun b o hb hh => by rw [upd_ne hb]; exact hh), f4, nd, hm, fun z H9 e9 hR => q z H9 (eb.trans e9) hR⟩
end
end Bf
end

section
set_option Elab.async false
set_option linter.all false
set_option maxRecDepth 100000
/-! the law's own meeting -/
namespace Bf
open PySem PySem.Spec PyProof.Rows L2
section
variable {P : Program} {w : World} {K : PySem.W.Frag} {mg : Str → Option Value} {base : Heap}
def MetAt (o : Option Rm) (v : V) (H : Hp) : Prop := match o with
  | none => v = .non
  | some f => SpansAt f v H
theorem DictF.put {α : Type} {At : AtP α} {h : Str → Option α} {H : Hp} {rs : List Str} {kvs : List (Key × V)} {n : Str} {v : V} {s : α} (d : DictF At h rs kvs H) (nd : rs.Nodup) (hs : At s v H) (hn : h n = some s) :
    ∃ rs', DictF At h rs' (putK kvs (Sum.inr n) v) H ∧ rs'.Nodup ∧ ∀ m, m ∈ rs' ↔ m ∈ rs ∨ m = n := by
  by_cases c : n ∈ rs
  · refine ⟨rs, d.again c hs (fun _ _ _ => rfl) hn, nd, fun m => ⟨.inl, ?_⟩⟩
    rintro (y | y)
    · exact y
    · rw [y]; exact c
  · refine ⟨rs ++ [n], d.push c hs (fun _ _ => rfl) hn, List.nodup_append.mpr ⟨nd, List.nodup_cons.mpr ⟨List.not_mem_nil, List.nodup_nil⟩, fun x hx y hy z => c (by rw [List.mem_singleton] at hy; rw [← hy, ← z]; exact hx)⟩, fun m => ?_⟩
    rw [List.mem_append, List.mem_singleton]
theorem offL : ∀ (s : Spn) (v : V) (H H' : Hp) (d : Addr), LAt s v H → NoL H d → ExtB d H H' → LAt s v H' := fun _ _ _ _ _ h p e => h.off p e
theorem noL_dK {H : Hp} {d : Addr} {kvs : List (Key × V)} (h : H d = some (.dK kvs)) : NoL H d := fun _ _ _ z => by rw [h] at z; cases z
/-- the two spans that a name has, near and far -/
theorem near_far {f g : Rm} {n : Str} {H : Hp} {kvs lvs : List (Key × V)} {ns ms : List Str} (df : DictF LAt f ns kvs H) (dg : DictF LAt g ms lvs H) (hm : ∀ n, n ∈ ns ↔ (f n).isSome = true) (gm : ∀ n, n ∈ ms ↔ (g n).isSome = true) (hn : n ∈ ns ++ ms) :
    ∃ a b, LAt a ((valV kvs (Sum.inr n)).getD ((valV lvs (Sum.inr n)).getD .non)) H ∧ LAt b ((valV lvs (Sum.inr n)).getD ((valV kvs (Sum.inr n)).getD ((valV lvs (Sum.inr n)).getD .non))) H ∧
      ((meet a b = none ∧ clash1 f g n = true ∧ (f n).isSome = true) ∨ ∃ s, meet a b = some s ∧ comb f g n = some s ∧ clash1 f g n = false) := by
  unfold clash1 comb
  cases hf : f n with
  | some a =>
    obtain ⟨va, sa, h1, h2, h3⟩ := df.get1 ((hm n).mpr (by rw [hf] <;> rfl))
    rw [hf] at h2
    cases h2
    rw [h1]
    cases hg : g n with
    | some b =>
      obtain ⟨vb, sb, g1, g2, g3⟩ := dg.get1 ((gm n).mpr (by rw [hg] <;> rfl))
      rw [hg] at g2
      cases g2
      rw [g1]
      refine ⟨a, b, h3, g3, ?_⟩
      cases hme : meet a b with
      | none => exact .inl ⟨rfl, by simp only [hme] <;> rfl, rfl⟩
      | some s => exact .inr ⟨s, rfl, by simp only [hme], by simp only [hme] <;> rfl⟩
    | none =>
      have g0 : valV lvs (Sum.inr n) = none := dg.get0 fun z => by
        have := (gm n).mp z
        rw [hg] at this
        cases this
      rw [g0]
      exact ⟨a, a, h3, h3, .inr ⟨a, meet_self h3.1, rfl, rfl⟩⟩
  | none =>
    have f0 : valV kvs (Sum.inr n) = none := df.get0 fun z => by
      have := (hm n).mp z
      rw [hf] at this
      cases this
    rw [f0]
    have hg1 : (g n).isSome = true := by
      rcases List.mem_append.mp hn with z | z
      · have := (hm n).mp z
        rw [hf] at this
        cases this
      · exact (gm n).mp z
    obtain ⟨b, hg⟩ := Option.isSome_iff_exists.mp hg1
    obtain ⟨vb, sb, g1, g2, g3⟩ := dg.get1 ((gm n).mpr hg1)
    rw [hg] at g2
    cases g2
    rw [g1, hg]
    exact ⟨b, b, g3, g3, .inr ⟨b, meet_self g3.1, rfl, rfl⟩⟩
theorem max_if (a b : Int) : (if b > a then b else a) = max a b := by split <;> omega
theorem min_if (a b : Int) : (if b < a then b else a) = min a b := by split <;> omega
def spMet : Sp := fun vs H Q _ => ∃ u v f g, vs = [u, v] ∧ SpansAt f u H ∧ SpansAt g v H ∧ ∀ z H', Ext H H' → MetAt (meetF f g) z H' → Q z H'
def N52 : List Str := ["_law_one", "_law_other", "_law_found", "_law_tag", "_law_near", "_law_far", "_law_first", "_law_last", "_law_mid"]
theorem sc52 : FnScope N52 ["_law_one", "_law_other"] (defScope (top 52)) := ⟨rfl, rfl, rfl, by decide +kernel, rfl, by decide +kernel, by decide +kernel⟩
theorem r_met (T : Tx K mg) : FnR P w K mg base CX0 1 (gA K "_law_met") spMet := by
  obtain ⟨fd, F⟩ := T.fd "_law_met" 52
  refine fnR_of F sc52 (fun _ _ _ _ _ _ us hl => match us, hl with | [_, _], _ => rfl) (fun vs H Q E h => ?_) (fun cdv A outer s H vs Q E hr h => ⟨_, PSs.nox (pss_cons
    (ps_set (i := 2) sc52.nd rfl (.inl rfl) pe_dnewK)
    (pss_cons (ps_for PassesOwn.never rfl (pi_list (pe_op op_cat (pe_callTy (call_listD rfl) (by rfl) (T.no "list") (by decide +kernel) (pa_cons (pv 0) pa_nil)) (pe_callTy (call_listD rfl) (by rfl) (T.no "list") (by decide +kernel) (pa_cons (pv 1) pa_nil)))) (pg_name (i := 3) sc52.nd rfl (Or.inl rfl)) (pss_cons
      (ps_set (i := 4) sc52.nd rfl (.inl rfl) (pe_dget2 (hu_of hr) (pv 0) (pv 3) (pe_dget1 (hu_of hr) (pv 1) (pv 3) ⟨rfl, rfl, rfl, rfl⟩) ⟨rfl, rfl, rfl, rfl⟩))
      (pss_cons (ps_set (i := 5) sc52.nd rfl (.inl rfl) (pe_dget2 (hu_of hr) (pv 1) (pv 3) (pv 4) ⟨rfl, rfl, rfl, rfl⟩))
      (pss_cons (ps_par (i := 6) (j := 7) (by rfl) sc52.nd rfl rfl (by decide) rfl rfl (pa_cons (pe_callB (call_max2 rfl) (by rfl) (T.no "max") (by decide +kernel) (pa_cons (pe_ix ix_list (pv 4) pe_int (fun _ _ => rfl)) (pa_cons (pe_ix ix_list (pv 5) pe_int (fun _ _ => rfl)) pa_nil))) (pa_cons (pe_callB (call_min2 rfl) (by rfl) (T.no "min") (by decide +kernel) (pa_cons (pe_ix ix_list (pv 4) pe_int (fun _ _ => rfl)) (pa_cons (pe_ix ix_list (pv 5) pe_int (fun _ _ => rfl)) pa_nil))) pa_nil)) (by rfl))
      (pss_cons (ps_if (pt_cmpR op_lt (pv 7) (pv 6) (nomark _)) (pss_one (ps_ret pe_non)) pss_nil)
      (pss_cons (ps_set (i := 8) sc52.nd rfl (.inl rfl) (pe_ifExp (pt_cmpR op_isN (pe_ix ix_list (pv 5) pe_int (fun _ _ => rfl)) pe_non (nomark _)) (pe_ix ix_list (pv 4) pe_int (fun _ _ => rfl)) (pe_ix ix_list (pv 5) pe_int (fun _ _ => rfl))))
      (pss_cons (ps_if (pt_cmpR op_notN (pv 8) pe_non (nomark _)) (pss_one (ps_set (i := 8) sc52.nd rfl (.inl rfl) (pe_callB (call_min2 rfl) (by rfl) (T.no "min") (by decide +kernel) (pa_cons (pe_callB (call_max2 rfl) (by rfl) (T.no "max") (by decide +kernel) (pa_cons (pv 8) (pa_cons (pv 6) pa_nil))) (pa_cons (pv 7) pa_nil))))) pss_nil)
      (pss_cons (ps_dput (hu_of hr) (pv 2) (pv 3) (pe_lst (pa_cons (pv 6) (pa_cons (pv 8) (pa_cons (pv 7) pa_nil)))) rfl)
      (pss_one (ps_if (pt_cmpR op_eq (pv 6) (pv 7) (nomark _)) (pss_one (ps_dput (hu_of hr) (pv 2) (pv 3) (pe_lst (pa_cons (pv 6) (pa_cons (pv 6) (pa_cons (pv 6) pa_nil)))) rfl)) pss_nil))))))))))
    (pss_one (ps_ret (pv 2))))), ?_⟩)
  · obtain ⟨u, v, f, g, rfl, _⟩ := h
    rfl
  · obtain ⟨u, v, f, g, rfl, ⟨f4, d, kvs, ns, rfl, hd, df, nd, hm⟩, ⟨g4, e, lvs, ms, rfl, he, dg, md, gm⟩, q⟩ := h
    have hz : 100 ≤ sizeLine := by decide
    have l4 : ns.length ≤ 4 := nodup4 (fun n hn => by
      obtain ⟨s, e⟩ := Option.isSome_iff_exists.mp ((hm n).mp hn)
      exact f4 n s e) nd
    have m4 : ms.length ≤ 4 := nodup4 (fun n hn => by
      obtain ⟨s, e⟩ := Option.isSome_iff_exists.mp ((gm n).mp hn)
      exact g4 n s e) md
    have ek : (kvs.map fun kv => kV kv.1) = ns.map V.str := by
      have := congrArg (List.map kV) df.ks
      rw [List.map_map, List.map_map] at this
      exact this
    have el : (lvs.map fun kv => kV kv.1) = ms.map V.str := by
      have := congrArg (List.map kV) dg.ks
      rw [List.map_map, List.map_map] at this
      exact this
    intro M hM
    have E1 := ext1 (o := .dK []) hM
    refine ⟨_, rfl, d, kvs, rfl, .inl (E1 _ _ hd), fun p1 h1 => ?_⟩
    have E2 := E1.trans (ext1 (o := .lst (kvs.map fun kv => kV kv.1)) h1)
    refine ⟨_, rfl, e, lvs, rfl, .inl (E2 _ _ he), fun p2 h2 => ?_⟩
    have E3 := E2.trans (ext1 (o := .lst (lvs.map fun kv => kV kv.1)) h2)
    refine ⟨p1, p2, _, _, rfl, rfl, ext1 h2 _ _ upd_same, upd_same, ?_, fun p3 h3 => ?_⟩
    · rw [ek, el, List.length_map, List.length_map]; omega
    have E4 := E3.trans (ext1 (o := .lst ((kvs.map fun kv => kV kv.1) ++ lvs.map fun kv => kV kv.1)) h3)
    have hM4 : upd (upd (upd (upd H M (.dK [])) p1 (.lst (kvs.map fun kv => kV kv.1))) p2 (.lst (lvs.map fun kv => kV kv.1))) p3 (.lst ((kvs.map fun kv => kV kv.1) ++ lvs.map fun kv => kV kv.1)) M = some (.dK []) := ext1 h3 _ _ (ext1 h2 _ _ (ext1 h1 _ _ upd_same))
    have hp4 : upd (upd (upd (upd H M (.dK [])) p1 (.lst (kvs.map fun kv => kV kv.1))) p2 (.lst (lvs.map fun kv => kV kv.1))) p3 (.lst ((kvs.map fun kv => kV kv.1) ++ lvs.map fun kv => kV kv.1)) p3 = some (.lst ((ns ++ ms).map V.str)) := by
      rw [upd_same, ek, el, List.map_append]
    generalize upd (upd (upd (upd H M (.dK [])) p1 (.lst (kvs.map fun kv => kV kv.1))) p2 (.lst (lvs.map fun kv => kV kv.1))) p3 (.lst ((kvs.map fun kv => kV kv.1) ++ lvs.map fun kv => kV kv.1)) = H1 at *
    have hMp : p3 ≠ M := fun z => by rw [z, hM4] at hp4; cases hp4
    have old : ∀ H', ExtB M H1 H' → Ext H H' := fun H' x b o hb => x b o (fun z => by rw [z, hM] at hb; cases hb) (E4 _ _ hb)
    refine ⟨p3, rfl, ⟨_, SqL.of hp4⟩, for_list (K := K) (a := p3) (xs := (ns ++ ms).map V.str) (fun i σ' H' => (∃ z3 z4 z5 z6 z7 z8, σ' = [some (.ref d), some (.ref e), some (.ref M), z3, z4, z5, z6, z7, z8]) ∧ ExtB M H1 H' ∧
      (∃ kvs' rs, H' M = some (.dK kvs') ∧ DictF LAt (comb f g) rs kvs' H' ∧ rs.Nodup ∧ ∀ n, n ∈ rs ↔ n ∈ (ns ++ ms).take i) ∧ ∀ n ∈ (ns ++ ms).take i, clash1 f g n = false) ⟨⟨none, none, none, none, none, none, rfl⟩, .self, ⟨[], [], hM4, .nil, List.nodup_nil, fun n => by simp⟩, fun n hn => by simp at hn⟩ (fun i σ' H' _ h => SqL.of (h.2.1 _ _ hMp hp4)) ?_ ?_⟩
    · rintro i x σ' H2 hx ⟨⟨z3, z4, z5, z6, z7, z8, rfl⟩, e2, ⟨kvs', rs, hMk, DF, nr, hr2⟩, hcl⟩
      rw [List.getElem?_map] at hx
      obtain ⟨n, hn, rfl⟩ := Option.map_eq_some_iff.mp hx
      have O2 := old _ e2
      obtain ⟨a, b, La, Lb, hR⟩ := near_far (df.ext monoL O2) (dg.ext monoL O2) hm gm (List.mem_of_getElem? hn)
      have hd2 := O2 _ _ hd
      have he2 := O2 _ _ he
      refine ⟨_, rfl, d, rfl, .inl ⟨kvs, .inl hd2⟩, _, rfl, _, rfl, e, rfl, .inl ⟨lvs, .inl he2⟩, _, rfl, _, .inl ⟨lvs, Sum.inr n, .inl he2, rfl, rfl⟩, _, .inl ⟨kvs, Sum.inr n, .inl hd2, rfl, rfl⟩, ?_⟩
      refine ⟨_, rfl, e, rfl, .inl ⟨lvs, .inl he2⟩, _, rfl, _, rfl, _, .inl ⟨lvs, Sum.inr n, .inl he2, rfl, rfl⟩, ?_⟩
      dsimp only [gName]
      generalize (valV lvs (Sum.inr n)).getD ((valV kvs (Sum.inr n)).getD ((valV lvs (Sum.inr n)).getD V.non)) = far at *
      generalize (valV kvs (Sum.inr n)).getD ((valV lvs (Sum.inr n)).getD V.non) = near at *
      obtain ⟨oka, la, rfl, hla⟩ := La
      obtain ⟨okb, lb, rfl, hlb⟩ := Lb
      refine ⟨_, rfl, la, _, _, _, rfl, rfl, SqL.of hla, atI_nat (j := 0) rfl, _, rfl, lb, _, _, _, rfl, rfl, SqL.of hlb, atI_nat (j := 0) rfl, _, _, rfl, _, rfl, la, _, _, _, rfl, rfl, SqL.of hla, atI_nat (j := 2) rfl, _, rfl, lb, _, _, _, rfl, rfl, SqL.of hlb, atI_nat (j := 2) rfl, _, _, rfl, _, _, rfl, ?_⟩
      rw [max_if, min_if]
      have fin : ∀ (y : V) (s : Spn) (Hf : Hp) (σ' : L2.St), ExtB M H2 Hf → Hf M = some (.dK (putK kvs' (Sum.inr n) y)) → LAt s y Hf → comb f g n = some s → clash1 f g n = false → (∃ z3 z4 z5 z6 z7 z8, σ' = [some (.ref d), some (.ref e), some (.ref M), z3, z4, z5, z6, z7, z8]) →
          (∃ z3 z4 z5 z6 z7 z8, σ' = [some (.ref d), some (.ref e), some (.ref M), z3, z4, z5, z6, z7, z8]) ∧ ExtB M H1 Hf ∧
          (∃ kvs' rs, Hf M = some (.dK kvs') ∧ DictF LAt (comb f g) rs kvs' Hf ∧ rs.Nodup ∧ ∀ m, m ∈ rs ↔ m ∈ (ns ++ ms).take (i + 1)) ∧ ∀ m ∈ (ns ++ ms).take (i + 1), clash1 f g m = false := by
        intro y s Hf σ' x1 x2 x3 x4 x5 x6
        obtain ⟨rs', y1, y2, y3⟩ := (DictF.imp DF (fun m _ s v h1 h2 => ⟨s, h1, LAt.off h2 (noL_dK hMk) x1⟩)).put nr x3 x4
        refine ⟨x6, e2.trans x1, ⟨_, rs', x2, y1, y2, fun m => ?_⟩, fun m hm => ?_⟩
        · rw [y3, hr2, List.take_add_one, hn, List.mem_append]
          simp
        · rw [List.take_add_one, hn, List.mem_append] at hm
          rcases hm with hm | hm
          · exact hcl m hm
          · have : m = n := by simpa using hm
            rw [this]; exact x5
      refine ⟨_, rfl, _, rfl, _, _, rfl, rfl, _, rfl, ite2 (fun hc => ?_) (fun hc => ?_)⟩
      · have hlt : min a.hi b.hi < max a.lo b.lo := of_decide_eq_true hc
        have hmn : meet a b = none := by unfold meet; simp only; rw [if_pos hlt]
        rcases hR with ⟨_, hcl1, hfn⟩ | ⟨s, hs, _, _⟩
        · refine q _ _ O2 ?_
          obtain ⟨s0, hs0⟩ := Option.isSome_iff_exists.mp hfn
          have : clash f g = true := List.any_eq_true.mpr ⟨n, f4 n s0 hs0, hcl1⟩
          unfold meetF
          rw [if_pos this] <;> rfl
        · rw [hmn] at hs; cases hs
      have hge : ¬ min a.hi b.hi < max a.lo b.lo := of_decide_eq_false (by simpa using hc)
      obtain ⟨s, hs, hcs, hc1⟩ : ∃ s, meet a b = some s ∧ comb f g n = some s ∧ clash1 f g n = false := hR.resolve_left (fun ⟨z, _⟩ => by unfold meet at z; simp only at z; rw [if_neg hge] at z; split at z <;> cases z)
      have hsok := meet_ok oka okb hs
      unfold meet at hs
      simp only at hs
      rw [if_neg hge] at hs
      unfold tNext
      dsimp only [gName]
      refine cutS (fun σ' H' => H2 = H' ∧ σ' = [some (.ref d), some (.ref e), some (.ref M), some (.str n), some (.ref la), some (.ref lb), some (.int (max a.lo b.lo)), some (.int (min a.hi b.hi)), some (hv (hmO b.home a.home))]) ?_ (fun hk => ?_)
      rotate_left
      · refine ⟨_, rfl, lb, _, _, _, rfl, rfl, SqL.of hlb, atI_nat (j := 1) rfl, rfl, _, rfl, ?_⟩
        cases hbh : b.home with
        | none => exact iteT ⟨_, rfl, la, _, _, _, rfl, rfl, SqL.of hla, atI_nat (j := 1) rfl, hk _ _ ⟨rfl, by rw [hbh] <;> rfl⟩⟩
        | some h =>
          rw [show decide (hv (some h) = V.non) = false from decide_eq_false (fun z => nomatch z)]
          exact iteF ⟨_, rfl, lb, _, _, _, rfl, rfl, SqL.of hlb, atI_nat (j := 1) rfl, hk _ _ ⟨rfl, by rw [hbh] <;> rfl⟩⟩
      rintro σ' H' ⟨rfl, rfl⟩
      refine cutS (fun σ' H' => H2 = H' ∧ σ' = [some (.ref d), some (.ref e), some (.ref M), some (.str n), some (.ref la), some (.ref lb), some (.int (max a.lo b.lo)), some (.int (min a.hi b.hi)), some (hv ((hmO b.home a.home).map fun h => clp h (max a.lo b.lo) (min a.hi b.hi)))]) ?_ (fun hk => ?_)
      rotate_left
      · refine ⟨_, rfl, rfl, _, rfl, ?_⟩
        cases hbh : hmO b.home a.home with
        | none => exact iteF (hk _ _ ⟨rfl, by rw [hbh] <;> rfl⟩)
        | some h =>
          rw [show decide (hv (some h) = V.non) = false from decide_eq_false (fun z => nomatch z)]
          refine iteT ⟨_, rfl, _, rfl, _, _, rfl, _, rfl, _, _, rfl, hk _ _ ⟨rfl, ?_⟩⟩
          rw [max_if, min_if, hbh] <;> rfl
      rintro σ' H' ⟨rfl, rfl⟩
      have lkv : kvs'.length < 50 := by
        have h4 : rs.length ≤ 4 := nodup4 (fun m hm' => by
          have := List.mem_of_mem_take ((hr2 m).mp hm')
          rcases List.mem_append.mp this with z | z
          · obtain ⟨s, e⟩ := Option.isSome_iff_exists.mp ((hm m).mp z)
            exact f4 m s e
          · obtain ⟨s, e⟩ := Option.isSome_iff_exists.mp ((gm m).mp z)
            exact g4 m s e) nr
        rw [DF.len]
        omega
      refine ⟨_, rfl, _, rfl, _, rfl, by show 3 ≤ sizeLine; omega, fun l hl => ?_⟩
      have hMl := ext1 (o := .lst [.int (max a.lo b.lo), hv ((hmO b.home a.home).map fun h => clp h (max a.lo b.lo) (min a.hi b.hi)), .int (min a.hi b.hi)]) hl _ _ hMk
      have hlM : l ≠ M := fun z => by rw [z, hMk] at hl; cases hl
      refine ⟨_, rfl, _, rfl, M, _, rfl, DPut.k (k := Sum.inr n) hMl (by omega), ?_⟩
      have e3 : ExtB M H2 (upd (upd H2 l (.lst [.int (max a.lo b.lo), hv ((hmO b.home a.home).map fun h => clp h (max a.lo b.lo) (min a.hi b.hi)), .int (min a.hi b.hi)])) M (.dK (putK kvs' (Sum.inr n) (.ref l)))) := (ExtB.of (ext1 hl)).trans .at_
      have hM3 : upd (upd H2 l (.lst [.int (max a.lo b.lo), hv ((hmO b.home a.home).map fun h => clp h (max a.lo b.lo) (min a.hi b.hi)), .int (min a.hi b.hi)])) M (.dK (putK kvs' (Sum.inr n) (.ref l))) M = _ := upd_same
      have hl3 : upd (upd H2 l (.lst [.int (max a.lo b.lo), hv ((hmO b.home a.home).map fun h => clp h (max a.lo b.lo) (min a.hi b.hi)), .int (min a.hi b.hi)])) M (.dK (putK kvs' (Sum.inr n) (.ref l))) l = some (.lst [.int (max a.lo b.lo), hv ((hmO b.home a.home).map fun h => clp h (max a.lo b.lo) (min a.hi b.hi)), .int (min a.hi b.hi)]) := by rw [upd_ne hlM]; exact upd_same
      generalize upd (upd H2 l (.lst [.int (max a.lo b.lo), hv ((hmO b.home a.home).map fun h => clp h (max a.lo b.lo) (min a.hi b.hi)), .int (min a.hi b.hi)])) M (.dK (putK kvs' (Sum.inr n) (.ref l))) = H3 at *
      refine ⟨_, rfl, _, rfl, rfl, _, rfl, ite2 (fun hc => ?_) (fun hc => ?_)⟩
      · have heq : max a.lo b.lo = min a.hi b.hi := by have := of_decide_eq_true hc; injection this
        rw [if_pos heq] at hs
        cases hs
        refine ⟨_, rfl, _, rfl, _, rfl, by show 3 ≤ sizeLine; omega, fun l2 hl2 => ?_⟩
        have hMl2 := ext1 (o := .lst [.int (max a.lo b.lo), .int (max a.lo b.lo), .int (max a.lo b.lo)]) hl2 _ _ hM3
        have hlM2 : l2 ≠ M := fun z => by rw [z, hM3] at hl2; cases hl2
        refine ⟨_, rfl, _, rfl, M, _, rfl, DPut.k (k := Sum.inr n) hMl2 (by have := putK_len kvs' (Sum.inr n) (.ref l); omega), ?_⟩
        rw [putK_putK]
        exact fin _ _ _ _ (e3.trans ((ExtB.of (ext1 hl2)).trans .at_)) upd_same ⟨hsok, l2, rfl, by rw [upd_ne hlM2]; exact upd_same⟩ hcs hc1 ⟨_, _, _, _, _, _, rfl⟩
      · have hne : ¬ max a.lo b.lo = min a.hi b.hi := fun z => by
          rw [z] at hc
          simp at hc
        rw [if_neg hne] at hs
        cases hs
        exact fin _ _ _ _ e3 hM3 ⟨hsok, l, rfl, hl3⟩ hcs hc1 ⟨_, _, _, _, _, _, rfl⟩
    · rintro σ' H2 ⟨⟨z3, z4, z5, z6, z7, z8, rfl⟩, e2, ⟨kvs', rs, hMk, DF, nr, hr2⟩, hcl⟩
      rw [List.length_map, List.take_length] at hr2 hcl
      have hc : clash f g = false := by
        cases hc : clash f g with
        | false => rfl
        | true =>
          obtain ⟨n, hn, hx⟩ := List.any_eq_true.mp hc
          have hfn : (f n).isSome = true := by
            unfold clash1 at hx
            cases hf : f n with
            | some a => rfl
            | none => rw [hf] at hx; cases hx
          rw [hcl n (List.mem_append_left _ ((hm n).mpr hfn))] at hx
          cases hx
      refine ⟨_, rfl, q _ _ (old _ e2) ?_⟩
      unfold meetF
      rw [hc]
      refine ⟨f4.comb g4, M, kvs', rs, rfl, hMk, DF, nr, fun n => ?_⟩
      rw [hr2]
      constructor
      · intro hn
        obtain ⟨v, s, _, hs, _⟩ := DF.get1 ((hr2 n).mpr hn)
        rw [hs] <;> rfl
      · intro hn
        unfold comb at hn
        cases hf : f n with
        | some a => exact List.mem_append_left _ ((hm n).mpr (by rw [hf] <;> rfl))
        | none =>
          rw [hf] at hn
          exact List.mem_append_right _ ((gm n).mpr hn)
end
end Bf
end

section
set_option Elab.async false
set_option linter.all false
set_option maxRecDepth 100000
/-! bare spans, and != of them -/
namespace Bf
open PySem PySem.Spec PyProof.Rows L2
section
variable {P : Program} {w : World} {K : PySem.W.Frag} {mg : Str → Option Value} {base : Heap}
def BAt (s : Spn) (v : V) (H : Hp) : Prop := ∃ l, v = .ref l ∧ H l = some (.lst [.int s.lo, .int s.hi])
theorem monoB : AtP.Mono BAt := fun _ _ _ _ ⟨l, a, b⟩ e => ⟨l, a, e _ _ b⟩
/-- the ends alone of a room's spans, or None -/
def BareAt (o : Option Rm) (v : V) (H : Hp) : Prop := match o with
  | none => v = .non
  | some f => Four f ∧ ∃ d kvs ns, v = .ref d ∧ H d = some (.dK kvs) ∧ DictF BAt f ns kvs H ∧ ns.Nodup ∧ ∀ n, n ∈ ns ↔ (f n).isSome = true
theorem BareAt.ext {o : Option Rm} {v : V} {H H' : Hp} (h : BareAt o v H) (e : Ext H H') : BareAt o v H' := by
  cases o with
  | none => exact h
  | some f =>
    obtain ⟨a, d, kvs, ns, b, c, x, y⟩ := h
    exact ⟨a, d, kvs, ns, b, e _ _ c, x.ext monoB e, y⟩
def spBare : Sp := fun vs H Q _ => ∃ v o, vs = [v] ∧ MetAt o v H ∧ ∀ z H', Ext H H' → BareAt o z H' → Q z H'
def N53 : List Str := ["_law_spans_here", "_law_tag"]
theorem sc53 : FnScope N53 ["_law_spans_here"] (defScope (top 53)) := ⟨rfl, rfl, rfl, by decide +kernel, rfl, by decide +kernel, by decide +kernel⟩
theorem r_bare (T : Tx K mg) : FnR P w K mg base CX0 1 (gA K "_law_bare") spBare := by
  obtain ⟨fd, F⟩ := T.fd "_law_bare" 53
  refine fnR_of F sc53 (fun _ _ _ _ _ _ us hl => match us, hl with | [_], _ => rfl) (fun vs H Q E h => ?_) (fun cdv A outer s H vs Q E hr h => ⟨_, PSs.nox (pss_cons
    (ps_if (pt_cmpR op_isN (pv 0) pe_non (nomark _)) (pss_one (ps_ret pe_non)) pss_nil)
    (pss_one (ps_ret (pe_callTy (call_dictP rfl) (by rfl) (T.no "dict") (by decide +kernel) (pa_cons
      (pe_lock (pe_lc (own := [("_law_tag", 1)]) (g := gName 1) (tt := tYes) (te := tTup (tCons (tVar 1) (tCons (tEnds K (tDGet (tVar 0) (tVar 1))) tNil))) rfl sc53.nd (pi_keys (pv 0)) (blkOk_by (N := N53) (sc := defScope (top 53)) (by decide +kernel)) (fun _ _ _ _ _ => pg_name (i := 1) sc53.nd rfl (Or.inl rfl)) (fun _ _ _ _ _ => pts_nil)
        (fun _ _ _ _ _ => pe_tup (pa_cons (pv 1) (pa_cons (pe_ends (pe_dget (hu_of hr) (pv 0) (pv 1) (fun _ _ => rfl))) pa_nil))))) pa_nil))))), ?_⟩)
  · obtain ⟨v, o, rfl, _⟩ := h
    rfl
  · obtain ⟨v, o, rfl, hM, q⟩ := h
    have hz : 100 ≤ sizeLine := by decide
    cases o with
    | none =>
      have hM' : v = .non := hM
      subst hM'
      exact ⟨_, rfl, rfl, _, rfl, iteT (q _ _ Ext.rfl' rfl)⟩
    | some f =>
    obtain ⟨f4, d, kvs, ns, rfl, hd, df, nd, hm⟩ := hM
    have lk := df.len
    have l4 : ns.length ≤ 4 := nodup4 (fun n hn => by
      obtain ⟨s, e⟩ := Option.isSome_iff_exists.mp ((hm n).mp hn)
      exact f4 n s e) nd
    refine ⟨_, rfl, rfl, _, rfl, iteF ?_⟩
    unfold tNext
    refine ⟨d, .dK kvs, hd, by simp [Mut], fun od => ⟨_, rfl, d, od, rfl, .inl ⟨kvs, upd_same, fun D hD => ?_⟩⟩⟩
    have hdD : d ≠ D := fun z => by rw [← z, upd_same] at hD; cases hD
    have back : ∀ H', ExtB D (upd H d (.frz od (.dK kvs))) H' → Ext H (upd H' d (.dK kvs)) := fun H' e => ext_unlock hd fun b o hb => e b o (fun z => by rw [z, hD] at hb; cases hb) hb
    have hdl : upd H d (.frz od (.dK kvs)) d = some (.frz od (.dK kvs)) := upd_same
    have hll : ∀ l xs, H l = some (.lst xs) → upd H d (.frz od (.dK kvs)) l = some (.lst xs) := fun l xs h => by rw [upd_ne (fun z => by rw [z, hd] at h; cases h)]; exact h
    generalize upd H d (.frz od (.dK kvs)) = Hl at *
    refine lc_gen (n := kvs.length) (fun i H' => ∃ (ps : List Addr) (ws : List (Key × V)), H' D = some (.lst (ps.map V.ref)) ∧ ps.length = i ∧ Paired (fun (p : Addr) (kv : Key × V) => H' p = some (.tup [kV kv.1, kv.2])) ps ws ∧ DictF BAt f (ns.take i) ws H' ∧ ExtB D Hl H') ⟨[], [], upd_same, rfl, .nil, .nil, fun b o hb hh => by rw [upd_ne hb]; exact hh⟩ ?_ ?_ ?_ ?_
    · rintro i H' hi ⟨_, _, _, _, _, _, e⟩
      exact ⟨e _ _ hdD hdl, hi⟩
    · rintro H' ⟨_, _, _, _, _, _, e⟩
      exact ⟨e _ _ hdD hdl, Nat.le_refl _⟩
    · rintro i x H' H2 hi ⟨ps, ws, hDl, hpl, hps, DF, e⟩ ⟨rfl, k, v0, hkv, rfl⟩
      obtain ⟨n, s0, hn, rfl, _, _⟩ := df.ix hkv
      obtain ⟨v', s, hv', hfs, ⟨ok, l, rfl, hl⟩⟩ := df.get1 (List.mem_of_getElem? hn)
      have hl1 := hll _ _ hl
      have hlD : l ≠ D := fun z => by rw [← z, hl1] at hD; cases hD
      have hl2 := e l _ hlD hl1
      have hd2 := e d _ hdD hdl
      refine ⟨rfl, ?_⟩
      unfold tYes
      refine iteT ⟨_, rfl, _, rfl, _, rfl, d, .ref l, rfl, .inl ⟨kvs, Sum.inr n, .inr ⟨od, hd2⟩, rfl, hv'.symm⟩, l, _, _, _, rfl, SqL.of hl2, fun p hp => ⟨by show 2 ≤ sizeLine; decide, fun t ht => ?_⟩⟩
      have e1 : Ext H2 (upd (upd H2 p (.lst [.int s.lo, .int s.hi])) t (.tup [kV (Sum.inr n), .ref p])) := (ext1 hp).trans (ext1 ht)
      have hp1 : upd (upd H2 p (.lst [.int s.lo, .int s.hi])) t (.tup [kV (Sum.inr n), .ref p]) p = some (.lst [.int s.lo, .int s.hi]) := ext1 ht _ _ upd_same
      have ht1 : upd (upd H2 p (.lst [.int s.lo, .int s.hi])) t (.tup [kV (Sum.inr n), .ref p]) t = some (.tup [kV (Sum.inr n), .ref p]) := upd_same
      have hpD : p ≠ D := fun z => by rw [← z] at hDl; rw [hDl] at hp; cases hp
      have htD : t ≠ D := fun z => by rw [← z] at hDl; rw [ext1 hp _ _ hDl] at ht; cases ht
      show ∃ acc, upd (upd H2 p (.lst [.int s.lo, .int s.hi])) t (.tup [kV (Sum.inr n), .ref p]) D = some (.lst acc) ∧ _
      generalize upd (upd H2 p (.lst [.int s.lo, .int s.hi])) t (.tup [kV (Sum.inr n), .ref p]) = H3 at *
      have hD3 := e1 _ _ hDl
      have mv : ∀ b o, b ≠ D → H2 b = some o → upd H3 D (.lst (ps.map V.ref ++ [.ref t])) b = some o := fun b o hb hh => by rw [upd_ne hb]; exact e1 _ _ hh
      have lps : ps.length ≤ 4 := by omega
      refine ⟨ps.map V.ref, hD3, by rw [List.length_map]; omega, ps ++ [t], ws ++ [(Sum.inr n, .ref p)], ?_, ?_, ?_, ?_, fun b o hb hh => mv b o hb (e b o hb hh)⟩
      · rw [List.map_append]
        exact upd_same
      · rw [List.length_append, hpl] <;> rfl
      · refine paired_snoc (paired_imp hps fun pp kv h => mv _ _ (fun z => ?_) h) (by rw [upd_ne htD]; exact ht1)
        rw [z, hDl] at h
        cases h
      · rw [List.take_add_one, hn]
        refine paired_snoc (DF.imp fun m _ s v h1 h2 => ⟨s, h1, ?_⟩) ⟨rfl, s, hfs, p, rfl, by rw [upd_ne hpD]; exact hp1⟩
        obtain ⟨l, rfl, hl⟩ := h2
        refine ⟨l, rfl, mv _ _ (fun z => ?_) hl⟩
        rw [z, hDl] at hl
        cases ps with
        | nil => cases hl
        | cons a b => cases hl
    · rintro H' ⟨ps, ws, hDl, hpl, hps, DF, e⟩
      refine ⟨e _ _ hdD hdl, ?_⟩
      have E2 := back _ e
      have hdH := e d _ hdD hdl
      have hDu : upd H' d (.dK kvs) D = some (.lst (ps.map V.ref)) := by rw [upd_ne (Ne.symm hdD)]; exact hDl
      have mv : ∀ b o, b ≠ d → H' b = some o → upd H' d (.dK kvs) b = some o := fun b o hb hh => by rw [upd_ne hb]; exact hh
      have DF2 : DictF BAt f (ns.take kvs.length) ws (upd H' d (.dK kvs)) := DF.imp fun m _ s v h1 h2 => ⟨s, h1, by
        obtain ⟨l, rfl, hl⟩ := h2
        exact ⟨l, rfl, mv _ _ (fun z => by rw [z, hdH] at hl; cases hl) hl⟩⟩
      have hps2 := paired_imp hps fun p kv h => mv p _ (fun z => by rw [z, hdH] at h; cases h) h
      generalize upd H' d (.dK kvs) = H3 at *
      rw [lk, List.take_length] at DF2
      refine ⟨D, ps, ws, rfl, SqL.of hDu, paired_imp hps2 fun p kv h => SqT.of h, fun M hM => ?_⟩
      obtain ⟨ns', x1, x2, x3⟩ := merge_blk DF2 (h := fun _ => none) (ns := []) (kvs := []) nd .nil List.nodup_nil
      have ef : (fun n => if n ∈ ns then f n else none) = f := by
        funext m
        by_cases cm : m ∈ ns
        · rw [if_pos cm]
        · rw [if_neg cm]
          cases hfm : f m with
          | none => rfl
          | some s => exact absurd ((hm m).mpr (by rw [hfm] <;> rfl)) cm
      rw [ef] at x1
      refine q _ _ (E2.trans (ext1 hM)) ⟨f4, M, _, ns', rfl, upd_same, x1.ext monoB (ext1 hM), x2, fun m => ?_⟩
      rw [x3, ← hm]
      simp
end
/-! ### != of two of them -/
section
variable {X : Cx}
theorem neqP_dicts {prog : Program} {w : World} {A : Around} {s : Shared} {a b : Addr} {ka kb : List (Key × Value)} {r : Bool} {E : Value → Shared → Prop} {Q : Value → Shared → Prop} (ha : (a == sysModules) = false) (hb : (b == sysModules) = false)
    (da : s.heap.DictOf (mixKind prog w) a ka) (db : s.heap.DictOf (mixKind prog w) b kb) (hu : A.units < cLine) (hits : ka.length = kb.length → PySem.W.KeqHitsP prog w A.in1 s kb ka r) (h : Q (.bool (!(ka.length == kb.length && r))) s) :
    wpAny (model prog w) A (compareOp .NotEq (.ref a) (.ref b)) Q E s := by
  refine wpAny_richCompare_same_room (op := .NotEq) da.typeIs db.typeIs PySem.F.slot_dict_ne (wpAny_call_entry PySem.F.slot_dict_ne da.typeIs PySem.F.entry_dict_ne ?_ (PySem.F.args_dict_ne_2 _ _)) hu
  show wpAny _ _ (Builtin.Dict.dictSlotArgs "__ne__" ⟨[.ref a, .ref b], []⟩ >>= _) _ _ s
  refine wpAny_bind ?_
  unfold Builtin.Dict.dictSlotArgs
  refine wpAny_bind (wpAny_notOrdered_dict da.typeIs ?_)
  show wpAny _ _ (pure (Value.ref a, Value.ref b)) _ _ s
  refine wpAny_pure ?_
  refine wpAny_bind (wpAny_isInstance (T := "dict") db.typeIs PySem.F.sub_dict_dict ?_)
  simp only [Bool.not_true, Bool.false_eq_true, if_false]
  refine wpAny_bind (wpAny_pure (wpAny_bind (wpAny_pure ?_)))
  refine wpAny_bind (PySem.W.samePairsP ha hb da db hits ?_)
  refine wpAny_pure ⟨_, rfl, ?_, ?_⟩
  · exact fun x => nomatch x
  · simpa using h
/-- two dicts of one key set, their values equal; or None twice -/
def rNeB (K : PySem.W.Frag) : R2 := fun x y H Q => (x = .non ∧ y = .non ∧ Q (.bl false) H) ∨
  ∃ a b ks ls, x = .ref a ∧ y = .ref b ∧ H a = some (.dK ks) ∧ H b = some (.dK ls) ∧ ks.length = ls.length ∧ (∀ p ∈ ks, ∃ u, valV ls p.1 = some u ∧ EqV K H 2 p.2 u) ∧ Q (.bl false) H
theorem op_neB (hu : X.A.units + 64 < cLine) : OpR X (compareOp .NotEq) (rNeB X.K) := by
  intro pins s σ H x y v u Q I rx ry h
  rcases h with ⟨rfl, rfl, q⟩ | ⟨a, b, ks, ls, rfl, rfl, ha, hb, hl, hp, q⟩
  · exact op_ne pins s σ H _ _ v u Q I rx ry ⟨rfl, by simpa using q⟩
  · cases (show v = Value.ref a from rx)
    cases (show u = Value.ref b from ry)
    obtain ⟨_, ya, va, ra, da⟩ := (show ObjOk X.prog X.w H s.heap a (.dK ks) from I.hok a _ ha)
    obtain ⟨_, yb, vb, rb, db⟩ := (show ObjOk X.prog X.w H s.heap b (.dK ls) from I.hok b _ hb)
    have e : va.length = vb.length := by rw [← ra.length, ← rb.length]; exact hl
    refine neqP_dicts (r := true) ya yb da db (by omega) (fun _ => hits_run (eqV_run I 2 X.A.in1 (by show X.A.units + 1 + 2 < cLine; omega)) rb ra hp) ⟨.bl false, H, I, ?_, q⟩
    rw [e]
    simp [L2.RelV]
theorem rNeB_of {K : PySem.W.Frag} {o : Option Rm} {x y : V} {H : Hp} {Q : VK} (hx : BareAt o x H) (hy : BareAt o y H) (q : Q (.bl false) H) : rNeB K x y H Q := by
  cases o with
  | none => exact .inl ⟨hx, hy, q⟩
  | some f =>
    obtain ⟨f4, d, kvs, ns, rfl, hd, df, nd, hm⟩ := hx
    obtain ⟨_, e, lvs, ms, rfl, he, dg, md, gm⟩ := hy
    have hmem : ∀ n, n ∈ ns ↔ n ∈ ms := fun n => (hm n).trans (gm n).symm
    have hlen : ns.length = ms.length := Nat.le_antisymm (List.Nodup.length_le_of_subset nd fun n h => (hmem n).mp h) (List.Nodup.length_le_of_subset md fun n h => (hmem n).mpr h)
    refine .inr ⟨d, e, kvs, lvs, rfl, rfl, hd, he, by rw [df.len, dg.len, hlen], fun p hp => ?_, q⟩
    obtain ⟨i, hi⟩ := List.getElem?_of_mem hp
    obtain ⟨k, v⟩ := p
    obtain ⟨n, s, hn, hk, hs, hv⟩ := df.ix hi
    obtain ⟨u, s', hu, hs', hu'⟩ := dg.get1 ((hmem n).mp (List.mem_of_getElem? hn))
    rw [hs] at hs'
    cases hs'
    obtain ⟨l, e1, hl⟩ := hv
    obtain ⟨l', e2, hl'⟩ := hu'
    refine ⟨u, by rw [hk]; exact hu, .inr (.inr (.inl ⟨l, l', _, _, e1, e2, SqL.of hl, SqL.of hl', .cons (.inl ⟨rfl, rfl⟩) (.cons (.inl ⟨rfl, rfl⟩) .nil)⟩))⟩
end
end Bf
end

section
set_option Elab.async false
set_option linter.all false
set_option maxRecDepth 100000
/-! the law's settings -/
namespace Bf
open PySem PySem.Spec PyProof.Rows L2
section
variable {P : Program} {w : World} {K : PySem.W.Frag} {mg : Str → Option Value} {base : Heap}
def lookL {α : Type} (L : List (Str × α)) : Str → Option α := fun n => (L.find? fun q => decide (q.1 = n)).map Prod.snd
theorem lookL_of {α : Type} : ∀ (L : List (Str × α)), (L.map Prod.fst).Nodup → ∀ q ∈ L, lookL L q.1 = some q.2 := by
  intro L
  induction L with
  | nil => intro _ q hq; cases hq
  | cons a L ih =>
    intro nd q hq
    obtain ⟨n1, n2⟩ := List.nodup_cons.mp nd
    unfold lookL
    rw [List.find?_cons]
    by_cases ca : a.1 = q.1
    · rw [decide_eq_true ca]
      rcases List.mem_cons.mp hq with z | z
      · rw [z] <;> rfl
      · exact absurd (List.mem_map_of_mem z) (ca ▸ n1)
    · rw [decide_eq_false ca]
      rcases List.mem_cons.mp hq with z | z
      · exact absurd (by rw [z]) ca
      · exact ih n2 q z
theorem lookL_mem {α : Type} {L : List (Str × α)} {m : Str} {s : α} (h : lookL L m = some s) : m ∈ L.map Prod.fst := by
  obtain ⟨q, hq1, hq2⟩ := Option.map_eq_some_iff.mp h
  have h1 := List.mem_of_find?_eq_some hq1
  have h2 := List.find?_some hq1
  have h3 : q.1 = m := of_decide_eq_true h2
  rw [← h3]
  exact List.mem_map_of_mem h1
theorem merge_list {α : Type} {At : AtP α} {H : Hp} {L : List (Str × α)} {ws : List (Key × V)} (h : Paired (fun (p : Str × α) (q : Key × V) => q.1 = Sum.inr p.1 ∧ At p.2 q.2 H) L ws) (nd : (L.map Prod.fst).Nodup) :
    ∃ ns, DictF At (lookL L) ns (mergeK [] ws) H ∧ ns.Nodup ∧ ∀ n, n ∈ ns ↔ n ∈ L.map Prod.fst := by
  have hd1 : DictF At (lookL L) (L.map Prod.fst) ws H := DictF.of_list h (lookL_of L nd)
  obtain ⟨ns, x1, x2, x3⟩ := merge_blk hd1 (h := fun _ => none) (ns := []) (kvs := []) nd .nil List.nodup_nil
  have ef : (fun n => if n ∈ L.map Prod.fst then lookL L n else none) = lookL L := by
    funext m
    by_cases cm : m ∈ L.map Prod.fst
    · rw [if_pos cm]
    · rw [if_neg cm]
      cases hm : lookL L m with
      | none => rfl
      | some s => exact absurd (lookL_mem hm) cm
  rw [ef] at x1
  exact ⟨ns, x1, x2, fun n => by rw [x3]; simp⟩
theorem lookL_some {α : Type} {L : List (Str × α)} (nd : (L.map Prod.fst).Nodup) (n : Str) : n ∈ L.map Prod.fst ↔ (lookL L n).isSome = true := by
  constructor
  · intro z
    obtain ⟨q0, h1, h2⟩ := List.mem_map.mp z
    rw [← h2, lookL_of L nd q0 h1] <;> rfl
  · intro z
    obtain ⟨s, hs⟩ := Option.isSome_iff_exists.mp z
    exact lookL_mem hs
/-- settings of exactly the names ys -/
def SetsAt (K : PySem.W.Frag) (ys : List Str) (v : V) (H : Hp) : Prop := ∃ g, SetAt K g v H ∧ ∀ n, n ∈ ys ↔ (g n).isSome = true
theorem SetAt.off {g : Str → Option Int} {v : V} {H H' : Hp} {d : Addr} (h : SetAt K g v H) (p1 : ∀ C dx fs, H d ≠ some (.ins C dx fs)) (p2 : ∀ kvs, H d ≠ some (.dK kvs)) (e : ExtB d H H') : SetAt K g v H' := by
  obtain ⟨h4, a, dx, hd, kvs, rfl, y, z, df⟩ := h
  refine ⟨h4, a, dx, hd, kvs, rfl, e _ _ (fun w => p1 _ _ _ (w ▸ y)) y, e _ _ (fun w => p2 _ (w ▸ z)) z, df.imp fun m _ s v h1 h2 => ⟨s, h1, ?_⟩⟩
  obtain ⟨b1, b2, r, dr, rfl, hr⟩ := h2
  exact ⟨b1, b2, r, dr, rfl, e r _ (fun z => p1 _ _ _ (z ▸ hr)) hr⟩
def spSettings (K : PySem.W.Frag) : Sp := fun vs H Q _ => ∃ (p c l : Addr) (n : Int) (ys : List Str), vs = [.ref p, .ref l] ∧ PenAt p c n H ∧ n ≤ 90000 ∧ H l = some (.lst (ys.map V.str)) ∧ ys.Nodup ∧ (∀ y ∈ ys, y ∈ names4) ∧
  ∀ a vs H', ExtB p H H' → PenAt p c (n + 32) H' → H' a = some (.lst vs) → vs.length = 8 → a ≠ p → (∀ v ∈ vs, SetsAt K ys v H') → Q (.ref a) H'
def PvS (K : PySem.W.Frag) (ys : List Str) (p c D : Addr) (H1 : Hp) (n : Int) (i j : Nat) (H' : Hp) : Prop := ∃ (ps : List Addr) (ws : List (Key × V)) (L : List (Str × Int)), H' D = some (.lst (ps.map V.ref)) ∧ ps.length = j ∧ Paired (fun (p : Addr) (kv : Key × V) => H' p = some (.tup [kV kv.1, kv.2])) ps ws ∧
        Paired (fun (p : Str × Int) (q : Key × V) => q.1 = Sum.inr p.1 ∧ NR K p.2 q.2 H') L ws ∧ L.map Prod.fst = ys.take j ∧ ExtB p H1 H' ∧ PenAt p c (n + 4 * i + j) H'
def N54 : List Str := ["_law_pen_here", "_law_names", "_law_found", "_law_turn", "_law_spots", "_law_tag"]
theorem sc54 : FnScope N54 ["_law_pen_here", "_law_names"] (defScope (top 54)) := ⟨rfl, rfl, rfl, by decide +kernel, rfl, by decide +kernel, by decide +kernel⟩
theorem r_settings (T : Tx K mg) (Y : TyP P K) : FnR P w K mg base CX0 7 (gA K "_law_settings") (spSettings K) := by
  obtain ⟨fd, F⟩ := T.fd "_law_settings" 54
  obtain ⟨pm, gm, cm, RM⟩ := r_stof (P := P) (w := w) (base := base) T Y
  refine fnR_of F sc54 (fun _ _ _ _ _ _ us hl => match us, hl with | [_, _], _ => rfl) (fun vs H Q E h => ?_) (fun cdv A outer s H vs Q E hr h => ⟨_, PSs.nox (pss_cons
    (ps_set (i := 2) sc54.nd rfl (.inl rfl) (pe_lst pa_nil))
    (pss_cons (ps_for PassesOwn.never rfl (pi_range1 (by rfl) (T.no "range") (pa_cons pe_int pa_nil)) (pg_name (i := 3) sc54.nd rfl (Or.inl rfl)) (pss_cons
      (ps_setLc (i := 4) (own := [("_law_tag", 5)]) (g := gName 5) (tt := tYes) rfl sc54.nd rfl rfl (sw_true rfl rfl rfl (by decide +kernel)) (pi_list (pv 1)) (blkOk_by (N := N54) (sc := defScope (top 54)) (by decide +kernel)) (fun _ _ _ _ _ => pg_name (i := 5) sc54.nd rfl (Or.inl rfl)) (fun _ _ _ _ _ => pts_nil)
        (fun _ _ _ _ _ => pe_tup (pa_cons (pv 5) (pa_cons (StX.pe_makeR T.rm (r_rinit T) (hr.mono (by decide)) rfl (T.gl "Ratio") pass0 (pa_cons (pe_op op_sub (pe_callF (r_draw T) (hr.mono (by decide)) rfl (T.gl "_law_draw") (T.kp "_law_draw") pass0 (pa_cons (pv 0) (pa_cons pe_int pa_nil))) pe_int) (pa_cons pe_int pa_nil))) pa_nil))))
      (pss_one (ps_expr (pe_bm PySem.F.plainAttrs_list PySem.F.slot_list_append PySem.F.type_list_append mt_append (pv 2) (pa_cons
        (ClX.pe_cmeth (pe_glob (v := .ref (gA K "Setting")) rfl (T.gl "Setting") rfl) (T.rd "Setting") cm RM hr pass0 (pa_cons (pe_callTy (call_dictP rfl) (by rfl) (T.no "dict") (by decide +kernel) (pa_cons (pv 4) pa_nil)) pa_nil)) pa_nil))))))
    (pss_one (ps_ret (pv 2))))), ?_⟩)
  · obtain ⟨p, c, l, n, ys, rfl, _⟩ := h
    rfl
  · obtain ⟨p, c, l, n, ys, rfl, hP, hn, hl, nd, y4, q⟩ := h
    have hz : 100 ≤ sizeLine := by decide
    have l4 : ys.length ≤ 4 := nodup4 y4 nd
    refine ⟨Nat.zero_le _, fun F hF => ?_⟩
    have hFp : F ≠ p := Ne.symm (penNe hP hF)
    have hFc : F ≠ c := Ne.symm (penNc hP hF).symm
    have hlF : l ≠ F := fun z => by rw [z, hF] at hl; cases hl
    have hlp : l ≠ p := fun z => by
      obtain ⟨zs, a, k, h1, _⟩ := hP
      rw [z, h1] at hl
      cases ys with
      | nil => cases hl
      | cons a b => cases hl
    refine ⟨_, rfl, by decide, by decide, for_range (lo := 0) (n := 8) (fun i σ' H' => (∃ z3 z4 z5, σ' = [some (.ref p), some (.ref l), some (.ref F), z3, z4, z5]) ∧ ExtB p H H' ∧ PenAt p c (n + 4 * i) H' ∧ ∃ vs, H' F = some (.lst vs) ∧ vs.length = i ∧ ∀ v ∈ vs, SetsAt K ys v H') ⟨⟨none, none, none, rfl⟩, ExtB.self.new hF, (hP.ext (ext1 hF)).le (by omega), [], upd_same, rfl, fun v hv => nomatch hv⟩ ?_ ?_⟩
    · rintro i σ' H1 hi ⟨⟨z3, z4, z5, rfl⟩, e1, P1, vs, hF1, lvs, hvs⟩
      have hl1 := e1 _ _ hlp hl
      refine ⟨_, rfl, l, rfl, ⟨_, SqL.of hl1⟩, fun D hD => ?_⟩
      have hDp : D ≠ p := Ne.symm (penNe P1 hD)
      have hDc : D ≠ c := penNc P1 hD
      have hlD : l ≠ D := fun z => by rw [z, hD] at hl1; cases hl1
      have hFD : F ≠ D := fun z => by rw [z, hD] at hF1; cases hF1
      refine lc_list (K := K) (a := l) (xs := ys.map V.str) (PvS K ys p c D H1 n i) ⟨[], [], [], upd_same, rfl, .nil, .nil, rfl, ExtB.self.new hD, (P1.ext (ext1 hD)).le (by omega)⟩ ?_ ?_ ?_
      · rintro j H2 _ ⟨_, _, _, _, _, _, _, _, e2, _⟩
        exact SqL.of (e2 l _ hlp hl1)
      · rintro j x H2 hx ⟨ps, ws, L, hDl, hpl, hps, hws, hL, e2, P2⟩
        rw [List.getElem?_map] at hx
        obtain ⟨m, hm, rfl⟩ := Option.map_eq_some_iff.mp hx
        have hj := (List.getElem?_eq_some_iff.mp hm).1
        refine ⟨rfl, ?_⟩
        unfold tYes
        refine iteT ⟨_, rfl, _, rfl, p, c, 29, _, rfl, P2, by omega, by decide, by decide, fun d H3 d0 d1 e3 P3 => ⟨_, _, rfl, rfl, ?_⟩⟩
        refine mk_ratio (n := d - 2) (b := 24) (c := 1) (Q := fun y H4 => 2 ≤ sizeLine ∧ ∀ t, H4 t = none → ∃ acc, upd H4 t (.tup [.str m, y]) D = some (.lst acc) ∧ acc.length < sizeLine ∧ PvS K ys p c D H1 n i (j + 1) (upd (upd H4 t (.tup [.str m, y])) D (.lst (acc ++ [.ref t])))) (by decide) (by decide) (by omega) (by omega) fun v H4 e4 hv => ⟨by decide, fun t ht => ?_⟩
        have hD3 := e3 _ _ hDp hDl
        have hD4 := e4 _ _ hD3
        have htD : t ≠ D := fun z => by rw [z, hD4] at ht; cases ht
        have mv : ∀ b o, b ≠ p → b ≠ D → H2 b = some o → upd (upd H4 t (.tup [V.str m, v])) D (.lst (ps.map V.ref ++ [.ref t])) b = some o := fun b o b1 b2 hb => by
          rw [upd_ne b2]
          exact ext1 ht _ _ (e4 _ _ (e3 _ _ b1 hb))
        refine ⟨ps.map V.ref, by rw [upd_ne (Ne.symm htD)]; exact hD4, by rw [List.length_map]; omega, ps ++ [t], ws ++ [(Sum.inr m, v)], L ++ [(m, 1 * (d - 2))], ?_, ?_, ?_, ?_, ?_, ?_, ?_⟩
        · rw [List.map_append]
          exact upd_same
        · rw [List.length_append, hpl] <;> rfl
        · refine paired_snoc (paired_imp hps fun pp kv h => mv _ _ (fun z => ?_) (fun z => ?_) h) (by rw [upd_ne htD]; exact upd_same)
          · obtain ⟨zs, a, l, x, _⟩ := P2
            rw [z, x] at h
            cases h
          · rw [z, hDl] at h
            cases h
        · refine paired_snoc (paired_imp hws fun pp kv h => ⟨h.1, ?_⟩) ⟨rfl, ?_⟩
          · obtain ⟨b1, b2, r, dr, er, hr'⟩ := h.2
            refine ⟨b1, b2, r, dr, er, mv _ _ (fun z => ?_) (fun z => ?_) hr'⟩
            · exact P2.plain.1 _ _ _ (z ▸ hr')
            · rw [z, hDl] at hr'
              cases hr'
          · obtain ⟨b1, b2, r, dr, er, hr'⟩ := hv
            refine ⟨b1, b2, r, dr, er, ?_⟩
            have hrD : r ≠ D := fun z => by rw [z, hD4] at hr'; cases hr'
            show upd (upd H4 t _) D _ r = _
            rw [upd_ne hrD]
            exact ext1 ht _ _ hr'
        · rw [List.map_append, hL, List.take_add_one, hm] <;> rfl
        · intro b o hb hh
          exact mv b o hb (fun z => by rw [z, hD] at hh; cases hh) (e2 b o hb hh)
        · exact (((P3.ext e4).ext (ext1 ht)).upd hDp hDc).le (by push_cast; omega)
      · rintro H2 ⟨ps, ws, L, hDl, hpl, hps, hws, hL, e2, P2⟩
        rw [List.length_map, List.take_length] at hL
        have hF2 := e2 _ _ hFp hF1
        have nL : (L.map Prod.fst).Nodup := by rw [hL]; exact nd
        refine ⟨_, rfl, .inl ⟨rfl, _, SqL.of hF2⟩, rfl, _, rfl, D, ps, ws, rfl, SqL.of hDl, paired_imp hps fun p kv h => SqT.of h, fun M hM => ?_⟩
        obtain ⟨ns, x1, x2, x3⟩ := merge_list hws nL
        have hns : ∀ m, m ∈ ns ↔ (lookL L m).isSome = true := fun m => (x3 m).trans (lookL_some nL m)
        have f4 : Four (lookL L) := fun m s hm => y4 m (by rw [← hL]; exact lookL_mem hm)
        refine ⟨M, _, ns, lookL L, rfl, upd_same, x1.ext monoN (ext1 hM), f4, x2, hns, fun z H3 e3 hS => ?_⟩
        have hF3 := e3 _ _ (ext1 hM _ _ hF2)
        have e23 : ExtB p H1 H3 := (e2.new hM).trans (.of e3)
        have P3 := (P2.ext (ext1 hM)).ext e3
        have eF : ExtB F H3 (upd H3 F (.lst (vs ++ [z]))) := .at_
        have pF1 : ∀ C dx fs, H3 F ≠ some (.ins C dx fs) := fun _ _ _ w => by rw [hF3] at w; cases w
        have pF2 : ∀ kvs, H3 F ≠ some (.dK kvs) := fun _ w => by rw [hF3] at w; cases w
        refine ⟨F, vs, z, rfl, rfl, hF3, by omega, ⟨_, _, _, rfl⟩, ?_, ?_, vs ++ [z], upd_same, by rw [List.length_append, lvs] <;> rfl, fun v hv => ?_⟩
        · intro b o hb hh
          rw [upd_ne (fun w => by rw [w, hF] at hh; cases hh)]
          exact e23 _ _ hb (e1 b o hb hh)
        · exact (P3.upd hFp hFc).le (by rw [List.length_map]; push_cast; omega)
        · rcases List.mem_append.mp hv with hv | hv
          · obtain ⟨g, hg, hg2⟩ := hvs v hv
            exact ⟨g, ((hg.off (fun C dx fs w => P1.plain.1 _ _ _ w) (fun kvs w => by obtain ⟨zs, a, k, h1, _⟩ := P1; rw [h1] at w; cases w) e23).off pF1 pF2 eF), hg2⟩
          · have : v = z := by simpa using hv
            rw [this]
            exact ⟨lookL L, hS.off pF1 pF2 eF, fun m => by rw [← hL]; exact lookL_some nL m⟩
    · rintro σ' H1 ⟨⟨z3, z4, z5, rfl⟩, e1, P1, vs, hF1, lvs, hvs⟩
      exact ⟨_, rfl, q _ _ _ e1 (P1.le (by omega)) hF1 lvs hFp hvs⟩
end
end Bf
end

section
set_option Elab.async false
set_option linter.all false
set_option maxRecDepth 100000
/-! rooms compared, met -/
namespace Bf
open PySem PySem.Spec PyProof.Rows L2
/-- more of what the top leaves -/
structure Tz (K : PySem.W.Frag) : Prop where
  sf : PySem.W.selfFirst K (CRm K) = true
  ne : PySem.W.findIn K (.ref (CRm K)) "__ne__" = some (some (.builtin "object.__ne__"))
section
variable {P : Program} {w : World} {K : PySem.W.Frag} {mg : Str → Option Value} {base : Heap}
theorem DictF.val {α : Type} {At : AtP α} {f : Str → Option α} {H : Hp} : ∀ {ns : List Str} {kvs : List (Key × V)}, DictF At f ns kvs H → ns.Nodup → ∀ p ∈ kvs, valV kvs p.1 = some p.2
  | _, _, .nil, _, p, hp => nomatch hp
  | m :: ns, (k, v) :: kvs, .cons ⟨a, s, b, c⟩ t, nd, p, hp => by
    have a' : k = Sum.inr m := a
    subst a'
    obtain ⟨n1, n2⟩ := List.nodup_cons.mp nd
    rcases List.mem_cons.mp hp with z | z
    · rw [z]
      unfold valV
      simp
    · have ih := DictF.val t n2 p z
      have hne : p.1 ≠ Sum.inr m := fun w => by
        have hmem : p.1 ∈ kvs.map Prod.fst := List.mem_map_of_mem z
        rw [DictF.ks t, w] at hmem
        obtain ⟨x, hx, ex⟩ := List.mem_map.mp hmem
        injection ex with ex
        exact n1 (ex ▸ hx)
      rw [← ih]
      unfold valV
      simp [Ne.symm hne]
def DHeld (K : PySem.W.Frag) : Eqv := fun x y H => DDict (DTup K (Dh K)) x y H ∨ ∃ d kvs, x = .ref d ∧ y = .ref d ∧ H d = some (.dK kvs) ∧ ∀ p ∈ kvs, valV kvs p.1 = some p.2 ∧ ∃ t, p.2 = .ref t
theorem rc_held2 {X : Cx} (T : Tx K mg) (hK : X.K = K) (hm : X.mg = mg) : RcG X 3 (DHeld K) := by
  intro A pins s σ H x y u v sb I rx ry d
  rcases d with d | ⟨d, kvs, rfl, rfl, hd, hp⟩
  · exact rc_held T hK hm A pins s σ H x y u v sb I rx ry d
  · have hu := sb.room.units
    have hR : EqR X.K H (EqV X.K H 1) (.ref d) (.ref d) := .inr ⟨d, d, kvs, kvs, rfl, rfl, hd, hd, rfl, fun p hp' => by
      obtain ⟨h1, t, h2⟩ := hp p hp'
      exact ⟨p.2, h1, by rw [h2]; exact .inr (.inl ⟨t, rfl, rfl⟩)⟩⟩
    exact eqR_run I (A := A) (by omega) (eqV_run I 1 A.in1 (by show A.units + 1 + 1 < cLine; omega)) hR rx ry _ _ ⟨rfl, H, I, Ext.rfl'⟩
def spRmEq2 (K : PySem.W.Frag) : Sp := fun vs H Q _ => ∃ x y f, vs = [x, y] ∧ RoomAt K f x H ∧ RoomAt K f y H ∧ ∀ H', Ext H H' → Q (.bl true) H'
theorem r_rmeq2 (T : Tx K mg) : FnR P w K mg base CX0 4 (mA K "Room" "__eq__") (spRmEq2 K) := by
  obtain ⟨fd, F⟩ := T.mf "Room" "__eq__" "Room.__eq__" 42 5
  refine fnR_of F sc42_5 (fun _ _ _ _ _ _ us hl => match us, hl with | [_, _], _ => rfl) (fun vs H Q E h => ?_) (fun cdv A outer s H vs Q E hr h => ⟨_, PSs.nox (pss_one
    (ps_ret (pe_and (pe_callB call_isi (by rfl) (T.no "isinstance") (by decide +kernel) (pa_cons (pv 1) (pa_cons (pe_glob (v := .ref (gA K "Room")) rfl (T.gl "Room") rfl) pa_nil)))
      (pe_one (pe_cmpR (op_eqG (rc_held2 T rfl rfl) hr) (pe_fld (pv 0) rfl) (pe_fld (pv 1) rfl) (nomark _)))))), ?_⟩)
  · obtain ⟨x, y, f, rfl, _⟩ := h
    rfl
  · obtain ⟨x, y, f, rfl, ⟨f4, a, dx, d, kvs, rfl, ha, hd, hf⟩, ⟨_, b, dy, d', kvs', rfl, hb, hd', hf'⟩, q⟩ := h
    have cl := (T.ci "Room").cl
    have na := T.nf "Room" "held"
    refine ⟨_, rfl, _, _, _, _, true, rfl, .own _, (T.ci "Room").ty hb, kit_self, true, rfl, iteT ⟨_, rfl, a, _, dx, _, _, rfl, ha, cl, na, rfl, _, rfl, b, _, dy, _, _, rfl, hb, cl, na, rfl, ?_, q⟩⟩
    by_cases hdd : d = d'
    · subst hdd
      refine .inr ⟨d, kvs, rfl, rfl, hd, fun p hp => ?_⟩
      obtain ⟨i, hi⟩ := List.getElem?_of_mem hp
      obtain ⟨k, v⟩ := p
      obtain ⟨n, s, hn, hk, hs, hv⟩ := hf.ix hi
      have hval : valV kvs k = some v := hf.val (nodup_nms f) (k, v) hp
      obtain ⟨_, t, v1, v2, v3, e2, _⟩ := hv
      exact ⟨hval, t, e2⟩
    · refine .inl ⟨d, d', kvs, kvs', rfl, rfl, hdd, hd, hd', by rw [hf.ks, hf'.ks], fun oa ob => ?_⟩
      refine prs_of hf hf' fun s v hv => ?_
      have e1 : ExtB d H (upd H d (.frz oa (.dK kvs))) := fun c o hc hh => by rw [upd_ne hc]; exact hh
      have h1 := hv.off (plain_dK hd) e1
      have hd1 : upd H d (.frz oa (.dK kvs)) d' = some (.dK kvs') := by rw [upd_ne (Ne.symm hdd)]; exact hd'
      exact h1.off (plain_dK hd1) fun c o hc hh => by
        show lck H d d' oa ob kvs kvs' c = some o
        unfold lck
        rw [upd_ne hc]
        exact hh
theorem op_eqRm {X : Cx} (T : Tx X.K X.mg) (hr : Room 4 X.A) : OpR X (compareOp .Eq) (rCmpI (CRm X.K) (spRmEq2 X.K) E0) :=
  op_cmpI (fun _ _ => rfl) (T.me "Room" "__eq__").at_ (T.me "Room" "__eq__").fn (r_rmeq2 T) hr pass0
theorem op_neRm {X : Cx} (T : Tx X.K X.mg) (Z : Tz X.K) (hr : Room 5 X.A) : OpR X (compareOp .NotEq) (rNeI (CRm X.K) (spRmEq2 X.K) E0) :=
  op_neI (T.me "Room" "__eq__").at_ (T.me "Room" "__eq__").fn Z.ne (T.ci "Room").hm (r_rmeq2 T) hr pass0
theorem op_andRm {X : Cx} (T : Tx X.K X.mg) (Y : TyP X.prog X.K) (Z : Tz X.K) (hr : Room 8 X.A) : OpR X (binaryOp .BitAnd) (rCmpI (CRm X.K) (spAnd X.K) E0) :=
  op_binI Z.sf (T.me "Room" "__and__").at_ (T.me "Room" "__and__").fn (r_and T Y) hr pass0
theorem rm_cmp {sp : Sp} {f g : Rm} {x y : V} {H : Hp} {Q : VK} (hx : RoomAt K f x H) (hy : RoomAt K g y H) (h : sp [x, y] H Q E0) : rCmpI (CRm K) sp E0 x y H Q := by
  obtain ⟨_, a, dx, d, kvs, rfl, ha, _⟩ := hx
  obtain ⟨_, b, dy, e, lvs, rfl, hb, _⟩ := hy
  exact ⟨a, dx, _, b, dy, _, rfl, rfl, ha, hb, h⟩
theorem rm_eq {f : Rm} {x y : V} {H : Hp} {Q : VK} (hx : RoomAt K f x H) (hy : RoomAt K f y H) (q : ∀ H', Ext H H' → Q (.bl true) H') : rCmpI (CRm K) (spRmEq2 K) E0 x y H Q :=
  rm_cmp hx hy ⟨x, y, f, rfl, hx, hy, q⟩
theorem rm_ne {f : Rm} {x y : V} {H : Hp} {Q : VK} (hx : RoomAt K f x H) (hy : RoomAt K f y H) (q : ∀ H', Ext H H' → Q (.bl false) H') : rNeI (CRm K) (spRmEq2 K) E0 x y H Q := by
  obtain ⟨_, a, dx, d, kvs, rfl, ha, _⟩ := id hx
  obtain ⟨_, b, dy, e, lvs, rfl, hb, _⟩ := id hy
  exact ⟨a, dx, _, b, dy, _, rfl, rfl, ha, hb, _, _, f, rfl, hx, hy, fun H' e => ⟨true, rfl, q H' e⟩⟩
theorem rm_and {f g : Rm} {x y : V} {H : Hp} {Q : VK} (hx : RoomAt K f x H) (hy : RoomAt K g y H) (q : ∀ z H', Ext H H' → RoomO K (meetF f g) z H' → Q z H') : rCmpI (CRm K) (spAnd K) E0 x y H Q :=
  rm_cmp hx hy ⟨x, y, f, g, rfl, hx, hy, q⟩
theorem RoomAt.off {f : Rm} {v : V} {H H' : Hp} {p c : Addr} {n : Int} (h : RoomAt K f v H) (hp : PenAt p c n H) (e : ExtB p H H') : RoomAt K f v H' := by
  have pl := hp.plain
  obtain ⟨f4, a, dx, d, kvs, rfl, ha, hd, hf⟩ := h
  refine ⟨f4, a, dx, d, kvs, rfl, e _ _ (fun z => pl.1 _ _ _ (z ▸ ha)) ha, e _ _ (fun z => ?_) hd, hf.off offS pl e⟩
  obtain ⟨zs, a', l, h1, _⟩ := hp
  rw [z, h1] at hd
  cases hd
theorem RoomO.ext {o : Option Rm} {v : V} {H H' : Hp} (h : RoomO K o v H) (e : Ext H H') : RoomO K o v H' := by
  cases o with
  | none => exact h
  | some f => exact RoomAt.ext h e
theorem RoomO.off {o : Option Rm} {v : V} {H H' : Hp} {p c : Addr} {n : Int} (h : RoomO K o v H) (hp : PenAt p c n H) (e : ExtB p H H') : RoomO K o v H' := by
  cases o with
  | none => exact h
  | some f => exact RoomAt.off h hp e
theorem MetAt.ext {o : Option Rm} {v : V} {H H' : Hp} (h : MetAt o v H) (e : Ext H H') : MetAt o v H' := by
  cases o with
  | none => exact h
  | some f => exact SpansAt.ext h e
theorem MetAt.off {o : Option Rm} {v : V} {H H' : Hp} {p c : Addr} {n : Int} (h : MetAt o v H) (hp : PenAt p c n H) (e : ExtB p H H') : MetAt o v H' := by
  cases o with
  | none => exact h
  | some f => exact SpansAt.off h hp e
theorem RoomO.isN {o : Option Rm} {v : V} {H : Hp} (h : RoomO K o v H) : decide (v = V.non) = o.isNone := by
  cases o with
  | none => exact decide_eq_true h
  | some f =>
    obtain ⟨_, a, dx, d, kvs, rfl, _⟩ := h
    exact decide_eq_false (fun z => nomatch z)
theorem MetAt.isN {o : Option Rm} {v : V} {H : Hp} (h : MetAt o v H) : decide (v = V.non) = o.isNone := by
  cases o with
  | none => exact decide_eq_true h
  | some f =>
    obtain ⟨_, d, kvs, ns, rfl, _⟩ := h
    exact decide_eq_false (fun z => nomatch z)
theorem SpansAt.okF {f : Rm} {v : V} {H : Hp} (h : SpansAt f v H) : OkF f := by
  obtain ⟨f4, d, kvs, ns, rfl, hd, df, nd, hm⟩ := h
  intro n s hn
  obtain ⟨v, s', _, h1, h2⟩ := df.get1 ((hm n).mpr (by rw [hn] <;> rfl))
  rw [hn] at h1
  cases h1
  exact h2.1
end
end Bf
end

section
set_option Elab.async false
set_option linter.all false
set_option maxRecDepth 100000
/-! a pair of rooms is right -/
namespace Bf
open PySem PySem.Spec PyProof.Rows L2
section
variable {P : Program} {w : World} {K : PySem.W.Frag} {mg : Str → Option Value} {base : Heap}
theorem rpI_room {f : Rm} {v : V} {H : Hp} (h : RoomAt K f v H) : RpI (CRm K) (spRep K) E0 v (repT f) H := by
  obtain ⟨_, a, dx, d, kvs, rfl, ha, _⟩ := id h
  exact ⟨a, dx, _, rfl, ha, fun H' e => ⟨_, f, rfl, RoomAt.ext h e, fun H2 e2 => ⟨rfl, e2⟩⟩⟩
theorem tupT_len {a b : Str} (ha : a.length ≤ 206) (hb : b.length ≤ 206) : (tupleText [a, b]).length ≤ sizeLine := by
  have hz : 1000 ≤ sizeLine := by decide
  have j := join_length_add [a, b] (by simp)
  rw [piled_cons, piled_cons] at j
  have p0 : piled ([] : List Str) = 0 := by simp [piled]
  have z1 : (("(" : String) : Str).length = 1 := rfl
  have z2 : ((")" : String) : Str).length = 1 := rfl
  unfold tupleText
  rw [strLen_append, strLen_append, z1]
  show 1 + (Str.join ", " [a, b]).length + ((")" : String) : Str).length ≤ sizeLine
  rw [z2]
  omega
theorem shaped4 : ∀ ys ∈ lists4 4, SeqAt.shaped (.tuple (ys.map PyData.str)) = true := by decide +kernel
theorem dpStrs {H : Hp} : ∀ ys : List Str, DpAll K H (ys.map V.str) (ys.map PyData.str)
  | [] => .nil
  | y :: ys => .cons (.str y) (dpStrs ys)
/-- two equal tuples of names -/
theorem eq_names {u t : Addr} {ys : List Str} {H : Hp} {Q : VK} (h4 : ∀ y ∈ ys, y ∈ names4) (hl : ys.length ≤ 4) (hu : H u = some (.tup (ys.map V.str))) (ht : H t = some (.tup (ys.map V.str))) (q : Q (.bl true) H) : rEqD K (.ref u) (.ref t) H Q := by
  have hs := shaped4 ys (mem_lists4 4 ys h4 hl)
  refine ⟨_, _, .tup (SqT.of hu) (dpStrs ys), .tup (SqT.of ht) (dpStrs ys), hs, hs, ?_⟩
  rw [SeqAt.eqv_refl _ (Bool.and_eq_true_iff.mp hs).1]
  exact q
theorem RoomAt.names {f : Rm} {v : V} {H : Hp} (h : RoomAt K f v H) : ∃ a kvs dx hd, v = .ref a ∧ H a = some (.ins (CRm K) dx [("held", .ref hd)]) ∧ HoldsD K (CRm K) a kvs H ∧ (kvs.map fun kv => kV kv.1) = (nms f).map V.str := by
  obtain ⟨_, a, dx, d, kvs, rfl, ha, hd, hf⟩ := h
  refine ⟨a, kvs, dx, d, rfl, ha, ⟨dx, d, ha, .inl hd⟩, ?_⟩
  have := congrArg (List.map kV) hf.ks
  rw [List.map_map, List.map_map] at this
  exact this
theorem nms_in {α : Type} (f : Str → Option α) : ∀ y ∈ nms f, y ∈ names4 := fun y hy => (List.mem_filter.mp hy).1
/-- a room's own method asked about a setting -/
theorem holds_run {f : Rm} {s : Str → Option Int} {x y : V} {H : Hp} {Q : VK} (hx : RoomAt K f x H) (hy : SetAt K s y H) (q : ∀ H', Ext H H' → Q (.bl (holdsB f s)) H') :
    ∃ a dx, ∃ fs : List (Str × V), x = .ref a ∧ H a = some (.ins (CRm K) dx fs) ∧ fs.lookup ("holds" : Str) = none ∧ spHolds K [x, y] H Q E0 := by
  obtain ⟨_, a, dx, d, kvs, rfl, ha, _⟩ := id hx
  exact ⟨a, dx, _, rfl, ha, rfl, _, _, f, s, rfl, hx, hy, q⟩
def spPair : Sp := fun vs H Q _ => ∃ (p c : Addr) (n : Int) (u v : V) (f g : Rm), vs = [.ref p, u, v] ∧ PenAt p c n H ∧ n ≤ 80000 ∧ SpansAt f u H ∧ SpansAt g v H ∧ ∀ H', ExtB p H H' → PenAt p c (n + 32) H' → Q (.bl true) H'
def N55 : List Str := ["_law_pen_here", "_law_one", "_law_other", "_law_mine", "_law_yours", "_law_kept", "_law_due", "_law_found", "_law_names", "_law_here", "_law_both"]
theorem sc55 : FnScope N55 ["_law_pen_here", "_law_one", "_law_other"] (defScope (top 55)) := ⟨rfl, rfl, rfl, by decide +kernel, rfl, by decide +kernel, by decide +kernel⟩
theorem r_pair (T : Tx K mg) (Y : TyP P K) (Z : Tz K) : ∃ fd, FnOkG P w K mg base CX0 10 (gA K "_law_pair_right") fd ["_law_pen_here", "_law_one", "_law_other"] spPair ∧ L2.Binds K fd ["_law_pen_here", "_law_one", "_law_other"] [] := by
  obtain ⟨fd, F⟩ := T.fd "_law_pair_right" 55
  obtain ⟨pn, gn, fn, hpn, Fn, hbn⟩ := r_names (P := P) (w := w) (base := base) T
  refine ⟨fd, okG F sc55 (fun vs H Q E h => ?_) (fun cdv A outer s H vs Q E hG hr h => ⟨_, PSs.nox (pss_cons
    (ps_par (i := 3) (j := 4) (by rfl) sc55.nd rfl rfl (by decide) rfl rfl (pa_cons (pe_callF (r_lroom T Y) (hr.mono (by decide)) rfl (T.gl "_law_room") (T.kp "_law_room") pass0 (pa_cons (pv 1) pa_nil)) (pa_cons (pe_callF (r_lroom T Y) (hr.mono (by decide)) rfl (T.gl "_law_room") (T.kp "_law_room") pass0 (pa_cons (pv 2) pa_nil)) pa_nil)) (by rfl))
    (pss_cons (ps_par (i := 5) (j := 6) (by rfl) sc55.nd rfl rfl (by decide) rfl rfl (pa_cons (pe_callB (call_repT (T.me "Room" "__repr__").at_ (T.me "Room" "__repr__").fn hG (r_repr T) hr pass0) (by rfl) (T.no "repr") (by decide +kernel) (pa_cons (pe_tup (pa_cons (pv 3) (pa_cons (pv 4) pa_nil))) pa_nil)) (pa_cons (pe_callF (r_met T) (hr.mono (by decide)) rfl (T.gl "_law_met") (T.kp "_law_met") pass0 (pa_cons (pv 1) (pa_cons (pv 2) pa_nil))) pa_nil)) (by rfl))
    (pss_cons (ps_set (i := 7) sc55.nd rfl (.inl rfl) (pe_op (op_andRm T Y Z (hr.mono (by decide))) (pv 3) (pv 4)))
    (pss_cons (ps_if (pt_cmpR op_ne (pe_callB (call_repT (T.me "Room" "__repr__").at_ (T.me "Room" "__repr__").fn hG (r_repr T) hr pass0) (by rfl) (T.no "repr") (by decide +kernel) (pa_cons (pe_tup (pa_cons (pv 3) (pa_cons (pv 4) pa_nil))) pa_nil)) (pv 5) (nomark _)) (pss_one (ps_ret pe_bl)) pss_nil)
    (pss_cons (ps_set (i := 8) sc55.nd rfl (.inl rfl) (pe_callB (call_sortS rfl) (by rfl) (T.no "sorted") (by decide +kernel) (pa_cons (pe_callTy (call_setL rfl) (by rfl) (T.no "set") (by decide +kernel) (pa_cons
      (pe_op op_cat (pe_callTy (call_listD rfl) (by rfl) (T.no "list") (by decide +kernel) (pa_cons (pv 1) pa_nil)) (pe_callTy (call_listD rfl) (by rfl) (T.no "list") (by decide +kernel) (pa_cons (pv 2) pa_nil))) pa_nil)) pa_nil)))
    (pss_cons (ps_for PassesOwn.never rfl (pi_list (pe_callF (r_settings T Y) (hr.mono (by decide)) rfl (T.gl "_law_settings") (T.kp "_law_settings") pass0 (pa_cons (pv 0) (pa_cons (pv 8) pa_nil)))) (pg_name (i := 9) sc55.nd rfl (Or.inl rfl)) (pss_cons
      (ps_set (i := 10) sc55.nd rfl (.inl rfl) (pe_and (pe_methF (pv 3) (T.ci "Room").cl (T.me "Room" "holds") (r_holds T) (hr.mono (by decide)) pass0 (pa_cons (pv 9) pa_nil)) (pe_one (pe_methF (pv 4) (T.ci "Room").cl (T.me "Room" "holds") (r_holds T) (hr.mono (by decide)) pass0 (pa_cons (pv 9) pa_nil)))))
      (pss_cons (ps_if (PW.pt (pw_and (pt_cmpR op_isN (pv 7) pe_non (nomark _)) (pw_and1 (pt_val (pv 10))))) (pss_one (ps_ret pe_bl)) pss_nil)
      (pss_one (ps_if (PW.pt (pw_and (pt_cmpR op_notN (pv 7) pe_non (nomark _)) (pw_and1 (pt_cmpR op_ne (pe_methF (pv 7) (T.ci "Room").cl (T.me "Room" "holds") (r_holds T) (hr.mono (by decide)) pass0 (pa_cons (pv 9) pa_nil)) (pv 10) (nomark _))))) (pss_one (ps_ret pe_bl)) pss_nil)))))
    (pss_cons (ps_if (PW.pt (pw_or (pt_cmpR op_isN (pv 6) pe_non (nomark _)) (pw_or1 (pt_cmpR op_isN (pv 7) pe_non (nomark _))))) (pss_one (ps_ret (pe_and (pe_cmpR op_isN (pv 6) pe_non (nomark _)) (pe_one (pe_cmpR op_isN (pv 7) pe_non (nomark _)))))) pss_nil)
    (pss_one (ps_ret (pe_and (pe_callB call_isi (by rfl) (T.no "isinstance") (by decide +kernel) (pa_cons (pv 7) (pa_cons (pe_glob (v := .ref (gA K "Room")) rfl (T.gl "Room") rfl) pa_nil)))
      (pe_and (pe_cmpR (op_eqRm T (hr.mono (by decide))) (pv 7) (pe_callF (r_lroom T Y) (hr.mono (by decide)) rfl (T.gl "_law_room") (T.kp "_law_room") pass0 (pa_cons (pv 6) pa_nil)) (nomark _))
      (pe_one (pe_cmpR (op_eqD hr.units) (pe_prop (pv 7) (T.ci "Room").cl hpn Fn (hr.mono (by decide)) hbn .nil pass0 (by rfl)) (pe_callTy call_tuple_of (by rfl) (T.no "tuple") (by decide +kernel) (pa_cons (pv 8) pa_nil)) (nomark _)))))))))))))), ?_⟩),
    F.bindsN fun _ _ _ _ _ _ us hl => match us, hl with | [_, _, _], _ => rfl⟩
  · obtain ⟨p, c, n, u, v, f, g, rfl, _⟩ := h
    rfl
  · obtain ⟨p, c, n, u, v, f, g, rfl, hP, hn, hu, hv, q⟩ := h
    have hz : 1000 ≤ sizeLine := by decide
    have okf := hu.okF
    have okg := hv.okF
    obtain ⟨f4, d, kvs, ns, rfl, hd, df, ndn, hm⟩ := id hu
    obtain ⟨g4, e, lvs, ms, rfl, he, dg, ndm, gm⟩ := id hv
    refine cutS (fun σ' H' => ∃ x1 x2, σ' = [some (.ref p), some (.ref d), some (.ref e), some x1, some x2, none, none, none, none, none, none] ∧ Ext H H' ∧ RoomAt K f x1 H' ∧ RoomAt K g x2 H') ?_ (fun hk => ?_)
    rotate_left
    · exact ⟨_, rfl, _, f, rfl, hu, fun x1 H1 e1 R1 => ⟨_, rfl, _, g, rfl, hv.ext e1, fun x2 H2 e2 R2 => ⟨_, _, rfl, hk _ _ ⟨x1, x2, rfl, e1.trans e2, RoomAt.ext R1 e2, R2⟩⟩⟩⟩
    rintro σ' H1 ⟨x1, x2, rfl, E1, R1, R2⟩
    refine cutS (fun σ' H' => ∃ zd, σ' = [some (.ref p), some (.ref d), some (.ref e), some x1, some x2, some (.str (tupleText [repT f, repT g])), some zd, none, none, none, none] ∧ Ext H1 H' ∧ MetAt (meetF f g) zd H') ?_ (fun hk => ?_)
    rotate_left
    · exact ⟨_, rfl, _, rfl, (by show 2 ≤ sizeLine; omega), fun t ht => ⟨t, [x1, x2], [repT f, repT g], rfl, upd_same, .cons (rpI_room (RoomAt.ext R1 (ext1 ht))) (.cons (rpI_room (RoomAt.ext R2 (ext1 ht))) .nil), tupT_len (repT_len okf) (repT_len okg), fun H4 e4 =>
        ⟨_, rfl, _, rfl, _, _, f, g, rfl, hu.ext ((E1.trans (ext1 ht)).trans e4), hv.ext ((E1.trans (ext1 ht)).trans e4), fun zd H5 e5 hM => ⟨_, _, rfl, hk _ _ ⟨zd, rfl, ((ext1 ht).trans e4).trans e5, hM⟩⟩⟩⟩⟩
    rintro σ' H2 ⟨zd, rfl, E2, hM⟩
    have R1 : RoomAt K f x1 H2 := RoomAt.ext R1 E2
    have R2 : RoomAt K g x2 H2 := RoomAt.ext R2 E2
    refine cutS (fun σ' H' => ∃ zf, σ' = [some (.ref p), some (.ref d), some (.ref e), some x1, some x2, some (.str (tupleText [repT f, repT g])), some zd, some zf, none, none, none] ∧ Ext H2 H' ∧ RoomO K (meetF f g) zf H') ?_ (fun hk => ?_)
    rotate_left
    · refine ⟨_, rfl, _, rfl, rm_and (Q := fun z H' => gName 7 z [some (.ref p), some (.ref d), some (.ref e), some x1, some x2, some (.str (tupleText [repT f, repT g])), some zd, none, none, none, none] H' _) R1 R2 fun zf H6 e6 hF => hk _ _ ⟨zf, rfl, e6, hF⟩⟩
    rintro σ' H3 ⟨zf, rfl, E3, hF⟩
    have R1 : RoomAt K f x1 H3 := RoomAt.ext R1 E3
    have R2 : RoomAt K g x2 H3 := RoomAt.ext R2 E3
    have hM := hM.ext E3
    refine cutS (fun σ' H' => σ' = [some (.ref p), some (.ref d), some (.ref e), some x1, some x2, some (.str (tupleText [repT f, repT g])), some zd, some zf, none, none, none] ∧ Ext H3 H') ?_ (fun hk => ?_)
    rotate_left
    · exact ⟨_, rfl, _, rfl, (by show 2 ≤ sizeLine; omega), fun t ht => ⟨t, [x1, x2], [repT f, repT g], rfl, upd_same, .cons (rpI_room (RoomAt.ext R1 (ext1 ht))) (.cons (rpI_room (RoomAt.ext R2 (ext1 ht))) .nil), tupT_len (repT_len okf) (repT_len okg), fun H4 e4 =>
        ⟨_, rfl, rfl, false, (by rw [decide_eq_true rfl] <;> rfl), iteF (hk _ _ ⟨rfl, (ext1 ht).trans e4⟩)⟩⟩⟩
    rintro σ' H4 ⟨rfl, E4⟩
    have R1 : RoomAt K f x1 H4 := RoomAt.ext R1 E4
    have R2 : RoomAt K g x2 H4 := RoomAt.ext R2 E4
    have hM := hM.ext E4
    have hF := hF.ext E4
    have EH : Ext H H4 := ((E1.trans E2).trans E3).trans E4
    have l4 : ns.length ≤ 4 := nodup4 (fun n hn => by
      obtain ⟨s, e⟩ := Option.isSome_iff_exists.mp ((hm n).mp hn)
      exact f4 n s e) ndn
    have m4 : ms.length ≤ 4 := nodup4 (fun n hn => by
      obtain ⟨s, e⟩ := Option.isSome_iff_exists.mp ((gm n).mp hn)
      exact g4 n s e) ndm
    have ek : (kvs.map fun kv => kV kv.1) = ns.map V.str := by
      have := congrArg (List.map kV) df.ks
      rw [List.map_map, List.map_map] at this
      exact this
    have el : (lvs.map fun kv => kV kv.1) = ms.map V.str := by
      have := congrArg (List.map kV) dg.ks
      rw [List.map_map, List.map_map] at this
      exact this
    refine cutS (fun σ' H' => ∃ pl ys, σ' = [some (.ref p), some (.ref d), some (.ref e), some x1, some x2, some (.str (tupleText [repT f, repT g])), some zd, some zf, some (.ref pl), none, none] ∧ Ext H4 H' ∧ H' pl = some (.lst (ys.map V.str)) ∧ ys.Nodup ∧ (∀ k, k ∈ ys ↔ k ∈ ns ++ ms) ∧ sortedS ys = true) ?_ (fun hk => ?_)
    rotate_left
    · refine ⟨_, rfl, d, kvs, rfl, .inl (EH _ _ hd), fun p1 h1 => ⟨_, rfl, e, lvs, rfl, .inl (ext1 h1 _ _ (EH _ _ he)), fun p2 h2 => ⟨p1, p2, _, _, rfl, rfl, ext1 h2 _ _ upd_same, upd_same, ?_, fun p3 h3 => ⟨p3, ns ++ ms, rfl, ?_, ?_, fun ps hps => ⟨ps, ns ++ ms, rfl, upd_same, ?_, fun ys pl nd hys hs hpl => hk _ _ ⟨pl, ys, rfl, ((((ext1 h1).trans (ext1 h2)).trans (ext1 h3)).trans (ext1 hps)).trans (ext1 (o := .lst (ys.map V.str)) hpl), upd_same, nd, hys, hs⟩⟩⟩⟩⟩⟩
      · rw [ek, el, List.length_map, List.length_map]; omega
      · rw [List.map_append, ← ek, ← el]
        exact SqL.of upd_same
      · rw [List.length_append]; omega
      · rw [List.length_append]; omega
    rintro σ' H9 ⟨pl, ys, rfl, E9, hL, nd, hys, hs⟩
    have R1 : RoomAt K f x1 H9 := RoomAt.ext R1 E9
    have R2 : RoomAt K g x2 H9 := RoomAt.ext R2 E9
    have hM := hM.ext E9
    have hF := hF.ext E9
    have y4 : ∀ y ∈ ys, y ∈ names4 := fun y hy => by
      rcases List.mem_append.mp ((hys y).mp hy) with z | z
      · obtain ⟨s, e⟩ := Option.isSome_iff_exists.mp ((hm y).mp z)
        exact f4 y s e
      · obtain ⟨s, e⟩ := Option.isSome_iff_exists.mp ((gm y).mp z)
        exact g4 y s e
    have P9 := hP.ext (EH.trans E9)
    refine ⟨_, rfl, _, rfl, p, c, pl, n, ys, rfl, P9, by omega, hL, nd, y4, fun a vs H10 e10 P10 ha lvs' hap hvs => ?_⟩
    have R1 : RoomAt K f x1 H10 := RoomAt.off R1 P9 e10
    have R2 : RoomAt K g x2 H10 := RoomAt.off R2 P9 e10
    have hM := hM.off P9 e10
    have hF := hF.off P9 e10
    have hplp : pl ≠ p := fun z => by
      obtain ⟨zs, a', k, h1, _⟩ := P9
      rw [z, h1] at hL
      cases ys with
      | nil => cases hL
      | cons a b => cases hL
    have hL10 := e10 _ _ hplp hL
    have E10 : ExtB p H H10 := fun b o hb hh => e10 b o hb (E9 b o (EH b o hh))
    obtain ⟨_, a1, dx1, hd1, k1, rfl, ha1, _⟩ := id R1
    obtain ⟨_, a2, dx2, hd2, k2, rfl, ha2, _⟩ := id R2
    refine ⟨a, rfl, ⟨_, SqL.of ha⟩, for_list (K := K) (a := a) (xs := vs) (fun i σ' H' => (∃ z9 z10, σ' = [some (.ref p), some (.ref d), some (.ref e), some (.ref a1), some (.ref a2), some (.str (tupleText [repT f, repT g])), some zd, some zf, some (.ref pl), z9, z10]) ∧ Ext H10 H') ⟨⟨none, none, rfl⟩, Ext.rfl'⟩ (fun i σ' H' _ h => SqL.of (h.2 _ _ ha)) ?_ ?_⟩
    · rintro i x σ' H11 hx ⟨⟨z9, z10, rfl⟩, e11⟩
      obtain ⟨s, hS, hs2⟩ := hvs x (List.mem_of_getElem? hx)
      dsimp only [gName]
      refine cutS (fun σ' H' => σ' = [some (.ref p), some (.ref d), some (.ref e), some (.ref a1), some (.ref a2), some (.str (tupleText [repT f, repT g])), some zd, some zf, some (.ref pl), some x, some (.bl (holdsB f s && holdsB g s))] ∧ Ext H10 H') ?_ (fun hk => ?_)
      rotate_left
      · refine ⟨_, rfl, a1, dx1, _, rfl, e11 _ _ ha1, rfl, _, rfl, _, _, f, s, rfl, RoomAt.ext R1 e11, SetAt.ext hS e11, fun H12 e12 => ⟨holdsB f s, rfl, ?_⟩⟩
        have e2 := e11.trans e12
        cases hb : holdsB f s with
        | false => exact iteF (hk _ _ ⟨by rw [hb] <;> rfl, e2⟩)
        | true => exact iteT ⟨_, rfl, a2, dx2, _, rfl, e2 _ _ ha2, rfl, _, rfl, _, _, g, s, rfl, RoomAt.ext R2 e2, SetAt.ext hS e2, fun H13 e13 => hk _ _ ⟨by rw [hb] <;> rfl, e2.trans e13⟩⟩
      rintro σ' H12 ⟨rfl, e12⟩
      have hF12 := hF.ext e12
      refine ⟨_, rfl, rfl, _, rfl, ?_⟩
      rw [hF12.isN]
      cases hmt : meetF f g with
      | none =>
        have hcl : clash f g = true := by
          unfold meetF at hmt
          split at hmt
          · assumption
          · cases hmt
        have hb := holds_clash (s := s) hcl
        refine iteT ⟨_, rfl, _, rfl, ?_⟩
        rw [hb]
        refine iteF ⟨_, rfl, rfl, _, rfl, ?_⟩
        rw [hF12.isN, hmt]
        exact iteF (iteF ⟨⟨_, _, rfl⟩, e12⟩)
      | some h =>
        have hcl : clash f g = false := by
          unfold meetF at hmt
          split at hmt
          · cases hmt
          · rename_i hh
            simpa using hh
        have hh : comb f g = h := by
          unfold meetF at hmt
          rw [hcl] at hmt
          exact Option.some.inj hmt
        have hb := holds_comb (s := s) hcl
        rw [hh] at hb
        rw [hmt] at hF12
        obtain ⟨_, a3, dx3, hd3, k3, rfl, ha3, _⟩ := id (show RoomAt K h zf H12 from hF12)
        refine iteF (iteF ⟨_, rfl, rfl, _, rfl, iteT ⟨_, rfl, a3, dx3, _, rfl, ha3, rfl, _, rfl, _, _, h, s, rfl, hF12, SetAt.ext hS e12, fun H13 e13 => ⟨_, rfl, rfl, false, ?_, iteF ⟨⟨_, _, rfl⟩, e12.trans e13⟩⟩⟩⟩)
        rw [hb, decide_eq_true rfl] <;> rfl
    · rintro σ' H11 ⟨⟨z9, z10, rfl⟩, e11⟩
      have hM11 := hM.ext e11
      have hF11 := hF.ext e11
      have out : ∀ H', Ext H11 H' → Q (.bl true) H' := fun H' e' => q H' (fun b o hb hh => e' b o (e11 b o (E10 b o hb hh))) ((P10.ext e11).ext e')
      refine ⟨_, rfl, rfl, _, rfl, ?_⟩
      rw [hM11.isN]
      cases hmt : meetF f g with
      | none =>
        refine iteT (iteT ⟨_, rfl, rfl, _, rfl, ?_⟩)
        rw [hM11.isN, hmt]
        refine iteT ⟨_, rfl, rfl, ?_⟩
        rw [hF11.isN, hmt]
        exact out _ Ext.rfl'
      | some h =>
        have hh : comb f g = h := by
          unfold meetF at hmt
          split at hmt
          · cases hmt
          · exact Option.some.inj hmt
        refine iteF ⟨_, rfl, rfl, _, rfl, ?_⟩
        rw [hF11.isN, hmt]
        refine iteF ?_
        unfold tNext
        rw [hmt] at hF11 hM11
        have hF' : RoomAt K h zf H11 := hF11
        obtain ⟨_, a3, dx3, hd3, k3, rfl, ha3, _⟩ := id hF'
        refine ⟨_, rfl, _, _, _, _, true, rfl, .own _, (T.ci "Room").ty ha3, kit_self, true, rfl, iteT ⟨_, rfl, _, rfl, zd, h, rfl, hM11, fun z H12 e12 hz12 => ?_⟩⟩
        refine rm_eq (RoomAt.ext hF' e12) hz12 fun H13 e13 => ⟨true, rfl, iteT ?_⟩
        have hF13 := RoomAt.ext (RoomAt.ext hF' e12) e13
        obtain ⟨a4, k4, dx4, hd4, ea, ha4, hH4, hk4⟩ := hF13.names
        cases ea
        have hys4 : ys = nms h := by
          refine sorted_nms (hh ▸ f4.comb g4) hs nd fun m => ?_
          rw [hys, List.mem_append, hm, gm, ← hh]
          unfold comb
          have nc : clash f g = false := by
            unfold meetF at hmt
            split at hmt
            · cases hmt
            · rename_i hh
              simpa using hh
          cases ef : f m with
          | none => simp
          | some sa =>
            cases eg : g m with
            | none => simp
            | some sb =>
              have hmem := f4 m sa ef
              obtain ⟨r, h1, h2⟩ := no_clash nc hmem
              unfold mo at h1
              rw [ef, eg] at h1
              simp only at h1 ⊢
              cases hme : meet sa sb with
              | none => rw [hme] at h1; cases h1
              | some sc => simp
        have hl13 := e13 _ _ (e12 _ _ (e11 _ _ hL10))
        refine ⟨_, rfl, a3, dx4, _, rfl, ha4, a3, k4, rfl, hH4, fun u hu' => ⟨_, rfl, pl, _, rfl, .inl ⟨SqL.of (ext1 hu' _ _ hl13), fun t ht => ?_⟩⟩⟩
        refine eq_names (ys := ys) y4 (by rw [hys4]; exact len_nms h) (ext1 ht _ _ (by rw [upd_same, hk4, hys4])) upd_same (out _ ((((e12.trans e13).trans (ext1 hu')).trans (ext1 ht))))
end
end Bf
end

section
set_option Elab.async false
set_option linter.all false
set_option maxRecDepth 100000
/-! three rooms are right -/
namespace Bf
open PySem PySem.Spec PyProof.Rows L2
section
variable {P : Program} {w : World} {K : PySem.W.Frag} {mg : Str → Option Value} {base : Heap}
theorem RoomAt.offL {f : Rm} {v : V} {H H' : Hp} {p : Addr} {xs : List V} (h : RoomAt K f v H) (hp : H p = some (.lst xs)) (e : ExtB p H H') : RoomAt K f v H' := by
  have pl : Plain H p := ⟨fun _ _ _ z => (by rw [hp] at z; cases z), fun _ z => (by rw [hp] at z; cases z)⟩
  obtain ⟨f4, a, dx, d, kvs, rfl, ha, hd, hf⟩ := h
  exact ⟨f4, a, dx, d, kvs, rfl, e _ _ (fun z => pl.1 _ _ _ (z ▸ ha)) ha, e _ _ (fun z => by rw [z, hp] at hd; cases hd) hd, hf.off offS pl e⟩
def spThree : Sp := fun vs H Q _ => ∃ (u v x : V) (f g h : Rm), vs = [u, v, x] ∧ SpansAt f u H ∧ SpansAt g v H ∧ SpansAt h x H ∧ ∀ H', Ext H H' → Q (.bl true) H'
def N56 : List Str := ["_law_one", "_law_other", "_law_third", "_law_rooms", "_law_first", "_law_later", "_law_left", "_law_right", "_law_spans_here"]
theorem sc56 : FnScope N56 ["_law_one", "_law_other", "_law_third"] (defScope (top 56)) := ⟨rfl, rfl, rfl, by decide +kernel, rfl, by decide +kernel, by decide +kernel⟩
theorem r_three (T : Tx K mg) (Y : TyP P K) (Z : Tz K) : FnR P w K mg base CX0 9 (gA K "_law_three_right") spThree := by
  obtain ⟨fd, F⟩ := T.fd "_law_three_right" 56
  obtain ⟨pn, gn, fn, hpn, Fn, hbn⟩ := r_names (P := P) (w := w) (base := base) T
  refine fnR_of F sc56 (fun _ _ _ _ _ _ us hl => match us, hl with | [_, _, _], _ => rfl) (fun vs H Q E h => ?_) (fun cdv A outer s H vs Q E hr h => ⟨_, PSs.nox (pss_cons
    (ps_setLc (i := 3) (own := [("_law_spans_here", 8)]) (g := gName 8) (tt := tYes) rfl sc56.nd rfl rfl (sw_true rfl rfl rfl (by decide +kernel)) (pi_tup (pe_tup (pa_cons (pv 0) (pa_cons (pv 1) (pa_cons (pv 2) pa_nil))))) (blkOk_by (N := N56) (sc := defScope (top 56)) (by decide +kernel)) (fun _ _ _ _ _ => pg_name (i := 8) sc56.nd rfl (Or.inl rfl)) (fun _ _ _ _ _ => pts_nil)
      (fun _ _ _ _ _ => pe_callF (r_lroom T Y) (hr.mono (by decide)) rfl (T.gl "_law_room") (T.kp "_law_room") pass0 (pa_cons (pv 8) pa_nil)))
    (pss_cons (ps_set (i := 4) sc56.nd rfl (.inl rfl) (pe_op (op_andRm T Y Z (hr.mono (by decide))) (pe_ix ix_list (pv 3) pe_int (fun _ _ => rfl)) (pe_ix ix_list (pv 3) pe_int (fun _ _ => rfl))))
    (pss_cons (ps_set (i := 5) sc56.nd rfl (.inl rfl) (pe_op (op_andRm T Y Z (hr.mono (by decide))) (pe_ix ix_list (pv 3) pe_int (fun _ _ => rfl)) (pe_ix ix_list (pv 3) pe_int (fun _ _ => rfl))))
    (pss_cons (ps_set (i := 6) sc56.nd rfl (.inl rfl) (pe_ifExp (pt_cmpR op_isN (pv 4) pe_non (nomark _)) pe_non (pe_op (op_andRm T Y Z (hr.mono (by decide))) (pv 4) (pe_ix ix_list (pv 3) pe_int (fun _ _ => rfl)))))
    (pss_cons (ps_set (i := 7) sc56.nd rfl (.inl rfl) (pe_ifExp (pt_cmpR op_isN (pv 5) pe_non (nomark _)) pe_non (pe_op (op_andRm T Y Z (hr.mono (by decide))) (pe_ix ix_list (pv 3) pe_int (fun _ _ => rfl)) (pv 5))))
    (pss_cons (ps_if (PW.pt (pw_or (pt_cmpR op_isN (pv 6) pe_non (nomark _)) (pw_or1 (pt_cmpR op_isN (pv 7) pe_non (nomark _))))) (pss_one (ps_ret (pe_and (pe_cmpR op_isN (pv 6) pe_non (nomark _)) (pe_one (pe_cmpR op_isN (pv 7) pe_non (nomark _)))))) pss_nil)
    (pss_one (ps_ret (pe_and (pe_cmpR (op_eqRm T (hr.mono (by decide))) (pv 6) (pv 7) (nomark _))
      (pe_one (pe_cmpR (op_eqD hr.units) (pe_prop (pv 6) (T.ci "Room").cl hpn Fn (hr.mono (by decide)) hbn .nil pass0 (by rfl)) (pe_prop (pv 7) (T.ci "Room").cl hpn Fn (hr.mono (by decide)) hbn .nil pass0 (by rfl)) (nomark _))))))))))))
    , ?_⟩)
  · obtain ⟨u, v, x, f, g, h, rfl, _⟩ := h
    rfl
  · obtain ⟨u, v, x, f, g, h, rfl, hu, hv, hx, q⟩ := h
    have hz : 1000 ≤ sizeLine := by decide
    have okf := hu.okF
    have okg := hv.okF
    have okh := hx.okF
    have f4 := hu.1
    have g4 := hv.1
    have h4 := hx.1
    have AS := meetF_assoc f4 g4 h4 okf okg okh
    refine cutS (fun σ' H' => ∃ R x1 x2 x3, σ' = [some u, some v, some x, some (.ref R), none, none, none, none, none] ∧ Ext H H' ∧ H' R = some (.lst [x1, x2, x3]) ∧ RoomAt K f x1 H' ∧ RoomAt K g x2 H' ∧ RoomAt K h x3 H') ?_ (fun hk => ?_)
    rotate_left
    · refine ⟨_, rfl, _, rfl, _, rfl, (by show 3 ≤ sizeLine; omega), fun t ht => ⟨t, rfl, ⟨_, SqT.of upd_same⟩, fun D hD => ?_⟩⟩
      have hu1 := hu.ext (ext1 (o := .tup [u, v, x]) ht)
      have hv1 := hv.ext (ext1 (o := .tup [u, v, x]) ht)
      have hx1 := hx.ext (ext1 (o := .tup [u, v, x]) ht)
      have E1 := ext1 (o := .tup [u, v, x]) ht
      have ht1 : upd H t (.tup [u, v, x]) t = some (.tup [u, v, x]) := upd_same
      generalize upd H t (.tup [u, v, x]) = H1 at *
      have htD : t ≠ D := fun z => by rw [z, hD] at ht1; cases ht1
      refine lc_tup (K := K) (a := t) (xs := [u, v, x]) (fun j H' => ∃ ys, H' D = some (.lst ys) ∧ Paired (fun (q : Rm) y => RoomAt K q y H') ([f, g, h].take j) ys ∧ ExtB D H1 H') ⟨[], upd_same, .nil, fun b o hb hh => by rw [upd_ne hb]; exact hh⟩ ?_ ?_ ?_
      · rintro j H' _ ⟨_, _, _, e⟩
        exact SqT.of (e t _ htD ht1)
      · rintro j y H' hy ⟨ys, hDy, hys, e⟩
        have EE : Ext H1 H' := fun b o hh => e b o (fun z => by rw [z, hD] at hh; cases hh) hh
        obtain ⟨k, hkj, hS⟩ : ∃ k, ([f, g, h] : List Rm)[j]? = some k ∧ SpansAt k y H' := by
          match j, hy with
          | 0, hy => cases hy; exact ⟨f, rfl, hu1.ext EE⟩
          | 1, hy => cases hy; exact ⟨g, rfl, hv1.ext EE⟩
          | 2, hy => cases hy; exact ⟨h, rfl, hx1.ext EE⟩
          | (n + 3), hy => cases hy
        have hlen : ys.length ≤ 3 := by
          have := Paired.length hys
          rw [List.length_take] at this
          simp at this
          omega
        refine ⟨rfl, ?_⟩
        unfold tYes
        refine iteT ⟨_, rfl, _, k, rfl, hS, fun z H4 e4 hR => ⟨ys, e4 _ _ hDy, by omega, ys ++ [z], upd_same, ?_, fun b o hb hh => by rw [upd_ne hb]; exact e4 _ _ (e b o hb hh)⟩⟩
        have hD4 := e4 _ _ hDy
        have eD : ExtB D H4 (upd H4 D (.lst (ys ++ [z]))) := .at_
        rw [List.take_add_one, hkj]
        exact paired_snoc (paired_imp hys fun a b hh => RoomAt.offL (RoomAt.ext hh e4) hD4 eD) (RoomAt.offL hR hD4 eD)
      · rintro H' ⟨ys, hDy, hys, e⟩
        obtain ⟨y1, y2, y3, rfl, a1, a2, a3⟩ : ∃ y1 y2 y3, ys = [y1, y2, y3] ∧ RoomAt K f y1 H' ∧ RoomAt K g y2 H' ∧ RoomAt K h y3 H' := by
          cases hys with
          | cons a t => cases t with
            | cons b t => cases t with
              | cons c t =>
                cases t
                exact ⟨_, _, _, rfl, a, b, c⟩
        exact hk _ _ ⟨D, y1, y2, y3, rfl, E1.trans fun b o hh => e b o (fun z => by rw [z, hD] at hh; cases hh) hh, hDy, a1, a2, a3⟩
    rintro σ' H1 ⟨R, x1, x2, x3, rfl, E1, hR, R1, R2, R3⟩
    refine cutS (fun σ' H' => ∃ z4, σ' = [some u, some v, some x, some (.ref R), some z4, none, none, none, none] ∧ Ext H1 H' ∧ RoomO K (meetF f g) z4 H') ?_ (fun hk => ?_)
    rotate_left
    · exact ⟨_, rfl, R, _, _, _, rfl, rfl, SqL.of hR, atI_nat (j := 0) rfl, _, rfl, R, _, _, _, rfl, rfl, SqL.of hR, atI_nat (j := 1) rfl, rm_and (Q := fun z H' => gName 4 z [some u, some v, some x, some (.ref R), none, none, none, none, none] H' _) R1 R2 fun z H' e hz' => hk _ _ ⟨z, rfl, e, hz'⟩⟩
    rintro σ' H2 ⟨z4, rfl, E2, M4⟩
    refine cutS (fun σ' H' => ∃ z5, σ' = [some u, some v, some x, some (.ref R), some z4, some z5, none, none, none] ∧ Ext H2 H' ∧ RoomO K (meetF g h) z5 H') ?_ (fun hk => ?_)
    rotate_left
    · exact ⟨_, rfl, R, _, _, _, rfl, rfl, SqL.of (E2 _ _ hR), atI_nat (j := 1) rfl, _, rfl, R, _, _, _, rfl, rfl, SqL.of (E2 _ _ hR), atI_nat (j := 2) rfl, rm_and (Q := fun z H' => gName 5 z [some u, some v, some x, some (.ref R), some z4, none, none, none, none] H' _) (RoomAt.ext R2 E2) (RoomAt.ext R3 E2) fun z H' e hz' => hk _ _ ⟨z, rfl, e, hz'⟩⟩
    rintro σ' H3 ⟨z5, rfl, E3, M5⟩
    have E13 := E2.trans E3
    have M4 := M4.ext E3
    refine cutS (fun σ' H' => ∃ z6, σ' = [some u, some v, some x, some (.ref R), some z4, some z5, some z6, none, none] ∧ Ext H3 H' ∧ RoomO K ((meetF f g).bind fun e => meetF e h) z6 H') ?_ (fun hk => ?_)
    rotate_left
    · refine ⟨_, rfl, rfl, _, rfl, ?_⟩
      rw [M4.isN]
      cases hm : meetF f g with
      | none => exact iteT (hk _ _ ⟨.non, rfl, Ext.rfl', by rw [hm] <;> rfl⟩)
      | some k =>
        rw [hm] at M4
        refine iteF ⟨_, rfl, _, rfl, R, _, _, _, rfl, rfl, SqL.of (E13 _ _ hR), atI_nat (j := 2) rfl, rm_and (Q := fun z H' => gName 6 z [some u, some v, some x, some (.ref R), some z4, some z5, none, none, none] H' _) M4 (RoomAt.ext R3 E13) fun z H' e hz' => hk _ _ ⟨z, rfl, e, by rw [hm]; exact hz'⟩⟩
    rintro σ' H4 ⟨z6, rfl, E4, M6⟩
    have M5 := M5.ext E4
    have E14 := E13.trans E4
    refine cutS (fun σ' H' => ∃ z7, σ' = [some u, some v, some x, some (.ref R), some z4, some z5, some z6, some z7, none] ∧ Ext H4 H' ∧ RoomO K ((meetF g h).bind fun e => meetF f e) z7 H') ?_ (fun hk => ?_)
    rotate_left
    · refine ⟨_, rfl, rfl, _, rfl, ?_⟩
      rw [M5.isN]
      cases hm : meetF g h with
      | none => exact iteT (hk _ _ ⟨.non, rfl, Ext.rfl', by rw [hm] <;> rfl⟩)
      | some k =>
        rw [hm] at M5
        refine iteF ⟨_, rfl, R, _, _, _, rfl, rfl, SqL.of (E14 _ _ hR), atI_nat (j := 0) rfl, _, rfl, rm_and (Q := fun z H' => gName 7 z [some u, some v, some x, some (.ref R), some z4, some z5, some z6, none, none] H' _) (RoomAt.ext R1 E14) M5 fun z H' e hz' => hk _ _ ⟨z, rfl, e, by rw [hm]; exact hz'⟩⟩
    rintro σ' H5 ⟨z7, rfl, E5, M7⟩
    have M6 := M6.ext E5
    have EH := (E1.trans E14).trans E5
    rw [← AS] at M7
    refine ⟨_, rfl, rfl, _, rfl, ?_⟩
    rw [M6.isN]
    cases hm : (meetF f g).bind fun e => meetF e h with
    | none =>
      rw [hm] at M7 M6
      refine iteT (iteT ⟨_, rfl, rfl, _, rfl, ?_⟩)
      rw [M6.isN]
      refine iteT ⟨_, rfl, rfl, ?_⟩
      rw [M7.isN]
      exact q _ EH
    | some k =>
      rw [hm] at M6 M7
      refine iteF ⟨_, rfl, rfl, _, rfl, ?_⟩
      rw [M7.isN]
      refine iteF ?_
      unfold tNext
      have K6 : RoomAt K k z6 H5 := M6
      have K7 : RoomAt K k z7 H5 := M7
      refine ⟨_, rfl, _, rfl, rm_eq K6 K7 fun H6 e6 => ⟨true, rfl, iteT ?_⟩⟩
      obtain ⟨a6, k6, dx6, hd6, rfl, ha6, hH6, hk6⟩ := (RoomAt.ext K6 e6).names
      refine ⟨_, rfl, a6, dx6, _, rfl, ha6, a6, k6, rfl, hH6, fun p hp => ?_⟩
      obtain ⟨a7, k7, dx7, hd7, rfl, ha7, hH7, hk7⟩ := ((RoomAt.ext K7 e6).ext (ext1 (o := .tup (k6.map fun kv => kV kv.1)) hp)).names
      refine ⟨_, rfl, a7, dx7, _, rfl, ha7, a7, k7, rfl, hH7, fun t ht => ?_⟩
      exact eq_names (ys := nms k) (nms_in k) (len_nms k) (ext1 ht _ _ (by rw [upd_same, hk6])) (by rw [upd_same, hk7]) (q _ (((EH.trans e6).trans (ext1 hp)).trans (ext1 ht)))
end
end Bf
end

section
set_option Elab.async false
set_option linter.all false
set_option maxRecDepth 100000
/-! the law -/
namespace Bf
open PySem PySem.Spec PyProof.Rows L2
theorem meet_sw (a b : Spn) : (meet a b).map (fun s => (s.lo, s.hi)) = (meet b a).map (fun s => (s.lo, s.hi)) := by
  unfold meet
  simp only
  rw [show max a.lo b.lo = max b.lo a.lo by omega, show min a.hi b.hi = min b.hi a.hi by omega]
  split
  · rfl
  · split <;> rfl
theorem comb_sw (f g : Rm) (n : Str) : (comb f g n).map (fun s => (s.lo, s.hi)) = (comb g f n).map (fun s => (s.lo, s.hi)) := by
  unfold comb
  cases f n with
  | none => cases g n <;> rfl
  | some a =>
    cases g n with
    | none => rfl
    | some b => exact meet_sw a b
theorem clash_sw (f g : Rm) : clash f g = clash g f := by
  have h : ∀ n, clash1 f g n = clash1 g f n := fun n => by
    unfold clash1
    cases f n with
    | none => cases g n <;> rfl
    | some a =>
      cases g n with
      | none => rfl
      | some b =>
        have := congrArg Option.isNone (meet_sw a b)
        simpa using this
  unfold clash
  rw [funext h]
section
variable {P : Program} {w : World} {K : PySem.W.Frag} {mg : Str → Option Value} {base : Heap}
theorem BareAt.sw {f g : Rm} {v : V} {H : Hp} (h : BareAt (meetF g f) v H) : BareAt (meetF f g) v H := by
  unfold meetF at h ⊢
  rw [clash_sw f g]
  cases hc : clash g f with
  | true => rw [hc] at h; exact h
  | false =>
    rw [hc] at h
    obtain ⟨f4, d, kvs, ns, rfl, hd, df, nd, hm⟩ := (show BareAt (some (comb g f)) v H from h)
    show BareAt (some (comb f g)) (.ref d) H
    have hs : ∀ n, (comb g f n).isSome = (comb f g n).isSome := fun n => by
      have := congrArg Option.isSome (comb_sw g f n)
      simpa using this
    refine ⟨fun n s e => ?_, d, kvs, ns, rfl, hd, df.imp fun m _ s v h1 h2 => ?_, nd, fun n => by rw [hm, hs]⟩
    · obtain ⟨s', e'⟩ := Option.isSome_iff_exists.mp ((hs n).trans (by rw [e] <;> rfl))
      exact f4 n s' e'
    · have k := comb_sw g f m
      rw [h1] at k
      cases hx : comb f g m with
      | none => rw [hx] at k; cases k
      | some s' =>
        rw [hx] at k
        have k' := Option.some.inj k
        have k1 : s.lo = s'.lo := congrArg Prod.fst k'
        have k2 : s.hi = s'.hi := congrArg Prod.snd k'
        obtain ⟨l, e1, hl⟩ := h2
        exact ⟨s', rfl, l, e1, by rw [← k1, ← k2]; exact hl⟩
theorem BareAt.off {o : Option Rm} {v : V} {H H' : Hp} (h : BareAt o v H) (e : Ext H H') : BareAt o v H' := h.ext e
/-- Room() -/
theorem room0 {σ : L2.St} {H : Hp} {Q : VK} (q : ∀ z H', Ext H H' → RoomAt K (fun _ => none) z H' → Q z H') : tMakeKw0 (CRm K) (spKwOf (spRmB K)) σ H Q := by
  intro x dx hx hdx hne
  refine ⟨Nat.zero_le _, List.nodup_nil, fun p hp => (nomatch hp), fun d hd => ?_⟩
  have e2 : Ext H (upd (upd H dx (.own x)) x (.ins (CRm K) dx [])) := (Ext.upd hdx).upd' (by rw [upd_ne (Ne.symm hne)]; exact hx)
  have e3 := e2.trans (ext1 (o := .dK (keyd [])) hd)
  have hxd : x ≠ d := fun z => by rw [← z, upd_same] at hd; cases hd
  refine ⟨x, dx, keyd [], [], fun _ => none, rfl, by rw [upd_ne hxd]; exact upd_same, upd_same, .nil, fun n s h => (nomatch h), List.nodup_nil, fun n => by simp, fun H2 eB hR => ⟨rfl, q _ H2 (fun b o hb => eB b o (fun z => ?_) (e3 _ _ hb)) hR⟩⟩
  rw [z, hx] at hb
  cases hb
def spLaw (K : PySem.W.Frag) : Sp := fun vs H Q _ => ∃ (a : Addr) (ns : List Int), vs = [.ref a] ∧ SqL K H a (ns.map V.int) ∧ ns.length ≤ 63 ∧ ∀ H', Q (.bl true) H'
def N57 : List Str := ["_law_script", "_law_pen_here", "_law_turn", "_law_one", "_law_other", "_law_third", "_law_bare_here", "_law_room_here"]
theorem sc57 : FnScope N57 ["_law_script"] (defScope (top 57)) := ⟨rfl, rfl, rfl, by decide +kernel, rfl, by decide +kernel, by decide +kernel⟩
theorem r_law (T : Tx K mg) (Y : TyP P K) (Z : Tz K) : ∃ fd, FnOkG P w K mg base CX0 11 (gA K "law") fd ["_law_script"] (spLaw K) ∧ FG K "law" 57 fd := by
  obtain ⟨fd, F⟩ := T.fd "law" 57
  obtain ⟨fp, Fp, hbp⟩ := r_pair (P := P) (w := w) (base := base) T Y Z
  refine ⟨fd, okG F sc57 (fun vs H Q E h => ?_) (fun cdv A outer s H vs Q E hG hr h => ⟨_, PSs.nox (pss_cons
    (ps_set (i := 1) sc57.nd rfl (.inl rfl) (pe_callF (r_pen T) (hr.mono (by decide)) rfl (T.gl "_law_pen") (T.kp "_law_pen") pass0 (pa_cons (pv 0) pa_nil)))
    (pss_cons (ps_for PassesOwn.never rfl (pi_range1 (by rfl) (T.no "range") (pa_cons pe_int pa_nil)) (pg_name (i := 2) sc57.nd rfl (Or.inl rfl)) (pss_cons
      (ps_par (i := 3) (j := 4) (by rfl) sc57.nd rfl rfl (by decide) rfl rfl (pa_cons (pe_callF (r_spans T) (hr.mono (by decide)) rfl (T.gl "_law_spans") (T.kp "_law_spans") pass0 (pa_cons (pv 1) pa_nil)) (pa_cons (pe_callF (r_spans T) (hr.mono (by decide)) rfl (T.gl "_law_spans") (T.kp "_law_spans") pass0 (pa_cons (pv 1) pa_nil)) pa_nil)) (by rfl))
      (pss_cons (ps_set (i := 5) sc57.nd rfl (.inl rfl) (pe_callF (r_spans T) (hr.mono (by decide)) rfl (T.gl "_law_spans") (T.kp "_law_spans") pass0 (pa_cons (pv 1) pa_nil)))
      (pss_cons (ps_if (pt_not (pt_val (pe_callG hG Fp hr rfl (T.gl "_law_pair_right") (T.kp "_law_pair_right") hbp .nil pass0 (pa_cons (pv 1) (pa_cons (pv 3) (pa_cons (pv 4) pa_nil)))))) (pss_one (ps_ret pe_bl)) pss_nil)
      (pss_cons (ps_if (pt_not (pt_val (pe_callG hG Fp hr rfl (T.gl "_law_pair_right") (T.kp "_law_pair_right") hbp .nil pass0 (pa_cons (pv 1) (pa_cons (pv 4) (pa_cons (pv 3) pa_nil)))))) (pss_one (ps_ret pe_bl)) pss_nil)
      (pss_cons (ps_if (pt_not (pt_val (pe_callF (r_three T Y Z) (hr.mono (by decide)) rfl (T.gl "_law_three_right") (T.kp "_law_three_right") pass0 (pa_cons (pv 3) (pa_cons (pv 4) (pa_cons (pv 5) pa_nil)))))) (pss_one (ps_ret pe_bl)) pss_nil)
      (pss_cons (ps_set (i := 6) sc57.nd rfl (.inl rfl) (pe_callF (r_bare T) (hr.mono (by decide)) rfl (T.gl "_law_bare") (T.kp "_law_bare") pass0 (pa_cons (pe_callF (r_met T) (hr.mono (by decide)) rfl (T.gl "_law_met") (T.kp "_law_met") pass0 (pa_cons (pv 3) (pa_cons (pv 4) pa_nil))) pa_nil)))
      (pss_cons (ps_if (pt_cmpR (op_neB hr.units) (pv 6) (pe_callF (r_bare T) (hr.mono (by decide)) rfl (T.gl "_law_bare") (T.kp "_law_bare") pass0 (pa_cons (pe_callF (r_met T) (hr.mono (by decide)) rfl (T.gl "_law_met") (T.kp "_law_met") pass0 (pa_cons (pv 4) (pa_cons (pv 3) pa_nil))) pa_nil)) (nomark _)) (pss_one (ps_ret pe_bl)) pss_nil)
      (pss_cons (ps_set (i := 7) sc57.nd rfl (.inl rfl) (pe_callF (r_lroom T Y) (hr.mono (by decide)) rfl (T.gl "_law_room") (T.kp "_law_room") pass0 (pa_cons (pv 3) pa_nil)))
      (pss_cons (ps_if (pt_cmpR (op_neRm T Z (hr.mono (by decide))) (pe_op (op_andRm T Y Z (hr.mono (by decide))) (pv 7) (pv 7)) (pv 7) (nomark _)) (pss_one (ps_ret pe_bl)) pss_nil)
      (pss_one (ps_if (PW.pt (pw_or (pt_cmpR (op_neRm T Z (hr.mono (by decide))) (pe_op (op_andRm T Y Z (hr.mono (by decide))) (pv 7) (pe_makeKw0 Y.rm.mkd (r_rminit T Y) (hr.mono (by decide)) rfl (T.gl "Room"))) (pv 7) (nomark _))
        (pw_or1 (pt_cmpR (op_neRm T Z (hr.mono (by decide))) (pe_op (op_andRm T Y Z (hr.mono (by decide))) (pe_makeKw0 Y.rm.mkd (r_rminit T Y) (hr.mono (by decide)) rfl (T.gl "Room")) (pv 7)) (pv 7) (nomark _))))) (pss_one (ps_ret pe_bl)) pss_nil))))))))))))
    (pss_one (ps_ret pe_bl)))), ?_⟩), F⟩
  · obtain ⟨a, ns, rfl, _⟩ := h
    rfl
  · obtain ⟨a, ns, rfl, hs, hl, q⟩ := h
    have hz : 1000 ≤ sizeLine := by decide
    refine ⟨_, rfl, a, ns, rfl, hs, hl, fun p c H0 e0 hp0 P0 => ?_⟩
    dsimp only [gName]
    refine ⟨_, rfl, by decide, by decide, for_range (lo := 0) (n := 8) (fun i σ' H' => (∃ z2 z3 z4 z5 z6 z7, σ' = [some (.ref a), some (.ref p), z2, z3, z4, z5, z6, z7]) ∧ PenAt p c (200 * i) H') ⟨⟨_, _, _, _, _, _, rfl⟩, P0.le (by omega)⟩ ?_ ?_⟩
    · rintro i σ' H1 hi ⟨⟨z2, z3, z4, z5, z6, z7, rfl⟩, P1⟩
      dsimp only [gName]
      refine cutS (fun σ' H' => ∃ z2 v1 v2 f g, σ' = [some (.ref a), some (.ref p), z2, some v1, some v2, z5, z6, z7] ∧ PenAt p c (200 * i + 60) H' ∧ SpansAt f v1 H' ∧ SpansAt g v2 H') ?_ (fun hk => ?_)
      rotate_left
      · exact ⟨_, rfl, p, c, _, rfl, P1, by omega, fun v1 f H2 e2 P2 S1 => ⟨_, rfl, p, c, _, rfl, P2, by omega, fun v2 g H3 e3 P3 S2 => ⟨_, _, rfl, hk _ _ ⟨_, v1, v2, f, g, rfl, P3.le (by omega), S1.off P2 e3, S2⟩⟩⟩⟩
      rintro σ' H2 ⟨z2, v1, v2, f, g, rfl, P2, S1, S2⟩
      refine cutS (fun σ' H' => ∃ v3 h, σ' = [some (.ref a), some (.ref p), z2, some v1, some v2, some v3, z6, z7] ∧ PenAt p c (200 * i + 90) H' ∧ SpansAt f v1 H' ∧ SpansAt g v2 H' ∧ SpansAt h v3 H') ?_ (fun hk => ?_)
      rotate_left
      · exact ⟨_, rfl, p, c, _, rfl, P2, by omega, fun v3 h H3 e3 P3 S3 => hk _ _ ⟨v3, h, rfl, P3.le (by omega), S1.off P2 e3, S2.off P2 e3, S3⟩⟩
      rintro σ' H3 ⟨v3, h, rfl, P3, S1, S2, S3⟩
      refine cutS (fun σ' H' => σ' = [some (.ref a), some (.ref p), z2, some v1, some v2, some v3, z6, z7] ∧ PenAt p c (200 * i + 122) H' ∧ SpansAt f v1 H' ∧ SpansAt g v2 H' ∧ SpansAt h v3 H') ?_ (fun hk => ?_)
      rotate_left
      · exact ⟨_, rfl, _, rfl, _, rfl, p, c, _, _, _, f, g, rfl, P3, by omega, S1, S2, fun H4 e4 P4 => ⟨true, rfl, iteF (hk _ _ ⟨rfl, P4.le (by omega), S1.off P3 e4, S2.off P3 e4, S3.off P3 e4⟩)⟩⟩
      rintro σ' H4 ⟨rfl, P4, S1, S2, S3⟩
      refine cutS (fun σ' H' => σ' = [some (.ref a), some (.ref p), z2, some v1, some v2, some v3, z6, z7] ∧ PenAt p c (200 * i + 154) H' ∧ SpansAt f v1 H' ∧ SpansAt g v2 H' ∧ SpansAt h v3 H') ?_ (fun hk => ?_)
      rotate_left
      · exact ⟨_, rfl, _, rfl, _, rfl, p, c, _, _, _, g, f, rfl, P4, by omega, S2, S1, fun H5 e5 P5 => ⟨true, rfl, iteF (hk _ _ ⟨rfl, P5.le (by omega), S1.off P4 e5, S2.off P4 e5, S3.off P4 e5⟩)⟩⟩
      rintro σ' H5 ⟨rfl, P5, S1, S2, S3⟩
      refine cutS (fun σ' H' => σ' = [some (.ref a), some (.ref p), z2, some v1, some v2, some v3, z6, z7] ∧ Ext H5 H') ?_ (fun hk => ?_)
      rotate_left
      · exact ⟨_, rfl, _, rfl, _, rfl, _, _, _, f, g, h, rfl, S1, S2, S3, fun H6 e6 => ⟨true, rfl, iteF (hk _ _ ⟨rfl, e6⟩)⟩⟩
      rintro σ' H6 ⟨rfl, e6⟩
      have S1 := S1.ext e6
      have S2 := S2.ext e6
      refine cutS (fun σ' H' => ∃ b, σ' = [some (.ref a), some (.ref p), z2, some v1, some v2, some v3, some b, z7] ∧ Ext H6 H' ∧ BareAt (meetF f g) b H') ?_ (fun hk => ?_)
      rotate_left
      · exact ⟨_, rfl, _, rfl, _, _, f, g, rfl, S1, S2, fun m H7 e7 hM => ⟨m, _, rfl, hM, fun b H8 e8 hB => hk _ _ ⟨b, rfl, e7.trans e8, hB⟩⟩⟩
      rintro σ' H7 ⟨b, rfl, e7, hB⟩
      have S1 := S1.ext e7
      have S2 := S2.ext e7
      refine cutS (fun σ' H' => σ' = [some (.ref a), some (.ref p), z2, some v1, some v2, some v3, some b, z7] ∧ Ext H7 H') ?_ (fun hk => ?_)
      rotate_left
      · exact ⟨_, rfl, _, rfl, _, rfl, _, _, g, f, rfl, S2, S1, fun m H8 e8 hM => ⟨m, _, rfl, hM, fun b2 H9 e9 hB2 => rNeB_of (hB.ext (e8.trans e9)) hB2.sw ⟨false, rfl, iteF (hk _ _ ⟨rfl, e8.trans e9⟩)⟩⟩⟩
      rintro σ' H8 ⟨rfl, e8⟩
      have S1 := S1.ext e8
      refine cutS (fun σ' H' => ∃ r, σ' = [some (.ref a), some (.ref p), z2, some v1, some v2, some v3, some b, some r] ∧ Ext H8 H' ∧ RoomAt K f r H') ?_ (fun hk => ?_)
      rotate_left
      · exact ⟨_, rfl, _, f, rfl, S1, fun r H9 e9 hR => hk _ _ ⟨r, rfl, e9, hR⟩⟩
      rintro σ' H9 ⟨r, rfl, e9, hR⟩
      have okf := hR.okF
      have E9 := ((e6.trans e7).trans e8).trans e9
      refine cutS (fun σ' H' => σ' = [some (.ref a), some (.ref p), z2, some v1, some v2, some v3, some b, some r] ∧ Ext H9 H') ?_ (fun hk => ?_)
      rotate_left
      · refine ⟨_, rfl, _, rfl, rm_and hR hR fun z H10 e10 hz' => ⟨_, rfl, ?_⟩⟩
        rw [meetF_self okf] at hz'
        exact rm_ne hz' (RoomAt.ext hR e10) fun H11 e11 => ⟨false, rfl, iteF (hk _ _ ⟨rfl, e10.trans e11⟩)⟩
      rintro σ' H10 ⟨rfl, e10⟩
      have hR := RoomAt.ext hR e10
      refine ⟨_, rfl, room0 fun x0 H11 e11 hx0 => rm_and (RoomAt.ext hR e11) hx0 fun z H12 e12 hz' => ⟨_, rfl, ?_⟩⟩
      rw [meetF_right] at hz'
      have hR := RoomAt.ext (RoomAt.ext hR e11) e12
      refine rm_ne hz' hR fun H13 e13 => ⟨false, rfl, iteF ?_⟩
      unfold tTest tOp
      refine room0 fun x1 H14 e14 hx1 => ⟨_, rfl, rm_and hx1 (RoomAt.ext (RoomAt.ext hR e13) e14) fun z1 H15 e15 hz1 => ⟨_, rfl, ?_⟩⟩
      rw [meetF_left] at hz1
      refine rm_ne hz1 (RoomAt.ext (RoomAt.ext (RoomAt.ext hR e13) e14) e15) fun H16 e16 => ⟨false, rfl, iteF ⟨⟨_, _, _, _, _, _, rfl⟩, ?_⟩⟩
      exact (P5.ext (((((((E9.trans e10).trans e11).trans e12).trans e13).trans e14).trans e15).trans e16)).le (by push_cast; omega)
    · rintro σ' H1 ⟨⟨z2, z3, z4, z5, z6, z7, rfl⟩, P1⟩
      exact q _
end
end Bf
end

section
set_option Elab.async false
set_option linter.all false
set_option maxRecDepth 100000
/-! the head's facts -/
namespace Bf
open PySem PySem.Spec PyProof.Rows L2
theorem ciB_ok {K : PySem.W.Frag} {x : Str} (h : ciB K x = true) : CI K (gA K x) := by
  obtain ⟨h1, h⟩ := He.ba h
  obtain ⟨h2, h⟩ := He.ba h
  obtain ⟨h3, h⟩ := He.ba h
  obtain ⟨h4, h5⟩ := He.ba h
  exact ⟨He.cls_ok h1, He.eqO_ok h2, He.eqO_ok h3, of_decide_eq_true h4, of_decide_eq_true h5⟩
theorem crB_ok {K : PySem.W.Frag} {x : Str} (h : crB K x = true) : ClX.CRead K (gA K x) (.type "type") := by
  obtain ⟨h1, h2⟩ := He.ba h
  exact ⟨h1, He.eqO_ok h2⟩
theorem cmB_ok {K : PySem.W.Frag} {x : Str} (h : cmB K x = true) : ClX.CMet K (gA K x) (.type "type") "of" (mA K x "of") (ofF K x) := by
  obtain ⟨h1, h2⟩ := He.ba h
  exact He5.cmet_of h1 h2
theorem npB_ok {K : PySem.W.Frag} (h : npB K = true) : PropOf K (CRm K) "names" (mA K "Room" "names") (nmF K) := by
  obtain ⟨h1, h⟩ := He.ba h
  obtain ⟨h2, h⟩ := He.ba h
  obtain ⟨h3, h4⟩ := He.ba h
  refine ⟨He.eqO_ok h1, He.eqO_ok h2, of_decide_eq_true h3, ?_⟩
  unfold nmF He5.wf
  split at h4
  · rename_i f r e
    have e' : PySem.W.recIn K (He.ma K (gA K "Room") "names") "property" = some (.ref f :: r) := e
    exact ⟨r, by rw [e'] <;> exact e⟩
  · cases h4
/-! a def __init__(self, **nm) of a class with super() -/
theorem kw_ok {K : PySem.W.Frag} {k : Str × Str × Nat} (e : kwO K k.1 = kwV k) (h : kwB K k = true) (hs : supB K k = true) (har : ∃ ar : Arg, ((defArgs (mth k.2.2 0)).posonlyargs ++ (defArgs (mth k.2.2 0)).args).head? = some ar ∧ ar.arg = "self")
    (htop : (PrG.main.scope.names.lookup ("super" : Str)).isSome = false) : KwDef PrG K k.1 k.2.1 k.2.2 := by
  obtain ⟨s1, hs⟩ := He.ba hs
  obtain ⟨s2, hs⟩ := He.ba hs
  obtain ⟨s3, hs⟩ := He.ba hs
  obtain ⟨s4, hs⟩ := He.ba hs
  obtain ⟨s5, hs⟩ := He.ba hs
  obtain ⟨s6, s7⟩ := He.ba hs
  unfold kwO at e
  unfold kwB at h
  cases q : K.lookup (mA K k.1 "__init__") with
  | none =>
    rw [q] at h
    cases h
  | some o =>
    obtain ⟨oc, od, dt, osl⟩ := o
    rw [q] at h e
    cases dt with
    | func fd =>
      obtain ⟨n1, n2, n3, n4, n5, n6, n7, n8, n9, n10, n11, n12, n13, n14, n15⟩ := fd
      have e2 : (some (n1, n2, n3, n4, n5, n6, n7.map (·.1), n15) : KwO) = kwV k := e
      unfold kwV at e2
      simp only [Option.some.injEq, Prod.mk.injEq] at e2
      obtain ⟨h1, h2, h3, h4, h5, h6, h7, h8⟩ := e2
      subst h1 h2 h3 h4 h5 h6 h8
      have c3 : (PySem.W.codeIn K n13 k.2.1 && (nonB n8 && (nonB n9 && (cellB K (gA K k.1) n7 && codeB K n13)))) = true := h
      obtain ⟨k1, c3⟩ := He.ba c3
      obtain ⟨k2, c3⟩ := He.ba c3
      obtain ⟨k3, c3⟩ := He.ba c3
      obtain ⟨k4, k5⟩ := He.ba c3
      obtain rfl : n8 = .none := by cases n8 <;> first | rfl | cases k2
      obtain rfl : n9 = .none := by cases n9 <;> first | rfl | cases k3
      obtain ⟨cc, rfl⟩ : ∃ cc, n7 = [(("__class__" : Str), cc)] := by
        cases n7 with
        | nil => cases h7
        | cons p r =>
          obtain ⟨a, cc⟩ := p
          cases r with
          | nil =>
            have h7' : [a] = [("__class__" : Str)] := h7
            injection h7' with h8 _
            exact ⟨cc, by rw [h8]⟩
          | cons _ _ => cases h7
      obtain ⟨cda, rfl⟩ : ∃ cda, n13 = .ref cda := by cases n13 <;> first | exact ⟨_, rfl⟩ | cases k5
      refine ⟨⟨oc, od, n10, n11, n12, cda, cc, n14, osl, q, k1, ?_⟩, He.mkr_ok s7⟩
      obtain ⟨ar, ha1, ha2⟩ := har
      refine ⟨⟨_, _, ar, q, rfl, ha1, ha2⟩, ?_, ?_, Option.isSome_iff_exists.mp s1, of_decide_eq_true s2, He.eqO_ok s3, He.eqO_ok s4, of_decide_eq_true s5, s6, htop⟩
      · unfold codeB at k5
        simp only at k5
        split at k5
        · rename_i vs _ e1
          split at k5
          · rename_i file tf e2
            exact ⟨_, vs, file, tf, e1, rfl, e2, k5⟩
          · cases k5
        · cases k5
      · unfold cellB at k4
        simp only at k4
        split at k4
        · rename_i D _ e1
          have : D = gA K k.1 := of_decide_eq_true k4
          exact ⟨_, e1, by rw [this]⟩
        · cases k4
    | _ => cases h
/-! all facts -/
theorem top_super : (PrG.main.scope.names.lookup ("super" : Str)).isSome = false := by kernel_rfl
section
variable {K : PySem.W.Frag} {h : Heap} {mg : Str → Option Value}
theorem SaysB.ex (c : SaysB K) (i : Nat) {b : Bool} (e : (exL K)[i]? = some b := by rfl) : b = true :=
  List.all_eq_true.mp (show (exL K).all id = true from congrArg (fun z : AlB => z.1) c) b (List.mem_of_getElem? e)
theorem SaysB.def_ (c : SaysB K) {d : He5.DefA} (hd : d ∈ dfs) : ∃ fd, FunD K d.name d.qual d.params d.body d.scope (d.dvs K) (d.kws K) (d.at_ K) fd := by
  have c2 : (dfs.all fun d => d.ok K) = true := c.ex 21
  have e : dfs.map (fun d => He5.fnA K (d.at_ K)) = dfs.map He5.DefA.val := congrArg (fun z : AlB => z.2.1) c
  obtain ⟨i, hi⟩ := List.getElem?_of_mem hd
  have e2 : (dfs.map fun d => He5.fnA K (d.at_ K))[i]? = (dfs.map He5.DefA.val)[i]? := by rw [e]
  rw [List.getElem?_map, List.getElem?_map, hi] at e2
  exact He5.DefA.funD (Option.some.inj e2) (List.all_eq_true.mp c2 d hd)
theorem SaysB.kw (c : SaysB K) {k : Str × Str × Nat} (hk : k ∈ kwL) : kwO K k.1 = kwV k := by
  have e : kwL.map (fun k => kwO K k.1) = kwL.map kwV := congrArg (fun z : AlB => z.2.2) c
  obtain ⟨i, hi⟩ := List.getElem?_of_mem hk
  have e2 : (kwL.map fun k => kwO K k.1)[i]? = (kwL.map kwV)[i]? := by rw [e]
  rw [List.getElem?_map, List.getElem?_map, hi] at e2
  exact Option.some.inj e2
theorem all_of {α : Type} {l : List α} {f : α → Bool} (h : l.all f = true) : ∀ x ∈ l, f x = true := List.all_eq_true.mp h
theorem SaysB.tx (c : SaysB K) (X : K.In h) (G : h.Ns mainGlobals mg) : Tx K mg where
  g := fun x hx => He.glo_ok X G (all_of (c.ex 0) x hx)
  n := fun x hx => He.free_ok X G (all_of (c.ex 1) x hx)
  k := fun x hx => all_of (c.ex 2) x hx
  gd := fun p hp => c.def_ (d := ⟨fun K => gA K p.1, p.1, p.1, defArgs (top p.2), defBody (top p.2), defScope (top p.2), [], []⟩) (List.mem_append_left _ (List.mem_append_left _ (List.mem_map.mpr ⟨p, hp, rfl⟩)))
  md := fun q hq => c.def_ (d := ⟨fun K => mA K q.1 q.2.1, q.2.1, q.2.2.1, defArgs (mth q.2.2.2.1 q.2.2.2.2), defBody (mth q.2.2.2.1 q.2.2.2.2), defScope (mth q.2.2.2.1 q.2.2.2.2), [], []⟩) (List.mem_append_left _ (List.mem_append_right _ (List.mem_map.mpr ⟨q, hq, rfl⟩)))
  c := fun x hx => ciB_ok (all_of (c.ex 3) x hx)
  kn := fun p hp => of_decide_eq_true (all_of (c.ex 4) p hp)
  kt := of_decide_eq_true (c.ex 5)
  ri := c.def_ (d := ⟨fun K => mA K "Ratio" "__init__", "__init__", "Ratio.__init__", defArgs (mth 18 0), defBody (mth 18 0), defScope (mth 18 0), [.int 1], []⟩) (List.mem_append_right _ (.head _))
  rm := He.mkr_ok (c.ex 6)
  cr := fun x hx => crB_ok (all_of (c.ex 7) x hx)
  ro := by
    obtain ⟨fd, F⟩ := c.def_ (d := ⟨fun K => ofF K "Ratio", "of", "Ratio.of", defArgs (mth 18 1), defBody (mth 18 1), defScope (mth 18 1), [], []⟩) (List.mem_append_right _ (.tail _ (.head _)))
    exact ⟨_, _, fd, cmB_ok (all_of (l := clNames) (f := cmB K) (c.ex 8) "Ratio" (.head _)), F⟩
  mo := by
    obtain ⟨fd, F⟩ := c.def_ (d := ⟨fun K => ofF K "Room", "of", "Room.of", defArgs (mth 42 1), defBody (mth 42 1), defScope (mth 42 1), [], []⟩) (List.mem_append_right _ (.tail _ (.tail _ (.head _))))
    exact ⟨_, _, fd, cmB_ok (all_of (l := clNames) (f := cmB K) (c.ex 8) "Room" (.tail _ (.head _))), F⟩
  so := by
    obtain ⟨fd, F⟩ := c.def_ (d := ⟨fun K => ofF K "Setting", "of", "Setting.of", defArgs (mth 45 1), defBody (mth 45 1), defScope (mth 45 1), [], []⟩) (List.mem_append_right _ (.tail _ (.tail _ (.tail _ (.head _)))))
    exact ⟨_, _, fd, cmB_ok (all_of (l := clNames) (f := cmB K) (c.ex 8) "Setting" (.tail _ (.tail _ (.head _)))), F⟩
  nc := fun x hx => let z := He.ba (all_of (c.ex 9) x hx); ⟨He.eqO_ok z.1, z.2⟩
  ng := fun x hx => let z := He.ba (all_of (c.ex 10) x hx); let y := He.ba z.2; ⟨He.eqO_ok z.1, y.1, y.2⟩
  np := by
    obtain ⟨fd, F⟩ := c.def_ (d := ⟨fun K => nmF K, "names", "Named.names", defArgs (mth 10 1), defBody (mth 10 1), defScope (mth 10 1), [], []⟩) (List.mem_append_right _ (.tail _ (.tail _ (.tail _ (.tail _ (.head _))))))
    exact ⟨_, _, fd, npB_ok (c.ex 11), F⟩
  nfi := c.ex 12
  ml := He.int_ok X G (c.ex 13)
  lt := He.str_ok X G (c.ex 14)
  na := fun p hp => He.noat_ok (all_of (c.ex 15) p hp)
  m := fun p hp => He.meth_ok (all_of (c.ex 16) p hp)
theorem SaysB.ty (c : SaysB K) : TyP PrG K where
  rm := kw_ok (k := ("Room", "Room.__init__", 42)) (c.kw (.head _)) (all_of (l := kwL) (f := kwB K) (c.ex 17) _ (.head _)) (all_of (l := kwL) (f := supB K) (c.ex 18) _ (.head _)) ⟨_, rfl, rfl⟩ top_super
  st := kw_ok (k := ("Setting", "Setting.__init__", 45)) (c.kw (.tail _ (.head _))) (all_of (l := kwL) (f := kwB K) (c.ex 17) _ (.tail _ (.head _))) (all_of (l := kwL) (f := supB K) (c.ex 18) _ (.tail _ (.head _))) ⟨_, rfl, rfl⟩ top_super
theorem SaysB.tz (c : SaysB K) : Tz K := ⟨c.ex 19, He.eqO_ok (c.ex 20)⟩
end
end Bf
end

section
set_option Elab.async false
set_option linter.all false
set_option maxRecDepth 100000
set_option maxHeartbeats 0
namespace Bf
open PySem PySem.Spec PyProof.Rows L2
theorem facts {w : World} {K : PySem.W.Frag} {h : Heap} {mg : Str → Option Value} {f : Addr} (X : K.In h) (G : h.Ns mainGlobals mg) (hfa : mg ("law" : Str) = some (.ref f)) (c : SaysB K) :
    ∃ fd : FuncData, (∀ (s : Shared) (v : Value), BindsTo s fd ⟨[v], []⟩ [("_law_script", v)]) ∧ ∀ base : Heap, K.In base → base.Ns mainGlobals mg → FnOkG PrG w K mg base CX0 11 f fd ["_law_script"] (spLaw K) := by
  have T := c.tx X G
  have e := hfa.symm.trans (T.g "law" (by decide +kernel))
  cases e
  obtain ⟨fd, F⟩ := T.fd "law" 57
  have b := FunD.bindsA (ps := ["_law_script"]) F fun _ _ _ _ _ _ us hl => match us, hl with | [_], _ => rfl
  refine ⟨fd, fun s v => b s [v] rfl, fun base _ _ => ?_⟩
  obtain ⟨fd', F', FG'⟩ := r_law (P := PrG) (w := w) (base := base) T c.ty c.tz
  obtain ⟨oc, od, dV, kV, doc, pm, an, cdv, ct, osl, rfl, lk, _⟩ := FG'.ex
  obtain ⟨oc2, od2, dV2, kV2, doc2, pm2, an2, cdv2, ct2, osl2, rfl, lk2, _⟩ := F.ex
  rw [lk] at lk2
  have e2 := Option.some.inj lk2
  injection e2 with _ _ e3 _
  injection e3 with e4
  rw [← e4]
  exact F'
end Bf
end

section
set_option Elab.async false
set_option linter.all false
set_option maxRecDepth 100000
set_option maxHeartbeats 0
open PySem PySem.W PySem.Calls PyProof.Rows
theorem PySem.Challenge.cw_betweenfaces_k12_whole_rooms_meet_holds : PySem.Challenge.rw_betweenfaces_k12_whole_rooms_meet.Holds := by
  w_on; o_law
  refine HandSHeadRun.head_any (r := Bf.RW) (q := view Bf.RW.prog [57]) (H := Bf.hookB 6) (ob := Bf.ob) (M := 6000) (loose := Bf.loose) (d := HandSHeadRun.topDef Bf.RW.prog 57) (kwd := []) Bf.ob_eq
    (by kernel_rfl) (fun s => by kernel_rfl) Bf.run (by kernel_rfl) (by kernel_rfl) (by kernel_rfl) (by rfl) (by first | assumption | decide +kernel) (by decide +kernel) ⟨rfl, rfl, rfl, rfl, rfl, by decide +kernel⟩ ?hw ?hc
  case hw => w_witness2
  case hc =>
    refine Bf.walk_ofG (l := PySem.Challenge.rw_betweenfaces_k12_whole_rooms_meet) (n := 63) (k := 11) (x := "_law_script") (CX := L2.CX0) rfl (by decide) (by kernel_rfl) ⟨rfl, by decide, by decide⟩ ?F (fun _ _ _ _ z => z)
    intro w mg fa h Y G hmg0
    obtain ⟨K, KX, c⟩ := Y
    have hmg : mg ("law" : PySem.Str) = some (.ref fa) := by
      have e : (HandSHeadRun.topDef Bf.RW.prog 57).name = ("law" : PySem.Str) := by kernel_rfl
      rw [← e]
      exact hmg0
    obtain ⟨fd, hb, hF⟩ := Bf.facts (w := w) KX G hmg c
    exact ⟨K, fd, Bf.spLaw K, KX, hb, fun H a ns hl _ hS => ⟨a, ns, rfl, hS, hl, fun _ => rfl⟩, hF⟩
end
