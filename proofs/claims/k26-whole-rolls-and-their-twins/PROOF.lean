import PyProof.Rows.All
import Wide.All
import OpenK.AllK
import Wide.FinOn
import PyProof.InstEq
import HandS.More
import HandS.OwnEq
import HandS.IsInst
import HandS.ForMost
import HandS.ForExc
import HandS.ExcInit
import PyProof.ReprRoads
import HandS.Ends
import HandS.List
import HandS.Dict
import HandS.DictEq
import HandS.DeepEq
import HandS.Finally
import PyProof.DictUpdate
import PyProof.InstStoreFacts
import PyProof.ExcBaseAll.LookupError
import KE.KExcInit
import PyProof.ZipIter
import KE.GoesMore
import KE.GoesEnumKw
import HandS.Flow
import HandS.TryMany
import HandS.Style
import HandS.TupAny
import HandS.Iter
import HandS.RaiseMore
import HandS.Codes
import PyProof.ReprBulk
import PyProof.Rows.StrJoinMade
import PySem.Challenge.RW_pikeroll_k26_whole_rolls_and_their_twins
set_option Elab.async false
set_option linter.all false
set_option maxRecDepth 99000
set_option maxHeartbeats 7900000
/-! x == y, x != y, len(x) of an instance x with its own __eq__, __len__. -/
namespace Pk
open PySem PySem.Spec PyProof.Rows L2
abbrev St := L2.St
section
variable {X : Cx} {pins : List (Addr × Obj)} {σ : St} {H : Hp} {s : Shared} {C f : Addr} {fd : FuncData} {ps : List Str} {sp : Sp} {n : Nat}
/-- a def of the text, called from within a built-in's code -/
theorem run_in {A : Around} {E : Value → Shared → Prop} {us : List Value} {vs : List V} {Q : VK} (F : FnOk X.prog X.w X.K X.mg X.base CX0 n f fd ps sp) (hr : Room n A) (hf : A.frames = X.A.frames) (hb : Binds X.K fd ps [])
    (I : Inv X pins σ H s) (r : Vals vs us) (h : sp vs H Q E0) : wpAny (model X.prog X.w) A (call (.ref f) us) (EP X pins σ Q) E s := by
  have z := I.env0
  have args := hb s us I.kIn (by simpa [← r.length] using F.len _ _ _ _ h)
  simp only [List.append_nil] at args
  have here := F.run A X.stack s H ⟨us, []⟩ us vs Q E0 hr { frames := hf.trans z.frames, mod := z.mod, bs := z.bs, bsz := z.bsz, funs := z.funs, frf := z.frf, hok := z.hok, bare := z.bare } args r h
  refine wpAny_call (codeAny_mono here ?_)
  rintro (e | fl) s' hq
  · exact hq.elim
  · cases fl with
    | ret u => exact I.after hq
    | next | brk | cont => exact hq.elim
/-- the other side of == -/
inductive OthV (K : PySem.W.Frag) (H : Hp) (C : Addr) : V → Value → Prop where
  | ins {a dx : Addr} {fs : List (Str × V)} (e : H a = some (.ins C dx fs)) : OthV K H C (.ref a) (.ref C)
  | lst {a : Addr} {xs : List V} (e : H a = some (.lst xs)) : OthV K H C (.ref a) (.type "list")
  | str (x : Str) : OthV K H C (.str x) (.type "str")
theorem oth_looks {M : Model} {y : V} {v tb : Value} (I : Inv X pins σ H s) (o : OthV X.K H C y tb) (ry : RelV y v) : PySem.W.Looks M s.heap (typeOf v) tb := by
  cases o with
  | @ins a dx fs e =>
    cases ry
    obtain ⟨mB, J, _⟩ := ins_get I.hok e
    obtain ⟨od, J, _⟩ := J.look
    exact J.type
  | @lst a xs e =>
    cases ry
    obtain ⟨_, _, n, _, h1⟩ := (show ObjOk X.prog X.w H s.heap a (.lst xs) from I.hok a _ e)
    exact fun A Q E s k q => wpAny_typeOf_ref (k _ _ h1) q
  | str x =>
    obtain ⟨t, rfl⟩ := ry
    exact PySem.W.Looks.of_pure (by kernel_rfl)
theorem nf_list {K : PySem.W.Frag} {C : Addr} : PySem.W.notFirst K C (.type "list") = true := by
  have e : fastBuiltinMro "list" = some [.type "list", .type "object"] := by decide +kernel
  have q : PySem.W.subIn K (.type "list") (.ref C) = some false := by
    show (fastBuiltinMro "list").map (·.contains (.ref C)) = some false
    rw [e]
    first
      | rfl
      | simp
  unfold PySem.W.notFirst
  rw [q]
  simp
theorem nf_str {K : PySem.W.Frag} {C : Addr} : PySem.W.notFirst K C (.type "str") = true := by
  have e : fastBuiltinMro "str" = some [.type "str", .type "object"] := by decide +kernel
  have q : PySem.W.subIn K (.type "str") (.ref C) = some false := by
    show (fastBuiltinMro "str").map (·.contains (.ref C)) = some false
    rw [e]
    first
      | rfl
      | simp
  unfold PySem.W.notFirst
  rw [q]
  simp
theorem OthV.nf {K : PySem.W.Frag} {y : V} {tb : Value} (o : OthV K H C y tb) : PySem.W.notFirst K C tb = true := by
  cases o with
  | ins e => simp [PySem.W.notFirst]
  | lst e => exact nf_list
  | str x => exact nf_str
/-- x == y by x's own __eq__ -/
def rOwnEq (K : PySem.W.Frag) (C : Addr) (sp : Sp) : R2 := fun x y H Q => ∃ a dx fs tb, x = .ref a ∧ H a = some (.ins C dx fs) ∧ OthV K H C y tb ∧ sp [x, y] H (fun v H' => ∃ b, v = .bl b ∧ Q (.bl b) H') E0
def rOwnNe (K : PySem.W.Frag) (C : Addr) (sp : Sp) : R2 := fun x y H Q => ∃ a dx fs tb, x = .ref a ∧ H a = some (.ins C dx fs) ∧ OthV K H C y tb ∧ sp [x, y] H (fun v H' => ∃ b, v = .bl b ∧ Q (.bl (!b)) H') E0
theorem op_ownEq (F : FnOk X.prog X.w X.K X.mg X.base CX0 n f fd ps sp) (hr : Room n X.A) (hb : Binds X.K fd ps [])
    (hs : PySem.W.findIn X.K (.ref C) "__eq__" = some (some (.ref f))) (hf : PySem.W.isFn X.K (.ref f) = true) : OpR X (compareOp .Eq) (rOwnEq X.K C sp) := by
  rintro pins s σ H _ y v u Q I rx ry ⟨a, dx, fs, tb, rfl, ha, o, q⟩
  cases rx
  obtain ⟨od, J, _⟩ := (ins_get I.hok ha).choose_spec.1.look
  obtain ⟨m, hF⟩ := I.fr
  show wpAny (model X.prog X.w) X.A (richCompare .Eq (.ref a) u) _ _ _
  refine PySem.W.cmp_K (op := .Eq) (tb := tb) hr.units0 hF I.ok.mod.kin J (oth_looks I o ry) o.nf hs hf ?_
  refine wpAny_mono (run_in (vs := [.ref a, y]) F hr rfl hb I (.cons rfl (.cons ry .nil)) q) (fun w s' hw => ?_) fun _ _ z => z
  obtain ⟨z, H', I', rz, b, ez, qz⟩ := hw
  subst ez
  cases rz
  exact ⟨.bl b, H', I', rfl, qz⟩
theorem op_ownNe (F : FnOk X.prog X.w X.K X.mg X.base CX0 n f fd ps sp) (hr : Room (n + 1) X.A) (hb : Binds X.K fd ps [])
    (hs : PySem.W.findIn X.K (.ref C) "__eq__" = some (some (.ref f))) (hf : PySem.W.isFn X.K (.ref f) = true) (hn : PySem.W.findIn X.K (.ref C) "__ne__" = some (some (.builtin "object.__ne__"))) (hm : PySem.W.mroIn X.K C (.type "object") = some true) :
    OpR X (compareOp .NotEq) (rOwnNe X.K C sp) := by
  rintro pins s σ H _ y v u Q I rx ry ⟨a, dx, fs, tb, rfl, ha, o, q⟩
  cases rx
  obtain ⟨od, J, _⟩ := (ins_get I.hok ha).choose_spec.1.look
  have LB := oth_looks (M := model X.prog X.w) I o ry
  have one : wpAny (model X.prog X.w) X.A (tryCompare (.ref a) "__ne__" u) (fun r s' => ∃ b H', r = some (Value.bool (!b)) ∧ Inv X pins σ H' s' ∧ Q (.bl (!b)) H') X.xe s := by
    unfold tryCompare
    refine wpAny_bind ?_
    unfold callSpecialIfBound? bindSpecialIfBound?
    refine wpAny_holding (wpAny_bind (wpAny_bind (wpAny_bind (J.type.here ((PySem.W.looks_findIn I.kIn hn).here ?_)))))
    have body : wpAny (model X.prog X.w) X.A.in1 (Builtin.«object.__ne__» ⟨[.ref a, u], []⟩) (fun fin s' => ∃ v, fin = .done (.ret v) ∧ ∃ b H', v = Value.bool (!b) ∧ Inv X pins σ H' s' ∧ Q (.bl (!b)) H') X.xe s := by
      show wpAny _ _ (cRoomFor "comparison" [.ref a, u] >>= _) _ _ _
      refine wpAny_bind (wpAny_cRoomFor (hr.in1.units0) ?_)
      refine wpAny_bind (m := callSpecialIfBound? (.ref a) (Str.ofString "__eq__") [u]) (PySem.W.ifBound_K I.kIn J hs hf ?_)
      refine wpAny_mono (run_in (E := X.xe) (vs := [.ref a, y]) F hr.in1 rfl hb I (.cons rfl (.cons ry .nil)) q) (fun w s' hw => ?_) fun _ _ z => z
      obtain ⟨z, H', I', rz, b, ez, qz⟩ := hw
      subst ez
      cases rz
      refine wpAny_bind (wpAny_truthy_bool ?_)
      exact wpAny_pure ⟨_, rfl, b, H', rfl, I', qz⟩
    have cl : wpAny (model X.prog X.w) X.A (call (.builtin "object.__ne__") [.ref a, u]) (fun v s' => ∃ b H', v = Value.bool (!b) ∧ Inv X pins σ H' s' ∧ Q (.bl (!b)) H') X.xe s := by
      refine wpAny_call (codeAny_call_builtin PySem.F.cmp_object.ne.plain PySem.F.cmpEntry_ne (PySem.W.check_slot PySem.F.cmpKind_ne PySem.F.cmpSplit_ne (J.type.andThen (PySem.W.looks_mroIn I.kIn hm)) (PySem.F.cmpArgs_ne _ _) ?_))
      refine wpAny_mono body (fun fin s' hh => ?_) fun _ _ z => z
      obtain ⟨v, rfl, hv⟩ := hh
      exact hv
    have fin : wpAny (model X.prog X.w) X.A (call (.builtin "object.__ne__") ([.ref a] ++ [u]) >>= fun v => pure (some v)) (fun r s' => ∃ v, r = some v ∧ ∃ b H', v = Value.bool (!b) ∧ Inv X pins σ H' s' ∧ Q (.bl (!b)) H') X.xe s :=
      wpAny_bind (wpAny_mono cl (fun v s' h' => wpAny_pure ⟨v, rfl, h'⟩) fun _ _ h' => h')
    have fin2 : wpAny (model X.prog X.w) X.A (call (.builtin "object.__ne__") ([.ref a] ++ [u]) >>= fun v => pure (some v)) (fun r s' => wpAny (model X.prog X.w) X.A (match r with | some .notImplemented => pure none | none => pure none | some d => pure (some d)) (fun r s' => ∃ b H', r = some (Value.bool (!b)) ∧ Inv X pins σ H' s' ∧ Q (.bl (!b)) H') X.xe s') X.xe s :=
      wpAny_mono fin (fun r s' h' => by
        obtain ⟨v, rfl, b, H', rfl, I', q'⟩ := h'
        exact wpAny_pure ⟨b, H', rfl, I', q'⟩) fun _ _ z => z
    refine wpAny_bind ?_
    refine wpAny_askSetting (wpAny_ite ?_)
    split
    · exact wpAny_bind (wpAny_of_eq (PySem.F.cmp_object.ne.bind _) (wpAny_pure (by exact fin2)))
    · exact wpAny_tryCatch (wpAny_bind (wpAny_of_eq (PySem.F.cmp_object.ne.bind _) (wpAny_pure (by exact fin2))))
  show wpAny (model X.prog X.w) X.A (richCompare .NotEq (.ref a) u) _ _ _
  unfold richCompare
  simp only [oneThing_ref]
  refine wpAny_holding (wpAny_bind (wpAny_cRoomFor hr.units0 ?_))
  refine wpAny_bind (J.type.here (wpAny_bind (LB.here ?_)))
  have done : wpAny (model X.prog X.w) X.A (tryCompare (.ref a) "__ne__" u) (fun r s' => ∃ b H', r = some (Value.bool (!b)) ∧ Inv X pins σ H' s' ∧ Q (.bl (!b)) H') X.xe s := one
  split
  · rename_i hq
    have e : PySem.W.subIn X.K tb (.ref C) = some false := by
      rcases Bool.or_eq_true_iff.mp o.nf with e | e
      · rw [beq_iff_eq.mp e] at hq
        simp at hq
      · exact beq_iff_eq.mp e
    refine wpAny_bind ((PySem.W.looks_subIn I.kIn e).here ?_)
    rw [if_neg (by simp)]
    refine wpAny_bind (wpAny_mono done (fun r s' z => ?_) fun _ _ e => e)
    obtain ⟨b, H', rfl, I', q'⟩ := z
    exact wpAny_pure ⟨.bl (!b), H', I', rfl, q'⟩
  · refine (wpAny_bind ∘ wpAny_pure) ?_
    rw [if_neg (by simp)]
    refine wpAny_bind (wpAny_mono done (fun r s' z => ?_) fun _ _ e => e)
    obtain ⟨b, H', rfl, I', q'⟩ := z
    exact wpAny_pure ⟨.bl (!b), H', I', rfl, q'⟩
/-- len(x) by x's own __len__ -/
theorem call_ownLen (F : FnOk X.prog X.w X.K X.mg X.base CX0 n f fd ps sp) (hr : Room (n + 1) X.A) (hb : Binds X.K fd ps []) (hs : PySem.W.findIn X.K (.ref C) "__len__" = some (some (.ref f))) (hf : PySem.W.isFn X.K (.ref f) = true) :
    CallR X (.builtin "len") (fun xs H Q => ∃ a dx fs, xs = [.ref a] ∧ H a = some (.ins C dx fs) ∧ sp [.ref a] H (fun v H' => ∃ i, v = .int i ∧ 0 ≤ i ∧ i < 2 ^ 63 ∧ Q (.int i) H') E0) := by
  rintro pins s σ H _ us Q I r ⟨a, dx, fs, rfl, ha, q⟩
  obtain ⟨_, rfl, rfl⟩ := vals1 r
  obtain ⟨od, J, _⟩ := (ins_get I.hok ha).choose_spec.1.look
  obtain ⟨m, hF⟩ := I.fr
  refine PySem.W.len_K hF I.ok.mod.kin J hs hf ?_
  refine wpAny_mono (run_in (vs := [.ref a]) F hr.in1 rfl hb I (.cons rfl .nil) q) (fun w s' hw => ?_) fun _ _ z => z
  obtain ⟨z, H', I', rz, i, ez, h0, h1, qz⟩ := hw
  subst ez
  obtain ⟨t, rfl⟩ := rz
  exact ⟨⟨h0, h1⟩, .int i, H', I'.tok _, ⟨_, rfl⟩, qz⟩
end
end Pk

/-! The text of nested data (repr), and the law's own def, called by the judge. -/
namespace Pk
open PySem PySem.Spec PyProof.Rows L2
/-- a list or tuple at a that is the datum d, of which a text can be made -/
structure Tells (K : PySem.W.Frag) (H : Hp) (a : Addr) (d : PyData) : Prop where
  is : Dp K H (.ref a) d
  plain : d.showable = true ∧ d.hasDict = false
  small : d.depth ≤ 8 ∧ d.shown.length ≤ sizeLine
def rRepr (K : PySem.W.Frag) : List V → Hp → VK → Prop := fun xs H Q => ∃ a d, xs = [.ref a] ∧ Tells K H a d ∧ Q (.str d.shown) H
/-- repr(x), where no other repr is under way: the text of the datum that x is -/
theorem call_reprD {X : Cx} (alone : X.A.guards = some []) (room : X.A.units + 64 < cLine) : CallR X (.builtin "repr") (rRepr X.K) := by
  rintro pins s σ H _ us Q I r ⟨a, d, rfl, t, q⟩
  cases r with
  | cons ra rn =>
    cases rn
    have ra' := ra
    cases ra
    obtain ⟨at_, rd⟩ := Dp.reads I d _ _ t.is ra'
    have deep := t.small.1
    have units : X.A.units + (d.depth + 1) < cLine := by omega
    apply repr_of_reads' rd t.plain.1 (PyData.noDict_hsm t.plain.2) alone units (fun _ _ z => z) _ t.small.2
    exact fun h' u tk kp => ⟨.str d.shown, H, I.kept kp, ⟨_, rfl⟩, q⟩

section
variable {P : Program} {w : World} {K : PySem.W.Frag} {mg : Str → Option Value}
/-- a def of one parameter x, its text found in the written part; called by the judge, its body does what sp says -/
def Judged (P : Program) (w : World) (K : PySem.W.Frag) (mg : Str → Option Value) (base : Heap) (f : Addr) (fd : FuncData) (x : Str) (sp : Sp) : Prop :=
  ∃ (nm q : Str) (pr : Arguments) (bd : List Stmt) (sc : Scope) (d1 d2 d3 d4 c ty cl : Value) (n1 n2 : Option Addr) (sl : Array (Option Value)) (N : List Str),
    fd = PySem.W.fnOf nm q pr bd sc d1 d2 d3 d4 n1 c ty ∧ K.lookup f = some ⟨cl, n2, .func fd, sl⟩ ∧ PySem.W.codeIn K c q = true ∧ FnScope N [x] sc ∧
    ∀ (s : Shared) (H : Hp) (v : V) (Q : VK), sp [v] H Q (fun _ _ _ => False) →
      ∃ t, PSs (cxOf CX0 P w K mg base N q sc f c callerA [] s H fun _ _ _ => False) bd t ∧ t { nx := fun _ _ => False, rt := Q } (start N [v]) H

/-- what is tracked as the judge calls: the script's list, unless the module itself holds it -/
def scH (K : PySem.W.Frag) (a : Addr) (o : Obj) (ns : List Int) : Hp := fun b => if b = a ∧ K.lookup a = none then some (.frz o (.lst (ns.map V.int))) else none
theorem scH_some {a b : Addr} {o : Obj} {ns : List Int} {u : HO} (h : scH K a o ns b = some u) : b = a ∧ K.lookup a = none ∧ u = .frz o (.lst (ns.map V.int)) := by
  unfold scH at h
  split at h
  · rename_i q
    exact ⟨q.1, q.2, (Option.some.inj h).symm⟩
  · cases h
theorem scH_off {a b : Addr} {o : Obj} {ns : List Int} (h : b = a → K.lookup a ≠ none) : scH K a o ns b = none := if_neg fun z => h z.1 z.2
/-- the heap as the judge calls: the module's parts, the script at a -/
structure Top (K : PySem.W.Frag) (mg : Str → Option Value) (s : Shared) (a : Addr) (vs : List Value) (ns : List Int) : Prop where
  kin : K.In s.heap
  glob : s.heap.Ns mainGlobals mg
  blt : ∃ mb, s.heap.Ns builtinsNs mb ∧ ∀ y : Str, y ≠ "__name__" → mb y = bootBuiltins y
  free : s.heap.NoLimit
  idle : s.gens = #[]
  obj : s.heap.get? a = some ⟨.type "list", none, .seq vs.toArray 0, #[]⟩
  nums : IntsAre vs ns
  short : ns.length ≤ sizeLine
section
variable {s : Shared} {a : Addr} {vs : List Value} {ns : List Int}
def scO (vs : List Value) : Obj := ⟨.type "list", none, .seq vs.toArray 0, #[]⟩
theorem Top.seq (T : Top K mg s a vs ns) : SqL K (scH K a (scO vs) ns) a (ns.map V.int) := by
  cases hk : K.lookup a with
  | none => exact .inl (.inr ⟨_, if_pos ⟨rfl, hk⟩⟩)
  | some o =>
    obtain rfl : o = scO vs := Option.some.inj ((T.kin a o hk).symm.trans T.obj)
    have sz : vs.toArray.size ≤ sizeLine := by
      rw [List.size_toArray, T.nums.length]
      exact T.short
    refine .inr ⟨_, vs.toArray, 0, hk, rfl, rfl, rfl, sz, ?_⟩
    exact vals_ints T.nums
theorem Top.hok {P : Program} {w : World} (T : Top K mg s a vs ns) : HOk P w (scH K a (scO vs) ns) s.heap := by
  intro b u z
  obtain ⟨rfl, _, rfl⟩ := scH_some z
  refine ⟨T.obj, ?_, vs, 0, vals_ints T.nums, T.obj⟩
  rw [List.length_map]
  exact T.short
/-- a namespace of the heap is not the script -/
theorem Top.other (T : Top K mg s a vs ns) {b : Addr} {m : Str → Option Value} (n : s.heap.Ns b m) : scH K a (scO vs) ns b = none := by
  apply scH_off
  intro e _
  subst e
  obtain ⟨o, es, ep, got, data, _⟩ := n
  rw [T.obj] at got
  obtain rfl := Option.some.inj got
  exact Data.noConfusion data
theorem Top.under (T : Top K mg s a vs ns) {b : Addr} {m : Str → Option Value} (n : s.heap.Ns b m) : (hidT s.heap (scH K a (scO vs) ns)).Ns b m := by
  have off := T.other n
  rcases n with ⟨o, es, ep, ho, more⟩
  exact ⟨o, es, ep, hidT_get ho off, more⟩
theorem Top.mod (T : Top K mg s a vs ns) : Mod K mg (hidT s.heap (scH K a (scO vs) ns)) where
  kin b o e := hidT_get (T.kin b o e) (scH_off fun z n => by rw [← z, e] at n; cases n)
  glob := T.under T.glob
  blt := T.blt.imp fun _ z => ⟨T.under z.1, z.2⟩
  nolimit := T.free.imp fun _ z => ⟨T.under z.1, z.2⟩
theorem Top.env {P : Program} {w : World} (T : Top K mg s a vs ns) : Env0 P w K mg (hidT s.heap (scH K a (scO vs) ns)) callerA [] s (scH K a (scO vs) ns) where
  frames := rfl
  mod := T.mod
  bs _ _ := of_hidT
  bsz := Nat.le_of_eq (hidT_size s.heap _)
  funs := trivial
  frf _ z := (List.not_mem_nil z).elim
  hok := T.hok
  bare := .of_eq T.idle
/-- what stood before the law's def stands behind it -/
theorem Top.old {P : Program} {w : World} (T : Top K mg s a vs ns) {H' : Hp} {h' : Heap} (un : Un [] [] (scH K a (scO vs) ns) H' s.heap h') (ok : HOk P w H' h') : OldK s.heap h' := by
  refine OldK.of_keep fun b o e => ?_
  by_cases z : scH K a (scO vs) ns b = none
  · exact un.keep b o e z List.not_mem_nil List.not_mem_nil
  · obtain ⟨u, hu⟩ := Option.ne_none_iff_exists'.mp z
    have hu' := hu
    obtain ⟨rfl, _, rfl⟩ := scH_some hu
    have o1 : scO vs = o := Option.some.inj (T.obj.symm.trans e)
    have := ok b _ (un.frzs b _ _ hu')
    rw [← o1]
    exact this.1
/-- the judge's call of the law's def -/
theorem Top.run {fa : Addr} {fd : FuncData} {x : Str} {sp : Sp} (T : Top K mg s a vs ns) (J : Judged P w K mg (hidT s.heap (scH K a (scO vs) ns)) fa fd x sp) (hb : ∀ (s : Shared) (u : Value), BindsTo s fd ⟨[u], []⟩ [(x, u)])
    (yes : sp [.ref a] (scH K a (scO vs) ns) (fun v _ => v = .bl true) fun _ _ _ => False) :
    codeAny (model P w) callerA (.call (.ref fa) ⟨[.ref a], []⟩) (fun r s' => r = .ok (.ret (.bool true)) ∧ OldK s.heap s'.heap ∧ s'.os = s.os ∧ AllBare s'.gens) s := by
  obtain ⟨nm, q, pr, bd, sc, d1, d2, d3, d4, c, ty, cl, n1, n2, sl, N, rfl, lk, hc, S, body⟩ := J
  obtain ⟨t, walk, ends⟩ := body s _ _ _ yes
  have E0 := T.env (P := P) (w := w)
  have par : ([(x, Value.ref a)].all fun y => sc.names.lookup y.1 == some .local || sc.names.lookup y.1 == some .cell) = true := by
    have := S.par x (List.mem_singleton.mpr rfl)
    simpa using this
  apply Att.call_fn T.kin T.free lk hc (by decide +kernel) (hb s (.ref a)) par _ S.co S.gen S.kind
  intro s1 entered
  have I := inv_start (CX := CX0) (E := fun _ _ _ => False) (us := [Value.ref a]) (vs := [V.ref a]) S rfl E0 rfl (.cons rfl .nil) entered
  refine wpAny_mono (walk.run [] s1 _ _ _ I ends) ?_ ?_
  · intro fl s' z
    cases fl with
    | ret u =>
      obtain ⟨v, σ', H', J, rv, yes⟩ := z
      subst yes
      cases rv
      exact ⟨rfl, T.old J.base J.hok, J.os, J.bare⟩
    | next => exact z.choose_spec.choose_spec.2.elim
    | brk => exact z.choose_spec.choose_spec.2.elim
    | cont => exact z.choose_spec.choose_spec.2.elim
  · intro e s' z
    refine wpAny_mono z ?_ ?_ <;> exact fun _ _ no => no.elim
end
end
end Pk

/-! d.update(e), KINDS.get(k), == of two dicts of plain data. -/
namespace Pk
open PySem PySem.Spec PyProof.Rows L2
section
variable {X : Cx}
def rDUpd : V → List V → Hp → VK → Prop := fun x vs H Q => ∃ (a b : Addr) (ks ls : List (Key × V)), x = .ref a ∧ vs = [.ref b] ∧ a ≠ b ∧ H a = some (.dK ks) ∧ H b = some (.dK ls) ∧ ks.length + ls.length ≤ sizeLine ∧ Q .non (upd H a (.dK (mergeK ks ls)))
theorem mtd_update : MtR X "dict.update" rDUpd := by
  rintro pins s σ H _ _ _ us Q I rx rv ⟨a, b, ks, ls, rfl, rfl, hne, ea, eb, hz, q⟩
  cases rx
  obtain ⟨_, rfl, rfl⟩ := vals1 rv
  obtain ⟨za, ya, va, ra, da⟩ := dk_of I.hok ea
  obtain ⟨zb, yb, vb, rb, db⟩ := dk_of I.hok eb
  refine call_meetsIn PySem.F.slot_dict_update da.typeIs PySem.F.entry_dict_update (PySem.F.args_dict_update_2 _ _) (meets_dict_update (mixKind X.prog X.w) a b hne yb) ⟨va, vb, da, db, by rw [← ra.length, ← rb.length]; exact hz, fun h' d1 d2 hs => ?_⟩
  have he : ∃ q, h'.get? a = some q := let ⟨q, _, _, hq, _⟩ := d1; ⟨q, hq⟩
  exact ⟨.non, _, d_write (t' := s.toks) I (by rw [ea]; exact True.intro) hs he (dk_new (Nat.le_trans (length_mergeK _ _) hz) ya (KV.merge rb ra) d1), rfl, q⟩
/-- a written dict's get, the key there or not -/
def rKGet (K : PySem.W.Frag) (d : Addr) : V → List V → Hp → VK → Prop := fun x vs H Q => ∃ z, x = .ref d ∧ vs = [.str z] ∧ ((PySem.W.nsIn K d z = some none ∧ Q .non H) ∨ ∃ u v, PySem.W.nsIn K d z = some (some u) ∧ RelV v u ∧ Q v H)
theorem mt_kget {d : Addr} {es : Array DictEntry} {n : Nat} (D : KDict X.K X.w d es n) : MtR X "dict.get" (rKGet X.K d) := by
  rintro pins s σ H _ _ _ us Q I rx rv ⟨z, rfl, rfl, h⟩
  cases rx
  obtain ⟨_, rfl, t, rfl⟩ := vals1 rv
  have hm := PySem.W.mapOf_K (prog := X.prog) (w := X.w) I.kIn D.at_ D.lit
  refine call_meetsIn PySem.F.slot_dict_get hm.typeIs PySem.F.entry_dict_get (PySem.F.args_dict_get_2 _ _) (meets_dict_get (strKind X.prog X.w) d (strKind_is X.prog X.w z t) D.low) ⟨_, hm, ?_⟩
  rcases h with ⟨e, q⟩ | ⟨u0, v0, e, r, q⟩
  · rw [PySem.W.find_K D.at_ e]
    exact ⟨.non, H, I.tok _, rfl, q⟩
  · rw [PySem.W.find_K D.at_ e]
    exact ⟨v0, H, I.tok _, r, q⟩
def tKGet (K : PySem.W.Frag) (d : Addr) (td ty : TE) : TE := fun σ H Q => td σ H fun x H1 => x = .ref d ∧ ty σ H1 fun y H2 => rKGet K d x [y] H2 Q
theorem pe_kget {o e : Expr} {apos cpos : Pos} {td ty : TE} {d : Addr} {es : Array DictEntry} {n : Nat} (D : KDict X.K X.w d es n) (ho : PE X o td) (he : PE X e ty) (m : M1 X o "get" apos e cpos) : PE X (.Call (.Attribute o "get" apos) [e] [] cpos) (tKGet X.K d td ty) where
  run pins s σ H Q I h := by
    -- d is a dict of the module, whatever has been done meanwhile
    have is : ∀ {t : Shared} {G : Hp}, Inv X pins σ G t → t.TypeIs (.ref d) "dict" := fun J => (PySem.W.mapOf_K (prog := X.prog) (w := X.w) J.kIn D.at_ D.lit).typeIs
    have late := ho.run pins s σ H _ I h
    apply wpAny_Call_method m.base m.few m.line PySem.F.plainAttrs_dict PySem.F.slot_dict_get PySem.F.type_dict_get
    refine thn late ?_
    rintro _ t ⟨_, G, J, rd, rfl, more⟩
    cases rd
    have arg := he.run pins t σ G _ J more
    refine ⟨is J, ?_, ?_⟩
    · rintro _ ⟨⟩
      exact ⟨_, J.kIn _ _ D.at_, rfl⟩
    rw [m.trees]
    apply Calls.callWith_builtin rfl
    apply Calls.evalArgs_plain
    apply Calls.spliced_cons
    refine thn arg ?_
    rintro _ t2 ⟨_, _, J2, rk, got⟩
    exact Calls.spliced_nil (mt_kget D _ _ _ _ (.ref d) [_] _ [_] Q J2 rfl (.cons rk .nil) got)
/-- the dict's entries, as data -/
def EntD (K : PySem.W.Frag) (H : Hp) (ks : List (Key × V)) (ds : List (Key × PyData)) : Prop := Paired (fun p q => p.1 = q.1 ∧ Dp K H p.2 q.2 ∧ SeqAt.shaped q.2 = true) ks ds
def hitD (es : List (Key × PyData)) (ds : List (Key × PyData)) : Bool := ds.all fun p => match (es.find? fun e => decide (e.1 = p.1)) with | some e => PyData.eqv p.2 e.2 | none => false
def dictEq (ds es : List (Key × PyData)) : Bool := ds.length == es.length && hitD es ds
theorem entD_val {K : PySem.W.Frag} {H : Hp} {ks : List (Key × V)} {ds : List (Key × PyData)} (h : EntD K H ks ds) (k : Key) :
    (valV ks k = none ∧ (ds.find? fun e => decide (e.1 = k)) = none) ∨ ∃ v d, valV ks k = some v ∧ (ds.find? fun e => decide (e.1 = k)) = some (k, d) ∧ Dp K H v d ∧ SeqAt.shaped d = true := by
  unfold EntD at h
  induction h with
  | nil => exact Or.inl (And.intro rfl rfl)
  | @cons p q ps qs h t ih =>
    obtain ⟨e, h1, h2⟩ := h
    by_cases c : p.1 = k
    · refine .inr ⟨p.2, q.2, valV_pos c, ?_, h1, h2⟩
      have c' : q.1 = k := e.symm.trans c
      rw [List.find?_cons, decide_eq_true c', ← c']
    · have c' : ¬ q.1 = k := fun z => c (e.trans z)
      rw [valV_neg c, List.find?_cons, decide_eq_false c']
      exact ih
theorem hits_data {P : Program} {w : World} {A : Around} {s : Shared} {K : PySem.W.Frag} {H : Hp} (ih : ∀ x y v u d e, Dp K H x d → Dp K H y e → SeqAt.shaped d = true → SeqAt.shaped e = true → RelV x v → RelV y u → SeqAt.EqP P w A s v u (PyData.eqv d e))
    {ls : List (Key × V)} {es : List (Key × PyData)} {vb : List (Key × Value)} (rb : KV ls vb) (eb : EntD K H ls es) {ks : List (Key × V)} {ds : List (Key × PyData)} (ea : EntD K H ks ds) :
    ∀ {va : List (Key × Value)}, KV ks va → PySem.W.KeqHitsP P w A s vb va (hitD es ds) := by
  unfold EntD at ea
  induction ea with
  | nil => intro va ra; cases ra; exact .nil
  | @cons p q ps qs h t k =>
    intro va ra
    unfold KV at ra
    cases ra with
    | @cons _ q' _ va' r1 r2 =>
      obtain ⟨e, h1, h2⟩ := h
      obtain ⟨e', r1⟩ := r1
      obtain ⟨key, v⟩ := q'
      have e'' : p.1 = key := e'
      subst e''
      have rr : RelO (valV ls p.1) (valueAt vb p.1) := rb.val p.1
      rcases entD_val eb p.1 with ⟨n1, n2⟩ | ⟨y, d, n1, n2, n3, n4⟩
      · have e0 : hitD es (q :: qs) = false := by
          unfold hitD
          rw [List.all_cons, ← e, n2]
          simp
        rw [e0]
        rw [n1] at rr
        exact .miss (RelO.none_of rr)
      · have e0 : hitD es (q :: qs) = (PyData.eqv q.2 d && hitD es qs) := by
          unfold hitD
          rw [List.all_cons, ← e, n2]
        rw [e0]
        rw [n1] at rr
        obtain ⟨y', hy, ry⟩ := rr.some_of
        exact .hit hy (ih _ _ _ _ _ _ h1 n3 h2 n4 r1 ry) (k r2)
def rEqK (K : PySem.W.Frag) : R2 := fun x y H Q => ∃ a b ks ls ds es, x = .ref a ∧ y = .ref b ∧ H a = some (.dK ks) ∧ H b = some (.dK ls) ∧ EntD K H ks ds ∧ EntD K H ls es ∧ Q (.bl (dictEq ds es)) H
theorem op_eqK (hu : X.A.units + 70 < cLine) : OpR X (compareOp .Eq) (rEqK X.K) := by
  rintro pins s σ H _ _ v u Q I rx ry ⟨a, b, ks, ls, ds, es, rfl, rfl, ea, eb, ha, hb, q⟩
  cases rx
  cases ry
  obtain ⟨_, ya, va, ra, da⟩ := dk_of I.hok ea
  obtain ⟨_, yb, vb, rb, db⟩ := dk_of I.hok eb
  have ih : ∀ x y v u d e, Dp X.K H x d → Dp X.K H y e → SeqAt.shaped d = true → SeqAt.shaped e = true → RelV x v → RelV y u → SeqAt.EqP X.prog X.w X.A.in1 s v u (PyData.eqv d e) := by
    intro x y v u d e h1 h2 h3 h4 r1 r2
    obtain ⟨as, q1⟩ := Dp.reads I d x v h1 r1
    obtain ⟨bs, q2⟩ := Dp.reads I e y u h2 r2
    have z := SeqAt.depth_of_shaped h3
    have z2 : min d.depth e.depth ≤ d.depth := Nat.min_le_left _ _
    exact (SeqAt.eqAt_reads d e X.A.in1 s v u as bs q1 q2 (SeqAt.canLay_of_shaped h3) (SeqAt.canLay_of_shaped h4) (by show X.A.units + 1 + _ < _; omega)).eqP
  refine PySem.W.rcP_dicts (knd := mixKind X.prog X.w) (r := hitD es ds) ya yb da db (by omega) (fun _ => hits_data ih rb hb ha ra) _ _ ?_
  refine ⟨.bl (dictEq ds es), H, I, ?_, q⟩
  show Value.bool _ = Value.bool _
  unfold dictEq
  rw [← ra.length, ← rb.length, Paired.length ha, Paired.length hb]
end
end Pk

/-! The making of an exception of an own class whose maker is that of B: own classes over own classes over ValueError, over KeyError. -/
namespace Pk
open PySem PySem.W PySem.Calls PyProof.Rows PySem.HandSPX

/-- a class object's parts -/
structure Row where
  (nm q : Str) (N : Addr) (bs bm : List Value) (sn : List Str) (sub : List Value) (ab : Bool) (col : Option Bool) (dd : Option Addr) (k0 k1 k2 k3 k5 : Option Value)
def Row.obj (r : Row) (C : Addr) (maker : String) : Obj := excClassObj r.nm r.q C r.N r.bs r.bm true r.sn r.sub r.ab r.col r.dd r.k0 r.k1 r.k2 r.k3 r.k5 maker
/-- which types stand behind the class -/
def Row.under (r : Row) (C : Addr) (T : String) : Bool := (Value.ref C :: r.bm).contains (.type T)
/-- own classes ahead of a built-in tail -/
def Own (T bm : List Value) : Prop := ∃ rs : List Addr, bm = rs.map Value.ref ++ T
theorem own_contains {T bm : List Value} (o : Own T bm) (X : String) : bm.contains (.type X) = T.contains (.type X) := by
  obtain ⟨rs, rfl⟩ := o
  induction rs with
  | nil => rfl
  | cons r rs ih =>
    rw [List.map_cons, List.cons_append, List.contains_cons, ih]
    rfl
theorem own_pass {T bm : List Value} (o : Own T bm) (self : Value) (hT : refuseLoop self "__setattr__" T = pure ()) : refuseLoop self "__setattr__" bm = pure () := by
  obtain ⟨rs, rfl⟩ := o
  induction rs with
  | nil => exact hT
  | cons r rs ih =>
    rw [List.map_cons, List.cons_append, refuseLoop_ref]
    exact ih
abbrev veT : List Value := [.type "ValueError", .type "Exception", .type "BaseException", .type "object"]
abbrev keT : List Value := [.type "KeyError", .type "LookupError", .type "Exception", .type "BaseException", .type "object"]
theorem ke_pass (self : Value) : refuseLoop self "__setattr__" keT = pure () := by kernel_rfl
theorem ve_pass (self : Value) : refuseLoop self "__setattr__" veT = pure () := F.store_ValueError.passes self
/-- B's own maker makes the class: B stands behind it, and neither of the two whose making does more -/
structure MadeAs (r : Row) (C : Addr) (B : String) : Prop where
  yes : r.under C B = true
  no1 : r.under C "AttributeError" = false
  no2 : r.under C "NameError" = false
theorem madeAs {r : Row} {C : Addr} {T : List Value} {B : String} (o : Own T r.bm) (h : (T.contains (.type B) && !T.contains (.type "AttributeError") && !T.contains (.type "NameError")) = true) : MadeAs r C B := by
  have to : ∀ X : String, r.under C X = T.contains (.type X) := fun X => by
    rw [← own_contains o X]
    unfold Row.under
    rw [List.contains_cons]
    rfl
  rw [Bool.and_eq_true, Bool.and_eq_true] at h
  exact ⟨(to _).trans h.1.1, (to _).trans (by simpa using h.1.2), (to _).trans (by simpa using h.2)⟩

section
variable {prog : Program} {w : World} {A : Around} {R : Result → Shared → Prop} {r : Row} {C : Addr} {B maker ini : String} {bB : List Value} {s : Shared} {us : List Value}
/-- two objects are new: the tuple of what was handed in, and the bare exception -/
def Born (s : Shared) (C : Addr) (us : List Value) : Shared := { s with heap := (s.heap.push (kdv_tup us)).push (excO C s.heap.objs.size) }
theorem born_keep {b : Addr} {o : Obj} (e : s.heap.get? b = some o) : (Born s C us).heap.get? b = some o := Heap.get?_push_of_some _ (Heap.get?_push_of_some _ e)
theorem born_it : (Born s C us).heap.get? (s.heap.objs.size + 1) = some (excO C s.heap.objs.size) := by
  show ((s.heap.push (kdv_tup us)).push (excO C s.heap.objs.size)).get? (s.heap.objs.size + 1) = _
  heap_get
theorem Row.checked {M : Model} {Q : Unit → Shared → Prop} {E : Value → Shared → Prop} (F : ExcBaseFacts B maker ini bB) (m : MadeAs r C B) (at_ : s.heap.get? C = some (r.obj C maker)) (q : Q () s) : wpAny M A (checkBuiltinCall maker ⟨.ref C :: us, []⟩) Q E s := by
  obtain ⟨h, g, d, t, os⟩ := s
  have y : (Value.ref C :: r.bm).contains (.type B) = true := m.yes
  have ns := F.noStar
  unfold Row.obj at at_
  simp only [F.newRow, F.newSplit, F.newKind, checkBuiltinCall]
  repeat (first
    | refine wpAny_loadPart_at at_ ?_
    | refine wpAny_madeBy_exc at_ ?_
    | refine wpAny_staticBase_exc at_ ?_
    | (refine wpAny_isSubtype_exc at_ ?_; rw [y])
    | simp only [bne_self_eq_false, Bool.false_eq_true, if_false]
    | wp_step)
  exact q
/-- the maker's own code -/
theorem Row.bears (F : ExcBaseFacts B maker ini bB) (m : MadeAs r C B) (at_ : s.heap.get? C = some (r.obj C maker)) (few : us.length ≤ sizeLine) (q : R (.ok (.ret (.ref (s.heap.objs.size + 1)))) (Born s C us)) :
    codeAny (model prog w) A (.builtin maker ⟨.ref C :: us, []⟩) R s := by
  obtain ⟨h, g, d, t, os⟩ := s
  have y : (Value.ref C :: r.bm).contains (.type B) = true := m.yes
  have n1 : (Value.ref C :: r.bm).contains (.type "AttributeError") = false := m.no1
  have n2 : (Value.ref C :: r.bm).contains (.type "NameError") = false := m.no2
  have fin := F.ends
  unfold Row.obj at at_
  refine codeAny_builtinAt F.entry (PySem.wpAt_bind (PySem.wpAt_bind (PySem.wpAt_stack fun p below => PySem.wpAt_of_wpAny ?_)))
  wp_walk
  refine PySem.wpAt_of_wpAny ?_
  rw [F.owner]
  repeat (first
    | with_reducible refine wpAny_loadPart_at at_ ?_
    | with_reducible refine wpAny_madeHere_exc F.canon at_ ?_
    | (with_reducible refine wpAny_isSubtype_exc at_ ?_; simp only [y, n1, n2])
    | wp_step)
  show R (.ok (.ret (.ref (h.push (kdv_tup us)).objs.size))) _
  rw [Heap.size_push]
  exact q
/-- a def of the text, found as the class's own __init__, that takes the new object first -/
structure Starts (prog : Program) (w : World) (h : Heap) (C fI : Addr) : Prop where
  found : Looks (model prog w) h (typeLookup (.ref C) "__init__") (some (.ref fI))
  binds : ∀ self, Looks (model prog w) h (bindSpecial (.ref fI) self) (.ref fI, [self])
/-- what a call of the class gives, by what its __init__ gives -/
def Gives (s : Shared) (R : Result → Shared → Prop) : Result → Shared → Prop
  | .error e, s' => R (.error e) s'
  | .ok (.ret v), s' => v = .none ∧ R (.ok (.ret (.ref (s.heap.objs.size + 1)))) s'
  | .ok _, _ => False
/-- it is an instance of its class -/
theorem Row.isOne {Q : Bool → Shared → Prop} {E : Value → Shared → Prop} {M : Model} (at_ : s.heap.get? C = some (r.obj C maker)) (q : Q true (Born s C us)) : wpAny M A (isInstance (.ref (s.heap.objs.size + 1)) (.ref C)) Q E (Born s C us) := by
  have at2 : (Born s C us).heap.get? C = some (r.obj C maker) := born_keep at_
  have new : (Born s C us).heap.get? (s.heap.objs.size + 1) = some (excO C s.heap.objs.size) := born_it
  have own : (Value.ref C :: r.bm).contains (.ref C) = true := by simp
  generalize Born s C us = z at at2 new q ⊢
  obtain ⟨h, g, d, t, os⟩ := z
  unfold Row.obj at at2
  unfold isInstance
  repeat (first
    | with_reducible refine wpAny_loadPart_at new ?_
    | (with_reducible refine wpAny_isSubtype_exc at2 ?_; rw [own])
    | wp_step)
  exact q
/-- its __init__ is found and run -/
theorem Row.started {fI : Addr} {Q : Option Value → Shared → Prop} {E : Value → Shared → Prop} (i : Starts prog w s.heap C fI)
    (run : codeAny (model prog w) A (.call (.ref fI) ⟨.ref (s.heap.objs.size + 1) :: us, []⟩) (fun res s' => match res with | .error e => E e s' | .ok (.ret v) => Q (some v) s' | .ok _ => False) (Born s C us)) :
    wpAny (model prog w) A (callSpecial? (.ref (s.heap.objs.size + 1)) "__init__" us []) Q E (Born s C us) := by
  have new : (Born s C us).heap.get? (s.heap.objs.size + 1) = some (excO C s.heap.objs.size) := born_it
  have found := i.found.keeps fun b o e => born_keep (C := C) (us := us) e
  have binds := (i.binds (.ref (s.heap.objs.size + 1))).keeps fun b o e => born_keep (C := C) (us := us) e
  unfold callSpecial? specialOf
  refine wpAny_bind (wpAny_bind (wpAny_typeOf_ref new (found.at ?_)))
  refine wpAny_holding (wpAny_bind (binds.at (wpAny_bind (wpAny_call (codeAny_mono run ?_)))))
  intro res s' z
  cases res with
  | error e => exact z
  | ok fl =>
    cases fl with
    | ret v => exact wpAny_pure z
    | next | brk | cont => exact z.elim
theorem Row.made {fI : Addr} (F : ExcBaseFacts B maker ini bB) (m : MadeAs r C B) (at_ : s.heap.get? C = some (r.obj C maker)) (i : Starts prog w s.heap C fI) (few : us.length ≤ sizeLine)
    (run : codeAny (model prog w) (A.under (.builtin "type.__call__" ⟨.ref C :: us, []⟩)) (.call (.ref fI) ⟨.ref (s.heap.objs.size + 1) :: us, []⟩) (Gives s R) (Born s C us)) :
    codeAny (model prog w) A (.call (.ref C) ⟨us, []⟩) R s := by
  have look := at_
  unfold Row.obj at look
  have ty : s.TypeIs (.ref C) "type" := ⟨_, look, rfl⟩
  have l1 := tc_lookup
  have l2 := tc_bind (.ref C)
  refine codeAny_of_tree (show wpAny _ _ (callAny (.ref C) _) _ _ _ from ?_)
  obtain ⟨h, g, d, t, os⟩ := s
  repeat (any_goals (first
    | assumption
    | with_reducible refine wpAny_loadPart_at look ?_
    | wp_step))
  refine ⟨rfl, codeAny_call_builtin_at (Code.quiet_builtin _ (by decide +kernel)) entry_typeCall (wpAny_check_type_call_sub look ?_)⟩
  -- type.__call__
  repeat (first
    | with_reducible refine wpAny_loadPart_at look ?_
    | with_reducible refine wpAny_madeBy_exc look ?_
    | wp_step)
  refine codeAny_call_builtin_code (Code.quiet_builtin _ F.quiet) (Row.checked F m at_ (Row.bears F m at_ few ?_))
  refine wpAny_bind (Row.isOne at_ ?_)
  refine wpAny_bind (wpAny_holding (Row.started i (codeAny_mono run ?_)))
  intro res s' z
  cases res with
  | error e => exact z
  | ok fl =>
    cases fl with
    | ret v =>
      obtain ⟨rfl, z⟩ := z
      wp_walk
      exact z
    | next | brk | cont => exact z.elim
end

/-! ### what such an exception keeps: self.name = v -/
theorem store_KeyError : StoreFacts "KeyError" keT "object.__setattr__" "object" := by
  have z := PySem.F.store_ValueError
  refine ⟨by kernel_rfl, ?_, z.entry, z.kind, z.split, by decide +kernel, z.args, ke_pass⟩
  refine Slot.of (owner := "object") (n := "__setattr__") ?_ (by decide +kernel) (by decide +kernel) (by decide +kernel) ?_ ?_
  · rw [typeLookup_type, builtinLookup_eq_fast]
    kernel_rfl
  · first
      | exact Or.inl (by decide +kernel)
      | exact Or.inr (by decide +kernel)
  · rw [isSubtype_type]
    kernel_rfl
/-- an exception of a class over a built-in tail bB, at x, its dict as told; the class has no such name of its own -/
structure Keeps (K : Frag) (C : Addr) (cd : ClassData) (bB : List Value) (name : Str) : Prop where
  cls : clsIn K C = some cd
  dict : cd.hasDict = true
  over : excOver K C bB = true
  free : findIn K (.ref C) name = some none
theorem Keeps.taker {K : Frag} {C : Addr} {cd : ClassData} {bB : List Value} {name : Str} (k : Keeps K C cd bB name) : takerIn K C name = some none := by
  unfold takerIn
  rw [k.free]
  rfl
section
variable {prog : Program} {w : World} {A : Around} {R : Result → Shared → Prop} {K : Frag} {B : String} {bB : List Value} {cd : ClassData} {x C : Addr} {fv : Array Value} {name : Str} {tk : Tok} {v : Value} {s : Shared}
/-- the plain setting of a field, as it is called -/
abbrev setsBy (x : Addr) (f : Str) (u : Tok) (y : Value) : Code := .call (.builtin "object.__setattr__") ⟨[.ref x, .str f u, y], []⟩
def exOb (C : Addr) (d : Option Addr) (fv : Array Value) : Obj := ⟨.ref C, d, .fields fv, #[]⟩
/-- the first one: the dict is made -/
theorem Keeps.first (SF : StoreFacts B bB "object.__setattr__" "object") (k : Keeps K C cd bB name) (X : K.In s.heap) (at_ : s.heap.get? x = some (exOb C none fv))
    (q : ∀ h' t' dx, (∀ b o, b ≠ x → s.heap.get? b = some o → h'.get? b = some o) ∧ s.heap.objs.size ≤ dx ∧ dx ≠ x ∧ h'.get? x = some (exOb C (some dx) fv) ∧ h'.Ns1 dx (fun y => if y = name then some v else none) →
      R (.ok (.ret .none)) { s with heap := h', toks := t' }) :
    codeAny (model prog w) A (setsBy x name tk v) R s := by
  have old : x ≠ s.heap.objs.size := Nat.ne_of_lt (Heap.lt_size at_)
  refine osa_openX SF X (od := none) ⟨at_, rfl, rfl, trivial⟩ k.over k.taker fun b => ?_
  have cls := looks_clsIn (M := model prog w) X k.cls
  have hd := k.dict
  clear k
  obtain ⟨hp, g, d, t, os⟩ := s
  cases cd
  cases hd
  show wpAny _ _ (Builtin.ObjectAttr.storeInOwnDict (.ref x) (.ref C) (.str name tk) name v b) _ _ _
  unfold exOb at at_
  unfold Builtin.ObjectAttr.storeInOwnDict Builtin.ObjectAttr.ownDictForStores
  repeat (first
    | with_reducible refine wpAny_loadPart_at at_ ?_
    | with_reducible refine cls.at ?_
    | with_reducible refine store_in_new ?_ ?_
    | wp_step)
  · refine ⟨⟨.type "dict", none, .dict #[] 0, #[]⟩, #[], 0, ?_, rfl, (fun e z => absurd z (by simp)), fun _ => rfl⟩
    rw [Heap.get?_update_ne _ _ _ _ (Ne.symm old)]
    exact Heap.get?_push_size _ rfl
  · intro h' t' ns same
    have was : ∀ {c : Addr} {o : Obj}, hp.get? c = some o → (hp.push ⟨.type "dict", none, .dict #[] 0, #[]⟩).get? c = some o := fun e => Heap.get?_push_of_some _ e
    have off : ∀ {c : Addr} {o : Obj}, hp.get? c = some o → c ≠ hp.objs.size := fun e => Nat.ne_of_lt (Heap.lt_size e)
    refine q h' t' _ ⟨fun c o n e => ?_, Nat.le_refl _, Ne.symm old, ?_, ns⟩
    · rw [same.2 c (off e), Heap.get?_update_ne _ _ _ _ n]
      exact was e
    · rw [same.2 x old]
      exact Heap.get?_update_self _ (was at_) rfl
/-- a further one: the dict stands -/
theorem Keeps.more {dx : Addr} {m0 : Str → Option Value} {nl : List Str} (SF : StoreFacts B bB "object.__setattr__" "object") (k : Keeps K C cd bB name) (X : K.In s.heap) (at_ : s.heap.get? x = some (exOb C (some dx) fv))
    (ns : s.heap.Ns1 dx m0) (few : Within m0 nl ∧ nl.length ≤ 1000)
    (q : ∀ h' t', (∀ b o, b ≠ dx → s.heap.get? b = some o → h'.get? b = some o) ∧ h'.Ns1 dx (fun y => if y = name then some v else m0 y) → R (.ok (.ret .none)) { s with heap := h', toks := t' }) :
    codeAny (model prog w) A (setsBy x name tk v) R s := by
  have there := (ns.count few.1).choose_spec.choose_spec.choose_spec.1
  refine osa_openX SF X (od := some _) ⟨at_, rfl, rfl, there⟩ k.over k.taker fun b => ?_
  have cls := looks_clsIn (M := model prog w) X k.cls
  have hd := k.dict
  clear k
  obtain ⟨hp, g, d, t, os⟩ := s
  cases cd
  cases hd
  show wpAny _ _ (Builtin.ObjectAttr.storeInOwnDict (.ref x) (.ref C) (.str name tk) name v b) _ _ _
  unfold exOb at at_
  unfold Builtin.ObjectAttr.storeInOwnDict Builtin.ObjectAttr.ownDictForStores
  repeat (first
    | with_reducible refine wpAny_loadPart_at at_ ?_
    | with_reducible refine cls.at ?_
    | with_reducible refine PySem.OEX.store_in_old ns few.1 few.2 ?_
    | wp_step)
  exact fun h' t' z same => q h' t' ⟨fun c o n e => by rw [same.2 c n]; exact e, z⟩
end
end Pk

/-! Own exceptions over own ones, in the layer: made, their fields set, a base's __init__ run. -/
namespace Pk
open PySem PySem.Spec PyProof.Rows L2
/-- its setting is the plain one, it is an exception, a class, and no instance's call of its own -/
def Says (K : PySem.W.Frag) (C : Addr) : Prop :=
  (PySem.W.findIn K (.ref C) "__setattr__" = some (some (.builtin "object.__setattr__")) ∧ PySem.W.keepIn K (.ref C) = true) ∧ PySem.W.subIn K (.ref C) (.type "BaseException") = some true ∧ PySem.W.typeIn K (.ref C) = some (.type "type")
/-- the written part knows the class at C as an exception of ours -/
structure Exo (K : PySem.W.Frag) (C : Addr) : Prop where
  born : ∃ (r : Row) (B maker ini : String) (bB : List Value), K.lookup C = some (r.obj C maker) ∧ ExcBaseFacts B maker ini bB ∧ MadeAs r C B
  over : ∃ (B : String) (bB : List Value), StoreFacts B bB "object.__setattr__" "object" ∧ PySem.W.excOver K C bB = true
  says : Says K C
theorem own_tail {T : List Value} (hT : PySem.W.excTail T T = true) : ∀ {bm : List Value}, Own T bm → PySem.W.excTail T bm = true := by
  rintro _ ⟨rs, rfl⟩
  induction rs with
  | nil => exact hT
  | cons r rs ih => exact ih
theorem Row.cls {K : PySem.W.Frag} {C : Addr} {r : Row} {maker : String} (l : K.lookup C = some (r.obj C maker)) : PySem.W.clsIn K C = some ⟨r.nm, r.bs, .ref C :: r.bm, r.N, r.q, true, r.sn, r.sub, r.ab, r.col, false⟩ := by
  unfold PySem.W.clsIn
  rw [l]
  rfl
theorem Row.exo {K : PySem.W.Frag} {C : Addr} {r : Row} {B B' maker ini : String} {bB T : List Value} (l : K.lookup C = some (r.obj C maker)) (F : ExcBaseFacts B maker ini bB) (SF : StoreFacts B' T "object.__setattr__" "object") (o : Own T r.bm)
    (t : (T.contains (.type B) && !T.contains (.type "AttributeError") && !T.contains (.type "NameError")) = true) (e : PySem.W.excTail T T = true)
    (says : Says K C) : Exo K C := by
  refine ⟨⟨r, B, maker, ini, bB, l, F, madeAs o t⟩, ⟨B', T, SF, ?_⟩, says⟩
  unfold PySem.W.excOver
  rw [Row.cls l]
  simp [own_tail e o]
theorem exo_ve {K : PySem.W.Frag} {C : Addr} {r : Row} (l : K.lookup C = some (r.obj C "ValueError.__new__")) (o : Own veT r.bm) (h : Says K C) : Exo K C :=
  Row.exo l PySem.F.excBase_ValueError PySem.F.store_ValueError o (by decide +kernel) (by decide +kernel) h
theorem exo_ke {K : PySem.W.Frag} {C : Addr} {r : Row} (l : K.lookup C = some (r.obj C "LookupError.__new__")) (o : Own keT r.bm) (h : Says K C) : Exo K C :=
  Row.exo l PySem.F.excBase_LookupError store_KeyError o (by decide +kernel) (by decide +kernel) h
/-- self.f = y at an exception of the class at C that is being made at a: its first field, or a further one; N holds behind it -/
inductive Puts (H : Hp) (a C : Addr) (f : Str) (y : V) (N : Hp → Prop) : Prop where
  | first (bare : H a = some (exo a C none)) (n : ∀ d, H d = none → d ≠ a → N (upd (upd H d (exd d [(f, y)])) a (exo a C (some d))))
  | more {d : Addr} {fs : List (Str × V)} (has : H a = some (exo a C (some d))) (dict : H d = some (exd d fs)) (few : fs.length ≤ 900) (n : N (upd H d (exd d ((f, y) :: fs))))
section
variable {X : Cx} {pins : List (Addr × Obj)} {σ : St} {H : Hp} {s : Shared} {a C : Addr} {f : Str} {y : V} {u : Value} {N : Hp → Prop} {Q : Unit → Shared → Prop} {E : Value → Shared → Prop} {A : Around}
theorem Exo.keeps {K : PySem.W.Frag} (T : Exo K C) (no : PySem.W.findIn K (.ref C) f = some none) : ∃ B cd bB, StoreFacts B bB "object.__setattr__" "object" ∧ Keeps K C cd bB f := by
  obtain ⟨r, _, mk, _, _, l, _⟩ := T.born
  obtain ⟨B, bB, SF, ov⟩ := T.over
  exact ⟨B, _, bB, SF, Row.cls l, rfl, ov, no⟩
theorem Puts.set (T : Exo X.K C) (I : Inv X pins σ H s) (no : PySem.W.findIn X.K (.ref C) f = some none) (ry : RelV y u) (p : Puts H a C f y N) (q : ∀ H' s', Inv X pins σ H' s' → N H' → Q () s') : wpAny (model X.prog X.w) A (setAttr (.ref a) f u) Q E s := by
  obtain ⟨B, cd, bB, SF, k⟩ := T.keeps no
  cases p with
  | @more d fs has dict few n =>
    obtain ⟨t, here⟩ := exo_at I.hok has
    obtain ⟨m, ns, rel⟩ := exd_at I.hok dict
    have wi := within_of rel
    have len : (fs.map (·.1)).length ≤ 1000 := by
      rw [List.length_map]
      omega
    have there := (ns.count wi).choose_spec.choose_spec.choose_spec.1
    refine PySem.W.set_plain I.kIn (od := some _) ⟨here, rfl, rfl, there⟩ T.says.1.1 (k.more SF I.kIn here ns ⟨wi, len⟩ ?_)
    rintro h' t' ⟨up, ns'⟩
    have J := I.write (t' := t') (x := d) (e := d) (o := exd d ((f, y) :: fs)) (by rw [dict]; exact True.intro) (.inl rfl) up (ns'.imp fun _ z => z.choose_spec.choose_spec.1) (exd_ok ns' (relO_put ry rel))
    exact q _ _ J n
  | first bare n =>
    obtain ⟨t, here⟩ := exo_at I.hok bare
    refine PySem.W.set_plain I.kIn (od := none) ⟨here, rfl, rfl, trivial⟩ T.says.1.1 (k.first SF I.kIn here ?_)
    rintro h' t' d ⟨up, new, ne, at_, ns⟩
    have dn : H d = none := I.hok.fresh new
    -- what is tracked elsewhere is tracked still; what is not, is not
    have still : ∀ {b : Addr} {o : HO}, H b = some o → b ≠ a → upd (upd H d (exd d [(f, y)])) a (exo a C (some d)) b = some o := fun {b o} e z => by
      rw [upd_ne z, upd_ne (fun w => by rw [w, dn] at e; cases e)]
      exact e
    have off : ∀ {b : Addr}, H b = none → b ≠ a := fun {b} e z => by
      rw [z, bare] at e
      cases e
    have alike : ∀ {b : Addr} {o : HO}, H b = some o → o ≠ exo a C none → b ≠ a := fun {b o} e z w => by
      rw [w, bare] at e
      exact z (Option.some.inj e).symm
    have J := I.un (t' := t') (h' := h') (H' := upd (upd H d (exd d [(f, y)])) a (exo a C (some d)))
      { keep := fun b o e z _ _ => up b o (off z) e
        slot := fun b o e z _ _ => ⟨o.slots, up b o (off z) e⟩
        free := fun b o e z _ => by
          rw [upd_ne (off z), upd_ne (Nat.ne_of_lt (Nat.lt_of_lt_of_le (Heap.lt_size e) new))]
          exact z
        there := fun b o e _ => by
          by_cases z : b = a
          · exact ⟨_, z ▸ at_⟩
          · exact ⟨o, up b o z e⟩
        tups := fun b xs e => still e (alike e (Ne.symm exo_tup))
        frzs := fun b o v e => still e (alike e (Ne.symm exo_frz))
        tbls := fun b ps e => ⟨#[], by rw [still e (alike e (Ne.symm exo_tbl)), Array.append_empty]⟩ } ?_
    · exact q _ _ J (n d dn ne)
    · intro b o e
      by_cases za : b = a
      · subst za
        rw [upd_same] at e
        obtain rfl := Option.some.inj e
        exact exo_ok at_
      rw [upd_ne za] at e
      by_cases zd : b = d
      · subst zd
        rw [upd_same] at e
        obtain rfl := Option.some.inj e
        exact exd_ok ns (relO_put (fs := []) ry fun _ => True.intro)
      rw [upd_ne zd] at e
      refine (I.hok b o e).stay (fun c v z w => up c v ?_ w) (fun c z => still z (alike z (Ne.symm exo_own))) fun c xs z => still z (alike z (Ne.symm exo_tup))
      rcases z with rfl | z
      · exact za
      · exact alike z (Ne.symm exo_own)
end
/-- self.f = e, self an exception that is being made -/
def tEst (K : PySem.W.Frag) (f : Str) (to te : TE) : TS := fun D σ H => te σ H fun y H1 => to σ H1 fun x H2 => ∃ a C : Addr, (x = .ref a ∧ Exo K C ∧ PySem.W.findIn K (.ref C) f = some none) ∧ Puts H2 a C f y (D.nx σ)
theorem ps_est {X : Cx} {o e : Expr} {to te : TE} {f : Str} {p' pos : Pos} (ho : PE X o to) (he : PE X e te) (hs : swapsWith e (some (.Attribute o f p')) pos.line X.env = pure false := by rfl) : PS X (.Assign [.Attribute o f p'] e pos) (tEst X.K f to te) where
  run pins s σ H D I h := by
    apply plainObj_wpAny_Assign_Attribute (hs := hs)
    refine thn (he.run pins s σ H _ I h) ?_
    rintro v s1 ⟨y, H1, I1, ry, h1⟩
    refine thn (ho.run pins s1 σ H1 _ I1 h1) ?_
    rintro u s2 ⟨_, H2, I2, rx, a, C, ⟨rfl, T, no⟩, p⟩
    cases rx
    exact p.set T I2 no ry fun H3 s3 J n => ⟨σ, H3, J, n⟩
/-- behind C's __init__: the exception at a, its dict, which was made meanwhile; Q holds where the exception itself is let go -/
inductive Left (H1 H2 : Hp) (a C : Addr) (Q : XK) : Prop where
  | mk {d : Addr} {fs : List (Str × V)} (one : H2 a = some (exo a C (some d))) (dict : H2 d = some (exd d fs)) (new : H1 d = none) (q : Q (.ref C) (some d) (upd (del H2 a) d (.xd fs)))
/-- C(vs) by an __init__ that keeps sp -/
def MkBy (C : Addr) (sp : Sp) (vs : List V) (H : Hp) (Q : XK) : Prop :=
  vs.length ≤ 1000 ∧ ∀ a, H a = none → sp (.ref a :: vs) (upd H a (exo a C none)) (fun v H2 => v = .non ∧ Left H H2 a C Q) E0
def tMkE (C : Addr) (sp : Sp) (ta : TA) : St → Hp → XK → Prop := fun σ H Q => ta σ H fun vs H1 => MkBy C sp vs H1 Q
/-- C's own __init__, at f -/
structure IniAt (X : Cx) (C f : Addr) (k : Nat) (fd : FuncData) (ps : List Str) (sp : Sp) : Prop where
  is : Exo X.K C
  at_ : PySem.W.findIn X.K (.ref C) "__init__" = some (some (.ref f)) ∧ PySem.W.typeIn X.K (.ref f) = some (.type "function")
  ok : FnOk X.prog X.w X.K X.mg X.base CX0 k f fd ps sp
  room : Room (k + 1) X.A
  binds : Binds X.K fd ps []
section
variable {X : Cx} {pins : List (Addr × Obj)} {σ : St} {H : Hp} {s : Shared} {C f : Addr} {k : Nat} {fd : FuncData} {ps : List Str} {sp : Sp} {us : List Value} {vs : List V} {Q : XK}
theorem IniAt.made (B : IniAt X C f k fd ps sp) (I : Inv X pins σ H s) (r : Vals vs us) (m : MkBy C sp vs H Q) : wpAny (model X.prog X.w) X.A (call (.ref C) us) (MkP X pins σ Q) X.xe s := by
  obtain ⟨row, Bn, maker, ini, bB, l, F, ma⟩ := B.is.born
  obtain ⟨n, all⟩ := m
  have next : s.heap.objs.size ≤ s.heap.objs.size + 1 := Nat.le_succ _
  have sp1 := all (s.heap.objs.size + 1) (I.hok.fresh next)
  have few : us.length ≤ sizeLine := by
    have e := Paired.length r
    rw [sizeLine_eq]
    omega
  have J : Inv X pins σ (upd H (s.heap.objs.size + 1) (exo (s.heap.objs.size + 1) C none)) (Born s C us) :=
    I.laid (h' := (Born s C us).heap) (t' := s.toks) (fun _ _ => born_keep) next (exo_ok born_it)
  have r' : Vals (V.ref (s.heap.objs.size + 1) :: vs) (Value.ref (s.heap.objs.size + 1) :: us) := .cons rfl r
  have args := B.binds (Born s C us) (Value.ref (s.heap.objs.size + 1) :: us) J.kIn (by
    rw [List.append_nil, ← r'.length]
    exact B.ok.len _ _ _ _ sp1)
  rw [List.append_nil] at args
  have start : Starts X.prog X.w s.heap C f := ⟨PySem.W.looks_findIn I.kIn B.at_.1, fun self => PySem.W.bind_fn I.kIn self B.at_.2⟩
  have run := B.ok.run _ X.stack (Born s C us) _ ⟨_, []⟩ _ _ _ E0 (B.room.make C us []) (J.env0.make C us []) args r' sp1
  refine wpAny_call (Row.made F ma (I.kIn _ _ l) start few (codeAny_mono run ?_))
  rintro (e | fl) s' z
  · exact z.elim
  cases fl with
  | next | brk | cont => exact z.elim
  | ret u =>
    obtain ⟨_, H2, os, bare, un, ok, rv, rfl, left⟩ := z
    cases left with
    | mk one dict new q => exact ⟨rv, mk_end (raises_own B.is.says.2.1 B.is.says.2.2) I next (fun _ _ => born_keep) un ok os bare one dict new q⟩
end
section
variable {X : Cx} {C f : Addr} {k : Nat} {fd : FuncData} {ps : List Str} {sp : Sp} {x m : Str} {e : Expr} {es : List Expr} {ta : TA} {p p1 p2 pos : Pos}
/-- the class by its name, called with no argument, with some -/
theorem IniAt.none (B : IniAt X C f k fd ps sp) (g : Gl X x) (gm : X.mg x = some (.ref C)) (nd : (x == ("__debug__" : Str)) = false := by decide) : PMk X (.Call (.Name x p) [] [] pos) (tMkE C sp tNil) := fun pins s σ H Q I h =>
  wpAny_Call_Name_kw (ld_glob I g gm (PySem.W.callWith_K0 I.kIn B.is.says.1.2 (B.made (us := []) I .nil h)) nd)
theorem IniAt.some (B : IniAt X C f k fd ps sp) (g : Gl X x) (gm : X.mg x = some (.ref C)) (ha : PA X (e :: es) ta) (nd : (x == ("__debug__" : Str)) = false := by decide)
    (se : starEach (e :: es) X.env = (false, eval e X.env) :: starEach es X.env := by rfl) (pl : (backTo pos (starEach es X.env)).any (·.1) = false := by rfl) : PMk X (.Call (.Name x p) (e :: es) [] pos) (tMkE C sp ta) := by
  intro pins s σ H Q I h
  have args := thn (ha.run pos pins s σ H _ I h) (Q' := fun us s1 => X.K.In s1.heap ∧ wpAny (model X.prog X.w) X.A (call (.ref C) us) (MkP X pins σ Q) X.xe s1) ?_
  · exact wpAny_Call_Name_kw (ld_glob I g gm (PySem.W.callWith_K (h₀ := X.base) I.ok.mod.kin B.is.says.1.2 args se pl) nd)
  · rintro us s1 ⟨vs, H1, I1, r, m⟩
    exact ⟨I1.kIn, B.made I1 r m⟩
/-- the class at C gives the def at f by the name m -/
structure CRd (K : PySem.W.Frag) (C : Addr) (m : Str) (f : Addr) : Prop where
  rd : PySem.W.readsIn K C (.type "type") = true
  fc : PySem.W.findCls K (.ref C) (.type "type") m = some (.val (.ref f))
  sp : PySem.W.specialIn K (.ref C) "__getattribute__" = some (some (.builtin "type.__getattribute__"))
  plain : PySem.W.keepIn K (.ref f) = true
/-- C.m(e, ..), m a def of C -/
theorem pe_cinit {E : XK} {pl : Sem Bool} (c : CRd X.K C m f) (F : FnOk X.prog X.w X.K X.mg X.base CX0 k f fd ps sp) (hr : Room k X.A) (hb : Binds X.K fd ps []) (hx : Passes CX0 X E) (g : Gl X x) (gm : X.mg x = some (.ref C)) (ha : PA X (e :: es) ta)
    (nd : (x == ("__debug__" : Str)) = false := by decide) (se : starEach (e :: es) X.env = (false, eval e X.env) :: starEach es X.env := by rfl) (np : (backTo pos (starEach es X.env)).any (·.1) = false := by rfl)
    (form : eval (.Call (.Attribute (.Name x p1) m p2) (e :: es) [] pos) X.env =
      (eval (.Name x p1) X.env >>= fun o => standAt p2.atName >>= fun _ => holding [o] (getMethod o m pl) >>= fun q => callWith pos q.1 q.2 (backTo pos (starEach (e :: es) X.env)) (backToKw pos (keywordEach [] X.env))) := by rfl) :
    PE X (.Call (.Attribute (.Name x p1) m p2) (e :: es) [] pos) (tCall sp [] E ta) where
  run pins s σ H Q I h := by
    refine PySem.W.methodCall_KW (pl := pl) (ld_glob I g gm ?_ nd) form
    apply PySem.W.method_cls I.kIn c.sp
    apply PySem.W.cls_value I.kIn c.rd c.fc rfl
    apply PySem.W.callWith_K (first := []) (h₀ := X.base) I.ok.mod.kin c.plain _ se np
    refine thn (ha.run pos pins _ σ H _ (I.tok _) h) ?_
    rintro us s1 ⟨vs, H1, I1, r, q⟩
    exact ⟨I1.kIn, run_fn F hr hb .nil hx I1 r q⟩
end
end Pk

/-! A zip with strict=True over two tuples of one length. Its five objects are laid in a row from the place N on:
N and N+1 the walkers, N+2 the pair of them, N+3 its own pair, N+4 the zip. -/
namespace Pk
open PySem PyProof.Rows
/-- what stands outside a row of places keeps -/
def Aside (N k : Nat) (h h' : Heap) : Prop := ∀ (c : Nat) (o : Obj), (c < N ∨ N + k < c) → h.get? c = some o → h'.get? c = some o
theorem off {x y : Nat} (h : x < y ∨ y < x) : x ≠ y := by omega
theorem Aside.refl {N k : Nat} {h : Heap} : Aside N k h h := fun _ _ _ e => e
theorem Aside.but {N k i : Nat} {h g g' : Heap} (x : Aside N k h g) (e : Heap.ExtBut (N + i) g g') (hi : i ≤ k) : Aside N k h g' := fun c o q r => e c o (off (by omega)) (x c o q r)
theorem Aside.ext {N k : Nat} {h g g' : Heap} (x : Aside N k h g) (e : ∀ c o, g.get? c = some o → g'.get? c = some o) : Aside N k h g' := fun c o q r => e c o (x c o q r)
/-- the zip's loan: none yet, or the place of the pair that it handed out -/
def Lent (r : Value) : Prop := r = .none ∨ ∃ c : Nat, r = rawInt c
structure Zp (N a b : Nat) (xs ys : Array Value) (r f u v : Value) (m n : Nat) (h : Heap) : Prop where
  la : a < N
  lb : b < N
  ta : h.IsTuple a xs
  tb : h.IsTuple b ys
  wa : h.IsTupleIter N a m
  wb : h.IsTupleIter (N + 1) b n
  two : IsPair h (N + 2) (.ref N) (.ref (N + 1))
  own : IsPair h (N + 3) u v
  zip : h.get? (N + 4) = some { cls := .type "zip", dict := none, data := .fields #[r, f, .bool true, .ref (N + 2), .ref (N + 3)], slots := #[] }
namespace Zp
variable {N a b : Nat} {xs ys : Array Value} {r f u v : Value} {m n : Nat} {h h' : Heap}
theorem up (Z : Zp N a b xs ys r f u v m n h) (e : ∀ (c : Nat) (o : Obj), c ≤ N + 4 → h.get? c = some o → h'.get? c = some o) : Zp N a b xs ys r f u v m n h' :=
  have la := Z.la
  have lb := Z.lb
  ⟨la, lb, Z.ta.at fun o => e a o (by omega), Z.tb.at fun o => e b o (by omega), Z.wa.at fun o => e N o (by omega), Z.wb.at fun o => e (N + 1) o (by omega), e _ _ (by omega) Z.two, e _ _ (by omega) Z.own, e _ _ (by omega) Z.zip⟩
theorem drawnA {k : Nat} (Z : Zp N a b xs ys r f u v m n h) (e : Heap.ExtBut N h h') (w : h'.IsTupleIter N a k) : Zp N a b xs ys r f u v k n h' :=
  have la := Z.la
  have lb := Z.lb
  ⟨la, lb, Z.ta.at fun o => e a o (off (by omega)), Z.tb.at fun o => e b o (off (by omega)), w, Z.wb.at fun o => e (N + 1) o (off (by omega)), e _ _ (off (by omega)) Z.two, e _ _ (off (by omega)) Z.own, e _ _ (off (by omega)) Z.zip⟩
theorem drawnB {k : Nat} (Z : Zp N a b xs ys r f u v m n h) (e : Heap.ExtBut (N + 1) h h') (w : h'.IsTupleIter (N + 1) b k) : Zp N a b xs ys r f u v m k h' :=
  have la := Z.la
  have lb := Z.lb
  ⟨la, lb, Z.ta.at fun o => e a o (off (by omega)), Z.tb.at fun o => e b o (off (by omega)), Z.wa.at fun o => e N o (off (by omega)), w, e _ _ (off (by omega)) Z.two, e _ _ (off (by omega)) Z.own, e _ _ (off (by omega)) Z.zip⟩
theorem filled {u' v' : Value} (Z : Zp N a b xs ys r f u v m n h) (e : Heap.ExtBut (N + 3) h h') (w : IsPair h' (N + 3) u' v') : Zp N a b xs ys r f u' v' m n h' :=
  have la := Z.la
  have lb := Z.lb
  ⟨la, lb, Z.ta.at fun o => e a o (off (by omega)), Z.tb.at fun o => e b o (off (by omega)), Z.wa.at fun o => e N o (off (by omega)), Z.wb.at fun o => e (N + 1) o (off (by omega)), e _ _ (off (by omega)) Z.two, w, e _ _ (off (by omega)) Z.zip⟩
theorem marked {r' f' : Value} (Z : Zp N a b xs ys r f u v m n h) (e : Heap.ExtBut (N + 4) h h')
    (w : h'.get? (N + 4) = some { cls := .type "zip", dict := none, data := .fields #[r', f', .bool true, .ref (N + 2), .ref (N + 3)], slots := #[] }) : Zp N a b xs ys r' f' u v m n h' :=
  have la := Z.la
  have lb := Z.lb
  ⟨la, lb, Z.ta.at fun o => e a o (off (by omega)), Z.tb.at fun o => e b o (off (by omega)), Z.wa.at fun o => e N o (off (by omega)), Z.wb.at fun o => e (N + 1) o (off (by omega)), e _ _ (off (by omega)) Z.two, e _ _ (off (by omega)) Z.own, w⟩
end Zp
section
variable {prog : Program} {w : World} {A : Around} {E : Value → Shared → Prop} {s : Shared}
/-- a tuple's walker gives what stands at its place, or nothing -/
theorem drawT {it t : Addr} {i : Nat} {xs : Array Value} {Q : Option Value → Shared → Prop} (hh : A.handled = none) (hi : s.heap.IsTupleIter it t i) (ht : s.heap.IsTuple t xs)
    (h : ∀ h', Heap.ExtBut it s.heap h' → (xs[i]?.isSome = true → h'.IsTupleIter it t (i + 1) ∧ h'.objs.size = s.heap.objs.size) → Q xs[i]? { s with heap := h' }) :
    wpAny (model prog w) A (Builtin.SmallTypes.nextOrEnd (.ref it)) Q E s := by
  apply wpAny_bind
  apply wpAny_attempt
  cases hx : xs[i]? with
  | some x =>
    rw [hx] at h
    exact wpAny_nextOf_tuple_item hi ht hx fun g wg sb => wpAny_pure (h g sb.extBut fun _ => ⟨wg, sb.1⟩)
  | none =>
    rw [hx] at h
    refine wpAny_nextOf_tuple_end hh hi ht hx fun g e eb ⟨o, go, co⟩ => wpAny_bind (wpAny_isInstance (b := true) ⟨o, go, co⟩ isSubtype_stop (wpAny_pure (h g eb fun z => ?_)))
    cases z
/-- the end's exception -/
theorem stops {α : Type} {Q : α → Shared → Prop} (hh : A.handled = none) (h : ∀ h' e, (∀ c o, s.heap.get? c = some o → h'.get? c = some o) → (∃ o, h'.get? e = some o ∧ o.cls = .type "StopIteration") → E (.ref e) { s with heap := h' }) :
    wpAny (model prog w) A (Builtin.SmallTypes.stopIteration : Sem α) Q E s := by
  unfold Builtin.SmallTypes.stopIteration newExc
  refine wpAny_bind (wpAny_bind (wpAny_newTuple (items := []) ?_))
  refine wpAny_bind (m := firstArgMember _ _) (wpAny_of_eq (a := Value.none) rfl ?_)
  refine wpAny_newObj_type (wpAny_raiseNew_none hh (h _ _ (fun c o e => ?_) ⟨_, Heap.get?_push_size _ rfl, rfl⟩)) (by size_fits)
  iterate 2 apply Heap.get?_push_of_some
  exact e
variable {N a b : Nat} {xs ys : Array Value} {r f u v : Value} {m n : Nat}
/-- the zip asks whether its own pair is free: yes or no, at most a mark of its own is set -/
theorem Zp.asks {Q : Bool → Shared → Prop} (Z : Zp N a b xs ys r f u v m n s.heap) (hr : Lent r)
    (h : ∀ c f' h', Zp N a b xs ys r f' u v m n h' → Heap.SameBut (N + 4) s.heap h' → Q c { s with heap := h' }) : wpAny (model prog w) A (Builtin.SmallTypes.ownedTupleIsFree (.ref (N + 4))) Q E s := by
  have free : ∀ c, Q c s := fun c => h c f s.heap Z (.refl _ _)
  refine wpAny_bind (wpAny_field Z.zip rfl (x := r) rfl ?_)
  rcases hr with rfl | ⟨c, rfl⟩
  · exact wpAny_pure (free true)
  · have look : ∀ {R : Option Obj → Shared → Prop} {k : Addr}, R (s.heap.get? k) s → wpAny (model prog w) A (loadIfAlive k) R E s := fun z _ _ _ => z
    refine wpAny_bind (look ?_)
    split
    · exact wpAny_pure (free true)
    · refine wpAny_bind (wpAny_field Z.zip rfl (x := f) rfl ?_)
      split
      · exact wpAny_bind (wpAny_setField_rec Z.zip (by simp) fun g zg sb => wpAny_pure (h false _ g (Z.marked sb.extBut zg) sb))
      · exact wpAny_pure (free false)
/-- one step of the zip: the two next items in a new pair, or the end of both -/
theorem Zp.step {Q : Value → Shared → Prop} (hh : A.handled = none) (Z : Zp N a b xs ys r f u v m m s.heap) (hr : Lent r) (hl : xs.size = ys.size)
    (go : ∀ x y r' f' u' v' h', xs[m]? = some x → ys[m]? = some y → Lent r' → Zp N a b xs ys r' f' u' v' (m + 1) (m + 1) h' → IsPair h' s.heap.objs.size x y →
      h'.objs.size = s.heap.objs.size + 1 → Aside N 4 s.heap h' → Q (.ref s.heap.objs.size) { s with heap := h' })
    (stop : ∀ h' e, xs.size ≤ m → Aside N 4 s.heap h' → (∃ o, h'.get? e = some o ∧ o.cls = .type "StopIteration") → E (.ref e) { s with heap := h' }) :
    wpAny (model prog w) A (Builtin.«zip.__next__» ⟨[.ref (N + 4)], []⟩) (fun fin s' => ∃ v, fin = .done (.ret v) ∧ Q v s') E s := by
  have lz : N + 4 < s.heap.objs.size := Heap.lt_size Z.zip
  change wpAny _ _ (field (.ref (N + 4)) 2 >>= _) _ _ _
  refine wpAny_bind (wpAny_field Z.zip rfl (x := .bool true) rfl ?_)
  change wpAny _ _ (field (.ref (N + 4)) 3 >>= _) _ _ _
  refine wpAny_bind (wpAny_field Z.zip rfl (x := .ref (N + 2)) rfl (wpAny_bind (wpAny_seqItems Z.two rfl ?_)))
  change wpAny _ _ (Builtin.SmallTypes.ownedTupleIsFree (.ref (N + 4)) >>= _) _ _ _
  refine wpAny_bind (Z.asks hr fun c f1 g0 Z0 b0 => ?_)
  have z0 : g0.objs.size = s.heap.objs.size := b0.1
  have a0 : Aside N 4 s.heap g0 := Aside.refl.but b0.extBut (Nat.le_refl 4)
  have push : ∀ {g : Heap} {o : Obj} (c : Addr) (q : Obj), g.get? c = some q → (g.push o).get? c = some q := fun _ _ e => Heap.get?_push_of_some _ e
  by_cases lt : m < xs.size
  · have hx : xs[m]? = some xs[m] := by simp [lt]
    have hy : ys[m]? = some (ys[m]'(hl ▸ lt)) := by simp [hl ▸ lt]
    generalize xs[m] = x at hx
    generalize ys[m]'(hl ▸ lt) = y at hy
    have sx : xs[m]?.isSome = true := by rw [hx]; rfl
    have sy : ys[m]?.isSome = true := by rw [hy]; rfl
    cases c
    · rw [if_neg Bool.false_ne_true]
      refine wpAny_bind ?_
      simp only [List.forIn_toArray, List.forIn_nil, List.forIn_cons]
      refine wpAny_bind (wpAny_bind (wpAny_holding (drawT (s := { s with heap := g0 }) hh Z0.wa Z0.ta fun g1 e1 p1 => ?_)))
      have Z1 := Z0.drawnA e1 (p1 sx).1
      rw [hx]
      refine wpAny_pure (wpAny_bind (wpAny_bind (wpAny_holding (drawT (s := { s with heap := g1 }) hh Z1.wb Z1.tb fun g2 e2 p2 => ?_))))
      have Z2 := Z1.drawnB e2 (p2 sy).1
      have z2 : g2.objs.size = s.heap.objs.size := (p2 sy).2.trans ((p1 sx).2.trans z0)
      rw [hy]
      refine wpAny_pure (wpAny_pure (wpAny_bind (wpAny_newTuple (items := [x, y]) (wpAny_pure ⟨_, rfl, ?_⟩))))
      rw [← z2] at go
      refine go x y r f1 u v _ hx hy hr (Z2.up fun c o _ => push c o) (Heap.get?_push_size _ rfl) (Heap.size_push ..) ?_
      exact ((a0.but (i := 0) e1 (by omega)).but (i := 1) e2 (by omega)).ext push
    · rw [if_pos rfl]
      refine wpAny_bind (wpAny_rule (wpAny_bind (wpAny_field Z0.zip rfl (x := .ref (N + 3)) rfl ?_)))
      refine wpAny_bind (wpAny_setField_rec Z0.zip (by simp) fun g1 y1 b1 => ?_)
      have Z1 : Zp N a b xs ys .ellipsis f1 u v m m g1 := Z0.marked b1.extBut y1
      refine wpAny_bind ?_
      simp only [List.zipIdx_nil, List.zipIdx_cons, List.forIn_nil, List.forIn_cons]
      refine wpAny_bind (wpAny_bind (wpAny_onRaise (drawT (s := { s with heap := g1 }) hh Z1.wa Z1.ta fun g2 e2 p2 => ?_)))
      have Z2 := Z1.drawnA e2 (p2 sx).1
      rw [hx]
      refine wpAny_bind (wpAny_seqItems Z2.own rfl (wpAny_bind (wpAny_updateSeq_pair Z2.own fun g3 y3 b3 => wpAny_bind (wpAny_letGo (wpAny_pure ?_)))))
      have Z3 : Zp N a b xs ys .ellipsis f1 x v (m + 1) m g3 := Z2.filled b3.extBut y3
      refine wpAny_bind (wpAny_bind (wpAny_onRaise (drawT (s := { s with heap := g3 }) hh Z3.wb Z3.tb fun g4 e4 p4 => ?_)))
      have Z4 := Z3.drawnB e4 (p4 sy).1
      rw [hy]
      refine wpAny_bind (wpAny_seqItems Z4.own rfl (wpAny_bind (wpAny_updateSeq_pair Z4.own fun g5 y5 b5 => wpAny_bind (wpAny_letGo (wpAny_pure (wpAny_pure ?_))))))
      have Z5 : Zp N a b xs ys .ellipsis f1 x y (m + 1) (m + 1) g5 := Z4.filled b5.extBut y5
      have z5 : g5.objs.size = s.heap.objs.size := by rw [b5.1, (p4 sy).2, b3.1, (p2 sx).2, b1.1, z0]
      refine wpAny_bind (wpAny_seqItems Z5.own rfl (wpAny_bind (wpAny_newTuple ?_)))
      have Z6 : Zp N a b xs ys .ellipsis f1 x y (m + 1) (m + 1) (g5.push { cls := .type "tuple", data := .seq #[x, y] }) := Z5.up fun c o _ => push c o
      change wpAny _ _ (Builtin.SmallTypes.ownedTupleHandOut (.ref (N + 4)) (.ref g5.objs.size) >>= _) _ _ _
      refine wpAny_bind (wpAny_bind (wpAny_setField_rec Z6.zip (by simp) fun g7 y7 b7 => ?_))
      have Z7 : Zp N a b xs ys (rawInt g5.objs.size) f1 x y (m + 1) (m + 1) g7 := Z6.marked b7.extBut y7
      refine wpAny_setField_rec Z7.zip (by simp) fun g8 y8 b8 => wpAny_pure ⟨_, rfl, ?_⟩
      have Z8 : Zp N a b xs ys (rawInt g5.objs.size) (.bool false) x y (m + 1) (m + 1) g8 := Z7.marked b8.extBut y8
      have far : g5.objs.size ≠ N + 4 := off (by omega)
      rw [← z5] at go
      refine go x y _ _ x y g8 hx hy (.inr ⟨_, rfl⟩) Z8 (b8.extBut _ _ far (b7.extBut _ _ far (Heap.get?_push_size _ rfl))) ?_ ?_
      · rw [b8.1, b7.1]
        exact Heap.size_push ..
      · have a5 : Aside N 4 s.heap g5 := ((((a0.but b1.extBut (by omega)).but (i := 0) e2 (by omega)).but b3.extBut (by omega)).but e4 (by omega)).but b5.extBut (by omega)
        exact ((a5.ext push).but b7.extBut (by omega)).but b8.extBut (by omega)
  · have ge : xs.size ≤ m := Nat.le_of_not_lt lt
    have hx : xs[m]? = none := by simp [ge]
    have hy : ys[m]? = none := by simp [← hl, ge]
    have lb := Z0.lb
    -- the second walker is at its end, too
    have both : ∀ (g : Heap), g.IsTupleIter (N + 1) b m → g.IsTuple b ys → Aside N 4 s.heap g → ∀ {β : Type} {Q' : β → Shared → Prop} {k : Option Value → Sem β},
        (∀ g', Heap.ExtBut (N + 1) g g' → wpAny (model prog w) A (k none) Q' E { s with heap := g' }) → wpAny (model prog w) A (Builtin.SmallTypes.nextOrEnd (.ref (N + 1)) >>= k) Q' E { s with heap := g } :=
      fun g ib tb _ _ _ _ rest => wpAny_bind (drawT (s := { s with heap := g }) hh ib tb fun g' e' _ => by
        rw [hy]
        exact rest g' e')
    have last : ∀ (g : Heap), Aside N 4 s.heap g → ∀ {β : Type} {Q' : β → Shared → Prop}, wpAny (model prog w) A (Builtin.SmallTypes.stopIteration : Sem β) Q' E { s with heap := g } :=
      fun g ag _ _ => stops hh fun g' e x o => stop g' e ge (ag.ext x) o
    cases c
    · rw [if_neg Bool.false_ne_true]
      refine wpAny_bind ?_
      simp only [List.forIn_toArray, List.forIn_nil, List.forIn_cons]
      refine wpAny_bind (wpAny_bind (wpAny_holding (drawT (s := { s with heap := g0 }) hh Z0.wa Z0.ta fun g1 e1 _ => ?_)))
      have a1 : Aside N 4 s.heap g1 := a0.but (i := 0) e1 (by omega)
      rw [hx]
      refine wpAny_bind ?_
      change wpAny _ _ (forIn _ _ _ >>= _) _ _ _
      refine wpAny_bind ?_
      simp only [List.drop_zero, List.drop_succ_cons, List.zipIdx_nil, List.zipIdx_cons, List.forIn_nil, List.forIn_cons]
      refine wpAny_bind (both g1 (Z0.wb.at fun o => e1 _ o (off (by omega))) (Z0.tb.at fun o => e1 _ o (off (by omega))) a1 fun g2 e2 => ?_)
      exact wpAny_pure (wpAny_pure (wpAny_bind (wpAny_rule (last g2 (a1.but e2 (by omega))))))
    · rw [if_pos rfl]
      refine wpAny_bind (wpAny_rule (wpAny_bind (wpAny_field Z0.zip rfl (x := .ref (N + 3)) rfl ?_)))
      refine wpAny_bind (wpAny_setField_rec Z0.zip (by simp) fun g1 y1 b1 => ?_)
      have Z1 : Zp N a b xs ys .ellipsis f1 u v m m g1 := Z0.marked b1.extBut y1
      have a1 : Aside N 4 s.heap g1 := a0.but b1.extBut (by omega)
      refine wpAny_bind ?_
      simp only [List.zipIdx_nil, List.zipIdx_cons, List.forIn_nil, List.forIn_cons]
      refine wpAny_bind (wpAny_bind (wpAny_onRaise (drawT (s := { s with heap := g1 }) hh Z1.wa Z1.ta fun g2 e2 _ => ?_)))
      have a2 : Aside N 4 s.heap g2 := a1.but (i := 0) e2 (by omega)
      rw [hx]
      refine wpAny_bind (wpAny_setField_rec (e2 _ _ (off (by omega)) Z1.zip) (by simp) fun g3 _ b3 => wpAny_bind ?_)
      change wpAny _ _ (forIn _ _ _ >>= _) _ _ _
      refine wpAny_bind ?_
      simp only [List.drop_zero, List.drop_succ_cons, List.zipIdx_nil, List.zipIdx_cons, List.forIn_nil, List.forIn_cons]
      have k3 : ∀ {c : Nat} {o : Obj}, c ≠ N → c ≠ N + 4 → g1.get? c = some o → g3.get? c = some o := fun p q x => b3.extBut _ _ q (e2 _ _ p x)
      have a3 : Aside N 4 s.heap g3 := a2.but b3.extBut (by omega)
      refine wpAny_bind (both g3 (Z1.wb.at fun o => k3 (by omega) (by omega)) (Z1.tb.at fun o => k3 (by omega) (by omega)) a3 fun g4 e4 => ?_)
      exact wpAny_pure (wpAny_pure (wpAny_bind (wpAny_rule (last g4 (a3.but e4 (by omega))))))
end
end Pk

/-! The zip of RZip counted by an enumerate that stands at N+5, and the making of both. -/
namespace Pk
open PySem PyProof.Rows
structure Ez (N a b : Nat) (xs ys : Array Value) (i : Nat) (h : Heap) : Prop where
  zip : ∃ r f u v, Lent r ∧ Zp N a b xs ys r f u v i i h
  cnt : ∃ old, IsEnum h (N + 5) (N + 4) ((i : Nat) : Int) old
section
variable {prog : Program} {w : World} {A : Around} {E : Value → Shared → Prop} {s : Shared} {N a b : Nat} {xs ys : Array Value}
/-- one turn: by way of the heap g, in which the zip's pair is new, to h', in which the pair of the count and that pair is new, too -/
theorem Ez.turn {i : Nat} {Q : Option Value → Shared → Prop} (hh : A.handled = none) (Z : Ez N a b xs ys i s.heap) (hl : xs.size = ys.size)
    (go : ∀ x y tk g h', xs[i]? = some x → ys[i]? = some y → IsPair g s.heap.objs.size x y → g.objs.size = s.heap.objs.size + 1 → Aside N 4 s.heap g →
      IsEnumOut h' (N + 5) (N + 4) ((i : Int) + 1) (.ref s.heap.objs.size) g.objs.size → IsPair h' g.objs.size (.int i tk) (.ref s.heap.objs.size) → Heap.ExtBut (N + 5) g h' →
      (∃ r f u v, Lent r ∧ Zp N a b xs ys r f u v (i + 1) (i + 1) h') → Q (some (.ref g.objs.size)) { s with heap := h', toks := tk + 1 })
    (stop : ∀ h', xs.size ≤ i → Aside N 4 s.heap h' → Q none { s with heap := h' }) : wpAny (model prog w) A (pyNext (.ref (N + 5))) Q E s := by
  obtain ⟨⟨r, f, u, v, hr, Z⟩, old, en⟩ := Z
  obtain ⟨hp, gs, dr, tk, os⟩ := s
  have tE : (⟨hp, gs, dr, tk, os⟩ : Shared).TypeIs (.ref (N + 5)) "enumerate" := ⟨_, en, rfl⟩
  have tZ : (⟨hp, gs, dr, tk, os⟩ : Shared).TypeIs (.ref (N + 4)) "zip" := ⟨_, Z.zip, rfl⟩
  refine wpAny_bind (wpAny_attempt (wpAny_callSpecial?_slot (name := Str.ofString "__next__") tE F.slot_enumerate_next
    (wpAny_call_entry F.slot_enumerate_next tE F.entry_enumerate_next ?_ (F.args_enumerate_next_1 _))))
  change wpAny _ _ (field (.ref (N + 5)) 2 >>= _) _ _ _
  refine wpAny_bind (wpAny_field en rfl (x := .ref (N + 4)) rfl (wpAny_bind (wpAny_bind ?_)))
  refine wpAny_callSpecial?_slot (name := Str.ofString "__next__") tZ F.slot_zip_next (wpAny_call_entry F.slot_zip_next tZ F.entry_zip_next
    (Z.step hh hr hl (fun x y r' f' u' v' g hx hy hr' Z' pg zg ag => ?_) fun g e ge ag ⟨o, go, co⟩ => ?_) (F.args_zip_next_1 _))
  · have z0 : N + 5 < hp.objs.size := Heap.lt_size en
    have far : hp.objs.size + 1 ≠ N + 5 := off (by omega)
    have e1 : IsEnum g (N + 5) (N + 4) ((i : Nat) : Int) old := ag _ _ (.inr (by omega)) en
    refine wpAny_pure ?_
    change wpAny _ _ (field (.ref (N + 5)) 3 >>= _) _ _ ⟨g, gs, dr, tk, os⟩
    refine wpAny_bind (wpAny_field e1 rfl (x := rawInt ((i : Nat) : Int)) rfl ?_)
    change wpAny _ _ (field (.ref (N + 5)) 4 >>= _) _ _ ⟨g, gs, dr, tk, os⟩
    refine wpAny_bind (wpAny_field e1 rfl (x := .none) rfl ?_)
    change wpAny _ _ (mkInt ((i : Nat) : Int) >>= _) _ _ ⟨g, gs, dr, tk, os⟩
    refine wpAny_bind (wpAny_mkInt (wpAny_bind (wpAny_setField_rec e1 (by simp) fun g2 y2 b2 => ?_)))
    have e2 : IsEnum g2 (N + 5) (N + 4) (((i : Nat) : Int) + 1) old := y2
    refine wpAny_bind (wpAny_setField_rec e2 (by simp) fun g3 y3 b3 => wpAny_bind (wpAny_newTuple ?_))
    have e3 : IsEnum (g3.push { cls := .type "tuple", data := .seq #[.int i tk, .ref hp.objs.size] }) (N + 5) (N + 4) (((i : Nat) : Int) + 1) old := Heap.get?_push_of_some _ y3
    have z3 : g3.objs.size = g.objs.size := b3.1.trans b2.1
    have t3 : IsPair (g3.push { cls := .type "tuple", data := .seq #[.int i tk, .ref hp.objs.size] }) g.objs.size (.int i tk) (.ref hp.objs.size) := z3 ▸ Heap.get?_push_size _ rfl
    have k3 : Heap.ExtBut (N + 5) g (g3.push { cls := .type "tuple", data := .seq #[.int i tk, .ref hp.objs.size] }) := (b2.extBut.trans b3.extBut).push _
    change wpAny _ _ (Builtin.SmallTypes.ownedTupleIsFree (.ref (N + 5)) >>= _) _ _ ⟨g3.push { cls := .type "tuple", data := .seq #[.int i tk, .ref hp.objs.size] }, gs, dr, tk + 1, os⟩
    rw [z3]
    generalize g3.push { cls := .type "tuple", data := .seq #[.int i tk, .ref hp.objs.size] } = g4 at e3 t3 k3 ⊢
    refine wpAny_bind (wpAny_bind (wpAny_field e3 rfl (x := .none) rfl (wpAny_pure ?_)))
    refine wpAny_bind (wpAny_rule (wpAny_bind (wpAny_field e3 rfl (x := old) rfl (wpAny_bind (wpAny_setField_rec e3 (by simp) fun g5 y5 b5 => ?_)))))
    have e5 : IsEnum g5 (N + 5) (N + 4) (((i : Nat) : Int) + 1) (.ref hp.objs.size) := y5
    refine wpAny_bind (wpAny_bind (wpAny_setField_rec e5 (by simp) fun g6 y6 b6 => ?_))
    have e6 : IsEnumOut g6 (N + 5) (N + 4) (((i : Nat) : Int) + 1) (.ref hp.objs.size) g.objs.size := y6
    refine wpAny_setField_rec e6 (by simp) fun g7 y7 b7 => wpAny_bind (wpAny_letGo (wpAny_pure ⟨_, rfl, wpAny_pure ?_⟩))
    have k4 : Heap.ExtBut (N + 5) g4 g7 := (b5.extBut.trans b6.extBut).trans b7.extBut
    have k7 : Heap.ExtBut (N + 5) g g7 := k3.trans k4
    exact go x y tk g g7 hx hy pg zg ag y7 (k4 _ _ (by rw [zg]; exact far) t3) k7 ⟨r', f', u', v', hr', Z'.up fun c o q => k7 c o (off (by omega))⟩
  · exact wpAny_bind (wpAny_isInstance (b := true) ⟨o, go, co⟩ isSubtype_stop (wpAny_pure (stop g ge ag)))
/-- the enumerate lets its pair go -/
theorem Ez.gone {i : Nat} {g h : Heap} {x : Value} (Z : ∃ r f u v, Lent r ∧ Zp N a b xs ys r f u v (i + 1) (i + 1) g) (e : Heap.ExtBut (N + 5) g h) (c : IsEnum h (N + 5) (N + 4) ((i : Int) + 1) x) : Ez N a b xs ys (i + 1) h := by
  obtain ⟨r, f, u, v, hr, Z⟩ := Z
  exact ⟨⟨r, f, u, v, hr, Z.up fun c o q => e c o (off (by omega))⟩, x, by rw [show ((i + 1 : Nat) : Int) = (i : Int) + 1 by omega]; exact c⟩
/-- what the call of zip lays -/
theorem zip_laid {h : Heap} (ha : h.IsTuple a xs) (hb : h.IsTuple b ys) {h' : Heap}
    (e : h' = ((((h.push { cls := .type "tuple_iterator", data := .fields #[.ref a, .int 0 0] }).push { cls := .type "tuple_iterator", data := .fields #[.ref b, .int 0 0] }).push
      { cls := .type "tuple", data := .seq #[.ref h.objs.size, .ref (h.objs.size + 1)] }).push { cls := .type "tuple", data := .seq #[.none, .none] }).push
      { cls := .type "zip", data := .fields #[.none, .bool false, .bool true, .ref (h.objs.size + 2), .ref (h.objs.size + 3)] }) :
    Zp h.objs.size a b xs ys .none (.bool false) .none .none 0 0 h' ∧ h'.objs.size = h.objs.size + 5 ∧ ∀ c o, h.get? c = some o → h'.get? c = some o := by
  have old : ∀ c o, h.get? c = some o → h'.get? c = some o := fun c o q => by
    rw [e]
    iterate 5 refine Heap.get?_push_of_some _ ?_
    exact q
  have at_ : ∀ {g : Heap} {o : Obj} {k : Nat}, g.objs.size = k → o.isFreed = false → (g.push o).get? k = some o := fun q w => q ▸ Heap.get?_push_size _ w
  have walker : ∀ {t : Nat} {i : Nat}, h'.get? i = some { cls := .type "tuple_iterator", data := .fields #[.ref t, .int 0 0] } → h'.IsTupleIter i t 0 := fun q => ⟨_, q, rfl, rfl⟩
  have below : ∀ {t : Nat} {zs : Array Value}, h.IsTuple t zs → t < h.objs.size := fun ⟨_, q, _⟩ => Heap.lt_size q
  refine ⟨⟨below ha, below hb, ha.at fun o => old a o, hb.at fun o => old b o, walker ?_, walker ?_, ?_, ?_, ?_⟩, ?_, old⟩ <;> rw [e]
  · iterate 4 refine Heap.get?_push_of_some _ ?_
    exact at_ rfl rfl
  · iterate 3 refine Heap.get?_push_of_some _ ?_
    exact at_ (by simp only [Heap.size_push]) rfl
  · iterate 2 refine Heap.get?_push_of_some _ ?_
    exact at_ (by simp only [Heap.size_push]) rfl
  · refine Heap.get?_push_of_some _ ?_
    exact at_ (by simp only [Heap.size_push]) rfl
  · exact at_ (by simp only [Heap.size_push]) rfl
  · simp only [Heap.size_push]
end
end Pk

/-! zip(a, b, strict=True) and enumerate(..) of it, called. -/
namespace Pk
open PySem PySem.Spec PyProof.Rows L2
/-- the one keyword -/
abbrev kwS : List (Str × Value) := [(Str.ofString "strict", .bool true)]
theorem kwS_call (x y : Value) : checkTypeCall "zip" ⟨[x, y], kwS⟩ = pure () := by kernel_rfl
theorem kwS_new (x y : Value) : checkBuiltinCall "zip.__new__" ⟨[.type "zip", x, y], kwS⟩ = pure () := by kernel_rfl
theorem kwS_init (o x y : Value) : argsOk "object.__init__" ⟨[o, x, y], kwS⟩ := show _ = _ by kernel_rfl
/-- a new zip: its five objects lie behind all that was -/
structure ZNew (a b : Nat) (xs ys : Array Value) (h h' : Heap) : Prop where
  zp : Zp h.objs.size a b xs ys .none (.bool false) .none .none 0 0 h'
  size : h'.objs.size = h.objs.size + 5
  old : ∀ c o, h.get? c = some o → h'.get? c = some o
theorem zip_makes {a b : Nat} {xs ys : Array Value} : Meets (Builtin.«zip.__new__» ⟨[.type "zip", .ref a, .ref b], kwS⟩) (fun _ R s =>
    (s.heap.IsTuple a xs ∧ s.heap.IsTuple b ys) ∧ ∀ h', ZNew a b xs ys s.heap h' → R (.ok (.ret (.ref (s.heap.objs.size + 4)))) { s with heap := h' }) := by
  refine .of_wp fun _ _ _ _ s h => ?_
  rcases s with ⟨hp, gs, dr, tk, os⟩
  rcases h with ⟨⟨ha, hb⟩, h⟩
  have self := sub_zip
  have ta : Heap.IsTuple (Shared.heap ⟨hp, gs, dr, tk, os⟩) a xs := ha
  have tb : Heap.IsTuple (Shared.heap ⟨hp.push { cls := .type "tuple_iterator", data := .fields #[.ref a, .int 0 0] }, gs, dr, tk, os⟩) b ys := hb.at fun o e => Heap.get?_push_of_some _ e
  have kw : (Str.ofString "strict" != ("strict" : Str)) = false := by decide +kernel
  wp_walk using wpAny_pyIter_tuple ta, wpAny_pyIter_tuple tb
  refine ⟨_, rfl, ?_⟩
  simp only [Heap.size_push]
  obtain ⟨zp, z5, old⟩ := zip_laid (h := hp) ha hb rfl
  exact h _ ⟨zp, z5, old⟩
section
variable {prog : Program} {w : World} {A : Around} {E : Value → Shared → Prop} {s : Shared} {N a b : Nat} {xs ys : Array Value} {r f u v : Value} {m n : Nat}
theorem Zp.is (Z : Zp N a b xs ys r f u v m n s.heap) : s.TypeIs (.ref (N + 4)) "zip" := ⟨_, Z.zip, rfl⟩
theorem Zp.iter {Q : Value → Shared → Prop} (Z : Zp N a b xs ys r f u v m n s.heap) (h : Q (.ref (N + 4)) s) : wpAny (model prog w) A (pyIter (.ref (N + 4))) Q E s := by
  have own : wpAny (model prog w) A.in1 (Builtin.«dict_keyiterator.__iter__» ⟨[.ref (N + 4)], []⟩) (fun fin s' => ∃ v, fin = .done (.ret v) ∧ ∃ T o, s'.TypeIs v T ∧ typeLookup (.type T) "__next__" = pure (some o) ∧ Q v s') E s :=
    wpAny_pure ⟨_, rfl, _, _, Z.is, F.slot_zip_next.lookup, h⟩
  exact wpAny_pyIter_slot Z.is F.slot_zip_iter (wpAny_call_entry F.slot_zip_iter Z.is F.entry_zip_iter own (F.args_zip_iter_1 _))
theorem call_zipS {Q : Value → Shared → Prop} (ha : s.heap.IsTuple a xs) (hb : s.heap.IsTuple b ys) (h : ∀ h', ZNew a b xs ys s.heap h' → Q (.ref (s.heap.objs.size + 4)) { s with heap := h' }) :
    wpAny (model prog w) A (call (.type "zip") [.ref a, .ref b] kwS) Q E s := by
  apply callType_newKw F.called_zip (by decide) (kwS_call _ _) (kwS_new _ _) (fun o => kwS_init o _ _) F.entry_zip_new (zip_makes (xs := xs) (ys := ys))
  exact ⟨⟨ha, hb⟩, fun h' z => ⟨⟨_, z.zp.zip, rfl⟩, h h' z⟩⟩
end
theorem enum_makes {N a b : Nat} {xs ys : Array Value} {r f u v : Value} {m n : Nat} : Meets (Builtin.«enumerate.__new__» ⟨[.type "enumerate", .ref (N + 4)], []⟩) (fun _ R s =>
    Zp N a b xs ys r f u v m n s.heap ∧ ∀ h', IsEnum h' s.heap.objs.size (N + 4) 0 .none → h'.objs.size = s.heap.objs.size + 1 → (∀ c o, s.heap.get? c = some o → h'.get? c = some o) → R (.ok (.ret (.ref s.heap.objs.size))) { s with heap := h' }) := by
  refine .of_wp fun _ _ _ _ s h => ?_
  rcases s with ⟨hp, gs, dr, tk, os⟩
  rcases h with ⟨Z, h⟩
  have self := sub_enumerate
  replace Z : Zp N a b xs ys r f u v m n (Shared.heap ⟨hp, gs, dr, tk, os⟩) := Z
  have fin := h (hp.push { cls := .type "enumerate", data := .fields #[.none, .bool false, .ref (N + 4), rawInt 0, .none, .none] }) (Heap.get?_push_size _ rfl) (Heap.size_push ..) fun c o e => Heap.get?_push_of_some _ e
  clear h
  wp_walk
  apply wpAny_stack_any
  intro st
  apply wpAny_pure
  -- whether the class was called by its name makes no difference here
  split
  case h_1 named _ _ _ _ _ =>
    generalize (named == Value.type "enumerate") = short
    cases short <;> (wp_walk using Z.iter; exact ⟨_, rfl, fin⟩)
  case h_2 => wp_walk using Z.iter; exact ⟨_, rfl, fin⟩
section
variable {prog : Program} {w : World} {A : Around} {E : Value → Shared → Prop} {s : Shared} {N a b : Nat} {xs ys : Array Value} {r f u v : Value} {m n : Nat}
theorem Zp.counted {Q : Value → Shared → Prop} (Z : Zp N a b xs ys r f u v m n s.heap)
    (h : ∀ h', IsEnum h' s.heap.objs.size (N + 4) 0 .none → (∀ c o, s.heap.get? c = some o → h'.get? c = some o) → Q (.ref s.heap.objs.size) { s with heap := h' }) :
    wpAny (model prog w) A (call (.type "enumerate") [.ref (N + 4)]) Q E s := by
  apply callType_new F.called_enumerate (by decide) (F.typeCall_enumerate_1 _) (F.newCall_enumerate_1 _) (fun o => F.args_object_init_2 o _) F.entry_enumerate_new (enum_makes (a := a) (b := b))
  exact ⟨Z, fun h' e _ k => ⟨⟨_, e, rfl⟩, h h' e k⟩⟩
end
/-- a built-in class is called, some arguments by name -/
theorem called_by_name {M : Model} {A : Around} {E : Value → Shared → Prop} {s : Shared} {pos : Pos} {T : String} {ps : List (Bool × Sem Value)} {ks : List (Option Str × Sem Value)} {Q : Value → Shared → Prop}
    (star : ps.any (·.1) = false) (named : ks.any (·.1.isNone) = false) (h : wpAny M A (evalArgs (.type T) true ps ks) (fun g => wpAny M A (call (.type T) g.pos g.kw) Q E) E s) : wpAny M A (callWith pos (.type T) [] ps ks) Q E s := by
  unfold callWith
  apply wpAny_bind
  apply wpAny_holding
  apply wpAny_mono h _ fun _ _ e => e
  intro g t ht
  apply wpAny_bind
  apply wpAny_standAt
  rw [star, named]
  apply wpAny_bind
  apply wpAny_pure
  apply wpAny_bind
  refine wpAny_mono ht (fun v t' q => ?_) fun _ _ e => e
  exact wpAny_bind (wpAny_holding (wpAny_point (wpAny_pure q)))
end Pk

/-! for i, (x, y) in enumerate(zip(s, t, strict=True)), as a rule of the layer. -/
namespace Pk
open PySem PySem.Spec PyProof.Rows L2
/-- the six objects of the walk, which are nobody else's: those of the places N to N+5 -/
abbrev six (N : Nat) : List Addr := List.range' N 6
theorem in_six {N c : Nat} : c ∈ six N ↔ N ≤ c ∧ c < N + 6 := List.mem_range'_1
theorem out_six {N c : Nat} (h : c ∉ six N) : c < N ∨ N + 5 < c := by
  have := mt in_six.mpr h
  omega
/-- how they stand at the turn i; the tuples themselves are not told of -/
structure Gear (N a b : Nat) (i : Nat) (h : Heap) : Prop where
  lt : a < N ∧ b < N
  ws : h.IsTupleIter N a i ∧ h.IsTupleIter (N + 1) b i
  two : IsPair h (N + 2) (.ref N) (.ref (N + 1))
  own : ∃ u v, IsPair h (N + 3) u v
  zip : ∃ r f, Lent r ∧ h.get? (N + 4) = some { cls := .type "zip", dict := none, data := .fields #[r, f, .bool true, .ref (N + 2), .ref (N + 3)], slots := #[] }
  cnt : ∃ old, IsEnum h (N + 5) (N + 4) ((i : Nat) : Int) old
section
variable {N a b i : Nat} {xs ys : Array Value} {h h' : Heap}
theorem Ez.gear (Z : Ez N a b xs ys i h) : Gear N a b i h := by
  obtain ⟨⟨r, f, u, v, hr, Z⟩, en⟩ := Z
  exact ⟨⟨Z.la, Z.lb⟩, ⟨Z.wa, Z.wb⟩, Z.two, ⟨u, v, Z.own⟩, ⟨r, f, hr, Z.zip⟩, en⟩
theorem Gear.over (G : Gear N a b i h) (ta : h.IsTuple a xs) (tb : h.IsTuple b ys) : Ez N a b xs ys i h := by
  obtain ⟨u, v, ow⟩ := G.own
  obtain ⟨r, f, hr, z⟩ := G.zip
  exact ⟨⟨r, f, u, v, hr, G.lt.1, G.lt.2, ta, tb, G.ws.1, G.ws.2, G.two, ow, z⟩, G.cnt⟩
theorem Gear.keep (G : Gear N a b i h) (k : ∀ c ∈ six N, ∀ o, h.get? c = some o → h'.get? c = some o) : Gear N a b i h' := by
  have g : ∀ (j : Nat) (o : Obj), j < 6 → h.get? (N + j) = some o → h'.get? (N + j) = some o := fun j o q => k _ (in_six.mpr (by omega)) o
  obtain ⟨u, v, ow⟩ := G.own
  obtain ⟨r, f, hr, z⟩ := G.zip
  obtain ⟨old, en⟩ := G.cnt
  exact ⟨G.lt, ⟨G.ws.1.at fun o => g 0 o (by omega), G.ws.2.at fun o => g 1 o (by omega)⟩, g 2 _ (by omega) G.two, ⟨u, v, g 3 _ (by omega) ow⟩, ⟨r, f, hr, g 4 _ (by omega) z⟩, ⟨old, g 5 _ (by omega) en⟩⟩
theorem Gear.there (G : Gear N a b i h) {c : Nat} (hc : c ∈ six N) : ∃ o, h.get? c = some o ∧ ∀ v, o.data ≠ .cell v := by
  obtain ⟨⟨o0, q0, _, d0⟩, o1, q1, _, d1⟩ := G.ws
  obtain ⟨u, v, ow⟩ := G.own
  obtain ⟨r, f, hr, z⟩ := G.zip
  obtain ⟨old, en⟩ := G.cnt
  have at_ : ∀ {o : Obj} (j : Nat), h.get? j = some o → (∀ v, o.data ≠ .cell v) → c = j → ∃ o, h.get? c = some o ∧ ∀ v, o.data ≠ .cell v := fun j q d e => ⟨_, e ▸ q, d⟩
  have which : c = N ∨ c = N + 1 ∨ c = N + 2 ∨ c = N + 3 ∨ c = N + 4 ∨ c = N + 5 := by
    have := in_six.mp hc
    omega
  rcases which with e | e | e | e | e | e
  · exact at_ _ q0 (fun v => by rw [d0]; exact nofun) e
  · exact at_ _ q1 (fun v => by rw [d1]; exact nofun) e
  · exact at_ _ G.two (fun v => nofun) e
  · exact at_ _ ow (fun v => nofun) e
  · exact at_ _ z (fun v => nofun) e
  · exact at_ _ en (fun v => nofun) e
end
/-- the tuples xs at a and ys at b side by side, counted: each turn a new pair, and a new pair of the count and that pair -/
def Side (K : PySem.W.Frag) (a b : Addr) (xs ys : List V) : It where
  go i H := (SqT K H a xs ∧ SqT K H b ys) ∧ xs.length = ys.length ∧ i < xs.length
  yld i H v H' := ∃ T U x y, (v = .ref T ∧ H U = none ∧ H T = none ∧ U ≠ T) ∧ (xs[i]? = some x ∧ ys[i]? = some y) ∧ H' = upd (upd H U (.tup [x, y])) T (.tup [.int (i : Nat), .ref U])
  stop i H := (SqT K H a xs ∧ SqT K H b ys) ∧ xs.length = ys.length ∧ xs.length ≤ i
theorem side_turn {P : Program} {w : World} {K : PySem.W.Frag} {elts : List Expr} {kk : Nat} {tpos : Pos} {N a b : Nat} {xs ys : List V} : Turn P w K (.Tuple elts kk tpos) (Side K a b xs ys) (six N) (N + 5) (Gear N a b) where
  mem := in_six.mpr (by omega)
  obj _ _ G _ hc := G.there hc
  keep _ _ _ G k := G.keep k
  self _ _ _ _ _ G q := by
    obtain ⟨old, en⟩ := G.cnt
    exact wpAny_pyIter_enum en q
  done := by
    rintro X rfl rfl rfl calm i pins s σ H E I free G ⟨⟨qa, qb⟩, hl, ge⟩
    obtain ⟨us, ru, ta, _⟩ := I.tuple qa
    obtain ⟨vs, rv, tb, _⟩ := I.tuple qb
    have n1 := ru.length
    have n2 := rv.length
    refine (G.over (xs := us.toArray) (ys := vs.toArray) ta tb).turn (I.ok.hd calm) (by simp; omega) (fun x y _ _ _ hx => ?_) fun h' _ ag => ⟨rfl, ?_⟩
    · have : us[i]? = none := List.getElem?_eq_none (by omega)
      simp [this] at hx
    · refine I.turnedL (t' := s.toks) (ch := six N) (fun c o out e => ag c o ((out_six out).imp id fun z => Nat.lt_of_succ_lt z) e) free
  item := by
    rintro X rfl rfl rfl calm i pins s σ H E I free G ⟨⟨qa, qb⟩, hl, lt⟩
    obtain ⟨us, ru, ta, _⟩ := I.tuple qa
    obtain ⟨vs, rv, tb, _⟩ := I.tuple qb
    have n1 := ru.length
    have n2 := rv.length
    obtain ⟨x, hx⟩ : ∃ x, xs[i]? = some x := ⟨xs[i], by simp [lt]⟩
    obtain ⟨y, hy⟩ : ∃ y, ys[i]? = some y := ⟨ys[i]'(hl ▸ lt), by simp [hl ▸ lt]⟩
    obtain ⟨u, hu, eu⟩ := ru.get hx
    obtain ⟨v, hv, ev⟩ := rv.get hy
    have big : N + 5 < s.heap.objs.size := Heap.lt_size G.cnt.choose_spec
    refine (G.over (xs := us.toArray) (ys := vs.toArray) ta tb).turn (I.ok.hd calm) (by simp; omega) (fun u' v' tk g h' hu' hv' pU zU ag en pT ext Z => ?_) fun h' ge _ => ?_
    · obtain rfl : u' = u := by simpa [hu] using hu'.symm
      obtain rfl : v' = v := by simpa [hv] using hv'.symm
      have nU : H s.heap.objs.size = none := I.hok.fresh (Nat.le_refl _)
      have nT : H g.objs.size = none := I.hok.fresh (by rw [zU]; exact Nat.le_succ _)
      have ne : s.heap.objs.size ≠ g.objs.size := off (by omega)
      have two : 2 ≤ sizeLine := by decide
      refine ⟨_, rfl, wpAny_letOwnedTupleGo_enum en fun h2 cnt sb => ?_⟩
      have k2 : ∀ (c : Nat) (o : Obj), c ≠ N + 5 → g.get? c = some o → h2.get? c = some o := fun c o n e => (sb.2 c n).trans (ext c o n e)
      -- first the zip's pair is laid, then the pair that counts it
      have I1 : Inv X pins σ (upd H s.heap.objs.size (.tup [x, y])) { s with heap := g } := by
        refine I.turnedNew (t' := s.toks) (ch := List.range' N 5) (fun c o out e => ag c o ?_ e) (fun c hc => free c ?_) (Nat.le_refl _) ⟨two, [u', v'], .cons eu (.cons ev .nil), _, pU, rfl, _, rfl⟩
        · have := mt (List.mem_range'_1 (s := N) (n := 5) (m := c)).mpr out
          omega
        · have := (List.mem_range'_1 (s := N) (n := 5) (m := c)).mp hc
          exact in_six.mpr (by omega)
      have five := free (N + 5) (in_six.mpr (by omega))
      have I2 : Inv X pins σ (upd (upd H s.heap.objs.size (.tup [x, y])) g.objs.size (.tup [.int (i : Nat), .ref s.heap.objs.size])) { s with heap := h2, toks := tk + 1 } := by
        refine I1.turnedNew (t' := tk + 1) (ch := [N + 5]) (fun c o out e => k2 c o (fun z => out (List.mem_singleton.mpr z)) e) (fun c one => ?_) (Nat.le_refl _)
          ⟨two, [.int i tk, .ref s.heap.objs.size], .cons ⟨_, rfl⟩ (.cons rfl .nil), _, sb.extBut _ _ (off (by omega)) pT, rfl, _, rfl⟩
        obtain rfl := List.mem_singleton.mp one
        exact ⟨by rw [upd_ne (off (.inl big))]; exact five.1, five.2⟩
      refine ⟨.ref g.objs.size, _, I2, rfl, ⟨_, _, x, y, ⟨rfl, nU, nT, ne⟩, ⟨hx, hy⟩, rfl⟩, (Ez.gone Z sb.extBut cnt).gear, fun c hc => ?_⟩
      have lc := (in_six.mp hc).2
      rw [upd_ne (off (.inl (by omega))), upd_ne (off (.inl (by omega)))]
      exact (free c hc).1
    · simp at ge
      omega
/-- the walk over what ta gives -/
def iSide (K : PySem.W.Frag) (ta : TA) : TI := fun σ H R => ta σ H fun vs H1 => ∃ a b xs ys, vs = [.ref a, .ref b] ∧ (SqT K H1 a xs ∧ SqT K H1 b ys) ∧ R (Side K a b xs ys) H1
section
variable {X : Cx} {x y : Expr} {ta : TA} {p p2 p3 pos pos2 tpos kp : Pos} {j kk : Nat} {elts : List Expr}
/-- zip(x, y, strict=True) -/
abbrev zipped (x y : Expr) (p2 p3 pos2 kp : Pos) (j : Nat) : Expr := .Call (.Name "zip" p2) [x, y] [⟨some "strict", .Constant (.bool true) j p3, kp⟩] pos2
theorem pi_side (ge : Gl X "enumerate") (me : X.mg "enumerate" = none) (gz : Gl X "zip") (mz : X.mg "zip" = none) (ha : PA X [x, y] ta)
    (s1 : starEach [x, y] X.env = (false, eval x X.env) :: starEach [y] X.env := by rfl) (s0 : (backTo pos2 (starEach [x, y] X.env)).any (·.1) = false := by rfl)
    (k1 : (backToKw pos2 (keywordEach [⟨some "strict", .Constant (.bool true) j p3, kp⟩] X.env)).all (·.1.isSome) = true := by rfl) (k0 : (backToKw pos2 (keywordEach [⟨some "strict", .Constant (.bool true) j p3, kp⟩] X.env)).any (·.1.isNone) = false := by rfl)
    (kn : (backToKw pos2 (keywordEach [⟨some "strict", .Constant (.bool true) j p3, kp⟩] X.env)).filterMap (·.1) = [Str.ofString "strict"] := by rfl)
    (s2 : starEach [zipped x y p2 p3 pos2 kp j] X.env = (false, eval (zipped x y p2 p3 pos2 kp j) X.env) :: starEach [] X.env := by rfl) :
    PI X (.Tuple elts kk tpos) (.Call (.Name "enumerate" p) [zipped x y p2 p3 pos2 kp j] [] pos) (iSide X.K ta) where
  run pins s σ H R I h := by
    -- the zip and its count, from the two tuples' places on
    have make : ∀ (t : Shared) (H1 : Hp) (a b : Nat) (xs ys : List V), Inv X pins σ H1 t → SqT X.K H1 a xs ∧ SqT X.K H1 b ys → R (Side X.K a b xs ys) H1 →
        wpAny (model X.prog X.w) X.A (call (.type "zip") [.ref a, .ref b] kwS) (fun z t1 => wpAny (model X.prog X.w) X.A (call (.type "enumerate") [z]) (fun e t2 => wpAny (model X.prog X.w) X.A (pyIter e) (PIE X pins σ (.Tuple elts kk tpos) R) X.xe t2) X.xe t1) X.xe t := by
      intro t H1 a b xs ys J q r
      obtain ⟨us, _, ta, _⟩ := J.tuple q.1
      obtain ⟨vs, _, tb, _⟩ := J.tuple q.2
      refine call_zipS (xs := us.toArray) (ys := vs.toArray) ta tb fun g z => Zp.counted (s := { t with heap := g }) z.zp fun g2 en k => wpAny_pyIter_enum en ?_
      have en' : IsEnum g2 (t.heap.objs.size + 5) (t.heap.objs.size + 4) 0 .none := z.size ▸ en
      refine ⟨_, six t.heap.objs.size, _, _, H1, congrArg Value.ref z.size, J.kept (t' := t.toks) fun c o e => k c o (z.old c o e), side_turn, ?_, fun c hc => ?_, r⟩
      · exact (Ez.gear ⟨⟨_, _, _, _, .inl rfl, z.zp.up fun c o _ => k c o⟩, _, en'⟩ : Gear t.heap.objs.size a b 0 g2)
      · exact J.fpOk (in_six.mp hc).1 (J.hok.fresh (in_six.mp hc).1)
    refine Call_ (ld_blt I ge me boot_enumerate (PyProof.Rows.callWith_type1 (T := "enumerate") ?_ s2 rfl))
    rw [s2]
    apply Calls.spliced_cons
    refine wpAny_Call_Name_kw (ld_blt I gz mz PyProof.Rows.boot_zip (called_by_name s0 k0 (evalArgs_kw2 k1 (thn (ha.run pos2 pins s σ H _ I h) ?_) s1)))
    rintro us s1 ⟨vs, H1, J, r, a, b, xs, ys, rfl, q, fin⟩
    rcases r with _ | ⟨ra, _ | ⟨rb, _ | _⟩⟩
    cases ra
    cases rb
    refine thn ((pk_cons (nm := "strict") (kpos := kp) (pe_bl (X := X) (b := true) (j := j) (pos := p3)) pk_nil).run pos2 pins s1 σ H1 (fun ws H2 => ws = [.bl true] ∧ H2 = H1) J ⟨rfl, rfl⟩) ?_
    rintro ks t ⟨_, _, J2, rk, rfl, rfl⟩
    rcases rk with _ | ⟨rb, _ | _⟩
    cases rb
    rw [kn]
    exact thn (make t _ a b xs ys J2 q fin) fun z t1 hz => Calls.spliced_nil hz
end
/-- the walk over both, a promise of the turns kept -/
theorem for_side {K : PySem.W.Frag} {a b : Addr} {xs ys : List V} {g : TG} {tb : TS} {D : Ends} {σ : St} {H : Hp} (hl : xs.length = ys.length) (Pv : Nat → St → Hp → Prop) (start : Pv 0 σ H) (here : ∀ i σ H, Pv i σ H → SqT K H a xs ∧ SqT K H b ys)
    (turn : ∀ i x y T U σ H, xs[i]? = some x ∧ ys[i]? = some y → Pv i σ H → (H U = none ∧ H T = none ∧ U ≠ T) → g (.ref T) σ (upd (upd H U (.tup [x, y])) T (.tup [.int (i : Nat), .ref U])) fun σ2 H2 => tb { D with nx := Pv (i + 1), ct := Pv (i + 1), bk := D.nx } σ2 H2)
    (last : ∀ σ H, Pv xs.length σ H → D.nx σ H) :
    ∃ W : Nat → Nat → St → Hp → Prop, (∃ m, W 0 m σ H) ∧ ∀ i m σ H, W i m σ H → ((Side K a b xs ys).stop i H ∧ D.nx σ H) ∨
      ((Side K a b xs ys).go i H ∧ ∃ N : St → Hp → Prop, (∀ σ' H', N σ' H' → ∃ m', m' < m ∧ W (i + 1) m' σ' H') ∧ ∀ x H', (Side K a b xs ys).yld i H x H' → g x σ H' fun σ2 H2 => tb { D with nx := N, ct := N, bk := D.nx } σ2 H2) := by
  refine ⟨fun i left σ H => left + i = xs.length ∧ Pv i σ H, ⟨xs.length, rfl, start⟩, ?_⟩
  rintro i (_ | left) σ H ⟨e, p⟩
  · obtain rfl : i = xs.length := by omega
    exact .inl ⟨⟨here _ σ H p, hl, Nat.le_refl _⟩, last σ H p⟩
  · refine .inr ⟨⟨here i σ H p, hl, by omega⟩, Pv (i + 1), fun σ' H' p' => ⟨left, Nat.lt_succ_self _, by omega, p'⟩, ?_⟩
    rintro _ _ ⟨T, U, x, y, ⟨rfl, new⟩, at_, rfl⟩
    exact turn i x y T U σ H at_ p new
end Pk

/-! The program's text by places; the heap's letters. -/
namespace Pk
open PySem PySem.Spec PyProof.Rows L2
def top (i : Nat) : Stmt := PySem.Challenge.pw_pikeroll_k26_whole_rolls_and_their_twins.main.body.getD i (.Pass ⟨0, 0, 0, 0⟩)
abbrev sPike : Stmt := inClass (top 2) 0
abbrev nPike : List Str := ["self", "called"]
abbrev pPike : List Str := ["self", "called"]
theorem scPike : FnScope nPike pPike (defScope sPike) := ⟨rfl, rfl, rfl, by decide +kernel, rfl, by decide +kernel, by decide +kernel⟩
abbrev sMiss : Stmt := inClass (top 3) 0
abbrev nMiss : List Str := ["self", "called", "number"]
abbrev pMiss : List Str := ["self", "called", "number"]
theorem scMiss : FnScope nMiss pMiss (defScope sMiss) := ⟨rfl, rfl, rfl, by decide +kernel, rfl, by decide +kernel, by decide +kernel⟩
abbrev sOth : Stmt := inClass (top 5) 0
abbrev nOth : List Str := ["self"]
abbrev pOth : List Str := ["self"]
theorem scOth : FnScope nOth pOth (defScope sOth) := ⟨rfl, rfl, rfl, by decide +kernel, rfl, by decide +kernel, by decide +kernel⟩
abbrev sNoth : Stmt := inClass (top 7) 0
abbrev nNoth : List Str := ["self"]
abbrev pNoth : List Str := ["self"]
theorem scNoth : FnScope nNoth pNoth (defScope sNoth) := ⟨rfl, rfl, rfl, by decide +kernel, rfl, by decide +kernel, by decide +kernel⟩
abbrev sNoF : Stmt := inClass (top 8) 0
abbrev nNoF : List Str := ["self", "number"]
abbrev pNoF : List Str := ["self", "number"]
theorem scNoF : FnScope nNoF pNoF (defScope sNoF) := ⟨rfl, rfl, rfl, by decide +kernel, rfl, by decide +kernel, by decide +kernel⟩
abbrev sGg : Stmt := top 12
abbrev nGg : List Str := ["gates", "gate"]
abbrev pGg : List Str := ["gates"]
theorem scGg : FnScope nGg pGg (defScope sGg) := ⟨rfl, rfl, rfl, by decide +kernel, rfl, by decide +kernel, by decide +kernel⟩
abbrev sGt : Stmt := top 13
abbrev nGt : List Str := ["kind", "thing", "least", "most"]
abbrev pGt : List Str := ["kind", "thing"]
theorem scGt : FnScope nGt pGt (defScope sGt) := ⟨rfl, rfl, rfl, by decide +kernel, rfl, by decide +kernel, by decide +kernel⟩
abbrev sNf : Stmt := top 14
abbrev nNf : List Str := ["fact", "kinds", "at", "kind", "thing"]
abbrev pNf : List Str := ["fact"]
theorem scNf : FnScope nNf pNf (defScope sNf) := ⟨rfl, rfl, rfl, by decide +kernel, rfl, by decide +kernel, by decide +kernel⟩
abbrev sHI : Stmt := inClass (top 17) 0
abbrev nHI : List Str := ["self", "there", "told"]
abbrev pHI : List Str := ["self", "there", "told"]
theorem scHI : FnScope nHI pHI (defScope sHI) := ⟨rfl, rfl, rfl, by decide +kernel, rfl, by decide +kernel, by decide +kernel⟩
abbrev sRI : Stmt := inClass (top 18) 0
abbrev nRI : List Str := ["self"]
abbrev pRI : List Str := ["self"]
theorem scRI : FnScope nRI pRI (defScope sRI) := ⟨rfl, rfl, rfl, by decide +kernel, rfl, by decide +kernel, by decide +kernel⟩
abbrev sREq : Stmt := inClass (top 18) 1
abbrev nREq : List Str := ["self", "other"]
abbrev pREq : List Str := ["self", "other"]
theorem scREq : FnScope nREq pREq (defScope sREq) := ⟨rfl, rfl, rfl, by decide +kernel, rfl, by decide +kernel, by decide +kernel⟩
abbrev sRLen : Stmt := inClass (top 18) 2
abbrev nRLen : List Str := ["self"]
abbrev pRLen : List Str := ["self"]
theorem scRLen : FnScope nRLen pRLen (defScope sRLen) := ⟨rfl, rfl, rfl, by decide +kernel, rfl, by decide +kernel, by decide +kernel⟩
abbrev sRGo : Stmt := inClass (top 18) 3
abbrev nRGo : List Str := ["self", "there", "told"]
abbrev pRGo : List Str := ["self", "there", "told"]
theorem scRGo : FnScope nRGo pRGo (defScope sRGo) := ⟨rfl, rfl, rfl, by decide +kernel, rfl, by decide +kernel, by decide +kernel⟩
abbrev sRTell : Stmt := inClass (top 18) 4
abbrev nRTell : List Str := ["self", "fact", "here", "there"]
abbrev pRTell : List Str := ["self", "fact"]
theorem scRTell : FnScope nRTell pRTell (defScope sRTell) := ⟨rfl, rfl, rfl, by decide +kernel, rfl, by decide +kernel, by decide +kernel⟩
abbrev sRFo : Stmt := inClass (top 18) 5
abbrev nRFo : List Str := ["self", "number", "there"]
abbrev pRFo : List Str := ["self", "number"]
theorem scRFo : FnScope nRFo pRFo (defScope sRFo) := ⟨rfl, rfl, rfl, by decide +kernel, rfl, by decide +kernel, by decide +kernel⟩
abbrev sRRight : Stmt := inClass (top 18) 6
abbrev nRRight : List Str := ["self", "number", "fact", "old", "here", "there"]
abbrev pRRight : List Str := ["self", "number", "fact"]
theorem scRRight : FnScope nRRight pRRight (defScope sRRight) := ⟨rfl, rfl, rfl, by decide +kernel, rfl, by decide +kernel, by decide +kernel⟩
abbrev sRStrike : Stmt := inClass (top 18) 7
abbrev nRStrike : List Str := ["self", "number", "old", "here", "there"]
abbrev pRStrike : List Str := ["self", "number"]
theorem scRStrike : FnScope nRStrike pRStrike (defScope sRStrike) := ⟨rfl, rfl, rfl, by decide +kernel, rfl, by decide +kernel, by decide +kernel⟩
abbrev sRUndo : Stmt := inClass (top 18) 8
abbrev nRUndo : List Str := ["self"]
abbrev pRUndo : List Str := ["self"]
theorem scRUndo : FnScope nRUndo pRUndo (defScope sRUndo) := ⟨rfl, rfl, rfl, by decide +kernel, rfl, by decide +kernel, by decide +kernel⟩
abbrev sRRedo : Stmt := inClass (top 18) 9
abbrev nRRedo : List Str := ["self"]
abbrev pRRedo : List Str := ["self"]
theorem scRRedo : FnScope nRRedo pRRedo (defScope sRRedo) := ⟨rfl, rfl, rfl, by decide +kernel, rfl, by decide +kernel, by decide +kernel⟩
abbrev sRFacts : Stmt := inClass (top 18) 10
abbrev nRFacts : List Str := ["self", "there", "number"]
abbrev pRFacts : List Str := ["self"]
theorem scRFacts : FnScope nRFacts pRFacts (defScope sRFacts) := ⟨rfl, rfl, rfl, by decide +kernel, rfl, by decide +kernel, by decide +kernel⟩
abbrev sRTold : Stmt := inClass (top 18) 11
abbrev nRTold : List Str := ["self"]
abbrev pRTold : List Str := ["self"]
theorem scRTold : FnScope nRTold pRTold (defScope sRTold) := ⟨rfl, rfl, rfl, by decide +kernel, rfl, by decide +kernel, by decide +kernel⟩
abbrev sRDeeds : Stmt := inClass (top 18) 12
abbrev nRDeeds : List Str := ["self"]
abbrev pRDeeds : List Str := ["self"]
theorem scRDeeds : FnScope nRDeeds pRDeeds (defScope sRDeeds) := ⟨rfl, rfl, rfl, by decide +kernel, rfl, by decide +kernel, by decide +kernel⟩
abbrev sRTwin : Stmt := inClass (top 18) 14
abbrev nRTwin : List Str := ["self", "other"]
abbrev pRTwin : List Str := ["self"]
theorem scRTwin : FnScope nRTwin pRTwin (defScope sRTwin) := ⟨rfl, rfl, rfl, by decide +kernel, rfl, by decide +kernel, by decide +kernel⟩
abbrev sBag : Stmt := top 20
abbrev nBag : List Str := ["_law_script", "_law_salt", "_law_cell"]
abbrev pBag : List Str := ["_law_script"]
theorem scBag : FnScope nBag pBag (defScope sBag) := ⟨rfl, rfl, rfl, by decide +kernel, rfl, by decide +kernel, by decide +kernel⟩
abbrev sPull : Stmt := top 21
abbrev nPull : List Str := ["_law_bag_here", "_law_amount", "_law_cell", "_law_got", "_law_seed"]
abbrev pPull : List Str := ["_law_bag_here", "_law_amount"]
theorem scPull : FnScope nPull pPull (defScope sPull) := ⟨rfl, rfl, rfl, by decide +kernel, rfl, by decide +kernel, by decide +kernel⟩
abbrev sLike : Stmt := top 22
abbrev nLike : List Str := ["_law_found", "_law_due", "_law_k"]
abbrev pLike : List Str := ["_law_found", "_law_due"]
theorem scLike : FnScope nLike pLike (defScope sLike) := ⟨rfl, rfl, rfl, by decide +kernel, rfl, by decide +kernel, by decide +kernel⟩
abbrev sFar : Stmt := top 23
abbrev nFar : List Str := ["_law_bag_here", "_law_number"]
abbrev pFar : List Str := ["_law_bag_here"]
theorem scFar : FnScope nFar pFar (defScope sFar) := ⟨rfl, rfl, rfl, by decide +kernel, rfl, by decide +kernel, by decide +kernel⟩
abbrev sGate : Stmt := top 24
abbrev nGate : List Str := ["_law_bag_here"]
abbrev pGate : List Str := ["_law_bag_here"]
theorem scGate : FnScope nGate pGate (defScope sGate) := ⟨rfl, rfl, rfl, by decide +kernel, rfl, by decide +kernel, by decide +kernel⟩
abbrev sDay : Stmt := top 25
abbrev nDay : List Str := ["_law_bag_here", "_law_some"]
abbrev pDay : List Str := ["_law_bag_here"]
theorem scDay : FnScope nDay pDay (defScope sDay) := ⟨rfl, rfl, rfl, by decide +kernel, rfl, by decide +kernel, by decide +kernel⟩
abbrev sBoard : Stmt := top 26
abbrev nBoard : List Str := ["_law_bag_here", "_law_gates", "_law_gate_here"]
abbrev pBoard : List Str := ["_law_bag_here"]
theorem scBoard : FnScope nBoard pBoard (defScope sBoard) := ⟨rfl, rfl, rfl, by decide +kernel, rfl, by decide +kernel, by decide +kernel⟩
abbrev sPassing : Stmt := top 27
abbrev nPassing : List Str := ["_law_bag_here", "_law_minute", "_law_carriage"]
abbrev pPassing : List Str := ["_law_bag_here"]
theorem scPassing : FnScope nPassing pPassing (defScope sPassing) := ⟨rfl, rfl, rfl, by decide +kernel, rfl, by decide +kernel, by decide +kernel⟩
abbrev sStretch : Stmt := top 28
abbrev nStretch : List Str := ["_law_bag_here", "_law_first"]
abbrev pStretch : List Str := ["_law_bag_here"]
theorem scStretch : FnScope nStretch pStretch (defScope sStretch) := ⟨rfl, rfl, rfl, by decide +kernel, rfl, by decide +kernel, by decide +kernel⟩
abbrev sFact : Stmt := top 29
abbrev nFact : List Str := ["_law_bag_here", "_law_amount", "_law_turn_here", "_law_coins"]
abbrev pFact : List Str := ["_law_bag_here", "_law_amount"]
theorem scFact : FnScope nFact pFact (defScope sFact) := ⟨rfl, rfl, rfl, by decide +kernel, rfl, by decide +kernel, by decide +kernel⟩
abbrev sPlace : Stmt := top 30
abbrev nPlace : List Str := ["_law_fact_here", "_law_kinds", "_law_limits", "_law_at", "_law_kind", "_law_gate_here"]
abbrev pPlace : List Str := ["_law_fact_here"]
theorem scPlace : FnScope nPlace pPlace (defScope sPlace) := ⟨rfl, rfl, rfl, by decide +kernel, rfl, by decide +kernel, by decide +kernel⟩
abbrev sNew : Stmt := top 31
abbrev nNew : List Str := []
abbrev pNew : List Str := []
theorem scNew : FnScope nNew pNew (defScope sNew) := ⟨rfl, rfl, rfl, by decide +kernel, rfl, by decide +kernel, by decide +kernel⟩
abbrev sDeed : Stmt := top 32
abbrev nDeed : List Str := ["_law_bag_here", "_law_model", "_law_numbers", "_law_turn_here", "_law_number", "_law_old", "_law_fact_here"]
abbrev pDeed : List Str := ["_law_bag_here", "_law_model"]
theorem scDeed : FnScope nDeed pDeed (defScope sDeed) := ⟨rfl, rfl, rfl, by decide +kernel, rfl, by decide +kernel, by decide +kernel⟩
abbrev sDone : Stmt := top 33
abbrev nDone : List Str := ["_law_model", "_law_deed_here", "_law_facts", "_law_place", "_law_old"]
abbrev pDone : List Str := ["_law_model", "_law_deed_here"]
theorem scDone : FnScope nDone pDone (defScope sDone) := ⟨rfl, rfl, rfl, by decide +kernel, rfl, by decide +kernel, by decide +kernel⟩
abbrev sCopied : Stmt := top 34
abbrev nCopied : List Str := ["_law_model"]
abbrev pCopied : List Str := ["_law_model"]
theorem scCopied : FnScope nCopied pCopied (defScope sCopied) := ⟨rfl, rfl, rfl, by decide +kernel, rfl, by decide +kernel, by decide +kernel⟩
abbrev sFactList : Stmt := top 35
abbrev nFactList : List Str := ["_law_model", "_law_number"]
abbrev pFactList : List Str := ["_law_model"]
theorem scFactList : FnScope nFactList pFactList (defScope sFactList) := ⟨rfl, rfl, rfl, by decide +kernel, rfl, by decide +kernel, by decide +kernel⟩
abbrev sStands : Stmt := top 36
abbrev nStands : List Str := ["_law_roll", "_law_model", "_law_deeds"]
abbrev pStands : List Str := ["_law_roll", "_law_model", "_law_deeds"]
theorem scStands : FnScope nStands pStands (defScope sStands) := ⟨rfl, rfl, rfl, by decide +kernel, rfl, by decide +kernel, by decide +kernel⟩
abbrev sTold : Stmt := top 37
abbrev nTold : List Str := ["_law_roll", "_law_way", "_law_deed_here"]
abbrev pTold : List Str := ["_law_roll", "_law_way", "_law_deed_here"]
theorem scTold : FnScope nTold pTold (defScope sTold) := ⟨rfl, rfl, rfl, by decide +kernel, rfl, by decide +kernel, by decide +kernel⟩
abbrev sTurn : Stmt := top 38
abbrev nTurn : List Str := ["_law_bag_here", "_law_roll", "_law_past", "_law_done_here", "_law_gone", "_law_way", "_law_ahead", "_law_behind", "_law_model", "_law_deed_here", "_law_word"]
abbrev pTurn : List Str := ["_law_bag_here", "_law_roll", "_law_past"]
theorem scTurn : FnScope nTurn pTurn (defScope sTurn) := ⟨rfl, rfl, rfl, by decide +kernel, rfl, by decide +kernel, by decide +kernel⟩
abbrev sAll : Stmt := top 39
abbrev nAll : List Str := ["_law_rolls", "_law_pasts", "_law_k", "_law_j", "_law_alike"]
abbrev pAll : List Str := ["_law_rolls", "_law_pasts"]
theorem scAll : FnScope nAll pAll (defScope sAll) := ⟨rfl, rfl, rfl, by decide +kernel, rfl, by decide +kernel, by decide +kernel⟩
abbrev sLaw : Stmt := top 40
abbrev nLaw : List Str := ["_law_script", "_law_bag_here", "_law_rolls", "_law_pasts", "_law_turn_here", "_law_at", "_law_told_here", "_law_kept", "_law_k", "_law_done_here", "_law_gone", "_law_model"]
abbrev pLaw : List Str := ["_law_script"]
theorem scLaw : FnScope nLaw pLaw (defScope sLaw) := ⟨rfl, rfl, rfl, by decide +kernel, rfl, by decide +kernel, by decide +kernel⟩
end Pk

/-! The heap's letters: what is kept; facts, holds, models. -/
namespace Pk
open PySem PySem.Spec PyProof.Rows L2
/-! ### what a piece of code leaves -/
/-- what was tracked is tracked, and stands as before outside S; tuples stand -/
structure Kp (S : List Addr) (H H' : Hp) : Prop where
  keep : ∀ a o, H a = some o → a ∉ S → H' a = some o
  tups : ∀ a xs, H a = some (.tup xs) → H' a = some (.tup xs)
  free : ∀ a, H' a = none → H a = none
section
variable {S T : List Addr} {H H1 H2 H' : Hp} {a p : Addr} {o u : HO}
theorem Kp.refl (S : List Addr) (H : Hp) : Kp S H H := ⟨fun _ _ e _ => e, fun _ _ e => e, fun _ e => e⟩
theorem Kp.andN (k : Kp S H H1) (l : Kp T H1 H2) (h : ∀ a ∈ T, a ∈ S ∨ H a = none) : Kp S H H2 :=
  ⟨fun a o e n => l.keep a o (k.keep a o e n) (fun z => by
    rcases h a z with q | q
    · exact n q
    · rw [e] at q
      cases q), fun a xs e => l.tups a xs (k.tups a xs e), fun a e => k.free a (l.free a e)⟩
theorem Kp.trans (k : Kp S H H1) (l : Kp S H1 H2) : Kp S H H2 := k.andN l fun a h => .inl h
theorem Kp.mono (k : Kp S H H') (h : ∀ a ∈ S, a ∈ T) : Kp T H H' := ⟨fun a o e n => k.keep a o e fun z => n (h a z), k.tups, k.free⟩
theorem Kp.up (k : Kp [] H H') : Kp S H H' := k.mono fun a h => by cases h
theorem Kp.and0 (k : Kp S H H1) (l : Kp [] H1 H2) : Kp S H H2 := k.trans l.up
theorem Kp.new (np : H p = none) : Kp S H (upd H p o) :=
  ⟨fun a u e _ => by rw [upd_ne (ne_of_none e np)]; exact e, fun a xs e => by rw [upd_ne (ne_of_none e np)]; exact e, fun a e => by
    by_cases h : a = p
    · rw [h]; exact np
    · rw [upd_ne h] at e; exact e⟩
theorem Kp.put (e : H p = some u) (hu : ∀ xs, u ≠ .tup xs) : Kp [p] H (upd H p o) :=
  ⟨fun a v q n => by rw [upd_ne (fun z => n (by simp [z]))]; exact q, fun a xs q => by
    rw [upd_ne (ne_of q e (fun z => hu xs z.symm))]; exact q, fun a q => by
    by_cases h : a = p
    · rw [h, upd_same] at q; cases q
    · rw [upd_ne h] at q; exact q⟩
theorem Kp.newN (k : Kp S H H1) (np : H1 p = none) : Kp S H (upd H1 p o) := k.trans (Kp.new np)
/-- a store to an object that came after H -/
theorem Kp.putN (k : Kp S H H1) (np : H p = none) : Kp S H (upd H1 p o) :=
  ⟨fun a v e n => by rw [upd_ne (ne_of_none e np)]; exact k.keep a v e n, fun a xs e => by rw [upd_ne (ne_of_none e np)]; exact k.tups a xs e, fun a q => by
    by_cases h : a = p
    · rw [h]; exact np
    · rw [upd_ne h] at q; exact k.free a q⟩
theorem Kp.same (k : Kp [] H H') : Same H H' := fun a o e => k.keep a o e (by simp)
theorem Kp.of_same (k : Same H H') : Kp S H H' := ⟨fun a o e _ => k a o e, fun a xs e => k a _ e, fun a e => k.free e⟩
theorem Kp.there (k : Kp S H H') (e : H a = some o) : ∃ u, H' a = some u := by
  cases q : H' a with
  | some u => exact ⟨u, rfl⟩
  | none => rw [k.free a q] at e; cases e
/-- what may change: a list, an instance of C, what is not tracked -/
def Mu (C : Addr) (H : Hp) (a : Addr) : Prop := H a = none ∨ (∃ xs, H a = some (.lst xs)) ∨ ∃ dx fs, H a = some (.ins C dx fs)
def Im (C : Addr) (o : HO) : Prop := (∀ xs, o ≠ .lst xs) ∧ ∀ dx fs, o ≠ .ins C dx fs
theorem Mu.notin {C : Addr} (h : ∀ s ∈ S, Mu C H s) (e : H a = some o) (i : Im C o) : a ∉ S := fun z => by
  rcases h a z with q | ⟨xs, q⟩ | ⟨dx, fs, q⟩
  · rw [e] at q; cases q
  · rw [e] at q; exact i.1 xs (Option.some.inj q)
  · rw [e] at q; exact i.2 dx fs (Option.some.inj q)
theorem Kp.im {C : Addr} (k : Kp S H H') (h : ∀ s ∈ S, Mu C H s) (e : H a = some o) (i : Im C o) : H' a = some o := k.keep a o e (Mu.notin h e i)
theorem im_tup {C : Addr} {xs : List V} : Im C (.tup xs) := ⟨fun _ z => (nomatch z), fun _ _ z => (nomatch z)⟩
theorem im_dK {C : Addr} {xs : List (Key × V)} : Im C (.dK xs) := ⟨fun _ z => (nomatch z), fun _ _ z => (nomatch z)⟩
theorem im_ins {C D dx : Addr} {fs : List (Str × V)} (h : D ≠ C) : Im C (.ins D dx fs) := ⟨fun _ z => (by cases z), fun _ _ z => h (by cases z; rfl)⟩
end
/-! ### facts -/
inductive Th where
  | n (i : Int)
  | g (gs : List Int)
abbrev Fct := Str × List Th
def thD : Th → PyData
  | .n i => .int i
  | .g gs => .tuple (gs.map PyData.int)
def fctD (f : Fct) : PyData := .tuple (.str f.1 :: f.2.map thD)
def ThAt (H : Hp) (v : V) : Th → Prop
  | .n i => v = .int i
  | .g gs => ∃ p, v = .ref p ∧ H p = some (.tup (gs.map V.int))
def ThsAt (H : Hp) : List V → List Th → Prop := Paired (ThAt H)
def FctAt (H : Hp) (a : Addr) (f : Fct) : Prop := ∃ xs, H a = some (.tup (.str f.1 :: xs)) ∧ ThsAt H xs f.2
section
variable {H H' : Hp} {S : List Addr}
theorem ThAt.kp (k : Kp S H H') {v : V} : ∀ {t : Th}, ThAt H v t → ThAt H' v t
  | .n _, h => h
  | .g _, ⟨p, e, h⟩ => ⟨p, e, k.tups p _ h⟩
theorem ThsAt.kp (k : Kp S H H') {vs : List V} {ts : List Th} (h : ThsAt H vs ts) : ThsAt H' vs ts := Paired.mapP h fun _ _ q => q.kp k
theorem FctAt.kp (k : Kp S H H') {a : Addr} {f : Fct} (h : FctAt H a f) : FctAt H' a f := let ⟨xs, e, q⟩ := h; ⟨xs, k.tups a _ e, q.kp k⟩
theorem ints_dp {K : PySem.W.Frag} : ∀ gs : List Int, DpAll K H (gs.map V.int) (gs.map PyData.int)
  | [] => .nil
  | i :: r => .cons (.int i) (ints_dp r)
theorem ThAt.dp {K : PySem.W.Frag} {v : V} : ∀ {t : Th}, ThAt H v t → Dp K H v (thD t)
  | .n i, h => by
    cases (show v = .int i from h)
    exact .int i
  | .g gs, h => by
    obtain ⟨p, rfl, e⟩ := (show ∃ p, v = .ref p ∧ H p = some (.tup (gs.map V.int)) from h)
    exact .tup (SqT.of e) (ints_dp gs)
theorem ThsAt.dp {K : PySem.W.Frag} {vs : List V} {ts : List Th} (h : ThsAt H vs ts) : DpAll K H vs (ts.map thD) := by
  unfold ThsAt at h
  induction h with
  | nil => exact .nil
  | cons a _ ih => exact .cons a.dp ih
theorem FctAt.dp {K : PySem.W.Frag} {a : Addr} {f : Fct} (h : FctAt H a f) : Dp K H (.ref a) (fctD f) := by
  obtain ⟨xs, e, q⟩ := h
  exact .tup (SqT.of e) (.cons (.str f.1) q.dp)
end
/-! ### kinds, good facts -/
inductive Kd where
  | gate | carriage | trust | day | minute | halves | horses | coins | gates | number
def Kd.nm : Kd → Str
  | .gate => "gate" | .carriage => "carriage" | .trust => "trust" | .day => "day" | .minute => "minute" | .halves => "halves" | .horses => "horses" | .coins => "coins" | .gates => "gates" | .number => "number"
def Kd.lt : Kd → Str
  | .gate => "g" | .carriage => "c" | .trust => "t" | .day => "d" | .minute => "m" | .halves => "h" | .horses => "o" | .coins => "p" | .gates => "b" | .number => "n"
def Kd.lo : Kd → Int
  | .horses => 1 | .number => 1 | _ => 0
def Kd.hi : Kd → Int
  | .gate => 7 | .carriage => 9 | .trust => 3 | .day => 999 | .minute => 1439 | .halves => 48 | .horses => 8 | .coins => 100000 | .number => 100 | .gates => 0
def GoodG (gs : List Int) : Prop := gs = ((List.range 8).map Int.ofNat).filter fun i => decide (i ∈ gs)
def GoodT (k : Kd) (t : Th) : Prop := match k with
  | .gates => ∃ gs, t = .g gs ∧ GoodG gs
  | k => ∃ i, t = .n i ∧ k.lo ≤ i ∧ i ≤ k.hi
def kindsTab : List (Str × List Kd) := [("toll", [.gate, .day, .halves]), ("board", [.gate, .day, .gates]), ("trust", [.gate, .day, .trust]), ("folk", [.carriage, .day, .day]), ("bargain", [.gate, .carriage, .day, .day]),
  ("pass", [.day, .minute, .gate, .carriage, .horses]), ("lost", [.number, .minute]), ("paid", [.carriage, .day, .coins])]
def Good (f : Fct) : Prop := ∃ ks, (f.1, ks) ∈ kindsTab ∧ Paired GoodT ks f.2
/-! ### entries of a dict of facts -/
structure Ent where
  n : Int
  a : Addr
  f : Fct
def kvs (es : List Ent) : List (Key × V) := es.map fun e => (Sum.inl e.n, V.ref e.a)
def EntsAt (H : Hp) (es : List Ent) : Prop := ∀ e ∈ es, FctAt H e.a e.f
def fnd (es : List Ent) (n : Int) : Option Ent := es.find? fun e => decide (e.n = n)
def putE (es : List Ent) (n : Int) (a : Addr) (f : Fct) : List Ent := if (es.any fun e => decide (e.n = n)) = true then es.map (fun e => if e.n = n then ⟨n, a, f⟩ else e) else es ++ [⟨n, a, f⟩]
def dropE (es : List Ent) (n : Int) : List Ent := es.filter fun e => decide (e.n ≠ n)
def nums (es : List Ent) : List Int := es.map (·.n)
theorem EntsAt.kp {S : List Addr} {H H' : Hp} (k : Kp S H H') {es : List Ent} (h : EntsAt H es) : EntsAt H' es := fun e he => (h e he).kp k
theorem inl_iff {i j : Int} : ((Sum.inl i : Key) = Sum.inl j) ↔ i = j := ⟨fun h => Sum.inl.inj h, fun h => by rw [h]⟩
theorem keyI {i j : Int} : decide ((Sum.inl i : Key) = Sum.inl j) = decide (i = j) := by
  by_cases h : i = j
  · rw [h, decide_eq_true rfl, decide_eq_true rfl]
  · rw [decide_eq_false h, decide_eq_false fun z => h (Sum.inl.inj z)]
theorem val_kvs (es : List Ent) (n : Int) : valV (kvs es) (.inl n) = (fnd es n).map fun e => V.ref e.a := by
  induction es with
  | nil => rfl
  | cons e r ih =>
    by_cases h : e.n = n
    · have z : valV (kvs (e :: r)) (.inl n) = some (V.ref e.a) := valV_pos (p := (Sum.inl e.n, V.ref e.a)) (by rw [h])
      rw [z]
      unfold fnd
      rw [List.find?_cons, decide_eq_true h]
      rfl
    · have z : valV (kvs (e :: r)) (.inl n) = valV (kvs r) (.inl n) := valV_neg (p := (Sum.inl e.n, V.ref e.a)) fun q => h (Sum.inl.inj q)
      rw [z, ih]
      unfold fnd
      rw [List.find?_cons, decide_eq_false h]
theorem fnd_mem {es : List Ent} {n : Int} {e : Ent} (h : fnd es n = some e) : e ∈ es ∧ e.n = n := by
  unfold fnd at h
  have q := List.find?_some h
  exact ⟨List.mem_of_find?_eq_some h, by simpa using q⟩
theorem fnd_none {es : List Ent} {n : Int} : fnd es n = none ↔ n ∉ nums es := by
  unfold fnd nums
  rw [List.find?_eq_none]
  constructor
  · intro h z
    obtain ⟨e, he, q⟩ := List.mem_map.mp z
    exact h e he (by simpa using q)
  · intro h e he q
    exact h (List.mem_map.mpr ⟨e, he, by simpa using q⟩)
theorem kvs_any (es : List Ent) (n : Int) : ((kvs es).any fun kv => decide (kv.1 = Sum.inl n)) = es.any fun e => decide (e.n = n) := by
  unfold kvs
  rw [List.any_map]
  congr 1
  funext e
  exact keyI
theorem kvs_put (es : List Ent) (n : Int) (a : Addr) (f : Fct) : kvs (putE es n a f) = putK (kvs es) (.inl n) (.ref a) := by
  unfold putE putK
  rw [kvs_any]
  split
  · unfold kvs
    rw [List.map_map, List.map_map]
    apply List.map_congr_left
    intro e _
    show (Sum.inl (if e.n = n then (⟨n, a, f⟩ : Ent) else e).n, V.ref (if e.n = n then (⟨n, a, f⟩ : Ent) else e).a) = (if (Sum.inl e.n : Key) = Sum.inl n then ((Sum.inl e.n : Key), V.ref a) else (Sum.inl e.n, V.ref e.a))
    by_cases h : e.n = n
    · rw [if_pos h, if_pos (by rw [h]), h]
    · rw [if_neg h, if_neg fun z => h (Sum.inl.inj z)]
  · unfold kvs
    rw [List.map_append]
    rfl
theorem kvs_drop (es : List Ent) (n : Int) : kvs (dropE es n) = dropK (kvs es) (.inl n) := by
  unfold dropE dropK kvs
  rw [List.filter_map]
  congr 2
  funext e
  simp
theorem kvs_len (es : List Ent) : (kvs es).length = es.length := List.length_map ..
theorem kvs_keys (es : List Ent) : (kvs es).map (·.1) = (nums es).map Sum.inl := by
  unfold kvs nums
  rw [List.map_map, List.map_map]
  rfl
theorem put_len (es : List Ent) (n : Int) (a : Addr) (f : Fct) : (putE es n a f).length ≤ es.length + 1 := by
  unfold putE
  split
  · rw [List.length_map]; exact Nat.le_succ _
  · rw [List.length_append]; exact Nat.le_refl _
theorem drop_len (es : List Ent) (n : Int) : (dropE es n).length ≤ es.length := List.length_filter_le _ _
theorem put_mem {es : List Ent} {n : Int} {a : Addr} {f : Fct} {e : Ent} (h : e ∈ putE es n a f) : e ∈ es ∨ e = ⟨n, a, f⟩ := by
  unfold putE at h
  split at h
  · obtain ⟨x, hx, q⟩ := List.mem_map.mp h
    by_cases c : x.n = n
    · rw [if_pos c] at q; exact .inr q.symm
    · rw [if_neg c] at q; exact .inl (q ▸ hx)
  · rcases List.mem_append.mp h with q | q
    · exact .inl q
    · exact .inr (List.mem_singleton.mp q)
theorem drop_mem {es : List Ent} {n : Int} {e : Ent} (h : e ∈ dropE es n) : e ∈ es := (List.mem_filter.mp h).1
theorem put_nums (es : List Ent) (n : Int) (a : Addr) (f : Fct) : nums (putE es n a f) = if (es.any fun e => decide (e.n = n)) = true then nums es else nums es ++ [n] := by
  unfold putE nums
  split
  · rw [List.map_map]
    apply List.map_congr_left
    intro e _
    show (if e.n = n then (⟨n, a, f⟩ : Ent) else e).n = e.n
    by_cases h : e.n = n
    · rw [if_pos h, h]
    · rw [if_neg h]
  · rw [List.map_append]
    rfl
theorem put_nodup {es : List Ent} (n : Int) (a : Addr) (f : Fct) (h : (nums es).Nodup) : (nums (putE es n a f)).Nodup := by
  rw [put_nums]
  split
  · exact h
  · rename_i c
    refine List.nodup_append.mpr ⟨h, by simp, fun x hx y hy q => ?_⟩
    obtain ⟨e, he, z⟩ := List.mem_map.mp (show x ∈ es.map (·.n) from hx)
    rw [List.mem_singleton.mp hy] at q
    exact c (List.any_eq_true.mpr ⟨e, he, by simpa using z.trans q⟩)
theorem drop_nodup {es : List Ent} (n : Int) (h : (nums es).Nodup) : (nums (dropE es n)).Nodup := by
  unfold nums dropE
  exact h.sublist ((List.filter_sublist).map _)
/-! ### models -/
structure Mo where
  es : List Ent
  told : Nat
structure MoOk (T : Nat) (m : Mo) : Prop where
  told : m.told ≤ T
  len : m.es.length ≤ T
  nd : (nums m.es).Nodup
  good : ∀ e ∈ m.es, Good e.f
  num : ∀ e ∈ m.es, 0 ≤ e.n ∧ e.n ≤ (T : Int)
theorem MoOk.mono {T U : Nat} {m : Mo} (h : MoOk T m) (q : T ≤ U) : MoOk U m := ⟨Nat.le_trans h.told q, Nat.le_trans h.len q, h.nd, h.good, fun e he => ⟨(h.num e he).1, Int.le_trans (h.num e he).2 (by omega)⟩⟩
inductive Deed where
  | tell (a : Addr) (f : Fct)
  | strike (n : Int)
  | right (n : Int) (a : Addr) (f : Fct)
def step (m : Mo) : Deed → Option Mo
  | .tell a f => some ⟨putE m.es ((m.told : Int) + 1) a f, m.told + 1⟩
  | .strike n => (fnd m.es n).map fun _ => ⟨dropE m.es n, m.told⟩
  | .right n a f => (fnd m.es n).bind fun e => if f.1 = e.f.1 then some ⟨putE m.es n a f, m.told⟩ else none
def DeedAt (H : Hp) : Deed → Prop
  | .tell a f => FctAt H a f ∧ Good f
  | .strike _ => True
  | .right _ a f => FctAt H a f ∧ Good f
theorem put_ok {T : Nat} {es : List Ent} {t : Nat} {n : Int} {a : Addr} {f : Fct} (h1 : es.length ≤ T) (h2 : (nums es).Nodup) (h3 : ∀ e ∈ es, Good e.f) (h4 : ∀ e ∈ es, 0 ≤ e.n ∧ e.n ≤ (T : Int)) (g : Good f) (ht : t ≤ T + 1) (hn : 0 ≤ n ∧ n ≤ (T : Int) + 1) : MoOk (T + 1) ⟨putE es n a f, t⟩ :=
  ⟨ht, Nat.le_trans (put_len ..) (Nat.succ_le_succ h1), put_nodup n a f h2, fun e he => by
    rcases put_mem he with q | q
    · exact h3 e q
    · rw [q]; exact g, fun e he => by
    rcases put_mem he with q | q
    · have := h4 e q; omega
    · rw [q]; exact ⟨hn.1, by show n ≤ _; omega⟩⟩
theorem step_ok {T : Nat} {m m' : Mo} {d : Deed} {H : Hp} (h : MoOk T m) (hd : DeedAt H d) (e : step m d = some m') : MoOk (T + 1) m' := by
  have ht := h.told
  cases d with
  | tell a f =>
    cases e
    exact put_ok h.len h.nd h.good h.num hd.2 (Nat.succ_le_succ h.told) (by omega)
  | strike n =>
    obtain ⟨x, _, rfl⟩ := Option.map_eq_some_iff.mp (show (fnd m.es n).map _ = some m' from e)
    exact ⟨Nat.le_succ_of_le h.told, Nat.le_succ_of_le (Nat.le_trans (drop_len ..) h.len), drop_nodup n h.nd, fun e he => h.good e (drop_mem he), fun e he => by have := h.num e (drop_mem he); omega⟩
  | right n a f =>
    obtain ⟨x, hx, q⟩ := Option.bind_eq_some_iff.mp (show (fnd m.es n).bind _ = some m' from e)
    split at q
    · cases q
      obtain ⟨m1, m2⟩ := fnd_mem hx
      have z := h.num x m1
      exact put_ok h.len h.nd h.good h.num hd.2 (Nat.le_succ_of_le h.told) (by omega)
    · cases q
/-- a dict of facts -/
def FsAt (H : Hp) (d : Addr) (es : List Ent) : Prop := H d = some (.dK (kvs es)) ∧ EntsAt H es
def HoldAt (CH : Addr) (H : Hp) (v : V) (m : Mo) : Prop := ∃ h dx d, v = .ref h ∧ H h = some (.ins CH dx [("there", .ref d), ("many_told", .int m.told)]) ∧ FsAt H d m.es
def ModelAt (H : Hp) (v : V) (m : Mo) : Prop := ∃ md d, v = .ref md ∧ H md = some (.dK [(Sum.inr "facts", .ref d), (Sum.inr "told", .int m.told)]) ∧ FsAt H d m.es
section
variable {H H' : Hp} {S : List Addr} {C CH : Addr}
theorem FsAt.kp (k : Kp S H H') (hS : ∀ s ∈ S, Mu C H s) {d : Addr} {es : List Ent} (h : FsAt H d es) : FsAt H' d es := ⟨k.im hS h.1 im_dK, h.2.kp k⟩
theorem FsAt.kpD (k : Kp S H H') {d : Addr} (hd : d ∉ S) {es : List Ent} (h : FsAt H d es) : FsAt H' d es := ⟨k.keep _ _ h.1 hd, h.2.kp k⟩
theorem HoldAt.kp (k : Kp S H H') (hS : ∀ s ∈ S, Mu C H s) (hC : CH ≠ C) {v : V} {m : Mo} (h : HoldAt CH H v m) : HoldAt CH H' v m := by
  obtain ⟨x, dx, d, e, h1, h2⟩ := h
  exact ⟨x, dx, d, e, k.im hS h1 (im_ins hC), h2.kp k hS⟩
theorem ModelAt.kp (k : Kp S H H') (hS : ∀ s ∈ S, Mu C H s) {v : V} {m : Mo} (h : ModelAt H v m) : ModelAt H' v m := by
  obtain ⟨x, d, e, h1, h2⟩ := h
  exact ⟨x, d, e, k.im hS h1 im_dK, h2.kp k hS⟩
end
end Pk

namespace Pk
open PySem PySem.Spec PyProof.Rows L2
/-! ### what is known of the program's top -/
structure Txt (K : PySem.W.Frag) (mg : Str → Option Value) (CH CR : Addr) : Prop where
  clH : Cls K CH
  clR : Cls K CR
  hTh : NoAttr K CH "there"
  hMt : NoAttr K CH "many_told"
  rTk : NoAttr K CR "times_kept"
  rGn : NoAttr K CR "gone"
  gH : mg "Hold" = some (.ref CH)
  gR : mg "Roll" = some (.ref CR)
  ne : CH ≠ CR
  len : mg "len" = none
  list : mg "list" = none
  range : mg "range" = none
  tuple : mg "tuple" = none
  int : mg "int" = none
  isi : mg "isinstance" = none
  sorted : mg "sorted" = none
  dict : mg "dict" = none
  enum : mg "enumerate" = none
  zip : mg "zip" = none
  all : mg "all" = none
  bool : mg "bool" = none
  repr : mg "repr" = none
section
variable {P : Program} {w : World} {K : PySem.W.Frag} {mg : Str → Option Value} {base : Heap} {CH CR : Addr}
/-- a def of the module that keeps its promise -/
def Has (P : Program) (w : World) (K : PySem.W.Frag) (mg : Str → Option Value) (base : Heap) (CX : CXT) (k : Nat) (x : Str) (ps : List Str) (sp : Sp) : Prop :=
  ∃ f fd, mg x = some (.ref f) ∧ PySem.W.keepIn K (.ref f) = true ∧ Binds K fd ps [] ∧ FnOk P w K mg base CX k f fd ps sp
/-- the class at C has the method x, which keeps its promise -/
def HasM (P : Program) (w : World) (K : PySem.W.Frag) (mg : Str → Option Value) (base : Heap) (CX : CXT) (k : Nat) (C : Addr) (x : Str) (ps : List Str) (sp : Sp) : Prop :=
  ∃ f fd, Meth K C x f ∧ Binds K fd ps [] ∧ FnOk P w K mg base CX k f fd ps sp
/-- a class with its __init__ -/
def HasC (P : Program) (w : World) (K : PySem.W.Frag) (mg : Str → Option Value) (base : Heap) (CX : CXT) (k : Nat) (C : Addr) (ps : List Str) (sp : Sp) : Prop :=
  ∃ f fd, Mk K C f ∧ Binds K fd ps [] ∧ FnOk P w K mg base CX k f fd ps sp
/-! ### fields -/
abbrev hf (t n : V) : List (Str × V) := [("there", t), ("many_told", n)]
abbrev rf (tk gn : V) : List (Str × V) := [("times_kept", tk), ("gone", gn)]
theorem hf_put (t n : V) : putF "many_told" n (putF "there" t []) = hf t n := by
  show (if ("there" : Str) = "many_told" then _ else _) = _
  exact if_neg (by decide +kernel)
theorem rf_put (t n : V) : putF "gone" n (putF "times_kept" t []) = rf t n := by
  show (if ("times_kept" : Str) = "gone" then _ else _) = _
  exact if_neg (by decide +kernel)
theorem rf_gone (t n m : V) : putF "gone" m (rf t n) = rf t m := by
  show (if ("times_kept" : Str) = "gone" then _ else (("times_kept" : Str), t) :: (if ("gone" : Str) = "gone" then _ else _)) = _
  rw [if_neg (by decide +kernel), if_pos rfl]
theorem rf_tk (t n m : V) : putF "times_kept" m (rf t n) = rf m n := by
  show (if ("times_kept" : Str) = "times_kept" then _ else _) = _
  rw [if_pos rfl]
theorem rf_look1 (t n : V) : (rf t n).lookup ("times_kept" : Str) = some t := by
  unfold rf List.lookup
  simp
theorem rf_look2 (t n : V) : (rf t n).lookup ("gone" : Str) = some n := by
  have h : (("gone" : Str) == "times_kept") = false := by decide +kernel
  unfold rf
  rw [List.lookup_cons, h, List.lookup_cons]
  simp
theorem rf_no (t n : V) {m : Str} (h1 : (m == ("times_kept" : Str)) = false) (h2 : (m == ("gone" : Str)) = false) : (rf t n).lookup m = none := by
  unfold rf
  rw [List.lookup_cons, h1, List.lookup_cons, h2]
  rfl
theorem hf_look1 (t n : V) : (hf t n).lookup ("there" : Str) = some t := by
  unfold hf List.lookup
  simp
theorem hf_look2 (t n : V) : (hf t n).lookup ("many_told" : Str) = some n := by
  have h : (("many_told" : Str) == "there") = false := by decide +kernel
  unfold hf
  rw [List.lookup_cons, h, List.lookup_cons]
  simp
/-! ### Hold -/
def spHI (CH : Addr) : Sp := fun vs H Q _ => ∃ (p dx : Addr) (t n : V), vs = [.ref p, t, n] ∧ H p = some (.ins CH dx []) ∧ Q .non (upd H p (.ins CH dx (hf t n)))
theorem ok_hi {f : Addr} {fd : FuncData} (F : Fun K "__init__" "Hold.__init__" sHI f fd) (T : Txt K mg CH CR) : FnOk P w K mg base CX0 1 f fd pHI (spHI CH) := by
  refine F.ok scHI (fun vs H Q E h => ?_) (fun cdv A outer s H vs Q E hr h => ?_)
  · obtain ⟨p, dx, t, n, rfl, _⟩ := h
    rfl
  · obtain ⟨p, dx, t, n, rfl, hp, k⟩ := h
    refine ⟨_, pss_cons (ps_fld (pv 0) (pv 1) rfl) (pss_one (ps_fld (pv 0) (pv 2) rfl)), ?_⟩
    refine ⟨_, rfl, _, rfl, p, CH, dx, [], rfl, hp, T.clH, T.hTh, (by show 0 < 1000; decide), _, rfl, _, rfl, p, CH, dx, _, rfl, upd_same, T.clH, T.hMt, (by show 1 < 1000; decide), ?_⟩
    rw [upd_upd, hf_put]
    exact k
/-! ### Roll.go_on -/
def spGo (CH CR : Addr) : Sp := fun vs H Q _ => ∃ (x dx tk gn d : Addr) (n : Int) (hs : List V), vs = [.ref x, .ref d, .int n] ∧ H x = some (.ins CR dx (rf (.ref tk) (.ref gn))) ∧ H tk = some (.lst hs) ∧ hs.length ≤ 1000 ∧
  ∀ H' h hx g, Kp [x, tk] H H' → H' h = some (.ins CH hx (hf (.ref d) (.int n))) → H' tk = some (.lst (hs ++ [.ref h])) → H g = none → H' g = some (.lst []) → H' x = some (.ins CR dx (rf (.ref tk) (.ref g))) → Q .non H'
theorem ok_go {f : Addr} {fd : FuncData} (F : Fun K "go_on" "Roll.go_on" sRGo f fd) (T : Txt K mg CH CR) (GH : HasC P w K mg base CX0 1 CH pHI (spHI CH)) : FnOk P w K mg base CX0 3 f fd pRGo (spGo CH CR) := by
  obtain ⟨fh, fdh, M, b, G⟩ := GH
  refine F.ok scRGo (fun vs H Q E h => ?_) (fun cdv A outer s H vs Q E hr h => ?_)
  · obtain ⟨x, dx, tk, gn, d, n, hs, rfl, _⟩ := h
    rfl
  · obtain ⟨x, dx, tk, gn, d, n, hs, rfl, hx, htk, hl, k⟩ := h
    have n1 : x ≠ tk := ne_of hx htk (by intro z; cases z)
    refine ⟨_, pss_cons (ps_expr (pe_bm PySem.F.plainAttrs_list PySem.F.slot_list_append PySem.F.type_list_append mt_append (pe_fld (pv 0) rfl) (pa_cons (pe_make M G hr rfl T.gH b .nil pass0 (pa_cons (pv 1) (pa_cons (pv 2) pa_nil))) pa_nil)))
      (pss_one (ps_fld (pv 0) (pe_lst pa_nil) rfl)), ?_⟩
    refine ⟨_, rfl, x, CR, dx, _, _, rfl, hx, T.clR, T.rTk, rf_look1 _ _, .inl ⟨rfl, _, SqL.of htk⟩, _, rfl, _, rfl, ?_⟩
    intro h hx' nh nhx ne
    have a1 : x ≠ h := ne_of_none hx nh
    have a2 : x ≠ hx' := ne_of_none hx nhx
    have a3 : tk ≠ h := ne_of_none htk nh
    have a4 : tk ≠ hx' := ne_of_none htk nhx
    refine ⟨h, hx', _, _, rfl, upd_same, rfl, tk, hs, .ref h, rfl, rfl, by rw [upd_upd, upd_ne a3, upd_ne a4]; exact htk, Nat.lt_of_le_of_lt hl (by decide), ?_⟩
    refine ⟨Nat.zero_le _, fun g ng => ?_⟩
    rw [upd_upd] at ng ⊢
    have kp : Kp [x, tk] H (upd (upd (upd H hx' (.own h)) h (.ins CH hx' (hf (.ref d) (.int n)))) tk (.lst (hs ++ [.ref h]))) :=
      ((Kp.new nhx).andN (Kp.new (S := [x, tk]) (by rw [upd_ne ne.symm]; exact nh)) (fun a h => .inl h)).trans ((Kp.put (u := .lst hs) (by rw [upd_ne a3, upd_ne a4]; exact htk) (by intro xs z; cases z)).mono (by simp))
    have g0 : H g = none := kp.free g ng
    have a5 : x ≠ g := ne_of_none hx g0
    have a6 : tk ≠ g := ne_of_none htk g0
    have a7 : h ≠ g := fun z => by rw [← z, upd_ne a3.symm, upd_same] at ng; cases ng
    refine ⟨_, rfl, x, CR, dx, _, rfl, by rw [upd_ne a5, upd_ne n1, upd_ne a1, upd_ne a2]; exact hx, T.clR, T.rGn, (by show 2 < 1000; decide), ?_⟩
    rw [rf_gone]
    refine k _ h hx' g ((kp.newN ng).trans ((Kp.put (u := .ins CR dx (rf (.ref tk) (.ref gn))) ?_ (by intro xs z; cases z)).mono (by simp))) ?_ ?_ g0 ?_ upd_same
    · rw [upd_ne a5, upd_ne n1, upd_ne a1, upd_ne a2]; exact hx
    · rw [upd_ne a1.symm, upd_ne a7, upd_ne a3.symm, upd_same]
    · rw [upd_ne n1.symm, upd_ne a6, upd_same]
    · rw [upd_ne a5.symm, upd_same]
/-! ### what a roll holds -/
structure RAt (CH CR : Addr) (H : Hp) (x tk gn : Addr) (past gone : List Mo) : Prop where
  ex : ∃ dx hs gs, H x = some (.ins CR dx (rf (.ref tk) (.ref gn))) ∧ H tk = some (.lst hs) ∧ H gn = some (.lst gs) ∧ Paired (HoldAt CH H) hs past ∧ Paired (HoldAt CH H) gs gone
theorem holds_kp {S : List Addr} {H H' : Hp} (k : Kp S H H') (hS : ∀ s ∈ S, Mu CR H s) (hC : CH ≠ CR) {hs : List V} {ms : List Mo} (h : Paired (HoldAt CH H) hs ms) : Paired (HoldAt CH H') hs ms := Paired.mapP h fun _ _ q => q.kp k hS hC
theorem RAt.kp {S : List Addr} {H H' : Hp} (k : Kp S H H') (hS : ∀ s ∈ S, Mu CR H s) (hC : CH ≠ CR) {x tk gn : Addr} {past gone : List Mo} (h1 : x ∉ S) (h2 : tk ∉ S) (h3 : gn ∉ S) (h : RAt CH CR H x tk gn past gone) : RAt CH CR H' x tk gn past gone := by
  obtain ⟨dx, hs, gs, e1, e2, e3, e4, e5⟩ := h.ex
  exact ⟨dx, hs, gs, k.keep _ _ e1 h1, k.keep _ _ e2 h2, k.keep _ _ e3 h3, holds_kp k hS hC e4, holds_kp k hS hC e5⟩
/-- at the end of the list -/
theorem paired_snoc {α β : Type} {F : α → β → Prop} : ∀ {xs : List α} {ys : List β} {y : β}, Paired F xs (ys ++ [y]) → ∃ zs z, xs = zs ++ [z] ∧ Paired F zs ys ∧ F z y
  | _, [], y, h => by
    cases h with
    | cons a b =>
      cases b
      exact ⟨[], _, rfl, .nil, a⟩
  | _, _ :: ys, y, h => by
    cases h with
    | cons a b =>
      obtain ⟨zs, z, rfl, q1, q2⟩ := paired_snoc (ys := ys) b
      exact ⟨_ :: zs, z, rfl, .cons a q1, q2⟩
theorem paired_app {α β : Type} {F : α → β → Prop} {xs : List α} {ys : List β} {x : α} {y : β} (h : Paired F xs ys) (q : F x y) : Paired F (xs ++ [x]) (ys ++ [y]) := by
  induction h with
  | nil => exact .cons q .nil
  | cons a _ ih => exact .cons a ih
/-- the roll's hold that counts -/
theorem RAt.last {H : Hp} {x tk gn : Addr} {past gone : List Mo} {m : Mo} (h : RAt CH CR H x tk gn (past ++ [m]) gone) :
    ∃ dx hs gs hd hx d, H x = some (.ins CR dx (rf (.ref tk) (.ref gn))) ∧ H tk = some (.lst (hs ++ [.ref hd])) ∧ H gn = some (.lst gs) ∧ Paired (HoldAt CH H) hs past ∧ Paired (HoldAt CH H) gs gone ∧
      H hd = some (.ins CH hx (hf (.ref d) (.int m.told))) ∧ FsAt H d m.es := by
  obtain ⟨dx, hs, gs, e1, e2, e3, e4, e5⟩ := h.ex
  obtain ⟨zs, z, rfl, q1, hd, hx, d, rfl, q3, q4⟩ := paired_snoc e4
  exact ⟨dx, zs, gs, hd, hx, d, e1, e2, e3, q1, e5, q3, q4⟩
/-! ### Roll.told, deeds, len -/
def spRTold (CH CR : Addr) : Sp := fun vs H Q _ => ∃ (x tk gn : Addr) (past gone : List Mo) (m : Mo), vs = [.ref x] ∧ RAt CH CR H x tk gn (past ++ [m]) gone ∧ Q (.int m.told) H
theorem ok_rtold {f : Addr} {fd : FuncData} (F : Fun K "told" "Roll.told" sRTold f fd) (T : Txt K mg CH CR) : FnOk P w K mg base CX0 1 f fd pRTold (spRTold CH CR) := by
  refine F.ok scRTold (fun vs H Q E h => ?_) (fun cdv A outer s H vs Q E hr h => ?_)
  · obtain ⟨x, tk, gn, past, gone, m, rfl, _⟩ := h
    rfl
  · obtain ⟨x, tk, gn, past, gone, m, rfl, R, k⟩ := h
    obtain ⟨dx, hs, gs, hd, hx, d, e1, e2, e3, e4, e5, e6, e7⟩ := R.last
    refine ⟨_, pss_one (ps_ret (pe_fld (pe_ix ix_list (pe_fld (pv 0) rfl) (pe_un un_neg pe_int) (fun _ _ => rfl)) rfl)), ?_⟩
    exact ⟨_, rfl, x, CR, dx, _, _, rfl, e1, T.clR, T.rTk, rf_look1 _ _, _, rfl, tk, _, _, _, rfl, rfl, SqL.of e2, atI_last _ _, hd, CH, hx, _, _, rfl, e6, T.clH, T.hMt, hf_look2 _ _, k⟩
def spRDeeds (CH CR : Addr) : Sp := fun vs H Q _ => ∃ (x tk gn : Addr) (past gone : List Mo), vs = [.ref x] ∧ RAt CH CR H x tk gn past gone ∧ Q (.int ((past.length : Int) - 1)) H
theorem paired_len {α β : Type} {F : α → β → Prop} {xs : List α} {ys : List β} (h : Paired F xs ys) : xs.length = ys.length := Paired.length h
theorem ok_rdeeds {f : Addr} {fd : FuncData} (F : Fun K "deeds" "Roll.deeds" sRDeeds f fd) (T : Txt K mg CH CR) : FnOk P w K mg base CX0 1 f fd pRDeeds (spRDeeds CH CR) := by
  refine F.ok scRDeeds (fun vs H Q E h => ?_) (fun cdv A outer s H vs Q E hr h => ?_)
  · obtain ⟨x, tk, gn, past, gone, rfl, _⟩ := h
    rfl
  · obtain ⟨x, tk, gn, past, gone, rfl, R, k⟩ := h
    obtain ⟨dx, hs, gs, e1, e2, e3, e4, e5⟩ := R.ex
    refine ⟨_, pss_one (ps_ret (pe_op op_sub (pe_callB call_len_seq (by rfl) T.len PySem.boot_len (pa_cons (pe_fld (pv 0) rfl) pa_nil)) pe_int)), ?_⟩
    refine ⟨_, rfl, x, CR, dx, _, _, rfl, e1, T.clR, T.rTk, rf_look1 _ _, tk, _, rfl, .inl (SqL.of e2), _, _, rfl, rfl, ?_⟩
    rw [paired_len e4]
    exact k
def spRLen (CH CR : Addr) : Sp := fun vs H Q _ => ∃ (x tk gn : Addr) (past gone : List Mo) (m : Mo), vs = [.ref x] ∧ RAt CH CR H x tk gn (past ++ [m]) gone ∧ Q (.int m.es.length) H
theorem ok_rlen {f : Addr} {fd : FuncData} (F : Fun K "__len__" "Roll.__len__" sRLen f fd) (T : Txt K mg CH CR) : FnOk P w K mg base CX0 1 f fd pRLen (spRLen CH CR) := by
  refine F.ok scRLen (fun vs H Q E h => ?_) (fun cdv A outer s H vs Q E hr h => ?_)
  · obtain ⟨x, tk, gn, past, gone, m, rfl, _⟩ := h
    rfl
  · obtain ⟨x, tk, gn, past, gone, m, rfl, R, k⟩ := h
    obtain ⟨dx, hs, gs, hd, hx, d, e1, e2, e3, e4, e5, e6, e7⟩ := R.last
    refine ⟨_, pss_one (ps_ret (pe_callB call_lenD (by rfl) T.len PySem.boot_len (pa_cons (pe_fld (pe_ix ix_list (pe_fld (pv 0) rfl) (pe_un un_neg pe_int) (fun _ _ => rfl)) rfl) pa_nil))), ?_⟩
    refine ⟨_, rfl, x, CR, dx, _, _, rfl, e1, T.clR, T.rTk, rf_look1 _ _, _, rfl, tk, _, _, _, rfl, rfl, SqL.of e2, atI_last _ _, hd, CH, hx, _, _, rfl, e6, T.clH, T.hTh, hf_look1 _ _, d, _, rfl, e7.1, ?_⟩
    rw [kvs_len]
    exact k
end
end Pk

namespace Pk
open PySem PySem.Spec PyProof.Rows L2
section
variable {P : Program} {w : World} {K : PySem.W.Frag} {mg : Str → Option Value} {base : Heap} {CH CR : Addr}
/-! ### Roll.__init__ -/
def mo0 : Mo := ⟨[], 0⟩
def spRI (CH CR : Addr) : Sp := fun vs H Q _ => ∃ (x dx : Addr), vs = [.ref x] ∧ H x = some (.ins CR dx []) ∧
  ∀ H' tk gn, Kp [x] H H' → H tk = none → H gn = none → tk ≠ gn → RAt CH CR H' x tk gn [mo0] [] → Q .non H'
theorem ok_ri {f : Addr} {fd : FuncData} (F : Fun K "__init__" "Roll.__init__" sRI f fd) (T : Txt K mg CH CR) (GH : HasC P w K mg base CX0 1 CH pHI (spHI CH)) : FnOk P w K mg base CX0 3 f fd pRI (spRI CH CR) := by
  obtain ⟨fh, fdh, M, b, G⟩ := GH
  refine F.ok scRI (fun vs H Q E h => ?_) (fun cdv A outer s H vs Q E hr h => ?_)
  · obtain ⟨x, dx, rfl, _⟩ := h
    rfl
  · obtain ⟨x, dx, rfl, hx, k⟩ := h
    refine ⟨_, pss_cons (ps_fld (pv 0) (pe_lst (pa_cons (pe_make M G hr rfl T.gH b .nil pass0 (pa_cons pe_dnewK (pa_cons pe_int pa_nil))) pa_nil)) rfl)
      (pss_one (ps_fld (pv 0) (pe_lst pa_nil) rfl)), ?_⟩
    intro d nd h hx' nh nhx ne
    refine ⟨h, hx', _, _, rfl, upd_same, rfl, (by show 1 ≤ sizeLine; decide), fun tk ntk => ?_⟩
    refine ⟨_, rfl, x, CR, dx, [], rfl, ?_, T.clR, T.rTk, (by show 0 < 1000; decide), (by show 0 ≤ sizeLine; decide), fun gn ngn => ?_⟩
    · grind [upd]
    refine ⟨_, rfl, x, CR, dx, putF "times_kept" (.ref tk) [], rfl, ?_, T.clR, T.rGn, (by show 1 < 1000; decide), ?_⟩
    · grind [upd]
    rw [rf_put]
    refine k _ tk gn ⟨fun a o e n => ?_, fun a xs e => ?_, fun a e => ?_⟩ ?_ ?_ ?_ ⟨dx, [.ref h], [], ?_, ?_, ?_, .cons ⟨h, hx', d, rfl, ?_, ?_, fun e h => by cases h⟩ .nil, .nil⟩
    all_goals grind (splits := 60) [upd, mo0, kvs]
/-! ### Roll.twin -/
def spRTwin (CH CR : Addr) : Sp := fun vs H Q _ => ∃ (x tk gn : Addr) (past gone : List Mo), vs = [.ref x] ∧ RAt CH CR H x tk gn past gone ∧
  ∀ H' y tk' gn', Kp [] H H' → H y = none → H tk' = none → H gn' = none → y ≠ tk' → tk' ≠ gn' → y ≠ gn' → RAt CH CR H' y tk' gn' past gone → Q (.ref y) H'
theorem ok_rtwin {f : Addr} {fd : FuncData} (F : Fun K "twin" "Roll.twin" sRTwin f fd) (T : Txt K mg CH CR) (GR : HasC P w K mg base CX0 3 CR pRI (spRI CH CR)) : FnOk P w K mg base CX0 5 f fd pRTwin (spRTwin CH CR) := by
  obtain ⟨fr, fdr, M, b, G⟩ := GR
  refine F.ok scRTwin (fun vs H Q E h => ?_) (fun cdv A outer s H vs Q E hr h => ?_)
  · obtain ⟨x, tk, gn, past, gone, rfl, _⟩ := h
    rfl
  · obtain ⟨x, tk, gn, past, gone, rfl, R, k⟩ := h
    obtain ⟨dx, hs, gs, e1, e2, e3, e4, e5⟩ := R.ex
    refine ⟨_, pss_cons (ps_set (i := 1) scRTwin.nd rfl (Or.inl rfl) (pe_make0 M G hr rfl T.gR b .nil pass0))
      (pss_cons (ps_fld (pv 1) (pe_callTy call_list_of (by rfl) T.list boot_list (pa_cons (pe_fld (pv 0) rfl) pa_nil)) rfl)
      (pss_cons (ps_fld (pv 1) (pe_callTy call_list_of (by rfl) T.list boot_list (pa_cons (pe_fld (pv 0) rfl) pa_nil)) rfl)
      (pss_one (ps_ret (pv 1))))), ?_⟩
    intro y dy ny ndy ne
    refine ⟨y, dy, rfl, upd_same, fun H1 t1 g1 k1 n1 n2 n3 R1 => ⟨rfl, ?_⟩⟩
    have kp1 : Kp [] H H1 := ((Kp.new ndy).newN (by rw [upd_ne ne.symm]; exact ny)).andN k1 (fun a ha => .inr (by rw [List.mem_singleton.mp ha]; exact ny))
    obtain ⟨dy', hs', gs', f1, f2, f3, f4, f5⟩ := R1.ex
    have a1 : x ≠ y := ne_of_none e1 ny
    refine ⟨_, rfl, x, CR, dx, _, _, rfl, kp1.same _ _ e1, T.clR, T.rTk, rf_look1 _ _, tk, hs, rfl, .inl (SqL.of (kp1.same _ _ e2)), fun l nl => ?_⟩
    refine ⟨_, rfl, y, CR, dy', _, rfl, (by rw [upd_ne (ne_of_none f1 nl)]; exact f1), T.clR, T.rTk, (by show 2 < 1000; decide), ?_⟩
    rw [rf_tk]
    have kp2 : Kp [] H (upd (upd H1 l (.lst hs)) y (.ins CR dy' (rf (.ref l) (.ref g1)))) := (kp1.newN nl).putN ny
    refine ⟨_, rfl, x, CR, dx, _, _, rfl, kp2.same _ _ e1, T.clR, T.rGn, rf_look2 _ _, gn, gs, rfl, .inl (SqL.of (kp2.same _ _ e3)), fun l2 nl2 => ?_⟩
    refine ⟨_, rfl, y, CR, dy', rf (.ref l) (.ref g1), rfl, ?_, T.clR, T.rGn, (by show 2 < 1000; decide), ?_⟩
    · grind [upd]
    rw [rf_gone]
    have kp3 : Kp [] H (upd (upd (upd (upd H1 l (.lst hs)) y (.ins CR dy' (rf (.ref l) (.ref g1)))) l2 (.lst gs)) y (.ins CR dy' (rf (.ref l) (.ref l2)))) := (kp2.newN nl2).putN ny
    refine ⟨_, rfl, ?_⟩
    refine k _ y l l2 kp3 ny (kp1.free _ nl) (kp2.free _ nl2) ?_ ?_ ?_ ⟨dy', hs, gs, ?_, ?_, ?_, holds_kp kp3 (fun s h => by cases h) T.ne e4, holds_kp kp3 (fun s h => by cases h) T.ne e5⟩
    all_goals grind [upd]
end
end Pk

namespace Pk
open PySem PySem.Spec PyProof.Rows L2
section
variable {P : Program} {w : World} {K : PySem.W.Frag} {mg : Str → Option Value} {base : Heap} {CH CR : Addr}
/-! ### the sorted numbers; the list of facts -/
def srt (es : List Ent) : List Int := (nums es).mergeSort
theorem srt_perm (es : List Ent) : (srt es).Perm (nums es) := List.mergeSort_perm _ _
theorem srt_sorted (es : List Ent) : (srt es).Pairwise (· ≤ ·) := by
  have h := List.pairwise_mergeSort (le := fun (a b : Int) => decide (a ≤ b)) (by intro a b c h1 h2; simp at *; omega) (by intro a b; simp; omega) (nums es)
  exact h.imp (by simp)
theorem srt_is {es : List Ent} {ys : List Int} (p : ys.Perm (nums es)) (h : ys.Pairwise (· ≤ ·)) : ys = srt es :=
  List.Perm.eq_of_pairwise (le := (· ≤ ·)) (fun a b _ _ h1 h2 => Int.le_antisymm h1 h2) h (srt_sorted es) (p.trans (srt_perm es).symm)
def PairAt (H : Hp) (es : List Ent) (v : V) (n : Int) : Prop := ∃ a e, v = .ref a ∧ fnd es n = some e ∧ H a = some (.tup [.int n, .ref e.a]) ∧ FctAt H e.a e.f
/-- a list of the facts, by their numbers -/
def FlAt (H : Hp) (p : Addr) (es : List Ent) : Prop := ∃ vs, H p = some (.lst vs) ∧ Paired (PairAt H es) vs (srt es)
theorem PairAt.kp {S : List Addr} {H H' : Hp} (k : Kp S H H') {es : List Ent} {v : V} {n : Int} (h : PairAt H es v n) : PairAt H' es v n := by
  obtain ⟨a, e, h1, h2, h3, h4⟩ := h
  exact ⟨a, e, h1, h2, k.tups _ _ h3, h4.kp k⟩
theorem FlAt.kp {S : List Addr} {H H' : Hp} (k : Kp S H H') {p : Addr} (hp : p ∉ S) {es : List Ent} (h : FlAt H p es) : FlAt H' p es := by
  obtain ⟨vs, h1, h2⟩ := h
  exact ⟨vs, k.keep _ _ h1 hp, Paired.mapP h2 fun _ _ q => q.kp k⟩
def fctOf (es : List Ent) (n : Int) : Fct := match fnd es n with
  | some e => e.f
  | none => ("", [])
def factsD (es : List Ent) : List PyData := (srt es).map fun n => .tuple [.int n, fctD (fctOf es n)]
theorem FlAt.dp {H : Hp} {p : Addr} {es : List Ent} (h : FlAt H p es) : Dp K H (.ref p) (.list (factsD es)) := by
  obtain ⟨vs, h1, h2⟩ := h
  refine .lst (SqL.of h1) ?_
  unfold factsD
  clear h1
  generalize srt es = ns at h2 ⊢
  induction h2 with
  | nil => exact .nil
  | @cons v n _ _ q _ ih =>
    obtain ⟨a, e, rfl, e1, e2, e3⟩ := q
    refine .cons (.tup (SqT.of e2) (.cons (.int n) (.cons ?_ .nil))) ih
    unfold fctOf
    rw [e1]
    exact e3.dp
/-- the loop that makes it, from a dict -/
theorem fnd_of_mem {es : List Ent} {n : Int} (h : n ∈ nums es) : ∃ e, fnd es n = some e := by
  cases q : fnd es n with
  | some e => exact ⟨e, rfl⟩
  | none => exact absurd h (fnd_none.mp q)
theorem paired_take_snoc {α β : Type} {F : α → β → Prop} {xs : List α} {ys : List β} {x : α} {y : β} {i : Nat} (h : Paired F xs (ys.take i)) (e : ys[i]? = some y) (q : F x y) : Paired F (xs ++ [x]) (ys.take (i + 1)) := by
  rw [List.take_add_one, e]
  exact paired_app h q
def spRFacts (CH CR : Addr) : Sp := fun vs H Q _ => ∃ (x tk gn : Addr) (past gone : List Mo) (m : Mo), vs = [.ref x] ∧ RAt CH CR H x tk gn (past ++ [m]) gone ∧ m.es.length < 64 ∧
  ∀ H' p, Kp [] H H' → H p = none → FlAt H' p m.es → Q (.ref p) H'
theorem ok_rfacts {f : Addr} {fd : FuncData} (F : Fun K "facts" "Roll.facts" sRFacts f fd) (T : Txt K mg CH CR) : FnOk P w K mg base CX0 1 f fd pRFacts (spRFacts CH CR) := by
  refine F.ok scRFacts (fun vs H Q E h => ?_) (fun cdv A outer s H vs Q E hr h => ?_)
  · obtain ⟨x, tk, gn, past, gone, m, rfl, _⟩ := h
    rfl
  · obtain ⟨x, tk, gn, past, gone, m, rfl, R, hl, k⟩ := h
    obtain ⟨dx, hs, gs, hd, hx, d, e1, e2, e3, e4, e5, e6, e7⟩ := R.last
    refine ⟨_, pss_cons (ps_set (i := 1) scRFacts.nd rfl (Or.inr rfl) (pe_fld (pe_ix ix_list (pe_fld (pv 0) rfl) (pe_un un_neg pe_int) (fun _ _ => rfl)) rfl))
      (pss_one (ps_ret (pe_lc (own := [("number", 2)]) (g := gName 2) (tt := tYes) rfl scRFacts.nd (pi_list (pe_callB (call_sortedDI rfl) (by rfl) T.sorted boot_sorted (pa_cons (pv 1) pa_nil)))
        (blkOk_by (N := nRFacts) (sc := defScope sRFacts) (by decide +kernel)) (fun _ _ _ _ _ => pg_name (i := 2) scRFacts.nd rfl (Or.inl rfl)) (fun _ _ _ _ _ => pts_nil)
        (fun _ _ _ _ _ => pe_tup (pa_cons (pv 2) (pa_cons (pe_dget (hu_of hr) (pv 1) (pv 2) (fun _ _ => rfl)) pa_nil)))))), ?_⟩
    refine ⟨_, rfl, x, CR, dx, _, _, rfl, e1, T.clR, T.rTk, rf_look1 _ _, _, rfl, tk, _, _, _, rfl, rfl, SqL.of e2, atI_last _ _, hd, CH, hx, _, _, rfl, e6, T.clH, T.hTh, hf_look1 _ _, ?_⟩
    refine ⟨_, rfl, d, _, nums m.es, rfl, .inl e7.1, kvs_keys _, by rw [show (nums m.es).length = m.es.length from List.length_map ..]; exact hl, fun ys p hp hs' np => ?_⟩
    obtain rfl := srt_is hp hs'
    refine ⟨p, rfl, ⟨_, SqL.of upd_same⟩, fun D nD => ?_⟩
    refine lc_list (K := K) (a := p) (xs := (srt m.es).map V.int) (fun i H' => Kp [] (upd H p (.lst ((srt m.es).map V.int))) H' ∧ ∃ acc, H' D = some (.lst acc) ∧ Paired (PairAt H' m.es) acc ((srt m.es).take i))
      ⟨Kp.new nD, [], upd_same, .nil⟩ (fun i H' _ q => SqL.of (q.1.same _ _ upd_same)) (fun i z H' hi q => ?_) (fun H' q => ?_)
    · obtain ⟨kp, acc, hD, hP⟩ := q
      obtain ⟨n, hn, rfl⟩ : ∃ n, (srt m.es)[i]? = some n ∧ z = .int n := by
        rw [List.getElem?_map] at hi
        obtain ⟨n, q1, q2⟩ := Option.map_eq_some_iff.mp hi
        exact ⟨n, q1, q2.symm⟩
      obtain ⟨e, he⟩ := fnd_of_mem ((srt_perm m.es).mem_iff.mp (List.mem_of_getElem? hn))
      have k0 : Kp [] H H' := (Kp.new np).andN kp (fun a h => by cases h)
      have ha : FctAt H' e.a e.f := (e7.2 e (fnd_mem he).1).kp k0
      refine ⟨rfl, _, rfl, _, rfl, _, rfl, d, .ref e.a, rfl, .inl ⟨_, .inl n, .inl (k0.same _ _ e7.1), rfl, ?_⟩, (by show 2 ≤ sizeLine; decide), fun t nt => ⟨acc, ?_, ?_, ?_, _, upd_same, ?_⟩⟩
      · rw [val_kvs, he]
        rfl
      · grind [upd]
      · rw [paired_len hP]
        have z : ((srt m.es).take i).length ≤ (srt m.es).length := by rw [List.length_take]; exact Nat.min_le_right _ _
        rw [(srt_perm m.es).length_eq] at z
        have z2 : (nums m.es).length = m.es.length := List.length_map ..
        rw [sizeLine_eq]
        omega
      · have nD0 : (upd H p (.lst ((srt m.es).map V.int))) D = none := nD
        exact (kp.newN nt).putN nD0
      · have tD : t ≠ D := fun z => by rw [z, hD] at nt; cases nt
        have kt : Kp [D] H' (upd (upd H' t (.tup [.int n, .ref e.a])) D (.lst (acc ++ [.ref t]))) := (Kp.new nt).trans (Kp.put (u := .lst acc) (by rw [upd_ne tD.symm]; exact hD) (fun _ z => by cases z))
        refine paired_take_snoc (Paired.mapP hP fun _ _ q => q.kp kt) hn ⟨t, e, rfl, he, ?_, ha.kp kt⟩
        rw [upd_ne tD, upd_same]
    · obtain ⟨kp, acc, hD, hP⟩ := q
      refine k H' D ((Kp.new np).andN kp (fun a h => by cases h)) ?_ ⟨acc, hD, ?_⟩
      · grind [upd]
      · rw [List.length_map, List.take_length] at hP
        exact hP
end
end Pk

namespace Pk
open PySem PySem.Spec PyProof.Rows L2
/-- what the top says of the program's errors -/
structure Err (K : PySem.W.Frag) (mg : Str → Option Value) (CP CM CO CN CF : Addr) : Prop where
  gP : mg "PikeError" = some (.ref CP)
  gM : mg "Missing" = some (.ref CM)
  gO : mg "Other" = some (.ref CO)
  gN : mg "Nothing" = some (.ref CN)
  gF : mg "NoFact" = some (.ref CF)
  xO : Exo K CO
  xN : Exo K CN
  xF : Exo K CF
  aO : PySem.W.findIn K (.ref CO) "called" = some none
  aN : PySem.W.findIn K (.ref CN) "called" = some none
  aF : PySem.W.findIn K (.ref CF) "called" = some none
  bF : PySem.W.findIn K (.ref CF) "number" = some none
  eOP : PySem.W.exmOne K (.ref CO) (.ref CP) = some true
  eNP : PySem.W.exmOne K (.ref CN) (.ref CP) = some true
  eFP : PySem.W.exmOne K (.ref CF) (.ref CP) = some false
  eFM : PySem.W.exmOne K (.ref CF) (.ref CM) = some true
/-- the class of a refusal -/
def Rf (CO CN CF : Addr) (c : Value) : Prop := c = .ref CO ∨ c = .ref CN ∨ c = .ref CF
/-- an exception class whose __init__ keeps its promise -/
def HasX (P : Program) (w : World) (K : PySem.W.Frag) (mg : Str → Option Value) (base : Heap) (k : Nat) (C : Addr) (ps : List Str) (sp : Sp) : Prop :=
  ∃ f fd, PySem.W.findIn K (.ref C) "__init__" = some (some (.ref f)) ∧ PySem.W.typeIn K (.ref f) = some (.type "function") ∧ Binds K fd ps [] ∧ FnOk P w K mg base CX0 k f fd ps sp
/-- C.__init__, called by its class -/
def HasR (P : Program) (w : World) (K : PySem.W.Frag) (mg : Str → Option Value) (base : Heap) (k : Nat) (C : Addr) (ps : List Str) (sp : Sp) : Prop :=
  ∃ f fd, CRd K C "__init__" f ∧ Binds K fd ps [] ∧ FnOk P w K mg base CX0 k f fd ps sp
theorem kp_made {H1 H2 : Hp} {a d C : Addr} {fs : List (Str × V)} (na : H1 a = none) (nd : H1 d = none) (k : Kp [a] (upd H1 a (exo a C none)) H2) : Kp [] H1 (upd (del H2 a) d (.xd fs)) := by
  refine ⟨fun b o e _ => ?_, fun b xs e => ?_, fun b e => ?_⟩
  · have h1 : b ≠ a := ne_of_none e na
    rw [upd_ne (ne_of_none e nd)]
    show (if b = a then none else H2 b) = some o
    rw [if_neg h1]
    exact k.keep b o (by rw [upd_ne h1]; exact e) (by simpa using h1)
  · have h1 : b ≠ a := ne_of_none e na
    rw [upd_ne (ne_of_none e nd)]
    show (if b = a then none else H2 b) = _
    rw [if_neg h1]
    exact k.keep b _ (by rw [upd_ne h1]; exact e) (by simpa using h1)
  · by_cases h1 : b = a
    · rw [h1]; exact na
    · by_cases h2 : b = d
      · rw [h2]; exact nd
      · rw [upd_ne h2] at e
        have e : (if b = a then none else H2 b) = none := e
        rw [if_neg h1] at e
        have z := k.free b e
        rw [upd_ne h1] at z
        exact z
section
variable {P : Program} {w : World} {K : PySem.W.Frag} {mg : Str → Option Value} {base : Heap} {CH CR CP CM CO CN CF : Addr}
/-! ### the errors' __init__ -/
def spPI (K : PySem.W.Frag) : Sp := fun vs H Q _ => ∃ (a C : Addr) (y : V), vs = [.ref a, y] ∧ Exo K C ∧ PySem.W.findIn K (.ref C) "called" = some none ∧ H a = some (exo a C none) ∧
  ∀ H' d fs, Kp [a] H H' → H' a = some (exo a C (some d)) → H' d = some (exd d fs) → H d = none → d ≠ a → Q .non H'
def spMI (K : PySem.W.Frag) : Sp := fun vs H Q _ => ∃ (a C : Addr) (y z : V), vs = [.ref a, y, z] ∧ Exo K C ∧ PySem.W.findIn K (.ref C) "called" = some none ∧ PySem.W.findIn K (.ref C) "number" = some none ∧ H a = some (exo a C none) ∧
  ∀ H' d fs, Kp [a] H H' → H' a = some (exo a C (some d)) → H' d = some (exd d fs) → H d = none → d ≠ a → Q .non H'
def spXI0 (C : Addr) : Sp := fun vs H Q _ => ∃ (a : Addr), vs = [.ref a] ∧ H a = some (exo a C none) ∧
  ∀ H' d fs, Kp [a] H H' → H' a = some (exo a C (some d)) → H' d = some (exd d fs) → H d = none → d ≠ a → Q .non H'
def spXI1 (C : Addr) : Sp := fun vs H Q _ => ∃ (a : Addr) (y : V), vs = [.ref a, y] ∧ H a = some (exo a C none) ∧
  ∀ H' d fs, Kp [a] H H' → H' a = some (exo a C (some d)) → H' d = some (exd d fs) → H d = none → d ≠ a → Q .non H'
theorem exo_ntup {a C : Addr} {d : Option Addr} : ∀ xs, exo a C d ≠ .tup xs := fun _ => exo_tup
theorem ok_pi {f : Addr} {fd : FuncData} (F : Fun K "__init__" "PikeError.__init__" sPike f fd) : FnOk P w K mg base CX0 1 f fd pPike (spPI K) := by
  refine F.ok scPike (fun vs H Q E h => ?_) (fun cdv A outer s H vs Q E hr h => ?_)
  · obtain ⟨a, C, y, rfl, _⟩ := h
    rfl
  · obtain ⟨a, C, y, rfl, T, n1, ha, k⟩ := h
    refine ⟨_, pss_one (ps_est (pv 0) (pv 1)), ?_⟩
    refine ⟨_, rfl, _, rfl, a, C, ⟨rfl, T, n1⟩, .first ha fun dx nd ne => ?_⟩
    exact k _ dx _ ((Kp.new nd).trans (Kp.put (u := exo a C none) (by rw [upd_ne ne.symm]; exact ha) exo_ntup)) upd_same (by rw [upd_ne ne, upd_same]) nd ne
theorem ok_mi {f : Addr} {fd : FuncData} (F : Fun K "__init__" "Missing.__init__" sMiss f fd) : FnOk P w K mg base CX0 1 f fd pMiss (spMI K) := by
  refine F.ok scMiss (fun vs H Q E h => ?_) (fun cdv A outer s H vs Q E hr h => ?_)
  · obtain ⟨a, C, y, z, rfl, _⟩ := h
    rfl
  · obtain ⟨a, C, y, z, rfl, T, n1, n2, ha, k⟩ := h
    refine ⟨_, pss_cons (ps_est (pv 0) (pv 1)) (pss_one (ps_est (pv 0) (pv 2))), ?_⟩
    refine ⟨_, rfl, _, rfl, a, C, ⟨rfl, T, n1⟩, .first ha fun dx nd ne => ?_⟩
    have kp := (Kp.new (S := [a]) (o := exd dx [("called", y)]) nd).trans (Kp.put (u := exo a C none) (o := exo a C (some dx)) (by rw [upd_ne ne.symm]; exact ha) exo_ntup)
    refine ⟨_, rfl, _, rfl, a, C, ⟨rfl, T, n2⟩, .more upd_same (by rw [upd_ne ne, upd_same]) (by show 1 ≤ 900; decide) ?_⟩
    exact k _ dx _ (kp.putN nd) (by rw [upd_ne ne.symm, upd_same]) upd_same nd ne
theorem ok_xo {f C : Addr} {fd : FuncData} {qual : Str} (F : Fun K "__init__" qual sOth f fd) (T : Err K mg CP CM CO CN CF) (xC : Exo K C) (aC : PySem.W.findIn K (.ref C) "called" = some none) (GP : HasR P w K mg base 1 CP pPike (spPI K)) : FnOk P w K mg base CX0 2 f fd pOth (spXI0 C) := by
  obtain ⟨fp, fdp, R, b, G⟩ := GP
  refine F.ok scOth (fun vs H Q E h => ?_) (fun cdv A outer s H vs Q E hr h => ?_)
  · obtain ⟨a, rfl, _⟩ := h
    rfl
  · obtain ⟨a, rfl, ha, k⟩ := h
    refine ⟨_, pss_one (ps_expr (pe_cinit R G hr b pass0 (by rfl) T.gP (pa_cons (pv 0) (pa_cons pe_str pa_nil)))), ?_⟩
    exact ⟨_, rfl, a, C, _, rfl, xC, aC, ha, fun H' d fs k1 h1 h2 h3 h4 => k H' d fs k1 h1 h2 h3 h4⟩
theorem ok_xn {f C : Addr} {fd : FuncData} {qual : Str} (F : Fun K "__init__" qual sNoth f fd) (T : Err K mg CP CM CO CN CF) (xC : Exo K C) (aC : PySem.W.findIn K (.ref C) "called" = some none) (GP : HasR P w K mg base 1 CP pPike (spPI K)) : FnOk P w K mg base CX0 2 f fd pNoth (spXI0 C) := by
  obtain ⟨fp, fdp, R, b, G⟩ := GP
  refine F.ok scNoth (fun vs H Q E h => ?_) (fun cdv A outer s H vs Q E hr h => ?_)
  · obtain ⟨a, rfl, _⟩ := h
    rfl
  · obtain ⟨a, rfl, ha, k⟩ := h
    refine ⟨_, pss_one (ps_expr (pe_cinit R G hr b pass0 (by rfl) T.gP (pa_cons (pv 0) (pa_cons pe_str pa_nil)))), ?_⟩
    exact ⟨_, rfl, a, C, _, rfl, xC, aC, ha, fun H' d fs k1 h1 h2 h3 h4 => k H' d fs k1 h1 h2 h3 h4⟩
theorem ok_xf {f : Addr} {fd : FuncData} {qual : Str} (F : Fun K "__init__" qual sNoF f fd) (T : Err K mg CP CM CO CN CF) (GM : HasR P w K mg base 1 CM pMiss (spMI K)) : FnOk P w K mg base CX0 2 f fd pNoF (spXI1 CF) := by
  obtain ⟨fp, fdp, R, b, G⟩ := GM
  refine F.ok scNoF (fun vs H Q E h => ?_) (fun cdv A outer s H vs Q E hr h => ?_)
  · obtain ⟨a, y, rfl, _⟩ := h
    rfl
  · obtain ⟨a, y, rfl, ha, k⟩ := h
    refine ⟨_, pss_one (ps_expr (pe_cinit R G hr b pass0 (by rfl) T.gM (pa_cons (pv 0) (pa_cons pe_str (pa_cons (pv 1) pa_nil))))), ?_⟩
    exact ⟨_, rfl, _, rfl, a, CF, _, _, rfl, T.xF, T.aF, T.bF, ha, fun H' d fs k1 h1 h2 h3 h4 => k H' d fs k1 h1 h2 h3 h4⟩
/-! ### Roll.fact_of -/
def spFo (CH CR CF : Addr) : Sp := fun vs H Q E => ∃ (x tk gn : Addr) (past gone : List Mo) (m : Mo) (n : Int), vs = [.ref x, .int n] ∧ RAt CH CR H x tk gn (past ++ [m]) gone ∧
  (∀ e, fnd m.es n = some e → Q (.ref e.a) H) ∧ (fnd m.es n = none → ∀ d H', Kp [] H H' → E (.ref CF) d H')
theorem ok_fo {f : Addr} {fd : FuncData} (F : Fun K "fact_of" "Roll.fact_of" sRFo f fd) (T : Txt K mg CH CR) (X : Err K mg CP CM CO CN CF) (GF : HasX P w K mg base 2 CF pNoF (spXI1 CF)) : FnOk P w K mg base (L2.CX P w) 4 f fd pRFo (spFo CH CR CF) := by
  obtain ⟨ff, fdf, i1, i2, b, G⟩ := GF
  refine F.okX scRFo (fun vs H Q E h => ?_) (fun cdv A outer s H vs Q E hr h => ?_)
  · obtain ⟨x, tk, gn, past, gone, m, n, rfl, _⟩ := h
    rfl
  · obtain ⟨x, tk, gn, past, gone, m, n, rfl, R, k1, k2⟩ := h
    obtain ⟨dx, hs, gs, hd, hx, d, e1, e2, e3, e4, e5, e6, e7⟩ := R.last
    refine ⟨_, pss_cons (ps_set (i := 2) scRFo.nd rfl (Or.inl rfl) (pe_fld (pe_ix ix_list (pe_fld (pv 0) rfl) (pe_un un_neg pe_int) (fun _ _ => rfl)) rfl))
      (pss_cons (ps_if (pt_cmp (pc_dnotin (hu_of hr) (pv 1) (pv 2))) (pss_one (ps_raise rfl (takes_of rfl rfl rfl rfl) ((IniAt.mk X.xF ⟨i1, i2⟩ G hr b).some rfl X.gF (pa_cons (pv 1) pa_nil)))) pss_nil)
      (pss_one (ps_ret (pe_dget (hu_of hr) (pv 2) (pv 1) (fun _ _ => rfl))))), ?_⟩
    refine ⟨_, rfl, x, CR, dx, _, _, rfl, e1, T.clR, T.rTk, rf_look1 _ _, _, rfl, tk, _, _, _, rfl, rfl, SqL.of e2, atI_last _ _, hd, CH, hx, _, _, rfl, e6, T.clH, T.hTh, hf_look1 _ _, ?_⟩
    refine ⟨_, rfl, _, rfl, d, _, rfl, DGet.k (k := Sum.inl n) e7.1, _, rfl, ?_⟩
    rw [val_kvs]
    cases q : fnd m.es n with
    | some e =>
      refine iteF ?_
      refine ⟨_, rfl, _, rfl, d, .ref e.a, rfl, ?_, k1 e q⟩
      have z := DGet.k (k := Sum.inl n) e7.1
      rw [val_kvs, q] at z
      exact z
    | none =>
      refine iteT ?_
      refine ⟨_, rfl, (by show 1 ≤ 1000; decide), fun a na => ⟨a, _, rfl, upd_same, fun H' d' fs kq h1 h2 h3 h4 => ?_⟩⟩
      have nd : H d' = none := by rw [upd_ne h4] at h3; exact h3
      exact ⟨rfl, .mk h1 h2 nd (k2 q _ _ (kp_made na nd kq))⟩
end
end Pk

namespace Pk
open PySem PySem.Spec PyProof.Rows L2
section
variable {P : Program} {w : World} {K : PySem.W.Frag} {mg : Str → Option Value} {base : Heap} {CH CR CP CM CO CN CF : Addr}
theorem mu_x {H : Hp} {x dx : Addr} {fs : List (Str × V)} (h : H x = some (.ins CR dx fs)) : Mu CR H x := .inr (.inr ⟨dx, fs, h⟩)
theorem mu_l {H : Hp} {x : Addr} {xs : List V} (h : H x = some (.lst xs)) : Mu CR H x := .inr (.inl ⟨xs, h⟩)
theorem mu_n {H : Hp} {x : Addr} (h : H x = none) : Mu CR H x := .inl h
theorem mu2 {H : Hp} {a b : Addr} (h1 : Mu CR H a) (h2 : Mu CR H b) : ∀ s ∈ [a, b], Mu CR H s := fun s h => by
  rcases List.mem_cons.mp h with rfl | h
  · exact h1
  · rw [List.mem_singleton.mp h]; exact h2
theorem mu1 {H : Hp} {a : Addr} (h1 : Mu CR H a) : ∀ s ∈ [a], Mu CR H s := fun s h => by
  rw [List.mem_singleton.mp h]; exact h1
theorem go_after {H H' : Hp} {x tk g h hx dx d gn : Addr} {hs : List V} {past : List Mo} {es : List Ent} {t : Nat} (T : Txt K mg CH CR) (e1 : H x = some (.ins CR dx (rf (.ref tk) (.ref gn)))) (e2 : H tk = some (.lst hs)) (e4 : Paired (HoldAt CH H) hs past)
    (k : Kp [x, tk] H H') (h1 : H' h = some (.ins CH hx (hf (.ref d) (.int t)))) (h2 : H' tk = some (.lst (hs ++ [.ref h]))) (h3 : H' g = some (.lst [])) (h4 : H' x = some (.ins CR dx (rf (.ref tk) (.ref g)))) (fs : FsAt H d es) : RAt CH CR H' x tk g (past ++ [⟨es, t⟩]) [] :=
  ⟨dx, _, [], h4, h2, h3, paired_app (holds_kp k (mu2 (mu_x e1) (mu_l e2)) T.ne e4) ⟨h, hx, d, rfl, h1, fs.kp k (mu2 (mu_x e1) (mu_l e2))⟩, .nil⟩
/-- a deed's two ways out -/
def DeedOut (CH CR CO CN CF : Addr) (x tk : Addr) (past : List Mo) (m : Mo) (D : Deed) (H : Hp) (Q : VK) (E : XK) : Prop :=
  (∀ m', step m D = some m' → ∀ v H' g, Kp [x, tk] H H' → H g = none → RAt CH CR H' x tk g (past ++ [m] ++ [m']) [] → Q v H') ∧
    (step m D = none → ∀ c d H', Rf CO CN CF c → Kp [] H H' → E c d H')
/-! ### Roll.strike -/
def spStrike (CH CR CO CN CF : Addr) : Sp := fun vs H Q E => ∃ (x tk gn : Addr) (past gone : List Mo) (m : Mo) (n : Int), vs = [.ref x, .int n] ∧ RAt CH CR H x tk gn (past ++ [m]) gone ∧ past.length ≤ 900 ∧
  DeedOut CH CR CO CN CF x tk past m (.strike n) H Q E
theorem ok_strike {f : Addr} {fd : FuncData} (F : Fun K "strike" "Roll.strike" sRStrike f fd) (T : Txt K mg CH CR) (GO : HasM P w K mg base (L2.CX P w) 4 CR "fact_of" pRFo (spFo CH CR CF)) (GG : HasM P w K mg base CX0 3 CR "go_on" pRGo (spGo CH CR)) :
    FnOk P w K mg base (L2.CX P w) 5 f fd pRStrike (spStrike CH CR CO CN CF) := by
  obtain ⟨fo, fdo, Mo1, bo, Go⟩ := GO
  obtain ⟨fg, fdg, Mg1, bg, Gg⟩ := GG
  refine F.okX scRStrike (fun vs H Q E h => ?_) (fun cdv A outer s H vs Q E hr h => ?_)
  · obtain ⟨x, tk, gn, past, gone, m, n, rfl, _⟩ := h
    rfl
  · obtain ⟨x, tk, gn, past, gone, m, n, rfl, R, hpl, k1, k2⟩ := h
    obtain ⟨dx, hs, gs, hd, hx, d, e1, e2, e3, e4, e5, e6, e7⟩ := R.last
    refine ⟨_, pss_cons (ps_set (i := 2) scRStrike.nd rfl (Or.inl rfl) (pe_meth (pv 0) T.clR Mo1 Go hr bo .nil (passes_call (takes_of rfl rfl rfl rfl) (fun _ _ _ _ h => h)) (pa_cons (pv 1) pa_nil)))
      (pss_cons (ps_set (i := 3) scRStrike.nd rfl (Or.inl rfl) (pe_ix ix_list (pe_fld (pv 0) rfl) (pe_un un_neg pe_int) (fun _ _ => rfl)))
      (pss_cons (ps_set (i := 4) scRStrike.nd rfl (Or.inl rfl) (pe_callTy call_dictD (by rfl) T.dict boot_dict (pa_cons (pe_fld (pv 3) rfl) pa_nil)))
      (pss_cons (ps_expr (pe_dpop1 (pv 4) (pv 1) ⟨rfl, rfl, rfl, rfl⟩))
      (pss_cons (ps_expr (pe_meth (pv 0) T.clR Mg1 Gg (hr.mono (by decide)) bg .nil pass0 (pa_cons (pv 4) (pa_cons (pe_fld (pv 3) rfl) pa_nil))))
      (pss_one (ps_ret (pv 2))))))), ?_⟩
    refine ⟨_, rfl, x, dx, _, rfl, e1, rf_no _ _ (by decide +kernel) (by decide +kernel), _, rfl, x, tk, gn, past, gone, m, n, rfl, R, fun e he => ?_, fun he dd H' kq => ?_⟩
    · refine ⟨_, rfl, x, CR, dx, _, _, rfl, e1, T.clR, T.rTk, rf_look1 _ _, _, rfl, tk, _, _, _, rfl, rfl, SqL.of e2, atI_last _ _, ?_⟩
      refine ⟨_, rfl, hd, CH, hx, _, _, rfl, e6, T.clH, T.hTh, hf_look1 _ _, d, _, rfl, .inl e7.1, fun t nt => ?_⟩
      refine ⟨_, rfl, t, rfl, .inl ⟨_, .inl upd_same⟩, _, rfl, kvs m.es, .inl n, .ref e.a, upd_same, rfl, ?_, ?_⟩
      · rw [val_kvs, he]
        rfl
      rw [upd_upd, ← kvs_drop]
      have kt : Kp [] H (upd H t (.dK (kvs (dropE m.es n)))) := Kp.new nt
      refine ⟨_, rfl, x, dx, _, rfl, kt.same _ _ e1, rf_no _ _ (by decide +kernel) (by decide +kernel), _, rfl, _, rfl, hd, CH, hx, _, _, rfl, kt.same _ _ e6, T.clH, T.hMt, hf_look2 _ _, ?_⟩
      refine ⟨x, dx, tk, gn, t, m.told, _, rfl, kt.same _ _ e1, kt.same _ _ e2, ?_, fun H' h hx' g k3 h1 h2 h3 h4 h5 => ?_⟩
      · rw [List.length_append, paired_len e4, List.length_singleton]; omega
      refine ⟨_, rfl, ?_⟩
      have stp : step m (.strike n) = some ⟨dropE m.es n, m.told⟩ := by
        show (fnd m.es n).map _ = _
        rw [he]
        rfl
      refine k1 _ stp _ H' g (kt.up.trans k3) (kt.free _ h3) ?_
      refine go_after T (kt.same _ _ e1) (kt.same _ _ e2) (holds_kp kt (fun s h => by cases h) T.ne (paired_app e4 ⟨hd, hx, d, rfl, e6, e7⟩)) k3 h1 h2 h4 h5 ⟨upd_same, fun y hy => ?_⟩
      exact (e7.2 y (drop_mem hy)).kp kt
    · refine k2 ?_ _ dd H' (.inr (.inr rfl)) kq
      show (fnd m.es n).map _ = _
      rw [he]
      rfl
end
end Pk

namespace Pk
open PySem PySem.Spec PyProof.Rows L2
/-! ### plain data -/
theorem lay_ints : ∀ gs : List Int, PyData.canLayAll0 (gs.map PyData.int) = true
  | [] => by simp [PyData.canLayAll0]
  | i :: r => by simp [PyData.canLayAll0, PyData.canLay0, lay_ints r]
theorem dep_ints : ∀ gs : List Int, PyData.depthAll (gs.map PyData.int) = 0
  | [] => by simp [PyData.depthAll]
  | i :: r => by simp [PyData.depthAll, PyData.depth, dep_ints r]
theorem sh_ints (gs : List Int) : SeqAt.shaped (.list (gs.map PyData.int)) = true := by
  simp [SeqAt.shaped, PyData.canLay0, PyData.depth, lay_ints, dep_ints]
theorem eqv_same {d : PyData} (h : SeqAt.shaped d = true) : PyData.eqv d d = true := SeqAt.eqv_refl d (SeqAt.canLay_of_shaped h)
theorem inV_int (z : Int) (gs : List Int) : inV (.int z) (gs.map V.int) = decide (z ∈ gs) := by
  unfold inV
  rw [List.any_map]
  induction gs with
  | nil => rfl
  | cons a r ih =>
    rw [List.any_cons, ih]
    show ((a == z) || decide (z ∈ r)) = decide (z ∈ a :: r)
    by_cases h : a = z
    · simp [h]
    · have h' : ¬ z = a := fun q => h q.symm
      simp [h, h']
theorem flat_ints (gs : List Int) : (gs.map V.int).all flatV = true := by
  rw [List.all_map]
  exact List.all_eq_true.mpr fun _ _ => rfl
/-- those of the first n numbers that are in gs -/
def upto (n : Nat) (gs : List Int) : List Int := ((List.range n).map Int.ofNat).filter fun i => decide (i ∈ gs)
theorem upto_succ (n : Nat) (gs : List Int) : upto (n + 1) gs = upto n gs ++ (if Int.ofNat n ∈ gs then [Int.ofNat n] else []) := by
  unfold upto
  rw [List.range_succ, List.map_append, List.filter_append]
  congr 1
  show List.filter _ [Int.ofNat n] = _
  rw [List.filter_cons]
  by_cases h : Int.ofNat n ∈ gs
  · rw [if_pos h, if_pos (decide_eq_true h)]
    rfl
  · rw [if_neg h, if_neg (by rw [decide_eq_false h]; exact Bool.false_ne_true)]
    rfl
theorem upto_len (n : Nat) (gs : List Int) : (upto n gs).length ≤ n := by
  unfold upto
  refine Nat.le_trans (List.length_filter_le _ _) ?_
  rw [List.length_map, List.length_range]
  exact Nat.le_refl _
/-- what the tables of the program say -/
structure Tab (K : PySem.W.Frag) (w : World) (mg : Str → Option Value) (dk dl : Addr) : Prop where
  gK : mg "KINDS" = some (.ref dk)
  gL : mg "LIMITS" = some (.ref dl)
  kd : ∃ es n, KDict K w dk es n
  ks : ∀ p ∈ kindsTab, ∃ a, PySem.W.nsIn K dk p.1 = some (some (.ref a)) ∧ ∀ H, SqT K H a (p.2.map fun k => V.str k.nm)
  lm : ∀ k : Kd, (k = .gates ∨ k = .number) ∨ ∃ a, KDct K w dl k.nm (.ref a) ∧ ∀ H, SqT K H a [.int k.lo, .int k.hi]
section
variable {P : Program} {w : World} {K : PySem.W.Frag} {mg : Str → Option Value} {base : Heap} {CH CR CP CM CO CN CF dk dl : Addr}
/-! ### good_gates -/
def spGg : Sp := fun vs H Q _ => ∃ (p : Addr) (gs : List Int), vs = [.ref p] ∧ H p = some (.tup (gs.map V.int)) ∧ GoodG gs ∧ ∀ H', Kp [] H H' → Q (.bl true) H'
theorem ok_gg {f : Addr} {fd : FuncData} (F : Fun K "good_gates" "good_gates" sGg f fd) (T : Txt K mg CH CR) : FnOk P w K mg base CX0 1 f fd pGg spGg := by
  refine F.ok scGg (fun vs H Q E h => ?_) (fun cdv A outer s H vs Q E hr h => ?_)
  · obtain ⟨p, gs, rfl, _⟩ := h
    rfl
  · obtain ⟨p, gs, rfl, hp, hg, k⟩ := h
    refine ⟨_, pss_one (ps_ret (pe_cmpR (op_eqD hr.units) (pe_callTy call_list_of (by rfl) T.list boot_list (pa_cons (pv 0) pa_nil))
      (pe_lc (own := [("gate", 1)]) (g := gName 1) (tt := tTest (tOp (rIn K false) (tVar 1) (tVar 0))) rfl scGg.nd (pi_range1 (by rfl) T.range (pa_cons pe_int pa_nil))
        (blkOk_by (N := nGg) (sc := defScope sGg) (by decide +kernel)) (fun _ _ _ _ _ => pg_name (i := 1) scGg.nd rfl (Or.inl rfl)) (fun _ _ _ _ _ => pts_one (pt_cmpR op_in_seq (pv 1) (pv 0) (by with_unfolding_all rfl)))
        (fun _ _ _ _ _ => pv 1)) (nomark _))), ?_⟩
    refine ⟨_, rfl, p, gs.map V.int, rfl, .inr (SqT.of hp), fun l nl => ⟨8, rfl, by decide, by decide, fun D nD => ?_⟩⟩
    have kl : Kp [] H (upd H l (.lst (gs.map V.int))) := Kp.new nl
    have lD : l ≠ D := fun z => by rw [← z, upd_same] at nD; cases nD
    refine lc_range (n := 8) (fun i H' => Kp [] (upd H l (.lst (gs.map V.int))) H' ∧ H' D = some (.lst ((upto i gs).map V.int))) ⟨Kp.new nD, upd_same⟩ (fun i H' hi q => ?_) (fun H' q => ?_)
    · obtain ⟨kp, hD⟩ := q
      have hp' := kp.same _ _ (kl.same _ _ hp)
      refine ⟨rfl, _, rfl, _, rfl, p, _, rfl, .inr (SqT.of hp'), rfl, flat_ints gs, ?_⟩
      show ∃ k, V.bl (inV _ _) = V.bl k ∧ _
      rw [inV_int]
      refine ⟨_, rfl, ?_⟩
      rw [upto_succ]
      have e : ((0 : Int) + (i : Int)) = Int.ofNat i := by rw [Int.zero_add]; rfl
      by_cases c : Int.ofNat i ∈ gs
      · rw [e, decide_eq_true c]
        refine ⟨_, rfl, (upto i gs).map V.int, hD, ?_, kp.putN nD, ?_⟩
        · rw [List.length_map]
          exact Nat.lt_of_le_of_lt (upto_len i gs) (Nat.lt_trans hi (by decide))
        · rw [upd_same, if_pos c, List.map_append]
          rfl
      · rw [e, decide_eq_false c]
        refine iteF ⟨kp, ?_⟩
        rw [if_neg c, List.append_nil]
        exact hD
    · obtain ⟨kp, hD⟩ := q
      have e : upto 8 gs = gs := hg.symm
      rw [e] at hD
      have kq : Kp [] H H' := kl.andN kp (fun a h => by cases h)
      refine ⟨.list (gs.map .int), .list (gs.map .int), .lst (SqL.of (kp.same _ _ upd_same)) (ints_dp gs), .lst (SqL.of hD) (ints_dp gs), sh_ints gs, sh_ints gs, ?_⟩
      rw [eqv_same (sh_ints gs)]
      exact k _ kq
end
end Pk

namespace Pk
open PySem PySem.Spec PyProof.Rows L2
section
variable {P : Program} {w : World} {K : PySem.W.Frag} {mg : Str → Option Value} {base : Heap} {CH CR CP CM CO CN CF dk dl : Addr}
/-! ### good_thing -/
theorem nm_gates {k : Kd} (h : k ≠ .gates) : decide (V.str k.nm = V.str "gates") = false := by
  cases k <;> first | exact absurd rfl h | decide +kernel
theorem nm_number {k : Kd} (h : k ≠ .number) : decide (V.str k.nm = V.str "number") = false := by
  cases k <;> first | exact absurd rfl h | decide +kernel
theorem good_num {k : Kd} {t : Th} (h : GoodT k t) (hk : k ≠ .gates) : ∃ i, t = .n i ∧ k.lo ≤ i ∧ i ≤ k.hi := by
  cases k <;> first | exact absurd rfl hk | exact h
theorem good_g {t : Th} (h : GoodT .gates t) : ∃ gs, t = .g gs ∧ GoodG gs := h
def spGt : Sp := fun vs H Q _ => ∃ (k : Kd) (v : V) (t : Th), vs = [.str k.nm, v] ∧ ThAt H v t ∧ GoodT k t ∧ ∀ H', Kp [] H H' → Q (.bl true) H'
theorem ok_gt {f : Addr} {fd : FuncData} (F : Fun K "good_thing" "good_thing" sGt f fd) (Tb : Tab K w mg dk dl) (GG : Has P w K mg base CX0 1 "good_gates" pGg spGg) : FnOk P w K mg base CX0 2 f fd pGt spGt := by
  obtain ⟨fg, fdg, mG, kG, bG, G⟩ := GG
  refine F.ok scGt (fun vs H Q E h => ?_) (fun cdv A outer s H vs Q E hr h => ?_)
  · obtain ⟨k, v, t, rfl, _⟩ := h
    rfl
  · obtain ⟨k, v, t, rfl, hv, hg, kk⟩ := h
    refine ⟨_, pss_cons (ps_if (pt_cmpR op_eq (pv 0) pe_str (nomark _)) (pss_one (ps_ret (pe_call G hr rfl mG kG bG .nil pass0 (pa_cons (pv 1) pa_nil)))) pss_nil)
      (pss_cons (ps_if (pt_cmpR op_eq (pv 0) pe_str (nomark _)) (pss_one (ps_ret (pe_cmpR op_ge (pv 1) pe_int (nomark _)))) pss_nil)
      (pss_cons (ps_asg (pe_ix ix_kdict (pe_glob (v := .ref dl) rfl Tb.gL rfl) (pv 0) (fun _ _ => rfl)) (pg_tup rfl (pgs_cons (pg_name (i := 2) scGt.nd rfl (Or.inl rfl)) (pgs_cons (pg_name (i := 3) scGt.nd rfl (Or.inl rfl)) pgs_nil))))
      (pss_one (ps_ret (pe_chain op_le op_le (pv 2) (pv 1) (pv 3)))))), ?_⟩
    refine ⟨_, rfl, rfl, _, rfl, ?_⟩
    by_cases c1 : k = .gates
    · subst c1
      obtain ⟨gs, rfl, hG⟩ := good_g hg
      obtain ⟨p, rfl, hp⟩ := (show ∃ p, v = .ref p ∧ H p = some (.tup (gs.map V.int)) from hv)
      refine iteT ?_
      exact ⟨_, rfl, p, gs, rfl, hp, hG, kk⟩
    · obtain ⟨i, rfl, h1, h2⟩ := good_num hg c1
      obtain rfl : v = .int i := hv
      rw [nm_gates c1]
      refine iteF ?_
      refine ⟨_, rfl, rfl, _, rfl, ?_⟩
      by_cases c2 : k = .number
      · subst c2
        refine iteT ?_
        refine ⟨_, rfl, _, _, rfl, rfl, ?_⟩
        show Q (V.bl (decide ((1 : Int) ≤ i))) H
        rw [show decide ((1 : Int) ≤ i) = true from decide_eq_true h1]
        exact kk H (Kp.refl _ _)
      · rw [nm_number c2]
        refine iteF ?_
        rcases Tb.lm k with (q | q) | ⟨a, q1, q2⟩
        · exact absurd q c1
        · exact absurd q c2
        refine ⟨_, rfl, _, _, _, rfl, rfl, q1, a, _, rfl, q2 H, rfl, _, _, rfl, _, _, rfl, rfl, ?_⟩
        refine ⟨_, rfl, _, rfl, _, _, rfl, rfl, _, rfl, ?_⟩
        rw [decide_eq_true h1]
        refine iteT ?_
        refine ⟨_, rfl, _, _, rfl, rfl, ?_⟩
        show Q (V.bl (decide (i ≤ k.hi))) H
        rw [decide_eq_true h2]
        exact kk H (Kp.refl _ _)
/-! ### need_fact -/
theorem kinds_len {w' : Str} {ks : List Kd} (h : (w', ks) ∈ kindsTab) : 2 ≤ ks.length ∧ ks.length ≤ 5 := by
  unfold kindsTab at h
  simp only [List.mem_cons, Prod.mk.injEq, List.not_mem_nil, or_false] at h
  rcases h with ⟨_, rfl⟩ | ⟨_, rfl⟩ | ⟨_, rfl⟩ | ⟨_, rfl⟩ | ⟨_, rfl⟩ | ⟨_, rfl⟩ | ⟨_, rfl⟩ | ⟨_, rfl⟩ <;> decide
theorem cut_tail (a : V) (xs : List V) : cutV (a :: xs) (some 1) none = xs := by
  unfold cutV
  have e1 : HT.sIx (a :: xs).length 0 (some 1) = 1 := by
    have z := HT.sIx_nat (a :: xs).length 0 1
    rw [show ((1 : Nat) : Int) = 1 from rfl] at z
    rw [z, List.length_cons]
    omega
  rw [e1, HT.sIx_none, List.length_cons]
  show (List.take (xs.length + 1 - 1) xs) = xs
  rw [Nat.add_sub_cancel]
  exact List.take_length
theorem paired_at {α β : Type} {F : α → β → Prop} {xs : List α} {ys : List β} (h : Paired F xs ys) {i : Nat} {x : α} (hx : xs[i]? = some x) : ∃ y, ys[i]? = some y ∧ F x y := by
  induction h generalizing i with
  | nil => simp at hx
  | @cons a b _ _ q _ ih =>
    cases i with
    | zero =>
      have e : a = x := by simpa using hx
      exact ⟨b, rfl, e ▸ q⟩
    | succ i => 
      obtain ⟨y, h1, h2⟩ := ih (i := i) (by simpa using hx)
      exact ⟨y, by simpa using h1, h2⟩
theorem paired_at2 {α β : Type} {F : α → β → Prop} {xs : List α} {ys : List β} (h : Paired F xs ys) {i : Nat} {y : β} (hy : ys[i]? = some y) : ∃ x, xs[i]? = some x ∧ F x y := by
  induction h generalizing i with
  | nil => simp at hy
  | @cons a b _ _ q _ ih =>
    cases i with
    | zero =>
      have e : b = y := by simpa using hy
      exact ⟨a, rfl, e ▸ q⟩
    | succ i => 
      obtain ⟨y, h1, h2⟩ := ih (i := i) (by simpa using hy)
      exact ⟨y, by simpa using h1, h2⟩
def spNf : Sp := fun vs H Q _ => ∃ (a : Addr) (f : Fct), vs = [.ref a] ∧ FctAt H a f ∧ Good f ∧ ∀ H', Kp [] H H' → Q .non H'
theorem ok_nf {f : Addr} {fd : FuncData} (F : Fun K "need_fact" "need_fact" sNf f fd) (T : Txt K mg CH CR) (Tb : Tab K w mg dk dl) (GG : Has P w K mg base CX0 2 "good_thing" pGt spGt) : FnOk P w K mg base CX0 3 f fd pNf spNf := by
  obtain ⟨fg, fdg, mG, kG, bG, G⟩ := GG
  obtain ⟨es, n, D⟩ := Tb.kd
  refine F.ok scNf (fun vs H Q E h => ?_) (fun cdv A outer s H vs Q E hr h => ?_)
  · obtain ⟨a, fc, rfl, _⟩ := h
    rfl
  · obtain ⟨a, fc, rfl, ⟨xs, ha, hts⟩, ⟨ks, hks, hgd⟩, k⟩ := h
    obtain ⟨ka, kn, hka⟩ := Tb.ks _ hks
    obtain ⟨l2, l5⟩ := kinds_len hks
    have lx : xs.length = ks.length := (paired_len hts).trans (paired_len hgd).symm
    refine ⟨_, pss_cons (ps_set (i := 1) scNf.nd rfl (Or.inl rfl) (pe_kget D (pe_glob (v := .ref dk) rfl Tb.gK rfl) (pe_ix ix_tup (pv 0) pe_int (fun _ _ => rfl)) ⟨rfl, rfl, rfl, rfl⟩))
      (pss_cons (ps_if (PW.pt (pw_or (pt_cmp (pc_isN (pv 1))) (pw_or1 (pt_cmpR op_ne (pe_callB call_len_seq (by rfl) T.len PySem.boot_len (pa_cons (pv 0) pa_nil)) (pe_op op_add pe_int (pe_callB call_len_seq (by rfl) T.len PySem.boot_len (pa_cons (pv 1) pa_nil))) (nomark _))))) (pss_one ps_never) pss_nil)
      (pss_one (ps_for PassesOwn.never rfl (pi_side (by rfl) T.enum (by rfl) T.zip (pa_cons (pv 1) (pa_cons (pe_slice sl_tup (pv 0) (po_some pe_int) po_none) pa_nil)))
        (pg_tup rfl (pgs_cons (pg_name (i := 2) scNf.nd rfl (Or.inl rfl)) (pgs_cons (pg_tup rfl (pgs_cons (pg_name (i := 3) scNf.nd rfl (Or.inl rfl)) (pgs_cons (pg_name (i := 4) scNf.nd rfl (Or.inl rfl)) pgs_nil))) pgs_nil)))
        (pss_one (ps_if (pt_not (pt_val (pe_call G hr rfl mG kG bG .nil pass0 (pa_cons (pv 3) (pa_cons (pv 4) pa_nil))))) (pss_one ps_never) pss_nil))))), ?_⟩
    refine ⟨rfl, _, rfl, a, _, _, _, rfl, rfl, SqT.of ha, atI_nat (j := 0) rfl, fc.1, rfl, rfl, .inr ⟨_, .ref ka, kn, rfl, ?_⟩⟩
    refine ⟨_, rfl, _, rfl, ?_⟩
    rw [show decide (V.ref ka = V.non) = false from rfl]
    refine iteF ?_
    refine ⟨_, rfl, a, _, rfl, .inr (SqT.of ha), _, rfl, ka, _, rfl, .inr (hka H), _, _, rfl, rfl, rfl, _, rfl, ?_⟩
    have e1 : (!decide (V.int ((V.str fc.1 :: xs).length : Int) = V.int (1 + ((ks.map fun k => V.str k.nm).length : Int)))) = false := by
      rw [List.length_cons, List.length_map, lx]
      rw [decide_eq_true]
      · rfl
      · congr 1
        omega
    rw [e1]
    refine iteF ?_
    refine ⟨_, rfl, _, rfl, _, rfl, a, _, rfl, SqT.of ha, ?_, fun t nt => ⟨ka, t, _, xs, rfl, ⟨hka _, ?_⟩, ?_⟩⟩
    · intro z
      have z1 := z.1
      rw [show HT.sIx (V.str fc.1 :: xs).length 0 (some 1) = min 1 (V.str fc.1 :: xs).length from HT.sIx_nat _ 0 1, List.length_cons] at z1
      omega
    · rw [cut_tail]
      exact SqT.of upd_same
    · rw [cut_tail]
      have kt : Kp [] H (upd H t (.tup xs)) := Kp.new nt
      have hl : (ks.map fun k => V.str k.nm).length = xs.length := by rw [List.length_map, lx]
      refine for_side (K := K) (a := ka) (b := t) (xs := ks.map fun k => V.str k.nm) (ys := xs) hl (fun i σ H' => Kp [] (upd H t (.tup xs)) H' ∧ ∃ v2 v3 v4, σ = [some (.ref a), some (.ref ka), v2, v3, v4])
        ⟨Kp.refl _ _, _, _, _, rfl⟩ (fun i σ H' q => ⟨hka H', SqT.of (q.1.same _ _ upd_same)⟩) (fun i x y T U σ H' hxy q new => ?_) (fun σ H' q => ?_)
      rotate_left
      · exact k H' (kt.andN q.1 (fun a h => by cases h))
      obtain ⟨hx, hy⟩ := hxy
      obtain ⟨nU, nT, ne⟩ := new
      obtain ⟨kp, v2, v3, v4, rfl⟩ := q
      obtain ⟨kk, hkk, rfl⟩ : ∃ kk, ks[i]? = some kk ∧ x = .str kk.nm := by
        rw [List.getElem?_map] at hx
        obtain ⟨kk, q1, q2⟩ := Option.map_eq_some_iff.mp hx
        exact ⟨kk, q1, q2.symm⟩
      obtain ⟨th, h1, h2⟩ := paired_at hgd hkk
      obtain ⟨v, h3, h4⟩ := paired_at2 hts h1
      have ev : y = v := Option.some.inj (hy.symm.trans h3)
      subst ev
      have kq : Kp [] H' (upd (upd H' U (.tup [.str kk.nm, y])) T (.tup [.int (i : Nat), .ref U])) := (Kp.new nU).newN (by rw [upd_ne ne.symm]; exact nT)
      have hth : ThAt (upd (upd H' U (.tup [.str kk.nm, y])) T (.tup [.int (i : Nat), .ref U])) y th := h4.kp (kt.andN (kp.trans kq) (fun a h => by cases h))
      refine ⟨T, _, rfl, SqT.of upd_same, rfl, _, _, rfl, _, _, rfl, U, _, rfl, SqT.of (by rw [upd_ne ne, upd_same]), rfl, _, _, rfl, _, _, rfl, rfl, rfl, ?_⟩
      refine ⟨_, rfl, _, rfl, kk, y, th, rfl, hth, h2, fun H2 k2 => ⟨true, rfl, ?_⟩⟩
      refine iteF ?_
      exact ⟨kp.trans (kq.trans k2), _, _, _, rfl⟩
end
end Pk

namespace Pk
open PySem PySem.Spec PyProof.Rows L2
section
variable {P : Program} {w : World} {K : PySem.W.Frag} {mg : Str → Option Value} {base : Heap} {CH CR CP CM CO CN CF dk dl : Addr}
theorem fs_put {H H' : Hp} {S : List Addr} (k : Kp S H H') {d t : Addr} {es : List Ent} {n : Int} {a : Addr} {fc : Fct} (h : FsAt H d es) (hf : FctAt H a fc) (e : H' t = some (.dK (kvs (putE es n a fc)))) : FsAt H' t (putE es n a fc) :=
  ⟨e, fun y hy => by
    rcases put_mem hy with q | q
    · exact (h.2 y q).kp k
    · rw [q]; exact hf.kp k⟩
/-! ### Roll.tell -/
def spTell (CH CR CO CN CF : Addr) : Sp := fun vs H Q E => ∃ (x tk gn : Addr) (past gone : List Mo) (m : Mo) (a : Addr) (fc : Fct), vs = [.ref x, .ref a] ∧ RAt CH CR H x tk gn (past ++ [m]) gone ∧ past.length ≤ 900 ∧ FctAt H a fc ∧ Good fc ∧ m.told ≤ 100 ∧ m.es.length ≤ 1000 ∧
  DeedOut CH CR CO CN CF x tk past m (.tell a fc) H Q E
theorem ok_tell {f : Addr} {fd : FuncData} (F : Fun K "tell" "Roll.tell" sRTell f fd) (T : Txt K mg CH CR) (gM : ∃ t, mg "MOST_TOLD" = some (.int 120 t)) (GN : Has P w K mg base CX0 3 "need_fact" pNf spNf) (GG : HasM P w K mg base CX0 3 CR "go_on" pRGo (spGo CH CR)) :
    FnOk P w K mg base (L2.CX P w) 4 f fd pRTell (spTell CH CR CO CN CF) := by
  obtain ⟨fo, fdo, mN, kN, bN, Gn⟩ := GN
  obtain ⟨fg, fdg, Mg1, bg, Gg⟩ := GG
  obtain ⟨tM, hM⟩ := gM
  refine F.okX scRTell (fun vs H Q E h => ?_) (fun cdv A outer s H vs Q E hr h => ?_)
  · obtain ⟨x, tk, gn, past, gone, m, a, fc, rfl, _⟩ := h
    rfl
  · obtain ⟨x, tk, gn, past, gone, m, a, fc, rfl, R, hpl, hf, hgf, hto, hlen, k1, k2⟩ := h
    refine ⟨_, pss_cons (ps_expr (pe_call Gn hr rfl mN kN bN .nil pass0 (pa_cons (pv 1) pa_nil)))
      (pss_cons (ps_set (i := 2) scRTell.nd rfl (Or.inl rfl) (pe_ix ix_list (pe_fld (pv 0) rfl) (pe_un un_neg pe_int) (fun _ _ => rfl)))
      (pss_cons (ps_if (pt_cmpR op_ge (pe_fld (pv 2) rfl) (pe_glob (v := .int 120) rfl hM ⟨_, rfl⟩) (nomark _)) (pss_one ps_never) pss_nil)
      (pss_cons (ps_set (i := 3) scRTell.nd rfl (Or.inl rfl) (pe_callTy call_dictD (by rfl) T.dict boot_dict (pa_cons (pe_fld (pv 2) rfl) pa_nil)))
      (pss_cons (ps_dput (hu_of hr) (pv 3) (pe_op op_add (pe_fld (pv 2) rfl) pe_int) (pv 1) rfl)
      (pss_cons (ps_expr (pe_meth (pv 0) T.clR Mg1 Gg hr bg .nil pass0 (pa_cons (pv 3) (pa_cons (pe_op op_add (pe_fld (pv 2) rfl) pe_int) pa_nil))))
      (pss_one (ps_ret (pe_op op_add (pe_fld (pv 2) rfl) pe_int)))))))), ?_⟩
    refine ⟨_, rfl, a, fc, rfl, hf, hgf, fun H1 kp => ?_⟩
    replace R := R.kp kp (fun s h => by cases h) T.ne (by simp) (by simp) (by simp)
    replace hf := hf.kp kp
    obtain ⟨dx, hs, gs, hd, hx, d, e1, e2, e3, e4, e5, e6, e7⟩ := R.last
    refine ⟨_, rfl, x, CR, dx, _, _, rfl, e1, T.clR, T.rTk, rf_look1 _ _, _, rfl, tk, _, _, _, rfl, rfl, SqL.of e2, atI_last _ _, ?_⟩
    refine ⟨_, rfl, hd, CH, hx, _, _, rfl, e6, T.clH, T.hMt, hf_look2 _ _, _, _, rfl, rfl, _, rfl, ?_⟩
    rw [show decide ((120 : Int) ≤ (m.told : Int)) = false from decide_eq_false (by omega)]
    refine iteF ?_
    refine ⟨_, rfl, hd, CH, hx, _, _, rfl, e6, T.clH, T.hTh, hf_look1 _ _, d, _, rfl, .inl e7.1, fun t nt => ?_⟩
    have kt0 : Kp [] H1 (upd H1 t (.dK (kvs m.es))) := Kp.new nt
    refine ⟨_, rfl, _, rfl, _, rfl, hd, CH, hx, _, _, rfl, kt0.same _ _ e6, T.clH, T.hMt, hf_look2 _ _, _, _, rfl, rfl, t, _, rfl, DPut.k (k := .inl ((m.told : Int) + 1)) upd_same ?_, ?_⟩
    · rw [kvs_len]
      exact Nat.lt_of_le_of_lt hlen (by decide)
    rw [upd_upd, ← kvs_put (f := fc)]
    have kt : Kp [] H1 (upd H1 t (.dK (kvs (putE m.es ((m.told : Int) + 1) a fc)))) := Kp.new nt
    refine ⟨_, rfl, x, dx, _, rfl, kt.same _ _ e1, rf_no _ _ (by decide +kernel) (by decide +kernel), _, rfl, _, rfl, hd, CH, hx, _, _, rfl, kt.same _ _ e6, T.clH, T.hMt, hf_look2 _ _, _, _, rfl, rfl, ?_⟩
    refine ⟨x, dx, tk, gn, t, (m.told : Int) + 1, _, rfl, kt.same _ _ e1, kt.same _ _ e2, ?_, fun H' h hx' g k3 h1 h2 h3 h4 h5 => ?_⟩
    · rw [List.length_append, paired_len e4, List.length_singleton]; omega
    have kh : H' hd = some (.ins CH hx (Pk.hf (.ref d) (.int m.told))) := k3.im (mu2 (mu_x (kt.same _ _ e1)) (mu_l (kt.same _ _ e2))) (kt.same _ _ e6) (im_ins T.ne)
    refine ⟨_, rfl, hd, CH, hx, _, _, rfl, kh, T.clH, T.hMt, hf_look2 _ _, _, _, rfl, rfl, ?_⟩
    refine k1 _ rfl _ H' g (kp.up.trans (kt.up.trans k3)) (kp.free _ (kt.free _ h3)) ?_
    refine go_after (gn := gn) (t := m.told + 1) T (kt.same _ _ e1) (kt.same _ _ e2) (holds_kp kt (fun s h => by cases h) T.ne (paired_app e4 ⟨hd, hx, d, rfl, e6, e7⟩)) k3 h1 h2 h4 h5 ?_
    exact fs_put kt e7 hf upd_same
/-! ### Roll.right -/
def spRight (CH CR CO CN CF : Addr) : Sp := fun vs H Q E => ∃ (x tk gn : Addr) (past gone : List Mo) (m : Mo) (n : Int) (a : Addr) (fc : Fct), vs = [.ref x, .int n, .ref a] ∧ RAt CH CR H x tk gn (past ++ [m]) gone ∧ past.length ≤ 900 ∧ FctAt H a fc ∧ Good fc ∧ m.es.length ≤ 1000 ∧
  DeedOut CH CR CO CN CF x tk past m (.right n a fc) H Q E
theorem ok_right {f : Addr} {fd : FuncData} (F : Fun K "right" "Roll.right" sRRight f fd) (T : Txt K mg CH CR) (X : Err K mg CP CM CO CN CF) (GN : Has P w K mg base CX0 3 "need_fact" pNf spNf) (GG : HasM P w K mg base CX0 3 CR "go_on" pRGo (spGo CH CR))
    (GO : HasM P w K mg base (L2.CX P w) 4 CR "fact_of" pRFo (spFo CH CR CF)) (GX : HasX P w K mg base 2 CO pOth (spXI0 CO)) :
    FnOk P w K mg base (L2.CX P w) 5 f fd pRRight (spRight CH CR CO CN CF) := by
  obtain ⟨fn, fdn, mN, kN, bN, Gn⟩ := GN
  obtain ⟨fg, fdg, Mg1, bg, Gg⟩ := GG
  obtain ⟨fo, fdo, Mo1, bo, Go⟩ := GO
  obtain ⟨fx, fdx, i1, i2, bx, Gx⟩ := GX
  refine F.okX scRRight (fun vs H Q E h => ?_) (fun cdv A outer s H vs Q E hr h => ?_)
  · obtain ⟨x, tk, gn, past, gone, m, n, a, fc, rfl, _⟩ := h
    rfl
  · obtain ⟨x, tk, gn, past, gone, m, n, a, fc, rfl, R, hpl, hf, hgf, hlen, k1, k2⟩ := h
    refine ⟨_, pss_cons (ps_set (i := 3) scRRight.nd rfl (Or.inl rfl) (pe_meth (pv 0) T.clR Mo1 Go hr bo .nil (passes_call (takes_of rfl rfl rfl rfl) (fun _ _ _ _ h => h)) (pa_cons (pv 1) pa_nil)))
      (pss_cons (ps_expr (pe_call Gn (hr.mono (by decide)) rfl mN kN bN .nil pass0 (pa_cons (pv 2) pa_nil)))
      (pss_cons (ps_if (pt_cmpR op_ne (pe_ix ix_tup (pv 2) pe_int (fun _ _ => rfl)) (pe_ix ix_tup (pv 3) pe_int (fun _ _ => rfl)) (nomark _)) (pss_one (ps_raise rfl (takes_of rfl rfl rfl rfl) ((IniAt.mk X.xO ⟨i1, i2⟩ Gx (hr.mono (by decide)) bx).none rfl X.gO))) pss_nil)
      (pss_cons (ps_set (i := 4) scRRight.nd rfl (Or.inl rfl) (pe_ix ix_list (pe_fld (pv 0) rfl) (pe_un un_neg pe_int) (fun _ _ => rfl)))
      (pss_cons (ps_set (i := 5) scRRight.nd rfl (Or.inl rfl) (pe_callTy call_dictD (by rfl) T.dict boot_dict (pa_cons (pe_fld (pv 4) rfl) pa_nil)))
      (pss_cons (ps_dput (hu_of hr) (pv 5) (pv 1) (pv 2) rfl)
      (pss_cons (ps_expr (pe_meth (pv 0) T.clR Mg1 Gg (hr.mono (by decide)) bg .nil pass0 (pa_cons (pv 5) (pa_cons (pe_fld (pv 4) rfl) pa_nil))))
      (pss_one (ps_ret (pv 3))))))))), ?_⟩
    obtain ⟨dx0, hs0, gs0, _, _, _, e1, _⟩ := R.last
    refine ⟨_, rfl, x, dx0, _, rfl, e1, rf_no _ _ (by decide +kernel) (by decide +kernel), _, rfl, x, tk, gn, past, gone, m, n, rfl, R, fun e he => ?_, fun he dd H' kq => ?_⟩
    · refine ⟨_, rfl, a, fc, rfl, hf, hgf, fun H1 kp => ?_⟩
      replace R := R.kp kp (fun s h => by cases h) T.ne (by simp) (by simp) (by simp)
      replace hf := hf.kp kp
      obtain ⟨dx, hs, gs, hd, hx, d, e1, e2, e3, e4, e5, e6, e7⟩ := R.last
      obtain ⟨xs, hxs, _⟩ := id hf
      obtain ⟨ys, hys, _⟩ := e7.2 e (fnd_mem he).1
      refine ⟨_, rfl, a, _, _, _, rfl, rfl, SqT.of hxs, atI_nat (j := 0) rfl, _, rfl, e.a, _, _, _, rfl, rfl, SqT.of hys, atI_nat (j := 0) rfl, rfl, _, rfl, ?_⟩
      by_cases c : fc.1 = e.f.1
      · rw [show (!decide (V.str fc.1 = V.str e.f.1)) = false from by rw [c]; simp]
        refine iteF ?_
        refine ⟨_, rfl, x, CR, dx, _, _, rfl, e1, T.clR, T.rTk, rf_look1 _ _, _, rfl, tk, _, _, _, rfl, rfl, SqL.of e2, atI_last _ _, ?_⟩
        refine ⟨_, rfl, hd, CH, hx, _, _, rfl, e6, T.clH, T.hTh, hf_look1 _ _, d, _, rfl, .inl e7.1, fun t nt => ?_⟩
        refine ⟨_, rfl, _, rfl, _, rfl, t, _, rfl, DPut.k (k := .inl n) upd_same ?_, ?_⟩
        · rw [kvs_len]
          exact Nat.lt_of_le_of_lt hlen (by decide)
        rw [upd_upd, ← kvs_put (f := fc)]
        have kt : Kp [] H1 (upd H1 t (.dK (kvs (putE m.es n a fc)))) := Kp.new nt
        refine ⟨_, rfl, x, dx, _, rfl, kt.same _ _ e1, rf_no _ _ (by decide +kernel) (by decide +kernel), _, rfl, _, rfl, hd, CH, hx, _, _, rfl, kt.same _ _ e6, T.clH, T.hMt, hf_look2 _ _, ?_⟩
        refine ⟨x, dx, tk, gn, t, m.told, _, rfl, kt.same _ _ e1, kt.same _ _ e2, ?_, fun H' h hx' g k3 h1 h2 h3 h4 h5 => ?_⟩
        · rw [List.length_append, paired_len e4, List.length_singleton]; omega
        refine ⟨_, rfl, ?_⟩
        have stp : step m (.right n a fc) = some ⟨putE m.es n a fc, m.told⟩ := by
          show (fnd m.es n).bind _ = _
          rw [he]
          show (if fc.1 = e.f.1 then _ else _) = _
          rw [if_pos c]
        refine k1 _ stp _ H' g (kp.up.trans (kt.up.trans k3)) (kp.free _ (kt.free _ h3)) ?_
        refine go_after (gn := gn) T (kt.same _ _ e1) (kt.same _ _ e2) (holds_kp kt (fun s h => by cases h) T.ne (paired_app e4 ⟨hd, hx, d, rfl, e6, e7⟩)) k3 h1 h2 h4 h5 ?_
        exact fs_put kt e7 hf upd_same
      · rw [show (!decide (V.str fc.1 = V.str e.f.1)) = true from by rw [decide_eq_false (fun z => c (V.str.inj z))]; rfl]
        refine iteT ?_
        refine ⟨(by show 0 ≤ 1000; decide), fun a' na => ⟨a', rfl, upd_same, fun H' d' fs kq h1 h2 h3 h4 => ?_⟩⟩
        have nd : H1 d' = none := by rw [upd_ne h4] at h3; exact h3
        refine ⟨rfl, .mk h1 h2 nd (k2 ?_ _ _ _ (.inl rfl) (kp.trans (kp_made na nd kq)))⟩
        show (fnd m.es n).bind _ = _
        rw [he]
        show (if fc.1 = e.f.1 then _ else _) = _
        rw [if_neg c]
    · refine k2 ?_ _ dd H' (.inr (.inr rfl)) kq
      show (fnd m.es n).bind _ = _
      rw [he]
      rfl
end
end Pk

namespace Pk
open PySem PySem.Spec PyProof.Rows L2
section
variable {P : Program} {w : World} {K : PySem.W.Frag} {mg : Str → Option Value} {base : Heap} {CH CR CP CM CO CN CF dk dl : Addr}
theorem paired_unsnoc {α β : Type} {F : α → β → Prop} {xs : List α} {x : α} {ys : List β} (h : Paired F (xs ++ [x]) ys) : ∃ zs z, ys = zs ++ [z] ∧ Paired F xs zs ∧ F x z := by
  have z := List.eq_nil_or_concat ys
  rcases z with rfl | ⟨zs, z, rfl⟩
  · have := paired_len h
    simp at this
  · refine ⟨zs, z, by simp, ?_⟩
    have h' : Paired F (xs ++ [x]) (zs ++ [z]) := by simpa using h
    obtain ⟨ws, v, e, q1, q2⟩ := paired_snoc h'
    obtain ⟨e1, e2⟩ := List.append_inj' e rfl
    cases e2
    subst e1
    exact ⟨q1, q2⟩
/-! ### Roll.undo -/
def spUndo (CH CR CO CN CF : Addr) : Sp := fun vs H Q E => ∃ (x tk gn : Addr) (past gone : List Mo) (m : Mo), vs = [.ref x] ∧ RAt CH CR H x tk gn (past ++ [m]) gone ∧ tk ≠ gn ∧ gone.length ≤ 900 ∧
  (past ≠ [] → ∀ H', Kp [tk, gn] H H' → RAt CH CR H' x tk gn past (gone ++ [m]) → Q .non H') ∧ (past = [] → ∀ c d H', Rf CO CN CF c → Kp [] H H' → E c d H')
theorem ok_undo {f : Addr} {fd : FuncData} (F : Fun K "undo" "Roll.undo" sRUndo f fd) (T : Txt K mg CH CR) (X : Err K mg CP CM CO CN CF) (GX : HasX P w K mg base 2 CN pNoth (spXI0 CN)) : FnOk P w K mg base (L2.CX P w) 4 f fd pRUndo (spUndo CH CR CO CN CF) := by
  obtain ⟨fx, fdx, i1, i2, bx, Gx⟩ := GX
  refine F.okX scRUndo (fun vs H Q E h => ?_) (fun cdv A outer s H vs Q E hr h => ?_)
  · obtain ⟨x, tk, gn, past, gone, m, rfl, _⟩ := h
    rfl
  · obtain ⟨x, tk, gn, past, gone, m, rfl, R, hne, hl, k1, k2⟩ := h
    obtain ⟨dx, hs, gs, hd, hx, d, e1, e2, e3, e4, e5, e6, e7⟩ := R.last
    refine ⟨_, pss_cons (ps_if (pt_cmpR op_eq (pe_callB call_len_seq (by rfl) T.len PySem.boot_len (pa_cons (pe_fld (pv 0) rfl) pa_nil)) pe_int (nomark _)) (pss_one (ps_raise rfl (takes_of rfl rfl rfl rfl) ((IniAt.mk X.xN ⟨i1, i2⟩ Gx hr bx).none rfl X.gN))) pss_nil)
      (pss_one (ps_expr (pe_bm PySem.F.plainAttrs_list PySem.F.slot_list_append PySem.F.type_list_append mt_append (pe_fld (pv 0) rfl) (pa_cons (pe_bm0 PySem.F.plainAttrs_list PySem.F.slot_list_pop PySem.F.type_list_pop mt_pop (pe_fld (pv 0) rfl)) pa_nil)))), ?_⟩
    refine ⟨_, rfl, x, CR, dx, _, _, rfl, e1, T.clR, T.rTk, rf_look1 _ _, tk, _, rfl, .inl (SqL.of e2), rfl, _, rfl, ?_⟩
    have el : (hs ++ [V.ref hd]).length = past.length + 1 := by rw [List.length_append, paired_len e4]; rfl
    rw [el]
    by_cases c : past = []
    · subst c
      refine iteT ?_
      refine ⟨(by show 0 ≤ 1000; decide), fun a' na => ⟨a', rfl, upd_same, fun H' d' fs kq h1 h2 h3 h4 => ?_⟩⟩
      have nd : H d' = none := by rw [upd_ne h4] at h3; exact h3
      exact ⟨rfl, .mk h1 h2 nd (k2 rfl _ _ _ (.inr (.inl rfl)) (kp_made na nd kq))⟩
    · have cl : past.length ≠ 0 := fun z => c (List.length_eq_zero_iff.mp z)
      have ed : decide (V.int ((past.length + 1 : Nat) : Int) = V.int 1) = false := decide_eq_false fun z => by
        have z' := V.int.inj z
        omega
      rw [ed]
      refine iteF ?_
      refine ⟨_, rfl, x, CR, dx, _, _, rfl, e1, T.clR, T.rGn, rf_look2 _ _, .inl ⟨rfl, _, SqL.of e3⟩, _, rfl, x, CR, dx, _, _, rfl, e1, T.clR, T.rTk, rf_look1 _ _, .inl ⟨rfl, _, SqL.of e2⟩, tk, _, .ref hd, rfl, rfl, e2, ?_, ?_⟩
      · rw [List.length_append]
        simp
      have kt : Kp [tk, gn] H (upd H tk (.lst (hs ++ [V.ref hd]).dropLast)) := (Kp.put e2 (fun _ z => by cases z)).mono (by simp)
      have eg : upd H tk (.lst (hs ++ [V.ref hd]).dropLast) gn = some (.lst gs) := by rw [upd_ne hne.symm]; exact e3
      refine ⟨gn, gs, _, rfl, rfl, eg, Nat.lt_of_le_of_lt (by rw [paired_len e5]; exact hl) (by decide), ?_⟩
      have kf : Kp [tk, gn] H (upd (upd H tk (.lst (hs ++ [V.ref hd]).dropLast)) gn (.lst (gs ++ [V.ref hd]))) := kt.trans ((Kp.put eg (fun _ z => by cases z)).mono (by simp))
      have hS := mu2 (mu_l (CR := CR) e2) (mu_l (CR := CR) e3)
      have nx1 : x ≠ tk := ne_of e1 e2 (by intro z; cases z)
      have nx2 : x ≠ gn := ne_of e1 e3 (by intro z; cases z)
      refine k1 c _ kf ⟨dx, hs, gs ++ [V.ref hd], ?_, ?_, upd_same, holds_kp kf hS T.ne e4, paired_app (holds_kp kf hS T.ne e5) (HoldAt.kp kf hS T.ne ⟨hd, hx, d, rfl, e6, e7⟩)⟩
      · rw [upd_ne nx2, upd_ne nx1]; exact e1
      · rw [upd_ne hne, upd_same, List.dropLast_concat]
/-! ### Roll.redo -/
def spRedo (CH CR CO CN CF : Addr) : Sp := fun vs H Q E => ∃ (x tk gn : Addr) (past gone : List Mo), vs = [.ref x] ∧ RAt CH CR H x tk gn past gone ∧ tk ≠ gn ∧ past.length ≤ 900 ∧
  (∀ g m, gone = g ++ [m] → ∀ H', Kp [tk, gn] H H' → RAt CH CR H' x tk gn (past ++ [m]) g → Q .non H') ∧ (gone = [] → ∀ c d H', Rf CO CN CF c → Kp [] H H' → E c d H')
theorem ok_redo {f : Addr} {fd : FuncData} (F : Fun K "redo" "Roll.redo" sRRedo f fd) (T : Txt K mg CH CR) (X : Err K mg CP CM CO CN CF) (GX : HasX P w K mg base 2 CN pNoth (spXI0 CN)) : FnOk P w K mg base (L2.CX P w) 4 f fd pRRedo (spRedo CH CR CO CN CF) := by
  obtain ⟨fx, fdx, i1, i2, bx, Gx⟩ := GX
  refine F.okX scRRedo (fun vs H Q E h => ?_) (fun cdv A outer s H vs Q E hr h => ?_)
  · obtain ⟨x, tk, gn, past, gone, rfl, _⟩ := h
    rfl
  · obtain ⟨x, tk, gn, past, gone, rfl, R, hne, hl, k1, k2⟩ := h
    obtain ⟨dx, hs, gs, e1, e2, e3, e4, e5⟩ := R.ex
    refine ⟨_, pss_cons (ps_if (pt_cmpR op_eq (pe_callB call_len_seq (by rfl) T.len PySem.boot_len (pa_cons (pe_fld (pv 0) rfl) pa_nil)) pe_int (nomark _)) (pss_one (ps_raise rfl (takes_of rfl rfl rfl rfl) ((IniAt.mk X.xN ⟨i1, i2⟩ Gx hr bx).none rfl X.gN))) pss_nil)
      (pss_one (ps_expr (pe_bm PySem.F.plainAttrs_list PySem.F.slot_list_append PySem.F.type_list_append mt_append (pe_fld (pv 0) rfl) (pa_cons (pe_bm0 PySem.F.plainAttrs_list PySem.F.slot_list_pop PySem.F.type_list_pop mt_pop (pe_fld (pv 0) rfl)) pa_nil)))), ?_⟩
    refine ⟨_, rfl, x, CR, dx, _, _, rfl, e1, T.clR, T.rGn, rf_look2 _ _, gn, _, rfl, .inl (SqL.of e3), rfl, _, rfl, ?_⟩
    rcases List.eq_nil_or_concat gs with rfl | ⟨gs', gv, eg'⟩
    · have c : gone = [] := by
        cases e5
        rfl
      subst c
      refine iteT ?_
      refine ⟨(by show 0 ≤ 1000; decide), fun a' na => ⟨a', rfl, upd_same, fun H' d' fs kq h1 h2 h3 h4 => ?_⟩⟩
      have nd : H d' = none := by rw [upd_ne h4] at h3; exact h3
      exact ⟨rfl, .mk h1 h2 nd (k2 rfl _ _ _ (.inr (.inl rfl)) (kp_made na nd kq))⟩
    · have eg2 : gs = gs' ++ [gv] := by rw [eg']; simp
      subst eg2
      obtain ⟨gone', m, eg3, e5q, hm⟩ := paired_unsnoc e5
      subst eg3
      obtain ⟨hd, hx, d, rfl, e6, e7⟩ := hm
      have ed : decide (V.int (((gs' ++ [V.ref hd]).length : Nat) : Int) = V.int 0) = false := decide_eq_false fun z => by
        have z' := V.int.inj z
        rw [List.length_append, List.length_singleton] at z'
        omega
      rw [ed]
      refine iteF ?_
      refine ⟨_, rfl, x, CR, dx, _, _, rfl, e1, T.clR, T.rTk, rf_look1 _ _, .inl ⟨rfl, _, SqL.of e2⟩, _, rfl, x, CR, dx, _, _, rfl, e1, T.clR, T.rGn, rf_look2 _ _, .inl ⟨rfl, _, SqL.of e3⟩, gn, _, .ref hd, rfl, rfl, e3, ?_, ?_⟩
      · rw [List.length_append]
        simp
      have kt : Kp [tk, gn] H (upd H gn (.lst (gs' ++ [V.ref hd]).dropLast)) := (Kp.put e3 (fun _ z => by cases z)).mono (by simp)
      have et : upd H gn (.lst (gs' ++ [V.ref hd]).dropLast) tk = some (.lst hs) := by rw [upd_ne hne]; exact e2
      refine ⟨tk, hs, _, rfl, rfl, et, Nat.lt_of_le_of_lt (by rw [paired_len e4]; exact hl) (by decide), ?_⟩
      have kf : Kp [tk, gn] H (upd (upd H gn (.lst (gs' ++ [V.ref hd]).dropLast)) tk (.lst (hs ++ [V.ref hd]))) := kt.trans ((Kp.put et (fun _ z => by cases z)).mono (by simp))
      have hS := mu2 (mu_l (CR := CR) e2) (mu_l (CR := CR) e3)
      have nx1 : x ≠ tk := ne_of e1 e2 (by intro z; cases z)
      have nx2 : x ≠ gn := ne_of e1 e3 (by intro z; cases z)
      refine k1 _ _ rfl _ kf ⟨dx, hs ++ [V.ref hd], gs', ?_, upd_same, ?_, paired_app (holds_kp kf hS T.ne e4) (HoldAt.kp kf hS T.ne ⟨hd, hx, d, rfl, e6, e7⟩), holds_kp kf hS T.ne e5q⟩
      · rw [upd_ne nx1, upd_ne nx2]; exact e1
      · rw [upd_ne hne.symm, upd_same, List.dropLast_concat]
end
end Pk

namespace Pk
open PySem PySem.Spec PyProof.Rows L2
/-! ### facts are plain data -/
theorem lay_th (t : Th) : (thD t).canLay0 = true ∧ (thD t).depth ≤ 1 := by
  cases t with
  | n i => exact ⟨by simp [thD, PyData.canLay0], by simp [thD, PyData.depth]⟩
  | g gs => exact ⟨by simp [thD, PyData.canLay0, lay_ints], by simp [thD, PyData.depth, dep_ints]⟩
theorem lay_ths : ∀ ts : List Th, PyData.canLayAll0 (ts.map thD) = true ∧ PyData.depthAll (ts.map thD) ≤ 1
  | [] => ⟨by simp [PyData.canLayAll0], by simp [PyData.depthAll]⟩
  | t :: r => by
    obtain ⟨h1, h2⟩ := lay_th t
    obtain ⟨h3, h4⟩ := lay_ths r
    exact ⟨by simp [PyData.canLayAll0, h1, h3], by simp only [List.map_cons, PyData.depthAll]; omega⟩
theorem word_ok {w' : Str} {ks : List Kd} (h : (w', ks) ∈ kindsTab) : (PyData.str w').canLay0 = true := by
  unfold kindsTab at h
  simp only [List.mem_cons, Prod.mk.injEq, List.not_mem_nil, or_false] at h
  rcases h with ⟨rfl, _⟩ | ⟨rfl, _⟩ | ⟨rfl, _⟩ | ⟨rfl, _⟩ | ⟨rfl, _⟩ | ⟨rfl, _⟩ | ⟨rfl, _⟩ | ⟨rfl, _⟩ <;> decide +kernel
theorem fct_lay {f : Fct} (h : Good f) : (fctD f).canLay0 = true ∧ (fctD f).depth ≤ 2 := by
  obtain ⟨ks, hk, _⟩ := h
  obtain ⟨h3, h4⟩ := lay_ths f.2
  refine ⟨?_, ?_⟩
  · simp only [fctD, PyData.canLay0, PyData.canLayAll0]
    have z := word_ok hk
    simp only [PyData.canLay0] at z
    rw [z, h3]
    rfl
  · simp only [fctD, PyData.depth, PyData.depthAll]
    omega
theorem fct_lay0 : (fctD ("", [])).canLay0 = true ∧ (fctD ("", [])).depth ≤ 2 := by
  constructor
  · decide +kernel
  · simp [fctD, PyData.depth, PyData.depthAll]
theorem of_lay {es : List Ent} (h : ∀ e ∈ es, Good e.f) (n : Int) : (fctD (fctOf es n)).canLay0 = true ∧ (fctD (fctOf es n)).depth ≤ 2 := by
  unfold fctOf
  cases q : fnd es n with
  | none => exact fct_lay0
  | some e => exact fct_lay (h e (fnd_mem q).1)
theorem facts_lay {es : List Ent} (h : ∀ e ∈ es, Good e.f) : ∀ ns : List Int, PyData.canLayAll0 (ns.map fun n => .tuple [.int n, fctD (fctOf es n)]) = true ∧ PyData.depthAll (ns.map fun n => .tuple [.int n, fctD (fctOf es n)]) ≤ 3
  | [] => ⟨by simp [PyData.canLayAll0], by simp [PyData.depthAll]⟩
  | n :: r => by
    obtain ⟨h1, h2⟩ := of_lay h n
    obtain ⟨h3, h4⟩ := facts_lay h r
    refine ⟨?_, ?_⟩
    · simp only [List.map_cons, PyData.canLayAll0, PyData.canLay0, h1, h3]
      rfl
    · simp only [List.map_cons, PyData.depthAll, PyData.depth]
      omega
theorem facts_sh {es : List Ent} (h : ∀ e ∈ es, Good e.f) : SeqAt.shaped (.list (factsD es)) = true := by
  obtain ⟨h1, h2⟩ := facts_lay h (srt es)
  refine Bool.and_eq_true_iff.mpr ⟨?_, decide_eq_true ?_⟩
  · show (PyData.list (factsD es)).canLay0 = true
    rw [PyData.canLay0]
    exact h1
  · show (PyData.list (factsD es)).depth ≤ 64
    rw [PyData.depth]
    exact Nat.le_trans (Nat.succ_le_succ h2) (by decide)
section
variable {P : Program} {w : World} {K : PySem.W.Frag} {mg : Str → Option Value} {base : Heap} {CH CR CP CM CO CN CF dk dl : Addr}
/-- isinstance(.., Roll) -/
structure Isi (K : PySem.W.Frag) (CR : Addr) : Prop where
  ins : C8.InsC K CR
  kL : PySem.W.kitOne K (.type "list") (.ref CR) = some false
  kS : PySem.W.kitOne K (.type "str") (.ref CR) = some false
/-! ### Roll.__eq__ -/
def eqFacts (a b : List Ent) : Bool := PyData.eqv (.list (factsD a)) (.list (factsD b))
def spREq (CH CR : Addr) : Sp := fun vs H Q _ => ∃ (x tk gn : Addr) (past gone : List Mo) (m : Mo) (y : V), vs = [.ref x, y] ∧ RAt CH CR H x tk gn (past ++ [m]) gone ∧ m.es.length < 64 ∧ (∀ e ∈ m.es, Good e.f) ∧
  ((∃ (z tk' gn' : Addr) (past' gone' : List Mo) (m' : Mo), y = .ref z ∧ RAt CH CR H z tk' gn' (past' ++ [m']) gone' ∧ m'.es.length < 64 ∧ (∀ e ∈ m'.es, Good e.f) ∧ ∀ H', Kp [] H H' → Q (.bl (eqFacts m.es m'.es)) H') ∨
   (∃ a xs, y = .ref a ∧ H a = some (.lst xs) ∧ Q (.bl false) H) ∨ (∃ z, y = .str z ∧ Q (.bl false) H))
theorem ok_req {f : Addr} {fd : FuncData} (F : Fun K "__eq__" "Roll.__eq__" sREq f fd) (T : Txt K mg CH CR) (IS : Isi K CR) (GF : HasM P w K mg base CX0 1 CR "facts" pRFacts (spRFacts CH CR)) : FnOk P w K mg base CX0 2 f fd pREq (spREq CH CR) := by
  obtain ⟨ff, fdf, Mf, bf, Gf⟩ := GF
  refine F.ok scREq (fun vs H Q E h => ?_) (fun cdv A outer s H vs Q E hr h => ?_)
  · obtain ⟨x, tk, gn, past, gone, m, y, rfl, _⟩ := h
    rfl
  · obtain ⟨x, tk, gn, past, gone, m, y, rfl, R, hl, hg, k⟩ := h
    refine ⟨_, pss_one (ps_ret (pe_and (pe_callB call_isi (by rfl) T.isi boot_isinstance (pa_cons (pv 1) (pa_cons (pe_glob (v := .ref CR) rfl T.gR rfl) pa_nil)))
      (pe_one (pe_cmpR (op_eqD hr.units) (pe_meth0 (pv 0) T.clR Mf Gf hr bf .nil pass0) (pe_meth0 (pv 1) T.clR Mf Gf hr bf .nil pass0) (nomark _))))), ?_⟩
    have I := IS.ins
    obtain ⟨dx, hs, gs, e1, e2, e3, e4, e5⟩ := R.ex
    rcases k with ⟨z, tk', gn', past', gone', m', rfl, R', hl', hg', k⟩ | ⟨a, xs, rfl, ha, k⟩ | ⟨z, rfl, k⟩
    · obtain ⟨dz, hs', gs', f1, f2, f3, f4, f5⟩ := R'.ex
      refine ⟨_, rfl, _, _, _, _, true, rfl, ClsV.own CR, .base (TyOf.ins f1 I.cl I.ha I.hn I.htk I.hm), I.me, true, rfl, iteT ?_⟩
      refine ⟨_, rfl, x, dx, _, rfl, e1, rf_no _ _ (by decide +kernel) (by decide +kernel), x, tk, gn, past, gone, m, rfl, R, hl, fun H1 p k1 np F1 => ?_⟩
      refine ⟨_, rfl, z, dz, _, rfl, k1.same _ _ f1, rf_no _ _ (by decide +kernel) (by decide +kernel), z, tk', gn', past', gone', m', rfl, R'.kp k1 (fun s h => by cases h) T.ne (by simp) (by simp) (by simp), hl', fun H2 q k2 nq F2 => ?_⟩
      exact ⟨_, _, (F1.kp k2 (by simp)).dp, F2.dp, facts_sh hg, facts_sh hg', k _ (k1.trans k2)⟩
    · exact ⟨_, rfl, _, _, _, _, false, rfl, ClsV.own CR, .base (TyOf.lst ha), IS.kL, false, rfl, iteF k⟩
    · exact ⟨_, rfl, _, _, _, _, false, rfl, ClsV.own CR, .base (TyOf.str z), IS.kS, false, rfl, iteF k⟩
end
end Pk

namespace Pk
open PySem PySem.Spec PyProof.Rows L2
/-- the law's bag of numbers -/
def BagAt (H : Hp) (b l : Addr) : Prop := ∃ (cs : List Int) (i v z : Int), H b = some (.lst [.ref l, .int i, .int v, .int z]) ∧ H l = some (.lst (cs.map V.int)) ∧ 0 ≤ i
theorem bag_ne {H : Hp} {b l : Addr} {cs : List Int} {x y z : V} (h1 : H b = some (.lst [.ref l, x, y, z])) (h2 : H l = some (.lst (cs.map V.int))) : l ≠ b := fun e => by
  rw [e, h1] at h2
  cases cs with
  | nil => cases h2
  | cons a r => cases h2
theorem BagAt.kp {S : List Addr} {H H' : Hp} (k : Kp S H H') {b l : Addr} (hb : b ∉ S) (hl : l ∉ S) (h : BagAt H b l) : BagAt H' b l := by
  obtain ⟨cs, i, v, z, h1, h2, h3⟩ := h
  exact ⟨cs, i, v, z, k.keep _ _ h1 hb, k.keep _ _ h2 hl, h3⟩
theorem BagAt.kp0 {H H' : Hp} (k : Kp [] H H') {b l : Addr} (h : BagAt H b l) : BagAt H' b l := h.kp k (by simp) (by simp)
theorem BagAt.lst {H : Hp} {b l : Addr} (h : BagAt H b l) : ∃ xs, H b = some (.lst xs) := by
  obtain ⟨cs, i, v, z, h1, h2, h3⟩ := h
  exact ⟨_, h1⟩
theorem BagAt.ne {H : Hp} {b l : Addr} (h : BagAt H b l) : l ≠ b := by
  obtain ⟨cs, i, v, z, h1, h2, h3⟩ := h
  exact bag_ne h1 h2
section
variable {P : Program} {w : World} {K : PySem.W.Frag} {mg : Str → Option Value} {base : Heap} {CH CR CP CM CO CN CF dk dl : Addr}
def spBag (K : PySem.W.Frag) : Sp := fun vs H Q _ => ∃ (a : Addr) (ns : List Int), vs = [.ref a] ∧ SqL K H a (ns.map V.int) ∧ ns.length ≤ 63 ∧ ∀ H' b l, Kp [] H H' → H b = none → H l = none → BagAt H' b l → Q (.ref b) H'
theorem cut_ints (ns : List Int) (lo hi : Option Int) : ∃ cs : List Int, cutV (ns.map V.int) lo hi = cs.map V.int ∧ cs.length ≤ ns.length := by
  unfold cutV
  refine ⟨(ns.drop (HT.sIx (ns.map V.int).length 0 lo)).take (HT.sIx (ns.map V.int).length (ns.map V.int).length hi - HT.sIx (ns.map V.int).length 0 lo), ?_, ?_⟩
  · rw [List.map_take, List.map_drop]
  · rw [List.length_take, List.length_drop]; omega
theorem ok_bag {f : Addr} {fd : FuncData} (F : Fun K "_law_bag" "_law_bag" sBag f fd) (T : Txt K mg CH CR) : FnOk P w K mg base CX0 1 f fd pBag (spBag K) := by
  refine F.ok scBag (fun vs H Q E h => ?_) (fun cdv A outer s H vs Q E hr h => ?_)
  · obtain ⟨a, ns, rfl, _⟩ := h
    rfl
  · obtain ⟨a, ns, rfl, ha, hl, k⟩ := h
    refine ⟨_, pss_cons (ps_set (i := 1) scBag.nd rfl (Or.inl rfl) pe_int)
      (pss_cons (ps_for PassesOwn.never rfl (pi_list (pe_slice sl_list (pv 0) po_none (po_some pe_int))) (pg_name (i := 2) scBag.nd rfl (Or.inl rfl))
        (pss_one (ps_set (i := 1) scBag.nd rfl (Or.inl rfl) (pe_op op_mod (pe_op op_add (pe_op op_add (pe_op op_mul (pv 1) pe_int) (pe_op op_mod (pv 2) pe_int)) pe_int) pe_int))))
      (pss_one (ps_ret (pe_lst (pa_cons (pe_callTy call_list_of (by rfl) T.list boot_list (pa_cons (pe_slice sl_list (pv 0) po_none (po_some pe_int)) pa_nil)) (pa_cons pe_int (pa_cons pe_int (pa_cons (pv 1) pa_nil)))))))), ?_⟩
    obtain ⟨cs, ec, hc⟩ := cut_ints ns none (some 63)
    refine ⟨_, rfl, _, rfl, a, _, rfl, ha, fun p np => ⟨p, rfl, ⟨_, SqL.of upd_same⟩, ?_⟩⟩
    rw [ec]
    have kp0 : Kp [] H (upd H p (.lst (cs.map V.int))) := Kp.new np
    refine for_list (K := K) (a := p) (xs := cs.map V.int) (fun i σ H' => Kp [] (upd H p (.lst (cs.map V.int))) H' ∧ ∃ z c, σ = [some (.ref a), some (.int z), c]) ⟨Kp.refl _ _, _, _, rfl⟩ (fun i σ H' _ q => SqL.of (q.1.same _ _ upd_same)) (fun i x σ H' hx q => ?_) (fun σ H' q => ?_)
    · obtain ⟨kp, z, c, rfl⟩ := q
      obtain ⟨n, rfl⟩ : ∃ n, x = V.int n := by
        rw [List.getElem?_map] at hx
        obtain ⟨n, _, q2⟩ := Option.map_eq_some_iff.mp hx
        exact ⟨n, q2.symm⟩
      refine ⟨_, rfl, _, _, rfl, rfl, .inr ⟨by decide, by decide⟩, _, rfl, _, _, rfl, rfl, (by show (0 : Int) < 2147483629; decide), _, _, rfl, rfl, _, _, rfl, rfl, _, _, rfl, rfl, (by show (0 : Int) < 2147483647; decide), kp, _, _, rfl⟩
    · obtain ⟨kp, z, c, rfl⟩ := q
      have kq := kp0.andN kp (fun a h => by cases h)
      refine ⟨_, rfl, _, rfl, a, _, rfl, kq.same.seq ha, fun p2 np2 => ⟨p2, _, rfl, .inl (SqL.of upd_same), fun l nl => ⟨_, rfl, (by show 4 ≤ sizeLine; decide), fun b nb => ?_⟩⟩⟩
      rw [ec] at nl nb ⊢
      have k3 : Kp [] H (upd (upd H' p2 (.lst (cs.map V.int))) l (.lst (cs.map V.int))) := (kq.newN np2).newN nl
      refine k _ b l (k3.newN nb) (k3.free _ nb) ((kq.newN np2).free _ nl) ⟨cs, 0, 0, z, upd_same, ?_, by decide⟩
      have nlb : l ≠ b := fun e => by rw [← e, upd_same] at nb; cases nb
      rw [upd_ne nlb, upd_same]
/-! ### the draw -/
def spPull : Sp := fun vs H Q _ => ∃ (b l : Addr) (n : Int), vs = [.ref b, .int n] ∧ BagAt H b l ∧ 0 < n ∧ n < 1073741824 ∧ ∀ H' r, Kp [b] H H' → BagAt H' b l → 0 ≤ r → r < n → Q (.int r) H'
theorem at4 {a b c d : V} : atI [a, b, c, d] 0 = some a ∧ atI [a, b, c, d] 1 = some b ∧ atI [a, b, c, d] 2 = some c ∧ atI [a, b, c, d] 3 = some d :=
  ⟨atI_nat (j := 0) rfl, atI_nat (j := 1) rfl, atI_nat (j := 2) rfl, atI_nat (j := 3) rfl⟩
theorem ok_pull {f : Addr} {fd : FuncData} (F : Fun K "_law_pull" "_law_pull" sPull f fd) (T : Txt K mg CH CR) : FnOk P w K mg base CX0 1 f fd pPull spPull := by
  refine F.ok scPull (fun vs H Q E h => ?_) (fun cdv A outer s H vs Q E hr h => ?_)
  · obtain ⟨b, l, n, rfl, _⟩ := h
    rfl
  · obtain ⟨b, l, n, rfl, hb, h0, h1, k⟩ := h
    refine ⟨_, C8.pss_cut (ps_if (PW.pt (pw_and (pt_cmpR op_eq (pe_ix ix_list (pv 0) pe_int (fun _ _ => rfl)) pe_int (nomark _)) (pw_and1 (pt_cmpR op_lt (pe_ix ix_list (pv 0) pe_int (fun _ _ => rfl)) (pe_callB call_len_seq (by rfl) T.len PySem.boot_len (pa_cons (pe_ix ix_list (pv 0) pe_int (fun _ _ => rfl)) pa_nil)) (nomark _)))))
        (pss_cons (ps_set (i := 2) scPull.nd rfl (Or.inl rfl) (pe_ix ix_list (pe_ix ix_list (pv 0) pe_int (fun _ _ => rfl)) (pe_ix ix_list (pv 0) pe_int (fun _ _ => rfl)) (fun _ _ => rfl)))
        (pss_cons (ps_asg (pe_op op_add (pe_ix ix_list (pv 0) pe_int (fun _ _ => rfl)) pe_int) (pg_sub (pv 0) pe_int set_list))
        (pss_one (ps_if (pt_cmpR op_ge (pv 2) (pe_op op_pow pe_int pe_int) (nomark _))
          (pss_one (ps_asg (pv 2) (pg_sub (pv 0) pe_int set_list)))
          (pss_one (ps_asg (pe_op op_mod (pe_op op_add (pe_op op_add (pe_op op_mul (pe_ix ix_list (pv 0) pe_int (fun _ _ => rfl)) pe_int) (pe_op op_mul (pe_op op_mod (pv 2) pe_int) pe_int)) pe_int) pe_int) (pg_sub (pv 0) pe_int set_list))))))) pss_nil)
      (pss_cons (ps_if (pt_cmpR op_gt (pe_ix ix_list (pv 0) pe_int (fun _ _ => rfl)) pe_int (nomark _))
        (pss_cons (ps_set (i := 3) scPull.nd rfl (Or.inl rfl) (pe_op op_mod (pe_ix ix_list (pv 0) pe_int (fun _ _ => rfl)) (pv 1)))
        (pss_cons (ps_asg (pe_op op_fdiv (pe_ix ix_list (pv 0) pe_int (fun _ _ => rfl)) (pv 1)) (pg_sub (pv 0) pe_int set_list))
        (pss_one (ps_ret (pv 3))))) pss_nil)
      (pss_cons (ps_set (i := 4) scPull.nd rfl (Or.inl rfl) (pe_ix ix_list (pv 0) pe_int (fun _ _ => rfl)))
      (pss_cons (ps_asg (pe_op op_mod (pe_op op_add (pe_op op_add (pe_op op_mul (pv 4) pe_int) (pe_op op_mul (pe_op op_fdiv (pv 4) pe_int) pe_int)) pe_int) pe_int) (pg_sub (pv 0) pe_int set_list))
      (pss_one (ps_ret (pe_op op_mod (pe_op op_add (pe_op op_fdiv (pe_ix ix_list (pv 0) pe_int (fun _ _ => rfl)) pe_int) (pe_op op_mul (pe_op op_mod (pe_ix ix_list (pv 0) pe_int (fun _ _ => rfl)) pe_int) pe_int)) (pv 1)))))))  , ?_⟩
    refine ⟨fun σ' H' => Kp [b] H H' ∧ BagAt H' b l ∧ ∃ c, σ' = [some (.ref b), some (.int n), c, none, none], ?_, ?_⟩
    · obtain ⟨cs, i, v, z, hB, hL, hi⟩ := id hb
      have nl := bag_ne hB hL
      refine ⟨_, rfl, b, _, _, _, rfl, rfl, SqL.of hB, at4.2.2.1, rfl, _, rfl, ?_⟩
      refine ite2 (fun _ => ?_) (fun _ => iteF ⟨Kp.refl _ _, hb, _, rfl⟩)
      refine ⟨_, rfl, b, _, _, _, rfl, rfl, SqL.of hB, at4.2.1, _, rfl, b, _, _, _, rfl, rfl, SqL.of hB, at4.1, l, _, rfl, .inl (SqL.of hL), _, _, rfl, rfl, _, rfl, ?_⟩
      refine ite2 (fun c => ?_) (fun _ => ⟨Kp.refl _ _, hb, _, rfl⟩)
      have c' : i < ((cs.map V.int).length : Int) := of_decide_eq_true c
      rw [List.length_map] at c'
      have hj : i.toNat < cs.length := by omega
      have ha : atI (cs.map V.int) i = some (.int cs[i.toNat]) := by
        have z := atI_nat (xs := cs.map V.int) (j := i.toNat) (v := .int cs[i.toNat]) (by rw [List.getElem?_map, List.getElem?_eq_getElem hj]; rfl)
        rwa [Int.toNat_of_nonneg hi] at z
      generalize cs[i.toNat] = cell at ha
      refine ⟨_, rfl, b, _, _, _, rfl, rfl, SqL.of hB, at4.1, _, rfl, b, _, _, _, rfl, rfl, SqL.of hB, at4.2.1, l, _, _, _, rfl, rfl, SqL.of hL, ha, ?_⟩
      refine ⟨_, rfl, b, _, _, _, rfl, rfl, SqL.of hB, at4.2.1, _, _, rfl, rfl, _, rfl, b, _, _, 1, rfl, rfl, hB, rfl, ?_⟩
      have hB1 : upd H b (.lst [.ref l, .int (i + 1), .int v, .int z]) b = some (.lst [.ref l, .int (i + 1), .int v, .int z]) := upd_same
      have k1 : Kp [b] H (upd H b (.lst [.ref l, .int (i + 1), .int v, .int z])) := Kp.put hB (fun _ z => by cases z)
      have hL1 : upd H b (.lst [.ref l, .int (i + 1), .int v, .int z]) l = some (.lst (cs.map V.int)) := by rw [upd_ne nl]; exact hL
      refine ⟨_, rfl, _, _, rfl, rfl, ⟨by decide, by decide, by decide⟩, _, _, rfl, rfl, _, rfl, ?_⟩
      refine ite2 (fun _ => ?_) (fun _ => ?_)
      · refine ⟨_, rfl, _, rfl, b, _, _, 2, rfl, rfl, hB1, rfl, k1.trans (Kp.put hB1 (fun _ z => by cases z)), ⟨cs, i + 1, cell, z, upd_same, ?_, by omega⟩, _, rfl⟩
        rw [upd_ne nl]; exact hL1
      · refine ⟨_, rfl, b, _, _, _, rfl, rfl, SqL.of hB1, at4.2.2.2, _, _, rfl, rfl, .inr ⟨by decide, by decide⟩, _, rfl, _, _, rfl, rfl, (by show (0 : Int) < 2147483629; decide), _, _, rfl, rfl, .inr ⟨by decide, by decide⟩, _, _, rfl, rfl, _, _, rfl, rfl, _, _, rfl, rfl, (by show (0 : Int) < 2147483647; decide), ?_⟩
        refine ⟨_, rfl, b, _, _, 3, rfl, rfl, hB1, rfl, k1.trans (Kp.put hB1 (fun _ z => by cases z)), ⟨cs, i + 1, v, _, upd_same, ?_, by omega⟩, _, rfl⟩
        rw [upd_ne nl]; exact hL1
    · rintro σ' H1 ⟨kp, ⟨cs, i, v, z, hB, hL, hi⟩, c, rfl⟩
      have nl := bag_ne hB hL
      refine ⟨_, rfl, b, _, _, _, rfl, rfl, SqL.of hB, at4.2.2.1, _, _, rfl, rfl, _, rfl, ?_⟩
      refine ite2 (fun _ => ?_) (fun _ => ?_)
      · refine ⟨_, rfl, b, _, _, _, rfl, rfl, SqL.of hB, at4.2.2.1, _, rfl, _, _, rfl, rfl, h0, ?_⟩
        refine ⟨_, rfl, b, _, _, _, rfl, rfl, SqL.of hB, at4.2.2.1, _, rfl, _, _, rfl, rfl, ⟨h0, h1⟩, _, rfl, b, _, _, 2, rfl, rfl, hB, rfl, _, rfl, ?_⟩
        refine k _ _ (kp.trans (Kp.put hB (fun _ z => by cases z))) ⟨cs, i, _, z, upd_same, ?_, hi⟩ (Int.emod_nonneg _ (by omega)) (Int.emod_lt_of_pos _ h0)
        rw [upd_ne nl]; exact hL
      · refine ⟨_, rfl, b, _, _, _, rfl, rfl, SqL.of hB, at4.2.2.2, ?_⟩
        refine ⟨_, rfl, _, _, rfl, rfl, .inr ⟨by decide, by decide⟩, _, rfl, _, _, rfl, rfl, ⟨by decide, by decide⟩, _, _, rfl, rfl, .inr ⟨by decide, by decide⟩, _, _, rfl, rfl, _, _, rfl, rfl, _, _, rfl, rfl, (by show (0 : Int) < 2147483647; decide), ?_⟩
        refine ⟨_, rfl, b, _, _, 3, rfl, rfl, hB, rfl, ?_⟩
        refine ⟨_, rfl, b, _, _, _, rfl, rfl, SqL.of upd_same, at4.2.2.2, _, _, rfl, rfl, ⟨by decide, by decide⟩, _, rfl, b, _, _, _, rfl, rfl, SqL.of upd_same, at4.2.2.2, _, _, rfl, rfl, (by show (0 : Int) < 8191; decide), _, _, rfl, rfl, .inr ⟨by decide, by decide⟩, _, _, rfl, rfl, _, rfl, _, _, rfl, rfl, h0, ?_⟩
        refine k _ _ (kp.trans (Kp.put hB (fun _ z => by cases z))) ⟨cs, i, v, _, upd_same, ?_, hi⟩ (Int.emod_nonneg _ (by omega)) (Int.emod_lt_of_pos _ h0)
        rw [upd_ne nl]; exact hL
end
end Pk

namespace Pk
open PySem PySem.Spec PyProof.Rows L2
theorem at_pick {xs : List V} {r : Int} (h0 : 0 ≤ r) (h1 : r < (xs.length : Int)) : ∃ v ∈ xs, atI xs r = some v := by
  have hj : r.toNat < xs.length := by omega
  refine ⟨xs[r.toNat], List.getElem_mem hj, ?_⟩
  have z := atI_nat (xs := xs) (j := r.toNat) (v := xs[r.toNat]) (List.getElem?_eq_getElem hj)
  rwa [Int.toNat_of_nonneg h0] at z
theorem at_ints (ns : List Int) {r : Int} (h0 : 0 ≤ r) (h1 : r < (ns.length : Int)) : ∃ n ∈ ns, atI (ns.map V.int) r = some (.int n) := by
  obtain ⟨v, hv, e⟩ := at_pick (xs := ns.map V.int) h0 (by rw [List.length_map]; exact h1)
  obtain ⟨n, hn, rfl⟩ := List.mem_map.mp hv
  exact ⟨n, hn, e⟩
theorem Kp.got {S : List Addr} {H H' : Hp} {p : Addr} {o : HO} (k : Kp S (upd H p o) H') (np : H p = none) (hS : ∀ s ∈ S, H s ≠ none) : H' p = some o :=
  k.keep p o upd_same fun z => hS p z np
theorem bag_in {H : Hp} {b l : Addr} (h : BagAt H b l) : ∀ s ∈ [b], H s ≠ none := fun s hs => by
  rw [List.mem_singleton.mp hs]
  obtain ⟨xs, e⟩ := h.lst
  rw [e]
  exact fun z => nomatch z
section
variable {P : Program} {w : World} {K : PySem.W.Frag} {mg : Str → Option Value} {base : Heap} {CH CR CP CM CO CN CF dk dl : Addr}
/-- a draw that gives a number between lo and hi -/
def spDr (lo hi : Int) : Sp := fun vs H Q _ => ∃ (b l : Addr), vs = [.ref b] ∧ BagAt H b l ∧ ∀ H' r, Kp [b] H H' → BagAt H' b l → lo ≤ r → r ≤ hi → Q (.int r) H'
def spFar : Sp := fun vs H Q _ => ∃ (b l : Addr), vs = [.ref b] ∧ BagAt H b l ∧ ∀ H' r, Kp [b] H H' → BagAt H' b l → Q (.int r) H'
theorem ok_far {f : Addr} {fd : FuncData} (F : Fun K "_law_far" "_law_far" sFar f fd) (GP : Has P w K mg base CX0 1 "_law_pull" pPull spPull) : FnOk P w K mg base CX0 2 f fd pFar spFar := by
  obtain ⟨fp, fdp, mP, kP, bP, G⟩ := GP
  refine F.ok scFar (fun vs H Q E h => ?_) (fun cdv A outer s H vs Q E hr h => ?_)
  · obtain ⟨b, l, rfl, _⟩ := h
    rfl
  · obtain ⟨b, l, rfl, hb, k⟩ := h
    refine ⟨_, pss_cons (ps_set (i := 1) scFar.nd rfl (Or.inl rfl) (pe_call G hr rfl mP kP bP .nil pass0 (pa_cons (pv 0) (pa_cons (pe_op op_pow pe_int pe_int) pa_nil))))
      (C8.pss_cut (ps_if (pt_cmpR op_eq (pe_call G hr rfl mP kP bP .nil pass0 (pa_cons (pv 0) (pa_cons pe_int pa_nil))) pe_int (nomark _)) (pss_one (ps_set (i := 1) scFar.nd rfl (Or.inl rfl) (pe_op op_add (pv 1) (pe_op op_pow pe_int pe_int)))) pss_nil)
      (pss_cons (ps_if (pt_cmpR op_eq (pe_call G hr rfl mP kP bP .nil pass0 (pa_cons (pv 0) (pa_cons pe_int pa_nil))) pe_int (nomark _)) (pss_one (ps_ret (pe_op op_sub (pe_un un_neg pe_int) (pv 1)))) pss_nil)
      (pss_one (ps_ret (pv 1))))), ?_⟩
    refine ⟨_, rfl, _, _, rfl, rfl, ⟨by decide, by decide, by decide⟩, b, l, 10 ^ 9, rfl, hb, by decide, by decide, fun H1 r1 k1 b1 _ _ => ?_⟩
    refine ⟨fun σ' H' => Kp [b] H H' ∧ BagAt H' b l ∧ ∃ r, σ' = [some (.ref b), some (.int r)], ?_, ?_⟩
    · refine ⟨_, rfl, b, l, 2, rfl, b1, by decide, by decide, fun H2 r2 k2 b2 _ _ => ⟨rfl, _, rfl, ite2 (fun _ => ?_) (fun _ => ⟨k1.trans k2, b2, _, rfl⟩)⟩⟩
      exact ⟨_, rfl, _, _, rfl, rfl, ⟨by decide, by decide, by decide⟩, _, _, rfl, rfl, k1.trans k2, b2, _, rfl⟩
    · rintro σ' H2 ⟨k2, b2, r, rfl⟩
      refine ⟨_, rfl, b, l, 2, rfl, b2, by decide, by decide, fun H3 r3 k3 b3 _ _ => ⟨rfl, _, rfl, ite2 (fun _ => ?_) (fun _ => ⟨_, rfl, k _ _ (k2.trans k3) b3⟩)⟩⟩
      exact ⟨_, rfl, _, rfl, _, _, rfl, rfl, k _ _ (k2.trans k3) b3⟩
/-- (x, y)[int(pull(bag, 4) == 0)] -/
def tPick (K : PySem.W.Frag) (x y : Int) : TE := tOp (rIxT K) (tTup (tCons (tC (.int x)) (tCons (tC (.int y)) tNil)))
  (tCB (fun xs H Q => (∃ i, xs = [V.int i] ∧ Q (V.int i) H) ∨ ∃ k, xs = [V.bl k] ∧ Q (V.int (if k = true then 1 else 0)) H) (tCons (tOp rEq (tCall spPull [] E0 (tCons (tVar 0) (tCons (tC (V.int 4)) tNil))) (tC (V.int 0))) tNil))
theorem rd_pick {x y : Int} {b l : Addr} {σ : St} {H : Hp} {Q : VK} (hσ : σ[0]? = some (some (.ref b))) (hb : BagAt H b l) (k : ∀ H' r, Kp [b] H H' → BagAt H' b l → r = x ∨ r = y → Q (.int r) H') : tPick K x y σ H Q := by
  refine ⟨(by show 2 ≤ sizeLine; decide), fun t nt => ⟨_, hσ, b, l, 4, rfl, hb.kp0 (Kp.new nt), by decide, by decide, fun H1 r k1 b1 _ _ => ⟨rfl, .inr ⟨_, rfl, ?_⟩⟩⟩⟩
  have e1 := k1.got nt (bag_in hb)
  have kf : Kp [b] H H1 := (Kp.new nt).trans k1
  cases decide (V.int r = V.int 0) with
  | true => exact ⟨t, _, _, _, rfl, rfl, SqT.of e1, atI_nat (j := 1) rfl, k _ _ kf b1 (.inr rfl)⟩
  | false => exact ⟨t, _, _, _, rfl, rfl, SqT.of e1, atI_nat (j := 0) rfl, k _ _ kf b1 (.inl rfl)⟩
theorem ok_gate {f : Addr} {fd : FuncData} (F : Fun K "_law_gate" "_law_gate" sGate f fd) (T : Txt K mg CH CR) (GP : Has P w K mg base CX0 1 "_law_pull" pPull spPull) : FnOk P w K mg base CX0 2 f fd pGate (spDr 0 7) := by
  obtain ⟨fp, fdp, mP, kP, bP, G⟩ := GP
  refine F.ok scGate (fun vs H Q E h => ?_) (fun cdv A outer s H vs Q E hr h => ?_)
  · obtain ⟨b, l, rfl, _⟩ := h
    rfl
  · obtain ⟨b, l, rfl, hb, k⟩ := h
    refine ⟨_, pss_one (ps_ret (pe_call G hr rfl mP kP bP .nil pass0 (pa_cons (pv 0) (pa_cons (pe_ix ix_tup (pe_tup (pa_cons pe_int (pa_cons pe_int pa_nil)))
      (pe_callTy call_int1 (by rfl) T.int boot_int (pa_cons (pe_cmpR op_eq (pe_call G hr rfl mP kP bP .nil pass0 (pa_cons (pv 0) (pa_cons pe_int pa_nil))) pe_int (nomark _)) pa_nil)) (fun _ _ => rfl)) pa_nil)))), ?_⟩
    refine ⟨_, rfl, rd_pick (K := K) (x := 4) (y := 8) (b := b) (l := l) rfl hb fun H1 r k1 b1 hr' => ?_⟩
    refine ⟨b, l, r, rfl, b1, by omega, by omega, fun H2 r2 k2 b2 h0 h1 => k _ _ (k1.trans k2) b2 h0 (by omega)⟩
/-! ### a day -/
theorem ok_day {f : Addr} {fd : FuncData} (F : Fun K "_law_day" "_law_day" sDay f fd) (GP : Has P w K mg base CX0 1 "_law_pull" pPull spPull) : FnOk P w K mg base CX0 2 f fd pDay (spDr 0 999) := by
  obtain ⟨fp, fdp, mP, kP, bP, G⟩ := GP
  refine F.ok scDay (fun vs H Q E h => ?_) (fun cdv A outer s H vs Q E hr h => ?_)
  · obtain ⟨b, l, rfl, _⟩ := h
    rfl
  · obtain ⟨b, l, rfl, hb, k⟩ := h
    refine ⟨_, pss_cons (ps_set (i := 1) scDay.nd rfl (Or.inl rfl) (pe_ix ix_list (pe_lst (pa_cons pe_int (pa_cons pe_int (pa_cons pe_int (pa_cons pe_int pa_nil))))) (pe_call G hr rfl mP kP bP .nil pass0 (pa_cons (pv 0) (pa_cons pe_int pa_nil))) (fun _ _ => rfl)))
      (pss_one (ps_ret (pe_ix ix_list (pe_lst (pa_cons (pe_call G hr rfl mP kP bP .nil pass0 (pa_cons (pv 0) (pa_cons pe_int pa_nil))) (pa_cons (pv 1) (pa_cons (pe_op op_add pe_int (pe_call G hr rfl mP kP bP .nil pass0 (pa_cons (pv 0) (pa_cons pe_int pa_nil))))
        (pa_cons (pe_call G hr rfl mP kP bP .nil pass0 (pa_cons (pv 0) (pa_cons pe_int pa_nil))) pa_nil))))) (pe_call G hr rfl mP kP bP .nil pass0 (pa_cons (pv 0) (pa_cons pe_int pa_nil))) (fun _ _ => rfl)))), ?_⟩
    refine ⟨(by show 4 ≤ sizeLine; decide), fun t nt => ⟨_, rfl, b, l, 4, rfl, hb.kp0 (Kp.new nt), by decide, by decide, fun H1 r k1 b1 h0 h1 => ?_⟩⟩
    have e1 := k1.got nt (bag_in hb)
    have kf : Kp [b] H H1 := (Kp.new nt).trans k1
    obtain ⟨m, hm, em⟩ := at_ints [13, 999, 993, 6] h0 h1
    have hm2 : 0 ≤ m ∧ m ≤ 999 := by
      simp only [List.mem_cons, List.not_mem_nil, or_false] at hm
      omega
    refine ⟨t, _, _, _, rfl, rfl, SqL.of e1, em, ?_⟩
    refine ⟨_, rfl, b, l, 9, rfl, b1, by decide, by decide, fun H2 r2 k2 b2 _ _ => ⟨_, rfl, _, rfl, b, l, 3, rfl, b2, by decide, by decide, fun H3 r3 k3 b3 _ _ => ⟨_, _, rfl, rfl, _, rfl, b, l, 1000, rfl, b3, by decide, by decide, fun H4 r4 k4 b4 _ _ => ?_⟩⟩⟩
    refine ⟨(by show 4 ≤ sizeLine; decide), fun t2 nt2 => ⟨_, rfl, b, l, 4, rfl, b4.kp0 (Kp.new nt2), by decide, by decide, fun H5 r5 k5 b5 h50 h51 => ?_⟩⟩
    have e5 := k5.got nt2 (bag_in b4)
    obtain ⟨m2, hm2, em2⟩ := at_ints [r2, m, 5 + r3, r4] h50 h51
    refine ⟨t2, _, _, _, rfl, rfl, SqL.of e5, em2, ?_⟩
    simp only [List.mem_cons, List.not_mem_nil, or_false] at hm2
    exact k _ _ (kf.trans (k2.trans (k3.trans (k4.trans ((Kp.new nt2).trans k5))))) b5 (by omega) (by omega)
end
end Pk

namespace Pk
open PySem PySem.Spec PyProof.Rows L2
theorem upto_snoc {i : Nat} {acc : List Int} (h : ∀ z ∈ acc, z < (i : Int)) : upto i (acc ++ [(i : Int)]) = upto i acc := by
  unfold upto
  apply List.filter_congr
  intro z hz
  obtain ⟨j, hj, rfl⟩ := List.mem_map.mp hz
  have hj' : j < i := List.mem_range.mp hj
  have e : Int.ofNat j ∈ acc ++ [(i : Int)] ↔ Int.ofNat j ∈ acc := by
    rw [List.mem_append, List.mem_singleton]
    constructor
    · rintro (q | q)
      · exact q
      · have q' : (j : Int) = (i : Int) := q
        omega
    · exact Or.inl
  exact decide_eq_decide.mpr e
section
variable {P : Program} {w : World} {K : PySem.W.Frag} {mg : Str → Option Value} {base : Heap} {CH CR CP CM CO CN CF dk dl : Addr}
/-- a drawn fact -/
def spDf : Sp := fun vs H Q _ => ∃ (b l : Addr), vs = [.ref b] ∧ BagAt H b l ∧ ∀ H' a fc, Kp [b] H H' → BagAt H' b l → FctAt H' a fc → Good fc → Q (.ref a) H'
theorem ok_board {f : Addr} {fd : FuncData} (F : Fun K "_law_board" "_law_board" sBoard f fd) (T : Txt K mg CH CR) (GP : Has P w K mg base CX0 1 "_law_pull" pPull spPull) (GG : Has P w K mg base CX0 2 "_law_gate" pGate (spDr 0 7)) (GD : Has P w K mg base CX0 2 "_law_day" pDay (spDr 0 999)) :
    FnOk P w K mg base CX0 3 f fd pBoard spDf := by
  obtain ⟨fp, fdp, mP, kP, bP, G⟩ := GP
  obtain ⟨fg, fdg, mG, kG, bG, Gg⟩ := GG
  obtain ⟨fy, fdy, mD, kD, bD, Gd⟩ := GD
  refine F.ok scBoard (fun vs H Q E h => ?_) (fun cdv A outer s H vs Q E hr h => ?_)
  · obtain ⟨b, l, rfl, _⟩ := h
    rfl
  · obtain ⟨b, l, rfl, hb, k⟩ := h
    refine ⟨_, pss_cons (ps_set (i := 1) scBoard.nd rfl (Or.inl rfl) (pe_callTy call_tuple_of (by rfl) T.tuple boot_tuple (pa_cons
        (pe_lc (own := [("_law_gate_here", 2)]) (g := gName 2) (tt := tTest (tOp rEq (tCall spPull [] E0 (tCons (tVar 0) (tCons (tC (.int 3)) tNil))) (tC (.int 0)))) rfl scBoard.nd (pi_range1 (by rfl) T.range (pa_cons pe_int pa_nil))
          (blkOk_by (N := nBoard) (sc := defScope sBoard) (by decide +kernel)) (fun _ _ _ _ _ => pg_name (i := 2) scBoard.nd rfl (Or.inl rfl))
          (fun _ _ _ _ _ => pts_one (pt_cmpR op_eq (pe_call G (hr.mono (by decide)) rfl mP kP bP .nil pass0 (pa_cons (pv 0) (pa_cons pe_int pa_nil))) pe_int (nomark _)))
          (fun _ _ _ _ _ => pv 2)) pa_nil)))
      (pss_one (ps_ret (pe_tup (pa_cons pe_str (pa_cons (pe_call Gg hr rfl mG kG bG .nil pass0 (pa_cons (pv 0) pa_nil)) (pa_cons (pe_call Gd hr rfl mD kD bD .nil pass0 (pa_cons (pv 0) pa_nil)) (pa_cons (pv 1) pa_nil))))))), ?_⟩
    refine ⟨8, rfl, by decide, by decide, fun D nD => ?_⟩
    refine lc_range (n := 8) (fun i H' => Kp [b] H H' ∧ BagAt H' b l ∧ ∃ acc : List Int, H' D = some (.lst (acc.map V.int)) ∧ acc = upto i acc ∧ (∀ z ∈ acc, z < (i : Int)) ∧ acc.length ≤ i)
      ⟨Kp.new nD, hb.kp0 (Kp.new nD), [], upd_same, rfl, by simp, Nat.le_refl _⟩ (fun i H' hi q => ?_) (fun H' q => ?_)
    · obtain ⟨kp, b1, acc, hD, ha, hz, hlen⟩ := q
      refine ⟨rfl, _, rfl, b, l, 3, rfl, b1, by decide, by decide, fun H2 r k2 b2 _ _ => ⟨rfl, _, rfl, ?_⟩⟩
      have nDb : D ∉ [b] := fun z => by
        obtain ⟨xs, e⟩ := hb.lst
        rw [List.mem_singleton.mp z, e] at nD
        cases nD
      have nDl : l ≠ D := fun z => by
        obtain ⟨cs, _, _, _, _, e, _⟩ := hb
        rw [z, nD] at e
        cases e
      have hD2 := k2.keep _ _ hD nDb
      refine ite2 (fun _ => ?_) (fun _ => ⟨kp.trans k2, b2, acc, hD2, ?_, fun z q => ?_, Nat.le_succ_of_le hlen⟩)
      · have ei : ((0 : Int) + (i : Int)) = (i : Int) := Int.zero_add _
        rw [ei]
        have kD2 : Kp [D] H2 (upd H2 D (.lst ((acc ++ [(i : Int)]).map V.int))) := Kp.put hD2 (fun _ z => by cases z)
        refine ⟨_, rfl, acc.map V.int, hD2, ?_, (kp.trans k2).putN nD, b2.kp (Kp.put hD2 (fun _ z => by cases z)) (fun z => nDb (by rw [List.mem_singleton.mp z]; simp)) (fun z => nDl (List.mem_singleton.mp z)), acc ++ [(i : Int)], ?_, ?_, fun z q => ?_, ?_⟩
        · rw [List.length_map]
          exact Nat.lt_of_le_of_lt hlen (Nat.lt_trans hi (by decide))
        · rw [upd_same, List.map_append]
          rfl
        · rw [upto_succ, upto_snoc hz, if_pos (by rw [List.mem_append]; exact .inr (List.mem_singleton.mpr rfl)), ← ha]
          rfl
        · rcases List.mem_append.mp q with q | q
          · have := hz z q; omega
          · rw [List.mem_singleton.mp q]; omega
        · rw [List.length_append, List.length_singleton]; omega
      · rw [upto_succ, if_neg, List.append_nil]
        · exact ha
        · intro q
          have := hz _ q
          have e : Int.ofNat i = (i : Int) := rfl
          omega
      · have := hz z q; omega
    · obtain ⟨kp, b1, acc, hD, ha, hz, hlen⟩ := q
      refine ⟨D, _, rfl, .inl ⟨SqL.of hD, fun t nt => ?_⟩⟩
      have kt : Kp [b] H (upd H' t (.tup (acc.map V.int))) := kp.newN nt
      refine ⟨_, rfl, b, l, rfl, b1.kp0 (Kp.new nt), fun H2 r2 k2 b2 h20 h21 => ⟨_, rfl, b, l, rfl, b2, fun H3 r3 k3 b3 h30 h31 => ⟨_, rfl, (by show 4 ≤ sizeLine; decide), fun p np => ?_⟩⟩⟩
      have k4 := kt.trans (k2.trans k3)
      refine k _ p ("board", [.n r2, .n r3, .g acc]) (k4.newN np) (b3.kp0 (Kp.new np)) ⟨_, upd_same, .cons rfl (.cons rfl (.cons ⟨t, rfl, ?_⟩ .nil))⟩ ⟨[.gate, .day, .gates], List.mem_of_getElem? (i := 1) rfl, ?_⟩
      · have e1 := k3.tups _ _ (k2.tups _ _ (show upd H' t (.tup (acc.map V.int)) t = some (.tup (acc.map V.int)) from upd_same))
        rw [upd_ne (ne_of_none e1 np)]
        exact e1
      · exact .cons ⟨r2, rfl, h20, h21⟩ (.cons ⟨r3, rfl, h30, h31⟩ (.cons ⟨acc, rfl, ha⟩ .nil))
/-! ### passing -/
theorem mk_tup {H H' : Hp} {p : Addr} {xs : List V} {wd : Str} {ts : List Th} (k : Kp [] H H') (e : H p = some (.tup (.str wd :: xs))) (h : ThsAt H xs ts) : FctAt H' p (wd, ts) := ⟨xs, k.tups _ _ e, h.kp k⟩
theorem ok_passing {f : Addr} {fd : FuncData} (F : Fun K "_law_passing" "_law_passing" sPassing f fd) (T : Txt K mg CH CR) (GP : Has P w K mg base CX0 1 "_law_pull" pPull spPull) (GG : Has P w K mg base CX0 2 "_law_gate" pGate (spDr 0 7)) (GD : Has P w K mg base CX0 2 "_law_day" pDay (spDr 0 999)) :
    FnOk P w K mg base CX0 3 f fd pPassing spDf := by
  obtain ⟨fp, fdp, mP, kP, bP, G⟩ := GP
  obtain ⟨fg, fdg, mG, kG, bG, Gg⟩ := GG
  obtain ⟨fy, fdy, mD, kD, bD, Gd⟩ := GD
  refine F.ok scPassing (fun vs H Q E h => ?_) (fun cdv A outer s H vs Q E hr h => ?_)
  · obtain ⟨b, l, rfl, _⟩ := h
    rfl
  · obtain ⟨b, l, rfl, hb, k⟩ := h
    have hr1 : Room 1 _ := hr.mono (by decide)
    refine ⟨_, pss_cons (ps_set (i := 1) scPassing.nd rfl (Or.inl rfl) (pe_ix ix_list (pe_lst (pa_cons (pe_call G hr1 rfl mP kP bP .nil pass0 (pa_cons (pv 0) (pa_cons pe_int pa_nil))) (pa_cons (pe_call G hr1 rfl mP kP bP .nil pass0 (pa_cons (pv 0) (pa_cons pe_int pa_nil))) (pa_cons pe_int pa_nil)))) (pe_call G hr1 rfl mP kP bP .nil pass0 (pa_cons (pv 0) (pa_cons pe_int pa_nil))) (fun _ _ => rfl)))
      (pss_cons (ps_set (i := 2) scPassing.nd rfl (Or.inl rfl) (pe_call G hr1 rfl mP kP bP .nil pass0 (pa_cons (pv 0) (pa_cons (pe_ix ix_tup (pe_tup (pa_cons pe_int (pa_cons pe_int pa_nil)))
        (pe_callTy call_int1 (by rfl) T.int boot_int (pa_cons (pe_cmpR op_eq (pe_call G hr1 rfl mP kP bP .nil pass0 (pa_cons (pv 0) (pa_cons pe_int pa_nil))) pe_int (nomark _)) pa_nil)) (fun _ _ => rfl)) pa_nil))))
      (pss_one (ps_ret (pe_tup (pa_cons pe_str (pa_cons (pe_call Gd hr rfl mD kD bD .nil pass0 (pa_cons (pv 0) pa_nil)) (pa_cons (pv 1) (pa_cons (pe_call Gg hr rfl mG kG bG .nil pass0 (pa_cons (pv 0) pa_nil)) (pa_cons (pv 2) (pa_cons (pe_op op_add pe_int (pe_call G hr1 rfl mP kP bP .nil pass0 (pa_cons (pv 0) (pa_cons pe_int pa_nil)))) pa_nil)))))))))), ?_⟩
    refine ⟨_, rfl, b, l, 6, rfl, hb, by decide, by decide, fun H1 r1 k1 b1 h10 h11 => ⟨_, rfl, b, l, 1440, rfl, b1, by decide, by decide, fun H2 r2 k2 b2 h20 h21 => ⟨(by show 3 ≤ sizeLine; decide), fun t nt => ⟨_, rfl, b, l, 3, rfl, b2.kp0 (Kp.new nt), by decide, by decide, fun H3 r3 k3 b3 h30 h31 => ?_⟩⟩⟩⟩
    have e3 := k3.got nt (bag_in b2)
    obtain ⟨m, hm, em⟩ := at_ints [r1, r2, 1439] h30 h31
    have hm2 : 0 ≤ m ∧ m ≤ 1439 := by
      simp only [List.mem_cons, List.not_mem_nil, or_false] at hm
      omega
    have kf : Kp [b] H H3 := k1.trans (k2.trans ((Kp.new nt).trans k3))
    refine ⟨t, _, _, _, rfl, rfl, SqL.of e3, em, ?_⟩
    refine ⟨_, rfl, rd_pick (K := K) (x := 3) (y := 10) (b := b) (l := l) rfl b3 fun H4 r4 k4 b4 hr4 => ?_⟩
    refine ⟨b, l, r4, rfl, b4, by omega, by omega, fun H5 r5 k5 b5 h50 h51 => ?_⟩
    refine ⟨_, rfl, b, l, rfl, b5, fun H6 r6 k6 b6 h60 h61 => ⟨_, rfl, _, rfl, b, l, rfl, b6, fun H7 r7 k7 b7 h70 h71 => ⟨_, rfl, _, rfl, b, l, 8, rfl, b7, by decide, by decide, fun H8 r8 k8 b8 h80 h81 => ⟨_, _, rfl, rfl, (by show 6 ≤ sizeLine; decide), fun p np => ?_⟩⟩⟩⟩
    have kz : Kp [b] H (upd H8 p (.tup [.str "pass", .int r6, .int m, .int r7, .int r5, .int (1 + r8)])) := (kf.trans (k4.trans (k5.trans (k6.trans (k7.trans k8))))).newN np
    refine k _ p ("pass", [.n r6, .n m, .n r7, .n r5, .n (1 + r8)]) kz (b8.kp0 (Kp.new np)) ⟨_, upd_same, .cons rfl (.cons rfl (.cons rfl (.cons rfl (.cons rfl .nil))))⟩ ⟨[.day, .minute, .gate, .carriage, .horses], List.mem_of_getElem? (i := 5) rfl, ?_⟩
    have r4b : r5 ≤ 9 := by omega
    exact .cons ⟨r6, rfl, h60, h61⟩ (.cons ⟨m, rfl, hm2.1, hm2.2⟩ (.cons ⟨r7, rfl, h70, h71⟩ (.cons ⟨r5, rfl, h50, r4b⟩ (.cons ⟨1 + r8, rfl, by show 1 ≤ 1 + r8; omega, by show 1 + r8 ≤ 8; omega⟩ .nil))))
/-! ### a stretch: two days -/
def spStretch : Sp := fun vs H Q _ => ∃ (b l : Addr), vs = [.ref b] ∧ BagAt H b l ∧ ∀ H' p x y, Kp [b] H H' → BagAt H' b l → H' p = some (.tup [.int x, .int y]) → 0 ≤ x → x ≤ 999 → 0 ≤ y → y ≤ 999 → Q (.ref p) H'
theorem ok_stretch {f : Addr} {fd : FuncData} (F : Fun K "_law_stretch" "_law_stretch" sStretch f fd) (GP : Has P w K mg base CX0 1 "_law_pull" pPull spPull) (GD : Has P w K mg base CX0 2 "_law_day" pDay (spDr 0 999)) :
    FnOk P w K mg base CX0 3 f fd pStretch spStretch := by
  obtain ⟨fp, fdp, mP, kP, bP, G⟩ := GP
  obtain ⟨fy, fdy, mD, kD, bD, Gd⟩ := GD
  refine F.ok scStretch (fun vs H Q E h => ?_) (fun cdv A outer s H vs Q E hr h => ?_)
  · obtain ⟨b, l, rfl, _⟩ := h
    rfl
  · obtain ⟨b, l, rfl, hb, k⟩ := h
    have hr1 : Room 1 _ := hr.mono (by decide)
    refine ⟨_, pss_cons (ps_set (i := 1) scStretch.nd rfl (Or.inl rfl) (pe_call Gd hr rfl mD kD bD .nil pass0 (pa_cons (pv 0) pa_nil)))
      (pss_one (ps_ret (pe_tup (pa_cons (pv 1) (pa_cons (pe_op op_mod (pe_ix ix_list (pe_lst (pa_cons (pv 1) (pa_cons pe_int (pa_cons (pe_op op_add (pv 1) (pe_call G hr1 rfl mP kP bP .nil pass0 (pa_cons (pv 0) (pa_cons pe_int pa_nil)))) (pa_cons (pe_call Gd hr rfl mD kD bD .nil pass0 (pa_cons (pv 0) pa_nil)) pa_nil)))))
        (pe_call G hr1 rfl mP kP bP .nil pass0 (pa_cons (pv 0) (pa_cons pe_int pa_nil))) (fun _ _ => rfl)) pe_int) pa_nil))))), ?_⟩
    refine ⟨_, rfl, b, l, rfl, hb, fun H1 r1 k1 b1 h10 h11 => ?_⟩
    refine ⟨_, rfl, _, rfl, _, rfl, _, rfl, b, l, 3, rfl, b1, by decide, by decide, fun H2 r2 k2 b2 h20 h21 => ⟨_, _, rfl, rfl, _, rfl, b, l, rfl, b2, fun H3 r3 k3 b3 h30 h31 => ⟨(by show 4 ≤ sizeLine; decide), fun t nt => ⟨_, rfl, b, l, 4, rfl, b3.kp0 (Kp.new nt), by decide, by decide, fun H4 r4 k4 b4 h40 h41 => ?_⟩⟩⟩⟩
    have e3 := k4.got nt (bag_in b3)
    obtain ⟨m, hm, em⟩ := at_ints [r1, 999, r1 + r2, r3] h40 h41
    refine ⟨t, _, _, _, rfl, rfl, SqL.of e3, em, _, _, rfl, rfl, (by show (0 : Int) < 1000; decide), (by show 2 ≤ sizeLine; decide), fun p np => ?_⟩
    have kz : Kp [b] H (upd H4 p (.tup [.int r1, .int (m % 1000)])) := (k1.trans (k2.trans (k3.trans ((Kp.new nt).trans k4)))).newN np
    exact k _ p _ _ kz (b4.kp0 (Kp.new np)) upd_same h10 h11 (Int.emod_nonneg _ (by decide)) (by have := Int.emod_lt_of_pos m (show (0 : Int) < 1000 by decide); omega)
end
end Pk

namespace Pk
open PySem PySem.Spec PyProof.Rows L2
section
variable {P : Program} {w : World} {K : PySem.W.Frag} {mg : Str → Option Value} {base : Heap} {CH CR CP CM CO CN CF dk dl : Addr}
def spFact : Sp := fun vs H Q _ => ∃ (b l : Addr) (n : Int), vs = [.ref b, .int n] ∧ BagAt H b l ∧ 0 ≤ n ∧ n ≤ 98 ∧ ∀ H' a fc, Kp [b] H H' → BagAt H' b l → FctAt H' a fc → Good fc → Q (.ref a) H'
theorem ok_fact {f : Addr} {fd : FuncData} (F : Fun K "_law_fact" "_law_fact" sFact f fd) (T : Txt K mg CH CR) (GP : Has P w K mg base CX0 1 "_law_pull" pPull spPull) (GG : Has P w K mg base CX0 2 "_law_gate" pGate (spDr 0 7)) (GD : Has P w K mg base CX0 2 "_law_day" pDay (spDr 0 999))
    (GB : Has P w K mg base CX0 3 "_law_board" pBoard spDf) (GS : Has P w K mg base CX0 3 "_law_stretch" pStretch spStretch) (GA : Has P w K mg base CX0 3 "_law_passing" pPassing spDf) :
    FnOk P w K mg base CX0 4 f fd pFact spFact := by
  obtain ⟨fp, fdp, mP, kP, bP, G⟩ := GP
  obtain ⟨fg, fdg, mG, kG, bG, Gg⟩ := GG
  obtain ⟨fy, fdy, mD, kD, bD, Gd⟩ := GD
  obtain ⟨fb, fdb, mB, kB, bB, Gb⟩ := GB
  obtain ⟨fs, fds, mS, kS, bS, Gs⟩ := GS
  obtain ⟨fa, fda, mA, kA, bA, Ga⟩ := GA
  refine F.ok scFact (fun vs H Q E h => ?_) (fun cdv A outer s H vs Q E hr h => ?_)
  · obtain ⟨b, l, n, rfl, _⟩ := h
    rfl
  · obtain ⟨b, l, n, rfl, hb, hn0, hn1, k⟩ := h
    have hr1 : Room 1 _ := hr.mono (by decide)
    have hr2 : Room 2 _ := hr.mono (by decide)
    refine ⟨_, pss_cons (ps_set (i := 2) scFact.nd rfl (Or.inl rfl) (pe_call G hr1 rfl mP kP bP .nil pass0 (pa_cons (pv 0) (pa_cons pe_int pa_nil))))
      (pss_cons (ps_if (pt_cmpR op_lt (pv 2) pe_int (nomark _)) (pss_one (ps_ret (pe_call Ga hr rfl mA kA bA .nil pass0 (pa_cons (pv 0) pa_nil)))) pss_nil)
      (pss_cons (ps_if (pt_cmpR op_lt (pv 2) pe_int (nomark _)) (pss_one (ps_ret (pe_tup (pa_cons pe_str (pa_cons (pe_call Gg hr2 rfl mG kG bG .nil pass0 (pa_cons (pv 0) pa_nil)) (pa_cons (pe_call Gd hr2 rfl mD kD bD .nil pass0 (pa_cons (pv 0) pa_nil)) (pa_cons (pe_call G hr1 rfl mP kP bP .nil pass0 (pa_cons (pv 0) (pa_cons pe_int pa_nil))) pa_nil))))))) pss_nil)
      (pss_cons (ps_if (pt_cmpR op_lt (pv 2) pe_int (nomark _)) (pss_one (ps_ret (pe_call Gb hr rfl mB kB bB .nil pass0 (pa_cons (pv 0) pa_nil)))) pss_nil)
      (pss_cons (ps_if (pt_cmpR op_lt (pv 2) pe_int (nomark _)) (pss_one (ps_ret (pe_tup (pa_cons pe_str (pa_cons (pe_call Gg hr2 rfl mG kG bG .nil pass0 (pa_cons (pv 0) pa_nil)) (pa_cons (pe_call Gd hr2 rfl mD kD bD .nil pass0 (pa_cons (pv 0) pa_nil)) (pa_cons (pe_call G hr1 rfl mP kP bP .nil pass0 (pa_cons (pv 0) (pa_cons pe_int pa_nil))) pa_nil))))))) pss_nil)
      (pss_cons (ps_if (pt_cmpR op_lt (pv 2) pe_int (nomark _)) (pss_one (ps_ret (pe_op op_catT (pe_tup (pa_cons pe_str (pa_cons (pe_call G hr1 rfl mP kP bP .nil pass0 (pa_cons (pv 0) (pa_cons pe_int pa_nil))) pa_nil))) (pe_call Gs hr rfl mS kS bS .nil pass0 (pa_cons (pv 0) pa_nil))))) pss_nil)
      (pss_cons (ps_if (pt_cmpR op_lt (pv 2) pe_int (nomark _)) (pss_one (ps_ret (pe_op op_catT (pe_tup (pa_cons pe_str (pa_cons (pe_call Gg hr2 rfl mG kG bG .nil pass0 (pa_cons (pv 0) pa_nil)) (pa_cons (pe_call G hr1 rfl mP kP bP .nil pass0 (pa_cons (pv 0) (pa_cons pe_int pa_nil))) pa_nil)))) (pe_call Gs hr rfl mS kS bS .nil pass0 (pa_cons (pv 0) pa_nil))))) pss_nil)
      (pss_cons (ps_if (pt_cmpR op_lt (pv 2) pe_int (nomark _)) (pss_one (ps_ret (pe_tup (pa_cons pe_str (pa_cons (pe_op op_add pe_int (pe_call G hr1 rfl mP kP bP .nil pass0 (pa_cons (pv 0) (pa_cons (pe_op op_add (pv 1) pe_int) pa_nil))))
        (pa_cons (pe_ix ix_list (pe_lst (pa_cons pe_int (pa_cons (pe_call G hr1 rfl mP kP bP .nil pass0 (pa_cons (pv 0) (pa_cons pe_int pa_nil))) (pa_cons pe_int pa_nil)))) (pe_call G hr1 rfl mP kP bP .nil pass0 (pa_cons (pv 0) (pa_cons pe_int pa_nil))) (fun _ _ => rfl)) pa_nil)))))) pss_nil)
      (pss_cons (ps_set (i := 3) scFact.nd rfl (Or.inl rfl) (pe_ix ix_list (pe_lst (pa_cons (pe_call G hr1 rfl mP kP bP .nil pass0 (pa_cons (pv 0) (pa_cons pe_int pa_nil))) (pa_cons (pe_call G hr1 rfl mP kP bP .nil pass0 (pa_cons (pv 0) (pa_cons pe_int pa_nil))) (pa_cons (pe_op op_add pe_int (pe_call G hr1 rfl mP kP bP .nil pass0 (pa_cons (pv 0) (pa_cons pe_int pa_nil)))) pa_nil))))
        (pe_call G hr1 rfl mP kP bP .nil pass0 (pa_cons (pv 0) (pa_cons pe_int pa_nil))) (fun _ _ => rfl)))
      (pss_one (ps_ret (pe_tup (pa_cons pe_str (pa_cons (pe_call G hr1 rfl mP kP bP .nil pass0 (pa_cons (pv 0) (pa_cons (pe_ix ix_tup (pe_tup (pa_cons pe_int (pa_cons pe_int pa_nil)))
        (pe_callTy call_int1 (by rfl) T.int boot_int (pa_cons (pe_cmpR op_eq (pe_call G hr1 rfl mP kP bP .nil pass0 (pa_cons (pv 0) (pa_cons pe_int pa_nil))) pe_int (nomark _)) pa_nil)) (fun _ _ => rfl)) pa_nil)))
        (pa_cons (pe_call Gd hr2 rfl mD kD bD .nil pass0 (pa_cons (pv 0) pa_nil)) (pa_cons (pv 3) pa_nil))))))))))))))), ?_⟩
    refine ⟨_, rfl, b, l, 16, rfl, hb, by decide, by decide, fun H1 r1 k1 b1 h10 h11 => ?_⟩
    refine ⟨_, rfl, _, _, rfl, rfl, _, rfl, ite2 (fun _ => ?_) (fun _ => ?_)⟩
    · exact ⟨_, rfl, b, l, rfl, b1, fun H2 a fc k2 b2 h1 h2 => k _ _ _ (k1.trans k2) b2 h1 h2⟩
    refine ⟨_, rfl, _, _, rfl, rfl, _, rfl, ite2 (fun _ => ?_) (fun _ => ?_)⟩
    · refine ⟨_, rfl, b, l, rfl, b1, fun H2 r2 k2 b2 h20 h21 => ⟨_, rfl, b, l, rfl, b2, fun H3 r3 k3 b3 h30 h31 => ⟨_, rfl, b, l, 49, rfl, b3, by decide, by decide, fun H4 r4 k4 b4 h40 h41 => ⟨(by show 4 ≤ sizeLine; decide), fun p np => ?_⟩⟩⟩⟩
      refine k _ p ("toll", [.n r2, .n r3, .n r4]) ((k1.trans (k2.trans (k3.trans k4))).newN np) (b4.kp0 (Kp.new np)) ⟨_, upd_same, .cons rfl (.cons rfl (.cons rfl .nil))⟩ ⟨[.gate, .day, .halves], List.mem_of_getElem? (i := 0) rfl, ?_⟩
      exact .cons ⟨r2, rfl, h20, h21⟩ (.cons ⟨r3, rfl, h30, h31⟩ (.cons ⟨r4, rfl, h40, by show r4 ≤ 48; omega⟩ .nil))
    refine ⟨_, rfl, _, _, rfl, rfl, _, rfl, ite2 (fun _ => ?_) (fun _ => ?_)⟩
    · exact ⟨_, rfl, b, l, rfl, b1, fun H2 a fc k2 b2 h1 h2 => k _ _ _ (k1.trans k2) b2 h1 h2⟩
    refine ⟨_, rfl, _, _, rfl, rfl, _, rfl, ite2 (fun _ => ?_) (fun _ => ?_)⟩
    · refine ⟨_, rfl, b, l, rfl, b1, fun H2 r2 k2 b2 h20 h21 => ⟨_, rfl, b, l, rfl, b2, fun H3 r3 k3 b3 h30 h31 => ⟨_, rfl, b, l, 4, rfl, b3, by decide, by decide, fun H4 r4 k4 b4 h40 h41 => ⟨(by show 4 ≤ sizeLine; decide), fun p np => ?_⟩⟩⟩⟩
      refine k _ p ("trust", [.n r2, .n r3, .n r4]) ((k1.trans (k2.trans (k3.trans k4))).newN np) (b4.kp0 (Kp.new np)) ⟨_, upd_same, .cons rfl (.cons rfl (.cons rfl .nil))⟩ ⟨[.gate, .day, .trust], List.mem_of_getElem? (i := 2) rfl, ?_⟩
      exact .cons ⟨r2, rfl, h20, h21⟩ (.cons ⟨r3, rfl, h30, h31⟩ (.cons ⟨r4, rfl, h40, by show r4 ≤ 3; omega⟩ .nil))
    refine ⟨_, rfl, _, _, rfl, rfl, _, rfl, ite2 (fun _ => ?_) (fun _ => ?_)⟩
    · refine ⟨_, rfl, b, l, 10, rfl, b1, by decide, by decide, fun H2 r2 k2 b2 h20 h21 => ⟨(by show 2 ≤ sizeLine; decide), fun t nt => ⟨_, rfl, b, l, rfl, b2.kp0 (Kp.new nt), fun H3 q x y k3 b3 hq hx0 hx1 hy0 hy1 => ?_⟩⟩⟩
      have e3 := k3.tups t _ upd_same
      refine ⟨t, q, _, _, rfl, rfl, SqT.of e3, SqT.of hq, (by simp), (by show 2 + 2 ≤ sizeLine; decide), (fun z => nomatch z), fun _ p np => ?_⟩
      refine k _ p ("folk", [.n r2, .n x, .n y]) ((k1.trans (k2.trans ((Kp.new nt).trans k3))).newN np) (b3.kp0 (Kp.new np)) ⟨_, upd_same, .cons rfl (.cons rfl (.cons rfl .nil))⟩ ⟨[.carriage, .day, .day], List.mem_of_getElem? (i := 3) rfl, ?_⟩
      exact .cons ⟨r2, rfl, h20, by show r2 ≤ 9; omega⟩ (.cons ⟨x, rfl, hx0, hx1⟩ (.cons ⟨y, rfl, hy0, hy1⟩ .nil))
    refine ⟨_, rfl, _, _, rfl, rfl, _, rfl, ite2 (fun _ => ?_) (fun _ => ?_)⟩
    · refine ⟨_, rfl, b, l, rfl, b1, fun H2 r2 k2 b2 h20 h21 => ⟨_, rfl, b, l, 3, rfl, b2, by decide, by decide, fun H3 r3 k3 b3 h30 h31 => ⟨(by show 3 ≤ sizeLine; decide), fun t nt => ⟨_, rfl, b, l, rfl, b3.kp0 (Kp.new nt), fun H4 q x y k4 b4 hq hx0 hx1 hy0 hy1 => ?_⟩⟩⟩⟩
      have e3 := k4.tups t _ upd_same
      refine ⟨t, q, _, _, rfl, rfl, SqT.of e3, SqT.of hq, (by simp), (by show 3 + 2 ≤ sizeLine; decide), (fun z => nomatch z), fun _ p np => ?_⟩
      refine k _ p ("bargain", [.n r2, .n r3, .n x, .n y]) ((k1.trans (k2.trans (k3.trans ((Kp.new nt).trans k4)))).newN np) (b4.kp0 (Kp.new np)) ⟨_, upd_same, .cons rfl (.cons rfl (.cons rfl (.cons rfl .nil)))⟩ ⟨[.gate, .carriage, .day, .day], List.mem_of_getElem? (i := 4) rfl, ?_⟩
      exact .cons ⟨r2, rfl, h20, h21⟩ (.cons ⟨r3, rfl, h30, by show r3 ≤ 9; omega⟩ (.cons ⟨x, rfl, hx0, hx1⟩ (.cons ⟨y, rfl, hy0, hy1⟩ .nil)))
    refine ⟨_, rfl, _, _, rfl, rfl, _, rfl, ite2 (fun _ => ?_) (fun _ => ?_)⟩
    · refine ⟨_, rfl, _, rfl, _, _, rfl, rfl, b, l, n + 2, rfl, b1, by omega, by omega, fun H2 r2 k2 b2 h20 h21 => ⟨_, _, rfl, rfl, _, rfl, b, l, 1440, rfl, b2, by decide, by decide, fun H3 r3 k3 b3 h30 h31 => ⟨(by show 3 ≤ sizeLine; decide), fun t nt => ⟨_, rfl, b, l, 3, rfl, b3.kp0 (Kp.new nt), by decide, by decide, fun H4 r4 k4 b4 h40 h41 => ?_⟩⟩⟩⟩
      have e3 := k4.got nt (bag_in b3)
      obtain ⟨m, hm, em⟩ := at_ints [0, r3, 3] h40 h41
      have hm2 : 0 ≤ m ∧ m ≤ 1439 := by
        simp only [List.mem_cons, List.not_mem_nil, or_false] at hm
        omega
      refine ⟨t, _, _, _, rfl, rfl, SqL.of e3, em, (by show 3 ≤ sizeLine; decide), fun p np => ?_⟩
      refine k _ p ("lost", [.n (1 + r2), .n m]) ((k1.trans (k2.trans (k3.trans ((Kp.new nt).trans k4)))).newN np) (b4.kp0 (Kp.new np)) ⟨_, upd_same, .cons rfl (.cons rfl .nil)⟩ ⟨[.number, .minute], List.mem_of_getElem? (i := 6) rfl, ?_⟩
      exact .cons ⟨1 + r2, rfl, by show 1 ≤ 1 + r2; omega, by show 1 + r2 ≤ 100; omega⟩ (.cons ⟨m, rfl, hm2.1, hm2.2⟩ .nil)
    · refine ⟨_, rfl, b, l, 500, rfl, b1, by decide, by decide, fun H2 r2 k2 b2 h20 h21 => ⟨_, rfl, b, l, 500, rfl, b2, by decide, by decide, fun H3 r3 k3 b3 h30 h31 => ⟨_, rfl, b, l, 2, rfl, b3, by decide, by decide, fun H4 r4 k4 b4 h40 h41 => ⟨_, _, rfl, rfl, (by show 3 ≤ sizeLine; decide), fun t nt => ⟨_, rfl, b, l, 3, rfl, b4.kp0 (Kp.new nt), by decide, by decide, fun H5 r5 k5 b5 h50 h51 => ?_⟩⟩⟩⟩⟩
      have e3 := k5.got nt (bag_in b4)
      obtain ⟨m, hm, em⟩ := at_ints [r2, r3, 99999 + r4] h50 h51
      have hm2 : 0 ≤ m ∧ m ≤ 100000 := by
        simp only [List.mem_cons, List.not_mem_nil, or_false] at hm
        omega
      have kf : Kp [b] H H5 := k1.trans (k2.trans (k3.trans (k4.trans ((Kp.new nt).trans k5))))
      refine ⟨t, _, _, _, rfl, rfl, SqL.of e3, em, ?_⟩
      refine ⟨_, rfl, rd_pick (K := K) (x := 3) (y := 10) (b := b) (l := l) rfl b5 fun H6 r6 k6 b6 hr6 => ?_⟩
      refine ⟨b, l, r6, rfl, b6, by omega, by omega, fun H7 r7 k7 b7 h70 h71 => ⟨_, rfl, b, l, rfl, b7, fun H8 r8 k8 b8 h80 h81 => ⟨_, rfl, (by show 4 ≤ sizeLine; decide), fun p np => ?_⟩⟩⟩
      have h9 : r7 ≤ 9 := by omega
      refine k _ p ("paid", [.n r7, .n r8, .n m]) ((kf.trans (k6.trans (k7.trans k8))).newN np) (b8.kp0 (Kp.new np)) ⟨_, upd_same, .cons rfl (.cons rfl (.cons rfl .nil))⟩ ⟨[.carriage, .day, .coins], List.mem_of_getElem? (i := 7) rfl, ?_⟩
      exact .cons ⟨r7, rfl, h70, h9⟩ (.cons ⟨r8, rfl, h80, h81⟩ (.cons ⟨m, rfl, hm2.1, hm2.2⟩ .nil))
end
end Pk

namespace Pk
open PySem PySem.Spec PyProof.Rows L2
/-! ### the law's models -/
abbrev kF : Key := Sum.inr ("facts" : Str)
abbrev kT : Key := Sum.inr ("told" : Str)
def mdK (d : Addr) (t : Nat) : List (Key × V) := [(kF, .ref d), (kT, .int t)]
def MdAt (H : Hp) (md d : Addr) (m : Mo) : Prop := H md = some (.dK (mdK d m.told)) ∧ FsAt H d m.es
theorem ft_ne : ¬ (kF = kT) := fun h => absurd (Sum.inr.inj h) (by decide +kernel)
theorem md_facts (d : Addr) (t : Nat) : valV (mdK d t) (kF) = some (.ref d) := valV_pos (p := (kF, V.ref d)) rfl
theorem md_told (d : Addr) (t : Nat) : valV (mdK d t) (kT) = some (.int t) := (valV_neg (p := (kF, V.ref d)) ft_ne).trans (valV_pos (p := (kT, V.int t)) rfl)
theorem md_merge (x y : V) : mergeK [] [(kF, x), (kT, y)] = [(kF, x), (kT, y)] := by
  show putK (putK [] (kF) x) (kT) y = _
  rw [putK_new x valV_nil, putK_new y]
  · rfl
  · show valV [(kF, x)] (kT) = none
    rw [valV_neg (p := (kF, x)) ft_ne]
    rfl
theorem md_put (d : Addr) (t u : Nat) : putK (mdK d t) (kT) (.int u) = mdK d u := by
  unfold putK mdK
  rw [if_pos (by simp)]
  show [(if kF = kT then _ else _), (if kT = kT then _ else _)] = _
  rw [if_neg ft_ne, if_pos rfl]
theorem MdAt.of {H : Hp} {md d : Addr} {m : Mo} (h : MdAt H md d m) : ModelAt H (.ref md) m := ⟨md, d, rfl, h.1, h.2⟩
theorem md_ne {H : Hp} {md d : Addr} {m : Mo} (h : MdAt H md d m) : md ≠ d := fun e => by
  have h2 := h.2.1
  rw [← e, h.1] at h2
  have z : mdK d m.told = kvs m.es := by
    injection h2 with h3
    injection h3
  cases q : m.es with
  | nil => rw [q] at z; cases z
  | cons a r => rw [q] at z; cases z
section
variable {P : Program} {w : World} {K : PySem.W.Frag} {mg : Str → Option Value} {base : Heap} {CH CR CP CM CO CN CF dk dl : Addr}
/-! ### new, copied -/
def spNew : Sp := fun vs H Q _ => vs = [] ∧ ∀ H' p, Kp [] H H' → H p = none → ModelAt H' (.ref p) mo0 → Q (.ref p) H'
theorem ok_new {f : Addr} {fd : FuncData} (F : Fun K "_law_new" "_law_new" sNew f fd) : FnOk P w K mg base CX0 1 f fd pNew spNew := by
  refine F.ok scNew (fun vs H Q E h => ?_) (fun cdv A outer s H vs Q E hr h => ?_)
  · obtain ⟨rfl, _⟩ := h
    rfl
  · obtain ⟨rfl, k⟩ := h
    refine ⟨_, pss_one (ps_ret (pe_disp (pps_cons pe_str pe_dnewK (pps_cons pe_str pe_int pps_nil)) rfl rfl (by simp) (by decide))), ?_⟩
    intro p np d nd
    have ne : p ≠ d := ne_of_none upd_same nd
    refine ⟨by rw [upd_ne ne, upd_same], [(kF, .ref d), (kT, .int 0)], rfl, (by show 2 ≤ 15; decide), ?_⟩
    rw [md_merge]
    refine k _ p (((Kp.new np).newN nd).putN np) np (MdAt.of (md := p) (d := d) ⟨upd_same, by rw [upd_ne ne.symm, upd_same]; rfl, fun e h => by cases h⟩)
def spCopied : Sp := fun vs H Q _ => ∃ (md d : Addr) (m : Mo), vs = [.ref md] ∧ MdAt H md d m ∧ ∀ H' p q, Kp [] H H' → H p = none → H q = none → MdAt H' p q m → Q (.ref p) H'
theorem ok_copied {f : Addr} {fd : FuncData} (F : Fun K "_law_copied" "_law_copied" sCopied f fd) (T : Txt K mg CH CR) : FnOk P w K mg base CX0 1 f fd pCopied spCopied := by
  refine F.ok scCopied (fun vs H Q E h => ?_) (fun cdv A outer s H vs Q E hr h => ?_)
  · obtain ⟨md, d, m, rfl, _⟩ := h
    rfl
  · obtain ⟨md, d, m, rfl, M, k⟩ := h
    refine ⟨_, pss_one (ps_ret (pe_disp (pps_cons pe_str (pe_callTy call_dictD (by rfl) T.dict boot_dict (pa_cons (pe_dget (hu_of hr) (pv 0) pe_str (fun _ _ => rfl)) pa_nil)) (pps_cons pe_str (pe_dget (hu_of hr) (pv 0) pe_str (fun _ _ => rfl)) pps_nil)) rfl rfl (by simp) (by decide))), ?_⟩
    intro p np
    have k0 : Kp [] H (upd H p (.dK [])) := Kp.new np
    have g1 : DGet (upd H p (.dK [])) md (.str "facts") (some (.ref d)) := by
      have z := DGet.k (k := kF) (k0.same _ _ M.1)
      rw [md_facts] at z
      exact z
    refine ⟨_, rfl, md, _, rfl, g1, d, _, rfl, .inl (k0.same _ _ M.2.1), fun q nq => ?_⟩
    have k1 : Kp [] H (upd (upd H p (.dK [])) q (.dK (kvs m.es))) := k0.newN nq
    have g2 : DGet (upd (upd H p (.dK [])) q (.dK (kvs m.es))) md (.str "told") (some (.int m.told)) := by
      have z := DGet.k (k := kT) (k1.same _ _ M.1)
      rw [md_told] at z
      exact z
    have ne : p ≠ q := ne_of_none upd_same nq
    refine ⟨_, rfl, md, _, rfl, g2, by rw [upd_ne ne, upd_same], [(kF, .ref q), (kT, .int m.told)], rfl, (by show 2 ≤ 15; decide), ?_⟩
    rw [md_merge]
    exact k _ p q (k1.putN np) np (k0.free _ nq) ⟨upd_same, by rw [upd_ne ne.symm, upd_same], fun e h => (M.2.2 e h).kp (k1.putN np)⟩
/-! ### fact_list -/
def spFactList : Sp := fun vs H Q _ => ∃ (md d : Addr) (m : Mo), vs = [.ref md] ∧ MdAt H md d m ∧ m.es.length < 64 ∧ ∀ H' p, Kp [] H H' → H p = none → FlAt H' p m.es → Q (.ref p) H'
theorem ok_factlist {f : Addr} {fd : FuncData} (F : Fun K "_law_fact_list" "_law_fact_list" sFactList f fd) (T : Txt K mg CH CR) : FnOk P w K mg base CX0 1 f fd pFactList spFactList := by
  refine F.ok scFactList (fun vs H Q E h => ?_) (fun cdv A outer s H vs Q E hr h => ?_)
  · obtain ⟨md, d, m, rfl, _⟩ := h
    rfl
  · obtain ⟨md, d, m, rfl, M, hl, k⟩ := h
    refine ⟨_, pss_one (ps_ret (pe_lc (own := [("_law_number", 1)]) (g := gName 1) (tt := tYes) rfl scFactList.nd (pi_list (pe_callB (call_sortedDI rfl) (by rfl) T.sorted boot_sorted (pa_cons (pe_dget (hu_of hr) (pv 0) pe_str (fun _ _ => rfl)) pa_nil)))
        (blkOk_by (N := nFactList) (sc := defScope sFactList) (by decide +kernel)) (fun _ _ _ _ _ => pg_name (i := 1) scFactList.nd rfl (Or.inl rfl)) (fun _ _ _ _ _ => pts_nil)
        (fun _ _ _ _ _ => pe_tup (pa_cons (pv 1) (pa_cons (pe_dget (hu_of hr) (pe_dget (hu_of hr) (pv 0) pe_str (fun _ _ => rfl)) (pv 1) (fun _ _ => rfl)) pa_nil))))), ?_⟩
    have gF : ∀ H', Kp [] H H' → DGet H' md (.str "facts") (some (.ref d)) := fun H' k' => by
      have z := DGet.k (k := kF) (k'.same _ _ M.1)
      rw [md_facts] at z
      exact z
    refine ⟨_, rfl, md, _, rfl, gF H (Kp.refl _ _), d, _, nums m.es, rfl, .inl M.2.1, kvs_keys _, by rw [show (nums m.es).length = m.es.length from List.length_map ..]; exact hl, fun ys p hp hs' np => ?_⟩
    obtain rfl := srt_is hp hs'
    refine ⟨p, rfl, ⟨_, SqL.of upd_same⟩, fun D nD => ?_⟩
    refine lc_list (K := K) (a := p) (xs := (srt m.es).map V.int) (fun i H' => Kp [] (upd H p (.lst ((srt m.es).map V.int))) H' ∧ ∃ acc, H' D = some (.lst acc) ∧ Paired (PairAt H' m.es) acc ((srt m.es).take i))
      ⟨Kp.new nD, [], upd_same, .nil⟩ (fun i H' _ q => SqL.of (q.1.same _ _ upd_same)) (fun i z H' hi q => ?_) (fun H' q => ?_)
    · obtain ⟨kp, acc, hD, hP⟩ := q
      obtain ⟨n, hn, rfl⟩ : ∃ n, (srt m.es)[i]? = some n ∧ z = .int n := by
        rw [List.getElem?_map] at hi
        obtain ⟨n, q1, q2⟩ := Option.map_eq_some_iff.mp hi
        exact ⟨n, q1, q2.symm⟩
      obtain ⟨e, he⟩ := fnd_of_mem ((srt_perm m.es).mem_iff.mp (List.mem_of_getElem? hn))
      have k0 : Kp [] H H' := (Kp.new np).andN kp (fun a h => by cases h)
      have ha : FctAt H' e.a e.f := (M.2.2 e (fnd_mem he).1).kp k0
      refine ⟨rfl, _, rfl, _, rfl, md, _, rfl, gF H' k0, _, rfl, d, .ref e.a, rfl, .inl ⟨_, .inl n, .inl (k0.same _ _ M.2.1), rfl, ?_⟩, (by show 2 ≤ sizeLine; decide), fun t nt => ⟨acc, ?_, ?_, ?_, _, upd_same, ?_⟩⟩
      · rw [val_kvs, he]
        rfl
      · grind [upd]
      · rw [paired_len hP]
        have z : ((srt m.es).take i).length ≤ (srt m.es).length := by rw [List.length_take]; exact Nat.min_le_right _ _
        rw [(srt_perm m.es).length_eq] at z
        have z2 : (nums m.es).length = m.es.length := List.length_map ..
        rw [sizeLine_eq]
        omega
      · have nD0 : (upd H p (.lst ((srt m.es).map V.int))) D = none := nD
        exact (kp.newN nt).putN nD0
      · have tD : t ≠ D := fun z => by rw [z, hD] at nt; cases nt
        have kt : Kp [D] H' (upd (upd H' t (.tup [.int n, .ref e.a])) D (.lst (acc ++ [.ref t]))) := (Kp.new nt).trans (Kp.put (u := .lst acc) (by rw [upd_ne tD.symm]; exact hD) (fun _ z => by cases z))
        refine paired_take_snoc (Paired.mapP hP fun _ _ q => q.kp kt) hn ⟨t, e, rfl, he, ?_, ha.kp kt⟩
        rw [upd_ne tD, upd_same]
    · obtain ⟨kp, acc, hD, hP⟩ := q
      refine k H' D ((Kp.new np).andN kp (fun a h => by cases h)) ?_ ⟨acc, hD, ?_⟩
      · grind [upd]
      · rw [List.length_map, List.take_length] at hP
        exact hP
end
end Pk

namespace Pk
open PySem PySem.Spec PyProof.Rows L2
/-! ### the law's own tables -/
def letK (w' a : Str) : Key × V := (Sum.inr w', .str a)
def let1 : List (Key × V) := [letK "toll" "gdh", letK "board" "gdb", letK "trust" "gdt", letK "folk" "cdd", letK "bargain" "gcdd"]
def let2 : List (Key × V) := [letK "pass" "dmgco", letK "lost" "nm", letK "paid" "cdp"]
def lets : List (Key × V) := mergeK (mergeK [] let1) (mergeK [] let2)
/-- the letters of a fact's kinds -/
def letters (ks : List Kd) : Str := ks.foldl (fun a k => a ++ k.lt) ""
theorem lets_at {w' : Str} {ks : List Kd} (h : (w', ks) ∈ kindsTab) : valV lets (.inr w') = some (.str (letters ks)) ∧ (letters ks).length = ks.length := by
  unfold kindsTab at h
  simp only [List.mem_cons, Prod.mk.injEq, List.not_mem_nil, or_false] at h
  rcases h with ⟨rfl, rfl⟩ | ⟨rfl, rfl⟩ | ⟨rfl, rfl⟩ | ⟨rfl, rfl⟩ | ⟨rfl, rfl⟩ | ⟨rfl, rfl⟩ | ⟨rfl, rfl⟩ | ⟨rfl, rfl⟩ <;> exact ⟨by kernel_rfl, by kernel_rfl⟩
theorem letter_at {w' : Str} {ks : List Kd} (h : (w', ks) ∈ kindsTab) {i : Nat} {k : Kd} (e : ks[i]? = some k) : ∃ c, (letters ks).cps.toList[i]? = some c ∧ (⟨#[c]⟩ : Str) = k.lt := by
  refine ⟨k.lt.cps.getD 0 0, ?_⟩
  unfold kindsTab at h
  simp only [List.mem_cons, Prod.mk.injEq, List.not_mem_nil, or_false] at h
  rcases h with ⟨_, rfl⟩ | ⟨_, rfl⟩ | ⟨_, rfl⟩ | ⟨_, rfl⟩ | ⟨_, rfl⟩ | ⟨_, rfl⟩ | ⟨_, rfl⟩ | ⟨_, rfl⟩ <;>
    (rcases i with _ | _ | _ | _ | _ | i <;> first | (cases e; exact ⟨by kernel_rfl, by kernel_rfl⟩) | (exact absurd e (by simp)))
def limK (c : Str) (t : Addr) : Key × V := (Sum.inr c, .ref t)
def lim1 (t1 t2 t3 t4 t5 t6 t7 : Addr) : List (Key × V) := [limK "g" t1, limK "d" t2, limK "h" t3, limK "t" t4, limK "c" t5, limK "m" t6, limK "o" t7]
def lim2 (t8 t9 : Addr) : List (Key × V) := [limK "p" t8, limK "n" t9]
def Kd.hiL : Kd → Int
  | .number => 10 ^ 40
  | k => k.hi
def LimAt (H : Hp) (kv : List (Key × V)) : Prop := ∀ k : Kd, k ≠ .gates → ∃ t, valV kv (.inr k.lt) = some (.ref t) ∧ H t = some (.tup [.int k.lo, .int k.hiL])
/-- a new object leaves the others -/
theorem nk {H : Hp} {a p : Addr} {o u : HO} (e : H a = some o) (np : H p = none) : upd H p u a = some o := by
  rw [upd_ne (ne_of_none e np)]
  exact e
/-- a store to a dict leaves the tuples -/
theorem dq {H : Hp} {a p : Addr} {xs : List V} {ks : List (Key × V)} {u : HO} (e : H a = some (.tup xs)) (hp : H p = some (.dK ks)) : upd H p u a = some (.tup xs) := by
  rw [upd_ne (ne_of e hp (by intro z; cases z))]
  exact e
def lims (t1 t2 t3 t4 t5 t6 t7 t8 t9 : Addr) : List (Key × V) := mergeK (mergeK [] (lim1 t1 t2 t3 t4 t5 t6 t7)) (mergeK [] (lim2 t8 t9))
theorem lim_of {H : Hp} {t1 t2 t3 t4 t5 t6 t7 t8 t9 : Addr} (h1 : H t1 = some (.tup [.int 0, .int 7])) (h2 : H t2 = some (.tup [.int 0, .int 999])) (h3 : H t3 = some (.tup [.int 0, .int 48])) (h4 : H t4 = some (.tup [.int 0, .int 3]))
    (h5 : H t5 = some (.tup [.int 0, .int 9])) (h6 : H t6 = some (.tup [.int 0, .int 1439])) (h7 : H t7 = some (.tup [.int 1, .int 8])) (h8 : H t8 = some (.tup [.int 0, .int 100000])) (h9 : H t9 = some (.tup [.int 1, .int (10 ^ 40)])) :
    LimAt H (lims t1 t2 t3 t4 t5 t6 t7 t8 t9) := fun k hk => by
  cases k with
  | gate => exact ⟨t1, by kernel_rfl, h1⟩
  | carriage => exact ⟨t5, by kernel_rfl, h5⟩
  | trust => exact ⟨t4, by kernel_rfl, h4⟩
  | day => exact ⟨t2, by kernel_rfl, h2⟩
  | minute => exact ⟨t6, by kernel_rfl, h6⟩
  | halves => exact ⟨t3, by kernel_rfl, h3⟩
  | horses => exact ⟨t7, by kernel_rfl, h7⟩
  | coins => exact ⟨t8, by kernel_rfl, h8⟩
  | gates => exact absurd rfl hk
  | number => exact ⟨t9, by kernel_rfl, h9⟩
theorem LimAt.kp {S : List Addr} {H H' : Hp} (k : Kp S H H') {kv : List (Key × V)} (h : LimAt H kv) : LimAt H' kv := fun kd hk => by
  obtain ⟨t, e1, e2⟩ := h kd hk
  exact ⟨t, e1, k.tups _ _ e2⟩
section
variable {P : Program} {w : World} {K : PySem.W.Frag} {mg : Str → Option Value} {base : Heap} {CH CR CP CM CO CN CF dk dl : Addr}
def spPlace : Sp := fun vs H Q _ => ∃ (a : Addr) (fc : Fct), vs = [.ref a] ∧ FctAt H a fc ∧ Good fc ∧ ∀ H', Kp [] H H' → Q (.int (-1)) H'
theorem ok_place {f : Addr} {fd : FuncData} (F : Fun K "_law_fact_place" "_law_fact_place" sPlace f fd) (T : Txt K mg CH CR) : FnOk P w K mg base CX0 1 f fd pPlace spPlace := by
  refine F.ok scPlace (fun vs H Q E h => ?_) (fun cdv A outer s H vs Q E hr h => ?_)
  · obtain ⟨a, fc, rfl, _⟩ := h
    rfl
  · obtain ⟨a, fc, rfl, hfa, ⟨ks, hks, hgd⟩, k⟩ := h
    have hu := hu_of hr
    refine ⟨_, C8.pss_cut (ps_set (i := 1) scPlace.nd rfl (Or.inl rfl) (pe_disp (pps_cons pe_str pe_str (pps_cons pe_str pe_str (pps_cons pe_str pe_str (pps_cons pe_str pe_str (pps_cons pe_str pe_str pps_nil))))) rfl rfl (by simp) (by decide)))
      (C8.pss_cut (ps_expr (pe_bm PySem.F.plainAttrs_dict PySem.F.slot_dict_update PySem.F.type_dict_update mtd_update (pv 1) (pa_cons (pe_disp (pps_cons pe_str pe_str (pps_cons pe_str pe_str (pps_cons pe_str pe_str pps_nil))) rfl rfl (by simp) (by decide)) pa_nil)))
      (C8.pss_cut (ps_set (i := 2) scPlace.nd rfl (Or.inl rfl) (pe_disp (pps_cons pe_str (pe_tup (pa_cons pe_int (pa_cons pe_int pa_nil))) (pps_cons pe_str (pe_tup (pa_cons pe_int (pa_cons pe_int pa_nil))) (pps_cons pe_str (pe_tup (pa_cons pe_int (pa_cons pe_int pa_nil)))
        (pps_cons pe_str (pe_tup (pa_cons pe_int (pa_cons pe_int pa_nil))) (pps_cons pe_str (pe_tup (pa_cons pe_int (pa_cons pe_int pa_nil))) (pps_cons pe_str (pe_tup (pa_cons pe_int (pa_cons pe_int pa_nil))) (pps_cons pe_str (pe_tup (pa_cons pe_int (pa_cons pe_int pa_nil))) pps_nil))))))) rfl rfl (by simp) (by decide)))
      (C8.pss_cut (ps_expr (pe_bm PySem.F.plainAttrs_dict PySem.F.slot_dict_update PySem.F.type_dict_update mtd_update (pv 2) (pa_cons (pe_disp (pps_cons pe_str (pe_tup (pa_cons pe_int (pa_cons pe_int pa_nil))) (pps_cons pe_str (pe_tup (pa_cons pe_int (pa_cons (pe_op op_pow pe_int pe_int) pa_nil))) pps_nil)) rfl rfl (by simp) (by decide)) pa_nil)))
      (pss_cons (ps_if (PW.pt (pw_or (pt_cmp (pc_dnotin hu (pe_ix ix_tup (pv 0) pe_int (fun _ _ => rfl)) (pv 1))) (pw_or1 (pt_cmpR op_ne (pe_callB call_len_seq (by rfl) T.len PySem.boot_len (pa_cons (pv 0) pa_nil))
        (pe_op op_add pe_int (pe_callB call_len_str (by rfl) T.len PySem.boot_len (pa_cons (pe_dget hu (pv 1) (pe_ix ix_tup (pv 0) pe_int (fun _ _ => rfl)) (fun _ _ => rfl)) pa_nil))) (nomark _))))) (pss_one ps_never) pss_nil)
      (pss_cons (ps_for PassesOwn.never rfl (pi_range2 (by rfl) T.range (pa_cons pe_int (pa_cons (pe_callB call_len_seq (by rfl) T.len PySem.boot_len (pa_cons (pv 0) pa_nil)) pa_nil))) (pg_name (i := 3) scPlace.nd rfl (Or.inr rfl))
        (pss_cons (ps_set (i := 4) scPlace.nd rfl (Or.inl rfl) (pe_ix ix_str (pe_dget hu (pv 1) (pe_ix ix_tup (pv 0) pe_int (fun _ _ => rfl)) (fun _ _ => rfl)) (pe_op op_sub (pv 3) pe_int) (fun _ _ => rfl)))
        (pss_one (ps_if (pt_cmpR op_eq (pv 4) pe_str (nomark _))
          (pss_one (ps_if (pt_cmpR (op_neD hr.units) (pe_callTy call_list_of (by rfl) T.list boot_list (pa_cons (pe_ix ix_tup (pv 0) (pv 3) (fun _ _ => rfl)) pa_nil))
            (pe_lc (own := [("_law_gate_here", 5)]) (g := gName 5) (tt := tTest (tOp (rIn K false) (tVar 5) (tOp (rIxT K) (tVar 0) (tVar 3)))) rfl scPlace.nd (pi_range1 (by rfl) T.range (pa_cons pe_int pa_nil))
              (blkOk_by (N := nPlace) (sc := defScope sPlace) (by decide +kernel)) (fun _ _ _ _ _ => pg_name (i := 5) scPlace.nd rfl (Or.inl rfl)) (fun _ _ _ _ _ => pts_one (pt_cmpR op_in_seq (pv 5) (pe_ix ix_tup (pv 0) (pv 3) (fun _ _ => rfl)) (by with_unfolding_all rfl)))
              (fun _ _ _ _ _ => pv 5)) (nomark _)) (pss_one ps_never) pss_nil))
          (pss_one (ps_if (pt_not (pt_chain op_le op_le (pe_ix ix_tup (pe_dget hu (pv 2) (pv 4) (fun _ _ => rfl)) pe_int (fun _ _ => rfl)) (pe_ix ix_tup (pv 0) (pv 3) (fun _ _ => rfl)) (pe_ix ix_tup (pe_dget hu (pv 2) (pv 4) (fun _ _ => rfl)) pe_int (fun _ _ => rfl)))) (pss_one ps_never) pss_nil))))))
      (pss_one (ps_ret (pe_un un_neg pe_int)))))))), ?_⟩
    -- the letters
    refine ⟨fun σ' H' => Kp [] H H' ∧ ∃ p, σ' = [some (.ref a), some (.ref p), none, none, none, none] ∧ H p = none ∧ H' p = some (.dK (mergeK [] let1)), ?_, ?_⟩
    · intro p np
      exact ⟨upd_same, let1, rfl, by decide, (Kp.new np).putN np, p, rfl, np, upd_same⟩
    rintro σ1 H1 ⟨k1, p, rfl, np, hp⟩
    refine ⟨fun σ' H' => Kp [] H H' ∧ σ' = [some (.ref a), some (.ref p), none, none, none, none] ∧ H' p = some (.dK lets), ?_, ?_⟩
    · refine ⟨_, rfl, .inr (.inr (.inl ⟨rfl, .inl ⟨_, hp⟩⟩)), ?_⟩
      intro q nq
      have npq : p ≠ q := ne_of_none hp nq
      exact ⟨upd_same, let2, rfl, by decide, p, q, _, _, rfl, rfl, npq, by rw [upd_ne npq, upd_ne npq]; exact hp, upd_same, by decide +kernel, ((k1.newN nq).putN (k1.free _ nq)).putN np, rfl, upd_same⟩
    rintro σ2 H2 ⟨k2, rfl, hp2⟩
    clear hp k1 H1
    refine ⟨fun σ' H' => Kp [] H H' ∧ H' p = some (.dK lets) ∧ ∃ q t1 t2 t3 t4 t5 t6 t7, σ' = [some (.ref a), some (.ref p), some (.ref q), none, none, none] ∧ H q = none ∧ H' q = some (.dK (mergeK [] (lim1 t1 t2 t3 t4 t5 t6 t7))) ∧
      H' t1 = some (.tup [.int 0, .int 7]) ∧ H' t2 = some (.tup [.int 0, .int 999]) ∧ H' t3 = some (.tup [.int 0, .int 48]) ∧ H' t4 = some (.tup [.int 0, .int 3]) ∧ H' t5 = some (.tup [.int 0, .int 9]) ∧ H' t6 = some (.tup [.int 0, .int 1439]) ∧ H' t7 = some (.tup [.int 1, .int 8]), ?_, ?_⟩
    · intro q nq
      refine ⟨(by show 2 ≤ sizeLine; decide), fun t1 n1 => ⟨(by show 2 ≤ sizeLine; decide), fun t2 n2 => ⟨(by show 2 ≤ sizeLine; decide), fun t3 n3 => ⟨(by show 2 ≤ sizeLine; decide), fun t4 n4 => ⟨(by show 2 ≤ sizeLine; decide), fun t5 n5 => ⟨(by show 2 ≤ sizeLine; decide), fun t6 n6 => ⟨(by show 2 ≤ sizeLine; decide), fun t7 n7 => ?_⟩⟩⟩⟩⟩⟩⟩
      have hq0 := nk (u := .tup [.int 1, .int 8]) (nk (u := .tup [.int 0, .int 1439]) (nk (u := .tup [.int 0, .int 9]) (nk (u := .tup [.int 0, .int 3]) (nk (u := .tup [.int 0, .int 48]) (nk (u := .tup [.int 0, .int 999]) (nk (u := .tup [.int 0, .int 7]) (upd_same (H := H2) (a := q) (o := .dK [])) n1) n2) n3) n4) n5) n6) n7
      refine ⟨hq0, lim1 t1 t2 t3 t4 t5 t6 t7, rfl, (by show 7 ≤ 15; decide), (((((((((k2.newN nq).newN n1).newN n2).newN n3).newN n4).newN n5).newN n6).newN n7).putN (k2.free _ nq)), ?_, q, t1, t2, t3, t4, t5, t6, t7, rfl, k2.free _ nq, upd_same, ?_, ?_, ?_, ?_, ?_, ?_, ?_⟩
      · have npq : p ≠ q := ne_of_none hp2 nq
        rw [upd_ne npq]
        exact nk (nk (nk (nk (nk (nk (nk (nk hp2 nq) n1) n2) n3) n4) n5) n6) n7
      · exact dq (nk (nk (nk (nk (nk (nk upd_same n2) n3) n4) n5) n6) n7) hq0
      · exact dq (nk (nk (nk (nk (nk upd_same n3) n4) n5) n6) n7) hq0
      · exact dq (nk (nk (nk (nk upd_same n4) n5) n6) n7) hq0
      · exact dq (nk (nk (nk upd_same n5) n6) n7) hq0
      · exact dq (nk (nk upd_same n6) n7) hq0
      · exact dq (nk upd_same n7) hq0
      · exact dq upd_same hq0
    rintro σ3 H3 ⟨k3, hp3, q, t1, t2, t3, t4, t5, t6, t7, rfl, nq, hq, e1, e2, e3, e4, e5, e6, e7⟩
    clear hp2 k2 H2
    refine ⟨fun σ' H' => Kp [] H H' ∧ H' p = some (.dK lets) ∧ ∃ kv, σ' = [some (.ref a), some (.ref p), some (.ref q), none, none, none] ∧ H' q = some (.dK kv) ∧ LimAt H' kv, ?_, ?_⟩
    · refine ⟨_, rfl, .inr (.inr (.inl ⟨rfl, .inl ⟨_, hq⟩⟩)), ?_⟩
      intro u nu
      refine ⟨(by show 2 ≤ sizeLine; decide), fun t8 n8 => ⟨_, _, rfl, rfl, ⟨by decide, by decide, by decide⟩, (by show 2 ≤ sizeLine; decide), fun t9 n9 => ?_⟩⟩
      have hu1 : upd (upd (upd H3 u (.dK [])) t8 (.tup [.int 0, .int 100000])) t9 (.tup [.int 1, .int (10 ^ 40)]) u = some (.dK []) := nk (nk upd_same n8) n9
      have hq1 : upd (upd (upd H3 u (.dK [])) t8 (.tup [.int 0, .int 100000])) t9 (.tup [.int 1, .int (10 ^ 40)]) q = some (.dK (mergeK [] (lim1 t1 t2 t3 t4 t5 t6 t7))) := nk (nk (nk hq nu) n8) n9
      have nqu : q ≠ u := ne_of_none hq nu
      have hq2 : ∀ o, upd (upd (upd (upd H3 u (.dK [])) t8 (.tup [.int 0, .int 100000])) t9 (.tup [.int 1, .int (10 ^ 40)])) u o q = some (.dK (mergeK [] (lim1 t1 t2 t3 t4 t5 t6 t7))) := fun o => by rw [upd_ne nqu]; exact hq1
      have npq : p ≠ q := fun z => by
        have e := hp3
        rw [z, hq] at e
        injection e with e
        injection e with e
        have e' := congrArg List.length e
        have l1 : (mergeK [] (lim1 t1 t2 t3 t4 t5 t6 t7)).length = 7 := by kernel_rfl
        have l2 : lets.length = 8 := by kernel_rfl
        omega
      have npu : p ≠ u := ne_of_none hp3 nu
      refine ⟨hu1, lim2 t8 t9, rfl, (by show 2 ≤ 15; decide), q, u, _, _, rfl, rfl, nqu, hq2 _, upd_same, ?_, ((((k3.newN nu).newN n8).newN n9).putN (k3.free _ nu)).putN nq, ?_, _, rfl, upd_same, lim_of (t1 := t1) (t2 := t2) (t3 := t3) (t4 := t4) (t5 := t5) (t6 := t6) (t7 := t7) (t8 := t8) (t9 := t9) ?_ ?_ ?_ ?_ ?_ ?_ ?_ ?_ ?_⟩
      · exact Nat.le_trans (Nat.add_le_add (length_mergeK _ _) (length_mergeK _ _)) (by show (0 + 7) + (0 + 2) ≤ sizeLine; decide)
      · rw [upd_ne npq, upd_ne npu]
        exact nk (nk (nk hp3 nu) n8) n9
      · exact dq (dq (nk (nk (nk e1 nu) n8) n9) hu1) (hq2 _)
      · exact dq (dq (nk (nk (nk e2 nu) n8) n9) hu1) (hq2 _)
      · exact dq (dq (nk (nk (nk e3 nu) n8) n9) hu1) (hq2 _)
      · exact dq (dq (nk (nk (nk e4 nu) n8) n9) hu1) (hq2 _)
      · exact dq (dq (nk (nk (nk e5 nu) n8) n9) hu1) (hq2 _)
      · exact dq (dq (nk (nk (nk e6 nu) n8) n9) hu1) (hq2 _)
      · exact dq (dq (nk (nk (nk e7 nu) n8) n9) hu1) (hq2 _)
      · exact dq (dq (nk upd_same n9) hu1) (hq2 _)
      · exact dq (dq upd_same hu1) (hq2 _)
    rintro σ4 H4 ⟨k4, hp4, kv, rfl, hq4, hlim⟩
    clear hp3 hq k3 e1 e2 e3 e4 e5 e6 e7 H3
    obtain ⟨xs, hxs, hts⟩ := hfa.kp k4
    obtain ⟨g1, g2⟩ := lets_at hks
    have lx : xs.length = ks.length := (paired_len hts).trans (paired_len hgd).symm
    have l5 := (kinds_len hks).2
    have gK : ∀ H', Kp [] H4 H' → DGet H' p (.str fc.1) (some (.str (letters ks))) := fun H' k' => by
      have z := DGet.k (k := Sum.inr fc.1) (k'.same _ _ hp4)
      rw [g1] at z
      exact z
    refine ⟨_, rfl, a, _, _, _, rfl, rfl, SqT.of hxs, atI_nat (j := 0) rfl, _, rfl, p, _, rfl, gK H4 (Kp.refl _ _), _, rfl, ?_⟩
    refine iteF ?_
    refine ⟨_, rfl, a, _, rfl, .inr (SqT.of hxs), _, rfl, _, rfl, a, _, _, _, rfl, rfl, SqT.of hxs, atI_nat (j := 0) rfl, p, _, rfl, gK H4 (Kp.refl _ _), _, rfl, ?_, _, _, rfl, rfl, rfl, _, rfl, ?_⟩
    · rw [g2, sizeLine_eq]
      exact Nat.le_trans l5 (by decide)
    rw [show (!decide (V.int ((V.str fc.1 :: xs).length : Int) = V.int (1 + ((letters ks).length : Int)))) = false from by
      rw [g2, List.length_cons, lx, decide_eq_true]
      · rfl
      · congr 1
        omega]
    refine iteF ?_
    refine ⟨_, rfl, a, _, rfl, .inr (SqT.of hxs), 1, _, rfl, ⟨by decide, by decide, ?_, ?_⟩, ?_⟩
    · rw [List.length_cons, lx]; omega
    · rw [List.length_cons, lx]; omega
    have en : ((((V.str fc.1 :: xs).length : Nat) : Int) - 1).toNat = xs.length := by rw [List.length_cons]; omega
    rw [en]
    refine for_range (n := xs.length) (lo := 1) (fun i σ H' => Kp [] H4 H' ∧ ∃ v3 v4 v5, σ = [some (.ref a), some (.ref p), some (.ref q), v3, v4, v5]) ⟨Kp.refl _ _, _, _, _, rfl⟩ (fun i σ H' hi qq => ?_) (fun σ H' qq => ?_)
    · obtain ⟨kp, v3, v4, v5, rfl⟩ := qq
      have hik : i < ks.length := by omega
      obtain ⟨kd, hkd⟩ : ∃ kd, ks[i]? = some kd := ⟨_, List.getElem?_eq_getElem hik⟩
      obtain ⟨c, hc1, hc2⟩ := letter_at hks hkd
      obtain ⟨th, h1, h2⟩ := paired_at hgd hkd
      obtain ⟨v, h3, h4⟩ := paired_at2 hts h1
      have hth := h4.kp kp
      have hxs' := kp.same _ _ hxs
      have e10 : ((1 : Int) + (i : Int)) = ((i + 1 : Nat) : Int) := by omega
      have e1m : ((1 : Int) + (i : Int)) - 1 = (i : Int) := by omega
      have hat : atI (V.str fc.1 :: xs) (1 + (i : Int)) = some v := by
        rw [e10]
        exact atI_nat (by simpa using h3)
      have hlet : atI (letters ks).cps.toList (1 + (i : Int) - 1) = some c := by
        rw [e1m]
        exact atI_nat hc1
      refine ⟨_, rfl, _, rfl, a, _, _, _, rfl, rfl, SqT.of hxs', atI_nat (j := 0) rfl, p, _, rfl, gK H' kp, _, rfl, _, _, rfl, rfl, _, _, _, rfl, rfl, ?_, hlet, ?_⟩
      · rw [g2, sizeLine_eq]
        exact Nat.le_trans l5 (by decide)
      rw [hc2]
      refine ⟨_, rfl, rfl, _, rfl, ?_⟩
      by_cases cg : kd = .gates
      · subst cg
        obtain ⟨gs, rfl, hG⟩ := good_g h2
        obtain ⟨p2, rfl, hp2⟩ := (show ∃ p, v = .ref p ∧ H' p = some (.tup (gs.map V.int)) from hth)
        refine iteT ?_
        refine ⟨_, rfl, _, rfl, a, _, _, _, rfl, rfl, SqT.of hxs', hat, p2, _, rfl, .inr (SqT.of hp2), fun l nl => ⟨8, rfl, by decide, by decide, fun D nD => ?_⟩⟩
        have kl : Kp [] H' (upd H' l (.lst (gs.map V.int))) := Kp.new nl
        refine lc_range (n := 8) (fun i2 H2 => Kp [] (upd H' l (.lst (gs.map V.int))) H2 ∧ H2 D = some (.lst ((upto i2 gs).map V.int))) ⟨Kp.new nD, upd_same⟩ (fun i2 H2 hi2 qq => ?_) (fun H2 qq => ?_)
        · obtain ⟨kp2, hD⟩ := qq
          refine ⟨rfl, _, rfl, _, rfl, _, rfl, a, _, _, _, rfl, rfl, SqT.of (kp2.same _ _ (kl.same _ _ hxs')), hat, p2, _, rfl, .inr (SqT.of (kp2.same _ _ (kl.same _ _ hp2))), rfl, flat_ints gs, ?_⟩
          show ∃ k, V.bl (inV _ _) = V.bl k ∧ _
          rw [inV_int]
          refine ⟨_, rfl, ?_⟩
          rw [upto_succ]
          have e : ((0 : Int) + (i2 : Int)) = Int.ofNat i2 := by rw [Int.zero_add]; rfl
          by_cases c : Int.ofNat i2 ∈ gs
          · rw [e, decide_eq_true c]
            refine ⟨_, rfl, (upto i2 gs).map V.int, hD, ?_, kp2.putN nD, ?_⟩
            · rw [List.length_map]
              exact Nat.lt_of_le_of_lt (upto_len i2 gs) (Nat.lt_trans hi2 (by decide))
            · rw [upd_same, if_pos c, List.map_append]
              rfl
          · rw [e, decide_eq_false c]
            refine iteF ⟨kp2, ?_⟩
            rw [if_neg c, List.append_nil]
            exact hD
        · obtain ⟨kp2, hD⟩ := qq
          have e : upto 8 gs = gs := hG.symm
          rw [e] at hD
          refine ⟨.list (gs.map .int), .list (gs.map .int), .lst (SqL.of (kp2.same _ _ upd_same)) (ints_dp gs), .lst (SqL.of hD) (ints_dp gs), sh_ints gs, sh_ints gs, ?_⟩
          rw [eqv_same (sh_ints gs)]
          exact ⟨_, rfl, iteF ⟨kp.trans (kl.trans kp2), _, _, _, rfl⟩⟩
      · have dl0 : decide (V.str kd.lt = V.str "b") = false := by
          cases kd <;> first | exact absurd rfl cg | decide +kernel
        rw [dl0]
        refine iteF ?_
        obtain ⟨z, rfl, hz1, hz2⟩ := good_num h2 cg
        obtain rfl : v = .int z := hth
        obtain ⟨t, ht1, ht2⟩ := (hlim.kp kp) kd cg
        have gL : DGet H' q (.str kd.lt) (some (.ref t)) := by
          have z := DGet.k (k := Sum.inr kd.lt) (kp.same _ _ hq4)
          rw [ht1] at z
          exact z
        have hz3 : z ≤ kd.hiL := by
          cases kd <;> first | exact hz2 | exact Int.le_trans hz2 (by decide)
        refine ⟨_, rfl, _, rfl, q, _, rfl, gL, t, _, _, _, rfl, rfl, SqT.of ht2, atI_nat (j := 0) rfl, _, rfl, _, rfl, a, _, _, _, rfl, rfl, SqT.of hxs', hat, _, _, rfl, rfl, _, rfl, ?_⟩
        rw [decide_eq_true hz1]
        refine iteT ?_
        refine ⟨_, rfl, _, rfl, q, _, rfl, gL, t, _, _, _, rfl, rfl, SqT.of ht2, atI_nat (j := 1) rfl, _, _, rfl, rfl, _, rfl, ?_⟩
        rw [decide_eq_true hz3]
        exact iteF ⟨kp, _, _, _, rfl⟩
    · obtain ⟨kp, v3, v4, v5, rfl⟩ := qq
      exact ⟨_, rfl, k _ (k4.trans kp)⟩
end
end Pk

namespace Pk
open PySem PySem.Spec PyProof.Rows L2
/-- a deed as a tuple -/
def DeedT (H : Hp) (p : Addr) : Deed → Prop
  | .tell a _ => H p = some (.tup [.str "tell", .ref a])
  | .strike n => H p = some (.tup [.str "strike", .int n])
  | .right n a _ => H p = some (.tup [.str "right", .int n, .ref a])
theorem DeedT.kp {S : List Addr} {H H' : Hp} (k : Kp S H H') {p : Addr} {D : Deed} (h : DeedT H p D) : DeedT H' p D := by
  cases D <;> exact k.tups _ _ h
theorem DeedAt.kp {S : List Addr} {H H' : Hp} (k : Kp S H H') {D : Deed} (h : DeedAt H D) : DeedAt H' D := by
  cases D with
  | tell a f => exact ⟨h.1.kp k, h.2⟩
  | strike n => exact trivial
  | right n a f => exact ⟨h.1.kp k, h.2⟩
theorem cut_head (a : V) (xs : List V) (h : xs ≠ []) : cutV (a :: xs) none (some 1) = [a] ∧ ¬ (HT.sIx (a :: xs).length 0 none = 0 ∧ HT.sIx (a :: xs).length (a :: xs).length (some 1) = (a :: xs).length) := by
  have e1 : HT.sIx (a :: xs).length (a :: xs).length (some 1) = 1 := by
    have z := HT.sIx_nat (a :: xs).length (a :: xs).length 1
    rw [show ((1 : Nat) : Int) = 1 from rfl] at z
    rw [z, List.length_cons]
    omega
  constructor
  · unfold cutV
    rw [e1, HT.sIx_none]
    rfl
  · rw [e1, List.length_cons]
    intro z
    exact h (List.length_eq_zero_iff.mp (by omega))
theorem cut_two (a b : V) (xs : List V) : cutV (a :: b :: xs) (some 2) none = xs ∧ ¬ (HT.sIx (a :: b :: xs).length 0 (some 2) = 0 ∧ HT.sIx (a :: b :: xs).length (a :: b :: xs).length none = (a :: b :: xs).length) := by
  have e1 : HT.sIx (a :: b :: xs).length 0 (some 2) = 2 := by
    have z := HT.sIx_nat (a :: b :: xs).length 0 2
    rw [show ((2 : Nat) : Int) = 2 from rfl] at z
    rw [z, List.length_cons, List.length_cons]
    omega
  constructor
  · unfold cutV
    rw [e1, HT.sIx_none, List.length_cons, List.length_cons]
    show (List.take (xs.length + 1 + 1 - 2) xs) = xs
    rw [show xs.length + 1 + 1 - 2 = xs.length by omega]
    exact List.take_length
  · rw [e1]
    intro z
    omega
/-- the first thing of a fact may be 1, 2 or 3 -/
theorem good_first {w' : Str} {ts : List Th} (h : Good (w', ts)) : ∃ i t r, ts = .n i :: t :: r ∧ ∀ j : Int, 1 ≤ j → j ≤ 3 → Good (w', .n j :: t :: r) := by
  obtain ⟨ks, hk, hp⟩ := h
  have key : ∀ (k : Kd) (k2 : Kd) (kr : List Kd), ks = k :: k2 :: kr → k ≠ .gates → k.lo ≤ 1 → 3 ≤ k.hi → ∃ i t r, ts = .n i :: t :: r ∧ ∀ j : Int, 1 ≤ j → j ≤ 3 → Good (w', .n j :: t :: r) := by
    intro k k2 kr e hg h1 h3
    subst e
    have hp : Paired GoodT (k :: k2 :: kr) ts := hp
    cases hp with
    | cons a b =>
      cases b with
      | cons a2 b2 =>
        obtain ⟨i, rfl, h4, h5⟩ := good_num a hg
        refine ⟨i, _, _, rfl, fun j hj1 hj3 => ⟨_, hk, .cons ?_ (.cons a2 b2)⟩⟩
        cases k <;> first | exact absurd rfl hg | exact ⟨j, rfl, Int.le_trans h1 hj1, Int.le_trans hj3 h3⟩
  have hk' := hk
  unfold kindsTab at hk'
  simp only [List.mem_cons, Prod.mk.injEq, List.not_mem_nil, or_false] at hk'
  rcases hk' with ⟨_, e⟩ | ⟨_, e⟩ | ⟨_, e⟩ | ⟨_, e⟩ | ⟨_, e⟩ | ⟨_, e⟩ | ⟨_, e⟩ | ⟨_, e⟩ <;> exact key _ _ _ e (by intro z; cases z) (by decide) (by decide)
section
variable {P : Program} {w : World} {K : PySem.W.Frag} {mg : Str → Option Value} {base : Heap} {CH CR CP CM CO CN CF dk dl : Addr}
def spDeedL : Sp := fun vs H Q _ => ∃ (b l md d : Addr) (m : Mo), vs = [.ref b, .ref md] ∧ BagAt H b l ∧ MdAt H md d m ∧ m.told ≤ 90 ∧ m.es.length < 64 ∧ (∀ e ∈ m.es, Good e.f) ∧
  ∀ H' p D, Kp [b] H H' → BagAt H' b l → DeedT H' p D → DeedAt H' D → Q (.ref p) H'
theorem MdAt.kpB {H H' : Hp} {b l md d : Addr} {m : Mo} (k : Kp [b] H H') (hb : BagAt H b l) (h : MdAt H md d m) : MdAt H' md d m := by
  obtain ⟨xs, e⟩ := hb.lst
  exact ⟨k.im (C := 0) (mu1 (mu_l e)) h.1 im_dK, h.2.kp (C := 0) k (mu1 (mu_l e))⟩
theorem MdAt.kp0 {H H' : Hp} {md d : Addr} {m : Mo} (k : Kp [] H H') (h : MdAt H md d m) : MdAt H' md d m := ⟨k.same _ _ h.1, h.2.kp (C := 0) k (fun s h => by cases h)⟩
theorem MdAt.gF {H : Hp} {md d : Addr} {m : Mo} (h : MdAt H md d m) : DGet H md (.str "facts") (some (.ref d)) := by
  have z := DGet.k (k := kF) h.1
  rw [md_facts] at z
  exact z
theorem MdAt.gT {H : Hp} {md d : Addr} {m : Mo} (h : MdAt H md d m) : DGet H md (.str "told") (some (.int m.told)) := by
  have z := DGet.k (k := kT) h.1
  rw [md_told] at z
  exact z
theorem FsAt.g {H : Hp} {d : Addr} {es : List Ent} (h : FsAt H d es) {n : Int} {e : Ent} (he : fnd es n = some e) : DGet H d (.int n) (some (.ref e.a)) := by
  have z := DGet.k (k := Sum.inl n) h.1
  rw [val_kvs, he] at z
  exact z
theorem ok_deed {f : Addr} {fd : FuncData} (F : Fun K "_law_deed" "_law_deed" sDeed f fd) (T : Txt K mg CH CR) (GP : Has P w K mg base CX0 1 "_law_pull" pPull spPull) (GF : Has P w K mg base CX0 4 "_law_fact" pFact spFact) (GA : Has P w K mg base CX0 2 "_law_far" pFar spFar) :
    FnOk P w K mg base CX0 5 f fd pDeed spDeedL := by
  obtain ⟨fp, fdp, mP, kP, bP, G⟩ := GP
  obtain ⟨ff, fdf, mF, kF', bF, Gf⟩ := GF
  obtain ⟨fa, fda, mA, kA, bA, Ga⟩ := GA
  refine F.ok scDeed (fun vs H Q E h => ?_) (fun cdv A outer s H vs Q E hr h => ?_)
  · obtain ⟨b, l, md, d, m, rfl, _⟩ := h
    rfl
  · obtain ⟨b, l, md, d, m, rfl, hb, M, ht, hl, hg, k⟩ := h
    have hr1 : Room 1 _ := hr.mono (by decide)
    have hr2 : Room 2 _ := hr.mono (by decide)
    have hu := hu_of hr
    refine ⟨_, pss_cons (ps_set (i := 2) scDeed.nd rfl (Or.inl rfl) (pe_callB (call_sortedDI rfl) (by rfl) T.sorted boot_sorted (pa_cons (pe_dget hu (pv 1) pe_str (fun _ _ => rfl)) pa_nil)))
      (pss_cons (ps_set (i := 3) scDeed.nd rfl (Or.inl rfl) (pe_call G hr1 rfl mP kP bP .nil pass0 (pa_cons (pv 0) (pa_cons pe_int pa_nil))))
      (pss_cons (ps_if (PW.pt (pw_or (pt_cmpR op_lt (pv 3) pe_int (nomark _)) (pw_or1 (pt_cmpR op_eq (pe_callB call_len_seq (by rfl) T.len PySem.boot_len (pa_cons (pv 2) pa_nil)) pe_int (nomark _)))))
        (pss_one (ps_ret (pe_tup (pa_cons pe_str (pa_cons (pe_call Gf hr rfl mF kF' bF .nil pass0 (pa_cons (pv 0) (pa_cons (pe_dget hu (pv 1) pe_str (fun _ _ => rfl)) pa_nil))) pa_nil))))) pss_nil)
      (pss_cons (ps_set (i := 4) scDeed.nd rfl (Or.inl rfl) (pe_ix ix_list (pv 2) (pe_call G hr1 rfl mP kP bP .nil pass0 (pa_cons (pv 0) (pa_cons (pe_callB call_len_seq (by rfl) T.len PySem.boot_len (pa_cons (pv 2) pa_nil)) pa_nil))) (fun _ _ => rfl)))
      (pss_cons (ps_set (i := 5) scDeed.nd rfl (Or.inl rfl) (pe_dget hu (pe_dget hu (pv 1) pe_str (fun _ _ => rfl)) (pv 4) (fun _ _ => rfl)))
      (C8.pss_cut (ps_if (pt_cmpR op_eq (pe_call G hr1 rfl mP kP bP .nil pass0 (pa_cons (pv 0) (pa_cons pe_int pa_nil))) pe_int (nomark _))
        (pss_one (ps_set (i := 4) scDeed.nd rfl (Or.inl rfl) (pe_ix ix_list (pe_lst (pa_cons pe_int (pa_cons (pe_op op_add (pe_dget hu (pv 1) pe_str (fun _ _ => rfl)) pe_int) (pa_cons pe_int (pa_cons (pe_call Ga hr2 rfl mA kA bA .nil pass0 (pa_cons (pv 0) pa_nil)) pa_nil)))))
          (pe_call G hr1 rfl mP kP bP .nil pass0 (pa_cons (pv 0) (pa_cons pe_int pa_nil))) (fun _ _ => rfl)))) pss_nil)
      (pss_cons (ps_if (pt_cmpR op_eq (pv 3) pe_int (nomark _)) (pss_one (ps_ret (pe_tup (pa_cons pe_str (pa_cons (pv 4) pa_nil))))) pss_nil)
      (pss_cons (ps_set (i := 6) scDeed.nd rfl (Or.inl rfl) (pe_call Gf hr rfl mF kF' bF .nil pass0 (pa_cons (pv 0) (pa_cons (pe_dget hu (pv 1) pe_str (fun _ _ => rfl)) pa_nil))))
      (C8.pss_cut (ps_if (PW.pt (pw_and (pt_cmpR op_ne (pe_ix ix_tup (pv 6) pe_int (fun _ _ => rfl)) (pe_ix ix_tup (pv 5) pe_int (fun _ _ => rfl)) (nomark _)) (pw_and1 (pt_cmpR op_gt (pe_call G hr1 rfl mP kP bP .nil pass0 (pa_cons (pv 0) (pa_cons pe_int pa_nil))) pe_int (nomark _)))))
        (pss_one (ps_set (i := 6) scDeed.nd rfl (Or.inl rfl) (pe_op op_catT (pe_op op_catT (pe_slice sl_tup (pv 5) po_none (po_some pe_int)) (pe_tup (pa_cons (pe_op op_add (pe_op op_mod (pe_ix ix_tup (pv 5) pe_int (fun _ _ => rfl)) pe_int) pe_int) pa_nil))) (pe_slice sl_tup (pv 5) (po_some pe_int) po_none)))) pss_nil)
      (pss_one (ps_ret (pe_tup (pa_cons pe_str (pa_cons (pv 4) (pa_cons (pv 6) pa_nil)))))))))))))), ?_⟩
    refine ⟨_, rfl, md, _, rfl, M.gF, d, _, nums m.es, rfl, .inl M.2.1, kvs_keys _, by rw [show (nums m.es).length = m.es.length from List.length_map ..]; exact hl, fun ys p0 hp hs' np => ?_⟩
    have kp0 : Kp [b] H (upd H p0 (.lst (ys.map V.int))) := Kp.new np
    have M0 := M.kpB kp0 hb
    refine ⟨_, rfl, b, l, 8, rfl, hb.kp0 (Kp.new np), by decide, by decide, fun H1 r1 k1 b1 _ _ => ?_⟩
    have kf1 := kp0.trans k1
    have M1 := M.kpB kf1 hb
    have e1 := k1.got np (bag_in hb)
    have one : ∀ {H2 : Hp} {σ : St}, Kp [b] H H2 → BagAt H2 b l → MdAt H2 md d m → σ[0]? = some (some (.ref b)) → σ[1]? = some (some (.ref md)) →
        tTup (tCons (tC (.str "tell")) (tCons (tCall spFact [] E0 (tCons (tVar 0) (tCons (tDGet (tVar 1) (tC (.str "told"))) tNil))) tNil)) σ H2 Q := by
      intro H2 σ k2 b2 M2 h0 h1
      refine ⟨_, h0, _, h1, md, _, rfl, M2.gT, b, l, m.told, rfl, b2, by omega, by omega, fun H3 a fc k3 b3 hf hg' => ⟨(by show 2 ≤ sizeLine; decide), fun p np2 => ?_⟩⟩
      exact k _ p (.tell a fc) ((k2.trans k3).newN np2) (b3.kp0 (Kp.new np2)) upd_same ⟨hf.kp (S := []) (Kp.new np2), hg'⟩
    refine ⟨_, rfl, _, _, rfl, rfl, _, rfl, ite2 (fun _ => ?_) (fun _ => ?_)⟩
    · exact iteT (one kf1 b1 M1 rfl rfl)
    refine ⟨_, rfl, p0, _, rfl, .inl (SqL.of e1), rfl, _, rfl, ite2 (fun _ => one kf1 b1 M1 rfl rfl) (fun cl => ?_)⟩
    have cl0 : ys.length ≠ 0 := fun z => cl (by rw [List.length_map, z]; exact decide_eq_true rfl)
    have lys : ys.length = m.es.length := hp.length_eq.trans (List.length_map ..)
    refine ⟨_, rfl, _, rfl, _, rfl, p0, _, rfl, .inl (SqL.of e1), b, l, _, rfl, b1, ?_, ?_, fun H2 r2 k2 b2 h20 h21 => ?_⟩
    · rw [List.length_map]; omega
    · rw [List.length_map]; omega
    have e2 := (k1.trans k2).got np (bag_in hb)
    rw [List.length_map] at h21
    obtain ⟨n0, hn0, en0⟩ := at_ints ys h20 h21
    obtain ⟨e, he⟩ := fnd_of_mem (hp.mem_iff.mp hn0)
    have hge := hg e (fnd_mem he).1
    have kf2 := kf1.trans k2
    have M2 := M.kpB kf2 hb
    refine ⟨p0, _, _, _, rfl, rfl, SqL.of e2, en0, ?_⟩
    refine ⟨_, rfl, md, _, rfl, M2.gF, _, rfl, d, _, rfl, M2.2.g he, ?_⟩
    refine ⟨fun σ' H' => Kp [b] H H' ∧ BagAt H' b l ∧ ∃ n : Int, σ' = [some (.ref b), some (.ref md), some (.ref p0), some (.int r1), some (.int n), some (.ref e.a), none], ?_, ?_⟩
    · refine ⟨_, rfl, b, l, 8, rfl, b2, by decide, by decide, fun H3 r3 k3 b3 _ _ => ⟨rfl, _, rfl, ite2 (fun _ => ?_) (fun _ => ⟨kf2.trans k3, b3, _, rfl⟩)⟩⟩
      have M3 := M.kpB (kf2.trans k3) hb
      refine ⟨_, rfl, md, _, rfl, M3.gT, _, _, rfl, rfl, _, rfl, b, l, rfl, b3, fun H4 r4 k4 b4 => ⟨(by show 4 ≤ sizeLine; decide), fun t nt => ⟨_, rfl, b, l, 4, rfl, b4.kp0 (Kp.new nt), by decide, by decide, fun H5 r5 k5 b5 h50 h51 => ?_⟩⟩⟩
      have e5 := k5.got nt (bag_in b4)
      obtain ⟨n, hn, en⟩ := at_ints [0, (m.told : Int) + 1, 1, r4] h50 h51
      exact ⟨t, _, _, _, rfl, rfl, SqL.of e5, en, kf2.trans (k3.trans (k4.trans ((Kp.new nt).trans k5))), b5, n, rfl⟩
    rintro σ3 H3 ⟨k3, b3, n, rfl⟩
    refine ⟨_, rfl, rfl, _, rfl, ite2 (fun _ => ?_) (fun _ => ?_)⟩
    · exact ⟨_, rfl, (by show 2 ≤ sizeLine; decide), fun p np2 => k _ p (.strike n) (k3.newN np2) (b3.kp0 (Kp.new np2)) upd_same trivial⟩
    have M3 := M.kpB k3 hb
    refine ⟨_, rfl, _, rfl, md, _, rfl, M3.gT, b, l, m.told, rfl, b3, by omega, by omega, fun H4 a fc k4 b4 hf hg' => ?_⟩
    have k34 := k3.trans k4
    have hold := (M.kpB k34 hb).2.2 e (fnd_mem he).1
    refine ⟨fun σ' H' => Kp [b] H H' ∧ BagAt H' b l ∧ ∃ a fc, σ' = [some (.ref b), some (.ref md), some (.ref p0), some (.int r1), some (.int n), some (.ref e.a), some (.ref a)] ∧ FctAt H' a fc ∧ Good fc, ?_, ?_⟩
    · obtain ⟨xs, hxs, hts⟩ := id hf
      obtain ⟨ys2, hys2, hts2⟩ := id hold
      refine ⟨_, rfl, a, _, _, _, rfl, rfl, SqT.of hxs, atI_nat (j := 0) rfl, _, rfl, e.a, _, _, _, rfl, rfl, SqT.of hys2, atI_nat (j := 0) rfl, rfl, _, rfl, ?_⟩
      refine ite2 (fun _ => ?_) (fun _ => iteF ⟨k34, b4, a, fc, rfl, hf, hg'⟩)
      refine ⟨_, rfl, b, l, 3, rfl, b4, by decide, by decide, fun H5 r5 k5 b5 _ _ => ⟨_, _, rfl, rfl, _, rfl, ite2 (fun _ => ?_) (fun _ => ⟨k34.trans k5, b5, a, fc, rfl, hf.kp k5, hg'⟩)⟩⟩
      obtain ⟨i, t, r, er, hgj⟩ := good_first (w' := e.f.1) (ts := e.f.2) hge
      rw [er] at hts2
      cases hts2 with
      | cons q1 hts2 =>
        cases hts2 with
        | @cons v2 _ vr _ q2 q3 =>
          obtain rfl := q1
          have hy5 := k5.tups _ _ hys2
          obtain ⟨c1, c2⟩ := cut_head (.str e.f.1) (.int i :: v2 :: vr) (by simp)
          obtain ⟨c3, c4⟩ := cut_two (.str e.f.1) (.int i) (v2 :: vr)
          refine ⟨_, rfl, _, rfl, e.a, _, rfl, SqT.of hy5, c2, fun u1 nu1 => ?_⟩
          rw [c1]
          refine ⟨_, rfl, e.a, _, _, _, rfl, rfl, SqT.of (nk hy5 nu1), atI_nat (j := 1) rfl, _, _, rfl, rfl, (by show (0 : Int) < 3; decide), _, _, rfl, rfl, (by show 1 ≤ sizeLine; decide), fun u2 nu2 => ?_⟩
          refine ⟨u1, u2, _, _, rfl, rfl, SqT.of (nk upd_same nu2), SqT.of upd_same, (by simp), (by show 1 + 1 ≤ sizeLine; decide), (fun z => nomatch z), fun _ u3 nu3 => ?_⟩
          refine ⟨_, rfl, _, rfl, e.a, _, rfl, SqT.of (nk (nk (nk hy5 nu1) nu2) nu3), c4, fun u4 nu4 => ?_⟩
          rw [c3]
          refine ⟨u3, u4, _, _, rfl, rfl, SqT.of (nk upd_same nu4), SqT.of upd_same, (by simp), ?_, (fun z => nomatch z), fun _ u5 nu5 => ?_⟩
          · have l5 : (v2 :: vr).length ≤ 5 := by
              obtain ⟨ks, hk1, hk2⟩ := hge
              have z1 := paired_len hk2
              have z2 := (kinds_len hk1).2
              have z3 := paired_len q3
              rw [er, List.length_cons, List.length_cons] at z1
              rw [List.length_cons]
              omega
            rw [sizeLine_eq]
            show 2 + (v2 :: vr).length ≤ 16777216
            omega
          have kz := (((((k34.trans k5).newN nu1).newN nu2).newN nu3).newN nu4).newN (o := .tup [.str e.f.1, .int (i % 3 + 1), v2]) nu5
          have kq : Kp [] H5 (upd (upd (upd (upd (upd H5 u1 (.tup [.str e.f.1])) u2 (.tup [.int (i % 3 + 1)])) u3 (.tup ([.str e.f.1] ++ [.int (i % 3 + 1)]))) u4 (.tup (v2 :: vr))) u5 (.tup ([.str e.f.1] ++ [.int (i % 3 + 1)] ++ v2 :: vr))) := ((((Kp.new nu1).newN nu2).newN nu3).newN nu4).newN nu5
          have i0 := Int.emod_nonneg i (show (3 : Int) ≠ 0 by decide)
          have i1 := Int.emod_lt_of_pos i (show (0 : Int) < 3 by decide)
          refine ⟨(k34.trans k5).and0 kq, b5.kp0 kq, u5, (e.f.1, .n (i % 3 + 1) :: t :: r), rfl, ⟨_, upd_same, .cons rfl ?_⟩, hgj _ (by omega) (by omega)⟩
          exact ThsAt.kp (S := []) kq (ThsAt.kp k5 (.cons q2 q3))
    rintro σ4 H5 ⟨k5, b5, a, fc, rfl, hf, hg'⟩
    exact ⟨_, rfl, _, rfl, (by show 3 ≤ sizeLine; decide), fun p np2 => k _ p (.right n a fc) (k5.newN np2) (b5.kp0 (Kp.new np2)) upd_same ⟨hf.kp (S := []) (Kp.new np2), hg'⟩⟩
end
end Pk

namespace Pk
open PySem PySem.Spec PyProof.Rows L2
section
variable {P : Program} {w : World} {K : PySem.W.Frag} {mg : Str → Option Value} {base : Heap} {CH CR CP CM CO CN CF dk dl : Addr}
def spDone : Sp := fun vs H Q _ => ∃ (md d p : Addr) (m : Mo) (D : Deed), vs = [.ref md, .ref p] ∧ MdAt H md d m ∧ DeedT H p D ∧ DeedAt H D ∧ m.told ≤ 100 ∧ m.es.length ≤ 1000 ∧
  (∀ m', step m D = some m' → ∀ H' r x, Kp [md, d] H H' → H' r = some (.lst [.str "", x]) → MdAt H' md d m' → Q (.ref r) H') ∧
  (step m D = none → ∀ H' r (wd : Str) x, wd ≠ "" → Kp [md, d] H H' → H' r = some (.lst [.str wd, x]) → Q (.ref r) H')
theorem ok_done {f : Addr} {fd : FuncData} (F : Fun K "_law_done" "_law_done" sDone f fd) (T : Txt K mg CH CR) (GL : Has P w K mg base CX0 1 "_law_fact_place" pPlace spPlace) : FnOk P w K mg base CX0 2 f fd pDone spDone := by
  obtain ⟨fl, fdl, mL, kL, bL, Gl⟩ := GL
  refine F.ok scDone (fun vs H Q E h => ?_) (fun cdv A outer s H vs Q E hr h => ?_)
  · obtain ⟨md, d, p, m, D, rfl, _⟩ := h
    rfl
  · obtain ⟨md, d, p, m, D, rfl, M, hD, hA, ht, hl, k1, k2⟩ := h
    have hu := hu_of hr
    have nmd := md_ne M
    refine ⟨_, pss_cons (ps_set (i := 2) scDone.nd rfl (Or.inl rfl) (pe_dget hu (pv 0) pe_str (fun _ _ => rfl)))
      (pss_cons (ps_if (PW.pt (pw_and (pt_cmpR op_ne (pe_ix ix_tup (pv 1) pe_int (fun _ _ => rfl)) pe_str (nomark _)) (pw_and1 (pt_cmp (pc_dnotin hu (pe_ix ix_tup (pv 1) pe_int (fun _ _ => rfl)) (pv 2))))))
        (pss_one (ps_ret (pe_lst (pa_cons pe_str (pa_cons (pe_ix ix_tup (pv 1) pe_int (fun _ _ => rfl)) pa_nil))))) pss_nil)
      (pss_cons (ps_if (pt_cmpR op_eq (pe_ix ix_tup (pv 1) pe_int (fun _ _ => rfl)) pe_str (nomark _)) (pss_one (ps_ret (pe_lst (pa_cons pe_str (pa_cons (pe_dpop1 (pv 2) (pe_ix ix_tup (pv 1) pe_int (fun _ _ => rfl)) ⟨rfl, rfl, rfl, rfl⟩) pa_nil))))) pss_nil)
      (pss_cons (ps_set (i := 3) scDone.nd rfl (Or.inl rfl) (pe_call Gl hr rfl mL kL bL .nil pass0 (pa_cons (pe_ix ix_tup (pv 1) (pe_un un_neg pe_int) (fun _ _ => rfl)) pa_nil)))
      (pss_cons (ps_if (pt_cmpR op_ge (pv 3) pe_int (nomark _)) (pss_one ps_never) pss_nil)
      (pss_cons (ps_if (pt_cmpR op_eq (pe_ix ix_tup (pv 1) pe_int (fun _ _ => rfl)) pe_str (nomark _))
        (pss_cons (ps_set (i := 4) scDone.nd rfl (Or.inl rfl) (pe_dget hu (pv 2) (pe_ix ix_tup (pv 1) pe_int (fun _ _ => rfl)) (fun _ _ => rfl)))
        (pss_cons (ps_if (pt_cmpR op_ne (pe_ix ix_tup (pv 4) pe_int (fun _ _ => rfl)) (pe_ix ix_tup (pe_ix ix_tup (pv 1) pe_int (fun _ _ => rfl)) pe_int (fun _ _ => rfl)) (nomark _)) (pss_one (ps_ret (pe_lst (pa_cons pe_str (pa_cons pe_non pa_nil))))) pss_nil)
        (pss_cons (ps_dput hu (pv 2) (pe_ix ix_tup (pv 1) pe_int (fun _ _ => rfl)) (pe_ix ix_tup (pv 1) pe_int (fun _ _ => rfl)) rfl)
        (pss_one (ps_ret (pe_lst (pa_cons pe_str (pa_cons (pv 4) pa_nil)))))))) pss_nil)
      (pss_cons (ps_if (pt_cmpR op_gt (pe_dget hu (pv 0) pe_str (fun _ _ => rfl)) pe_int (nomark _)) (pss_one ps_never) pss_nil)
      (pss_cons (ps_dput hu (pv 0) pe_str (pe_op op_add (pe_dget hu (pv 0) pe_str (fun _ _ => rfl)) pe_int) rfl)
      (pss_cons (ps_dput hu (pv 2) (pe_dget hu (pv 0) pe_str (fun _ _ => rfl)) (pe_ix ix_tup (pv 1) pe_int (fun _ _ => rfl)) rfl)
      (pss_one (ps_ret (pe_lst (pa_cons pe_str (pa_cons (pe_dget hu (pv 0) pe_str (fun _ _ => rfl)) pa_nil))))))))))))), ?_⟩
    refine ⟨_, rfl, md, _, rfl, M.gF, ?_⟩
    cases D with
    | tell a fc =>
      obtain ⟨hf, hg⟩ := hA
      have hp : H p = some (.tup [.str "tell", .ref a]) := hD
      refine ⟨_, rfl, p, _, _, _, rfl, rfl, SqT.of hp, atI_nat (j := 0) rfl, rfl, _, rfl, ?_⟩
      refine iteF (iteF ?_)
      refine ⟨_, rfl, p, _, _, _, rfl, rfl, SqT.of hp, atI_nat (j := 0) rfl, rfl, _, rfl, ?_⟩
      refine iteF ?_
      refine ⟨_, rfl, _, rfl, p, _, _, _, rfl, rfl, SqT.of hp, atI_last [_] _, a, fc, rfl, hf, hg, fun H1 kp => ?_⟩
      have M1 := M.kp0 kp
      have hp1 := kp.same _ _ hp
      refine ⟨_, rfl, _, _, rfl, rfl, _, rfl, iteF ?_⟩
      refine ⟨_, rfl, p, _, _, _, rfl, rfl, SqT.of hp1, atI_nat (j := 0) rfl, rfl, _, rfl, iteF ?_⟩
      refine ⟨_, rfl, md, _, rfl, M1.gT, _, _, rfl, rfl, _, rfl, ?_⟩
      rw [show decide ((119 : Int) < (m.told : Int)) = false from decide_eq_false (by omega)]
      refine iteF ?_
      refine ⟨_, rfl, md, _, rfl, M1.gT, _, _, rfl, rfl, _, rfl, md, _, rfl, DPut.k (k := kT) M1.1 (by show 2 < sizeLine; decide), ?_⟩
      have e2 : putK (mdK d m.told) kT (.int ((m.told : Int) + 1)) = mdK d (m.told + 1) := md_put d m.told (m.told + 1)
      rw [e2]
      have k3 : Kp [md, d] H (upd H1 md (.dK (mdK d (m.told + 1)))) := kp.up.trans ((Kp.put M1.1 (fun _ z => by cases z)).mono (by simp))
      have hd3 : upd H1 md (.dK (mdK d (m.told + 1))) d = some (.dK (kvs m.es)) := by rw [upd_ne nmd.symm]; exact M1.2.1
      have gT3 : DGet (upd H1 md (.dK (mdK d (m.told + 1)))) md (.str "told") (some (.int ((m.told + 1 : Nat) : Int))) := by
        have z := DGet.k (k := kT) (H := upd H1 md (.dK (mdK d (m.told + 1)))) upd_same
        rw [md_told] at z
        exact z
      refine ⟨_, rfl, p, _, _, _, rfl, rfl, SqT.of (k3.tups _ _ hp), atI_nat (j := 1) rfl, _, rfl, _, rfl, md, _, rfl, gT3, d, _, rfl, DPut.k (k := Sum.inl ((m.told + 1 : Nat) : Int)) hd3 (by rw [kvs_len]; exact Nat.lt_of_le_of_lt hl (by decide)), ?_⟩
      rw [← kvs_put (f := fc)]
      have k4 : Kp [md, d] H (upd (upd H1 md (.dK (mdK d (m.told + 1)))) d (.dK (kvs (putE m.es ((m.told + 1 : Nat) : Int) a fc)))) := k3.trans ((Kp.put hd3 (fun _ z => by cases z)).mono (by simp))
      have hm4 : upd (upd H1 md (.dK (mdK d (m.told + 1)))) d (.dK (kvs (putE m.es ((m.told + 1 : Nat) : Int) a fc))) md = some (.dK (mdK d (m.told + 1))) := by rw [upd_ne nmd, upd_same]
      have gT4 : DGet (upd (upd H1 md (.dK (mdK d (m.told + 1)))) d (.dK (kvs (putE m.es ((m.told + 1 : Nat) : Int) a fc)))) md (.str "told") (some (.int ((m.told + 1 : Nat) : Int))) := by
        have z := DGet.k (k := kT) hm4
        rw [md_told] at z
        exact z
      refine ⟨_, rfl, md, _, rfl, gT4, (by show 2 ≤ sizeLine; decide), fun r nr => ?_⟩
      refine k1 _ rfl _ r _ (k4.newN nr) upd_same ⟨nk hm4 nr, nk upd_same nr, fun y hy => ?_⟩
      rcases put_mem hy with q | q
      · exact (M.2.2 y q).kp (k4.newN nr)
      · rw [q]; exact hf.kp (k4.newN nr)
    | strike n =>
      have hp : H p = some (.tup [.str "strike", .int n]) := hD
      refine ⟨_, rfl, p, _, _, _, rfl, rfl, SqT.of hp, atI_nat (j := 0) rfl, rfl, _, rfl, ?_⟩
      refine iteT ?_
      refine ⟨_, rfl, p, _, _, _, rfl, rfl, SqT.of hp, atI_nat (j := 1) rfl, _, rfl, d, _, rfl, DGet.k (k := Sum.inl n) M.2.1, _, rfl, ?_⟩
      rw [val_kvs]
      cases he : fnd m.es n with
      | none =>
        refine iteT ?_
        refine ⟨_, rfl, p, _, _, _, rfl, rfl, SqT.of hp, atI_nat (j := 1) rfl, (by show 2 ≤ sizeLine; decide), fun r nr => ?_⟩
        refine k2 ?_ _ r _ _ (by decide +kernel) (Kp.new nr) upd_same
        show (fnd m.es n).map _ = _
        rw [he]
        rfl
      | some e =>
        refine iteF ?_
        refine ⟨_, rfl, p, _, _, _, rfl, rfl, SqT.of hp, atI_nat (j := 0) rfl, rfl, _, rfl, iteT ?_⟩
        refine ⟨_, rfl, d, rfl, .inl ⟨_, .inl M.2.1⟩, _, rfl, p, _, _, _, rfl, rfl, SqT.of hp, atI_nat (j := 1) rfl, _, .inl n, .ref e.a, M.2.1, rfl, ?_, (by show 2 ≤ sizeLine; decide), fun r nr => ?_⟩
        · rw [val_kvs, he]
          rfl
        rw [← kvs_drop] at nr ⊢
        have stp : step m (.strike n) = some ⟨dropE m.es n, m.told⟩ := by
          show (fnd m.es n).map _ = _
          rw [he]
          rfl
        have kz : Kp [md, d] H (upd H d (.dK (kvs (dropE m.es n)))) := (Kp.put M.2.1 (fun _ z => by cases z)).mono (by simp)
        refine k1 _ stp _ r _ (kz.newN nr) upd_same ⟨nk (by rw [upd_ne nmd]; exact M.1) nr, nk upd_same nr, fun y hy => (M.2.2 y (drop_mem hy)).kp (kz.newN nr)⟩
    | right n a fc =>
      obtain ⟨hf, hg⟩ := hA
      have hp : H p = some (.tup [.str "right", .int n, .ref a]) := hD
      refine ⟨_, rfl, p, _, _, _, rfl, rfl, SqT.of hp, atI_nat (j := 0) rfl, rfl, _, rfl, ?_⟩
      refine iteT ?_
      refine ⟨_, rfl, p, _, _, _, rfl, rfl, SqT.of hp, atI_nat (j := 1) rfl, _, rfl, d, _, rfl, DGet.k (k := Sum.inl n) M.2.1, _, rfl, ?_⟩
      rw [val_kvs]
      cases he : fnd m.es n with
      | none =>
        refine iteT ?_
        refine ⟨_, rfl, p, _, _, _, rfl, rfl, SqT.of hp, atI_nat (j := 1) rfl, (by show 2 ≤ sizeLine; decide), fun r nr => ?_⟩
        refine k2 ?_ _ r _ _ (by decide +kernel) (Kp.new nr) upd_same
        show (fnd m.es n).bind _ = _
        rw [he]
        rfl
      | some e =>
        refine iteF ?_
        refine ⟨_, rfl, p, _, _, _, rfl, rfl, SqT.of hp, atI_nat (j := 0) rfl, rfl, _, rfl, iteF ?_⟩
        refine ⟨_, rfl, _, rfl, p, _, _, _, rfl, rfl, SqT.of hp, atI_last [_, _] _, a, fc, rfl, hf, hg, fun H1 kp => ?_⟩
        have M1 := M.kp0 kp
        have hp1 := kp.same _ _ hp
        obtain ⟨xs, hxs, _⟩ := id (hf.kp kp)
        obtain ⟨ys, hys, _⟩ := M1.2.2 e (fnd_mem he).1
        refine ⟨_, rfl, _, _, rfl, rfl, _, rfl, iteF ?_⟩
        refine ⟨_, rfl, p, _, _, _, rfl, rfl, SqT.of hp1, atI_nat (j := 0) rfl, rfl, _, rfl, iteT ?_⟩
        refine ⟨_, rfl, _, rfl, p, _, _, _, rfl, rfl, SqT.of hp1, atI_nat (j := 1) rfl, d, _, rfl, M1.2.g he, ?_⟩
        refine ⟨_, rfl, e.a, _, _, _, rfl, rfl, SqT.of hys, atI_nat (j := 0) rfl, _, rfl, p, _, _, _, rfl, rfl, SqT.of hp1, atI_nat (j := 2) rfl, a, _, _, _, rfl, rfl, SqT.of hxs, atI_nat (j := 0) rfl, rfl, _, rfl, ?_⟩
        by_cases c : fc.1 = e.f.1
        · rw [show (!decide (V.str e.f.1 = V.str fc.1)) = false from by rw [c]; simp]
          refine iteF ?_
          refine ⟨_, rfl, p, _, _, _, rfl, rfl, SqT.of hp1, atI_nat (j := 2) rfl, _, rfl, _, rfl, p, _, _, _, rfl, rfl, SqT.of hp1, atI_nat (j := 1) rfl, d, _, rfl, DPut.k (k := Sum.inl n) M1.2.1 (by rw [kvs_len]; exact Nat.lt_of_le_of_lt hl (by decide)), ?_⟩
          rw [← kvs_put (f := fc)]
          refine ⟨_, rfl, (by show 2 ≤ sizeLine; decide), fun r nr => ?_⟩
          have stp : step m (.right n a fc) = some ⟨putE m.es n a fc, m.told⟩ := by
            show (fnd m.es n).bind _ = _
            rw [he]
            show (if fc.1 = e.f.1 then _ else _) = _
            rw [if_pos c]
          have kz : Kp [md, d] H (upd H1 d (.dK (kvs (putE m.es n a fc)))) := kp.up.trans ((Kp.put M1.2.1 (fun _ z => by cases z)).mono (by simp))
          refine k1 _ stp _ r _ (kz.newN nr) upd_same ⟨nk (by rw [upd_ne nmd]; exact M1.1) nr, nk upd_same nr, fun y hy => ?_⟩
          rcases put_mem hy with q | q
          · exact (M.2.2 y q).kp (kz.newN nr)
          · rw [q]; exact hf.kp (kz.newN nr)
        · rw [show (!decide (V.str e.f.1 = V.str fc.1)) = true from by rw [decide_eq_false (fun z => c (V.str.inj z).symm)]; rfl]
          refine iteT ?_
          refine ⟨(by show 2 ≤ sizeLine; decide), fun r nr => ?_⟩
          refine k2 ?_ _ r _ _ (by decide +kernel) (kp.up.newN nr) upd_same
          show (fnd m.es n).bind _ = _
          rw [he]
          show (if fc.1 = e.f.1 then _ else _) = _
          rw [if_neg c]
end
end Pk

namespace Pk
open PySem PySem.Spec PyProof.Rows L2
/-- a datum's type -/
def tyD : PyData → String
  | .none => "NoneType"
  | .bool _ => "bool"
  | .int _ => "int"
  | .str _ => "str"
  | .list _ => "list"
  | .tuple _ => "tuple"
  | .dict _ => "dict"
def isTD : PyData → Bool
  | .tuple _ => true
  | _ => false
def isLD : PyData → Bool
  | .list _ => true
  | _ => false
def isBD : PyData → Bool
  | .bool _ => true
  | _ => false
theorem kT_ {K : PySem.W.Frag} : ∀ d : PyData, PySem.W.kitOne K (.type (tyD d)) (.type "tuple") = some (isTD d)
  | .none => kit_ty (a := "NoneType") (b := "tuple") (r := false) (by decide +kernel)
  | .bool _ => kit_ty (a := "bool") (b := "tuple") (r := false) (by decide +kernel)
  | .int _ => kit_ty (a := "int") (b := "tuple") (r := false) (by decide +kernel)
  | .str _ => kit_ty (a := "str") (b := "tuple") (r := false) (by decide +kernel)
  | .list _ => kit_ty (a := "list") (b := "tuple") (r := false) (by decide +kernel)
  | .tuple _ => kit_ty (a := "tuple") (b := "tuple") (r := true) (by decide +kernel)
  | .dict _ => kit_ty (a := "dict") (b := "tuple") (r := false) (by decide +kernel)
theorem kL_ {K : PySem.W.Frag} : ∀ d : PyData, PySem.W.kitOne K (.type (tyD d)) (.type "list") = some (isLD d)
  | .none => kit_ty (a := "NoneType") (b := "list") (r := false) (by decide +kernel)
  | .bool _ => kit_ty (a := "bool") (b := "list") (r := false) (by decide +kernel)
  | .int _ => kit_ty (a := "int") (b := "list") (r := false) (by decide +kernel)
  | .str _ => kit_ty (a := "str") (b := "list") (r := false) (by decide +kernel)
  | .list _ => kit_ty (a := "list") (b := "list") (r := true) (by decide +kernel)
  | .tuple _ => kit_ty (a := "tuple") (b := "list") (r := false) (by decide +kernel)
  | .dict _ => kit_ty (a := "dict") (b := "list") (r := false) (by decide +kernel)
theorem kB_ {K : PySem.W.Frag} : ∀ d : PyData, PySem.W.kitOne K (.type (tyD d)) (.type "bool") = some (isBD d)
  | .none => kit_ty (a := "NoneType") (b := "bool") (r := false) (by decide +kernel)
  | .bool _ => kit_ty (a := "bool") (b := "bool") (r := true) (by decide +kernel)
  | .int _ => kit_ty (a := "int") (b := "bool") (r := false) (by decide +kernel)
  | .str _ => kit_ty (a := "str") (b := "bool") (r := false) (by decide +kernel)
  | .list _ => kit_ty (a := "list") (b := "bool") (r := false) (by decide +kernel)
  | .tuple _ => kit_ty (a := "tuple") (b := "bool") (r := false) (by decide +kernel)
  | .dict _ => kit_ty (a := "dict") (b := "bool") (r := false) (by decide +kernel)
theorem kTL_ {K : PySem.W.Frag} (d : PyData) : PySem.W.kitAny K (.type (tyD d)) [.type "tuple", .type "list"] = some (isTD d || isLD d) := by
  refine kitAny_cons (kT_ d) (fun h => ?_) (fun h => ?_)
  · rw [h]
    refine kitAny_cons (kL_ d) (fun h2 => ?_) (fun h2 => ?_)
    · rw [h2]
      exact kitAny_nil
    · rw [h2]
      rfl
  · rw [h]
    rfl
theorem seq_ty {K : PySem.W.Frag} {H : Hp} {a : Addr} {xs : List V} (h : SqL K H a xs) : TyX K H (.ref a) (.type "list") := by
  rcases h with (h | ⟨o, h⟩) | ⟨o, its, n, h, hc, _⟩
  · exact .base (.lst h)
  · exact .base (.frz h)
  · exact .kList h hc
theorem tup_ty {K : PySem.W.Frag} {H : Hp} {a : Addr} {xs : List V} (h : SqT K H a xs) : TyX K H (.ref a) (.type "tuple") := by
  rcases h with (h | ⟨o, h⟩) | ⟨o, its, n, h, hc, _⟩
  · exact .base (.tup h)
  · exact .fTuple h
  · exact .kTuple h hc
theorem dp_ty {K : PySem.W.Frag} {H : Hp} {x : V} {d : PyData} (h : Dp K H x d) : TyX K H x (.type (tyD d)) := by
  cases h with
  | non => exact .base .non
  | bl b => exact .base (.bl b)
  | int i => exact .base (.int i)
  | str x => exact .base (.str x)
  | lst h _ => exact seq_ty h
  | tup h _ => exact tup_ty h
theorem Same.tupS {K : PySem.W.Frag} {H H' : Hp} (k : Same H H') {a : Addr} {xs : List V} (h : SqT K H a xs) : SqT K H' a xs := h.imp (.imp (k _ _) (.imp fun _ => k _ _)) id
mutual
theorem dp_same {K : PySem.W.Frag} {H H' : Hp} (k : Same H H') : ∀ (d : PyData) (x : V), Dp K H x d → Dp K H' x d
  | .none, _, h => by cases h; exact .non
  | .bool b, _, h => by cases h; exact .bl b
  | .int i, _, h => by cases h; exact .int i
  | .str x, _, h => by cases h; exact .str x
  | .list ds, _, h => by
    cases h with
    | lst h1 h2 => exact .lst (k.seq h1) (dps_same k ds _ h2)
  | .tuple ds, _, h => by
    cases h with
    | tup h1 h2 => exact .tup (Same.tupS k h1) (dps_same k ds _ h2)
  | .dict _, _, h => by cases h
theorem dps_same {K : PySem.W.Frag} {H H' : Hp} (k : Same H H') : ∀ (ds : List PyData) (xs : List V), DpAll K H xs ds → DpAll K H' xs ds
  | [], _, h => by cases h; exact .nil
  | d :: ds, _, h => by
    cases h with
    | cons h1 h2 => exact .cons (dp_same k d _ h1) (dps_same k ds _ h2)
end
theorem dps_len {K : PySem.W.Frag} {H : Hp} : ∀ {ds : List PyData} {xs : List V}, DpAll K H xs ds → xs.length = ds.length
  | [], _, h => by cases h; rfl
  | d :: ds, _, h => by
    cases h with
    | cons h1 h2 => rw [List.length_cons, List.length_cons, dps_len h2]
theorem dps_at {K : PySem.W.Frag} {H : Hp} : ∀ {ds : List PyData} {xs : List V}, DpAll K H xs ds → ∀ {i : Nat} {d : PyData}, ds[i]? = some d → ∃ x, xs[i]? = some x ∧ Dp K H x d
  | [], _, h, i, d, e => by simp at e
  | d :: ds, _, h, 0, d', e => by
    cases h with
    | cons h1 h2 =>
      have e' : d = d' := by simpa using e
      subst e'
      exact ⟨_, rfl, h1⟩
  | d :: ds, _, h, i + 1, d', e => by
    cases h with
    | cons h1 h2 =>
      obtain ⟨x, q1, q2⟩ := dps_at h2 (i := i) (by simpa using e)
      exact ⟨x, by simpa using q1, q2⟩
theorem dep_at : ∀ {ds : List PyData} {i : Nat} {d : PyData}, ds[i]? = some d → d.depth ≤ PyData.depthAll ds ∧ (PyData.canLayAll0 ds = true → d.canLay0 = true)
  | [], i, d, e => by simp at e
  | d :: ds, 0, d', e => by
    have e' : d = d' := by simpa using e
    subst e'
    refine ⟨?_, fun h => ?_⟩
    · rw [PyData.depthAll]
      exact Nat.le_max_left _ _
    · rw [PyData.canLayAll0] at h
      exact (Bool.and_eq_true_iff.mp h).1
  | d :: ds, i + 1, d', e => by
    obtain ⟨h1, h2⟩ := dep_at (ds := ds) (i := i) (d := d') (by simpa using e)
    refine ⟨?_, fun h => h2 ?_⟩
    · rw [PyData.depthAll]
      exact Nat.le_trans h1 (Nat.le_max_right _ _)
    · rw [PyData.canLayAll0] at h
      exact (Bool.and_eq_true_iff.mp h).2
section
variable {P : Program} {w : World} {K : PySem.W.Frag} {mg : Str → Option Value} {base : Heap} {CH CR CP CM CO CN CF dk dl : Addr}
mutual
def szD : PyData → Bool
  | .list xs => decide (xs.length ≤ 1000) && szAll xs
  | .tuple xs => decide (xs.length ≤ 1000) && szAll xs
  | .none => true
  | .bool _ => true
  | .int _ => true
  | .str _ => true
  | .dict _ => true
def szAll : List PyData → Bool
  | [] => true
  | x :: xs => szD x && szAll xs
end
theorem sz_at : ∀ {ds : List PyData} {i : Nat} {d : PyData}, ds[i]? = some d → szAll ds = true → szD d = true
  | [], i, d, e, _ => by simp at e
  | d :: ds, 0, d', e, h => by
    have e' : d = d' := by simpa using e
    subst e'
    rw [szAll] at h
    exact (Bool.and_eq_true_iff.mp h).1
  | d :: ds, i + 1, d', e, h => by
    rw [szAll] at h
    exact sz_at (ds := ds) (i := i) (by simpa using e) (Bool.and_eq_true_iff.mp h).2
def itemsD : PyData → List PyData
  | .list ds => ds
  | .tuple ds => ds
  | _ => []
theorem seq_of {H : Hp} {x : V} {d : PyData} (h : Dp K H x d) (q : (isTD d || isLD d) = true) : ∃ a xs, x = .ref a ∧ (SqL K H a xs ∨ SqT K H a xs) ∧ DpAll K H xs (itemsD d) := by
  cases h with
  | non => cases q
  | bl b => cases q
  | int i => cases q
  | str x => cases q
  | lst h1 h2 => exact ⟨_, _, rfl, .inl h1, h2⟩
  | tup h1 h2 => exact ⟨_, _, rfl, .inr h1, h2⟩
theorem seq_dep {d : PyData} (q : (isTD d || isLD d) = true) : d.depth = PyData.depthAll (itemsD d) + 1 ∧ (d.canLay0 = true → PyData.canLayAll0 (itemsD d) = true) := by
  cases d with
  | list ds => exact ⟨by rw [PyData.depth]; rfl, fun h => by rw [PyData.canLay0] at h; exact h⟩
  | tuple ds => exact ⟨by rw [PyData.depth]; rfl, fun h => by rw [PyData.canLay0] at h; exact h⟩
  | none => cases q
  | bool b => cases q
  | int i => cases q
  | str x => cases q
  | dict k => cases q
theorem seq_sz {d : PyData} (q : (isTD d || isLD d) = true) (h : szD d = true) : (itemsD d).length ≤ 1000 ∧ szAll (itemsD d) = true := by
  cases d with
  | list ds =>
    rw [szD] at h
    exact ⟨of_decide_eq_true (Bool.and_eq_true_iff.mp h).1, (Bool.and_eq_true_iff.mp h).2⟩
  | tuple ds =>
    rw [szD] at h
    exact ⟨of_decide_eq_true (Bool.and_eq_true_iff.mp h).1, (Bool.and_eq_true_iff.mp h).2⟩
  | none => cases q
  | bool b => cases q
  | int i => cases q
  | str x => cases q
  | dict k => cases q
theorem flat_dep {d : PyData} (q : (isTD d || isLD d) = false) (h : d.canLay0 = true) : SeqAt.shaped d = true := by
  refine Bool.and_eq_true_iff.mpr ⟨h, decide_eq_true ?_⟩
  cases d with
  | list ds => cases q
  | tuple ds => cases q
  | none => rw [PyData.depth]; decide
  | bool b => rw [PyData.depth]; decide
  | int i => rw [PyData.depth]; decide
  | str x => rw [PyData.depth]; decide
  | dict k => rw [PyData.canLay0] at h; cases h
theorem seq_kp {H H' : Hp} (k : Kp [] H H') {a : Addr} {xs : List V} (h : SqL K H a xs ∨ SqT K H a xs) : SqL K H' a xs ∨ SqT K H' a xs := h.imp k.same.seq (Same.tupS k.same)
theorem ix_of {H : Hp} {a : Addr} {xs : List V} (h : SqL K H a xs ∨ SqT K H a xs) {i : Int} {v : V} (e : atI xs i = some v) {Q : VK} (q : Q v H) : (rIxL K (.ref a) (.int i) H Q ∨ rIxT K (.ref a) (.int i) H Q) := by
  rcases h with h | h
  · exact .inl ⟨a, xs, i, v, rfl, rfl, h, e, q⟩
  · exact .inr ⟨a, xs, i, v, rfl, rfl, h, e, q⟩
/-- an item of a list or a tuple -/
def rIxLT (K : PySem.W.Frag) : R2 := fun x y H Q => rIxL K x y H Q ∨ rIxT K x y H Q
theorem ix_lt {X : Cx} : IxR X (rIxLT X.K) := IxR.or ix_list ix_tup
def spLike (K : PySem.W.Frag) (n : Nat) : Sp := fun vs H Q _ => ∃ (x y : V) (d : PyData), vs = [x, y] ∧ Dp K H x d ∧ Dp K H y d ∧ d.canLay0 = true ∧ szD d = true ∧ d.depth < n ∧ n ≤ 60 ∧ ∀ H', Kp [] H H' → Q (.bl true) H'
theorem ok_like0 {f : Addr} {fd : FuncData} : FnOk P w K mg base CX0 0 f fd pLike (spLike K 0) := by
  refine ⟨fun vs H Q E h => ?_, fun A outer s H args us vs Q E hr e0 hb r h => ?_⟩
  · obtain ⟨_, _, _, _, _, _, _, _, h, _⟩ := h
    exact absurd h (Nat.not_lt_zero _)
  · obtain ⟨_, _, _, _, _, _, _, _, h, _⟩ := h
    exact absurd h (Nat.not_lt_zero _)
theorem like_step {f : Addr} {fd : FuncData} (F : Fun K "_law_like" "_law_like" sLike f fd) (T : Txt K mg CH CR) (mL : mg "_law_like" = some (.ref f)) (bL : Binds K fd pLike []) {n : Nat} (G : FnOk P w K mg base CX0 n f fd pLike (spLike K n)) :
    FnOk P w K mg base CX0 (n + 1) f fd pLike (spLike K (n + 1)) := by
  refine F.ok scLike (fun vs H Q E h => ?_) (fun cdv A outer s H vs Q E hr h => ?_)
  · obtain ⟨x, y, d, rfl, _⟩ := h
    rfl
  · obtain ⟨x, y, d, rfl, hx, hy, hlay, hsz, hdep, hn, k⟩ := h
    refine ⟨_, pss_cons (ps_if (PW.pt (pw_or (pt_cmpR op_ne (pe_callB call_isi (by rfl) T.isi boot_isinstance (pa_cons (pv 1) (pa_cons (pe_bltn (v := .ty "tuple") (by rfl) T.tuple boot_tuple rfl) pa_nil)))
        (pe_callB call_isi (by rfl) T.isi boot_isinstance (pa_cons (pv 0) (pa_cons (pe_bltn (v := .ty "tuple") (by rfl) T.tuple boot_tuple rfl) pa_nil))) (nomark _))
        (pw_or1 (pt_cmpR op_ne (pe_callB call_isi (by rfl) T.isi boot_isinstance (pa_cons (pv 1) (pa_cons (pe_bltn (v := .ty "list") (by rfl) T.list boot_list rfl) pa_nil)))
        (pe_callB call_isi (by rfl) T.isi boot_isinstance (pa_cons (pv 0) (pa_cons (pe_bltn (v := .ty "list") (by rfl) T.list boot_list rfl) pa_nil))) (nomark _))))) (pss_one ps_never) pss_nil)
      (pss_cons (ps_if (pt_not (pt_val (pe_callB call_isiT (by rfl) T.isi boot_isinstance (pa_cons (pv 1) (pa_cons (pe_tup (pa_cons (pe_bltn (v := .ty "tuple") (by rfl) T.tuple boot_tuple rfl) (pa_cons (pe_bltn (v := .ty "list") (by rfl) T.list boot_list rfl) pa_nil))) pa_nil)))))
        (pss_one (ps_ret (pe_and (pe_cmpR op_eq (pe_callB call_isi (by rfl) T.isi boot_isinstance (pa_cons (pv 0) (pa_cons (pe_bltn (v := .ty "bool") (by rfl) T.bool boot_bool rfl) pa_nil)))
          (pe_callB call_isi (by rfl) T.isi boot_isinstance (pa_cons (pv 1) (pa_cons (pe_bltn (v := .ty "bool") (by rfl) T.bool boot_bool rfl) pa_nil))) (nomark _)) (pe_one (pe_cmpR (op_eqD hr.units) (pv 0) (pv 1) (nomark _)))))) pss_nil)
      (pss_one (ps_ret (pe_and (pe_cmpR op_eq (pe_callB call_len_seq (by rfl) T.len PySem.boot_len (pa_cons (pv 0) pa_nil)) (pe_callB call_len_seq (by rfl) T.len PySem.boot_len (pa_cons (pv 1) pa_nil)) (nomark _))
        (pe_one (pe_callB (cr_all rfl) (by rfl) T.all boot_all (pa_cons (pe_lc (own := [("_law_k", 2)]) (g := gName 2) (tt := tYes) (te := tCall (spLike K n) [] E0 (tCons (tOp (rIxLT K) (tVar 0) (tVar 2)) (tCons (tOp (rIxLT K) (tVar 1) (tVar 2)) tNil))) rfl scLike.nd (pi_range1 (by rfl) T.range (pa_cons (pe_callB call_len_seq (by rfl) T.len PySem.boot_len (pa_cons (pv 1) pa_nil)) pa_nil))
          (blkOk_by (N := nLike) (sc := defScope sLike) (by decide +kernel)) (fun _ _ _ _ _ => pg_name (i := 2) scLike.nd rfl (Or.inl rfl)) (fun _ _ _ _ _ => pts_nil)
          (fun _ _ _ _ _ => pe_call G hr rfl mL F.kp bL .nil pass0 (pa_cons (pe_ix ix_lt (pv 0) (pv 2) (fun _ _ => rfl)) (pa_cons (pe_ix ix_lt (pv 1) (pv 2) (fun _ _ => rfl)) pa_nil)))) pa_nil))))))), ?_⟩
    have tx := dp_ty hx
    have ty := dp_ty hy
    refine ⟨_, rfl, _, _, _, _, _, rfl, ClsV.ty "tuple", ty, kT_ d, _, rfl, _, _, _, _, _, rfl, ClsV.ty "tuple", tx, kT_ d, rfl, _, rfl, ?_⟩
    rw [show (!decide (V.bl (isTD d) = V.bl (isTD d))) = false by simp]
    refine iteF ?_
    refine ⟨_, rfl, _, _, _, _, _, rfl, ClsV.ty "list", ty, kL_ d, _, rfl, _, _, _, _, _, rfl, ClsV.ty "list", tx, kL_ d, rfl, _, rfl, ?_⟩
    rw [show (!decide (V.bl (isLD d) = V.bl (isLD d))) = false by simp]
    refine iteF ?_
    refine ⟨_, rfl, (by show 2 ≤ sizeLine; decide), fun tp ntp => ?_⟩
    have kt : Kp [] H (upd H tp (.tup [.ty "tuple", .ty "list"])) := Kp.new ntp
    have hx' := dp_same kt.same _ _ hx
    have hy' := dp_same kt.same _ _ hy
    refine ⟨_, tp, _, _, _, _, rfl, upd_same, .cons (.ty "tuple") (.cons (.ty "list") .nil), dp_ty hy', kTL_ d, _, rfl, ?_⟩
    cases q : (isTD d || isLD d) with
    | false =>
      refine iteT ?_
      refine ⟨_, rfl, _, _, _, _, _, rfl, ClsV.ty "bool", dp_ty hx', kB_ d, _, rfl, _, _, _, _, _, rfl, ClsV.ty "bool", dp_ty hy', kB_ d, rfl, _, rfl, ?_⟩
      rw [show decide (V.bl (isBD d) = V.bl (isBD d)) = true by simp]
      refine iteT ?_
      refine ⟨_, rfl, _, rfl, d, d, hx', hy', flat_dep q hlay, flat_dep q hlay, ?_⟩
      rw [eqv_same (flat_dep q hlay)]
      exact k _ kt
    | true =>
      refine iteF ?_
      obtain ⟨a, xs, rfl, sx, dx⟩ := seq_of hx' q
      obtain ⟨b, ys, rfl, sy, dy⟩ := seq_of hy' q
      obtain ⟨e1, e2⟩ := seq_dep q
      have lx := dps_len dx
      have ly := dps_len dy
      refine ⟨_, rfl, a, xs, rfl, sx, _, rfl, b, ys, rfl, sy, rfl, _, rfl, ?_⟩
      rw [lx, ly, show decide (V.int ((itemsD d).length : Int) = V.int ((itemsD d).length : Int)) = true by simp]
      refine iteT ?_
      obtain ⟨z1, z2⟩ := seq_sz q hsz
      refine ⟨_, rfl, b, ys, rfl, sy, _, rfl, by omega, by omega, fun D nD => ?_⟩
      rw [Int.toNat_natCast]
      refine lc_range (n := ys.length) (fun i H' => Kp [] (upd H tp (.tup [.ty "tuple", .ty "list"])) H' ∧ H' D = some (.lst ((List.replicate i true).map V.bl))) ⟨Kp.new nD, upd_same⟩ (fun i H' hi qq => ?_) (fun H' qq => ?_)
      · obtain ⟨kp, hD⟩ := qq
        have hi2 : i < (itemsD d).length := by omega
        have hd : (itemsD d)[i]? = some (itemsD d)[i] := List.getElem?_eq_getElem hi2
        obtain ⟨v1, hv1, dv1⟩ := dps_at (dps_same kp.same _ _ dx) hd
        obtain ⟨v2, hv2, dv2⟩ := dps_at (dps_same kp.same _ _ dy) hd
        obtain ⟨g1, g2⟩ := dep_at hd
        have ez : ((0 : Int) + (i : Int)) = (i : Int) := Int.zero_add _
        rw [ez]
        refine ⟨rfl, _, rfl, _, rfl, ix_of (seq_kp kp sx) (atI_nat hv1) ?_⟩
        refine ⟨_, rfl, _, rfl, ix_of (seq_kp kp sy) (atI_nat hv2) ?_⟩
        refine ⟨v1, v2, _, rfl, dv1, dv2, g2 (e2 hlay), sz_at hd z2, by omega, by omega, fun H2 k2 => ⟨_, k2.same _ _ hD, ?_, ?_, ?_⟩⟩
        · rw [List.length_map, List.length_replicate, sizeLine_eq]; omega
        · exact (kp.trans k2).putN nD
        · rw [upd_same, List.replicate_succ', List.map_append]
          rfl
      · obtain ⟨kp, hD⟩ := qq
        refine ⟨D, List.replicate ys.length true, rfl, SqL.of hD, ?_⟩
        rw [show (List.replicate ys.length true).all id = true by simp]
        exact k _ (kt.andN kp (fun a h => by cases h))
theorem ok_like {f : Addr} {fd : FuncData} (F : Fun K "_law_like" "_law_like" sLike f fd) (T : Txt K mg CH CR) (mL : mg "_law_like" = some (.ref f)) (bL : Binds K fd pLike []) : ∀ n, FnOk P w K mg base CX0 n f fd pLike (spLike K n)
  | 0 => ok_like0
  | n + 1 => like_step F T mL bL (ok_like F T mL bL n)
end
end Pk

namespace Pk
open PySem PySem.Spec PyProof.Rows L2
theorem sz_ints : ∀ gs : List Int, szAll (gs.map PyData.int) = true
  | [] => by rw [List.map_nil, szAll]
  | i :: r => by rw [List.map_cons, szAll, szD, sz_ints r]; rfl
theorem good_len {gs : List Int} (h : GoodG gs) : gs.length ≤ 8 := by
  have e : upto 8 gs = gs := h.symm
  rw [← e]
  exact upto_len 8 gs
theorem sz_things : ∀ {ks : List Kd} {ts : List Th}, Paired GoodT ks ts → szAll (ts.map thD) = true
  | [], _, h => by cases h; rw [List.map_nil, szAll]
  | k :: ks, _, h => by
    cases h with
    | @cons _ t _ ts a b =>
      rw [List.map_cons, szAll, sz_things b, Bool.and_true]
      cases t with
      | n i => show szD (.int i) = true; rw [szD]
      | g gs =>
        show szD (.tuple (gs.map PyData.int)) = true
        rw [szD, sz_ints, Bool.and_true, List.length_map]
        refine decide_eq_true (Nat.le_trans (good_len (gs := gs) ?_) (by decide))
        cases k <;> first | (obtain ⟨g2, e, hg⟩ := good_g a; cases e; exact hg) | (obtain ⟨i, e, _⟩ := good_num a (by intro z; cases z); cases e)
theorem sz_fct {f : Fct} (h : Good f) : szD (fctD f) = true := by
  obtain ⟨ks, hk, hp⟩ := h
  unfold fctD
  rw [szD, szAll, szD, Bool.true_and, sz_things hp, Bool.and_true]
  refine decide_eq_true ?_
  rw [List.length_cons, List.length_map, ← paired_len hp]
  have z := (kinds_len hk).2
  omega
theorem sz_of {es : List Ent} (h : ∀ e ∈ es, Good e.f) (n : Int) : szD (fctD (fctOf es n)) = true := by
  unfold fctOf
  cases q : fnd es n with
  | none => decide +kernel
  | some e => exact sz_fct (h e (fnd_mem q).1)
theorem sz_facts0 {es : List Ent} (h : ∀ e ∈ es, Good e.f) : ∀ ns : List Int, szAll (ns.map fun n => .tuple [.int n, fctD (fctOf es n)]) = true
  | [] => by rw [List.map_nil, szAll]
  | n :: r => by
    rw [List.map_cons, szAll, sz_facts0 h r, Bool.and_true, szD, szAll, szAll, szAll, szD, sz_of h n]
    rfl
theorem sz_facts {es : List Ent} (h : ∀ e ∈ es, Good e.f) (hl : es.length < 64) : szD (.list (factsD es)) = true := by
  rw [szD]
  refine Bool.and_eq_true_iff.mpr ⟨decide_eq_true ?_, sz_facts0 h _⟩
  unfold factsD
  rw [List.length_map, (srt_perm es).length_eq, show (nums es).length = es.length from List.length_map ..]
  omega
theorem dep_facts {es : List Ent} (h : ∀ e ∈ es, Good e.f) : (PyData.list (factsD es)).depth < 6 := by
  rw [PyData.depth]
  have z := (facts_lay h (srt es)).2
  exact Nat.lt_of_le_of_lt (Nat.succ_le_succ z) (by decide)
theorem lay_facts {es : List Ent} (h : ∀ e ∈ es, Good e.f) : (PyData.list (factsD es)).canLay0 = true := SeqAt.canLay_of_shaped (facts_sh h)
section
variable {P : Program} {w : World} {K : PySem.W.Frag} {mg : Str → Option Value} {base : Heap} {CH CR CP CM CO CN CF dk dl : Addr}
theorem lay_i (i : Int) : (PyData.int i).canLay0 = true := by rw [PyData.canLay0]
theorem sz_i (i : Int) : szD (.int i) = true := by rw [szD]
theorem dep_i (i : Int) : (PyData.int i).depth < 6 := by rw [PyData.depth]; decide
theorem lay_b (i : Bool) : (PyData.bool i).canLay0 = true := by rw [PyData.canLay0]
theorem sz_b (i : Bool) : szD (.bool i) = true := by rw [szD]
theorem dep_b (i : Bool) : (PyData.bool i).depth < 6 := by rw [PyData.depth]; decide
/-! ### roll_stands -/
def spStands (CH CR : Addr) : Sp := fun vs H Q _ => ∃ (x tk gn md d : Addr) (past gone : List Mo) (m : Mo), vs = [.ref x, .ref md, .int past.length] ∧ RAt CH CR H x tk gn (past ++ [m]) gone ∧ MdAt H md d m ∧ m.es.length < 64 ∧ (∀ e ∈ m.es, Good e.f) ∧
  ∀ H', Kp [] H H' → Q (.bl true) H'
theorem RAt.kp0 {H H' : Hp} {x tk gn : Addr} {past gone : List Mo} (T : Txt K mg CH CR) (k : Kp [] H H') (h : RAt CH CR H x tk gn past gone) : RAt CH CR H' x tk gn past gone := h.kp k (fun s h => by cases h) T.ne (by simp) (by simp) (by simp)
theorem ok_stands {f : Addr} {fd : FuncData} (F : Fun K "_law_roll_stands" "_law_roll_stands" sStands f fd) (T : Txt K mg CH CR) (GL : Has P w K mg base CX0 6 "_law_like" pLike (spLike K 6)) (GF : HasM P w K mg base CX0 1 CR "facts" pRFacts (spRFacts CH CR))
    (GT : HasM P w K mg base CX0 1 CR "told" pRTold (spRTold CH CR)) (GD : HasM P w K mg base CX0 1 CR "deeds" pRDeeds (spRDeeds CH CR)) (GN : HasM P w K mg base CX0 1 CR "__len__" pRLen (spRLen CH CR)) (GA : Has P w K mg base CX0 1 "_law_fact_list" pFactList spFactList) :
    FnOk P w K mg base CX0 7 f fd pStands (spStands CH CR) := by
  obtain ⟨fl, fdl, mL, kL, bL, Gl⟩ := GL
  obtain ⟨ff, fdf, Mf, bf, Gf⟩ := GF
  obtain ⟨ft, fdt, Mt, bt, Gt⟩ := GT
  obtain ⟨fd', fdd, Md, bd, Gd⟩ := GD
  obtain ⟨fn, fdn, Mn, bn, Gn⟩ := GN
  obtain ⟨fa, fda, mA, kA, bA, Ga⟩ := GA
  refine F.ok scStands (fun vs H Q E h => ?_) (fun cdv A outer s H vs Q E hr h => ?_)
  · obtain ⟨x, tk, gn, md, d, past, gone, m, rfl, _⟩ := h
    rfl
  · obtain ⟨x, tk, gn, md, d, past, gone, m, rfl, R, M, hl, hg, k⟩ := h
    have hr1 : Room 1 _ := hr.mono (by decide)
    have hr2 : Room 2 _ := hr.mono (by decide)
    have hu := hu_of hr
    refine ⟨_, pss_cons (ps_if (PW.pt (pw_or (pt_not (pt_val (pe_call Gl hr rfl mL kL bL .nil pass0 (pa_cons (pe_meth0 (pv 0) T.clR Mf Gf hr1 bf .nil pass0) (pa_cons (pe_call Ga hr1 rfl mA kA bA .nil pass0 (pa_cons (pv 1) pa_nil)) pa_nil)))))
        (pw_or1 (pt_not (pt_val (pe_call Gl hr rfl mL kL bL .nil pass0 (pa_cons (pe_meth0 (pv 0) T.clR Mt Gt hr1 bt .nil pass0) (pa_cons (pe_dget hu (pv 1) pe_str (fun _ _ => rfl)) pa_nil)))))))) (pss_one ps_never) pss_nil)
      (pss_one (ps_ret (pe_and (pe_call Gl hr rfl mL kL bL .nil pass0 (pa_cons (pe_meth0 (pv 0) T.clR Md Gd hr1 bd .nil pass0) (pa_cons (pv 2) pa_nil)))
        (pe_one (pe_call Gl hr rfl mL kL bL .nil pass0 (pa_cons (pe_callB (call_ownLen Gn hr2 bn Mn.at_ Mn.fn) (by rfl) T.len PySem.boot_len (pa_cons (pv 0) pa_nil)) (pa_cons (pe_callB call_lenD (by rfl) T.len PySem.boot_len (pa_cons (pe_dget hu (pv 1) pe_str (fun _ _ => rfl)) pa_nil)) pa_nil))))))), ?_⟩
    obtain ⟨dx, hs, gs, e1, e2, e3, e4, e5⟩ := R.ex
    refine ⟨_, rfl, x, dx, _, rfl, e1, rf_no _ _ (by decide +kernel) (by decide +kernel), x, tk, gn, past, gone, m, rfl, R, hl, fun H1 p1 k1 n1 F1 => ?_⟩
    refine ⟨_, rfl, md, d, m, rfl, M.kp0 k1, hl, fun H2 p2 k2 n2 F2 => ?_⟩
    have k12 := k1.trans k2
    refine ⟨_, _, .list (factsD m.es), rfl, (F1.kp k2 (by simp)).dp, F2.dp, lay_facts hg, sz_facts hg hl, dep_facts hg, by decide, fun H3 k3 => ⟨_, rfl, iteF ?_⟩⟩
    have k13 := k12.trans k3
    refine ⟨_, rfl, x, dx, _, rfl, k13.same _ _ e1, rf_no _ _ (by decide +kernel) (by decide +kernel), x, tk, gn, past, gone, m, rfl, R.kp0 T k13, ?_⟩
    refine ⟨_, rfl, md, _, rfl, (M.kp0 k13).gT, _, _, .int _, rfl, .int _, .int _, lay_i _, sz_i _, dep_i _, by decide, fun H4 k4 => ⟨_, rfl, iteF ?_⟩⟩
    have k14 := k13.trans k4
    refine ⟨_, rfl, x, dx, _, rfl, k14.same _ _ e1, rf_no _ _ (by decide +kernel) (by decide +kernel), x, tk, gn, _, gone, rfl, R.kp0 T k14, ?_⟩
    have el : (((past ++ [m]).length : Nat) : Int) - 1 = (past.length : Int) := by rw [List.length_append, List.length_singleton]; omega
    rw [el]
    refine ⟨_, rfl, _, _, .int _, rfl, .int _, .int _, lay_i _, sz_i _, dep_i _, by decide, fun H5 k5 => ⟨_, rfl, iteT ?_⟩⟩
    have k15 := k14.trans k5
    refine ⟨_, rfl, x, dx, _, rfl, k15.same _ _ e1, x, tk, gn, past, gone, m, rfl, R.kp0 T k15, _, rfl, by omega, by omega, ?_⟩
    refine ⟨_, rfl, md, _, rfl, (M.kp0 k15).gF, d, _, rfl, (M.kp0 k15).2.1, ?_⟩
    rw [kvs_len]
    exact ⟨_, _, .int _, rfl, .int _, .int _, lay_i _, sz_i _, dep_i _, by decide, fun H6 k6 => k _ (k15.trans k6)⟩
end
end Pk

namespace Pk
open PySem PySem.Spec PyProof.Rows L2
section
variable {P : Program} {w : World} {K : PySem.W.Frag} {mg : Str → Option Value} {base : Heap} {CH CR CP CM CO CN CF dk dl : Addr}
/-- what _law_told gives: none or a refusal -/
def spTold (CH CR CO CN CF : Addr) : Sp := fun vs H Q _ => ∃ (x tk gn : Addr) (way : Int) (dv : V), vs = [.ref x, .int way, dv] ∧ tk ≠ gn ∧
  ((way = 0 ∧ ∃ past gone m, RAt CH CR H x tk gn (past ++ [m]) gone ∧ gone.length ≤ 900 ∧ (past ≠ [] → ∀ H', Kp [tk, gn] H H' → RAt CH CR H' x tk gn past (gone ++ [m]) → Q .non H') ∧ (past = [] → ∀ H', Kp [] H H' → Q (.str "refused") H')) ∨
   (way = 1 ∧ ∃ past gone, RAt CH CR H x tk gn past gone ∧ past.length ≤ 900 ∧ (∀ g m, gone = g ++ [m] → ∀ H', Kp [tk, gn] H H' → RAt CH CR H' x tk gn (past ++ [m]) g → Q .non H') ∧ (gone = [] → ∀ H', Kp [] H H' → Q (.str "refused") H')) ∨
   (way = 2 ∧ ∃ past gone m p D, dv = .ref p ∧ RAt CH CR H x tk gn (past ++ [m]) gone ∧ past.length ≤ 900 ∧ m.told ≤ 100 ∧ m.es.length ≤ 1000 ∧ DeedT H p D ∧ DeedAt H D ∧
     (∀ m', step m D = some m' → ∀ H' g, Kp [x, tk] H H' → H g = none → RAt CH CR H' x tk g (past ++ [m] ++ [m']) [] → Q .non H') ∧ (step m D = none → ∀ H', Kp [] H H' → Q (.str "refused") H')))
def tRefused : TS := tRet (tC (.str "refused"))
def tTold (K : PySem.W.Frag) (CH CR CO CN CF : Addr) (W : WX) : TS :=
  tSeq (tIfS (tTest (tOp rEq (tVar 1) (tC (.int 0)))) (tRet (tMeth CR "undo" (spUndo CH CR CO CN CF) [] (fun cls d H => ∀ σ, W cls d σ H) (tVar 0) tNil)) tNext)
    (tSeq (tIfS (tTest (tOp rEq (tVar 1) (tC (.int 1)))) (tRet (tMeth CR "redo" (spRedo CH CR CO CN CF) [] (fun cls d H => ∀ σ, W cls d σ H) (tVar 0) tNil)) tNext)
      (tIfS (tTest (tOp rEq (tOp (rIxT K) (tVar 2) (tC (.int 0))) (tC (.str "tell")))) (tDrop (tMeth CR "tell" (spTell CH CR CO CN CF) [] (fun cls d H => ∀ σ, W cls d σ H) (tVar 0) (tCons (tOp (rIxT K) (tVar 2) (tC (.int 1))) tNil)))
        (tIfS (tTest (tOp rEq (tOp (rIxT K) (tVar 2) (tC (.int 0))) (tC (.str "right"))))
          (tDrop (tMeth CR "right" (spRight CH CR CO CN CF) [] (fun cls d H => ∀ σ, W cls d σ H) (tVar 0) (tCons (tOp (rIxT K) (tVar 2) (tC (.int 1))) (tCons (tOp (rIxT K) (tVar 2) (tC (.int 2))) tNil))))
          (tDrop (tMeth CR "strike" (spStrike CH CR CO CN CF) [] (fun cls d H => ∀ σ, W cls d σ H) (tVar 0) (tCons (tOp (rIxT K) (tVar 2) (tC (.int 1))) tNil))))))
theorem refuse {Wout : WX} {D : Ends} {c : Value} {d : Option Addr} {H : Hp} (X : Err K mg CP CM CO CN CF) (hR : Rf CO CN CF c) (k : D.rt (.str "refused") H) : ∀ σ, wMany K Wout D [(.ref CP, fun _ _ _ => tRefused), (.ref CM, fun _ _ _ => tRefused)] c d σ H := fun σ => by
  rcases hR with rfl | rfl | rfl
  · exact ⟨true, X.eOP, fun _ a na => k, fun z => (nomatch z)⟩
  · exact ⟨true, X.eNP, fun _ a na => k, fun z => (nomatch z)⟩
  · exact ⟨false, X.eFP, fun z => (nomatch z), fun _ => ⟨true, X.eFM, fun _ a na => k, fun z => (nomatch z)⟩⟩
theorem ok_told {f : Addr} {fd : FuncData} (F : Fun K "_law_told" "_law_told" sTold f fd) (T : Txt K mg CH CR) (X : Err K mg CP CM CO CN CF) (GU : HasM P w K mg base (L2.CX P w) 4 CR "undo" pRUndo (spUndo CH CR CO CN CF)) (GE : HasM P w K mg base (L2.CX P w) 4 CR "redo" pRRedo (spRedo CH CR CO CN CF))
    (GT : HasM P w K mg base (L2.CX P w) 4 CR "tell" pRTell (spTell CH CR CO CN CF)) (GR : HasM P w K mg base (L2.CX P w) 5 CR "right" pRRight (spRight CH CR CO CN CF)) (GS : HasM P w K mg base (L2.CX P w) 5 CR "strike" pRStrike (spStrike CH CR CO CN CF)) :
    FnOk P w K mg base CX0 6 f fd pTold (spTold CH CR CO CN CF) := by
  obtain ⟨fu, fdu, Mu1, bu, Gu⟩ := GU
  obtain ⟨fe, fde, Me1, be, Ge⟩ := GE
  obtain ⟨ft, fdt, Mt1, bt, Gt⟩ := GT
  obtain ⟨fr, fdr, Mr1, br, Gr⟩ := GR
  obtain ⟨fs, fds, Ms1, bs, Gs⟩ := GS
  refine F.ok scTold (fun vs H Q E h => ?_) (fun cdv A outer s H vs Q E hr h => ?_)
  · obtain ⟨x, tk, gn, way, dv, rfl, _⟩ := h
    rfl
  · have hr4 : Room 4 _ := hr.mono (by decide)
    refine ⟨_, pss_cons (ps_try_many (tb := tTold K CH CR CO CN CF) (l := [(.ref CP, fun _ _ _ => tRefused), (.ref CM, fun _ _ _ => tRefused)]) (Wout := fun _ _ _ _ => False) rfl rfl takes_none5
        (fun W pn xe tk _ => by
          exact pss_cons (ps_if (pt_cmpR op_eq (pv 1) pe_int (nomark _)) (pss_one (ps_ret (pe_meth0 (pv 0) T.clR Mu1 Gu hr4 bu .nil (passes_call tk (fun _ _ σ _ h => h σ))))) pss_nil)
            (pss_cons (ps_if (pt_cmpR op_eq (pv 1) pe_int (nomark _)) (pss_one (ps_ret (pe_meth0 (pv 0) T.clR Me1 Ge hr4 be .nil (passes_call tk (fun _ _ σ _ h => h σ))))) pss_nil)
            (pss_one (ps_if (pt_cmpR op_eq (pe_ix ix_tup (pv 2) pe_int (fun _ _ => rfl)) pe_str (nomark _)) (pss_one (ps_expr (pe_meth (pv 0) T.clR Mt1 Gt hr4 bt .nil (passes_call tk (fun _ _ σ _ h => h σ)) (pa_cons (pe_ix ix_tup (pv 2) pe_int (fun _ _ => rfl)) pa_nil))))
              (pss_one (ps_if (pt_cmpR op_eq (pe_ix ix_tup (pv 2) pe_int (fun _ _ => rfl)) pe_str (nomark _)) (pss_one (ps_expr (pe_meth (pv 0) T.clR Mr1 Gr hr br .nil (passes_call tk (fun _ _ σ _ h => h σ)) (pa_cons (pe_ix ix_tup (pv 2) pe_int (fun _ _ => rfl)) (pa_cons (pe_ix ix_tup (pv 2) pe_int (fun _ _ => rfl)) pa_nil)))))
                (pss_one (ps_expr (pe_meth (pv 0) T.clR Ms1 Gs hr bs .nil (passes_call tk (fun _ _ σ _ h => h σ)) (pa_cons (pe_ix ix_tup (pv 2) pe_int (fun _ _ => rfl)) pa_nil))))))))))
        (.cons ⟨rfl, by decide, .inl X.gP⟩ (fun a oe cls d pn _ _ => pss_one (ps_ret pe_str)) (.cons ⟨rfl, by decide, .inl X.gM⟩ (fun a oe cls d pn _ _ => pss_one (ps_ret pe_str)) .nil)))
      (pss_one (ps_ret pe_non)), ?_⟩
    obtain ⟨x, tk, gn, way, dv, rfl, hne, h⟩ := h
    rcases h with ⟨rfl, past, gone, m, R, hl, k1, k2⟩ | ⟨rfl, past, gone, R, hl, k1, k2⟩ | ⟨rfl, past, gone, m, p, D, rfl, R, hl, ht, he, hD, hA, k1, k2⟩
    · obtain ⟨dx, hs, gs, e1, e2, e3, e4, e5⟩ := R.ex
      refine ⟨_, rfl, rfl, _, rfl, iteT ?_⟩
      refine ⟨_, rfl, x, dx, _, rfl, e1, rf_no _ _ (by decide +kernel) (by decide +kernel), x, tk, gn, past, gone, m, rfl, R, hne, hl, fun c H' kp R' => k1 c H' kp R', fun c cls d H' hR kp => refuse X hR (k2 c H' kp)⟩
    · obtain ⟨dx, hs, gs, e1, e2, e3, e4, e5⟩ := R.ex
      refine ⟨_, rfl, rfl, _, rfl, iteF ?_⟩
      refine ⟨_, rfl, rfl, _, rfl, iteT ?_⟩
      refine ⟨_, rfl, x, dx, _, rfl, e1, rf_no _ _ (by decide +kernel) (by decide +kernel), x, tk, gn, past, gone, rfl, R, hne, hl, fun g m eg H' kp R' => k1 g m eg H' kp R', fun c cls d H' hR kp => refuse X hR (k2 c H' kp)⟩
    · obtain ⟨dx, hs, gs, e1, e2, e3, e4, e5⟩ := R.ex
      refine ⟨_, rfl, rfl, _, rfl, iteF ?_⟩
      refine ⟨_, rfl, rfl, _, rfl, iteF ?_⟩
      cases D with
      | tell a fc =>
        have hp : H p = some (.tup [.str "tell", .ref a]) := hD
        refine ⟨_, rfl, p, _, _, _, rfl, rfl, SqT.of hp, atI_nat (j := 0) rfl, rfl, _, rfl, iteT ?_⟩
        refine ⟨_, rfl, x, dx, _, rfl, e1, rf_no _ _ (by decide +kernel) (by decide +kernel), _, rfl, p, _, _, _, rfl, rfl, SqT.of hp, atI_nat (j := 1) rfl, ?_⟩
        refine ⟨x, tk, gn, past, gone, m, a, fc, rfl, R, hl, hA.1, hA.2, ht, he, fun m' hm v H' g kp hg R' => k1 m' hm H' g kp hg R', fun hn cls d H' hR kp => refuse X hR (k2 hn H' kp)⟩
      | right n a fc =>
        have hp : H p = some (.tup [.str "right", .int n, .ref a]) := hD
        refine ⟨_, rfl, p, _, _, _, rfl, rfl, SqT.of hp, atI_nat (j := 0) rfl, rfl, _, rfl, iteF ?_⟩
        refine ⟨_, rfl, p, _, _, _, rfl, rfl, SqT.of hp, atI_nat (j := 0) rfl, rfl, _, rfl, iteT ?_⟩
        refine ⟨_, rfl, x, dx, _, rfl, e1, rf_no _ _ (by decide +kernel) (by decide +kernel), _, rfl, p, _, _, _, rfl, rfl, SqT.of hp, atI_nat (j := 1) rfl, _, rfl, p, _, _, _, rfl, rfl, SqT.of hp, atI_nat (j := 2) rfl, ?_⟩
        refine ⟨x, tk, gn, past, gone, m, n, a, fc, rfl, R, hl, hA.1, hA.2, he, fun m' hm v H' g kp hg R' => k1 m' hm H' g kp hg R', fun hn cls d H' hR kp => refuse X hR (k2 hn H' kp)⟩
      | strike n =>
        have hp : H p = some (.tup [.str "strike", .int n]) := hD
        refine ⟨_, rfl, p, _, _, _, rfl, rfl, SqT.of hp, atI_nat (j := 0) rfl, rfl, _, rfl, iteF ?_⟩
        refine ⟨_, rfl, p, _, _, _, rfl, rfl, SqT.of hp, atI_nat (j := 0) rfl, rfl, _, rfl, iteF ?_⟩
        refine ⟨_, rfl, x, dx, _, rfl, e1, rf_no _ _ (by decide +kernel) (by decide +kernel), _, rfl, p, _, _, _, rfl, rfl, SqT.of hp, atI_nat (j := 1) rfl, ?_⟩
        refine ⟨x, tk, gn, past, gone, m, n, rfl, R, hl, fun m' hm v H' g kp hg R' => k1 m' hm H' g kp hg R', fun hn cls d H' hR kp => refuse X hR (k2 hn H' kp)⟩
end
end Pk

namespace Pk
open PySem PySem.Spec PyProof.Rows L2
/-- a roll and the law's past of it, by their addresses and what they hold -/
structure Rs where
  x : Addr
  tk : Addr
  gn : Addr
  q : Addr
  da : Addr
  ga : Addr
  past : List Mo
  gone : List Mo
structure RsAt (CH CR : Addr) (H : Hp) (r : Rs) : Prop where
  R : RAt CH CR H r.x r.tk r.gn r.past r.gone
  q : H r.q = some (.tup [.ref r.da, .ref r.ga])
  ex : ∃ ms gs, H r.da = some (.lst ms) ∧ H r.ga = some (.lst gs) ∧ Paired (ModelAt H) ms r.past ∧ Paired (ModelAt H) gs r.gone
structure RsOk (T : Nat) (r : Rs) : Prop where
  ne : r.past ≠ []
  lp : r.past.length ≤ T + 1
  lg : r.gone.length ≤ T + 1
  op : ∀ m ∈ r.past, MoOk T m
  og : ∀ m ∈ r.gone, MoOk T m
def Rs.ls (r : Rs) : List Addr := [r.tk, r.gn, r.da, r.ga]
theorem models_kp {C : Addr} {S : List Addr} {H H' : Hp} (k : Kp S H H') (hS : ∀ s ∈ S, Mu C H s) {hs : List V} {ms : List Mo} (h : Paired (ModelAt H) hs ms) : Paired (ModelAt H') hs ms := Paired.mapP h fun _ _ q => q.kp k hS
section
variable {P : Program} {w : World} {K : PySem.W.Frag} {mg : Str → Option Value} {base : Heap} {CH CR CP CM CO CN CF dk dl : Addr}
theorem RsAt.kp {S : List Addr} {H H' : Hp} {r : Rs} (T : Txt K mg CH CR) (k : Kp S H H') (hS : ∀ s ∈ S, Mu CR H s) (hx : r.x ∉ S) (hl : ∀ a ∈ r.ls, a ∉ S) (h : RsAt CH CR H r) : RsAt CH CR H' r := by
  obtain ⟨ms, gs, e1, e2, e3, e4⟩ := h.ex
  exact ⟨h.R.kp k hS T.ne hx (hl _ (by simp [Rs.ls])) (hl _ (by simp [Rs.ls])), k.tups _ _ h.q, ms, gs, k.keep _ _ e1 (hl _ (by simp [Rs.ls])), k.keep _ _ e2 (hl _ (by simp [Rs.ls])), models_kp k hS e3, models_kp k hS e4⟩
theorem RsAt.kp0 {H H' : Hp} {r : Rs} (T : Txt K mg CH CR) (k : Kp [] H H') (h : RsAt CH CR H r) : RsAt CH CR H' r := h.kp T k (fun s h => by cases h) (by simp) (fun a _ => by simp)
theorem RsAt.kpB {H H' : Hp} {r : Rs} {b l : Addr} (T : Txt K mg CH CR) (k : Kp [b] H H') (hb : BagAt H b l) (hn : b ∉ r.ls) (h : RsAt CH CR H r) : RsAt CH CR H' r := by
  obtain ⟨xs, eb⟩ := hb.lst
  obtain ⟨dx, hs, gs, e1, _⟩ := h.R.ex
  refine h.kp T k (mu1 (mu_l eb)) (fun z => ?_) (fun a ha z => hn (by rw [← List.mem_singleton.mp z]; exact ha))
  rw [List.mem_singleton.mp z, eb] at e1
  cases e1
theorem RsAt.mu {H : Hp} {r : Rs} (h : RsAt CH CR H r) : Mu CR H r.x ∧ ∀ a ∈ r.ls, Mu CR H a := by
  obtain ⟨dx, hs, gs, e1, e2, e3, _⟩ := h.R.ex
  obtain ⟨ms, gs', f1, f2, _⟩ := h.ex
  refine ⟨mu_x e1, fun a ha => ?_⟩
  simp only [Rs.ls, List.mem_cons, List.not_mem_nil, or_false] at ha
  rcases ha with rfl | rfl | rfl | rfl
  · exact mu_l e2
  · exact mu_l e3
  · exact mu_l f1
  · exact mu_l f2
theorem RsAt.xne {H : Hp} {r : Rs} (h : RsAt CH CR H r) : r.x ∉ r.ls := fun z => by
  obtain ⟨dx, hs, gs, e1, e2, e3, _⟩ := h.R.ex
  obtain ⟨ms, gs', f1, f2, _⟩ := h.ex
  simp only [Rs.ls, List.mem_cons, List.not_mem_nil, or_false] at z
  rcases z with z | z | z | z <;> (rw [z] at e1; first | (rw [e2] at e1; cases e1) | (rw [e3] at e1; cases e1) | (rw [f1] at e1; cases e1) | (rw [f2] at e1; cases e1))
/-- the last of one list goes to the end of the other -/
theorem mv {H : Hp} {a c : Addr} {xs ys : List V} {v : V} (e1 : H a = some (.lst (xs ++ [v]))) (e2 : H c = some (.lst ys)) (ne : a ≠ c) :
    Kp [a, c] H (upd (upd H a (.lst (xs ++ [v]).dropLast)) c (.lst (ys ++ [v]))) ∧ upd (upd H a (.lst (xs ++ [v]).dropLast)) c (.lst (ys ++ [v])) a = some (.lst xs) ∧ upd (upd H a (.lst (xs ++ [v]).dropLast)) c (.lst (ys ++ [v])) c = some (.lst (ys ++ [v])) := by
  have e3 : upd H a (.lst (xs ++ [v]).dropLast) c = some (.lst ys) := by rw [upd_ne ne.symm]; exact e2
  refine ⟨((Kp.put e1 (fun _ z => by cases z)).mono (by simp)).trans ((Kp.put e3 (fun _ z => by cases z)).mono (by simp)), ?_, upd_same⟩
  rw [upd_ne ne, upd_same, List.dropLast_concat]
theorem last_at {xs : List V} {v : V} : (xs ++ [v])[(xs ++ [v]).length - 1]? = some v := by
  rw [List.length_append]
  simp
theorem model_md {H : Hp} {v : V} {m : Mo} (h : ModelAt H v m) : ∃ md d, v = .ref md ∧ MdAt H md d m := by
  obtain ⟨md, d, e, h1, h2⟩ := h
  exact ⟨md, d, e, h1, h2⟩
/-! ### the turn -/
def spTurn (CH CR : Addr) : Sp := fun vs H Q _ => ∃ (b l : Addr) (r : Rs) (T : Nat), vs = [.ref b, .ref r.x, .ref r.q] ∧ BagAt H b l ∧ RsAt CH CR H r ∧ RsOk T r ∧ T ≤ 60 ∧ List.Nodup (b :: l :: r.ls) ∧
  ∀ H' g past gone, Kp [b, r.x, r.tk, r.gn, r.da, r.ga] H H' → BagAt H' b l → (g = r.gn ∨ H g = none) → RsAt CH CR H' { r with gn := g, past := past, gone := gone } → RsOk (T + 1) { r with gn := g, past := past, gone := gone } → Q (.bl true) H'
theorem RsOk.mono {T : Nat} {r : Rs} (h : RsOk T r) : RsOk (T + 1) r := ⟨h.ne, Nat.le_succ_of_le h.lp, Nat.le_succ_of_le h.lg, fun m hm => (h.op m hm).mono (Nat.le_succ _), fun m hm => (h.og m hm).mono (Nat.le_succ _)⟩
theorem ok_turn {f : Addr} {fd : FuncData} (F : Fun K "_law_turn" "_law_turn" sTurn f fd) (T : Txt K mg CH CR) (GP : Has P w K mg base CX0 1 "_law_pull" pPull spPull) (GT : Has P w K mg base CX0 6 "_law_told" pTold (spTold CH CR CO CN CF))
    (GC : Has P w K mg base CX0 1 "_law_copied" pCopied spCopied) (GD : Has P w K mg base CX0 5 "_law_deed" pDeed spDeedL) (GN : Has P w K mg base CX0 2 "_law_done" pDone spDone) :
    FnOk P w K mg base CX0 7 f fd pTurn (spTurn CH CR) := by
  obtain ⟨fp, fdp, mP, kP, bP, G⟩ := GP
  obtain ⟨ft, fdt, mT, kT', bT, Gt⟩ := GT
  obtain ⟨fc, fdc, mC, kC, bC, Gc⟩ := GC
  obtain ⟨fd', fdd, mD, kD, bD, Gd⟩ := GD
  obtain ⟨fn, fdn, mN, kN, bN, Gn⟩ := GN
  refine F.ok scTurn (fun vs H Q E h => ?_) (fun cdv A outer s H vs Q E hr h => ?_)
  · obtain ⟨b, l, r, TT, rfl, _⟩ := h
    rfl
  · obtain ⟨b, l, r, TT, rfl, hb, S, ok, hT, hn, k⟩ := h
    have hr1 : Room 1 _ := hr.mono (by decide)
    have hr2 : Room 2 _ := hr.mono (by decide)
    have hr5 : Room 5 _ := hr.mono (by decide)
    have nd := scTurn.nd
    refine ⟨_, pss_cons (ps_asg (pv 2) (pg_tup rfl (pgs_cons (pg_name (i := 3) scTurn.nd rfl (Or.inl rfl)) (pgs_cons (pg_name (i := 4) scTurn.nd rfl (Or.inl rfl)) pgs_nil))))
      (pss_cons (ps_set (i := 5) scTurn.nd rfl (Or.inl rfl) (pe_call G hr1 rfl mP kP bP .nil pass0 (pa_cons (pv 0) (pa_cons pe_int pa_nil))))
      (pss_cons (ps_if (pt_cmpR op_lt (pv 5) pe_int (nomark _))
        (pss_cons (ps_asg (pe_ifExp (pt_cmpR op_eq (pv 5) pe_int (nomark _)) (pe_tup (pa_cons (pv 3) (pa_cons (pv 4) pa_nil))) (pe_tup (pa_cons (pv 4) (pa_cons (pv 3) pa_nil)))) (pg_tup rfl (pgs_cons (pg_name (i := 6) scTurn.nd rfl (Or.inl rfl)) (pgs_cons (pg_name (i := 7) scTurn.nd rfl (Or.inl rfl)) pgs_nil))))
        (pss_cons (ps_if (pt_cmpR op_notN (pe_call Gt hr rfl mT kT' bT .nil pass0 (pa_cons (pv 1) (pa_cons (pv 5) (pa_cons (pe_tup pa_nil) pa_nil)))) pe_non (nomark _))
          (pss_one (ps_ret (pe_cmpR op_le (pe_callB call_len_seq (by rfl) T.len PySem.boot_len (pa_cons (pv 6) pa_nil)) (pe_op op_sub pe_int (pv 5)) (nomark _)))) pss_nil)
        (pss_cons (ps_expr (pe_bm PySem.F.plainAttrs_list PySem.F.slot_list_append PySem.F.type_list_append mt_append (pv 7) (pa_cons (pe_bm0 PySem.F.plainAttrs_list PySem.F.slot_list_pop PySem.F.type_list_pop mt_pop (pv 6)) pa_nil)))
        (pss_one (ps_ret pe_bl))))) pss_nil)
      (pss_cons (ps_set (i := 8) scTurn.nd rfl (Or.inl rfl) (pe_call Gc hr1 rfl mC kC bC .nil pass0 (pa_cons (pe_ix ix_list (pv 3) (pe_un un_neg pe_int) (fun _ _ => rfl)) pa_nil)))
      (pss_cons (ps_set (i := 9) scTurn.nd rfl (Or.inl rfl) (pe_call Gd hr5 rfl mD kD bD .nil pass0 (pa_cons (pv 0) (pa_cons (pv 8) pa_nil))))
      (pss_cons (ps_set (i := 10) scTurn.nd rfl (Or.inl rfl) (pe_ix ix_list (pe_call Gn hr2 rfl mN kN bN .nil pass0 (pa_cons (pv 8) (pa_cons (pv 9) pa_nil))) pe_int (fun _ _ => rfl)))
      (pss_cons (ps_if (pt_cmpR op_eq (pv 10) pe_str (nomark _)) (pss_cons (ps_expr (pe_bm PySem.F.plainAttrs_list PySem.F.slot_list_append PySem.F.type_list_append mt_append (pv 3) (pa_cons (pv 8) pa_nil)))
        (pss_one (ps_expr (pe_bm0 PySem.F.plainAttrs_list PySem.F.slot_list_clear PySem.F.type_list_clear mt_clear (pv 4))))) pss_nil)
      (pss_one (ps_ret (pe_cmpR op_eq (pe_cmpR op_isN (pe_call Gt hr rfl mT kT' bT .nil pass0 (pa_cons (pv 1) (pa_cons pe_int (pa_cons (pv 9) pa_nil)))) pe_non (nomark _)) (pe_cmpR op_eq (pv 10) pe_str (nomark _)) (nomark _)))))))))), ?_⟩
    obtain ⟨x, tk, gn, q, da, ga, past, gone⟩ := r
    dsimp only at S hn k
    have hb0 := hb
    obtain ⟨ps, m, rfl⟩ : ∃ ps m, past = ps ++ [m] := by
      rcases List.eq_nil_or_concat past with rfl | ⟨ps, m, rfl⟩
      · exact absurd rfl ok.ne
      · exact ⟨ps, m, by simp⟩
    have lp : ps.length ≤ TT := by
      have z := ok.lp
      dsimp only at z
      rw [List.length_append, List.length_singleton] at z
      omega
    have lg : gone.length ≤ TT + 1 := ok.lg
    have okm : MoOk TT m := ok.op m (by simp)
    simp only [Rs.ls, List.nodup_cons, List.mem_cons, List.not_mem_nil, or_false, not_or, List.nodup_nil, and_true, not_false_eq_true] at hn
    obtain ⟨⟨n1, n2, n3, n4, n5⟩, ⟨n6, n7, n8, n9⟩, ⟨n10, n11, n12⟩, ⟨n13, n14⟩, n15⟩ := hn
    have hbl : b ∉ Rs.ls ⟨x, tk, gn, q, da, ga, ps ++ [m], gone⟩ := by simp [Rs.ls, n2, n3, n4, n5]
    have hx : x ∉ Rs.ls ⟨x, tk, gn, q, da, ga, ps ++ [m], gone⟩ := S.xne
    simp only [Rs.ls, List.mem_cons, List.not_mem_nil, or_false, not_or] at hx
    obtain ⟨x1, x2, x3, x4⟩ := hx
    obtain ⟨dx, hs0, gs0, r1, _⟩ := S.R.ex
    have bx : b ≠ x := fun z => by
      obtain ⟨xs, e⟩ := hb.lst
      rw [z, r1] at e
      cases e
    have lx : l ≠ x := fun z => by
      obtain ⟨cs, _, _, _, _, e, _⟩ := hb
      rw [z, r1] at e
      cases e
    refine ⟨_, rfl, q, _, rfl, SqT.of S.q, rfl, _, _, rfl, _, _, rfl, rfl, ?_⟩
    refine ⟨_, rfl, b, l, 7, rfl, hb, by decide, by decide, fun H1 way k1 b1 h10 h11 => ?_⟩
    have S1 := S.kpB T k1 hb hbl
    have big : ∀ {n : Nat}, n ≤ TT + 1 → n < sizeLine := fun h => Nat.lt_of_le_of_lt h (by rw [sizeLine_eq]; omega)
    refine ⟨_, rfl, _, _, rfl, rfl, _, rfl, ite2 (fun c => ?_) (fun c => ?_)⟩
    · have c' : way < 2 := of_decide_eq_true c
      have cw : way = 0 ∨ way = 1 := by omega
      rcases cw with rfl | rfl
      · -- taken back
        refine ⟨_, rfl, rfl, _, rfl, iteT ?_⟩
        refine ⟨_, rfl, _, rfl, (by show 2 ≤ sizeLine; decide), fun t nt => ⟨t, _, rfl, SqT.of upd_same, rfl, _, _, rfl, _, _, rfl, rfl, ?_⟩⟩
        refine ⟨_, rfl, _, rfl, (by show 0 ≤ sizeLine; decide), fun e ne => ?_⟩
        have k2 : Kp [] H1 (upd (upd H1 t (.tup [.ref da, .ref ga])) e (.tup [])) := (Kp.new nt).newN ne
        have S2 := S1.kp0 T k2
        have b2 := b1.kp0 k2
        refine ⟨x, tk, gn, 0, .ref e, rfl, n10, .inl ⟨rfl, ps, gone, m, S2.R, Nat.le_trans lg (by omega), fun hps H3 k3 R3 => ?_, fun hps H3 k3 => ?_⟩⟩
        · obtain ⟨ms, gs, f1, f2, f3, f4⟩ := S2.ex
          obtain ⟨ms', v, rfl, f5, f6⟩ := paired_snoc f3
          dsimp only at f1 f2 f4
          have hS3 : ∀ s ∈ [tk, gn], Mu CR _ s := mu2 (S2.mu.2 _ (by simp [Rs.ls])) (S2.mu.2 _ (by simp [Rs.ls]))
          have e1 := k3.keep _ _ f1 (by simp [Ne.symm n11, Ne.symm n13])
          have e2 := k3.keep _ _ f2 (by simp [Ne.symm n12, Ne.symm n14])
          obtain ⟨k4, g1, g2⟩ := mv e1 e2 n15
          refine ⟨rfl, _, rfl, iteF ?_⟩
          refine ⟨_, rfl, .inl ⟨rfl, _, SqL.of e2⟩, _, rfl, .inl ⟨rfl, _, SqL.of e1⟩, da, _, v, rfl, rfl, e1, last_at, ga, gs, v, rfl, rfl, by rw [upd_ne (Ne.symm n15)]; exact e2, by rw [paired_len f4]; exact big lg, ?_⟩
          have hS4 : ∀ s ∈ [da, ga], Mu CR H3 s := mu2 (mu_l e1) (mu_l e2)
          have kk : Kp [b, x, tk, gn, da, ga] H (upd (upd H3 da (.lst (ms' ++ [v]).dropLast)) ga (.lst (gs ++ [v]))) := (((k1.mono (by simp)).and0 k2).trans (k3.mono (by simp))).trans (k4.mono (by simp))
          refine k _ gn ps (gone ++ [m]) kk ((b2.kp k3 (by simp [n2, n3]) (by simp [n6, n7])).kp k4 (by simp [n4, n5]) (by simp [n8, n9])) (.inl rfl) ⟨R3.kp k4 hS4 T.ne (by simp [x3, x4]) (by simp [n11, n12]) (by simp [n13, n14]), k4.tups _ _ (k3.tups _ _ S2.q), ms', gs ++ [v], g1, g2, models_kp k4 hS4 (models_kp k3 hS3 f5), paired_app (models_kp k4 hS4 (models_kp k3 hS3 f4)) ((f6.kp k3 hS3).kp k4 hS4)⟩ ?_
          exact ⟨hps, by show ps.length ≤ _; omega, by show (gone ++ [m]).length ≤ _; rw [List.length_append, List.length_singleton]; omega, fun y hy => (ok.op y (by simp [show y ∈ ps from hy])).mono (Nat.le_succ _), fun y hy => by
            rcases List.mem_append.mp (show y ∈ gone ++ [m] from hy) with z | z
            · exact (ok.og y z).mono (Nat.le_succ _)
            · rw [List.mem_singleton.mp z]; exact okm.mono (Nat.le_succ _)⟩
        · have S3 := S2.kp0 T k3
          obtain ⟨ms, gs, f1, f2, f3, f4⟩ := S3.ex
          refine ⟨rfl, _, rfl, iteT ?_⟩
          refine ⟨_, rfl, da, _, rfl, .inl (SqL.of f1), _, rfl, _, _, rfl, rfl, _, _, rfl, rfl, ?_⟩
          subst hps
          have el : ms.length = 1 := paired_len f3
          rw [el]
          exact k _ gn _ gone ((k1.mono (by simp)).and0 (k2.trans k3)) (b2.kp0 k3) (.inl rfl) S3 ok.mono
      · -- done again
        refine ⟨_, rfl, rfl, _, rfl, iteF ?_⟩
        refine ⟨_, rfl, _, rfl, (by show 2 ≤ sizeLine; decide), fun t nt => ⟨t, _, rfl, SqT.of upd_same, rfl, _, _, rfl, _, _, rfl, rfl, ?_⟩⟩
        refine ⟨_, rfl, _, rfl, (by show 0 ≤ sizeLine; decide), fun e ne => ?_⟩
        have k2 : Kp [] H1 (upd (upd H1 t (.tup [.ref ga, .ref da])) e (.tup [])) := (Kp.new nt).newN ne
        have S2 := S1.kp0 T k2
        have b2 := b1.kp0 k2
        refine ⟨x, tk, gn, 1, .ref e, rfl, n10, .inr (.inl ⟨rfl, ps ++ [m], gone, S2.R, ?_, fun g m2 hgm H3 k3 R3 => ?_, fun hgn H3 k3 => ?_⟩)⟩
        · rw [List.length_append, List.length_singleton]; omega
        · subst hgm
          obtain ⟨ms, gs, f1, f2, f3, f4⟩ := S2.ex
          obtain ⟨gs', v, rfl, f5, f6⟩ := paired_snoc f4
          dsimp only at f1 f2 f3
          have hS3 : ∀ s ∈ [tk, gn], Mu CR _ s := mu2 (S2.mu.2 _ (by simp [Rs.ls])) (S2.mu.2 _ (by simp [Rs.ls]))
          have e1 := k3.keep _ _ f1 (by simp [Ne.symm n11, Ne.symm n13])
          have e2 := k3.keep _ _ f2 (by simp [Ne.symm n12, Ne.symm n14])
          obtain ⟨k4, g1, g2⟩ := mv e2 e1 (Ne.symm n15)
          refine ⟨rfl, _, rfl, iteF ?_⟩
          refine ⟨_, rfl, .inl ⟨rfl, _, SqL.of e1⟩, _, rfl, .inl ⟨rfl, _, SqL.of e2⟩, ga, _, v, rfl, rfl, e2, last_at, da, ms, v, rfl, rfl, by rw [upd_ne n15]; exact e1, by rw [paired_len f3, List.length_append, List.length_singleton]; exact big (by omega), ?_⟩
          have hS4 : ∀ s ∈ [ga, da], Mu CR H3 s := mu2 (mu_l e2) (mu_l e1)
          have kk : Kp [b, x, tk, gn, da, ga] H (upd (upd H3 ga (.lst (gs' ++ [v]).dropLast)) da (.lst (ms ++ [v]))) := (((k1.mono (by simp)).and0 k2).trans (k3.mono (by simp))).trans (k4.mono (by simp))
          have lg' : g.length + 1 ≤ TT + 1 := by rw [List.length_append, List.length_singleton] at lg; exact lg
          refine k _ gn (ps ++ [m] ++ [m2]) g kk ((b2.kp k3 (by simp [n2, n3]) (by simp [n6, n7])).kp k4 (by simp [n4, n5]) (by simp [n8, n9])) (.inl rfl) ⟨R3.kp k4 hS4 T.ne (by simp [x3, x4]) (by simp [n11, n12]) (by simp [n13, n14]), k4.tups _ _ (k3.tups _ _ S2.q), ms ++ [v], gs', g2, g1, paired_app (models_kp k4 hS4 (models_kp k3 hS3 f3)) ((f6.kp k3 hS3).kp k4 hS4), models_kp k4 hS4 (models_kp k3 hS3 f5)⟩ ?_
          exact ⟨by simp, by show (ps ++ [m] ++ [m2]).length ≤ _; simp only [List.length_append, List.length_singleton]; omega, by show g.length ≤ _; omega, fun y hy => by
            rcases List.mem_append.mp (show y ∈ ps ++ [m] ++ [m2] from hy) with z | z
            · exact (ok.op y z).mono (Nat.le_succ _)
            · rw [List.mem_singleton.mp z]; exact (ok.og m2 (by simp)).mono (Nat.le_succ _), fun y hy => (ok.og y (by simp [show y ∈ g from hy])).mono (Nat.le_succ _)⟩
        · have S3 := S2.kp0 T k3
          obtain ⟨ms, gs, f1, f2, f3, f4⟩ := S3.ex
          refine ⟨rfl, _, rfl, iteT ?_⟩
          refine ⟨_, rfl, ga, _, rfl, .inl (SqL.of f2), _, rfl, _, _, rfl, rfl, _, _, rfl, rfl, ?_⟩
          subst hgn
          have el : gs.length = 0 := paired_len f4
          rw [el]
          exact k _ gn _ [] ((k1.mono (by simp)).and0 (k2.trans k3)) (b2.kp0 k3) (.inl rfl) S3 ok.mono
    · obtain ⟨ms, gs, f1, f2, f3, f4⟩ := S1.ex
      obtain ⟨ms', v, rfl, f5, f6⟩ := paired_snoc f3
      obtain ⟨md0, d0, rfl, M0⟩ := model_md f6
      dsimp only at f1 f2 f4
      refine ⟨_, rfl, _, rfl, da, _, _, _, rfl, rfl, SqL.of f1, atI_last _ _, md0, d0, m, rfl, M0, fun H2 md d k2 nmd nd M2 => ?_⟩
      have b2 := b1.kp0 k2
      refine ⟨_, rfl, _, rfl, b, l, md, d, m, rfl, b2, M2, Nat.le_trans okm.told (by omega), Nat.lt_of_le_of_lt okm.len (by omega), okm.good, fun H3 p D k3 b3 hD hA => ?_⟩
      have M3 := M2.kpB k3 b2
      have kB3 : Kp [b] H H3 := (k1.and0 k2).trans k3
      have fmd : H md = none := k1.free _ nmd
      have fd0 : H d = none := k1.free _ nd
      have tm : m.told ≤ 100 := Nat.le_trans okm.told (by omega)
      have lm : m.es.length ≤ 1000 := Nat.le_trans okm.len (by omega)
      refine ⟨_, rfl, _, rfl, md, d, p, m, D, rfl, M3, hD, hA, tm, lm, fun m' hm H4 rr xx k4 hrr M4 => ?_, fun hm H4 rr wd xx hwd k4 hrr => ?_⟩
      · refine ⟨rr, _, _, _, rfl, rfl, SqL.of hrr, atI_nat (j := 0) rfl, ?_⟩
        have fr : ∀ a ∈ [md, d], H a = none := fun a ha => by
          rcases List.mem_cons.mp ha with rfl | ha
          · exact fmd
          · rw [List.mem_singleton.mp ha]; exact fd0
        have kB4 : Kp [b] H H4 := kB3.andN k4 (fun a ha => .inr (fr a ha))
        have S4 := S.kpB T kB4 hb hbl
        have nin : ∀ {a : Addr} {o : HO}, H a = some o → a ∉ [md, d] := fun e z => by
          have := fr _ z
          rw [this] at e
          cases e
        obtain ⟨hbx, hbe⟩ := hb.lst
        obtain ⟨hlx, _, _, _, _, hle, _⟩ := id hb
        have b4 : BagAt H4 b l := b3.kp k4 (nin hbe) (nin hle)
        obtain ⟨ms2, gs2, g1, g2, g3, g4⟩ := S4.ex
        obtain ⟨ms3, v3, rfl, g5, g6⟩ := paired_snoc g3
        dsimp only at g1 g2 g4
        refine ⟨_, rfl, rfl, _, rfl, iteT ?_⟩
        refine ⟨_, rfl, .inl ⟨rfl, _, SqL.of g1⟩, _, rfl, da, _, _, rfl, rfl, g1, ?_, ?_⟩
        · rw [List.length_append, List.length_singleton, paired_len g5]
          exact big (by omega)
        have kd : Kp [da] H4 (upd H4 da (.lst (ms3 ++ [v3] ++ [.ref md]))) := Kp.put g1 (fun _ z => by cases z)
        have g2' : upd H4 da (.lst (ms3 ++ [v3] ++ [.ref md])) ga = some (.lst gs2) := by rw [upd_ne (Ne.symm n15)]; exact g2
        refine ⟨_, rfl, .inl ⟨rfl, _, SqL.of g2'⟩, ga, gs2, rfl, rfl, g2', ?_⟩
        have kg : Kp [da, ga] H4 (upd (upd H4 da (.lst (ms3 ++ [v3] ++ [.ref md]))) ga (.lst [])) := (kd.mono (by simp)).trans ((Kp.put g2' (fun _ z => by cases z)).mono (by simp))
        have hS5 : ∀ s ∈ [da, ga], Mu CR H4 s := mu2 (mu_l g1) (mu_l g2)
        have R5 := S4.R.kp kg hS5 T.ne (by simp [x3, x4]) (by simp [n11, n12]) (by simp [n13, n14])
        dsimp only at R5
        have e5 : upd (upd H4 da (.lst (ms3 ++ [v3] ++ [.ref md]))) ga (.lst []) da = some (.lst (ms3 ++ [v3] ++ [.ref md])) := by rw [upd_ne n15, upd_same]
        have e6 : upd (upd H4 da (.lst (ms3 ++ [v3] ++ [.ref md]))) ga (.lst []) ga = some (.lst []) := upd_same
        refine ⟨_, rfl, _, rfl, x, tk, gn, 2, .ref p, rfl, n10, .inr (.inr ⟨rfl, ps, gone, m, p, D, rfl, R5, Nat.le_trans lp (by omega), tm, lm, (hD.kp k4).kp kg, (hA.kp k4).kp kg, fun m2 hm2 H6 g k6 hg R6 => ?_, fun hno => ?_⟩)⟩
        · have em : m' = m2 := Option.some.inj (hm.symm.trans hm2)
          subst em
          obtain ⟨dx5, hs5, gs5, q1, q2, _⟩ := R5.ex
          have hS6 : ∀ s ∈ [x, tk], Mu CR _ s := mu2 (mu_x q1) (mu_l q2)
          refine ⟨rfl, _, rfl, rfl, rfl, ?_⟩
          have kk : Kp [b, x, tk, gn, da, ga] H H6 := (((kB4.mono (by simp))).trans (kg.mono (by simp))).trans (k6.mono (by simp))
          have hgH : H g = none := kB4.free _ (kg.free _ hg)
          refine k _ g (ps ++ [m] ++ [m']) [] kk ((b4.kp kg (by simp [n4, n5]) (by simp [n8, n9])).kp k6 (by simp [bx, n2]) (by simp [lx, n6])) (.inr hgH) ⟨R6, k6.tups _ _ (kg.tups _ _ S4.q), ms3 ++ [v3] ++ [.ref md], [], k6.keep _ _ e5 (by simp [Ne.symm x3, Ne.symm n11]), k6.keep _ _ e6 (by simp [Ne.symm x4, Ne.symm n12]), paired_app (models_kp k6 hS6 (models_kp kg hS5 g3)) ((M4.of.kp kg hS5).kp k6 hS6), .nil⟩ ?_
          exact ⟨by simp, by show (ps ++ [m] ++ [m']).length ≤ _; simp only [List.length_append, List.length_singleton]; omega, Nat.zero_le _, fun y hy => by
            rcases List.mem_append.mp (show y ∈ ps ++ [m] ++ [m'] from hy) with z | z
            · exact (ok.op y z).mono (Nat.le_succ _)
            · rw [List.mem_singleton.mp z]; exact step_ok okm hA hm, fun y hy => by cases hy⟩
        · rw [hm] at hno
          cases hno
      · refine ⟨rr, _, _, _, rfl, rfl, SqL.of hrr, atI_nat (j := 0) rfl, ?_⟩
        have fr : ∀ a ∈ [md, d], H a = none := fun a ha => by
          rcases List.mem_cons.mp ha with rfl | ha
          · exact fmd
          · rw [List.mem_singleton.mp ha]; exact fd0
        have kB4 : Kp [b] H H4 := kB3.andN k4 (fun a ha => .inr (fr a ha))
        have S4 := S.kpB T kB4 hb hbl
        have nin : ∀ {a : Addr} {o : HO}, H a = some o → a ∉ [md, d] := fun e z => by
          have := fr _ z
          rw [this] at e
          cases e
        obtain ⟨hbx, hbe⟩ := hb.lst
        obtain ⟨hlx, _, _, _, _, hle, _⟩ := id hb
        have b4 : BagAt H4 b l := b3.kp k4 (nin hbe) (nin hle)
        have dwd : decide (V.str wd = V.str "") = false := decide_eq_false fun z => hwd (V.str.inj z)
        refine ⟨_, rfl, rfl, _, rfl, ?_⟩
        rw [dwd]
        refine iteF ?_
        refine ⟨_, rfl, _, rfl, x, tk, gn, 2, .ref p, rfl, n10, .inr (.inr ⟨rfl, ps, gone, m, p, D, rfl, S4.R, Nat.le_trans lp (by omega), tm, lm, hD.kp k4, hA.kp k4, fun m2 hm2 => ?_, fun _ H5 k5 => ?_⟩)⟩
        · rw [hm] at hm2
          cases hm2
        · refine ⟨rfl, _, rfl, rfl, ?_⟩
          rw [dwd]
          exact ⟨rfl, k _ gn _ gone ((kB4.mono (by simp)).and0 k5) (b4.kp0 k5) (.inl rfl) (S4.kp0 T k5) ok.mono⟩
end
end Pk

namespace Pk
open PySem PySem.Spec PyProof.Rows L2
/-! ### two dicts of facts are alike where their lists are -/
def entsD (es : List Ent) : List (Key × PyData) := es.map fun e => (Sum.inl e.n, fctD e.f)
theorem ent_of {K : PySem.W.Frag} {H : Hp} : ∀ {es : List Ent}, EntsAt H es → (∀ e ∈ es, Good e.f) → EntD K H (kvs es) (entsD es)
  | [], _, _ => .nil
  | e :: r, h, g => .cons ⟨rfl, (h e (by simp)).dp, by
      obtain ⟨h1, h2⟩ := fct_lay (g e (by simp))
      exact Bool.and_eq_true_iff.mpr ⟨h1, decide_eq_true (Nat.le_trans h2 (by decide))⟩⟩ (ent_of (fun x hx => h x (by simp [hx])) (fun x hx => g x (by simp [hx])))
theorem entsD_find (es : List Ent) (n : Int) : ((entsD es).find? fun e => decide (e.1 = Sum.inl n)) = (fnd es n).map fun e => (Sum.inl e.n, fctD e.f) := by
  unfold entsD fnd
  rw [List.find?_map]
  congr 1
  congr 1
  funext e
  exact keyI
theorem fnd_self {es : List Ent} (h : (nums es).Nodup) {e : Ent} (he : e ∈ es) : fnd es e.n = some e := by
  induction es with
  | nil => cases he
  | cons a r ih =>
    have h' : a.n ∉ nums r ∧ (nums r).Nodup := List.nodup_cons.mp (show (a.n :: nums r).Nodup from h)
    unfold fnd
    rcases List.mem_cons.mp he with q | q
    · rw [q, List.find?_cons, decide_eq_true rfl]
    · have ne : ¬ a.n = e.n := fun z => h'.1 (by rw [z]; exact List.mem_map.mpr ⟨e, q, rfl⟩)
      rw [List.find?_cons, decide_eq_false ne]
      exact ih h'.2 q
theorem of_self {es : List Ent} (h : (nums es).Nodup) {e : Ent} (he : e ∈ es) : fctOf es e.n = e.f := by
  unfold fctOf
  rw [fnd_self h he]
theorem hit_iff {a b : List Ent} (hb : (nums b).Nodup) (ha : (nums a).Nodup) : hitD (entsD b) (entsD a) = true ↔ ∀ n ∈ nums a, n ∈ nums b ∧ PyData.eqv (fctD (fctOf a n)) (fctD (fctOf b n)) = true := by
  unfold hitD
  rw [List.all_eq_true]
  constructor
  · intro h n hn
    obtain ⟨e, he, rfl⟩ := List.mem_map.mp (show n ∈ a.map (·.n) from hn)
    have z := h (Sum.inl e.n, fctD e.f) (List.mem_map.mpr ⟨e, he, rfl⟩)
    rw [entsD_find] at z
    cases q : fnd b e.n with
    | none => rw [q] at z; cases z
    | some e' =>
      rw [q] at z
      obtain ⟨m1, m2⟩ := fnd_mem q
      refine ⟨List.mem_map.mpr ⟨e', m1, m2⟩, ?_⟩
      rw [of_self ha he, show fctOf b e.n = e'.f from by unfold fctOf; rw [q]]
      exact z
  · intro h p hp
    obtain ⟨e, he, rfl⟩ := List.mem_map.mp (show p ∈ a.map (fun e => ((Sum.inl e.n : Key), fctD e.f)) from hp)
    obtain ⟨m1, m2⟩ := h e.n (List.mem_map.mpr ⟨e, he, rfl⟩)
    rw [entsD_find]
    obtain ⟨e', q⟩ := fnd_of_mem m1
    rw [q]
    rw [of_self ha he, show fctOf b e.n = e'.f from by unfold fctOf; rw [q]] at m2
    exact m2
theorem all_iff {f g : Int → PyData} : ∀ {xs ys : List Int}, PyData.eqvAll (xs.map fun n => .tuple [.int n, f n]) (ys.map fun n => .tuple [.int n, g n]) = true ↔ xs = ys ∧ ∀ n ∈ xs, PyData.eqv (f n) (g n) = true
  | [], [] => by simp [PyData.eqvAll]
  | [], y :: ys => by simp [PyData.eqvAll]
  | x :: xs, [] => by simp [PyData.eqvAll]
  | x :: xs, y :: ys => by
    rw [List.map_cons, List.map_cons, PyData.eqvAll, Bool.and_eq_true, all_iff]
    have e : PyData.eqv (.tuple [.int x, f x]) (.tuple [.int y, g y]) = ((x == y) && PyData.eqv (f x) (g y)) := by
      simp [PyData.eqv, PyData.eqvAll]
    rw [e, Bool.and_eq_true, beq_iff_eq]
    constructor
    · rintro ⟨⟨rfl, h1⟩, rfl, h2⟩
      refine ⟨rfl, fun n hn => ?_⟩
      rcases List.mem_cons.mp hn with rfl | q
      · exact h1
      · exact h2 n q
    · rintro ⟨h, h2⟩
      obtain ⟨rfl, rfl⟩ := List.cons.inj h
      exact ⟨⟨rfl, h2 x (by simp)⟩, rfl, fun n hn => h2 n (by simp [hn])⟩
theorem perm_of {a b : List Int} (ha : a.Nodup) (hl : a.length = b.length) (hs : ∀ n ∈ a, n ∈ b) (hb : b.Nodup) : a.Perm b := by
  refine (List.perm_ext_iff_of_nodup ha hb).mpr fun n => ⟨hs n, fun hn => ?_⟩
  by_cases c : n ∈ a
  · exact c
  · have z := List.Nodup.length_le_of_subset (l₁ := n :: a) (l₂ := b) (List.nodup_cons.mpr ⟨c, ha⟩) (fun m hm => by
      rcases List.mem_cons.mp hm with rfl | q
      · exact hn
      · exact hs m q)
    rw [List.length_cons] at z
    omega
theorem alike {a b : List Ent} (ha : (nums a).Nodup) (hb : (nums b).Nodup) : dictEq (entsD a) (entsD b) = eqFacts a b := by
  have e1 : eqFacts a b = true ↔ srt a = srt b ∧ ∀ n ∈ srt a, PyData.eqv (fctD (fctOf a n)) (fctD (fctOf b n)) = true := by
    unfold eqFacts
    rw [PyData.eqv]
    exact all_iff
  have e2 : dictEq (entsD a) (entsD b) = true ↔ (nums a).length = (nums b).length ∧ ∀ n ∈ nums a, n ∈ nums b ∧ PyData.eqv (fctD (fctOf a n)) (fctD (fctOf b n)) = true := by
    unfold dictEq
    rw [Bool.and_eq_true, hit_iff hb ha, beq_iff_eq]
    have l1 : (entsD a).length = (nums a).length := by unfold entsD nums; rw [List.length_map, List.length_map]
    have l2 : (entsD b).length = (nums b).length := by unfold entsD nums; rw [List.length_map, List.length_map]
    rw [l1, l2]
  have e3 : dictEq (entsD a) (entsD b) = true ↔ eqFacts a b = true := by
    rw [e1, e2]
    constructor
    · rintro ⟨h1, h2⟩
      have p := perm_of ha h1 (fun n hn => (h2 n hn).1) hb
      refine ⟨srt_is ((srt_perm a).trans p) (srt_sorted a), fun n hn => (h2 n ((srt_perm a).mem_iff.mp hn)).2⟩
    · rintro ⟨h1, h2⟩
      have p : (nums a).Perm (nums b) := (srt_perm a).symm.trans (by rw [h1]; exact srt_perm b)
      exact ⟨p.length_eq, fun n hn => ⟨p.mem_iff.mp hn, h2 n ((srt_perm a).mem_iff.mpr hn)⟩⟩
  cases h1 : dictEq (entsD a) (entsD b) <;> cases h2 : eqFacts a b <;> simp_all
end Pk

namespace Pk
open PySem PySem.Spec PyProof.Rows L2
/-- all the rolls, all the pasts -/
structure WAt (CH CR : Addr) (H : Hp) (rl pl : Addr) (rs : List Rs) : Prop where
  r : H rl = some (.lst (rs.map fun r => V.ref r.x))
  p : H pl = some (.lst (rs.map fun r => V.ref r.q))
  all : ∀ r ∈ rs, RsAt CH CR H r
section
variable {P : Program} {w : World} {K : PySem.W.Frag} {mg : Str → Option Value} {base : Heap} {CH CR CP CM CO CN CF dk dl : Addr}
theorem WAt.kp0 {H H' : Hp} {rl pl : Addr} {rs : List Rs} (T : Txt K mg CH CR) (k : Kp [] H H') (h : WAt CH CR H rl pl rs) : WAt CH CR H' rl pl rs :=
  ⟨k.same _ _ h.r, k.same _ _ h.p, fun r hr => (h.all r hr).kp0 T k⟩
/-- a past's last model -/
theorem RsAt.last {H : Hp} {r : Rs} {T : Nat} (S : RsAt CH CR H r) (ok : RsOk T r) : ∃ ps m ms md d, r.past = ps ++ [m] ∧ H r.da = some (.lst (ms ++ [.ref md])) ∧ ms.length = ps.length ∧ MdAt H md d m ∧ MoOk T m := by
  obtain ⟨ps, m, e⟩ : ∃ ps m, r.past = ps ++ [m] := by
    rcases List.eq_nil_or_concat r.past with e | ⟨ps, m, e⟩
    · exact absurd e ok.ne
    · exact ⟨ps, m, by simpa using e⟩
  obtain ⟨ms, gs, f1, f2, f3, f4⟩ := S.ex
  rw [e] at f3
  obtain ⟨ms', v, rfl, f5, f6⟩ := paired_snoc f3
  obtain ⟨md, d, rfl, M⟩ := model_md f6
  exact ⟨ps, m, ms', md, d, e, f1, paired_len f5, M, ok.op m (by rw [e]; simp)⟩
theorem map_at {α : Type} {rs : List Rs} {f : Rs → α} {i : Nat} {r : Rs} (h : rs[i]? = some r) : (rs.map f)[i]? = some (f r) := by
  rw [List.getElem?_map, h]
  rfl
def spAll (CH CR : Addr) : Sp := fun vs H Q _ => ∃ (rl pl : Addr) (rs : List Rs) (T : Nat), vs = [.ref rl, .ref pl] ∧ WAt CH CR H rl pl rs ∧ (∀ r ∈ rs, RsOk T r) ∧ T ≤ 60 ∧ rs.length ≤ 10 ∧ ∀ H', Kp [] H H' → Q (.bl true) H'
theorem ok_all {f : Addr} {fd : FuncData} (F : Fun K "_law_all_stand" "_law_all_stand" sAll f fd) (T : Txt K mg CH CR) (IS : Isi K CR) (hne : PySem.W.findIn K (.ref CR) "__ne__" = some (some (.builtin "object.__ne__")))
    (GS : Has P w K mg base CX0 7 "_law_roll_stands" pStands (spStands CH CR)) (GL : Has P w K mg base CX0 6 "_law_like" pLike (spLike K 6)) (GE : HasM P w K mg base CX0 2 CR "__eq__" pREq (spREq CH CR)) :
    FnOk P w K mg base CX0 8 f fd pAll (spAll CH CR) := by
  obtain ⟨fs, fds, mS, kS, bS, Gs⟩ := GS
  obtain ⟨fl, fdl, mL, kL, bL, Gl⟩ := GL
  obtain ⟨fe, fde, Me, be, Ge⟩ := GE
  refine F.ok scAll (fun vs H Q E h => ?_) (fun cdv A outer s H vs Q E hr h => ?_)
  · obtain ⟨rl, pl, rs, TT, rfl, _⟩ := h
    rfl
  · obtain ⟨rl, pl, rs, TT, rfl, W, ok, hT, hl, k⟩ := h
    have hr6 : Room 6 _ := hr.mono (by decide)
    have hr2 : Room 2 _ := hr.mono (by decide)
    have hr3 : Room 3 _ := hr.mono (by decide)
    have hu := hu_of hr
    have hu70 : (A.deeper (envOfC (Str.ofString "_law_all_stand") (defScope sAll) s.heap.objs.size f cdv)).units + 70 < cLine := by have := hr.un; omega
    refine ⟨_, pss_cons (ps_for PassesOwn.never rfl (pi_range1 (by rfl) T.range (pa_cons (pe_callB call_len_seq (by rfl) T.len PySem.boot_len (pa_cons (pv 0) pa_nil)) pa_nil)) (pg_name (i := 2) scAll.nd rfl (Or.inl rfl))
        (pss_cons (ps_if (pt_not (pt_val (pe_call Gs hr rfl mS kS bS .nil pass0 (pa_cons (pe_ix ix_list (pv 0) (pv 2) (fun _ _ => rfl)) (pa_cons (pe_ix ix_list (pe_ix ix_tup (pe_ix ix_list (pv 1) (pv 2) (fun _ _ => rfl)) pe_int (fun _ _ => rfl)) (pe_un un_neg pe_int) (fun _ _ => rfl))
          (pa_cons (pe_op op_sub (pe_callB call_len_seq (by rfl) T.len PySem.boot_len (pa_cons (pe_ix ix_tup (pe_ix ix_list (pv 1) (pv 2) (fun _ _ => rfl)) pe_int (fun _ _ => rfl)) pa_nil)) pe_int) pa_nil)))))) (pss_one ps_never) pss_nil)
        (pss_one (ps_for PassesOwn.never rfl (pi_range1 (by rfl) T.range (pa_cons (pe_callB call_len_seq (by rfl) T.len PySem.boot_len (pa_cons (pv 0) pa_nil)) pa_nil)) (pg_name (i := 3) scAll.nd rfl (Or.inl rfl))
          (pss_cons (ps_set (i := 4) scAll.nd rfl (Or.inl rfl) (pe_cmpR (op_eqK hu70) (pe_dget hu (pe_ix ix_list (pe_ix ix_tup (pe_ix ix_list (pv 1) (pv 2) (fun _ _ => rfl)) pe_int (fun _ _ => rfl)) (pe_un un_neg pe_int) (fun _ _ => rfl)) pe_str (fun _ _ => rfl))
            (pe_dget hu (pe_ix ix_list (pe_ix ix_tup (pe_ix ix_list (pv 1) (pv 3) (fun _ _ => rfl)) pe_int (fun _ _ => rfl)) (pe_un un_neg pe_int) (fun _ _ => rfl)) pe_str (fun _ _ => rfl)) (nomark _)))
          (pss_one (ps_if (PW.pt (pw_or (pt_not (pt_val (pe_call Gl hr6 rfl mL kL bL .nil pass0 (pa_cons (pe_cmpR (op_ownEq (C := CR) Ge hr2 be Me.at_ Me.fn) (pe_ix ix_list (pv 0) (pv 2) (fun _ _ => rfl)) (pe_ix ix_list (pv 0) (pv 3) (fun _ _ => rfl)) (nomark _)) (pa_cons (pv 4) pa_nil)))))
            (pw_or1 (pt_not (pt_val (pe_call Gl hr6 rfl mL kL bL .nil pass0 (pa_cons (pe_cmpR (op_ownNe (C := CR) Ge hr3 be Me.at_ Me.fn hne IS.ins.hm) (pe_ix ix_list (pv 0) (pv 2) (fun _ _ => rfl)) (pe_ix ix_list (pv 0) (pv 3) (fun _ _ => rfl)) (nomark _)) (pa_cons (pe_not (pv 4)) pa_nil)))))))) (pss_one ps_never) pss_nil)))))))
      (pss_one (ps_ret pe_bl)), ?_⟩
    refine ⟨_, rfl, rl, _, rfl, .inl (SqL.of W.r), _, rfl, ?_, ?_, ?_⟩
    · rw [List.length_map]; omega
    · rw [List.length_map]; omega
    rw [Int.toNat_natCast, List.length_map]
    refine for_range (n := rs.length) (lo := 0) (fun i σ H' => Kp [] H H' ∧ ∃ v2 v3 v4, σ = [some (.ref rl), some (.ref pl), v2, v3, v4]) ⟨Kp.refl _ _, _, _, _, rfl⟩ (fun i σ H1 hi qq => ?_) (fun σ H1 qq => ?_)
    · obtain ⟨k1, v2, v3, v4, rfl⟩ := qq
      have W1 := W.kp0 T k1
      rw [show ((0 : Int) + (i : Int)) = (i : Int) from Int.zero_add _]
      obtain ⟨r, hri⟩ : ∃ r, rs[i]? = some r := ⟨_, List.getElem?_eq_getElem hi⟩
      have hrm := List.mem_of_getElem? hri
      have okr := ok r hrm
      obtain ⟨ps, m, ms, md, d, ep, eda, elen, M, okm⟩ := (W1.all r hrm).last okr
      have aR : ∀ {H2 : Hp}, Kp [] H1 H2 → atI (rs.map fun r => V.ref r.x) (i : Int) = some (.ref r.x) := fun _ => atI_nat (map_at hri)
      have aP : atI (rs.map fun r => V.ref r.q) (i : Int) = some (.ref r.q) := atI_nat (map_at hri)
      have S1 := W1.all r hrm
      have RR := S1.R
      rw [ep] at RR
      refine ⟨_, rfl, _, rfl, rl, _, _, _, rfl, rfl, SqL.of W1.r, atI_nat (map_at hri), ?_⟩
      refine ⟨_, rfl, _, rfl, pl, _, _, _, rfl, rfl, SqL.of W1.p, aP, r.q, _, _, _, rfl, rfl, SqT.of S1.q, atI_nat (j := 0) rfl, _, rfl, r.da, _, _, _, rfl, rfl, SqL.of eda, atI_last _ _, ?_⟩
      refine ⟨_, rfl, _, rfl, pl, _, _, _, rfl, rfl, SqL.of W1.p, aP, r.q, _, _, _, rfl, rfl, SqT.of S1.q, atI_nat (j := 0) rfl, r.da, _, rfl, .inl (SqL.of eda), _, _, rfl, rfl, ?_⟩
      have el : (((ms ++ [V.ref md]).length : Nat) : Int) - 1 = (ps.length : Int) := by rw [List.length_append, List.length_singleton, elen]; omega
      refine ⟨r.x, r.tk, r.gn, md, d, ps, r.gone, m, (by show [V.ref r.x, V.ref md, V.int ((((ms ++ [V.ref md]).length : Nat) : Int) - 1)] = _; rw [el]), RR, M, Nat.lt_of_le_of_lt okm.len (by omega), okm.good, fun H2 k2 => ⟨_, rfl, iteF ?_⟩⟩
      have k12 := k1.trans k2
      have W2 := W.kp0 T k12
      refine ⟨_, rfl, rl, _, rfl, .inl (SqL.of W2.r), _, rfl, ?_, ?_, ?_⟩
      · rw [List.length_map]; omega
      · rw [List.length_map]; omega
      rw [Int.toNat_natCast, List.length_map]
      refine for_range (n := rs.length) (lo := 0) (fun j σ H' => Kp [] H H' ∧ ∃ v3 v4, σ = [some (.ref rl), some (.ref pl), some (.int i), v3, v4]) ⟨k12, _, _, rfl⟩ (fun j σ H3 hj qq => ?_) (fun σ H3 qq => ?_)
      · obtain ⟨k3, v3, v4, rfl⟩ := qq
        rw [show ((0 : Int) + (j : Int)) = (j : Int) from Int.zero_add _]
        have W3 := W.kp0 T k3
        obtain ⟨r', hrj⟩ : ∃ r, rs[j]? = some r := ⟨_, List.getElem?_eq_getElem hj⟩
        have hrm' := List.mem_of_getElem? hrj
        have okr' := ok r' hrm'
        have S3 := W3.all r hrm
        have S3' := W3.all r' hrm'
        obtain ⟨ps1, m1, ms1, md1, d1, ep1, eda1, _, M1, okm1⟩ := S3.last okr
        obtain ⟨ps2, m2, ms2, md2, d2, ep2, eda2, _, M2, okm2⟩ := S3'.last okr'
        have R1 := S3.R
        rw [ep1] at R1
        have R2 := S3'.R
        rw [ep2] at R2
        obtain ⟨dx1, hs1, gs1, x1, _⟩ := R1.ex
        obtain ⟨dx2, hs2, gs2, x2, _⟩ := R2.ex
        have l1 : m1.es.length < 64 := Nat.lt_of_le_of_lt okm1.len (by omega)
        have l2 : m2.es.length < 64 := Nat.lt_of_le_of_lt okm2.len (by omega)
        refine ⟨_, rfl, _, rfl, pl, _, _, _, rfl, rfl, SqL.of W3.p, aP, r.q, _, _, _, rfl, rfl, SqT.of S3.q, atI_nat (j := 0) rfl, _, rfl, r.da, _, _, _, rfl, rfl, SqL.of eda1, atI_last _ _, md1, _, rfl, M1.gF, ?_⟩
        refine ⟨_, rfl, _, rfl, pl, _, _, _, rfl, rfl, SqL.of W3.p, atI_nat (map_at hrj), r'.q, _, _, _, rfl, rfl, SqT.of S3'.q, atI_nat (j := 0) rfl, _, rfl, r'.da, _, _, _, rfl, rfl, SqL.of eda2, atI_last _ _, md2, _, rfl, M2.gF, ?_⟩
        refine ⟨d1, d2, _, _, _, _, rfl, rfl, M1.2.1, M2.2.1, ent_of M1.2.2 okm1.good, ent_of M2.2.2 okm2.good, ?_⟩
        rw [alike okm1.nd okm2.nd]
        generalize hbb : eqFacts m1.es m2.es = bb
        refine ⟨_, rfl, _, rfl, rl, _, _, _, rfl, rfl, SqL.of W3.r, atI_nat (map_at hri), _, rfl, _, rfl, rl, _, _, _, rfl, rfl, SqL.of W3.r, atI_nat (map_at hrj), ?_⟩
        refine ⟨r.x, dx1, _, _, rfl, x1, .ins x2, r.x, r.tk, r.gn, ps1, r.gone, m1, .ref r'.x, rfl, R1, l1, okm1.good, .inl ⟨r'.x, r'.tk, r'.gn, ps2, r'.gone, m2, rfl, R2, l2, okm2.good, fun H4 k4 => ⟨_, rfl, ?_⟩⟩⟩
        rw [hbb]
        refine ⟨_, rfl, _, _, .bool bb, rfl, .bl bb, .bl bb, lay_b _, sz_b _, dep_b _, by decide, fun H5 k5 => ⟨_, rfl, iteF ?_⟩⟩
        have k35 := k3.trans (k4.trans k5)
        have W5 := W.kp0 T k35
        have k45 := k4.trans k5
        refine ⟨_, rfl, _, rfl, rl, _, _, _, rfl, rfl, SqL.of W5.r, atI_nat (map_at hri), _, rfl, _, rfl, rl, _, _, _, rfl, rfl, SqL.of W5.r, atI_nat (map_at hrj), ?_⟩
        refine ⟨r.x, dx1, _, _, rfl, k45.same _ _ x1, .ins (k45.same _ _ x2), r.x, r.tk, r.gn, ps1, r.gone, m1, .ref r'.x, rfl, R1.kp0 T k45, l1, okm1.good, .inl ⟨r'.x, r'.tk, r'.gn, ps2, r'.gone, m2, rfl, R2.kp0 T k45, l2, okm2.good, fun H6 k6 => ⟨_, rfl, ?_⟩⟩⟩
        rw [hbb]
        refine ⟨_, rfl, _, rfl, _, _, .bool (!bb), rfl, .bl (!bb), .bl (!bb), lay_b _, sz_b _, dep_b _, by decide, fun H7 k7 => ⟨_, rfl, iteF ?_⟩⟩
        exact ⟨k35.trans (k6.trans k7), _, _, rfl⟩
      · obtain ⟨k3, v3, v4, rfl⟩ := qq
        exact ⟨k3, _, _, _, rfl⟩
    · obtain ⟨k1, v2, v3, v4, rfl⟩ := qq
      exact k _ k1
end
end Pk

namespace Pk
open PySem PySem.Spec PyProof.Rows L2
/-! ### the text of a list of facts -/
structure Shw (n : Nat) (d : PyData) : Prop where
  s : d.showable = true
  l : d.leavesShort 13 = true
  b : d.bulk ≤ n
theorem shw_int {i : Int} (h0 : 0 ≤ i) (h1 : i < 10000000) : Shw 0 (.int i) := by
  refine ⟨?_, ?_, ?_⟩
  · rw [PyData.showable]
    refine decide_eq_true ?_
    have z : i.natAbs < 2 ^ 24 := by omega
    by_cases c : i.natAbs = 0
    · rw [c]; decide
    · exact Nat.lt_trans ((Nat.log2_lt c).mpr z) (by decide)
  · rw [PyData.leavesShort]
    refine decide_eq_true ?_
    rw [PyData.shown]
    exact Nat.le_trans (toString_length_le h0 (by decide : 0 < 7) h1) (by decide)
  · rw [PyData.bulk]
    exact Nat.le_refl _
theorem shw_ints : ∀ {gs : List Int}, (∀ i ∈ gs, 0 ≤ i ∧ i < 10000000) → PyData.showableAll (gs.map PyData.int) = true ∧ PyData.leavesShortAll 13 (gs.map PyData.int) = true ∧ PyData.bulkAll (gs.map PyData.int) ≤ gs.length
  | [], _ => ⟨by rw [List.map_nil, PyData.showableAll], by rw [List.map_nil, PyData.leavesShortAll], by rw [List.map_nil, PyData.bulkAll]; exact Nat.le_refl _⟩
  | i :: r, h => by
    obtain ⟨h1, h2, h3⟩ := shw_ints (gs := r) fun x hx => h x (by simp [hx])
    obtain ⟨a, b, c⟩ := shw_int (h i (by simp)).1 (h i (by simp)).2
    refine ⟨?_, ?_, ?_⟩
    · rw [List.map_cons, PyData.showableAll, a, h1]; rfl
    · rw [List.map_cons, PyData.leavesShortAll, b, h2]; rfl
    · rw [List.map_cons, PyData.bulkAll, List.length_cons]; omega
theorem good_in {gs : List Int} (h : GoodG gs) : ∀ i ∈ gs, 0 ≤ i ∧ i < 10000000 := fun i hi => by
  rw [h] at hi
  obtain ⟨j, hj, rfl⟩ := List.mem_map.mp (List.mem_filter.mp hi).1
  have z := List.mem_range.mp hj
  exact ⟨Int.natCast_nonneg _, by show (j : Int) < 10000000; omega⟩
theorem kd_hi (k : Kd) : 0 ≤ k.lo ∧ k.hi ≤ 100000 := by cases k <;> decide
theorem shw_th {k : Kd} {t : Th} (h : GoodT k t) : Shw 8 (thD t) := by
  cases t with
  | n i =>
    have z : k.lo ≤ i ∧ i ≤ k.hi := by
      by_cases hk : k = .gates
      · subst hk
        obtain ⟨g, e, _⟩ := good_g h
        cases e
      · obtain ⟨j, e, h1, h2⟩ := good_num h hk
        cases e
        exact ⟨h1, h2⟩
    have q := kd_hi k
    obtain ⟨a, b, c⟩ := shw_int (i := i) (by omega) (by omega)
    exact ⟨a, b, Nat.le_trans c (Nat.zero_le _)⟩
  | g gs =>
    have hg : GoodG gs := by
      by_cases hk : k = .gates
      · subst hk
        obtain ⟨g2, e, hg⟩ := good_g h
        cases e
        exact hg
      · obtain ⟨i, e, _⟩ := good_num h hk
        cases e
    obtain ⟨h1, h2, h3⟩ := shw_ints (good_in hg)
    refine ⟨?_, ?_, ?_⟩
    · show PyData.showable (.tuple _) = true
      rw [PyData.showable]; exact h1
    · show PyData.leavesShort 13 (.tuple _) = true
      rw [PyData.leavesShort]; exact h2
    · show PyData.bulk (.tuple _) ≤ 8
      rw [PyData.bulk]
      exact Nat.le_trans h3 (good_len hg)
theorem shw_ths : ∀ {ks : List Kd} {ts : List Th}, Paired GoodT ks ts → PyData.showableAll (ts.map thD) = true ∧ PyData.leavesShortAll 13 (ts.map thD) = true ∧ PyData.bulkAll (ts.map thD) ≤ 9 * ks.length
  | [], _, h => by
    cases h
    exact ⟨by rw [List.map_nil, PyData.showableAll], by rw [List.map_nil, PyData.leavesShortAll], by rw [List.map_nil, PyData.bulkAll]; exact Nat.zero_le _⟩
  | k :: ks, _, h => by
    cases h with
    | cons q r =>
      obtain ⟨h1, h2, h3⟩ := shw_ths r
      obtain ⟨a, b, c⟩ := shw_th q
      refine ⟨?_, ?_, ?_⟩
      · rw [List.map_cons, PyData.showableAll, a, h1]; rfl
      · rw [List.map_cons, PyData.leavesShortAll, b, h2]; rfl
      · rw [List.map_cons, PyData.bulkAll, List.length_cons]; omega
theorem shw_word {w' : Str} {ks : List Kd} (h : (w', ks) ∈ kindsTab) : (PyData.str w').leavesShort 13 = true ∧ (PyData.str w').bulk ≤ 10 := by
  unfold kindsTab at h
  simp only [List.mem_cons, Prod.mk.injEq, List.not_mem_nil, or_false] at h
  rcases h with ⟨rfl, _⟩ | ⟨rfl, _⟩ | ⟨rfl, _⟩ | ⟨rfl, _⟩ | ⟨rfl, _⟩ | ⟨rfl, _⟩ | ⟨rfl, _⟩ | ⟨rfl, _⟩ <;> exact ⟨by decide +kernel, by decide +kernel⟩
theorem shw_fct {f : Fct} (h : Good f) : Shw 100 (fctD f) := by
  obtain ⟨ks, hk, hp⟩ := h
  obtain ⟨h1, h2, h3⟩ := shw_ths hp
  obtain ⟨w1, w2⟩ := shw_word hk
  have l5 := (kinds_len hk).2
  unfold fctD
  refine ⟨?_, ?_, ?_⟩
  · rw [PyData.showable, PyData.showableAll, PyData.showable, h1]; rfl
  · rw [PyData.leavesShort, PyData.leavesShortAll, w1, h2]; rfl
  · rw [PyData.bulk, PyData.bulkAll]; omega
theorem shw_of {es : List Ent} (h : ∀ e ∈ es, Good e.f) (n : Int) : Shw 100 (fctD (fctOf es n)) := by
  unfold fctOf
  cases q : fnd es n with
  | none => exact ⟨by decide +kernel, by decide +kernel, by decide +kernel⟩
  | some e => exact shw_fct (h e (fnd_mem q).1)
theorem shw_rows {es : List Ent} (h : ∀ e ∈ es, Good e.f) : ∀ {ns : List Int}, (∀ i ∈ ns, 0 ≤ i ∧ i < 10000000) → PyData.showableAll (ns.map fun n => .tuple [.int n, fctD (fctOf es n)]) = true ∧ PyData.leavesShortAll 13 (ns.map fun n => .tuple [.int n, fctD (fctOf es n)]) = true ∧
    PyData.bulkAll (ns.map fun n => .tuple [.int n, fctD (fctOf es n)]) ≤ 103 * ns.length
  | [], _ => ⟨by rw [List.map_nil, PyData.showableAll], by rw [List.map_nil, PyData.leavesShortAll], by rw [List.map_nil, PyData.bulkAll]; exact Nat.zero_le _⟩
  | n :: r, hn => by
    obtain ⟨h1, h2, h3⟩ := shw_rows h (ns := r) fun x hx => hn x (by simp [hx])
    obtain ⟨a, b, c⟩ := shw_int (hn n (by simp)).1 (hn n (by simp)).2
    obtain ⟨a2, b2, c2⟩ := shw_of h n
    refine ⟨?_, ?_, ?_⟩
    · rw [List.map_cons, PyData.showableAll, PyData.showable, PyData.showableAll, PyData.showableAll, PyData.showableAll, a, a2, h1]; rfl
    · rw [List.map_cons, PyData.leavesShortAll, PyData.leavesShort, PyData.leavesShortAll, PyData.leavesShortAll, PyData.leavesShortAll, b, b2, h2]; rfl
    · rw [List.map_cons, PyData.bulkAll, PyData.bulk, PyData.bulkAll, PyData.bulkAll, PyData.bulkAll, List.length_cons]; omega
theorem rep_facts {es : List Ent} {T : Nat} (h : ∀ e ∈ es, Good e.f) (hn : ∀ e ∈ es, 0 ≤ e.n ∧ e.n ≤ (T : Int)) (hT : T ≤ 1000) (hl : es.length < 64) :
    (PyData.list (factsD es)).showable = true ∧ (PyData.list (factsD es)).hasDict = false ∧ (PyData.list (factsD es)).depth ≤ 8 ∧ (PyData.list (factsD es)).shown.length ≤ sizeLine := by
  have hb : ∀ i ∈ srt es, 0 ≤ i ∧ i < 10000000 := fun i hi => by
    obtain ⟨e, he, rfl⟩ := List.mem_map.mp (show i ∈ es.map (·.n) from (srt_perm es).mem_iff.mp hi)
    have z := hn e he
    omega
  obtain ⟨h1, h2, h3⟩ := shw_rows h hb
  have ll : (srt es).length < 64 := by
    rw [(srt_perm es).length_eq, show (nums es).length = es.length from List.length_map ..]
    exact hl
  refine ⟨?_, PyData.hasDict_of_canLay _ (lay_facts h), Nat.le_trans (Nat.le_of_lt (dep_facts h)) (by decide), PyData.shown_fits_bulk (B := 13) (by decide) (by decide) ?_ ?_⟩
  · rw [PyData.showable]; exact h1
  · rw [PyData.leavesShort]; exact h2
  · rw [PyData.bulk]
    exact Nat.le_trans h3 (by omega)
end Pk

namespace Pk
open PySem PySem.Spec PyProof.Rows L2
/-- two rolls share nothing that changes -/
def Apart (r r' : Rs) : Prop := r.x ≠ r'.x ∧ ∀ a ∈ r.ls, a ∉ r'.ls
theorem Apart.symm {r r' : Rs} (h : Apart r r') : Apart r' r := ⟨h.1.symm, fun a ha hb => h.2 a hb ha⟩
structure LW (CH CR : Addr) (H : Hp) (b l rl pl : Addr) (T : Nat) (rs : List Rs) : Prop where
  bag : BagAt H b l
  W : WAt CH CR H rl pl rs
  ok : ∀ r ∈ rs, RsOk T r
  n0 : List.Nodup [b, l, rl, pl]
  nr : ∀ r ∈ rs, List.Nodup (b :: l :: rl :: pl :: r.ls)
  pw : rs.Pairwise Apart
section
variable {P : Program} {w : World} {K : PySem.W.Frag} {mg : Str → Option Value} {base : Heap} {CH CR CP CM CO CN CF dk dl : Addr} {H H' : Hp} {b l rl pl : Addr} {T : Nat} {rs : List Rs}
theorem LW.kp0 (TX : Txt K mg CH CR) (k : Kp [] H H') (h : LW CH CR H b l rl pl T rs) : LW CH CR H' b l rl pl T rs := ⟨h.bag.kp0 k, h.W.kp0 TX k, h.ok, h.n0, h.nr, h.pw⟩
theorem LW.mono (h : LW CH CR H b l rl pl T rs) : LW CH CR H b l rl pl (T + 1) rs := ⟨h.bag, h.W, fun r hr => (h.ok r hr).mono, h.n0, h.nr, h.pw⟩
theorem LW.kpB (TX : Txt K mg CH CR) (k : Kp [b] H H') (hb : BagAt H' b l) (h : LW CH CR H b l rl pl T rs) : LW CH CR H' b l rl pl T rs := by
  have n0 := h.n0
  simp only [List.nodup_cons, List.mem_cons, List.not_mem_nil, or_false, not_or, List.nodup_nil, and_true, not_false_eq_true] at n0
  obtain ⟨⟨n1, n2, n3⟩, _⟩ := n0
  refine ⟨hb, ⟨k.keep _ _ h.W.r (by simp [Ne.symm n2]), k.keep _ _ h.W.p (by simp [Ne.symm n3]), fun r hr => (h.W.all r hr).kpB TX k h.bag (fun z => ?_)⟩, h.ok, h.n0, h.nr, h.pw⟩
  have q := h.nr r hr
  have q1 := (List.nodup_cons.mp q).1
  exact q1 (by simp [z])
/-- an instance is no list -/
theorem LW.xl {r r' : Rs} (S : RsAt CH CR H r) (S' : RsAt CH CR H r') : r.x ∉ r'.ls := fun z => by
  obtain ⟨dx, hs, gs, e1, _⟩ := S.R.ex
  obtain ⟨dx', hs', gs', _, e2, e3, _⟩ := S'.R.ex
  obtain ⟨ms, gs', f1, f2, _⟩ := S'.ex
  simp only [Rs.ls, List.mem_cons, List.not_mem_nil, or_false] at z
  rcases z with z | z | z | z <;> (rw [z] at e1; first | (rw [e2] at e1; cases e1) | (rw [e3] at e1; cases e1) | (rw [f1] at e1; cases e1) | (rw [f2] at e1; cases e1))
theorem nin {a : Addr} {xs : List Addr} (h : ∀ c ∈ xs, a ≠ c) : a ∉ xs := fun z => h a z rfl
/-- behind a turn in one of them -/
theorem LW.turn (TX : Txt K mg CH CR) {as bs : List Rs} {r : Rs} {g : Addr} {past gone : List Mo} (h : LW CH CR H b l rl pl T (as ++ r :: bs)) (k : Kp [b, r.x, r.tk, r.gn, r.da, r.ga] H H') (hb : BagAt H' b l) (hg : g = r.gn ∨ H g = none)
    (S : RsAt CH CR H' { r with gn := g, past := past, gone := gone }) (ok : RsOk (T + 1) { r with gn := g, past := past, gone := gone }) : LW CH CR H' b l rl pl (T + 1) (as ++ { r with gn := g, past := past, gone := gone } :: bs) := by
  have hr : r ∈ as ++ r :: bs := by simp
  have Sr := h.W.all r hr
  have nr := h.nr r hr
  obtain ⟨dx, hs, gs, ex, _⟩ := Sr.R.ex
  obtain ⟨bx, be⟩ := h.bag.lst
  obtain ⟨cs, ci, cv, cz, le1, le, _⟩ := id h.bag
  have hlst : ∀ {a : Addr} {xs : List V}, H a = some (.lst xs) → a ≠ r.x := fun e z => by rw [z, ex] at e; cases e
  have n0 := h.n0
  simp only [Rs.ls, List.nodup_cons, List.mem_cons, List.not_mem_nil, or_false, not_or, List.nodup_nil, and_true, not_false_eq_true] at nr n0
  obtain ⟨⟨a1, a2, a3, a4, a5, a6, a7⟩, ⟨b1, b2, b3, b4, b5, b6⟩, ⟨c1, c2, c3, c4, c5⟩, ⟨d1, d2, d3, d4⟩, ⟨e1, e2, e3⟩, ⟨f1, f2⟩, f3⟩ := nr
  have pww := List.pairwise_append.mp h.pw
  obtain ⟨pw1, pw2, pw3⟩ := pww
  obtain ⟨pw4, pw5⟩ := List.pairwise_cons.mp pw2
  have others : ∀ r' ∈ as ++ bs, r' ∈ as ++ r :: bs ∧ Apart r r' := fun r' hr' => by
    rcases List.mem_append.mp hr' with q | q
    · exact ⟨by simp [q], (pw3 r' q r (by simp)).symm⟩
    · exact ⟨by simp [q], pw4 r' q⟩
  have hS : ∀ s ∈ [b, r.x, r.tk, r.gn, r.da, r.ga], Mu CR H s := fun s hs => by
    obtain ⟨m1, m2⟩ := Sr.mu
    simp only [List.mem_cons, List.not_mem_nil, or_false] at hs
    rcases hs with rfl | rfl | rfl | rfl | rfl | rfl
    · exact mu_l be
    · exact m1
    · exact m2 _ (by simp [Rs.ls])
    · exact m2 _ (by simp [Rs.ls])
    · exact m2 _ (by simp [Rs.ls])
    · exact m2 _ (by simp [Rs.ls])
  have keep : ∀ r' ∈ as ++ bs, RsAt CH CR H' r' := fun r' hr' => by
    obtain ⟨q1, q2, q3⟩ := others r' hr'
    have S' := h.W.all r' q1
    have x1 := LW.xl S' Sr
    have x2 := LW.xl Sr S'
    have nb := h.nr r' q1
    have nb1 : b ∉ r'.ls := fun z => (List.nodup_cons.mp nb).1 (by simp [z])
    obtain ⟨dx', hs', gs', ex', _⟩ := S'.R.ex
    refine S'.kp TX k hS (fun z => ?_) (fun a ha z => ?_)
    · simp only [List.mem_cons, List.not_mem_nil, or_false] at z
      rcases z with z | z | z
      · rw [z, be] at ex'; cases ex'
      · exact q2 z.symm
      · exact x1 (by simpa [Rs.ls] using z)
    · simp only [List.mem_cons, List.not_mem_nil, or_false] at z
      rcases z with z | z | z
      · exact nb1 (z ▸ ha)
      · exact x2 (z ▸ ha)
      · exact q3 a (by simpa [Rs.ls] using z) ha
  have gfresh : ∀ {a : Addr} {o : HO}, H a = some o → a ≠ r.gn → a ≠ g := fun e n z => by
    rcases hg with q | q
    · exact n (z.trans q)
    · rw [z, q] at e; cases e
  obtain ⟨_, hs2, gs2, _, t1, t2, _⟩ := Sr.R.ex
  obtain ⟨ms2, gs3, t3, t4, _⟩ := Sr.ex
  have ap : ∀ r' ∈ as ++ bs, Apart { r with gn := g, past := past, gone := gone } r' := fun r' hr' => by
    obtain ⟨q1, q2, q3⟩ := others r' hr'
    have S' := h.W.all r' q1
    refine ⟨q2, fun a ha => ?_⟩
    simp only [Rs.ls, List.mem_cons, List.not_mem_nil, or_false] at ha
    rcases ha with rfl | rfl | rfl | rfl
    · exact q3 _ (by simp [Rs.ls])
    · intro z
      rcases hg with q | q
      · exact q3 _ (by simp [Rs.ls]) (q ▸ z)
      · obtain ⟨m1, m2⟩ := S'.mu
        obtain ⟨_, _, _, _, u1, u2, _⟩ := S'.R.ex
        obtain ⟨_, _, u3, u4, _⟩ := S'.ex
        simp only [Rs.ls, List.mem_cons, List.not_mem_nil, or_false] at z
        rcases z with z | z | z | z
        · rw [← z, q] at u1; cases u1
        · rw [← z, q] at u2; cases u2
        · rw [← z, q] at u3; cases u3
        · rw [← z, q] at u4; cases u4
    · exact q3 _ (by simp [Rs.ls])
    · exact q3 _ (by simp [Rs.ls])
  refine ⟨hb, ⟨?_, ?_, fun r' hr' => ?_⟩, fun r' hr' => ?_, h.n0, fun r' hr' => ?_, ?_⟩
  · have z := k.keep _ _ h.W.r (by simp [Ne.symm a2, c2, c3, c4, c5, hlst h.W.r])
    rw [z]
    simp
  · have z := k.keep _ _ h.W.p (by simp [Ne.symm a3, d1, d2, d3, d4, hlst h.W.p])
    rw [z]
    simp
  · rcases List.mem_append.mp hr' with q | q
    · exact keep r' (by simp [q])
    · rcases List.mem_cons.mp q with rfl | q
      · exact S
      · exact keep r' (by simp [q])
  · rcases List.mem_append.mp hr' with q | q
    · exact (h.ok r' (by simp [q])).mono
    · rcases List.mem_cons.mp q with rfl | q
      · exact ok
      · exact (h.ok r' (by simp [q])).mono
  · rcases List.mem_append.mp hr' with q | q
    · exact h.nr r' (by simp [q])
    · rcases List.mem_cons.mp q with rfl | q
      · simp only [Rs.ls, List.nodup_cons, List.mem_cons, List.not_mem_nil, or_false, not_or, List.nodup_nil, and_true, not_false_eq_true]
        exact ⟨⟨a1, a2, a3, a4, gfresh be a5, a6, a7⟩, ⟨b1, b2, b3, gfresh le b4, b5, b6⟩, ⟨c1, c2, gfresh h.W.r c3, c4, c5⟩, ⟨d1, gfresh h.W.p d2, d3, d4⟩, ⟨gfresh t1 e1, e2, e3⟩, ⟨Ne.symm (gfresh t3 (Ne.symm f1)), Ne.symm (gfresh t4 (Ne.symm f2))⟩, f3⟩
      · exact h.nr r' (by simp [q])
  · refine List.pairwise_append.mpr ⟨pw1, List.pairwise_cons.mpr ⟨fun r' hr' => ap r' (by simp [hr']), pw5⟩, fun a ha c hc => ?_⟩
    rcases List.mem_cons.mp hc with rfl | hc
    · exact (ap a (by simp [ha])).symm
    · exact pw3 a ha c (by simp [hc])
end
end Pk

namespace Pk
open PySem PySem.Spec PyProof.Rows L2
section
variable {P : Program} {w : World} {K : PySem.W.Frag} {mg : Str → Option Value} {base : Heap} {CH CR CP CM CO CN CF dk dl : Addr} {H H' : Hp} {b l rl pl : Addr} {T : Nat} {rs : List Rs}
/-- the two lists of rolls and pasts change -/
theorem LW.sub (TX : Txt K mg CH CR) (h : LW CH CR H b l rl pl T rs) (k : Kp [rl, pl] H H') : BagAt H' b l ∧ ∀ r ∈ rs, RsAt CH CR H' r := by
  have n0 := h.n0
  simp only [List.nodup_cons, List.mem_cons, List.not_mem_nil, or_false, not_or, List.nodup_nil, and_true, not_false_eq_true] at n0
  obtain ⟨⟨n1, n2, n3⟩, ⟨n4, n5⟩, n6⟩ := n0
  refine ⟨h.bag.kp k (by simp [n2, n3]) (by simp [n4, n5]), fun r hr => ?_⟩
  have S := h.W.all r hr
  have nr := h.nr r hr
  obtain ⟨dx, hs, gs, ex, _⟩ := S.R.ex
  have q1 := (List.nodup_cons.mp nr).2
  have q2 := (List.nodup_cons.mp q1).2
  obtain ⟨q3, q4⟩ := List.nodup_cons.mp q2
  obtain ⟨q5, _⟩ := List.nodup_cons.mp q4
  refine S.kp TX k (mu2 (mu_l h.W.r) (mu_l h.W.p)) (fun z => ?_) (fun a ha z => ?_)
  · simp only [List.mem_cons, List.not_mem_nil, or_false] at z
    rcases z with z | z
    · rw [z, h.W.r] at ex; cases ex
    · rw [z, h.W.p] at ex; cases ex
  · simp only [List.mem_cons, List.not_mem_nil, or_false] at z
    rcases z with z | z
    · exact q3 (by simp [← z, ha])
    · exact q5 (by rw [← z]; exact ha)
theorem LW.add (TX : Txt K mg CH CR) (h : LW CH CR H b l rl pl T rs) (k : Kp [rl, pl] H H') {n : Rs} (er : H' rl = some (.lst ((rs ++ [n]).map fun r => V.ref r.x))) (ep : H' pl = some (.lst ((rs ++ [n]).map fun r => V.ref r.q))) (S : RsAt CH CR H' n)
    (fr : ∀ a ∈ n.x :: n.ls, H a = none) (nd : n.ls.Nodup) (ok : RsOk T n) : LW CH CR H' b l rl pl T (rs ++ [n]) := by
  obtain ⟨k1, k2⟩ := h.sub TX k
  obtain ⟨be0, be⟩ := h.bag.lst
  obtain ⟨cs, ci, cv, cz, _, le, _⟩ := id h.bag
  have fn : ∀ {a : Addr} {o : HO}, H a = some o → a ∉ n.ls := fun e z => by
    rw [fr _ (by simp [z])] at e
    cases e
  refine ⟨k1, ⟨er, ep, fun r hr => ?_⟩, fun r hr => ?_, h.n0, fun r hr => ?_, ?_⟩
  · rcases List.mem_append.mp hr with q | q
    · exact k2 r q
    · rw [List.mem_singleton.mp q]; exact S
  · rcases List.mem_append.mp hr with q | q
    · exact h.ok r q
    · rw [List.mem_singleton.mp q]; exact ok
  · rcases List.mem_append.mp hr with q | q
    · exact h.nr r q
    · rw [List.mem_singleton.mp q]
      have n0 := h.n0
      simp only [List.nodup_cons, List.mem_cons, List.not_mem_nil, or_false, not_or, List.nodup_nil, and_true, not_false_eq_true] at n0
      obtain ⟨⟨n1, n2, n3⟩, ⟨n4, n5⟩, n6⟩ := n0
      refine List.nodup_cons.mpr ⟨?_, List.nodup_cons.mpr ⟨?_, List.nodup_cons.mpr ⟨?_, List.nodup_cons.mpr ⟨?_, nd⟩⟩⟩⟩
      · simp [n1, n2, n3, fn be]
      · simp [n4, n5, fn le]
      · simp [n6, fn h.W.r]
      · exact fn h.W.p
  · refine List.pairwise_append.mpr ⟨h.pw, by simp, fun r hr r' hr' => ?_⟩
    rw [List.mem_singleton.mp hr']
    have S' := h.W.all r hr
    obtain ⟨dx, hs, gs, ex, et, eg, _⟩ := S'.R.ex
    obtain ⟨ms, gs', f1, f2, _⟩ := S'.ex
    refine ⟨fun z => ?_, fun a ha => ?_⟩
    · rw [z, fr _ (by simp)] at ex
      cases ex
    · simp only [Rs.ls, List.mem_cons, List.not_mem_nil, or_false] at ha
      rcases ha with rfl | rfl | rfl | rfl
      · exact fn et
      · exact fn eg
      · exact fn f1
      · exact fn f2
theorem LW.drop (TX : Txt K mg CH CR) {r0 : Rs} (h : LW CH CR H b l rl pl T (r0 :: rs)) (k : Kp [rl, pl] H H') (er : H' rl = some (.lst (rs.map fun r => V.ref r.x))) (ep : H' pl = some (.lst (rs.map fun r => V.ref r.q))) : LW CH CR H' b l rl pl T rs := by
  obtain ⟨k1, k2⟩ := h.sub TX k
  exact ⟨k1, ⟨er, ep, fun r hr => k2 r (by simp [hr])⟩, fun r hr => h.ok r (by simp [hr]), h.n0, fun r hr => h.nr r (by simp [hr]), (List.pairwise_cons.mp h.pw).2⟩
/-! ### the end: all done again, then all taken back -/
theorem take_succ_at {α : Type} {xs : List α} {i : Nat} (h : i < xs.length) : xs.take (i + 1) = xs.take i ++ [xs[i]] := by
  rw [List.take_add_one, List.getElem?_eq_getElem h]
  rfl
theorem drop_at {α : Type} {xs : List α} {i : Nat} (h : i < xs.length) : (xs.drop i).reverse = (xs.drop (i + 1)).reverse ++ [xs[i]] := by
  rw [List.drop_eq_getElem_cons h, List.reverse_cons]
theorem paired_rev {α β : Type} {F : α → β → Prop} {xs : List α} {ys : List β} (h : Paired F xs ys) : Paired F xs.reverse ys.reverse := by
  induction h with
  | nil => exact .nil
  | cons a _ ih =>
    rw [List.reverse_cons, List.reverse_cons]
    exact paired_app ih a
theorem paired_append {α β : Type} {F : α → β → Prop} {xs xs' : List α} {ys ys' : List β} (h : Paired F xs ys) (h' : Paired F xs' ys') : Paired F (xs ++ xs') (ys ++ ys') := by
  induction h with
  | nil => exact h'
  | cons a _ ih => exact .cons a ih
theorem paired_take {α β : Type} {F : α → β → Prop} {xs : List α} {ys : List β} (h : Paired F xs ys) : ∀ n, Paired F (xs.take n) (ys.take n) := by
  induction h with
  | nil => intro n; simp; exact .nil
  | cons a _ ih =>
    intro n
    cases n with
    | zero => exact .nil
    | succ n => exact .cons a (ih n)
end
end Pk

namespace Pk
open PySem PySem.Spec PyProof.Rows L2
section
variable {P : Program} {w : World} {K : PySem.W.Frag} {mg : Str → Option Value} {base : Heap} {CH CR CP CM CO CN CF dk dl : Addr} {H H' : Hp} {b l rl pl : Addr} {T : Nat} {rs : List Rs}
/-- a list of one's own changes -/
theorem LW.kpL (TX : Txt K mg CH CR) {p : Addr} (k : Kp [p] H H') {xs : List V} (hp : H p = some (.lst xs)) (f : p ∉ [b, l, rl, pl]) (fr : ∀ r ∈ rs, p ∉ r.ls) (h : LW CH CR H b l rl pl T rs) : LW CH CR H' b l rl pl T rs := by
  simp only [List.mem_cons, List.not_mem_nil, or_false, not_or] at f
  obtain ⟨f1, f2, f3, f4⟩ := f
  refine ⟨h.bag.kp k (by simp [Ne.symm f1]) (by simp [Ne.symm f2]), ⟨k.keep _ _ h.W.r (by simp [Ne.symm f3]), k.keep _ _ h.W.p (by simp [Ne.symm f4]), fun r hr => ?_⟩, h.ok, h.n0, h.nr, h.pw⟩
  have S := h.W.all r hr
  obtain ⟨dx, hs, gs, ex, _⟩ := S.R.ex
  refine S.kp TX k (mu1 (mu_l hp)) (fun z => ?_) (fun a ha z => fr r hr (by rw [← List.mem_singleton.mp z]; exact ha))
  rw [List.mem_singleton.mp z, hp] at ex
  cases ex
theorem split_at {r : Int} (h0 : 0 ≤ r) (h1 : r < (rs.length : Int)) : ∃ as x bs, rs = as ++ x :: bs ∧ as.length = r.toNat ∧ rs[r.toNat]? = some x := by
  have hj : r.toNat < rs.length := by omega
  refine ⟨rs.take r.toNat, rs[r.toNat], rs.drop (r.toNat + 1), ?_, ?_, List.getElem?_eq_getElem hj⟩
  · rw [← List.drop_eq_getElem_cons hj, List.take_append_drop]
  · rw [List.length_take]; omega
/-- tracked, each once -/
structure Trk (H : Hp) (L : List Addr) : Prop where
  t : ∀ a ∈ L, H a ≠ none
  n : L.Nodup
theorem Trk.add {L : List Addr} {a : Addr} {S : List Addr} (h : Trk H L) (na : H a = none) (k : Kp S H H') (ea : H' a ≠ none) : Trk H' (a :: L) :=
  ⟨fun c hc => by
    rcases List.mem_cons.mp hc with rfl | q
    · exact ea
    · exact fun z => h.t c q (k.free c z), List.nodup_cons.mpr ⟨fun q => h.t a q na, h.n⟩⟩
theorem Trk.kp {L : List Addr} {S : List Addr} (h : Trk H L) (k : Kp S H H') : Trk H' L := ⟨fun c hc z => h.t c hc (k.free c z), h.n⟩
theorem nn {a : Addr} {o : HO} (e : H a = some o) : H a ≠ none := fun z => by rw [e] at z; cases z
theorem LW.free {p : Addr} (h : LW CH CR H b l rl pl T rs) (np : H p = none) : p ∉ [b, l, rl, pl] ∧ ∀ r ∈ rs, p ∉ r.ls := by
  obtain ⟨bxs, eb⟩ := h.bag.lst
  obtain ⟨cs, ci, cv, cz, _, el, _⟩ := id h.bag
  have ne : ∀ {a : Addr} {o : HO}, H a = some o → p ≠ a := fun e z => by rw [← z, np] at e; cases e
  refine ⟨by simp [ne eb, ne el, ne h.W.r, ne h.W.p], fun r hr => ?_⟩
  obtain ⟨dx, hs, gs, ex, et, eg, _⟩ := (h.W.all r hr).R.ex
  obtain ⟨ms, gs', f1, f2, _⟩ := (h.W.all r hr).ex
  simp [Rs.ls, ne et, ne eg, ne f1, ne f2]
theorem at_r {α : Type} {f : Rs → α} {r : Int} {x : Rs} (h0 : 0 ≤ r) (e : rs[r.toNat]? = some x) : atI (rs.map f) r = some (f x) := by
  have z := atI_nat (xs := rs.map f) (j := r.toNat) (v := f x) (map_at e)
  rwa [Int.toNat_of_nonneg h0] at z
def spLaw (K : PySem.W.Frag) : Sp := fun vs H Q _ => ∃ (a : Addr) (ns : List Int), vs = [.ref a] ∧ SqL K H a (ns.map V.int) ∧ ns.length ≤ 63 ∧ ∀ H', Q (.bl true) H'
theorem room_law (env : Env) : Room 8 (callerA.deeper env) := Room.deeper (k := 8) (A := callerA) ⟨rfl, by decide, by decide⟩ env
theorem units_law (env : Env) : (callerA.deeper env).units + 64 < cLine := by
  show 4 + 3 + 64 < cLine
  decide
theorem ok_law {f : Addr} {fd : FuncData} (F : Fun K "law" "law" sLaw f fd) (T : Txt K mg CH CR) (IS : Isi K CR)
    (GB : Has P w K mg base CX0 1 "_law_bag" pBag (spBag K)) (GR : HasC P w K mg base CX0 3 CR pRI (spRI CH CR)) (GN : Has P w K mg base CX0 1 "_law_new" pNew spNew) (GP : Has P w K mg base CX0 1 "_law_pull" pPull spPull)
    (GF : HasM P w K mg base CX0 1 CR "facts" pRFacts (spRFacts CH CR)) (GW : HasM P w K mg base CX0 5 CR "twin" pRTwin (spRTwin CH CR)) (GU : Has P w K mg base CX0 7 "_law_turn" pTurn (spTurn CH CR)) (GA : Has P w K mg base CX0 8 "_law_all_stand" pAll (spAll CH CR))
    (GE : HasM P w K mg base CX0 2 CR "__eq__" pREq (spREq CH CR)) (GT : Has P w K mg base CX0 6 "_law_told" pTold (spTold CH CR CO CN CF)) (GS : Has P w K mg base CX0 7 "_law_roll_stands" pStands (spStands CH CR)) :
    Judged P w K mg base f fd "_law_script" (spLaw K) := by
  obtain ⟨fB, fdB, mB, kB, bB, Gb⟩ := GB
  obtain ⟨fR, fdR, MR, bR, Gr⟩ := GR
  obtain ⟨fN, fdN, mN, kN, bN, Gn⟩ := GN
  obtain ⟨fP, fdP, mP, kP, bP, G⟩ := GP
  obtain ⟨fF, fdF, MF, bF, Gf⟩ := GF
  obtain ⟨fW, fdW, MW, bW, Gw⟩ := GW
  obtain ⟨fU, fdU, mU, kU, bU, Gu⟩ := GU
  obtain ⟨fA, fdA, mA, kA, bA, Ga⟩ := GA
  obtain ⟨fE, fdE, ME, bE, Ge⟩ := GE
  obtain ⟨fT, fdT, mT, kT', bT, Gt⟩ := GT
  obtain ⟨fS, fdS, mS, kS, bS, Gs⟩ := GS
  obtain ⟨_, _, _, _, _, _, cdv, _, _, rfl, lk, hcd⟩ := F.ex
  refine ⟨_, _, _, _, _, _, _, _, _, _, _, _, _, _, _, _, rfl, lk, hcd, scLaw, fun s H v Q h => ?_⟩
  · obtain ⟨a, ns, ev, ha, hl, k⟩ := h
    obtain rfl : v = .ref a := List.singleton_inj.mp ev
    have hr := room_law (envOfC "law" (defScope sLaw) s.heap.objs.size f cdv)
    have hr1 : Room 1 _ := hr.mono (by decide)
    have hr2 : Room 2 _ := hr.mono (by decide)
    have hr4 : Room 4 _ := hr.mono (by decide)
    have hr5 : Room 5 _ := hr.mono (by decide)
    have hr6 : Room 6 _ := hr.mono (by decide)
    have hr7 : Room 7 _ := hr.mono (by decide)
    have hu := hu_of hr
    have hu64 := units_law (envOfC "law" (defScope sLaw) s.heap.objs.size f cdv)
    refine ⟨_, PSs.nox (pss_cons (ps_set (i := 1) scLaw.nd rfl (Or.inl rfl) (pe_call Gb hr1 rfl mB kB bB .nil pass0 (pa_cons (pv 0) pa_nil)))
       (pss_cons (ps_set (i := 2) scLaw.nd rfl (Or.inl rfl) (pe_lst (pa_cons (pe_make0 MR Gr hr4 rfl T.gR bR .nil pass0) (pa_cons (pe_make0 MR Gr hr4 rfl T.gR bR .nil pass0) pa_nil))))
       (C8.pss_cut (ps_set (i := 3) scLaw.nd rfl (Or.inl rfl) (pe_lst (pa_cons (pe_tup (pa_cons (pe_lst (pa_cons (pe_call0 Gn hr1 rfl mN kN bN .nil pass0) pa_nil)) (pa_cons (pe_lst pa_nil) pa_nil))) (pa_cons (pe_tup (pa_cons (pe_lst (pa_cons (pe_call0 Gn hr1 rfl mN kN bN .nil pass0) pa_nil)) (pa_cons (pe_lst pa_nil) pa_nil))) pa_nil))))
       (C8.pss_cut (ps_for PassesOwn.never rfl (pi_range1 (by rfl) T.range (pa_cons (pe_op op_add (pe_int) (pe_call G hr1 rfl mP kP bP .nil pass0 (pa_cons (pv 1) (pa_cons (pe_int) pa_nil)))) pa_nil)) (pg_name (i := 4) scLaw.nd rfl (Or.inl rfl)) (pss_cons (ps_set (i := 5) scLaw.nd rfl (Or.inl rfl) (pe_call G hr1 rfl mP kP bP .nil pass0 (pa_cons (pv 1) (pa_cons (pe_callB call_len_seq (by rfl) T.len PySem.boot_len (pa_cons (pv 2) pa_nil)) pa_nil))))
       (pss_cons (ps_set (i := 6) scLaw.nd rfl (Or.inl rfl) (pe_meth0 (pe_ix ix_list (pv 2) (pv 5) (fun _ _ => rfl)) T.clR MF Gf hr1 bF .nil pass0))
       (pss_cons (ps_set (i := 7) scLaw.nd rfl (Or.inl rfl) (pe_callB (call_reprD rfl hu64) (by rfl) T.repr boot_repr (pa_cons (pv 6) pa_nil)))
       (C8.pss_cut (ps_if (pt_cmpR op_eq (pe_call G hr1 rfl mP kP bP .nil pass0 (pa_cons (pv 1) (pa_cons (pe_int) pa_nil))) (pe_int) (nomark _)) (pss_cons (ps_expr (pe_bm PySem.F.plainAttrs_list PySem.F.slot_list_append PySem.F.type_list_append mt_append (pv 2) (pa_cons (pe_meth0 (pe_ix ix_list (pv 2) (pv 5) (fun _ _ => rfl)) T.clR MW Gw hr5 bW .nil pass0) pa_nil)))
       (C8.pss_cut (ps_expr (pe_bm PySem.F.plainAttrs_list PySem.F.slot_list_append PySem.F.type_list_append mt_append (pv 3) (pa_cons (pe_tup (pa_cons (pe_callTy call_list_of (by rfl) T.list boot_list (pa_cons (pe_ix ix_tup (pe_ix ix_list (pv 3) (pv 5) (fun _ _ => rfl)) (pe_int) (fun _ _ => rfl)) pa_nil)) (pa_cons (pe_callTy call_list_of (by rfl) T.list boot_list (pa_cons (pe_ix ix_tup (pe_ix ix_list (pv 3) (pv 5) (fun _ _ => rfl)) (pe_int) (fun _ _ => rfl)) pa_nil)) pa_nil))) pa_nil)))
       (pss_one (ps_if (pt_cmpR op_gt (pe_callB call_len_seq (by rfl) T.len PySem.boot_len (pa_cons (pv 2) pa_nil)) (pe_int) (nomark _)) (pss_cons (ps_expr (pe_bm PySem.F.plainAttrs_list PySem.F.slot_list_pop PySem.F.type_list_pop mt_popAt (pv 2) (pa_cons (pe_int) pa_nil)))
       (pss_one (ps_expr (pe_bm PySem.F.plainAttrs_list PySem.F.slot_list_pop PySem.F.type_list_pop mt_popAt (pv 3) (pa_cons (pe_int) pa_nil))))) pss_nil)))) (pss_one (ps_if (pt_not (pt_val (pe_call Gu hr7 rfl mU kU bU .nil pass0 (pa_cons (pv 1) (pa_cons (pe_ix ix_list (pv 2) (pv 5) (fun _ _ => rfl)) (pa_cons (pe_ix ix_list (pv 3) (pv 5) (fun _ _ => rfl)) pa_nil)))))) (pss_one (ps_never)) pss_nil)))
       (pss_cons (ps_if (PW.pt (pw_or (pt_cmpR op_lt (pe_callB call_len_seq (by rfl) T.len PySem.boot_len (pa_cons (pe_meth0 (pe_ix ix_list (pv 2) (pe_int) (fun _ _ => rfl)) T.clR MF Gf hr1 bF .nil pass0) pa_nil)) (pe_int) (nomark _)) (pw_or1 (pt_cmpR op_ne (pe_callB (call_reprD rfl hu64) (by rfl) T.repr boot_repr (pa_cons (pv 6) pa_nil)) (pv 7) (nomark _))))) (pss_one (ps_never)) pss_nil)
       (pss_cons (ps_expr (pe_bm0 PySem.F.plainAttrs_list PySem.F.slot_list_clear PySem.F.type_list_clear mt_clear (pv 6)))
       (pss_one (ps_if (PW.pt (pw_and (pt_cmpR op_eq (pe_call G hr1 rfl mP kP bP .nil pass0 (pa_cons (pv 1) (pa_cons (pe_int) pa_nil))) (pe_int) (nomark _)) (pw_and1 (pt_not (pt_val (pe_call Ga hr rfl mA kA bA .nil pass0 (pa_cons (pv 2) (pa_cons (pv 3) pa_nil)))))))) (pss_one (ps_never)) pss_nil)))))))))
       (pss_cons (ps_if (pt_not (pt_val (pe_call Ga hr rfl mA kA bA .nil pass0 (pa_cons (pv 2) (pa_cons (pv 3) pa_nil))))) (pss_one (ps_never)) pss_nil)
       (C8.pss_cut (ps_if (PW.pt (pw_or (pt_cmpR (op_ownEq (C := CR) Ge hr2 bE ME.at_ ME.fn) (pe_ix ix_list (pv 2) (pe_int) (fun _ _ => rfl)) (pe_meth0 (pe_ix ix_list (pv 2) (pe_int) (fun _ _ => rfl)) T.clR MF Gf hr1 bF .nil pass0) (nomark _)) (pw_or (pt_cmpR (op_ownEq (C := CR) Ge hr2 bE ME.at_ ME.fn) (pe_ix ix_list (pv 2) (pe_int) (fun _ _ => rfl)) (pe_str) (nomark _)) (pw_or1 (pt_cmpR (op_ownEq (C := CR) Ge hr2 bE ME.at_ ME.fn) (pe_ix ix_list (pv 2) (pe_int) (fun _ _ => rfl)) (pe_lst (pa_cons (pe_ix ix_list (pv 2) (pe_int) (fun _ _ => rfl)) pa_nil)) (nomark _)))))) (pss_one (ps_never)) pss_nil)
       (pss_cons (ps_for PassesOwn.never rfl (pi_range1 (by rfl) T.range (pa_cons (pe_callB call_len_seq (by rfl) T.len PySem.boot_len (pa_cons (pv 2) pa_nil)) pa_nil)) (pg_name (i := 8) scLaw.nd rfl (Or.inl rfl)) (pss_cons (ps_asg (pe_ix ix_list (pv 3) (pv 8) (fun _ _ => rfl)) (pg_tup rfl (pgs_cons (pg_name (i := 9) scLaw.nd rfl (Or.inl rfl)) (pgs_cons (pg_name (i := 10) scLaw.nd rfl (Or.inl rfl)) pgs_nil))))
       (C8.pss_cut (ps_for PassesOwn.never rfl (pi_list (pe_revL (pv 10))) (pg_name (i := 11) scLaw.nd rfl (Or.inl rfl)) (pss_cons (ps_expr (pe_bm PySem.F.plainAttrs_list PySem.F.slot_list_append PySem.F.type_list_append mt_append (pv 9) (pa_cons (pv 11) pa_nil)))
       (pss_one (ps_if (PW.pt (pw_or (pt_cmpR op_notN (pe_call Gt hr6 rfl mT kT' bT .nil pass0 (pa_cons (pe_ix ix_list (pv 2) (pv 8) (fun _ _ => rfl)) (pa_cons (pe_int) (pa_cons (pe_tup pa_nil) pa_nil)))) (pe_non) (nomark _)) (pw_or1 (pt_not (pt_val (pe_call Gs hr7 rfl mS kS bS .nil pass0 (pa_cons (pe_ix ix_list (pv 2) (pv 8) (fun _ _ => rfl)) (pa_cons (pv 11) (pa_cons (pe_op op_sub (pe_callB call_len_seq (by rfl) T.len PySem.boot_len (pa_cons (pv 9) pa_nil)) (pe_int)) pa_nil))))))))) (pss_one (ps_never)) pss_nil))))
       (C8.pss_cut (ps_for PassesOwn.never rfl (pi_range3 (by rfl) T.range (pa_cons (pe_op op_sub (pe_callB call_len_seq (by rfl) T.len PySem.boot_len (pa_cons (pv 9) pa_nil)) (pe_int)) (pa_cons (pe_int) (pa_cons (pe_un un_neg pe_int) pa_nil)))) (pg_name (i := 5) scLaw.nd rfl (Or.inl rfl)) (pss_one (ps_if (PW.pt (pw_or (pt_cmpR op_notN (pe_call Gt hr6 rfl mT kT' bT .nil pass0 (pa_cons (pe_ix ix_list (pv 2) (pv 8) (fun _ _ => rfl)) (pa_cons (pe_int) (pa_cons (pe_tup pa_nil) pa_nil)))) (pe_non) (nomark _)) (pw_or1 (pt_not (pt_val (pe_call Gs hr7 rfl mS kS bS .nil pass0 (pa_cons (pe_ix ix_list (pv 2) (pv 8) (fun _ _ => rfl)) (pa_cons (pe_ix ix_list (pv 9) (pe_op op_sub (pv 5) (pe_int)) (fun _ _ => rfl)) (pa_cons (pe_op op_sub (pv 5) (pe_int)) pa_nil))))))))) (pss_one (ps_never)) pss_nil)))
       (pss_one (ps_if (pt_cmpR op_ne (pe_call Gt hr6 rfl mT kT' bT .nil pass0 (pa_cons (pe_ix ix_list (pv 2) (pv 8) (fun _ _ => rfl)) (pa_cons (pe_int) (pa_cons (pe_tup pa_nil) pa_nil)))) (pe_str) (nomark _)) (pss_one (ps_never)) pss_nil))))))
       (pss_one (ps_ret pe_bl))))))))), ?_⟩
    refine ⟨_, rfl, a, ns, rfl, ha, hl, fun H1 b l k1 nb nl hb => ?_⟩
    intro x1 dx1 nx1 ndx1 nex1
    refine ⟨x1, dx1, rfl, upd_same, fun H2 tk1 gn1 k2 nt1 ng1 ntg1 R1 => ⟨rfl, ?_⟩⟩
    intro x2 dx2 nx2 ndx2 nex2
    refine ⟨x2, dx2, rfl, upd_same, fun H3 tk2 gn2 k3 nt2 ng2 ntg2 R2 => ⟨rfl, (by show 2 ≤ sizeLine; decide), fun rl nrl => ?_⟩⟩
    have nde1 : upd H1 dx1 (.own x1) x1 = none := by rw [upd_ne nex1.symm]; exact nx1
    have nde2 : upd H2 dx2 (.own x2) x2 = none := by rw [upd_ne nex2.symm]; exact nx2
    have kk2 : Kp [] H1 H2 := ((Kp.new ndx1).newN nde1).andN k2 (fun c hc => .inr (by rw [List.mem_singleton.mp hc]; exact nx1))
    have kk3 : Kp [] H2 H3 := ((Kp.new ndx2).newN nde2).andN k3 (fun c hc => .inr (by rw [List.mem_singleton.mp hc]; exact nx2))
    have km2 : Kp [] H1 (upd (upd H1 dx1 (.own x1)) x1 (.ins CR dx1 [])) := (Kp.new ndx1).newN nde1
    have km3 : Kp [] H2 (upd (upd H2 dx2 (.own x2)) x2 (.ins CR dx2 [])) := (Kp.new ndx2).newN nde2
    refine ⟨fun σ' H' => ∃ pl rs, σ' = [some (.ref a), some (.ref b), some (.ref rl), some (.ref pl), none, none, none, none, none, none, none, none] ∧ LW CH CR H' b l rl pl 0 rs ∧ rs.length = 2, ?_, ?_⟩
    · refine ⟨rfl, fun H4 m1 k4 nm1 M1 => ⟨(by show 1 ≤ sizeLine; decide), fun da1 nda1 => ⟨(by show 0 ≤ sizeLine; decide), fun ga1 nga1 => ⟨(by show 2 ≤ sizeLine; decide), fun q1 nq1 => ?_⟩⟩⟩⟩
      refine ⟨rfl, fun H5 m2 k5 nm2 M2 => ⟨(by show 1 ≤ sizeLine; decide), fun da2 nda2 => ⟨(by show 0 ≤ sizeLine; decide), fun ga2 nga2 => ⟨(by show 2 ≤ sizeLine; decide), fun q2 nq2 => ⟨(by show 2 ≤ sizeLine; decide), fun pl npl => ?_⟩⟩⟩⟩⟩
      -- what is where
      obtain ⟨bxs, eb⟩ := hb.lst
      obtain ⟨cs, ci, cv, cz, _, el, _⟩ := id hb
      obtain ⟨d1, hs1, gs1, ex1, et1, eg1, _⟩ := R1.ex
      obtain ⟨d2, hs2, gs2, ex2, et2, eg2, _⟩ := R2.ex
      have A0 : Trk H1 [l, b] := ⟨fun c hc => by
        simp only [List.mem_cons, List.not_mem_nil, or_false] at hc
        rcases hc with rfl | rfl
        · exact nn el
        · exact nn eb, by simp [hb.ne]⟩
      have A0' := A0.kp km2
      have A1 : Trk H2 [gn1, tk1, l, b] := ⟨fun c hc => by
        simp only [List.mem_cons, List.not_mem_nil, or_false] at hc
        rcases hc with rfl | rfl | rfl | rfl
        · exact nn eg1
        · exact nn et1
        · exact (A0.kp kk2).t _ (by simp)
        · exact (A0.kp kk2).t _ (by simp), List.nodup_cons.mpr ⟨fun z => by
          rcases List.mem_cons.mp z with q | q
          · exact ntg1 q.symm
          · exact A0'.t _ q ng1, List.nodup_cons.mpr ⟨fun z => A0'.t _ z nt1, A0.n⟩⟩⟩
      have A1' := A1.kp km3
      have A2 : Trk H3 [gn2, tk2, gn1, tk1, l, b] := ⟨fun c hc => by
        rcases List.mem_cons.mp hc with rfl | hc
        · exact nn eg2
        · rcases List.mem_cons.mp hc with rfl | hc
          · exact nn et2
          · exact (A1.kp kk3).t _ hc, List.nodup_cons.mpr ⟨fun z => by
          rcases List.mem_cons.mp z with q | q
          · exact ntg2 q.symm
          · exact A1'.t _ q ng2, List.nodup_cons.mpr ⟨fun z => A1'.t _ z nt2, A1.n⟩⟩⟩
      have kr : Kp [] H3 (upd H3 rl (.lst [.ref x1, .ref x2])) := Kp.new nrl
      have A3 := A2.add nrl kr (nn upd_same)
      have kda1 : Kp [] H4 (upd H4 da1 (.lst [.ref m1])) := Kp.new nda1
      have A4 := (A3.kp k4).add nda1 kda1 (nn upd_same)
      have kga1 : Kp [] (upd H4 da1 (.lst [.ref m1])) (upd (upd H4 da1 (.lst [.ref m1])) ga1 (.lst [])) := Kp.new nga1
      have A5 := A4.add nga1 kga1 (nn upd_same)
      have kq1 : Kp [] (upd (upd H4 da1 (.lst [.ref m1])) ga1 (.lst [])) (upd (upd (upd H4 da1 (.lst [.ref m1])) ga1 (.lst [])) q1 (.tup [.ref da1, .ref ga1])) := Kp.new nq1
      have kda2 : Kp [] H5 (upd H5 da2 (.lst [.ref m2])) := Kp.new nda2
      have A6 := ((A5.kp kq1).kp k5).add nda2 kda2 (nn upd_same)
      have kga2 : Kp [] (upd H5 da2 (.lst [.ref m2])) (upd (upd H5 da2 (.lst [.ref m2])) ga2 (.lst [])) := Kp.new nga2
      have A7 := A6.add nga2 kga2 (nn upd_same)
      have kq2 : Kp [] (upd (upd H5 da2 (.lst [.ref m2])) ga2 (.lst [])) (upd (upd (upd H5 da2 (.lst [.ref m2])) ga2 (.lst [])) q2 (.tup [.ref da2, .ref ga2])) := Kp.new nq2
      have kpl : Kp [] (upd (upd (upd H5 da2 (.lst [.ref m2])) ga2 (.lst [])) q2 (.tup [.ref da2, .ref ga2])) (upd (upd (upd (upd H5 da2 (.lst [.ref m2])) ga2 (.lst [])) q2 (.tup [.ref da2, .ref ga2])) pl (.lst [.ref q1, .ref q2])) := Kp.new npl
      have A8 := (A7.kp kq2).add npl kpl (nn upd_same)
      have z5 := kda2.trans (kga2.trans (kq2.trans kpl))
      have z4 := kq1.trans (k5.trans z5)
      have z3 := kr.trans (k4.trans (kda1.trans (kga1.trans z4)))
      have nd := A8.n
      have no : ∀ {Hx : Hp}, ∀ s ∈ ([] : List Addr), Mu CR Hx s := fun s h => by cases h
      have zx : Kp [] H1 _ := kk2.trans (kk3.trans z3)
      have x12 : x1 ≠ x2 := ne_of_none ex1 nx2
      simp only [List.nodup_cons, List.mem_cons, List.not_mem_nil, or_false, not_or, List.nodup_nil, and_true, not_false_eq_true] at nd
      obtain ⟨⟨p1, p2, p3, p4, p5, p6, p7, p8, p9, p10, p11⟩, ⟨g1, g2, g3, g4, g5, g6, g7, g8, g9, g10⟩, ⟨d1', d2', d3', d4', d5', d6', d7', d8', d9'⟩, ⟨h1, h2, h3, h4, h5, h6, h7, h8⟩, ⟨i1, i2, i3, i4, i5, i6, i7⟩, ⟨j1, j2, j3, j4, j5, j6⟩, ⟨u1, u2, u3, u4, u5⟩, ⟨v1, v2, v3, v4⟩, ⟨w1, w2, w3⟩, ⟨y1, y2⟩, y3⟩ := nd
      have ok0 : ∀ x tk gn q da ga, RsOk 0 ⟨x, tk, gn, q, da, ga, [mo0], []⟩ := fun x tk gn q da ga => ⟨by simp, by simp, by simp, fun m hm => by
        rw [List.mem_singleton.mp hm]
        exact ⟨Nat.le_refl _, Nat.le_refl _, List.nodup_nil, fun e he => (by cases he), fun e he => (by cases he)⟩, fun m hm => (by cases hm)⟩
      refine ⟨pl, [⟨x1, tk1, gn1, q1, da1, ga1, [mo0], []⟩, ⟨x2, tk2, gn2, q2, da2, ga2, [mo0], []⟩], rfl, ⟨hb.kp0 zx, ⟨(k4.trans (kda1.trans (kga1.trans z4))).same _ _ upd_same, upd_same, fun r hr => ?_⟩, fun r hr => ?_, ?_, fun r hr => ?_, ?_⟩, rfl⟩
      · rcases List.mem_cons.mp hr with rfl | hr
        · exact ⟨R1.kp0 T (kk3.trans z3), (k5.trans z5).tups _ _ upd_same, [.ref m1], [], (kga1.trans z4).same _ _ upd_same, z4.same _ _ upd_same, .cons (M1.kp (kda1.trans (kga1.trans z4)) no) .nil, .nil⟩
        · rw [List.mem_singleton.mp hr]
          exact ⟨R2.kp0 T z3, kpl.tups _ _ upd_same, [.ref m2], [], (kga2.trans (kq2.trans kpl)).same _ _ upd_same, (kq2.trans kpl).same _ _ upd_same, .cons (M2.kp z5 no) .nil, .nil⟩
      · rcases List.mem_cons.mp hr with rfl | hr
        · exact ok0 _ _ _ _ _ _
        · rw [List.mem_singleton.mp hr]
          exact ok0 _ _ _ _ _ _
      · simp only [List.nodup_cons, List.mem_cons, List.not_mem_nil, or_false, not_or, List.nodup_nil, and_true, not_false_eq_true]
        grind
      · rcases List.mem_cons.mp hr with rfl | hr
        · simp only [Rs.ls, List.nodup_cons, List.mem_cons, List.not_mem_nil, or_false, not_or, List.nodup_nil, and_true, not_false_eq_true]
          grind
        · rw [List.mem_singleton.mp hr]
          simp only [Rs.ls, List.nodup_cons, List.mem_cons, List.not_mem_nil, or_false, not_or, List.nodup_nil, and_true, not_false_eq_true]
          grind
      · refine List.pairwise_cons.mpr ⟨fun r hr => ?_, by simp⟩
        rw [List.mem_singleton.mp hr]
        refine ⟨x12, fun c hc => ?_⟩
        simp only [Rs.ls, List.mem_cons, List.not_mem_nil, or_false] at hc
        simp only [Rs.ls, List.mem_cons, List.not_mem_nil, or_false, not_or]
        rcases hc with rfl | rfl | rfl | rfl <;> grind
    · rintro σ1 H1' ⟨pl, rs, rfl, L, hlen⟩
      refine ⟨fun σ' H' => ∃ rs T' v4 v5 v6 v7 v8 v9 v10 v11, σ' = [some (.ref a), some (.ref b), some (.ref rl), some (.ref pl), v4, v5, v6, v7, v8, v9, v10, v11] ∧ LW CH CR H' b l rl pl T' rs ∧ T' ≤ 50 ∧ 1 ≤ rs.length ∧ rs.length ≤ 3, ?_, ?_⟩
      · refine ⟨_, rfl, b, l, 31, rfl, L.bag, by decide, by decide, fun H2 r2 k2 b2 h20 h21 => ⟨_, _, rfl, rfl, _, rfl, by omega, by omega, ?_⟩⟩
        refine for_range (n := (10 + r2).toNat) (lo := 0) (fun i σ H' => ∃ rs v4 v5 v6 v7 v8 v9 v10 v11, σ = [some (.ref a), some (.ref b), some (.ref rl), some (.ref pl), v4, v5, v6, v7, v8, v9, v10, v11] ∧ LW CH CR H' b l rl pl i rs ∧ 1 ≤ rs.length ∧ rs.length ≤ 3)
          ⟨rs, _, _, _, _, _, _, _, _, rfl, L.kpB T k2 b2, by omega, by omega⟩ (fun i σ H3 hi q => ?_) (fun σ H3 q => ?_)
        · obtain ⟨rs, v4, v5, v6, v7, v8, v9, v10, v11, rfl, L3, hl1, hl3⟩ := q
          have hi40 : i ≤ 40 := by omega
          refine ⟨_, rfl, _, rfl, rl, _, rfl, .inl (SqL.of L3.W.r), b, l, _, rfl, L3.bag, ?_, ?_, fun H4 r4 k4 b4 h40 h41 => ?_⟩
          · rw [List.length_map]; omega
          · rw [List.length_map]; omega
          rw [List.length_map] at h41
          have L4 := L3.kpB T k4 b4
          obtain ⟨as, r, bs, er, eas, ert⟩ := split_at h40 h41
          have hr' : r ∈ rs := List.mem_of_getElem? ert
          have a1 : atI (rs.map fun r => V.ref r.x) r4 = some (.ref r.x) := at_r h40 ert
          have a2 : atI (rs.map fun r => V.ref r.q) r4 = some (.ref r.q) := at_r h40 ert
          have okr := L4.ok r hr'
          obtain ⟨ps, m, ms, md, d, ep, eda, elen, M, okm⟩ := (L4.W.all r hr').last okr
          have RR := (L4.W.all r hr').R
          obtain ⟨dx, hs, gs, ex, _⟩ := id RR.ex
          rw [ep] at RR
          have l64 : m.es.length < 64 := Nat.lt_of_le_of_lt okm.len (by omega)
          refine ⟨_, rfl, _, rfl, rl, _, _, _, rfl, rfl, SqL.of L4.W.r, a1, r.x, dx, _, rfl, ex, rf_no _ _ (by decide +kernel) (by decide +kernel), r.x, r.tk, r.gn, ps, r.gone, m, rfl, RR, l64, fun H5 p k5 np F5 => ?_⟩
          have L5 := L4.kp0 T k5
          obtain ⟨fp1, fp2⟩ := L4.free np
          obtain ⟨s1, s2, s3, s4⟩ := rep_facts okm.good okm.num (by omega) l64
          refine ⟨_, rfl, p, .list (factsD m.es), rfl, ⟨F5.dp, ⟨s1, s2⟩, s3, s4⟩, ?_⟩
          generalize hes : m.es = es at F5 s1 s2 s3 s4
          generalize htxt : (PyData.list (factsD es)).shown = txt
          refine ⟨fun σ' H' => ∃ rs w4 w5, σ' = [some (.ref a), some (.ref b), some (.ref rl), some (.ref pl), w4, w5, some (.ref p), some (.str txt), v8, v9, v10, v11] ∧ LW CH CR H' b l rl pl (i + 1) rs ∧ 1 ≤ rs.length ∧ rs.length ≤ 3 ∧ FlAt H' p es ∧ p ∉ [b, l, rl, pl] ∧ ∀ r ∈ rs, p ∉ r.ls, ?_, ?_⟩
          · refine ⟨_, rfl, b, l, 6, rfl, L5.bag, by decide, by decide, fun H6 r6 k6 b6 _ _ => ⟨rfl, _, rfl, ite2 (fun _ => ?_) (fun _ => ?_)⟩⟩
            · have L6 := L5.kpB T k6 b6
              have fpb : p ∉ [b] := fun z => fp1 (by rw [List.mem_singleton.mp z]; simp)
              have F6 := F5.kp k6 fpb
              have S6 := L6.W.all r hr'
              obtain ⟨dx6, hs6, gs6, ex6, _⟩ := id S6.R.ex
              have lr3 : (rs.map fun r => V.ref r.x).length < sizeLine := by rw [List.length_map, sizeLine_eq]; omega
              have lp3 : (rs.map fun r => V.ref r.q).length < sizeLine := by rw [List.length_map, sizeLine_eq]; omega
              have n0 := L6.n0
              simp only [List.nodup_cons, List.mem_cons, List.not_mem_nil, or_false, not_or, List.nodup_nil, and_true, not_false_eq_true] at n0
              obtain ⟨⟨b1, b2', b3⟩, ⟨c1, c2⟩, rp⟩ := n0
              refine ⟨_, rfl, .inl ⟨rfl, _, SqL.of L6.W.r⟩, _, rfl, _, rfl, rl, _, _, _, rfl, rfl, SqL.of L6.W.r, a1, r.x, dx6, _, rfl, ex6, rf_no _ _ (by decide +kernel) (by decide +kernel), r.x, r.tk, r.gn, r.past, r.gone, rfl, S6.R, fun H7 y tk' gn' k7 ny nt ng y1 y2 y3 R7 => ?_⟩
              have W7 := L6.W.kp0 T k7
              refine ⟨rl, _, _, rfl, rfl, W7.r, lr3, ?_⟩
              have k8 : Kp [rl] H7 (upd H7 rl (.lst ((rs.map fun r => V.ref r.x) ++ [.ref y]))) := Kp.put W7.r (fun _ z => by cases z)
              have e8r : upd H7 rl (.lst ((rs.map fun r => V.ref r.x) ++ [.ref y])) rl = some (.lst ((rs.map fun r => V.ref r.x) ++ [.ref y])) := upd_same
              have e8p := k8.keep _ _ W7.p (by simp [Ne.symm rp])
              have S7 := W7.all r hr'
              have e8q := k8.tups _ _ S7.q
              obtain ⟨ms7, gs7, f71, f72, f73, f74⟩ := S7.ex
              have nrr := L6.nr r hr'
              have rlls : rl ∉ r.ls ∧ pl ∉ r.ls := by
                obtain ⟨_, z2⟩ := List.nodup_cons.mp nrr
                obtain ⟨_, z4⟩ := List.nodup_cons.mp z2
                obtain ⟨z5, z6⟩ := List.nodup_cons.mp z4
                obtain ⟨z7, z8⟩ := List.nodup_cons.mp z6
                exact ⟨fun q => z5 (by simp [q]), z7⟩
              have rd : r.da ≠ rl ∧ r.ga ≠ rl := ⟨fun z => rlls.1 (by simp [Rs.ls, z]), fun z => rlls.1 (by simp [Rs.ls, z])⟩
              have f81 := k8.keep _ _ f71 (by simp [rd.1])
              have f82 := k8.keep _ _ f72 (by simp [rd.2])
              have mu7 : ∀ s ∈ [rl], Mu CR H7 s := mu1 (mu_l W7.r)
              have f83 := models_kp k8 mu7 f73
              have f84 := models_kp k8 mu7 f74
              have y_rl : y ≠ rl := fun z => by rw [z, L6.W.r] at ny; cases ny
              have y_pl : y ≠ pl := fun z => by rw [z, L6.W.p] at ny; cases ny
              have t_rl : tk' ≠ rl := fun z => by rw [z, L6.W.r] at nt; cases nt
              have t_pl : tk' ≠ pl := fun z => by rw [z, L6.W.p] at nt; cases nt
              have g_rl : gn' ≠ rl := fun z => by rw [z, L6.W.r] at ng; cases ng
              have g_pl : gn' ≠ pl := fun z => by rw [z, L6.W.p] at ng; cases ng
              have R8 := R7.kp k8 mu7 T.ne (by simp [y_rl]) (by simp [t_rl]) (by simp [g_rl])
              generalize upd H7 rl (.lst ((rs.map fun r => V.ref r.x) ++ [.ref y])) = H8 at k8 e8r e8p e8q f81 f82 f83 f84 R8 ⊢
              refine ⟨fun σ' H' => ∃ rs' w4 w5, σ' = [some (.ref a), some (.ref b), some (.ref rl), some (.ref pl), w4, w5, some (.ref p), some (.str txt), v8, v9, v10, v11] ∧ LW CH CR H' b l rl pl i rs' ∧ 1 ≤ rs'.length ∧ rs'.length ≤ 4 ∧ FlAt H' p es ∧ p ∉ [b, l, rl, pl] ∧ ∀ r ∈ rs', p ∉ r.ls, ?_, ?_⟩
              · refine ⟨_, rfl, .inl ⟨rfl, _, SqL.of e8p⟩, _, rfl, _, rfl, pl, _, _, _, rfl, rfl, SqL.of e8p, a2, r.q, _, _, _, rfl, rfl, SqT.of e8q, atI_nat (j := 0) rfl, r.da, _, rfl, .inl (SqL.of f81), fun da' nda => ?_⟩
                have k9 : Kp [] H8 (upd H8 da' (.lst ms7)) := Kp.new nda
                refine ⟨_, rfl, _, rfl, pl, _, _, _, rfl, rfl, SqL.of (k9.same _ _ e8p), a2, r.q, _, _, _, rfl, rfl, SqT.of (k9.tups _ _ e8q), atI_nat (j := 1) rfl, r.ga, _, rfl, .inl (SqL.of (k9.same _ _ f82)), fun ga' nga => ⟨(by show 2 ≤ sizeLine; decide), fun q' nq => ?_⟩⟩
                have k10 : Kp [] (upd H8 da' (.lst ms7)) (upd (upd H8 da' (.lst ms7)) ga' (.lst gs7)) := Kp.new nga
                have k11 : Kp [] (upd (upd H8 da' (.lst ms7)) ga' (.lst gs7)) (upd (upd (upd H8 da' (.lst ms7)) ga' (.lst gs7)) q' (.tup [.ref da', .ref ga'])) := Kp.new nq
                have kc : Kp [] H8 (upd (upd (upd H8 da' (.lst ms7)) ga' (.lst gs7)) q' (.tup [.ref da', .ref ga'])) := k9.trans (k10.trans k11)
                refine ⟨pl, _, _, rfl, rfl, kc.same _ _ e8p, lp3, ?_⟩
                have k12 : Kp [pl] (upd (upd (upd H8 da' (.lst ms7)) ga' (.lst gs7)) q' (.tup [.ref da', .ref ga'])) (upd (upd (upd (upd H8 da' (.lst ms7)) ga' (.lst gs7)) q' (.tup [.ref da', .ref ga'])) pl (.lst ((rs.map fun r => V.ref r.q) ++ [.ref q']))) := Kp.put (kc.same _ _ e8p) (fun _ z => by cases z)
                have mu11 : ∀ s ∈ [pl], Mu CR (upd (upd (upd H8 da' (.lst ms7)) ga' (.lst gs7)) q' (.tup [.ref da', .ref ga'])) s := mu1 (mu_l (kc.same _ _ e8p))
                have d_pl : da' ≠ pl := fun z => by rw [z, e8p] at nda; cases nda
                have d_rl : da' ≠ rl := fun z => by rw [z, e8r] at nda; cases nda
                have a_pl : ga' ≠ pl := fun z => by rw [z, k9.same _ _ e8p] at nga; cases nga
                have a_rl : ga' ≠ rl := fun z => by rw [z, k9.same _ _ e8r] at nga; cases nga
                have kall : Kp [rl, pl] H6 (upd (upd (upd (upd H8 da' (.lst ms7)) ga' (.lst gs7)) q' (.tup [.ref da', .ref ga'])) pl (.lst ((rs.map fun r => V.ref r.q) ++ [.ref q']))) := ((k7.up.trans (k8.mono (by simp))).and0 kc).trans (k12.mono (by simp))
                obtain ⟨dy, hy, gy, u1, u2, u3, _⟩ := id R8.ex
                have fr6 : ∀ {c : Addr}, H8 c = none → H6 c = none := fun z => k7.free _ (k8.free _ z)
                have no : ∀ {Hx : Hp}, ∀ s ∈ ([] : List Addr), Mu CR Hx s := fun s h => by cases h
                have Ln := L6.add T kall (n := ⟨y, tk', gn', q', da', ga', r.past, r.gone⟩) ?_ ?_ ⟨(R8.kp0 T kc).kp k12 mu11 T.ne (by simp [y_pl]) (by simp [t_pl]) (by simp [g_pl]), k12.tups _ _ upd_same, ms7, gs7, k12.keep _ _ ((k10.trans k11).same _ _ upd_same) (by simp [d_pl]), k12.keep _ _ (k11.same _ _ upd_same) (by simp [a_pl]), models_kp k12 mu11 (models_kp kc no f83), models_kp k12 mu11 (models_kp kc no f84)⟩ ?_ ?_ ⟨okr.ne, okr.lp, okr.lg, okr.op, okr.og⟩
                · refine ⟨_, _, _, rfl, Ln, ?_, ?_, ?_, fp1, fun r' hr2 => ?_⟩
                  · rw [List.length_append, List.length_singleton]; omega
                  · rw [List.length_append, List.length_singleton]; omega
                  · exact F6.kp kall (fun z => fp1 (by
                      rcases List.mem_cons.mp z with z | z
                      · simp [z]
                      · rw [List.mem_singleton.mp z]; simp))
                  · rcases List.mem_append.mp hr2 with q | q
                    · exact fp2 r' q
                    · rw [List.mem_singleton.mp q]
                      obtain ⟨vs6, ep6, _⟩ := F6
                      have pn : ∀ {c : Addr}, H6 c = none → p ≠ c := fun z e => by rw [← e, ep6] at z; cases z
                      simp [Rs.ls, pn nt, pn ng, pn (fr6 nda), pn (fr6 (k9.free _ nga))]
                · have z := k12.keep _ _ (kc.same _ _ e8r) (by simp [rp])
                  rw [z]
                  simp
                · rw [upd_same]
                  simp
                · intro c hc
                  simp only [Rs.ls, List.mem_cons, List.not_mem_nil, or_false] at hc
                  rcases hc with rfl | rfl | rfl | rfl | rfl
                  · exact ny
                  · exact nt
                  · exact ng
                  · exact fr6 nda
                  · exact fr6 (k9.free _ nga)
                · have q1 : tk' ≠ da' := ne_of_none u2 nda
                  have q2 : gn' ≠ da' := ne_of_none u3 nda
                  have q3 : tk' ≠ ga' := ne_of_none (k9.same _ _ u2) nga
                  have q4 : gn' ≠ ga' := ne_of_none (k9.same _ _ u3) nga
                  have q5 : da' ≠ ga' := ne_of_none (o := .lst ms7) upd_same nga
                  simp [Rs.ls, y2, q1, q2, q3, q4, q5]
              · rintro σ3 H9 ⟨rs', w4, w5, rfl, L9, g1, g4, F9, fp1, fp2'⟩
                refine ⟨_, rfl, rl, _, rfl, .inl (SqL.of L9.W.r), _, _, rfl, rfl, _, rfl, ite2 (fun c => ?_) (fun c => ?_)⟩
                · have c' : (3 : Int) < (((rs'.map fun r => V.ref r.x).length : Nat) : Int) := of_decide_eq_true c
                  rw [List.length_map] at c'
                  obtain ⟨r0, rest, rfl⟩ : ∃ r0 rest, rs' = r0 :: rest := by
                    cases rs' with
                    | nil => exact absurd g1 (by simp)
                    | cons r0 rest => exact ⟨r0, rest, rfl⟩
                  refine ⟨_, rfl, .inl ⟨rfl, _, SqL.of L9.W.r⟩, rl, _, 0, 0, _, rfl, rfl, L9.W.r, by decide, by decide, ?_, rfl, ?_⟩
                  · rw [List.length_map]
                    show seqIndex? 0 (rest.length + 1) = some 0
                    unfold seqIndex?
                    simp
                    try omega
                  have k10 : Kp [rl] H9 (upd H9 rl (.lst (((r0 :: rest).map fun r => V.ref r.x).eraseIdx 0))) := Kp.put L9.W.r (fun _ z => by cases z)
                  have e10 := k10.keep _ _ L9.W.p (by simp [Ne.symm rp])
                  refine ⟨_, rfl, .inl ⟨rfl, _, SqL.of e10⟩, pl, _, 0, 0, _, rfl, rfl, e10, by decide, by decide, ?_, rfl, ?_⟩
                  · rw [List.length_map]
                    show seqIndex? 0 (rest.length + 1) = some 0
                    unfold seqIndex?
                    simp
                    try omega
                  have k11 : Kp [pl] (upd H9 rl (.lst (((r0 :: rest).map fun r => V.ref r.x).eraseIdx 0))) (upd (upd H9 rl (.lst (((r0 :: rest).map fun r => V.ref r.x).eraseIdx 0))) pl (.lst (((r0 :: rest).map fun r => V.ref r.q).eraseIdx 0))) := Kp.put e10 (fun _ z => by cases z)
                  have kf : Kp [rl, pl] H9 _ := (k10.mono (by simp)).trans (k11.mono (by simp))
                  have Ld := L9.drop T kf (k11.keep _ _ upd_same (by simp [rp])) upd_same
                  refine ⟨rest, _, _, rfl, Ld.mono, ?_, ?_, F9.kp kf (fun z => fp1 (by
                      rcases List.mem_cons.mp z with z | z
                      · simp [z]
                      · rw [List.mem_singleton.mp z]; simp)), fp1, fun r' h2 => fp2' r' (by simp [h2])⟩
                  · rw [List.length_cons] at c'; omega
                  · rw [List.length_cons] at g4; omega
                · have c' : ¬ (3 : Int) < (((rs'.map fun r => V.ref r.x).length : Nat) : Int) := fun z => c (decide_eq_true z)
                  rw [List.length_map] at c'
                  exact ⟨rs', _, _, rfl, L9.mono, g1, by omega, F9, fp1, fp2'⟩
            · have L6 := L5.kpB T k6 b6
              have fpb : p ∉ [b] := fun z => fp1 (by rw [List.mem_singleton.mp z]; simp)
              have F6 := F5.kp k6 fpb
              obtain ⟨vs6, ep6, _⟩ := id F6
              have S6 := L6.W.all r hr'
              obtain ⟨dx6, hs6, gs6, ex6, _⟩ := id S6.R.ex
              have px : p ≠ r.x := fun z => by rw [← z, ep6] at ex6; cases ex6
              have pls := fp2 r hr'
              have nr6 : List.Nodup (b :: l :: r.ls) := by
                have z := L6.nr r hr'
                obtain ⟨z1, z2⟩ := List.nodup_cons.mp z
                obtain ⟨z3, z4⟩ := List.nodup_cons.mp z2
                obtain ⟨z5, z6⟩ := List.nodup_cons.mp z4
                obtain ⟨z7, z8⟩ := List.nodup_cons.mp z6
                refine List.nodup_cons.mpr ⟨fun q => z1 ?_, List.nodup_cons.mpr ⟨fun q => z3 (by simp [q]), z8⟩⟩
                rcases List.mem_cons.mp q with q | q
                · simp [q]
                · simp [q]
              refine ⟨_, rfl, _, rfl, _, rfl, rl, _, _, _, rfl, rfl, SqL.of L6.W.r, a1, _, rfl, _, rfl, pl, _, _, _, rfl, rfl, SqL.of L6.W.p, a2, b, l, r, i, rfl, b6, S6, okr, by omega, nr6, fun H7 g past gone k7 b7 hg S7 ok7 => ⟨_, rfl, iteF ?_⟩⟩
              have L6' := L6
              rw [er] at L6'
              have L7 := L6'.turn T k7 b7 hg S7 ok7
              simp only [Rs.ls, List.mem_cons, List.not_mem_nil, or_false, not_or] at pls
              obtain ⟨pl1, pl2, pl3, pl4⟩ := pls
              have pb : p ≠ b := fun z => fp1 (by simp [z])
              have pg : p ≠ g := fun z => by
                rcases hg with q | q
                · exact pl2 (z.trans q)
                · rw [← z, ep6] at q; cases q
              refine ⟨_, _, _, rfl, L7, ?_, ?_, F6.kp k7 (by simp [pb, px, pl1, pl2, pl3, pl4]), fp1, fun r' hr2 => ?_⟩
              · rw [List.length_append, List.length_cons]
                omega
              · have z : rs.length = (as ++ r :: bs).length := by rw [er]
                simp only [List.length_append, List.length_cons] at z ⊢
                omega
              · rcases List.mem_append.mp hr2 with q | q
                · exact fp2 r' (by rw [er]; simp [q])
                · rcases List.mem_cons.mp q with rfl | q
                  · simp [Rs.ls, pl1, pg, pl3, pl4]
                  · exact fp2 r' (by rw [er]; simp [q])
          · rintro σ2 H6 ⟨rs, w4, w5, rfl, L6, g1, g3, F6, fp1, fp2⟩
            obtain ⟨r0, rest, rfl⟩ : ∃ r0 rest, rs = r0 :: rest := by
              cases rs with
              | nil => exact absurd g1 (by simp)
              | cons r0 rest => exact ⟨r0, rest, rfl⟩
            obtain ⟨ps0, m0, ms0, md0, d0, ep0, _, _, _, okm0⟩ := (L6.W.all r0 (by simp)).last (L6.ok r0 (by simp))
            have RR0 := (L6.W.all r0 (by simp)).R
            obtain ⟨dx0, hs0, gs0, ex0, _⟩ := id RR0.ex
            rw [ep0] at RR0
            have l0 : m0.es.length < 64 := Nat.lt_of_le_of_lt okm0.len (by omega)
            refine ⟨_, rfl, rl, _, _, _, rfl, rfl, SqL.of L6.W.r, atI_nat (j := 0) rfl, r0.x, dx0, _, rfl, ex0, rf_no _ _ (by decide +kernel) (by decide +kernel), r0.x, r0.tk, r0.gn, ps0, r0.gone, m0, rfl, RR0, l0, fun H7 p7 k7 np7 F7 => ?_⟩
            obtain ⟨vs7, ep7, _⟩ := F7
            refine ⟨p7, _, rfl, .inl (SqL.of ep7), _, _, rfl, rfl, _, rfl, ?_⟩
            rw [show decide (((vs7.length : Nat) : Int) < 0) = false from decide_eq_false (by omega)]
            refine iteF ?_
            have F7' := F6.kp k7 (by simp)
            refine ⟨_, rfl, p, .list (factsD es), rfl, ⟨F7'.dp, ⟨s1, s2⟩, s3, s4⟩, _, rfl, rfl, _, rfl, ?_⟩
            rw [htxt, show (!decide (V.str txt = V.str txt)) = false by simp]
            refine iteF ?_
            obtain ⟨vsp, epp, _⟩ := F7'
            refine ⟨_, rfl, .inl ⟨rfl, _, SqL.of epp⟩, p, _, rfl, rfl, epp, ?_⟩
            have L8 := (L6.kp0 T k7).kpL T (Kp.put (o := .lst []) epp (fun _ z => by cases z)) epp fp1 fp2
            refine ⟨_, rfl, b, l, 3, rfl, L8.bag, by decide, by decide, fun H9 r9 k9 b9 _ _ => ?_⟩
            have L9 := L8.kpB T k9 b9
            refine ⟨rfl, _, rfl, ite2 (fun _ => ?_) (fun _ => iteF ⟨_, _, _, _, _, _, _, _, _, rfl, L9, g1, g3⟩)⟩
            exact ⟨_, rfl, _, rfl, rl, pl, _, i + 1, rfl, L9.W, L9.ok, by omega, by omega, fun H10 k10 => ⟨_, rfl, iteF ⟨_, _, _, _, _, _, _, _, _, rfl, L9.kp0 T k10, g1, g3⟩⟩⟩
        · obtain ⟨rs, v4, v5, v6, v7, v8, v9, v10, v11, rfl, L3, hl1, hl3⟩ := q
          exact ⟨rs, _, _, _, _, _, _, _, _, _, rfl, L3, by omega, hl1, hl3⟩
      · rintro σ2 H2 ⟨rs, TT, v4, v5, v6, v7, v8, v9, v10, v11, rfl, L2', hT, hl1, hl3⟩
        refine ⟨_, rfl, _, rfl, rl, pl, rs, TT, rfl, L2'.W, L2'.ok, by omega, by omega, fun H3 k3 => ⟨_, rfl, iteF ?_⟩⟩
        have L3 := L2'.kp0 T k3
        refine ⟨fun σ' H' => σ' = [some (.ref a), some (.ref b), some (.ref rl), some (.ref pl), v4, v5, v6, v7, v8, v9, v10, v11] ∧ LW CH CR H' b l rl pl TT rs, ?_, ?_⟩
        · obtain ⟨r0, rest, rfl⟩ : ∃ r0 rest, rs = r0 :: rest := by
            cases rs with
            | nil => exact absurd hl1 (by simp)
            | cons r0 rest => exact ⟨r0, rest, rfl⟩
          obtain ⟨ps0, m0, ms0, md0, d0, ep0, _, _, _, okm0⟩ := (L3.W.all r0 (by simp)).last (L3.ok r0 (by simp))
          have RR0 := (L3.W.all r0 (by simp)).R
          obtain ⟨dx0, hs0, gs0, ex0, _⟩ := id RR0.ex
          rw [ep0] at RR0
          have l0 : m0.es.length < 64 := Nat.lt_of_le_of_lt okm0.len (by omega)
          refine ⟨_, rfl, rl, _, _, _, rfl, rfl, SqL.of L3.W.r, atI_nat (j := 0) rfl, _, rfl, rl, _, _, _, rfl, rfl, SqL.of L3.W.r, atI_nat (j := 0) rfl, r0.x, dx0, _, rfl, ex0, rf_no _ _ (by decide +kernel) (by decide +kernel), r0.x, r0.tk, r0.gn, ps0, r0.gone, m0, rfl, RR0, l0, fun H4 p k4 np F4 => ?_⟩
          obtain ⟨vsp, epp, _⟩ := F4
          have L4 := L3.kp0 T k4
          refine ⟨r0.x, dx0, _, _, rfl, k4.same _ _ ex0, .lst epp, r0.x, r0.tk, r0.gn, ps0, r0.gone, m0, .ref p, rfl, RR0.kp0 T k4, l0, okm0.good, .inr (.inl ⟨p, _, rfl, epp, _, rfl, _, rfl, iteF ?_⟩)⟩
          refine ⟨_, rfl, rl, _, _, _, rfl, rfl, SqL.of L4.W.r, atI_nat (j := 0) rfl, r0.x, dx0, _, _, rfl, k4.same _ _ ex0, .str _, r0.x, r0.tk, r0.gn, ps0, r0.gone, m0, .str _, rfl, RR0.kp0 T k4, l0, okm0.good, .inr (.inr ⟨_, rfl, _, rfl, _, rfl, iteF ?_⟩)⟩
          refine ⟨_, rfl, rl, _, _, _, rfl, rfl, SqL.of L4.W.r, atI_nat (j := 0) rfl, _, rfl, rl, _, _, _, rfl, rfl, SqL.of L4.W.r, atI_nat (j := 0) rfl, (by show 1 ≤ sizeLine; decide), fun t nt => ?_⟩
          have k5 : Kp [] H4 (upd H4 t (.lst [.ref r0.x])) := Kp.new nt
          refine ⟨r0.x, dx0, _, _, rfl, k5.same _ _ (k4.same _ _ ex0), .lst upd_same, r0.x, r0.tk, r0.gn, ps0, r0.gone, m0, .ref t, rfl, (RR0.kp0 T k4).kp0 T k5, l0, okm0.good, .inr (.inl ⟨t, _, rfl, upd_same, _, rfl, _, rfl, iteF ⟨rfl, L4.kp0 T k5⟩⟩)⟩
        · rintro σ3 H4 ⟨rfl, L4⟩
          refine ⟨_, rfl, rl, _, rfl, .inl (SqL.of L4.W.r), _, rfl, ?_, ?_, ?_⟩
          · rw [List.length_map]; omega
          · rw [List.length_map]; omega
          rw [Int.toNat_natCast, List.length_map]
          refine for_range (n := rs.length) (lo := 0) (fun i σ H' => ∃ v4 v5 v6 v7 v8 v9 v10 v11, σ = [some (.ref a), some (.ref b), some (.ref rl), some (.ref pl), v4, v5, v6, v7, v8, v9, v10, v11] ∧ H' rl = some (.lst (rs.map fun r => V.ref r.x)) ∧ H' pl = some (.lst (rs.map fun r => V.ref r.q)) ∧ ∀ r ∈ rs.drop i, RsAt CH CR H' r)
            ⟨_, _, _, _, _, _, _, _, rfl, L4.W.r, L4.W.p, fun r hr => L4.W.all r (List.mem_of_mem_drop hr)⟩ (fun i σ H5 hi q => ?_) (fun σ H5 q => ?_)
          · obtain ⟨v4, v5, v6, v7, v8, v9, v10, v11, rfl, erl, epl, hall⟩ := q
            rw [show ((0 : Int) + (i : Int)) = (i : Int) from Int.zero_add _]
            have hdr := List.drop_eq_getElem_cons hi
            generalize hrr : rs[i] = r at hdr
            have hri : rs[i]? = some r := by rw [List.getElem?_eq_getElem hi, hrr]
            have hrm : r ∈ rs := List.mem_of_getElem? hri
            have S := hall r (by rw [hdr]; simp)
            have okr := L4.ok r hrm
            have aR : atI (rs.map fun r => V.ref r.x) (i : Int) = some (.ref r.x) := atI_nat (map_at hri)
            have aP : atI (rs.map fun r => V.ref r.q) (i : Int) = some (.ref r.q) := atI_nat (map_at hri)
            have nr := L4.nr r hrm
            obtain ⟨x, tk, gn, q, da, ga, past, gone⟩ := r
            dsimp only at aR aP
            simp only [Rs.ls, List.nodup_cons, List.mem_cons, List.not_mem_nil, or_false, not_or, List.nodup_nil, and_true, not_false_eq_true] at nr
            obtain ⟨_, _, ⟨c1, c2, c3, c4, c5⟩, ⟨d1, d2, d3, d4⟩, ⟨e1, e2, e3⟩, ⟨f1, f2⟩, f3⟩ := nr
            have hx : x ∉ Rs.ls ⟨x, tk, gn, q, da, ga, past, gone⟩ := S.xne
            simp only [Rs.ls, List.mem_cons, List.not_mem_nil, or_false, not_or] at hx
            obtain ⟨x1, x2, x3, x4⟩ := hx
            obtain ⟨ms, gs, g1, g2, g3, g4⟩ := S.ex
            have SR := S.R
            have Sq := S.q
            dsimp only at g1 g2 g3 g4 SR Sq
            obtain ⟨lp, lg⟩ : past.length ≤ TT + 1 ∧ gone.length ≤ TT + 1 := ⟨okr.lp, okr.lg⟩
            have okp : ∀ m ∈ past, MoOk TT m := okr.op
            have okg : ∀ m ∈ gone, MoOk TT m := okr.og
            have pne : past ≠ [] := okr.ne
            have hS5 : ∀ s ∈ [tk, gn, da], Mu CR H5 s := fun s hs => S.mu.2 s (by
              simp only [List.mem_cons, List.not_mem_nil, or_false] at hs
              rcases hs with rfl | rfl | rfl <;> simp [Rs.ls])
            refine ⟨_, rfl, _, rfl, pl, _, _, _, rfl, rfl, SqL.of epl, aP, q, _, rfl, SqT.of Sq, rfl, _, _, rfl, _, _, rfl, rfl, ?_⟩
            have okG : ∀ m ∈ past ++ gone.reverse, MoOk TT m := fun m hm => by
              rcases List.mem_append.mp hm with z | z
              · exact okp m z
              · exact okg m (List.mem_reverse.mp z)
            refine ⟨fun σ' H' => ∃ v4 v5 v6 v7 v11, σ' = [some (.ref a), some (.ref b), some (.ref rl), some (.ref pl), v4, v5, v6, v7, some (.int i), some (.ref da), some (.ref ga), v11] ∧ Kp [tk, gn, da] H5 H' ∧ RAt CH CR H' x tk gn (past ++ gone.reverse) [] ∧ H' da = some (.lst (ms ++ gs.reverse)) ∧ Paired (ModelAt H') (ms ++ gs.reverse) (past ++ gone.reverse), ?_, ?_⟩
            · -- all done again
              refine ⟨_, rfl, ga, gs, rfl, SqL.of g2, fun p np => ⟨p, rfl, ⟨_, SqL.of upd_same⟩, ?_⟩⟩
              have kp0 : Kp [] H5 (upd H5 p (.lst gs.reverse)) := Kp.new np
              have pn : p ∉ [tk, gn, da] := fun z => by
                rcases hS5 p z with q | ⟨xs, q⟩ | ⟨dx, fs, q⟩
                · obtain ⟨_, _, _, _, u1, u2, _⟩ := SR.ex
                  simp only [List.mem_cons, List.not_mem_nil, or_false] at z
                  rcases z with z | z | z
                  · rw [← z, np] at u1; cases u1
                  · rw [← z, np] at u2; cases u2
                  · rw [← z, np] at g1; cases g1
                · rw [np] at q; cases q
                · rw [np] at q; cases q
              have hSp : ∀ s ∈ [tk, gn, da], Mu CR (upd H5 p (.lst gs.reverse)) s := fun s hs => by
                have ne : s ≠ p := fun z => pn (by rw [← z]; exact hs)
                unfold Mu
                rw [upd_ne ne]
                exact hS5 s hs
              have no : ∀ {Hx : Hp}, ∀ s ∈ ([] : List Addr), Mu CR Hx s := fun s h => by cases h
              have lgs : gs.reverse.length = gone.reverse.length := by rw [List.length_reverse, List.length_reverse, paired_len g4]
              refine for_list (K := K) (a := p) (xs := gs.reverse) (fun j σ H' => ∃ v4 v5 v6 v7 v11, σ = [some (.ref a), some (.ref b), some (.ref rl), some (.ref pl), v4, v5, v6, v7, some (.int i), some (.ref da), some (.ref ga), v11] ∧ Kp [tk, gn, da] (upd H5 p (.lst gs.reverse)) H' ∧
                RAt CH CR H' x tk gn (past ++ gone.reverse.take j) (gone.reverse.drop j).reverse ∧ H' da = some (.lst (ms ++ gs.reverse.take j)))
                ⟨_, _, _, _, _, rfl, Kp.refl _ _, by simpa using SR.kp0 T kp0, by simpa using kp0.same _ _ g1⟩ (fun j σ H6 _ q => ?_) (fun j y σ H6 hy q => ?_) (fun σ H6 q => ?_)
              · obtain ⟨_, _, _, _, _, _, k6, _⟩ := q
                exact SqL.of (k6.keep _ _ upd_same pn)
              · obtain ⟨v4, v5, v6, v7, v11, rfl, k6, R6, e6⟩ := q
                have kp6 : Kp [tk, gn, da] H5 H6 := kp0.up.trans k6
                have hj : j < gone.reverse.length := by
                  have z := (List.getElem?_eq_some_iff.mp hy).1
                  omega
                have hm : gone.reverse[j]? = some gone.reverse[j] := List.getElem?_eq_getElem hj
                have edrop := drop_at hj
                have etake := take_succ_at hj
                have hmm : gone.reverse[j] ∈ gone.reverse := List.getElem_mem hj
                generalize gone.reverse[j] = m at hm edrop etake hmm
                have okm : MoOk TT m := okG m (by simp only [List.mem_append]; exact .inr hmm)
                obtain ⟨y', hy', My⟩ := paired_at2 (models_kp kp6 hS5 (paired_rev g4)) hm
                have ey : y = y' := Option.some.inj (hy.symm.trans hy')
                subst ey
                obtain ⟨md, d, rfl, M⟩ := model_md My
                have erl6 := kp6.keep _ _ erl (by simp [c2, c3, c4])
                have etk : gs.reverse.take (j + 1) = gs.reverse.take j ++ [V.ref md] := by rw [List.take_add_one, hy]; rfl
                have llen : (ms ++ gs.reverse.take j).length = (past ++ gone.reverse.take j).length := by
                  rw [List.length_append, List.length_append, paired_len g3, List.length_take, List.length_take, lgs]
                have lbig : (past ++ gone.reverse.take j).length ≤ 200 := by
                  rw [List.length_append, List.length_take, List.length_reverse]; omega
                refine ⟨_, rfl, .inl ⟨rfl, _, SqL.of e6⟩, _, rfl, da, _, _, rfl, rfl, e6, by rw [llen, sizeLine_eq]; omega, ?_⟩
                have k7 : Kp [da] H6 (upd H6 da (.lst (ms ++ gs.reverse.take j ++ [.ref md]))) := Kp.put e6 (fun _ z => by cases z)
                have mu6 : ∀ s ∈ [da], Mu CR H6 s := mu1 (mu_l e6)
                have R7 := R6.kp k7 mu6 T.ne (by simp [x3]) (by simp [e2]) (by simp [f1])
                have e7 : upd H6 da (.lst (ms ++ gs.reverse.take j ++ [.ref md])) da = some (.lst (ms ++ gs.reverse.take j ++ [.ref md])) := upd_same
                have erl7 := k7.keep _ _ erl6 (by simp [c4])
                have M7 : MdAt (upd H6 da (.lst (ms ++ gs.reverse.take j ++ [.ref md]))) md d m := ⟨k7.im (C := CR) mu6 M.1 im_dK, M.2.kp k7 mu6⟩
                generalize upd H6 da (.lst (ms ++ gs.reverse.take j ++ [.ref md])) = H7 at k7 R7 e7 erl7 M7 ⊢
                refine ⟨_, rfl, _, rfl, rl, _, _, _, rfl, rfl, SqL.of erl7, aR, (by show 0 ≤ sizeLine; decide), fun e ne => ?_⟩
                have k8 : Kp [] H7 (upd H7 e (.tup [])) := Kp.new ne
                rw [edrop] at R7
                refine ⟨x, tk, gn, 1, .ref e, rfl, e1, .inr (.inl ⟨rfl, _, _, R7.kp0 T k8, by omega, fun g m' hgm H9 k9 R9 => ?_, fun hgn => ?_⟩)⟩
                · obtain ⟨z1, z2⟩ := List.append_inj' hgm rfl
                  cases z2
                  subst z1
                  have k79 : Kp [tk, gn] H7 H9 := k8.up.trans k9
                  obtain ⟨_, _, _, _, t1, t2, _⟩ := R7.ex
                  have mu7 : ∀ s ∈ [tk, gn], Mu CR H7 s := mu2 (mu_l t1) (mu_l t2)
                  have e9 := k79.keep _ _ e7 (by simp [Ne.symm e2, Ne.symm f1])
                  have erl9 := k79.keep _ _ erl7 (by simp [c2, c3])
                  have M9 : MdAt H9 md d m := ⟨k79.im (C := CR) mu7 M7.1 im_dK, M7.2.kp k79 mu7⟩
                  refine ⟨rfl, _, rfl, iteF ?_⟩
                  refine ⟨_, rfl, _, rfl, rl, _, _, _, rfl, rfl, SqL.of erl9, aR, _, rfl, _, rfl, da, _, rfl, .inl (SqL.of e9), _, _, rfl, rfl, ?_⟩
                  refine ⟨x, tk, gn, md, d, past ++ gone.reverse.take j, _, m, ?_, R9, M9, Nat.lt_of_le_of_lt okm.len (by omega), okm.good, fun H10 k10 => ⟨_, rfl, iteF ?_⟩⟩
                  · show [V.ref x, V.ref md, V.int ((((ms ++ gs.reverse.take j ++ [V.ref md]).length : Nat) : Int) - 1)] = _
                    rw [List.length_append, llen, List.length_singleton]
                    congr 4
                    omega
                  · refine ⟨_, _, _, _, _, rfl, ((k6.trans (k7.mono (by simp))).trans (k79.mono (by simp))).and0 k10, ?_, ?_⟩
                    · rw [etake, ← List.append_assoc]
                      exact R9.kp0 T k10
                    · rw [etk, ← List.append_assoc]
                      exact k10.same _ _ e9
                · exact absurd hgn (by simp)
              · obtain ⟨v4, v5, v6, v7, v11, rfl, k6, R6, e6⟩ := q
                have kp6 : Kp [tk, gn, da] H5 H6 := kp0.up.trans k6
                rw [lgs, List.take_length, List.drop_length] at R6
                rw [List.take_length] at e6
                exact ⟨_, _, _, _, _, rfl, kp6, R6, e6, paired_append (models_kp kp6 hS5 g3) (models_kp kp6 hS5 (paired_rev g4))⟩
            rintro σ6 H6 ⟨v4, v5, v6, v7, v11, rfl, k6, R6, e6, P6⟩
            have erl6 := k6.keep _ _ erl (by simp [c2, c3, c4])
            have epl6 := k6.keep _ _ epl (by simp [d1, d2, d3])
            have lAB := paired_len P6
            generalize hA : past ++ gone.reverse = A at R6 P6 okG lAB
            generalize ms ++ gs.reverse = B at e6 P6 lAB
            have lA : A.length ≤ 200 := by rw [← hA, List.length_append, List.length_reverse]; omega
            have lA1 : 1 ≤ A.length := by
              rw [← hA, List.length_append]
              have : past.length ≠ 0 := fun z => pne (List.length_eq_zero_iff.mp z)
              omega
            clear hA g3 g4 g1 g2
            refine ⟨fun σ' H' => ∃ v4 v5 v6 v7 v11 m0 g', σ' = [some (.ref a), some (.ref b), some (.ref rl), some (.ref pl), v4, v5, v6, v7, some (.int i), some (.ref da), some (.ref ga), v11] ∧ Kp [tk, gn, da] H5 H' ∧ RAt CH CR H' x tk gn [m0] g' ∧ g'.length ≤ 900, ?_, ?_⟩
            · -- all taken back
              refine ⟨_, rfl, da, _, rfl, .inl (SqL.of e6), _, _, rfl, rfl, _, rfl, _, _, _, _, rfl, RgC.neg ?_ ?_ (by decide) (by decide), ?_⟩
              · rw [lAB]; omega
              · rw [lAB]; omega
              have en : (((B.length : Nat) : Int) - 1 - 0).toNat = A.length - 1 := by rw [lAB]; omega
              rw [en]
              refine for_rangeC (n := A.length - 1) (lo := (B.length : Int) - 1) (c := -1) (fun j σ H' => ∃ v4 v5 v6 v7 v11, σ = [some (.ref a), some (.ref b), some (.ref rl), some (.ref pl), v4, v5, v6, v7, some (.int i), some (.ref da), some (.ref ga), v11] ∧ Kp [tk, gn] H6 H' ∧
                RAt CH CR H' x tk gn (A.take (A.length - j)) (A.drop (A.length - j)).reverse)
                ⟨_, _, _, _, _, rfl, Kp.refl _ _, by simpa using R6⟩ (fun j σ H8 hj q => ?_) (fun σ H8 q => ?_)
              · obtain ⟨v4, v5, v6, v7, v11, rfl, k8, R8⟩ := q
                have mu6 : ∀ s ∈ [tk, gn], Mu CR H6 s := by
                  obtain ⟨_, _, _, _, t1, t2, _⟩ := R6.ex
                  exact mu2 (mu_l t1) (mu_l t2)
                have erl8 := k8.keep _ _ erl6 (by simp [c2, c3])
                have e8 := k8.keep _ _ e6 (by simp [Ne.symm e2, Ne.symm f1])
                obtain ⟨u, hu1⟩ : ∃ u, A.length - j = u + 2 := ⟨A.length - j - 2, by omega⟩
                have hu2 : A.length - (j + 1) = u + 1 := by omega
                rw [hu1] at R8
                have l1 : u + 1 < A.length := by omega
                have l0 : u < A.length := by omega
                have t2 := take_succ_at l1
                have t1 := take_succ_at l0
                have dd := drop_at l1
                rw [t2] at R8
                have hm : A[u]? = some A[u] := List.getElem?_eq_getElem l0
                have okm : MoOk TT A[u] := okG _ (List.getElem_mem l0)
                generalize A[u] = m at t1 hm okm
                generalize A[u + 1] = m2 at R8 dd
                obtain ⟨y, hy, My⟩ := paired_at2 (models_kp k8 mu6 P6) hm
                obtain ⟨md, d, rfl, M⟩ := model_md My
                have val : ((B.length : Int) - 1) + (j : Nat) * (-1) = ((u + 1 : Nat) : Int) := by rw [lAB]; omega
                rw [val]
                refine ⟨_, rfl, _, rfl, rl, _, _, _, rfl, rfl, SqL.of erl8, aR, (by show 0 ≤ sizeLine; decide), fun e ne => ?_⟩
                have k9 : Kp [] H8 (upd H8 e (.tup [])) := Kp.new ne
                refine ⟨x, tk, gn, 0, .ref e, rfl, e1, .inl ⟨rfl, A.take (u + 1), _, m2, R8.kp0 T k9, ?_, fun _ H10 k10 R10 => ?_, fun z => ?_⟩⟩
                · rw [List.length_reverse, List.length_drop]; omega
                · have k8a : Kp [tk, gn] H8 H10 := k9.up.trans k10
                  have mu8 : ∀ s ∈ [tk, gn], Mu CR H8 s := by
                    obtain ⟨_, _, _, _, t1, t2, _⟩ := R8.ex
                    exact mu2 (mu_l t1) (mu_l t2)
                  have erl10 := k8a.keep _ _ erl8 (by simp [c2, c3])
                  have e10 := k8a.keep _ _ e8 (by simp [Ne.symm e2, Ne.symm f1])
                  have M10 : MdAt H10 md d m := ⟨k8a.im (C := CR) mu8 M.1 im_dK, M.2.kp k8a mu8⟩
                  refine ⟨rfl, _, rfl, iteF ?_⟩
                  have vm : (((u + 1 : Nat) : Int) - 1) = (u : Int) := by omega
                  have hat : atI B (((u + 1 : Nat) : Int) - 1) = some (.ref md) := by rw [vm]; exact atI_nat hy
                  refine ⟨_, rfl, _, rfl, rl, _, _, _, rfl, rfl, SqL.of erl10, aR, _, rfl, _, rfl, _, _, rfl, rfl, da, _, _, _, rfl, rfl, SqL.of e10, hat, _, rfl, _, _, rfl, rfl, ?_⟩
                  have R11 := R10
                  rw [t1] at R11
                  refine ⟨x, tk, gn, md, d, A.take u, _, m, ?_, R11, M10, Nat.lt_of_le_of_lt okm.len (by omega), okm.good, fun H11 k11 => ⟨_, rfl, iteF ?_⟩⟩
                  · show [V.ref x, V.ref md, V.int (((u + 1 : Nat) : Int) - 1)] = _
                    rw [vm, List.length_take]
                    congr 4
                    omega
                  · refine ⟨_, _, _, _, _, rfl, (k8.trans k8a).and0 k11, ?_⟩
                    rw [hu2, dd]
                    exact R10.kp0 T k11
                · have q := congrArg List.length z
                  rw [List.length_take, List.length_nil] at q
                  omega
              · obtain ⟨v4, v5, v6, v7, v11, rfl, k8, R8⟩ := q
                have z : A.length - (A.length - 1) = 1 := by omega
                rw [z] at R8
                have t1 := take_succ_at (xs := A) (i := 0) (by omega)
                rw [t1] at R8
                refine ⟨_, _, _, _, _, _, _, rfl, k6.trans (k8.mono (by simp)), R8, ?_⟩
                rw [List.length_reverse, List.length_drop]
                omega
            rintro σ7 H7 ⟨v4, v5, v6, v7, v11, m0, g', rfl, k7, R7, lg'⟩
            have erl7 := k7.keep _ _ erl (by simp [c2, c3, c4])
            have epl7 := k7.keep _ _ epl (by simp [d1, d2, d3])
            refine ⟨_, rfl, _, rfl, rl, _, _, _, rfl, rfl, SqL.of erl7, aR, (by show 0 ≤ sizeLine; decide), fun e ne => ?_⟩
            have k8 : Kp [] H7 (upd H7 e (.tup [])) := Kp.new ne
            refine ⟨x, tk, gn, 0, .ref e, rfl, e1, .inl ⟨rfl, [], g', m0, R7.kp0 T k8, lg', fun z => absurd rfl z, fun _ H9 k9 => ?_⟩⟩
            refine ⟨rfl, _, rfl, iteF ?_⟩
            have k79 := k8.trans k9
            refine ⟨_, _, _, _, _, _, _, _, rfl, k79.same _ _ erl7, k79.same _ _ epl7, fun r' hr' => ?_⟩
            have hr2 : r' ∈ rs.drop i := by rw [hdr]; simp [hr']
            have ap : Apart ⟨x, tk, gn, q, da, ga, past, gone⟩ r' := by
              have z : (rs.drop i).Pairwise Apart := L4.pw.sublist (List.drop_sublist _ _)
              rw [hdr] at z
              exact (List.pairwise_cons.mp z).1 r' hr'
            have S' := hall r' hr2
            have xl := LW.xl S' S
            refine (S'.kp T k7 hS5 (fun z => xl ?_) (fun c hc z => ap.2 c ?_ hc)).kp0 T k79
            · simp only [Rs.ls, List.mem_cons, List.not_mem_nil, or_false] at z ⊢
              rcases z with z | z | z <;> simp [z]
            · simp only [Rs.ls, List.mem_cons, List.not_mem_nil, or_false] at z ⊢
              rcases z with z | z | z <;> simp [z]
          · exact k _
end
end Pk

namespace Pk
open PySem PySem.Spec PyProof.Rows L2
theorem exm_any {K : PySem.W.Frag} {t : Value} {S : Addr} {r : Bool} (h1 : PySem.W.subIn K (.ref S) (.type "BaseException") = some true) (h2 : PySem.W.isClsIn K S = true) (h3 : PySem.W.typeIn K (.ref S) = some (.type "type")) (h4 : PySem.W.subIn K t (.ref S) = some r) :
    PySem.W.exmOne K t (.ref S) = some r := by
  unfold PySem.W.exmOne
  rw [h1, if_pos (by simp)]
  show (if ((PySem.W.clsIn K S).isSome && PySem.W.typeIn K (.ref S) == some (.type "type")) = true then PySem.W.subIn K t (.ref S) else none) = some r
  have h2' : (PySem.W.clsIn K S).isSome = true := h2
  rw [h2', h3, if_pos (by simp)]
  exact h4
theorem kit_own {K : PySem.W.Frag} {T : String} {C : Addr} {l : List Value} (h2 : PySem.W.isClsIn K C = true) (h3 : PySem.W.typeIn K (.ref C) = some (.type "type")) (e : fastBuiltinMro T = some l) (h : l.contains (Value.ref C) = false) :
    PySem.W.kitOne K (.type T) (.ref C) = some false := by
  have h2' : (PySem.W.clsIn K C).isSome = true := h2
  unfold PySem.W.kitOne
  rw [if_neg (by simp)]
  show (if ((PySem.W.clsIn K C).isSome && PySem.W.typeIn K (.ref C) == some (.type "type")) = true then PySem.W.subIn K (.type T) (.ref C) else none) = some false
  rw [h2', h3, if_pos (by simp)]
  show (fastBuiltinMro T).map (·.contains (Value.ref C)) = some false
  rw [e]
  show some (l.contains (Value.ref C)) = some false
  rw [h]
theorem kit_me {K : PySem.W.Frag} {C : Addr} : PySem.W.kitOne K (.ref C) (.ref C) = some true := by
  unfold PySem.W.kitOne
  rw [if_pos (by simp)]
theorem tup_K {K : PySem.W.Frag} {a : Addr} {dd : Option Addr} {its : Array Value} {n : Nat} {sl : Array (Option Value)} {xs : List V} (l : K.lookup a = some ⟨.type "tuple", dd, .seq its n, sl⟩) (hz : its.size ≤ 16) (r : Vals xs its.toList) (H : Hp) : SqT K H a xs :=
  .inr ⟨_, its, n, l, rfl, rfl, Nat.le_trans hz (by decide), r⟩
theorem all_mk {l : PySem.W.OpenLaw} {w : World} {K : PySem.W.Frag} {h : Heap} {mg : Str → Option Value} {fa : Addr} {CH CR CP CM CO CN CF fhI frI frEq frLen frGo frTell frFo frRight frStrike frUndo frRedo frFacts frTold frDeeds frTwin fgg fgt fnf fbag fpull flike ffar fgate fday fboard fpassing fstretch ffact fplace fnew fdeed fdone fcopied fflist fstands ftold fturn falls flaw fxP fxM fxO fxN fxF dk dl ttoll tboard ttrust tfolk tbargain tpass tlost tpaid tLgate tLcarriage tLtrust tLday tLminute tLhalves tLhorses tLcoins : Addr} (X : K.In h) (G : h.Ns mainGlobals mg) (hfa : mg "law" = some (.ref fa))
    {odhI anhI : Option Addr} {slhI : Array (Option Value)} {ochI kVhI dchI pmhI cdhI cthI : Value}
    {odrI anrI : Option Addr} {slrI : Array (Option Value)} {ocrI kVrI dcrI pmrI cdrI ctrI : Value}
    {odrEq anrEq : Option Addr} {slrEq : Array (Option Value)} {ocrEq kVrEq dcrEq pmrEq cdrEq ctrEq : Value}
    {odrLen anrLen : Option Addr} {slrLen : Array (Option Value)} {ocrLen kVrLen dcrLen pmrLen cdrLen ctrLen : Value}
    {odrGo anrGo : Option Addr} {slrGo : Array (Option Value)} {ocrGo kVrGo dcrGo pmrGo cdrGo ctrGo : Value}
    {odrTell anrTell : Option Addr} {slrTell : Array (Option Value)} {ocrTell kVrTell dcrTell pmrTell cdrTell ctrTell : Value}
    {odrFo anrFo : Option Addr} {slrFo : Array (Option Value)} {ocrFo kVrFo dcrFo pmrFo cdrFo ctrFo : Value}
    {odrRight anrRight : Option Addr} {slrRight : Array (Option Value)} {ocrRight kVrRight dcrRight pmrRight cdrRight ctrRight : Value}
    {odrStrike anrStrike : Option Addr} {slrStrike : Array (Option Value)} {ocrStrike kVrStrike dcrStrike pmrStrike cdrStrike ctrStrike : Value}
    {odrUndo anrUndo : Option Addr} {slrUndo : Array (Option Value)} {ocrUndo kVrUndo dcrUndo pmrUndo cdrUndo ctrUndo : Value}
    {odrRedo anrRedo : Option Addr} {slrRedo : Array (Option Value)} {ocrRedo kVrRedo dcrRedo pmrRedo cdrRedo ctrRedo : Value}
    {odrFacts anrFacts : Option Addr} {slrFacts : Array (Option Value)} {ocrFacts kVrFacts dcrFacts pmrFacts cdrFacts ctrFacts : Value}
    {odrTold anrTold : Option Addr} {slrTold : Array (Option Value)} {ocrTold kVrTold dcrTold pmrTold cdrTold ctrTold : Value}
    {odrDeeds anrDeeds : Option Addr} {slrDeeds : Array (Option Value)} {ocrDeeds kVrDeeds dcrDeeds pmrDeeds cdrDeeds ctrDeeds : Value}
    {odrTwin anrTwin : Option Addr} {slrTwin : Array (Option Value)} {ocrTwin kVrTwin dcrTwin pmrTwin cdrTwin ctrTwin : Value}
    {odgg angg : Option Addr} {slgg : Array (Option Value)} {ocgg kVgg dcgg pmgg cdgg ctgg : Value}
    {odgt angt : Option Addr} {slgt : Array (Option Value)} {ocgt kVgt dcgt pmgt cdgt ctgt : Value}
    {odnf annf : Option Addr} {slnf : Array (Option Value)} {ocnf kVnf dcnf pmnf cdnf ctnf : Value}
    {odbag anbag : Option Addr} {slbag : Array (Option Value)} {ocbag kVbag dcbag pmbag cdbag ctbag : Value}
    {odpull anpull : Option Addr} {slpull : Array (Option Value)} {ocpull kVpull dcpull pmpull cdpull ctpull : Value}
    {odlike anlike : Option Addr} {sllike : Array (Option Value)} {oclike kVlike dclike pmlike cdlike ctlike : Value}
    {odfar anfar : Option Addr} {slfar : Array (Option Value)} {ocfar kVfar dcfar pmfar cdfar ctfar : Value}
    {odgate angate : Option Addr} {slgate : Array (Option Value)} {ocgate kVgate dcgate pmgate cdgate ctgate : Value}
    {odday anday : Option Addr} {slday : Array (Option Value)} {ocday kVday dcday pmday cdday ctday : Value}
    {odboard anboard : Option Addr} {slboard : Array (Option Value)} {ocboard kVboard dcboard pmboard cdboard ctboard : Value}
    {odpassing anpassing : Option Addr} {slpassing : Array (Option Value)} {ocpassing kVpassing dcpassing pmpassing cdpassing ctpassing : Value}
    {odstretch anstretch : Option Addr} {slstretch : Array (Option Value)} {ocstretch kVstretch dcstretch pmstretch cdstretch ctstretch : Value}
    {odfact anfact : Option Addr} {slfact : Array (Option Value)} {ocfact kVfact dcfact pmfact cdfact ctfact : Value}
    {odplace anplace : Option Addr} {slplace : Array (Option Value)} {ocplace kVplace dcplace pmplace cdplace ctplace : Value}
    {odnew annew : Option Addr} {slnew : Array (Option Value)} {ocnew kVnew dcnew pmnew cdnew ctnew : Value}
    {oddeed andeed : Option Addr} {sldeed : Array (Option Value)} {ocdeed kVdeed dcdeed pmdeed cddeed ctdeed : Value}
    {oddone andone : Option Addr} {sldone : Array (Option Value)} {ocdone kVdone dcdone pmdone cddone ctdone : Value}
    {odcopied ancopied : Option Addr} {slcopied : Array (Option Value)} {occopied kVcopied dccopied pmcopied cdcopied ctcopied : Value}
    {odflist anflist : Option Addr} {slflist : Array (Option Value)} {ocflist kVflist dcflist pmflist cdflist ctflist : Value}
    {odstands anstands : Option Addr} {slstands : Array (Option Value)} {ocstands kVstands dcstands pmstands cdstands ctstands : Value}
    {odtold antold : Option Addr} {sltold : Array (Option Value)} {octold kVtold dctold pmtold cdtold cttold : Value}
    {odturn anturn : Option Addr} {slturn : Array (Option Value)} {octurn kVturn dcturn pmturn cdturn ctturn : Value}
    {odalls analls : Option Addr} {slalls : Array (Option Value)} {ocalls kValls dcalls pmalls cdalls ctalls : Value}
    {odlaw anlaw : Option Addr} {sllaw : Array (Option Value)} {oclaw kVlaw dclaw pmlaw cdlaw ctlaw : Value}
    {odxP anxP : Option Addr} {slxP : Array (Option Value)} {ocxP kVxP dcxP pmxP cdxP ctxP : Value}
    {odxM anxM : Option Addr} {slxM : Array (Option Value)} {ocxM kVxM dcxM pmxM cdxM ctxM : Value}
    {nmO qnO : Str} {nsO : Addr} {bsO bmO : List Value} {snO : List Str} {suO : List Value} {abO : Bool} {coO : Option Bool} {ddO : Option Addr} {m0O m1O m2O m3O m5O : Option Value}
    {odxO anxO : Option Addr} {slxO : Array (Option Value)} {ocxO kVxO dcxO pmxO cdxO ctxO : Value}
    {nmN qnN : Str} {nsN : Addr} {bsN bmN : List Value} {snN : List Str} {suN : List Value} {abN : Bool} {coN : Option Bool} {ddN : Option Addr} {m0N m1N m2N m3N m5N : Option Value}
    {odxN anxN : Option Addr} {slxN : Array (Option Value)} {ocxN kVxN dcxN pmxN cdxN ctxN : Value}
    {nmF qnF : Str} {nsF : Addr} {bsF bmF : List Value} {snF : List Str} {suF : List Value} {abF : Bool} {coF : Option Bool} {ddF : Option Addr} {m0F m1F m2F m3F m5F : Option Value}
    {odxF anxF : Option Addr} {slxF : Array (Option Value)} {ocxF kVxF dcxF pmxF cdxF ctxF : Value}
    {tM : Tok} {esK esL : Array DictEntry} {nK nL : Nat}
    {dttoll : Option Addr} {nttoll : Nat} {sttoll : Array (Option Value)} {utoll0 utoll1 utoll2 : Tok}
    {dtboard : Option Addr} {ntboard : Nat} {stboard : Array (Option Value)} {uboard0 uboard1 uboard2 : Tok}
    {dttrust : Option Addr} {nttrust : Nat} {sttrust : Array (Option Value)} {utrust0 utrust1 utrust2 : Tok}
    {dtfolk : Option Addr} {ntfolk : Nat} {stfolk : Array (Option Value)} {ufolk0 ufolk1 ufolk2 : Tok}
    {dtbargain : Option Addr} {ntbargain : Nat} {stbargain : Array (Option Value)} {ubargain0 ubargain1 ubargain2 ubargain3 : Tok}
    {dtpass : Option Addr} {ntpass : Nat} {stpass : Array (Option Value)} {upass0 upass1 upass2 upass3 upass4 : Tok}
    {dtlost : Option Addr} {ntlost : Nat} {stlost : Array (Option Value)} {ulost0 ulost1 : Tok}
    {dtpaid : Option Addr} {ntpaid : Nat} {stpaid : Array (Option Value)} {upaid0 upaid1 upaid2 : Tok}
    {dtLgate : Option Addr} {ntLgate : Nat} {stLgate : Array (Option Value)} {uLgate0 uLgate1 : Tok}
    {dtLcarriage : Option Addr} {ntLcarriage : Nat} {stLcarriage : Array (Option Value)} {uLcarriage0 uLcarriage1 : Tok}
    {dtLtrust : Option Addr} {ntLtrust : Nat} {stLtrust : Array (Option Value)} {uLtrust0 uLtrust1 : Tok}
    {dtLday : Option Addr} {ntLday : Nat} {stLday : Array (Option Value)} {uLday0 uLday1 : Tok}
    {dtLminute : Option Addr} {ntLminute : Nat} {stLminute : Array (Option Value)} {uLminute0 uLminute1 : Tok}
    {dtLhalves : Option Addr} {ntLhalves : Nat} {stLhalves : Array (Option Value)} {uLhalves0 uLhalves1 : Tok}
    {dtLhorses : Option Addr} {ntLhorses : Nat} {stLhorses : Array (Option Value)} {uLhorses0 uLhorses1 : Tok}
    {dtLcoins : Option Addr} {ntLcoins : Nat} {stLcoins : Array (Option Value)} {uLcoins0 uLcoins1 : Tok}
    (gH : PySem.W.nsIn K mainGlobals "Hold" = some (some (.ref CH)))
    (gR : PySem.W.nsIn K mainGlobals "Roll" = some (some (.ref CR)))
    (gP : PySem.W.nsIn K mainGlobals "PikeError" = some (some (.ref CP)))
    (gM : PySem.W.nsIn K mainGlobals "Missing" = some (some (.ref CM)))
    (gO : PySem.W.nsIn K mainGlobals "Other" = some (some (.ref CO)))
    (gN : PySem.W.nsIn K mainGlobals "Nothing" = some (some (.ref CN)))
    (gF : PySem.W.nsIn K mainGlobals "NoFact" = some (some (.ref CF)))
    (pgH : PySem.W.plainGet K CH Str.empty = true)
    (hdH : PySem.W.hasDictIn K CH = true)
    (poH : PySem.W.plainOver K CH = true)
    (saH : PySem.W.findIn K (.ref CH) "__setattr__" = some (some (.builtin "object.__setattr__")))
    (mkH : PySem.W.makesIn K CH = true)
    (kcH : PySem.W.keepIn K (.ref CH) = true)
    (pgR : PySem.W.plainGet K CR Str.empty = true)
    (hdR : PySem.W.hasDictIn K CR = true)
    (poR : PySem.W.plainOver K CR = true)
    (saR : PySem.W.findIn K (.ref CR) "__setattr__" = some (some (.builtin "object.__setattr__")))
    (mkR : PySem.W.makesIn K CR = true)
    (kcR : PySem.W.keepIn K (.ref CR) = true)
    (naH : PySem.W.findIn K (.ref CH) "there" = some none)
    (nbH : PySem.W.findIn K (.ref CH) "many_told" = some none)
    (naR : PySem.W.findIn K (.ref CR) "times_kept" = some none)
    (nbR : PySem.W.findIn K (.ref CR) "gone" = some none)
    (ne : CH ≠ CR)
    (z_len : PySem.W.nsIn K mainGlobals "len" = some none)
    (z_list : PySem.W.nsIn K mainGlobals "list" = some none)
    (z_range : PySem.W.nsIn K mainGlobals "range" = some none)
    (z_tuple : PySem.W.nsIn K mainGlobals "tuple" = some none)
    (z_int : PySem.W.nsIn K mainGlobals "int" = some none)
    (z_isinstance : PySem.W.nsIn K mainGlobals "isinstance" = some none)
    (z_sorted : PySem.W.nsIn K mainGlobals "sorted" = some none)
    (z_dict : PySem.W.nsIn K mainGlobals "dict" = some none)
    (z_enumerate : PySem.W.nsIn K mainGlobals "enumerate" = some none)
    (z_zip : PySem.W.nsIn K mainGlobals "zip" = some none)
    (z_all : PySem.W.nsIn K mainGlobals "all" = some none)
    (z_bool : PySem.W.nsIn K mainGlobals "bool" = some none)
    (z_repr : PySem.W.nsIn K mainGlobals "repr" = some none)
    (ahI : PySem.W.findIn K (.ref CH) "__init__" = some (some (.ref fhI)))
    (ihI : PySem.W.isFn K (.ref fhI) = true)
    (lhI : K.lookup fhI = some ⟨ochI, odhI, .func (PySem.W.fnOf "__init__" "Hold.__init__" (defArgs sHI) (defBody sHI) (defScope sHI) .none kVhI dchI pmhI anhI cdhI cthI), slhI⟩)
    (chI : PySem.W.codeIn K cdhI "Hold.__init__" = true)
    (khI : PySem.W.keepIn K (.ref fhI) = true)
    (arI : PySem.W.findIn K (.ref CR) "__init__" = some (some (.ref frI)))
    (irI : PySem.W.isFn K (.ref frI) = true)
    (lrI : K.lookup frI = some ⟨ocrI, odrI, .func (PySem.W.fnOf "__init__" "Roll.__init__" (defArgs sRI) (defBody sRI) (defScope sRI) .none kVrI dcrI pmrI anrI cdrI ctrI), slrI⟩)
    (crI : PySem.W.codeIn K cdrI "Roll.__init__" = true)
    (krI : PySem.W.keepIn K (.ref frI) = true)
    (arEq : PySem.W.findIn K (.ref CR) "__eq__" = some (some (.ref frEq)))
    (irEq : PySem.W.isFn K (.ref frEq) = true)
    (lrEq : K.lookup frEq = some ⟨ocrEq, odrEq, .func (PySem.W.fnOf "__eq__" "Roll.__eq__" (defArgs sREq) (defBody sREq) (defScope sREq) .none kVrEq dcrEq pmrEq anrEq cdrEq ctrEq), slrEq⟩)
    (crEq : PySem.W.codeIn K cdrEq "Roll.__eq__" = true)
    (krEq : PySem.W.keepIn K (.ref frEq) = true)
    (arLen : PySem.W.findIn K (.ref CR) "__len__" = some (some (.ref frLen)))
    (irLen : PySem.W.isFn K (.ref frLen) = true)
    (lrLen : K.lookup frLen = some ⟨ocrLen, odrLen, .func (PySem.W.fnOf "__len__" "Roll.__len__" (defArgs sRLen) (defBody sRLen) (defScope sRLen) .none kVrLen dcrLen pmrLen anrLen cdrLen ctrLen), slrLen⟩)
    (crLen : PySem.W.codeIn K cdrLen "Roll.__len__" = true)
    (krLen : PySem.W.keepIn K (.ref frLen) = true)
    (arGo : PySem.W.findIn K (.ref CR) "go_on" = some (some (.ref frGo)))
    (irGo : PySem.W.isFn K (.ref frGo) = true)
    (lrGo : K.lookup frGo = some ⟨ocrGo, odrGo, .func (PySem.W.fnOf "go_on" "Roll.go_on" (defArgs sRGo) (defBody sRGo) (defScope sRGo) .none kVrGo dcrGo pmrGo anrGo cdrGo ctrGo), slrGo⟩)
    (crGo : PySem.W.codeIn K cdrGo "Roll.go_on" = true)
    (krGo : PySem.W.keepIn K (.ref frGo) = true)
    (arTell : PySem.W.findIn K (.ref CR) "tell" = some (some (.ref frTell)))
    (irTell : PySem.W.isFn K (.ref frTell) = true)
    (lrTell : K.lookup frTell = some ⟨ocrTell, odrTell, .func (PySem.W.fnOf "tell" "Roll.tell" (defArgs sRTell) (defBody sRTell) (defScope sRTell) .none kVrTell dcrTell pmrTell anrTell cdrTell ctrTell), slrTell⟩)
    (crTell : PySem.W.codeIn K cdrTell "Roll.tell" = true)
    (krTell : PySem.W.keepIn K (.ref frTell) = true)
    (arFo : PySem.W.findIn K (.ref CR) "fact_of" = some (some (.ref frFo)))
    (irFo : PySem.W.isFn K (.ref frFo) = true)
    (lrFo : K.lookup frFo = some ⟨ocrFo, odrFo, .func (PySem.W.fnOf "fact_of" "Roll.fact_of" (defArgs sRFo) (defBody sRFo) (defScope sRFo) .none kVrFo dcrFo pmrFo anrFo cdrFo ctrFo), slrFo⟩)
    (crFo : PySem.W.codeIn K cdrFo "Roll.fact_of" = true)
    (krFo : PySem.W.keepIn K (.ref frFo) = true)
    (arRight : PySem.W.findIn K (.ref CR) "right" = some (some (.ref frRight)))
    (irRight : PySem.W.isFn K (.ref frRight) = true)
    (lrRight : K.lookup frRight = some ⟨ocrRight, odrRight, .func (PySem.W.fnOf "right" "Roll.right" (defArgs sRRight) (defBody sRRight) (defScope sRRight) .none kVrRight dcrRight pmrRight anrRight cdrRight ctrRight), slrRight⟩)
    (crRight : PySem.W.codeIn K cdrRight "Roll.right" = true)
    (krRight : PySem.W.keepIn K (.ref frRight) = true)
    (arStrike : PySem.W.findIn K (.ref CR) "strike" = some (some (.ref frStrike)))
    (irStrike : PySem.W.isFn K (.ref frStrike) = true)
    (lrStrike : K.lookup frStrike = some ⟨ocrStrike, odrStrike, .func (PySem.W.fnOf "strike" "Roll.strike" (defArgs sRStrike) (defBody sRStrike) (defScope sRStrike) .none kVrStrike dcrStrike pmrStrike anrStrike cdrStrike ctrStrike), slrStrike⟩)
    (crStrike : PySem.W.codeIn K cdrStrike "Roll.strike" = true)
    (krStrike : PySem.W.keepIn K (.ref frStrike) = true)
    (arUndo : PySem.W.findIn K (.ref CR) "undo" = some (some (.ref frUndo)))
    (irUndo : PySem.W.isFn K (.ref frUndo) = true)
    (lrUndo : K.lookup frUndo = some ⟨ocrUndo, odrUndo, .func (PySem.W.fnOf "undo" "Roll.undo" (defArgs sRUndo) (defBody sRUndo) (defScope sRUndo) .none kVrUndo dcrUndo pmrUndo anrUndo cdrUndo ctrUndo), slrUndo⟩)
    (crUndo : PySem.W.codeIn K cdrUndo "Roll.undo" = true)
    (krUndo : PySem.W.keepIn K (.ref frUndo) = true)
    (arRedo : PySem.W.findIn K (.ref CR) "redo" = some (some (.ref frRedo)))
    (irRedo : PySem.W.isFn K (.ref frRedo) = true)
    (lrRedo : K.lookup frRedo = some ⟨ocrRedo, odrRedo, .func (PySem.W.fnOf "redo" "Roll.redo" (defArgs sRRedo) (defBody sRRedo) (defScope sRRedo) .none kVrRedo dcrRedo pmrRedo anrRedo cdrRedo ctrRedo), slrRedo⟩)
    (crRedo : PySem.W.codeIn K cdrRedo "Roll.redo" = true)
    (krRedo : PySem.W.keepIn K (.ref frRedo) = true)
    (arFacts : PySem.W.findIn K (.ref CR) "facts" = some (some (.ref frFacts)))
    (irFacts : PySem.W.isFn K (.ref frFacts) = true)
    (lrFacts : K.lookup frFacts = some ⟨ocrFacts, odrFacts, .func (PySem.W.fnOf "facts" "Roll.facts" (defArgs sRFacts) (defBody sRFacts) (defScope sRFacts) .none kVrFacts dcrFacts pmrFacts anrFacts cdrFacts ctrFacts), slrFacts⟩)
    (crFacts : PySem.W.codeIn K cdrFacts "Roll.facts" = true)
    (krFacts : PySem.W.keepIn K (.ref frFacts) = true)
    (arTold : PySem.W.findIn K (.ref CR) "told" = some (some (.ref frTold)))
    (irTold : PySem.W.isFn K (.ref frTold) = true)
    (lrTold : K.lookup frTold = some ⟨ocrTold, odrTold, .func (PySem.W.fnOf "told" "Roll.told" (defArgs sRTold) (defBody sRTold) (defScope sRTold) .none kVrTold dcrTold pmrTold anrTold cdrTold ctrTold), slrTold⟩)
    (crTold : PySem.W.codeIn K cdrTold "Roll.told" = true)
    (krTold : PySem.W.keepIn K (.ref frTold) = true)
    (arDeeds : PySem.W.findIn K (.ref CR) "deeds" = some (some (.ref frDeeds)))
    (irDeeds : PySem.W.isFn K (.ref frDeeds) = true)
    (lrDeeds : K.lookup frDeeds = some ⟨ocrDeeds, odrDeeds, .func (PySem.W.fnOf "deeds" "Roll.deeds" (defArgs sRDeeds) (defBody sRDeeds) (defScope sRDeeds) .none kVrDeeds dcrDeeds pmrDeeds anrDeeds cdrDeeds ctrDeeds), slrDeeds⟩)
    (crDeeds : PySem.W.codeIn K cdrDeeds "Roll.deeds" = true)
    (krDeeds : PySem.W.keepIn K (.ref frDeeds) = true)
    (arTwin : PySem.W.findIn K (.ref CR) "twin" = some (some (.ref frTwin)))
    (irTwin : PySem.W.isFn K (.ref frTwin) = true)
    (lrTwin : K.lookup frTwin = some ⟨ocrTwin, odrTwin, .func (PySem.W.fnOf "twin" "Roll.twin" (defArgs sRTwin) (defBody sRTwin) (defScope sRTwin) .none kVrTwin dcrTwin pmrTwin anrTwin cdrTwin ctrTwin), slrTwin⟩)
    (crTwin : PySem.W.codeIn K cdrTwin "Roll.twin" = true)
    (krTwin : PySem.W.keepIn K (.ref frTwin) = true)
    (agg : PySem.W.nsIn K mainGlobals "good_gates" = some (some (.ref fgg)))
    (lgg : K.lookup fgg = some ⟨ocgg, odgg, .func (PySem.W.fnOf "good_gates" "good_gates" (defArgs sGg) (defBody sGg) (defScope sGg) .none kVgg dcgg pmgg angg cdgg ctgg), slgg⟩)
    (cgg : PySem.W.codeIn K cdgg "good_gates" = true)
    (kgg : PySem.W.keepIn K (.ref fgg) = true)
    (agt : PySem.W.nsIn K mainGlobals "good_thing" = some (some (.ref fgt)))
    (lgt : K.lookup fgt = some ⟨ocgt, odgt, .func (PySem.W.fnOf "good_thing" "good_thing" (defArgs sGt) (defBody sGt) (defScope sGt) .none kVgt dcgt pmgt angt cdgt ctgt), slgt⟩)
    (cgt : PySem.W.codeIn K cdgt "good_thing" = true)
    (kgt : PySem.W.keepIn K (.ref fgt) = true)
    (anf : PySem.W.nsIn K mainGlobals "need_fact" = some (some (.ref fnf)))
    (lnf : K.lookup fnf = some ⟨ocnf, odnf, .func (PySem.W.fnOf "need_fact" "need_fact" (defArgs sNf) (defBody sNf) (defScope sNf) .none kVnf dcnf pmnf annf cdnf ctnf), slnf⟩)
    (cnf : PySem.W.codeIn K cdnf "need_fact" = true)
    (knf : PySem.W.keepIn K (.ref fnf) = true)
    (abag : PySem.W.nsIn K mainGlobals "_law_bag" = some (some (.ref fbag)))
    (lbag : K.lookup fbag = some ⟨ocbag, odbag, .func (PySem.W.fnOf "_law_bag" "_law_bag" (defArgs sBag) (defBody sBag) (defScope sBag) .none kVbag dcbag pmbag anbag cdbag ctbag), slbag⟩)
    (cbag : PySem.W.codeIn K cdbag "_law_bag" = true)
    (kbag : PySem.W.keepIn K (.ref fbag) = true)
    (apull : PySem.W.nsIn K mainGlobals "_law_pull" = some (some (.ref fpull)))
    (lpull : K.lookup fpull = some ⟨ocpull, odpull, .func (PySem.W.fnOf "_law_pull" "_law_pull" (defArgs sPull) (defBody sPull) (defScope sPull) .none kVpull dcpull pmpull anpull cdpull ctpull), slpull⟩)
    (cpull : PySem.W.codeIn K cdpull "_law_pull" = true)
    (kpull : PySem.W.keepIn K (.ref fpull) = true)
    (alike : PySem.W.nsIn K mainGlobals "_law_like" = some (some (.ref flike)))
    (llike : K.lookup flike = some ⟨oclike, odlike, .func (PySem.W.fnOf "_law_like" "_law_like" (defArgs sLike) (defBody sLike) (defScope sLike) .none kVlike dclike pmlike anlike cdlike ctlike), sllike⟩)
    (clike : PySem.W.codeIn K cdlike "_law_like" = true)
    (klike : PySem.W.keepIn K (.ref flike) = true)
    (afar : PySem.W.nsIn K mainGlobals "_law_far" = some (some (.ref ffar)))
    (lfar : K.lookup ffar = some ⟨ocfar, odfar, .func (PySem.W.fnOf "_law_far" "_law_far" (defArgs sFar) (defBody sFar) (defScope sFar) .none kVfar dcfar pmfar anfar cdfar ctfar), slfar⟩)
    (cfar : PySem.W.codeIn K cdfar "_law_far" = true)
    (kfar : PySem.W.keepIn K (.ref ffar) = true)
    (agate : PySem.W.nsIn K mainGlobals "_law_gate" = some (some (.ref fgate)))
    (lgate : K.lookup fgate = some ⟨ocgate, odgate, .func (PySem.W.fnOf "_law_gate" "_law_gate" (defArgs sGate) (defBody sGate) (defScope sGate) .none kVgate dcgate pmgate angate cdgate ctgate), slgate⟩)
    (cgate : PySem.W.codeIn K cdgate "_law_gate" = true)
    (kgate : PySem.W.keepIn K (.ref fgate) = true)
    (aday : PySem.W.nsIn K mainGlobals "_law_day" = some (some (.ref fday)))
    (lday : K.lookup fday = some ⟨ocday, odday, .func (PySem.W.fnOf "_law_day" "_law_day" (defArgs sDay) (defBody sDay) (defScope sDay) .none kVday dcday pmday anday cdday ctday), slday⟩)
    (cday : PySem.W.codeIn K cdday "_law_day" = true)
    (kday : PySem.W.keepIn K (.ref fday) = true)
    (aboard : PySem.W.nsIn K mainGlobals "_law_board" = some (some (.ref fboard)))
    (lboard : K.lookup fboard = some ⟨ocboard, odboard, .func (PySem.W.fnOf "_law_board" "_law_board" (defArgs sBoard) (defBody sBoard) (defScope sBoard) .none kVboard dcboard pmboard anboard cdboard ctboard), slboard⟩)
    (cboard : PySem.W.codeIn K cdboard "_law_board" = true)
    (kboard : PySem.W.keepIn K (.ref fboard) = true)
    (apassing : PySem.W.nsIn K mainGlobals "_law_passing" = some (some (.ref fpassing)))
    (lpassing : K.lookup fpassing = some ⟨ocpassing, odpassing, .func (PySem.W.fnOf "_law_passing" "_law_passing" (defArgs sPassing) (defBody sPassing) (defScope sPassing) .none kVpassing dcpassing pmpassing anpassing cdpassing ctpassing), slpassing⟩)
    (cpassing : PySem.W.codeIn K cdpassing "_law_passing" = true)
    (kpassing : PySem.W.keepIn K (.ref fpassing) = true)
    (astretch : PySem.W.nsIn K mainGlobals "_law_stretch" = some (some (.ref fstretch)))
    (lstretch : K.lookup fstretch = some ⟨ocstretch, odstretch, .func (PySem.W.fnOf "_law_stretch" "_law_stretch" (defArgs sStretch) (defBody sStretch) (defScope sStretch) .none kVstretch dcstretch pmstretch anstretch cdstretch ctstretch), slstretch⟩)
    (cstretch : PySem.W.codeIn K cdstretch "_law_stretch" = true)
    (kstretch : PySem.W.keepIn K (.ref fstretch) = true)
    (afact : PySem.W.nsIn K mainGlobals "_law_fact" = some (some (.ref ffact)))
    (lfact : K.lookup ffact = some ⟨ocfact, odfact, .func (PySem.W.fnOf "_law_fact" "_law_fact" (defArgs sFact) (defBody sFact) (defScope sFact) .none kVfact dcfact pmfact anfact cdfact ctfact), slfact⟩)
    (cfact : PySem.W.codeIn K cdfact "_law_fact" = true)
    (kfact : PySem.W.keepIn K (.ref ffact) = true)
    (aplace : PySem.W.nsIn K mainGlobals "_law_fact_place" = some (some (.ref fplace)))
    (lplace : K.lookup fplace = some ⟨ocplace, odplace, .func (PySem.W.fnOf "_law_fact_place" "_law_fact_place" (defArgs sPlace) (defBody sPlace) (defScope sPlace) .none kVplace dcplace pmplace anplace cdplace ctplace), slplace⟩)
    (cplace : PySem.W.codeIn K cdplace "_law_fact_place" = true)
    (kplace : PySem.W.keepIn K (.ref fplace) = true)
    (anew : PySem.W.nsIn K mainGlobals "_law_new" = some (some (.ref fnew)))
    (lnew : K.lookup fnew = some ⟨ocnew, odnew, .func (PySem.W.fnOf "_law_new" "_law_new" (defArgs sNew) (defBody sNew) (defScope sNew) .none kVnew dcnew pmnew annew cdnew ctnew), slnew⟩)
    (cnew : PySem.W.codeIn K cdnew "_law_new" = true)
    (knew : PySem.W.keepIn K (.ref fnew) = true)
    (adeed : PySem.W.nsIn K mainGlobals "_law_deed" = some (some (.ref fdeed)))
    (ldeed : K.lookup fdeed = some ⟨ocdeed, oddeed, .func (PySem.W.fnOf "_law_deed" "_law_deed" (defArgs sDeed) (defBody sDeed) (defScope sDeed) .none kVdeed dcdeed pmdeed andeed cddeed ctdeed), sldeed⟩)
    (cdeed : PySem.W.codeIn K cddeed "_law_deed" = true)
    (kdeed : PySem.W.keepIn K (.ref fdeed) = true)
    (adone : PySem.W.nsIn K mainGlobals "_law_done" = some (some (.ref fdone)))
    (ldone : K.lookup fdone = some ⟨ocdone, oddone, .func (PySem.W.fnOf "_law_done" "_law_done" (defArgs sDone) (defBody sDone) (defScope sDone) .none kVdone dcdone pmdone andone cddone ctdone), sldone⟩)
    (cdone : PySem.W.codeIn K cddone "_law_done" = true)
    (kdone : PySem.W.keepIn K (.ref fdone) = true)
    (acopied : PySem.W.nsIn K mainGlobals "_law_copied" = some (some (.ref fcopied)))
    (lcopied : K.lookup fcopied = some ⟨occopied, odcopied, .func (PySem.W.fnOf "_law_copied" "_law_copied" (defArgs sCopied) (defBody sCopied) (defScope sCopied) .none kVcopied dccopied pmcopied ancopied cdcopied ctcopied), slcopied⟩)
    (ccopied : PySem.W.codeIn K cdcopied "_law_copied" = true)
    (kcopied : PySem.W.keepIn K (.ref fcopied) = true)
    (aflist : PySem.W.nsIn K mainGlobals "_law_fact_list" = some (some (.ref fflist)))
    (lflist : K.lookup fflist = some ⟨ocflist, odflist, .func (PySem.W.fnOf "_law_fact_list" "_law_fact_list" (defArgs sFactList) (defBody sFactList) (defScope sFactList) .none kVflist dcflist pmflist anflist cdflist ctflist), slflist⟩)
    (cflist : PySem.W.codeIn K cdflist "_law_fact_list" = true)
    (kflist : PySem.W.keepIn K (.ref fflist) = true)
    (astands : PySem.W.nsIn K mainGlobals "_law_roll_stands" = some (some (.ref fstands)))
    (lstands : K.lookup fstands = some ⟨ocstands, odstands, .func (PySem.W.fnOf "_law_roll_stands" "_law_roll_stands" (defArgs sStands) (defBody sStands) (defScope sStands) .none kVstands dcstands pmstands anstands cdstands ctstands), slstands⟩)
    (cstands : PySem.W.codeIn K cdstands "_law_roll_stands" = true)
    (kstands : PySem.W.keepIn K (.ref fstands) = true)
    (atold : PySem.W.nsIn K mainGlobals "_law_told" = some (some (.ref ftold)))
    (ltold : K.lookup ftold = some ⟨octold, odtold, .func (PySem.W.fnOf "_law_told" "_law_told" (defArgs sTold) (defBody sTold) (defScope sTold) .none kVtold dctold pmtold antold cdtold cttold), sltold⟩)
    (ctold : PySem.W.codeIn K cdtold "_law_told" = true)
    (ktold : PySem.W.keepIn K (.ref ftold) = true)
    (aturn : PySem.W.nsIn K mainGlobals "_law_turn" = some (some (.ref fturn)))
    (lturn : K.lookup fturn = some ⟨octurn, odturn, .func (PySem.W.fnOf "_law_turn" "_law_turn" (defArgs sTurn) (defBody sTurn) (defScope sTurn) .none kVturn dcturn pmturn anturn cdturn ctturn), slturn⟩)
    (cturn : PySem.W.codeIn K cdturn "_law_turn" = true)
    (kturn : PySem.W.keepIn K (.ref fturn) = true)
    (aalls : PySem.W.nsIn K mainGlobals "_law_all_stand" = some (some (.ref falls)))
    (lalls : K.lookup falls = some ⟨ocalls, odalls, .func (PySem.W.fnOf "_law_all_stand" "_law_all_stand" (defArgs sAll) (defBody sAll) (defScope sAll) .none kValls dcalls pmalls analls cdalls ctalls), slalls⟩)
    (calls : PySem.W.codeIn K cdalls "_law_all_stand" = true)
    (kalls : PySem.W.keepIn K (.ref falls) = true)
    (alaw : PySem.W.nsIn K mainGlobals "law" = some (some (.ref flaw)))
    (llaw : K.lookup flaw = some ⟨oclaw, odlaw, .func (PySem.W.fnOf "law" "law" (defArgs sLaw) (defBody sLaw) (defScope sLaw) .none kVlaw dclaw pmlaw anlaw cdlaw ctlaw), sllaw⟩)
    (claw : PySem.W.codeIn K cdlaw "law" = true)
    (klaw : PySem.W.keepIn K (.ref flaw) = true)
    (fxP_c : PySem.W.findCls K (.ref CP) (.type "type") "__init__" = some (.val (.ref fxP)))
    (rdP : PySem.W.readsIn K CP (.type "type") = true)
    (spP : PySem.W.specialIn K (.ref CP) "__getattribute__" = some (some (.builtin "type.__getattribute__")))
    (lxP : K.lookup fxP = some ⟨ocxP, odxP, .func (PySem.W.fnOf "__init__" "PikeError.__init__" (defArgs sPike) (defBody sPike) (defScope sPike) .none kVxP dcxP pmxP anxP cdxP ctxP), slxP⟩)
    (cxP : PySem.W.codeIn K cdxP "PikeError.__init__" = true)
    (kxP : PySem.W.keepIn K (.ref fxP) = true)
    (ebP : PySem.W.subIn K (.ref CP) (.type "BaseException") = some true)
    (icP : PySem.W.isClsIn K CP = true)
    (tyP : PySem.W.typeIn K (.ref CP) = some (.type "type"))
    (fxM_c : PySem.W.findCls K (.ref CM) (.type "type") "__init__" = some (.val (.ref fxM)))
    (rdM : PySem.W.readsIn K CM (.type "type") = true)
    (spM : PySem.W.specialIn K (.ref CM) "__getattribute__" = some (some (.builtin "type.__getattribute__")))
    (lxM : K.lookup fxM = some ⟨ocxM, odxM, .func (PySem.W.fnOf "__init__" "Missing.__init__" (defArgs sMiss) (defBody sMiss) (defScope sMiss) .none kVxM dcxM pmxM anxM cdxM ctxM), slxM⟩)
    (cxM : PySem.W.codeIn K cdxM "Missing.__init__" = true)
    (kxM : PySem.W.keepIn K (.ref fxM) = true)
    (ebM : PySem.W.subIn K (.ref CM) (.type "BaseException") = some true)
    (icM : PySem.W.isClsIn K CM = true)
    (tyM : PySem.W.typeIn K (.ref CM) = some (.type "type"))
    (xO : K.lookup CO = some (excClassObj nmO qnO CO nsO bsO bmO true snO suO abO coO ddO m0O m1O m2O m3O m5O "ValueError.__new__"))
    (oO : Own veT bmO)
    (saO : PySem.W.findIn K (.ref CO) "__setattr__" = some (some (.builtin "object.__setattr__")))
    (ebO : PySem.W.subIn K (.ref CO) (.type "BaseException") = some true)
    (tyO : PySem.W.typeIn K (.ref CO) = some (.type "type"))
    (kcO : PySem.W.keepIn K (.ref CO) = true)
    (ncO : PySem.W.findIn K (.ref CO) "called" = some none)
    (axO : PySem.W.findIn K (.ref CO) "__init__" = some (some (.ref fxO)))
    (txO : PySem.W.typeIn K (.ref fxO) = some (.type "function"))
    (lxO : K.lookup fxO = some ⟨ocxO, odxO, .func (PySem.W.fnOf "__init__" "Other.__init__" (defArgs sOth) (defBody sOth) (defScope sOth) .none kVxO dcxO pmxO anxO cdxO ctxO), slxO⟩)
    (cxO : PySem.W.codeIn K cdxO "Other.__init__" = true)
    (kxO : PySem.W.keepIn K (.ref fxO) = true)
    (xN : K.lookup CN = some (excClassObj nmN qnN CN nsN bsN bmN true snN suN abN coN ddN m0N m1N m2N m3N m5N "ValueError.__new__"))
    (oN : Own veT bmN)
    (saN : PySem.W.findIn K (.ref CN) "__setattr__" = some (some (.builtin "object.__setattr__")))
    (ebN : PySem.W.subIn K (.ref CN) (.type "BaseException") = some true)
    (tyN : PySem.W.typeIn K (.ref CN) = some (.type "type"))
    (kcN : PySem.W.keepIn K (.ref CN) = true)
    (ncN : PySem.W.findIn K (.ref CN) "called" = some none)
    (axN : PySem.W.findIn K (.ref CN) "__init__" = some (some (.ref fxN)))
    (txN : PySem.W.typeIn K (.ref fxN) = some (.type "function"))
    (lxN : K.lookup fxN = some ⟨ocxN, odxN, .func (PySem.W.fnOf "__init__" "Nothing.__init__" (defArgs sNoth) (defBody sNoth) (defScope sNoth) .none kVxN dcxN pmxN anxN cdxN ctxN), slxN⟩)
    (cxN : PySem.W.codeIn K cdxN "Nothing.__init__" = true)
    (kxN : PySem.W.keepIn K (.ref fxN) = true)
    (xF : K.lookup CF = some (excClassObj nmF qnF CF nsF bsF bmF true snF suF abF coF ddF m0F m1F m2F m3F m5F "LookupError.__new__"))
    (oF : Own keT bmF)
    (saF : PySem.W.findIn K (.ref CF) "__setattr__" = some (some (.builtin "object.__setattr__")))
    (ebF : PySem.W.subIn K (.ref CF) (.type "BaseException") = some true)
    (tyF : PySem.W.typeIn K (.ref CF) = some (.type "type"))
    (kcF : PySem.W.keepIn K (.ref CF) = true)
    (ncF : PySem.W.findIn K (.ref CF) "called" = some none)
    (axF : PySem.W.findIn K (.ref CF) "__init__" = some (some (.ref fxF)))
    (txF : PySem.W.typeIn K (.ref fxF) = some (.type "function"))
    (lxF : K.lookup fxF = some ⟨ocxF, odxF, .func (PySem.W.fnOf "__init__" "NoFact.__init__" (defArgs sNoF) (defBody sNoF) (defScope sNoF) .none kVxF dcxF pmxF anxF cdxF ctxF), slxF⟩)
    (cxF : PySem.W.codeIn K cdxF "NoFact.__init__" = true)
    (kxF : PySem.W.keepIn K (.ref fxF) = true)
    (nnF : PySem.W.findIn K (.ref CF) "number" = some none)
    (sOP : PySem.W.subIn K (.ref CO) (.ref CP) = some true)
    (sNP : PySem.W.subIn K (.ref CN) (.ref CP) = some true)
    (sFP : PySem.W.subIn K (.ref CF) (.ref CP) = some false)
    (sFM : PySem.W.subIn K (.ref CF) (.ref CM) = some true)
    (rcl : PySem.W.findIn K (.ref CR) "__class__" = some (some (.builtin "object.__class__")))
    (rhn : PySem.W.specialIn K (.builtin "object.__class__") "__get__" = some (some (.builtin "getset_descriptor.__get__")))
    (rtk : PySem.W.takesIn K (.builtin "object.__class__") = some true)
    (rmo : PySem.W.mroIn K CR (.type "object") = some true)
    (ricl : PySem.W.isClsIn K CR = true)
    (rty : PySem.W.typeIn K (.ref CR) = some (.type "type"))
    (rne : PySem.W.findIn K (.ref CR) "__ne__" = some (some (.builtin "object.__ne__")))
    (mM : PySem.W.nsIn K mainGlobals "MOST_TOLD" = some (some (.int 120 tM)))
    (gdk : PySem.W.nsIn K mainGlobals "KINDS" = some (some (.ref dk)))
    (ldk : K.lookup dk = some ⟨.type "dict", none, .dict esK nK, #[]⟩)
    (kdk : PySem.W.KeysLit w.params esK.toList)
    (sdk : (dk == sysModules) = false)
    (gdl : PySem.W.nsIn K mainGlobals "LIMITS" = some (some (.ref dl)))
    (ldl : K.lookup dl = some ⟨.type "dict", none, .dict esL nL, #[]⟩)
    (kdl : PySem.W.KeysLit w.params esL.toList)
    (etoll : PySem.W.nsIn K dk "toll" = some (some (.ref ttoll)))
    (lttoll : K.lookup ttoll = some ⟨.type "tuple", dttoll, .seq #[ .str "gate" utoll0,  .str "day" utoll1,  .str "halves" utoll2] nttoll, sttoll⟩)
    (eboard : PySem.W.nsIn K dk "board" = some (some (.ref tboard)))
    (ltboard : K.lookup tboard = some ⟨.type "tuple", dtboard, .seq #[ .str "gate" uboard0,  .str "day" uboard1,  .str "gates" uboard2] ntboard, stboard⟩)
    (etrust : PySem.W.nsIn K dk "trust" = some (some (.ref ttrust)))
    (lttrust : K.lookup ttrust = some ⟨.type "tuple", dttrust, .seq #[ .str "gate" utrust0,  .str "day" utrust1,  .str "trust" utrust2] nttrust, sttrust⟩)
    (efolk : PySem.W.nsIn K dk "folk" = some (some (.ref tfolk)))
    (ltfolk : K.lookup tfolk = some ⟨.type "tuple", dtfolk, .seq #[ .str "carriage" ufolk0,  .str "day" ufolk1,  .str "day" ufolk2] ntfolk, stfolk⟩)
    (ebargain : PySem.W.nsIn K dk "bargain" = some (some (.ref tbargain)))
    (ltbargain : K.lookup tbargain = some ⟨.type "tuple", dtbargain, .seq #[ .str "gate" ubargain0,  .str "carriage" ubargain1,  .str "day" ubargain2,  .str "day" ubargain3] ntbargain, stbargain⟩)
    (epass : PySem.W.nsIn K dk "pass" = some (some (.ref tpass)))
    (ltpass : K.lookup tpass = some ⟨.type "tuple", dtpass, .seq #[ .str "day" upass0,  .str "minute" upass1,  .str "gate" upass2,  .str "carriage" upass3,  .str "horses" upass4] ntpass, stpass⟩)
    (elost : PySem.W.nsIn K dk "lost" = some (some (.ref tlost)))
    (ltlost : K.lookup tlost = some ⟨.type "tuple", dtlost, .seq #[ .str "number" ulost0,  .str "minute" ulost1] ntlost, stlost⟩)
    (epaid : PySem.W.nsIn K dk "paid" = some (some (.ref tpaid)))
    (ltpaid : K.lookup tpaid = some ⟨.type "tuple", dtpaid, .seq #[ .str "carriage" upaid0,  .str "day" upaid1,  .str "coins" upaid2] ntpaid, stpaid⟩)
    (eLgate : PySem.W.nsIn K dl "gate" = some (some (.ref tLgate)))
    (ltLgate : K.lookup tLgate = some ⟨.type "tuple", dtLgate, .seq #[.int 0 uLgate0, .int 7 uLgate1] ntLgate, stLgate⟩)
    (eLcarriage : PySem.W.nsIn K dl "carriage" = some (some (.ref tLcarriage)))
    (ltLcarriage : K.lookup tLcarriage = some ⟨.type "tuple", dtLcarriage, .seq #[.int 0 uLcarriage0, .int 9 uLcarriage1] ntLcarriage, stLcarriage⟩)
    (eLtrust : PySem.W.nsIn K dl "trust" = some (some (.ref tLtrust)))
    (ltLtrust : K.lookup tLtrust = some ⟨.type "tuple", dtLtrust, .seq #[.int 0 uLtrust0, .int 3 uLtrust1] ntLtrust, stLtrust⟩)
    (eLday : PySem.W.nsIn K dl "day" = some (some (.ref tLday)))
    (ltLday : K.lookup tLday = some ⟨.type "tuple", dtLday, .seq #[.int 0 uLday0, .int 999 uLday1] ntLday, stLday⟩)
    (eLminute : PySem.W.nsIn K dl "minute" = some (some (.ref tLminute)))
    (ltLminute : K.lookup tLminute = some ⟨.type "tuple", dtLminute, .seq #[.int 0 uLminute0, .int 1439 uLminute1] ntLminute, stLminute⟩)
    (eLhalves : PySem.W.nsIn K dl "halves" = some (some (.ref tLhalves)))
    (ltLhalves : K.lookup tLhalves = some ⟨.type "tuple", dtLhalves, .seq #[.int 0 uLhalves0, .int 48 uLhalves1] ntLhalves, stLhalves⟩)
    (eLhorses : PySem.W.nsIn K dl "horses" = some (some (.ref tLhorses)))
    (ltLhorses : K.lookup tLhorses = some ⟨.type "tuple", dtLhorses, .seq #[.int 1 uLhorses0, .int 8 uLhorses1] ntLhorses, stLhorses⟩)
    (eLcoins : PySem.W.nsIn K dl "coins" = some (some (.ref tLcoins)))
    (ltLcoins : K.lookup tLcoins = some ⟨.type "tuple", dtLcoins, .seq #[.int 0 uLcoins0, .int 100000 uLcoins1] ntLcoins, stLcoins⟩)
    : ∃ fd : FuncData, (∀ (s : Shared) (u : Value), BindsTo s fd ⟨[u], []⟩ [("_law_script", u)]) ∧ ∀ base : Heap, Judged l.prog w K mg base fa fd "_law_script" (spLaw K) := by
  have e := hfa.symm.trans (PySem.W.mg_of X G alaw)
  cases e
  have T : Txt K mg CH CR := { clH := ⟨pgH, hdH, poH, saH⟩, clR := ⟨pgR, hdR, poR, saR⟩, hTh := naH, hMt := nbH, rTk := naR, rGn := nbR, gH := PySem.W.mg_of X G gH, gR := PySem.W.mg_of X G gR, ne := ne, len := PySem.W.mg_none_of X G z_len, list := PySem.W.mg_none_of X G z_list, range := PySem.W.mg_none_of X G z_range, tuple := PySem.W.mg_none_of X G z_tuple, int := PySem.W.mg_none_of X G z_int, isi := PySem.W.mg_none_of X G z_isinstance, sorted := PySem.W.mg_none_of X G z_sorted, dict := PySem.W.mg_none_of X G z_dict, enum := PySem.W.mg_none_of X G z_enumerate, zip := PySem.W.mg_none_of X G z_zip, all := PySem.W.mg_none_of X G z_all, bool := PySem.W.mg_none_of X G z_bool, repr := PySem.W.mg_none_of X G z_repr }
  have FhI := fun_mk (st := sHI) lhI chI khI
  have FrI := fun_mk (st := sRI) lrI crI krI
  have FrEq := fun_mk (st := sREq) lrEq crEq krEq
  have FrLen := fun_mk (st := sRLen) lrLen crLen krLen
  have FrGo := fun_mk (st := sRGo) lrGo crGo krGo
  have FrTell := fun_mk (st := sRTell) lrTell crTell krTell
  have FrFo := fun_mk (st := sRFo) lrFo crFo krFo
  have FrRight := fun_mk (st := sRRight) lrRight crRight krRight
  have FrStrike := fun_mk (st := sRStrike) lrStrike crStrike krStrike
  have FrUndo := fun_mk (st := sRUndo) lrUndo crUndo krUndo
  have FrRedo := fun_mk (st := sRRedo) lrRedo crRedo krRedo
  have FrFacts := fun_mk (st := sRFacts) lrFacts crFacts krFacts
  have FrTold := fun_mk (st := sRTold) lrTold crTold krTold
  have FrDeeds := fun_mk (st := sRDeeds) lrDeeds crDeeds krDeeds
  have FrTwin := fun_mk (st := sRTwin) lrTwin crTwin krTwin
  have Fgg := fun_mk (st := sGg) lgg cgg kgg
  have Fgt := fun_mk (st := sGt) lgt cgt kgt
  have Fnf := fun_mk (st := sNf) lnf cnf knf
  have Fbag := fun_mk (st := sBag) lbag cbag kbag
  have Fpull := fun_mk (st := sPull) lpull cpull kpull
  have Flike := fun_mk (st := sLike) llike clike klike
  have Ffar := fun_mk (st := sFar) lfar cfar kfar
  have Fgate := fun_mk (st := sGate) lgate cgate kgate
  have Fday := fun_mk (st := sDay) lday cday kday
  have Fboard := fun_mk (st := sBoard) lboard cboard kboard
  have Fpassing := fun_mk (st := sPassing) lpassing cpassing kpassing
  have Fstretch := fun_mk (st := sStretch) lstretch cstretch kstretch
  have Ffact := fun_mk (st := sFact) lfact cfact kfact
  have Fplace := fun_mk (st := sPlace) lplace cplace kplace
  have Fnew := fun_mk (st := sNew) lnew cnew knew
  have Fdeed := fun_mk (st := sDeed) ldeed cdeed kdeed
  have Fdone := fun_mk (st := sDone) ldone cdone kdone
  have Fcopied := fun_mk (st := sCopied) lcopied ccopied kcopied
  have Fflist := fun_mk (st := sFactList) lflist cflist kflist
  have Fstands := fun_mk (st := sStands) lstands cstands kstands
  have Ftold := fun_mk (st := sTold) ltold ctold ktold
  have Fturn := fun_mk (st := sTurn) lturn cturn kturn
  have Falls := fun_mk (st := sAll) lalls calls kalls
  have Flaw := fun_mk (st := sLaw) llaw claw klaw
  have FxP := fun_mk (st := sPike) lxP cxP kxP
  have FxM := fun_mk (st := sMiss) lxM cxM kxM
  have FxO := fun_mk (st := sOth) lxO cxO kxO
  have FxN := fun_mk (st := sNoth) lxN cxN kxN
  have FxF := fun_mk (st := sNoF) lxF cxF kxF
  have bhI : Binds K _ pHI [] := FhI.binds (ps := pHI) fun _ _ _ _ _ _ us hl => match us, hl with | [_, _, _], _ => rfl
  have brI : Binds K _ pRI [] := FrI.binds (ps := pRI) fun _ _ _ _ _ _ us hl => match us, hl with | [_], _ => rfl
  have brEq : Binds K _ pREq [] := FrEq.binds (ps := pREq) fun _ _ _ _ _ _ us hl => match us, hl with | [_, _], _ => rfl
  have brLen : Binds K _ pRLen [] := FrLen.binds (ps := pRLen) fun _ _ _ _ _ _ us hl => match us, hl with | [_], _ => rfl
  have brGo : Binds K _ pRGo [] := FrGo.binds (ps := pRGo) fun _ _ _ _ _ _ us hl => match us, hl with | [_, _, _], _ => rfl
  have brTell : Binds K _ pRTell [] := FrTell.binds (ps := pRTell) fun _ _ _ _ _ _ us hl => match us, hl with | [_, _], _ => rfl
  have brFo : Binds K _ pRFo [] := FrFo.binds (ps := pRFo) fun _ _ _ _ _ _ us hl => match us, hl with | [_, _], _ => rfl
  have brRight : Binds K _ pRRight [] := FrRight.binds (ps := pRRight) fun _ _ _ _ _ _ us hl => match us, hl with | [_, _, _], _ => rfl
  have brStrike : Binds K _ pRStrike [] := FrStrike.binds (ps := pRStrike) fun _ _ _ _ _ _ us hl => match us, hl with | [_, _], _ => rfl
  have brUndo : Binds K _ pRUndo [] := FrUndo.binds (ps := pRUndo) fun _ _ _ _ _ _ us hl => match us, hl with | [_], _ => rfl
  have brRedo : Binds K _ pRRedo [] := FrRedo.binds (ps := pRRedo) fun _ _ _ _ _ _ us hl => match us, hl with | [_], _ => rfl
  have brFacts : Binds K _ pRFacts [] := FrFacts.binds (ps := pRFacts) fun _ _ _ _ _ _ us hl => match us, hl with | [_], _ => rfl
  have brTold : Binds K _ pRTold [] := FrTold.binds (ps := pRTold) fun _ _ _ _ _ _ us hl => match us, hl with | [_], _ => rfl
  have brDeeds : Binds K _ pRDeeds [] := FrDeeds.binds (ps := pRDeeds) fun _ _ _ _ _ _ us hl => match us, hl with | [_], _ => rfl
  have brTwin : Binds K _ pRTwin [] := FrTwin.binds (ps := pRTwin) fun _ _ _ _ _ _ us hl => match us, hl with | [_], _ => rfl
  have bgg : Binds K _ pGg [] := Fgg.binds (ps := pGg) fun _ _ _ _ _ _ us hl => match us, hl with | [_], _ => rfl
  have bgt : Binds K _ pGt [] := Fgt.binds (ps := pGt) fun _ _ _ _ _ _ us hl => match us, hl with | [_, _], _ => rfl
  have bnf : Binds K _ pNf [] := Fnf.binds (ps := pNf) fun _ _ _ _ _ _ us hl => match us, hl with | [_], _ => rfl
  have bbag : Binds K _ pBag [] := Fbag.binds (ps := pBag) fun _ _ _ _ _ _ us hl => match us, hl with | [_], _ => rfl
  have bpull : Binds K _ pPull [] := Fpull.binds (ps := pPull) fun _ _ _ _ _ _ us hl => match us, hl with | [_, _], _ => rfl
  have blike : Binds K _ pLike [] := Flike.binds (ps := pLike) fun _ _ _ _ _ _ us hl => match us, hl with | [_, _], _ => rfl
  have bfar : Binds K _ pFar [] := Ffar.binds (ps := pFar) fun _ _ _ _ _ _ us hl => match us, hl with | [_], _ => rfl
  have bgate : Binds K _ pGate [] := Fgate.binds (ps := pGate) fun _ _ _ _ _ _ us hl => match us, hl with | [_], _ => rfl
  have bday : Binds K _ pDay [] := Fday.binds (ps := pDay) fun _ _ _ _ _ _ us hl => match us, hl with | [_], _ => rfl
  have bboard : Binds K _ pBoard [] := Fboard.binds (ps := pBoard) fun _ _ _ _ _ _ us hl => match us, hl with | [_], _ => rfl
  have bpassing : Binds K _ pPassing [] := Fpassing.binds (ps := pPassing) fun _ _ _ _ _ _ us hl => match us, hl with | [_], _ => rfl
  have bstretch : Binds K _ pStretch [] := Fstretch.binds (ps := pStretch) fun _ _ _ _ _ _ us hl => match us, hl with | [_], _ => rfl
  have bfact : Binds K _ pFact [] := Ffact.binds (ps := pFact) fun _ _ _ _ _ _ us hl => match us, hl with | [_, _], _ => rfl
  have bplace : Binds K _ pPlace [] := Fplace.binds (ps := pPlace) fun _ _ _ _ _ _ us hl => match us, hl with | [_], _ => rfl
  have bnew : Binds K _ pNew [] := Fnew.binds (ps := pNew) fun _ _ _ _ _ _ us hl => match us, hl with | [], _ => rfl
  have bdeed : Binds K _ pDeed [] := Fdeed.binds (ps := pDeed) fun _ _ _ _ _ _ us hl => match us, hl with | [_, _], _ => rfl
  have bdone : Binds K _ pDone [] := Fdone.binds (ps := pDone) fun _ _ _ _ _ _ us hl => match us, hl with | [_, _], _ => rfl
  have bcopied : Binds K _ pCopied [] := Fcopied.binds (ps := pCopied) fun _ _ _ _ _ _ us hl => match us, hl with | [_], _ => rfl
  have bflist : Binds K _ pFactList [] := Fflist.binds (ps := pFactList) fun _ _ _ _ _ _ us hl => match us, hl with | [_], _ => rfl
  have bstands : Binds K _ pStands [] := Fstands.binds (ps := pStands) fun _ _ _ _ _ _ us hl => match us, hl with | [_, _, _], _ => rfl
  have btold : Binds K _ pTold [] := Ftold.binds (ps := pTold) fun _ _ _ _ _ _ us hl => match us, hl with | [_, _, _], _ => rfl
  have bturn : Binds K _ pTurn [] := Fturn.binds (ps := pTurn) fun _ _ _ _ _ _ us hl => match us, hl with | [_, _, _], _ => rfl
  have balls : Binds K _ pAll [] := Falls.binds (ps := pAll) fun _ _ _ _ _ _ us hl => match us, hl with | [_, _], _ => rfl
  have bxP : Binds K _ pPike [] := FxP.binds (ps := pPike) fun _ _ _ _ _ _ us hl => match us, hl with | [_, _], _ => rfl
  have bxM : Binds K _ pMiss [] := FxM.binds (ps := pMiss) fun _ _ _ _ _ _ us hl => match us, hl with | [_, _, _], _ => rfl
  have bxO : Binds K _ pOth [] := FxO.binds (ps := pOth) fun _ _ _ _ _ _ us hl => match us, hl with | [_], _ => rfl
  have bxN : Binds K _ pNoth [] := FxN.binds (ps := pNoth) fun _ _ _ _ _ _ us hl => match us, hl with | [_], _ => rfl
  have bxF : Binds K _ pNoF [] := FxF.binds (ps := pNoF) fun _ _ _ _ _ _ us hl => match us, hl with | [_, _], _ => rfl
  refine ⟨PySem.W.fnOf "law" "law" (defArgs sLaw) (defBody sLaw) (defScope sLaw) .none kVlaw dclaw pmlaw anlaw cdlaw ctlaw, fun s v => .of_eq rfl, fun base => ?_⟩
  have Er : Err K mg CP CM CO CN CF := { gP := PySem.W.mg_of X G gP, gM := PySem.W.mg_of X G gM, gO := PySem.W.mg_of X G gO, gN := PySem.W.mg_of X G gN, gF := PySem.W.mg_of X G gF, xO := exo_ve (r := ⟨nmO, qnO, nsO, bsO, bmO, snO, suO, abO, coO, ddO, m0O, m1O, m2O, m3O, m5O⟩) xO oO ⟨⟨saO, kcO⟩, ebO, tyO⟩, xN := exo_ve (r := ⟨nmN, qnN, nsN, bsN, bmN, snN, suN, abN, coN, ddN, m0N, m1N, m2N, m3N, m5N⟩) xN oN ⟨⟨saN, kcN⟩, ebN, tyN⟩, xF := exo_ke (r := ⟨nmF, qnF, nsF, bsF, bmF, snF, suF, abF, coF, ddF, m0F, m1F, m2F, m3F, m5F⟩) xF oF ⟨⟨saF, kcF⟩, ebF, tyF⟩, aO := ncO, aN := ncN, aF := ncF, bF := nnF, eOP := exm_any ebP icP tyP sOP, eNP := exm_any ebP icP tyP sNP, eFP := exm_any ebP icP tyP sFP, eFM := exm_any ebM icM tyM sFM }
  have IS : Isi K CR := ⟨⟨T.clR, rcl, rhn, rtk, rmo, kit_me⟩, kit_own ricl rty (show fastBuiltinMro "list" = some [.type "list", .type "object"] by decide +kernel) (by simp), kit_own ricl rty (show fastBuiltinMro "str" = some [.type "str", .type "object"] by decide +kernel) (by simp)⟩
  have Tb : Tab K w mg dk dl := { gK := PySem.W.mg_of X G gdk, gL := PySem.W.mg_of X G gdl, kd := ⟨_, _, ldk, kdk, sdk⟩, ks := fun p hp => ?ks, lm := fun k => ?lm }
  case ks =>
    unfold kindsTab at hp
    simp only [List.mem_cons, List.not_mem_nil, or_false] at hp
    rcases hp with rfl | rfl | rfl | rfl | rfl | rfl | rfl | rfl
    · exact ⟨_, etoll, tup_K lttoll (by show 3 ≤ 16; decide) (.cons ⟨_, rfl⟩ (.cons ⟨_, rfl⟩ (.cons ⟨_, rfl⟩ .nil)))⟩
    · exact ⟨_, eboard, tup_K ltboard (by show 3 ≤ 16; decide) (.cons ⟨_, rfl⟩ (.cons ⟨_, rfl⟩ (.cons ⟨_, rfl⟩ .nil)))⟩
    · exact ⟨_, etrust, tup_K lttrust (by show 3 ≤ 16; decide) (.cons ⟨_, rfl⟩ (.cons ⟨_, rfl⟩ (.cons ⟨_, rfl⟩ .nil)))⟩
    · exact ⟨_, efolk, tup_K ltfolk (by show 3 ≤ 16; decide) (.cons ⟨_, rfl⟩ (.cons ⟨_, rfl⟩ (.cons ⟨_, rfl⟩ .nil)))⟩
    · exact ⟨_, ebargain, tup_K ltbargain (by show 4 ≤ 16; decide) (.cons ⟨_, rfl⟩ (.cons ⟨_, rfl⟩ (.cons ⟨_, rfl⟩ (.cons ⟨_, rfl⟩ .nil))))⟩
    · exact ⟨_, epass, tup_K ltpass (by show 5 ≤ 16; decide) (.cons ⟨_, rfl⟩ (.cons ⟨_, rfl⟩ (.cons ⟨_, rfl⟩ (.cons ⟨_, rfl⟩ (.cons ⟨_, rfl⟩ .nil)))))⟩
    · exact ⟨_, elost, tup_K ltlost (by show 2 ≤ 16; decide) (.cons ⟨_, rfl⟩ (.cons ⟨_, rfl⟩ .nil))⟩
    · exact ⟨_, epaid, tup_K ltpaid (by show 3 ≤ 16; decide) (.cons ⟨_, rfl⟩ (.cons ⟨_, rfl⟩ (.cons ⟨_, rfl⟩ .nil)))⟩
  case lm =>
    cases k with
    | gate => exact .inr ⟨_, ⟨_, _, _, ldl, kdl, eLgate, rfl⟩, tup_K ltLgate (by show 2 ≤ 16; decide) (.cons ⟨_, rfl⟩ (.cons ⟨_, rfl⟩ .nil))⟩
    | carriage => exact .inr ⟨_, ⟨_, _, _, ldl, kdl, eLcarriage, rfl⟩, tup_K ltLcarriage (by show 2 ≤ 16; decide) (.cons ⟨_, rfl⟩ (.cons ⟨_, rfl⟩ .nil))⟩
    | trust => exact .inr ⟨_, ⟨_, _, _, ldl, kdl, eLtrust, rfl⟩, tup_K ltLtrust (by show 2 ≤ 16; decide) (.cons ⟨_, rfl⟩ (.cons ⟨_, rfl⟩ .nil))⟩
    | day => exact .inr ⟨_, ⟨_, _, _, ldl, kdl, eLday, rfl⟩, tup_K ltLday (by show 2 ≤ 16; decide) (.cons ⟨_, rfl⟩ (.cons ⟨_, rfl⟩ .nil))⟩
    | minute => exact .inr ⟨_, ⟨_, _, _, ldl, kdl, eLminute, rfl⟩, tup_K ltLminute (by show 2 ≤ 16; decide) (.cons ⟨_, rfl⟩ (.cons ⟨_, rfl⟩ .nil))⟩
    | halves => exact .inr ⟨_, ⟨_, _, _, ldl, kdl, eLhalves, rfl⟩, tup_K ltLhalves (by show 2 ≤ 16; decide) (.cons ⟨_, rfl⟩ (.cons ⟨_, rfl⟩ .nil))⟩
    | horses => exact .inr ⟨_, ⟨_, _, _, ldl, kdl, eLhorses, rfl⟩, tup_K ltLhorses (by show 2 ≤ 16; decide) (.cons ⟨_, rfl⟩ (.cons ⟨_, rfl⟩ .nil))⟩
    | coins => exact .inr ⟨_, ⟨_, _, _, ldl, kdl, eLcoins, rfl⟩, tup_K ltLcoins (by show 2 ≤ 16; decide) (.cons ⟨_, rfl⟩ (.cons ⟨_, rfl⟩ .nil))⟩
    | gates => exact .inl (.inl rfl)
    | number => exact .inl (.inr rfl)
  have GHI : HasC l.prog w K mg base CX0 1 CH pHI (spHI CH) := ⟨_, _, ⟨mkH, ahI, ihI, kcH⟩, bhI, ok_hi FhI T⟩
  have GRI : HasC l.prog w K mg base CX0 3 CR pRI (spRI CH CR) := ⟨_, _, ⟨mkR, arI, irI, kcR⟩, brI, ok_ri FrI T GHI⟩
  have GPI : HasR l.prog w K mg base 1 CP pPike (spPI K) := ⟨_, _, ⟨rdP, fxP_c, spP, kxP⟩, bxP, ok_pi FxP⟩
  have GMI : HasR l.prog w K mg base 1 CM pMiss (spMI K) := ⟨_, _, ⟨rdM, fxM_c, spM, kxM⟩, bxM, ok_mi FxM⟩
  have GXO : HasX l.prog w K mg base 2 CO pOth (spXI0 CO) := ⟨_, _, axO, txO, bxO, ok_xo FxO Er Er.xO Er.aO GPI⟩
  have GXN : HasX l.prog w K mg base 2 CN pNoth (spXI0 CN) := ⟨_, _, axN, txN, bxN, ok_xn FxN Er Er.xN Er.aN GPI⟩
  have GXF : HasX l.prog w K mg base 2 CF pNoF (spXI1 CF) := ⟨_, _, axF, txF, bxF, ok_xf FxF Er GMI⟩
  have Ggo : HasM l.prog w K mg base CX0 3 CR "go_on" pRGo (spGo CH CR) := ⟨_, _, ⟨arGo, irGo, krGo⟩, brGo, ok_go FrGo T GHI⟩
  have Gtoldm : HasM l.prog w K mg base CX0 1 CR "told" pRTold (spRTold CH CR) := ⟨_, _, ⟨arTold, irTold, krTold⟩, brTold, ok_rtold FrTold T⟩
  have Gdeeds : HasM l.prog w K mg base CX0 1 CR "deeds" pRDeeds (spRDeeds CH CR) := ⟨_, _, ⟨arDeeds, irDeeds, krDeeds⟩, brDeeds, ok_rdeeds FrDeeds T⟩
  have Glen : HasM l.prog w K mg base CX0 1 CR "__len__" pRLen (spRLen CH CR) := ⟨_, _, ⟨arLen, irLen, krLen⟩, brLen, ok_rlen FrLen T⟩
  have Gfacts : HasM l.prog w K mg base CX0 1 CR "facts" pRFacts (spRFacts CH CR) := ⟨_, _, ⟨arFacts, irFacts, krFacts⟩, brFacts, ok_rfacts FrFacts T⟩
  have Gtwin : HasM l.prog w K mg base CX0 5 CR "twin" pRTwin (spRTwin CH CR) := ⟨_, _, ⟨arTwin, irTwin, krTwin⟩, brTwin, ok_rtwin FrTwin T GRI⟩
  have Geq : HasM l.prog w K mg base CX0 2 CR "__eq__" pREq (spREq CH CR) := ⟨_, _, ⟨arEq, irEq, krEq⟩, brEq, ok_req FrEq T IS Gfacts⟩
  have Gfo : HasM l.prog w K mg base (L2.CX l.prog w) 4 CR "fact_of" pRFo (spFo CH CR CF) := ⟨_, _, ⟨arFo, irFo, krFo⟩, brFo, ok_fo FrFo T Er GXF⟩
  have Ggg : Has l.prog w K mg base CX0 1 "good_gates" pGg spGg := ⟨_, _, PySem.W.mg_of X G agg, kgg, bgg, ok_gg Fgg T⟩
  have Ggt : Has l.prog w K mg base CX0 2 "good_thing" pGt spGt := ⟨_, _, PySem.W.mg_of X G agt, kgt, bgt, ok_gt Fgt Tb Ggg⟩
  have Gnf : Has l.prog w K mg base CX0 3 "need_fact" pNf spNf := ⟨_, _, PySem.W.mg_of X G anf, knf, bnf, ok_nf Fnf T Tb Ggt⟩
  have Gtell : HasM l.prog w K mg base (L2.CX l.prog w) 4 CR "tell" pRTell (spTell CH CR CO CN CF) := ⟨_, _, ⟨arTell, irTell, krTell⟩, brTell, ok_tell FrTell T ⟨_, PySem.W.mg_of X G mM⟩ Gnf Ggo⟩
  have Gright : HasM l.prog w K mg base (L2.CX l.prog w) 5 CR "right" pRRight (spRight CH CR CO CN CF) := ⟨_, _, ⟨arRight, irRight, krRight⟩, brRight, ok_right FrRight T Er Gnf Ggo Gfo GXO⟩
  have Gstrike : HasM l.prog w K mg base (L2.CX l.prog w) 5 CR "strike" pRStrike (spStrike CH CR CO CN CF) := ⟨_, _, ⟨arStrike, irStrike, krStrike⟩, brStrike, ok_strike FrStrike T Gfo Ggo⟩
  have Gundo : HasM l.prog w K mg base (L2.CX l.prog w) 4 CR "undo" pRUndo (spUndo CH CR CO CN CF) := ⟨_, _, ⟨arUndo, irUndo, krUndo⟩, brUndo, ok_undo FrUndo T Er GXN⟩
  have Gredo : HasM l.prog w K mg base (L2.CX l.prog w) 4 CR "redo" pRRedo (spRedo CH CR CO CN CF) := ⟨_, _, ⟨arRedo, irRedo, krRedo⟩, brRedo, ok_redo FrRedo T Er GXN⟩
  have Gbag : Has l.prog w K mg base CX0 1 "_law_bag" pBag (spBag K) := ⟨_, _, PySem.W.mg_of X G abag, kbag, bbag, ok_bag Fbag T⟩
  have Gpull : Has l.prog w K mg base CX0 1 "_law_pull" pPull spPull := ⟨_, _, PySem.W.mg_of X G apull, kpull, bpull, ok_pull Fpull T⟩
  have Glike : Has l.prog w K mg base CX0 6 "_law_like" pLike (spLike K 6) := ⟨_, _, PySem.W.mg_of X G alike, klike, blike, ok_like Flike T (PySem.W.mg_of X G alike) blike 6⟩
  have Gfar : Has l.prog w K mg base CX0 2 "_law_far" pFar spFar := ⟨_, _, PySem.W.mg_of X G afar, kfar, bfar, ok_far Ffar Gpull⟩
  have Ggate : Has l.prog w K mg base CX0 2 "_law_gate" pGate (spDr 0 7) := ⟨_, _, PySem.W.mg_of X G agate, kgate, bgate, ok_gate Fgate T Gpull⟩
  have Gday : Has l.prog w K mg base CX0 2 "_law_day" pDay (spDr 0 999) := ⟨_, _, PySem.W.mg_of X G aday, kday, bday, ok_day Fday Gpull⟩
  have Gboard : Has l.prog w K mg base CX0 3 "_law_board" pBoard spDf := ⟨_, _, PySem.W.mg_of X G aboard, kboard, bboard, ok_board Fboard T Gpull Ggate Gday⟩
  have Gpassing : Has l.prog w K mg base CX0 3 "_law_passing" pPassing spDf := ⟨_, _, PySem.W.mg_of X G apassing, kpassing, bpassing, ok_passing Fpassing T Gpull Ggate Gday⟩
  have Gstretch : Has l.prog w K mg base CX0 3 "_law_stretch" pStretch spStretch := ⟨_, _, PySem.W.mg_of X G astretch, kstretch, bstretch, ok_stretch Fstretch Gpull Gday⟩
  have Gfact : Has l.prog w K mg base CX0 4 "_law_fact" pFact spFact := ⟨_, _, PySem.W.mg_of X G afact, kfact, bfact, ok_fact Ffact T Gpull Ggate Gday Gboard Gstretch Gpassing⟩
  have Gplace : Has l.prog w K mg base CX0 1 "_law_fact_place" pPlace spPlace := ⟨_, _, PySem.W.mg_of X G aplace, kplace, bplace, ok_place Fplace T⟩
  have Gnew : Has l.prog w K mg base CX0 1 "_law_new" pNew spNew := ⟨_, _, PySem.W.mg_of X G anew, knew, bnew, ok_new Fnew⟩
  have Gdeed : Has l.prog w K mg base CX0 5 "_law_deed" pDeed spDeedL := ⟨_, _, PySem.W.mg_of X G adeed, kdeed, bdeed, ok_deed Fdeed T Gpull Gfact Gfar⟩
  have Gdone : Has l.prog w K mg base CX0 2 "_law_done" pDone spDone := ⟨_, _, PySem.W.mg_of X G adone, kdone, bdone, ok_done Fdone T Gplace⟩
  have Gcopied : Has l.prog w K mg base CX0 1 "_law_copied" pCopied spCopied := ⟨_, _, PySem.W.mg_of X G acopied, kcopied, bcopied, ok_copied Fcopied T⟩
  have Gflist : Has l.prog w K mg base CX0 1 "_law_fact_list" pFactList spFactList := ⟨_, _, PySem.W.mg_of X G aflist, kflist, bflist, ok_factlist Fflist T⟩
  have Gstands : Has l.prog w K mg base CX0 7 "_law_roll_stands" pStands (spStands CH CR) := ⟨_, _, PySem.W.mg_of X G astands, kstands, bstands, ok_stands Fstands T Glike Gfacts Gtoldm Gdeeds Glen Gflist⟩
  have Gtold : Has l.prog w K mg base CX0 6 "_law_told" pTold (spTold CH CR CO CN CF) := ⟨_, _, PySem.W.mg_of X G atold, ktold, btold, ok_told Ftold T Er Gundo Gredo Gtell Gright Gstrike⟩
  have Gturn : Has l.prog w K mg base CX0 7 "_law_turn" pTurn (spTurn CH CR) := ⟨_, _, PySem.W.mg_of X G aturn, kturn, bturn, ok_turn Fturn T Gpull Gtold Gcopied Gdeed Gdone⟩
  have Galls : Has l.prog w K mg base CX0 8 "_law_all_stand" pAll (spAll CH CR) := ⟨_, _, PySem.W.mg_of X G aalls, kalls, balls, ok_all Falls T IS rne Gstands Glike Geq⟩
  exact ok_law Flaw T IS Gbag GRI Gnew Gpull Gfacts Gtwin Gturn Galls Geq Gtold Gstands
/-- the judge's own call: the heap as it stands then, and the law's def run over it -/
theorem walk {l : PySem.W.OpenLaw} {q : Program} {loose : List Str} {XP : (Str → Option Value) → Heap → Prop} {YP : World → Heap → Prop} {d : DefRec} {K : Params → PySem.W.Frag} (most : l.most = some 63) (plain : d.params.defaults = [])
    (part : ∀ (w : World) (h : Heap), YP w h → (K w.params).In h)
    (F : ∀ (w : World) (mg : Str → Option Value) (fa : Addr) (h : Heap), (K w.params).In h → h.Ns mainGlobals mg → mg d.name = some (.ref fa) →
      ∃ fd : FuncData, (∀ (s : Shared) (u : Value), BindsTo s fd ⟨[u], []⟩ [("_law_script", u)]) ∧ ∀ base : Heap, Judged l.prog w (K w.params) mg base fa fd "_law_script" (spLaw (K w.params))) :
    PySem.W.WalkO q loose XP YP l.row.toRowW d [] (fun f vs => PySem.call f vs) := by
  apply Att.attach_call most plain
  intro w _ s mg mb fa _ _ _ _ a vs ns ground y _ _ _ at_ obj nums few idle
  have g := ground.T
  obtain ⟨fd, binds, J⟩ := F w mg fa _ (part w _ y) g.g at_
  have T : Top (K w.params) mg s a vs ns := ⟨part w _ y, g.g, ⟨mb, g.b, g.builtins⟩, g.nolimit, idle, obj, nums, Nat.le_trans few (by decide)⟩
  exact T.run (J _) binds ⟨a, ns, rfl, T.seq, few, fun _ => rfl⟩
end Pk

open PySem PySem.W PyProof.Rows
set_option maxRecDepth 100000 in
set_option maxHeartbeats 0 in
open_top head for PySem.Challenge.rw_pikeroll_k26_whole_rolls_and_their_twins
set_option maxRecDepth 100000 in
set_option maxHeartbeats 0 in
theorem PySem.Challenge.cw_pikeroll_k26_whole_rolls_and_their_twins_holds : PySem.Challenge.rw_pikeroll_k26_whole_rolls_and_their_twins.Holds := by
  refine head ?_
  k_fill
  refine Pk.walk (l := PySem.Challenge.rw_pikeroll_k26_whole_rolls_and_their_twins) rfl rfl (fun w h Y => PySem.W.kIn_of Y) ?F
  case F =>
    intro w mg fa h KX G hmg
    refine' Pk.all_mk KX G hmg ?gH ?gR ?gP ?gM ?gO ?gN ?gF ?pgH ?hdH ?poH ?saH ?mkH ?kcH ?pgR ?hdR ?poR ?saR ?mkR ?kcR ?naH ?nbH ?naR ?nbR ?ne ?z_len ?z_list ?z_range ?z_tuple ?z_int ?z_isinstance ?z_sorted ?z_dict ?z_enumerate ?z_zip ?z_all ?z_bool ?z_repr ?ahI ?ihI ?lhI ?chI ?khI ?arI ?irI ?lrI ?crI ?krI ?arEq ?irEq ?lrEq ?crEq ?krEq ?arLen ?irLen ?lrLen ?crLen ?krLen ?arGo ?irGo ?lrGo ?crGo ?krGo ?arTell ?irTell ?lrTell ?crTell ?krTell ?arFo ?irFo ?lrFo ?crFo ?krFo ?arRight ?irRight ?lrRight ?crRight ?krRight ?arStrike ?irStrike ?lrStrike ?crStrike ?krStrike ?arUndo ?irUndo ?lrUndo ?crUndo ?krUndo ?arRedo ?irRedo ?lrRedo ?crRedo ?krRedo ?arFacts ?irFacts ?lrFacts ?crFacts ?krFacts ?arTold ?irTold ?lrTold ?crTold ?krTold ?arDeeds ?irDeeds ?lrDeeds ?crDeeds ?krDeeds ?arTwin ?irTwin ?lrTwin ?crTwin ?krTwin ?agg ?lgg ?cgg ?kgg ?agt ?lgt ?cgt ?kgt ?anf ?lnf ?cnf ?knf ?abag ?lbag ?cbag ?kbag ?apull ?lpull ?cpull ?kpull ?alike ?llike ?clike ?klike ?afar ?lfar ?cfar ?kfar ?agate ?lgate ?cgate ?kgate ?aday ?lday ?cday ?kday ?aboard ?lboard ?cboard ?kboard ?apassing ?lpassing ?cpassing ?kpassing ?astretch ?lstretch ?cstretch ?kstretch ?afact ?lfact ?cfact ?kfact ?aplace ?lplace ?cplace ?kplace ?anew ?lnew ?cnew ?knew ?adeed ?ldeed ?cdeed ?kdeed ?adone ?ldone ?cdone ?kdone ?acopied ?lcopied ?ccopied ?kcopied ?aflist ?lflist ?cflist ?kflist ?astands ?lstands ?cstands ?kstands ?atold ?ltold ?ctold ?ktold ?aturn ?lturn ?cturn ?kturn ?aalls ?lalls ?calls ?kalls ?alaw ?llaw ?claw ?klaw ?fxP_c ?rdP ?spP ?lxP ?cxP ?kxP ?ebP ?icP ?tyP ?fxM_c ?rdM ?spM ?lxM ?cxM ?kxM ?ebM ?icM ?tyM ?xO ?oO ?saO ?ebO ?tyO ?kcO ?ncO ?axO ?txO ?lxO ?cxO ?kxO ?xN ?oN ?saN ?ebN ?tyN ?kcN ?ncN ?axN ?txN ?lxN ?cxN ?kxN ?xF ?oF ?saF ?ebF ?tyF ?kcF ?ncF ?axF ?txF ?lxF ?cxF ?kxF ?nnF ?sOP ?sNP ?sFP ?sFM ?rcl ?rhn ?rtk ?rmo ?ricl ?rty ?rne ?mM ?gdk ?ldk ?kdk ?sdk ?gdl ?ldl ?kdl ?etoll ?lttoll ?eboard ?ltboard ?etrust ?lttrust ?efolk ?ltfolk ?ebargain ?ltbargain ?epass ?ltpass ?elost ?ltlost ?epaid ?ltpaid ?eLgate ?ltLgate ?eLcarriage ?ltLcarriage ?eLtrust ?ltLtrust ?eLday ?ltLday ?eLminute ?ltLminute ?eLhalves ?ltLhalves ?eLhorses ?ltLhorses ?eLcoins ?ltLcoins
    (case gH => k_is)
    (case gR => k_is)
    (case gP => k_is)
    (case gM => k_is)
    (case gO => k_is)
    (case gN => k_is)
    (case gF => k_is)
    (case pgH => k_is)
    (case hdH => k_is)
    (case poH => k_is)
    (case saH => k_is)
    (case mkH => k_is)
    (case kcH => k_is)
    (case pgR => k_is)
    (case hdR => k_is)
    (case poR => k_is)
    (case saR => k_is)
    (case mkR => k_is)
    (case kcR => k_is)
    (case naH => k_is)
    (case nbH => k_is)
    (case naR => k_is)
    (case nbR => k_is)
    (case ne => decide)
    (case z_len => k_is)
    (case z_list => k_is)
    (case z_range => k_is)
    (case z_tuple => k_is)
    (case z_int => k_is)
    (case z_isinstance => k_is)
    (case z_sorted => k_is)
    (case z_dict => k_is)
    (case z_enumerate => k_is)
    (case z_zip => k_is)
    (case z_all => k_is)
    (case z_bool => k_is)
    (case z_repr => k_is)
    (case ahI => k_is)
    (case ihI => k_is)
    (case lhI => k_is)
    (case chI => k_is)
    (case khI => k_is)
    (case arI => k_is)
    (case irI => k_is)
    (case lrI => k_is)
    (case crI => k_is)
    (case krI => k_is)
    (case arEq => k_is)
    (case irEq => k_is)
    (case lrEq => k_is)
    (case crEq => k_is)
    (case krEq => k_is)
    (case arLen => k_is)
    (case irLen => k_is)
    (case lrLen => k_is)
    (case crLen => k_is)
    (case krLen => k_is)
    (case arGo => k_is)
    (case irGo => k_is)
    (case lrGo => k_is)
    (case crGo => k_is)
    (case krGo => k_is)
    (case arTell => k_is)
    (case irTell => k_is)
    (case lrTell => k_is)
    (case crTell => k_is)
    (case krTell => k_is)
    (case arFo => k_is)
    (case irFo => k_is)
    (case lrFo => k_is)
    (case crFo => k_is)
    (case krFo => k_is)
    (case arRight => k_is)
    (case irRight => k_is)
    (case lrRight => k_is)
    (case crRight => k_is)
    (case krRight => k_is)
    (case arStrike => k_is)
    (case irStrike => k_is)
    (case lrStrike => k_is)
    (case crStrike => k_is)
    (case krStrike => k_is)
    (case arUndo => k_is)
    (case irUndo => k_is)
    (case lrUndo => k_is)
    (case crUndo => k_is)
    (case krUndo => k_is)
    (case arRedo => k_is)
    (case irRedo => k_is)
    (case lrRedo => k_is)
    (case crRedo => k_is)
    (case krRedo => k_is)
    (case arFacts => k_is)
    (case irFacts => k_is)
    (case lrFacts => k_is)
    (case crFacts => k_is)
    (case krFacts => k_is)
    (case arTold => k_is)
    (case irTold => k_is)
    (case lrTold => k_is)
    (case crTold => k_is)
    (case krTold => k_is)
    (case arDeeds => k_is)
    (case irDeeds => k_is)
    (case lrDeeds => k_is)
    (case crDeeds => k_is)
    (case krDeeds => k_is)
    (case arTwin => k_is)
    (case irTwin => k_is)
    (case lrTwin => k_is)
    (case crTwin => k_is)
    (case krTwin => k_is)
    (case agg => k_is)
    (case lgg => k_is)
    (case cgg => k_is)
    (case kgg => k_is)
    (case agt => k_is)
    (case lgt => k_is)
    (case cgt => k_is)
    (case kgt => k_is)
    (case anf => k_is)
    (case lnf => k_is)
    (case cnf => k_is)
    (case knf => k_is)
    (case abag => k_is)
    (case lbag => k_is)
    (case cbag => k_is)
    (case kbag => k_is)
    (case apull => k_is)
    (case lpull => k_is)
    (case cpull => k_is)
    (case kpull => k_is)
    (case alike => k_is)
    (case llike => k_is)
    (case clike => k_is)
    (case klike => k_is)
    (case afar => k_is)
    (case lfar => k_is)
    (case cfar => k_is)
    (case kfar => k_is)
    (case agate => k_is)
    (case lgate => k_is)
    (case cgate => k_is)
    (case kgate => k_is)
    (case aday => k_is)
    (case lday => k_is)
    (case cday => k_is)
    (case kday => k_is)
    (case aboard => k_is)
    (case lboard => k_is)
    (case cboard => k_is)
    (case kboard => k_is)
    (case apassing => k_is)
    (case lpassing => k_is)
    (case cpassing => k_is)
    (case kpassing => k_is)
    (case astretch => k_is)
    (case lstretch => k_is)
    (case cstretch => k_is)
    (case kstretch => k_is)
    (case afact => k_is)
    (case lfact => k_is)
    (case cfact => k_is)
    (case kfact => k_is)
    (case aplace => k_is)
    (case lplace => k_is)
    (case cplace => k_is)
    (case kplace => k_is)
    (case anew => k_is)
    (case lnew => k_is)
    (case cnew => k_is)
    (case knew => k_is)
    (case adeed => k_is)
    (case ldeed => k_is)
    (case cdeed => k_is)
    (case kdeed => k_is)
    (case adone => k_is)
    (case ldone => k_is)
    (case cdone => k_is)
    (case kdone => k_is)
    (case acopied => k_is)
    (case lcopied => k_is)
    (case ccopied => k_is)
    (case kcopied => k_is)
    (case aflist => k_is)
    (case lflist => k_is)
    (case cflist => k_is)
    (case kflist => k_is)
    (case astands => k_is)
    (case lstands => k_is)
    (case cstands => k_is)
    (case kstands => k_is)
    (case atold => k_is)
    (case ltold => k_is)
    (case ctold => k_is)
    (case ktold => k_is)
    (case aturn => k_is)
    (case lturn => k_is)
    (case cturn => k_is)
    (case kturn => k_is)
    (case aalls => k_is)
    (case lalls => k_is)
    (case calls => k_is)
    (case kalls => k_is)
    (case alaw => k_is)
    (case llaw => k_is)
    (case claw => k_is)
    (case klaw => k_is)
    (case fxP_c => k_is)
    (case rdP => k_is)
    (case spP => k_is)
    (case lxP => k_is)
    (case cxP => k_is)
    (case kxP => k_is)
    (case ebP => k_is)
    (case icP => k_is)
    (case tyP => k_is)
    (case fxM_c => k_is)
    (case rdM => k_is)
    (case spM => k_is)
    (case lxM => k_is)
    (case cxM => k_is)
    (case kxM => k_is)
    (case ebM => k_is)
    (case icM => k_is)
    (case tyM => k_is)
    (case xO => k_is)
    (case oO => exact ⟨[_], rfl⟩)
    (case saO => k_is)
    (case ebO => k_is)
    (case tyO => k_is)
    (case kcO => k_is)
    (case ncO => k_is)
    (case axO => k_is)
    (case txO => k_is)
    (case lxO => k_is)
    (case cxO => k_is)
    (case kxO => k_is)
    (case xN => k_is)
    (case oN => exact ⟨[_], rfl⟩)
    (case saN => k_is)
    (case ebN => k_is)
    (case tyN => k_is)
    (case kcN => k_is)
    (case ncN => k_is)
    (case axN => k_is)
    (case txN => k_is)
    (case lxN => k_is)
    (case cxN => k_is)
    (case kxN => k_is)
    (case xF => k_is)
    (case oF => exact ⟨[_], rfl⟩)
    (case saF => k_is)
    (case ebF => k_is)
    (case tyF => k_is)
    (case kcF => k_is)
    (case ncF => k_is)
    (case axF => k_is)
    (case txF => k_is)
    (case lxF => k_is)
    (case cxF => k_is)
    (case kxF => k_is)
    (case nnF => k_is)
    (case sOP => k_is)
    (case sNP => k_is)
    (case sFP => k_is)
    (case sFM => k_is)
    (case rcl => k_is)
    (case rhn => k_is)
    (case rtk => k_is)
    (case rmo => k_is)
    (case ricl => k_is)
    (case rty => k_is)
    (case rne => k_is)
    (case mM => k_is)
    (case gdk => k_is)
    (case ldk => k_is)
    (case kdk => k_keys)
    (case sdk => rfl)
    (case gdl => k_is)
    (case ldl => k_is)
    (case kdl => k_keys)
    (case etoll => k_is)
    (case lttoll => k_is)
    (case eboard => k_is)
    (case ltboard => k_is)
    (case etrust => k_is)
    (case lttrust => k_is)
    (case efolk => k_is)
    (case ltfolk => k_is)
    (case ebargain => k_is)
    (case ltbargain => k_is)
    (case epass => k_is)
    (case ltpass => k_is)
    (case elost => k_is)
    (case ltlost => k_is)
    (case epaid => k_is)
    (case ltpaid => k_is)
    (case eLgate => k_is)
    (case ltLgate => k_is)
    (case eLcarriage => k_is)
    (case ltLcarriage => k_is)
    (case eLtrust => k_is)
    (case ltLtrust => k_is)
    (case eLday => k_is)
    (case ltLday => k_is)
    (case eLminute => k_is)
    (case ltLminute => k_is)
    (case eLhalves => k_is)
    (case ltLhalves => k_is)
    (case eLhorses => k_is)
    (case ltLhorses => k_is)
    (case eLcoins => k_is)
    (case ltLcoins => k_is)
