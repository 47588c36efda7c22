import PyProof.Rows.All
import Wide.All
import OpenK.AllK
import Wide.FinOn
import KE.KOpsOwn
import HandS.ForMost
import HandS.IsInst
import HandS.Star
import HandS.Records
import HandS.Property
import HandS.Codes
import HandS.More
import KE.KSuper
import HandS.Nested
import HandS.ClsMeth
import KE.KStateDown
import Lean
import HandS.Head0
import HandS.Head1
import HandS.Head2
import HandS.HeadEnd
import HandS.HeadHook1
import HandS.HeadHook2
import HandS.HeadNt
import PySem.Challenge.RW_signtown_k47_whole_walks_left
import HandS.GenOver
import HandS.GenList
import HandS.Strs
import KE.GoesEnum
import HandS.DictComp
import PyProof.TupleOfGen
import KE.KDictSum
import HandS.Wide
import HandS.Style
import HandS.Flow
import HandS.Walk
import HandS.RaiseMore
import HandS.Defaults
import HandS.TupAny
section
set_option Elab.async false
set_option linter.all false
set_option maxRecDepth 100000
set_option maxHeartbeats 1000000
/-! Operators, subscripts, len, truth, properties and makings that go through the program's own methods; all by positional promises in which nothing raises. -/
namespace SgO
open PySem PySem.Spec PyProof.Rows L2
/-- a positional promise in which nothing raises -/
abbrev Pr (X : Cx) (k : Nat) (f : Addr) (sp : Sp) : Prop := FnR X.prog X.w X.K X.mg X.base CX0 k f sp
/-- the method m of the class at C is the def at f -/
structure OwnM (K : PySem.W.Frag) (C : Addr) (m : Str) (f : Addr) : Prop where
  at_ : PySem.W.findIn K (.ref C) m = some (some (.ref f))
  fn : PySem.W.isFn K (.ref f) = true
/-- an instance of C -/
def Ins (H : Hp) (a C : Addr) : Prop := ∃ dx fs, H a = some (.ins C dx fs)
section
variable {X : Cx} {pins : List (Addr × Obj)} {σ : L2.St} {H : Hp} {s : Shared} {k : Nat} {f C a : Addr} {sp : Sp} {Q : VK}
theorem ins_look (I : Inv X pins σ H s) (h : Ins H a C) : ∃ ox od, PySem.W.InstAt s.heap a ox C od := by
  obtain ⟨dx, fs, e⟩ := h
  obtain ⟨mA, O, _⟩ := ins_get I.hok e
  obtain ⟨od, J, _⟩ := O.look
  exact ⟨_, _, J⟩
/-- the callee runs, somewhere around the body -/
theorem run_pr {A : Around} {E : Value → Shared → Prop} {us : List Value} {vs : List V} (F : Pr X k f sp) (hr : Room k A) (hf : A.frames = X.A.frames) (I : Inv X pins σ H s) (r : Vals vs us) (h : sp vs H Q E0) :
    wpAny (model X.prog X.w) A (call (.ref f) us) (EP X pins σ Q) E s := by
  have e0 : Env0 X.prog X.w X.K X.mg X.base A X.stack s H := by
    have e := I.env0
    exact ⟨by rw [hf]; exact e.frames, e.mod, e.bs, e.bsz, e.funs, e.frf, e.hok, e.bare⟩
  refine wpAny_call (codeAny_mono (F A X.stack s H us vs Q E0 hr e0 r h) fun r s' hq => ?_)
  cases r with
  | error e => exact False.elim hq
  | ok fl =>
    cases fl with
    | ret u => exact I.after hq
    | next => exact False.elim hq
    | brk => exact False.elim hq
    | cont => exact False.elim hq
end
/-- a promise's answer is a bool -/
def toB (Q : Bool → Hp → Prop) : VK := fun v H => ∃ b, v = .bl b ∧ Q b H
section
variable {X : Cx} {k : Nat} {f C : Addr} {sp : Sp}
/-- x in o, o's class has the method __contains__ -/
theorem op_inOwn (M : OwnM X.K C "__contains__" f) (F : Pr X k f sp) (hr : Room k X.A) :
    OpR X (compareOp .In) (fun x y H Q => ∃ a, y = .ref a ∧ Ins H a C ∧ sp [.ref a, x] H (toB fun b H' => Q (.bl b) H') E0) := by
  intro pins s σ H x y v u Q I rx ry h
  obtain ⟨a, rfl, hi, q⟩ := h
  obtain rfl : u = Value.ref a := ry
  obtain ⟨ox, od, J⟩ := ins_look I hi
  obtain ⟨m, hF⟩ := I.fr
  refine PySem.W.in_K hF I.ok.mod.kin J M.at_ M.fn (thn (run_pr (us := [.ref a, v]) (vs := [.ref a, x]) F hr rfl I (.cons rfl (.cons rx .nil)) q) fun r s' hq => ?_)
  obtain ⟨z, H', I', rz, b, rfl, q'⟩ := hq
  obtain rfl : r = Value.bool b := rz
  exact wpAny_truthy_bool ⟨.bl b, H', I', rfl, q'⟩
/-- x not in o -/
theorem op_ninOwn (M : OwnM X.K C "__contains__" f) (F : Pr X k f sp) (hr : Room k X.A) :
    OpR X (compareOp .NotIn) (fun x y H Q => ∃ a, y = .ref a ∧ Ins H a C ∧ sp [.ref a, x] H (toB fun b H' => Q (.bl (!b)) H') E0) := by
  intro pins s σ H x y v u Q I rx ry h
  obtain ⟨a, rfl, hi, q⟩ := h
  obtain rfl : u = Value.ref a := ry
  obtain ⟨ox, od, J⟩ := ins_look I hi
  obtain ⟨m, hF⟩ := I.fr
  refine PySem.W.notIn_K hF I.ok.mod.kin J M.at_ M.fn (thn (run_pr (us := [.ref a, v]) (vs := [.ref a, x]) F hr rfl I (.cons rfl (.cons rx .nil)) q) fun r s' hq => ?_)
  obtain ⟨z, H', I', rz, b, rfl, q'⟩ := hq
  obtain rfl : r = Value.bool b := rz
  exact wpAny_truthy_bool ⟨.bl (!b), H', I', rfl, q'⟩
/-- len(o) by __len__ -/
theorem call_lenOwn (M : OwnM X.K C "__len__" f) (F : Pr X k f sp) (hr : Room (k + 1) X.A) :
    CallR X (.builtin "len") (fun xs H Q => ∃ a, xs = [.ref a] ∧ Ins H a C ∧ sp [.ref a] H (fun v H' => ∃ n : Nat, v = .int n ∧ (n : Int) < 2 ^ 63 ∧ Q (.int n) H') E0) := by
  intro pins s σ H xs us Q I r h
  obtain ⟨a, rfl, hi, q⟩ := h
  obtain ⟨u, rfl, ru⟩ : ∃ u, us = [u] ∧ RelV (.ref a) u := by
    cases r with
    | cons p q => cases q; exact ⟨_, rfl, p⟩
  obtain rfl : u = Value.ref a := ru
  obtain ⟨ox, od, J⟩ := ins_look I hi
  obtain ⟨m, hF⟩ := I.fr
  refine PySem.W.len_K hF I.ok.mod.kin J M.at_ M.fn (thn (run_pr (us := [.ref a]) (vs := [.ref a]) F hr.in1 rfl I (.cons rfl .nil) q) fun r s' hq => ?_)
  obtain ⟨z, H', I', rz, n, rfl, hn, q'⟩ := hq
  obtain ⟨t, rfl⟩ := (show ∃ t, r = Value.int n t from rz)
  exact ⟨⟨Int.natCast_nonneg _, hn⟩, .int n, H', I'.tok _, ⟨_, rfl⟩, q'⟩
/-- an object's truth by __bool__ -/
theorem tru_own (M : OwnM X.K C "__bool__" f) (F : Pr X k f sp) (hr : Room k X.A) :
    TruR X (fun x H Q => ∃ a, x = .ref a ∧ Ins H a C ∧ sp [.ref a] H (toB Q) E0) := by
  intro pins s σ H x v Q I rx h
  obtain ⟨a, rfl, hi, q⟩ := h
  obtain rfl : v = Value.ref a := rx
  obtain ⟨ox, od, J⟩ := ins_look I hi
  obtain ⟨m, hF⟩ := I.fr
  refine PySem.W.truthy_K hF I.ok.mod.kin J M.at_ M.fn (thn (run_pr (us := [.ref a]) (vs := [.ref a]) F hr rfl I (.cons rfl .nil) q) fun r s' hq => ?_)
  obtain ⟨z, H', I', rz, b, rfl, q'⟩ := hq
  obtain rfl : r = Value.bool b := rz
  exact ⟨H', I', q'⟩
/-- o[x] by __getitem__ -/
def PlainIx' (b : Expr) : Prop := ∀ o i, subscripted b true o i = runValue (.builtin "lifetime.subscript" ⟨[o, i], []⟩)
theorem pe_ixOwn {a b : Expr} {ta tb : TE} {pos : Pos} (M : OwnM X.K C "__getitem__" f) (hf : PySem.W.fnIn X.K f = true) (F : Pr X k f sp) (hr : Room (k + 1) X.A) (ha : PE X a ta) (hb : PE X b tb) (hs : PlainIx' b := by intro _ _; rfl) :
    PE X (.Subscript a b pos) (tOp (fun x y H Q => ∃ a, x = .ref a ∧ Ins H a C ∧ sp [.ref a, y] H Q E0) ta tb) := by
  refine ⟨fun pins s σ H Q I h => ?_⟩
  refine Subscript_ (binT ha hb I h fun v u s2 x y H2 I2 rx ry q => ?_)
  obtain ⟨a, rfl, hi, q⟩ := q
  obtain rfl : v = Value.ref a := rx
  obtain ⟨ox, od, J⟩ := ins_look I2 hi
  obtain ⟨m, hF⟩ := I2.fr
  exact PySem.W.sub_K hF I2.ok.mod.kin J M.at_ hf M.fn (run_pr (us := [.ref a, u]) (vs := [.ref a, y]) F hr.in1 rfl I2 (.cons rfl (.cons ry .nil)) q) (hs _ _)
end
/-! ### != by an own __eq__, the class has no __ne__ of its own -/
structure NeM (K : PySem.W.Frag) (C : Addr) (f : Addr) : Prop where
  eq : OwnM K C "__eq__" f
  ne : PySem.W.findIn K (.ref C) "__ne__" = some (some (.builtin "object.__ne__"))
  ob : PySem.W.mroIn K C (.type "object") = some true
section
variable {X : Cx} {k : Nat} {f C : Addr} {sp : Sp}
theorem bind_slot (x : Value) : bindSpecial (.builtin "object.__ne__") x = pure (.builtin "object.__ne__", [x]) := by
  have h : Slot "object" "__ne__" "object.__ne__" := PySem.F.cmp_object.ne
  exact h.bind x
theorem try_ne {A : Around} {E : Value → Shared → Prop} {s : Shared} {K : PySem.W.Frag} {prog : Program} {w : World} {x : Addr} {y : Value} {ox : Obj} {od : Option Obj} {Q : Bool → Shared → Prop} (Xk : K.In s.heap) (I : PySem.W.InstAt s.heap x ox C od) (M : NeM K C f) (hu : A.units + 1 < cLine)
    (h : wpAny (model prog w) A.in1 (call (.ref f) [.ref x, y]) (fun v s' => ∃ b, v = .bool b ∧ Q (!b) s') E s) :
    wpAny (model prog w) A (tryCompare (.ref x) "__ne__" y) (fun r s' => ∃ b, r = some (.bool b) ∧ Q b s') E s := by
  unfold tryCompare
  refine wpAny_bind ?_
  simp only [callSpecialIfBound?, bindSpecialIfBound?]
  refine wpAny_holding (wpAny_bind (wpAny_bind (wpAny_bind (I.type.here ((PySem.W.looks_findIn Xk M.ne).here ?_)))))
  refine wpAny_bind (wpAny_askSetting (wpAny_ite ?_))
  have sub : PySem.W.Looks (model prog w) s.heap (isInstance (.ref x) (.type "object")) true := I.type.andThen (PySem.W.looks_mroIn Xk M.ob)
  have body : wpAny (model prog w) A.in1 (Builtin.«object.__ne__» ⟨[.ref x, y], []⟩) (fun fin s' => match fin with
      | .done fl => ∃ b, fl = .ret (.bool b) ∧ Q b s'
      | .again _ => False) E s := by
    unfold Builtin.«object.__ne__»
    repeat (first
      | with_reducible refine wpAny_cRoomFor (show A.in1.units < cLine from hu) ?_
      | (refine wpAny_bind (m := callSpecialIfBound? (.ref x) (Str.ofString "__eq__") [y])
          (PySem.W.ifBound_K Xk I M.eq.at_ M.eq.fn (wpAny_mono h (fun r s' hr => by
            obtain ⟨b, rfl, hq⟩ := hr
            repeat (first | exact ⟨_, rfl, hq⟩ | exact wpAny_pure ⟨_, rfl, hq⟩ | (refine wpAny_bind (m := truthy (.bool _)) (wpAny_truthy_bool ?_)) | wp_step)) fun _ _ e => e)))
      | wp_step)
  have run : wpAny (model prog w) A (call (.builtin "object.__ne__") [.ref x, y]) (fun v s' => ∃ b, v = .bool b ∧ Q b s') E s := by
    refine wpAny_call (codeAny_call_builtin PySem.F.cmp_object.ne.plain PySem.F.cmpEntry_ne (PySem.W.check_slot PySem.F.cmpKind_ne PySem.F.cmpSplit_ne sub (PySem.F.cmpArgs_ne _ _) (wpAny_mono body (fun fin s' hf => ?_) fun _ _ z => z)))
    cases fin with
    | done fl => obtain ⟨b, rfl, q⟩ := hf; exact ⟨b, rfl, q⟩
    | again c => exact hf.elim
  have fin : wpAny (model prog w) A (call (.builtin "object.__ne__") ([.ref x] ++ [y]) >>= fun v => pure (some v)) (fun r s' => wpAny (model prog w) A (match r with
      | some .notImplemented | none => pure none
      | some v => pure (some v)) (fun r s' => ∃ b, r = some (.bool b) ∧ Q b s') E s') E s :=
    wpAny_bind (wpAny_mono run (fun v s' ⟨b, e, q⟩ => by subst e; exact wpAny_pure (wpAny_pure ⟨b, rfl, q⟩)) fun _ _ z => z)
  rw [bind_slot]
  split
  · exact wpAny_bind (wpAny_pure (wpAny_pure (by exact fin)))
  · exact wpAny_tryCatch (wpAny_bind (wpAny_pure (wpAny_pure (by exact fin))))
/-- a != b: a of a class C that keeps W; b any object of the same class -/
theorem op_neOwn (W : Addr → Sp → Prop) (hW : ∀ C sp, W C sp → ∃ f, NeM X.K C f ∧ Pr X k f sp) (hr : Room (k + 1) X.A) :
    OpR X (compareOp .NotEq) (fun x y H Q => ∃ a b C sp, x = .ref a ∧ y = .ref b ∧ W C sp ∧ Ins H a C ∧ Ins H b C ∧ sp [.ref a, .ref b] H (toB fun c H' => Q (.bl (!c)) H') E0) := by
  intro pins s σ H x y v u Q I rx ry h
  obtain ⟨a, b, C, sp, rfl, rfl, hw, hi, hj, q⟩ := h
  obtain rfl : v = Value.ref a := rx
  obtain rfl : u = Value.ref b := ry
  obtain ⟨f, M, F⟩ := hW C sp hw
  obtain ⟨ox, od, J⟩ := ins_look I hi
  obtain ⟨oy, od', J'⟩ := ins_look I hj
  have hu := hr.units0
  show wpAny (model X.prog X.w) X.A (richCompare .NotEq (.ref a) (.ref b)) _ _ s
  have one := try_ne (A := X.A) (E := X.xe) (Q := fun c s' => ∃ H', Inv X pins σ H' s' ∧ Q (.bl c) H') I.kIn J M (by have := hr.units; omega) (thn (run_pr (us := [.ref a, .ref b]) (vs := [.ref a, .ref b]) F hr.in1 rfl I (.cons rfl (.cons rfl .nil)) q) fun r s' hq => by
    obtain ⟨z, H', I', rz, c, rfl, q'⟩ := hq
    obtain rfl : r = Value.bool c := rz
    exact ⟨c, rfl, H', I', q'⟩)
  unfold richCompare
  simp only [PySem.oneThing_ref]
  refine wpAny_holding (wpAny_bind (wpAny_cRoomFor hu ?_))
  refine wpAny_bind (J.type.here (wpAny_bind (J'.type.here ?_)))
  rw [show (Value.ref C != Value.ref C) = false from by simp]
  simp only [Bool.false_eq_true, if_false]
  refine wpAny_bind (wpAny_pure ?_)
  simp only [Bool.false_eq_true, if_false]
  refine wpAny_bind (wpAny_mono one (fun r s' hr' => ?_) fun _ _ e => e)
  obtain ⟨c, rfl, H', I', q'⟩ := hr'
  exact wpAny_pure ⟨.bl c, H', I', rfl, q'⟩
end
/-! ### a binary operator by the left one's own method; the right one's class fills no such slot -/
/-- what the left class must have -/
structure BinM (K : PySem.W.Frag) (C : Addr) (nm : String) (f : Addr) : Prop where
  me : OwnM K C (PySem.dunder nm) f
  first : PySem.W.selfFirst K C = true
/-- the class D (an own one: its mro) has neither the method nor its reflection -/
def noSlot (K : PySem.W.Frag) (nm : String) : Value → Bool
  | .ref c => PySem.W.findIn K (.ref c) (PySem.dunder nm) == some none && PySem.W.findIn K (.ref c) (dunderR nm) == some none
  | .type T => PySem.W.findIn K (.type T) (PySem.dunder nm) == some none && PySem.W.findIn K (.type T) (dunderR nm) == some none
  | _ => false
def noSlots (K : PySem.W.Frag) (nm : String) (D : Addr) : Bool := (PySem.W.clsIn K D).any fun cd => cd.mro.all (noSlot K nm)
section
variable {X : Cx} {k : Nat} {f C : Addr} {sp : Sp} {nm : String}
theorem looks_any {α : Type} {M : Model} {h : Heap} {p : α → Sem Bool} : ∀ {l : List α}, (∀ x ∈ l, PySem.W.Looks M h (p x) false) → PySem.W.Looks M h (l.anyM p) false
  | [], _ => .now
  | x :: l, e => (e x List.mem_cons_self).andThen (looks_any fun y hy => e y (List.mem_cons_of_mem _ hy))
theorem fills_no {M : Model} {h : Heap} {K : PySem.W.Frag} {D : Addr} (Xk : K.In h) (e : noSlots K nm D = true) : PySem.W.Looks M h (fillsNumberSlot (.ref D) nm) false := by
  unfold noSlots at e
  obtain ⟨cd, hcd, hm⟩ := PySem.W.any_some e
  unfold fillsNumberSlot
  refine ((PySem.W.looks_clsIn Xk hcd).andThen (f := fun cd => pure cd.mro) .now).andThen ?_
  refine looks_any fun c hc => ?_
  have hs := List.all_eq_true.mp hm c hc
  cases c with
  | ref c =>
    obtain ⟨h1, h2⟩ := Bool.and_eq_true_iff.mp hs
    refine looks_any fun n hn => ?_
    rcases List.mem_cons.mp hn with rfl | hn
    · exact (PySem.W.looks_findIn Xk (eq_of_beq h1)).andThen .now
    · rcases List.mem_cons.mp hn with rfl | hn
      · exact (PySem.W.looks_findIn Xk (eq_of_beq h2)).andThen .now
      · cases hn
  | type T =>
    obtain ⟨h1, h2⟩ := Bool.and_eq_true_iff.mp hs
    exact (PySem.W.looks_findIn Xk (eq_of_beq h1)).andThen ((PySem.W.looks_findIn Xk (eq_of_beq h2)).andThen .now)
  | _ => cases hs
theorem fills_noT {M : Model} {h : Heap} {K : PySem.W.Frag} {T : String} (Xk : K.In h) (e : noSlot K nm (.type T) = true) : PySem.W.Looks M h (fillsNumberSlot (.type T) nm) false := by
  obtain ⟨h1, h2⟩ := Bool.and_eq_true_iff.mp (show (PySem.W.findIn K (.type T) (PySem.dunder nm) == some none && PySem.W.findIn K (.type T) (dunderR nm) == some none) = true from e)
  unfold fillsNumberSlot
  exact (PySem.W.looks_findIn Xk (eq_of_beq h1)).andThen ((PySem.W.looks_findIn Xk (eq_of_beq h2)).andThen .now)
theorem bin_run {prog : Program} {w : World} {A : Around} {E : Value → Shared → Prop} {s : Shared} {K : PySem.W.Frag} {x C f : Addr} {ox : Obj} {od : Option Obj} {b tb : Value} {op : Operator} {Q : Value → Shared → Prop} (X : K.In s.heap) (I : PySem.W.InstAt s.heap x ox C od)
    (M : BinM K C op.info.2 f) (hb : PySem.W.Looks (model prog w) s.heap (typeOf b) tb) (hne : (Value.ref C == tb) = false) (hr : PySem.W.Looks (model prog w) s.heap (fillsNumberSlot tb op.info.2) false)
    (h : wpAny (model prog w) A (call (.ref f) [.ref x, b]) (PySem.W.CmpBack Q) E s) : wpAny (model prog w) A (binaryOp op (.ref x) b) Q E s := by
  obtain ⟨cd, rest, hcd, hm⟩ := PySem.W.ksp_first M.first
  rcases hi : op.info with ⟨sym, nm'⟩
  obtain ⟨⟨hs, hf⟩, _⟩ := M
  rw [hi] at hs hr
  dsimp only at hs hr
  have one := PySem.W.ksp_try X I hs hf h
  have L3 : PySem.W.Looks (model prog w) s.heap (fillsNumberSlot (.ref C) nm') true := PySem.W.fills_K X hcd hm hs
  simp only [binaryOp, hi]
  refine wpAny_holding (wpAny_bind ?_)
  unfold binaryOp1
  refine wpAny_bind (I.type.here (wpAny_bind (hb.here (wpAny_bind (L3.here ?_)))))
  simp only [hne, Bool.false_eq_true, if_false]
  refine wpAny_bind (hr.here ?_)
  simp only [Bool.and_false, Bool.false_eq_true, if_false, Bool.false_and]
  refine wpAny_bind (wpAny_pure ?_)
  simp only [Bool.false_eq_true, if_false, if_true]
  refine wpAny_bind (wpAny_mono one (fun r s' hr' => ?_) fun _ _ e => e)
  obtain ⟨v, rfl, hq⟩ := hr'
  exact wpAny_pure (wpAny_pure hq)
theorem back_of {pins : List (Addr × Obj)} {σ : L2.St} {Q : VK} {r : Value} {s' : Shared} (h : EP X pins σ Q r s') : PySem.W.CmpBack (EP X pins σ Q) r s' := by
  obtain ⟨v, H', I, rv, q⟩ := id h
  cases v with
  | non => obtain rfl : r = Value.none := rv; exact h
  | bl b => obtain rfl : r = Value.bool b := rv; exact h
  | int i => obtain ⟨t, rfl⟩ := (show ∃ t, r = Value.int i t from rv); exact h
  | str x => obtain ⟨t, rfl⟩ := (show ∃ t, r = Value.str x t from rv); exact h
  | byt b => obtain ⟨t, rfl⟩ := (show ∃ t, r = Value.bytes b t from rv); exact h
  | flt b => obtain ⟨t, rfl⟩ := (show ∃ t, r = Value.float b t from rv); exact h
  | ref a => obtain rfl : r = Value.ref a := rv; exact h
  | ty n => obtain rfl : r = Value.type n := rv; exact h
/-- o op z, z a text -/
theorem op_binS {op : Operator} (M : BinM X.K C op.info.2 f) (hn : noSlot X.K op.info.2 (.type "str") = true) (F : Pr X k f sp) (hr : Room k X.A) :
    OpR X (binaryOp op) (fun x y H Q => ∃ a z, x = .ref a ∧ y = .str z ∧ Ins H a C ∧ sp [.ref a, .str z] H Q E0) := by
  intro pins s σ H x y v u Q I rx ry h
  obtain ⟨a, z, rfl, rfl, hi, q⟩ := h
  obtain rfl : v = Value.ref a := rx
  obtain ⟨t, rfl⟩ := (show ∃ t, u = Value.str z t from ry)
  obtain ⟨ox, od, J⟩ := ins_look I hi
  refine bin_run I.kIn J M (tb := .type "str") (.of_pure rfl) rfl (fills_noT I.kIn hn) (thn (run_pr (us := [.ref a, .str z t]) (vs := [.ref a, .str z]) F hr rfl I (.cons rfl (.cons ⟨_, rfl⟩ .nil)) q) fun r s' hq => back_of hq)
/-- o op b, b an object of another class that has no such method -/
theorem op_binI {op : Operator} (M : BinM X.K C op.info.2 f) (F : Pr X k f sp) (hr : Room k X.A) :
    OpR X (binaryOp op) (fun x y H Q => ∃ a b D, x = .ref a ∧ y = .ref b ∧ Ins H a C ∧ Ins H b D ∧ D ≠ C ∧ noSlots X.K op.info.2 D = true ∧ sp [.ref a, .ref b] H Q E0) := by
  intro pins s σ H x y v u Q I rx ry h
  obtain ⟨a, b, D, rfl, rfl, hi, hj, hd, hn, q⟩ := h
  obtain rfl : v = Value.ref a := rx
  obtain rfl : u = Value.ref b := ry
  obtain ⟨ox, od, J⟩ := ins_look I hi
  obtain ⟨oy, od', J'⟩ := ins_look I hj
  refine bin_run I.kIn J M (tb := .ref D) J'.type (by simp [Ne.symm hd]) (fills_no I.kIn hn) (thn (run_pr (us := [.ref a, .ref b]) (vs := [.ref a, .ref b]) F hr rfl I (.cons rfl (.cons rfl .nil)) q) fun r s' hq => back_of hq)
end
/-! ### a property, for objects of several classes -/
section
variable {X : Cx} {k : Nat} {C p g a dx : Addr} {fs : List (Str × V)} {f : Str} {sp : Sp} {e : Expr} {pos : Pos} {ta : TE}
/-- e.f by a getter's promise: e an instance of a class that W tells of -/
theorem pe_propR (W : Addr → Sp → Prop) (hW : ∀ C sp, W C sp → ∃ p g, Cls X.K C ∧ PropOf X.K C f p g ∧ Pr X k g sp) (hr : Room (k + 1) X.A) (he : PE X e ta) (hab : attributeBase e f X.env (eval e X.env) = eval e X.env := by rfl) :
    PE X (.Attribute e f pos) (fun σ H Q => ta σ H fun x H1 => ∃ a C sp, x = .ref a ∧ W C sp ∧ Ins H1 a C ∧ sp [.ref a] H1 Q E0) := by
  refine ⟨fun pins s σ H Q I h => ?_⟩
  refine attr_of hab (thn (he.run pins s σ H _ I h) fun u s1 ⟨x, H1, I1, rx, a, C, sp, ex, hw, hi, q⟩ => ?_)
  subst ex
  obtain rfl : u = Value.ref a := rx
  obtain ⟨p, g, c, hp, F⟩ := hW C sp hw
  obtain ⟨dx, fs, ea⟩ := hi
  obtain ⟨mA, O, _, _, _, _⟩ := ins_get I1.hok ea
  obtain ⟨od, J, _⟩ := O.look
  obtain ⟨rest, hrec⟩ := hp.rec_
  have I2 := I1.tok (s1.toks + 1)
  have hc : (PySem.W.clsIn X.K C).isSome = true := by
    obtain ⟨cd, hc, _⟩ := PySem.W.any_some c.hd
    rw [hc]
    rfl
  refine PySem.W.get_bind I1.kIn J (PySem.W.plainGet_of (c.get f)).1 (PySem.W.findObj_data hc hp.at_ hp.get hp.tak) (PySem.W.plainGet_of (c.get f)).2 (wpAny_call (PySem.W.prop_get (s := { s1 with toks := s1.toks + 1 }) I1.kIn hrec ?_))
  refine codeAny_mono (F X.A.in1 X.stack { s1 with toks := s1.toks + 1 } H1 [.ref a] [.ref a] Q E0 hr.in1 I2.env0.in1 (.cons rfl .nil) q) fun r s' hq => ?_
  cases r with
  | error er => exact False.elim hq
  | ok fl =>
    cases fl with
    | ret u =>
      obtain ⟨v, H', I3, rv, q3⟩ := I2.after hq
      show wpAny _ _ (handedOut u) _ _ _
      rw [PySem.W.handedOut_of (handed_of rv)]
      exact wpAny_pure ⟨v, H', I3, rv, q3⟩
    | next => exact False.elim hq
    | brk => exact False.elim hq
    | cont => exact False.elim hq
end
/-! ### makings with starred arguments, without arguments -/
section
variable {X : Cx} {k : Nat} {f C : Addr} {sp : Sp} {x : Str} {e e2 : Expr} {es : List Expr} {te : TE} {t : TA} {p p2 pos : Pos}
def afterMk (C : Addr) (sp : Sp) (vs : List V) (H1 : Hp) (Q : VK) : Prop := ∀ x dx, H1 x = Option.none → H1 dx = Option.none → dx ≠ x →
  sp (V.ref x :: vs) (upd (upd H1 dx (.own x)) x (.ins C dx [])) (fun v H2 => v = .non ∧ Q (.ref x) H2) E0
/-- C() -/
theorem pe_mk0 (M : Mk X.K C f) (F : Pr X k f sp) (hr : Room (k + 1) X.A) (hg : Gl X x) (hm : X.mg x = some (.ref C)) (hdb : (x == ("__debug__" : Str)) = false := by decide) : PE X (.Call (.Name x p) [] [] pos) (fun σ H Q => afterMk C sp [] H Q) := by
  refine ⟨fun pins s σ H Q I h => ?_⟩
  refine wpAny_Call_Name_kw (ld_glob I hg hm ?_ hdb)
  exact PySem.W.callWith_K0 I.kIn M.kp (StX.run_makeR (us := []) (vs := []) M F hr pass0 I .nil h)
/-- C(e, ..) -/
theorem pe_mkP (M : Mk X.K C f) (F : Pr X k f sp) (hr : Room (k + 1) X.A) (hg : Gl X x) (hm : X.mg x = some (.ref C)) (ha : PA X (e :: es) t) (hdb : (x == ("__debug__" : Str)) = false := by decide)
    (he : starEach (e :: es) X.env = (false, eval e X.env) :: starEach es X.env := by rfl) (hpl : (backTo pos (starEach es X.env)).any (·.1) = false := by rfl) : PE X (.Call (.Name x p) (e :: es) [] pos) (fun σ H Q => t σ H fun vs H1 => afterMk C sp vs H1 Q) :=
  StX.pe_makeR M F hr hg hm pass0 ha hdb he hpl
/-- C( *e) -/
theorem pe_mkS (M : Mk X.K C f) (F : Pr X k f sp) (hr : Room (k + 1) X.A) (hg : Gl X x) (hm : X.mg x = some (.ref C)) (he : PE X e te) (hdb : (x == ("__debug__" : Str)) = false := by decide)
    (hst : starEach [.Starred e p2] X.env = [(true, eval e X.env)] := by rfl) :
    PE X (.Call (.Name x p) [.Starred e p2] [] pos) (fun σ H Q => te σ H fun y H1 => ∃ a xs, y = V.ref a ∧ (SqT X.K H1 a xs ∨ SqL X.K H1 a xs) ∧ afterMk C sp xs H1 Q) := by
  refine ⟨fun pins s σ H Q I h => ?_⟩
  refine wpAny_Call_Name_kw (ld_glob I hg hm ?_ hdb)
  refine PySem.W.callWith_S (h₀ := X.base) I.ok.mod.kin M.kp (thn (he.run pins s σ H _ I h) fun v s1 ⟨y, H1, I1, ry, a, xs, ey, hxs, q⟩ => ?_) hst
  subst ey
  obtain rfl : v = Value.ref a := ry
  exact StX.star_any I1 hxs fun us s2 I2 rv => ⟨I2.kIn, StX.run_makeR M F hr pass0 I2 rv q⟩
theorem evalArgs_two {M : Model} {A : Around} {E : Value → Shared → Prop} {s : Shared} {f : Value} {a b : Bool × Sem Value} {rest : List (Bool × Sem Value)} {Q : Args → Shared → Prop}
    (h : wpAny M A (spliced (a :: b :: rest)) (fun vs s' => Q ⟨vs, []⟩ s') E s) : wpAny M A (evalArgs f true (a :: b :: rest) []) Q E s := by
  unfold evalArgs
  rcases a with ⟨st, x⟩
  cases st <;>
  · show wpAny M A (spliced (_ :: b :: rest) >>= _) Q E s
    refine wpAny_bind (wpAny_mono h (fun vs s' h' => ?_) fun _ _ x => x)
    refine wpAny_holding ?_
    exact wpAny_bind (wpAny_pure (wpAny_bind (wpAny_pure (wpAny_pure h'))))
/-- C( *e, y, ..) -/
theorem pe_mkS2 (M : Mk X.K C f) (F : Pr X k f sp) (hr : Room (k + 1) X.A) (hg : Gl X x) (hm : X.mg x = some (.ref C)) (ha : PA X (.Starred e p2 :: e2 :: es) t) (hdb : (x == ("__debug__" : Str)) = false := by decide)
    (hst : ∃ a b rest, backTo pos (starEach (.Starred e p2 :: e2 :: es) X.env) = a :: b :: rest ∧ (a :: b :: rest).any (·.1) = true := by exact ⟨_, _, _, rfl, rfl⟩) :
    PE X (.Call (.Name x p) (.Starred e p2 :: e2 :: es) [] pos) (fun σ H Q => t σ H fun vs H1 => afterMk C sp vs H1 Q) := by
  refine ⟨fun pins s σ H Q I h => ?_⟩
  refine wpAny_Call_Name_kw (ld_glob I hg hm ?_ hdb)
  obtain ⟨a, b, rest, e1, e2⟩ := hst
  have z := ha.run pos pins s σ H _ I h
  rw [e1] at z
  show wpAny _ _ (callWith pos (.ref C) [] (backTo pos (starEach (.Starred e p2 :: _ :: es) X.env)) []) _ _ _
  rw [e1]
  refine PySem.W.ks_call e2 (PySem.W.keeps_K M.kp) (evalArgs_two (thn z fun us s1 ⟨vs, H1, I1, r, q⟩ => ⟨I1.kIn, ?_⟩))
  exact StX.run_makeR M F hr pass0 I1 r q
end
end SgO
end
section
set_option Elab.async false
set_option linter.all false
set_option maxRecDepth 100000
set_option maxHeartbeats 1000000
/-! A method whose first statement is super().m(e, ..). -/
namespace SgS
open PySem PySem.Spec PyProof.Rows L2 NdefX
/-- what K must hold for super() in the method f of the class D: its closure cell cc, its code object cda -/
structure SupAt (P : Program) (K : PySem.W.Frag) (mg : Str → Option Value) (name qual : Str) (params : Arguments) (body : List Stmt) (scope : Scope) (f cc cda D : Addr) (fd : FuncData) : Prop where
  ex : ∃ (oc : Value) (od : Option Addr) (dV kV doc pm : Value) (an : Option Addr) (ct : Value) (osl : Array (Option Value)),
    fd = PySem.W.ksFn name qual params body scope dV kV doc pm an (.ref cda) ct cc ∧ K.lookup f = some ⟨oc, od, .func fd, osl⟩ ∧ PySem.W.codeIn K (.ref cda) qual = true
  cell : ∃ (cl : Value) (cld : Option Addr) (csl : Array (Option Value)), K.lookup cc = some ⟨cl, cld, .cell (some (.ref D)), csl⟩
  code : ∃ (ccl : Value) (cdd : Option Addr) (vs : Array Value) (ccs : Array (Option Value)) (file : Str) (tf : Tok), K.lookup cda = some ⟨ccl, cdd, .fields vs, ccs⟩ ∧ vs[2]? = some (.str file tf) ∧ ((P.main.file : Str) == file) = true
  cls : ∃ cdD, PySem.W.clsIn K D = some cdD
  top : (P.main.scope.names.lookup ("super" : Str)).isSome = false
  mgs : mg "super" = none
  op : PySem.W.nsIn K cStatics "thirdparty.any" = some none
/-- for an instance of the class at C, super().m is the def at f2 -/
structure SupTo (K : PySem.W.Frag) (C D : Addr) (m : Str) (f2 : Addr) : Prop where
  sub : PySem.W.mroIn K C (.ref D) = some true
  mt : PySem.W.ks_superIn K C D m = some (some (.ref f2))
  ty : PySem.W.typeIn K (.ref f2) = some (.type "function")
  fi : PySem.W.fnIn K f2 = true
section
variable {CX : CXT} {P : Program} {w : World} {K : PySem.W.Frag} {mg : Str → Option Value} {base : Heap} {k : Nat} {f cc cda D : Addr} {fd : FuncData} {name qual m : Str} {params : Arguments} {rest : List Stmt} {scope : Scope}
  {N ps : List Str} {sp : Sp} {p0 p1 pa pc pe : Pos} {e : Expr} {es : List Expr} {a0 : Str}
abbrev supSt (m : Str) (p0 p1 pa pc pe : Pos) (e : Expr) (es : List Expr) : Stmt := .Expr (.Call (.Attribute (.Call (.Name "super" p0) [] [] p1) m pa) (e :: es) [] pc) pe
theorem fn_super (F : SupAt P K mg name qual params (supSt m p0 p1 pa pc pe e es :: rest) scope f cc cda D fd) (S : NScope N ps ["__class__"] scope) (len : ∀ vs H Q E, sp vs H Q E → vs.length = ps.length)
    (hp0 : (params.posonlyargs ++ params.args).head?.map (·.arg) = some a0) (hpa : ps[0]? = some a0) (hks : scope.names.lookup ("super" : Str) = some .globalImplicit) (hat : (m == ("__class__" : Str)) = false)
    (hbody : ∀ (A : Around) (outer : List Env) (s : Shared) (H : Hp) (vs : List V) (Q : VK) (E : XK) (X : Cx), X = ncx CX P w K mg base N ⟨name, qual, params, supSt m p0 p1 pa pc pe e es :: rest, scope, [("__class__", cc)], cda⟩ f A outer s H E →
      Room k X.A → sp vs H Q E →
      ∃ (x C dx : Addr) (fs : List (Str × V)) (vs' : List V) (f2 : Addr) (sp2 : Sp) (t1 : TA) (t2 : TS), vs = .ref x :: vs' ∧ H x = some (.ins C dx fs) ∧ PySem.W.isClsIn K C = true ∧ SupTo K C D m f2 ∧
        FnR P w K mg base CX k f2 sp2 ∧ Passes CX X E ∧ PA X (e :: es) t1 ∧ PSs X rest t2 ∧
        t1 (startF N vs [none]) H fun zs H1 => sp2 (.ref x :: zs) H1 (fun _ H2 => t2 { nx := fun _ H' => Q .non H', rt := Q } (startF N vs [none]) H2) E)
    (hst : ∀ env : Env, starEach (e :: es) env = (false, eval e env) :: starEach es env := by intro _; rfl) (hpl : ∀ env : Env, (backTo pc (starEach es env)).any (·.1) = false := by intro _; rfl)
    (hsw : ∀ env : Env, swapsWith (.Call (.Attribute (.Call (.Name "super" p0) [] [] p1) m pa) (e :: es) [] pc) none pe.line env = pure false := by intro _; rfl)
    (hev : ∀ env : Env, eval (.Call (.Attribute (.Call (.Name "super" p0) [] [] p1) m pa) (e :: es) [] pc) env = (do
      let ov ← attributeBase (.Call (.Name "super" p0) [] [] p1) m env (eval (.Call (.Name "super" p0) [] [] p1) env)
      standAt pa.atName
      let (f, first) ← holding [ov] (getMethod ov m (pure false))
      callWith pc f first (backTo pc (starEach (e :: es) env)) []) := by intro _; rfl) :
    FnOk P w K mg base CX (k + 1) f fd ps sp := by
  obtain ⟨oc, od, dV, kV, doc, pm, an, ct, osl, rfl, lk, hcd⟩ := F.ex
  refine ⟨len, fun A outer s H args us vs Q E hr e0 hb r hsp => ?_⟩
  have hl := len _ _ _ _ hsp
  have KX : K.In s.heap := e0.mod.kin.keeps fun b o e => (e0.bs b o e).1
  have lim : s.heap.NoLimit := e0.mod.nolimit.keeps fun b o e => (e0.bs b o e).1
  obtain ⟨cl, cld, csl, hcell⟩ := F.cell
  have Hcc : H cc = none := (e0.bs cc _ (e0.mod.kin _ _ hcell)).2
  have cA : CellsAt [("__class__", cc)] ["__class__"] [none] s.heap H := by
    refine ⟨rfl, fun y c e => ?_, fun x y c e1 e2 => ?_, fun i y hi => ?_⟩
    · have q := PySem.mem_of_lookup e
      obtain rfl : c = cc := by simpa using (congrArg Prod.snd (List.mem_singleton.mp q))
      exact ⟨Hcc, _, _, KX _ _ hcell, rfl⟩
    · have q1 := congrArg Prod.fst (List.mem_singleton.mp (PySem.mem_of_lookup e1))
      have q2 := congrArg Prod.fst (List.mem_singleton.mp (PySem.mem_of_lookup e2))
      exact q1.trans q2.symm
    · have hi0 : i = 0 := by
        have := (List.getElem?_eq_some_iff.mp hi).1
        simpa using this
      subst hi0
      obtain rfl : "__class__" = y := by simpa using hi
      exact ⟨cc, by simp [List.lookup], fun v hv => by simp at hv⟩
  refine codeAny_call_function hr.depth (KX _ _ lk) rfl S.co S.gen rfl (PySem.W.codeRec_of KX hcd) (hb _ _ _ _ ?_)
  refine wpAny_newFunctionEnv S.nocell (fun ⟨n, _⟩ hy => S.par n (List.of_mem_zip hy).1) (fun h₁ hns hsb => ⟨lim.fresh _ hsb, ?_⟩) S.kind
  have kp : ∀ b o, s.heap.get? b = some o → h₁.get? b = some o := fun b o e => hsb.extBut b o (Nat.ne_of_lt (Heap.lt_size e)) (Heap.get?_push_of_some _ e)
  let NFF : NF := ⟨name, qual, params, supSt m p0 p1 pa pc pe e es :: rest, scope, [("__class__", cc)], cda⟩
  have I : Inv (ncx CX P w K mg base N NFF f A outer s H E) [] (startF N vs [none]) H { s with heap := h₁, toks := s.toks + (ps.zip us).length } := inv_startN S hr.hd e0 hl r cA hns kp
  obtain ⟨x, C, dx, fs, vs', f2, sp2, t1, t2, rfl, hx, hcls, ST, F2, pass, hPA, hPS, hq⟩ := hbody A outer s H vs Q E _ rfl (hr.deeper _) hsp
  obtain ⟨cdC, hcC⟩ := Option.isSome_iff_exists.mp (show (PySem.W.clsIn K C).isSome = true from hcls)
  show codeAny _ _ (.func NFF.body (envF NFF f s.heap.objs.size)) _ _
  refine ks_codeAny_funcAt ?_
  have fin : ∀ {σ' : L2.St} {H' : Hp} {v : V} {u : Value} {s' : Shared}, Inv (ncx CX P w K mg base N NFF f A outer s H E) [] σ' H' s' → L2.RelV v u → Q v H' → CE outer P w H s Q u s' :=
    fun {σ' H' v u s'} J rv q => ⟨v, H', J.os, J.bare, J.base, J.hok, rv, q⟩
  refine ks_wpAt_execs_cons ?_
  have hint : interactive (envF NFF f s.heap.objs.size) = false := by
    unfold interactive
    have e : (envF NFF f s.heap.objs.size).scope.kind = .function := S.kind
    rw [e]
    rfl
  refine ks_wpAt_Expr_any ?_ hint (hsw _)
  refine ks_wpAt_MethodCall ?_ (hev _)
  obtain ⟨ccl, cdd, vs2, ccs, file, tf, hco, hv2, hfile⟩ := F.code
  obtain ⟨cdD, hD⟩ := F.cls
  obtain ⟨oD, hD1, hD2⟩ : ∃ oD, h₁.get? D = some oD ∧ oD.data = .cls cdD := by
    unfold PySem.W.clsIn at hD
    split at hD
    · rename_i c d cd' sl ho
      cases hD
      exact ⟨_, kp _ _ (KX _ _ ho), rfl⟩
    · cases hD
  have KI : K.In h₁ := I.kIn
  obtain ⟨ar, har, ha0⟩ : ∃ ar, (params.posonlyargs ++ params.args).head? = some ar ∧ ar.arg = a0 := by
    cases e : (params.posonlyargs ++ params.args).head? with
    | none => rw [e] at hp0; simp at hp0
    | some ar => rw [e] at hp0; exact ⟨ar, rfl, by simpa using hp0⟩
  have hN0 : N[0]? = some a0 := by
    have q := S.pre
    have hlen : 0 < ps.length := (List.getElem?_eq_some_iff.mp hpa).1
    have : (N.take (ps.length + [Str.ofString "__class__"].length))[0]? = some a0 := by
      rw [q, List.getElem?_append_left hlen]; exact hpa
    rw [List.getElem?_take_of_lt (by rw [List.length_singleton]; exact Nat.succ_pos _)] at this
    exact this
  have hloc : scope.names.lookup a0 = some .local := S.par a0 (List.mem_of_getElem? hpa)
  have hfree : scope.names.lookup ("__class__" : Str) = some .free := S.frk _ List.mem_cons_self
  obtain ⟨mL, hmL, hlook⟩ := I.loc
  obtain ⟨u0, r0, l0⟩ := hlook 0 a0 (.ref x) hN0 (by simp [startF]) (.inl hloc)
  obtain rfl : u0 = Value.ref x := r0
  have hm0 : mL a0 = some (.ref x) := by
    rcases l0 with ⟨_, e⟩ | ⟨k, _⟩
    · exact e
    · have k' : scope.names.lookup a0 = some .cell ∨ scope.names.lookup a0 = some .free := k
      rw [hloc] at k'
      rcases k' with k' | k' <;> cases k'
  obtain ⟨mA, O, _, _, _, _⟩ := ins_get I.hok hx
  obtain ⟨od1, J, _⟩ := O.look
  refine ks_wpAt_super_base (env := envF NFF f s.heap.objs.size) hks hfree hat rfl (KI _ _ lk) rfl har rfl (KI _ _ hco) rfl hv2 hfile F.top ?_
  obtain ⟨mb, hb1, hb2⟩ := e0.mod.blt
  refine PySem.W.ks_loadName_global S.kind hks (Calls.loadGlobal_builtin (env := envF NFF f s.heap.objs.size) (e0.mod.glob.keeps I.bk) F.mgs (hb1.keeps I.bk) ((hb2 _ (by decide)).trans (by rfl)) ⟨rfl, ?_⟩)
  refine wpAny_loadName_free S.kind hfree rfl ⟨_, KI _ _ hcell, rfl⟩ ?_
  rw [ha0]
  refine wpAny_loadName_local S.kind hloc hmL hm0 ?_
  refine ks_wpAny_isType_cls hD1 hD2 ⟨rfl, ?_⟩
  refine ks_wpAny_call_super hD1 hD2 J.at_ J.cls (fun c e => ?_) (PySem.W.looks_mroIn KI ST.sub) (fun h2 e2 k2 => ?_)
  · cases e
  have I2 := I.kept (h' := h2) (t' := s.toks + (ps.zip us).length) k2
  obtain ⟨of, hof, hofc⟩ : ∃ of, h2.get? f2 = some of ∧ of.cls = .type "function" := by
    have ht' : (K.lookup f2).map (·.cls) = some (.type "function") := ST.ty
    cases z : K.lookup f2 with
    | none => rw [z] at ht'; cases ht'
    | some of => rw [z] at ht'; exact ⟨of, k2 _ _ (KI _ _ z), Option.some.inj ht'⟩
  have hmt := ST.mt
  unfold PySem.W.ks_superIn at hmt
  rw [hcC] at hmt
  have hxC : x ≠ C := PySem.W.ks_ne KI J hcC
  refine ks_wpAny_getMethod_super e2 (PySem.W.looks_opaque I2.kIn F.op) (l₀ := cdC.mro) ?_ rfl I2.kIn hmt hof hofc hxC hat ?_
  · exact fun A Q E s k q => wpAny_bind ((PySem.W.looks_clsIn I2.kIn hcC) A _ E s k (wpAny_pure q))
  have I3 := ClX.met_new (g := f2) (C := x) I2
  refine ClX.callwith_cm I3 (ClX.base_none I2 (Nat.le_refl _)) ST.fi (thn (hPA.run pc _ _ _ H _ I3 hq) fun us s3 ⟨zs, H2, I4, rv, q2⟩ => ⟨⟨ClX.pin_at I4, I4.kIn⟩, ?_⟩) (hst _) (hpl _)
  refine thn (ClX.run_cm F2 (hr.deeper _) pass I4 rv q2) fun u s4 ⟨v, H3, I5, rv5, q5⟩ => ?_
  refine wpAt_of_wpAny (wpAny_mono (hPS.run _ s4 _ H3 _ I5 q5) (fun fl s' hs => ?_) fun e s' hs => hs)
  cases fl with
  | ret u =>
    obtain ⟨v, σ', H', J, rv, q⟩ := hs
    exact fin J rv q
  | next =>
    obtain ⟨σ', H', J, q⟩ := hs
    exact fin (v := V.non) (u := Value.none) J rfl q
  | brk =>
    obtain ⟨_, _, _, q⟩ := hs
    exact False.elim q
  | cont =>
    obtain ⟨_, _, _, q⟩ := hs
    exact False.elim q
end
end SgS
end
section
set_option Elab.async false
set_option linter.all false
set_option maxRecDepth 100000
set_option maxHeartbeats 1000000
/-! What the head tells of the program: each def's function object, facts of names and classes. -/
namespace ST
open PySem PySem.Spec PyProof.Rows L2
/-! ### looks at K -/
section
variable (K : PySem.W.Frag)
def insB (C : Addr) : Bool := He.eqO (PySem.W.findIn K (.ref C) "__class__") (some (some (.builtin "object.__class__"))) && decide (PySem.W.mroIn K C (.type "object") = some true)
def insG : Bool := He.eqO (PySem.W.specialIn K (.builtin "object.__class__") "__get__") (some (some (.builtin "getset_descriptor.__get__"))) && decide (PySem.W.takesIn K (.builtin "object.__class__") = some true)
def methB (C : Addr) (m : Str) (f : Addr) : Bool := He.eqO (PySem.W.findIn K (.ref C) m) (some (some (.ref f))) && (PySem.W.isFn K (.ref f) && PySem.W.keepIn K (.ref f))
def neB (C : Addr) : Bool := He.eqO (PySem.W.findIn K (.ref C) "__ne__") (some (some (.builtin "object.__ne__"))) && decide (PySem.W.mroIn K C (.type "object") = some true)
def propB (C : Addr) (f : Str) (p g : Addr) : Bool := He.eqO (PySem.W.findIn K (.ref C) f) (some (some (.ref p))) && (He.eqO (PySem.W.specialIn K (.ref p) "__get__") (some (some (.builtin "property.__get__"))) && (decide (PySem.W.takesIn K (.ref p) = some true) &&
  (match PySem.W.recIn K p "property" with
    | some (.ref h :: _) => decide (h = g)
    | _ => false)))
def crB (C : Addr) : Bool := PySem.W.readsIn K C (.type "type") && He.eqO (PySem.W.specialIn K (.ref C) "__getattribute__") (some (some (.builtin "type.__getattribute__")))
def cvB (C : Addr) (f : Str) (i : Int) : Bool := match PySem.W.findCls K (.ref C) (.type "type") f with
  | some (.val (.int j _)) => decide (j = i)
  | _ => false
def supToB (C D : Addr) (m : Str) (f2 : Addr) : Bool := decide (PySem.W.mroIn K C (.ref D) = some true) && (He.eqO (PySem.W.ks_superIn K C D m) (some (some (.ref f2))) && (decide (PySem.W.typeIn K (.ref f2) = some (.type "function")) && PySem.W.fnIn K f2))
abbrev Sg : Program := PySem.Challenge.pw_signtown_k47_whole_walks_left
def fileB (c : Addr) : Bool := match K.lookup c with
  | some ⟨_, _, .fields vs, _⟩ => (match (vs[2]? : Option Value) with
    | some (.str file _) => ((Sg.main.file : Str) == file)
    | _ => false)
  | _ => false
def cellB (cc D : Addr) : Bool := match K.lookup cc with
  | some ⟨_, _, .cell (some (.ref E)), _⟩ => decide (E = D)
  | _ => false
def supB (qual : Str) (dfl : List V) (f D : Addr) : Bool := match K.lookup f with
  | some ⟨_, _, .func fd, _⟩ => (match fd.closure, fd.code with
    | [(x, cc)], .ref c => decide (x = "__class__") && (cellB K cc D && (PySem.W.codeIn K (.ref c) qual && (fileB K c && (PySem.W.isClsIn K D && (PySem.W.keepIn K (.ref f) && He.dflB K fd.defaults dfl)))))
    | _, _ => false)
  | _ => false
/-- what of a function's object is compared as it stands -/
abbrev FnU : Type := Option (Str × Str × Arguments × FuncBody × Scope × Addr × Addr)
def fnU (a : Addr) : FnU := match K.lookup a with
  | some ⟨_, _, .func fd, _⟩ => some (fd.name, fd.qualname, fd.params, fd.body, fd.scope, fd.globals, fd.builtins)
  | _ => none
end
section
variable {K : PySem.W.Frag}
theorem ands {a b : Bool} (h : (a && b) = true) : a = true ∧ b = true := Bool.and_eq_true_iff.mp h
theorem methB_ok {C f : Addr} {m : Str} (h : methB K C m f = true) : Meth K C m f := let ⟨h1, h2⟩ := ands h; let ⟨h3, h4⟩ := ands h2; ⟨He.eqO_ok h1, h3, h4⟩
theorem own_of {C f : Addr} {m : Str} (h : Meth K C m f) : SgO.OwnM K C m f := ⟨h.at_, h.fn⟩
theorem neB_ok {C f : Addr} (h : neB K C = true) (m : Meth K C "__eq__" f) : SgO.NeM K C f := let ⟨h1, h2⟩ := ands h; ⟨own_of m, He.eqO_ok h1, of_decide_eq_true h2⟩
theorem propB_ok {C p g : Addr} {f : Str} (h : propB K C f p g = true) : PropOf K C f p g := by
  obtain ⟨h1, h2⟩ := ands h
  obtain ⟨h3, h4⟩ := ands h2
  obtain ⟨h5, h6⟩ := ands h4
  refine ⟨He.eqO_ok h1, He.eqO_ok h3, of_decide_eq_true h5, ?_⟩
  split at h6
  · rename_i q r e
    exact ⟨r, by rw [e, of_decide_eq_true h6]⟩
  · cases h6
theorem crB_ok {C : Addr} (h : crB K C = true) : ClX.CRead K C (.type "type") := let ⟨h1, h2⟩ := ands h; ⟨h1, He.eqO_ok h2⟩
theorem cvB_ok {C : Addr} {f : Str} {i : Int} (h : cvB K C f i = true) : ∃ t, ClX.CVal K C (.type "type") f (.int i) (.int i t) := by
  unfold cvB at h
  split at h
  · rename_i j t e
    have q := of_decide_eq_true h
    subst q
    exact ⟨t, e, t, rfl⟩
  · cases h
theorem supToB_ok {C D f2 : Addr} {m : Str} (h : supToB K C D m f2 = true) : SgS.SupTo K C D m f2 := by
  obtain ⟨h1, h2⟩ := ands h
  obtain ⟨h3, h4⟩ := ands h2
  obtain ⟨h5, h6⟩ := ands h4
  exact ⟨of_decide_eq_true h1, He.eqO_ok h3, of_decide_eq_true h5, h6⟩
theorem ins_ty {H : Hp} {a C dx : Addr} {fs : List (Str × V)} (g : insG K = true) (h : insB K C = true) (c : Cls K C) (e : H a = some (.ins C dx fs)) : TyX K H (.ref a) (.ref C) := by
  obtain ⟨h1, h2⟩ := ands h
  obtain ⟨g1, g2⟩ := ands g
  exact .base (.ins e c (He.eqO_ok h1) (He.eqO_ok g1) (of_decide_eq_true g2) (of_decide_eq_true h2))
theorem fileB_ok {c : Addr} (h : fileB K c = true) : ∃ (ccl : Value) (cdd : Option Addr) (vs : Array Value) (ccs : Array (Option Value)) (file : Str) (tf : Tok), K.lookup c = some ⟨ccl, cdd, .fields vs, ccs⟩ ∧ vs[2]? = some (.str file tf) ∧ ((Sg.main.file : Str) == file) = true := by
  unfold fileB at h
  split at h
  · rename_i o d vs sl e
    split at h
    · rename_i file tf e2
      exact ⟨_, _, _, _, _, _, e, e2, h⟩
    · cases h
  · cases h
theorem cellB_ok {cc D : Addr} (h : cellB K cc D = true) : ∃ (cl : Value) (cld : Option Addr) (csl : Array (Option Value)), K.lookup cc = some ⟨cl, cld, .cell (some (.ref D)), csl⟩ := by
  unfold cellB at h
  split at h
  · rename_i a b c E d e
    rw [of_decide_eq_true h] at e
    exact ⟨_, _, _, e⟩
  · cases h
/-- a def whose super() is served, and its defaults -/
theorem supB_ok {mg : Str → Option Value} {st : Stmt} {name qual : Str} {dfl : List V} {f D : Addr} (h : supB K qual dfl f D = true) (u : fnU K f = some (name, qual, defArgs st, .stmts (defBody st), defScope st, mainGlobals, builtinsNs)) (mgs : mg "super" = none)
    (op : PySem.W.nsIn K cStatics "thirdparty.any" = some none) (htop : (Sg.main.scope.names.lookup ("super" : Str)).isSome = false) :
    ∃ (cc c : Addr) (fd : FuncData), SgS.SupAt Sg K mg name qual (defArgs st) (defBody st) (defScope st) f cc c D fd ∧ PySem.W.keepIn K (.ref f) = true ∧ DflV K fd.defaults dfl := by
  unfold supB at h
  unfold fnU at u
  split at h
  · rename_i oc od fd sl e
    rw [e] at u
    split at h
    · rename_i x cc c e1 e2
      obtain ⟨h1, h⟩ := ands h
      obtain ⟨h2, h⟩ := ands h
      obtain ⟨h3, h⟩ := ands h
      obtain ⟨h4, h⟩ := ands h
      obtain ⟨h5, h⟩ := ands h
      obtain ⟨h6, h7⟩ := ands h
      obtain rfl := of_decide_eq_true h1
      obtain ⟨n1, n2, n3, n4, n5, n6, n7, n8, n9, n10, n11, n12, n13, n14, n15⟩ := fd
      simp only [Option.some.injEq, Prod.mk.injEq] at u
      obtain ⟨u1, u2, u3, u4, u5, u6, u7⟩ := u
      simp only at e1 e2
      subst u1 u2 u3 u4 u5 u6 u7 e1 e2
      refine ⟨cc, c, _, ⟨⟨oc, od, n8, n9, n10, n11, n12, n14, sl, rfl, e, h3⟩, cellB_ok h2, fileB_ok h4, Option.isSome_iff_exists.mp h5, htop, mgs, op⟩, h6, He.dflB_ok h7⟩
    · cases h
  · cases h
end
/-! ### the text by places -/
def top (i : Nat) : Stmt := PySem.Challenge.pw_signtown_k47_whole_walks_left.main.body.getD i (.Pass ⟨0, 0, 0, 0⟩)
abbrev s_is_int : Stmt := top 25
abbrev s_is_between : Stmt := top 26
abbrev s_is_name : Stmt := top 27
abbrev s_is_price : Stmt := top 28
abbrev s_is_need : Stmt := top 29
abbrev s_is_sign : Stmt := top 35
abbrev s_need_ends : Stmt := top 41
abbrev s_need_prices : Stmt := top 42
abbrev s_gathered : Stmt := top 61
abbrev s_picks : Stmt := top 62
abbrev s_need_town : Stmt := top 65
abbrev s_need_fit : Stmt := top 66
abbrev s_need_need : Stmt := top 67
abbrev s_need_streets : Stmt := top 68
abbrev s_arcs : Stmt := top 70
abbrev s_count_into : Stmt := top 71
abbrev s_come_to : Stmt := top 75
abbrev s_laid_in : Stmt := top 76
abbrev s_walks_in : Stmt := top 77
abbrev s_bundle_for : Stmt := top 78
abbrev s_ways_for : Stmt := top 79
abbrev s_walk_ends : Stmt := top 80
abbrev s_is_walk : Stmt := top 81
abbrev s_weakest : Stmt := top 87
abbrev s_judge : Stmt := top 88
abbrev s_strength : Stmt := top 89
abbrev s__law_pen : Stmt := top 91
abbrev s__law_draw : Stmt := top 92
abbrev s__law_pick : Stmt := top 93
abbrev s__law_titles : Stmt := top 94
abbrev s__law_pairs : Stmt := top 95
abbrev s__law_price : Stmt := top 96
abbrev s__law_site : Stmt := top 97
abbrev s__law_town : Stmt := top 98
abbrev s__law_told : Stmt := top 99
abbrev s__law_triples : Stmt := top 100
abbrev s__law_spots : Stmt := top 101
abbrev s__law_groups : Stmt := top 102
abbrev s__law_enter : Stmt := top 103
abbrev s__law_weakest : Stmt := top 104
abbrev s__law_ends : Stmt := top 105
abbrev s__law_left : Stmt := top 106
abbrev s_law : Stmt := top 107
abbrev s_Signs_init : Stmt := inClass (top 37) 0
abbrev s_Signs_names : Stmt := inClass (top 37) 3
abbrev s_Signs_contains : Stmt := inClass (top 37) 7
abbrev s_Signs_getitem : Stmt := inClass (top 37) 8
abbrev s_Signs_tail : Stmt := inClass (top 37) 9
abbrev s_Signs_sub : Stmt := inClass (top 37) 15
abbrev s_Signs_is_along : Stmt := inClass (top 37) 18
abbrev s_Signs_fits : Stmt := inClass (top 37) 20
abbrev s_Street_init : Stmt := inClass (top 43) 3
abbrev s_Street_ends : Stmt := inClass (top 43) 5
abbrev s_Street_is_like : Stmt := inClass (top 43) 11
abbrev s_Lane_eq : Stmt := inClass (top 46) 5
abbrev s_Avenue_eq : Stmt := inClass (top 47) 4
abbrev s_Road_eq : Stmt := inClass (top 48) 8
abbrev s_Ward_init : Stmt := inClass (top 59) 0
abbrev s_Ward_corners : Stmt := inClass (top 59) 1
abbrev s_Town_init : Stmt := inClass (top 63) 2
abbrev s_Town_streets : Stmt := inClass (top 63) 4
abbrev s_Town_corners : Stmt := inClass (top 63) 5
abbrev s_Town_roads : Stmt := inClass (top 63) 6
abbrev s_Town_len : Stmt := inClass (top 63) 8
abbrev s_Town_contains : Stmt := inClass (top 63) 10
abbrev s_Town_getitem : Stmt := inClass (top 63) 11
abbrev s_Town_or : Stmt := inClass (top 63) 13
abbrev s_Town_sub : Stmt := inClass (top 63) 14
abbrev s_Town_wards : Stmt := inClass (top 63) 25
abbrev s_Bundle_init : Stmt := inClass (top 73) 0
abbrev s_Ways_init : Stmt := inClass (top 74) 0
abbrev s_Sound_init : Stmt := inClass (top 84) 1
abbrev s_Sound_bool : Stmt := inClass (top 84) 2
abbrev s_Strength_init : Stmt := inClass (top 86) 0
abbrev s_Settled_init : Stmt := inClass (top 44) 2
abbrev s_Even_init : Stmt := inClass (top 45) 1
abbrev s_Lane_init : Stmt := inClass (top 46) 1
abbrev s_Avenue_init : Stmt := inClass (top 47) 1
abbrev s_Road_init : Stmt := inClass (top 48) 2
/-! ### addresses -/
/-- the getter of the property f of the class at C -/
def getr (K : PySem.W.Frag) (C : Addr) (f : Str) : Addr := match PySem.W.recIn K (He.ma K C f) "property" with
  | some (.ref g :: _) => g
  | _ => 0
abbrev a_is_int (K : PySem.W.Frag) : Addr := (fun K => He.ga K "is_int") K
abbrev a_is_between (K : PySem.W.Frag) : Addr := (fun K => He.ga K "is_between") K
abbrev a_is_name (K : PySem.W.Frag) : Addr := (fun K => He.ga K "is_name") K
abbrev a_is_price (K : PySem.W.Frag) : Addr := (fun K => He.ga K "is_price") K
abbrev a_is_need (K : PySem.W.Frag) : Addr := (fun K => He.ga K "is_need") K
abbrev a_is_sign (K : PySem.W.Frag) : Addr := (fun K => He.ga K "is_sign") K
abbrev a_need_ends (K : PySem.W.Frag) : Addr := (fun K => He.ga K "need_ends") K
abbrev a_need_prices (K : PySem.W.Frag) : Addr := (fun K => He.ga K "need_prices") K
abbrev a_gathered (K : PySem.W.Frag) : Addr := (fun K => He.ga K "gathered") K
abbrev a_picks (K : PySem.W.Frag) : Addr := (fun K => He.ga K "picks") K
abbrev a_need_town (K : PySem.W.Frag) : Addr := (fun K => He.ga K "need_town") K
abbrev a_need_fit (K : PySem.W.Frag) : Addr := (fun K => He.ga K "need_fit") K
abbrev a_need_need (K : PySem.W.Frag) : Addr := (fun K => He.ga K "need_need") K
abbrev a_need_streets (K : PySem.W.Frag) : Addr := (fun K => He.ga K "need_streets") K
abbrev a_arcs (K : PySem.W.Frag) : Addr := (fun K => He.ga K "arcs") K
abbrev a_count_into (K : PySem.W.Frag) : Addr := (fun K => He.ga K "count_into") K
abbrev a_come_to (K : PySem.W.Frag) : Addr := (fun K => He.ga K "come_to") K
abbrev a_laid_in (K : PySem.W.Frag) : Addr := (fun K => He.ga K "laid_in") K
abbrev a_walks_in (K : PySem.W.Frag) : Addr := (fun K => He.ga K "walks_in") K
abbrev a_bundle_for (K : PySem.W.Frag) : Addr := (fun K => He.ga K "bundle_for") K
abbrev a_ways_for (K : PySem.W.Frag) : Addr := (fun K => He.ga K "ways_for") K
abbrev a_walk_ends (K : PySem.W.Frag) : Addr := (fun K => He.ga K "walk_ends") K
abbrev a_is_walk (K : PySem.W.Frag) : Addr := (fun K => He.ga K "is_walk") K
abbrev a_weakest (K : PySem.W.Frag) : Addr := (fun K => He.ga K "weakest") K
abbrev a_judge (K : PySem.W.Frag) : Addr := (fun K => He.ga K "judge") K
abbrev a_strength (K : PySem.W.Frag) : Addr := (fun K => He.ga K "strength") K
abbrev a__law_pen (K : PySem.W.Frag) : Addr := (fun K => He.ga K "_law_pen") K
abbrev a__law_draw (K : PySem.W.Frag) : Addr := (fun K => He.ga K "_law_draw") K
abbrev a__law_pick (K : PySem.W.Frag) : Addr := (fun K => He.ga K "_law_pick") K
abbrev a__law_titles (K : PySem.W.Frag) : Addr := (fun K => He.ga K "_law_titles") K
abbrev a__law_pairs (K : PySem.W.Frag) : Addr := (fun K => He.ga K "_law_pairs") K
abbrev a__law_price (K : PySem.W.Frag) : Addr := (fun K => He.ga K "_law_price") K
abbrev a__law_site (K : PySem.W.Frag) : Addr := (fun K => He.ga K "_law_site") K
abbrev a__law_town (K : PySem.W.Frag) : Addr := (fun K => He.ga K "_law_town") K
abbrev a__law_told (K : PySem.W.Frag) : Addr := (fun K => He.ga K "_law_told") K
abbrev a__law_triples (K : PySem.W.Frag) : Addr := (fun K => He.ga K "_law_triples") K
abbrev a__law_spots (K : PySem.W.Frag) : Addr := (fun K => He.ga K "_law_spots") K
abbrev a__law_groups (K : PySem.W.Frag) : Addr := (fun K => He.ga K "_law_groups") K
abbrev a__law_enter (K : PySem.W.Frag) : Addr := (fun K => He.ga K "_law_enter") K
abbrev a__law_weakest (K : PySem.W.Frag) : Addr := (fun K => He.ga K "_law_weakest") K
abbrev a__law_ends (K : PySem.W.Frag) : Addr := (fun K => He.ga K "_law_ends") K
abbrev a__law_left (K : PySem.W.Frag) : Addr := (fun K => He.ga K "_law_left") K
abbrev a_law (K : PySem.W.Frag) : Addr := (fun K => He.ga K "law") K
abbrev a_Signs_init (K : PySem.W.Frag) : Addr := (fun K => He.ma K (He.ga K "Signs") "__init__") K
abbrev a_Signs_names (K : PySem.W.Frag) : Addr := (fun K => getr K (He.ga K "Signs") "names") K
abbrev a_Signs_contains (K : PySem.W.Frag) : Addr := (fun K => He.ma K (He.ga K "Signs") "__contains__") K
abbrev a_Signs_getitem (K : PySem.W.Frag) : Addr := (fun K => He.ma K (He.ga K "Signs") "__getitem__") K
abbrev a_Signs_tail (K : PySem.W.Frag) : Addr := (fun K => He.ma K (He.ga K "Signs") "tail") K
abbrev a_Signs_sub (K : PySem.W.Frag) : Addr := (fun K => He.ma K (He.ga K "Signs") "__sub__") K
abbrev a_Signs_is_along (K : PySem.W.Frag) : Addr := (fun K => He.ma K (He.ga K "Signs") "is_along") K
abbrev a_Signs_fits (K : PySem.W.Frag) : Addr := (fun K => He.ma K (He.ga K "Signs") "fits") K
abbrev a_Street_init (K : PySem.W.Frag) : Addr := (fun K => He.ma K (He.ga K "Street") "__init__") K
abbrev a_Street_ends (K : PySem.W.Frag) : Addr := (fun K => getr K (He.ga K "Street") "ends") K
abbrev a_Street_is_like (K : PySem.W.Frag) : Addr := (fun K => He.ma K (He.ga K "Street") "is_like") K
abbrev a_Lane_eq (K : PySem.W.Frag) : Addr := (fun K => He.ma K (He.ga K "Lane") "__eq__") K
abbrev a_Avenue_eq (K : PySem.W.Frag) : Addr := (fun K => He.ma K (He.ga K "Avenue") "__eq__") K
abbrev a_Road_eq (K : PySem.W.Frag) : Addr := (fun K => He.ma K (He.ga K "Road") "__eq__") K
abbrev a_Ward_init (K : PySem.W.Frag) : Addr := (fun K => He.ma K (He.ga K "Ward") "__init__") K
abbrev a_Ward_corners (K : PySem.W.Frag) : Addr := (fun K => getr K (He.ga K "Ward") "corners") K
abbrev a_Town_init (K : PySem.W.Frag) : Addr := (fun K => He.ma K (He.ga K "Town") "__init__") K
abbrev a_Town_streets (K : PySem.W.Frag) : Addr := (fun K => getr K (He.ga K "Town") "streets") K
abbrev a_Town_corners (K : PySem.W.Frag) : Addr := (fun K => getr K (He.ga K "Town") "corners") K
abbrev a_Town_roads (K : PySem.W.Frag) : Addr := (fun K => getr K (He.ga K "Town") "roads") K
abbrev a_Town_len (K : PySem.W.Frag) : Addr := (fun K => He.ma K (He.ga K "Town") "__len__") K
abbrev a_Town_contains (K : PySem.W.Frag) : Addr := (fun K => He.ma K (He.ga K "Town") "__contains__") K
abbrev a_Town_getitem (K : PySem.W.Frag) : Addr := (fun K => He.ma K (He.ga K "Town") "__getitem__") K
abbrev a_Town_or (K : PySem.W.Frag) : Addr := (fun K => He.ma K (He.ga K "Town") "__or__") K
abbrev a_Town_sub (K : PySem.W.Frag) : Addr := (fun K => He.ma K (He.ga K "Town") "__sub__") K
abbrev a_Town_wards (K : PySem.W.Frag) : Addr := (fun K => He.ma K (He.ga K "Town") "wards") K
abbrev a_Bundle_init (K : PySem.W.Frag) : Addr := (fun K => He.ma K (He.ga K "Bundle") "__init__") K
abbrev a_Ways_init (K : PySem.W.Frag) : Addr := (fun K => He.ma K (He.ga K "Ways") "__init__") K
abbrev a_Sound_init (K : PySem.W.Frag) : Addr := (fun K => He.ma K (He.ga K "Sound") "__init__") K
abbrev a_Sound_bool (K : PySem.W.Frag) : Addr := (fun K => He.ma K (He.ga K "Sound") "__bool__") K
abbrev a_Strength_init (K : PySem.W.Frag) : Addr := (fun K => He.ma K (He.ga K "Strength") "__init__") K
abbrev a_Settled_init (K : PySem.W.Frag) : Addr := He.ma K (He.ga K "Settled") "__init__"
abbrev a_Even_init (K : PySem.W.Frag) : Addr := He.ma K (He.ga K "Even") "__init__"
abbrev a_Lane_init (K : PySem.W.Frag) : Addr := He.ma K (He.ga K "Lane") "__init__"
abbrev a_Avenue_init (K : PySem.W.Frag) : Addr := He.ma K (He.ga K "Avenue") "__init__"
abbrev a_Road_init (K : PySem.W.Frag) : Addr := He.ma K (He.ga K "Road") "__init__"
/-! ### the defs -/
def defOf (at_ : PySem.W.Frag → Addr) (name qual : Str) (st : Stmt) : He5.DefA := ⟨at_, name, qual, defArgs st, defBody st, defScope st, [], []⟩
def fns0 : List He5.DefA := [defOf a_is_int "is_int" "is_int" s_is_int, defOf a_is_between "is_between" "is_between" s_is_between, defOf a_is_name "is_name" "is_name" s_is_name, defOf a_is_price "is_price" "is_price" s_is_price, defOf a_is_need "is_need" "is_need" s_is_need, defOf a_is_sign "is_sign" "is_sign" s_is_sign, defOf a_need_ends "need_ends" "need_ends" s_need_ends, defOf a_need_prices "need_prices" "need_prices" s_need_prices, defOf a_gathered "gathered" "gathered" s_gathered, defOf a_picks "picks" "picks" s_picks]
def fns1 : List He5.DefA := [defOf a_need_town "need_town" "need_town" s_need_town, defOf a_need_fit "need_fit" "need_fit" s_need_fit, defOf a_need_need "need_need" "need_need" s_need_need, defOf a_need_streets "need_streets" "need_streets" s_need_streets, defOf a_arcs "arcs" "arcs" s_arcs, defOf a_count_into "count_into" "count_into" s_count_into, defOf a_come_to "come_to" "come_to" s_come_to, defOf a_laid_in "laid_in" "laid_in" s_laid_in, defOf a_walks_in "walks_in" "walks_in" s_walks_in, defOf a_bundle_for "bundle_for" "bundle_for" s_bundle_for]
def fns2 : List He5.DefA := [defOf a_ways_for "ways_for" "ways_for" s_ways_for, defOf a_walk_ends "walk_ends" "walk_ends" s_walk_ends, defOf a_is_walk "is_walk" "is_walk" s_is_walk, defOf a_weakest "weakest" "weakest" s_weakest, defOf a_judge "judge" "judge" s_judge, defOf a_strength "strength" "strength" s_strength, defOf a__law_pen "_law_pen" "_law_pen" s__law_pen, defOf a__law_draw "_law_draw" "_law_draw" s__law_draw, defOf a__law_pick "_law_pick" "_law_pick" s__law_pick, defOf a__law_titles "_law_titles" "_law_titles" s__law_titles]
def fns3 : List He5.DefA := [defOf a__law_pairs "_law_pairs" "_law_pairs" s__law_pairs, defOf a__law_price "_law_price" "_law_price" s__law_price, defOf a__law_site "_law_site" "_law_site" s__law_site, defOf a__law_town "_law_town" "_law_town" s__law_town, defOf a__law_told "_law_told" "_law_told" s__law_told, defOf a__law_triples "_law_triples" "_law_triples" s__law_triples, defOf a__law_spots "_law_spots" "_law_spots" s__law_spots, defOf a__law_groups "_law_groups" "_law_groups" s__law_groups, defOf a__law_enter "_law_enter" "_law_enter" s__law_enter, defOf a__law_weakest "_law_weakest" "_law_weakest" s__law_weakest]
def fns4 : List He5.DefA := [defOf a__law_ends "_law_ends" "_law_ends" s__law_ends, defOf a__law_left "_law_left" "_law_left" s__law_left, defOf a_law "law" "law" s_law, defOf a_Signs_init "__init__" "Signs.__init__" s_Signs_init, defOf a_Signs_names "names" "Signs.names" s_Signs_names, defOf a_Signs_contains "__contains__" "Signs.__contains__" s_Signs_contains, defOf a_Signs_getitem "__getitem__" "Signs.__getitem__" s_Signs_getitem, defOf a_Signs_tail "tail" "Signs.tail" s_Signs_tail, defOf a_Signs_sub "__sub__" "Signs.__sub__" s_Signs_sub, defOf a_Signs_is_along "is_along" "Signs.is_along" s_Signs_is_along]
def fns5 : List He5.DefA := [defOf a_Signs_fits "fits" "Signs.fits" s_Signs_fits, defOf a_Street_init "__init__" "Street.__init__" s_Street_init, defOf a_Street_ends "ends" "Street.ends" s_Street_ends, defOf a_Street_is_like "is_like" "Street.is_like" s_Street_is_like, defOf a_Lane_eq "__eq__" "Lane.__eq__" s_Lane_eq, defOf a_Avenue_eq "__eq__" "Avenue.__eq__" s_Avenue_eq, defOf a_Road_eq "__eq__" "Road.__eq__" s_Road_eq, defOf a_Ward_init "__init__" "Ward.__init__" s_Ward_init, defOf a_Ward_corners "corners" "Ward.corners" s_Ward_corners, defOf a_Town_init "__init__" "Town.__init__" s_Town_init]
def fns6 : List He5.DefA := [defOf a_Town_streets "streets" "Town.streets" s_Town_streets, defOf a_Town_corners "corners" "Town.corners" s_Town_corners, defOf a_Town_roads "roads" "Town.roads" s_Town_roads, defOf a_Town_len "__len__" "Town.__len__" s_Town_len, defOf a_Town_contains "__contains__" "Town.__contains__" s_Town_contains, defOf a_Town_getitem "__getitem__" "Town.__getitem__" s_Town_getitem, defOf a_Town_or "__or__" "Town.__or__" s_Town_or, defOf a_Town_sub "__sub__" "Town.__sub__" s_Town_sub, defOf a_Town_wards "wards" "Town.wards" s_Town_wards, defOf a_Bundle_init "__init__" "Bundle.__init__" s_Bundle_init]
def fns7 : List He5.DefA := [defOf a_Ways_init "__init__" "Ways.__init__" s_Ways_init, defOf a_Sound_init "__init__" "Sound.__init__" s_Sound_init, defOf a_Sound_bool "__bool__" "Sound.__bool__" s_Sound_bool, defOf a_Strength_init "__init__" "Strength.__init__" s_Strength_init]
def fns : List He5.DefA := fns0 ++ fns1 ++ fns2 ++ fns3 ++ fns4 ++ fns5 ++ fns6 ++ fns7
/-! ### the facts, each a look at K -/
def fct0 : List (PySem.W.Frag → Bool) := [fun K => (He.Fa.glo "is_int").ok K,
  fun K => (He.Fa.glo "is_between").ok K,
  fun K => (He.Fa.glo "is_name").ok K,
  fun K => (He.Fa.glo "is_price").ok K,
  fun K => (He.Fa.glo "is_need").ok K,
  fun K => (He.Fa.glo "is_sign").ok K,
  fun K => (He.Fa.glo "need_ends").ok K,
  fun K => (He.Fa.glo "need_prices").ok K,
  fun K => (He.Fa.glo "gathered").ok K,
  fun K => (He.Fa.glo "picks").ok K,
  fun K => (He.Fa.glo "need_town").ok K,
  fun K => (He.Fa.glo "need_fit").ok K]
def fct1 : List (PySem.W.Frag → Bool) := [fun K => (He.Fa.glo "need_need").ok K,
  fun K => (He.Fa.glo "need_streets").ok K,
  fun K => (He.Fa.glo "arcs").ok K,
  fun K => (He.Fa.glo "count_into").ok K,
  fun K => (He.Fa.glo "come_to").ok K,
  fun K => (He.Fa.glo "laid_in").ok K,
  fun K => (He.Fa.glo "walks_in").ok K,
  fun K => (He.Fa.glo "bundle_for").ok K,
  fun K => (He.Fa.glo "ways_for").ok K,
  fun K => (He.Fa.glo "walk_ends").ok K,
  fun K => (He.Fa.glo "is_walk").ok K,
  fun K => (He.Fa.glo "weakest").ok K]
def fct2 : List (PySem.W.Frag → Bool) := [fun K => (He.Fa.glo "judge").ok K,
  fun K => (He.Fa.glo "strength").ok K,
  fun K => (He.Fa.glo "_law_pen").ok K,
  fun K => (He.Fa.glo "_law_draw").ok K,
  fun K => (He.Fa.glo "_law_pick").ok K,
  fun K => (He.Fa.glo "_law_titles").ok K,
  fun K => (He.Fa.glo "_law_pairs").ok K,
  fun K => (He.Fa.glo "_law_price").ok K,
  fun K => (He.Fa.glo "_law_site").ok K,
  fun K => (He.Fa.glo "_law_town").ok K,
  fun K => (He.Fa.glo "_law_told").ok K,
  fun K => (He.Fa.glo "_law_triples").ok K]
def fct3 : List (PySem.W.Frag → Bool) := [fun K => (He.Fa.glo "_law_spots").ok K,
  fun K => (He.Fa.glo "_law_groups").ok K,
  fun K => (He.Fa.glo "_law_enter").ok K,
  fun K => (He.Fa.glo "_law_weakest").ok K,
  fun K => (He.Fa.glo "_law_ends").ok K,
  fun K => (He.Fa.glo "_law_left").ok K,
  fun K => (He.Fa.glo "Signs").ok K,
  fun K => (He.Fa.glo "Lane").ok K,
  fun K => (He.Fa.glo "Avenue").ok K,
  fun K => (He.Fa.glo "Road").ok K,
  fun K => (He.Fa.glo "Ward").ok K,
  fun K => (He.Fa.glo "Town").ok K]
def fct4 : List (PySem.W.Frag → Bool) := [fun K => (He.Fa.glo "Bundle").ok K,
  fun K => (He.Fa.glo "Ways").ok K,
  fun K => (He.Fa.glo "Sound").ok K,
  fun K => (He.Fa.glo "Strength").ok K,
  fun K => (He.Fa.glo "Place").ok K,
  fun K => (He.Fa.glo "Street").ok K,
  fun K => (He.Fa.glo "Settled").ok K,
  fun K => (He.Fa.glo "Even").ok K,
  fun K => (He.Fa.int "MOST_LETTERS" 8).ok K,
  fun K => (He.Fa.int "MOST_PRICE" 999999999999).ok K,
  fun K => (He.Fa.int "MOST_NEED" 20).ok K,
  fun K => (He.Fa.int "MOST_SIGNS" 14).ok K]
def fct5 : List (PySem.W.Frag → Bool) := [fun K => (He.Fa.int "PAIR" 2).ok K,
  fun K => (He.Fa.int "MOST_CORNERS" 7).ok K,
  fun K => (He.Fa.str "LETTERS" "abcdefghijklmnopqrstuvwxyz").ok K,
  fun K => (He.Fa.free "len").ok K,
  fun K => (He.Fa.free "isinstance").ok K,
  fun K => (He.Fa.free "int").ok K,
  fun K => (He.Fa.free "str").ok K,
  fun K => (He.Fa.free "bool").ok K,
  fun K => (He.Fa.free "all").ok K,
  fun K => (He.Fa.free "any").ok K,
  fun K => (He.Fa.free "sorted").ok K,
  fun K => (He.Fa.free "set").ok K]
def fct6 : List (PySem.W.Frag → Bool) := [fun K => (He.Fa.free "tuple").ok K,
  fun K => (He.Fa.free "list").ok K,
  fun K => (He.Fa.free "dict").ok K,
  fun K => (He.Fa.free "range").ok K,
  fun K => (He.Fa.free "min").ok K,
  fun K => (He.Fa.free "max").ok K,
  fun K => (He.Fa.free "abs").ok K,
  fun K => (He.Fa.free "enumerate").ok K,
  fun K => (He.Fa.free "super").ok K,
  fun K => (He.Fa.cls "Signs").ok K,
  fun K => (He.Fa.cls "Lane").ok K,
  fun K => (He.Fa.cls "Avenue").ok K]
def fct7 : List (PySem.W.Frag → Bool) := [fun K => (He.Fa.cls "Road").ok K,
  fun K => (He.Fa.cls "Ward").ok K,
  fun K => (He.Fa.cls "Town").ok K,
  fun K => (He.Fa.cls "Bundle").ok K,
  fun K => (He.Fa.cls "Ways").ok K,
  fun K => (He.Fa.cls "Sound").ok K,
  fun K => (He.Fa.cls "Strength").ok K,
  fun K => insB K (He.ga K "Signs"),
  fun K => insB K (He.ga K "Lane"),
  fun K => insB K (He.ga K "Avenue"),
  fun K => insB K (He.ga K "Road"),
  fun K => insB K (He.ga K "Ward")]
def fct8 : List (PySem.W.Frag → Bool) := [fun K => insB K (He.ga K "Town"),
  fun K => insB K (He.ga K "Bundle"),
  fun K => insB K (He.ga K "Ways"),
  fun K => insB K (He.ga K "Sound"),
  fun K => insB K (He.ga K "Strength"),
  fun K => insG K,
  fun K => (He.Fa.mkr "Signs").ok K,
  fun K => (He.Fa.mkr "Lane").ok K,
  fun K => (He.Fa.mkr "Avenue").ok K,
  fun K => (He.Fa.mkr "Road").ok K,
  fun K => (He.Fa.mkr "Ward").ok K,
  fun K => (He.Fa.mkr "Town").ok K]
def fct9 : List (PySem.W.Frag → Bool) := [fun K => (He.Fa.mkr "Bundle").ok K,
  fun K => (He.Fa.mkr "Ways").ok K,
  fun K => (He.Fa.mkr "Sound").ok K,
  fun K => (He.Fa.mkr "Strength").ok K,
  fun K => (He.Fa.noat "Signs" "own_parts").ok K,
  fun K => (He.Fa.noat "Signs" "own_names").ok K,
  fun K => (He.Fa.noat "Lane" "name").ok K,
  fun K => (He.Fa.noat "Lane" "both").ok K,
  fun K => (He.Fa.noat "Lane" "start").ok K,
  fun K => (He.Fa.noat "Lane" "goal").ok K,
  fun K => (He.Fa.noat "Avenue" "name").ok K,
  fun K => (He.Fa.noat "Avenue" "both").ok K]
def fct10 : List (PySem.W.Frag → Bool) := [fun K => (He.Fa.noat "Avenue" "one").ok K,
  fun K => (He.Fa.noat "Avenue" "other").ok K,
  fun K => (He.Fa.noat "Road" "name").ok K,
  fun K => (He.Fa.noat "Road" "both").ok K,
  fun K => (He.Fa.noat "Road" "one").ok K,
  fun K => (He.Fa.noat "Road" "other").ok K,
  fun K => (He.Fa.noat "Road" "there").ok K,
  fun K => (He.Fa.noat "Road" "back").ok K,
  fun K => (He.Fa.noat "Ward" "own_corners").ok K,
  fun K => (He.Fa.noat "Town" "own_streets").ok K,
  fun K => (He.Fa.noat "Town" "own_rows").ok K,
  fun K => (He.Fa.noat "Town" "own_corners").ok K]
def fct11 : List (PySem.W.Frag → Bool) := [fun K => (He.Fa.noat "Bundle" "walks").ok K,
  fun K => (He.Fa.noat "Bundle" "ward").ok K,
  fun K => (He.Fa.noat "Ways" "root").ok K,
  fun K => (He.Fa.noat "Ways" "out").ok K,
  fun K => (He.Fa.noat "Ways" "back").ok K,
  fun K => (He.Fa.noat "Sound" "ways").ok K,
  fun K => (He.Fa.noat "Strength" "number").ok K,
  fun K => (He.Fa.noat "Strength" "ward").ok K,
  fun K => (He.Fa.noat "Strength" "ways").ok K,
  fun K => (He.Fa.meth "Signs" "__contains__").ok K,
  fun K => (He.Fa.meth "Signs" "__getitem__").ok K,
  fun K => (He.Fa.meth "Signs" "tail").ok K]
def fct12 : List (PySem.W.Frag → Bool) := [fun K => (He.Fa.meth "Signs" "__sub__").ok K,
  fun K => (He.Fa.meth "Signs" "is_along").ok K,
  fun K => (He.Fa.meth "Signs" "fits").ok K,
  fun K => (He.Fa.meth "Lane" "__eq__").ok K,
  fun K => (He.Fa.meth "Avenue" "__eq__").ok K,
  fun K => (He.Fa.meth "Road" "__eq__").ok K,
  fun K => (He.Fa.meth "Town" "__len__").ok K,
  fun K => (He.Fa.meth "Town" "__contains__").ok K,
  fun K => (He.Fa.meth "Town" "__getitem__").ok K,
  fun K => (He.Fa.meth "Town" "__or__").ok K,
  fun K => (He.Fa.meth "Town" "__sub__").ok K,
  fun K => (He.Fa.meth "Town" "wards").ok K]
def fct13 : List (PySem.W.Frag → Bool) := [fun K => (He.Fa.meth "Sound" "__bool__").ok K,
  fun K => methB K (He.ga K "Lane") "is_like" (He.ma K (He.ga K "Street") "is_like"),
  fun K => neB K (He.ga K "Lane"),
  fun K => propB K (He.ga K "Lane") "ends" (He.ma K (He.ga K "Street") "ends") (getr K (He.ga K "Street") "ends"),
  fun K => SgO.noSlots K "or" (He.ga K "Lane"),
  fun K => methB K (He.ga K "Avenue") "is_like" (He.ma K (He.ga K "Street") "is_like"),
  fun K => neB K (He.ga K "Avenue"),
  fun K => propB K (He.ga K "Avenue") "ends" (He.ma K (He.ga K "Street") "ends") (getr K (He.ga K "Street") "ends"),
  fun K => SgO.noSlots K "or" (He.ga K "Avenue"),
  fun K => methB K (He.ga K "Road") "is_like" (He.ma K (He.ga K "Street") "is_like"),
  fun K => neB K (He.ga K "Road"),
  fun K => propB K (He.ga K "Road") "ends" (He.ma K (He.ga K "Street") "ends") (getr K (He.ga K "Street") "ends")]
def fct14 : List (PySem.W.Frag → Bool) := [fun K => SgO.noSlots K "or" (He.ga K "Road"),
  fun K => propB K (He.ga K "Town") "streets" (He.ma K (He.ga K "Town") "streets") (getr K (He.ga K "Town") "streets"),
  fun K => propB K (He.ga K "Town") "roads" (He.ma K (He.ga K "Town") "roads") (getr K (He.ga K "Town") "roads"),
  fun K => propB K (He.ga K "Town") "corners" (He.ma K (He.ga K "Town") "corners") (getr K (He.ga K "Town") "corners"),
  fun K => propB K (He.ga K "Ward") "corners" (He.ma K (He.ga K "Ward") "corners") (getr K (He.ga K "Ward") "corners"),
  fun K => propB K (He.ga K "Signs") "names" (He.ma K (He.ga K "Signs") "names") (getr K (He.ga K "Signs") "names"),
  fun K => SgO.noSlot K "sub" (.type "str"),
  fun K => PySem.W.selfFirst K (He.ga K "Town"),
  fun K => PySem.W.selfFirst K (He.ga K "Signs"),
  fun K => PySem.W.fnIn K (a_Signs_getitem K),
  fun K => PySem.W.fnIn K (a_Town_getitem K),
  fun K => decide (PySem.W.kitOne K (.ref (He.ga K "Signs")) (.ref (He.ga K "Signs")) = some true)]
def fct15 : List (PySem.W.Frag → Bool) := [fun K => decide (PySem.W.kitOne K (.ref (He.ga K "Town")) (.ref (He.ga K "Place")) = some true),
  fun K => decide (PySem.W.kitOne K (.ref (He.ga K "Town")) (.ref (He.ga K "Town")) = some true),
  fun K => decide (PySem.W.kitOne K (.ref (He.ga K "Lane")) (.ref (He.ga K "Street")) = some true),
  fun K => decide (PySem.W.kitOne K (.ref (He.ga K "Avenue")) (.ref (He.ga K "Street")) = some true),
  fun K => decide (PySem.W.kitOne K (.ref (He.ga K "Road")) (.ref (He.ga K "Street")) = some true),
  fun K => decide (PySem.W.kitOne K (.ref (He.ga K "Lane")) (.ref (He.ga K "Lane")) = some true),
  fun K => decide (PySem.W.kitOne K (.ref (He.ga K "Avenue")) (.ref (He.ga K "Lane")) = some false),
  fun K => decide (PySem.W.kitOne K (.ref (He.ga K "Road")) (.ref (He.ga K "Lane")) = some false),
  fun K => decide (PySem.W.kitOne K (.ref (He.ga K "Lane")) (.ref (He.ga K "Road")) = some false),
  fun K => decide (PySem.W.kitOne K (.ref (He.ga K "Avenue")) (.ref (He.ga K "Road")) = some false),
  fun K => decide (PySem.W.kitOne K (.ref (He.ga K "Road")) (.ref (He.ga K "Road")) = some true),
  fun K => decide (PySem.W.kitOne K (.ref (He.ga K "Avenue")) (.ref (He.ga K "Avenue")) = some true)]
def fct16 : List (PySem.W.Frag → Bool) := [fun K => crB K (He.ga K "Town"),
  fun K => cvB K (He.ga K "Town") "CORNERS" 7,
  fun K => cvB K (He.ga K "Town") "STREETS" 14,
  fun K => supToB K (He.ga K "Lane") (He.ga K "Lane") "__init__" (a_Settled_init K),
  fun K => supToB K (He.ga K "Lane") (He.ga K "Settled") "__init__" (a_Street_init K),
  fun K => supToB K (He.ga K "Avenue") (He.ga K "Avenue") "__init__" (a_Settled_init K),
  fun K => supToB K (He.ga K "Avenue") (He.ga K "Settled") "__init__" (a_Even_init K),
  fun K => supToB K (He.ga K "Avenue") (He.ga K "Even") "__init__" (a_Street_init K),
  fun K => supToB K (He.ga K "Road") (He.ga K "Road") "__init__" (a_Even_init K),
  fun K => supToB K (He.ga K "Road") (He.ga K "Even") "__init__" (a_Street_init K),
  fun K => supB K "Settled.__init__" [] (a_Settled_init K) (He.ga K "Settled"),
  fun K => supB K "Even.__init__" [] (a_Even_init K) (He.ga K "Even")]
def fct17 : List (PySem.W.Frag → Bool) := [fun K => supB K "Lane.__init__" [] (a_Lane_init K) (He.ga K "Lane"),
  fun K => supB K "Avenue.__init__" [] (a_Avenue_init K) (He.ga K "Avenue"),
  fun K => supB K "Road.__init__" [.int 0, .int 0] (a_Road_init K) (He.ga K "Road"),
  fun K => He.eqO (PySem.W.nsIn K cStatics "thirdparty.any") (some none)]
def fct : List (PySem.W.Frag → Bool) := fct0 ++ fct1 ++ fct2 ++ fct3 ++ fct4 ++ fct5 ++ fct6 ++ fct7 ++ fct8 ++ fct9 ++ fct10 ++ fct11 ++ fct12 ++ fct13 ++ fct14 ++ fct15 ++ fct16 ++ fct17
def sups : List (PySem.W.Frag → Addr) := [a_Settled_init, a_Even_init, a_Lane_init, a_Avenue_init, a_Road_init]/-! ### the hook -/
def supV (name qual : Str) (st : Stmt) : FnU := some (name, qual, defArgs st, .stmts (defBody st), defScope st, mainGlobals, builtinsNs)
def supVals : List FnU := [supV "__init__" "Settled.__init__" s_Settled_init, supV "__init__" "Even.__init__" s_Even_init, supV "__init__" "Lane.__init__" s_Lane_init, supV "__init__" "Avenue.__init__" s_Avenue_init, supV "__init__" "Road.__init__" s_Road_init]
/-- what an object names, as far as it is wanted -/
def near (o : Obj) : List Addr := match o.data with
  | .dict es _ => es.toList.flatMap fun e => He.refV e.val
  | .func fd => He.refV fd.code ++ He.refV fd.defaults ++ fd.closure.map (·.2)
  | .cls cd => [cd.ns]
  | .fields vs => (match o.cls with
    | .type "property" => vs.toList.flatMap He.refV
    | _ => [])
  | _ => []
def nears (g : Addr → Option Obj) (as : List Addr) : List Addr := as.flatMap fun a => match g a with
  | some o => near o
  | none => []
/-- the module's names, the classes' names, the methods, the getters, their code -/
def asS (g : Addr → Option Obj) : List Addr :=
  let l1 := nears g [mainGlobals]
  let l2 := nears g l1
  let l3 := nears g l2
  let l4 := nears g l3
  let l5 := nears g l4
  [mainGlobals, cStatics] ++ l1 ++ l2 ++ l3 ++ l4 ++ l5
abbrev AlS : Type := Bool × List He5.FnW × List FnU
def obsK (K : PySem.W.Frag) : AlS := ((fct.all fun f => f K) && fns.all fun d => d.ok K, fns.map fun d => He5.fnA K (d.at_ K), sups.map fun a => fnU K (a K))
def valK : AlS := (true, fns.map He5.DefA.val, supVals)
def SaysS (K : PySem.W.Frag) : Prop := obsK K = valK
def obsS (g : Addr → Option Obj) : AlS := obsK (He.frG g (asS g))
def hookS : PySem.W.Hook where
  α := AlS
  obs := fun s => obsS s.heap.get?
  val := fun _ => valK
  says := fun _ h => ∃ K : PySem.W.Frag, K.In h ∧ SaysS K
  of := fun _ _ e => ⟨_, He.frG_in, e⟩
  keeps := fun _ _ _ ⟨K, hK, c⟩ k => ⟨K, PySem.W.Frag.In.keeps hK k, c⟩
theorem obsS_eq {g : Addr → Option Obj} {s : Shared} (h : ∀ a, g a = s.heap.get? a) : obsS g = hookS.obs s := by
  have e : g = s.heap.get? := funext h
  rw [e] <;> rfl
/-- all that the walks take from the head: K, what the module's names hold -/
structure Txt (K : PySem.W.Frag) (mg : Str → Option Value) : Prop where
  says : SaysS K
  at_ : ∃ h : Heap, K.In h ∧ h.Ns mainGlobals mg
section
variable {K : PySem.W.Frag} {mg : Str → Option Value}
theorem Txt.fact (T : Txt K mg) (i : Nat) {f : PySem.W.Frag → Bool} (h : fct[i]? = some f) : f K = true :=
  List.all_eq_true.mp (ands (congrArg (fun z : AlS => z.1) T.says)).1 f (List.mem_of_getElem? h)
theorem Txt.fn (T : Txt K mg) (i : Nat) {d : He5.DefA} (h : fns[i]? = some d) : ∃ fd, FunD K d.name d.qual d.params d.body d.scope (d.dvs K) (d.kws K) (d.at_ K) fd := by
  have c1 := (ands (congrArg (fun z : AlS => z.1) T.says)).2
  have e : fns.map (fun d => He5.fnA K (d.at_ K)) = fns.map He5.DefA.val := congrArg (fun z : AlS => z.2.1) T.says
  have e2 : (fns.map fun d => He5.fnA K (d.at_ K))[i]? = (fns.map He5.DefA.val)[i]? := by rw [e]
  rw [List.getElem?_map, List.getElem?_map, h] at e2
  exact He5.DefA.funD (Option.some.inj e2) (List.all_eq_true.mp c1 d (List.mem_of_getElem? h))
theorem Txt.supU (T : Txt K mg) (i : Nat) {a : PySem.W.Frag → Addr} {v : FnU} (h : sups[i]? = some a) (hv : supVals[i]? = some v) : fnU K (a K) = v := by
  have e : (sups.map fun a => fnU K (a K)) = supVals := congrArg (fun z : AlS => z.2.2) T.says
  have e2 : (sups.map fun a => fnU K (a K))[i]? = supVals[i]? := by rw [e]
  rw [List.getElem?_map, h, hv] at e2
  exact Option.some.inj e2
theorem Txt.glo (T : Txt K mg) {x : Str} (c : (He.Fa.glo x).ok K = true) : mg x = some (.ref (He.ga K x)) := let ⟨_, X, G⟩ := T.at_; He.glo_ok X G c
theorem Txt.free (T : Txt K mg) {x : Str} (c : (He.Fa.free x).ok K = true) : mg x = none := let ⟨_, X, G⟩ := T.at_; He.free_ok X G c
theorem Txt.int (T : Txt K mg) {x : Str} {i : Int} (c : (He.Fa.int x i).ok K = true) : ∃ t, mg x = some (.int i t) := let ⟨_, X, G⟩ := T.at_; He.int_ok X G c
theorem Txt.str (T : Txt K mg) {x z : Str} (c : (He.Fa.str x z).ok K = true) : ∃ t, mg x = some (.str z t) := let ⟨_, X, G⟩ := T.at_; He.str_ok X G c
end
section
variable {K : PySem.W.Frag} {mg : Str → Option Value}
theorem Txt.r_g_is_int (T : Txt K mg) : ((He.Fa.glo "is_int").ok K) = true := T.fact 0 rfl
theorem Txt.r_g_is_between (T : Txt K mg) : ((He.Fa.glo "is_between").ok K) = true := T.fact 1 rfl
theorem Txt.r_g_is_name (T : Txt K mg) : ((He.Fa.glo "is_name").ok K) = true := T.fact 2 rfl
theorem Txt.r_g_is_price (T : Txt K mg) : ((He.Fa.glo "is_price").ok K) = true := T.fact 3 rfl
theorem Txt.r_g_is_need (T : Txt K mg) : ((He.Fa.glo "is_need").ok K) = true := T.fact 4 rfl
theorem Txt.r_g_is_sign (T : Txt K mg) : ((He.Fa.glo "is_sign").ok K) = true := T.fact 5 rfl
theorem Txt.r_g_need_ends (T : Txt K mg) : ((He.Fa.glo "need_ends").ok K) = true := T.fact 6 rfl
theorem Txt.r_g_need_prices (T : Txt K mg) : ((He.Fa.glo "need_prices").ok K) = true := T.fact 7 rfl
theorem Txt.r_g_gathered (T : Txt K mg) : ((He.Fa.glo "gathered").ok K) = true := T.fact 8 rfl
theorem Txt.r_g_picks (T : Txt K mg) : ((He.Fa.glo "picks").ok K) = true := T.fact 9 rfl
theorem Txt.r_g_need_town (T : Txt K mg) : ((He.Fa.glo "need_town").ok K) = true := T.fact 10 rfl
theorem Txt.r_g_need_fit (T : Txt K mg) : ((He.Fa.glo "need_fit").ok K) = true := T.fact 11 rfl
theorem Txt.r_g_need_need (T : Txt K mg) : ((He.Fa.glo "need_need").ok K) = true := T.fact 12 rfl
theorem Txt.r_g_need_streets (T : Txt K mg) : ((He.Fa.glo "need_streets").ok K) = true := T.fact 13 rfl
theorem Txt.r_g_arcs (T : Txt K mg) : ((He.Fa.glo "arcs").ok K) = true := T.fact 14 rfl
theorem Txt.r_g_count_into (T : Txt K mg) : ((He.Fa.glo "count_into").ok K) = true := T.fact 15 rfl
theorem Txt.r_g_come_to (T : Txt K mg) : ((He.Fa.glo "come_to").ok K) = true := T.fact 16 rfl
theorem Txt.r_g_laid_in (T : Txt K mg) : ((He.Fa.glo "laid_in").ok K) = true := T.fact 17 rfl
theorem Txt.r_g_walks_in (T : Txt K mg) : ((He.Fa.glo "walks_in").ok K) = true := T.fact 18 rfl
theorem Txt.r_g_bundle_for (T : Txt K mg) : ((He.Fa.glo "bundle_for").ok K) = true := T.fact 19 rfl
theorem Txt.r_g_ways_for (T : Txt K mg) : ((He.Fa.glo "ways_for").ok K) = true := T.fact 20 rfl
theorem Txt.r_g_walk_ends (T : Txt K mg) : ((He.Fa.glo "walk_ends").ok K) = true := T.fact 21 rfl
theorem Txt.r_g_is_walk (T : Txt K mg) : ((He.Fa.glo "is_walk").ok K) = true := T.fact 22 rfl
theorem Txt.r_g_weakest (T : Txt K mg) : ((He.Fa.glo "weakest").ok K) = true := T.fact 23 rfl
theorem Txt.r_g_judge (T : Txt K mg) : ((He.Fa.glo "judge").ok K) = true := T.fact 24 rfl
theorem Txt.r_g_strength (T : Txt K mg) : ((He.Fa.glo "strength").ok K) = true := T.fact 25 rfl
theorem Txt.r_g__law_pen (T : Txt K mg) : ((He.Fa.glo "_law_pen").ok K) = true := T.fact 26 rfl
theorem Txt.r_g__law_draw (T : Txt K mg) : ((He.Fa.glo "_law_draw").ok K) = true := T.fact 27 rfl
theorem Txt.r_g__law_pick (T : Txt K mg) : ((He.Fa.glo "_law_pick").ok K) = true := T.fact 28 rfl
theorem Txt.r_g__law_titles (T : Txt K mg) : ((He.Fa.glo "_law_titles").ok K) = true := T.fact 29 rfl
theorem Txt.r_g__law_pairs (T : Txt K mg) : ((He.Fa.glo "_law_pairs").ok K) = true := T.fact 30 rfl
theorem Txt.r_g__law_price (T : Txt K mg) : ((He.Fa.glo "_law_price").ok K) = true := T.fact 31 rfl
theorem Txt.r_g__law_site (T : Txt K mg) : ((He.Fa.glo "_law_site").ok K) = true := T.fact 32 rfl
theorem Txt.r_g__law_town (T : Txt K mg) : ((He.Fa.glo "_law_town").ok K) = true := T.fact 33 rfl
theorem Txt.r_g__law_told (T : Txt K mg) : ((He.Fa.glo "_law_told").ok K) = true := T.fact 34 rfl
theorem Txt.r_g__law_triples (T : Txt K mg) : ((He.Fa.glo "_law_triples").ok K) = true := T.fact 35 rfl
theorem Txt.r_g__law_spots (T : Txt K mg) : ((He.Fa.glo "_law_spots").ok K) = true := T.fact 36 rfl
theorem Txt.r_g__law_groups (T : Txt K mg) : ((He.Fa.glo "_law_groups").ok K) = true := T.fact 37 rfl
theorem Txt.r_g__law_enter (T : Txt K mg) : ((He.Fa.glo "_law_enter").ok K) = true := T.fact 38 rfl
theorem Txt.r_g__law_weakest (T : Txt K mg) : ((He.Fa.glo "_law_weakest").ok K) = true := T.fact 39 rfl
theorem Txt.r_g__law_ends (T : Txt K mg) : ((He.Fa.glo "_law_ends").ok K) = true := T.fact 40 rfl
theorem Txt.r_g__law_left (T : Txt K mg) : ((He.Fa.glo "_law_left").ok K) = true := T.fact 41 rfl
theorem Txt.r_g_Signs (T : Txt K mg) : ((He.Fa.glo "Signs").ok K) = true := T.fact 42 rfl
theorem Txt.r_g_Lane (T : Txt K mg) : ((He.Fa.glo "Lane").ok K) = true := T.fact 43 rfl
theorem Txt.r_g_Avenue (T : Txt K mg) : ((He.Fa.glo "Avenue").ok K) = true := T.fact 44 rfl
theorem Txt.r_g_Road (T : Txt K mg) : ((He.Fa.glo "Road").ok K) = true := T.fact 45 rfl
theorem Txt.r_g_Ward (T : Txt K mg) : ((He.Fa.glo "Ward").ok K) = true := T.fact 46 rfl
theorem Txt.r_g_Town (T : Txt K mg) : ((He.Fa.glo "Town").ok K) = true := T.fact 47 rfl
theorem Txt.r_g_Bundle (T : Txt K mg) : ((He.Fa.glo "Bundle").ok K) = true := T.fact 48 rfl
theorem Txt.r_g_Ways (T : Txt K mg) : ((He.Fa.glo "Ways").ok K) = true := T.fact 49 rfl
theorem Txt.r_g_Sound (T : Txt K mg) : ((He.Fa.glo "Sound").ok K) = true := T.fact 50 rfl
theorem Txt.r_g_Strength (T : Txt K mg) : ((He.Fa.glo "Strength").ok K) = true := T.fact 51 rfl
theorem Txt.r_g_Place (T : Txt K mg) : ((He.Fa.glo "Place").ok K) = true := T.fact 52 rfl
theorem Txt.r_g_Street (T : Txt K mg) : ((He.Fa.glo "Street").ok K) = true := T.fact 53 rfl
theorem Txt.r_g_Settled (T : Txt K mg) : ((He.Fa.glo "Settled").ok K) = true := T.fact 54 rfl
theorem Txt.r_g_Even (T : Txt K mg) : ((He.Fa.glo "Even").ok K) = true := T.fact 55 rfl
theorem Txt.r_i_MOST_LETTERS (T : Txt K mg) : ((He.Fa.int "MOST_LETTERS" 8).ok K) = true := T.fact 56 rfl
theorem Txt.r_i_MOST_PRICE (T : Txt K mg) : ((He.Fa.int "MOST_PRICE" 999999999999).ok K) = true := T.fact 57 rfl
theorem Txt.r_i_MOST_NEED (T : Txt K mg) : ((He.Fa.int "MOST_NEED" 20).ok K) = true := T.fact 58 rfl
theorem Txt.r_i_MOST_SIGNS (T : Txt K mg) : ((He.Fa.int "MOST_SIGNS" 14).ok K) = true := T.fact 59 rfl
theorem Txt.r_i_PAIR (T : Txt K mg) : ((He.Fa.int "PAIR" 2).ok K) = true := T.fact 60 rfl
theorem Txt.r_i_MOST_CORNERS (T : Txt K mg) : ((He.Fa.int "MOST_CORNERS" 7).ok K) = true := T.fact 61 rfl
theorem Txt.r_i_LETTERS (T : Txt K mg) : ((He.Fa.str "LETTERS" "abcdefghijklmnopqrstuvwxyz").ok K) = true := T.fact 62 rfl
theorem Txt.r_f_len (T : Txt K mg) : ((He.Fa.free "len").ok K) = true := T.fact 63 rfl
theorem Txt.r_f_isinstance (T : Txt K mg) : ((He.Fa.free "isinstance").ok K) = true := T.fact 64 rfl
theorem Txt.r_f_int (T : Txt K mg) : ((He.Fa.free "int").ok K) = true := T.fact 65 rfl
theorem Txt.r_f_str (T : Txt K mg) : ((He.Fa.free "str").ok K) = true := T.fact 66 rfl
theorem Txt.r_f_bool (T : Txt K mg) : ((He.Fa.free "bool").ok K) = true := T.fact 67 rfl
theorem Txt.r_f_all (T : Txt K mg) : ((He.Fa.free "all").ok K) = true := T.fact 68 rfl
theorem Txt.r_f_any (T : Txt K mg) : ((He.Fa.free "any").ok K) = true := T.fact 69 rfl
theorem Txt.r_f_sorted (T : Txt K mg) : ((He.Fa.free "sorted").ok K) = true := T.fact 70 rfl
theorem Txt.r_f_set (T : Txt K mg) : ((He.Fa.free "set").ok K) = true := T.fact 71 rfl
theorem Txt.r_f_tuple (T : Txt K mg) : ((He.Fa.free "tuple").ok K) = true := T.fact 72 rfl
theorem Txt.r_f_list (T : Txt K mg) : ((He.Fa.free "list").ok K) = true := T.fact 73 rfl
theorem Txt.r_f_dict (T : Txt K mg) : ((He.Fa.free "dict").ok K) = true := T.fact 74 rfl
theorem Txt.r_f_range (T : Txt K mg) : ((He.Fa.free "range").ok K) = true := T.fact 75 rfl
theorem Txt.r_f_min (T : Txt K mg) : ((He.Fa.free "min").ok K) = true := T.fact 76 rfl
theorem Txt.r_f_max (T : Txt K mg) : ((He.Fa.free "max").ok K) = true := T.fact 77 rfl
theorem Txt.r_f_abs (T : Txt K mg) : ((He.Fa.free "abs").ok K) = true := T.fact 78 rfl
theorem Txt.r_f_enumerate (T : Txt K mg) : ((He.Fa.free "enumerate").ok K) = true := T.fact 79 rfl
theorem Txt.r_f_super (T : Txt K mg) : ((He.Fa.free "super").ok K) = true := T.fact 80 rfl
theorem Txt.r_c_Signs (T : Txt K mg) : ((He.Fa.cls "Signs").ok K) = true := T.fact 81 rfl
theorem Txt.r_c_Lane (T : Txt K mg) : ((He.Fa.cls "Lane").ok K) = true := T.fact 82 rfl
theorem Txt.r_c_Avenue (T : Txt K mg) : ((He.Fa.cls "Avenue").ok K) = true := T.fact 83 rfl
theorem Txt.r_c_Road (T : Txt K mg) : ((He.Fa.cls "Road").ok K) = true := T.fact 84 rfl
theorem Txt.r_c_Ward (T : Txt K mg) : ((He.Fa.cls "Ward").ok K) = true := T.fact 85 rfl
theorem Txt.r_c_Town (T : Txt K mg) : ((He.Fa.cls "Town").ok K) = true := T.fact 86 rfl
theorem Txt.r_c_Bundle (T : Txt K mg) : ((He.Fa.cls "Bundle").ok K) = true := T.fact 87 rfl
theorem Txt.r_c_Ways (T : Txt K mg) : ((He.Fa.cls "Ways").ok K) = true := T.fact 88 rfl
theorem Txt.r_c_Sound (T : Txt K mg) : ((He.Fa.cls "Sound").ok K) = true := T.fact 89 rfl
theorem Txt.r_c_Strength (T : Txt K mg) : ((He.Fa.cls "Strength").ok K) = true := T.fact 90 rfl
theorem Txt.r_t_Signs (T : Txt K mg) : (insB K (He.ga K "Signs")) = true := T.fact 91 rfl
theorem Txt.r_t_Lane (T : Txt K mg) : (insB K (He.ga K "Lane")) = true := T.fact 92 rfl
theorem Txt.r_t_Avenue (T : Txt K mg) : (insB K (He.ga K "Avenue")) = true := T.fact 93 rfl
theorem Txt.r_t_Road (T : Txt K mg) : (insB K (He.ga K "Road")) = true := T.fact 94 rfl
theorem Txt.r_t_Ward (T : Txt K mg) : (insB K (He.ga K "Ward")) = true := T.fact 95 rfl
theorem Txt.r_t_Town (T : Txt K mg) : (insB K (He.ga K "Town")) = true := T.fact 96 rfl
theorem Txt.r_t_Bundle (T : Txt K mg) : (insB K (He.ga K "Bundle")) = true := T.fact 97 rfl
theorem Txt.r_t_Ways (T : Txt K mg) : (insB K (He.ga K "Ways")) = true := T.fact 98 rfl
theorem Txt.r_t_Sound (T : Txt K mg) : (insB K (He.ga K "Sound")) = true := T.fact 99 rfl
theorem Txt.r_t_Strength (T : Txt K mg) : (insB K (He.ga K "Strength")) = true := T.fact 100 rfl
theorem Txt.r_insG (T : Txt K mg) : (insG K) = true := T.fact 101 rfl
theorem Txt.r_m_Signs (T : Txt K mg) : ((He.Fa.mkr "Signs").ok K) = true := T.fact 102 rfl
theorem Txt.r_m_Lane (T : Txt K mg) : ((He.Fa.mkr "Lane").ok K) = true := T.fact 103 rfl
theorem Txt.r_m_Avenue (T : Txt K mg) : ((He.Fa.mkr "Avenue").ok K) = true := T.fact 104 rfl
theorem Txt.r_m_Road (T : Txt K mg) : ((He.Fa.mkr "Road").ok K) = true := T.fact 105 rfl
theorem Txt.r_m_Ward (T : Txt K mg) : ((He.Fa.mkr "Ward").ok K) = true := T.fact 106 rfl
theorem Txt.r_m_Town (T : Txt K mg) : ((He.Fa.mkr "Town").ok K) = true := T.fact 107 rfl
theorem Txt.r_m_Bundle (T : Txt K mg) : ((He.Fa.mkr "Bundle").ok K) = true := T.fact 108 rfl
theorem Txt.r_m_Ways (T : Txt K mg) : ((He.Fa.mkr "Ways").ok K) = true := T.fact 109 rfl
theorem Txt.r_m_Sound (T : Txt K mg) : ((He.Fa.mkr "Sound").ok K) = true := T.fact 110 rfl
theorem Txt.r_m_Strength (T : Txt K mg) : ((He.Fa.mkr "Strength").ok K) = true := T.fact 111 rfl
theorem Txt.r_n_Signs_own_parts (T : Txt K mg) : ((He.Fa.noat "Signs" "own_parts").ok K) = true := T.fact 112 rfl
theorem Txt.r_n_Signs_own_names (T : Txt K mg) : ((He.Fa.noat "Signs" "own_names").ok K) = true := T.fact 113 rfl
theorem Txt.r_n_Lane_name (T : Txt K mg) : ((He.Fa.noat "Lane" "name").ok K) = true := T.fact 114 rfl
theorem Txt.r_n_Lane_both (T : Txt K mg) : ((He.Fa.noat "Lane" "both").ok K) = true := T.fact 115 rfl
theorem Txt.r_n_Lane_start (T : Txt K mg) : ((He.Fa.noat "Lane" "start").ok K) = true := T.fact 116 rfl
theorem Txt.r_n_Lane_goal (T : Txt K mg) : ((He.Fa.noat "Lane" "goal").ok K) = true := T.fact 117 rfl
theorem Txt.r_n_Avenue_name (T : Txt K mg) : ((He.Fa.noat "Avenue" "name").ok K) = true := T.fact 118 rfl
theorem Txt.r_n_Avenue_both (T : Txt K mg) : ((He.Fa.noat "Avenue" "both").ok K) = true := T.fact 119 rfl
theorem Txt.r_n_Avenue_one (T : Txt K mg) : ((He.Fa.noat "Avenue" "one").ok K) = true := T.fact 120 rfl
theorem Txt.r_n_Avenue_other (T : Txt K mg) : ((He.Fa.noat "Avenue" "other").ok K) = true := T.fact 121 rfl
theorem Txt.r_n_Road_name (T : Txt K mg) : ((He.Fa.noat "Road" "name").ok K) = true := T.fact 122 rfl
theorem Txt.r_n_Road_both (T : Txt K mg) : ((He.Fa.noat "Road" "both").ok K) = true := T.fact 123 rfl
theorem Txt.r_n_Road_one (T : Txt K mg) : ((He.Fa.noat "Road" "one").ok K) = true := T.fact 124 rfl
theorem Txt.r_n_Road_other (T : Txt K mg) : ((He.Fa.noat "Road" "other").ok K) = true := T.fact 125 rfl
theorem Txt.r_n_Road_there (T : Txt K mg) : ((He.Fa.noat "Road" "there").ok K) = true := T.fact 126 rfl
theorem Txt.r_n_Road_back (T : Txt K mg) : ((He.Fa.noat "Road" "back").ok K) = true := T.fact 127 rfl
theorem Txt.r_n_Ward_own_corners (T : Txt K mg) : ((He.Fa.noat "Ward" "own_corners").ok K) = true := T.fact 128 rfl
theorem Txt.r_n_Town_own_streets (T : Txt K mg) : ((He.Fa.noat "Town" "own_streets").ok K) = true := T.fact 129 rfl
theorem Txt.r_n_Town_own_rows (T : Txt K mg) : ((He.Fa.noat "Town" "own_rows").ok K) = true := T.fact 130 rfl
theorem Txt.r_n_Town_own_corners (T : Txt K mg) : ((He.Fa.noat "Town" "own_corners").ok K) = true := T.fact 131 rfl
theorem Txt.r_n_Bundle_walks (T : Txt K mg) : ((He.Fa.noat "Bundle" "walks").ok K) = true := T.fact 132 rfl
theorem Txt.r_n_Bundle_ward (T : Txt K mg) : ((He.Fa.noat "Bundle" "ward").ok K) = true := T.fact 133 rfl
theorem Txt.r_n_Ways_root (T : Txt K mg) : ((He.Fa.noat "Ways" "root").ok K) = true := T.fact 134 rfl
theorem Txt.r_n_Ways_out (T : Txt K mg) : ((He.Fa.noat "Ways" "out").ok K) = true := T.fact 135 rfl
theorem Txt.r_n_Ways_back (T : Txt K mg) : ((He.Fa.noat "Ways" "back").ok K) = true := T.fact 136 rfl
theorem Txt.r_n_Sound_ways (T : Txt K mg) : ((He.Fa.noat "Sound" "ways").ok K) = true := T.fact 137 rfl
theorem Txt.r_n_Strength_number (T : Txt K mg) : ((He.Fa.noat "Strength" "number").ok K) = true := T.fact 138 rfl
theorem Txt.r_n_Strength_ward (T : Txt K mg) : ((He.Fa.noat "Strength" "ward").ok K) = true := T.fact 139 rfl
theorem Txt.r_n_Strength_ways (T : Txt K mg) : ((He.Fa.noat "Strength" "ways").ok K) = true := T.fact 140 rfl
theorem Txt.r_me_Signs_contains (T : Txt K mg) : ((He.Fa.meth "Signs" "__contains__").ok K) = true := T.fact 141 rfl
theorem Txt.r_me_Signs_getitem (T : Txt K mg) : ((He.Fa.meth "Signs" "__getitem__").ok K) = true := T.fact 142 rfl
theorem Txt.r_me_Signs_tail (T : Txt K mg) : ((He.Fa.meth "Signs" "tail").ok K) = true := T.fact 143 rfl
theorem Txt.r_me_Signs_sub (T : Txt K mg) : ((He.Fa.meth "Signs" "__sub__").ok K) = true := T.fact 144 rfl
theorem Txt.r_me_Signs_is_along (T : Txt K mg) : ((He.Fa.meth "Signs" "is_along").ok K) = true := T.fact 145 rfl
theorem Txt.r_me_Signs_fits (T : Txt K mg) : ((He.Fa.meth "Signs" "fits").ok K) = true := T.fact 146 rfl
theorem Txt.r_me_Lane_eq (T : Txt K mg) : ((He.Fa.meth "Lane" "__eq__").ok K) = true := T.fact 147 rfl
theorem Txt.r_me_Avenue_eq (T : Txt K mg) : ((He.Fa.meth "Avenue" "__eq__").ok K) = true := T.fact 148 rfl
theorem Txt.r_me_Road_eq (T : Txt K mg) : ((He.Fa.meth "Road" "__eq__").ok K) = true := T.fact 149 rfl
theorem Txt.r_me_Town_len (T : Txt K mg) : ((He.Fa.meth "Town" "__len__").ok K) = true := T.fact 150 rfl
theorem Txt.r_me_Town_contains (T : Txt K mg) : ((He.Fa.meth "Town" "__contains__").ok K) = true := T.fact 151 rfl
theorem Txt.r_me_Town_getitem (T : Txt K mg) : ((He.Fa.meth "Town" "__getitem__").ok K) = true := T.fact 152 rfl
theorem Txt.r_me_Town_or (T : Txt K mg) : ((He.Fa.meth "Town" "__or__").ok K) = true := T.fact 153 rfl
theorem Txt.r_me_Town_sub (T : Txt K mg) : ((He.Fa.meth "Town" "__sub__").ok K) = true := T.fact 154 rfl
theorem Txt.r_me_Town_wards (T : Txt K mg) : ((He.Fa.meth "Town" "wards").ok K) = true := T.fact 155 rfl
theorem Txt.r_me_Sound_bool (T : Txt K mg) : ((He.Fa.meth "Sound" "__bool__").ok K) = true := T.fact 156 rfl
theorem Txt.r_me_Lane_is_like (T : Txt K mg) : (methB K (He.ga K "Lane") "is_like" (He.ma K (He.ga K "Street") "is_like")) = true := T.fact 157 rfl
theorem Txt.r_ne_Lane (T : Txt K mg) : (neB K (He.ga K "Lane")) = true := T.fact 158 rfl
theorem Txt.r_p_Lane_ends (T : Txt K mg) : (propB K (He.ga K "Lane") "ends" (He.ma K (He.ga K "Street") "ends") (getr K (He.ga K "Street") "ends")) = true := T.fact 159 rfl
theorem Txt.r_no_Lane_or (T : Txt K mg) : (SgO.noSlots K "or" (He.ga K "Lane")) = true := T.fact 160 rfl
theorem Txt.r_me_Avenue_is_like (T : Txt K mg) : (methB K (He.ga K "Avenue") "is_like" (He.ma K (He.ga K "Street") "is_like")) = true := T.fact 161 rfl
theorem Txt.r_ne_Avenue (T : Txt K mg) : (neB K (He.ga K "Avenue")) = true := T.fact 162 rfl
theorem Txt.r_p_Avenue_ends (T : Txt K mg) : (propB K (He.ga K "Avenue") "ends" (He.ma K (He.ga K "Street") "ends") (getr K (He.ga K "Street") "ends")) = true := T.fact 163 rfl
theorem Txt.r_no_Avenue_or (T : Txt K mg) : (SgO.noSlots K "or" (He.ga K "Avenue")) = true := T.fact 164 rfl
theorem Txt.r_me_Road_is_like (T : Txt K mg) : (methB K (He.ga K "Road") "is_like" (He.ma K (He.ga K "Street") "is_like")) = true := T.fact 165 rfl
theorem Txt.r_ne_Road (T : Txt K mg) : (neB K (He.ga K "Road")) = true := T.fact 166 rfl
theorem Txt.r_p_Road_ends (T : Txt K mg) : (propB K (He.ga K "Road") "ends" (He.ma K (He.ga K "Street") "ends") (getr K (He.ga K "Street") "ends")) = true := T.fact 167 rfl
theorem Txt.r_no_Road_or (T : Txt K mg) : (SgO.noSlots K "or" (He.ga K "Road")) = true := T.fact 168 rfl
theorem Txt.r_p_Town_streets (T : Txt K mg) : (propB K (He.ga K "Town") "streets" (He.ma K (He.ga K "Town") "streets") (getr K (He.ga K "Town") "streets")) = true := T.fact 169 rfl
theorem Txt.r_p_Town_roads (T : Txt K mg) : (propB K (He.ga K "Town") "roads" (He.ma K (He.ga K "Town") "roads") (getr K (He.ga K "Town") "roads")) = true := T.fact 170 rfl
theorem Txt.r_p_Town_corners (T : Txt K mg) : (propB K (He.ga K "Town") "corners" (He.ma K (He.ga K "Town") "corners") (getr K (He.ga K "Town") "corners")) = true := T.fact 171 rfl
theorem Txt.r_p_Ward_corners (T : Txt K mg) : (propB K (He.ga K "Ward") "corners" (He.ma K (He.ga K "Ward") "corners") (getr K (He.ga K "Ward") "corners")) = true := T.fact 172 rfl
theorem Txt.r_p_Signs_names (T : Txt K mg) : (propB K (He.ga K "Signs") "names" (He.ma K (He.ga K "Signs") "names") (getr K (He.ga K "Signs") "names")) = true := T.fact 173 rfl
theorem Txt.r_no_str_sub (T : Txt K mg) : (SgO.noSlot K "sub" (.type "str")) = true := T.fact 174 rfl
theorem Txt.r_sf_Town (T : Txt K mg) : (PySem.W.selfFirst K (He.ga K "Town")) = true := T.fact 175 rfl
theorem Txt.r_sf_Signs (T : Txt K mg) : (PySem.W.selfFirst K (He.ga K "Signs")) = true := T.fact 176 rfl
theorem Txt.r_fi_Signs_getitem (T : Txt K mg) : (PySem.W.fnIn K (a_Signs_getitem K)) = true := T.fact 177 rfl
theorem Txt.r_fi_Town_getitem (T : Txt K mg) : (PySem.W.fnIn K (a_Town_getitem K)) = true := T.fact 178 rfl
theorem Txt.r_isi_Signs_Signs (T : Txt K mg) : (decide (PySem.W.kitOne K (.ref (He.ga K "Signs")) (.ref (He.ga K "Signs")) = some true)) = true := T.fact 179 rfl
theorem Txt.r_isi_Town_Place (T : Txt K mg) : (decide (PySem.W.kitOne K (.ref (He.ga K "Town")) (.ref (He.ga K "Place")) = some true)) = true := T.fact 180 rfl
theorem Txt.r_isi_Town_Town (T : Txt K mg) : (decide (PySem.W.kitOne K (.ref (He.ga K "Town")) (.ref (He.ga K "Town")) = some true)) = true := T.fact 181 rfl
theorem Txt.r_isi_Lane_Street (T : Txt K mg) : (decide (PySem.W.kitOne K (.ref (He.ga K "Lane")) (.ref (He.ga K "Street")) = some true)) = true := T.fact 182 rfl
theorem Txt.r_isi_Avenue_Street (T : Txt K mg) : (decide (PySem.W.kitOne K (.ref (He.ga K "Avenue")) (.ref (He.ga K "Street")) = some true)) = true := T.fact 183 rfl
theorem Txt.r_isi_Road_Street (T : Txt K mg) : (decide (PySem.W.kitOne K (.ref (He.ga K "Road")) (.ref (He.ga K "Street")) = some true)) = true := T.fact 184 rfl
theorem Txt.r_isi_Lane_Lane (T : Txt K mg) : (decide (PySem.W.kitOne K (.ref (He.ga K "Lane")) (.ref (He.ga K "Lane")) = some true)) = true := T.fact 185 rfl
theorem Txt.r_isi_Avenue_Lane (T : Txt K mg) : (decide (PySem.W.kitOne K (.ref (He.ga K "Avenue")) (.ref (He.ga K "Lane")) = some false)) = true := T.fact 186 rfl
theorem Txt.r_isi_Road_Lane (T : Txt K mg) : (decide (PySem.W.kitOne K (.ref (He.ga K "Road")) (.ref (He.ga K "Lane")) = some false)) = true := T.fact 187 rfl
theorem Txt.r_isi_Lane_Road (T : Txt K mg) : (decide (PySem.W.kitOne K (.ref (He.ga K "Lane")) (.ref (He.ga K "Road")) = some false)) = true := T.fact 188 rfl
theorem Txt.r_isi_Avenue_Road (T : Txt K mg) : (decide (PySem.W.kitOne K (.ref (He.ga K "Avenue")) (.ref (He.ga K "Road")) = some false)) = true := T.fact 189 rfl
theorem Txt.r_isi_Road_Road (T : Txt K mg) : (decide (PySem.W.kitOne K (.ref (He.ga K "Road")) (.ref (He.ga K "Road")) = some true)) = true := T.fact 190 rfl
theorem Txt.r_isi_Avenue_Avenue (T : Txt K mg) : (decide (PySem.W.kitOne K (.ref (He.ga K "Avenue")) (.ref (He.ga K "Avenue")) = some true)) = true := T.fact 191 rfl
theorem Txt.r_cr_Town (T : Txt K mg) : (crB K (He.ga K "Town")) = true := T.fact 192 rfl
theorem Txt.r_cv_CORNERS (T : Txt K mg) : (cvB K (He.ga K "Town") "CORNERS" 7) = true := T.fact 193 rfl
theorem Txt.r_cv_STREETS (T : Txt K mg) : (cvB K (He.ga K "Town") "STREETS" 14) = true := T.fact 194 rfl
theorem Txt.r_to_Lane_Lane (T : Txt K mg) : (supToB K (He.ga K "Lane") (He.ga K "Lane") "__init__" (a_Settled_init K)) = true := T.fact 195 rfl
theorem Txt.r_to_Lane_Settled (T : Txt K mg) : (supToB K (He.ga K "Lane") (He.ga K "Settled") "__init__" (a_Street_init K)) = true := T.fact 196 rfl
theorem Txt.r_to_Avenue_Avenue (T : Txt K mg) : (supToB K (He.ga K "Avenue") (He.ga K "Avenue") "__init__" (a_Settled_init K)) = true := T.fact 197 rfl
theorem Txt.r_to_Avenue_Settled (T : Txt K mg) : (supToB K (He.ga K "Avenue") (He.ga K "Settled") "__init__" (a_Even_init K)) = true := T.fact 198 rfl
theorem Txt.r_to_Avenue_Even (T : Txt K mg) : (supToB K (He.ga K "Avenue") (He.ga K "Even") "__init__" (a_Street_init K)) = true := T.fact 199 rfl
theorem Txt.r_to_Road_Road (T : Txt K mg) : (supToB K (He.ga K "Road") (He.ga K "Road") "__init__" (a_Even_init K)) = true := T.fact 200 rfl
theorem Txt.r_to_Road_Even (T : Txt K mg) : (supToB K (He.ga K "Road") (He.ga K "Even") "__init__" (a_Street_init K)) = true := T.fact 201 rfl
theorem Txt.r_su_Settled (T : Txt K mg) : (supB K "Settled.__init__" [] (a_Settled_init K) (He.ga K "Settled")) = true := T.fact 202 rfl
theorem Txt.r_su_Even (T : Txt K mg) : (supB K "Even.__init__" [] (a_Even_init K) (He.ga K "Even")) = true := T.fact 203 rfl
theorem Txt.r_su_Lane (T : Txt K mg) : (supB K "Lane.__init__" [] (a_Lane_init K) (He.ga K "Lane")) = true := T.fact 204 rfl
theorem Txt.r_su_Avenue (T : Txt K mg) : (supB K "Avenue.__init__" [] (a_Avenue_init K) (He.ga K "Avenue")) = true := T.fact 205 rfl
theorem Txt.r_su_Road (T : Txt K mg) : (supB K "Road.__init__" [.int 0, .int 0] (a_Road_init K) (He.ga K "Road")) = true := T.fact 206 rfl
theorem Txt.r_statics (T : Txt K mg) : (He.eqO (PySem.W.nsIn K cStatics "thirdparty.any") (some none)) = true := T.fact 207 rfl
end
end ST
end
section
set_option Elab.async false
set_option linter.all false
set_option maxRecDepth 100000
set_option maxHeartbeats 0
/-! The top's run: what is seen at its end. -/
namespace ST
open PySem PySem.Spec PySem.W PySem.Calls PyProof.Rows L2
def ln0 : List PySem.Str := ["_wall", "__name__", "TownError", "BadInput", "Refused", "NoAnswer", "BadName", "BadPrice", "BadNeed", "BadStreet", "BadTown", "BadWard"]
def ln1 : List PySem.Str := ["BadSigns", "BadText", "NoCorner", "NoStreet", "NoSign", "Unlike", "TooMany", "Empty", "LETTERS", "MOST_LETTERS", "MOST_PRICE", "MOST_NEED"]
def ln2 : List PySem.Str := ["is_int", "is_between", "is_name", "is_price", "is_need", "Place", "MOST_SIGNS", "PAIR", "is_sign", "need_signs", "Signs", "FIGURES"]
def ln3 : List PySem.Str := ["MOST_FIGURES", "need_ends", "need_prices", "Street", "Settled", "Even", "Lane", "Avenue", "Road", "words_of", "price_in", "need_word"]
def ln4 : List PySem.Str := ["word_at", "street_in", "MOST_CORNERS", "COMMA", "need_place", "corners_in", "Ward", "gathered", "picks", "Town", "need_town", "need_fit"]
def ln5 : List PySem.Str := ["need_need", "need_streets", "arcs", "count_into", "Bundle", "Ways", "come_to", "laid_in", "walks_in", "bundle_for", "ways_for", "walk_ends"]
def ln6 : List PySem.Str := ["is_walk", "Verdict", "Sound", "Short", "Strength", "weakest", "judge", "strength", "_law_pen", "_law_draw", "_law_pick", "_law_titles"]
def ln7 : List PySem.Str := ["_law_pairs", "_law_price", "_law_site", "_law_town", "_law_told", "_law_triples", "_law_spots", "_law_groups", "_law_enter", "_law_weakest", "_law_ends", "_law_left"]
def lnAll : List PySem.Str := ln0 ++ ln1 ++ ln2 ++ ln3 ++ ln4 ++ ln5 ++ ln6 ++ ln7
abbrev RR : PySem.W.OpenRow := PySem.W.OpenLaw.row PySem.Challenge.rw_signtown_k47_whole_walks_left
theorem run_A (w : World) (os : OsState) : (HandSHeadRun.endF (HandSHeadRun.stepQ (HandSHeadRun.denQ HandSHeadRun.tabQ) RR.prog w) 20000 RR.prog w os).map (fun s => (HandSHeadRun.looksF RR.prog (boot_heap w.params) s.abs, HandSHeadRun.seenQ (PySem.W.view RR.prog [107]) lnAll (importedModules RR.prog.main.body) (fun s => PySem.W.xlAt (PySem.W.view RR.prog [107]) [] s && PySem.W.recOk RR.toRowW.records s) s.abs)) = some (true, PySem.W.openGood (PySem.W.view RR.prog [107]) lnAll) := by
  kernel_rfl
end ST
end
section
set_option Elab.async false
set_option linter.all false
set_option maxRecDepth 100000
set_option maxHeartbeats 0
/-! The top's run: facts. -/
namespace ST
open PySem PySem.Spec PyProof.Rows L2
abbrev RRB : PySem.W.OpenRow := PySem.W.OpenLaw.row PySem.Challenge.rw_signtown_k47_whole_walks_left
theorem run_B (w : World) (os : OsState) : (HandSHeadRun.endF (HandSHeadRun.stepQ (HandSHeadRun.denQ HandSHeadRun.tabQ) RRB.prog w) 20000 RRB.prog w os).map (fun s => (fun K => fct.all fun f => f K) (He.frG (HandSHeadRun.getT s) (asS (HandSHeadRun.getT s)))) = some true := by
  kernel_rfl
end ST
end
section
set_option Elab.async false
set_option linter.all false
set_option maxRecDepth 100000
set_option maxHeartbeats 0
/-! The top's run: facts. -/
namespace ST
open PySem PySem.Spec PyProof.Rows L2
abbrev RRC : PySem.W.OpenRow := PySem.W.OpenLaw.row PySem.Challenge.rw_signtown_k47_whole_walks_left
theorem run_C (w : World) (os : OsState) : (HandSHeadRun.endF (HandSHeadRun.stepQ (HandSHeadRun.denQ HandSHeadRun.tabQ) RRC.prog w) 20000 RRC.prog w os).map (fun s => (fun K => fns.all fun d => d.ok K) (He.frG (HandSHeadRun.getT s) (asS (HandSHeadRun.getT s)))) = some true := by
  kernel_rfl
end ST
end
section
set_option Elab.async false
set_option linter.all false
set_option maxRecDepth 100000
set_option maxHeartbeats 0
/-! The top's run: facts. -/
namespace ST
open PySem PySem.Spec PyProof.Rows L2
abbrev RRD : PySem.W.OpenRow := PySem.W.OpenLaw.row PySem.Challenge.rw_signtown_k47_whole_walks_left
theorem run_D (w : World) (os : OsState) : (HandSHeadRun.endF (HandSHeadRun.stepQ (HandSHeadRun.denQ HandSHeadRun.tabQ) RRD.prog w) 20000 RRD.prog w os).map (fun s => (fun K => (fns.map fun d => He5.fnA K (d.at_ K), sups.map fun a => fnU K (a K))) (He.frG (HandSHeadRun.getT s) (asS (HandSHeadRun.getT s)))) = some (fns.map He5.DefA.val, supVals) := by
  kernel_rfl
end ST
end
section
set_option Elab.async false
set_option linter.all false
set_option maxRecDepth 100000
/-! A sleeping generator's entry of the table is kept by every run that can be shown with all sleepers poisoned. -/
namespace SgK
open PySem PyProof.Rows L2
open Sem (wp)
/-- no run gets beyond an unsupported step -/
theorem stuck_no {M : Model} {Γ : Ctx} {p : Pos} {t : Sem PySem.Fin} {fs : List Frame} {s s' : Shared} {e : End} (h : Runs M Γ p t fs s e s') : ∀ w, t = .unsupported w → False := by
  induction h <;> intro w hw <;> first
    | (cases hw; done)
    | (rename_i ih _; exact ih w hw)
    | (rename_i ih; exact ih w hw)
    | (rename_i ih1 ih2; exact ih1 w hw)
abbrev asleep (k : Resume → Sem PySem.Fin) (l : List Value) (c : Code) (q : Pos) (fr : List Frame) (cl : Bool) : GenState := .suspended k l c q fr cl
abbrev dead : Resume → Sem PySem.Fin := fun _ => .unsupported "poison"
def Trim : GenState → Prop
  | .suspended _ _ _ _ fr _ => splitAtGen fr = none
  | _ => True
def TrimE : End → Prop
  | .susp _ _ _ _ _ _ fr => splitAtGen fr = none
  | _ => True
theorem TrimE.gen {e : End} (h : TrimE e) : Trim e.genState := by
  cases e with
  | ret _ => trivial
  | susp v g l k c p fs => exact h
theorem trim_app {a b : List Frame} (ha : splitAtGen a = none) (hb : splitAtGen b = none) : splitAtGen (a ++ b) = none := by
  induction a with
  | nil => exact hb
  | cons f a ih =>
    cases f with
    | gen g k l c p => cases ha
    | ret k h g l c p kp =>
      have h1 : (splitAtGen a).map (fun (fs, b, r) => (Frame.ret k h g l c p kp :: fs, b, r)) = none := ha
      have h2 : splitAtGen a = none := by
        cases e : splitAtGen a with
        | none => rfl
        | some z => rw [e] at h1; cases h1
      show (splitAtGen (a ++ b)).map _ = none
      rw [ih h2]; rfl
theorem trim_tail {f : Frame} {a : List Frame} (h : splitAtGen (f :: a) = none) : splitAtGen a = none := by
  cases f with
  | gen g k l c p => cases h
  | ret k hh g l c p kp =>
    have h1 : (splitAtGen a).map (fun (fs, b, r) => (Frame.ret k hh g l c p kp :: fs, b, r)) = none := h
    cases e : splitAtGen a with
    | none => rfl
    | some z => rw [e] at h1; cases h1
/-- a: the table; b: the same with sleepers poisoned -/
structure Rv (b a : Array GenState) : Prop where
  sz : b.size = a.size
  pt : ∀ (i : Nat) (x : GenState), b[i]? = some x → (a[i]? = some x ∧ Trim x) ∨ ∃ k l c q fr cl, x = asleep dead l c q fr cl ∧ a[i]? = some (asleep k l c q fr cl)
/-- the poisoned ones stay, so do those behind them -/
def Kp (b a b' a' : Array GenState) : Prop := ∀ (i : Nat) (l : List Value) (c : Code) (q : Pos) (fr : List Frame) (cl : Bool), b[i]? = some (asleep dead l c q fr cl) → b'[i]? = some (asleep dead l c q fr cl) ∧ a'[i]? = a[i]?
theorem Kp.refl (b a : Array GenState) : Kp b a b a := fun _ _ _ _ _ _ h => ⟨h, rfl⟩
theorem Kp.trans {b a b1 a1 b2 a2 : Array GenState} (x : Kp b a b1 a1) (y : Kp b1 a1 b2 a2) : Kp b a b2 a2 := fun i l c q fr cl h => by
  obtain ⟨h1, h2⟩ := x i l c q fr cl h
  obtain ⟨h3, h4⟩ := y i l c q fr cl h1
  exact ⟨h3, h4.trans h2⟩
theorem set_at {b : Array GenState} {i j : Nat} {x : GenState} : (b.setIfInBounds i x)[j]? = if i = j ∧ j < b.size then some x else b[j]? := by
  by_cases h : i = j
  · subst h
    by_cases hl : i < b.size
    · simp [hl]
    · simp [hl]
  · rw [Array.getElem?_setIfInBounds_ne h, if_neg fun z => h z.1]
/-- an entry that is not poisoned is written in both -/
theorem Rv.set {b a : Array GenState} {i : Nat} {x : GenState} (h : Rv b a) (hx : Trim x) : Rv (b.setIfInBounds i x) (a.setIfInBounds i x) where
  sz := by simp [h.sz]
  pt := fun j y hy => by
    rw [set_at] at hy ⊢
    by_cases z : i = j ∧ j < b.size
    · rw [if_pos z] at hy
      cases hy
      exact .inl ⟨by rw [if_pos ⟨z.1, by rw [← h.sz]; exact z.2⟩], hx⟩
    · rw [if_neg z] at hy
      rw [if_neg (by rw [← h.sz]; exact z)]
      exact h.pt j y hy
theorem Kp.set {b a : Array GenState} {i : Nat} {x : GenState} (hn : ∀ l c q fr cl, b[i]? ≠ some (asleep dead l c q fr cl)) : Kp b a (b.setIfInBounds i x) (a.setIfInBounds i x) := fun j l c q fr cl h => by
  have hij : i ≠ j := fun z => hn l c q fr cl (z ▸ h)
  rw [Array.getElem?_setIfInBounds_ne hij, Array.getElem?_setIfInBounds_ne hij]
  exact ⟨h, rfl⟩
/-- a turn of a generator that is no sleeper of ours -/
theorem kp_wake {b a b1 a1 b2 a2 : Array GenState} {g : Nat} {x y z : GenState} (hs : b[g]? = some x) (hn : ∀ l c q fr cl, x ≠ asleep dead l c q fr cl) (h1 : Kp (b.setIfInBounds g y) (a.setIfInBounds g y) b1 a1)
    (h2 : Kp (b1.setIfInBounds g z) (a1.setIfInBounds g z) b2 a2) : Kp b a b2 a2 := fun i l c q fr cl h => by
  have hg : g ≠ i := fun e => by
    rw [e, h] at hs
    exact hn l c q fr cl (Option.some.inj hs).symm
  obtain ⟨u1, u2⟩ := h1 i l c q fr cl (by rw [Array.getElem?_setIfInBounds_ne hg]; exact h)
  obtain ⟨u3, u4⟩ := h2 i l c q fr cl (by rw [Array.getElem?_setIfInBounds_ne hg]; exact u1)
  rw [Array.getElem?_setIfInBounds_ne hg] at u2 u4
  exact ⟨u3, u4.trans u2⟩
theorem Rv.push {b a : Array GenState} {c : Code} (h : Rv b a) : Rv (b.push (.fresh c)) (a.push (.fresh c)) where
  sz := by simp [h.sz]
  pt := fun j y hy => by
    rw [Array.getElem?_push] at hy ⊢
    by_cases z : j = b.size
    · rw [if_pos z] at hy
      cases hy
      exact .inl ⟨by rw [if_pos (by rw [← h.sz]; exact z)], trivial⟩
    · rw [if_neg z] at hy
      rw [if_neg (by rw [← h.sz]; exact z)]
      exact h.pt j y hy
theorem Kp.push {b a : Array GenState} {c : Code} (h : Rv b a) : Kp b a (b.push (.fresh c)) (a.push (.fresh c)) := fun j l c' q fr cl hj => by
  have hl : j < b.size := (Array.getElem?_eq_some_iff.mp hj).1
  have hl2 : j < a.size := by rw [← h.sz]; exact hl
  rw [Array.getElem?_push, Array.getElem?_push, if_neg (by omega), if_neg (by omega)]
  exact ⟨hj, rfl⟩
/-- an entry that is no sleeper's is the same in both -/
theorem Rv.plain {b a : Array GenState} {i : Nat} {x : GenState} (h : Rv b a) (hx : b[i]? = some x) (hn : ∀ l c q fr cl, x ≠ asleep dead l c q fr cl) : a[i]? = some x ∧ Trim x := by
  rcases h.pt i x hx with z | ⟨k, l, c, q, fr, cl, e, _⟩
  · exact z
  · exact absurd e (hn l c q fr cl)
abbrev wG (s : Shared) (a : Array GenState) : Shared := { s with gens := a }
def Goal (M : Model) (Γ : Ctx) (p : Pos) (t : Sem PySem.Fin) (fs : List Frame) (s : Shared) (e : End) (s' : Shared) : Prop :=
  ∀ a, Rv s.gens a → splitAtGen fs = none → ∃ a', Rv s'.gens a' ∧ Runs M Γ p t fs (wG s a) e (wG s' a') ∧ TrimE e ∧ Kp s.gens a s'.gens a'
theorem runs_keep {M : Model} {Γ : Ctx} {p : Pos} {t : Sem PySem.Fin} {fs : List Frame} {s s' : Shared} {e : End} (h : Runs M Γ p t fs s e s') : Goal M Γ p t fs s e s' := by
  induction h with
  | done => exact fun a ha hf => ⟨a, ha, .done, trivial, .refl _ _⟩
  | raise => exact fun a ha hf => ⟨a, ha, .raise, trivial, .refl _ _⟩
  | again hq _ ih => exact fun a ha hf => let ⟨a', h1, h2, h3, h4⟩ := ih a ha hf; ⟨a', h1, .again hq h2, h3, h4⟩
  | rule _ ih => exact fun a ha hf => let ⟨a', h1, h2, h3, h4⟩ := ih a ha hf; ⟨a', h1, .rule h2, h3, h4⟩
  | «at» _ ih => exact fun a ha hf => let ⟨a', h1, h2, h3, h4⟩ := ih a ha hf; ⟨a', h1, .at h2, h3, h4⟩
  | load ho _ ih => exact fun a ha hf => let ⟨a', h1, h2, h3, h4⟩ := ih a ha hf; ⟨a', h1, .load ho h2, h3, h4⟩
  | update hu _ ih => exact fun a ha hf => let ⟨a', h1, h2, h3, h4⟩ := ih a ha hf; ⟨a', h1, .update hu h2, h3, h4⟩
  | loadIfAlive _ ih => exact fun a ha hf => let ⟨a', h1, h2, h3, h4⟩ := ih a ha hf; ⟨a', h1, .loadIfAlive h2, h3, h4⟩
  | point _ ih => exact fun a ha hf => let ⟨a', h1, h2, h3, h4⟩ := ih a ha hf; ⟨a', h1, .point h2, h3, h4⟩
  | alloc _ ih => exact fun a ha hf => let ⟨a', h1, h2, h3, h4⟩ := ih a ha hf; ⟨a', h1, .alloc h2, h3, h4⟩
  | fresh _ ih => exact fun a ha hf => let ⟨a', h1, h2, h3, h4⟩ := ih a ha hf; ⟨a', h1, .fresh h2, h3, h4⟩
  | ask _ ih => exact fun a ha hf => let ⟨a', h1, h2, h3, h4⟩ := ih a ha hf; ⟨a', h1, .ask h2, h3, h4⟩
  | choose hn _ ih => exact fun a ha hf => let ⟨a', h1, h2, h3, h4⟩ := ih a ha hf; ⟨a', h1, .choose hn h2, h3, h4⟩
  | os _ ih => exact fun a ha hf => let ⟨a', h1, h2, h3, h4⟩ := ih a ha hf; ⟨a', h1, .os h2, h3, h4⟩
  | handled _ ih => exact fun a ha hf => let ⟨a', h1, h2, h3, h4⟩ := ih a ha hf; ⟨a', h1, .handled h2, h3, h4⟩
  | genState hs _ ih =>
    intro a ha hf
    obtain ⟨a', h1, h2, h3, h4⟩ := ih a ha hf
    refine ⟨a', h1, ?_, h3, h4⟩
    rcases ha.pt _ _ hs with ⟨z, _⟩ | ⟨k, l, c, q, fr, cl, rfl, z⟩
    · exact .genState z h2
    · exact .genState (st := asleep k l c q fr cl) z h2
  | stack _ ih => exact fun a ha hf => let ⟨a', h1, h2, h3, h4⟩ := ih a ha hf; ⟨a', h1, .stack h2, h3, h4⟩
  | thread _ ih => exact fun a ha hf => let ⟨a', h1, h2, h3, h4⟩ := ih a ha hf; ⟨a', h1, .thread h2, h3, h4⟩
  | newGen _ ih =>
    intro a ha hf
    obtain ⟨a', h1, h2, h3, h4⟩ := ih _ ha.push hf
    refine ⟨a', h1, .newGen ?_, h3, (Kp.push ha).trans h4⟩
    rw [show (wG _ a).gens.size = _ from ha.sz.symm]
    exact h2
  | call _ _ ih1 ih2 =>
    intro a ha hf
    obtain ⟨a1, h1, h2, h3, h4⟩ := ih1 a ha rfl
    obtain ⟨a2, g1, g2, g3, g4⟩ := ih2 a1 h1 rfl
    exact ⟨a2, g1, .call h2 g2, g3, h4.trans g4⟩
  | callSusp _ ih =>
    intro a ha hf
    obtain ⟨a1, h1, h2, h3, h4⟩ := ih a ha rfl
    exact ⟨a1, h1, .callSusp h2, trim_app h3 rfl, h4⟩
  | yield => exact fun a ha hf => ⟨a, ha, .yield, rfl, .refl _ _⟩
  | resumeFresh hs _ hq _ ih1 ih2 =>
    intro a ha hf
    have hn : ∀ (c0 : Code) l c q fr cl, GenState.fresh c0 ≠ asleep dead l c q fr cl := fun _ _ _ _ _ _ y => by cases y
    obtain ⟨z, _⟩ := ha.plain hs (hn _)
    obtain ⟨a1, h1, h2, h3, h4⟩ := ih1 _ (ha.set (x := .running) trivial) rfl
    obtain ⟨a2, g1, g2, g3, g4⟩ := ih2 _ (h1.set h3.gen) hf
    exact ⟨a2, g1, .resumeFresh z h2 hq g2, g3, kp_wake hs (hn _) h4 g4⟩
  | resumeSuspended hs hr hq _ ih1 ih2 =>
    intro a ha hf
    rcases ha.pt _ _ hs with ⟨z, zt⟩ | ⟨k, l, c, q, fr, cl, e, _⟩
    · obtain ⟨a1, h1, h2, h3, h4⟩ := ih1 _ (ha.set (x := .running) trivial) zt
      obtain ⟨a2, g1, g2, g3, g4⟩ := ih2 _ (h1.set h3.gen) hf
      refine ⟨a2, g1, .resumeSuspended z h2 hq g2, g3, kp_wake hs (fun l c q fr cl y => ?_) h4 g4⟩
      cases y
      exact stuck_no hr _ rfl
    · cases e
      exact (stuck_no hr _ rfl).elim
  | resumeJustStarted hs hv _ ih =>
    intro a ha hf
    obtain ⟨z, _⟩ := ha.plain hs (fun _ _ _ _ _ y => by cases y)
    obtain ⟨a', h1, h2, h3, h4⟩ := ih a ha hf
    exact ⟨a', h1, .resumeJustStarted z hv h2, h3, h4⟩
  | resumeThrowFresh hs _ ih =>
    intro a ha hf
    obtain ⟨z, _⟩ := ha.plain hs (fun _ _ _ _ _ y => by cases y)
    obtain ⟨a', h1, h2, h3, h4⟩ := ih _ (ha.set (x := .finished) trivial) hf
    refine ⟨a', h1, .resumeThrowFresh z h2, h3, (Kp.set fun l c q fr cl y => ?_).trans h4⟩
    rw [hs] at y
    cases y
  | resumeRunning hs _ ih =>
    intro a ha hf
    obtain ⟨z, _⟩ := ha.plain hs (fun _ _ _ _ _ y => by cases y)
    obtain ⟨a', h1, h2, h3, h4⟩ := ih a ha hf
    exact ⟨a', h1, .resumeRunning z h2, h3, h4⟩
  | resumeFinished hs _ ih =>
    intro a ha hf
    obtain ⟨z, _⟩ := ha.plain hs (fun _ _ _ _ _ y => by cases y)
    obtain ⟨a', h1, h2, h3, h4⟩ := ih a ha hf
    exact ⟨a', h1, .resumeFinished z h2, h3, h4⟩
  | segRet _ _ ih1 ih2 =>
    intro a ha hf
    obtain ⟨a1, h1, h2, h3, h4⟩ := ih1 a ha rfl
    obtain ⟨a2, g1, g2, g3, g4⟩ := ih2 a1 h1 (trim_tail hf)
    exact ⟨a2, g1, .segRet h2 g2, g3, h4.trans g4⟩
  | segGen _ _ _ _ => exact fun a ha hf => by cases hf
  | segSuspOut hn _ ih =>
    intro a ha hf
    obtain ⟨a1, h1, h2, h3, h4⟩ := ih a ha rfl
    exact ⟨a1, h1, .segSuspOut hn h2, trim_app h3 hf, h4⟩
  | segSuspGen hn _ _ _ _ _ =>
    intro a ha hf
    rw [hf] at hn
    cases hn
/-- behind a run from the poisoned table -/
def After (b a : Array GenState) {α : Type} (Q : α → Pos → Shared → Prop) : α → Pos → Shared → Prop := fun x p' s' => ∃ b', Rv b' s'.gens ∧ Kp b a b' s'.gens ∧ Q x p' (wG s' b')
theorem After.trans {b a b1 a1 : Array GenState} {α : Type} {Q : α → Pos → Shared → Prop} (k : Kp b a b1 a1) (x : α) (p' : Pos) (s' : Shared) (h : After b1 a1 Q x p' s') : After b a Q x p' s' :=
  let ⟨b', h1, h2, h3⟩ := h; ⟨b', h1, k.trans h2, h3⟩
theorem wp_keep {α : Type} {M : Model} {Γ : Ctx} (t : Sem α) : ∀ (Q : α → Pos → Shared → Prop) (E : Value → Pos → Shared → Prop) (p : Pos) (s : Shared) (a : Array GenState), Rv s.gens a → wp M Γ t Q E p s →
    wp M Γ t (After s.gens a Q) (After s.gens a E) p (wG s a) := by
  induction t with
  | pure x => exact fun Q E p s a ha h => ⟨s.gens, ha, .refl _ _, h⟩
  | raise e => exact fun Q E p s a ha h => ⟨s.gens, ha, .refl _ _, h⟩
  | unsupported _ => exact fun Q E p s a ha h => h.elim
  | finish _ => exact fun Q E p s a ha h => h.elim
  | register _ _ => exact fun Q E p s a ha h => h.elim
  | yield _ _ _ _ => exact fun Q E p s a ha h => h.elim
  | fork _ _ => exact fun Q E p s a ha h => h.elim
  | await _ _ _ _ _ => exact fun Q E p s a ha h => h.elim
  | rule _ k ih => exact fun Q E p s a ha h => ih () Q E p s a ha h
  | «at» p' k ih => exact fun Q E p s a ha h => ih () Q E p' s a ha h
  | load _ _ k ih => exact fun Q E p s a ha ⟨o, ho, h⟩ => ⟨o, ho, ih o Q E p s a ha h⟩
  | update ad _ f k ih => exact fun Q E p s a ha h => ⟨h.1, ih () Q E p { s with heap := s.heap.update ad f } a ha h.2⟩
  | loadIfAlive _ k ih => exact fun Q E p s a ha h => ih _ Q E p s a ha h
  | point _ k ih => exact fun Q E p s a ha h => ih () Q E p s a ha h
  | alloc o k ih => exact fun Q E p s a ha h => ih _ Q E p { s with heap := s.heap.push o } a ha h
  | fresh k ih => exact fun Q E p s a ha h => ih _ Q E p { s with toks := s.toks + 1 } a ha h
  | ask k ih => exact fun Q E p s a ha h => ih _ Q E p s a ha h
  | choose src m k ih => exact fun Q E p s a ha h => ⟨h.1, ih _ Q E p { s with drawn := s.drawn.bump src } a ha h.2⟩
  | os q _ k ih => exact fun Q E p s a ha h => ih _ Q E p { s with os := (Os.step s.os q).1 } a ha h
  | handled own k ih => exact fun Q E p s a ha h => ih _ Q E p s a ha h
  | stack k ih => exact fun Q E p s a ha h => ih _ Q E p s a ha h
  | thread k ih => exact fun Q E p s a ha h => ih _ Q E p s a ha h
  | call c hd _ _ k ih =>
    intro Q E p s a ha h
    obtain ⟨r, s', hr, h⟩ := h
    obtain ⟨a', h1, h2, _, h4⟩ := runs_keep hr a ha rfl
    exact ⟨r, wG s' a', h2, Sem.wp_mono M _ _ (After.trans h4) (After.trans h4) p _ (ih r Q E p s' a' h1 h)⟩
  | genState g k ih =>
    intro Q E p s a ha h
    obtain ⟨st, hs, h⟩ := h
    rcases ha.pt _ _ hs with ⟨z, _⟩ | ⟨k', l, c, q, fr, cl, rfl, z⟩
    · exact ⟨st, z, ih _ Q E p s a ha h⟩
    · exact ⟨asleep k' l c q fr cl, z, ih _ Q E p s a ha h⟩
  | newGen c k ih =>
    intro Q E p s a ha h
    have z := Sem.wp_mono M _ _ (After.trans (Kp.push (c := c) ha)) (After.trans (Kp.push (c := c) ha)) p _ (ih _ Q E p _ _ (ha.push (c := c)) h)
    show wp M Γ (k (wG s a).gens.size) _ _ p _
    rw [show (wG s a).gens.size = s.gens.size from ha.sz.symm]
    exact z
  | resume g r _ k ih =>
    intro Q E p s a ha h
    obtain ⟨res, s', hw, h⟩ := h
    have main : ∃ a', Rv s'.gens a' ∧ Kp s.gens a s'.gens a' ∧ Wakes M Γ p g r (wG s a) res (wG s' a') := by
      unfold Wakes at hw ⊢
      cases hs : s.gens[g]? with
      | none => rw [hs] at hw; exact hw.elim
      | some st =>
        rw [hs] at hw
        rcases ha.pt _ _ hs with ⟨z, zt⟩ | ⟨k', l, c, q, fr, cl, rfl, z⟩
        · rw [show (wG s a).gens[g]? = some st from z]
          cases st with
          | fresh c =>
            have hn : ∀ l c' q fr cl, GenState.fresh c ≠ asleep dead l c' q fr cl := fun _ _ _ _ _ y => by cases y
            cases r with
            | send v =>
              cases v with
              | none =>
                obtain ⟨e₁, s₁, hr, hq, e1, e2⟩ := hw
                obtain ⟨a1, h1, h2, h3, h4⟩ := runs_keep hr _ (ha.set (i := g) (x := .running) trivial) rfl
                subst e2
                exact ⟨_, h1.set h3.gen, kp_wake hs hn h4 (.refl _ _), e₁, _, h2, hq, e1, rfl⟩
              | _ =>
                obtain ⟨e1, e2⟩ := hw
                subst e2
                exact ⟨a, ha, .refl _ _, e1, rfl⟩
            | throw x =>
              obtain ⟨e1, e2⟩ := hw
              subst e2
              refine ⟨_, ha.set (i := g) (x := .finished) trivial, Kp.set (fun l c' q fr cl y => ?_), e1, rfl⟩
              rw [hs] at y
              cases y
          | suspended k0 l0 c0 p0 fr0 cl0 =>
            obtain ⟨e₁, s₁, hr, hq, e1, e2⟩ := hw
            obtain ⟨a1, h1, h2, h3, h4⟩ := runs_keep hr _ (ha.set (i := g) (x := .running) trivial) zt
            subst e2
            exact ⟨_, h1.set h3.gen, kp_wake hs (fun l c q fr cl y => by cases y; exact stuck_no hr _ rfl) h4 (.refl _ _), e₁, _, h2, hq, e1, rfl⟩
          | running =>
            obtain ⟨e1, e2⟩ := hw
            subst e2
            exact ⟨a, ha, .refl _ _, e1, rfl⟩
          | finished =>
            obtain ⟨e1, e2⟩ := hw
            subst e2
            exact ⟨a, ha, .refl _ _, e1, rfl⟩
        · obtain ⟨e₁, s₁, hr, _⟩ := hw
          exact (stuck_no hr _ rfl).elim
    obtain ⟨a', h1, h2, h3⟩ := main
    exact ⟨res, wG s' a', h3, Sem.wp_mono M _ _ (After.trans h2) (After.trans h2) p _ (ih res Q E p s' a' h1 h)⟩
/-! ### for use -/
def poison1 : GenState → GenState
  | .suspended _ l c q fr cl => asleep dead l c q fr cl
  | x => x
theorem rv_poison (a : Array GenState) : Rv (a.map poison1) a where
  sz := by simp
  pt := fun i x hx => by
    rw [Array.getElem?_map] at hx
    cases e : a[i]? with
    | none => rw [e] at hx; cases hx
    | some y =>
      rw [e] at hx
      cases hx
      cases y with
      | suspended k l c q fr cl => exact .inr ⟨k, l, c, q, fr, cl, rfl, rfl⟩
      | fresh c => exact .inl ⟨rfl, trivial⟩
      | running => exact .inl ⟨rfl, trivial⟩
      | finished => exact .inl ⟨rfl, trivial⟩
theorem Rv.bare {b a : Array GenState} (h : Rv b a) (hb : AllBare b) : AllBare a := fun y hy => by
  obtain ⟨i, hi, e⟩ := Array.mem_iff_getElem.mp hy
  have hi2 : i < b.size := by rw [h.sz]; exact hi
  have hx : b[i]? = some b[i] := Array.getElem?_eq_getElem hi2
  have hm := hb b[i] (Array.getElem_mem hi2)
  have ha : a[i]? = some y := by rw [Array.getElem?_eq_getElem hi, e]
  rcases h.pt i b[i] hx with ⟨z, _⟩ | ⟨k, l, c, q, fr, cl, e2, z⟩
  · rw [ha] at z
    rw [Option.some.inj z]
    exact hm
  · rw [ha] at z
    rw [Option.some.inj z]
    rw [e2] at hm
    exact hm
theorem bare_poison {a : Array GenState} (ha : AllBare a) : AllBare (a.map poison1) := fun y hy => by
  obtain ⟨x, hx, rfl⟩ := Array.mem_map.mp hy
  have := ha x hx
  cases x <;> exact this
/-- the sleepers of s sleep on in s' -/
def Sleeps (s s' : Shared) : Prop := ∀ (i : Nat) (k : Resume → Sem PySem.Fin) (l : List Value) (c : Code) (q : Pos) (fr : List Frame) (cl : Bool), s.gens[i]? = some (asleep k l c q fr cl) → s'.gens[i]? = some (asleep k l c q fr cl)
theorem Sleeps.refl (s : Shared) : Sleeps s s := fun _ _ _ _ _ _ _ h => h
theorem Sleeps.trans {s s1 s2 : Shared} (x : Sleeps s s1) (y : Sleeps s1 s2) : Sleeps s s2 := fun i k l c q fr cl h => y i k l c q fr cl (x i k l c q fr cl h)
theorem sleeps_of {s s' : Shared} {b : Array GenState} (k : Kp (s.gens.map poison1) s.gens b s'.gens) : Sleeps s s' := fun i kk l c q fr cl h => by
  have z := k i l c q fr cl (by rw [Array.getElem?_map, h]; rfl)
  rw [z.2, h]
theorem wpAny_sleeps {α : Type} {M : Model} {A : Around} {t : Sem α} {Q : α → Shared → Prop} {E : Value → Shared → Prop} {s : Shared} (h : wpAny M A t Q E (wG s (s.gens.map poison1)))
    (hQ : ∀ x s' b, Rv b s'.gens → Q x (wG s' b) → Q x s') (hE : ∀ x s' b, Rv b s'.gens → E x (wG s' b) → E x s') : wpAny M A t (fun x s' => Q x s' ∧ Sleeps s s') (fun x s' => E x s' ∧ Sleeps s s') s := by
  intro Γ p hΓ
  have z := wp_keep t _ _ p _ s.gens (rv_poison s.gens) (h Γ p hΓ)
  refine Sem.wp_mono M _ _ ?_ ?_ p _ z
  · rintro x p' s' ⟨b, h1, h2, h3⟩
    exact ⟨hQ x s' b h1 h3, sleeps_of h2⟩
  · rintro x p' s' ⟨b, h1, h2, h3⟩
    exact ⟨hE x s' b h1 h3, sleeps_of h2⟩
end SgK
end
section
set_option Elab.async false
set_option linter.all false
set_option maxRecDepth 100000
set_option maxHeartbeats 1000000
/-! Generators whose consumer does as it likes with what is not theirs: what one turn gives. -/
namespace SgG
open PySem PySem.Spec PyProof.Rows L2 GenW SgK
open Sem (wp)
/-- a heap cut at an address -/
def cut (h : Heap) (lo : Addr) : Heap := { h with objs := h.objs.extract 0 lo }
theorem cut_arr {α : Type} (xs : Array α) (lo b : Nat) (hb : b < lo) : (xs.extract 0 lo)[b]? = xs[b]? := by
  rw [Array.getElem?_extract]
  by_cases hs : b < xs.size
  · rw [if_pos (by omega), Nat.zero_add]
  · rw [if_neg (by omega), Array.getElem?_eq_none (by omega)]
theorem cut_len {α : Type} (xs : Array α) (lo : Nat) (hl : lo ≤ xs.size) : (xs.extract 0 lo).size = lo := by
  rw [Array.size_extract]
  omega
theorem cut_get {h : Heap} {lo b : Addr} (hb : b < lo) : (cut h lo).get? b = h.get? b := by
  unfold cut Heap.get?
  show (match (h.objs.extract 0 lo)[b]? with | some ⟨_, _, .freed, _⟩ => none | o => o) = _
  rw [cut_arr h.objs lo b hb]
  generalize h.objs[b]? = z
  cases z with
  | none => rfl
  | some o =>
    obtain ⟨_, _, d, _⟩ := o
    cases d <;> rfl
theorem cut_size {h : Heap} {lo : Addr} (hl : lo ≤ h.objs.size) : (cut h lo).objs.size = lo := cut_len h.objs lo hl
theorem of_cut {h : Heap} {lo b : Addr} {o : Obj} (hl : lo ≤ h.objs.size) (e : (cut h lo).get? b = some o) : b < lo ∧ h.get? b = some o := by
  have hb : b < lo := by
    have := Heap.lt_size e
    rw [cut_size hl] at this
    exact this
  exact ⟨hb, by rw [← cut_get hb]; exact e⟩
/-- the untracked objects from lo on -/
def young (h : Heap) (H : Hp) (lo : Addr) : List Addr := (List.range h.objs.size).filter fun b => decide (lo ≤ b) && (H b).isNone
theorem mem_young {h : Heap} {H : Hp} {lo b : Addr} {o : Obj} (e : h.get? b = some o) (hb : lo ≤ b) (hn : H b = none) : b ∈ young h H lo :=
  List.mem_filter.mpr ⟨List.mem_range.mpr (Heap.lt_size e), by simp [hb, hn]⟩
theorem of_young {h : Heap} {H : Hp} {lo b : Addr} (hb : b ∈ young h H lo) : lo ≤ b ∧ H b = none := by
  have z := (List.mem_filter.mp hb).2
  simpa using z
/-- what one turn of a generator (its own things stand from lo on) leaves of the rest -/
structure Ran (P : Program) (w : World) (outer : List Env) (lo : Addr) (s : Shared) (H : Hp) (s' : Shared) (H' : Hp) : Prop where
  os : s'.os = s.os
  bare : AllBare s'.gens
  un : Un (frs outer) (young s.heap H lo) H H' s.heap s'.heap
  hok : HOk P w H' s'.heap
  same : Same H H'
theorem objOk_get {P : Program} {w : World} {H : Hp} {h : Heap} {a : Addr} {o : HO} (x : ObjOk P w H h a o) : ∃ ob, h.get? a = some ob := by
  cases o with
  | lst xs => obtain ⟨_, _, _, _, e⟩ := x; exact ⟨_, e⟩
  | tup xs => obtain ⟨_, _, _, _, e, _⟩ := x; exact ⟨_, e⟩
  | dK kvs => obtain ⟨_, _, _, _, o, _, _, e, _⟩ := x; exact ⟨_, e⟩
  | dT kvs => obtain ⟨_, _, _, _, o, _, _, e, _⟩ := x; exact ⟨_, e⟩
  | set S n => obtain ⟨o, _, _, _, e, _⟩ := x; exact ⟨_, e⟩
  | ins C dx fs => obtain ⟨_, _, _, e, _⟩ := x; exact ⟨_, e⟩
  | own y => obtain ⟨_, e⟩ := x; exact ⟨_, e⟩
  | xd fs => obtain ⟨_, ⟨_, _, _, e, _⟩, _⟩ := x; exact ⟨_, e⟩
  | rng lo hi => obtain ⟨_, _, _, e⟩ := x; exact ⟨_, e⟩
  | frz ob u => obtain ⟨e, _⟩ := x; exact ⟨_, e⟩
  | tbl ps => exact ⟨_, (show h.get? a = some _ from x)⟩
  | met f y => exact ⟨_, (show h.get? a = some _ from x)⟩
  | ext φ => obtain ⟨_, ⟨_, e⟩, _⟩ := x; exact ⟨_, e⟩
/-- from the run's own view (all from the cut on) to its consumer's -/
theorem un_uncut {P : Program} {w : World} {fs : List Addr} {H H' : Hp} {h h' : Heap} {lo : Addr} (hl : lo ≤ h.objs.size) (u : Un fs [] H H' (cut h lo) h') (sm : Same H H') (ok : HOk P w H' h') : Un fs (young h H lo) H H' h h' := by
  have low : ∀ b o, h.get? b = some o → H b = none → b ∉ young h H lo → (cut h lo).get? b = some o := fun b o e n hy => by
    by_cases hb : lo ≤ b
    · exact absurd (mem_young e hb n) hy
    · rw [cut_get (Nat.lt_of_not_le hb)]
      exact e
  refine ⟨fun b o e n hf hy => u.keep b o (low b o e n hy) n hf (by simp), fun b o e n hf hy => u.slot b o (low b o e n hy) n hf (by simp), fun b o e n hy => u.free b o (low b o e n hy) n (by simp), fun b o e hy => ?_, u.tups, u.frzs, u.tbls⟩
  cases n : H b with
  | none => exact u.there b o (low b o e n hy) (by simp)
  | some v => exact objOk_get (ok b v (sm b v n))
/-! ### one segment after the other -/
/-- what stands of a sleeping generator: objects, entries of the table; the abstract heap at its yield -/
structure Dt where
  pl : List (Addr × Obj)
  gl : List (Nat × GenState)
  H : Hp
structure Held (outer : List Env) (lo : Addr) (D : Dt) (s : Shared) (H : Hp) : Prop where
  pin : ∀ p ∈ D.pl, s.heap.get? p.1 = some p.2 ∧ H p.1 = none ∧ lo ≤ p.1 ∧ p.1 ∉ frs outer ∧ ∀ v, p.2.data ≠ .cell v
  gen : ∀ q ∈ D.gl, s.gens[q.1]? = some q.2
  same : Same D.H H
def IsSleeper (x : GenState) : Prop := ∃ k l c q fr cl, x = asleep k l c q fr cl
/-- an item handed out: the value and the heap then -/
abbrev Item := V → Hp → Prop
structure GP where
  P : Program
  w : World
  K : PySem.W.Frag
  mg : Str → Option Value
  base : Heap
  A : Around
  outer : List Env
  lo : Addr
  own : Addr × Obj
  g : Nat
def SegX (C : GP) : List Item → Shared → Hp → Code → Sem PySem.Fin → List Frame → Shared → Prop
  | [] => fun s0 H0 c t fs s => ∀ Γ p, Γ.code = c → Γ.Woken C.A → ∃ r s' H', Runs (model C.P C.w) Γ p t fs s (.ret r) s' ∧ (r = .ok (.ret .none) ∨ r = .ok .next) ∧ Ran C.P C.w C.outer C.lo s0 H0 s' H'
  | x :: xs => fun s0 H0 c t fs s => ∀ Γ p, Γ.code = c → Γ.Woken C.A → ∃ v gd l k c' p' fs' s', Runs (model C.P C.w) Γ p t fs s (.susp v gd l k c' p' fs') s' ∧ (End.susp v gd l k c' p' fs').quiet = true ∧
      ∃ (y : V) (H' : Hp) (D : Dt), RelV y v ∧ x y H' ∧ Ran C.P C.w C.outer C.lo s0 H0 s' H' ∧ Held C.outer C.lo D s' H' ∧ (∀ q ∈ D.gl, IsSleeper q.2 ∧ C.g < q.1) ∧ C.own ∈ D.pl ∧ D.H = H' ∧
        ∀ s'' H'', Env0 C.P C.w C.K C.mg C.base C.A C.outer s'' H'' → Held C.outer C.lo D s'' H'' → C.g < s''.gens.size → SegX C xs s'' H'' c' (k (.send .none)) fs' s''
section
variable {C : GP} {xs : List Item} {s0 : Shared} {H0 : Hp} {c : Code} {fs : List Frame} {s : Shared}
/-- how a segment's runs go on: a run ahead of it may be put -/
theorem SegX.ahead {t t' : Sem PySem.Fin} {c' : Code} {fs' : List Frame} {s' : Shared} (h : ∀ Γ p, Γ.code = c → Γ.Woken C.A → ∃ Γ' p', Γ'.code = c' ∧ Γ'.Woken C.A ∧ ∀ e z, Runs (model C.P C.w) Γ' p' t' fs' s' e z → Runs (model C.P C.w) Γ p t fs s e z)
    (hs : SegX C xs s0 H0 c' t' fs' s') : SegX C xs s0 H0 c t fs s := by
  cases xs with
  | nil =>
    intro Γ p hc hΓ
    obtain ⟨Γ', p', g1, g2, g3⟩ := h Γ p hc hΓ
    obtain ⟨r, z, H', h1, h2⟩ := hs Γ' p' g1 g2
    exact ⟨r, z, H', g3 _ _ h1, h2⟩
  | cons x xs =>
    intro Γ p hc hΓ
    obtain ⟨Γ', p', g1, g2, g3⟩ := h Γ p hc hΓ
    obtain ⟨v, gd, l, k, c2, p2, fs2, z, h1, h2⟩ := hs Γ' p' g1 g2
    exact ⟨v, gd, l, k, c2, p2, fs2, z, g3 _ _ h1, h2⟩
/-- what the end of a segment says, without its run -/
def EndX (C : GP) (xs : List Item) (s0 : Shared) (H0 : Hp) (e : End) (s' : Shared) : Prop :=
  match xs, e with
  | [], .ret r => (r = .ok (.ret .none) ∨ r = .ok .next) ∧ ∃ H', Ran C.P C.w C.outer C.lo s0 H0 s' H'
  | x :: xs, .susp v gd l k c' p' fs' => (End.susp v gd l k c' p' fs').quiet = true ∧ ∃ (y : V) (H' : Hp) (D : Dt), RelV y v ∧ x y H' ∧ Ran C.P C.w C.outer C.lo s0 H0 s' H' ∧ Held C.outer C.lo D s' H' ∧ (∀ q ∈ D.gl, IsSleeper q.2 ∧ C.g < q.1) ∧ C.own ∈ D.pl ∧ D.H = H' ∧
        ∀ s'' H'', Env0 C.P C.w C.K C.mg C.base C.A C.outer s'' H'' → Held C.outer C.lo D s'' H'' → C.g < s''.gens.size → SegX C xs s'' H'' c' (k (.send .none)) fs' s''
  | _, _ => False
theorem segX_iff {t : Sem PySem.Fin} : SegX C xs s0 H0 c t fs s ↔ ∀ Γ p, Γ.code = c → Γ.Woken C.A → ∃ e s', Runs (model C.P C.w) Γ p t fs s e s' ∧ EndX C xs s0 H0 e s' := by
  constructor
  · intro h Γ p hc hΓ
    cases xs with
    | nil =>
      obtain ⟨r, z, H', h1, h2, h3⟩ := h Γ p hc hΓ
      exact ⟨.ret r, z, h1, h2, H', h3⟩
    | cons x xs =>
      obtain ⟨v, gd, l, k, c2, p2, fs2, z, h1, h2⟩ := h Γ p hc hΓ
      exact ⟨.susp v gd l k c2 p2 fs2, z, h1, h2⟩
  · intro h
    cases xs with
    | nil =>
      intro Γ p hc hΓ
      obtain ⟨e, z, h1, h2⟩ := h Γ p hc hΓ
      cases e with
      | ret r => exact ⟨r, z, h2.2.choose, h1, h2.1, h2.2.choose_spec⟩
      | susp => exact h2.elim
    | cons x xs =>
      intro Γ p hc hΓ
      obtain ⟨e, z, h1, h2⟩ := h Γ p hc hΓ
      cases e with
      | ret r => exact h2.elim
      | susp v gd l k c2 p2 fs2 => exact ⟨v, gd, l, k, c2, p2, fs2, z, h1, h2⟩
/-- a piece of code without a yield, then the rest -/
theorem segX_wrap {α : Type} {m : Sem α} {K : α → Sem PySem.Fin} {J : Value → Sem PySem.Fin} {gd : Bool → Bool} {lv : List Value → List Value}
    (h : wpAny (model C.P C.w) (C.A.over c fs) m (fun a s' => SegX C xs s0 H0 c (K a) fs s') (fun x s' => SegX C xs s0 H0 c (J x) fs s') s) : SegX C xs s0 H0 c (m.wrap K J gd lv) fs s := by
  refine segX_iff.mpr fun Γ p hc hΓ => ?_
  subst hc
  exact runs_wrap_of_wp K J gd lv m (h (Γ.over fs) p (hΓ.over fs)) (fun a p' s' h' => segX_iff.mp h' Γ p' rfl hΓ) fun x p' s' h' => segX_iff.mp h' Γ p' rfl hΓ
theorem segX_bind {α : Type} {m : Sem α} {K : α → Sem PySem.Fin} (h : wpAny (model C.P C.w) (C.A.over c fs) m (fun a s' => SegX C xs s0 H0 c (K a) fs s') (fun x s' => SegX C xs s0 H0 c (.raise x) fs s') s) : SegX C xs s0 H0 c (m >>= K) fs s := by
  rw [Sem.bind_eq_wrap']
  exact segX_wrap h
theorem segX_at {p' : Pos} {k : Unit → Sem PySem.Fin} (h : SegX C xs s0 H0 c (k ()) fs s) : SegX C xs s0 H0 c (.at p' k) fs s :=
  segX_wrap (m := standAt p') (K := k) (J := .raise) (gd := id) (lv := id) (wpAny_standAt h)
theorem segX_point {l : List Value} {k : Unit → Sem PySem.Fin} (h : SegX C xs s0 H0 c (k ()) fs s) : SegX C xs s0 H0 c (.point l k) fs s :=
  segX_wrap (m := point) (K := k) (J := .raise) (gd := id) (lv := fun _ => l) (wpAny_point h)
theorem segX_call {c' : Code} {h g l} {k : Result → Sem PySem.Fin} (hc : ∀ p, SegX C xs s0 H0 c' ((model C.P C.w).den c') (.ret k h g l c p [] :: fs) s) : SegX C xs s0 H0 c (.call c' h g l k) fs s := by
  refine segX_iff.mpr fun Γ p hcc hΓ => ?_
  subst hcc
  obtain ⟨e, z, h1, h2⟩ := segX_iff.mp (hc p) (Γ.goto c') p rfl (hΓ.goto c')
  exact ⟨e, z, runs_call_seg h1, h2⟩
theorem segX_leaf {k h g l c₁ p₁ kp} (r : Result) (hk : SegX C xs s0 H0 c₁ (k r) fs s) : SegX C xs s0 H0 c (leafOf r) (.ret k h g l c₁ p₁ kp :: fs) s :=
  SegX.ahead (fun Γ p hc hΓ => ⟨Γ.goto c₁, p₁, rfl, hΓ.goto c₁, fun e z hr => Runs.pop r hr⟩) hk
theorem segX_again {c' : Code} (hq : c'.quiet = true) (hc : SegX C xs s0 H0 c' ((model C.P C.w).den c') fs s) : SegX C xs s0 H0 c (.pure (.again c')) fs s :=
  SegX.ahead (fun Γ p _ hΓ => ⟨Γ.goto c', p, rfl, hΓ.goto c', fun e z hr => Runs.head (c₁ := c') (fun _ _ x => .again hq x) hr⟩) hc
theorem segX_end {r : Result} {H' : Hp} (hr : r = .ok (.ret .none) ∨ r = .ok .next) (h : Ran C.P C.w C.outer C.lo s0 H0 s H') : SegX C [] s0 H0 c (leafOf r) [] s :=
  fun Γ p _ _ => ⟨r, s, H', Runs.leaf r, hr, h⟩
theorem segX_yield {x : Item} {v : Value} {g : Bool} {l : List Value} {k : Resume → Sem PySem.Fin} {y : V} {H' : Hp} {D : Dt} (hfs : splitAtGen fs = none) (hg : g = false) (hfg : fs.any Frame.guarded = false) (rv : RelV y v) (hx : x y H')
    (hr : Ran C.P C.w C.outer C.lo s0 H0 s H') (hD : Held C.outer C.lo D s H') (hS : ∀ q ∈ D.gl, IsSleeper q.2 ∧ C.g < q.1) (ho : C.own ∈ D.pl) (hDH : D.H = H')
    (h : ∀ s'' H'', Env0 C.P C.w C.K C.mg C.base C.A C.outer s'' H'' → Held C.outer C.lo D s'' H'' → C.g < s''.gens.size → SegX C xs s'' H'' c (k (.send .none)) fs s'') : SegX C (x :: xs) s0 H0 c (.yield v g l k) fs s := by
  intro Γ p hc hΓ
  subst hc
  exact ⟨v, g, l, k, Γ.code, p, fs, s, Runs.yield' fs hfs, by simp [End.quiet, hg, hfg], y, H', D, rv, hx, hr, hD, hS, ho, hDH, h⟩
end
/-! ### the consumer's side: one turn -/
/-- the generator at a, walked under XA: xs will come -/
def GLive (C : GP) (XA : Around) (a : Addr) : List Item → Dt → Prop
  | [] => fun D => ∀ s H, Env0 C.P C.w C.K C.mg C.base XA C.outer s H → Held C.outer C.lo D s H → wpAny (model C.P C.w) XA (pyNext (.ref a)) (fun r s' => r = none ∧ ∃ H', Ran C.P C.w C.outer C.lo s H s' H') (fun _ _ => False) s
  | x :: xs => fun D => ∀ s H, Env0 C.P C.w C.K C.mg C.base XA C.outer s H → Held C.outer C.lo D s H → wpAny (model C.P C.w) XA (pyNext (.ref a))
      (fun r s' => ∃ u y H' D', r = some u ∧ RelV y u ∧ x y H' ∧ Ran C.P C.w C.outer C.lo s H s' H' ∧ Held C.outer C.lo D' s' H' ∧ (∀ q ∈ D'.gl, IsSleeper q.2 ∧ C.g ≤ q.1) ∧ C.own ∈ D'.pl ∧ D'.H = H' ∧ GLive C XA a xs D') (fun _ _ => False) s
/-- the code of a generator's entry goes on so -/
def Goes (C : GP) (xs : List Item) (s0 : Shared) (H0 : Hp) (s : Shared) : GenState → Prop
  | .fresh c => SegX C xs s0 H0 c ((model C.P C.w).den c) [] s
  | .suspended k _ c _ fs _ => SegX C xs s0 H0 c (k (.send .none)) fs s
  | _ => False
theorem resume_x {C : GP} {xs : List Item} {s0 : Shared} {H0 : Hp} {α : Type} {s : Shared} {g : Nat} {gs : GenState} {l : List Value} {kk : GenResult → Sem α} {Q : α → Shared → Prop} {E : Value → Shared → Prop} (hgs : s.gens[g]? = some gs)
    (go : Goes C xs s0 H0 (s.setGen g .running) gs) (fin : ∀ e s1, EndX C xs s0 H0 e s1 → s.gens.size ≤ s1.gens.size → wpAny (model C.P C.w) C.A (kk e.result) Q E (s1.setGen g e.genState)) : wpAny (model C.P C.w) C.A (.resume g (.send .none) l kk) Q E s := by
  intro Γ p hΓ
  rw [Sem.wp_resume]
  have quiet : ∀ e s1, EndX C xs s0 H0 e s1 → e.quiet = true := fun e s1 h => by
    cases e with
    | ret r => rfl
    | susp v gd l k c p fs =>
      cases xs with
      | nil => exact h.elim
      | cons x xs => exact h.1
  cases gs with
  | fresh c =>
    obtain ⟨e, s1, hr, he⟩ := segX_iff.mp go (Γ.wake c p) p rfl (hΓ.wake c p)
    exact ⟨e.result, _, by unfold Wakes; rw [hgs]; exact ⟨e, s1, hr, quiet e s1 he, rfl, rfl⟩, fin e s1 he (by have z := runs_gsz hr; rw [setGen_size] at z; exact z) Γ p hΓ⟩
  | suspended k l0 c p0 fs cl =>
    obtain ⟨e, s1, hr, he⟩ := segX_iff.mp go (Γ.wake c p) p0 rfl (hΓ.wake c p)
    exact ⟨e.result, _, by unfold Wakes; rw [hgs]; exact ⟨e, s1, hr, quiet e s1 he, rfl, rfl⟩, fin e s1 he (by have z := runs_gsz hr; rw [setGen_size] at z; exact z) Γ p hΓ⟩
  | running => exact go.elim
  | finished => exact go.elim
/-- one turn, from the consumer's code -/
theorem next_x {C : GP} {XA : Around} {xs : List Item} {s0 : Shared} {H0 : Hp} {s : Shared} {a : Addr} {g : Nat} {gs : GenState} {Q : Option Value → Shared → Prop} {E : Value → Shared → Prop} (hA : C.A = XA.in1) (hh : XA.handled = none) (lim : s.heap.NoLimit) (room : XA.depth < recursionLimit)
    (hg : s.heap.IsGen a g) (hgs : s.gens[g]? = some gs) (go : Goes C xs s0 H0 (s.setGen g .running) gs)
    (hR : ∀ r s1, EndX C xs s0 H0 (.ret r) s1 → ∀ h', (∀ b o, s1.heap.get? b = some o → h'.get? b = some o) → Q none { s1.setGen g .finished with heap := h' })
    (hY : ∀ v gd l k c p fs s1, EndX C xs s0 H0 (.susp v gd l k c p fs) s1 → s.gens.size ≤ s1.gens.size → Q (some v) (s1.setGen g (.suspended k l c p fs (gd || fs.any Frame.guarded)))) :
    wpAny (model C.P C.w) XA (pyNext (.ref a)) Q E s := by
  have hty := hg.typeIs
  unfold pyNext
  refine wpAny_bind (wpAny_attempt (wpAny_callSpecial?_slot (name := Str.ofString "__next__") hty slot_gen_next (wpAny_call_entry slot_gen_next hty entry_gen_next ?_ (args_gen_next _))))
  show wpAny _ XA.in1 (Builtin.Generator.genWake (Value.ref a) (Resume.send Value.none)) _ _ s
  unfold Builtin.Generator.genWake
  refine wpAny_bind (wpAny_holding (wpAny_genNumber (g := g) hg (wpAny_bind (wpAny_genState (st := gs) hgs ?_))))
  have hroom : XA.in1.depth < recursionLimit := room
  have nofin : ¬ (gs = .running ∨ gs = .finished) := fun z => by rcases z with z | z <;> (rw [z] at go; exact go.elim)
  have main : ∀ {α : Type} {Q2 : α → Shared → Prop} {E2 : Value → Shared → Prop} {l : List Value} {kk : GenResult → Sem α}, (∀ e s1, EndX C xs s0 H0 e s1 → s.gens.size ≤ s1.gens.size → wpAny (model C.P C.w) XA.in1 (kk e.result) Q2 E2 (s1.setGen g e.genState)) →
      wpAny (model C.P C.w) XA.in1 (.resume g (.send .none) l kk) Q2 E2 s := fun h => by
    rw [← hA]
    refine resume_x hgs go fun e s1 he hz => ?_
    rw [hA]
    exact h e s1 he hz
  cases gs with
  | running => exact (nofin (.inl rfl)).elim
  | finished => exact (nofin (.inr rfl)).elim
  | _ =>
    refine wpAny_bind (wpAny_roomToWake (A := XA.in1) lim hroom ?_)
    show wpAny _ XA.in1 (Sem.resume g (Resume.send Value.none) [] _) _ _ s
    refine main fun e s1 he hz => ?_
    cases e with
    | ret r =>
      have e0 : End.result (.ret r) = .returned .none := by
        cases xs with
        | nil => rcases he.1 with z | z <;> (rw [z]; rfl)
        | cons x xs => exact he.elim
      simp only [e0]
      show wpAny _ XA.in1 (newExc (.type "StopIteration") [] >>= _) _ _ (s1.setGen g .finished)
      refine wpAny_bind ?_
      simp only [newExc, newTuple]
      refine wpAny_bind (wpAny_newObj_type (A := XA.in1) ?_ (by size_fits))
      refine wpAny_bind (m := firstArgMember _ _) (wpAny_of_eq (A := XA.in1) (a := Value.none) (by first | rfl | (simp only [firstArgMember]; rfl)) ?_)
      refine wpAny_newObj_type (A := XA.in1) ?_ (by size_fits)
      simp only [raiseNew]
      refine wpAny_bind (wpAny_bind (wpAny_handled (A := XA.in1) ?_))
      rw [show XA.in1.handled = none from hh]
      refine wpAny_throw ?_
      refine wpAny_bind (wpAny_isInstance (A := XA) (T := "StopIteration") (b := true) ⟨_, Heap.get?_push_size _ rfl, rfl⟩ isSubtype_stop ?_)
      exact wpAny_pure (hR r s1 he _ fun b o hb => Heap.get?_push_of_some _ (Heap.get?_push_of_some _ hb))
    | susp v gd l k c p fs => exact wpAny_pure ⟨v, rfl, wpAny_pure (hY v gd l k c p fs s1 he hz)⟩
theorem Ran.running {P : Program} {w : World} {outer : List Env} {lo : Addr} {s s' : Shared} {H H' : Hp} {g : Nat} {x : GenState} (h : Ran P w outer lo (s.setGen g x) H s' H') : Ran P w outer lo s H s' H' := ⟨h.os, h.bare, h.un, h.hok, h.same⟩
theorem Ran.set {P : Program} {w : World} {outer : List Env} {lo : Addr} {s s' : Shared} {H H' : Hp} {g : Nat} {x : GenState} (h : Ran P w outer lo s H s' H') (hx : x.bare = true) : Ran P w outer lo s H (s'.setGen g x) H' := ⟨h.os, allBare_setGen h.bare hx, h.un, h.hok, h.same⟩
theorem Ran.grown {P : Program} {w : World} {outer : List Env} {lo : Addr} {s s' : Shared} {H H' : Hp} {h' : Heap} (h : Ran P w outer lo s H s' H') (k : ∀ b o, s'.heap.get? b = some o → h'.get? b = some o) : Ran P w outer lo s H { s' with heap := h' } H' :=
  ⟨h.os, h.bare, h.un.trans (Un.kept k), h.hok.kept k, h.same⟩
theorem env0_set {P : Program} {w : World} {K : PySem.W.Frag} {mg : Str → Option Value} {base : Heap} {A : Around} {outer : List Env} {s : Shared} {H : Hp} {g : Nat} {x : GenState} (e : Env0 P w K mg base A outer s H) (hx : x.bare = true) : Env0 P w K mg base A outer (s.setGen g x) H :=
  ⟨e.frames, e.mod, e.bs, e.bsz, e.funs, e.frf, e.hok, allBare_setGen e.bare hx⟩
theorem env0_around {P : Program} {w : World} {K : PySem.W.Frag} {mg : Str → Option Value} {base : Heap} {A A' : Around} {outer : List Env} {s : Shared} {H : Hp} (e : Env0 P w K mg base A outer s H) (h : A'.frames = A.frames) : Env0 P w K mg base A' outer s H :=
  ⟨by rw [h]; exact e.frames, e.mod, e.bs, e.bsz, e.funs, e.frf, e.hok, e.bare⟩
/-- THE LINK: what a generator's code does from where it stands is what its consumer gets -/
theorem glive_of {C : GP} {XA : Around} (hA : C.A = XA.in1) (hh : XA.handled = none) (room : XA.depth < recursionLimit) (hown : ∃ nm qn, C.own.2.cls = .type "generator" ∧ C.own.2.data = .fields #[.int C.g 0, nm, qn] ∧ C.own.2.slots = #[]) :
    ∀ (xs : List Item) (D : Dt) (gs : GenState), gs.bare = true → C.own ∈ D.pl → (C.g, gs) ∈ D.gl →
      (∀ s H, Env0 C.P C.w C.K C.mg C.base C.A C.outer s H → Held C.outer C.lo D s H → C.g < s.gens.size → Goes C xs (s.setGen C.g .running) H (s.setGen C.g .running) gs) → GLive C XA C.own.1 xs D := by
  have isg : ∀ {D : Dt} {s : Shared} {H : Hp}, C.own ∈ D.pl → Held C.outer C.lo D s H → s.heap.IsGen C.own.1 C.g := fun ho h => by
    obtain ⟨nm, qn, h1, h2, h3⟩ := hown
    exact ⟨C.own.2, nm, qn, (h.pin _ ho).1, h1, h2, h3⟩
  intro xs
  induction xs with
  | nil =>
    intro D gs hb ho hg go s H e hD
    have e' : Env0 C.P C.w C.K C.mg C.base C.A C.outer s H := env0_around e (by rw [hA])
    refine next_x hA hh (e.mod.nolimit.keeps fun b o q => (e.bs b o q).1) room (isg ho hD) (hD.gen _ hg) (go s H e' hD (Array.getElem?_eq_some_iff.mp (hD.gen _ hg)).1) (fun r s1 he h' hk => ?_) (fun v gd l k c p fs s1 he _ => he.elim)
    obtain ⟨_, H', hr⟩ := he
    exact ⟨rfl, H', (Ran.running hr).set rfl |>.grown hk⟩
  | cons x xs ih =>
    intro D gs hb ho hg go s H e hD
    have e' : Env0 C.P C.w C.K C.mg C.base C.A C.outer s H := env0_around e (by rw [hA])
    have hlt : C.g < s.gens.size := (Array.getElem?_eq_some_iff.mp (hD.gen _ hg)).1
    refine next_x hA hh (e.mod.nolimit.keeps fun b o q => (e.bs b o q).1) room (isg ho hD) (hD.gen _ hg) (go s H e' hD (Array.getElem?_eq_some_iff.mp (hD.gen _ hg)).1) (fun r s1 he h' hk => he.elim) (fun v gd l k c p fs s1 he hz => ?_)
    obtain ⟨hq, y, H', D1, rv, hx, hr, hD1, hS, ho1, hDH, fut⟩ := he
    have hbq : (GenState.suspended k l c p fs (gd || fs.any Frame.guarded)).bare = true := hq
    have at1 : (s1.setGen C.g (.suspended k l c p fs (gd || fs.any Frame.guarded))).gens[C.g]? = some (.suspended k l c p fs (gd || fs.any Frame.guarded)) := setGen_at (Nat.lt_of_lt_of_le hlt hz)
    refine ⟨v, y, H', { D1 with gl := (C.g, .suspended k l c p fs (gd || fs.any Frame.guarded)) :: D1.gl }, rfl, rv, hx, (Ran.running hr).set hbq, ⟨hD1.pin, fun q hq' => ?_, hD1.same⟩, fun q hq' => ?_, ho1, hDH, ?_⟩
    · rcases List.mem_cons.mp hq' with z | z
      · rw [z]
        exact at1
      · show (s1.gens.setIfInBounds C.g _)[q.1]? = _
        rw [Array.getElem?_setIfInBounds_ne (Nat.ne_of_lt (hS q z).2)]
        exact hD1.gen q z
    · rcases List.mem_cons.mp hq' with z | z
      · rw [z]
        exact ⟨⟨k, l, c, p, fs, _, rfl⟩, Nat.le_refl _⟩
      · exact ⟨(hS q z).1, Nat.le_of_lt (hS q z).2⟩
    · refine ih { D1 with gl := (C.g, .suspended k l c p fs (gd || fs.any Frame.guarded)) :: D1.gl } _ hbq ho1 List.mem_cons_self fun s2 H2 e2 hD2 hz2 => ?_
      refine fut _ H2 (env0_set e2 rfl) ⟨hD2.pin, fun q hq' => ?_, hD2.same⟩ (by rw [setGen_size]; exact hz2)
      show (s2.gens.setIfInBounds C.g _)[q.1]? = _
      rw [Array.getElem?_setIfInBounds_ne (Nat.ne_of_lt (hS q hq').2)]
      exact hD2.gen q (List.mem_cons_of_mem _ hq')
end SgG
end
section
set_option Elab.async false
set_option linter.all false
set_option maxRecDepth 100000
set_option maxHeartbeats 1000000
/-! A for over a generator, by a def that yields nothing itself. -/
namespace SgG
open PySem PySem.Spec PyProof.Rows L2 GenW SgK
section
variable {X : Cx} {pins : List (Addr × Obj)} {σ : L2.St} {H H' : Hp} {s s' : Shared}
theorem inv_gens {b : Array GenState} (I : Inv X pins σ H s) (hb : AllBare b) : Inv X pins σ H (wG s b) := ⟨I.ok, I.os, hb, I.base, I.loc, I.cell, I.free, I.freeC, I.pin, I.hok, I.len⟩
theorem inv_back {b : Array GenState} (h : Rv b s.gens) (I : Inv X pins σ H (wG s b)) : Inv X pins σ H s := ⟨I.ok, I.os, h.bare I.bare, I.base, I.loc, I.cell, I.free, I.freeC, I.pin, I.hok, I.len⟩
theorem sp_back {b : Array GenState} {D : Ends} {f : Flow} (h : Rv b s.gens) (q : SP X pins D f (wG s b)) : SP X pins D f s := by
  cases f with
  | next => obtain ⟨σ', H', I, z⟩ := q; exact ⟨σ', H', inv_back h I, z⟩
  | brk => obtain ⟨σ', H', I, z⟩ := q; exact ⟨σ', H', inv_back h I, z⟩
  | cont => obtain ⟨σ', H', I, z⟩ := q; exact ⟨σ', H', inv_back h I, z⟩
  | ret v => obtain ⟨u, σ', H', I, r, z⟩ := q; exact ⟨u, σ', H', inv_back h I, r, z⟩
/-- X's own things and what X pins lie below lo -/
structure Below (X : Cx) (pins : List (Addr × Obj)) (lo : Addr) : Prop where
  ent : X.s_0.heap.objs.size ≤ lo
  loc : X.env.locals < lo
  cel : ∀ x c, X.env.cells.lookup x = some c → c < lo
  pin : ∀ p ∈ X.pn ++ pins, p.1 < lo
theorem Inv.below (I : Inv X pins σ H s) : Below X pins s.heap.objs.size := ⟨I.sz, I.lt, fun x c e => let ⟨_, q⟩ := I.cell x c e; q.lt, fun p hp => Heap.lt_size (I.pin p hp).1⟩
/-- behind a turn of a generator -/
theorem Inv.ran {lo : Addr} (I : Inv X pins σ H s) (B : Below X pins lo) (r : Ran X.prog X.w X.stack lo s H s' H') : Inv X pins σ H' s' :=
  I.call' (ch := young s.heap H lo) r.os r.un r.hok r.bare fun b hb => by
    have hl := (of_young hb).1
    exact ⟨.inr (Nat.le_trans B.ent hl), fun e => Nat.lt_irrefl _ (Nat.lt_of_lt_of_le B.loc (e ▸ hl)), fun x c e z => Nat.lt_irrefl _ (Nat.lt_of_lt_of_le (B.cel x c e) (z ▸ hl)), fun p hp z => Nat.lt_irrefl _ (Nat.lt_of_lt_of_le (B.pin p hp) (z ▸ hl))⟩
/-- a sleeping generator's things, pinned -/
theorem Inv.hold {lo : Addr} {D : Dt} (I : Inv X pins σ H s) (B : Below X pins lo) (h : Held X.stack lo D s H) : Inv X (pins ++ D.pl) σ H s :=
  I.pins_of fun p hp => by
    rcases List.mem_append.mp hp with z | z
    · exact I.pin p (List.mem_append_right _ z)
    · obtain ⟨h1, h2, h3, h4, h5⟩ := h.pin p z
      refine ⟨h1, h2, fun e => Nat.lt_irrefl _ (Nat.lt_of_lt_of_le B.loc (e ▸ h3)), fun hf => h4 ?_, h5⟩
      rcases I.ok.stk with e | ⟨e, hfr⟩
      · rw [e]
        exact hf
      · rw [e]
        unfold frs
        rw [List.filterMap_cons, hfr]
        exact List.mem_cons_of_mem _ hf
theorem Inv.held {lo : Addr} {D : Dt} {s6 : Shared} (I : Inv X (pins ++ D.pl) σ H s') (h : Held X.stack lo D s6 H') (sl : Sleeps s6 s') (hS : ∀ q ∈ D.gl, IsSleeper q.2) (hs : Same D.H H) : Held X.stack lo D s' H where
  pin := fun p hp => by
    obtain ⟨_, _, h3, h4, h5⟩ := h.pin p hp
    obtain ⟨g1, g2, _⟩ := I.pin p (List.mem_append_right _ (List.mem_append_right _ hp))
    exact ⟨g1, g2, h3, h4, h5⟩
  gen := fun q hq => by
    obtain ⟨k, l, c, p, fr, cl, e⟩ := hS q hq
    have z := h.gen q hq
    rw [e] at z ⊢
    exact sl _ _ _ _ _ _ _ z
  same := hs
end
/-- an expression that gives a generator just made (what it will hand out; the heap) -/
abbrev TGen := L2.St → Hp → (List Item → Hp → Prop) → Prop
/-- a generator at a that X may walk -/
structure GenIn (X : Cx) (C : GP) (a : Addr) (xs : List Item) (D : Dt) (s : Shared) (H : Hp) : Prop where
  eq : C.P = X.prog ∧ C.w = X.w ∧ C.K = X.K ∧ C.mg = X.mg ∧ C.base = X.base ∧ C.outer = X.stack ∧ C.own.1 = a
  live : GLive C X.A a xs D
  held : Held C.outer C.lo D s H
  gen : ∃ nm qn, C.own.2.cls = .type "generator" ∧ C.own.2.data = .fields #[.int C.g 0, nm, qn] ∧ C.own.2.slots = #[]
  own : C.own ∈ D.pl
  new : ∃ cc, D.gl = [(C.g, .fresh cc)]
/-- a generator just made, its number n at least -/
def GNew (X : Cx) (pins : List (Addr × Obj)) (σ : L2.St) (n : Nat) (Q : List Item → Hp → Prop) (u : Value) (s' : Shared) : Prop :=
  ∃ C a xs D H', u = .ref a ∧ Inv X pins σ H' s' ∧ Below X pins C.lo ∧ n ≤ C.g ∧ GenIn X C a xs D s' H' ∧ Q xs H'
theorem GNew.back {X : Cx} {pins : List (Addr × Obj)} {σ : L2.St} {n : Nat} {Q : List Item → Hp → Prop} {u : Value} {s' : Shared} {b : Array GenState} (hb : Rv b s'.gens) (q : GNew X pins σ n Q u (wG s' b)) : GNew X pins σ n Q u s' := by
  obtain ⟨C, a, xs, D, H', e, I, B, hn, G, q⟩ := q
  obtain ⟨cc, ec⟩ := G.new
  refine ⟨C, a, xs, D, H', e, inv_back hb I, B, hn, ⟨G.eq, G.live, ⟨G.held.pin, fun z hz => ?_, G.held.same⟩, G.gen, G.own, G.new⟩, q⟩
  have z1 : b[z.1]? = some z.2 := G.held.gen z hz
  rw [ec] at hz
  rw [List.mem_singleton.mp hz] at z1 ⊢
  exact (hb.plain z1 fun _ _ _ _ _ y => by cases y).1
structure PGn (X : Cx) (e : Expr) (t : TGen) : Prop where
  run : ∀ (pins : List (Addr × Obj)) (s : Shared) (σ : L2.St) (H : Hp) (Q : List Item → Hp → Prop), Inv X pins σ H s → t σ H Q →
    wpAny (model X.prog X.w) X.A (eval e X.env) (GNew X pins σ s.gens.size Q) X.xe s
def tForG (wi : TGen) (g : TG) (tb : TS) : TS := fun D σ H => wi σ H fun xs H1 => ∃ W : Nat → L2.St → Hp → Prop, W 0 σ H1 ∧ ∀ i σ H, W i σ H → (i = xs.length → ∀ H', Same H H' → D.nx σ H') ∧
  (∀ x, xs[i]? = some x → ∀ y H', Same H H' → x y H' → g y σ H' fun σ2 H2 => tb { D with nx := fun σ' H'' => Same H' H'' ∧ W (i + 1) σ' H'', ct := fun σ' H'' => Same H' H'' ∧ W (i + 1) σ' H'', bk := D.nx } σ2 H2)
section
variable {X : Cx}
theorem ps_forG {iter tg : Expr} {body : List Stmt} {wi : TGen} {g : TG} {tb : TS} {pos : Pos} (hc : X.calm = true) (hi : PGn X iter wi) (hg : PG X tg g) (hb : PSs X body tb) (hx : X.xe = fun _ _ => False := by rfl)
    (hs : ∀ x, foldedSetIterable iter X.env x = pure x := by intro _; rfl) : PS X (.For tg iter body [] pos) (tForG wi g tb) := by
  refine ⟨fun pins s σ H D I h => ?_⟩
  have hp : PassesOwn (model X.prog X.w) X.A X.env X.xe := by rw [hx]; exact .never
  refine wpAny_For (thn (hi.run pins s σ H _ I h) fun v s1 h1 => ?_) hs
  obtain ⟨C, a, xs, D0, H1, rfl, I1, B, _, G, W, w0, turn⟩ := h1
  obtain ⟨⟨e1, e2, e3, e4, e5, e6, e7⟩, live, held, gen, own, _⟩ := G
  obtain ⟨P, w, K, mg, base, A0, outer, lo, ⟨a', go⟩, gn⟩ := C
  subst e1 e2 e3 e4 e5 e6 e7
  have isg : ∀ {D : Dt} {s : Shared} {H : Hp}, (a', go) ∈ D.pl → Held X.stack lo D s H → s.heap.IsGen a' gn := fun ho hh => by
    obtain ⟨nm, qn, g1, g2, g3⟩ := gen
    exact ⟨go, nm, qn, (hh.pin _ ho).1, g1, g2, g3⟩
  refine wpAny_pyIter_gen (isg own held) ?_
  refine codeAny_forLoop_any (fun n s' => ∃ i σ' H' D', n = xs.length - i ∧ i ≤ xs.length ∧ Inv X pins σ' H' s' ∧ Held X.stack lo D' s' H' ∧ (a', go) ∈ D'.pl ∧ GLive ⟨X.prog, X.w, X.K, X.mg, X.base, A0, X.stack, lo, (a', go), gn⟩ X.A a' (xs.drop i) D' ∧ W i σ' H') ?_ (xs.length - 0)
    ⟨0, σ, H1, D0, rfl, Nat.zero_le _, I1, held, own, by rw [List.drop_zero]; exact live, w0⟩
  rintro n s3 ⟨i, σ3, H3, D3, rfl, hle, I3, held3, own3, live3, w3⟩
  obtain ⟨stop, step⟩ := turn i σ3 H3 w3
  by_cases hlt : i < xs.length
  · rw [List.drop_eq_getElem_cons hlt] at live3
    refine wpAny_passesOwn hp (wpAny_mono (live3 s3 H3 I3.env0 held3) (fun r s4 h4 => ?_) fun _ _ z => z.elim)
    obtain ⟨u, y, H4, D4, rfl, ry, xy, ran, held4, hS, own4, hDH, live4⟩ := h4
    have I4 := Inv.ran I3 B ran
    obtain ⟨nm, qn, g1, g2, g3⟩ := gen
    refine wpAny_passesOwn hp (go_of (n := "generator") (held4.pin _ own4).1 g1 g2 (by decide) ?_)
    have I4' := Inv.hold I4 B held4
    have noE : ∀ (x : Value) (z : Shared) (b : Array GenState), Rv b z.gens → X.xe x (wG z b) → X.xe x z := fun x z b _ h => by
      rw [hx] at h
      exact h.elim
    have t1 := wpAny_sleeps (hg.run _ _ σ3 H4 y u _ (inv_gens I4' (bare_poison I4'.bare)) ry (step _ (List.getElem?_eq_getElem hlt) y H4 ran.same xy)) (s := s4)
      (fun _ z b hb h => by
        obtain ⟨σ6, H6, I6, q6⟩ := h
        exact (⟨σ6, H6, inv_back hb I6, q6⟩ : ∃ σ6 H6, Inv X (pins ++ D4.pl) σ6 H6 z ∧ tb _ σ6 H6)) noE
    refine wpAny_passesOwn hp (wpAny_mono t1 (fun _ s6 h6 => ?_) fun x z h => by rw [hx] at h; exact h.1.elim)
    obtain ⟨⟨σ6, H6, I6, q6⟩, sl6⟩ := h6
    have t2 := wpAny_sleeps (hb.run _ _ σ6 H6 _ (inv_gens I6 (bare_poison I6.bare)) q6) (s := s6) (fun f z b hb h => sp_back hb h) noE
    refine wpAny_passesOwn hp (wpAny_mono t2 (fun f s7 h7 => ?_) fun x z h => by rw [hx] at h; exact h.1.elim)
    obtain ⟨q7, sl7⟩ := h7
    have again : ∀ {σ7 : L2.St} {H7 : Hp}, Inv X (pins ++ D4.pl) σ7 H7 s7 → Same H4 H7 → W (i + 1) σ7 H7 → ∃ m, m < xs.length - i ∧ ∃ i' σ' H' D', m = xs.length - i' ∧ i' ≤ xs.length ∧ Inv X pins σ' H' s7 ∧ Held X.stack lo D' s7 H' ∧ (a', go) ∈ D'.pl ∧
        GLive ⟨X.prog, X.w, X.K, X.mg, X.base, A0, X.stack, lo, (a', go), gn⟩ X.A a' (xs.drop i') D' ∧ W i' σ' H' := fun {σ7 H7} I7 sm w7 =>
      ⟨xs.length - (i + 1), by omega, i + 1, σ7, H7, D4, rfl, hlt, I7.unpinned, Inv.held I7 held4 (sl6.trans sl7) (fun q hq => (hS q hq).1) (by rw [hDH]; exact sm), own4, live4, w7⟩
    cases f with
    | next =>
      obtain ⟨σ7, H7, I7, sm, w7⟩ := q7
      exact again I7 sm w7
    | cont =>
      obtain ⟨σ7, H7, I7, sm, w7⟩ := q7
      exact again I7 sm w7
    | brk =>
      obtain ⟨σ7, H7, I7, z⟩ := q7
      exact ⟨σ7, H7, I7.unpinned, z⟩
    | ret v =>
      obtain ⟨x7, σ7, H7, I7, r7, z⟩ := q7
      exact ⟨x7, σ7, H7, I7.unpinned, r7, z⟩
  · have ei : i = xs.length := by omega
    rw [ei, List.drop_length] at live3
    refine wpAny_passesOwn hp (wpAny_mono (live3 s3 H3 I3.env0 held3) (fun r s4 h4 => ?_) fun _ _ z => z.elim)
    obtain ⟨rfl, H4, ran⟩ := h4
    exact wpAny_execs_nil ⟨σ3, H4, Inv.ran I3 B ran, stop ei H4 ran.same⟩
end
end SgG
end
section
set_option Elab.async false
set_option linter.all false
set_option maxRecDepth 100000
set_option maxHeartbeats 1000000
/-! A generator def's body: its statements, while others may act between its turns. -/
namespace SgG
open PySem PySem.Spec PyProof.Rows L2 GenW SgK
/-- the body's context, as it stands behind a wake-up -/
def gX (C : GP) (env : Env) (N : List Str) (s0 : Shared) (H0 : Hp) : Cx where
  prog := C.P
  w := C.w
  K := C.K
  mg := C.mg
  base := C.base
  A := C.A.deeper env
  N := N
  s_0 := { s0 with heap := cut s0.heap C.lo }
  H_0 := H0
  env := env
  outer := C.outer
  stack := env :: C.outer
  ex := []
  fn := fun _ => true
  calm := true
  pn := [C.own]
  xe := fun _ _ => False
/-- what is so of the frame for good -/
structure FrOk (C : GP) (env : Env) : Prop where
  kind : env.scope.kind = .function
  glob : env.globals = mainGlobals
  blt : env.builtins = builtinsNs
  loc : env.locals = C.lo
  fr : env.frame = some C.lo
  nocell : ∀ x, env.kindOf x ≠ some .cell ∧ env.kindOf x ≠ some .free
  cells : env.cells = []
  base : C.base.objs.size ≤ C.lo
  out : ∀ b ∈ frs C.outer, b < C.lo
  own : C.lo < C.own.1
  hd : C.A.handled = none
  A : C.A.frames = some C.outer
  mod : Mod C.K C.mg C.base
/-- the body runs -/
structure Ins (C : GP) (env : Env) (N : List Str) (s0 : Shared) (H0 : Hp) (pl : List (Addr × Obj)) (gl : List (Nat × GenState)) (σ : L2.St) (H : Hp) (s : Shared) : Prop where
  inv : Inv (gX C env N s0 H0) pl σ H s
  same : Same H0 H
  gen : ∀ q ∈ gl, s.gens[q.1]? = some q.2
  slp : ∀ q ∈ gl, IsSleeper q.2 ∧ C.g < q.1
  gsz : C.g < s.gens.size
  plo : ∀ p ∈ pl, C.lo ≤ p.1
  low : C.lo ≤ s0.heap.objs.size
section
variable {C : GP} {env : Env} {N : List Str} {s0 s s' : Shared} {H0 H H' : Hp} {pl : List (Addr × Obj)} {gl : List (Nat × GenState)} {σ : L2.St}
theorem Ins.ran (I : Ins C env N s0 H0 pl gl σ H s) : Ran C.P C.w C.outer C.lo s0 H0 s H where
  os := I.inv.os
  bare := I.inv.bare
  un := un_uncut I.low I.inv.base I.same I.inv.hok
  hok := I.inv.hok
  same := I.same
/-- what sleeps, when it yields -/
theorem Ins.sleep (F : FrOk C env) (I : Ins C env N s0 H0 pl gl σ H s) : ∃ o, s.heap.get? C.lo = some o ∧ Held C.outer C.lo { pl := C.own :: (C.lo, o) :: pl, gl := gl, H := H } s H := by
  obtain ⟨m, ⟨o, es, ep, ho, hd, _⟩, _⟩ := I.inv.loc
  have ho' : s.heap.get? C.lo = some o := by
    rw [← F.loc]
    exact ho
  refine ⟨o, ho', fun p hp => ?_, I.gen, .refl H⟩
  rcases List.mem_cons.mp hp with z | hp
  · obtain ⟨h1, h2, _, h4, h5⟩ := I.inv.pin C.own (List.mem_append_left _ (List.mem_singleton.mpr rfl))
    rw [z]
    exact ⟨h1, h2, Nat.le_of_lt F.own, h4, h5⟩
  · rcases List.mem_cons.mp hp with z | hp
    · rw [z]
      refine ⟨ho', ?_, Nat.le_refl _, fun hb => Nat.lt_irrefl _ (F.out _ hb), fun v q => by rw [hd] at q; cases q⟩
      have f := I.inv.free
      rw [show (gX C env N s0 H0).env.locals = C.lo from F.loc] at f
      exact f
    · obtain ⟨h1, h2, _, h4, h5⟩ := I.inv.pin p (List.mem_append_right _ hp)
      exact ⟨h1, h2, I.plo p hp, h4, h5⟩
/-- the frame's object o tells the slots -/
def LocAt (C : GP) (env : Env) (N : List Str) (o : Obj) (σ : L2.St) : Prop := ∃ m, (∀ h : Heap, h.get? C.lo = some o → h.Ns C.lo m) ∧ ∀ (i : Nat) (x : Str) (v : V), N[i]? = some x → σ[i]? = some (some v) → Vis env.scope x → ∃ u, RelV v u ∧ env.kindOf x = some .local ∧ m x = some u
/-- the body may run on in any heap in which its things stand -/
theorem ins_at {o : Obj} {s2 : Shared} {Hd H2 : Hp} (F : FrOk C env) (hl : LocAt C env N o σ) (hlen : σ.length = N.length) (e : Env0 C.P C.w C.K C.mg C.base C.A C.outer s2 H2)
    (h : Held C.outer C.lo { pl := C.own :: (C.lo, o) :: pl, gl := gl, H := Hd } s2 H2) (slp : ∀ q ∈ gl, IsSleeper q.2 ∧ C.g < q.1) (plo : ∀ p ∈ pl, C.lo ≤ p.1 ∧ p.1 ≠ C.lo) (hg : C.g < s2.gens.size) : Ins C env N s2 H2 pl gl σ H2 s2 := by
  obtain ⟨l1, l2, _, _, l5⟩ := h.pin (C.lo, o) (List.mem_cons_of_mem _ List.mem_cons_self)
  have hlo : C.lo < s2.heap.objs.size := Heap.lt_size l1
  have hle : C.lo ≤ s2.heap.objs.size := Nat.le_of_lt hlo
  have csz : (cut s2.heap C.lo).objs.size = C.lo := cut_size hle
  have nocell : ∀ x c, env.cells.lookup x = some c → False := fun x c q => by rw [F.cells] at q; cases q
  have noex : ∀ b : Addr, b ∉ (gX C env N s2 H2).ex := fun b z => by
    have z' : b ∈ ([] : List Addr) := z
    cases z'
  obtain ⟨m, hns, hv⟩ := hl
  refine ⟨⟨⟨F.mod, F.kind, F.glob, F.blt, ?_, fun x y c q _ => (nocell x c q).elim, fun x hx => ?_, fun x c _ q => (nocell x c q).elim, fun _ => F.hd, Around.frames_deeper F.A, .inr ⟨rfl, ?_⟩, fun b z => absurd z (noex b), fun b ob q => ?_, ?_, fun b ob _ => noex b, fun b z => absurd z (noex b), ?_, e.frf⟩,
    rfl, e.bare, Un.kept fun b ob q => (of_cut hle q).2, ⟨m, ?_, fun i x v h1 h2 h3 => ?_⟩, fun x c q => (nocell x c q).elim, ?_, fun x c q => (nocell x c q).elim, fun p hp => ?_, e.hok, hlen⟩, .refl H2, h.gen, slp, hg, fun p hp => (plo p hp).1, hle⟩
  · show (cut s2.heap C.lo).objs.size ≤ env.locals
    rw [csz, F.loc]
    exact Nat.le_refl _
  · rcases hx with hx | hx
    · exact absurd hx (F.nocell x).1
    · exact absurd hx (F.nocell x).2
  · show env.frame = some env.locals
    rw [F.fr, F.loc]
  · have hb : b < C.lo := Nat.lt_of_lt_of_le (Heap.lt_size q) F.base
    exact ⟨by rw [show (gX C env N s2 H2).s_0.heap = cut s2.heap C.lo from rfl, cut_get hb]; exact (e.bs b ob q).1, (e.bs b ob q).2⟩
  · show C.base.objs.size ≤ (cut s2.heap C.lo).objs.size
    rw [csz]
    exact F.base
  · have all : ∀ l : List Env, (∀ b ∈ frs l, b < C.lo) → s2.heap.FunFrames C.base l → (cut s2.heap C.lo).FunFrames C.base l := by
      intro l
      induction l with
      | nil => exact fun _ _ => trivial
      | cons en rest ih =>
        intro hb hf
        obtain ⟨hk, ⟨L, ob, hf1, hn, hob, hd⟩, hr⟩ := hf
        have hL : L < C.lo := hb L (by unfold frs; rw [List.filterMap_cons, hf1]; exact List.mem_cons_self)
        refine ⟨hk, ⟨L, ob, hf1, hn, by rw [cut_get hL]; exact hob, hd⟩, ih (fun b z => hb b ?_) hr⟩
        unfold frs
        rw [List.filterMap_cons, hf1]
        exact List.mem_cons_of_mem _ z
    exact all C.outer F.out e.funs
  · rw [show (gX C env N s2 H2).env.locals = C.lo from F.loc]
    exact hns _ l1
  · obtain ⟨u, ru, q1, q2⟩ := hv i x v h1 h2 h3
    exact ⟨u, ru, .inl ⟨q1, q2⟩⟩
  · show H2 env.locals = none
    rw [F.loc]
    exact l2
  · have hp' : p ∈ C.own :: pl := hp
    have key : p ∈ C.own :: (C.lo, o) :: pl := by
      rcases List.mem_cons.mp hp' with z | z
      · rw [z]
        exact List.mem_cons_self
      · exact List.mem_cons_of_mem _ (List.mem_cons_of_mem _ z)
    obtain ⟨h1, h2, h3, h4, h5⟩ := h.pin p key
    refine ⟨h1, h2, ?_, h4, h5⟩
    show p.1 ≠ env.locals
    rw [F.loc]
    intro hz
    rcases List.mem_cons.mp hp' with z | z
    · rw [z] at hz
      exact absurd F.own (by rw [hz]; exact Nat.lt_irrefl _)
    · exact (plo p z).2 hz
/-- woken: the same slots, in whatever heap there is then -/
theorem Ins.wake {o : Obj} {s2 : Shared} {H2 : Hp} (F : FrOk C env) (I : Ins C env N s0 H0 pl gl σ H s) (ho : s.heap.get? C.lo = some o) (e : Env0 C.P C.w C.K C.mg C.base C.A C.outer s2 H2)
    (h : Held C.outer C.lo { pl := C.own :: (C.lo, o) :: pl, gl := gl, H := H } s2 H2) (hg : C.g < s2.gens.size) : Ins C env N s2 H2 pl gl σ H2 s2 := by
  have nocell : ∀ x c, env.cells.lookup x = some c → False := fun x c q => by rw [F.cells] at q; cases q
  obtain ⟨m, ⟨o', es, ep, ho', r⟩, hl⟩ := I.inv.loc
  have eo : o' = o := by
    rw [show (gX C env N s0 H0).env.locals = C.lo from F.loc] at ho'
    rw [ho] at ho'
    exact (Option.some.inj ho').symm
  subst eo
  refine ins_at F ⟨m, fun h' q => ⟨o', es, ep, q, r⟩, fun i x v h1 h2 h3 => ?_⟩ I.inv.len e h I.slp (fun p hp => ⟨I.plo p hp, fun z => ?_⟩) hg
  · obtain ⟨u, ru, q⟩ := hl i x v h1 h2 h3
    rcases q with q | ⟨k, c, q, _⟩
    · exact ⟨u, ru, q.1, q.2⟩
    · exact (nocell x c q).elim
  · have q := (I.inv.pin p (List.mem_append_right _ hp)).2.2.1
    exact q (by rw [show (gX C env N s0 H0).env.locals = C.lo from F.loc]; exact z)
end
end SgG
end
section
set_option Elab.async false
set_option linter.all false
set_option maxRecDepth 100000
set_option maxHeartbeats 1000000
/-! Statements of a generator def's body. -/
namespace SgG
open PySem PySem.Spec PyProof.Rows L2 GenW SgK
/-- what is wanted at a point: the items still to come, the slots, the heap -/
abbrev NX := List Item → L2.St → Hp → Prop
structure GEn where
  nx : NX
  rt : List Item → V → Hp → Prop
  bk : NX := fun _ _ _ => False
  ct : NX := fun _ _ _ => False
abbrev TGx := GEn → List Item → L2.St → Hp → Prop
/-- where the code stands -/
structure GCx (C : GP) (env : Env) (c : Code) (fs : List Frame) (gd : Bool → Bool) : Prop where
  over : C.A.over c fs = C.A.deeper env
  split : splitAtGen fs = none
  guard : fs.any Frame.guarded = false
  gd : gd false = false
section
variable (C : GP) (env : Env) (N : List Str)
def GSPx (pl : List (Addr × Obj)) (gl : List (Nat × GenState)) (D : GEn) (xs : List Item) (s0 : Shared) (H0 : Hp) (f : Flow) (s : Shared) : Prop :=
  match f with
  | .next => ∃ σ H, Ins C env N s0 H0 pl gl σ H s ∧ D.nx xs σ H
  | .brk => ∃ σ H, Ins C env N s0 H0 pl gl σ H s ∧ D.bk xs σ H
  | .cont => ∃ σ H, Ins C env N s0 H0 pl gl σ H s ∧ D.ct xs σ H
  | .ret u => ∃ v σ H, Ins C env N s0 H0 pl gl σ H s ∧ RelV v u ∧ D.rt xs v H
def GKx (pl : List (Addr × Obj)) (gl : List (Nat × GenState)) (c : Code) (fs : List Frame) (Kf : Flow → Sem PySem.Fin) (D : GEn) : Prop :=
  ∀ (f : Flow) (xs : List Item) (s0 : Shared) (H0 : Hp) (s : Shared), GSPx C env N pl gl D xs s0 H0 f s → SegX C xs s0 H0 c (Kf f) fs s
structure GSx (z : Bool) (st : Stmt) (t : TGx) : Prop where
  run : ∀ (pl : List (Addr × Obj)) (gl : List (Nat × GenState)), (z = true → gl = []) → ∀ (c : Code) (fs : List Frame) (Kf : Flow → Sem PySem.Fin) (J : Value → Sem PySem.Fin) (gd : Bool → Bool) (lv : List Value → List Value) (D : GEn), FrOk C env → GCx C env c fs gd → GKx C env N pl gl c fs Kf D →
    ∀ (xs : List Item) (s0 : Shared) (H0 : Hp) (s : Shared) (σ : L2.St) (H : Hp), Ins C env N s0 H0 pl gl σ H s → t D xs σ H → SegX C xs s0 H0 c ((exec st env).wrap Kf J gd lv) fs s
structure GSsx (z : Bool) (st : List Stmt) (t : TGx) : Prop where
  run : ∀ (pl : List (Addr × Obj)) (gl : List (Nat × GenState)), (z = true → gl = []) → ∀ (c : Code) (fs : List Frame) (Kf : Flow → Sem PySem.Fin) (J : Value → Sem PySem.Fin) (gd : Bool → Bool) (lv : List Value → List Value) (D : GEn), FrOk C env → GCx C env c fs gd → GKx C env N pl gl c fs Kf D →
    ∀ (xs : List Item) (s0 : Shared) (H0 : Hp) (s : Shared) (σ : L2.St) (H : Hp), Ins C env N s0 H0 pl gl σ H s → t D xs σ H → SegX C xs s0 H0 c ((execs st env).wrap Kf J gd lv) fs s
end
section
variable {X : Cx} {pins : List (Addr × Obj)} {σ : L2.St} {H : Hp} {s : Shared}
/-- a piece of code that is shown from any table of generators leaves the sleepers alone, and the table does not shrink -/
theorem quiet {α : Type} {t : Sem α} {Q : α → Shared → Prop} (I : Inv X pins σ H s) (h : ∀ b, Inv X pins σ H (wG s b) → wpAny (model X.prog X.w) X.A t Q (fun _ _ => False) (wG s b)) (hQ : ∀ x s' b, Rv b s'.gens → Q x (wG s' b) → Q x s') :
    wpAny (model X.prog X.w) X.A t (fun x s' => Q x s' ∧ Sleeps s s' ∧ s.gens.size ≤ s'.gens.size) (fun _ _ => False) s := by
  have z := wpAny_sleeps (h _ (inv_gens I (bare_poison I.bare))) hQ (fun _ _ _ _ q => q)
  refine wpAny_gsz (n := s.gens.size) (Nat.le_refl _) (wpAny_mono z (fun x s' q hs => ⟨q.1, q.2, hs⟩) fun x s' q _ => q.1)
end
section
variable {C : GP} {env : Env} {N : List Str} {s0 s s' : Shared} {H0 H H' : Hp} {pl : List (Addr × Obj)} {gl : List (Nat × GenState)} {σ σ' : L2.St} {xs : List Item} {c : Code} {fs : List Frame} {D : GEn} {st : Stmt} {rest : List Stmt} {zz : Bool}
/-- behind a quiet piece -/
theorem Ins.next (I : Ins C env N s0 H0 pl gl σ H s) (J : Inv (gX C env N s0 H0) pl σ' H' s') (sm : Same H H') (sl : Sleeps s s') (sz : s.gens.size ≤ s'.gens.size) : Ins C env N s0 H0 pl gl σ' H' s' :=
  ⟨J, I.same.trans sm, fun q hq => by
    obtain ⟨k, l, c, p, fr, cl, e⟩ := (I.slp q hq).1
    have z := I.gen q hq
    rw [e] at z ⊢
    exact sl _ _ _ _ _ _ _ z, I.slp, Nat.lt_of_lt_of_le I.gsz sz, I.plo, I.low⟩
theorem segX_bw {α β : Type} {m : Sem α} {K : α → Sem β} {K' : β → Sem PySem.Fin} {J : Value → Sem PySem.Fin} {gd : Bool → Bool} {lv : List Value → List Value}
    (h : wpAny (model C.P C.w) (C.A.over c fs) m (fun a s' => SegX C xs s0 H0 c ((K a).wrap K' J gd lv) fs s') (fun x s' => SegX C xs s0 H0 c (J x) fs s') s) : SegX C xs s0 H0 c ((m >>= K).wrap K' J gd lv) fs s := by
  rw [Sem.bind_eq_wrap', Sem.wrap_wrap]
  exact segX_wrap h
def tPl (t : TS) : TGx := fun D xs σ H => t { nx := fun σ' H' => Same H H' ∧ D.nx xs σ' H', rt := fun v H' => Same H H' ∧ D.rt xs v H', bk := fun σ' H' => Same H H' ∧ D.bk xs σ' H', ct := fun σ' H' => Same H H' ∧ D.ct xs σ' H' } σ H
theorem plain_run {t : TS} {m : Sem Flow} (h : ∀ (s0 : Shared) (H0 : Hp) (pins : List (Addr × Obj)) (s : Shared) (σ : L2.St) (H : Hp) (D : Ends), Inv (gX C env N s0 H0) pins σ H s → t D σ H → wpAny (model C.P C.w) (C.A.deeper env) m (SP (gX C env N s0 H0) pins D) (fun _ _ => False) s)
    {Kf : Flow → Sem PySem.Fin} {J : Value → Sem PySem.Fin} {gd : Bool → Bool} {lv : List Value → List Value} (g : GCx C env c fs gd) (k : GKx C env N pl gl c fs Kf D) (I : Ins C env N s0 H0 pl gl σ H s) (ht : tPl t D xs σ H) : SegX C xs s0 H0 c (m.wrap Kf J gd lv) fs s := by
  refine segX_wrap ?_
  rw [g.over]
  have z := quiet I.inv (t := m) (Q := SP (gX C env N s0 H0) pl _) (fun b Ib => h s0 H0 pl (wG s b) σ H _ Ib ht) fun x s' b hb q => sp_back hb q
  refine wpAny_mono z (fun f s' q => k f xs s0 H0 s' ?_) fun _ _ q => q.elim
  obtain ⟨q, sl, sz⟩ := q
  cases f with
  | next =>
    obtain ⟨σ', H', J', sm, n⟩ := q
    exact ⟨σ', H', I.next J' sm sl sz, n⟩
  | brk =>
    obtain ⟨σ', H', J', sm, n⟩ := q
    exact ⟨σ', H', I.next J' sm sl sz, n⟩
  | cont =>
    obtain ⟨σ', H', J', sm, n⟩ := q
    exact ⟨σ', H', I.next J' sm sl sz, n⟩
  | ret u =>
    obtain ⟨v, σ', H', J', r, sm, n⟩ := q
    exact ⟨v, σ', H', I.next J' sm sl sz, r, n⟩
theorem gsx_ps {t : TS} (h : ∀ s0 H0, PS (gX C env N s0 H0) st t) : GSx C env N zz st (tPl t) :=
  ⟨fun pl gl hz c fs Kf J gd lv D F g k xs s0 H0 s σ H I ht => plain_run (m := exec st env) (fun s0 H0 pins s σ H D I q => (h s0 H0).run pins s σ H D I q) g k I ht⟩
def tX0 : TGx := fun D xs σ H => D.nx xs σ H
theorem gssx_nil : GSsx C env N zz [] tX0 := ⟨fun pl gl hz c fs Kf J gd lv D F g k xs s0 H0 s σ H I ht => k .next xs s0 H0 s ⟨σ, H, I, ht⟩⟩
def tXThen (t u : TGx) : TGx := fun D xs σ H => t { D with nx := fun xs' σ' H' => u D xs' σ' H' } xs σ H
theorem gssx_cons {t u : TGx} (a : GSx C env N zz st t) (b : GSsx C env N zz rest u) : GSsx C env N zz (st :: rest) (tXThen t u) := by
  refine ⟨fun pl gl hz c fs Kf J gd lv D F g k xs s0 H0 s σ H I ht => ?_⟩
  rw [execs_cons_wrap]
  refine a.run pl gl hz c fs _ J gd lv _ F g (fun f xs' s0' H0' s' hs => ?_) xs s0 H0 s σ H I ht
  cases f with
  | next =>
    obtain ⟨σ', H', I', q⟩ := hs
    exact b.run pl gl hz c fs Kf J gd lv D F g k xs' s0' H0' s' σ' H' I' q
  | brk => exact k .brk xs' s0' H0' s' hs
  | cont => exact k .cont xs' s0' H0' s' hs
  | ret u => exact k (.ret u) xs' s0' H0' s' hs
theorem gssx_one {t : TGx} (a : GSx C env N zz st t) : GSsx C env N zz [st] (tXThen t tX0) := gssx_cons a gssx_nil
/-! ### yield -/
def tYl (te : TE) : TGx := fun D xs σ H => te σ H fun y H1 => Same H H1 ∧ ∃ x xs', xs = x :: xs' ∧ x y H1 ∧ ∀ H2, Same H1 H2 → D.nx xs' σ H2
theorem ep_back {X : Cx} {pins : List (Addr × Obj)} {b : Array GenState} {Q : VK} {u : Value} {s' : Shared} (h : Rv b s'.gens) (q : EP X pins σ Q u (wG s' b)) : EP X pins σ Q u s' := by
  obtain ⟨v, H', I, r, z⟩ := q
  exact ⟨v, H', inv_back h I, r, z⟩
theorem gsx_yield {e : Expr} {yp pos : Pos} {te : TE} (he : ∀ s0 H0, PE (gX C env N s0 H0) e te) (hco : env.scope.isCoroutine = false) (hi : interactive env = false) : GSx C env N zz (.Expr (.Yield (some e) yp) pos) (tYl te) := by
  refine ⟨fun pl gl hz c fs Kf J gd lv D F g k xs s0 H0 s σ H I ht => ?_⟩
  rw [exec_Expr env _ pos hi rfl]
  have ey : ∀ v, yieldOut env v = yieldValue v := fun v => by unfold yieldOut; rw [hco]; rfl
  show SegX C xs s0 H0 c (.at pos fun _ => ((eval e env >>= fun v => (standAt yp >>= fun _ => yieldOut env v)) >>= fun x => dropValue (.Yield (some e) yp) pos x).wrap Kf J gd lv) fs s
  refine segX_at ?_
  simp only [ey]
  rw [Sem.bind_eq_wrap', Sem.bind_eq_wrap', Sem.wrap_wrap, Sem.wrap_wrap]
  refine segX_wrap ?_
  rw [g.over]
  have z := quiet I.inv (t := eval e env) (Q := EP (gX C env N s0 H0) pl σ _) (fun b Ib => (he s0 H0).run pl (wG s b) σ H _ Ib ht) fun x s' b hb q => ep_back hb q
  refine wpAny_mono z (fun v s' q => ?_) fun _ _ q => q.elim
  obtain ⟨⟨y, H1, J1, rv, sm, x, xs', rfl, hx, fut⟩, sl, sz⟩ := q
  have I1 := I.next J1 sm sl sz
  obtain ⟨o, ho, hD⟩ := I1.sleep F
  refine segX_at (segX_yield (D := { pl := C.own :: (C.lo, o) :: pl, gl := gl, H := H1 }) g.split g.gd g.guard rv hx I1.ran hD I1.slp List.mem_cons_self rfl fun s'' H'' e0 hD2 hg2 => ?_)
  exact k .next xs' s'' H'' s'' ⟨σ, H'', I1.wake F ho e0 hD2 hg2, fut H'' hD2.same⟩
/-! ### if -/
def tIfx (tc : TT) (t u : TGx) : TGx := fun D xs σ H => tc σ H fun b H1 => Same H H1 ∧ if b = true then t D xs σ H1 else u D xs σ H1
theorem gsx_if {test : Expr} {b1 b2 : List Stmt} {pos : Pos} {tc : TT} {t u : TGx} (hc : ∀ s0 H0, PT (gX C env N s0 H0) test tc) (h1 : GSsx C env N zz b1 t) (h2 : GSsx C env N zz b2 u) : GSx C env N zz (.If test b1 b2 pos) (tIfx tc t u) := by
  refine ⟨fun pl gl hz c fs Kf J gd lv D F g k xs s0 H0 s σ H I ht => ?_⟩
  rw [exec_If]
  refine segX_bw (wpAny_standAt ?_)
  refine segX_bw ?_
  rw [g.over]
  have z := quiet I.inv (t := isTrue test env (eval test env)) (Q := TP (gX C env N s0 H0) pl σ _) (fun b Ib => (hc s0 H0).run pl (wG s b) σ H _ Ib ht) fun x s' b hb q => by
    obtain ⟨H', I', q⟩ := q
    exact ⟨H', inv_back hb I', q⟩
  refine wpAny_mono z (fun b s' q => ?_) fun _ _ q => q.elim
  obtain ⟨⟨H1, J1, sm, q⟩, sl, sz⟩ := q
  have I1 := I.next J1 sm sl sz
  cases b with
  | true =>
    rw [if_pos rfl] at q
    exact h1.run pl gl hz c fs Kf J gd lv D F g k xs s0 H0 s' σ H1 I1 q
  | false =>
    rw [if_neg Bool.false_ne_true] at q
    exact h2.run pl gl hz c fs Kf J gd lv D F g k xs s0 H0 s' σ H1 I1 q
end
end SgG
end
section
set_option Elab.async false
set_option linter.all false
set_option maxRecDepth 100000
set_option maxHeartbeats 1000000
/-! Loops of a generator def's body that yield. -/
namespace SgG
open PySem PySem.Spec PyProof.Rows L2 GenW SgK
section
variable {C : GP} {env : Env} {N : List Str} {s0 s s' : Shared} {H0 H H' : Hp} {pl : List (Addr × Obj)} {gl : List (Nat × GenState)} {σ σ' : L2.St} {xs : List Item} {c : Code} {fs : List Frame} {D : GEn} {tg iter : Expr} {body : List Stmt} {pos : Pos} {zz : Bool}
/-- what the call of a loop's code comes back to -/
abbrev loopK (env : Env) (Kf : Flow → Sem PySem.Fin) (J : Value → Sem PySem.Fin) (gd : Bool → Bool) (lv : List Value → List Value) : Result → Sem PySem.Fin := fun r =>
  ((match r with | .ok f => (.pure f : Sem Flow) | .error e => .raise e).onRaise (cameBack env)).wrap Kf J gd lv
abbrev loopF (env : Env) (Kf : Flow → Sem PySem.Fin) (J : Value → Sem PySem.Fin) (gd : Bool → Bool) (lv : List Value → List Value) (c : Code) (p : Pos) : Frame := .ret (loopK env Kf J gd lv) none (gd false) (lv []) c p []
theorem GCx.loop {gd : Bool → Bool} {c' : Code} {kk : Result → Sem PySem.Fin} {l : List Value} {p : Pos} (g : GCx C env c fs gd) (hw : c'.weight = 0) (hu : c'.cUnits = 0) : GCx C env c' (.ret kk none (gd false) l c p [] :: fs) id where
  over := (over_loop hw hu).trans g.over
  split := by
    show (splitAtGen fs).map _ = none
    rw [g.split]
    rfl
  guard := by
    show (gd false || fs.any Frame.guarded) = false
    rw [g.gd, g.guard]
    rfl
  gd := rfl
/-- to the loop's code -/
theorem segX_For {Kf : Flow → Sem PySem.Fin} {J : Value → Sem PySem.Fin} {gd : Bool → Bool} {lv : List Value → List Value} (hs : ∀ x, foldedSetIterable iter env x = pure x)
    (h : wpAny (model C.P C.w) (C.A.over c fs) (eval iter env) (fun x s1 => wpAny (model C.P C.w) (C.A.over c fs) (pyIter x) (fun it s2 => ∀ p, SegX C xs s0 H0 (.forLoop tg it body [] env) ((model C.P C.w).den (.forLoop tg it body [] env)) (loopF env Kf J gd lv c p :: fs) s2) (fun _ _ => False) s1) (fun _ _ => False) s) :
    SegX C xs s0 H0 c ((exec (.For tg iter body [] pos) env).wrap Kf J gd lv) fs s := by
  rw [exec_For]
  refine segX_bw (wpAny_standAt ?_)
  refine segX_bw (wpAny_mono h (fun x s1 h1 => ?_) fun _ _ z => z.elim)
  refine segX_bw (wpAny_of_eq (hs x) ?_)
  refine segX_bw (wpAny_standAt ?_)
  refine segX_bw (wpAny_holding (wpAny_mono h1 (fun it s2 h2 => ?_) fun _ _ z => z.elim))
  exact segX_call h2
/-- what a loop's turn does behind the body -/
abbrev turnK (tg : Expr) (it : Value) (body : List Stmt) (env : Env) : Flow → Sem PySem.Fin := fun f => match f with
  | .next | .cont => .pure (.again (.forLoop tg it body [] env))
  | .brk => .pure (.done .next)
  | .ret v => .pure (.done (.ret v))
theorem segX_forLoop {it : Value}
    (h : ∀ (J : Value → Sem PySem.Fin), wpAny (model C.P C.w) (C.A.over (.forLoop tg it body [] env) fs) (pyNext it) (fun r s1 => match r with
      | none => SegX C xs s0 H0 (.block [] env) (.pure (.done .next)) fs s1
      | some v => wpAny (model C.P C.w) (C.A.over (.forLoop tg it body [] env) fs) (letOwnedTupleGo tg it v) (fun _ s2 => wpAny (model C.P C.w) (C.A.over (.forLoop tg it body [] env) fs) (assign tg env v) (fun _ s3 =>
          SegX C xs s0 H0 (.forLoop tg it body [] env) ((execs body env).wrap (turnK tg it body env) J id id) fs s3) (fun _ _ => False) s2) (fun _ _ => False) s1) (fun _ _ => False) s) :
    SegX C xs s0 H0 (.forLoop tg it body [] env) ((model C.P C.w).den (.forLoop tg it body [] env)) fs s := by
  show SegX C xs s0 H0 _ ((forTurn tg it body [] env).onRaise (fun x => do noteFrame x env; theTreesLotGoes x)) fs s
  unfold forTurn
  rw [Sem.onRaise_eq_wrap]
  refine segX_bw (wpAny_standAt ?_)
  refine segX_bw (wpAny_onRaise (wpAny_mono (h (fun e => ((do noteFrame e env; theTreesLotGoes e : Sem Unit).bind fun _ => .raise e))) (fun r s1 h1 => ?_) fun _ _ z => z.elim))
  cases r with
  | none => exact segX_again rfl h1
  | some v =>
    refine segX_bw (wpAny_mono h1 (fun _ s2 h2 => ?_) fun _ _ z => z.elim)
    refine segX_bw (wpAny_mono h2 (fun _ s3 h3 => ?_) fun _ _ z => z.elim)
    rw [Sem.bind_eq_wrap', Sem.wrap_wrap]
    have e : ∀ (K1 K2 : Flow → Sem PySem.Fin), (∀ f, K1 f = K2 f) → ∀ J gd lv, (execs body env).wrap K1 J gd lv = (execs body env).wrap K2 J gd lv := fun K1 K2 hk J gd lv => by rw [funext hk]
    rw [e _ (turnK tg it body env) (fun f => by cases f <;> rfl)]
    exact h3
/-! ### over an iterator of the library's (a range, enumerate) -/
def tForx (wi : TI) (g : TG) (tb : TGx) : TGx := fun D xs σ H => wi σ H fun J H1 => Same H H1 ∧ ∃ W : Nat → Nat → NX, (∃ m, W 0 m xs σ H1) ∧ ∀ i m xs σ H, W i m xs σ H →
  (J.stop i H ∧ D.nx xs σ H) ∨ (J.go i H ∧ ∃ Nn : NX, (∀ xs' σ' H', Nn xs' σ' H' → ∃ m', m' < m ∧ W (i + 1) m' xs' σ' H') ∧
    ∀ x H', J.yld i H x H' → Same H H' ∧ g x σ H' fun σ2 H2 => Same H' H2 ∧ tb { D with nx := Nn, ct := Nn, bk := D.nx } xs σ2 H2)
/-- an iterator's own things, behind any wake-up -/
theorem fp_any {b : Addr} {s1 : Shared} {H1 : Hp} (F : FrOk C env) (I : Ins C env N s0 H0 pl gl σ H s) (hf : FpOk (gX C env N s1 H1) pl H' b) (hn : H b = none) (hl : C.lo ≤ s1.heap.objs.size) : FpOk (gX C env N s0 H0) pl H b := by
  obtain ⟨_, f1, f2, f3, f4, f5⟩ := hf
  refine ⟨hn, f1, f2, f3.elim .inl fun z => .inr ?_, f4, f5⟩
  show (cut s0.heap C.lo).objs.size ≤ b
  have z' : (cut s1.heap C.lo).objs.size ≤ b := z
  rw [cut_size hl] at z'
  rw [cut_size I.low]
  exact z'
theorem any_after {α : Type} {M : Model} {A : Around} {t : Sem α} {Q : α → Shared → Prop} {s : Shared} {b0 : Array GenState} (hb : Rv b0 s.gens) (h : wpAny M A t Q (fun _ _ => False) (wG s b0)) :
    wpAny M A t (fun x s' => ∃ b, Rv b s'.gens ∧ Kp b0 s.gens b s'.gens ∧ Q x (wG s' b)) (fun _ _ => False) s := by
  intro Γ p hΓ
  have z := wp_keep t _ _ p _ s.gens hb (h Γ p hΓ)
  exact Sem.wp_mono M _ _ (fun x p' s' q => q) (fun x p' s' q => q.choose_spec.2.2) p _ z
/-- two pieces, the second of the first's value -/
theorem quiet2 {X : Cx} {pins : List (Addr × Obj)} {σ : L2.St} {H : Hp} {s : Shared} {α β : Type} {t : Sem α} {f : α → Sem β} {Q : α → β → Shared → Prop} (I : Inv X pins σ H s)
    (h : ∀ b, Inv X pins σ H (wG s b) → wpAny (model X.prog X.w) X.A t (fun a s1 => wpAny (model X.prog X.w) X.A (f a) (Q a) (fun _ _ => False) s1) (fun _ _ => False) (wG s b)) (hQ : ∀ a x s' b, Rv b s'.gens → Q a x (wG s' b) → Q a x s') :
    wpAny (model X.prog X.w) X.A t (fun a s1 => wpAny (model X.prog X.w) X.A (f a) (fun x s' => Q a x s' ∧ Sleeps s s' ∧ s.gens.size ≤ s'.gens.size) (fun _ _ => False) s1) (fun _ _ => False) s := by
  refine wpAny_gsz (n := s.gens.size) (Nat.le_refl _) (wpAny_mono (any_after (rv_poison s.gens) (h _ (inv_gens I (bare_poison I.bare)))) (fun a s1 q hs => ?_) fun x s' q _ => q)
  obtain ⟨b, h1, h2, h3⟩ := q
  refine wpAny_gsz (n := s.gens.size) hs (wpAny_mono (any_after h1 h3) (fun x s' q hs' => ?_) fun x s' q _ => q)
  obtain ⟨b', g1, g2, g3⟩ := q
  exact ⟨hQ a x s' b' g1 g3, sleeps_of (h2.trans g2), hs'⟩
theorem pie_back {X : Cx} {pins : List (Addr × Obj)} {σ : L2.St} {R : It → Hp → Prop} {v : Value} {s' : Shared} {b : Array GenState} (hb : Rv b s'.gens) (q : PIE X pins σ tg R v (wG s' b)) : PIE X pins σ tg R v s' := by
  obtain ⟨it, fp, tn, J, H', e1, I', q⟩ := q
  exact ⟨it, fp, tn, J, H', e1, inv_back hb I', q⟩
theorem gsx_for {wi : TI} {g : TG} {tb : TGx} (hi : ∀ s0 H0, PI (gX C env N s0 H0) tg iter wi) (hg : ∀ s0 H0, PG (gX C env N s0 H0) tg g) (hb : GSsx C env N zz body tb) (hs : ∀ x, foldedSetIterable iter env x = pure x := by intro _; rfl) :
    GSx C env N zz (.For tg iter body [] pos) (tForx wi g tb) := by
  refine ⟨fun pl gl hz c fs Kf J gd lv D F gc k xs s0 H0 s σ H I ht => segX_For hs ?_⟩
  rw [gc.over]
  refine wpAny_mono (quiet2 I.inv (t := eval iter env) (f := fun x => pyIter x) (Q := fun _ => PIE (gX C env N s0 H0) pl σ tg _) (fun b Ib => (hi s0 H0).run pl (wG s b) σ H _ Ib ht) fun _ x s' b hb q => pie_back hb q) (fun v s1 h1 => wpAny_mono h1 (fun itv s2 h2 p => ?_) fun _ _ z => z.elim) fun _ _ z => z.elim
  obtain ⟨⟨it, fp, tn, JJ, H2, rfl, J2, T, st2, f2, sm2, W, ⟨m0, w0⟩, turn⟩, sl2, sz2⟩ := h2
  have I2 := I.next J2 sm2 sl2 sz2
  have low2 := I.low
  have gl' : ∀ {kk : Result → Sem PySem.Fin}, GCx C env (.forLoop tg (.ref it) body [] env) (.ret kk none (gd false) (lv []) c p [] :: fs) id := gc.loop rfl rfl
  have loop : ∀ (m i : Nat) (xs : List Item) (s0' : Shared) (H0' : Hp) (s : Shared) (σ : L2.St) (H : Hp), Ins C env N s0' H0' pl gl σ H s → tn i s.heap → (∀ b ∈ fp, H b = none) → W i m xs σ H →
      SegX C xs s0' H0' (.forLoop tg (.ref it) body [] env) ((model C.P C.w).den (.forLoop tg (.ref it) body [] env)) (loopF env Kf J gd lv c p :: fs) s := by
    intro m
    induction m using Nat.strongRecOn with
    | ind m ih =>
      intro i xs s0' H0' s σ H I st fr w
      have stat : ∀ b ∈ fp, FpOk (gX C env N s0' H0') pl H b := fun b hb => fp_any F I (f2 b hb) (fr b hb) low2
      refine segX_forLoop fun J' => ?_
      rw [(gl' (kk := loopK env Kf J gd lv)).over]
      rcases turn i m xs σ H w with ⟨stop, q⟩ | ⟨go, Nn, hN, step⟩
      · have z := quiet I.inv (t := pyNext (.ref it)) (Q := fun r s1 => r = none ∧ Inv (gX C env N s0' H0') pl σ H s1) (fun b Ib => T.done (gX C env N s0' H0') rfl rfl rfl rfl i pl (wG s b) σ H _ Ib stat st stop) fun x s' b hb q => ⟨q.1, inv_back hb q.2⟩
        refine wpAny_mono z (fun r s3 h3 => ?_) fun _ _ z => z.elim
        obtain ⟨⟨rfl, J3⟩, sl3, sz3⟩ := h3
        exact segX_leaf (.ok .next) (k .next xs s0' H0' s3 ⟨σ, H, I.next J3 (.refl H) sl3 sz3, q⟩)
      · have z := quiet2 I.inv (t := pyNext (.ref it)) (f := fun r => match r with | some u => letOwnedTupleGo tg (.ref it) u | none => (.pure () : Sem Unit))
          (Q := fun r _ s2 => ∃ u, r = some u ∧ ∃ x H', Inv (gX C env N s0' H0') pl σ H' s2 ∧ RelV x u ∧ JJ.yld i H x H' ∧ tn (i + 1) s2.heap ∧ ∀ b ∈ fp, H' b = none)
          (fun b Ib => wpAny_mono (T.item (gX C env N s0' H0') rfl rfl rfl rfl i pl (wG s b) σ H (fun _ _ => False) Ib stat st go) (fun r s1 h => by
            obtain ⟨u, rfl, h⟩ := h
            exact wpAny_mono h (fun _ s2 q => ⟨u, rfl, q⟩) fun _ _ q => q) fun _ _ q => q) fun a x s' b hb q => by
            obtain ⟨u, e, x, H', I', q⟩ := q
            exact ⟨u, e, x, H', inv_back hb I', q⟩
        refine wpAny_mono z (fun r s3 h3 => ?_) fun _ _ z => z.elim
        cases r with
        | none =>
          show SegX C xs s0' H0' (.block [] env) ((Sem.pure ()).wrap (fun _ => .pure (.done .next)) .raise id id) _ s3
          refine segX_wrap ?_
          rw [(gc.loop (c' := .block [] env) rfl rfl).over]
          refine wpAny_mono h3 (fun _ s' q => ?_) fun _ _ q => q.elim
          obtain ⟨⟨u, e, _⟩, _⟩ := q
          cases e
        | some u =>
          refine wpAny_mono h3 (fun _ s5 h5 => ?_) fun _ _ z => z.elim
          obtain ⟨⟨u', eu, x, H5, J5, r5, y5, st5, fr5⟩, sl5, sz5⟩ := h5
          cases eu
          obtain ⟨sm5, stp⟩ := step x H5 y5
          have I5 := I.next J5 sm5 sl5 sz5
          have stat5 : ∀ b ∈ fp, FpOk (gX C env N s0' H0') pl H5 b := fun b hb => fp_any F I5 (f2 b hb) (fr5 b hb) low2
          have J5' := J5.pinned stat5 (T.obj _ _ st5)
          have I5' : Ins C env N s0' H0' (pl ++ pinsAt fp s5.heap) gl σ H5 s5 := ⟨J5', I5.same, I5.gen, I5.slp, I5.gsz, fun q hq => by
            rcases List.mem_append.mp hq with z | z
            · exact I5.plo q z
            · obtain ⟨_, _, _, f3, _⟩ := stat5 q.1 (of_pinsAt z).1
              rcases f3 with f3 | f3
              · have f3' : q.1 ∈ ([] : List Addr) := f3
                cases f3'
              · have f3' : (cut s0'.heap C.lo).objs.size ≤ q.1 := f3
                rw [cut_size I5.low] at f3'
                exact f3', I5.low⟩
          have z6 := quiet J5' (t := assign tg env u) (Q := fun _ s6 => ∃ σ6 H6, Inv (gX C env N s0' H0') (pl ++ pinsAt fp s5.heap) σ6 H6 s6 ∧ (Same H5 H6 ∧ tb _ xs σ6 H6)) (fun b Ib => (hg s0' H0').run _ (wG s5 b) σ H5 x u _ Ib r5 stp) fun x s' b hb q => by
            obtain ⟨σ6, H6, I6, q⟩ := q
            exact ⟨σ6, H6, inv_back hb I6, q⟩
          refine wpAny_mono z6 (fun _ s6 h6 => ?_) fun _ _ z => z.elim
          obtain ⟨⟨σ6, H6, J6, sm6, q6⟩, sl6, sz6⟩ := h6
          have I6 := I5'.next J6 sm6 sl6 sz6
          refine hb.run _ gl hz _ _ _ J' id id _ F gl' (fun f xs' s0'' H0'' s7 h7 => ?_) xs s0' H0' s6 σ6 H6 I6 q6
          have again : ∀ {σ7 : L2.St} {H7 : Hp}, Ins C env N s0'' H0'' (pl ++ pinsAt fp s5.heap) gl σ7 H7 s7 → Nn xs' σ7 H7 → SegX C xs' s0'' H0'' (.forLoop tg (.ref it) body [] env) (.pure (.again (.forLoop tg (.ref it) body [] env))) (loopF env Kf J gd lv c p :: fs) s7 := fun {σ7 H7} I7 n7 => by
            obtain ⟨m', hm, w7⟩ := hN xs' σ7 H7 n7
            refine segX_again rfl (ih m' hm (i + 1) xs' s0'' H0'' s7 σ7 H7 ⟨I7.inv.unpinned, I7.same, I7.gen, I7.slp, I7.gsz, fun q hq => I7.plo q (List.mem_append_left _ hq), I7.low⟩ ?_ (fun b hb => ?_) w7)
            · exact T.keep _ _ _ st5 fun b hb o e => (I7.inv.pin (b, o) (List.mem_append_right _ (List.mem_append_right _ (mem_pinsAt hb e)))).1
            · obtain ⟨o, e, d⟩ := T.obj _ _ st5 b hb
              exact (I7.inv.pin (b, o) (List.mem_append_right _ (List.mem_append_right _ (mem_pinsAt hb e)))).2.1
          have off : ∀ {σ7 : L2.St} {H7 : Hp}, Ins C env N s0'' H0'' (pl ++ pinsAt fp s5.heap) gl σ7 H7 s7 → Ins C env N s0'' H0'' pl gl σ7 H7 s7 := fun {σ7 H7} I7 =>
            ⟨I7.inv.unpinned, I7.same, I7.gen, I7.slp, I7.gsz, fun q hq => I7.plo q (List.mem_append_left _ hq), I7.low⟩
          cases f with
          | next =>
            obtain ⟨σ7, H7, I7, n7⟩ := h7
            exact again I7 n7
          | cont =>
            obtain ⟨σ7, H7, I7, n7⟩ := h7
            exact again I7 n7
          | brk =>
            obtain ⟨σ7, H7, I7, q7⟩ := h7
            exact segX_leaf (.ok .next) (k .next xs' s0'' H0'' s7 ⟨σ7, H7, off I7, q7⟩)
          | ret v =>
            obtain ⟨x7, σ7, H7, I7, r7, q7⟩ := h7
            exact segX_leaf (.ok (.ret v)) (k (.ret v) xs' s0'' H0'' s7 ⟨x7, σ7, H7, off I7, r7, q7⟩)
  exact loop m0 0 xs s0 H0 s2 σ H2 I2 st2 (fun b hb => (f2 b hb).1) w0
end
end SgG
end
section
set_option Elab.async false
set_option linter.all false
set_option maxRecDepth 100000
set_option maxHeartbeats 1000000
/-! A generator's loop over another generator. -/
namespace SgG
open PySem PySem.Spec PyProof.Rows L2 GenW SgK
section
variable {C : GP} {env : Env} {N : List Str} {s0 s s' : Shared} {H0 H H' : Hp} {pl : List (Addr × Obj)} {gl : List (Nat × GenState)} {σ σ' : L2.St} {xs : List Item} {c : Code} {fs : List Frame} {D : GEn} {tg iter : Expr} {body : List Stmt} {pos : Pos}
def tForGx (wi : TGen) (g : TG) (tb : TGx) : TGx := fun D xs σ H => wi σ H fun ys H1 => Same H H1 ∧ ∃ W : Nat → NX, W 0 xs σ H1 ∧ ∀ i xs σ H, W i xs σ H → (i = ys.length → ∀ H', Same H H' → D.nx xs σ H') ∧
  (∀ x, ys[i]? = some x → ∀ y H', Same H H' → x y H' → g y σ H' fun σ2 H2 => Same H' H2 ∧ tb { D with nx := fun xs' σ' H'' => Same H' H'' ∧ W (i + 1) xs' σ' H'', ct := fun xs' σ' H'' => Same H' H'' ∧ W (i + 1) xs' σ' H'', bk := D.nx } xs σ2 H2)
theorem below_any {s1 : Shared} {H1 : Hp} {lo : Addr} (B : Below (gX C env N s1 H1) pl lo) (h1 : C.lo ≤ s1.heap.objs.size) (h0 : C.lo ≤ s0.heap.objs.size) : Below (gX C env N s0 H0) pl lo := by
  refine ⟨?_, B.loc, B.cel, B.pin⟩
  have z : (cut s1.heap C.lo).objs.size ≤ lo := B.ent
  show (cut s0.heap C.lo).objs.size ≤ lo
  rw [cut_size h1] at z
  rw [cut_size h0]
  exact z
theorem new_quiet {X : Cx} {pins : List (Addr × Obj)} {σ : L2.St} {H : Hp} {s : Shared} {e : Expr} {wi : TGen} {Q : List Item → Hp → Prop} (hx : X.xe = fun _ _ => False) (h : PGn X e wi) (I : Inv X pins σ H s) (q : wi σ H Q) :
    wpAny (model X.prog X.w) X.A (eval e X.env) (fun u s' => GNew X pins σ s.gens.size Q u s' ∧ Sleeps s s' ∧ s.gens.size ≤ s'.gens.size) (fun _ _ => False) s := by
  have z := h.run pins _ σ H Q (inv_gens I (bare_poison I.bare)) q
  rw [hx] at z
  have es : (wG s (s.gens.map poison1)).gens.size = s.gens.size := by simp
  rw [es] at z
  exact wpAny_gsz (n := s.gens.size) (Nat.le_refl _) (wpAny_mono (wpAny_sleeps z (fun x s' b hb q => q.back hb) fun _ _ _ _ q => q) (fun x s' q hs => ⟨q.1, q.2, hs⟩) fun x s' q _ => q.1)
theorem gsx_forG {wi : TGen} {g : TG} {tb : TGx} (hi : ∀ s0 H0, PGn (gX C env N s0 H0) iter wi) (hg : ∀ s0 H0, PG (gX C env N s0 H0) tg g) (hb : GSsx C env N false body tb) (hs : ∀ x, foldedSetIterable iter env x = pure x := by intro _; rfl) :
    GSx C env N true (.For tg iter body [] pos) (tForGx wi g tb) := by
  refine ⟨fun pl gl hz c fs Kf J gd lv D F gc k xs s0 H0 s σ H I ht => segX_For hs ?_⟩
  rw [gc.over]
  have ez : gl = [] := hz rfl
  subst ez
  refine wpAny_mono (new_quiet rfl (hi s0 H0) I.inv ht) (fun v s2 h2 => ?_) fun _ _ z => z.elim
  obtain ⟨⟨C2, a, ys, D2, H2, rfl, J2, B, hgn, G, sm2, W, w0, turn⟩, sl2, sz2⟩ := h2
  have I2 := I.next J2 sm2 sl2 sz2
  have hlow := I.low
  obtain ⟨⟨e1, e2, e3, e4, e5, e6, e7⟩, live, held, gen, own, _⟩ := G
  obtain ⟨P', w', K', mg', base', A', outer', lo', ⟨a', go⟩, gn⟩ := C2
  subst e1 e2 e3 e4 e5 e6 e7
  have isg : ∀ {D : Dt} {s : Shared} {H : Hp}, (a', go) ∈ D.pl → Held (env :: C.outer) lo' D s H → s.heap.IsGen a' gn := fun ho hh => by
    obtain ⟨nm, qn, g1, g2, g3⟩ := gen
    exact ⟨go, nm, qn, (hh.pin _ ho).1, g1, g2, g3⟩
  refine wpAny_pyIter_gen (isg own held) fun p => ?_
  have gl' : ∀ {kk : Result → Sem PySem.Fin}, GCx C env (.forLoop tg (.ref a') body [] env) (.ret kk none (gd false) (lv []) c p [] :: fs) id := gc.loop rfl rfl
  have hgn' : C.g < gn := Nat.lt_of_lt_of_le I.gsz hgn
  have loop : ∀ (m i : Nat) (xs : List Item) (s0' : Shared) (H0' : Hp) (s : Shared) (σ : L2.St) (H : Hp) (D' : Dt), m = ys.length - i → i ≤ ys.length → Ins C env N s0' H0' pl [] σ H s → Held (env :: C.outer) lo' D' s H → (a', go) ∈ D'.pl →
      GLive ⟨C.P, C.w, C.K, C.mg, C.base, A', env :: C.outer, lo', (a', go), gn⟩ (C.A.deeper env) a' (ys.drop i) D' → W i xs σ H →
      SegX C xs s0' H0' (.forLoop tg (.ref a') body [] env) ((model C.P C.w).den (.forLoop tg (.ref a') body [] env)) (loopF env Kf J gd lv c p :: fs) s := by
    intro m
    induction m with
    | zero =>
      intro i xs s0' H0' s σ H D' hm hle I held own live w
      have ei : i = ys.length := by omega
      have B' : Below (gX C env N s0' H0') pl lo' := below_any B hlow I.low
      refine segX_forLoop fun J' => ?_
      rw [(gl' (kk := loopK env Kf J gd lv)).over]
      rw [ei, List.drop_length] at live
      have z := wpAny_gsz (n := s.gens.size) (Nat.le_refl _) (wpAny_mono (live s H I.inv.env0 held) (fun x s' q (hs : s.gens.size ≤ s'.gens.size) => (⟨q, hs⟩ : _ ∧ _)) fun x s' q _ => q)
      refine wpAny_mono z (fun r s3 h3 => ?_) fun _ _ z => z.elim
      obtain ⟨⟨rfl, H3, ran⟩, sz3⟩ := h3
      exact segX_leaf (.ok .next) (k .next xs s0' H0' s3 ⟨σ, H3, ⟨Inv.ran I.inv B' ran, I.same.trans ran.same, fun q hq => (by cases hq), fun q hq => (by cases hq), Nat.lt_of_lt_of_le I.gsz sz3, I.plo, I.low⟩, (turn i xs σ H w).1 ei H3 ran.same⟩)
    | succ m ih =>
      intro i xs s0' H0' s σ H D' hm hle I held own live w
      have hlt : i < ys.length := by omega
      have B' : Below (gX C env N s0' H0') pl lo' := below_any B hlow I.low
      have hlo : C.lo ≤ lo' := by
        have z := B'.loc
        rw [show (gX C env N s0' H0').env.locals = C.lo from F.loc] at z
        exact Nat.le_of_lt z
      refine segX_forLoop fun J' => ?_
      rw [(gl' (kk := loopK env Kf J gd lv)).over]
      rw [List.drop_eq_getElem_cons hlt] at live
      have z := wpAny_gsz (n := s.gens.size) (Nat.le_refl _) (wpAny_mono (live s H I.inv.env0 held) (fun x s' q (hs : s.gens.size ≤ s'.gens.size) => (⟨q, hs⟩ : _ ∧ _)) fun x s' q _ => q)
      refine wpAny_mono z (fun r s4 h4 => ?_) fun _ _ z => z.elim
      obtain ⟨⟨u, y, H4, D4, rfl, ry, xy, ran, held4, hS, own4, hDH, live4⟩, sz4⟩ := h4
      obtain ⟨nm, qn, g1, g2, g3⟩ := gen
      refine go_of (n := "generator") (held4.pin _ own4).1 g1 g2 (by decide) ?_
      have J4 := Inv.ran I.inv B' ran
      have I4 : Ins C env N s0' H0' (pl ++ D4.pl) D4.gl σ H4 s4 := ⟨Inv.hold J4 B' held4, I.same.trans ran.same, held4.gen, fun q hq => ⟨(hS q hq).1, Nat.lt_of_lt_of_le hgn' (hS q hq).2⟩, Nat.lt_of_lt_of_le I.gsz sz4, fun q hq => by
        rcases List.mem_append.mp hq with z | z
        · exact I.plo q z
        · exact Nat.le_trans hlo (held4.pin q z).2.2.1, I.low⟩
      have z6 := quiet I4.inv (t := assign tg env u) (Q := fun _ s6 => ∃ σ6 H6, Inv (gX C env N s0' H0') (pl ++ D4.pl) σ6 H6 s6 ∧ (Same H4 H6 ∧ tb _ xs σ6 H6)) (fun b Ib => (hg s0' H0').run _ (wG s4 b) σ H4 y u _ Ib ry ((turn i xs σ H w).2 _ (List.getElem?_eq_getElem hlt) y H4 ran.same xy)) fun x s' b hb q => by
        obtain ⟨σ6, H6, I6, q⟩ := q
        exact ⟨σ6, H6, inv_back hb I6, q⟩
      refine wpAny_mono z6 (fun _ s6 h6 => ?_) fun _ _ z => z.elim
      obtain ⟨⟨σ6, H6, J6, sm6, q6⟩, sl6, sz6⟩ := h6
      have I6 := I4.next J6 sm6 sl6 sz6
      refine hb.run _ _ (fun h => by cases h) _ _ _ J' id id _ F gl' (fun f xs' s0'' H0'' s7 h7 => ?_) xs s0' H0' s6 σ6 H6 I6 q6
      have off : ∀ {σ7 : L2.St} {H7 : Hp}, Ins C env N s0'' H0'' (pl ++ D4.pl) D4.gl σ7 H7 s7 → Ins C env N s0'' H0'' pl [] σ7 H7 s7 := fun {σ7 H7} I7 =>
        ⟨I7.inv.unpinned, I7.same, fun q hq => (by cases hq), fun q hq => (by cases hq), I7.gsz, fun q hq => I7.plo q (List.mem_append_left _ hq), I7.low⟩
      have again : ∀ {σ7 : L2.St} {H7 : Hp}, Ins C env N s0'' H0'' (pl ++ D4.pl) D4.gl σ7 H7 s7 → Same H4 H7 → W (i + 1) xs' σ7 H7 → SegX C xs' s0'' H0'' (.forLoop tg (.ref a') body [] env) (.pure (.again (.forLoop tg (.ref a') body [] env))) (loopF env Kf J gd lv c p :: fs) s7 := fun {σ7 H7} I7 sm7 w7 => by
        refine segX_again rfl (ih (i + 1) xs' s0'' H0'' s7 σ7 H7 D4 (by omega) hlt (off I7) ⟨fun p' hp => ?_, I7.gen, by rw [hDH]; exact sm7⟩ own4 live4 w7)
        obtain ⟨_, _, h3, h4, h5⟩ := held4.pin p' hp
        obtain ⟨g1, g2, _⟩ := I7.inv.pin p' (List.mem_append_right _ (List.mem_append_right _ hp))
        exact ⟨g1, g2, h3, h4, h5⟩
      cases f with
      | next =>
        obtain ⟨σ7, H7, I7, sm7, w7⟩ := h7
        exact again I7 sm7 w7
      | cont =>
        obtain ⟨σ7, H7, I7, sm7, w7⟩ := h7
        exact again I7 sm7 w7
      | brk =>
        obtain ⟨σ7, H7, I7, q7⟩ := h7
        exact segX_leaf (.ok .next) (k .next xs' s0'' H0'' s7 ⟨σ7, H7, off I7, q7⟩)
      | ret v =>
        obtain ⟨x7, σ7, H7, I7, r7, q7⟩ := h7
        exact segX_leaf (.ok (.ret v)) (k (.ret v) xs' s0'' H0'' s7 ⟨x7, σ7, H7, off I7, r7, q7⟩)
  exact loop _ 0 xs s0 H0 s2 σ H2 D2 rfl (Nat.zero_le _) I2 held own (by rw [List.drop_zero]; exact live) w0
end
end SgG
end
section
set_option Elab.async false
set_option linter.all false
set_option maxRecDepth 100000
set_option maxHeartbeats 1000000
/-! A generator def is called; what comes can be walked. -/
namespace SgG
open PySem PySem.Spec PyProof.Rows L2 GenW SgK
/-- a generator def's promise: from its arguments and the heap, what will be handed out -/
abbrev SpX := List V → Hp → List Item → Prop
/-- what a call gives -/
def GCome (P : Program) (w : World) (K : PySem.W.Frag) (mg : Str → Option Value) (base : Heap) (k : Nat) (outer : List Env) (H : Hp) (s : Shared) (xs : List Item) (u : Value) (s' : Shared) : Prop :=
  ∃ a lo go g D cc nm qn, u = .ref a ∧ s'.os = s.os ∧ AllBare s'.gens ∧ (∀ b o, s.heap.get? b = some o → s'.heap.get? b = some o) ∧ s.heap.objs.size ≤ lo ∧ s.gens.size ≤ g ∧ Held outer lo D s' H ∧ (go.cls = .type "generator" ∧ go.data = .fields #[.int g 0, nm, qn] ∧ go.slots = #[]) ∧
    (a, go) ∈ D.pl ∧ D.gl = [(g, .fresh cc)] ∧ ∀ XA : Around, Room k XA → XA.frames = some outer → GLive ⟨P, w, K, mg, base, XA.in1, outer, lo, (a, go), g⟩ XA a xs D
def GFx (P : Program) (w : World) (K : PySem.W.Frag) (mg : Str → Option Value) (base : Heap) (k : Nat) (f : Addr) (sp : SpX) : Prop :=
  ∀ (A : Around) (outer : List Env) (s : Shared) (H : Hp) (us : List Value) (vs : List V) (xs : List Item), Room k A → Env0 P w K mg base A outer s H → Vals vs us → sp vs H xs →
    codeAny (model P w) A (.call (.ref f) ⟨us, []⟩) (fun r s' => match r with | .ok (.ret u) => GCome P w K mg base k outer H s xs u s' | _ => False) s
/-- the code of a def's body, begun -/
theorem segX_func {C : GP} {xs : List Item} {s0 : Shared} {H0 : Hp} {fs : List Frame} {s : Shared} {body : List Stmt} {env : Env}
    (h : ∀ J, SegX C xs s0 H0 (.func body env) ((execs body env).wrap (fun f => .pure (.done (.ret (match f with | .ret v => v | _ => .none)))) J id id) fs s) :
    SegX C xs s0 H0 (.func body env) ((model C.P C.w).den (.func body env)) fs s := by
  show SegX C xs s0 H0 _ (.point [] fun _ => ((execs body env).onRaise (leaving env)) >>= _) fs s
  refine segX_point ?_
  rw [Sem.onRaise_eq_wrap, Sem.bind_eq_wrap', Sem.wrap_wrap]
  have e : ∀ (K1 K2 : Flow → Sem PySem.Fin), (∀ f, K1 f = K2 f) → ∀ J gd lv, (execs body env).wrap K1 J gd lv = (execs body env).wrap K2 J gd lv := fun K1 K2 hk J gd lv => by rw [funext hk]
  rw [e _ (fun f => .pure (.done (.ret (match f with | .ret v => v | _ => .none)))) (fun f => by cases f <;> rfl)]
  exact h _
section
variable {P : Program} {w : World} {K : PySem.W.Frag} {mg : Str → Option Value} {base : Heap} {k : Nat} {f : Addr} {name qual : Str} {params : Arguments} {body : List Stmt} {scope : Scope} {dV kV doc pm cdv ct oc : Value} {an od : Option Addr}
  {osl : Array (Option Value)} {N ps : List Str} {sp : SpX}
theorem start_at {vs : List V} {us : List Value} {L : Addr} (S : GScope N ps scope) (noc : ∀ y ∈ scope.names, y.2 ≠ .cell) (hl : vs.length = ps.length) (r : Vals vs us) (i : Nat) (x : Str) (v : V) (h1 : N[i]? = some x) (h2 : (L2.start N vs)[i]? = some (some v)) :
    ∃ u, RelV v u ∧ (envOfC qual scope L f cdv).kindOf x = some .local ∧ bindL (envOfC qual scope L f cdv).kindOf (ps.zip us) (fun _ => none) x = some u := by
  have hpl : ps.length ≤ N.length := by
    have := congrArg List.length S.pre
    rw [List.length_take] at this
    omega
  have hi : i < vs.length := by
    unfold L2.start at h2
    by_cases hi : i < vs.length
    · exact hi
    · rw [List.getElem?_append_right (by simpa using hi), List.getElem?_replicate] at h2
      split at h2 <;> cases h2
  have ha : vs[i]? = some v := by
    unfold L2.start at h2
    rw [List.getElem?_append_left (by simpa using hi), List.getElem?_map] at h2
    cases e : vs[i]? with
    | none => rw [e] at h2; cases h2
    | some a => rw [e] at h2; cases h2; rfl
  obtain ⟨u, hu, rv⟩ := r.get ha
  have hp : ps[i]? = some x := by
    rw [← S.pre, List.getElem?_take_of_lt (by omega)]
    exact h1
  have ndP : ps.Nodup := by
    rw [← S.pre]
    exact S.nd.sublist (List.take_sublist _ _)
  refine ⟨u, rv, ?_⟩
  rcases S.par x (List.mem_of_getElem? hp) with q | q
  · exact ⟨q, bindL_get ndP hp hu q⟩
  · exact absurd rfl (noc _ (PySem.mem_of_lookup q))
theorem no_cells {scope : Scope} {n : Nat} (noc : ∀ y ∈ scope.names, y.2 ≠ .cell) : cellsFrom n scope.names [] = [] := by
  have all : ∀ (l : List (Str × NameKind)) (n : Nat), (∀ y ∈ l, y.2 ≠ .cell) → cellsFrom n l [] = [] := by
    intro l
    induction l with
    | nil => exact fun _ _ => rfl
    | cons y l ih =>
      intro n h
      obtain ⟨nm, kd⟩ := y
      have hk : kd ≠ .cell := h (nm, kd) List.mem_cons_self
      have hb : (kd == NameKind.cell) = false := beq_eq_false_iff_ne.mpr hk
      unfold cellsFrom
      rw [hb]
      exact ih n fun z hz => h z (List.mem_cons_of_mem _ hz)
  exact all _ _ noc
theorem gfx_of (lk : K.lookup f = some ⟨oc, od, .func (PySem.W.fnOf name qual params body scope dV kV doc pm an cdv ct), osl⟩) (hcd : PySem.W.codeIn K cdv qual = true) (S : GScope N ps scope) (noc : ∀ y ∈ scope.names, y.2 ≠ .cell)
    (hb : Binds K (PySem.W.fnOf name qual params body scope dV kV doc pm an cdv ct) ps []) (len : ∀ vs H xs, sp vs H xs → vs.length = ps.length)
    (hbody : ∀ (C : GP) (vs : List V) (H : Hp) (xs : List Item), C.P = P → C.w = w → C.K = K → C.mg = mg → C.base = base → Room k (C.A.deeper (envOfC qual scope C.lo f cdv)) → FrOk C (envOfC qual scope C.lo f cdv) → sp vs H xs →
      ∃ t, GSsx C (envOfC qual scope C.lo f cdv) N true body t ∧ ∀ H2, Same H H2 → t { nx := fun ys _ _ => ys = [], rt := fun ys v _ => ys = [] ∧ v = .non } xs (L2.start N vs) H2) :
    GFx P w K mg base (k + 2) f sp := by
  intro A outer s H us vs xs hr e0 r hsp
  have hl := len _ _ _ hsp
  have hul : us.length = ps.length := by rw [← r.length]; exact hl
  have KX : K.In s.heap := e0.mod.kin.keeps fun b o e => (e0.bs b o e).1
  have lim : s.heap.NoLimit := e0.mod.nolimit.keeps fun b o e => (e0.bs b o e).1
  have hbind := hb s us KX (by rw [List.append_nil]; exact hul)
  rw [List.append_nil] at hbind
  have hkind : ∀ y ∈ ps.zip us, scope.names.lookup y.1 = some .local ∨ (scope.names.lookup y.1 = some .cell ∧ ((cellsFrom (s.heap.objs.size + 1) scope.names []).lookup y.1).isSome = true) := fun y hy => by
    rcases S.par y.1 (List.of_mem_zip hy).1 with q | q
    · exact .inl q
    · exact absurd rfl (noc _ (PySem.mem_of_lookup q))
  refine codeAny_call_generator hr.depth (KX _ _ lk) rfl S.co S.gen rfl (PySem.W.codeRec_of KX hcd) (hbind _ _ _ _ ?_)
  refine wpAny_newFunctionEnv_cells S.kind hkind fun env he s1 x => ?_
  subst he
  have lim1 : s1.heap.NoLimit := lim.keeps x.toInCall.keep
  refine ⟨lim1, ?_⟩
  obtain ⟨h1, tk, es1, hk1⟩ := x.done
  have os1 : s1.os = s.os := by rw [es1]
  have gen1 : s1.gens = s.gens := by rw [es1]
  have lt1 : s.heap.objs.size < s1.heap.objs.size := x.toInCall.ns.lt
  have kp1 : ∀ b o, s.heap.get? b = some o → s1.heap.get? b = some o := x.toInCall.keep
  obtain ⟨of, fes, fep, hof, hdf, hkf, hnf⟩ := x.toInCall.ns
  have outl : ∀ b ∈ frs outer, b < s.heap.objs.size := fun b hb => by
    obtain ⟨_, o, ho, _⟩ := e0.funs.mem hb
    exact Heap.lt_size ho
  have main : ∀ (go : Obj) (nm qn : Value) (tk2 : Nat), go.cls = .type "generator" → go.data = .fields #[.int s1.gens.size 0, nm, qn] → go.slots = #[] → (∀ h : Heap, (h.push go).get? h.objs.size = some go) →
      GCome P w K mg base (k + 2) outer H s xs (.ref s1.heap.objs.size) { s1 with gens := s1.gens.push (.fresh (.func body (envOfC qual scope s.heap.objs.size f cdv))), toks := tk2, heap := s1.heap.push go } := by
    intro go nm qn tk2 hgc hgd hgs hgp
    have atA : (s1.heap.push go).get? s1.heap.objs.size = some go := hgp _
    have atL : (s1.heap.push go).get? s.heap.objs.size = some of := Heap.get?_push_of_some _ hof
    have held : Held outer s.heap.objs.size { pl := [(s1.heap.objs.size, go), (s.heap.objs.size, of)], gl := [(s1.gens.size, .fresh (.func body (envOfC qual scope s.heap.objs.size f cdv)))], H := H }
        { s1 with gens := s1.gens.push (.fresh (.func body (envOfC qual scope s.heap.objs.size f cdv))), toks := tk2, heap := s1.heap.push go } H := by
      refine ⟨fun p hp => ?_, fun q hq => ?_, .refl H⟩
      · rcases List.mem_cons.mp hp with z | hp
        · rw [z]
          exact ⟨atA, e0.hok.fresh (Nat.le_of_lt lt1), Nat.le_of_lt lt1, fun hb => Nat.lt_irrefl _ (Nat.lt_trans (outl _ hb) lt1), fun v q => by rw [hgd] at q; cases q⟩
        · rw [List.mem_singleton.mp hp]
          exact ⟨atL, e0.hok.fresh (Nat.le_refl _), Nat.le_refl _, fun hb => Nat.lt_irrefl _ (outl _ hb), fun v q => by rw [hdf] at q; cases q⟩
      · rw [List.mem_singleton.mp hq]
        exact Array.getElem?_push_size ..
    refine ⟨s1.heap.objs.size, s.heap.objs.size, go, s1.gens.size, _, .func body (envOfC qual scope s.heap.objs.size f cdv), nm, qn, rfl, os1, AllBare.push (by rw [gen1]; exact e0.bare) rfl, fun b o e => Heap.get?_push_of_some _ (kp1 b o e), Nat.le_refl _, by rw [gen1]; exact Nat.le_refl _, held, ⟨hgc, hgd, hgs⟩, List.mem_cons_self, rfl, fun XA hXA hfr => ?_⟩
    have F : FrOk ⟨P, w, K, mg, base, XA.in1, outer, s.heap.objs.size, (s1.heap.objs.size, go), s1.gens.size⟩ (envOfC qual scope s.heap.objs.size f cdv) := by
      refine ⟨S.kind, rfl, rfl, rfl, rfl, fun y => ⟨fun q => noc _ (PySem.mem_of_lookup q) rfl, fun q => S.nofree _ (PySem.mem_of_lookup q) rfl⟩, no_cells noc, e0.bsz, outl, lt1, hXA.hd, hfr, e0.mod⟩
    refine glive_of (C := ⟨P, w, K, mg, base, XA.in1, outer, s.heap.objs.size, (s1.heap.objs.size, go), s1.gens.size⟩) rfl hXA.hd hXA.depth ⟨nm, qn, hgc, hgd, hgs⟩ xs _ (.fresh (.func body (envOfC qual scope s.heap.objs.size f cdv))) rfl List.mem_cons_self (List.mem_singleton.mpr rfl) fun s2 H2 e2 hD2 hg2 => ?_
    obtain ⟨t, ht, hq⟩ := hbody ⟨P, w, K, mg, base, XA.in1, outer, s.heap.objs.size, (s1.heap.objs.size, go), s1.gens.size⟩ vs H xs rfl rfl rfl rfl rfl (hXA.in1.deeper _) F hsp
    refine segX_func fun J => ?_
    refine ht.run [] [] (fun _ => rfl) _ [] _ J id id _ F ⟨over_func, rfl, rfl, rfl⟩ (fun fl ys s0' H0' s3 h3 => ?_) xs _ H2 _ _ H2 ?_ (hq H2 hD2.same)
    · cases fl with
      | next =>
        obtain ⟨σ', H', I', e⟩ := h3
        subst e
        exact segX_end (r := .ok (.ret .none)) (.inl rfl) I'.ran
      | brk => obtain ⟨_, _, _, q⟩ := h3; exact False.elim q
      | cont => obtain ⟨_, _, _, q⟩ := h3; exact False.elim q
      | ret u =>
        obtain ⟨v, σ', H', I', rv, e, ev⟩ := h3
        subst e ev
        have eu : u = Value.none := rv
        subst eu
        exact segX_end (r := .ok (.ret .none)) (.inl rfl) I'.ran
    · refine ins_at (o := of) (Hd := H) F ⟨_, fun h q => ⟨of, fes, fep, q, hdf, hkf, hnf⟩, fun i y v g1 g2 _ => start_at S noc hl r i y v g1 g2⟩ ?_ (env0_set e2 rfl) ⟨hD2.pin, fun q hq' => (by cases hq'), hD2.same⟩ (fun q hq' => (by cases hq')) (fun p hp => (by cases hp)) (by rw [setGen_size]; exact hg2)
      have hpl : ps.length ≤ N.length := by
        have := congrArg List.length S.pre
        rw [List.length_take] at this
        omega
      unfold L2.start
      rw [List.length_append, List.length_map, List.length_replicate]
      omega
  exact main _ _ _ _ rfl rfl rfl fun h => Heap.get?_push_size _ rfl
end
/-! ### the calls -/
theorem Below.mono {X : Cx} {pins : List (Addr × Obj)} {a b : Addr} (h : Below X pins a) (hab : a ≤ b) : Below X pins b :=
  ⟨Nat.le_trans h.ent hab, Nat.lt_of_lt_of_le h.loc hab, fun x c e => Nat.lt_of_lt_of_le (h.cel x c e) hab, fun p hp => Nat.lt_of_lt_of_le (h.pin p hp) hab⟩
section
variable {X : Cx} {pins : List (Addr × Obj)} {σ : L2.St} {H : Hp} {s s' : Shared} {k : Nat} {f : Addr} {sp : SpX}
theorem come_new {xs : List Item} {u : Value} {n : Nat} {Q : List Item → Hp → Prop} (hr : Room k X.A) (I : Inv X pins σ H s) (hn : n ≤ s.gens.size) (h : GCome X.prog X.w X.K X.mg X.base k X.stack H s xs u s') (q : Q xs H) : GNew X pins σ n Q u s' := by
  obtain ⟨a, lo, go, g, D, cc, nm, qn, rfl, os, bare, kp, hlo, hg, held, hgen, own, new, live⟩ := h
  refine ⟨⟨X.prog, X.w, X.K, X.mg, X.base, X.A.in1, X.stack, lo, (a, go), g⟩, a, xs, D, H, rfl, I.call' (ch := []) os (Un.kept kp) (I.hok.kept kp) bare (fun b z => by simp at z), (Inv.below I).mono hlo, Nat.le_trans hn hg, ⟨⟨rfl, rfl, rfl, rfl, rfl, rfl, rfl⟩, live X.A hr I.ok.frames, held, ⟨nm, qn, hgen⟩, own, cc, new⟩, q⟩
theorem run_gfx {us : List Value} {vs : List V} {xs : List Item} {n : Nat} {Q : List Item → Hp → Prop} (F : GFx X.prog X.w X.K X.mg X.base k f sp) (hr : Room k X.A) (I : Inv X pins σ H s) (hn : n ≤ s.gens.size) (r : Vals vs us) (hsp : sp vs H xs) (q : Q xs H) :
    codeAny (model X.prog X.w) X.A (.call (.ref f) ⟨us, []⟩) (fun r s' => match r with | .ok (.ret v) => GNew X pins σ n Q v s' | .ok _ => False | .error e => X.xe e s') s := by
  refine codeAny_mono (F X.A X.stack s H us vs xs hr I.env0 r hsp) fun r s' h => ?_
  cases r with
  | error e => exact h.elim
  | ok fl =>
    cases fl with
    | ret u => exact come_new hr I hn h q
    | next => exact h.elim
    | brk => exact h.elim
    | cont => exact h.elim
/-- f(e, ..) -/
def tCallG (sp : SpX) (t : TA) : TGen := fun σ H Q => t σ H fun vs H1 => ∃ xs, sp vs H1 xs ∧ Q xs H1
theorem pgn_call {x : Str} {p pos : Pos} {e : Expr} {es : List Expr} {t : TA} (F : GFx X.prog X.w X.K X.mg X.base k f sp) (hr : Room k X.A) (hk : PySem.W.keepIn X.K (.ref f) = true) (hg : Gl X x) (hm : X.mg x = some (.ref f)) (ha : PA X (e :: es) t)
    (hd : (x == ("__debug__" : Str)) = false := by decide) (he : starEach (e :: es) X.env = (false, eval e X.env) :: starEach es X.env := by rfl) (hpl : (backTo pos (starEach es X.env)).any (·.1) = false := by rfl) : PGn X (.Call (.Name x p) (e :: es) [] pos) (tCallG sp t) := by
  refine ⟨fun pins s σ H Q I h => ?_⟩
  refine wpAny_Call_Name_kw (ld_glob I hg hm ?_ hd)
  refine PySem.W.callWith_K (h₀ := X.base) I.ok.mod.kin hk (wpAny_gsz (n := s.gens.size) (Nat.le_refl _) (thn (wpAny_mono (ha.run pos pins s σ H _ I h) (fun _ _ z => z) fun _ _ z _ => z) fun us s1 ⟨vs, H1, I1, r, xs, hsp, q⟩ hn => ⟨I1.kIn, ?_⟩)) he hpl
  exact wpAny_call (run_gfx F hr I1 hn r hsp q)
/-- o.m() -/
def tMethG (C : Addr) (m : Str) (sp : SpX) (ta : TE) : TGen := fun σ H Q => ta σ H fun x H1 => ∃ a dx fs, x = .ref a ∧ H1 a = some (.ins C dx fs) ∧ fs.lookup m = none ∧ ∃ xs, sp [.ref a] H1 xs ∧ Q xs H1
theorem pgn_meth0 {C : Addr} {m : Str} {apos pos : Pos} {o : Expr} {ta : TE} {pl : Sem Bool} (he : PE X o ta) (c : Cls X.K C) (hm : Meth X.K C m f) (F : GFx X.prog X.w X.K X.mg X.base k f sp) (hr : Room k X.A)
    (ht : eval (.Call (.Attribute o m apos) [] [] pos) X.env = (do
      let ov ← eval o X.env
      standAt apos.atName
      let (f, first) ← holding [ov] (getMethod ov m pl)
      callWith pos f first (backTo pos (starEach [] X.env)) (backToKw pos (keywordEach [] X.env))) := by rfl) : PGn X (.Call (.Attribute o m apos) [] [] pos) (tMethG C m sp ta) := by
  refine ⟨fun pins s σ H Q I h => ?_⟩
  refine PySem.W.methodCall_KW (pl := pl) (wpAny_gsz (n := s.gens.size) (Nat.le_refl _) (thn (wpAny_mono (he.run pins s σ H _ I h) (fun _ _ z => z) fun _ _ z _ => z) fun u s1 ⟨x, H1, I1, rx, a, dx, fs, ex, ea, l, xs, hsp, q⟩ hn => ?_)) ht
  subst ex
  obtain rfl : u = Value.ref a := rx
  refine getmeth_ok I1 ea c hm l ?_
  exact PySem.W.callWith_K0 (first := [.ref a]) I1.kIn hm.kp (wpAny_call (run_gfx (us := [.ref a]) (vs := [.ref a]) F hr I1 hn (.cons rfl .nil) hsp q))
end
end SgG
end
section
set_option Elab.async false
set_option linter.all false
set_option maxRecDepth 100000
set_option maxHeartbeats 1000000
/-! set(xs) of a list of texts, sorted(such a set). -/
namespace SgT
open PySem PySem.Spec PyProof.Rows L2
abbrev Ent := Int × Value
def txtOf (e : Ent) : Str := match e.2 with | .str z _ => z | _ => Str.empty
def TxtE (w : World) (e : Ent) : Prop := ∃ z u, e.2 = Value.str z u ∧ e.1 = hashStr w z
/-- one more text in a list without doubles -/
def addT (l : List Str) (z : Str) : List Str := if z ∈ l then l else l ++ [z]
def dedT (l : List Str) : List Str := l.foldl addT []
/-- at a: a set of the texts zs -/
def TSet (w : World) (h : Heap) (a : Addr) (zs : List Str) : Prop :=
  ∃ o es ep t, (h.get? a = some o ∧ o.ExactSet ∧ o.data = .set es ep t) ∧ (∀ e ∈ es.toList, TxtE w e) ∧ ((es.toList.map txtOf).Perm zs ∧ zs.Nodup) ∧
    (es.size < scanBound ∧ t.fits es.size = true) ∧ Ris t.place.toList ∧ (w.params.followText "set-order" = true ∨ t.led = true)
section
variable {P : Program} {w : World} {h h' : Heap} {a : Addr} {zs : List Str}
theorem TSet.at (R : TSet w h a zs) (k : ∀ o, h.get? a = some o → h'.get? a = some o) : TSet w h' a zs := by
  obtain ⟨o, es, ep, t, ⟨h1, h2⟩, r⟩ := R
  exact ⟨o, es, ep, t, ⟨k o h1, h2⟩, r⟩
theorem txt_elems {l : List Ent} (g : ∀ e ∈ l, TxtE w e) : ElemsOf (PySem.strKind P w) l := fun e he => by
  obtain ⟨z, u, h1, h2⟩ := g e he
  refine ⟨⟨z, ?_, h2⟩, ?_⟩
  · rw [h1]; exact strKind_is P w z u
  · rw [h1]; rfl
theorem txt_is {e : Ent} (g : TxtE w e) (z : Str) : (PySem.strKind P w).is z e.2 = true ↔ txtOf e = z := by
  obtain ⟨y, u, h1, _⟩ := g
  have h2 : txtOf e = y := by unfold txtOf; rw [h1]
  rw [h1, h2]
  constructor
  · intro q
    obtain ⟨u', e⟩ := Value.isStrOf_shape (x := z) (v := .str y u) q
    injection e
  · rintro rfl
    exact strKind_is P w _ u
theorem txt_mem {l : List Ent} (g : ∀ e ∈ l, TxtE w e) (z : Str) : z ∈ l.map txtOf ↔ ∃ e ∈ l, (PySem.strKind P w).is z e.2 = true :=
  List.mem_map.trans ⟨fun ⟨e, he, q⟩ => ⟨e, he, (txt_is (g e he) z).2 q⟩, fun ⟨e, he, q⟩ => ⟨e, he, (txt_is (g e he) z).1 q⟩⟩
theorem addT_nodup {l : List Str} {z : Str} (h : l.Nodup) : (addT l z).Nodup := by
  unfold addT
  split
  · exact h
  · rename_i hz
    exact List.nodup_append.mpr ⟨h, by simp, fun x hx y hy => by rw [List.mem_singleton.mp hy]; exact fun e => hz (e ▸ hx)⟩
theorem addT_len (l : List Str) (z : Str) : (addT l z).length ≤ l.length + 1 := by
  unfold addT
  split
  · exact Nat.le_succ _
  · simp
theorem mem_addT {l : List Str} {z y : Str} : y ∈ addT l z ↔ y ∈ l ∨ y = z := by
  unfold addT
  split
  · rename_i hz
    exact ⟨.inl, fun h => h.elim id fun e => e ▸ hz⟩
  · simp
theorem fold_nodup : ∀ (xs : List Str) {l : List Str}, l.Nodup → (xs.foldl addT l).Nodup
  | [], _, h => h
  | x :: xs, _, h => fold_nodup xs (addT_nodup h)
theorem fold_mem : ∀ (xs : List Str) {l : List Str} {y : Str}, y ∈ xs.foldl addT l ↔ y ∈ l ∨ y ∈ xs
  | [], l, y => by simp
  | x :: xs, l, y => by
    show y ∈ xs.foldl addT (addT l x) ↔ _
    rw [fold_mem xs, mem_addT, List.mem_cons, or_assoc]
theorem fold_len : ∀ (xs : List Str) {l : List Str}, (xs.foldl addT l).length ≤ l.length + xs.length
  | [], l => Nat.le_refl _
  | x :: xs, l => by
    have h1 := fold_len xs (l := addT l x)
    have h2 := addT_len l x
    show (xs.foldl addT (addT l x)).length ≤ l.length + (xs.length + 1)
    omega
theorem ded_nodup (xs : List Str) : (dedT xs).Nodup := fold_nodup xs List.nodup_nil
theorem ded_mem {xs : List Str} {y : Str} : y ∈ dedT xs ↔ y ∈ xs := by unfold dedT; rw [fold_mem]; simp
theorem ded_len (xs : List Str) : (dedT xs).length ≤ xs.length := by have := fold_len xs (l := []); simpa [dedT] using this
end
section
variable {P : Program} {w : World} {A : Around} {E : Value → Shared → Prop} {s : Shared} {a : Addr} {zs : List Str}
theorem set_at {h : Heap} {o : Obj} {es es' : Array Ent} {ep : Nat} {t t' : SetTable} (ho : h.get? a = some o) (hd : o.data = .set es ep t) :
    (h.update a (Obj.putSet es' t')).get? a = some { o with data := .set es' (ep + 1) t' } := by
  have e := putSet_of es' t' hd
  have q := Heap.get?_update_self (Obj.putSet es' t') ho (by rw [e]; rfl)
  exact e ▸ q
/-- the table is stored, and laid anew where it is too full -/
theorem tset_tail {g : Bool → Sem Unit} (hg : ∀ (b : Bool) (s₁ : Shared) (Q' : Unit → Shared → Prop), Q' () s₁ → wpAny (model P w) A (g b) Q' E s₁) {o : Obj} {es es1 : Array Ent} {ep : Nat} {t t2 : SetTable} {ys : List Str}
    (ho : s.heap.get? a = some o ∧ o.ExactSet ∧ o.data = .set es ep t) (g1 : ∀ e ∈ es1.toList, TxtE w e) (pm1 : (es1.toList.map txtOf).Perm ys ∧ ys.Nodup) (hb1 : es1.size < scanBound) (hf2 : t2.fits es1.size = true) (hr : Ris t2.place.toList)
    (hl : w.params.followText "set-order" = true ∨ t2.led = true) {full : Bool} {R : Option Bool → Shared → Prop}
    (hR : ∀ h', Heap.SameBut a s.heap h' → TSet w h' a ys → R (some true) { s with heap := h' }) :
    wpAny (model P w) A (do
        storeSet a es1 t2
        if full = true then do
            g (relayAll t2 es1 (SetTable.grown es1.size)).2.2
            storeSet a (relayAll t2 es1 (SetTable.grown es1.size)).1 (relayAll t2 es1 (SetTable.grown es1.size)).2.1
            pure (some true)
          else pure (some true)) R E s := by
  obtain ⟨ho, hex, hd⟩ := ho
  refine wpAny_bind (wpAny_storeSet_of ho hd ?_ (fits_of_scanBound hb1))
  have at1 := set_at (es' := es1) (t' := t2) ho hd
  have sb1 := Heap.SameBut.update s.heap a (Obj.putSet es1 t2)
  cases full with
  | false => exact wpAny_pure (hR _ sb1 ⟨_, es1, _, t2, ⟨at1, hex, rfl⟩, g1, pm1, ⟨hb1, hf2⟩, hr, hl⟩)
  | true =>
    have pm := relayAll_perm t2 es1 (SetTable.grown es1.size)
    have f3 := relayAll_fits t2 es1 (SetTable.grown es1.size)
    have r3 := relayAll_ris t2 es1 (SetTable.grown es1.size)
    have l3 := relayAll_led t2 es1 (SetTable.grown es1.size)
    generalize relayAll t2 es1 (SetTable.grown es1.size) = Z at pm f3 r3 l3 ⊢
    obtain ⟨es2, t3, gave⟩ := Z
    dsimp only at pm f3 r3 l3 ⊢
    have sz : es2.size = es1.size := by simpa using pm.length_eq
    have hb2 : es2.size < scanBound := by rw [sz]; exact hb1
    simp only [if_true]
    refine wpAny_bind (hg _ _ _ (wpAny_bind (wpAny_storeSet_of at1 rfl ?_ (fits_of_scanBound hb2))))
    have at2 := set_at (es' := es2) (t' := t3) at1 rfl
    exact wpAny_pure (hR _ (sb1.trans (Heap.SameBut.update _ a _)) ⟨_, es2, _, t3, ⟨at2, hex, rfl⟩, fun e he => g1 e (pm.mem_iff.mp he), ⟨(pm.map txtOf).trans pm1.1, pm1.2⟩, ⟨hb2, f3⟩, r3, hl.imp id fun z => l3.trans z⟩)
theorem tset_add {z : Str} {u : Tok} {Q : Bool → Shared → Prop} (R : TSet w s.heap a zs) (room : zs.length + 1 < scanBound)
    (hQ : ∀ b h', Heap.SameBut a s.heap h' → TSet w h' a (addT zs z) → Q b { s with heap := h' }) :
    wpAny (model P w) A (setAddHashed a (.str z u) ((PySem.strKind P w).hash z)) Q E s := by
  obtain ⟨o, es, ep, t, ⟨ho, hex, hd⟩, g, ⟨pm0, nd⟩, ⟨hb, hf⟩, hr, hl⟩ := R
  have key : (PySem.strKind P w).is z (.str z u) = true := strKind_is P w z u
  have sc : (Value.str z u).scannable = true := rfl
  have hel : ElemsOf (PySem.strKind P w) es.toList := txt_elems g
  have hn : es.size = zs.length := by simpa using pm0.length_eq
  unfold setAddHashed setAddHashedIn
  refine wpAny_holding (wpAny_bind (wpAny_setState_of ho hd hf ?_))
  dsimp only
  rw [byScan_of sc hb hel]
  simp only [↓reduceIte]
  unfold setAddByScan
  refine wpAny_bind (wpAny_bind (wpAny_rule (wpAny_bind (wpAny_setScan_of key ho hd hf hel ?_))))
  cases hfi : List.findIdx? (fun e => (PySem.strKind P w).is z e.2) es.toList with
  | some j =>
    obtain ⟨hj, pj, _⟩ := List.findIdx?_eq_some_iff_getElem.mp hfi
    have hz : z ∈ zs := pm0.mem_iff.mp ((txt_mem (P := P) g z).2 ⟨es.toList[j], List.getElem_mem hj, pj⟩)
    have ea : addT zs z = zs := if_pos hz
    refine wpAny_pure (wpAny_pure (hQ _ s.heap (Heap.SameBut.refl a s.heap) ?_))
    rw [ea]
    exact ⟨o, es, ep, t, ⟨ho, hex, hd⟩, g, ⟨pm0, nd⟩, ⟨hb, hf⟩, hr, hl⟩
  | none =>
    have hz : z ∉ zs := fun q => by
      obtain ⟨e, he, k⟩ := (txt_mem (P := P) g z).1 (pm0.mem_iff.mpr q)
      have c := List.findIdx?_eq_none_iff.mp hfi e he
      rw [k] at c
      cases c
    have ea : addT zs z = zs ++ [z] := if_neg hz
    have gave (b : Bool) (s₁ : Shared) (Q' : Unit → Shared → Prop) (q : Q' () s₁) : wpAny (model P w) A (match b with | true => rule "set.scan.the-table-gave-way" | false => pure ()) Q' E s₁ := by
      cases b <;> first | exact wpAny_pure q | exact wpAny_rule q
    have pm := layNew_perm t es ((PySem.strKind P w).hash z) (.str z u)
    have f1 := layNew_fits t es ((PySem.strKind P w).hash z) (.str z u)
    have r1 := layNew_ris t es ((PySem.strKind P w).hash z) (.str z u) hr
    have l1 := layNew_led t es ((PySem.strKind P w).hash z) (.str z u)
    dsimp only
    generalize layNew t es ((PySem.strKind P w).hash z) (.str z u) = Z at pm f1 r1 l1 ⊢
    obtain ⟨es1, t1, was, gv⟩ := Z
    dsimp only at pm f1 r1 l1 ⊢
    rw [Array.toList_push] at pm
    have pk : (es1.toList.map txtOf).Perm (zs ++ [z]) := by
      have q := pm.map txtOf
      rw [List.map_append] at q
      exact q.trans (pm0.append_right _)
    have g1 : ∀ e ∈ es1.toList, TxtE w e := fun e he => (List.mem_append.mp (pm.mem_iff.mp he)).elim (g e) fun q => by rw [List.mem_singleton.mp q]; exact ⟨z, u, rfl, rfl⟩
    have nd1 : (zs ++ [z]).Nodup := ea ▸ addT_nodup nd
    have sz : es1.size = zs.length + 1 := by simpa using pk.length_eq
    have hb1 : es1.size < scanBound := by rw [sz]; exact room
    have led : w.params.followText "set-order" = true ∨ t1.led = true := hl.imp id fun q => l1.trans q
    rw [ea] at hQ
    refine wpAny_bind (gave _ _ _ ?_)
    split
    · refine wpAny_bind ?_
      rw [hashByValue_scannable 8 sc]
      refine wpAny_pure (tset_tail gave ⟨ho, hex, hd⟩ g1 ⟨pk, nd1⟩ hb1 ?_ ?_ ?_ fun h' sb r => wpAny_pure (hQ _ h' sb r))
      · split
        · exact f1
        · exact SetTable.fits_plain_off f1
      · split <;> exact r1
      · split <;> exact led
    · refine wpAny_bind (wpAny_pure ?_)
      simp only [↓reduceIte]
      exact tset_tail gave ⟨ho, hex, hd⟩ g1 ⟨pk, nd1⟩ hb1 f1 r1 led fun h' sb r => wpAny_pure (hQ _ h' sb r)
end
section
variable {prog : Program} {w : World} {A : Around} {R : Result → Shared → Prop} {I : Addr} {fp wr : List Addr} {G : Array GenState → Array GenState → Prop} {n : Nat} {Pi : Nat → Value → Prop} {St : Nat → Shared → Prop}
/-- set.update's loop over texts -/
theorem tset_loop (W : WalksS prog w A.in1 I fp wr G n Pi St) (S : Addr) (hS : S ∉ fp) (xs : List Str) (hn : xs.length = n) (hv : ∀ i v, Pi i v → ∃ z u, xs[i]? = some z ∧ v = .str z u) (hb : n + 1 < scanBound)
    (fin : ∀ s', Moved (S :: wr) G (s' : Shared) s' → True) :
    ∀ (k i : Nat) (s : Shared) (l : List Str), n - i = k → i ≤ n → l.length ≤ i → St i s → TSet w s.heap S l →
      (∀ s', Moved (S :: wr) G s s' → TSet w s'.heap S ((xs.drop i).foldl addT l) → R (.ok (.ret .none)) s') →
      codeAny (model prog w) A (.builtin "set.update.loop" ⟨[.ref S, .ref I], []⟩) R s := by
  have hSw : S ∉ wr := fun h => hS (W.sub _ h)
  have up : ∀ b ∈ wr, b ∈ S :: wr := fun b hb => List.mem_cons_of_mem _ hb
  intro k
  induction k with
  | zero =>
    intro i s l hk hi hl st hT hR
    obtain rfl : i = n := by omega
    refine codeAny_builtin PyProof.Rows.F.entry_set_update_loop ?_
    rw [Around.under_plainId PyProof.Rows.F.plain_set_update_loop _]
    show wpAny _ A.in1 (pyNext (.ref I) >>= _) _ _ s
    refine wpAny_bind (W.done s _ _ st fun s' hm => ?_)
    have q := hR s' (hm.mono up) (by
      rw [List.drop_of_length_le (Nat.le_of_eq hn)]
      exact hT.at fun o e => hm.heap S o hSw e)
    show wpAny _ A.in1 (ret Value.none) _ _ s'
    exact wpAny_pure q
  | succ k ih =>
    intro i s l hk hi hl st hT hR
    have hlt : i < n := by omega
    refine codeAny_builtin PyProof.Rows.F.entry_set_update_loop ?_
    rw [Around.under_plainId PyProof.Rows.F.plain_set_update_loop _]
    show wpAny _ A.in1 (pyNext (.ref I) >>= _) _ _ s
    refine wpAny_bind (W.item i s _ _ hlt st fun v s' hP st' hm => ?_)
    obtain ⟨z, u, ez, rfl⟩ := hv i v hP
    have hT' : TSet w s'.heap S l := hT.at fun o e => hm.heap S o hSw e
    show wpAny _ A.in1 (holding [Value.str z u] (setAdd S (.str z u)) >>= _) _ _ s'
    unfold setAdd
    refine wpAny_bind (wpAny_holding (wpAny_holding (wpAny_bind ((PySem.strKind prog w).pyHash (k := z) (strKind_is _ _ _ _) ?_))))
    refine tset_add (s := { s' with toks := s'.toks + 1 }) hT' (by omega) fun b h' sb hT2 => ?_
    have hd : xs.drop i = z :: xs.drop (i + 1) := by
      obtain ⟨h1, h2⟩ := List.getElem?_eq_some_iff.mp ez
      rw [List.drop_eq_getElem_cons h1, h2]
    refine wpAny_pure ⟨plainId_quiet PyProof.Rows.F.plain_set_update_loop _, ih (i + 1) _ (addT l z) (by omega) hlt (Nat.le_trans (addT_len l z) (Nat.succ_le_succ hl)) (W.frame _ s' _ _ st' (Nat.le_succ _) fun b hb o e => ?_) hT2 fun s'' m2 hT3 => ?_⟩
    · exact (sb.2 b fun q => hS (q ▸ hb)).trans e
    · refine hR s'' (Moved.trans W.gtrans ((hm.mono up).then_heap (Nat.le_succ _) fun b o hb e => ?_) m2) ?_
      · exact (sb.2 b fun q => hb (by rw [q]; exact List.mem_cons_self)).trans e
      · rw [hd]; exact hT3
end
section
variable {prog : Program} {w : World} {A : Around} {E : Value → Shared → Prop} {s : Shared}
abbrev newSet (w : World) : Obj := { cls := .type "set", dict := none, data := .set #[] 0 (.fresh 0 0 (!w.params.followText "set-order")) }
theorem tset_new {h : Heap} : TSet w (h.push (newSet w)) h.objs.size [] :=
  ⟨newSet w, #[], 0, _, ⟨Heap.get?_push_size _ rfl, ⟨rfl, rfl, rfl⟩, rfl⟩, fun e he => absurd he (by simp), ⟨List.Perm.refl _, List.nodup_nil⟩, ⟨by decide, by rfl⟩, List.Pairwise.nil, by
    show _ ∨ (!w.params.followText "set-order") = true
    cases w.params.followText "set-order" <;> simp⟩
theorem code_set_made (a : Value) {Q₁ : Value → Shared → Prop} (h : Q₁ (.ref s.heap.objs.size) { s with heap := s.heap.push (newSet w) }) : codeAny (model prog w) A (.call (.builtin "set.__new__") ⟨[.type "set", a], []⟩) (wants Q₁ E) s := by
  refine codeAny_of_tree ?_
  show wpAny _ A.in1 (checkBuiltinCall "set.__new__" ⟨[.type "set", a], []⟩ >>= fun _ => again (.builtin "set.__new__" ⟨[.type "set", a], []⟩)) _ _ s
  refine wpAny_bind (wpAny_of_eq (PySem.F.newCall_set_1 a) (wpAny_pure ⟨plainId_quiet PySem.F.plain_set_new _, codeAny_builtin PySem.F.entry_set_new ?_⟩))
  rw [Around.under_plainId PySem.F.plain_set_new _]
  unfold Builtin.«set.__new__» Builtin.Frozenset.newClass
  have hsub := sub_set_self
  obtain ⟨hp, g, d, tk, os⟩ := s
  dsimp only
  wp_walk
  refine wpAny_askSetting (wpAny_pure ?_)
  simp only [newObj]
  exact wpAny_bind (wpAny_alloc (wpAny_pure (wpAny_pure h)))
set_option maxHeartbeats 4000000 in
/-- set(l), l a list of texts -/
theorem call_set_txt {l : Addr} {items : Array Value} {xs : List Str} {Q : Value → Shared → Prop} (hh : A.handled = none) (hl : s.heap.IsList l items) (hi : StrsAre items.toList xs) (hb : xs.length + 1 < scanBound)
    (h : ∀ (h' : Heap) (tk : Nat), TSet w h' s.heap.objs.size (dedT xs) → (∀ b o, s.heap.get? b = some o → h'.get? b = some o) → Q (.ref s.heap.objs.size) { s with heap := h', toks := tk }) :
    wpAny (model prog w) A (call (.type "set") [.ref l]) Q E s := by
  obtain ⟨c, tl, hmro⟩ := PySem.F.called_set.mro
  have hmade := PySem.F.called_set.made
  have hsub := PySem.F.called_set.sub
  refine wpAny_call (codeAny_of_tree ?_)
  show wpAny _ _ (callAny (.type "set") _) _ _ _
  refine wpAny_pure ⟨Code.quiet_builtin _ (by decide +kernel), codeAny_builtin PySem.F.entry_type_call ?_⟩
  rw [Around.under_plain (weight_type_call_type "set" [.ref l] []) rfl]
  have h1 := PySem.F.called_set.notType
  have h2 := PySem.F.called_set.canCreate
  have hct := PySem.F.typeCall_set_1 (.ref l)
  repeat (any_goals (first | assumption | wp_step))
  refine codeAny_mono (code_set_made (.ref l) (E := E) (Q₁ := fun obj s₁ => obj = .ref s.heap.objs.size ∧ s₁ = { s with heap := s.heap.push (newSet w) }) ⟨rfl, rfl⟩) fun r s₁ hr => ?_
  rcases r with e | fl
  · exact hr
  cases fl with
  | ret obj =>
    obtain ⟨rfl, rfl⟩ := hr
    have hS : (s.heap.push (newSet w)).get? s.heap.objs.size = some (newSet w) := Heap.get?_push_size _ rfl
    have hT : Shared.TypeIs { s with heap := s.heap.push (newSet w) } (.ref s.heap.objs.size) "set" := ⟨_, hS, rfl⟩
    have hli := PySem.F.called_set.init.lookup
    have hbi := PySem.F.called_set.init.bind (.ref s.heap.objs.size)
    repeat (any_goals (first | assumption | wp_step))
    refine codeAny_mono (codeAny_call_builtin (R := wants (fun r s₂ => r = .none ∧ ∃ h' tk, s₂ = { s with heap := h', toks := tk } ∧ TSet w h' s.heap.objs.size (dedT xs) ∧ (∀ b o, s.heap.get? b = some o → h'.get? b = some o)) E) PySem.F.called_set.init.plain PySem.F.entry_set_init
      (check_set_init_1 hT ?_)) fun r₂ s₂ hr₂ => ?_
    · obtain ⟨⟨ocl, odi, oda, osl⟩, hol, hcl, nl, hdl⟩ := hl
      simp only at hcl hdl
      subst hcl hdl
      have hol' : (s.heap.push (newSet w)).get? l = some { cls := .type "list", dict := odi, data := .seq items nl, slots := osl } := Heap.get?_push_of_some _ hol
      have hsls := PySem.F.sub_list_set
      have hslf := PySem.F.sub_list_frozenset
      have hne : (Value.type "list" == Value.type "dict") = false := by decide
      have hl1 : (s.heap.push (newSet w)).IsList l items := ⟨_, hol', rfl, nl, rfl⟩
      unfold Builtin.«set.__init__» noKeywords Builtin.Frozenset.updateFrom
      generalize hPI : pyIter = PI
      wp_walk
      subst hPI
      refine wpAny_pyIter_list hl1 (wpAny_bind (wpAny_runValue ?_))
      have hlS : l < s.heap.objs.size := Heap.lt_size hol
      have szI : (s.heap.push (newSet w)).objs.size = s.heap.objs.size + 1 := Heap.size_push _ _
      have hh3 : A.in1.in1.in1.handled = none := by simp [hh]
      have hneI : l ≠ (s.heap.push (newSet w)).objs.size := by rw [szI]; exact Nat.ne_of_lt (Nat.lt_succ_of_lt hlS)
      have hSf : s.heap.objs.size ∉ [(s.heap.push (newSet w)).objs.size, l] := by
        rw [szI]
        intro q
        rcases List.mem_cons.mp q with q | q
        · exact absurd q (Nat.ne_of_lt (Nat.lt_succ_self _))
        · exact absurd (List.mem_singleton.mp q) (Nat.ne_of_gt hlS)
      have hsz : xs.length = items.size := by rw [← StrsAre.len_eq hi, Array.length_toList]
      have hval : ∀ (i : Nat) (v : Value), items[i]? = some v → ∃ z u, xs[i]? = some z ∧ v = .str z u := fun i v hv => by
        obtain ⟨u, e⟩ := SS.strs_at hi i v (by rw [Array.getElem?_toList]; exact hv)
        have hlt : i < xs.length := by rw [hsz]; exact (Array.getElem?_eq_some_iff.mp hv).1
        exact ⟨xs[i], u, List.getElem?_eq_getElem hlt, by rw [e, List.getD_eq_getElem?_getD, List.getElem?_eq_getElem hlt]; rfl⟩
      refine tset_loop ((Walks.list hh3 _ l hneI items).toS) s.heap.objs.size hSf xs hsz hval (by rw [← hsz]; exact hb) (fun _ _ => trivial) (items.size - 0) 0 _ [] (by omega) (Nat.zero_le _) (Nat.le_refl _)
        ⟨⟨_, Heap.get?_push_size _ rfl, rfl, rfl⟩, (hl1.push _)⟩ (tset_new.at fun o e => Heap.get?_push_of_some _ e) fun s' hm hT' => ?_
      obtain ⟨h', g', d', tk', os'⟩ := s'
      obtain rfl : g' = s.gens := hm.gens
      obtain rfl : d' = s.drawn := hm.drawn
      obtain rfl : os' = s.os := hm.os
      show wpAny _ _ (pure ()) _ _ _
      refine wpAny_pure ?_
      show wpAny _ _ (ret Value.none) _ _ _
      refine wpAny_pure ⟨rfl, h', tk', rfl, hT', fun b o e => ?_⟩
      have hb0 := Heap.lt_size e
      refine hm.heap b o (fun q => ?_) (Heap.get?_push_of_some _ (Heap.get?_push_of_some _ e))
      rcases List.mem_cons.mp q with q | q
      · exact absurd q (Nat.ne_of_lt hb0)
      · rw [szI] at q
        exact absurd (List.mem_singleton.mp q) (Nat.ne_of_lt (Nat.lt_succ_of_lt hb0))
    · rcases r₂ with e | fl₂
      · exact hr₂
      cases fl₂ with
      | ret r =>
        obtain ⟨rfl, h', tk, rfl, hT', hk'⟩ := hr₂
        repeat (any_goals (first | assumption | wp_step))
        exact h _ _ hT' hk'
      | _ => exact hr₂.elim
  | _ => exact hr.elim
end
end SgT
end
section
set_option Elab.async false
set_option linter.all false
set_option maxRecDepth 100000
set_option maxHeartbeats 1000000
namespace SgT
open PySem PySem.Spec PyProof.Rows L2
section
variable {P : Program} {w : World} {A : Around} {E : Value → Shared → Prop} {s : Shared} {a : Addr} {zs : List Str}
theorem strs_of_ents : ∀ {l : List Ent}, (∀ e ∈ l, TxtE w e) → StrsAre (l.map (·.2)) (l.map txtOf)
  | [], _ => .nil
  | e :: l, g => by
    obtain ⟨z, u, h1, _⟩ := g e List.mem_cons_self
    have h2 : txtOf e = z := by unfold txtOf; rw [h1]
    show StrsAre (e.2 :: l.map (·.2)) (txtOf e :: l.map txtOf)
    rw [h1, h2]
    exact .cons z u (strs_of_ents fun x hx => g x (List.mem_cons_of_mem _ hx))
theorem strs_perm {us vs : List Value} (pm : vs.Perm us) : ∀ {xs : List Str}, StrsAre us xs → ∃ ys, StrsAre vs ys ∧ ys.Perm xs := by
  induction pm with
  | nil => exact fun h => ⟨_, h, List.Perm.refl _⟩
  | cons v _ ih =>
    intro xs h
    cases h with
    | cons z u t =>
      obtain ⟨ys, h1, h2⟩ := ih t
      exact ⟨_, .cons z u h1, h2.cons z⟩
  | swap x y l =>
    intro xs h
    cases h with
    | cons z u t =>
      cases t with
      | cons z' u' t' => exact ⟨_, .cons z' u' (.cons z u t'), List.Perm.swap z z' _⟩
  | trans _ _ ih1 ih2 =>
    intro xs h
    obtain ⟨ys, h1, h2⟩ := ih2 h
    obtain ⟨ws, h3, h4⟩ := ih1 h1
    exact ⟨ws, h3, h4.trans h2⟩
/-- sorted(a), a a set of texts -/
theorem sorted_tset {Q : Value → Shared → Prop} (R : TSet w s.heap a zs) (hh : A.handled = none) (h64 : zs.length < 64)
    (hQ : ∀ s' p (out : Array Value) (c : Nat) (ys : List Str), (∀ b o, s.heap.get? b = some o → s'.heap.get? b = some o) → s'.gens = s.gens → s'.os = s.os → s.heap.objs.size ≤ p →
      s'.heap.get? p = some (seqObj "list" out c) → StrsAre out.toList ys → ys.Perm zs → sortedS ys = true → Q (.ref p) s') :
    wpAny (model P w) A (call (.builtin "sorted") [.ref a]) Q E s := by
  obtain ⟨o, es, ep, t, ⟨ho, hex, hd⟩, g, ⟨pm0, nd⟩, ⟨hb, hf⟩, hr, hl⟩ := R
  refine Calls.call_function_entry kind_sorted plain_sorted entry_sorted (args_sorted1 _) ?_
  unfold Builtin.«sorted»
  refine wpAny_bind (m := checkCount "sorted" 1 1 _) (wpAny_pure (wpAny_bind (collect_set (A := A.in1) hh ⟨o, ho, hex.1, hd⟩ hf hb hr hl fun s1 vs k1 hz g1 o1 pm => ?_)))
  obtain ⟨xs, hS, px⟩ := strs_perm pm (strs_of_ents g)
  have hlen : vs.length = xs.length := hS.length
  have hxz : xs.length = zs.length := (px.trans pm0).length_eq
  have h6 : vs.length < 64 := by omega
  refine wpAny_bind (wpAny_newList ?_ (by rw [sizeLine_eq]; omega))
  have hoL : (s1.heap.push (seqObj "list" vs.toArray 0)).get? s1.heap.objs.size = some (seqObj "list" vs.toArray 0) := Heap.get?_push_size _ rfl
  refine wpAny_bind (wpAny_holding (wpAny_call_entry slot_list_sort ⟨_, hoL, rfl⟩ entry_list_sort (list_sort_treeK strKind_oneLt hoL hS.keysOf (fun v₁ v₂ rest e => keyKind_strs (by rw [← e]; exact hS)) h6 fun st' hp hs => ⟨_, rfl, ?_⟩) (args_list_sort _)))
  obtain ⟨ys, h1, h2, h3⟩ := sorted_out_str hS hp hs
  obtain ⟨c, hc⟩ := sortedHeap_at (vs := vs) (out := (arrOf st').map (·.2)) hoL
  refine wpAny_pure ⟨_, rfl, hQ _ s1.heap.objs.size _ c ys (fun b u e => ?_) g1 o1 hz hc h1 (h2.trans (px.trans pm0)) h3⟩
  have q := k1 b u e
  have lt := Heap.lt_size q
  exact (sortedHeap_old (Nat.ne_of_lt lt) (by rw [size_push']; exact Nat.lt_succ_of_lt lt)).trans (Heap.get?_push_of_some _ q)
end
/-- the set of the texts zs, at a -/
def TS (w : World) (a : Addr) (zs : List Str) : HO := .ext fun h => TSet w h a zs
section
variable {X : Cx}
theorem ts_new {w : World} {P : Program} {H : Hp} {h : Heap} {a : Addr} {zs : List Str} (R : TSet w h a zs) : ObjOk P w H h a (TS w a zs) := by
  obtain ⟨o, _, _, _, ⟨ho, _⟩, _⟩ := id R
  exact ⟨R, ⟨o, ho⟩, fun h1 h2 p k => p.at k⟩
/-- set(xs), xs a list of texts -/
theorem cr_setT (hc : X.calm = true) : CallR X (.type "set") (fun vs H Q => ∃ (a : Addr) (xs : List Str), vs = [V.ref a] ∧ SqL X.K H a (xs.map V.str) ∧ xs.length < 1000 ∧ ∀ p, H p = none → Q (.ref p) (upd H p (TS X.w p (dedT xs)))) := by
  intro pins s σ H vs us Q I r h
  obtain ⟨a, xs, rfl, hs, hn, q⟩ := h
  obtain ⟨its, rv, hl, _⟩ := I.list hs
  rw [Vals.ref1 r]
  refine call_set_txt (I.ok.hd hc) hl.isList (by simpa using rv.strs) (by unfold scanBound; omega) fun h' tk hT k => ?_
  exact ⟨.ref _, _, I.laid k (Nat.le_refl _) (ts_new hT), rfl, q _ (I.hok.fresh (Nat.le_refl _))⟩
/-- sorted of such a set -/
theorem cr_sortedT (hc : X.calm = true) : CallR X (.builtin "sorted") (fun vs H Q => ∃ (a : Addr) (zs : List Str), vs = [V.ref a] ∧ H a = some (TS X.w a zs) ∧ zs.length < 64 ∧
    ∀ (ys : List Str) (p : Addr), ys.Perm zs → sortedS ys = true → H p = none → Q (.ref p) (upd H p (.lst (ys.map V.str)))) := by
  intro pins s σ H vs us Q I r h
  obtain ⟨a, zs, rfl, ha, h64, q⟩ := h
  have R : TSet X.w s.heap a zs := (I.hok a _ ha).1
  rw [Vals.ref1 r]
  refine sorted_tset R (I.ok.hd hc) h64 fun s' p out c ys k g o hp hg hi pm hs => ?_
  have hlen : (ys.map V.str).length ≤ sizeLine := by rw [List.length_map, pm.length_eq, sizeLine_eq]; omega
  have hn : H p = none := I.hok.fresh hp
  have J : Inv X pins σ (upd H p (.lst (ys.map V.str))) { s with heap := s'.heap, gens := s'.gens, drawn := s'.drawn, toks := s'.toks } :=
    I.call (ch := []) (Un.laid k hp hn) (I.hok.laid k hp ⟨hlen, out.toList, c, vals_of_strs hi, hg⟩) (by rw [g]; exact I.bare) fun _ z => nomatch z
  have e : s' = { s with heap := s'.heap, gens := s'.gens, drawn := s'.drawn, toks := s'.toks } := by
    cases s'
    cases s
    cases o
    rfl
  rw [e]
  exact ⟨.ref p, _, J, rfl, q ys p pm hs hn⟩
end
end SgT
end
section
set_option Elab.async false
set_option linter.all false
set_option maxRecDepth 100000
set_option maxHeartbeats 1000000
/-! enumerate(t), t a tuple. -/
namespace PySem
theorem sg_meets_enum {v : Value} {o : Obj} {H : Heap → Prop} (B : Begins v o H) :
    Meets (Builtin.«enumerate.__new__» ⟨[.type "enumerate", v], []⟩) (fun _ R s => H s.heap ∧
      R (.ok (.ret (.ref (s.heap.push o).objs.size))) { s with heap := (s.heap.push o).push { cls := .type "enumerate", data := .fields #[.none, .bool false, .ref s.heap.objs.size, rawInt 0, .none, .none] } }) :=
  .of_wp fun prog w A R s h => by
    obtain ⟨hp, g, d, tk, os⟩ := s
    obtain ⟨h1, h2⟩ := h
    have hsub := sub_enumerate
    have it1 : ∀ {A' : Around} {E : Value → Shared → Prop} {Q : Value → Shared → Prop}, Q (.ref hp.objs.size) ⟨hp.push o, g, d, tk, os⟩ → wpAny (model prog w) A' (pyIter v) Q E ⟨hp, g, d, tk, os⟩ :=
      fun q => B.iter prog w _ _ ⟨hp, g, d, tk, os⟩ _ h1 q
    wp_walk using it1
    refine wpAny_stack_any fun st => wpAny_pure ?_
    split
    · rename_i c _ _ _ _ _
      cases (c == Value.type "enumerate") <;>
      · wp_walk using it1
        exact ⟨_, rfl, h2⟩
    · wp_walk using it1
      exact ⟨_, rfl, h2⟩
section
variable {prog : Program} {w : World} {A : Around} {E : Value → Shared → Prop} {s : Shared}
theorem sg_call_enum {v : Value} {o : Obj} {H : Heap → Prop} {Q : Value → Shared → Prop} (B : Begins v o H) (h1 : H s.heap)
    (h : ∀ h', IsEnum h' (s.heap.objs.size + 1) s.heap.objs.size 0 .none → h'.get? s.heap.objs.size = some o → (∀ b o, s.heap.get? b = some o → h'.get? b = some o) → Q (.ref (s.heap.objs.size + 1)) { s with heap := h' }) :
    wpAny (model prog w) A (call (.type "enumerate") [v]) Q E s := by
  refine callType_new F.called_enumerate (by decide) (F.typeCall_enumerate_1 _) (F.newCall_enumerate_1 _) (fun obj => F.args_object_init_2 obj _) F.entry_enumerate_new (sg_meets_enum B) ⟨h1, ?_⟩
  have hz : (s.heap.push o).objs.size = s.heap.objs.size + 1 := Heap.size_push ..
  show _ ∧ _
  rw [hz]
  have he := Heap.get?_push_size (s.heap.push o) (o := { cls := .type "enumerate", data := .fields #[.none, .bool false, .ref s.heap.objs.size, rawInt 0, .none, .none] }) rfl
  rw [hz] at he
  exact ⟨⟨_, he, rfl⟩, h _ he (Heap.get?_push_of_some _ (Heap.get?_push_size _ B.free)) fun b o x => Heap.get?_push_of_some _ (Heap.get?_push_of_some _ x)⟩
end
end PySem
namespace SgE
open PySem PySem.Spec PyProof.Rows L2
/-- the pairs of enumerate over the tuple at a, each a new tuple -/
def IteT (K : PySem.W.Frag) (a : Addr) : It :=
  ⟨fun i H => ∃ (xs : List V) (x : V), SqT K H a xs ∧ xs[i]? = some x, fun i H v H' => ∃ T x, v = .ref T ∧ H T = none ∧ H' = upd H T (.tup [.int (i : Nat), x]) ∧ ∀ xs, SqT K H a xs → xs[i]? = some x, fun i H => ∃ xs : List V, SqT K H a xs ∧ xs.length ≤ i⟩
theorem atEnd {prog : Program} {w : World} {A : Around} (hh : A.handled = none) (it t : Addr) (items : Array Value) (n : Nat) (hn : items[n]? = none) :
    Draws prog w A it [it, t] n (fun _ _ => True) (fun i h => i = n ∧ h.IsTupleIter it t n ∧ h.IsTuple t items) where
  live := fun _ _ st => let ⟨o, ho, _⟩ := st.2.1; ⟨o, ho⟩
  frame := fun _ _ _ st hk => ⟨st.1, st.2.1.at fun o e => hk it (by simp) o e, st.2.2.at fun o e => hk t (by simp) o e⟩
  item := fun i s Q E hi st hQ => absurd hi (by rw [st.1]; exact Nat.lt_irrefl _)
  done := fun s Q E st hE => wpAny_nextOf_tuple_end hh st.2.1 st.2.2 hn hE
theorem turn_enumT {P : Program} {w : World} {K : PySem.W.Frag} {elts : List Expr} {kk : Nat} {tpos : Pos} (a e it : Addr) :
    Turn P w K (.Tuple elts kk tpos) (IteT K a) [e, it] e (fun i h => (∃ old, IsEnum h e it ((i : Nat) : Int) old) ∧ h.IsTupleIter it a i ∧ e ≠ it) where
  mem := by simp
  obj := fun i h st b hb => by
    obtain ⟨⟨old, he⟩, ⟨o, ho, hc, hd⟩, _⟩ := st
    rcases List.mem_cons.mp hb with rfl | hb
    · exact ⟨_, he, fun v q => nomatch q⟩
    · rw [List.mem_singleton.mp hb]
      exact ⟨o, ho, fun v q => by rw [hd] at q; cases q⟩
  keep := fun i h h' st k => let ⟨⟨old, he⟩, hi, hne⟩ := st; ⟨⟨old, k e (by simp) _ he⟩, hi.at fun o q => k it (by simp) o q, hne⟩
  item := by
    intro X hP hw hK hc i pins s σ H E I hf st hg
    subst hP hw hK
    obtain ⟨⟨old, he⟩, hit, hne⟩ := st
    obtain ⟨xs, x, hq, hx⟩ := hg
    obtain ⟨its, rv, p, hz⟩ := I.tuple hq
    obtain ⟨u, hu, ru⟩ := rv.get hx
    have hel : e < s.heap.objs.size := Heap.lt_size he
    have hil : it < s.heap.objs.size := by obtain ⟨_, q, _⟩ := hit; exact Heap.lt_size q
    have nea : a ≠ it := fun z => by
      obtain ⟨o, ho, hc1, _⟩ := hit
      obtain ⟨o2, ho2, hc2, _⟩ := (show s.heap.IsTuple a its.toArray from p)
      rw [z, ho] at ho2
      cases ho2
      rw [hc1] at hc2
      injection hc2 with q
      exact absurd q (by decide)
    have eaf : e ∉ [it, a] := fun z => by
      rcases List.mem_cons.mp z with z | z
      · exact hne z
      · obtain ⟨o2, ho2, hc2, _⟩ := (show s.heap.IsTuple a its.toArray from p)
        rw [← List.mem_singleton.mp z, (show s.heap.get? e = some _ from he)] at ho2
        cases ho2
        injection (show Value.type "enumerate" = Value.type "tuple" from hc2) with q
        exact absurd q (by decide)
    have lt : i < its.toArray.size := by
      have := (List.getElem?_eq_some_iff.mp hu).1
      simpa using this
    refine wpAny_pyNext_enum_itemD (Draws.tuple (prog := X.prog) (w := X.w) (A := X.A.in1) (I.ok.hd hc) it a nea its.toArray) he ⟨hit, p⟩ lt hne eaf fun y h' tk hP ho hs' hT hsz hk => ?_
    have ey : y = u := by
      have h1 : its.toArray[i]? = some y := hP
      have h2 : its.toArray[i]? = some u := by simpa using hu
      rw [h1] at h2
      exact Option.some.inj h2
    subst ey
    refine ⟨_, rfl, wpAny_letOwnedTupleGo_enum (s := { s with heap := h', toks := tk + 1 }) ho fun h'' he' sb => ?_⟩
    have hT2 : h''.get? s.heap.objs.size = some { cls := .type "tuple", data := .seq #[.int i tk, y] } := (sb.2 _ (Nat.ne_of_gt hel)).trans hT
    have new : ObjOk X.prog X.w (upd H s.heap.objs.size (.tup [.int (i : Nat), x])) h'' s.heap.objs.size (.tup [.int (i : Nat), x]) :=
      ⟨by show 2 ≤ sizeLine; decide, [.int i tk, y], .cons ⟨_, rfl⟩ (.cons ru .nil), ⟨_, hT2, rfl, _, rfl⟩⟩
    have I1 : Inv X pins σ (upd H s.heap.objs.size (.tup [.int (i : Nat), x])) { s with heap := h'', toks := tk + 1 } :=
      I.turnedNew (ch := [e, it]) (fun b ob hb q => (sb.2 b (fun z => hb (by simp [z]))).trans (hk b ob (fun z => hb (by simp [z])) (fun z => hb (by simp [z])) q)) hf (Nat.le_refl _) new
    refine ⟨.ref s.heap.objs.size, _, I1, rfl, ⟨_, x, rfl, I.hok.fresh (Nat.le_refl _), rfl, fun ys hy => by rw [I.tuple_inj hy hq]; exact hx⟩, ⟨⟨y, ?_⟩, hs'.1.at fun o q => (sb.2 it (Ne.symm hne)).trans q, hne⟩, fun b hb => ?_⟩
    · have e1 : ((i + 1 : Nat) : Int) = (i : Int) + 1 := by omega
      rw [e1]
      exact he'
    · have hb' : b < s.heap.objs.size := by
        rcases List.mem_cons.mp hb with rfl | hb
        · exact hel
        · rw [List.mem_singleton.mp hb]; exact hil
      rw [upd_ne (Nat.ne_of_lt hb')]
      exact (hf b hb).1
  done := by
    intro X hP hw hK hc i pins s σ H E I hf st hg
    subst hP hw hK
    obtain ⟨⟨old, he⟩, hit, hne⟩ := st
    obtain ⟨xs, hq, hx⟩ := hg
    obtain ⟨its, rv, p, hz⟩ := I.tuple hq
    obtain ⟨f0, f1, f2, f3, f4, f5⟩ := hf it (by simp)
    have hl := rv.length
    exact wpAny_pyNext_enum_endD (atEnd (prog := X.prog) (w := X.w) (A := X.A.in1) (I.ok.hd hc) it a its.toArray i (by simp; omega)) he ⟨rfl, hit, p⟩ fun h' eb => ⟨rfl, I.turned (t' := s.toks) (fun b o hb q => eb b o hb q) f0 f1 f3 f4 f5⟩
  self := fun A i s Q E st h => let ⟨⟨_, he⟩, _⟩ := st; wpAny_pyIter_enum he h
def iEnumT (K : PySem.W.Frag) (ta : TA) : TI := fun σ H R => ta σ H fun vs H1 => ∃ a xs, vs = [.ref a] ∧ SqT K H1 a xs ∧ R (IteT K a) H1
theorem pi_enumT {X : Cx} {e : Expr} {ta : TA} {p pos tpos : Pos} {elts : List Expr} {kk : Nat} (hg : Gl X "enumerate") (hm : X.mg "enumerate" = none) (ha : PA X [e] ta) (hs : starEach [e] X.env = [(false, eval e X.env)] := by rfl) :
    PI X (.Tuple elts kk tpos) (.Call (.Name "enumerate" p) [e] [] pos) (iEnumT X.K ta) := by
  refine ⟨fun pins s σ H R I h => ?_⟩
  refine Call_ (ld_blt I hg hm boot_enumerate (PyProof.Rows.callWith_type1 (thn (ha.run pos pins s σ H _ I h) fun us s1 ⟨vs, H1, I1, r1, a, xs, ex, hq, q⟩ => ?_) hs rfl))
  subst ex
  rw [Vals.ref1 r1]
  obtain ⟨its, rv, p', hz⟩ := I1.tuple hq
  refine sg_call_enum (begins_tuple a its.toArray) p' fun h' he hit hk => wpAny_pyIter_enum he ?_
  have I2 : Inv X pins σ H1 { s1 with heap := h' } := I1.kept (t' := s1.toks) hk
  refine ⟨s1.heap.objs.size + 1, [s1.heap.objs.size + 1, s1.heap.objs.size], _, _, H1, rfl, I2, turn_enumT a (s1.heap.objs.size + 1) s1.heap.objs.size, ⟨⟨.none, he⟩, ⟨_, hit, rfl, rfl⟩, Nat.succ_ne_self _⟩, fun b hb => ?_, q⟩
  have hle : s1.heap.objs.size ≤ b := by
    rcases List.mem_cons.mp hb with rfl | hb
    · exact Nat.le_add_right _ _
    · rw [List.mem_singleton.mp hb]; exact Nat.le_refl _
  exact I1.fpOk hle (I1.hok.fresh hle)
end SgE
end
section
set_option Elab.async false
set_option linter.all false
set_option maxRecDepth 100000
set_option maxHeartbeats 1000000
/-! {k: v for t0 in i0 for t1 in i1}. -/
namespace SgD
open PySem PySem.Spec PyProof.Rows L2
/-- such a comprehension -/
abbrev twoFor (kx vx t0 i0 t1 i1 : Expr) (scope : Scope) (pos : Pos) : Expr := .DictComp kx vx [⟨t0, i0, [], 0⟩, ⟨t1, i1, [], 0⟩] scope pos
section
variable {kx vx t0 i0 t1 i1 : Expr} {scope : Scope} {pos : Pos} {it : Value} {D : Addr} {env : Env}
theorem outer_eq : compTurn (twoFor kx vx t0 i0 t1 i1 scope pos) 0 it (.ref D) env = (do
      standAt i0.pos
      match ← pyNext it with
      | none => pure (.done .next)
      | some v =>
        letOwnedTupleGo t0 it v
        assign t0 env v
        let x ← eval i1 env
        standAt i1.pos
        let x ← foldedSetIterable i1 env x
        let _ ← runOwn (.compStart (twoFor kx vx t0 i0 t1 i1 scope pos) 1 (← holding [x] (pyIter x)) (.ref D) env) env
        again (.compLoop (twoFor kx vx t0 i0 t1 i1 scope pos) 0 it (.ref D) env)) := by rfl
theorem inner_eq : compTurn (twoFor kx vx t0 i0 t1 i1 scope pos) 1 it (.ref D) env = (do
      standAt i1.pos
      match ← pyNext it with
      | none => pure (.done .next)
      | some v =>
        letOwnedTupleGo t1 it v
        assign t1 env v
        (do
          let kv ← eval kx env
          let vv ← holding [kv] (eval vx env)
          standAt { kx.pos with endLine := vx.pos.endLine, endCol := vx.pos.endCol }
          holding [kv, vv] (dictSet D kv vv))
        again (.compLoop (twoFor kx vx t0 i0 t1 i1 scope pos) 1 it (.ref D) env)) := by rfl
variable {prog : Program} {w : World} {A : Around} {R : Result → Shared → Prop} {s : Shared}
abbrev NoX : Value → Shared → Prop := fun _ _ => False
theorem loop_out (hs : ∀ x, foldedSetIterable i1 env x = pure x) (I : Nat → Shared → Prop)
    (turn : ∀ n s, I n s → wpAny (model prog w) A (pyNext it) (fun r s₁ => match r with
      | none => R (.ok .next) s₁
      | some v => wpAny (model prog w) A (letOwnedTupleGo t0 it v) (fun _ s₂ => wpAny (model prog w) A (assign t0 env v) (fun _ s₃ => wpAny (model prog w) A (eval i1 env) (fun x s₄ => wpAny (model prog w) A (pyIter x) (fun it1 s₅ =>
          codeAny (model prog w) A (.compStart (twoFor kx vx t0 i0 t1 i1 scope pos) 1 it1 (.ref D) env) (fun r s' => (∃ f, r = .ok f) ∧ ∃ m, m < n ∧ I m s') s₅) NoX s₄) NoX s₃) NoX s₂) NoX s₁) NoX s)
    (n : Nat) (h : I n s) : codeAny (model prog w) A (.compLoop (twoFor kx vx t0 i0 t1 i1 scope pos) 0 it (.ref D) env) R s := by
  refine codeAny_loop rfl I (fun n s hI => ?_) n h
  show wpAny _ A ((compTurn (twoFor kx vx t0 i0 t1 i1 scope pos) 0 it (.ref D) env).onRaise (fun x => do noteFrame x env; theTreesLotGoes x)) _ _ s
  refine wpAny_noted ?_
  rw [outer_eq]
  have no : ∀ {E' : Value → Shared → Prop} e s', NoX e s' → E' e s' := fun _ _ z => z.elim
  refine wpAny_bind (wpAny_standAt (wpAny_bind (wpAny_mono (turn n s hI) (fun r s₁ h₁ => ?_) no)))
  cases r with
  | none => exact wpAny_pure h₁
  | some v =>
    refine wpAny_bind (wpAny_mono h₁ (fun _ s₂ h₂ => wpAny_bind (wpAny_mono h₂ (fun _ s₃ h₃ => wpAny_bind (wpAny_mono h₃ (fun x s₄ h₄ => ?_) no)) no)) no)
    refine wpAny_bind (wpAny_standAt (wpAny_bind (wpAny_of_eq (hs x) (wpAny_bind (wpAny_holding (wpAny_mono h₄ (fun it1 s₅ h₅ => wpAny_bind (wpAny_runOwn ?_)) no))))))
    rw [Around.mark_none]
    refine codeAny_mono h₅ fun r s' hr => ?_
    obtain ⟨⟨f, rfl⟩, hr⟩ := hr
    exact wpAny_pure ⟨rfl, hr⟩
theorem loop_in (I : Nat → Shared → Prop)
    (turn : ∀ n s, I n s → wpAny (model prog w) A (pyNext it) (fun r s₁ => match r with
      | none => R (.ok .next) s₁
      | some v => wpAny (model prog w) A (letOwnedTupleGo t1 it v) (fun _ s₂ => wpAny (model prog w) A (assign t1 env v) (fun _ s₃ => wpAny (model prog w) A (eval kx env) (fun kv s₄ => wpAny (model prog w) A (eval vx env) (fun vv s₅ =>
          wpAny (model prog w) A (dictSet D kv vv) (fun _ s' => ∃ m, m < n ∧ I m s') NoX s₅) NoX s₄) NoX s₃) NoX s₂) NoX s₁) NoX s)
    (n : Nat) (h : I n s) : codeAny (model prog w) A (.compLoop (twoFor kx vx t0 i0 t1 i1 scope pos) 1 it (.ref D) env) R s := by
  refine codeAny_loop rfl I (fun n s hI => ?_) n h
  show wpAny _ A ((compTurn (twoFor kx vx t0 i0 t1 i1 scope pos) 1 it (.ref D) env).onRaise (fun x => do noteFrame x env; theTreesLotGoes x)) _ _ s
  refine wpAny_noted ?_
  rw [inner_eq]
  have no : ∀ {E' : Value → Shared → Prop} e s', NoX e s' → E' e s' := fun _ _ z => z.elim
  refine wpAny_bind (wpAny_standAt (wpAny_bind (wpAny_mono (turn n s hI) (fun r s₁ h₁ => ?_) no)))
  cases r with
  | none => exact wpAny_pure h₁
  | some v =>
    refine wpAny_bind (wpAny_mono h₁ (fun _ s₂ h₂ => wpAny_bind (wpAny_mono h₂ (fun _ s₃ h₃ => wpAny_bind (wpAny_bind (wpAny_mono h₃ (fun kv s₄ h₄ => ?_) no))) no)) no)
    exact wpAny_bind (wpAny_holding (wpAny_mono h₄ (fun vv s₅ h₅ => wpAny_bind (wpAny_standAt (wpAny_holding (wpAny_mono h₅ (fun _ s₆ h₆ => wpAny_pure ⟨rfl, h₆⟩) no)))) no))
theorem start_in (h : wpAny (model prog w) A (pyIter it) (fun it' s' => codeAny (model prog w) A (.compLoop (twoFor kx vx t0 i0 t1 i1 scope pos) 1 it' (.ref D) env) R s') NoX s)
    (h0 : codeAny (model prog w) A (.compLoop (twoFor kx vx t0 i0 t1 i1 scope pos) 1 it (.ref D) env) R s) : codeAny (model prog w) A (.compStart (twoFor kx vx t0 i0 t1 i1 scope pos) 1 it (.ref D) env) R s := by
  refine codeAny_of_tree ?_
  show wpAny _ _ ((compStart (twoFor kx vx t0 i0 t1 i1 scope pos) 1 it (.ref D) env).onRaise (fun x => do noteFrame x env; standAt theWindowsPlace)) _ _ s
  refine wpAny_notedAt ?_
  unfold compStart
  refine (wpAny_bind (m := ask) (wpAny_askSetting (wpAny_ite ?_)))
  split
  · first
      | exact wpAny_bind (wpAny_pure (wpAny_pure (And.intro rfl h0)))
      | exact wpAny_pure (And.intro rfl h0)
  · refine wpAny_bind (wpAny_rule ?_)
    show wpAny _ _ (standAt i1.pos >>= _) _ _ s
    exact wpAny_bind (wpAny_standAt (wpAny_bind (wpAny_mono h (fun it' s' h' => wpAny_pure (And.intro rfl h')) fun _ _ x => x.elim)))
end
/-- one item is drawn and stored -/
theorem draw {Y : Cx} {pins : List (Addr × Obj)} {σ : L2.St} {H : Hp} {s : Shared} {tg : Expr} {J : It} {fp : List Addr} {it : Addr} {tn : Nat → Heap → Prop} {i : Nat} {g : TG} {C : L2.St → Hp → Prop} {Q : Option Value → Shared → Prop} {K : Value → Unit → Shared → Prop}
    (hc : Y.calm = true) (T : Turn Y.prog Y.w Y.K tg J fp it tn) (I : Inv Y pins σ H s) (st : tn i s.heap) (stat : ∀ H', (∀ b ∈ fp, H' b = none) → ∀ b ∈ fp, FpOk Y pins H' b) (n0 : ∀ b ∈ fp, H b = none) (go : J.go i H) (pg : PG Y tg g) (hx : Y.xe = NoX)
    (step : ∀ x H', J.yld i H x H' → g x σ H' C)
    (then_ : ∀ v σ2 H2 s2 hp, Inv Y (pins ++ pinsAt fp hp) σ2 H2 s2 → C σ2 H2 → (∀ {σ3 : L2.St} {H3 : Hp} {s3 : Shared}, Inv Y (pins ++ pinsAt fp hp) σ3 H3 s3 → tn (i + 1) s3.heap ∧ ∀ b ∈ fp, H3 b = none) → K v () s2)
    (hQ : ∀ v s1, wpAny (model Y.prog Y.w) Y.A (letOwnedTupleGo tg (.ref it) v) (fun _ s2 => wpAny (model Y.prog Y.w) Y.A (assign tg Y.env v) (K v) NoX s2) NoX s1 → Q (some v) s1) :
    wpAny (model Y.prog Y.w) Y.A (pyNext (.ref it)) Q NoX s := by
  refine thn (T.item Y rfl rfl rfl hc i pins s σ H NoX I (stat H n0) st go) fun r s1 ⟨u, hr, h1⟩ => ?_
  subst hr
  refine hQ u s1 (thn h1 fun _ s2 ⟨x, H2, I2, r2, y2, st2, n2⟩ => ?_)
  have I3 := I2.pinned (stat H2 n2) (T.obj _ _ st2)
  have q := pg.run _ s2 σ H2 x u _ I3 r2 (step x H2 y2)
  rw [hx] at q
  refine thn q fun _ s4 ⟨σ4, H4, I4, c4⟩ => ?_
  refine then_ u σ4 H4 s4 s2.heap I4 c4 fun {σ5 H5 s5} I5 => ?_
  have still : ∀ b ∈ fp, ∀ o, s2.heap.get? b = some o → s5.heap.get? b = some o ∧ H5 b = none := fun b hb o e =>
    let z := I5.pin (b, o) (List.mem_append_right _ (List.mem_append_right _ (mem_pinsAt hb e)))
    ⟨z.1, z.2.1⟩
  refine ⟨T.keep _ _ _ st2 fun b hb o e => (still b hb o e).1, fun b hb => ?_⟩
  obtain ⟨o, e, _⟩ := T.obj _ _ st2 b hb
  exact (still b hb o e).2
def tDc2 (wi : TI) (g : TG) (wi1 : TI) (g1 : TG) (tk tv : TE) (vs vs1 : List Nat) : TE := fun σ H Q => wi σ H fun J H1 => ∀ D, H1 D = none → ∃ W : Nat → Nat → Hp → Prop, (∃ m, W 0 m (upd H1 D (.dK []))) ∧ ∀ i m H, W i m H →
  (J.stop i H ∧ Q (.ref D) H) ∨ (J.go i H ∧ ∃ Nx : Hp → Prop, (∀ H', Nx H' → ∃ m', m' < m ∧ W (i + 1) m' H') ∧ ∀ x H', J.yld i H x H' → g x (wipe σ vs) H' fun σ2 H2 => wipe σ2 vs = wipe σ vs ∧
    wi1 σ2 H2 fun J1 H4 => ∃ W1 : Nat → Nat → Hp → Prop, (∃ m, W1 0 m H4) ∧ ∀ j k H, W1 j k H →
      (J1.stop j H ∧ Nx H) ∨ (J1.go j H ∧ ∃ Nx1 : Hp → Prop, (∀ H', Nx1 H' → ∃ k', k' < k ∧ W1 (j + 1) k' H') ∧ ∀ x H', J1.yld j H x H' → g1 x (wipe σ2 vs1) H' fun σ3 H5 => wipe σ3 vs1 = wipe σ2 vs1 ∧
        tk σ3 H5 fun y H6 => tv σ3 H6 fun z H7 => ∃ kvs k, y = kV k ∧ H7 D = some (.dK kvs) ∧ kvs.length < sizeLine ∧ Nx1 (upd H7 D (.dK (putK kvs k z)))))
section
variable {X : Cx} {kx vx tg iter tg1 iter1 : Expr} {scope : Scope} {own : List (Str × Nat)} {vs1 : List Nat} {pos : Pos} {wi wi1 : TI} {g g1 : TG} {tk tv : TE}
theorem pe_dc2 (hc : X.calm = true) (hN : X.N.Nodup) (hi : PI X tg iter wi) (ok : BlkOk X.N X.env.scope scope own) (hv : ∀ i ∈ vs1, i ∈ own.map (·.2))
    (hg : ∀ (s : Shared) (H : Hp) (C : Addr) (cl : List (Str × Addr)) (fp : List Addr), PG (X.blk s H scope (compEnvC scope cl C X.env) fp) tg g)
    (hi1 : ∀ (s : Shared) (H : Hp) (C : Addr) (cl : List (Str × Addr)) (fp : List Addr), PI (X.blk s H scope (compEnvC scope cl C X.env) fp) tg1 iter1 wi1)
    (hg1 : ∀ (s : Shared) (H : Hp) (C : Addr) (cl : List (Str × Addr)) (fp : List Addr), PG (X.blk s H scope (compEnvC scope cl C X.env) fp) tg1 g1)
    (hk : ∀ (s : Shared) (H : Hp) (C : Addr) (cl : List (Str × Addr)) (fp : List Addr), PE (X.blk s H scope (compEnvC scope cl C X.env) fp) kx tk)
    (he : ∀ (s : Shared) (H : Hp) (C : Addr) (cl : List (Str × Addr)) (fp : List Addr), PE (X.blk s H scope (compEnvC scope cl C X.env) fp) vx tv)
    (hs : ∀ x, foldedSetIterable iter X.env x = pure x := by intro _; rfl) (hs1 : ∀ env x, foldedSetIterable iter1 env x = pure x := by intro _ _; rfl) :
    PE X (twoFor kx vx tg iter tg1 iter1 scope pos) (tDc2 wi g wi1 g1 tk tv (own.map (·.2)) vs1) := by
  refine ⟨fun pins s σ H Q I h => ?_⟩
  rw [arm_eval_DictComp]
  have free : ∀ y ∈ scope.names, y.2 = .free → ∃ c, X.env.cells.lookup y.1 = some c := fun y hy e => (ok.free y hy e).elim (fun k => I.ok.has _ (.inl k)) fun k => I.ok.has _ (.inr k)
  refine wpAny_comprehension_free (use := none) rfl hs (closure_ok free) ok.kind (fun y hy e => by rw [ok.uniq y hy, e]) (thn (hi.run pins s σ H _ I h) fun xv s1 hx => thn hx fun itv s2 h2 => ?_)
  obtain ⟨it, fp, tn, J, H2, e, I2, T, st2, f2, q⟩ := h2
  subst e
  refine wpAny_newObj_type (newEnv_comp ?_)
  generalize hD : s2.heap.objs.size = D
  obtain ⟨W, ⟨m0, w0⟩, turn⟩ := q D (I2.hok.fresh (Nat.le_of_eq hD))
  generalize hs3 : ({ s2 with heap := s2.heap.push { cls := .type "dict", data := .dict #[] } } : Shared) = s3
  have h3 : s3.heap = s2.heap.push { cls := .type "dict", data := .dict #[] } := by rw [← hs3]
  have I3 : Inv X pins σ (upd H2 D (.dK [])) s3 := by
    rw [← hs3, ← hD]
    exact I2.laid (t' := s2.toks) (fun b o e => Heap.get?_push_of_some _ e) (Nat.le_refl _) (dk_empty s2.heap I2.big)
  have f3 : ∀ b ∈ fp, FpOk X pins (upd H2 D (.dK [])) b ∧ b < s3.heap.objs.size := fun b hb => by
    obtain ⟨o, e, _⟩ := T.obj _ _ st2 b hb
    have lt := Heap.lt_size e
    refine ⟨⟨(upd_ne (by rw [← hD]; exact Nat.ne_of_lt lt)).trans (f2 b hb).1, (f2 b hb).2⟩, ?_⟩
    rw [h3, Heap.size_push]
    exact Nat.lt_succ_of_lt lt
  have I4 := block_start I3 ok hN f3
  have st4 : tn 0 (pushCells (s3.heap.push { cls := .type "dict", data := .dict #[] }) scope.names) :=
    T.keep _ _ _ st2 fun b _ o e => pushCells_keeps _ _ _ _ (Heap.get?_push_of_some _ (by rw [h3]; exact Heap.get?_push_of_some _ e))
  generalize hcl : cellsFrom (s3.heap.objs.size + 1) scope.names (cloFrom X.env.cells scope.names []) = cl at I4
  have pg := hg s3 (upd H2 D (.dK [])) s3.heap.objs.size cl fp
  have pi1 := hi1 s3 (upd H2 D (.dK [])) s3.heap.objs.size cl fp
  have pg1 := hg1 s3 (upd H2 D (.dK [])) s3.heap.objs.size cl fp
  have pk := hk s3 (upd H2 D (.dK [])) s3.heap.objs.size cl fp
  have pe := he s3 (upd H2 D (.dK [])) s3.heap.objs.size cl fp
  show codeAny _ _ (.compStart (twoFor kx vx tg iter tg1 iter1 scope pos) 0 (.ref it) (.ref D) (compEnvC scope cl s3.heap.objs.size X.env)) (compPost (model X.prog X.w) X.A X.xe none _ (.ref D) s3.heap.objs.size) { s3 with heap := pushCells (s3.heap.push { cls := .type "dict", data := .dict #[] }) scope.names }
  have nfp : ∀ b ∈ fp, (upd H2 D (.dK [])) b = none := fun b hb => (f3 b hb).1.1
  generalize hY : X.blk s3 (upd H2 D (.dK [])) scope (compEnvC scope cl s3.heap.objs.size X.env) fp = Y at I4 pg pi1 pg1 pk pe
  generalize hs4 : ({ s3 with heap := pushCells (s3.heap.push { cls := .type "dict", data := .dict #[] }) scope.names } : Shared) = s4 at I4 ⊢
  have st4 : tn 0 s4.heap := by rw [← hs4]; exact st4
  have yc : Y.calm = true := by subst hY; exact hc
  have yx : Y.xe = NoX := by subst hY; rfl
  have yT : Turn Y.prog Y.w Y.K tg J fp it tn := by subst hY; exact T
  have stat : ∀ {σ' : L2.St} {H' : Hp} {s' : Shared}, Inv Y [] σ' H' s' → ∀ H'', (∀ b ∈ fp, H'' b = none) → ∀ b ∈ fp, FpOk Y [] H'' b := fun {σ' H' s'} I' H'' hn b hb => by
    subst hY
    exact ⟨hn b hb, (I'.ok.exf b hb).1, I'.ok.exfs b hb, .inl hb, fun x c e => (I'.ok.exf b hb).2 x c e, fun p hp => absurd (show p ∈ ([] : List (Addr × Obj)) ++ [] from hp) (by simp)⟩
  have loop : codeAny (model X.prog X.w) X.A (.compLoop (twoFor kx vx tg iter tg1 iter1 scope pos) 0 (.ref it) (.ref D) (compEnvC scope cl s3.heap.objs.size X.env)) (compPost (model X.prog X.w) X.A X.xe none (EP X pins σ Q) (.ref D) s3.heap.objs.size) s4 := by
    refine loop_out (hs1 _) (fun n s' => ∃ i H', Inv Y [] (wipe σ (own.map (·.2))) H' s' ∧ tn i s'.heap ∧ (∀ b ∈ fp, H' b = none) ∧ W i n H') ?_ m0 ⟨0, _, I4, st4, nfp, w0⟩
    rintro n s5 ⟨i, H5, I5, st5, n5, w5⟩
    rcases turn i n H5 w5 with ⟨stop, qq⟩ | ⟨go, Nx, hNx, step⟩
    · have td := T.done Y (by subst hY; rfl) (by subst hY; rfl) (by subst hY; rfl) yc i [] s5 _ H5 NoX I5 (stat I5 H5 n5) st5 stop
      have yA : Y.A = X.A := by subst hY; rfl
      rw [yA] at td
      refine thn td fun r s6 ⟨hr, I6⟩ => ?_
      subst hr hY
      have I7 : Inv X pins σ H5 s6 := I3.call' (ch := fp) I6.os I6.base I6.hok I6.bare fun b hb => ⟨(f3 b hb).1.2.2.2.1, (f3 b hb).1.2.1, (f3 b hb).1.2.2.2.2.1, (f3 b hb).1.2.2.2.2.2⟩
      have nC : H5 s3.heap.objs.size = none := I6.free
      obtain ⟨m, hn, _⟩ := I6.loc
      obtain ⟨g0, g1', g2, g3, g4, g5⟩ := I3.fpOk (Nat.le_refl s3.heap.objs.size) nC
      exact ⟨m, hn, fun h'' sb => ⟨.ref D, H5, I7.turned (t' := s6.toks) (fun b o hb e => (sb.2 b hb).trans e) g0 g1' g3 g4 g5, rfl, qq⟩⟩
    · have yA : Y.A = X.A ∧ Y.prog = X.prog ∧ Y.w = X.w ∧ Y.env = compEnvC scope cl s3.heap.objs.size X.env ∧ Y.K = X.K := by subst hY; exact ⟨rfl, rfl, rfl, rfl, rfl⟩
      obtain ⟨yA, yp, yw, ye, yK⟩ := yA
      rw [← yA, ← yp, ← yw, ← ye]
      refine draw yc yT I5 st5 (stat I5) n5 go pg yx step (K := fun _ _ s₃ => wpAny (model Y.prog Y.w) Y.A (eval iter1 Y.env) (fun x s₄ => wpAny (model Y.prog Y.w) Y.A (pyIter x) (fun it1 s₅ =>
          codeAny (model Y.prog Y.w) Y.A (.compStart (twoFor kx vx tg iter tg1 iter1 scope pos) 1 it1 (.ref D) Y.env) (fun r s' => (∃ f, r = .ok f) ∧ ∃ m, m < n ∧ ∃ i H', Inv Y [] (wipe σ (own.map (·.2))) H' s' ∧ tn i s'.heap ∧ (∀ b ∈ fp, H' b = none) ∧ W i m H') s₅) NoX s₄) NoX s₃)
        (fun v σ8 H8 s8 hp I8 ⟨hw8, q8⟩ back => ?_) fun v s1 z => z
      have known : ∀ (j : Nat) v, (wipe σ (own.map (·.2)))[j]? = some (some v) → (wipe σ8 vs1)[j]? = some (some v) := fun j v e => by
        rw [← hw8] at e
        obtain ⟨e1, e2⟩ := wipe_some e
        exact (wipe_out fun z => e2 (hv j z)).trans e1
      have len8 : (wipe σ (own.map (·.2))).length = (wipe σ8 vs1).length := by rw [← hw8, wipe_length, wipe_length]
      have r1 := pi1.run _ s8 σ8 H8 _ I8 q8
      rw [yx] at r1
      refine thn r1 fun xv s10 hx => thn hx fun itv s11 h11 => ?_
      obtain ⟨it1, fp1, tn1, J1, H11, e1, I11, T1, st11, f11, W1, ⟨m1, w1⟩, turn1⟩ := h11
      subst e1
      have stat1 : ∀ H', (∀ b ∈ fp1, H' b = none) → ∀ b ∈ fp1, FpOk Y ([] ++ pinsAt fp hp) H' b := fun H' hn b hb => ⟨hn b hb, (f11 b hb).2⟩
      have loop1 : codeAny (model Y.prog Y.w) Y.A (.compLoop (twoFor kx vx tg iter tg1 iter1 scope pos) 1 (.ref it1) (.ref D) Y.env)
          (fun r s' => (∃ f, r = .ok f) ∧ ∃ m, m < n ∧ ∃ i H', Inv Y [] (wipe σ (own.map (·.2))) H' s' ∧ tn i s'.heap ∧ (∀ b ∈ fp, H' b = none) ∧ W i m H') s11 := by
        refine loop_in (fun k s' => ∃ j H', Inv Y ([] ++ pinsAt fp hp) (wipe σ8 vs1) H' s' ∧ tn1 j s'.heap ∧ (∀ b ∈ fp1, H' b = none) ∧ W1 j k H') ?_ m1 ⟨0, H11, I11.weak (wipe_length _ _) (fun j v e => (wipe_some e).1), st11, fun b hb => (f11 b hb).1, w1⟩
        rintro k s12 ⟨j, H12, I12, st12, n12, w12⟩
        rcases turn1 j k H12 w12 with ⟨stop1, nx1⟩ | ⟨go1, Nx1, hNx1, step1⟩
        · refine thn (T1.done Y rfl rfl rfl yc j _ s12 (wipe σ8 vs1) H12 NoX I12 (stat1 H12 n12) st12 stop1) fun r s13 ⟨hr, I13⟩ => ?_
          subst hr
          obtain ⟨m', hm, w'⟩ := hNx H12 nx1
          obtain ⟨b1, b2⟩ := back I13
          exact ⟨⟨_, rfl⟩, m', hm, i + 1, H12, (I13.unpinned (pins := [])).weak len8 known, b1, b2, w'⟩
        · refine draw yc T1 I12 st12 stat1 n12 go1 pg1 yx step1 (K := fun _ _ s₃ => wpAny (model Y.prog Y.w) Y.A (eval kx Y.env) (fun kv s₄ => wpAny (model Y.prog Y.w) Y.A (eval vx Y.env) (fun vv s₅ =>
              wpAny (model Y.prog Y.w) Y.A (dictSet D kv vv) (fun _ s' => ∃ m, m < k ∧ ∃ j H', Inv Y ([] ++ pinsAt fp hp) (wipe σ8 vs1) H' s' ∧ tn1 j s'.heap ∧ (∀ b ∈ fp1, H' b = none) ∧ W1 j m H') NoX s₅) NoX s₄) NoX s₃)
            (fun v1 σ15 H15 s15 hp1 I15 ⟨hw15, q15⟩ back1 => ?_) fun v s1 z => z
          have k1 := pk.run _ s15 σ15 H15 _ I15 q15
          rw [yx] at k1
          refine thn k1 fun kv s16 ⟨yk, H16, I16, r16, q16⟩ => ?_
          have v1 := pe.run _ s16 σ15 H16 _ I16 q16
          rw [yx] at v1
          refine thn v1 fun vv s17 ⟨yv, H17, I17, r17, kvs, kk, ek, hD17, hz17, nx⟩ => ?_
          subst ek
          refine d_dictSet I17 hD17 hz17 r16 r17 fun s18 I18 => ?_
          obtain ⟨m', hm, w'⟩ := hNx1 _ nx
          obtain ⟨b1, b2⟩ := back1 I18
          exact ⟨m', hm, j + 1, _, I18.unpinned.weak (by rw [← hw15, wipe_length]) (fun j v e => by rw [← hw15] at e; exact (wipe_some e).1), b1, b2, w'⟩
      exact start_in (T1.self Y.A 0 _ _ _ st11 loop1) loop1
  exact codeAny_compStart_dict loop (T.self X.A 0 _ _ _ st4 loop)
end
end SgD
end
section
set_option Elab.async false
set_option linter.all false
set_option maxRecDepth 100000
set_option maxHeartbeats 1000000
/-! tuple(d), tuple(d.values()), d a dict. -/
namespace PySem
open AutoSeq1 (wpAny_loadPart')
section
variable {prog : Program} {w : World} {A : Around} {E : Value → Shared → Prop} {s : Shared} {T : String} {r d : Addr} {n : Nat} {Pi : Nat → Value → Prop} {OK : Heap → Prop}
theorem sg_tuple_new {Q₁ : Value → Shared → Prop} (Kd : PySem.W.KdlSrc prog w T r d n Pi OK) (hh : A.handled = none) (hok : OK s.heap) (hn : n ≤ sizeLine)
    (h : ∀ (h' : Heap) (tk : Nat) (acc : Array Value), (∀ b o, s.heap.get? b = some o → h'.get? b = some o) → ItemsOf Pi acc n → Q₁ (.ref h'.objs.size) { s with heap := h'.push { cls := .type "tuple", data := .seq acc }, toks := tk }) :
    codeAny (model prog w) A (.call (.builtin "tuple.__new__") ⟨[.type "tuple", .ref r], []⟩) (wants Q₁ E) s := by
  refine codeAny_of_tree ?_
  show wpAny _ A.in1 (checkBuiltinCall "tuple.__new__" ⟨[.type "tuple", .ref r], []⟩ >>= fun _ => again (.builtin "tuple.__new__" ⟨[.type "tuple", .ref r], []⟩)) _ _ s
  refine wpAny_bind (wpAny_of_eq (F.newCall_tuple_1 _) (wpAny_pure ⟨plainId_quiet F.plain_tuple_new _, codeAny_builtin F.entry_tuple_new ?_⟩))
  rw [Around.under_plainId F.plain_tuple_new _]
  have hsub := sub_tuple_self
  have hinit := init_tuple_lookup
  have hmh := madeHere_tuple
  have hTI := Kd.type s hok
  have hne := Kd.notTuple
  have col : ∀ {R : List Value → Shared → Prop} {E : Value → Shared → Prop}, (∀ (h' : Heap) (tk : Nat) (acc : Array Value), (∀ b o, s.heap.get? b = some o → h'.get? b = some o) → ItemsOf Pi acc n → R acc.toList { s with heap := h', toks := tk }) →
      wpAny (model prog w) A.in1 (collect (.ref r)) R E s := fun q => PySem.W.kdu_collect Kd hh hok hn q
  obtain ⟨hp, g, dr, tk, os⟩ := s
  wp_walk using wpAny_typeOf hTI, col
  intro h' tk' acc hk hacc
  show wpAny _ _ (Builtin.Tuple.tupleExact acc.toList.toArray >>= fun v => ret v) _ _ _
  unfold Builtin.Tuple.tupleExact
  refine wpAny_bind (wpAny_newObj_type ?_ (by show acc.toList.toArray.size ≤ sizeLine; simp only [Array.toArray_toList]; rw [hacc.1]; exact hn))
  refine wpAny_pure ?_
  rw [show acc.toList.toArray = acc by simp]
  exact h h' tk' acc hk hacc
theorem sg_call_tuple {Q : Value → Shared → Prop} (Kd : PySem.W.KdlSrc prog w T r d n Pi OK) (hh : A.handled = none) (hok : OK s.heap) (hn : n ≤ sizeLine)
    (hQ : ∀ (h' : Heap) (tk : Nat) (acc : Array Value), (∀ b o, s.heap.get? b = some o → h'.get? b = some o) → ItemsOf Pi acc n → Q (.ref h'.objs.size) { s with heap := h'.push { cls := .type "tuple", data := .seq acc }, toks := tk }) :
    wpAny (model prog w) A (call (.type "tuple") [.ref r]) Q E s := by
  refine callType_codes (Q₁ := fun obj s₁ => s₁.TypeIs obj "tuple" ∧ Q obj s₁) F.called_tuple (F.typeCall_tuple_1 _) F.entry_object_init
    (sg_tuple_new Kd (A := A.in1) hh hok hn fun h' tk acc hk hacc => ⟨⟨_, Heap.get?_push_size _ rfl, rfl⟩, hQ h' tk acc hk hacc⟩) fun obj s₁ h₁ => ?_
  exact ⟨h₁.1, F.args_object_init_2 obj _, object_init_meets F.called_tuple.init.lookup F.called_tuple.made (by decide) prog w A.in1 _ s₁ ⟨h₁.1, rfl, h₁.2⟩⟩
end
end PySem
namespace SgU
open PySem PySem.Spec PyProof.Rows L2
section
variable {X : Cx}
/-- tuple(d): its keys -/
theorem call_tupleD (hc : X.calm = true) : CallR X (.type "tuple") (fun xs H Q => ∃ (a : Addr) (kvs : List (Key × V)), xs = [.ref a] ∧ Rd H a (.dK kvs) ∧ ∀ p, H p = none → Q (.ref p) (upd H p (.tup (kvs.map fun kv => kV kv.1)))) := by
  intro pins s σ H xs us Q I r q
  obtain ⟨a, kvs, rfl, hd, q⟩ := q
  rw [Vals.ref1 r]
  obtain ⟨z, lo, vs, rel, dd⟩ := dk_rd I.hok hd
  obtain ⟨ep, hat⟩ := dd.dictAt
  have ek : (kvs.map fun kv => kV kv.1) = vs.map fun p => kV p.1 := by
    have e := congrArg (List.map kV) rel.keys
    rw [List.map_map, List.map_map] at e
    exact e
  refine sg_call_tuple (PySem.W.kdl_dict (knd := mixKind X.prog X.w) (kvs := vs) (ep := ep) lo) (I.ok.hd hc) hat (by rw [← rel.length]; exact z) fun h' tk acc hk hacc => ?_
  have hv : Vals (vs.map fun p => kV p.1) acc.toList := keys_at (by rw [Array.length_toList]; exact hacc.1) fun j v e => hacc.2 j v (by rw [← Array.getElem?_toList]; exact e)
  have I1 : Inv X pins σ H { s with heap := h', toks := tk } := I.kept hk
  refine ⟨.ref h'.objs.size, _, I1.laid (t' := tk) (fun b o e => Heap.get?_push_of_some _ e) (Nat.le_refl _) ?_, rfl, q _ (I1.hok.fresh (Nat.le_refl _))⟩
  exact ⟨by rw [List.length_map]; exact z, acc.toList, by rw [ek]; exact hv, ⟨_, Heap.get?_push_size _ rfl, rfl, _, by rw [Array.toArray_toList]⟩⟩
theorem vals_at {kvs : List (Key × V)} {vs : List (Key × Value)} (rel : KV kvs vs) : ∀ {us : List Value}, us.length = vs.length → (∀ (j : Nat) (v : Value), us[j]? = some v → ∃ k, vs[j]? = some (k, v)) → Vals (kvs.map (·.2)) us := by
  induction rel with
  | nil =>
    intro us hl _
    cases us with
    | nil => exact .nil
    | cons u us => simp at hl
  | cons r t ih =>
    intro us hl h
    cases us with
    | nil => simp at hl
    | cons u us =>
      obtain ⟨k, e⟩ := h 0 u rfl
      simp at e
      refine .cons ?_ (ih (by simpa using hl) fun j v e => h (j + 1) v (by simpa using e))
      have := r.2
      rw [e] at this
      exact this
/-- tuple(o.values()) -/
theorem pe_tupVals {o : Expr} {to : TE} {p pos apos cpos : Pos} (hc : X.calm = true) (hg : Gl X "tuple") (hm : X.mg "tuple" = none) (he : PE X o to)
    (hbase : attributeBase o "values" X.env (eval o X.env) = eval o X.env := by rfl) (hline : (apos.endLine == cpos.line) = true := by rfl)
    (hs : starEach [.Call (.Attribute o "values" apos) [] [] cpos] X.env = (false, eval (.Call (.Attribute o "values" apos) [] [] cpos) X.env) :: starEach [] X.env := by rfl) :
    PE X (.Call (.Name "tuple" p) [.Call (.Attribute o "values" apos) [] [] cpos] [] pos)
      (fun σ H Q => to σ H fun x H1 => ∃ (a : Addr) (kvs : List (Key × V)), x = .ref a ∧ H1 a = some (.dK kvs) ∧ ∀ p, H1 p = none → Q (.ref p) (upd H1 p (.tup (kvs.map (·.2))))) := by
  refine ⟨fun pins s σ H Q I h => ?_⟩
  refine Call_ (ld_blt I hg hm (by decide +kernel : bootBuiltins "tuple" = some (.type "tuple")) ?_)
  refine PyProof.Rows.callWith_type1 (PyProof.Rows.args_cons ?_ hs) hs rfl
  refine wpAny_Call_method (T := "dict") (id := "dict.values") hbase rfl hline F.plainAttrs_dict F.slot_dict_values F.type_dict_values (thn (he.run pins s σ H _ I h) fun u s1 ⟨x, H1, I1, rx, a, kvs, ex, ha, q⟩ => ?_)
  subst ex
  obtain rfl : u = Value.ref a := rx
  obtain ⟨z, lo, vs, rel, dd⟩ := dk_rd I1.hok (.inl ha)
  obtain ⟨ep, hat⟩ := dd.dictAt
  refine ⟨dd.typeIs, dd.mapOf.noDict, ?_⟩
  have I2 : Inv X pins σ H1 { s1 with heap := s1.heap.push { cls := .type "dict_values", data := .fields #[.ref a] } } := I1.kept (t' := s1.toks) fun b ob q => Heap.get?_push_of_some _ q
  show wpAny _ _ (callWith cpos (.builtin "dict.values") [.ref a] [] []) _ X.xe s1
  refine method_meetsIn F.slot_dict_values F.entry_dict_values rfl (PySem.evalArgs_none ⟨rfl, dd.typeIs, F.args_dict_values_1 _, _, meets_dict_values (mixKind X.prog X.w) a lo, ⟨vs, dd⟩, ?_⟩)
  refine PyProof.Rows.args_nil ?_
  refine sg_call_tuple (PySem.W.kdl_values (knd := mixKind X.prog X.w) (kvs := vs) (ep := ep) (r := s1.heap.objs.size) (d := a)) (I1.ok.hd hc) ⟨⟨_, Heap.get?_push_size _ rfl, rfl, rfl⟩, hat.push _⟩ (by rw [← rel.length]; exact z) fun h' tk acc hk hacc => ?_
  have hv : Vals (kvs.map (·.2)) acc.toList := vals_at rel (by rw [Array.length_toList]; exact hacc.1) fun j v e => hacc.2 j v (by rw [← Array.getElem?_toList]; exact e)
  have I3 : Inv X pins σ H1 { s1 with heap := h', toks := tk } := I2.kept (t' := tk) hk
  refine ⟨.ref h'.objs.size, _, I3.laid (t' := tk) (fun b o e => Heap.get?_push_of_some _ e) (Nat.le_refl _) ?_, rfl, q _ (I3.hok.fresh (Nat.le_refl _))⟩
  exact ⟨by rw [List.length_map]; exact z, acc.toList, hv, ⟨_, Heap.get?_push_size _ rfl, rfl, _, by rw [Array.toArray_toList]⟩⟩
end
end SgU
end
section
set_option Elab.async false
set_option linter.all false
set_option maxRecDepth 100000
set_option maxHeartbeats 1000000
/-! Promises, calls, heaps: the words in which the defs are told. -/
namespace ST
open PySem PySem.Spec PyProof.Rows L2 SgO
/-! ### promises -/
/-- a promise that lets nothing out -/
abbrev Sp0 := List V → Hp → VK → Prop
abbrev up (sp : Sp0) : Sp := fun vs H Q _ => sp vs H Q
/-- the def at f keeps sp, by at most level k -/
abbrev Fn (w : World) (K : PySem.W.Frag) (mg : Str → Option Value) (base : Heap) (k : Nat) (f : Addr) (sp : Sp0) : Prop := FnR Sg w K mg base CX0 k f (up sp)
/-- the context of a def's body -/
abbrev bx (w : World) (K : PySem.W.Frag) (mg : Str → Option Value) (base : Heap) (N : List Str) (qual : Str) (st : Stmt) (f : Addr) (cdv : Value) (A : Around) (outer : List Env) (s : Shared) (H : Hp) : Cx := (cxOf CX0 Sg w K mg base N qual (defScope st) f cdv A outer s H E0).nox
section
variable {w : World} {K : PySem.W.Frag} {mg : Str → Option Value} {base : Heap} {x qual : Str} {st : Stmt} {f : Addr} {N ps : List Str} {k : Nat} {sp : Sp0}
/-- a def without defaults, by its body -/
theorem fn_by (F : ∃ fd, FunD K x qual (defArgs st) (defBody st) (defScope st) [] [] f fd) (S : FnScope N ps (defScope st))
    (hb : ∀ (kV doc pm : Value) (an : Option Addr) (cdv ct : Value) (us : List Value), us.length = ps.length → bindArgs (PySem.W.fnOf x qual (defArgs st) (defBody st) (defScope st) .none kV doc pm an cdv ct) ⟨us, []⟩ = pure (ps.zip us))
    (len : ∀ vs H Q, sp vs H Q → vs.length = ps.length)
    (hbody : ∀ (cdv : Value) (A : Around) (outer : List Env) (s : Shared) (H : Hp) (vs : List V) (Q : VK), Room k (bx w K mg base N qual st f cdv A outer s H).A → sp vs H Q →
      ∃ t, PSs (bx w K mg base N qual st f cdv A outer s H) (defBody st) t ∧ t { nx := fun _ H' => Q .non H', rt := Q } (L2.start N vs) H) : Fn w K mg base (k + 1) f sp := by
  obtain ⟨fd, F⟩ := F
  have g : FnOk Sg w K mg base CX0 (k + 1) f fd ps (up sp) := F.ok S (fun vs H Q _ h => len vs H Q h) fun cdv A outer s H vs Q E hr h => by
    obtain ⟨t, h1, h2⟩ := hbody cdv A outer s H vs Q hr h
    exact ⟨t, PSs.nox h1, h2⟩
  have b : Binds K fd ps [] := by
    obtain ⟨oc, od, dV, kV, doc, pm, an, cdv, ct, osl, rfl, _, _, hd, _⟩ := F.ex
    rcases hd with ⟨_, rfl⟩ | ⟨e, _⟩
    · exact .all (hb kV doc pm an cdv ct)
    · exact absurd rfl e
  have z := g.raw b .nil
  exact fun A outer s H us vs Q E hr e0 r hs => z A outer s H us vs Q E hr e0 r (by show sp (vs ++ []) H Q; rw [List.append_nil]; exact hs)
end
/-! ### calls by promises -/
section
variable {X : Cx} {k j : Nat} {f C : Addr} {sp : Sp0} {x m : Str} {p pos apos : Pos} {e o : Expr} {es : List Expr} {t : TA} {ta : TE}
def tF (sp : Sp0) (t : TA) : TE := fun σ H Q => t σ H fun vs H1 => sp vs H1 Q
/-- x(e, ..), x a def of the module -/
theorem pe_fn (F : Pr X k f (up sp)) (hr : Room j X.A) (hk : k ≤ j) (hg : Gl X x) (hm : X.mg x = some (.ref f)) (hkp : PySem.W.keepIn X.K (.ref f) = true) (ha : PA X (e :: es) t)
    (hdb : (x == ("__debug__" : Str)) = false := by decide) (he : starEach (e :: es) X.env = (false, eval e X.env) :: starEach es X.env := by rfl) (hpl : (backTo pos (starEach es X.env)).any (·.1) = false := by rfl) :
    PE X (.Call (.Name x p) (e :: es) [] pos) (tF sp t) := by
  refine ⟨fun pins s σ H Q I h => ?_⟩
  refine wpAny_Call_Name_kw (ld_glob I hg hm ?_ hdb)
  refine PySem.W.callWith_K (h₀ := X.base) I.ok.mod.kin hkp (thn (ha.run pos pins s σ H _ I h) fun us s1 ⟨vs, H1, I1, r, q⟩ => ⟨I1.kIn, ?_⟩) he hpl
  exact wpAny_call (run_fnR F (hr.mono hk) pass0 I1 r q)
/-- o.m(e, ..), o an instance of the class at C -/
def tM (C : Addr) (m : Str) (sp : Sp0) (ta : TE) (t : TA) : TE := fun σ H Q => ta σ H fun x H1 => ∃ a dx fs, x = .ref a ∧ H1 a = some (.ins C dx fs) ∧ fs.lookup m = none ∧ t σ H1 fun vs H2 => sp (x :: vs) H2 Q
theorem pe_mth {pl : Sem Bool} (he : PE X o ta) (c : Cls X.K C) (hm : Meth X.K C m f) (F : Pr X k f (up sp)) (hr : Room j X.A) (hk : k ≤ j) (ha : PA X (e :: es) t)
    (hst : starEach (e :: es) X.env = (false, eval e X.env) :: starEach es X.env := by rfl) (hpl : (backTo pos (starEach es X.env)).any (·.1) = false := by rfl)
    (ht : eval (.Call (.Attribute o m apos) (e :: es) [] pos) X.env = (do
      let ov ← eval o X.env
      standAt apos.atName
      let (f, first) ← holding [ov] (getMethod ov m pl)
      callWith pos f first (backTo pos (starEach (e :: es) X.env)) (backToKw pos (keywordEach [] X.env))) := by rfl) :
    PE X (.Call (.Attribute o m apos) (e :: es) [] pos) (tM C m sp ta t) :=
  pe_methR (pl := pl) he c hm F (hr.mono hk) pass0 ha hst hpl ht
end
/-! ### heaps -/
/-- all but x is as it was -/
def But (x : Addr) (H H' : Hp) : Prop := ∀ b o, b ≠ x → H b = some o → H' b = some o
theorem Same.but {H H' : Hp} (s : Same H H') (x : Addr) : But x H H' := fun b o _ e => s b o e
theorem But.refl (x : Addr) (H : Hp) : But x H H := fun _ _ _ e => e
theorem But.trans {x : Addr} {H H1 H2 : Hp} (a : But x H H1) (b : But x H1 H2) : But x H H2 := fun c o h e => b c o h (a c o h e)
theorem same_upd {H : Hp} {p : Addr} {o : HO} (h : H p = none) : Same H (upd H p o) := fun b u e => (upd_ne (ne_of_none e h)).trans e
theorem Same.upd {H H1 : Hp} {p : Addr} {o : HO} (a : Same H H1) (h : H p = none) : Same H (L2.upd H1 p o) := fun b u e => (upd_ne (ne_of_none e h)).trans (a b u e)
theorem But.upd {x : Addr} {H H1 : Hp} {o : HO} (a : But x H H1) : But x H (L2.upd H1 x o) := fun b u n e => (upd_ne n).trans (a b u n e)
theorem But.upd' {x p : Addr} {H H1 : Hp} {o : HO} (a : But x H H1) (h : H p = none) : But x H (L2.upd H1 p o) := fun b u n e => (upd_ne (ne_of_none e h)).trans (a b u n e)
theorem But.same {x : Addr} {H H' : Hp} (a : But x H H') (h : H x = none) : Same H H' := fun b o e => a b o (ne_of_none e h) e
theorem But.at' {x b : Addr} {H H' : Hp} {o : HO} (a : But x H H') (n : b ≠ x) (e : H b = some o) : H' b = some o := a b o n e
end ST
end
section
set_option Elab.async false
set_option linter.all false
set_option maxRecDepth 100000
set_option maxHeartbeats 1000000
/-! Short rules over the facts of the text; comprehensions that keep what stood. -/
namespace ST
open PySem PySem.Spec PyProof.Rows L2 SgO
/-! ### names that the module holds -/
section
variable {X : Cx} {x : Str} {pos : Pos}
theorem pe_gI {i : Int} (h : ∃ t, X.mg x = some (.int i t)) (hg : Gl X x := by rfl) (hd : (x == ("__debug__" : Str)) = false := by decide) : PE X (.Name x pos) (tC (.int i)) := by
  obtain ⟨t, e⟩ := h
  exact pe_glob hg e ⟨t, rfl⟩ hd
theorem pe_gS {z : Str} (h : ∃ t, X.mg x = some (.str z t)) (hg : Gl X x := by rfl) (hd : (x == ("__debug__" : Str)) = false := by decide) : PE X (.Name x pos) (tC (.str z)) := by
  obtain ⟨t, e⟩ := h
  exact pe_glob hg e ⟨t, rfl⟩ hd
theorem pe_gC {C : Addr} (h : X.mg x = some (.ref C)) (hg : Gl X x := by rfl) (hd : (x == ("__debug__" : Str)) = false := by decide) : PE X (.Name x pos) (tC (.ref C)) := pe_glob hg h rfl hd
theorem pe_bT {n : String} (hm : X.mg x = none) (hv : bootBuiltins x = some (.type n)) (hg : Gl X x := by rfl) (hn : x ≠ "__name__" := by decide) (hd : (x == ("__debug__" : Str)) = false := by decide) : PE X (.Name x pos) (tC (.ty n)) := pe_bltn hg hm hv rfl hn hd
end
theorem bb_len : bootBuiltins "len" = some (.builtin "len") := by decide +kernel
theorem bb_isinstance : bootBuiltins "isinstance" = some (.builtin "isinstance") := by decide +kernel
theorem bb_all : bootBuiltins "all" = some (.builtin "all") := by decide +kernel
theorem bb_any : bootBuiltins "any" = some (.builtin "any") := by decide +kernel
theorem bb_sorted : bootBuiltins "sorted" = some (.builtin "sorted") := by decide +kernel
theorem bb_min : bootBuiltins "min" = some (.builtin "min") := by decide +kernel
theorem bb_max : bootBuiltins "max" = some (.builtin "max") := by decide +kernel
theorem bb_abs : bootBuiltins "abs" = some (.builtin "abs") := by decide +kernel
theorem bb_int : bootBuiltins "int" = some (.type "int") := by decide +kernel
theorem bb_str : bootBuiltins "str" = some (.type "str") := by decide +kernel
theorem bb_bool : bootBuiltins "bool" = some (.type "bool") := by decide +kernel
theorem bb_set : bootBuiltins "set" = some (.type "set") := by decide +kernel
theorem bb_tuple : bootBuiltins "tuple" = some (.type "tuple") := by decide +kernel
theorem bb_list : bootBuiltins "list" = some (.type "list") := by decide +kernel
theorem bb_dict : bootBuiltins "dict" = some (.type "dict") := by decide +kernel
/-! ### the facts in short -/
section
variable {K : PySem.W.Frag} {mg : Str → Option Value}
theorem Txt.kp (T : Txt K mg) (i : Nat) {d : He5.DefA} (h : fns[i]? = some d) : PySem.W.keepIn K (.ref (d.at_ K)) = true := let ⟨_, F⟩ := T.fn i h; F.kp
theorem Txt.cls (T : Txt K mg) {x : Str} (c : (He.Fa.cls x).ok K = true) : Cls K (He.ga K x) := He.cls_ok c
theorem Txt.noat (T : Txt K mg) {x f : Str} (c : (He.Fa.noat x f).ok K = true) : NoAttr K (He.ga K x) f := He.noat_ok c
theorem Txt.meth (T : Txt K mg) {x m : Str} (c : (He.Fa.meth x m).ok K = true) : Meth K (He.ga K x) m (He.ma K (He.ga K x) m) := He.meth_ok c
theorem Txt.mkr (T : Txt K mg) {x : Str} (c : (He.Fa.mkr x).ok K = true) : Mk K (He.ga K x) (He.ma K (He.ga K x) "__init__") := He.mkr_ok c
theorem Txt.own_contains_Signs (T : Txt K mg) : OwnM K (He.ga K "Signs") "__contains__" (a_Signs_contains K) := own_of (T.meth T.r_me_Signs_contains)
theorem Txt.own_getitem_Signs (T : Txt K mg) : OwnM K (He.ga K "Signs") "__getitem__" (a_Signs_getitem K) := own_of (T.meth T.r_me_Signs_getitem)
theorem Txt.own_contains_Town (T : Txt K mg) : OwnM K (He.ga K "Town") "__contains__" (a_Town_contains K) := own_of (T.meth T.r_me_Town_contains)
theorem Txt.own_getitem_Town (T : Txt K mg) : OwnM K (He.ga K "Town") "__getitem__" (a_Town_getitem K) := own_of (T.meth T.r_me_Town_getitem)
theorem Txt.own_len_Town (T : Txt K mg) : OwnM K (He.ga K "Town") "__len__" (a_Town_len K) := own_of (T.meth T.r_me_Town_len)
theorem Txt.own_bool_Sound (T : Txt K mg) : OwnM K (He.ga K "Sound") "__bool__" (a_Sound_bool K) := own_of (T.meth T.r_me_Sound_bool)
theorem Txt.bin_sub_Town (T : Txt K mg) : BinM K (He.ga K "Town") "sub" (a_Town_sub K) := ⟨own_of (T.meth T.r_me_Town_sub), T.r_sf_Town⟩
theorem Txt.bin_or_Town (T : Txt K mg) : BinM K (He.ga K "Town") "or" (a_Town_or K) := ⟨own_of (T.meth T.r_me_Town_or), T.r_sf_Town⟩
theorem Txt.bin_sub_Signs (T : Txt K mg) : BinM K (He.ga K "Signs") "sub" (a_Signs_sub K) := ⟨own_of (T.meth T.r_me_Signs_sub), T.r_sf_Signs⟩
/-- one class, one promise -/
abbrev W1 (C : Addr) (sp : Sp0) : Addr → Sp → Prop := fun D s => D = C ∧ s = up sp
/-- a property of one class -/
theorem pe_prop1 {X : Cx} {k : Nat} {C p g : Addr} {f : Str} {sp : Sp0} {e : Expr} {pos : Pos} {ta : TE} (c : Cls X.K C) (hp : PropOf X.K C f p g) (F : Pr X k g (up sp)) (hr : Room (k + 1) X.A) (he : PE X e ta) (hab : attributeBase e f X.env (eval e X.env) = eval e X.env := by rfl) :
    PE X (.Attribute e f pos) (fun σ H Q => ta σ H fun x H1 => ∃ a C' s, x = .ref a ∧ W1 C sp C' s ∧ Ins H1 a C' ∧ s [.ref a] H1 Q E0) :=
  pe_propR (X := X) (k := k) (e := e) (f := f) (pos := pos) (ta := ta) (W1 C sp) (fun D s h => ⟨p, g, h.1 ▸ c, h.1 ▸ hp, h.2 ▸ F⟩) hr he hab
end
/-! ### rules with the written part named -/
/-- isinstance(x, c) is b -/
def Isi (K : PySem.W.Frag) (H : Hp) (x c : V) (b : Bool) : Prop := ∃ t u, ClsV c u ∧ TyX K H x t ∧ PySem.W.kitOne K t u = some b
section
variable (K : PySem.W.Frag) {X : Cx}
theorem isi_ (h : X.K = K := by rfl) : CallR X (.builtin "isinstance") (fun xs H Q => ∃ x c b, xs = [x, c] ∧ Isi K H x c b ∧ Q (.bl b) H) := by
  subst h
  intro pins s σ H xs us Q I r h
  obtain ⟨x, c, b, rfl, ⟨t, u, h1, h2, h3⟩, q⟩ := h
  exact call_isi pins s σ H _ us Q I r ⟨x, c, t, u, b, rfl, h1, h2, h3, q⟩
theorem eqD_ (hu : X.A.units + 64 < cLine) (h : X.K = K := by rfl) : OpR X (compareOp .Eq) (rEqD K) := h ▸ op_eqD hu
theorem neD_ (hu : X.A.units + 64 < cLine) (h : X.K = K := by rfl) : OpR X (compareOp .NotEq) (rNeD K) := h ▸ op_neD hu
theorem ixT_ (h : X.K = K := by rfl) : IxR X (rIxT K) := h ▸ ix_tup
theorem ixL_ (h : X.K = K := by rfl) : IxR X (rIxL K) := h ▸ ix_list
theorem lenQ_ (h : X.K = K := by rfl) : CallR X (.builtin "len") (fun xs H Q => ∃ p ys, xs = [.ref p] ∧ (SqL K H p ys ∨ SqT K H p ys) ∧ Q (.int ys.length) H) := h ▸ call_len_seq
theorem inQ_ (h : X.K = K := by rfl) : OpR X (compareOp .In) (rIn K false) := h ▸ op_in_seq
theorem ninQ_ (h : X.K = K := by rfl) : OpR X (compareOp .NotIn) (rIn K true) := h ▸ op_notIn_seq
theorem all_ (hc : X.calm = true := by rfl) (h : X.K = K := by rfl) : CallR X (.builtin "all") (rAll K) := h ▸ cr_all hc
theorem any_ (hc : X.calm = true := by rfl) (h : X.K = K := by rfl) : CallR X (.builtin "any") (rAny K) := h ▸ cr_any hc
theorem min_ (hc : X.calm = true := by rfl) (h : X.K = K := by rfl) : CallR X (.builtin "min") (rMin K) := h ▸ cr_min hc
theorem srtS_ (h : X.K = K := by rfl) : CallR X (.builtin "sorted") (rSortedS K) := h ▸ cr_sortedS
theorem lstOf_ (h : X.K = K := by rfl) : CallR X (.type "list") (fun xs H Q => ∃ p ys, xs = [.ref p] ∧ (SqL K H p ys ∨ SqT K H p ys) ∧ ∀ l, H l = none → Q (.ref l) (upd H l (.lst ys))) := h ▸ call_list_of
theorem tupOf_ (h : X.K = K := by rfl) : CallR X (.type "tuple") (fun xs H Q => ∃ p ys, xs = [.ref p] ∧ ((SqL K H p ys ∧ ∀ l, H l = none → Q (.ref l) (upd H l (.tup ys))) ∨ (SqT K H p ys ∧ Q (.ref p) H))) := h ▸ call_tuple_of
theorem setT_ (w : World) (hc : X.calm = true := by rfl) (h : X.K = K := by rfl) (hw : X.w = w := by rfl) : CallR X (.type "set") (fun vs H Q => ∃ (a : Addr) (xs : List Str), vs = [V.ref a] ∧ SqL K H a (xs.map V.str) ∧ xs.length < 1000 ∧ ∀ p, H p = none → Q (.ref p) (upd H p (SgT.TS w p (SgT.dedT xs)))) := hw ▸ h ▸ SgT.cr_setT hc
theorem catT_ (h : X.K = K := by rfl) : OpR X (binaryOp .Add) (rCatT K) := h ▸ op_catT
theorem slT_ (h : X.K = K := by rfl) : SlR X (rSlT K) := h ▸ sl_tup
theorem slL_ (h : X.K = K := by rfl) : SlR X (rSlL K) := h ▸ sl_list
theorem fld_ {e : Expr} {f : Str} {ta : TE} {pos : Pos} (he : PE X e ta) (hb : attributeBase e f X.env (eval e X.env) = eval e X.env := by rfl) (h : X.K = K := by rfl) : PE X (.Attribute e f pos) (tFld K ta f) := h ▸ pe_fld he hb
theorem sfld_ {o value : Expr} {f : Str} {ta tv : TE} {pos pos' : Pos} (ha : PE X o ta) (hv : PE X value tv) (hs : swapsWith value (some (.Attribute o f pos')) pos.line X.env = pure false := by rfl) (h : X.K = K := by rfl) : PS X (.Assign [.Attribute o f pos'] value pos) (sFld K ta tv f) := h ▸ ps_fld ha hv hs
theorem bm_ {o e : Expr} {es : List Expr} {to : TE} {t : TA} {name : Str} {apos cpos : Pos} {T id : String} {r : V → List V → Hp → VK → Prop} (pa : PlainAttrs T) (slot : Slot T name id) (hty : typeOf (.builtin id) = pure (.type "method_descriptor")) (hm : MtR X id r) (ho : PE X o to) (ha : PA X (e :: es) t)
    (hbase : attributeBase o name X.env (eval o X.env) = eval o X.env := by rfl)
    (hfew : ((backTo cpos (starEach (e :: es) X.env)).all (fun x => !x.1) && (backToKw cpos (keywordEach [] X.env)).all (fun x => x.1.isSome)
      && decide ((e :: es).length + ([] : List Keyword).length + (if ([] : List Keyword).isEmpty then 0 else 1) < 30)) = true := by rfl)
    (hline : (apos.endLine == cpos.line) = true := by rfl) (hs : starEach (e :: es) X.env = (false, eval e X.env) :: starEach es X.env := by rfl) (hplain : (backTo cpos (starEach es X.env)).any (·.1) = false := by rfl) (h : X.K = K := by rfl) :
    PE X (.Call (.Attribute o name apos) (e :: es) [] cpos) (tBM K T r to t) := h ▸ pe_bm pa slot hty hm ho ha hbase hfew hline hs hplain
theorem gtup_ {es : List Expr} {k : Nat} {t : TGs} {n : Nat} {pos : Pos} (h : PGs X es t) (hc : X.calm = true := by rfl) (hn : (assignEach es X.env).length = n := by rfl) (hst : (assignEach es X.env).findIdx? (·.1) = none := by rfl) (h' : X.K = K := by rfl) : PG X (.Tuple es k pos) (gTup K n t) := h' ▸ pg_tup hc h hn hst
theorem piL_ {tg l : Expr} {tl : TE} (hl : PE X l tl) (h : X.K = K := by rfl) : PI X tg l (iList K tl) := h ▸ pi_list hl
theorem piT_ {tg l : Expr} {tl : TE} (hl : PE X l tl) (h : X.K = K := by rfl) : PI X tg l (iTup K tl) := h ▸ pi_tup hl
end
/-! ### arguments with a star -/
section
variable {X : Cx} {e : Expr} {es : List Expr} {te : TE} {t : TA} {p2 : Pos}
/-- len of a dict, locked or not -/
theorem call_lenR : CallR X (.builtin "len") (fun xs H Q => ∃ a kvs, xs = [V.ref a] ∧ Rd H a (.dK kvs) ∧ Q (.int kvs.length) H) := by
  intro pins s σ H xs us Q I r h
  obtain ⟨a, kvs, rfl, ha, q⟩ := h
  obtain ⟨u, rfl, ru⟩ := vals1 r
  cases ru
  exact d_len I ha fun t s' I' => ⟨.int kvs.length, H, I', ⟨t, rfl⟩, q⟩
end
/-! ### what is walked: c of the i-th of as, the heap as it was -/
def YC {α : Type} (as : List α) (c : α → V) : Nat → Hp → V → Hp → Prop := fun i H x H' => H' = H ∧ ∃ a, as[i]? = some a ∧ x = c a
section
variable {α : Type} {K : PySem.W.Frag} {p d : Addr} {o : Obj} {as : List α} {c : α → V}
theorem src_l : Walk (Itl K p) as.length (fun H => SqL K H p (as.map c)) (YC as c) := by
  have z := walk_list (K := K) (a := p) (xs := as.map c)
  rw [List.length_map] at z
  refine z.mono (fun _ h => h) fun i H x H' _ _ y => ⟨y.1, ?_⟩
  obtain ⟨a, h1, h2⟩ := List.getElem?_map ▸ y.2 |> Option.map_eq_some_iff.mp
  exact ⟨a, h1, h2.symm⟩
theorem src_t : Walk (Itt K p) as.length (fun H => SqT K H p (as.map c)) (YC as c) := by
  have z := walk_tup (K := K) (a := p) (xs := as.map c)
  rw [List.length_map] at z
  refine z.mono (fun _ h => h) fun i H x H' _ _ y => ⟨y.1, ?_⟩
  obtain ⟨a, h1, h2⟩ := List.getElem?_map ▸ y.2 |> Option.map_eq_some_iff.mp
  exact ⟨a, h1, h2.symm⟩
theorem src_r {n : Nat} {lo : Int} : Walk (Itr lo n) (List.range n).length (fun _ => True) (YC (List.range n) fun i => .int (lo + (i : Nat))) := by
  have z := walk_range (lo := lo) (n := n)
  rw [List.length_range]
  refine z.mono (fun _ h => h) fun i H x H' hi _ y => ⟨y.1, i, by rw [List.getElem?_range hi], y.2⟩
theorem src_k {kvs : List (Key × V)} : Walk (Itk d o kvs) kvs.length (fun H => H d = some (.frz o (.dK kvs))) (YC kvs fun kv => kV kv.1) :=
  walk_keys.mono (fun _ h => h) fun _ _ _ _ _ _ y => ⟨y.1, let ⟨k, v, h1, h2⟩ := y.2; ⟨(k, v), h1, h2⟩⟩
theorem src_s {z : Str} : Walk (Its z) z.cps.toList.length (fun _ => True) (YC z.cps.toList fun ch => .str ⟨#[ch]⟩) := by
  have q := walk_str (z := z)
  rw [Array.length_toList]
  refine q.mono (fun _ h => h) fun i H x H' _ _ y => ⟨y.1, ?_⟩
  obtain ⟨ch, h1, h2⟩ := y.2
  exact ⟨ch, by rw [Array.getElem?_toList]; exact h1, h2⟩
end
section
variable {α : Type} {J : It} {G : Hp → Prop} {as : List α} {c : α → V} {g : TG} {tt : TT} {te tk tv : TE} {vs : List Nat} {σ : L2.St} {H1 : Hp} {D : Addr} {Qd : Hp → Prop}
theorem filter_snoc {p : α → Bool} {i : Nat} {a : α} (h : as[i]? = some a) : (as.take (i + 1)).filter p = (as.take i).filter p ++ (if p a then [a] else []) := by
  rw [List.take_add_one, h, List.filter_append]
  congr 1
  cases e : p a <;> simp [e]
theorem paired_snoc {β γ : Type} {R : β → γ → Prop} {b : β} {z : γ} : ∀ {xs : List β} {ys : List γ}, Paired R xs ys → R b z → Paired R (xs ++ [b]) (ys ++ [z])
  | _, _, .nil, h => .cons h .nil
  | _, _, .cons r t, h => .cons r (paired_snoc t h)
theorem paired_mono {β γ : Type} {R S : β → γ → Prop} (f : ∀ b z, R b z → S b z) : ∀ {xs : List β} {ys : List γ}, Paired R xs ys → Paired S xs ys
  | _, _, .nil => .nil
  | _, _, .cons r t => .cons (f _ _ r) (paired_mono f t)
/-- a comprehension that leaves what stood: the kept ones, each with what P tells of its item -/
theorem lc_keep (w : Walk J as.length G (YC as c)) (keep : α → Bool) (P : α → V → Hp → Prop) (hD : H1 D = none) (hP : ∀ a y H H', P a y H → But D H H' → P a y H') (hG : ∀ H, Same H1 H → G H) (hn : as.length < sizeLine)
    (hs : ∀ (i : Nat) (a : α) (H : Hp) (Kt : V → Hp → Prop) (Kf : Hp → Prop), as[i]? = some a → Same H1 H → (∃ l, H D = some (.lst l)) → (∀ y H4, keep a = true → Same H H4 → P a y H4 → Kt y H4) → (∀ H3, keep a = false → Same H H3 → Kf H3) →
      g (c a) (wipe σ vs) H fun σ2 H2 => wipe σ2 vs = wipe σ vs ∧ tt σ2 H2 fun b H3 => if b = true then te σ2 H3 Kt else Kf H3)
    (hd : ∀ H ys, Same H1 H → H D = some (.lst ys) → Paired (fun a y => P a y H) (as.filter keep) ys → Qd H) :
    ∃ W : Nat → Nat → Hp → Prop, (∃ m, W 0 m (upd H1 D (.lst []))) ∧ ∀ i m H, W i m H →
      (J.stop i H ∧ Qd H) ∨ (J.go i H ∧ ∃ Nx : Hp → Prop, (∀ H', Nx H' → ∃ m', m' < m ∧ W (i + 1) m' H') ∧ ∀ x H', J.yld i H x H' → g x (wipe σ vs) H' fun σ2 H2 => wipe σ2 vs = wipe σ vs ∧ tt σ2 H2 fun b H3 =>
        if b = true then te σ2 H3 fun y H4 => ∃ acc, H4 D = some (.lst acc) ∧ acc.length < sizeLine ∧ Nx (upd H4 D (.lst (acc ++ [y]))) else Nx H3) := by
  refine lc_it w (fun i H => ∃ ys, Same H1 H ∧ H D = some (.lst ys) ∧ ys.length ≤ i ∧ Paired (fun a y => P a y H) ((as.take i).filter keep) ys) ⟨[], same_upd hD, upd_same, Nat.le_refl _, .nil⟩ (fun i H _ ⟨_, h, _⟩ => hG H h) ?_ fun H h => ?_
  · rintro i x H H' hi ⟨ys, sm, hl, hy, pr⟩ ⟨rfl, a, ha, rfl⟩
    refine hs i a H' _ _ ha sm ⟨ys, hl⟩ (fun y H4 hk s4 p4 => ⟨ys, s4 _ _ hl, by omega, ys ++ [y], ?_, upd_same, by simp; omega, ?_⟩) fun H3 hk s3 => ⟨ys, sm.trans s3, s3 _ _ hl, by omega, ?_⟩
    · exact ST.Same.upd (sm.trans s4) hD
    · rw [filter_snoc ha, hk, if_pos rfl]
      refine paired_snoc (paired_mono (fun b z q => hP _ _ _ _ q ((ST.Same.but s4 D).trans ((But.refl D H4).upd))) pr) (hP _ _ _ _ p4 (But.refl D H4).upd)
    · rw [filter_snoc ha, hk]
      simp only [Bool.false_eq_true, if_false, List.append_nil]
      exact paired_mono (fun b z q => hP _ _ _ _ q (ST.Same.but s3 D)) pr
  · obtain ⟨ys, sm, hl, hy, pr⟩ := h
    rw [List.take_length] at pr
    exact hd H ys sm hl pr
theorem paired_map {β γ : Type} {f : β → γ} : ∀ {xs : List β} {ys : List γ}, Paired (fun b z => z = f b) xs ys → ys = xs.map f
  | _, _, .nil => rfl
  | _, _, .cons r t => by rw [r, paired_map t]; rfl
/-- .. whose items are plain values -/
theorem lc_pure (w : Walk J as.length G (YC as c)) (keep : α → Bool) (f : α → V) (hD : H1 D = none) (hG : ∀ H, Same H1 H → G H) (hn : as.length < sizeLine)
    (hs : ∀ (i : Nat) (a : α) (H : Hp) (Kt : V → Hp → Prop) (Kf : Hp → Prop), as[i]? = some a → Same H1 H → (∀ H4, keep a = true → Same H H4 → Kt (f a) H4) → (∀ H3, keep a = false → Same H H3 → Kf H3) →
      g (c a) (wipe σ vs) H fun σ2 H2 => wipe σ2 vs = wipe σ vs ∧ tt σ2 H2 fun b H3 => if b = true then te σ2 H3 Kt else Kf H3)
    (hd : ∀ H, Same H1 H → H D = some (.lst ((as.filter keep).map f)) → Qd H) :
    ∃ W : Nat → Nat → Hp → Prop, (∃ m, W 0 m (upd H1 D (.lst []))) ∧ ∀ i m H, W i m H →
      (J.stop i H ∧ Qd H) ∨ (J.go i H ∧ ∃ Nx : Hp → Prop, (∀ H', Nx H' → ∃ m', m' < m ∧ W (i + 1) m' H') ∧ ∀ x H', J.yld i H x H' → g x (wipe σ vs) H' fun σ2 H2 => wipe σ2 vs = wipe σ vs ∧ tt σ2 H2 fun b H3 =>
        if b = true then te σ2 H3 fun y H4 => ∃ acc, H4 D = some (.lst acc) ∧ acc.length < sizeLine ∧ Nx (upd H4 D (.lst (acc ++ [y]))) else Nx H3) :=
  lc_keep w keep (fun a y _ => y = f a) hD (fun _ _ _ _ h _ => h) hG hn (fun i a H Kt Kf ha sm _ k1 k2 => hs i a H Kt Kf ha sm (fun H4 hk s4 => k1 _ _ hk s4 rfl) k2) fun H ys sm hl pr => hd H sm (by rw [hl, paired_map pr])
/-- a dict comprehension with keys that differ -/
theorem dc_keep (w : Walk J as.length G (YC as c)) (keep : α → Bool) (k : α → Key) (P : α → V → Hp → Prop) (hD : H1 D = none) (hP : ∀ a y H H', P a y H → But D H H' → P a y H') (hG : ∀ H, Same H1 H → G H) (hk : (as.map k).Nodup) (hn : as.length < sizeLine)
    (hs : ∀ (i : Nat) (a : α) (H : Hp) (Kk : V → V → Hp → Prop) (Kf : Hp → Prop), as[i]? = some a → Same H1 H → (∃ l, H D = some (.dK l)) → (∀ z H5, keep a = true → Same H H5 → P a z H5 → Kk (kV (k a)) z H5) → (∀ H3, keep a = false → Same H H3 → Kf H3) →
      g (c a) (wipe σ vs) H fun σ2 H2 => wipe σ2 vs = wipe σ vs ∧ tt σ2 H2 fun b H3 => if b = true then tk σ2 H3 fun y H4 => tv σ2 H4 fun z H5 => Kk y z H5 else Kf H3)
    (hd : ∀ H kvs, Same H1 H → H D = some (.dK kvs) → Paired (fun a kv => kv.1 = k a ∧ P a kv.2 H) (as.filter keep) kvs → Qd H) :
    ∃ W : Nat → Nat → Hp → Prop, (∃ m, W 0 m (upd H1 D (.dK []))) ∧ ∀ i m H, W i m H →
      (J.stop i H ∧ Qd H) ∨ (J.go i H ∧ ∃ Nx : Hp → Prop, (∀ H', Nx H' → ∃ m', m' < m ∧ W (i + 1) m' H') ∧ ∀ x H', J.yld i H x H' → g x (wipe σ vs) H' fun σ2 H2 => wipe σ2 vs = wipe σ vs ∧ tt σ2 H2 fun b H3 =>
        if b = true then tk σ2 H3 fun y H4 => tv σ2 H4 fun z H5 => ∃ kvs k, y = kV k ∧ H5 D = some (.dK kvs) ∧ kvs.length < sizeLine ∧ Nx (upd H5 D (.dK (putK kvs k z))) else Nx H3) := by
  let Pv : Nat → Hp → Prop := fun i H => ∃ kvs, Same H1 H ∧ H D = some (.dK kvs) ∧ kvs.length ≤ i ∧ Paired (fun a kv => kv.1 = k a ∧ P a kv.2 H) ((as.take i).filter keep) kvs
  refine ⟨fun i m H => m = as.length - i ∧ i ≤ as.length ∧ Pv i H, ⟨as.length, by simp, Nat.zero_le _, [], same_upd hD, upd_same, Nat.le_refl _, .nil⟩, ?_⟩
  rintro i m H ⟨rfl, hi, kvs, sm, hl, hy, pr⟩
  have q := hG H sm
  by_cases hlt : i < as.length
  · refine .inr ⟨w.goes i H hlt q, Pv (i + 1), fun H' p' => ⟨as.length - (i + 1), by omega, rfl, hlt, p'⟩, fun x H' y => ?_⟩
    obtain ⟨rfl, a, ha, rfl⟩ := w.yields i H x H' hlt q y
    refine hs i a H' _ _ ha sm ⟨kvs, hl⟩ (fun z H5 hk' s5 p5 => ⟨kvs, k a, rfl, s5 _ _ hl, by omega, kvs ++ [(k a, z)], ?_, ?_, by simp; omega, ?_⟩) fun H3 hk' s3 => ⟨kvs, sm.trans s3, s3 _ _ hl, by omega, ?_⟩
    · exact ST.Same.upd (sm.trans s5) hD
    · have hv : valV kvs (k a) = none := by
        cases e : valV kvs (k a) with
        | none => rfl
        | some v =>
          have m := valV_in e
          have hm : ∀ {xs : List α} {ys : List (Key × V)}, Paired (fun a kv => kv.1 = k a ∧ P a kv.2 H') xs ys → ys.map (·.1) = xs.map k := by
            intro xs ys h
            induction h with
            | nil => rfl
            | cons r _ ih => rw [List.map_cons, List.map_cons, ih, r.1]
          rw [hm pr] at m
          obtain ⟨b, hb, eb⟩ := List.mem_map.mp m
          have hb' := (List.mem_filter.mp hb).1
          obtain ⟨j, hj⟩ := List.mem_iff_getElem?.mp hb'
          have hji : j < i := by
            have := (List.getElem?_eq_some_iff.mp hj).1
            rw [List.length_take] at this
            omega
          have hj' : as[j]? = some b := by rwa [List.getElem?_take_of_lt hji] at hj
          have h1 : (as.map k)[j]? = some (k b) := by rw [List.getElem?_map, hj']; rfl
          have h2 : (as.map k)[i]? = some (k b) := by rw [List.getElem?_map, ha, eb]; rfl
          exact absurd (nd_ix hk h1 h2) (by omega)
      rw [putK_new z hv]
      exact upd_same
    · rw [filter_snoc ha, hk', if_pos rfl]
      refine paired_snoc (paired_mono (fun b z q => ⟨q.1, hP _ _ _ _ q.2 ((ST.Same.but s5 D).trans ((But.refl D H5).upd))⟩) pr) ⟨rfl, hP _ _ _ _ p5 (But.refl D H5).upd⟩
    · rw [filter_snoc ha, hk']
      simp only [Bool.false_eq_true, if_false, List.append_nil]
      exact paired_mono (fun b z q => ⟨q.1, hP _ _ _ _ q.2 (ST.Same.but s3 D)⟩) pr
  · have e : i = as.length := by omega
    subst e
    rw [List.take_length] at pr
    exact .inl ⟨w.stops H q, hd H kvs sm hl pr⟩
/-- a for over it: Pv by the turn, the slots and the heap -/
theorem for_c (w : Walk J as.length G (YC as c)) {tb : TS} {E : Ends} {H : Hp} (Pv : Nat → L2.St → Hp → Prop) (h0 : Pv 0 σ H) (hG : ∀ i σ H, i ≤ as.length → Pv i σ H → G H)
    (hs : ∀ (i : Nat) (a : α) σ H, as[i]? = some a → Pv i σ H → g (c a) σ H fun σ2 H2 => tb { E with nx := Pv (i + 1), ct := Pv (i + 1), bk := E.nx } σ2 H2) (hd : ∀ σ H, Pv as.length σ H → E.nx σ H) :
    ∃ W : Nat → Nat → L2.St → Hp → Prop, (∃ m, W 0 m σ H) ∧ ∀ i m σ H, W i m σ H →
      (J.stop i H ∧ E.nx σ H) ∨ (J.go i H ∧ ∃ N : L2.St → Hp → Prop, (∀ σ' H', N σ' H' → ∃ m', m' < m ∧ W (i + 1) m' σ' H') ∧ ∀ x H', J.yld i H x H' → g x σ H' fun σ2 H2 => tb { E with nx := N, ct := N, bk := E.nx } σ2 H2) :=
  for_it w Pv h0 hG (fun i x σ H H' hi p y => by obtain ⟨rfl, a, ha, rfl⟩ := y; exact hs i a σ H' ha p) hd
end
end ST
end
section
set_option Elab.async false
set_option linter.all false
set_option maxRecDepth 100000
set_option maxHeartbeats 1000000
/-! Promises of defs with a star; isinstance; what stands in the heap. -/
namespace ST
open PySem PySem.Spec PyProof.Rows L2 SgO
/-! ### a def f(a, *r) -/
section
variable {w : World} {K : PySem.W.Frag} {mg : Str → Option Value} {base : Heap} {x qual : Str} {st : Stmt} {f : Addr} {N : List Str} {pa pv : Str} {k : Nat} {sp : Sp0}
def starSp (n : Nat) (sp : Sp0) : Sp0 := fun vs H Q => ∃ v rest, vs = v :: rest ∧ rest.length ≤ n ∧ ∀ p, H p = none → sp [v, .ref p] (upd H p (.tup rest)) Q
theorem fnV_by (n : Nat) (F : ∃ fd, FunD K x qual (defArgs st) (defBody st) (defScope st) [] [] f fd) (S : FnScope N [pa, pv] (defScope st)) (hz : n ≤ sizeLine)
    (hb : ∀ (kV doc pm : Value) (an : Option Addr) (cdv ct : Value) (u : Value) (rest : List Value), bindArgs (PySem.W.fnOf x qual (defArgs st) (defBody st) (defScope st) .none kV doc pm an cdv ct) ⟨u :: rest, []⟩ = (newTuple rest >>= fun t => pure [(pa, u), (pv, t)]))
    (hbody : ∀ (cdv : Value) (A : Around) (outer : List Env) (s : Shared) (H : Hp) (vs : List V) (Q : VK), Room k (bx w K mg base N qual st f cdv A outer s H).A → sp vs H Q →
      ∃ t, PSs (bx w K mg base N qual st f cdv A outer s H) (defBody st) t ∧ t { nx := fun _ H' => Q .non H', rt := Q } (L2.start N vs) H) : Fn w K mg base (k + 1) f (starSp n sp) := by
  obtain ⟨fd, F⟩ := F
  obtain ⟨oc, od, dV, kV, doc, pm, an, cdv, ct, osl, rfl, lk, hcd, hd, _⟩ := F.ex
  have hdV : dV = .none := by
    rcases hd with ⟨_, e⟩ | ⟨e, _⟩
    · exact e
    · exact absurd rfl e
  subst hdV
  have z := fn_ofV (CX := CX0) (P := Sg) (w := w) (mg := mg) (base := base) (k := k) (N := N) (nmax := n) (sp := up sp) lk hcd S hz (fun u rest _ => hb kV doc pm an cdv ct u rest) (fun _ _ _ _ _ _ _ _ _ _ _ _ h => h) fun A outer s H vs Q E hr hsp => by
    obtain ⟨t, h1, h2⟩ := hbody cdv A outer s H vs Q hr hsp
    exact ⟨t, PSs.nox h1, h2⟩
  exact z
end
/-! ### isinstance -/
section
variable {K : PySem.W.Frag} {mg : Str → Option Value} {H : Hp} {Q : VK} {x c : V} {b : Bool} {a : Addr}
theorem isi_ii {i : Int} : Isi K H (.int i) (.ty "int") true := ⟨_, _, .ty _, .base (.int _), kit_ty (by decide +kernel)⟩
theorem isi_ib {i : Int} : Isi K H (.int i) (.ty "bool") false := ⟨_, _, .ty _, .base (.int _), kit_ty (by decide +kernel)⟩
theorem isi_ss {z : Str} : Isi K H (.str z) (.ty "str") true := ⟨_, _, .ty _, .base (.str _), kit_ty (by decide +kernel)⟩
theorem isi_tt {xs : List V} (h : H a = some (.tup xs)) : Isi K H (.ref a) (.ty "tuple") true := ⟨_, _, .ty _, .base (.tup h), kit_ty (by decide +kernel)⟩
theorem isi_dd {kvs : List (Key × V)} (h : Rd H a (.dK kvs)) : Isi K H (.ref a) (.ty "dict") true := by
  rcases h with h | ⟨o, h⟩
  · exact ⟨_, _, .ty _, .base (.dK h), kit_ty (by decide +kernel)⟩
  · exact ⟨_, _, .ty _, .fDict h, kit_ty (by decide +kernel)⟩
theorem isi_own (T : Txt K mg) {C dx : Addr} {D : Addr} {fs : List (Str × V)} (h : H a = some (.ins C dx fs)) (cl : Cls K C) (ib : insB K C = true) (e : decide (PySem.W.kitOne K (.ref C) (.ref D) = some b) = true) : Isi K H (.ref a) (.ref D) b :=
  ⟨_, _, .own D, ins_ty T.r_insG ib cl h, of_decide_eq_true e⟩
end
/-! ### streets by value -/
inductive Kd | lane | avenue | road
  deriving DecidableEq
structure Stv where
  k : Kd
  nm : Str
  x : Str
  y : Str
abbrev lowS (x y : Str) : Prop := x.cps.toList < y.cps.toList
/-- the two ends, the lesser first -/
def ord2 (x y : Str) : Str × Str := if decide (lowS x y) = true then (x, y) else (y, x)
/-- a valid name -/
def nmB (z : Str) : Bool := decide (1 ≤ z.cps.size) && (decide (z.cps.size ≤ 8) && z.cps.toList.all fun c => decide (c ∈ ("abcdefghijklmnopqrstuvwxyz" : Str).cps.toList))
abbrev Nm (z : Str) : Prop := nmB z = true
/-- the street stands well: its names, its ends -/
def Stv.Ok (s : Stv) : Prop := Nm s.nm ∧ Nm s.x ∧ Nm s.y ∧ s.x ≠ s.y ∧ (s.k ≠ .lane → ord2 s.x s.y = (s.x, s.y))
section
variable (K : PySem.W.Frag)
def cK : Kd → Addr
  | .lane => He.ga K "Lane"
  | .avenue => He.ga K "Avenue"
  | .road => He.ga K "Road"
/-- a street's fields: b its pair of ends, p and q its prices -/
def stF (s : Stv) (b : Addr) (p q : Int) : List (Str × V) := match s.k with
  | .lane => [("name", .str s.nm), ("both", .ref b), ("start", .str s.x), ("goal", .str s.y)]
  | .avenue => [("name", .str s.nm), ("both", .ref b), ("one", .str s.x), ("other", .str s.y)]
  | .road => [("name", .str s.nm), ("both", .ref b), ("one", .str s.x), ("other", .str s.y), ("there", .int p), ("back", .int q)]
/-- a pair of texts -/
abbrev T2 (H : Hp) (a : Addr) (x y : Str) : Prop := H a = some (.tup [.str x, .str y])
abbrev T3 (H : Hp) (a : Addr) (r : Str × Str × Str) : Prop := H a = some (.tup [.str r.1, .str r.2.1, .str r.2.2])
def SAt (H : Hp) (r : Addr) (s : Stv) : Prop := s.Ok ∧ ∃ dx b p q, T2 H b (ord2 s.x s.y).1 (ord2 s.x s.y).2 ∧ H r = some (.ins (cK K s.k) dx (stF s b p q))
/-- a dict of pairs of texts -/
def PD (H : Hp) (d : Addr) (bs : List ((Str × Str × Str) × Addr)) : Prop := Rd H d (.dK (bs.map fun b => (.inr b.1.1, .ref b.2))) ∧ ∀ b ∈ bs, T2 H b.2 b.1.2.1 b.1.2.2
abbrev txts (H : Hp) (a : Addr) (ns : List Str) : Prop := H a = some (.tup (ns.map V.str))
/-- signs: name, tail, head in the order of the names -/
def SgRd (H : Hp) (a : Addr) (ps : List (Str × Str × Str)) : Prop := ∃ (dx d tp : Addr) (bs : List ((Str × Str × Str) × Addr)), H a = some (.ins (He.ga K "Signs") dx [("own_parts", .ref d), ("own_names", .ref tp)]) ∧ bs.map (·.1) = ps ∧ PD H d bs ∧ txts H tp (ps.map (·.1))
def SgAt (H : Hp) (a : Addr) (ps : List (Str × Str × Str)) : Prop := ∃ (dx d tp : Addr) (bs : List ((Str × Str × Str) × Addr)), H a = some (.ins (He.ga K "Signs") dx [("own_parts", .ref d), ("own_names", .ref tp)]) ∧ bs.map (·.1) = ps ∧ H d = some (.dK (bs.map fun b => (.inr b.1.1, .ref b.2))) ∧ (∀ b ∈ bs, T2 H b.2 b.1.2.1 b.1.2.2) ∧ txts H tp (ps.map (·.1))
/-- a town: its streets in the order of their names -/
def TRd (H : Hp) (t : Addr) (ss : List (Stv × Addr)) : Prop := ∃ dx d tp dc, H t = some (.ins (He.ga K "Town") dx [("own_streets", .ref d), ("own_rows", .ref tp), ("own_corners", .ref dc)]) ∧
  Rd H d (.dK (ss.map fun b => (.inr b.1.nm, .ref b.2))) ∧ H tp = some (.tup (ss.map fun b => .ref b.2)) ∧ ∀ b ∈ ss, SAt K H b.2 b.1
def TAt (H : Hp) (t : Addr) (ss : List (Stv × Addr)) : Prop := ∃ (dx d tp dc : Addr) (cs : List Str), H t = some (.ins (He.ga K "Town") dx [("own_streets", .ref d), ("own_rows", .ref tp), ("own_corners", .ref dc)]) ∧
  H d = some (.dK (ss.map fun b => (.inr b.1.nm, .ref b.2))) ∧ H tp = some (.tup (ss.map fun b => .ref b.2)) ∧ (∀ b ∈ ss, SAt K H b.2 b.1) ∧
  H dc = some (.dK (cs.map fun c => (.inr c, .int 0))) ∧ cs.Nodup ∧ cs.length ≤ 7 ∧ ∀ c, c ∈ cs ↔ ∃ b ∈ ss, c = b.1.x ∨ c = b.1.y
def WAt (H : Hp) (a : Addr) (cs : List Str) : Prop := ∃ dx tp, H a = some (.ins (He.ga K "Ward") dx [("own_corners", .ref tp)]) ∧ txts H tp cs
/-- a list of rows -/
def RowsAt (H : Hp) (r : Addr) (as : List ((Str × Str × Str) × Addr)) : Prop := H r = some (.lst (as.map fun a => .ref a.2)) ∧ ∀ a ∈ as, T3 H a.2 a.1
/-- a tuple of walks -/
def WalksAt (H : Hp) (a : Addr) (ws : List (List Str × Addr)) : Prop := H a = some (.tup (ws.map fun b => .ref b.2)) ∧ ∀ b ∈ ws, txts H b.2 b.1
end
/-! ### what is kept when a dict is locked -/
structure Sees (H H' : Hp) : Prop where
  tup : ∀ b xs, H b = some (.tup xs) → H' b = some (.tup xs)
  ins : ∀ b C dx fs, H b = some (.ins C dx fs) → H' b = some (.ins C dx fs)
  dk : ∀ b kvs, Rd H b (.dK kvs) → Rd H' b (.dK kvs)
theorem Rd.same {H H' : Hp} {a : Addr} {u : HO} (s : Same H H') (r : Rd H a u) : Rd H' a u := by
  rcases r with r | ⟨o, r⟩
  · exact .inl (s _ _ r)
  · exact .inr ⟨o, s _ _ r⟩
theorem sees_same {H H' : Hp} (s : Same H H') : Sees H H' := ⟨fun b _ h => s b _ h, fun b _ _ _ h => s b _ h, fun b _ h => Rd.same s h⟩
theorem Sees.trans {H H1 H2 : Hp} (a : Sees H H1) (b : Sees H1 H2) : Sees H H2 := ⟨fun c _ h => b.tup c _ (a.tup c _ h), fun c _ _ _ h => b.ins c _ _ _ (a.ins c _ _ _ h), fun c _ h => b.dk c _ (a.dk c _ h)⟩
theorem sees_lock {H : Hp} {d : Addr} {kvs : List (Key × V)} {o : Obj} (h : H d = some (.dK kvs)) : Sees H (upd H d (.frz o (.dK kvs))) := by
  refine ⟨fun b xs e => (upd_ne (ne_of e h (fun z => nomatch z))).trans e, fun b C dx fs e => (upd_ne (ne_of e h (fun z => nomatch z))).trans e, fun b ks e => ?_⟩
  by_cases q : b = d
  · subst q
    rcases e with e | ⟨ob, e⟩
    · rw [h] at e
      cases e
      exact .inr ⟨o, upd_same⟩
    · rw [h] at e
      cases e
  · rcases e with e | ⟨ob, e⟩
    · exact .inl ((upd_ne q).trans e)
    · exact .inr ⟨ob, (upd_ne q).trans e⟩
/-- what the lock gave back -/
theorem unlock_same {H H' : Hp} {d : Addr} {u : HO} {o : Obj} (h : H d = some u) (s : Same (upd H d (.frz o u)) H') : Same H (upd H' d u) := fun b v e => by
  by_cases q : b = d
  · subst q
    rw [h] at e
    cases e
    exact upd_same
  · exact (upd_ne q).trans (s b v ((upd_ne q).trans e))
section
variable {K : PySem.W.Frag} {H H' : Hp} {a : Addr}
theorem SAt.sees {s : Stv} (h : SAt K H a s) (e : Sees H H') : SAt K H' a s := let ⟨k, dx, b, p, q, h1, h2⟩ := h; ⟨k, dx, b, p, q, e.tup _ _ h1, e.ins _ _ _ _ h2⟩
theorem SAt.same {s : Stv} (h : SAt K H a s) (e : Same H H') : SAt K H' a s := h.sees (sees_same e)
theorem PD.sees {bs : List ((Str × Str × Str) × Addr)} (h : PD H a bs) (e : Sees H H') : PD H' a bs := ⟨e.dk _ _ h.1, fun b hb => e.tup _ _ (h.2 b hb)⟩
theorem SgRd.sees {ps : List (Str × Str × Str)} (h : SgRd K H a ps) (e : Sees H H') : SgRd K H' a ps := let ⟨dx, d, tp, bs, h1, h2, h3, h4⟩ := h; ⟨dx, d, tp, bs, e.ins _ _ _ _ h1, h2, h3.sees e, e.tup _ _ h4⟩
theorem SgAt.rd {ps : List (Str × Str × Str)} (h : SgAt K H a ps) : SgRd K H a ps := let ⟨dx, d, tp, bs, h1, h2, h3, h4, h5⟩ := h; ⟨dx, d, tp, bs, h1, h2, ⟨.inl h3, h4⟩, h5⟩
theorem SgAt.same {ps : List (Str × Str × Str)} (h : SgAt K H a ps) (e : Same H H') : SgAt K H' a ps := let ⟨dx, d, tp, bs, h1, h2, h3, h4, h5⟩ := h; ⟨dx, d, tp, bs, e _ _ h1, h2, e _ _ h3, fun b hb => e _ _ (h4 b hb), e _ _ h5⟩
theorem TRd.sees {ss : List (Stv × Addr)} (h : TRd K H a ss) (e : Sees H H') : TRd K H' a ss := let ⟨dx, d, tp, dc, h1, h2, h3, h4⟩ := h; ⟨dx, d, tp, dc, e.ins _ _ _ _ h1, e.dk _ _ h2, e.tup _ _ h3, fun b hb => (h4 b hb).sees e⟩
theorem TAt.rd {ss : List (Stv × Addr)} (h : TAt K H a ss) : TRd K H a ss := let ⟨dx, d, tp, dc, cs, h1, h2, h3, h4, h5⟩ := h; ⟨dx, d, tp, dc, h1, .inl h2, h3, h4⟩
theorem TAt.same {ss : List (Stv × Addr)} (h : TAt K H a ss) (e : Same H H') : TAt K H' a ss := let ⟨dx, d, tp, dc, cs, h1, h2, h3, h4, h5, h6⟩ := h; ⟨dx, d, tp, dc, cs, e _ _ h1, e _ _ h2, e _ _ h3, fun b hb => (h4 b hb).same e, e _ _ h5, h6⟩
theorem WAt.same {cs : List Str} (h : WAt K H a cs) (e : Same H H') : WAt K H' a cs := let ⟨dx, tp, h1, h2⟩ := h; ⟨dx, tp, e _ _ h1, e _ _ h2⟩
theorem RowsAt.same {as : List ((Str × Str × Str) × Addr)} (h : RowsAt H a as) (e : Same H H') : RowsAt H' a as := ⟨e _ _ h.1, fun b hb => e _ _ (h.2 b hb)⟩
theorem WalksAt.same {ws : List (List Str × Addr)} (h : WalksAt H a ws) (e : Same H H') : WalksAt H' a ws := ⟨e _ _ h.1, fun b hb => e _ _ (h.2 b hb)⟩
/-- a street's class and fields -/
theorem st_cls {mg : Str → Option Value} (T : Txt K mg) (k : Kd) : Cls K (cK K k) := by
  cases k
  · exact T.cls T.r_c_Lane
  · exact T.cls T.r_c_Avenue
  · exact T.cls T.r_c_Road
theorem st_ins {mg : Str → Option Value} (T : Txt K mg) (k : Kd) : insB K (cK K k) = true := by
  cases k
  · exact T.r_t_Lane
  · exact T.r_t_Avenue
  · exact T.r_t_Road
theorem st_name {mg : Str → Option Value} (T : Txt K mg) (k : Kd) : NoAttr K (cK K k) "name" := by
  cases k
  · exact T.noat T.r_n_Lane_name
  · exact T.noat T.r_n_Avenue_name
  · exact T.noat T.r_n_Road_name
theorem st_both {mg : Str → Option Value} (T : Txt K mg) (k : Kd) : NoAttr K (cK K k) "both" := by
  cases k
  · exact T.noat T.r_n_Lane_both
  · exact T.noat T.r_n_Avenue_both
  · exact T.noat T.r_n_Road_both
theorem stF_name (s : Stv) (b : Addr) (p q : Int) : (stF s b p q).lookup ("name" : Str) = some (V.str s.nm) := by
  unfold stF
  cases s.k <;> rfl
theorem stF_both (s : Stv) (b : Addr) (p q : Int) : (stF s b p q).lookup ("both" : Str) = some (V.ref b) := by
  unfold stF
  cases s.k <;> rfl
end
/-! ### dicts of texts -/
theorem valV_of {α : Type} {k : α → Str} {v : α → V} : ∀ {bs : List α} {b : α}, (bs.map k).Nodup → b ∈ bs → valV (bs.map fun b => ((.inr (k b) : Key), v b)) (.inr (k b)) = some (v b)
  | [], _, _, h => by cases h
  | c :: r, b, hn, h => by
    rw [List.map_cons] at hn ⊢
    obtain ⟨h1, h2⟩ := List.nodup_cons.mp hn
    by_cases e : k c = k b
    · rcases List.mem_cons.mp h with rfl | m
      · exact valV_pos rfl
      · exact absurd (List.mem_map.mpr ⟨b, m, e.symm⟩) h1
    · rw [valV_neg (fun z => e (Sum.inr.inj z))]
      exact valV_of h2 ((List.mem_cons.mp h).resolve_left fun z => e (by rw [z]))
theorem valV_no {α : Type} {k : α → Str} {v : α → V} {x : Str} : ∀ {bs : List α}, (∀ b ∈ bs, k b ≠ x) → valV (bs.map fun b => ((.inr (k b) : Key), v b)) (.inr x) = none
  | [], _ => rfl
  | c :: r, h => by
    rw [List.map_cons, valV_neg (fun z => h c List.mem_cons_self (Sum.inr.inj z))]
    exact valV_no fun b hb => h b (List.mem_cons_of_mem _ hb)
/-! ### small lengths -/
theorem line4 : 1000 ≤ sizeLine := by decide
theorem sz0 : ([] : List V).length ≤ sizeLine := Nat.zero_le _
theorem sz1 {a : V} : [a].length ≤ sizeLine := by show 1 ≤ sizeLine; decide
theorem sz2 {a b : V} : [a, b].length ≤ sizeLine := by show 2 ≤ sizeLine; decide
theorem sz3 {a b c : V} : [a, b, c].length ≤ sizeLine := by show 3 ≤ sizeLine; decide
theorem sz4 {a b c d : V} : [a, b, c, d].length ≤ sizeLine := by show 4 ≤ sizeLine; decide
theorem sz6 {a b c d e f : V} : [a, b, c, d, e, f].length ≤ sizeLine := by show 6 ≤ sizeLine; decide
theorem fun_none {a p : Addr} {H H' : Hp} (b : But a H H') (n : p ≠ a) (h : H' p = none) : H p = none := by
  cases e : H p with
  | none => rfl
  | some o =>
    rw [b p o n e] at h
    cases h
theorem few1 : 1 < 1000 := by decide
theorem few2 : 2 < 1000 := by decide
theorem few3 : 3 < 1000 := by decide
theorem few4 : 4 < 1000 := by decide
theorem few5 : 5 < 1000 := by decide
/-! ### tuples of names as data -/
theorem letters_ok : ∀ c ∈ ("abcdefghijklmnopqrstuvwxyz" : Str).cps.toList, c < 1114112 := by decide +kernel
theorem nm_ok {z : Str} (h : Nm z) : PyData.strOk z = true := by
  obtain ⟨_, h2⟩ := ands h
  obtain ⟨_, h3⟩ := ands h2
  show (z.cps.all fun x => decide (x < 1114112)) = true
  rw [← Array.all_toList]
  exact List.all_eq_true.mpr fun c hc => decide_eq_true (letters_ok c (of_decide_eq_true (List.all_eq_true.mp h3 c hc)))
theorem cl_txts : ∀ ns : List Str, (∀ n ∈ ns, Nm n) → PyData.canLayAll0 (ns.map PyData.str) = true
  | [], _ => by simp [PyData.canLayAll0]
  | n :: r, h => by simp [PyData.canLayAll0, PyData.canLay0, cl_txts r fun m hm => h m (List.mem_cons_of_mem _ hm), nm_ok (h n List.mem_cons_self)]
theorem dp_txts : ∀ ns : List Str, PyData.depthAll (ns.map PyData.str) ≤ 1
  | [] => by simp [PyData.depthAll]
  | n :: r => by simp [PyData.depthAll, PyData.depth]; exact dp_txts r
theorem sh_txts (ns : List Str) (h : ∀ n ∈ ns, Nm n) : SeqAt.shaped (.tuple (ns.map PyData.str)) = true := by
  have q := dp_txts ns
  simp only [SeqAt.shaped, PyData.canLay0, cl_txts ns h, Bool.true_and, decide_eq_true_eq]
  simp only [PyData.depth]
  omega
theorem sh_nil : SeqAt.shaped (.list []) = true := by
  simp [SeqAt.shaped, PyData.canLay0, PyData.canLayAll0, PyData.depth, PyData.depthAll]
theorem eq_txts : ∀ ns ms : List Str, PyData.eqvAll (ns.map PyData.str) (ms.map PyData.str) = decide (ns = ms)
  | [], [] => by simp [PyData.eqvAll]
  | [], _ :: _ => by simp [PyData.eqvAll]
  | _ :: _, [] => by simp [PyData.eqvAll]
  | n :: r, m :: q => by
    simp only [List.map_cons, PyData.eqvAll, eq_txts r q]
    simp only [PyData.eqv, List.cons.injEq, Bool.decide_and]
    rfl
theorem eqv_tt (ns ms : List Str) : PyData.eqv (.tuple (ns.map PyData.str)) (.tuple (ms.map PyData.str)) = decide (ns = ms) := by
  rw [PyData.eqv]; exact eq_txts ns ms
theorem dpa_txts {K : PySem.W.Frag} {H : Hp} : ∀ ns : List Str, DpAll K H (ns.map V.str) (ns.map PyData.str)
  | [] => .nil
  | n :: r => .cons (.str n) (dpa_txts r)
theorem dp_tt {K : PySem.W.Frag} {H : Hp} {a : Addr} {ns : List Str} (h : H a = some (.tup (ns.map V.str))) : Dp K H (.ref a) (.tuple (ns.map PyData.str)) := .tup (SqT.of h) (dpa_txts ns)
theorem eqv_nt (ns : List PyData) : PyData.eqv .none (.tuple ns) = false := by
  rw [PyData.eqv] <;> intros <;> simp_all
theorem ne_of_none' {H : Hp} {a b : Addr} {o : HO} (h : H a = none) (h' : H b = some o) : a ≠ b := fun e => by
  rw [e, h'] at h
  cases h
end ST
end
section
set_option Elab.async false
set_option linter.all false
set_option maxHeartbeats 1000000
/-! Plain: lists in order, lists by their names. -/
namespace ST
open PySem PySem.Spec PyProof.Rows L2
theorem lowS_trans {a b c : Str} (h1 : lowS a b) (h2 : lowS b c) : lowS a c := List.lt_trans h1 h2
theorem lowS_irrefl (a : Str) : ¬ lowS a a := List.lt_irrefl _
theorem lowS_total {a b : Str} (h : a ≠ b) : lowS a b ∨ lowS b a := by
  by_cases h1 : lowS a b
  · exact .inl h1
  · by_cases h2 : lowS b a
    · exact .inr h2
    · exfalso
      have e : a.cps.toList = b.cps.toList := List.le_antisymm (List.not_lt.mp h2) (List.not_lt.mp h1)
      obtain ⟨x⟩ := a
      obtain ⟨y⟩ := b
      have e : x.toList = y.toList := e
      rw [Array.toList_inj.mp e] at h
      exact h rfl
/-- strictly rising -/
abbrev Asc (ys : List Str) : Prop := ys.Pairwise lowS
theorem rising_asc : ∀ {p : Str} {ys : List Str}, risingS p ys = true → (p :: ys).Nodup → Asc (p :: ys)
  | p, [], _, _ => by simp
  | p, y :: r, h, n => by
    obtain ⟨h1, h2⟩ := ands (show (!ltCps y.cps.toList p.cps.toList && risingS y r) = true from h)
    obtain ⟨n1, n2⟩ := List.nodup_cons.mp n
    have ih := rising_asc h2 n2
    have lt : lowS p y := by
      have e : p ≠ y := fun z => n1 (z ▸ List.mem_cons_self)
      rcases lowS_total e with z | z
      · exact z
      · rw [ltCps_eq, decide_eq_true z] at h1
        cases h1
    refine List.pairwise_cons.mpr ⟨fun z hz => ?_, ih⟩
    rcases List.mem_cons.mp hz with rfl | m
    · exact lt
    · exact lowS_trans lt ((List.pairwise_cons.mp ih).1 z m)
theorem sorted_asc {ys : List Str} (h : sortedS ys = true) (n : ys.Nodup) : Asc ys := by
  cases ys with
  | nil => exact .nil
  | cons p r => exact rising_asc h n
theorem Asc.nodup {ys : List Str} (h : Asc ys) : ys.Nodup := List.Pairwise.imp (fun {a b} (hab : lowS a b) (e : a = b) => lowS_irrefl b (e ▸ hab)) h
/-- two rising lists of the same members -/
theorem asc_ext : ∀ {xs ys : List Str}, Asc xs → Asc ys → (∀ z, z ∈ xs ↔ z ∈ ys) → xs = ys
  | [], [], _, _, _ => rfl
  | [], y :: _, _, _, h => absurd ((h y).mpr List.mem_cons_self) (by simp)
  | x :: _, [], _, _, h => absurd ((h x).mp List.mem_cons_self) (by simp)
  | x :: r, y :: q, hx, hy, h => by
    obtain ⟨hx1, hx2⟩ := List.pairwise_cons.mp hx
    obtain ⟨hy1, hy2⟩ := List.pairwise_cons.mp hy
    have e : x = y := by
      rcases List.mem_cons.mp ((h x).mp List.mem_cons_self) with e | m
      · exact e
      · rcases List.mem_cons.mp ((h y).mpr List.mem_cons_self) with e | m'
        · exact e.symm
        · exact absurd (lowS_trans (hx1 y m') (hy1 x m)) (lowS_irrefl _)
    subst e
    rw [asc_ext hx2 hy2 fun z => ?_]
    constructor
    · intro m
      rcases List.mem_cons.mp ((h z).mp (List.mem_cons_of_mem _ m)) with e | m'
      · exact absurd (hx1 z m) (e ▸ lowS_irrefl _)
      · exact m'
    · intro m
      rcases List.mem_cons.mp ((h z).mpr (List.mem_cons_of_mem _ m)) with e | m'
      · exact absurd (hy1 z m) (e ▸ lowS_irrefl _)
      · exact m'
theorem fold_nd : ∀ {xs l : List Str}, (l ++ xs).Nodup → xs.foldl SgT.addT l = l ++ xs
  | [], l, _ => by simp
  | x :: r, l, h => by
    rw [List.foldl_cons]
    have hx : x ∉ l := fun m => by
      have := (List.nodup_append.mp h).2.2 x m x List.mem_cons_self
      exact this rfl
    have e : SgT.addT l x = l ++ [x] := by unfold SgT.addT; rw [if_neg hx]
    rw [e, fold_nd (by rw [List.append_assoc]; exact h), List.append_assoc]
    rfl
theorem ded_self {xs : List Str} (h : xs.Nodup) : SgT.dedT xs = xs := by
  unfold SgT.dedT
  rw [fold_nd (by simpa using h)]
  rfl
/-- a permutation of the names is one of the things -/
theorem perm_lift {α β : Type} {f : α → β} : ∀ {xs ys : List β}, xs.Perm ys → ∀ as : List α, as.map f = ys → ∃ bs : List α, bs.Perm as ∧ bs.map f = xs := by
  intro xs ys h
  induction h with
  | nil => exact fun as e => ⟨[], by rw [List.map_eq_nil_iff.mp e], rfl⟩
  | cons x _ ih =>
    intro as e
    match as, e with
    | a :: r, e =>
      rw [List.map_cons] at e
      injection e with e1 e2
      obtain ⟨bs, p, q⟩ := ih r e2
      exact ⟨a :: bs, p.cons a, by rw [List.map_cons, q, e1]⟩
  | swap x y l =>
    intro as e
    match as, e with
    | a :: b :: r, e =>
      simp only [List.map_cons] at e
      injection e with e1 e2
      injection e2 with e2 e3
      exact ⟨b :: a :: r, .swap a b r, by simp only [List.map_cons]; rw [e1, e2, e3]⟩
  | trans _ _ ih1 ih2 =>
    intro as e
    obtain ⟨bs, p, q⟩ := ih2 as e
    obtain ⟨cs, p', q'⟩ := ih1 bs q
    exact ⟨cs, p'.trans p, q'⟩
/-- the one of that name -/
theorem filter_one {α : Type} {f : α → Str} : ∀ {bs : List α} {b : α}, (bs.map f).Nodup → b ∈ bs → bs.filter (fun c => decide (f c = f b)) = [b]
  | [], _, _, h => by cases h
  | c :: r, b, hn, h => by
    rw [List.map_cons] at hn
    obtain ⟨h1, h2⟩ := List.nodup_cons.mp hn
    by_cases e : f c = f b
    · have hb : b = c := by
        rcases List.mem_cons.mp h with e' | m
        · exact e'
        · exact absurd (List.mem_map.mpr ⟨b, m, e.symm⟩) h1
      subst hb
      rw [List.filter_cons, if_pos (by simp)]
      congr 1
      exact List.filter_eq_nil_iff.mpr fun c hc z => h1 (List.mem_map.mpr ⟨c, hc, of_decide_eq_true z⟩)
    · rw [List.filter_cons, if_neg (by simp [e])]
      exact filter_one h2 ((List.mem_cons.mp h).resolve_left fun z => e (by rw [z]))
end ST
end
section
set_option Elab.async false
set_option linter.all false
set_option maxRecDepth 100000
set_option maxHeartbeats 1000000
/-! Numbers, names, prices. -/
namespace ST
open PySem PySem.Spec PyProof.Rows L2 SgO
section
variable {w : World} {K : PySem.W.Frag} {mg : Str → Option Value} {base : Heap}
theorem nm_parts {z : Str} (h : Nm z) : 1 ≤ z.cps.size ∧ z.cps.size ≤ 8 ∧ ∀ c ∈ z.cps.toList, c ∈ ("abcdefghijklmnopqrstuvwxyz" : Str).cps.toList := by
  obtain ⟨h1, h2⟩ := ands h
  obtain ⟨h2, h3⟩ := ands h2
  exact ⟨of_decide_eq_true h1, of_decide_eq_true h2, fun c hc => of_decide_eq_true (List.all_eq_true.mp h3 c hc)⟩
theorem all_tt {α : Type} (l : List α) : (l.map fun _ => true).all id = true := by simp
def sp_is_int : Sp0 := fun vs H Q => ∃ i, vs = [.int i] ∧ Q (.bl true) H
abbrev n_is_int : List Str := ["value"]
theorem sc_is_int : FnScope n_is_int ["value"] (defScope s_is_int) := ⟨rfl, rfl, rfl, by decide +kernel, rfl, by decide +kernel, by decide +kernel⟩
theorem fn_is_int (T : Txt K mg) : Fn w K mg base 1 (a_is_int K) sp_is_int := by
  refine fn_by (N := n_is_int) (ps := ["value"]) (st := s_is_int) (T.fn 0 rfl) sc_is_int (fun _ _ _ _ _ _ us hl => match us, hl with | [_], _ => rfl) (by rintro vs H Q ⟨i, rfl, q⟩; rfl) fun cdv A outer s H vs Q hr h => ?_
  obtain ⟨i, rfl, q⟩ := h
  refine ⟨_, pss_one (ps_ret (pe_and (pe_callB (isi_ K) (by rfl) (T.free T.r_f_isinstance) bb_isinstance (pa_cons (pv 0) (pa_cons (pe_bT (T.free T.r_f_int) bb_int) pa_nil))) (pe_one (pe_not (pe_callB (isi_ K) (by rfl) (T.free T.r_f_isinstance) bb_isinstance (pa_cons (pv 0) (pa_cons (pe_bT (T.free T.r_f_bool) bb_bool) pa_nil))))))), ?_⟩
  refine ⟨_, rfl, ?_⟩
  refine ⟨_, _, _, rfl, isi_ii, ?_⟩
  refine ⟨_, rfl, iteT ?_⟩
  refine ⟨_, rfl, ?_⟩
  refine ⟨_, _, _, rfl, isi_ib, ?_⟩
  exact ⟨_, rfl, q⟩
def sp_is_between : Sp0 := fun vs H Q => ∃ i a b, vs = [.int i, .int a, .int b] ∧ a ≤ i ∧ i ≤ b ∧ Q (.bl true) H
abbrev n_is_between : List Str := ["value", "least", "most"]
theorem sc_is_between : FnScope n_is_between ["value", "least", "most"] (defScope s_is_between) := ⟨rfl, rfl, rfl, by decide +kernel, rfl, by decide +kernel, by decide +kernel⟩
theorem fn_is_between (T : Txt K mg) : Fn w K mg base 2 (a_is_between K) sp_is_between := by
  refine fn_by (N := n_is_between) (ps := ["value", "least", "most"]) (st := s_is_between) (T.fn 1 rfl) sc_is_between (fun _ _ _ _ _ _ us hl => match us, hl with | [_, _, _], _ => rfl) (by rintro vs H Q ⟨i, a, b, rfl, ha, hb, q⟩; rfl) fun cdv A outer s H vs Q hr h => ?_
  obtain ⟨i, a, b, rfl, ha, hb, q⟩ := h
  refine ⟨_, pss_one (ps_ret (pe_and (pe_fn (fn_is_int T) hr (by decide) (by rfl) (T.glo T.r_g_is_int) (T.kp 0 rfl) (pa_cons (pv 0) pa_nil)) (pe_one (pe_chain op_le op_le (pv 1) (pv 0) (pv 2))))), ?_⟩
  refine ⟨_, rfl, _, rfl, _, rfl, iteT ?_⟩
  refine ⟨_, rfl, _, rfl, _, _, rfl, rfl, _, rfl, ?_⟩
  rw [decide_eq_true ha]
  refine iteT ⟨_, rfl, _, _, rfl, rfl, ?_⟩
  show Q (.bl (decide (i ≤ b))) H
  rw [decide_eq_true hb]
  exact q
def sp_is_name : Sp0 := fun vs H Q => ∃ z, vs = [.str z] ∧ Nm z ∧ ∀ H', Same H H' → Q (.bl true) H'
abbrev n_is_name : List Str := ["value", "letter"]
theorem sc_is_name : FnScope n_is_name ["value"] (defScope s_is_name) := ⟨rfl, rfl, rfl, by decide +kernel, rfl, by decide +kernel, by decide +kernel⟩
theorem fn_is_name (T : Txt K mg) : Fn w K mg base 1 (a_is_name K) sp_is_name := by
  refine fn_by (N := n_is_name) (ps := ["value"]) (st := s_is_name) (T.fn 2 rfl) sc_is_name (fun _ _ _ _ _ _ us hl => match us, hl with | [_], _ => rfl) (by rintro vs H Q ⟨z, rfl, hz, q⟩; rfl) fun cdv A outer s H vs Q hr h => ?_
  obtain ⟨z, rfl, hz, q⟩ := h
  refine ⟨_, pss_cons (ps_if (PW.pt (pw_or (pt_not (pt_val (pe_callB (isi_ K) (by rfl) (T.free T.r_f_isinstance) bb_isinstance (pa_cons (pv 0) (pa_cons (pe_bT (T.free T.r_f_str) bb_str) pa_nil))))) (pw_or1 (pt_not (pt_chain op_le op_le pe_int (pe_callB call_len_str (by rfl) (T.free T.r_f_len) bb_len (pa_cons (pv 0) pa_nil)) (pe_gI (T.int T.r_i_MOST_LETTERS))))))) (pss_one (ps_ret (pe_bl))) (pss_nil))
  (pss_one (ps_ret (pe_callB (all_ K) (by rfl) (T.free T.r_f_all) bb_all (pa_cons (pe_lc (own := [("letter", 1)]) rfl sc_is_name.nd (pi_str (pv 0)) (blkOk_by (own := [("letter", 1)]) (N := n_is_name) (sc := defScope s_is_name) (by decide +kernel)) (fun _ _ _ _ _ => pg_name (i := 1) sc_is_name.nd rfl (by first | exact .inl rfl | exact .inr rfl)) (fun _ _ _ _ _ => pts_nil) (fun _ _ _ _ _ => pe_cmpR op_in_sign (pv 1) (pe_gS (T.str T.r_i_LETTERS)) (by first | rfl | exact nomark _))) pa_nil)))), ?_⟩
  obtain ⟨h1, h8, hm⟩ := nm_parts hz
  refine ⟨_, rfl, _, _, _, rfl, isi_ss, _, rfl, iteF ?_⟩
  refine ⟨_, rfl, _, rfl, by show z.cps.size ≤ _; exact Nat.le_trans h8 (by decide), _, _, rfl, rfl, _, rfl, ?_⟩
  rw [decide_eq_true (show (1 : Int) ≤ (z.length : Int) from Int.ofNat_le.mpr h1)]
  refine iteT ⟨_, _, rfl, rfl, _, rfl, ?_⟩
  rw [decide_eq_true (show (z.length : Int) ≤ 8 from Int.ofNat_le.mpr h8)]
  refine iteF ?_
  refine ⟨_, rfl, _, rfl, fun D hD => ?_⟩
  refine lc_pure (as := z.cps.toList) (c := fun ch => .str ⟨#[ch]⟩) src_s (fun _ => true) (fun _ => .bl true) hD (fun _ _ => trivial) (by rw [Array.length_toList]; exact Nat.lt_of_le_of_lt h8 (by decide)) (fun i a H1 Kt Kf ha sm k1 k2 => ?_) fun H1 sm hl => ?_
  · refine ⟨rfl, ?_⟩
    refine ⟨_, rfl, _, _, rfl, rfl, ?_⟩
    rw [decide_eq_true (hm a (List.mem_of_getElem? ha))]
    exact k1 H1 rfl (Same.refl _)
  · refine ⟨D, z.cps.toList.map fun _ => true, rfl, SqL.of (by rw [hl, List.filter_eq_self.mpr fun _ _ => rfl, List.map_map]; rfl), ?_⟩
    show Q (.bl ((z.cps.toList.map fun _ => true).all id)) H1
    rw [all_tt]
    exact q H1 sm
def sp_is_price : Sp0 := fun vs H Q => ∃ i, vs = [.int i] ∧ -999999999999 ≤ i ∧ i ≤ 999999999999 ∧ Q (.bl true) H
abbrev n_is_price : List Str := ["value"]
theorem sc_is_price : FnScope n_is_price ["value"] (defScope s_is_price) := ⟨rfl, rfl, rfl, by decide +kernel, rfl, by decide +kernel, by decide +kernel⟩
theorem fn_is_price (T : Txt K mg) : Fn w K mg base 3 (a_is_price K) sp_is_price := by
  refine fn_by (N := n_is_price) (ps := ["value"]) (st := s_is_price) (T.fn 3 rfl) sc_is_price (fun _ _ _ _ _ _ us hl => match us, hl with | [_], _ => rfl) (by rintro vs H Q ⟨i, rfl, ha, hb, q⟩; rfl) fun cdv A outer s H vs Q hr h => ?_
  obtain ⟨i, rfl, ha, hb, q⟩ := h
  refine ⟨_, pss_one (ps_ret (pe_fn (fn_is_between T) hr (by decide) (by rfl) (T.glo T.r_g_is_between) (T.kp 1 rfl) (pa_cons (pv 0) (pa_cons (pe_un un_neg (pe_gI (T.int T.r_i_MOST_PRICE))) (pa_cons (pe_gI (T.int T.r_i_MOST_PRICE)) pa_nil))))), ?_⟩
  exact ⟨_, rfl, _, rfl, i, _, _, rfl, ha, hb, q⟩
def sp_is_need : Sp0 := fun vs H Q => ∃ i, vs = [.int i] ∧ 1 ≤ i ∧ i ≤ 20 ∧ Q (.bl true) H
abbrev n_is_need : List Str := ["value"]
theorem sc_is_need : FnScope n_is_need ["value"] (defScope s_is_need) := ⟨rfl, rfl, rfl, by decide +kernel, rfl, by decide +kernel, by decide +kernel⟩
theorem fn_is_need (T : Txt K mg) : Fn w K mg base 3 (a_is_need K) sp_is_need := by
  refine fn_by (N := n_is_need) (ps := ["value"]) (st := s_is_need) (T.fn 4 rfl) sc_is_need (fun _ _ _ _ _ _ us hl => match us, hl with | [_], _ => rfl) (by rintro vs H Q ⟨i, rfl, ha, hb, q⟩; rfl) fun cdv A outer s H vs Q hr h => ?_
  obtain ⟨i, rfl, ha, hb, q⟩ := h
  refine ⟨_, pss_one (ps_ret (pe_fn (fn_is_between T) hr (by decide) (by rfl) (T.glo T.r_g_is_between) (T.kp 1 rfl) (pa_cons (pv 0) (pa_cons pe_int (pa_cons (pe_gI (T.int T.r_i_MOST_NEED)) pa_nil))))), ?_⟩
  exact ⟨_, rfl, i, _, _, rfl, ha, hb, q⟩
end
end ST
end
section
set_option Elab.async false
set_option linter.all false
set_option maxRecDepth 100000
set_option maxHeartbeats 1000000
/-! Signs' values, streets. -/
namespace ST
open PySem PySem.Spec PyProof.Rows L2 SgO
section
variable {w : World} {K : PySem.W.Frag} {mg : Str → Option Value} {base : Heap}
def sp_is_sign : Sp0 := fun vs H Q => ∃ a x y, vs = [.ref a] ∧ T2 H a x y ∧ Nm x ∧ Nm y ∧ x ≠ y ∧ ∀ H', Same H H' → Q (.bl true) H'
abbrev n_is_sign : List Str := ["value"]
theorem sc_is_sign : FnScope n_is_sign ["value"] (defScope s_is_sign) := ⟨rfl, rfl, rfl, by decide +kernel, rfl, by decide +kernel, by decide +kernel⟩
theorem fn_is_sign (T : Txt K mg) : Fn w K mg base 2 (a_is_sign K) sp_is_sign := by
  refine fn_by (N := n_is_sign) (ps := ["value"]) (st := s_is_sign) (T.fn 5 rfl) sc_is_sign (fun _ _ _ _ _ _ us hl => match us, hl with | [_], _ => rfl) (by rintro vs H Q ⟨a, x, y, rfl, h2, hx, hy, hn, q⟩; rfl) fun cdv A outer s H vs Q hr h => ?_
  obtain ⟨a, x, y, rfl, h2, hx, hy, hn, q⟩ := h
  refine ⟨_, pss_cons (ps_if (PW.pt (pw_or (pt_not (pt_val (pe_callB (isi_ K) (by rfl) (T.free T.r_f_isinstance) bb_isinstance (pa_cons (pv 0) (pa_cons (pe_bT (T.free T.r_f_tuple) bb_tuple) pa_nil))))) (pw_or1 (pt_cmpR op_ne (pe_callB (lenQ_ K) (by rfl) (T.free T.r_f_len) bb_len (pa_cons (pv 0) pa_nil)) (pe_gI (T.int T.r_i_PAIR)) (by first | rfl | exact nomark _))))) (pss_one (ps_ret (pe_bl))) (pss_nil))
  (pss_one (ps_ret (pe_and (pe_fn (fn_is_name T) hr (by decide) (by rfl) (T.glo T.r_g_is_name) (T.kp 2 rfl) (pa_cons (pe_ix (ixT_ K) (pv 0) pe_int (fun _ _ => rfl)) pa_nil)) (pe_and (pe_fn (fn_is_name T) hr (by decide) (by rfl) (T.glo T.r_g_is_name) (T.kp 2 rfl) (pa_cons (pe_ix (ixT_ K) (pv 0) pe_int (fun _ _ => rfl)) pa_nil)) (pe_one (pe_cmpR op_ne (pe_ix (ixT_ K) (pv 0) pe_int (fun _ _ => rfl)) (pe_ix (ixT_ K) (pv 0) pe_int (fun _ _ => rfl)) (by first | rfl | exact nomark _))))))), ?_⟩
  refine ⟨_, rfl, _, _, _, rfl, isi_tt h2, _, rfl, ?_⟩
  refine ⟨_, rfl, _, _, rfl, .inr (SqT.of h2), rfl, _, rfl, ?_⟩
  refine ⟨_, rfl, _, _, _, _, rfl, rfl, SqT.of h2, rfl, x, rfl, hx, fun H1 s1 => ⟨_, rfl, ?_⟩⟩
  refine ⟨_, rfl, _, _, _, _, rfl, rfl, SqT.of (s1 _ _ h2), rfl, y, rfl, hy, fun H2 s2 => ⟨_, rfl, ?_⟩⟩
  have h3 := s2 _ _ (s1 _ _ h2)
  refine ⟨_, rfl, _, _, _, _, rfl, rfl, SqT.of h3, rfl, _, rfl, _, _, _, _, rfl, rfl, SqT.of h3, rfl, rfl, ?_⟩
  rw [decide_eq_false (fun e => hn (V.str.inj e))]
  exact q _ (s1.trans s2)
def sp_need_ends : Sp0 := fun vs H Q => ∃ n x y, vs = [.str n, .str x, .str y] ∧ Nm n ∧ Nm x ∧ Nm y ∧ x ≠ y ∧ ∀ H', Same H H' → Q .non H'
abbrev n_need_ends : List Str := ["name", "first", "second"]
theorem sc_need_ends : FnScope n_need_ends ["name", "first", "second"] (defScope s_need_ends) := ⟨rfl, rfl, rfl, by decide +kernel, rfl, by decide +kernel, by decide +kernel⟩
theorem fn_need_ends (T : Txt K mg) : Fn w K mg base 2 (a_need_ends K) sp_need_ends := by
  refine fn_by (N := n_need_ends) (ps := ["name", "first", "second"]) (st := s_need_ends) (T.fn 6 rfl) sc_need_ends (fun _ _ _ _ _ _ us hl => match us, hl with | [_, _, _], _ => rfl) (by rintro vs H Q ⟨n, x, y, rfl, hn, hx, hy, ne, q⟩; rfl) fun cdv A outer s H vs Q hr h => ?_
  obtain ⟨n, x, y, rfl, hn, hx, hy, ne, q⟩ := h
  refine ⟨_, pss_cons (ps_if (pt_not (pt_val (pe_fn (fn_is_name T) hr (by decide) (by rfl) (T.glo T.r_g_is_name) (T.kp 2 rfl) (pa_cons (pv 0) pa_nil)))) (pss_one (ps_never)) (pss_nil))
  (pss_cons (ps_if (PW.pt (pw_or (pt_not (pt_val (pe_fn (fn_is_name T) hr (by decide) (by rfl) (T.glo T.r_g_is_name) (T.kp 2 rfl) (pa_cons (pv 1) pa_nil)))) (pw_or1 (pt_not (pt_val (pe_fn (fn_is_name T) hr (by decide) (by rfl) (T.glo T.r_g_is_name) (T.kp 2 rfl) (pa_cons (pv 2) pa_nil))))))) (pss_one (ps_never)) (pss_nil))
  (pss_one (ps_if (pt_cmpR op_eq (pv 1) (pv 2) (by first | rfl | exact nomark _)) (pss_one (ps_never)) (pss_nil)))), ?_⟩
  refine ⟨_, rfl, n, rfl, hn, fun H1 s1 => ⟨_, rfl, ?_⟩⟩
  refine ⟨_, rfl, x, rfl, hx, fun H2 s2 => ⟨_, rfl, ?_⟩⟩
  refine ⟨_, rfl, y, rfl, hy, fun H3 s3 => ⟨_, rfl, ?_⟩⟩
  refine ⟨_, rfl, _, rfl, rfl, _, rfl, ?_⟩
  rw [decide_eq_false (fun e => ne (V.str.inj e))]
  exact iteF (q _ ((s1.trans s2).trans s3))
def sp_need_prices : Sp0 := fun vs H Q => ∃ a b : Int, vs = [.int a, .int b] ∧ (-999999999999 ≤ a ∧ a ≤ 999999999999) ∧ (-999999999999 ≤ b ∧ b ≤ 999999999999) ∧ ∀ H', Same H H' → Q .non H'
abbrev n_need_prices : List Str := ["there", "back", "value"]
theorem sc_need_prices : FnScope n_need_prices ["there", "back"] (defScope s_need_prices) := ⟨rfl, rfl, rfl, by decide +kernel, rfl, by decide +kernel, by decide +kernel⟩
theorem fn_need_prices (T : Txt K mg) : Fn w K mg base 4 (a_need_prices K) sp_need_prices := by
  refine fn_by (N := n_need_prices) (ps := ["there", "back"]) (st := s_need_prices) (T.fn 7 rfl) sc_need_prices (fun _ _ _ _ _ _ us hl => match us, hl with | [_, _], _ => rfl) (by rintro vs H Q ⟨a, b, rfl, ha, hb, q⟩; rfl) fun cdv A outer s H vs Q hr h => ?_
  obtain ⟨a, b, rfl, ha, hb, q⟩ := h
  refine ⟨_, pss_one (ps_for PassesOwn.never rfl (piT_ K (pe_tup (pa_cons (pv 0) (pa_cons (pv 1) pa_nil)))) (pg_name (i := 2) sc_need_prices.nd rfl (by first | exact .inl rfl | exact .inr rfl)) (pss_one (ps_if (pt_not (pt_val (pe_fn (fn_is_price T) hr (by decide) (by rfl) (T.glo T.r_g_is_price) (T.kp 3 rfl) (pa_cons (pv 2) pa_nil)))) (pss_one (ps_never)) (pss_nil)))), ?_⟩
  refine ⟨_, rfl, _, rfl, sz2, fun p hp => ?_⟩
  refine ⟨_, rfl, ⟨_, SqT.of upd_same⟩, ?_⟩
  refine for_c (as := [a, b]) (c := V.int) src_t (fun _ σ H' => (∃ v, σ = [some (.int a), some (.int b), v]) ∧ Same (upd H p (.tup [.int a, .int b])) H') ⟨⟨_, rfl⟩, Same.refl _⟩ (fun i σ H' _ h => SqT.of (h.2 _ _ upd_same)) (fun i z σ H' hz ⟨⟨v, e⟩, h⟩ => ?_) fun σ H' h => ?_
  · have hz' : -999999999999 ≤ z ∧ z ≤ 999999999999 := by
      rcases List.mem_cons.mp (List.mem_of_getElem? hz) with rfl | m
      · exact ha
      · rcases List.mem_cons.mp m with rfl | m
        · exact hb
        · cases m
    subst e
    exact ⟨_, rfl, z, rfl, hz'.1, hz'.2, _, rfl, ⟨_, rfl⟩, h⟩
  · exact q H' ((same_upd hp).trans h.2)
def sp_Street_init (K : PySem.W.Frag) : Sp0 := fun vs H Q => ∃ (a : Addr) (k : Kd) (dx : Addr) (n x y : Str), vs = [.ref a, .str n, .str x, .str y] ∧ H a = some (.ins (cK K k) dx []) ∧ Nm n ∧ Nm x ∧ Nm y ∧ x ≠ y ∧
  ∀ (H' : Hp) (b : Addr), But a H H' → T2 H' b (ord2 x y).1 (ord2 x y).2 → H' a = some (.ins (cK K k) dx [("name", .str n), ("both", .ref b)]) → Q .non H'
abbrev n_Street_init : List Str := ["self", "name", "first", "second"]
theorem sc_Street_init : FnScope n_Street_init ["self", "name", "first", "second"] (defScope s_Street_init) := ⟨rfl, rfl, rfl, by decide +kernel, rfl, by decide +kernel, by decide +kernel⟩
theorem fn_Street_init (T : Txt K mg) : Fn w K mg base 3 (a_Street_init K) (sp_Street_init K) := by
  refine fn_by (N := n_Street_init) (ps := ["self", "name", "first", "second"]) (st := s_Street_init) (T.fn 51 rfl) sc_Street_init (fun _ _ _ _ _ _ us hl => match us, hl with | [_, _, _, _], _ => rfl) (by rintro vs H Q ⟨a, k, dx, n, x, y, rfl, ha, hn, hx, hy, ne, q⟩; rfl) fun cdv A outer s H vs Q hr h => ?_
  obtain ⟨a, k, dx, n, x, y, rfl, ha, hn, hx, hy, ne, q⟩ := h
  refine ⟨_, pss_cons (ps_expr (pe_fn (fn_need_ends T) hr (by decide) (by rfl) (T.glo T.r_g_need_ends) (T.kp 6 rfl) (pa_cons (pv 1) (pa_cons (pv 2) (pa_cons (pv 3) pa_nil)))))
  (pss_cons (sfld_ K (pv 0) (pv 1))
  (pss_one (sfld_ K (pv 0) (pe_ifExp (pt_cmpR op_lt_str (pv 2) (pv 3) (by first | rfl | exact nomark _)) (pe_tup (pa_cons (pv 2) (pa_cons (pv 3) pa_nil))) (pe_tup (pa_cons (pv 3) (pa_cons (pv 2) pa_nil))))))), ?_⟩
  refine ⟨_, rfl, _, rfl, _, rfl, n, x, y, rfl, hn, hx, hy, ne, fun H1 s1 => ?_⟩
  refine ⟨_, rfl, _, rfl, a, _, dx, [], rfl, s1 _ _ ha, st_cls T k, st_name T k, by decide, ?_⟩
  have b1 : But a H (upd H1 a (.ins (cK K k) dx (putF "name" (.str n) []))) := (ST.Same.but s1 a).upd
  refine ⟨_, rfl, _, rfl, _, _, rfl, rfl, _, rfl, ?_⟩
  have fin : ∀ (p : Addr) (u v : Str), ord2 x y = (u, v) → upd H1 a (.ins (cK K k) dx (putF "name" (.str n) [])) p = none → Q .non (upd (upd (upd H1 a (.ins (cK K k) dx (putF "name" (.str n) []))) p (.tup [.str u, .str v])) a (.ins (cK K k) dx (putF "both" (.ref p) (putF "name" (.str n) [])))) := by
    intro p u v e hp
    have na : p ≠ a := fun e => by rw [e, upd_same] at hp; cases hp
    refine q _ p ((b1.upd' (fun_none b1 na hp)).upd) ?_ upd_same
    rw [e]
    exact (upd_ne na).trans upd_same
  refine ite2 (fun c => ?_) fun c => ?_
  · refine ⟨_, rfl, _, rfl, sz2, fun p hp => ⟨_, rfl, a, _, dx, _, rfl, (upd_ne (fun e => by rw [← e, upd_same] at hp; cases hp)).trans upd_same, st_cls T k, st_both T k, few1, fin p x y ?_ hp⟩⟩
    unfold ord2
    rw [if_pos c]
  · refine ⟨_, rfl, _, rfl, sz2, fun p hp => ⟨_, rfl, a, _, dx, _, rfl, (upd_ne (fun e => by rw [← e, upd_same] at hp; cases hp)).trans upd_same, st_cls T k, st_both T k, few1, fin p y x ?_ hp⟩⟩
    unfold ord2
    rw [if_neg c]
def sp_Street_ends (K : PySem.W.Frag) : Sp0 := fun vs H Q => ∃ (a : Addr) (s : Stv), vs = [.ref a] ∧ SAt K H a s ∧ ∀ b, T2 H b (ord2 s.x s.y).1 (ord2 s.x s.y).2 → Q (.ref b) H
abbrev n_Street_ends : List Str := ["self"]
theorem sc_Street_ends : FnScope n_Street_ends ["self"] (defScope s_Street_ends) := ⟨rfl, rfl, rfl, by decide +kernel, rfl, by decide +kernel, by decide +kernel⟩
theorem fn_Street_ends (T : Txt K mg) : Fn w K mg base 1 (a_Street_ends K) (sp_Street_ends K) := by
  refine fn_by (N := n_Street_ends) (ps := ["self"]) (st := s_Street_ends) (T.fn 52 rfl) sc_Street_ends (fun _ _ _ _ _ _ us hl => match us, hl with | [_], _ => rfl) (by rintro vs H Q ⟨a, s, rfl, ⟨_, dx, b, p, q', hb, ha⟩, q⟩; rfl) fun cdv A outer s H vs Q hr h => ?_
  obtain ⟨a, s, rfl, ⟨_, dx, b, p, q', hb, ha⟩, q⟩ := h
  refine ⟨_, pss_one (ps_ret (fld_ K (pv 0))), ?_⟩
  exact ⟨_, rfl, a, _, dx, _, _, rfl, ha, st_cls T _, st_both T _, stF_both _ _ _ _, q b hb⟩
theorem ord2_nm {s : Stv} (h : s.Ok) : ∀ n ∈ [(ord2 s.x s.y).1, (ord2 s.x s.y).2], Nm n := by
  obtain ⟨_, h2, h3, _⟩ := h
  unfold ord2
  intro n hn
  split at hn
  · rcases List.mem_cons.mp hn with rfl | m
    · exact h2
    · rw [List.mem_singleton.mp m]
      exact h3
  · rcases List.mem_cons.mp hn with rfl | m
    · exact h3
    · rw [List.mem_singleton.mp m]
      exact h2
def sp_Street_is_like (K : PySem.W.Frag) : Sp0 := fun vs H Q => ∃ (a : Addr) (s : Stv), vs = [.ref a, .ref a] ∧ SAt K H a s ∧ Q (.bl true) H
abbrev n_Street_is_like : List Str := ["self", "other"]
theorem sc_Street_is_like : FnScope n_Street_is_like ["self", "other"] (defScope s_Street_is_like) := ⟨rfl, rfl, rfl, by decide +kernel, rfl, by decide +kernel, by decide +kernel⟩
theorem fn_Street_is_like (T : Txt K mg) : Fn w K mg base 1 (a_Street_is_like K) (sp_Street_is_like K) := by
  refine fn_by (N := n_Street_is_like) (ps := ["self", "other"]) (st := s_Street_is_like) (T.fn 53 rfl) sc_Street_is_like (fun _ _ _ _ _ _ us hl => match us, hl with | [_, _], _ => rfl) (by rintro vs H Q ⟨a, s, rfl, ⟨ok, dx, b, p, q', hb, ha⟩, q⟩; rfl) fun cdv A outer s H vs Q hr h => ?_
  obtain ⟨a, s, rfl, ⟨ok, dx, b, p, q', hb, ha⟩, q⟩ := h
  refine ⟨_, pss_one (ps_ret (pe_and (pe_cmpR op_eq (fld_ K (pv 0)) (fld_ K (pv 1)) (by first | rfl | exact nomark _)) (pe_one (pe_cmpR (eqD_ K hr.units) (fld_ K (pv 0)) (fld_ K (pv 1)) (by first | rfl | exact nomark _))))), ?_⟩
  refine ⟨_, rfl, a, _, dx, _, _, rfl, ha, st_cls T _, st_name T _, stF_name _ _ _ _, ?_⟩
  refine ⟨_, rfl, a, _, dx, _, _, rfl, ha, st_cls T _, st_name T _, stF_name _ _ _ _, rfl, _, rfl, ?_⟩
  rw [decide_eq_true rfl]
  refine iteT ?_
  refine ⟨_, rfl, a, _, dx, _, _, rfl, ha, st_cls T _, st_both T _, stF_both _ _ _ _, ?_⟩
  refine ⟨_, rfl, a, _, dx, _, _, rfl, ha, st_cls T _, st_both T _, stF_both _ _ _ _, ?_⟩
  refine ⟨_, _, dp_tt (ns := [_, _]) hb, dp_tt (ns := [_, _]) hb, sh_txts _ (ord2_nm ok), sh_txts _ (ord2_nm ok), ?_⟩
  rw [eqv_tt, decide_eq_true rfl]
  exact q
def sp_Lane_eq (K : PySem.W.Frag) : Sp0 := fun vs H Q => ∃ (a : Addr) (s : Stv), vs = [.ref a, .ref a] ∧ SAt K H a s ∧ s.k = .lane ∧ Q (.bl true) H
def sp_Avenue_eq (K : PySem.W.Frag) : Sp0 := fun vs H Q => ∃ (a : Addr) (s : Stv), vs = [.ref a, .ref a] ∧ SAt K H a s ∧ s.k = .avenue ∧ Q (.bl true) H
def sp_Road_eq (K : PySem.W.Frag) : Sp0 := fun vs H Q => ∃ (a : Addr) (s : Stv), vs = [.ref a, .ref a] ∧ SAt K H a s ∧ s.k = .road ∧ Q (.bl true) H
abbrev n_Lane_eq : List Str := ["self", "other"]
theorem sc_Lane_eq : FnScope n_Lane_eq ["self", "other"] (defScope s_Lane_eq) := ⟨rfl, rfl, rfl, by decide +kernel, rfl, by decide +kernel, by decide +kernel⟩
theorem fn_Lane_eq (T : Txt K mg) : Fn w K mg base 2 (a_Lane_eq K) (sp_Lane_eq K) := by
  refine fn_by (N := n_Lane_eq) (ps := ["self", "other"]) (st := s_Lane_eq) (T.fn 54 rfl) sc_Lane_eq (fun _ _ _ _ _ _ us hl => match us, hl with | [_, _], _ => rfl) (by rintro vs H Q ⟨a, s, rfl, h, hk, q⟩; rfl) fun cdv A outer s H vs Q hr h => ?_
  obtain ⟨a, s, rfl, h, hk, q⟩ := h
  refine ⟨_, pss_one (ps_ret (pe_and (pe_callB (isi_ K) (by rfl) (T.free T.r_f_isinstance) bb_isinstance (pa_cons (pv 1) (pa_cons (pe_gC (T.glo T.r_g_Lane)) pa_nil))) (pe_and (pe_mth (pv 0) (T.cls T.r_c_Lane) (methB_ok T.r_me_Lane_is_like) (fn_Street_is_like T) hr (by decide) (pa_cons (pv 1) pa_nil)) (pe_one (pe_cmpR op_eq (fld_ K (pv 0)) (fld_ K (pv 1)) (by first | rfl | exact nomark _)))))), ?_⟩
  obtain ⟨k, nm, x, y⟩ := s
  obtain rfl : k = .lane := hk
  have h' := h
  obtain ⟨ok, dx, b, p, q', hb, ha⟩ := h
  refine ⟨_, rfl, _, _, _, rfl, isi_own T ha (st_cls T .lane) (st_ins T .lane) T.r_isi_Lane_Lane, _, rfl, ?_⟩
  refine ⟨_, rfl, a, _, _, rfl, ha, rfl, _, rfl, a, _, rfl, h', _, rfl, ?_⟩
  refine ⟨_, rfl, a, _, dx, _, _, rfl, ha, st_cls T _, T.noat T.r_n_Lane_goal, rfl, ?_⟩
  refine ⟨_, rfl, a, _, dx, _, _, rfl, ha, st_cls T _, T.noat T.r_n_Lane_goal, rfl, rfl, ?_⟩
  rw [decide_eq_true rfl]
  exact q
abbrev n_Avenue_eq : List Str := ["self", "other"]
theorem sc_Avenue_eq : FnScope n_Avenue_eq ["self", "other"] (defScope s_Avenue_eq) := ⟨rfl, rfl, rfl, by decide +kernel, rfl, by decide +kernel, by decide +kernel⟩
theorem fn_Avenue_eq (T : Txt K mg) : Fn w K mg base 2 (a_Avenue_eq K) (sp_Avenue_eq K) := by
  refine fn_by (N := n_Avenue_eq) (ps := ["self", "other"]) (st := s_Avenue_eq) (T.fn 55 rfl) sc_Avenue_eq (fun _ _ _ _ _ _ us hl => match us, hl with | [_, _], _ => rfl) (by rintro vs H Q ⟨a, s, rfl, h, hk, q⟩; rfl) fun cdv A outer s H vs Q hr h => ?_
  obtain ⟨a, s, rfl, h, hk, q⟩ := h
  refine ⟨_, pss_one (ps_ret (pe_and (pe_callB (isi_ K) (by rfl) (T.free T.r_f_isinstance) bb_isinstance (pa_cons (pv 1) (pa_cons (pe_gC (T.glo T.r_g_Avenue)) pa_nil))) (pe_one (pe_mth (pv 0) (T.cls T.r_c_Avenue) (methB_ok T.r_me_Avenue_is_like) (fn_Street_is_like T) hr (by decide) (pa_cons (pv 1) pa_nil))))), ?_⟩
  obtain ⟨k, nm, x, y⟩ := s
  obtain rfl : k = .avenue := hk
  have h' := h
  obtain ⟨ok, dx, b, p, q', hb, ha⟩ := h
  refine ⟨_, rfl, _, _, _, rfl, isi_own T ha (st_cls T .avenue) (st_ins T .avenue) T.r_isi_Avenue_Avenue, _, rfl, ?_⟩
  exact ⟨_, rfl, a, _, _, rfl, ha, rfl, _, rfl, a, _, rfl, h', q⟩
abbrev n_Road_eq : List Str := ["self", "other"]
theorem sc_Road_eq : FnScope n_Road_eq ["self", "other"] (defScope s_Road_eq) := ⟨rfl, rfl, rfl, by decide +kernel, rfl, by decide +kernel, by decide +kernel⟩
theorem fn_Road_eq (T : Txt K mg) : Fn w K mg base 2 (a_Road_eq K) (sp_Road_eq K) := by
  refine fn_by (N := n_Road_eq) (ps := ["self", "other"]) (st := s_Road_eq) (T.fn 56 rfl) sc_Road_eq (fun _ _ _ _ _ _ us hl => match us, hl with | [_, _], _ => rfl) (by rintro vs H Q ⟨a, s, rfl, h, hk, q⟩; rfl) fun cdv A outer s H vs Q hr h => ?_
  obtain ⟨a, s, rfl, h, hk, q⟩ := h
  refine ⟨_, pss_cons (ps_if (PW.pt (pw_or (pt_not (pt_val (pe_callB (isi_ K) (by rfl) (T.free T.r_f_isinstance) bb_isinstance (pa_cons (pv 1) (pa_cons (pe_gC (T.glo T.r_g_Road)) pa_nil))))) (pw_or1 (pt_not (pt_val (pe_mth (pv 0) (T.cls T.r_c_Road) (methB_ok T.r_me_Road_is_like) (fn_Street_is_like T) hr (by decide) (pa_cons (pv 1) pa_nil))))))) (pss_one (ps_ret (pe_bl))) (pss_nil))
  (pss_one (ps_ret (pe_and (pe_cmpR op_eq (fld_ K (pv 0)) (fld_ K (pv 1)) (by first | rfl | exact nomark _)) (pe_one (pe_cmpR op_eq (fld_ K (pv 0)) (fld_ K (pv 1)) (by first | rfl | exact nomark _)))))), ?_⟩
  obtain ⟨k, nm, x, y⟩ := s
  obtain rfl : k = .road := hk
  have h' := h
  obtain ⟨ok, dx, b, p, q', hb, ha⟩ := h
  refine ⟨_, rfl, _, _, _, rfl, isi_own T ha (st_cls T .road) (st_ins T .road) T.r_isi_Road_Road, _, rfl, ?_⟩
  refine ⟨_, rfl, a, _, _, rfl, ha, rfl, _, rfl, a, _, rfl, h', _, rfl, ?_⟩
  refine ⟨_, rfl, a, _, dx, _, _, rfl, ha, st_cls T _, T.noat T.r_n_Road_there, rfl, ?_⟩
  refine ⟨_, rfl, a, _, dx, _, _, rfl, ha, st_cls T _, T.noat T.r_n_Road_there, rfl, rfl, _, rfl, ?_⟩
  rw [decide_eq_true rfl]
  refine iteT ?_
  refine ⟨_, rfl, a, _, dx, _, _, rfl, ha, st_cls T _, T.noat T.r_n_Road_back, rfl, ?_⟩
  refine ⟨_, rfl, a, _, dx, _, _, rfl, ha, st_cls T _, T.noat T.r_n_Road_back, rfl, rfl, ?_⟩
  rw [decide_eq_true rfl]
  exact q
end
end ST
end
section
set_option Elab.async false
set_option linter.all false
set_option maxRecDepth 100000
set_option maxHeartbeats 1000000
/-! The streets are made. -/
namespace ST
open PySem PySem.Spec PyProof.Rows L2 SgO NdefX
section
variable {w : World} {K : PySem.W.Frag} {mg : Str → Option Value} {base : Heap}
theorem Fn.mono {k k' : Nat} {f : Addr} {sp : Sp0} (F : Fn w K mg base k f sp) (h : k ≤ k') : Fn w K mg base k' f sp := fun A outer s H us vs Q E hr => F A outer s H us vs Q E (hr.mono h)
theorem statics (T : Txt K mg) : PySem.W.nsIn K cStatics "thirdparty.any" = some none := He.eqO_ok T.r_statics
abbrev nS4 (a b c : Str) : List Str := ["self", a, b, c, "__class__"]
/-- what stands at a new street so far -/
def upTo (K : PySem.W.Frag) (H : Hp) (a : Addr) (k : Kd) (dx : Addr) (n x y : Str) (more : Addr → List (Str × V)) (Q : VK) : Prop :=
  ∀ (H' : Hp) (b : Addr), But a H H' → T2 H' b (ord2 x y).1 (ord2 x y).2 → H' a = some (.ins (cK K k) dx (("name", .str n) :: ("both", .ref b) :: more b)) → Q .non H'
def sp_Even_init (K : PySem.W.Frag) : Sp0 := fun vs H Q => ∃ (a : Addr) (k : Kd) (dx : Addr) (n x y : Str), vs = [.ref a, .str n, .str x, .str y] ∧ k ≠ .lane ∧ H a = some (.ins (cK K k) dx []) ∧ Nm n ∧ Nm x ∧ Nm y ∧ x ≠ y ∧
  upTo K H a k dx n x y (fun _ => [("one", .str (ord2 x y).1), ("other", .str (ord2 x y).2)]) Q
theorem st_one (T : Txt K mg) (k : Kd) (h : k ≠ .lane) : NoAttr K (cK K k) "one" := by
  cases k
  · exact absurd rfl h
  · exact T.noat T.r_n_Avenue_one
  · exact T.noat T.r_n_Road_one
theorem st_other (T : Txt K mg) (k : Kd) (h : k ≠ .lane) : NoAttr K (cK K k) "other" := by
  cases k
  · exact absurd rfl h
  · exact T.noat T.r_n_Avenue_other
  · exact T.noat T.r_n_Road_other
theorem sup_Even (T : Txt K mg) (k : Kd) (h : k ≠ .lane) : SgS.SupTo K (cK K k) (He.ga K "Even") "__init__" (a_Street_init K) := by
  cases k
  · exact absurd rfl h
  · exact supToB_ok T.r_to_Avenue_Even
  · exact supToB_ok T.r_to_Road_Even
theorem st_isCls (T : Txt K mg) (k : Kd) : PySem.W.isClsIn K (cK K k) = true := by
  obtain ⟨cd, hc, _⟩ := PySem.W.any_some (st_cls T k).hd
  show (PySem.W.clsIn K (cK K k)).isSome = true
  rw [hc]
  rfl
theorem raw0 {k : Nat} {f : Addr} {fd : FuncData} {ps : List Str} {sp : Sp0} (g : FnOk Sg w K mg base CX0 k f fd ps (up sp)) (b : Binds K fd ps []) : Fn w K mg base k f sp := by
  have z := g.raw b .nil
  exact fun A outer s H us vs Q E hr e0 r hs => z A outer s H us vs Q E hr e0 r (by show sp (vs ++ []) H Q; rw [List.append_nil]; exact hs)
theorem sup_binds {name qual : Str} {st : Stmt} {f cc c D : Addr} {fd : FuncData} {ps : List Str} (F : SgS.SupAt Sg K mg name qual (defArgs st) (defBody st) (defScope st) f cc c D fd) (dv : DflV K fd.defaults [])
    (h : ∀ (kV doc pm : Value) (an : Option Addr) (ct : Value) (us : List Value), us.length = ps.length → bindArgs (PySem.W.ksFn name qual (defArgs st) (defBody st) (defScope st) .none kV doc pm an (.ref c) ct cc) ⟨us, []⟩ = pure (ps.zip us)) : Binds K fd ps [] := by
  obtain ⟨oc, od, dV, kV, doc, pm, an, ct, osl, rfl, _, _⟩ := F.ex
  have hdV : dV = .none := by
    rcases dv with ⟨_, e⟩ | ⟨e, _⟩
    · exact e
    · exact absurd rfl e
  subst hdV
  exact .all fun us hl => h kV doc pm an ct us hl
theorem fn_Even_init (T : Txt K mg) : Fn w K mg base 4 (a_Even_init K) (sp_Even_init K) := by
  obtain ⟨cc, c, fd, F, kp, dv⟩ := supB_ok (mg := mg) T.r_su_Even (T.supU 1 rfl rfl) (T.free T.r_f_super) (statics T) (by decide +kernel)
  have g : FnOk Sg w K mg base CX0 4 (a_Even_init K) fd ["self", "name", "first", "second"] (up (sp_Even_init K)) := by
    refine SgS.fn_super (N := ["self", "name", "first", "second", "__class__"]) F (nscope_by (by decide +kernel)) (by rintro vs H Q E ⟨a, k, dx, n, x, y, rfl, _⟩; rfl) rfl rfl rfl rfl ?_
    rintro A outer s H vs Q E X hX hr ⟨a, k, dx, n, x, y, rfl, hk, ha, hn, hx, hy, ne, q⟩
    refine ⟨a, _, dx, _, _, _, _, _, _, rfl, ha, st_isCls T k, sup_Even T k hk, fn_Street_init T, pass0, by subst hX; exact pa_cons (pv 1) (pa_cons (pv 2) (pa_cons (pv 3) pa_nil)), by subst hX; exact (pss_cons (sfld_ K (pv 0) (pe_ix (ixT_ K) (fld_ K (pv 0)) pe_int (fun _ _ => rfl)))
  (pss_one (sfld_ K (pv 0) (pe_ix (ixT_ K) (fld_ K (pv 0)) pe_int (fun _ _ => rfl))))), ?_⟩
    refine ⟨_, rfl, _, rfl, _, rfl, a, k, dx, n, x, y, rfl, ha, hn, hx, hy, ne, fun H1 b b1 hb h1 => ?_⟩
    have nb : b ≠ a := ne_of hb h1 (fun z => nomatch z)
    refine ⟨_, rfl, a, _, dx, _, _, rfl, h1, st_cls T k, st_both T k, rfl, _, _, _, _, rfl, rfl, SqT.of hb, rfl, _, rfl, a, _, dx, _, rfl, h1, st_cls T k, st_one T k hk, few2, ?_⟩
    refine ⟨_, rfl, a, _, dx, _, _, rfl, upd_same, st_cls T k, st_both T k, rfl, _, _, _, _, rfl, rfl, SqT.of ((upd_ne nb).trans hb), rfl, _, rfl, a, _, dx, _, rfl, upd_same, st_cls T k, st_other T k hk, few3, ?_⟩
    exact q _ b (b1.upd.upd) ((upd_ne nb).trans ((upd_ne nb).trans hb)) upd_same
  exact raw0 g (sup_binds F dv fun _ _ _ _ _ us hl => match us, hl with | [_, _, _, _], _ => rfl)
/-- the fields behind Settled's __init__ -/
def setMore (k : Kd) (x y : Str) : List (Str × V) := match k with
  | .lane => []
  | _ => [("one", .str (ord2 x y).1), ("other", .str (ord2 x y).2)]
def sp_Settled_init (K : PySem.W.Frag) : Sp0 := fun vs H Q => ∃ (a : Addr) (k : Kd) (dx : Addr) (n x y : Str), vs = [.ref a, .str n, .str x, .str y] ∧ k ≠ .road ∧ H a = some (.ins (cK K k) dx []) ∧ Nm n ∧ Nm x ∧ Nm y ∧ x ≠ y ∧
  upTo K H a k dx n x y (fun _ => setMore k x y) Q
theorem fn_Settled_init (T : Txt K mg) : Fn w K mg base 5 (a_Settled_init K) (sp_Settled_init K) := by
  obtain ⟨cc, c, fd, F, kp, dv⟩ := supB_ok (mg := mg) T.r_su_Settled (T.supU 0 rfl rfl) (T.free T.r_f_super) (statics T) (by decide +kernel)
  have g : FnOk Sg w K mg base CX0 5 (a_Settled_init K) fd ["self", "name", "first", "second"] (up (sp_Settled_init K)) := by
    refine SgS.fn_super (N := ["self", "name", "first", "second", "__class__"]) F (nscope_by (by decide +kernel)) (by rintro vs H Q E ⟨a, k, dx, n, x, y, rfl, _⟩; rfl) rfl rfl rfl rfl ?_
    rintro A outer s H vs Q E X hX hr ⟨a, k, dx, n, x, y, rfl, hk, ha, hn, hx, hy, ne, q⟩
    cases k
    · refine ⟨a, _, dx, _, _, _, _, _, _, rfl, ha, st_isCls T .lane, supToB_ok T.r_to_Lane_Settled, (fn_Street_init T).mono (by decide : 3 ≤ 4), pass0, by subst hX; exact pa_cons (pv 1) (pa_cons (pv 2) (pa_cons (pv 3) pa_nil)), by subst hX; exact pss_nil, ?_⟩
      exact ⟨_, rfl, _, rfl, _, rfl, a, .lane, dx, n, x, y, rfl, ha, hn, hx, hy, ne, fun H1 b b1 hb h1 => q H1 b b1 hb h1⟩
    · refine ⟨a, _, dx, _, _, _, _, _, _, rfl, ha, st_isCls T .avenue, supToB_ok T.r_to_Avenue_Settled, fn_Even_init T, pass0, by subst hX; exact pa_cons (pv 1) (pa_cons (pv 2) (pa_cons (pv 3) pa_nil)), by subst hX; exact pss_nil, ?_⟩
      exact ⟨_, rfl, _, rfl, _, rfl, a, .avenue, dx, n, x, y, rfl, (fun z => nomatch z), ha, hn, hx, hy, ne, fun H1 b b1 hb h1 => q H1 b b1 hb h1⟩
    · exact absurd rfl hk
  exact raw0 g (sup_binds F dv fun _ _ _ _ _ us hl => match us, hl with | [_, _, _, _], _ => rfl)
theorem ord2_or (x y : Str) : (ord2 x y = (x, y) ∧ lowS x y) ∨ (ord2 x y = (y, x) ∧ ¬ lowS x y) := by
  unfold ord2
  by_cases h : lowS x y
  · exact .inl ⟨by rw [if_pos (decide_eq_true h)], h⟩
  · exact .inr ⟨by rw [if_neg (fun z => h (of_decide_eq_true z))], h⟩
theorem lowS_tri {x y : Str} (h1 : ¬ lowS x y) (h2 : ¬ lowS y x) : x = y := by
  have e : x.cps.toList = y.cps.toList := List.le_antisymm (List.not_lt.mp h2) (List.not_lt.mp h1)
  obtain ⟨x⟩ := x
  obtain ⟨y⟩ := y
  have e : x.toList = y.toList := e
  rw [Array.toList_inj.mp e]
theorem ord2_idem {x y : Str} (ne : x ≠ y) : ord2 (ord2 x y).1 (ord2 x y).2 = ord2 x y := by
  rcases ord2_or x y with ⟨e, h⟩ | ⟨e, h⟩
  · rw [e]
    exact e
  · rw [e]
    rcases ord2_or y x with ⟨e2, _⟩ | ⟨_, h2⟩
    · exact e2
    · exact absurd (lowS_tri h h2) ne
/-- the street as it stands: an avenue's and a road's ends in order -/
def stOf (k : Kd) (n x y : Str) : Stv := match k with
  | .lane => ⟨.lane, n, x, y⟩
  | .avenue => ⟨.avenue, n, (ord2 x y).1, (ord2 x y).2⟩
  | .road => ⟨.road, n, (ord2 x y).1, (ord2 x y).2⟩
theorem stOf_ok {k : Kd} {n x y : Str} (hn : Nm n) (hx : Nm x) (hy : Nm y) (ne : x ≠ y) : (stOf k n x y).Ok := by
  have h1 : Nm (ord2 x y).1 ∧ Nm (ord2 x y).2 ∧ (ord2 x y).1 ≠ (ord2 x y).2 := by
    rcases ord2_or x y with ⟨e, _⟩ | ⟨e, _⟩
    · rw [e]
      exact ⟨hx, hy, ne⟩
    · rw [e]
      exact ⟨hy, hx, fun z => ne z.symm⟩
  cases k
  · exact ⟨hn, hx, hy, ne, fun z => absurd rfl z⟩
  · exact ⟨hn, h1.1, h1.2.1, h1.2.2, fun _ => ord2_idem ne⟩
  · exact ⟨hn, h1.1, h1.2.1, h1.2.2, fun _ => ord2_idem ne⟩
def made (K : PySem.W.Frag) (k : Kd) (H : Hp) (a : Addr) (n x y : Str) (Q : VK) : Prop := ∀ H', But a H H' → SAt K H' a (stOf k n x y) → Q .non H'
def sp_Lane_init (K : PySem.W.Frag) : Sp0 := fun vs H Q => ∃ (a dx : Addr) (n x y : Str), vs = [.ref a, .str n, .str x, .str y] ∧ H a = some (.ins (cK K .lane) dx []) ∧ Nm n ∧ Nm x ∧ Nm y ∧ x ≠ y ∧ made K .lane H a n x y Q
theorem fn_Lane_init (T : Txt K mg) : Fn w K mg base 6 (a_Lane_init K) (sp_Lane_init K) := by
  obtain ⟨cc, c, fd, F, kp, dv⟩ := supB_ok (mg := mg) T.r_su_Lane (T.supU 2 rfl rfl) (T.free T.r_f_super) (statics T) (by decide +kernel)
  have g : FnOk Sg w K mg base CX0 6 (a_Lane_init K) fd ["self", "name", "start", "goal"] (up (sp_Lane_init K)) := by
    refine SgS.fn_super (N := ["self", "name", "start", "goal", "__class__"]) F (nscope_by (by decide +kernel)) (by rintro vs H Q E ⟨a, dx, n, x, y, rfl, _⟩; rfl) rfl rfl rfl rfl ?_
    rintro A outer s H vs Q E X hX hr ⟨a, dx, n, x, y, rfl, ha, hn, hx, hy, ne, q⟩
    refine ⟨a, _, dx, _, _, _, _, _, _, rfl, ha, st_isCls T .lane, supToB_ok T.r_to_Lane_Lane, fn_Settled_init T, pass0, by subst hX; exact pa_cons (pv 1) (pa_cons (pv 2) (pa_cons (pv 3) pa_nil)), by subst hX; exact (pss_cons (sfld_ K (pv 0) (pv 2))
  (pss_one (sfld_ K (pv 0) (pv 3)))), ?_⟩
    refine ⟨_, rfl, _, rfl, _, rfl, a, .lane, dx, n, x, y, rfl, (fun z => nomatch z), ha, hn, hx, hy, ne, fun H1 b b1 hb h1 => ?_⟩
    have nb : b ≠ a := ne_of hb h1 (fun z => nomatch z)
    refine ⟨_, rfl, _, rfl, a, _, dx, _, rfl, h1, st_cls T .lane, T.noat T.r_n_Lane_start, few2, ?_⟩
    refine ⟨_, rfl, _, rfl, a, _, dx, _, rfl, upd_same, st_cls T .lane, T.noat T.r_n_Lane_goal, few3, ?_⟩
    exact q _ b1.upd.upd ⟨stOf_ok hn hx hy ne, dx, b, 0, 0, (upd_ne nb).trans ((upd_ne nb).trans hb), upd_same⟩
  exact raw0 g (sup_binds F dv fun _ _ _ _ _ us hl => match us, hl with | [_, _, _, _], _ => rfl)
def sp_Avenue_init (K : PySem.W.Frag) : Sp0 := fun vs H Q => ∃ (a dx : Addr) (n x y : Str), vs = [.ref a, .str n, .str x, .str y] ∧ H a = some (.ins (cK K .avenue) dx []) ∧ Nm n ∧ Nm x ∧ Nm y ∧ x ≠ y ∧ made K .avenue H a n x y Q
theorem fn_Avenue_init (T : Txt K mg) : Fn w K mg base 6 (a_Avenue_init K) (sp_Avenue_init K) := by
  obtain ⟨cc, c, fd, F, kp, dv⟩ := supB_ok (mg := mg) T.r_su_Avenue (T.supU 3 rfl rfl) (T.free T.r_f_super) (statics T) (by decide +kernel)
  have g : FnOk Sg w K mg base CX0 6 (a_Avenue_init K) fd ["self", "name", "one", "other"] (up (sp_Avenue_init K)) := by
    refine SgS.fn_super (N := ["self", "name", "one", "other", "__class__"]) F (nscope_by (by decide +kernel)) (by rintro vs H Q E ⟨a, dx, n, x, y, rfl, _⟩; rfl) rfl rfl rfl rfl ?_
    rintro A outer s H vs Q E X hX hr ⟨a, dx, n, x, y, rfl, ha, hn, hx, hy, ne, q⟩
    refine ⟨a, _, dx, _, _, _, _, _, _, rfl, ha, st_isCls T .avenue, supToB_ok T.r_to_Avenue_Avenue, fn_Settled_init T, pass0, by subst hX; exact pa_cons (pv 1) (pa_cons (pv 2) (pa_cons (pv 3) pa_nil)), by subst hX; exact pss_nil, ?_⟩
    refine ⟨_, rfl, _, rfl, _, rfl, a, .avenue, dx, n, x, y, rfl, (fun z => nomatch z), ha, hn, hx, hy, ne, fun H1 b b1 hb h1 => ?_⟩
    exact q _ b1 ⟨stOf_ok hn hx hy ne, dx, b, 0, 0, by show T2 H1 b (ord2 (ord2 x y).1 (ord2 x y).2).1 (ord2 (ord2 x y).1 (ord2 x y).2).2; rw [ord2_idem ne]; exact hb, h1⟩
  exact raw0 g (sup_binds F dv fun _ _ _ _ _ us hl => match us, hl with | [_, _, _, _], _ => rfl)
def sp_Road_init (K : PySem.W.Frag) : Sp0 := fun vs H Q => ∃ (a dx : Addr) (n x y : Str) (i j : Int), vs = [.ref a, .str n, .str x, .str y, .int i, .int j] ∧ H a = some (.ins (cK K .road) dx []) ∧ Nm n ∧ Nm x ∧ Nm y ∧ x ≠ y ∧
  (-999999999999 ≤ i ∧ i ≤ 999999999999) ∧ (-999999999999 ≤ j ∧ j ≤ 999999999999) ∧ made K .road H a n x y Q
theorem fn_Road_init (T : Txt K mg) : Fn w K mg base 5 (a_Road_init K) (sp_Road_init K) := by
  obtain ⟨cc, c, fd, F, kp, dv⟩ := supB_ok (mg := mg) T.r_su_Road (T.supU 4 rfl rfl) (T.free T.r_f_super) (statics T) (by decide +kernel)
  have g : FnOk Sg w K mg base CX0 5 (a_Road_init K) fd ["self", "name", "one", "other", "there", "back"] (up (sp_Road_init K)) := by
    refine SgS.fn_super (N := ["self", "name", "one", "other", "there", "back", "__class__"]) F (nscope_by (by decide +kernel)) (by rintro vs H Q E ⟨a, dx, n, x, y, i, j, rfl, _⟩; rfl) rfl rfl rfl rfl ?_
    rintro A outer s H vs Q E X hX hr ⟨a, dx, n, x, y, i, j, rfl, ha, hn, hx, hy, ne, hi, hj, q⟩
    refine ⟨a, _, dx, _, _, _, _, _, _, rfl, ha, st_isCls T .road, supToB_ok T.r_to_Road_Road, fn_Even_init T, pass0, by subst hX; exact pa_cons (pv 1) (pa_cons (pv 2) (pa_cons (pv 3) pa_nil)), by subst hX; exact (pss_cons (ps_expr (pe_fn (fn_need_prices T) hr (by decide) (by rfl) (T.glo T.r_g_need_prices) (T.kp 7 rfl) (pa_cons (pv 4) (pa_cons (pv 5) pa_nil))))
  (pss_cons (sfld_ K (pv 0) (pe_ifExp (pt_cmpR op_eq (pv 2) (fld_ K (pv 0)) (by first | rfl | exact nomark _)) (pv 4) (pv 5)))
  (pss_one (sfld_ K (pv 0) (pe_ifExp (pt_cmpR op_eq (pv 2) (fld_ K (pv 0)) (by first | rfl | exact nomark _)) (pv 5) (pv 4)))))), ?_⟩
    refine ⟨_, rfl, _, rfl, _, rfl, a, .road, dx, n, x, y, rfl, (fun z => nomatch z), ha, hn, hx, hy, ne, fun H0 b b0 hb0 h0 => ?_⟩
    refine ⟨_, rfl, _, rfl, i, j, rfl, hi, hj, fun H1 s1 => ?_⟩
    have hb := s1 _ _ hb0
    have h1 := s1 _ _ h0
    have b1 := b0.trans (ST.Same.but s1 a)
    have nb : b ≠ a := ne_of hb h1 (fun z => nomatch z)
    have no1 := st_one T .road (fun z => nomatch z)
    have fin : ∀ u v : Int, Q .non (upd (upd H1 a (.ins (cK K .road) dx (putF "there" (.int u) [("name", .str n), ("both", .ref b), ("one", .str (ord2 x y).1), ("other", .str (ord2 x y).2)]))) a
        (.ins (cK K .road) dx (putF "back" (.int v) (putF "there" (.int u) [("name", .str n), ("both", .ref b), ("one", .str (ord2 x y).1), ("other", .str (ord2 x y).2)])))) := fun u v =>
      q _ b1.upd.upd ⟨stOf_ok hn hx hy ne, dx, b, u, v, by show T2 _ b (ord2 (ord2 x y).1 (ord2 x y).2).1 (ord2 (ord2 x y).1 (ord2 x y).2).2; rw [ord2_idem ne]; exact (upd_ne nb).trans ((upd_ne nb).trans hb), upd_same⟩
    refine ⟨_, rfl, _, rfl, a, _, dx, _, _, rfl, h1, st_cls T .road, no1, rfl, rfl, _, rfl, ?_⟩
    refine ite2 (fun c => ?_) fun c => ?_
    all_goals
      refine ⟨_, rfl, _, rfl, a, _, dx, _, rfl, h1, st_cls T .road, T.noat T.r_n_Road_there, few4, ?_⟩
      refine ⟨_, rfl, _, rfl, a, _, dx, _, _, rfl, upd_same, st_cls T .road, no1, rfl, rfl, _, rfl, ?_⟩
      refine ite2 (fun c => ?_) fun c => ?_
      all_goals exact ⟨_, rfl, _, rfl, a, _, dx, _, rfl, upd_same, st_cls T .road, T.noat T.r_n_Road_back, few5, fin _ _⟩
  refine raw0 g ?_
  obtain ⟨oc, od, dV, kV, doc, pm, an, ct, osl, rfl, _, _⟩ := F.ex
  rcases dv with ⟨e, _⟩ | ⟨_, D, o, its, m, rfl, lT, oT, rT⟩
  · exact absurd e (by simp)
  · intro s us X hl
    rw [List.append_nil] at hl ⊢
    refine BindsTo.of_looks fun M => ?_
    obtain ⟨i1, i2, rfl⟩ : ∃ i1 i2, its = [i1, i2] := by
      have l := rT.length
      match its, l with
      | [i1, i2], _ => exact ⟨i1, i2, rfl⟩
    match us, hl with
    | [u1, u2, u3, u4, u5, u6], _ => exact looks_items X lT oT (.of_pure rfl)
end
end ST
end
section
set_option Elab.async false
set_option linter.all false
set_option maxRecDepth 100000
set_option maxHeartbeats 1000000
/-! Streets gathered; wards; towns. -/
namespace ST
open PySem PySem.Spec PyProof.Rows L2 SgO
section
variable {w : World} {K : PySem.W.Frag} {mg : Str → Option Value} {base : Heap}
theorem paired_val {α : Type} {k : α → Key} {R : α → V → Prop} : ∀ {as : List α} {kvs : List (Key × V)} {a : α}, Paired (fun a kv => kv.1 = k a ∧ R a kv.2) as kvs → (as.map k).Nodup → a ∈ as → ∃ v, valV kvs (k a) = some v ∧ R a v
  | _, _, _, .nil, _, h => by cases h
  | b :: r, kv :: kr, a, .cons p t, hn, h => by
    rw [List.map_cons] at hn
    obtain ⟨h1, h2⟩ := List.nodup_cons.mp hn
    by_cases e : k b = k a
    · rcases List.mem_cons.mp h with rfl | m
      · exact ⟨kv.2, valV_pos p.1, p.2⟩
      · exact absurd (List.mem_map.mpr ⟨a, m, e.symm⟩) h1
    · rw [valV_neg (fun z => e (p.1.symm.trans z))]
      exact paired_val t h2 ((List.mem_cons.mp h).resolve_left fun z => e (by rw [z]))
theorem paired_kv {α : Type} {k : α → Key} {f : α → V} : ∀ {as : List α} {kvs : List (Key × V)}, Paired (fun a kv => kv.1 = k a ∧ kv.2 = f a) as kvs → kvs = as.map fun a => (k a, f a)
  | _, _, .nil => rfl
  | b :: r, kv :: kr, .cons p t => by
    rw [List.map_cons, paired_kv t, ← p.1, ← p.2]
theorem dget_s {H : Hp} {a : Addr} {kvs : List (Key × V)} {x : Str} {v : V} (e : H a = some (.dK kvs)) (h : valV kvs (.inr x) = some v) : DGet H a (.str x) (some v) := .inl ⟨kvs, .inr x, .inl e, rfl, h.symm⟩
theorem dget_r {H : Hp} {a : Addr} {kvs : List (Key × V)} {x : Str} {v : Option V} (e : Rd H a (.dK kvs)) (h : valV kvs (.inr x) = v) : DGet H a (.str x) v := .inl ⟨kvs, .inr x, e, rfl, h.symm⟩
def eqSp (K : PySem.W.Frag) : Kd → Sp0
  | .lane => sp_Lane_eq K
  | .avenue => sp_Avenue_eq K
  | .road => sp_Road_eq K
def neW (K : PySem.W.Frag) : Addr → Sp → Prop := fun C sp => ∃ k : Kd, C = cK K k ∧ sp = up (eqSp K k)
theorem neW_ok (T : Txt K mg) : ∀ C sp, neW K C sp → ∃ f, NeM K C f ∧ FnR Sg w K mg base CX0 2 f sp := by
  rintro C sp ⟨k, rfl, rfl⟩
  cases k
  · exact ⟨_, neB_ok T.r_ne_Lane (T.meth T.r_me_Lane_eq), fn_Lane_eq T⟩
  · exact ⟨_, neB_ok T.r_ne_Avenue (T.meth T.r_me_Avenue_eq), fn_Avenue_eq T⟩
  · exact ⟨_, neB_ok T.r_ne_Road (T.meth T.r_me_Road_eq), fn_Road_eq T⟩
theorem eqSp_use {a : Addr} {s : Stv} {H : Hp} {Q : VK} (h : SAt K H a s) (q : Q (.bl true) H) : eqSp K s.k [.ref a, .ref a] H Q := by
  obtain ⟨k, n, x, y⟩ := s
  cases k
  · exact ⟨a, _, rfl, h, rfl, q⟩
  · exact ⟨a, _, rfl, h, rfl, q⟩
  · exact ⟨a, _, rfl, h, rfl, q⟩
def endsW (K : PySem.W.Frag) : Addr → Sp → Prop := fun C sp => ∃ k : Kd, C = cK K k ∧ sp = up (sp_Street_ends K)
theorem endsW_ok (T : Txt K mg) : ∀ C sp, endsW K C sp → ∃ p g, Cls K C ∧ PropOf K C "ends" p g ∧ FnR Sg w K mg base CX0 1 g sp := by
  rintro C sp ⟨k, rfl, rfl⟩
  cases k
  · exact ⟨_, _, st_cls T .lane, propB_ok T.r_p_Lane_ends, fn_Street_ends T⟩
  · exact ⟨_, _, st_cls T .avenue, propB_ok T.r_p_Avenue_ends, fn_Street_ends T⟩
  · exact ⟨_, _, st_cls T .road, propB_ok T.r_p_Road_ends, fn_Street_ends T⟩
theorem SAt.ins {H : Hp} {a : Addr} {s : Stv} (h : SAt K H a s) : Ins H a (cK K s.k) := let ⟨_, dx, _, _, _, _, e⟩ := h; ⟨dx, _, e⟩
/-- the street's name, read -/
theorem SAt.nameAt (T : Txt K mg) {H : Hp} {a : Addr} {s : Stv} (h : SAt K H a s) : ∃ dx fs, H a = some (.ins (cK K s.k) dx fs) ∧ Cls K (cK K s.k) ∧ NoAttr K (cK K s.k) "name" ∧ fs.lookup ("name" : Str) = some (V.str s.nm) :=
  let ⟨_, dx, b, p, q, _, e⟩ := h; ⟨dx, _, e, st_cls T _, st_name T _, stF_name _ _ _ _⟩
def sp_gathered (K : PySem.W.Frag) : Sp0 := fun vs H Q => ∃ (tp : Addr) (ss : List (Stv × Addr)), vs = [.ref tp] ∧ H tp = some (.tup (ss.map fun b => .ref b.2)) ∧ (∀ b ∈ ss, SAt K H b.2 b.1) ∧ (ss.map fun b => b.1.nm).Nodup ∧ ss.length < 64 ∧
  ∀ (H' : Hp) (d : Addr) (bs : List (Stv × Addr)), Same H H' → bs.Perm ss → Asc (bs.map fun b => b.1.nm) → H' d = some (.dK (bs.map fun b => (.inr b.1.nm, .ref b.2))) → Q (.ref d) H'
abbrev n_gathered : List Str := ["streets", "names", "found", "name", "street"]
theorem sc_gathered : FnScope n_gathered ["streets"] (defScope s_gathered) := ⟨rfl, rfl, rfl, by decide +kernel, rfl, by decide +kernel, by decide +kernel⟩
theorem fn_gathered (T : Txt K mg) : Fn w K mg base 4 (a_gathered K) (sp_gathered K) := by
  refine fn_by (N := n_gathered) (ps := ["streets"]) (st := s_gathered) (T.fn 8 rfl) sc_gathered (fun _ _ _ _ _ _ us hl => match us, hl with | [_], _ => rfl) (by rintro vs H Q ⟨tp, ss, rfl, htp, hss, hnd, h64, q⟩; rfl) fun cdv A outer s H vs Q hr h => ?_
  obtain ⟨tp, ss, rfl, htp, hss, hnd, h64, q⟩ := h
  refine ⟨_, pss_cons (ps_set (i := 1) sc_gathered.nd rfl (by first | exact .inl rfl | exact .inr rfl) (pe_callB (SgT.cr_sortedT rfl) (by rfl) (T.free T.r_f_sorted) bb_sorted (pa_cons (pe_callTy (setT_ K w) (by rfl) (T.free T.r_f_set) bb_set (pa_cons (pe_lc (own := [("street", 4)]) rfl sc_gathered.nd (piT_ K (pv 0)) (blkOk_by (own := [("street", 4)]) (N := n_gathered) (sc := defScope s_gathered) (by decide +kernel)) (fun _ _ _ _ _ => pg_name (i := 4) sc_gathered.nd rfl (by first | exact .inl rfl | exact .inr rfl)) (fun _ _ _ _ _ => pts_nil) (fun _ _ _ _ _ => pe_callTy SkE.call_str_str (by rfl) (T.free T.r_f_str) bb_str (pa_cons (fld_ K (pv 4)) pa_nil))) pa_nil)) pa_nil)))
  (pss_cons (ps_set (i := 2) sc_gathered.nd rfl (by first | exact .inl rfl | exact .inr rfl) (pe_dc (own := [("name", 3)]) rfl sc_gathered.nd (piL_ K (pv 1)) (blkOk_by (own := [("name", 3)]) (N := n_gathered) (sc := defScope s_gathered) (by decide +kernel)) (fun _ _ _ _ _ => pg_name (i := 3) sc_gathered.nd rfl (by first | exact .inl rfl | exact .inr rfl)) (fun _ _ _ _ _ => pts_nil) (fun _ _ _ _ _ => pv 3) (fun _ _ _ _ _ => pe_lc (own := [("street", 4)]) rfl sc_gathered.nd (piT_ K (pv 0)) (blkOk_by (own := [("street", 4)]) (N := n_gathered) (sc := ⟨.function, [(".0", .local), ("name", .cell), ("streets", .cell)], false, false, []⟩) (scope := ⟨.function, [(".0", .local), ("street", .local), ("name", .free)], false, false, []⟩) (by decide +kernel)) (fun _ _ _ _ _ => pg_name (i := 4) sc_gathered.nd rfl (by first | exact .inl rfl | exact .inr rfl)) (fun _ _ _ _ _ => pts_one (pt_cmpR op_eq (fld_ K (pv 4)) (pv 3) (by first | rfl | exact nomark _))) (fun _ _ _ _ _ => pv 4))))
  (pss_cons (ps_for PassesOwn.never rfl (piL_ K (pv 1)) (pg_name (i := 3) sc_gathered.nd rfl (by first | exact .inl rfl | exact .inr rfl)) (pss_one (ps_if (pt_val (pe_callB (any_ K) (by rfl) (T.free T.r_f_any) bb_any (pa_cons (pe_lc (own := [("street", 4)]) rfl sc_gathered.nd (piL_ K (pe_dget (hu_of hr) (pv 2) (pv 3) (fun _ _ => rfl))) (blkOk_by (own := [("street", 4)]) (N := n_gathered) (sc := defScope s_gathered) (by decide +kernel)) (fun _ _ _ _ _ => pg_name (i := 4) sc_gathered.nd rfl (by first | exact .inl rfl | exact .inr rfl)) (fun _ _ _ _ _ => pts_nil) (fun _ _ _ _ _ => pe_cmpR (op_neOwn (neW K) (neW_ok T) (hr.mono (by decide))) (pv 4) (pe_ix (ixL_ K) (pe_dget (hu_of hr) (pv 2) (pv 3) (fun _ _ => rfl)) pe_int (fun _ _ => rfl)) (by first | rfl | exact nomark _))) pa_nil))) (pss_one (ps_never)) (pss_nil))))
  (pss_one (ps_ret (pe_dc (own := [("name", 3)]) rfl sc_gathered.nd (piL_ K (pv 1)) (blkOk_by (own := [("name", 3)]) (N := n_gathered) (sc := defScope s_gathered) (by decide +kernel)) (fun _ _ _ _ _ => pg_name (i := 3) sc_gathered.nd rfl (by first | exact .inl rfl | exact .inr rfl)) (fun _ _ _ _ _ => pts_nil) (fun _ _ _ _ _ => pv 3) (fun _ _ _ _ _ => pe_ix (ixL_ K) (pe_dget (hu_of hr) (pv 2) (pv 3) (fun _ _ => rfl)) pe_int (fun _ _ => rfl))))))), ?_⟩
  -- names
  refine ⟨_, rfl, _, rfl, ⟨_, SqT.of htp⟩, fun D hD => ?_⟩
  refine lc_pure (as := ss) (c := fun b => .ref b.2) src_t (fun _ => true) (fun b => .str b.1.nm) hD (fun H1 sm => SqT.of (sm _ _ htp)) (Nat.lt_trans h64 (by decide)) (fun i b H1 Kt Kf hb sm k1 k2 => ?_) fun H1 s1 hl => ?_
  · obtain ⟨dx, fs, e1, e2, e3, e4⟩ := ((hss b (List.mem_of_getElem? hb)).same sm).nameAt T
    exact ⟨rfl, _, rfl, b.2, _, dx, fs, _, rfl, e1, e2, e3, e4, _, rfl, k1 H1 rfl (Same.refl _)⟩
  rw [List.filter_eq_self.mpr fun _ _ => rfl] at hl
  refine ⟨D, ss.map fun b => b.1.nm, rfl, SqL.of (by rw [hl, List.map_map]; rfl), by rw [List.length_map]; exact Nat.lt_trans h64 (by decide), fun p hp => ?_⟩
  rw [ded_self hnd]
  refine ⟨p, _, rfl, upd_same, by rw [List.length_map]; exact h64, fun ys pn perm srt hpn => ?_⟩
  obtain ⟨bs, pb, rfl⟩ := perm_lift perm ss rfl
  have ndb : (bs.map fun b => b.1.nm).Nodup := perm.symm.nodup hnd
  have asc := sorted_asc srt ndb
  generalize hH2 : upd (upd H1 p (SgT.TS w p (ss.map fun b => b.1.nm))) pn (.lst ((bs.map fun b => b.1.nm).map V.str)) = H2
  have s2 : Same H H2 := by
    rw [← hH2]
    exact (s1.trans (same_upd hp)).trans (same_upd hpn)
  have hpn2 : H2 pn = some (.lst (bs.map fun b => .str b.1.nm)) := by rw [← hH2, upd_same, List.map_map]; rfl
  clear hH2
  have hbs : ∀ b ∈ bs, b ∈ ss := fun b hb => pb.mem_iff.mp hb
  have len : bs.length < sizeLine := by rw [pb.length_eq]; exact Nat.lt_trans h64 (by decide)
  -- found
  refine ⟨_, rfl, _, rfl, ⟨_, SqL.of hpn2⟩, fun D2 hD2 => ?_⟩
  refine dc_keep (as := bs) (c := fun b => .str b.1.nm) src_l (fun _ => true) (fun b => .inr b.1.nm) (fun b v H => ∃ l, v = .ref l ∧ l ≠ D2 ∧ H l = some (.lst [.ref b.2])) hD2
    (fun b v Ha Hb ⟨l, e1, e2, e3⟩ hb => ⟨l, e1, e2, hb _ _ e2 e3⟩) (fun H3 sm => SqL.of (sm _ _ hpn2)) (by rw [show bs.map (fun b => (Sum.inr b.1.nm : Key)) = (bs.map fun b => b.1.nm).map Sum.inr by rw [List.map_map]; rfl]; exact asc.nodup.map (f := Sum.inr) (fun a b h e => h (Sum.inr.inj e))) len (fun i b H3 Kk Kf hb sm hl k1 k2 => ?_) fun H3 kvs s3 hl pr => ?_
  · have hb' := hbs b (List.mem_of_getElem? hb)
    refine ⟨rfl, _, rfl, ?_⟩
    refine ⟨_, rfl, _, rfl, ⟨_, SqT.of (sm _ _ (s2 _ _ htp))⟩, fun D3 hD3 => ?_⟩
    refine lc_pure (as := ss) (c := fun b => .ref b.2) src_t (fun c => decide (c.1.nm = b.1.nm)) (fun c => .ref c.2) hD3 (fun H4 s4 => SqT.of (s4 _ _ (sm _ _ (s2 _ _ htp)))) (Nat.lt_trans h64 (by decide)) (fun j c H4 Kt Kf' hc s4 k3 k4 => ?_) fun H4 s4 hl4 => ?_
    · obtain ⟨dx, fs, e1, e2, e3, e4⟩ := ((hss c (List.mem_of_getElem? hc)).same (s2.trans (sm.trans s4))).nameAt T
      refine ⟨rfl, _, rfl, c.2, _, dx, fs, _, rfl, e1, e2, e3, e4, _, rfl, rfl, _, rfl, ?_⟩
      by_cases e : c.1.nm = b.1.nm
      · rw [decide_eq_true (congrArg V.str e)]
        exact ⟨_, rfl, k3 H4 (decide_eq_true e) (Same.refl _)⟩
      · rw [decide_eq_false (fun z => e (V.str.inj z))]
        exact iteF (k4 H4 (decide_eq_false e) (Same.refl _))
    · rw [filter_one (f := fun b : Stv × Addr => b.1.nm) hnd hb'] at hl4
      obtain ⟨l0, hl0⟩ := hl
      exact k1 _ H4 rfl s4 ⟨D3, rfl, ne_of_none' hD3 hl0, hl4⟩
  rw [List.filter_eq_self.mpr fun _ _ => rfl] at pr
  have look : ∀ b ∈ bs, ∀ H4, Same H3 H4 → ∃ l, DGet H4 D2 (.str b.1.nm) (some (.ref l)) ∧ H4 l = some (.lst [.ref b.2]) := fun b hb H4 s4 => by
    obtain ⟨v, e1, l, rfl, _, e2⟩ := paired_val (k := fun b : Stv × Addr => (Sum.inr b.1.nm : Key)) (R := fun b v => ∃ l, v = .ref l ∧ l ≠ D2 ∧ H3 l = some (.lst [.ref b.2])) pr (by rw [show bs.map (fun b => (Sum.inr b.1.nm : Key)) = (bs.map fun b => b.1.nm).map Sum.inr by rw [List.map_map]; rfl]; exact asc.nodup.map (f := Sum.inr) (fun a b h e => h (Sum.inr.inj e))) hb
    exact ⟨l, dget_s (s4 _ _ hl) e1, s4 _ _ e2⟩
  have hpn3 := s3 _ _ hpn2
  have s23 := s2.trans s3
  -- no two alike
  refine ⟨_, rfl, _, rfl, ⟨_, SqL.of hpn3⟩, ?_⟩
  refine for_c (as := bs) (c := fun b => .str b.1.nm) src_l (fun _ σ H4 => (∃ v, σ = [some (.ref tp), some (.ref pn), some (.ref D2), v, none]) ∧ Same H3 H4) ⟨⟨_, rfl⟩, Same.refl _⟩ (fun i σ H4 _ h => SqL.of (h.2 _ _ hpn3)) (fun i b σ H4 hb ⟨⟨v, e⟩, s4⟩ => ?_) fun σ H4 ⟨⟨v, e⟩, s4⟩ => ?_
  · subst e
    have hb' := List.mem_of_getElem? hb
    obtain ⟨l, g1, g2⟩ := look b hb' H4 s4
    refine ⟨_, rfl, _, rfl, D2, .ref l, rfl, g1, _, rfl, ⟨_, SqL.of g2⟩, fun D5 hD5 => ?_⟩
    refine lc_pure (as := [b.2]) (c := V.ref) src_l (fun _ => true) (fun _ => .bl false) hD5 (fun H5 s5 => SqL.of (s5 _ _ g2)) (by show 1 < sizeLine; decide) (fun j c H5 Kt Kf hc s5 k1 k2 => ?_) fun H5 s5 hl5 => ?_
    · obtain rfl : c = b.2 := List.mem_singleton.mp (List.mem_of_getElem? hc)
      obtain ⟨l', g1', g2'⟩ := look b hb' H5 (s4.trans s5)
      have hs := (hss b (hbs b hb')).same (s23.trans (s4.trans s5))
      refine ⟨rfl, _, rfl, _, rfl, _, rfl, D2, .ref l', rfl, g1', _, _, _, _, rfl, rfl, SqL.of g2', rfl, ?_⟩
      exact ⟨b.2, b.2, _, _, rfl, rfl, ⟨b.1.k, rfl, rfl⟩, hs.ins, hs.ins, eqSp_use hs ⟨true, rfl, k1 H5 rfl (Same.refl _)⟩⟩
    · exact ⟨D5, [false], rfl, SqL.of hl5, _, rfl, ⟨_, rfl⟩, s4.trans s5⟩
  subst e
  -- the dict
  refine ⟨_, rfl, _, rfl, ⟨_, SqL.of (s4 _ _ hpn3)⟩, fun D6 hD6 => ?_⟩
  refine dc_keep (as := bs) (c := fun b => .str b.1.nm) src_l (fun _ => true) (fun b => .inr b.1.nm) (fun b v H => v = .ref b.2) hD6
    (fun b v Ha Hb h _ => h) (fun H5 sm => SqL.of (sm _ _ (s4 _ _ hpn3))) (by rw [show bs.map (fun b => (Sum.inr b.1.nm : Key)) = (bs.map fun b => b.1.nm).map Sum.inr by rw [List.map_map]; rfl]; exact asc.nodup.map (f := Sum.inr) (fun a b h e => h (Sum.inr.inj e))) len (fun i b H5 Kk Kf hb sm hl5 k1 k2 => ?_) fun H5 kvs' s5 hl5 pr5 => ?_
  · obtain ⟨l', g1', g2'⟩ := look b (List.mem_of_getElem? hb) H5 (s4.trans sm)
    exact ⟨rfl, _, rfl, _, rfl, _, rfl, D2, .ref l', rfl, g1', _, _, _, _, rfl, rfl, SqL.of g2', rfl, k1 _ H5 rfl (Same.refl _) rfl⟩
  · rw [List.filter_eq_self.mpr fun _ _ => rfl] at pr5
    refine q H5 D6 bs (s23.trans (s4.trans s5)) pb asc ?_
    rw [hl5, paired_kv pr5]
end
end ST
end
section
set_option Elab.async false
set_option linter.all false
set_option maxRecDepth 100000
set_option maxHeartbeats 1000000
/-! Wards. -/
namespace ST
open PySem PySem.Spec PyProof.Rows L2 SgO
section
variable {w : World} {K : PySem.W.Frag} {mg : Str → Option Value} {base : Heap}
def sp_Ward_init (K : PySem.W.Frag) : Sp0 := fun vs H Q => ∃ (a tp dx : Addr) (cs : List Str), vs = [.ref a, .ref tp] ∧ H a = some (.ins (He.ga K "Ward") dx []) ∧ txts H tp cs ∧ Asc cs ∧ (∀ c ∈ cs, Nm c) ∧ cs ≠ [] ∧ cs.length ≤ 7 ∧
  ∀ H', But a H H' → WAt K H' a cs → Q .non H'
abbrev n_Ward_init : List Str := ["self", "corners", "found", "corner"]
theorem sc_Ward_init : FnScope n_Ward_init ["self", "corners"] (defScope s_Ward_init) := ⟨rfl, rfl, rfl, by decide +kernel, rfl, by decide +kernel, by decide +kernel⟩
theorem fn_Ward_init (T : Txt K mg) : Fn w K mg base 2 (a_Ward_init K) (starSp 7 (sp_Ward_init K)) := by
  refine fnV_by (N := n_Ward_init) (pa := "self") (pv := "corners") (st := s_Ward_init) 7 (T.fn 57 rfl) sc_Ward_init (by decide) (fun kV doc pm an cdv ct u rest => by cases rest <;> rfl) fun cdv A outer s H vs Q hr h => ?_
  obtain ⟨a, tp, dx, cs, rfl, ha, htp, asc, hnm, hne, h7, q⟩ := h
  refine ⟨_, pss_cons (ps_if (pt_not (pt_val (pe_callB (all_ K) (by rfl) (T.free T.r_f_all) bb_all (pa_cons (pe_lc (own := [("corner", 3)]) rfl sc_Ward_init.nd (piT_ K (pv 1)) (blkOk_by (own := [("corner", 3)]) (N := n_Ward_init) (sc := defScope s_Ward_init) (by decide +kernel)) (fun _ _ _ _ _ => pg_name (i := 3) sc_Ward_init.nd rfl (by first | exact .inl rfl | exact .inr rfl)) (fun _ _ _ _ _ => pts_nil) (fun _ _ _ _ _ => pe_fn (fn_is_name T) hr (by decide) (by rfl) (T.glo T.r_g_is_name) (T.kp 2 rfl) (pa_cons (pv 3) pa_nil))) pa_nil)))) (pss_one (ps_never)) (pss_nil))
  (pss_cons (ps_set (i := 2) sc_Ward_init.nd rfl (by first | exact .inl rfl | exact .inr rfl) (pe_callTy (tupOf_ K) (by rfl) (T.free T.r_f_tuple) bb_tuple (pa_cons (pe_callB (SgT.cr_sortedT rfl) (by rfl) (T.free T.r_f_sorted) bb_sorted (pa_cons (pe_callTy (setT_ K w) (by rfl) (T.free T.r_f_set) bb_set (pa_cons (pe_lc (own := [("corner", 3)]) rfl sc_Ward_init.nd (piT_ K (pv 1)) (blkOk_by (own := [("corner", 3)]) (N := n_Ward_init) (sc := defScope s_Ward_init) (by decide +kernel)) (fun _ _ _ _ _ => pg_name (i := 3) sc_Ward_init.nd rfl (by first | exact .inl rfl | exact .inr rfl)) (fun _ _ _ _ _ => pts_nil) (fun _ _ _ _ _ => pe_callTy SkE.call_str_str (by rfl) (T.free T.r_f_str) bb_str (pa_cons (pv 3) pa_nil))) pa_nil)) pa_nil)) pa_nil)))
  (pss_cons (ps_if (pt_cmpR op_eq (pe_callB (lenQ_ K) (by rfl) (T.free T.r_f_len) bb_len (pa_cons (pv 2) pa_nil)) pe_int (by first | rfl | exact nomark _)) (pss_one (ps_never)) (pss_nil))
  (pss_cons (ps_if (pt_cmpR op_gt (pe_callB (lenQ_ K) (by rfl) (T.free T.r_f_len) bb_len (pa_cons (pv 2) pa_nil)) (pe_gI (T.int T.r_i_MOST_CORNERS)) (by first | rfl | exact nomark _)) (pss_one (ps_never)) (pss_nil))
  (pss_one (sfld_ K (pv 0) (pv 2)))))), ?_⟩
  have len : cs.length < sizeLine := Nat.lt_of_le_of_lt h7 (by decide)
  refine ⟨_, rfl, _, rfl, ⟨_, SqT.of htp⟩, fun D hD => ?_⟩
  refine lc_pure (as := cs) (c := V.str) src_t (fun _ => true) (fun _ => .bl true) hD (fun H1 sm => SqT.of (sm _ _ htp)) len (fun i c H1 Kt Kf hc sm k1 k2 => ?_) fun H1 s1 hl => ?_
  · exact ⟨rfl, _, rfl, c, rfl, hnm c (List.mem_of_getElem? hc), fun H2 s2 => k1 H2 rfl s2⟩
  rw [List.filter_eq_self.mpr fun _ _ => rfl] at hl
  refine ⟨D, cs.map fun _ => true, rfl, SqL.of (by rw [hl, List.map_map]; rfl), _, rfl, ?_⟩
  rw [all_tt]
  refine iteF ?_
  refine ⟨_, rfl, _, rfl, ⟨_, SqT.of (s1 _ _ htp)⟩, fun D2 hD2 => ?_⟩
  refine lc_pure (as := cs) (c := V.str) src_t (fun _ => true) (fun c => .str c) hD2 (fun H2 sm => SqT.of (sm _ _ (s1 _ _ htp))) len (fun i c H2 Kt Kf hc sm k1 k2 => ?_) fun H2 s2 hl2 => ?_
  · exact ⟨rfl, _, rfl, _, rfl, k1 H2 rfl (Same.refl _)⟩
  rw [List.filter_eq_self.mpr fun _ _ => rfl] at hl2
  refine ⟨D2, cs, rfl, SqL.of hl2, Nat.lt_of_le_of_lt h7 (by decide), fun p hp => ?_⟩
  rw [ded_self asc.nodup]
  refine ⟨p, _, rfl, upd_same, Nat.lt_of_le_of_lt h7 (by decide), fun ys pn perm srt hpn => ?_⟩
  have e : ys = cs := asc_ext (sorted_asc srt (perm.symm.nodup asc.nodup)) asc fun z => perm.mem_iff
  subst e
  refine ⟨pn, _, rfl, .inl ⟨SqL.of upd_same, fun l hl3 => ?_⟩⟩
  generalize hH3 : upd (upd (upd H2 p (SgT.TS w p ys)) pn (.lst (ys.map V.str))) l (.tup (ys.map V.str)) = H3
  have s3 : Same H H3 := by
    rw [← hH3]
    exact (((s1.trans s2).trans (same_upd hp)).trans (same_upd hpn)).trans (same_upd hl3)
  have h3 : txts H3 l ys := by rw [← hH3]; exact upd_same
  clear hH3
  refine ⟨_, rfl, _, _, rfl, .inr (SqT.of h3), rfl, _, rfl, ?_⟩
  rw [decide_eq_false (fun z => hne (List.length_eq_zero_iff.mp (by have := V.int.inj z; rw [List.length_map] at this; omega)))]
  refine iteF ?_
  refine ⟨_, rfl, _, _, rfl, .inr (SqT.of h3), _, _, rfl, rfl, _, rfl, ?_⟩
  rw [decide_eq_false (show ¬ (7 : Int) < ((ys.map V.str).length : Int) by rw [List.length_map]; omega)]
  refine iteF ?_
  refine ⟨_, rfl, _, rfl, a, _, dx, _, rfl, s3 _ _ ha, T.cls T.r_c_Ward, T.noat T.r_n_Ward_own_corners, by decide, ?_⟩
  exact q _ (ST.Same.but s3 a).upd ⟨dx, l, upd_same, (upd_ne (ne_of h3 (s3 _ _ ha) (fun z => nomatch z))).trans h3⟩
def sp_Ward_corners (K : PySem.W.Frag) : Sp0 := fun vs H Q => ∃ (a : Addr) (cs : List Str), vs = [.ref a] ∧ WAt K H a cs ∧ ∀ tp, txts H tp cs → Q (.ref tp) H
abbrev n_Ward_corners : List Str := ["self"]
theorem sc_Ward_corners : FnScope n_Ward_corners ["self"] (defScope s_Ward_corners) := ⟨rfl, rfl, rfl, by decide +kernel, rfl, by decide +kernel, by decide +kernel⟩
theorem fn_Ward_corners (T : Txt K mg) : Fn w K mg base 1 (a_Ward_corners K) (sp_Ward_corners K) := by
  refine fn_by (N := n_Ward_corners) (ps := ["self"]) (st := s_Ward_corners) (T.fn 58 rfl) sc_Ward_corners (fun _ _ _ _ _ _ us hl => match us, hl with | [_], _ => rfl) (by rintro vs H Q ⟨a, cs, rfl, ⟨dx, tp, h1, h2⟩, q⟩; rfl) fun cdv A outer s H vs Q hr h => ?_
  obtain ⟨a, cs, rfl, ⟨dx, tp, h1, h2⟩, q⟩ := h
  refine ⟨_, pss_one (ps_ret (fld_ K (pv 0))), ?_⟩
  exact ⟨_, rfl, a, _, dx, _, _, rfl, h1, T.cls T.r_c_Ward, T.noat T.r_n_Ward_own_corners, rfl, q tp h2⟩
/-- Ward( *cs) -/
theorem ward_mk {H : Hp} {Q : VK} {cs : List Str} (asc : Asc cs) (hnm : ∀ c ∈ cs, Nm c) (hne : cs ≠ []) (h7 : cs.length ≤ 7) (q : ∀ H' a, Same H H' → WAt K H' a cs → Q (.ref a) H') :
    afterMk (He.ga K "Ward") (up (starSp 7 (sp_Ward_init K))) (cs.map V.str) H Q := by
  intro x dx hx hdx hne'
  refine ⟨.ref x, cs.map V.str, rfl, by rw [List.length_map]; exact h7, fun p hp => ?_⟩
  have npx : p ≠ x := fun e => by rw [e, upd_same] at hp; cases hp
  refine ⟨x, p, dx, cs, rfl, (upd_ne (fun e => npx e.symm)).trans upd_same, upd_same, asc, hnm, hne, h7, fun H' b w' => ⟨rfl, q H' x ?_ w'⟩⟩
  intro c o e
  have n1 : c ≠ x := ne_of_none e hx
  have n2 : c ≠ dx := ne_of_none e hdx
  have e2 : upd (upd H dx (.own x)) x (.ins (He.ga K "Ward") dx []) c = some o := (upd_ne n1).trans ((upd_ne n2).trans e)
  have n3 : c ≠ p := fun z => by rw [← z, e2] at hp; cases hp
  exact b c o n1 ((upd_ne n3).trans e2)
end
end ST
end
section
set_option Elab.async false
set_option linter.all false
set_option maxRecDepth 100000
set_option maxHeartbeats 1000000
/-! Towns. -/
namespace ST
open PySem PySem.Spec PyProof.Rows L2 SgO
section
variable {w : World} {K : PySem.W.Frag} {mg : Str → Option Value} {base : Heap}
theorem src_km {α : Type} {as : List α} {g : α → Key × V} {d : Addr} {o : Obj} : Walk (Itk d o (as.map g)) as.length (fun H => H d = some (.frz o (.dK (as.map g)))) (YC as fun a => kV (g a).1) := by
  have z := src_k (d := d) (o := o) (kvs := as.map g)
  rw [List.length_map] at z
  refine z.mono (fun _ h => h) fun i H x H' _ _ y => ⟨y.1, ?_⟩
  obtain ⟨kv, h1, h2⟩ := y.2
  rw [List.getElem?_map] at h1
  obtain ⟨a, h3, h4⟩ := Option.map_eq_some_iff.mp h1
  exact ⟨a, h3, by rw [h2, ← h4]⟩
theorem town_cls (T : Txt K mg) : Cls K (He.ga K "Town") := T.cls T.r_c_Town
def sp_Town_streets (K : PySem.W.Frag) : Sp0 := fun vs H Q => ∃ (a : Addr) (ss : List (Stv × Addr)), vs = [.ref a] ∧ TAt K H a ss ∧ ∀ tp, H tp = some (.tup (ss.map fun b => .ref b.2)) → Q (.ref tp) H
abbrev n_Town_streets : List Str := ["self"]
theorem sc_Town_streets : FnScope n_Town_streets ["self"] (defScope s_Town_streets) := ⟨rfl, rfl, rfl, by decide +kernel, rfl, by decide +kernel, by decide +kernel⟩
theorem fn_Town_streets (T : Txt K mg) : Fn w K mg base 1 (a_Town_streets K) (sp_Town_streets K) := by
  refine fn_by (N := n_Town_streets) (ps := ["self"]) (st := s_Town_streets) (T.fn 60 rfl) sc_Town_streets (fun _ _ _ _ _ _ us hl => match us, hl with | [_], _ => rfl) (by rintro vs H Q ⟨a, ss, rfl, ⟨dx, d, tp, dc, cs, h1, h2, h3, h4⟩, q⟩; rfl) fun cdv A outer s H vs Q hr h => ?_
  obtain ⟨a, ss, rfl, ⟨dx, d, tp, dc, cs, h1, h2, h3, h4⟩, q⟩ := h
  refine ⟨_, pss_one (ps_ret (fld_ K (pv 0))), ?_⟩
  exact ⟨_, rfl, a, _, dx, _, _, rfl, h1, town_cls T, T.noat T.r_n_Town_own_rows, rfl, q tp h3⟩
/-- the corners of some streets, rising -/
def IsCor (ss : List (Stv × Addr)) (cs : List Str) : Prop := Asc cs ∧ cs.length ≤ 7 ∧ ∀ c, c ∈ cs ↔ ∃ b ∈ ss, c = b.1.x ∨ c = b.1.y
def sp_Town_corners (K : PySem.W.Frag) : Sp0 := fun vs H Q => ∃ (a : Addr) (ss : List (Stv × Addr)), vs = [.ref a] ∧ TAt K H a ss ∧ ∀ H' tp cs, Same H H' → IsCor ss cs → txts H' tp cs → Q (.ref tp) H'
abbrev n_Town_corners : List Str := ["self", "corner"]
theorem sc_Town_corners : FnScope n_Town_corners ["self"] (defScope s_Town_corners) := ⟨rfl, rfl, rfl, by decide +kernel, rfl, by decide +kernel, by decide +kernel⟩
theorem fn_Town_corners (T : Txt K mg) : Fn w K mg base 1 (a_Town_corners K) (sp_Town_corners K) := by
  refine fn_by (N := n_Town_corners) (ps := ["self"]) (st := s_Town_corners) (T.fn 61 rfl) sc_Town_corners (fun _ _ _ _ _ _ us hl => match us, hl with | [_], _ => rfl) (by rintro vs H Q ⟨a, ss, rfl, ⟨dx, d, tp, dc, cs, h1, h2, h3, h4, h5, h6, h7, h8⟩, q⟩; rfl) fun cdv A outer s H vs Q hr h => ?_
  obtain ⟨a, ss, rfl, ⟨dx, d, tp, dc, cs, h1, h2, h3, h4, h5, h6, h7, h8⟩, q⟩ := h
  refine ⟨_, pss_one (ps_ret (pe_callTy (tupOf_ K) (by rfl) (T.free T.r_f_tuple) bb_tuple (pa_cons (pe_callB (srtS_ K) (by rfl) (T.free T.r_f_sorted) bb_sorted (pa_cons (pe_lock (pe_lc (own := [("corner", 1)]) rfl sc_Town_corners.nd (pi_keys (fld_ K (pv 0))) (blkOk_by (own := [("corner", 1)]) (N := n_Town_corners) (sc := defScope s_Town_corners) (by decide +kernel)) (fun _ _ _ _ _ => pg_name (i := 1) sc_Town_corners.nd rfl (by first | exact .inl rfl | exact .inr rfl)) (fun _ _ _ _ _ => pts_nil) (fun _ _ _ _ _ => pe_callTy SkE.call_str_str (by rfl) (T.free T.r_f_str) bb_str (pa_cons (pv 1) pa_nil)))) pa_nil)) pa_nil))), ?_⟩
  refine ⟨dc, _, h5, trivial, fun od => ?_⟩
  have ndc : a ≠ dc := ne_of h1 h5 (fun z => nomatch z)
  refine ⟨_, rfl, a, _, dx, _, _, rfl, (upd_ne ndc).trans h1, town_cls T, T.noat T.r_n_Town_own_corners, rfl, dc, od, rfl, .inl ⟨_, upd_same, fun D hD => ?_⟩⟩
  refine lc_pure (as := cs) (c := V.str) (src_km (g := fun c => ((Sum.inr c : Key), V.int 0))) (fun _ => true) V.str hD (fun H1 sm => sm _ _ upd_same) (Nat.lt_of_le_of_lt h7 (by decide)) (fun i c H1 Kt Kf hc sm k1 k2 => ?_) fun H1 s1 hl => ?_
  · exact ⟨rfl, _, rfl, _, rfl, k1 H1 rfl (Same.refl _)⟩
  rw [List.filter_eq_self.mpr fun _ _ => rfl] at hl
  refine ⟨s1 _ _ upd_same, ?_⟩
  have s2 := unlock_same h5 s1
  have nD : D ≠ dc := fun e => by rw [e, upd_same] at hD; cases hD
  refine ⟨D, cs, rfl, SqL.of ((upd_ne nD).trans hl), Nat.lt_of_le_of_lt h7 (by decide), fun ys p perm srt hp => ?_⟩
  refine ⟨p, _, rfl, .inl ⟨SqL.of upd_same, fun l hl3 => ?_⟩⟩
  exact q _ l ys ((s2.trans (same_upd hp)).trans (same_upd hl3)) ⟨sorted_asc srt (perm.symm.nodup h6), by rw [perm.length_eq]; exact h7, fun c => perm.mem_iff.trans (h8 c)⟩ upd_same
theorem st_isi {H : Hp} {a : Addr} {s : Stv} (T : Txt K mg) (h : SAt K H a s) : Isi K H (.ref a) (.ref (He.ga K "Street")) true := by
  obtain ⟨_, dx, b, p, q, _, e⟩ := h
  obtain ⟨k, n, x, y⟩ := s
  cases k
  · exact isi_own T e (st_cls T .lane) (st_ins T .lane) T.r_isi_Lane_Street
  · exact isi_own T e (st_cls T .avenue) (st_ins T .avenue) T.r_isi_Avenue_Street
  · exact isi_own T e (st_cls T .road) (st_ins T .road) T.r_isi_Road_Street
theorem st_isRoad {H : Hp} {a : Addr} {s : Stv} (T : Txt K mg) (h : SAt K H a s) : Isi K H (.ref a) (.ref (He.ga K "Road")) (decide (s.k = .road)) := by
  obtain ⟨_, dx, b, p, q, _, e⟩ := h
  obtain ⟨k, n, x, y⟩ := s
  cases k
  · exact isi_own T e (st_cls T .lane) (st_ins T .lane) T.r_isi_Lane_Road
  · exact isi_own T e (st_cls T .avenue) (st_ins T .avenue) T.r_isi_Avenue_Road
  · exact isi_own T e (st_cls T .road) (st_ins T .road) T.r_isi_Road_Road
theorem st_isLane {H : Hp} {a : Addr} {s : Stv} (T : Txt K mg) (h : SAt K H a s) : Isi K H (.ref a) (.ref (He.ga K "Lane")) (decide (s.k = .lane)) := by
  obtain ⟨_, dx, b, p, q, _, e⟩ := h
  obtain ⟨k, n, x, y⟩ := s
  cases k
  · exact isi_own T e (st_cls T .lane) (st_ins T .lane) T.r_isi_Lane_Lane
  · exact isi_own T e (st_cls T .avenue) (st_ins T .avenue) T.r_isi_Avenue_Lane
  · exact isi_own T e (st_cls T .road) (st_ins T .road) T.r_isi_Road_Lane
def roadNms (ss : List (Stv × Addr)) : List Str := (ss.filter fun b => decide (b.1.k = .road)).map fun b => b.1.nm
def sp_Town_roads (K : PySem.W.Frag) : Sp0 := fun vs H Q => ∃ (a : Addr) (ss : List (Stv × Addr)), vs = [.ref a] ∧ TAt K H a ss ∧ ss.length ≤ 14 ∧ ∀ H' tp, Same H H' → txts H' tp (roadNms ss) → Q (.ref tp) H'
abbrev n_Town_roads : List Str := ["self", "street"]
theorem sc_Town_roads : FnScope n_Town_roads ["self"] (defScope s_Town_roads) := ⟨rfl, rfl, rfl, by decide +kernel, rfl, by decide +kernel, by decide +kernel⟩
theorem fn_Town_roads (T : Txt K mg) : Fn w K mg base 1 (a_Town_roads K) (sp_Town_roads K) := by
  refine fn_by (N := n_Town_roads) (ps := ["self"]) (st := s_Town_roads) (T.fn 62 rfl) sc_Town_roads (fun _ _ _ _ _ _ us hl => match us, hl with | [_], _ => rfl) (by rintro vs H Q ⟨a, ss, rfl, ⟨dx, d, tp, dc, cs, h1, h2, h3, h4, _⟩, h14, q⟩; rfl) fun cdv A outer s H vs Q hr h => ?_
  obtain ⟨a, ss, rfl, ⟨dx, d, tp, dc, cs, h1, h2, h3, h4, _⟩, h14, q⟩ := h
  refine ⟨_, pss_one (ps_ret (pe_callTy (tupOf_ K) (by rfl) (T.free T.r_f_tuple) bb_tuple (pa_cons (pe_lc (own := [("street", 1)]) rfl sc_Town_roads.nd (piT_ K (fld_ K (pv 0))) (blkOk_by (own := [("street", 1)]) (N := n_Town_roads) (sc := defScope s_Town_roads) (by decide +kernel)) (fun _ _ _ _ _ => pg_name (i := 1) sc_Town_roads.nd rfl (by first | exact .inl rfl | exact .inr rfl)) (fun _ _ _ _ _ => pts_one (pt_val (pe_callB (isi_ K) (by rfl) (T.free T.r_f_isinstance) bb_isinstance (pa_cons (pv 1) (pa_cons (pe_gC (T.glo T.r_g_Road)) pa_nil))))) (fun _ _ _ _ _ => fld_ K (pv 1))) pa_nil))), ?_⟩
  refine ⟨_, rfl, a, _, dx, _, _, rfl, h1, town_cls T, T.noat T.r_n_Town_own_rows, rfl, _, rfl, ⟨_, SqT.of h3⟩, fun D hD => ?_⟩
  refine lc_pure (as := ss) (c := fun b => .ref b.2) src_t (fun b => decide (b.1.k = .road)) (fun b => .str b.1.nm) hD (fun H1 sm => SqT.of (sm _ _ h3)) (Nat.lt_of_le_of_lt h14 (by decide)) (fun i b H1 Kt Kf hb sm k1 k2 => ?_) fun H1 s1 hl => ?_
  · have hs := (h4 b (List.mem_of_getElem? hb)).same sm
    refine ⟨rfl, _, rfl, _, _, _, rfl, st_isRoad T hs, _, rfl, ?_⟩
    refine ite2 (fun c => ?_) fun c => k2 H1 (by simpa using c) (Same.refl _)
    obtain ⟨dx', fs, e1, e2, e3, e4⟩ := hs.nameAt T
    exact ⟨_, rfl, b.2, _, dx', fs, _, rfl, e1, e2, e3, e4, k1 H1 c (Same.refl _)⟩
  · refine ⟨D, _, rfl, .inl ⟨SqL.of hl, fun l hl3 => ?_⟩⟩
    exact q _ l (s1.trans (same_upd hl3)) (by show upd _ _ _ _ = some (.tup ((roadNms ss).map V.str)); rw [upd_same, roadNms, List.map_map]; rfl)
def sp_Town_len (K : PySem.W.Frag) : Sp0 := fun vs H Q => ∃ (a : Addr) (ss : List (Stv × Addr)), vs = [.ref a] ∧ TAt K H a ss ∧ Q (.int (ss.length : Nat)) H
abbrev n_Town_len : List Str := ["self"]
theorem sc_Town_len : FnScope n_Town_len ["self"] (defScope s_Town_len) := ⟨rfl, rfl, rfl, by decide +kernel, rfl, by decide +kernel, by decide +kernel⟩
theorem fn_Town_len (T : Txt K mg) : Fn w K mg base 1 (a_Town_len K) (sp_Town_len K) := by
  refine fn_by (N := n_Town_len) (ps := ["self"]) (st := s_Town_len) (T.fn 63 rfl) sc_Town_len (fun _ _ _ _ _ _ us hl => match us, hl with | [_], _ => rfl) (by rintro vs H Q ⟨a, ss, rfl, ⟨dx, d, tp, dc, cs, h1, h2, h3, h4⟩, q⟩; rfl) fun cdv A outer s H vs Q hr h => ?_
  obtain ⟨a, ss, rfl, ⟨dx, d, tp, dc, cs, h1, h2, h3, h4⟩, q⟩ := h
  refine ⟨_, pss_one (ps_ret (pe_callB call_lenR (by rfl) (T.free T.r_f_len) bb_len (pa_cons (fld_ K (pv 0)) pa_nil))), ?_⟩
  refine ⟨_, rfl, a, _, dx, _, _, rfl, h1, town_cls T, T.noat T.r_n_Town_own_streets, rfl, d, _, rfl, .inl h2, ?_⟩
  rw [List.length_map]
  exact q
theorem ins_town {H : Hp} {a : Addr} {ss : List (Stv × Addr)} (h : TRd K H a ss) : Ins H a (He.ga K "Town") := let ⟨dx, _, _, _, e, _⟩ := h; ⟨dx, _, e⟩
def hasNm (ss : List (Stv × Addr)) (z : Str) : Bool := ss.any fun b => decide (b.1.nm = z)
theorem valV_nm {ss : List (Stv × Addr)} {z : Str} : (valV (ss.map fun b => ((Sum.inr b.1.nm : Key), V.ref b.2)) (.inr z)).isSome = hasNm ss z := by
  rw [← valV_any, List.any_map]
  unfold hasNm
  congr 1
  funext b
  exact decide_eq_decide.mpr ⟨fun e => Sum.inr.inj e, fun e => congrArg _ e⟩
def sp_Town_contains (K : PySem.W.Frag) : Sp0 := fun vs H Q => ∃ (a : Addr) (ss : List (Stv × Addr)) (z : Str), vs = [.ref a, .str z] ∧ TRd K H a ss ∧ Q (.bl (hasNm ss z)) H
abbrev n_Town_contains : List Str := ["self", "name"]
theorem sc_Town_contains : FnScope n_Town_contains ["self", "name"] (defScope s_Town_contains) := ⟨rfl, rfl, rfl, by decide +kernel, rfl, by decide +kernel, by decide +kernel⟩
theorem fn_Town_contains (T : Txt K mg) : Fn w K mg base 1 (a_Town_contains K) (sp_Town_contains K) := by
  refine fn_by (N := n_Town_contains) (ps := ["self", "name"]) (st := s_Town_contains) (T.fn 64 rfl) sc_Town_contains (fun _ _ _ _ _ _ us hl => match us, hl with | [_, _], _ => rfl) (by rintro vs H Q ⟨a, ss, z, rfl, ⟨dx, d, tp, dc, h1, h2, h3, h4⟩, q⟩; rfl) fun cdv A outer s H vs Q hr h => ?_
  obtain ⟨a, ss, z, rfl, ⟨dx, d, tp, dc, h1, h2, h3, h4⟩, q⟩ := h
  refine ⟨_, pss_one (ps_ret (pe_and (pe_callB (isi_ K) (by rfl) (T.free T.r_f_isinstance) bb_isinstance (pa_cons (pv 1) (pa_cons (pe_bT (T.free T.r_f_str) bb_str) pa_nil))) (pe_one (pe_cmp (pc_din (hu_of hr) (pv 1) (fld_ K (pv 0))))))), ?_⟩
  refine ⟨_, rfl, _, _, _, rfl, isi_ss, _, rfl, ?_⟩
  refine ⟨_, rfl, _, rfl, a, _, dx, _, _, rfl, h1, town_cls T, T.noat T.r_n_Town_own_streets, rfl, d, _, rfl, dget_r h2 rfl, ?_⟩
  rw [valV_nm]
  exact q
def sp_Town_getitem (K : PySem.W.Frag) : Sp0 := fun vs H Q => ∃ (a : Addr) (ss : List (Stv × Addr)) (b : Stv × Addr), vs = [.ref a, .str b.1.nm] ∧ TRd K H a ss ∧ (ss.map fun b => b.1.nm).Nodup ∧ b ∈ ss ∧ Q (.ref b.2) H
theorem hasNm_in {ss : List (Stv × Addr)} {b : Stv × Addr} (h : b ∈ ss) : hasNm ss b.1.nm = true := List.any_eq_true.mpr ⟨b, h, decide_eq_true rfl⟩
abbrev n_Town_getitem : List Str := ["self", "name"]
theorem sc_Town_getitem : FnScope n_Town_getitem ["self", "name"] (defScope s_Town_getitem) := ⟨rfl, rfl, rfl, by decide +kernel, rfl, by decide +kernel, by decide +kernel⟩
theorem fn_Town_getitem (T : Txt K mg) : Fn w K mg base 2 (a_Town_getitem K) (sp_Town_getitem K) := by
  refine fn_by (N := n_Town_getitem) (ps := ["self", "name"]) (st := s_Town_getitem) (T.fn 65 rfl) sc_Town_getitem (fun _ _ _ _ _ _ us hl => match us, hl with | [_, _], _ => rfl) (by rintro vs H Q ⟨a, ss, b, rfl, h, hn, hb, q⟩; rfl) fun cdv A outer s H vs Q hr h => ?_
  obtain ⟨a, ss, b, rfl, h, hn, hb, q⟩ := h
  refine ⟨_, pss_cons (ps_if (pt_cmpR (op_ninOwn (T.own_contains_Town) (fn_Town_contains T) (hr.mono (by decide))) (pv 1) (pv 0) (by first | rfl | exact nomark _)) (pss_one (ps_never)) (pss_nil))
  (pss_one (ps_ret (pe_dget (hu_of hr) (fld_ K (pv 0)) (pv 1) (fun _ _ => rfl)))), ?_⟩
  have h' := h
  obtain ⟨dx, d, tp, dc, h1, h2, h3, h4⟩ := h'
  refine ⟨_, rfl, _, rfl, a, rfl, ins_town h, a, ss, _, rfl, h, _, rfl, _, rfl, ?_⟩
  rw [hasNm_in hb]
  refine iteF ?_
  exact ⟨_, rfl, a, _, dx, _, _, rfl, h1, town_cls T, T.noat T.r_n_Town_own_streets, rfl, _, rfl, d, _, rfl, dget_r h2 (valV_of (k := fun b : Stv × Addr => b.1.nm) (v := fun b => .ref b.2) hn hb), q⟩
/-- a loop over what is walked, whatever a turn asks -/
theorem loop_c {α : Type} {J : It} {G : Hp → Prop} {as : List α} {c : α → V} {H0 : Hp} {S : Hp → Prop} {R : (Hp → Prop) → V → Hp → Prop} (w' : Walk J as.length G (YC as c)) (Pv : Nat → Hp → Prop) (h0 : Pv 0 H0) (hG : ∀ i H, Pv i H → G H)
    (hs : ∀ (i : Nat) (a : α) (H : Hp), as[i]? = some a → Pv i H → R (Pv (i + 1)) (c a) H) (hd : ∀ H, Pv as.length H → S H) :
    ∃ W : Nat → Nat → Hp → Prop, (∃ m, W 0 m H0) ∧ ∀ i m H, W i m H → (J.stop i H ∧ S H) ∨ (J.go i H ∧ ∃ Nx : Hp → Prop, (∀ H', Nx H' → ∃ m', m' < m ∧ W (i + 1) m' H') ∧ ∀ x H', J.yld i H x H' → R Nx x H') := by
  refine ⟨fun i m H => m = as.length - i ∧ i ≤ as.length ∧ Pv i H, ⟨as.length, by simp, Nat.zero_le _, h0⟩, ?_⟩
  rintro i m H ⟨rfl, hi, p⟩
  by_cases hlt : i < as.length
  · refine .inr ⟨w'.goes i H hlt (hG i H p), Pv (i + 1), fun H' p' => ⟨as.length - (i + 1), by omega, rfl, hlt, p'⟩, fun x H' y => ?_⟩
    obtain ⟨rfl, a, ha, rfl⟩ := w'.yields i H x H' hlt (hG i H p) y
    exact hs i a H' ha p
  · have e : i = as.length := by omega
    subst e
    exact .inl ⟨w'.stops H (hG _ H p), hd H p⟩
/-- the ends of the streets, one behind another -/
def endsL (ss : List (Stv × Addr)) : List Str := ss.flatMap fun b => [(ord2 b.1.x b.1.y).1, (ord2 b.1.x b.1.y).2]
theorem endsL_len (ss : List (Stv × Addr)) : (endsL ss).length = 2 * ss.length := by
  induction ss with
  | nil => rfl
  | cons b r ih =>
    have : (endsL (b :: r)).length = 2 + (endsL r).length := by
      unfold endsL
      rw [List.flatMap_cons, List.length_append]
      rfl
    rw [this, ih, List.length_cons]
    omega
theorem mem_ord2 {c x y : Str} : c ∈ [(ord2 x y).1, (ord2 x y).2] ↔ c = x ∨ c = y := by
  rcases ord2_or x y with ⟨e, _⟩ | ⟨e, _⟩
  · rw [e]
    simp
  · rw [e]
    simp only [List.mem_cons, List.not_mem_nil, or_false]
    exact Or.comm
theorem mem_endsL {ss : List (Stv × Addr)} {c : Str} : c ∈ endsL ss ↔ ∃ b ∈ ss, c = b.1.x ∨ c = b.1.y := by
  unfold endsL
  rw [List.mem_flatMap]
  exact ⟨fun ⟨b, hb, h⟩ => ⟨b, hb, mem_ord2.mp h⟩, fun ⟨b, hb, h⟩ => ⟨b, hb, mem_ord2.mpr h⟩⟩
abbrev g0 (c : Str) : Key × V := (.inr c, .int 0)
theorem put0 (cs : List Str) (c : Str) : putK (cs.map g0) (.inr c) (.int 0) = (SgT.addT cs c).map g0 := by
  unfold SgT.addT
  by_cases h : c ∈ cs
  · rw [if_pos h]
    have e : valV (cs.map g0) (.inr c) ≠ none := fun z => valV_not z (List.mem_map.mpr ⟨g0 c, List.mem_map.mpr ⟨c, h, rfl⟩, rfl⟩)
    unfold putK
    rw [if_pos (by rw [valV_any]; cases q : valV (cs.map g0) (.inr c) with | none => exact absurd q e | some v => rfl)]
    rw [List.map_map]
    refine List.map_congr_left fun z _ => ?_
    show (if (Sum.inr z : Key) = Sum.inr c then (Sum.inr z, V.int 0) else g0 z) = g0 z
    split <;> rfl
  · rw [if_neg h, putK_new _ (valV_no (k := fun c => c) (v := fun _ => .int 0) (bs := cs) fun b hb e => h (by have e : b = c := e; rw [← e]; exact hb)), List.map_append]
    rfl
theorem nodup_le {xs ys : List Str} (h : xs.Nodup) (s : ∀ x ∈ xs, x ∈ ys) : xs.length ≤ ys.length := by
  induction xs generalizing ys with
  | nil => exact Nat.zero_le _
  | cons x r ih =>
    obtain ⟨h1, h2⟩ := List.nodup_cons.mp h
    have hx := s x List.mem_cons_self
    have := ih (ys := ys.erase x) h2 fun z hz => (List.mem_erase_of_ne (fun e : z = x => h1 (by rw [← e]; exact hz))).mpr (s z (List.mem_cons_of_mem _ hz))
    rw [List.length_erase_of_mem hx] at this
    have := List.length_pos_of_mem hx
    simp only [List.length_cons]
    omega
def sp_Town_init (K : PySem.W.Frag) : Sp0 := fun vs H Q => ∃ (a tp dx : Addr) (ss : List (Stv × Addr)) (cs0 : List Str), vs = [.ref a, .ref tp] ∧ H a = some (.ins (He.ga K "Town") dx []) ∧ H tp = some (.tup (ss.map fun b => .ref b.2)) ∧ (∀ b ∈ ss, SAt K H b.2 b.1) ∧
  (ss.map fun b => b.1.nm).Nodup ∧ ss.length ≤ 14 ∧ cs0.length ≤ 7 ∧ (∀ b ∈ ss, b.1.x ∈ cs0 ∧ b.1.y ∈ cs0) ∧
  ∀ H' bs, But a H H' → bs.Perm ss → Asc (bs.map fun b => b.1.nm) → TAt K H' a bs → Q .non H'
theorem town_cv (T : Txt K mg) : ∃ t, ClX.CVal K (He.ga K "Town") (.type "type") "CORNERS" (.int 7) (.int 7 t) := cvB_ok T.r_cv_CORNERS
theorem town_sv (T : Txt K mg) : ∃ t, ClX.CVal K (He.ga K "Town") (.type "type") "STREETS" (.int 14) (.int 14 t) := cvB_ok T.r_cv_STREETS
abbrev n_Town_init : List Str := ["self", "streets", "street", "end"]
theorem sc_Town_init : FnScope n_Town_init ["self", "streets"] (defScope s_Town_init) := ⟨rfl, rfl, rfl, by decide +kernel, rfl, by decide +kernel, by decide +kernel⟩
theorem fn_Town_init (T : Txt K mg) : Fn w K mg base 5 (a_Town_init K) (starSp 14 (sp_Town_init K)) := by
  refine fnV_by (N := n_Town_init) (pa := "self") (pv := "streets") (st := s_Town_init) 14 (T.fn 59 rfl) sc_Town_init (by decide) (fun kV doc pm an cdv ct u rest => by cases rest <;> rfl) fun cdv A outer s H vs Q hr h => ?_
  obtain ⟨a, tp, dx, ss, cs0, rfl, ha, htp, hss, hnd, h14, h7, hcs, q⟩ := h
  refine ⟨_, pss_cons (ps_if (pt_not (pt_val (pe_callB (all_ K) (by rfl) (T.free T.r_f_all) bb_all (pa_cons (pe_lc (own := [("street", 2)]) rfl sc_Town_init.nd (piT_ K (pv 1)) (blkOk_by (own := [("street", 2)]) (N := n_Town_init) (sc := defScope s_Town_init) (by decide +kernel)) (fun _ _ _ _ _ => pg_name (i := 2) sc_Town_init.nd rfl (by first | exact .inl rfl | exact .inr rfl)) (fun _ _ _ _ _ => pts_nil) (fun _ _ _ _ _ => pe_callB (isi_ K) (by rfl) (T.free T.r_f_isinstance) bb_isinstance (pa_cons (pv 2) (pa_cons (pe_gC (T.glo T.r_g_Street)) pa_nil)))) pa_nil)))) (pss_one (ps_never)) (pss_nil))
  (pss_cons (sfld_ K (pv 0) (pe_fn (fn_gathered T) hr (by decide) (by rfl) (T.glo T.r_g_gathered) (T.kp 8 rfl) (pa_cons (pv 1) pa_nil)))
  (pss_cons (sfld_ K (pv 0) (SgU.pe_tupVals rfl (by rfl) (T.free T.r_f_tuple) (fld_ K (pv 0))))
  (pss_cons (sfld_ K (pv 0) (SgD.pe_dc2 (own := [("street", 2), ("end", 3)]) (vs1 := [3]) rfl sc_Town_init.nd (piT_ K (pv 1)) (blkOk_by (own := [("street", 2), ("end", 3)]) (N := n_Town_init) (sc := defScope s_Town_init) (by decide +kernel)) (by decide) (fun _ _ _ _ _ => pg_name (i := 2) sc_Town_init.nd rfl (by first | exact .inl rfl | exact .inr rfl)) (fun _ _ _ _ _ => piT_ K (pe_propR (endsW K) (endsW_ok T) (hr.mono (by decide)) (pv 2))) (fun _ _ _ _ _ => pg_name (i := 3) sc_Town_init.nd rfl (by first | exact .inl rfl | exact .inr rfl)) (fun _ _ _ _ _ => pv 3) (fun _ _ _ _ _ => pe_int)))
  (pss_cons (ps_if (pt_cmpR op_gt (pe_callB call_lenR (by rfl) (T.free T.r_f_len) bb_len (pa_cons (fld_ K (pv 0)) pa_nil)) (ClX.pe_cval (pe_gC (T.glo T.r_g_Town))) (by first | rfl | exact nomark _)) (pss_one (ps_never)) (pss_nil))
  (pss_one (ps_if (pt_cmpR op_gt (pe_callB call_lenR (by rfl) (T.free T.r_f_len) bb_len (pa_cons (fld_ K (pv 0)) pa_nil)) (ClX.pe_cval (pe_gC (T.glo T.r_g_Town))) (by first | rfl | exact nomark _)) (pss_one (ps_never)) (pss_nil))))))), ?_⟩
  have len : ss.length < sizeLine := Nat.lt_of_le_of_lt h14 (by decide)
  refine ⟨_, rfl, _, rfl, ⟨_, SqT.of htp⟩, fun D hD => ?_⟩
  refine lc_pure (as := ss) (c := fun b => .ref b.2) src_t (fun _ => true) (fun _ => .bl true) hD (fun H1 sm => SqT.of (sm _ _ htp)) len (fun i b H1 Kt Kf hb sm k1 k2 => ?_) fun H1 s1 hl => ?_
  · exact ⟨rfl, _, rfl, _, _, _, rfl, st_isi T ((hss b (List.mem_of_getElem? hb)).same sm), k1 H1 rfl (Same.refl _)⟩
  rw [List.filter_eq_self.mpr fun _ _ => rfl] at hl
  refine ⟨D, ss.map fun _ => true, rfl, SqL.of (by rw [hl, List.map_map]; rfl), _, rfl, ?_⟩
  rw [all_tt]
  refine iteF ?_
  -- own_streets
  refine ⟨_, rfl, tp, ss, rfl, s1 _ _ htp, fun b hb => (hss b hb).same s1, hnd, Nat.lt_of_le_of_lt h14 (by decide), fun H2 d bs s2 pb asc hd => ?_⟩
  have ha2 := s2 _ _ (s1 _ _ ha)
  refine ⟨_, rfl, a, _, dx, _, rfl, ha2, town_cls T, T.noat T.r_n_Town_own_streets, by decide, ?_⟩
  have nda : d ≠ a := ne_of hd ha2 (fun z => nomatch z)
  have b2 : But a H (upd H2 a (.ins (He.ga K "Town") dx [("own_streets", .ref d)])) := (ST.Same.but (s1.trans s2) a).upd
  -- own_rows
  refine ⟨_, rfl, a, _, dx, _, _, rfl, upd_same, town_cls T, T.noat T.r_n_Town_own_streets, rfl, d, _, rfl, (upd_ne nda).trans hd, fun t ht => ?_⟩
  have nta : t ≠ a := fun e => by rw [e, upd_same] at ht; cases ht
  have ntd : t ≠ d := fun e => by rw [e, upd_ne nda, hd] at ht; cases ht
  refine ⟨_, rfl, a, _, dx, _, rfl, (upd_ne (Ne.symm nta)).trans upd_same, town_cls T, T.noat T.r_n_Town_own_rows, few1, ?_⟩
  generalize hH3 : upd (upd (upd H2 a (.ins (He.ga K "Town") dx (putF "own_streets" (.ref d) []))) t (.tup ((bs.map fun b => ((.inr b.1.nm : Key), V.ref b.2)).map (·.2)))) a (.ins (He.ga K "Town") dx (putF "own_rows" (.ref t) (putF "own_streets" (.ref d) []))) = H3
  have b3 : But a H H3 := by
    rw [← hH3]
    exact (b2.upd' (fun_none b2 nta ht)).upd
  have a3 : H3 a = some (.ins (He.ga K "Town") dx [("own_streets", .ref d), ("own_rows", .ref t)]) := by
    rw [← hH3]
    exact upd_same
  have d3 : H3 d = some (.dK (bs.map fun b => (.inr b.1.nm, .ref b.2))) := by
    rw [← hH3, upd_ne nda, upd_ne (Ne.symm ntd), upd_ne nda]
    exact hd
  have t3 : H3 t = some (.tup (bs.map fun b => .ref b.2)) := by
    rw [← hH3, upd_ne nta, upd_same, List.map_map]
    rfl
  clear hH3
  have hs3 : ∀ b ∈ ss, SAt K H3 b.2 b.1 := fun b hb => by
    obtain ⟨ok, dx', e, p', q', e1, e2⟩ := hss b hb
    exact ⟨ok, dx', e, p', q', b3 _ _ (ne_of e1 ha (fun z => nomatch z)) e1, b3 _ _ (fun z => by rw [z, ha] at e2; have := (HO.ins.inj (Option.some.inj e2)).2.2; rw [stF] at this; split at this <;> cases this) e2⟩
  have tp3 : H3 tp = some (.tup (ss.map fun b => .ref b.2)) := b3 _ _ (ne_of htp ha (fun z => nomatch z)) htp
  -- own_corners
  refine ⟨_, rfl, _, rfl, ⟨_, SqT.of tp3⟩, fun D4 hD4 => ?_⟩
  refine loop_c (as := ss) (c := fun b => .ref b.2) src_t (fun i H4 => Same H3 H4 ∧ H4 D4 = some (.dK ((SgT.dedT (endsL (ss.take i))).map g0))) ⟨same_upd hD4, upd_same⟩ (fun i H4 h => SqT.of (h.1 _ _ tp3)) (fun i b H4 hb ⟨s4, e4⟩ => ?_) fun H4 ⟨s4, e4⟩ => ?_
  · have hb' := List.mem_of_getElem? hb
    have hs4 := (hs3 b hb').same s4
    refine ⟨rfl, _, rfl, b.2, _, _, rfl, ⟨b.1.k, rfl, rfl⟩, hs4.ins, b.2, b.1, rfl, hs4, fun eb heb => ?_⟩
    refine ⟨_, rfl, ⟨_, SqT.of heb⟩, ?_⟩
    have step : endsL (ss.take (i + 1)) = endsL (ss.take i) ++ [(ord2 b.1.x b.1.y).1, (ord2 b.1.x b.1.y).2] := by
      rw [List.take_add_one, hb, endsL, List.flatMap_append]
      rfl
    refine loop_c (as := [(ord2 b.1.x b.1.y).1, (ord2 b.1.x b.1.y).2]) (c := V.str) src_t (fun j H5 => But D4 H4 H5 ∧ H5 D4 = some (.dK ((([(ord2 b.1.x b.1.y).1, (ord2 b.1.x b.1.y).2].take j).foldl SgT.addT (SgT.dedT (endsL (ss.take i)))).map g0)))
      ⟨But.refl _ _, e4⟩ (fun j H5 h => SqT.of (h.1 _ _ (ne_of heb e4 (fun z => nomatch z)) heb)) (fun j c H5 hc ⟨b5, e5⟩ => ?_) fun H5 ⟨b5, e5⟩ => ⟨fun z o e => b5 z o (ne_of_none e hD4) (s4 z o e), ?_⟩
    · refine ⟨rfl, _, rfl, _, .inr c, rfl, e5, ?_, b5.upd, ?_⟩
      · rw [List.length_map]
        have l1 := SgT.fold_len ([(ord2 b.1.x b.1.y).1, (ord2 b.1.x b.1.y).2].take j) (l := SgT.dedT (endsL (ss.take i)))
        have l2 := SgT.ded_len (endsL (ss.take i))
        have l3 : (endsL (ss.take i)).length ≤ 28 := by
          rw [endsL_len, List.length_take]
          omega
        have l4 : ([(ord2 b.1.x b.1.y).1, (ord2 b.1.x b.1.y).2].take j).length ≤ 2 := by
          rw [List.length_take]
          exact Nat.min_le_right _ _
        exact Nat.lt_of_le_of_lt (show _ ≤ 30 by omega) (by decide)
      · rw [upd_same, put0, List.take_add_one, hc, List.foldl_append]
        rfl
    · rw [step, SgT.dedT, List.foldl_append]
      exact e5
  rw [List.take_length] at e4
  have a4 := s4 _ _ a3
  have n4 : D4 ≠ a := ne_of e4 a4 (fun z => nomatch z)
  refine ⟨_, rfl, a, _, dx, _, rfl, a4, town_cls T, T.noat T.r_n_Town_own_corners, few2, ?_⟩
  have mem : ∀ c, c ∈ SgT.dedT (endsL ss) ↔ ∃ b ∈ ss, c = b.1.x ∨ c = b.1.y := fun c => SgT.ded_mem.trans mem_endsL
  have l7 : (SgT.dedT (endsL ss)).length ≤ 7 := Nat.le_trans (nodup_le (ys := cs0) (SgT.ded_nodup _) fun c hc => by
    obtain ⟨b, hb, e | e⟩ := (mem c).mp hc
    · exact e ▸ (hcs b hb).1
    · exact e ▸ (hcs b hb).2) h7
  obtain ⟨t7, v7⟩ := town_cv T
  obtain ⟨t14, v14⟩ := town_sv T
  refine ⟨_, rfl, a, _, dx, _, _, rfl, upd_same, town_cls T, T.noat T.r_n_Town_own_corners, rfl, D4, _, rfl, .inl ((upd_ne n4).trans e4), ?_⟩
  refine ⟨_, _, _, _, rfl, crB_ok T.r_cr_Town, v7, _, _, rfl, rfl, _, rfl, ?_⟩
  rw [decide_eq_false (show ¬ (7 : Int) < (((SgT.dedT (endsL ss)).map g0).length : Int) by rw [List.length_map]; omega)]
  refine iteF ?_
  have nd4 : d ≠ a := nda
  refine ⟨_, rfl, a, _, dx, _, _, rfl, upd_same, town_cls T, T.noat T.r_n_Town_own_streets, rfl, d, _, rfl, .inl ((upd_ne nda).trans (s4 _ _ d3)), ?_⟩
  refine ⟨_, _, _, _, rfl, crB_ok T.r_cr_Town, v14, _, _, rfl, rfl, _, rfl, ?_⟩
  rw [decide_eq_false (show ¬ (14 : Int) < ((bs.map fun b => ((.inr b.1.nm : Key), V.ref b.2)).length : Int) by rw [List.length_map, pb.length_eq]; omega)]
  refine iteF ?_
  refine q _ bs ((b3.trans (ST.Same.but s4 a)).upd) pb asc ⟨dx, d, t, D4, SgT.dedT (endsL ss), upd_same, (upd_ne nda).trans (s4 _ _ d3), (upd_ne nta).trans (s4 _ _ t3), fun b hb => ?_, (upd_ne n4).trans e4, SgT.ded_nodup _, l7, fun c => (mem c).trans ?_⟩
  · obtain ⟨ok, dx', e, p', q', e1, e2⟩ := (hs3 b (pb.mem_iff.mp hb)).same s4
    exact ⟨ok, dx', e, p', q', (upd_ne (ne_of e1 a4 (fun z => nomatch z))).trans e1, (upd_ne (fun z => by rw [z, a4] at e2; have := (HO.ins.inj (Option.some.inj e2)).2.2; rw [stF] at this; split at this <;> exact absurd (congrArg List.length this) (by simp))).trans e2⟩
  · exact ⟨fun ⟨b, hb, h⟩ => ⟨b, pb.mem_iff.mpr hb, h⟩, fun ⟨b, hb, h⟩ => ⟨b, pb.mem_iff.mp hb, h⟩⟩
end
end ST
end
section
set_option Elab.async false
set_option linter.all false
set_option maxRecDepth 100000
set_option maxHeartbeats 1000000
/-! Towns made from towns. -/
namespace ST
open PySem PySem.Spec PyProof.Rows L2 SgO
section
variable {w : World} {K : PySem.W.Frag} {mg : Str → Option Value} {base : Heap}
/-- streets that make a town: names that differ, few of them, few corners -/
def TOk (ss : List (Stv × Addr)) : Prop := (ss.map fun b => b.1.nm).Nodup ∧ ss.length ≤ 14 ∧ ∃ cs0 : List Str, cs0.length ≤ 7 ∧ ∀ b ∈ ss, b.1.x ∈ cs0 ∧ b.1.y ∈ cs0
def TMade (K : PySem.W.Frag) (H : Hp) (ss : List (Stv × Addr)) (Q : VK) : Prop := ∀ H' t bs, Same H H' → bs.Perm ss → Asc (bs.map fun b => b.1.nm) → TAt K H' t bs → Q (.ref t) H'
theorem town_mk {H : Hp} {Q : VK} {ss : List (Stv × Addr)} (ok : TOk ss) (hs : ∀ b ∈ ss, SAt K H b.2 b.1) (q : TMade K H ss Q) : afterMk (He.ga K "Town") (up (starSp 14 (sp_Town_init K))) (ss.map fun b => V.ref b.2) H Q := by
  intro x dx hx hdx hne'
  obtain ⟨h1, h2, cs0, h3, h4⟩ := ok
  refine ⟨.ref x, ss.map fun b => V.ref b.2, rfl, by rw [List.length_map]; exact h2, fun p hp => ?_⟩
  have npx : p ≠ x := fun e => by rw [e, upd_same] at hp; cases hp
  have s1 : Same H (upd (upd (upd H dx (.own x)) x (.ins (He.ga K "Town") dx [])) p (.tup (ss.map fun b => V.ref b.2))) := fun c o e => by
    have n1 : c ≠ x := ne_of_none e hx
    have n2 : c ≠ dx := ne_of_none e hdx
    have e2 : upd (upd H dx (.own x)) x (.ins (He.ga K "Town") dx []) c = some o := (upd_ne n1).trans ((upd_ne n2).trans e)
    exact (upd_ne (ne_of_none e2 hp)).trans e2
  refine ⟨x, p, dx, ss, cs0, rfl, (upd_ne (fun e => npx e.symm)).trans upd_same, upd_same, fun b hb => (hs b hb).same s1, h1, h2, h3, h4, fun H' bs b' pb asc ta => ⟨rfl, q H' x bs (fun c o e => b' c o (ne_of_none e hx) (s1 c o e)) pb asc ta⟩⟩
def sp_Town_or (K : PySem.W.Frag) : Sp0 := fun vs H Q => ∃ (a r : Addr) (ss : List (Stv × Addr)) (s : Stv), vs = [.ref a, .ref r] ∧ TAt K H a ss ∧ SAt K H r s ∧ TOk (ss ++ [(s, r)]) ∧ TMade K H (ss ++ [(s, r)]) Q
abbrev n_Town_or : List Str := ["self", "value"]
theorem sc_Town_or : FnScope n_Town_or ["self", "value"] (defScope s_Town_or) := ⟨rfl, rfl, rfl, by decide +kernel, rfl, by decide +kernel, by decide +kernel⟩
theorem fn_Town_or (T : Txt K mg) : Fn w K mg base 7 (a_Town_or K) (sp_Town_or K) := by
  refine fn_by (N := n_Town_or) (ps := ["self", "value"]) (st := s_Town_or) (T.fn 66 rfl) sc_Town_or (fun _ _ _ _ _ _ us hl => match us, hl with | [_, _], _ => rfl) (by rintro vs H Q ⟨a, r, ss, s, rfl, ⟨dx, d, tp, dc, cs, h1, h2, h3, h4, _⟩, hs, ok, q⟩; rfl) fun cdv A outer s H vs Q hr h => ?_
  obtain ⟨a, r, ss, s, rfl, ⟨dx, d, tp, dc, cs, h1, h2, h3, h4, _⟩, hs, ok, q⟩ := h
  refine ⟨_, pss_cons (ps_if (pt_val (pe_callB (isi_ K) (by rfl) (T.free T.r_f_isinstance) bb_isinstance (pa_cons (pv 1) (pa_cons (pe_gC (T.glo T.r_g_Street)) pa_nil)))) (pss_one (ps_ret (pe_mkS2 (T.mkr T.r_m_Town) (fn_Town_init T) (hr.mono (by decide)) (by rfl) (T.glo T.r_g_Town) (StX.pa_star (fld_ K (pv 0)) (pa_cons (pv 1) pa_nil))))) (pss_nil)) pss_never, ?_⟩
  refine ⟨_, rfl, _, _, _, rfl, st_isi T hs, _, rfl, ?_⟩
  refine ⟨_, rfl, a, _, dx, _, _, rfl, h1, town_cls T, T.noat T.r_n_Town_own_rows, rfl, tp, _, rfl, .inl (SqT.of h3), _, rfl, ?_⟩
  have z := town_mk (K := K) (H := H) ok (fun b hb => by
    rcases List.mem_append.mp hb with m | m
    · exact h4 b m
    · rw [List.mem_singleton.mp m]
      exact hs) q
  rw [List.map_append] at z
  exact z
def sp_Town_sub (K : PySem.W.Frag) : Sp0 := fun vs H Q => ∃ (a : Addr) (ss : List (Stv × Addr)) (z : Str), vs = [.ref a, .str z] ∧ TAt K H a ss ∧ hasNm ss z = true ∧ TOk ss ∧ TMade K H (ss.filter fun b => !decide (b.1.nm = z)) Q
abbrev n_Town_sub : List Str := ["self", "name", "left", "street"]
theorem sc_Town_sub : FnScope n_Town_sub ["self", "name"] (defScope s_Town_sub) := ⟨rfl, rfl, rfl, by decide +kernel, rfl, by decide +kernel, by decide +kernel⟩
theorem fn_Town_sub (T : Txt K mg) : Fn w K mg base 7 (a_Town_sub K) (sp_Town_sub K) := by
  refine fn_by (N := n_Town_sub) (ps := ["self", "name"]) (st := s_Town_sub) (T.fn 67 rfl) sc_Town_sub (fun _ _ _ _ _ _ us hl => match us, hl with | [_, _], _ => rfl) (by rintro vs H Q ⟨a, ss, z, rfl, h, hz, ok, q⟩; rfl) fun cdv A outer s H vs Q hr h => ?_
  obtain ⟨a, ss, z, rfl, h, hz, ok, q⟩ := h
  refine ⟨_, pss_cons (ps_if (pt_cmpR (op_ninOwn (T.own_contains_Town) (fn_Town_contains T) (hr.mono (by decide))) (pv 1) (pv 0) (by first | rfl | exact nomark _)) (pss_one (ps_never)) (pss_nil))
  (pss_cons (ps_setLc (i := 2) (own := [("street", 3)]) rfl sc_Town_sub.nd rfl rfl (sw_true rfl rfl rfl (by decide +kernel)) (piT_ K (fld_ K (pv 0))) (blkOk_by (own := [("street", 3)]) (N := n_Town_sub) (sc := defScope s_Town_sub) (by decide +kernel)) (fun _ _ _ _ _ => pg_name (i := 3) sc_Town_sub.nd rfl (by first | exact .inl rfl | exact .inr rfl)) (fun _ _ _ _ _ => pts_one (pt_cmpR op_ne (fld_ K (pv 3)) (pv 1) (by first | rfl | exact nomark _))) (fun _ _ _ _ _ => pv 3))
  (pss_one (ps_ret (pe_mkS (T.mkr T.r_m_Town) (fn_Town_init T) (hr.mono (by decide)) (by rfl) (T.glo T.r_g_Town) (pv 2))))), ?_⟩
  have h' := h
  obtain ⟨dx, d, tp, dc, cs, h1, h2, h3, h4, _⟩ := h
  refine ⟨_, rfl, _, rfl, a, rfl, ⟨dx, _, h1⟩, a, ss, _, rfl, h'.rd, _, rfl, _, rfl, ?_⟩
  rw [hz]
  refine iteF ?_
  refine ⟨_, rfl, a, _, dx, _, _, rfl, h1, town_cls T, T.noat T.r_n_Town_own_rows, rfl, _, rfl, ⟨_, SqT.of h3⟩, fun D hD => ?_⟩
  refine lc_pure (as := ss) (c := fun b => .ref b.2) src_t (fun b => !decide (b.1.nm = z)) (fun b => .ref b.2) hD (fun H1 sm => SqT.of (sm _ _ h3)) (Nat.lt_of_le_of_lt ok.2.1 (by decide)) (fun i b H1 Kt Kf hb sm k1 k2 => ?_) fun H1 s1 hl => ?_
  · obtain ⟨dx', fs, e1, e2, e3, e4⟩ := ((h4 b (List.mem_of_getElem? hb)).same sm).nameAt T
    refine ⟨rfl, _, rfl, b.2, _, dx', fs, _, rfl, e1, e2, e3, e4, _, rfl, rfl, _, rfl, ?_⟩
    by_cases e : b.1.nm = z
    · rw [decide_eq_true (congrArg V.str e)]
      exact iteF (k2 H1 (by rw [decide_eq_true e]; rfl) (Same.refl _))
    · rw [decide_eq_false (fun q => e (V.str.inj q))]
      exact ⟨_, rfl, k1 H1 (by rw [decide_eq_false e]; rfl) (Same.refl _)⟩
  refine ⟨_, rfl, D, _, rfl, .inr (SqL.of hl), ?_⟩
  obtain ⟨n1, n2, cs0, n3, n4⟩ := ok
  exact town_mk (K := K) (H := H1) ⟨(List.filter_sublist.map _).nodup n1, Nat.le_trans (List.length_filter_le _ _) n2, cs0, n3, fun b hb => n4 b (List.mem_filter.mp hb).1⟩ (fun b hb => (h4 b (List.mem_filter.mp hb).1).same s1) fun H' t bs s2 => q H' t bs (s1.trans s2)
end
end ST
end
section
set_option Elab.async false
set_option linter.all false
set_option maxRecDepth 100000
set_option maxHeartbeats 1000000
/-! Signs. -/
namespace ST
open PySem PySem.Spec PyProof.Rows L2 SgO
section
variable {w : World} {K : PySem.W.Frag} {mg : Str → Option Value} {base : Heap}
abbrev Sgn : Type := Str × Str × Str
def SOk (ps : List Sgn) : Prop := (ps.map (·.1)).Nodup ∧ ps.length ≤ 14 ∧ ∀ p ∈ ps, Nm p.1 ∧ Nm p.2.1 ∧ Nm p.2.2 ∧ p.2.1 ≠ p.2.2
theorem sg_cls (T : Txt K mg) : Cls K (He.ga K "Signs") := T.cls T.r_c_Signs
def sp_Signs_names (K : PySem.W.Frag) : Sp0 := fun vs H Q => ∃ (a : Addr) (ps : List Sgn), vs = [.ref a] ∧ SgRd K H a ps ∧ ∀ tp, txts H tp (ps.map (·.1)) → Q (.ref tp) H
abbrev n_Signs_names : List Str := ["self"]
theorem sc_Signs_names : FnScope n_Signs_names ["self"] (defScope s_Signs_names) := ⟨rfl, rfl, rfl, by decide +kernel, rfl, by decide +kernel, by decide +kernel⟩
theorem fn_Signs_names (T : Txt K mg) : Fn w K mg base 1 (a_Signs_names K) (sp_Signs_names K) := by
  refine fn_by (N := n_Signs_names) (ps := ["self"]) (st := s_Signs_names) (T.fn 44 rfl) sc_Signs_names (fun _ _ _ _ _ _ us hl => match us, hl with | [_], _ => rfl) (by rintro vs H Q ⟨a, ps, rfl, ⟨dx, d, tp, bs, h1, h2, h3, h4⟩, q⟩; rfl) fun cdv A outer s H vs Q hr h => ?_
  obtain ⟨a, ps, rfl, ⟨dx, d, tp, bs, h1, h2, h3, h4⟩, q⟩ := h
  refine ⟨_, pss_one (ps_ret (fld_ K (pv 0))), ?_⟩
  exact ⟨_, rfl, a, _, dx, _, _, rfl, h1, sg_cls T, T.noat T.r_n_Signs_own_names, rfl, q tp h4⟩
def hasS (ps : List Sgn) (z : Str) : Bool := ps.any fun p => decide (p.1 = z)
theorem hasS_in {ps : List Sgn} {p : Sgn} (h : p ∈ ps) : hasS ps p.1 = true := List.any_eq_true.mpr ⟨p, h, decide_eq_true rfl⟩
theorem valV_sg {bs : List (Sgn × Addr)} {z : Str} : (valV (bs.map fun b => ((Sum.inr b.1.1 : Key), V.ref b.2)) (.inr z)).isSome = hasS (bs.map (·.1)) z := by
  rw [← valV_any, List.any_map]
  unfold hasS
  rw [List.any_map]
  congr 1
  funext b
  exact decide_eq_decide.mpr ⟨fun e => Sum.inr.inj e, fun e => congrArg _ e⟩
theorem ins_sg {H : Hp} {a : Addr} {ps : List Sgn} (h : SgRd K H a ps) : Ins H a (He.ga K "Signs") := let ⟨dx, _, _, _, e, _⟩ := h; ⟨dx, _, e⟩
def sp_Signs_contains (K : PySem.W.Frag) : Sp0 := fun vs H Q => ∃ (a : Addr) (ps : List Sgn) (z : Str), vs = [.ref a, .str z] ∧ SgRd K H a ps ∧ Q (.bl (hasS ps z)) H
abbrev n_Signs_contains : List Str := ["self", "name"]
theorem sc_Signs_contains : FnScope n_Signs_contains ["self", "name"] (defScope s_Signs_contains) := ⟨rfl, rfl, rfl, by decide +kernel, rfl, by decide +kernel, by decide +kernel⟩
theorem fn_Signs_contains (T : Txt K mg) : Fn w K mg base 1 (a_Signs_contains K) (sp_Signs_contains K) := by
  refine fn_by (N := n_Signs_contains) (ps := ["self", "name"]) (st := s_Signs_contains) (T.fn 45 rfl) sc_Signs_contains (fun _ _ _ _ _ _ us hl => match us, hl with | [_, _], _ => rfl) (by rintro vs H Q ⟨a, ps, z, rfl, ⟨dx, d, tp, bs, h1, rfl, h3, h4⟩, q⟩; rfl) fun cdv A outer s H vs Q hr h => ?_
  obtain ⟨a, ps, z, rfl, ⟨dx, d, tp, bs, h1, rfl, h3, h4⟩, q⟩ := h
  refine ⟨_, pss_one (ps_ret (pe_and (pe_callB (isi_ K) (by rfl) (T.free T.r_f_isinstance) bb_isinstance (pa_cons (pv 1) (pa_cons (pe_bT (T.free T.r_f_str) bb_str) pa_nil))) (pe_one (pe_cmp (pc_din (hu_of hr) (pv 1) (fld_ K (pv 0))))))), ?_⟩
  refine ⟨_, rfl, _, _, _, rfl, isi_ss, _, rfl, ?_⟩
  refine ⟨_, rfl, _, rfl, a, _, dx, _, _, rfl, h1, sg_cls T, T.noat T.r_n_Signs_own_parts, rfl, d, _, rfl, dget_r h3.1 rfl, ?_⟩
  rw [valV_sg]
  exact q
/-- the pair of ends under a name -/
theorem SgRd.get {H : Hp} {a : Addr} {ps : List Sgn} (h : SgRd K H a ps) (hn : (ps.map (·.1)).Nodup) {p : Sgn} (hp : p ∈ ps) : ∃ dx d tp t, H a = some (.ins (He.ga K "Signs") dx [("own_parts", .ref d), ("own_names", .ref tp)]) ∧ DGet H d (.str p.1) (some (.ref t)) ∧ T2 H t p.2.1 p.2.2 := by
  obtain ⟨dx, d, tp, bs, h1, rfl, h3, h4⟩ := h
  obtain ⟨b, hb, rfl⟩ := List.mem_map.mp hp
  rw [List.map_map] at hn
  exact ⟨dx, d, tp, b.2, h1, dget_r h3.1 (valV_of (k := fun b : Sgn × Addr => b.1.1) (v := fun b => .ref b.2) hn hb), h3.2 b hb⟩
def sp_Signs_getitem (K : PySem.W.Frag) : Sp0 := fun vs H Q => ∃ (a : Addr) (ps : List Sgn) (p : Sgn), vs = [.ref a, .str p.1] ∧ SgRd K H a ps ∧ (ps.map (·.1)).Nodup ∧ p ∈ ps ∧ Q (.str p.2.2) H
abbrev n_Signs_getitem : List Str := ["self", "name"]
theorem sc_Signs_getitem : FnScope n_Signs_getitem ["self", "name"] (defScope s_Signs_getitem) := ⟨rfl, rfl, rfl, by decide +kernel, rfl, by decide +kernel, by decide +kernel⟩
theorem fn_Signs_getitem (T : Txt K mg) : Fn w K mg base 2 (a_Signs_getitem K) (sp_Signs_getitem K) := by
  refine fn_by (N := n_Signs_getitem) (ps := ["self", "name"]) (st := s_Signs_getitem) (T.fn 46 rfl) sc_Signs_getitem (fun _ _ _ _ _ _ us hl => match us, hl with | [_, _], _ => rfl) (by rintro vs H Q ⟨a, ps, p, rfl, h, hn, hp, q⟩; rfl) fun cdv A outer s H vs Q hr h => ?_
  obtain ⟨a, ps, p, rfl, h, hn, hp, q⟩ := h
  refine ⟨_, pss_cons (ps_if (pt_cmpR (op_ninOwn (T.own_contains_Signs) (fn_Signs_contains T) (hr.mono (by decide))) (pv 1) (pv 0) (by first | rfl | exact nomark _)) (pss_one (ps_never)) (pss_nil))
  (pss_one (ps_ret (pe_ix (ixT_ K) (pe_dget (hu_of hr) (fld_ K (pv 0)) (pv 1) (fun _ _ => rfl)) pe_int (fun _ _ => rfl)))), ?_⟩
  obtain ⟨dx, d, tp, t, e1, e2, e3⟩ := h.get hn hp
  refine ⟨_, rfl, _, rfl, a, rfl, ins_sg h, a, ps, _, rfl, h, _, rfl, _, rfl, ?_⟩
  rw [hasS_in hp]
  refine iteF ?_
  exact ⟨_, rfl, a, _, dx, _, _, rfl, e1, sg_cls T, T.noat T.r_n_Signs_own_parts, rfl, _, rfl, d, _, rfl, e2, _, _, _, _, rfl, rfl, SqT.of e3, rfl, q⟩
def sp_Signs_tail (K : PySem.W.Frag) : Sp0 := fun vs H Q => ∃ (a : Addr) (ps : List Sgn) (p : Sgn), vs = [.ref a, .str p.1] ∧ SgRd K H a ps ∧ (ps.map (·.1)).Nodup ∧ p ∈ ps ∧ Q (.str p.2.1) H
abbrev n_Signs_tail : List Str := ["self", "name"]
theorem sc_Signs_tail : FnScope n_Signs_tail ["self", "name"] (defScope s_Signs_tail) := ⟨rfl, rfl, rfl, by decide +kernel, rfl, by decide +kernel, by decide +kernel⟩
theorem fn_Signs_tail (T : Txt K mg) : Fn w K mg base 2 (a_Signs_tail K) (sp_Signs_tail K) := by
  refine fn_by (N := n_Signs_tail) (ps := ["self", "name"]) (st := s_Signs_tail) (T.fn 47 rfl) sc_Signs_tail (fun _ _ _ _ _ _ us hl => match us, hl with | [_, _], _ => rfl) (by rintro vs H Q ⟨a, ps, p, rfl, h, hn, hp, q⟩; rfl) fun cdv A outer s H vs Q hr h => ?_
  obtain ⟨a, ps, p, rfl, h, hn, hp, q⟩ := h
  refine ⟨_, pss_cons (ps_if (pt_cmpR (op_ninOwn (T.own_contains_Signs) (fn_Signs_contains T) (hr.mono (by decide))) (pv 1) (pv 0) (by first | rfl | exact nomark _)) (pss_one (ps_never)) (pss_nil))
  (pss_one (ps_ret (pe_ix (ixT_ K) (pe_dget (hu_of hr) (fld_ K (pv 0)) (pv 1) (fun _ _ => rfl)) pe_int (fun _ _ => rfl)))), ?_⟩
  obtain ⟨dx, d, tp, t, e1, e2, e3⟩ := h.get hn hp
  refine ⟨_, rfl, _, rfl, a, rfl, ins_sg h, a, ps, _, rfl, h, _, rfl, _, rfl, ?_⟩
  rw [hasS_in hp]
  refine iteF ?_
  exact ⟨_, rfl, a, _, dx, _, _, rfl, e1, sg_cls T, T.noat T.r_n_Signs_own_parts, rfl, _, rfl, d, _, rfl, e2, _, _, _, _, rfl, rfl, SqT.of e3, rfl, q⟩
abbrev gS (b : Sgn × Addr) : Key × V := (.inr b.1.1, .ref b.2)
/-- an object not a dict is seen through a lock -/
theorem thru {H : Hp} {d b : Addr} {u o : HO} {od : Obj} (hd : H d = some u) (e : H b = some o) (n : o ≠ u) : upd H d (.frz od u) b = some o := (upd_ne (ne_of e hd n)).trans e
def sp_Signs_init (K : PySem.W.Frag) : Sp0 := fun vs H Q => ∃ (a d0 dx : Addr) (bs : List (Sgn × Addr)), vs = [.ref a, .ref d0] ∧ H a = some (.ins (He.ga K "Signs") dx []) ∧ H d0 = some (.dK (bs.map gS)) ∧ (∀ b ∈ bs, T2 H b.2 b.1.2.1 b.1.2.2) ∧ SOk (bs.map (·.1)) ∧
  ∀ H' ps, But a H H' → ps.Perm (bs.map (·.1)) → Asc (ps.map (·.1)) → SgAt K H' a ps → Q .non H'
abbrev n_Signs_init : List Str := ["self", "parts", "name"]
theorem sc_Signs_init : FnScope n_Signs_init ["self", "parts"] (defScope s_Signs_init) := ⟨rfl, rfl, rfl, by decide +kernel, rfl, by decide +kernel, by decide +kernel⟩
theorem fn_Signs_init (T : Txt K mg) : Fn w K mg base 3 (a_Signs_init K) (sp_Signs_init K) := by
  refine fn_by (N := n_Signs_init) (ps := ["self", "parts"]) (st := s_Signs_init) (T.fn 43 rfl) sc_Signs_init (fun _ _ _ _ _ _ us hl => match us, hl with | [_, _], _ => rfl) (by rintro vs H Q ⟨a, d0, dx, bs, rfl, ha, hd, h2, ⟨n1, n2, n3⟩, q⟩; rfl) fun cdv A outer s H vs Q hr h => ?_
  obtain ⟨a, d0, dx, bs, rfl, ha, hd, h2, ⟨n1, n2, n3⟩, q⟩ := h
  refine ⟨_, pss_cons (ps_if (PW.pt (pw_or (pt_not (pt_val (pe_callB (isi_ K) (by rfl) (T.free T.r_f_isinstance) bb_isinstance (pa_cons (pv 1) (pa_cons (pe_bT (T.free T.r_f_dict) bb_dict) pa_nil))))) (pw_or1 (pt_not (pt_val (pe_callB (all_ K) (by rfl) (T.free T.r_f_all) bb_all (pa_cons (pe_lock (pe_lc (own := [("name", 2)]) rfl sc_Signs_init.nd (pi_keys (pv 1)) (blkOk_by (own := [("name", 2)]) (N := n_Signs_init) (sc := defScope s_Signs_init) (by decide +kernel)) (fun _ _ _ _ _ => pg_name (i := 2) sc_Signs_init.nd rfl (by first | exact .inl rfl | exact .inr rfl)) (fun _ _ _ _ _ => pts_nil) (fun _ _ _ _ _ => pe_and (pe_fn (fn_is_name T) hr (by decide) (by rfl) (T.glo T.r_g_is_name) (T.kp 2 rfl) (pa_cons (pv 2) pa_nil)) (pe_one (pe_fn (fn_is_sign T) hr (by decide) (by rfl) (T.glo T.r_g_is_sign) (T.kp 5 rfl) (pa_cons (pe_dget (hu_of hr) (pv 1) (pv 2) (fun _ _ => rfl)) pa_nil)))))) pa_nil))))))) (pss_one (ps_never)) (pss_nil))
  (pss_cons (ps_if (pt_cmpR op_gt (pe_callB call_lenR (by rfl) (T.free T.r_f_len) bb_len (pa_cons (pv 1) pa_nil)) (pe_gI (T.int T.r_i_MOST_SIGNS)) (by first | rfl | exact nomark _)) (pss_one (ps_never)) (pss_nil))
  (pss_cons (sfld_ K (pv 0) (pe_dc (own := [("name", 2)]) rfl sc_Signs_init.nd (piL_ K (pe_callB (srtS_ K) (by rfl) (T.free T.r_f_sorted) bb_sorted (pa_cons (pe_lock (pe_lc (own := [("name", 2)]) rfl sc_Signs_init.nd (pi_keys (pv 1)) (blkOk_by (own := [("name", 2)]) (N := n_Signs_init) (sc := defScope s_Signs_init) (by decide +kernel)) (fun _ _ _ _ _ => pg_name (i := 2) sc_Signs_init.nd rfl (by first | exact .inl rfl | exact .inr rfl)) (fun _ _ _ _ _ => pts_nil) (fun _ _ _ _ _ => pe_callTy SkE.call_str_str (by rfl) (T.free T.r_f_str) bb_str (pa_cons (pv 2) pa_nil)))) pa_nil))) (blkOk_by (own := [("name", 2)]) (N := n_Signs_init) (sc := defScope s_Signs_init) (by decide +kernel)) (fun _ _ _ _ _ => pg_name (i := 2) sc_Signs_init.nd rfl (by first | exact .inl rfl | exact .inr rfl)) (fun _ _ _ _ _ => pts_nil) (fun _ _ _ _ _ => pv 2) (fun _ _ _ _ _ => pe_dget (hu_of hr) (pv 1) (pv 2) (fun _ _ => rfl))))
  (pss_one (sfld_ K (pv 0) (pe_callTy (SgU.call_tupleD rfl) (by rfl) (T.free T.r_f_tuple) bb_tuple (pa_cons (fld_ K (pv 0)) pa_nil)))))), ?_⟩
  rw [List.map_map] at n1
  rw [List.length_map] at n2
  have len : bs.length < sizeLine := Nat.lt_of_le_of_lt n2 (by decide)
  have n3' : ∀ b ∈ bs, Nm b.1.1 ∧ Nm b.1.2.1 ∧ Nm b.1.2.2 ∧ b.1.2.1 ≠ b.1.2.2 := fun b hb => n3 b.1 (List.mem_map.mpr ⟨b, hb, rfl⟩)
  refine ⟨_, rfl, _, _, _, rfl, isi_dd (.inl hd), _, rfl, ?_⟩
  refine ⟨d0, _, hd, trivial, fun od => ?_⟩
  refine ⟨_, rfl, d0, od, rfl, .inl ⟨_, upd_same, fun D hD => ?_⟩⟩
  refine lc_pure (as := bs) (c := fun b => .str b.1.1) (src_km (g := gS)) (fun _ => true) (fun _ => .bl true) hD (fun H1 sm => sm _ _ upd_same) len (fun i b H1 Kt Kf hb sm k1 k2 => ?_) fun H1 s1 hl => ?_
  · have hb' := List.mem_of_getElem? hb
    obtain ⟨m1, m2, m3, m4⟩ := n3' b hb'
    refine ⟨rfl, _, rfl, b.1.1, rfl, m1, fun H2 s2 => ⟨_, rfl, ?_⟩⟩
    refine ⟨_, rfl, _, rfl, d0, .ref b.2, rfl, dget_r (.inr ⟨od, s2 _ _ (sm _ _ upd_same)⟩) (valV_of (k := fun b : Sgn × Addr => b.1.1) (v := fun b => .ref b.2) n1 hb'), ?_⟩
    exact ⟨b.2, _, _, rfl, s2 _ _ (sm _ _ (thru hd (h2 b hb') (fun z => nomatch z))), m2, m3, m4, fun H3 s3 => k1 H3 rfl (s2.trans s3)⟩
  rw [List.filter_eq_self.mpr fun _ _ => rfl] at hl
  have nD : D ≠ d0 := fun e => by rw [e, upd_same] at hD; cases hD
  refine ⟨s1 _ _ upd_same, D, bs.map fun _ => true, rfl, SqL.of (by rw [upd_ne nD, hl, List.map_map]; rfl), _, rfl, ?_⟩
  rw [all_tt]
  refine iteF ?_
  have t1 := unlock_same hd s1
  generalize upd H1 d0 (.dK (bs.map gS)) = H2 at t1
  clear hl s1 hD nD
  have hd2 := t1 _ _ hd
  refine ⟨_, rfl, d0, _, rfl, .inl hd2, _, _, rfl, rfl, _, rfl, ?_⟩
  rw [decide_eq_false (show ¬ (14 : Int) < ((bs.map gS).length : Int) by rw [List.length_map]; omega)]
  refine iteF ?_
  -- own_parts
  refine ⟨d0, _, hd2, trivial, fun od2 => ?_⟩
  refine ⟨_, rfl, d0, od2, rfl, .inl ⟨_, upd_same, fun D2 hD2 => ?_⟩⟩
  refine lc_pure (as := bs) (c := fun b => .str b.1.1) (src_km (g := gS)) (fun _ => true) (fun b => .str b.1.1) hD2 (fun H3 sm => sm _ _ upd_same) len (fun i b H3 Kt Kf hb sm k1 k2 => ?_) fun H3 s3 hl3 => ?_
  · exact ⟨rfl, _, rfl, _, rfl, k1 H3 rfl (Same.refl _)⟩
  rw [List.filter_eq_self.mpr fun _ _ => rfl] at hl3
  have nD2 : D2 ≠ d0 := fun e => by rw [e, upd_same] at hD2; cases hD2
  refine ⟨s3 _ _ upd_same, D2, bs.map fun b => b.1.1, rfl, SqL.of (by rw [upd_ne nD2, hl3, List.map_map]; rfl), by rw [List.length_map]; exact Nat.lt_of_le_of_lt n2 (by decide), fun ys pn perm srt hpn => ?_⟩
  have t3 := t1.trans (unlock_same hd2 s3)
  generalize upd H3 d0 (.dK (bs.map gS)) = H4 at t3 hpn
  obtain ⟨cs, pc, rfl⟩ := perm_lift perm bs rfl
  have asc := sorted_asc srt (perm.symm.nodup n1)
  have t4 := t3.trans (same_upd (o := .lst ((cs.map fun b => b.1.1).map V.str)) hpn)
  have hpn5 : upd H4 pn (.lst ((cs.map fun b => b.1.1).map V.str)) pn = some (.lst (cs.map fun b => .str b.1.1)) := by rw [upd_same, List.map_map]; rfl
  generalize upd H4 pn (.lst ((cs.map fun b => b.1.1).map V.str)) = H5 at t4 hpn5
  have hd5 := t4 _ _ hd
  refine ⟨_, rfl, ⟨_, SqL.of hpn5⟩, fun D6 hD6 => ?_⟩
  refine dc_keep (as := cs) (c := fun b => .str b.1.1) src_l (fun _ => true) (fun b => .inr b.1.1) (fun b v H => v = .ref b.2) hD6
    (fun b v Ha Hb h _ => h) (fun H6 sm => SqL.of (sm _ _ hpn5)) (by rw [show cs.map (fun b => (Sum.inr b.1.1 : Key)) = (cs.map fun b => b.1.1).map Sum.inr by rw [List.map_map]; rfl]; exact asc.nodup.map (f := Sum.inr) (fun a b h e => h (Sum.inr.inj e))) (by rw [pc.length_eq]; exact len) (fun i b H6 Kk Kf hb sm hl6 k1 k2 => ?_) fun H6 kvs s6 hl6 pr => ?_
  · have hb' := pc.mem_iff.mp (List.mem_of_getElem? hb)
    exact ⟨rfl, _, rfl, _, rfl, _, rfl, d0, .ref b.2, rfl, dget_r (.inl (sm _ _ hd5)) (valV_of (k := fun b : Sgn × Addr => b.1.1) (v := fun b => .ref b.2) n1 hb'), k1 _ H6 rfl (Same.refl _) rfl⟩
  rw [List.filter_eq_self.mpr fun _ _ => rfl] at pr
  have e6 : H6 D6 = some (.dK (cs.map gS)) := by rw [hl6, paired_kv pr]
  have a6 := s6 _ _ (t4 _ _ ha)
  have n6 : D6 ≠ a := ne_of e6 a6 (fun z => nomatch z)
  refine ⟨_, rfl, a, _, dx, _, rfl, a6, sg_cls T, T.noat T.r_n_Signs_own_parts, by decide, ?_⟩
  refine ⟨_, rfl, a, _, dx, _, _, rfl, upd_same, sg_cls T, T.noat T.r_n_Signs_own_parts, rfl, D6, _, rfl, .inl ((upd_ne n6).trans e6), fun t ht => ?_⟩
  have nta : t ≠ a := fun e => by rw [e, upd_same] at ht; cases ht
  have ntD : t ≠ D6 := fun e => by rw [e, upd_ne n6, e6] at ht; cases ht
  refine ⟨_, rfl, a, _, dx, _, rfl, (upd_ne (Ne.symm nta)).trans upd_same, sg_cls T, T.noat T.r_n_Signs_own_names, few1, ?_⟩
  have b6 : But a H (upd H6 a (.ins (He.ga K "Signs") dx (putF "own_parts" (.ref D6) []))) := (ST.Same.but (t4.trans s6) a).upd
  refine q _ (cs.map (·.1)) ((b6.upd' (fun_none b6 nta ht)).upd) (pc.map _) (by rw [List.map_map]; exact asc) ⟨dx, D6, t, cs, upd_same, rfl, ?_, fun b hb => ?_, ?_⟩
  · rw [upd_ne n6, upd_ne (Ne.symm ntD), upd_ne n6]
    exact e6
  · have e := h2 b (pc.mem_iff.mp hb)
    exact ((b6.upd' (fun_none b6 nta ht)).upd) _ _ (ne_of e ha (fun z => nomatch z)) e
  · show upd _ _ _ _ = some (.tup (((cs.map (·.1)).map (·.1)).map V.str))
    rw [upd_ne nta, upd_same, List.map_map, List.map_map, List.map_map]
    rfl
def SMade (K : PySem.W.Frag) (H : Hp) (ps : List Sgn) (Q : VK) : Prop := ∀ H' a qs, Same H H' → qs.Perm ps → Asc (qs.map (·.1)) → SgAt K H' a qs → Q (.ref a) H'
theorem sg_mk {H : Hp} {Q : VK} {d : Addr} {bs : List (Sgn × Addr)} (hd : H d = some (.dK (bs.map gS))) (h2 : ∀ b ∈ bs, T2 H b.2 b.1.2.1 b.1.2.2) (ok : SOk (bs.map (·.1))) (q : SMade K H (bs.map (·.1)) Q) :
    afterMk (He.ga K "Signs") (up (sp_Signs_init K)) [.ref d] H Q := by
  intro x dx hx hdx hne'
  have s1 : Same H (upd (upd H dx (.own x)) x (.ins (He.ga K "Signs") dx [])) := fun c o e => (upd_ne (ne_of_none e hx)).trans ((upd_ne (ne_of_none e hdx)).trans e)
  exact ⟨x, d, dx, bs, rfl, upd_same, s1 _ _ hd, fun b hb => s1 _ _ (h2 b hb), ok, fun H' qs b' pq asc sg => ⟨rfl, q H' x qs (fun c o e => b' c o (ne_of_none e hx) (s1 c o e)) pq asc sg⟩⟩
def sp_Signs_sub (K : PySem.W.Frag) : Sp0 := fun vs H Q => ∃ (a : Addr) (ps : List Sgn) (z : Str), vs = [.ref a, .str z] ∧ SgAt K H a ps ∧ hasS ps z = true ∧ SOk ps ∧ SMade K H (ps.filter fun p => !decide (p.1 = z)) Q
abbrev n_Signs_sub : List Str := ["self", "name", "own"]
theorem sc_Signs_sub : FnScope n_Signs_sub ["self", "name"] (defScope s_Signs_sub) := ⟨rfl, rfl, rfl, by decide +kernel, rfl, by decide +kernel, by decide +kernel⟩
theorem fn_Signs_sub (T : Txt K mg) : Fn w K mg base 5 (a_Signs_sub K) (sp_Signs_sub K) := by
  refine fn_by (N := n_Signs_sub) (ps := ["self", "name"]) (st := s_Signs_sub) (T.fn 48 rfl) sc_Signs_sub (fun _ _ _ _ _ _ us hl => match us, hl with | [_, _], _ => rfl) (by rintro vs H Q ⟨a, ps, z, rfl, h, hz, ok, q⟩; rfl) fun cdv A outer s H vs Q hr h => ?_
  obtain ⟨a, ps, z, rfl, h, hz, ok, q⟩ := h
  refine ⟨_, pss_cons (ps_if (pt_cmpR (op_ninOwn (T.own_contains_Signs) (fn_Signs_contains T) (hr.mono (by decide))) (pv 1) (pv 0) (by first | rfl | exact nomark _)) (pss_one (ps_never)) (pss_nil))
  (pss_one (ps_ret (pe_mkP (T.mkr T.r_m_Signs) (fn_Signs_init T) (hr.mono (by decide)) (by rfl) (T.glo T.r_g_Signs) (pa_cons (pe_lock (pe_dc (own := [("own", 2)]) rfl sc_Signs_sub.nd (pi_keys (fld_ K (pv 0))) (blkOk_by (own := [("own", 2)]) (N := n_Signs_sub) (sc := defScope s_Signs_sub) (by decide +kernel)) (fun _ _ _ _ _ => pg_name (i := 2) sc_Signs_sub.nd rfl (by first | exact .inl rfl | exact .inr rfl)) (fun _ _ _ _ _ => pts_one (pt_cmpR op_ne (pv 2) (pv 1) (by first | rfl | exact nomark _))) (fun _ _ _ _ _ => pv 2) (fun _ _ _ _ _ => pe_dget (hu_of hr) (fld_ K (pv 0)) (pv 2) (fun _ _ => rfl)))) pa_nil)))), ?_⟩
  have h' := h
  obtain ⟨dx, d, tp, bs, h1, rfl, h3, h4, h5⟩ := h
  obtain ⟨n1, n2, n3⟩ := ok
  rw [List.map_map] at n1
  rw [List.length_map] at n2
  refine ⟨_, rfl, _, rfl, a, rfl, ⟨dx, _, h1⟩, a, _, _, rfl, h'.rd, _, rfl, _, rfl, ?_⟩
  rw [hz]
  refine iteF ?_
  have nda : a ≠ d := ne_of h1 h3 (fun z => nomatch z)
  refine ⟨d, _, h3, trivial, fun od => ?_⟩
  have a1 : upd H d (.frz od (.dK (bs.map gS))) a = some (.ins (He.ga K "Signs") dx [("own_parts", .ref d), ("own_names", .ref tp)]) := thru h3 h1 (fun z => nomatch z)
  refine ⟨_, rfl, a, _, dx, _, _, rfl, a1, sg_cls T, T.noat T.r_n_Signs_own_parts, rfl, d, od, rfl, .inl ⟨_, upd_same, fun D hD => ?_⟩⟩
  refine dc_keep (as := bs) (c := fun b => .str b.1.1) (src_km (g := gS)) (fun b => !decide (b.1.1 = z)) (fun b => .inr b.1.1) (fun b v H => v = .ref b.2) hD
    (fun b v Ha Hb h _ => h) (fun H6 sm => sm _ _ upd_same) (by rw [show bs.map (fun b => (Sum.inr b.1.1 : Key)) = (bs.map fun b => b.1.1).map Sum.inr by rw [List.map_map]; rfl]; exact n1.map (f := Sum.inr) (fun a b h e => h (Sum.inr.inj e))) (Nat.lt_of_le_of_lt n2 (by decide)) (fun i b H6 Kk Kf hb sm hl6 k1 k2 => ?_) fun H6 kvs s6 hl6 pr => ?_
  · have hb' := List.mem_of_getElem? hb
    refine ⟨rfl, _, rfl, _, rfl, rfl, _, rfl, ?_⟩
    by_cases e : b.1.1 = z
    · rw [decide_eq_true (congrArg V.str e)]
      exact iteF (k2 H6 (by rw [decide_eq_true e]; rfl) (Same.refl _))
    · rw [decide_eq_false (fun q => e (V.str.inj q))]
      exact ⟨_, rfl, _, rfl, a, _, dx, _, _, rfl, sm _ _ a1, sg_cls T, T.noat T.r_n_Signs_own_parts, rfl, _, rfl, d, .ref b.2, rfl, dget_r (.inr ⟨od, sm _ _ upd_same⟩) (valV_of (k := fun b : Sgn × Addr => b.1.1) (v := fun b => .ref b.2) n1 hb'), k1 _ H6 (by rw [decide_eq_false e]; rfl) (Same.refl _) rfl⟩
  have nD : D ≠ d := fun e => by rw [e, upd_same] at hD; cases hD
  refine ⟨s6 _ _ upd_same, ?_⟩
  have s7 := unlock_same h3 s6
  have e7 : upd H6 d (.dK (bs.map gS)) D = some (.dK ((bs.filter fun b => !decide (b.1.1 = z)).map gS)) := by rw [upd_ne nD, hl6, paired_kv pr]
  have em : (bs.filter fun b => !decide (b.1.1 = z)).map (·.1) = (bs.map (·.1)).filter fun p => !decide (p.1 = z) := by rw [List.filter_map]; rfl
  refine sg_mk (K := K) e7 (fun b hb => s7 _ _ (h4 b (List.mem_filter.mp hb).1)) ⟨?_, ?_, ?_⟩ (fun H' x qs s8 pq => q H' x qs (s7.trans s8) (by rw [← em]; exact pq))
  · rw [List.map_map]
    exact (List.filter_sublist.map _).nodup n1
  · rw [List.length_map]
    exact Nat.le_trans (List.length_filter_le _ _) n2
  · intro p hp
    rw [em] at hp
    exact n3 p (List.mem_filter.mp hp).1
end
end ST
end
section
set_option Elab.async false
set_option linter.all false
set_option maxRecDepth 100000
set_option maxHeartbeats 1000000
/-! Signs that fit a town; checks. -/
namespace ST
open PySem PySem.Spec PyProof.Rows L2 SgO
section
variable {w : World} {K : PySem.W.Frag} {mg : Str → Option Value} {base : Heap}
theorem ord2_asc {x y : Str} (ne : x ≠ y) : Asc [(ord2 x y).1, (ord2 x y).2] := by
  rcases ord2_or x y with ⟨e, h⟩ | ⟨e, h⟩
  · rw [e]
    simpa using h
  · rw [e]
    simpa using (lowS_total ne).resolve_left h
def sp_Signs_is_along (K : PySem.W.Frag) : Sp0 := fun vs H Q => ∃ (a eb : Addr) (ps : List Sgn) (p : Sgn), vs = [.ref a, .str p.1, .ref eb] ∧ SgRd K H a ps ∧ SOk ps ∧ p ∈ ps ∧ T2 H eb (ord2 p.2.1 p.2.2).1 (ord2 p.2.1 p.2.2).2 ∧ ∀ H', Same H H' → Q (.bl true) H'
abbrev n_Signs_is_along : List Str := ["self", "name", "ends", "corner"]
theorem sc_Signs_is_along : FnScope n_Signs_is_along ["self", "name", "ends"] (defScope s_Signs_is_along) := ⟨rfl, rfl, rfl, by decide +kernel, rfl, by decide +kernel, by decide +kernel⟩
theorem fn_Signs_is_along (T : Txt K mg) : Fn w K mg base 1 (a_Signs_is_along K) (sp_Signs_is_along K) := by
  refine fn_by (N := n_Signs_is_along) (ps := ["self", "name", "ends"]) (st := s_Signs_is_along) (T.fn 49 rfl) sc_Signs_is_along (fun _ _ _ _ _ _ us hl => match us, hl with | [_, _, _], _ => rfl) (by rintro vs H Q ⟨a, eb, ps, p, rfl, h, ⟨n1, n2, n3⟩, hp, he, q⟩; rfl) fun cdv A outer s H vs Q hr h => ?_
  obtain ⟨a, eb, ps, p, rfl, h, ⟨n1, n2, n3⟩, hp, he, q⟩ := h
  refine ⟨_, pss_one (ps_ret (pe_cmpR (eqD_ K hr.units) (pe_callTy (tupOf_ K) (by rfl) (T.free T.r_f_tuple) bb_tuple (pa_cons (pe_callB (srtS_ K) (by rfl) (T.free T.r_f_sorted) bb_sorted (pa_cons (pe_lc (own := [("corner", 3)]) rfl sc_Signs_is_along.nd (piT_ K (pe_dget (hu_of hr) (fld_ K (pv 0)) (pv 1) (fun _ _ => rfl))) (blkOk_by (own := [("corner", 3)]) (N := n_Signs_is_along) (sc := defScope s_Signs_is_along) (by decide +kernel)) (fun _ _ _ _ _ => pg_name (i := 3) sc_Signs_is_along.nd rfl (by first | exact .inl rfl | exact .inr rfl)) (fun _ _ _ _ _ => pts_nil) (fun _ _ _ _ _ => pe_callTy SkE.call_str_str (by rfl) (T.free T.r_f_str) bb_str (pa_cons (pv 3) pa_nil))) pa_nil)) pa_nil)) (pv 2) (by first | rfl | exact nomark _))), ?_⟩
  obtain ⟨dx, d, tp, t, e1, e2, e3⟩ := h.get n1 hp
  obtain ⟨m1, m2, m3, m4⟩ := n3 p hp
  refine ⟨_, rfl, a, _, dx, _, _, rfl, e1, sg_cls T, T.noat T.r_n_Signs_own_parts, rfl, _, rfl, d, _, rfl, e2, _, rfl, ⟨_, SqT.of e3⟩, fun D hD => ?_⟩
  refine lc_pure (as := [p.2.1, p.2.2]) (c := V.str) src_t (fun _ => true) V.str hD (fun H1 sm => SqT.of (sm _ _ e3)) (by show 2 < sizeLine; decide) (fun i c H1 Kt Kf hc sm k1 k2 => ?_) fun H1 s1 hl => ?_
  · exact ⟨rfl, _, rfl, _, rfl, k1 H1 rfl (Same.refl _)⟩
  refine ⟨D, [p.2.1, p.2.2], rfl, SqL.of hl, by show 2 < 64; decide, fun ys pn perm srt hpn => ?_⟩
  have nd : [p.2.1, p.2.2].Nodup := by simpa using m4
  have e : ys = [(ord2 p.2.1 p.2.2).1, (ord2 p.2.1 p.2.2).2] := asc_ext (sorted_asc srt (perm.symm.nodup nd)) (ord2_asc m4) fun z => perm.mem_iff.trans (by rw [mem_ord2]; simp)
  subst e
  refine ⟨pn, _, rfl, .inl ⟨SqL.of upd_same, fun l hl2 => ?_⟩⟩
  have s3 := (s1.trans (same_upd hpn)).trans (same_upd (o := .tup ([(ord2 p.2.1 p.2.2).1, (ord2 p.2.1 p.2.2).2].map V.str)) hl2)
  have nm : ∀ n ∈ [(ord2 p.2.1 p.2.2).1, (ord2 p.2.1 p.2.2).2], Nm n := fun n hn => by
    rcases mem_ord2.mp hn with e | e
    · exact e ▸ m2
    · exact e ▸ m3
  refine ⟨_, rfl, _, _, dp_tt upd_same, dp_tt (ns := [_, _]) (s3 _ _ he), sh_txts _ nm, sh_txts _ nm, ?_⟩
  rw [eqv_tt, decide_eq_true rfl]
  exact q _ s3
/-- the signs stand along the town's roads -/
def Fits (ps : List Sgn) (ss : List (Stv × Addr)) : Prop := ps.map (·.1) = roadNms ss ∧ ∀ p ∈ ps, ∃ b ∈ ss, b.1.nm = p.1 ∧ ord2 b.1.x b.1.y = ord2 p.2.1 p.2.2
theorem isi_place (T : Txt K mg) {H : Hp} {t : Addr} {ss : List (Stv × Addr)} (h : TAt K H t ss) : Isi K H (.ref t) (.ref (He.ga K "Place")) true := by
  obtain ⟨dx, d, tp, dc, cs, h1, _⟩ := h
  exact isi_own T h1 (town_cls T) T.r_t_Town T.r_isi_Town_Place
theorem isi_town (T : Txt K mg) {H : Hp} {t : Addr} {ss : List (Stv × Addr)} (h : TAt K H t ss) : Isi K H (.ref t) (.ref (He.ga K "Town")) true := by
  obtain ⟨dx, d, tp, dc, cs, h1, _⟩ := h
  exact isi_own T h1 (town_cls T) T.r_t_Town T.r_isi_Town_Town
theorem isi_signs (T : Txt K mg) {H : Hp} {a : Addr} {ps : List Sgn} (h : SgAt K H a ps) : Isi K H (.ref a) (.ref (He.ga K "Signs")) true := by
  obtain ⟨dx, d, tp, bs, h1, _⟩ := h
  exact isi_own T h1 (sg_cls T) T.r_t_Signs T.r_isi_Signs_Signs
def sp_Signs_fits (K : PySem.W.Frag) : Sp0 := fun vs H Q => ∃ (a t : Addr) (ps : List Sgn) (ss : List (Stv × Addr)), vs = [.ref a, .ref t] ∧ SgAt K H a ps ∧ TAt K H t ss ∧ SOk ps ∧ TOk ss ∧ Fits ps ss ∧ ∀ H', Same H H' → Q (.bl true) H'
abbrev n_Signs_fits : List Str := ["self", "town", "name"]
theorem sc_Signs_fits : FnScope n_Signs_fits ["self", "town"] (defScope s_Signs_fits) := ⟨rfl, rfl, rfl, by decide +kernel, rfl, by decide +kernel, by decide +kernel⟩
theorem fn_Signs_fits (T : Txt K mg) : Fn w K mg base 4 (a_Signs_fits K) (sp_Signs_fits K) := by
  refine fn_by (N := n_Signs_fits) (ps := ["self", "town"]) (st := s_Signs_fits) (T.fn 50 rfl) sc_Signs_fits (fun _ _ _ _ _ _ us hl => match us, hl with | [_, _], _ => rfl) (by rintro vs H Q ⟨a, t, ps, ss, rfl, hs, ht, ok, tok, ⟨f1, f2⟩, q⟩; rfl) fun cdv A outer s H vs Q hr h => ?_
  obtain ⟨a, t, ps, ss, rfl, hs, ht, ok, tok, ⟨f1, f2⟩, q⟩ := h
  refine ⟨_, pss_cons (ps_if (PW.pt (pw_or (pt_not (pt_val (pe_callB (isi_ K) (by rfl) (T.free T.r_f_isinstance) bb_isinstance (pa_cons (pv 1) (pa_cons (pe_gC (T.glo T.r_g_Place)) pa_nil))))) (pw_or1 (pt_cmpR (neD_ K hr.units) (pe_prop1 (T.cls T.r_c_Signs) (propB_ok T.r_p_Signs_names) (fn_Signs_names T) (hr.mono (by decide)) (pv 0)) (pe_prop1 (T.cls T.r_c_Town) (propB_ok T.r_p_Town_roads) (fn_Town_roads T) (hr.mono (by decide)) (pv 1)) (by first | rfl | exact nomark _))))) (pss_one (ps_ret (pe_bl))) (pss_nil))
  (pss_one (ps_ret (pe_callB (all_ K) (by rfl) (T.free T.r_f_all) bb_all (pa_cons (pe_lock (pe_lc (own := [("name", 2)]) rfl sc_Signs_fits.nd (pi_keys (fld_ K (pv 0))) (blkOk_by (own := [("name", 2)]) (N := n_Signs_fits) (sc := defScope s_Signs_fits) (by decide +kernel)) (fun _ _ _ _ _ => pg_name (i := 2) sc_Signs_fits.nd rfl (by first | exact .inl rfl | exact .inr rfl)) (fun _ _ _ _ _ => pts_nil) (fun _ _ _ _ _ => pe_mth (pv 0) (T.cls T.r_c_Signs) (T.meth T.r_me_Signs_is_along) (fn_Signs_is_along T) hr (by decide) (pa_cons (pv 2) (pa_cons (pe_propR (endsW K) (endsW_ok T) (hr.mono (by decide)) (pe_ixOwn (T.own_getitem_Town) T.r_fi_Town_getitem (fn_Town_getitem T) (hr.mono (by decide)) (pv 1) (pv 2))) pa_nil))))) pa_nil)))), ?_⟩
  refine ⟨_, rfl, _, _, _, rfl, isi_place T ht, _, rfl, ?_⟩
  refine ⟨_, rfl, a, _, _, rfl, ⟨rfl, rfl⟩, ins_sg hs.rd, a, ps, rfl, hs.rd, fun tp htp => ?_⟩
  refine ⟨_, rfl, t, _, _, rfl, ⟨rfl, rfl⟩, ins_town ht.rd, t, ss, rfl, ht, tok.2.1, fun H1 tq s1 htq => ?_⟩
  have nm : ∀ n ∈ ps.map (·.1), Nm n := fun n hn => by
    obtain ⟨p, hp, rfl⟩ := List.mem_map.mp hn
    exact (ok.2.2 p hp).1
  rw [← f1] at htq
  refine ⟨_, _, dp_tt (s1 _ _ htp), dp_tt htq, sh_txts _ nm, sh_txts _ nm, _, rfl, ?_⟩
  rw [eqv_tt, decide_eq_true rfl]
  refine iteF ?_
  have hs1 := hs.same s1
  have hs1' := hs1
  obtain ⟨dx, d, tp', bs, h1, rfl, h3, h4, h5⟩ := hs1
  have ht1 := (ht.same s1).rd
  refine ⟨d, _, h3, trivial, fun od => ?_⟩
  have a1 : upd H1 d (.frz od (.dK (bs.map gS))) a = some (.ins (He.ga K "Signs") dx [("own_parts", .ref d), ("own_names", .ref tp')]) := thru h3 h1 (fun z => nomatch z)
  have sl : Sees H1 (upd H1 d (.frz od (.dK (bs.map gS)))) := sees_lock h3
  refine ⟨_, rfl, a, _, dx, _, _, rfl, a1, sg_cls T, T.noat T.r_n_Signs_own_parts, rfl, d, od, rfl, .inl ⟨_, upd_same, fun D hD => ?_⟩⟩
  have n2 : bs.length ≤ 14 := by
    have := ok.2.1
    rwa [List.length_map] at this
  refine lc_pure (as := bs) (c := fun b => .str b.1.1) (src_km (g := gS)) (fun _ => true) (fun _ => .bl true) hD (fun H2 sm => sm _ _ upd_same) (Nat.lt_of_le_of_lt n2 (by decide)) (fun i b H2 Kt Kf hb sm k1 k2 => ?_) fun H2 s2 hl => ?_
  · have hp : b.1 ∈ bs.map (·.1) := List.mem_map.mpr ⟨b, List.mem_of_getElem? hb, rfl⟩
    obtain ⟨c, hc, e1, e2⟩ := f2 b.1 hp
    have st := sl.trans (sees_same sm)
    have sg2 := hs1'.rd.sees st
    have tw2 := ht1.sees st
    refine ⟨rfl, _, rfl, a, dx, _, rfl, sm _ _ a1, rfl, ?_⟩
    refine ⟨_, rfl, ?_⟩
    refine ⟨_, rfl, _, rfl, t, rfl, ins_town tw2, t, ss, c, by rw [e1], tw2, tok.1, hc, ?_⟩
    have hsc : SAt K H2 c.2 c.1 := by
      obtain ⟨_, _, _, _, _, _, _, g⟩ := tw2
      exact g c hc
    refine ⟨c.2, _, _, rfl, ⟨c.1.k, rfl, rfl⟩, hsc.ins, c.2, c.1, rfl, hsc, fun eb heb => ?_⟩
    rw [e2] at heb
    exact ⟨a, eb, _, b.1, rfl, sg2, ok, hp, heb, fun H3 s3 => k1 H3 rfl s3⟩
  rw [List.filter_eq_self.mpr fun _ _ => rfl] at hl
  have nD : D ≠ d := fun e => by rw [e, upd_same] at hD; cases hD
  refine ⟨s2 _ _ upd_same, D, bs.map fun _ => true, rfl, SqL.of (by rw [upd_ne nD, hl, List.map_map]; rfl), ?_⟩
  show Q (.bl _) _
  rw [all_tt]
  exact q _ (s1.trans (unlock_same h3 s2))
def sp_need_town (K : PySem.W.Frag) : Sp0 := fun vs H Q => ∃ (t : Addr) (ss : List (Stv × Addr)), vs = [.ref t] ∧ TAt K H t ss ∧ Q .non H
abbrev n_need_town : List Str := ["town"]
theorem sc_need_town : FnScope n_need_town ["town"] (defScope s_need_town) := ⟨rfl, rfl, rfl, by decide +kernel, rfl, by decide +kernel, by decide +kernel⟩
theorem fn_need_town (T : Txt K mg) : Fn w K mg base 1 (a_need_town K) (sp_need_town K) := by
  refine fn_by (N := n_need_town) (ps := ["town"]) (st := s_need_town) (T.fn 10 rfl) sc_need_town (fun _ _ _ _ _ _ us hl => match us, hl with | [_], _ => rfl) (by rintro vs H Q ⟨t, ss, rfl, h, q⟩; rfl) fun cdv A outer s H vs Q hr h => ?_
  obtain ⟨t, ss, rfl, h, q⟩ := h
  refine ⟨_, pss_one (ps_if (pt_not (pt_val (pe_callB (isi_ K) (by rfl) (T.free T.r_f_isinstance) bb_isinstance (pa_cons (pv 0) (pa_cons (pe_gC (T.glo T.r_g_Town)) pa_nil))))) (pss_one (ps_never)) (pss_nil)), ?_⟩
  exact ⟨_, rfl, _, _, _, rfl, isi_town T h, _, rfl, q⟩
def sp_need_fit (K : PySem.W.Frag) : Sp0 := fun vs H Q => ∃ (t a : Addr) (ps : List Sgn) (ss : List (Stv × Addr)), vs = [.ref t, .ref a] ∧ SgAt K H a ps ∧ TAt K H t ss ∧ SOk ps ∧ TOk ss ∧ Fits ps ss ∧ ∀ H', Same H H' → Q .non H'
abbrev n_need_fit : List Str := ["town", "signs"]
theorem sc_need_fit : FnScope n_need_fit ["town", "signs"] (defScope s_need_fit) := ⟨rfl, rfl, rfl, by decide +kernel, rfl, by decide +kernel, by decide +kernel⟩
theorem fn_need_fit (T : Txt K mg) : Fn w K mg base 5 (a_need_fit K) (sp_need_fit K) := by
  refine fn_by (N := n_need_fit) (ps := ["town", "signs"]) (st := s_need_fit) (T.fn 11 rfl) sc_need_fit (fun _ _ _ _ _ _ us hl => match us, hl with | [_, _], _ => rfl) (by rintro vs H Q ⟨t, a, ps, ss, rfl, hs, ht, ok, tok, f, q⟩; rfl) fun cdv A outer s H vs Q hr h => ?_
  obtain ⟨t, a, ps, ss, rfl, hs, ht, ok, tok, f, q⟩ := h
  refine ⟨_, pss_cons (ps_if (pt_not (pt_val (pe_callB (isi_ K) (by rfl) (T.free T.r_f_isinstance) bb_isinstance (pa_cons (pv 1) (pa_cons (pe_gC (T.glo T.r_g_Signs)) pa_nil))))) (pss_one (ps_never)) (pss_nil))
  (pss_one (ps_if (pt_not (pt_val (pe_mth (pv 1) (T.cls T.r_c_Signs) (T.meth T.r_me_Signs_fits) (fn_Signs_fits T) hr (by decide) (pa_cons (pv 0) pa_nil)))) (pss_one (ps_never)) (pss_nil))), ?_⟩
  obtain ⟨dx, d, tp, bs, h1, h2⟩ := hs
  refine ⟨_, rfl, _, _, _, rfl, isi_signs T ⟨dx, d, tp, bs, h1, h2⟩, _, rfl, ?_⟩
  exact ⟨_, rfl, a, dx, _, rfl, h1, rfl, _, rfl, a, t, ps, ss, rfl, ⟨dx, d, tp, bs, h1, h2⟩, ht, ok, tok, f, fun H' s' => ⟨_, rfl, q H' s'⟩⟩
def sp_need_need : Sp0 := fun vs H Q => ∃ i : Int, vs = [.int i] ∧ 1 ≤ i ∧ i ≤ 20 ∧ Q .non H
abbrev n_need_need : List Str := ["need"]
theorem sc_need_need : FnScope n_need_need ["need"] (defScope s_need_need) := ⟨rfl, rfl, rfl, by decide +kernel, rfl, by decide +kernel, by decide +kernel⟩
theorem fn_need_need (T : Txt K mg) : Fn w K mg base 4 (a_need_need K) sp_need_need := by
  refine fn_by (N := n_need_need) (ps := ["need"]) (st := s_need_need) (T.fn 12 rfl) sc_need_need (fun _ _ _ _ _ _ us hl => match us, hl with | [_], _ => rfl) (by rintro vs H Q ⟨i, rfl, h1, h2, q⟩; rfl) fun cdv A outer s H vs Q hr h => ?_
  obtain ⟨i, rfl, h1, h2, q⟩ := h
  refine ⟨_, pss_one (ps_if (pt_not (pt_val (pe_fn (fn_is_need T) hr (by decide) (by rfl) (T.glo T.r_g_is_need) (T.kp 4 rfl) (pa_cons (pv 0) pa_nil)))) (pss_one (ps_never)) (pss_nil)), ?_⟩
  exact ⟨_, rfl, i, rfl, h1, h2, _, rfl, q⟩
def sp_need_streets (K : PySem.W.Frag) : Sp0 := fun vs H Q => ∃ (t : Addr) (ss : List (Stv × Addr)), vs = [.ref t] ∧ TAt K H t ss ∧ 0 < ss.length ∧ ss.length ≤ 14 ∧ Q .non H
abbrev n_need_streets : List Str := ["town"]
theorem sc_need_streets : FnScope n_need_streets ["town"] (defScope s_need_streets) := ⟨rfl, rfl, rfl, by decide +kernel, rfl, by decide +kernel, by decide +kernel⟩
theorem fn_need_streets (T : Txt K mg) : Fn w K mg base 3 (a_need_streets K) (sp_need_streets K) := by
  refine fn_by (N := n_need_streets) (ps := ["town"]) (st := s_need_streets) (T.fn 13 rfl) sc_need_streets (fun _ _ _ _ _ _ us hl => match us, hl with | [_], _ => rfl) (by rintro vs H Q ⟨t, ss, rfl, h, h0, h14, q⟩; rfl) fun cdv A outer s H vs Q hr h => ?_
  obtain ⟨t, ss, rfl, h, h0, h14, q⟩ := h
  refine ⟨_, pss_one (ps_if (pt_cmpR op_eq (pe_callB (call_lenOwn (T.own_len_Town) (fn_Town_len T) (hr.mono (by decide))) (by rfl) (T.free T.r_f_len) bb_len (pa_cons (pv 0) pa_nil)) pe_int (by first | rfl | exact nomark _)) (pss_one (ps_never)) (pss_nil)), ?_⟩
  refine ⟨_, rfl, t, rfl, ins_town h.rd, t, ss, rfl, h, ss.length, rfl, by omega, rfl, _, rfl, ?_⟩
  rw [decide_eq_false (fun z => by have := V.int.inj z; omega)]
  exact iteF q
end
end ST
end
section
set_option Elab.async false
set_option linter.all false
set_option maxRecDepth 100000
set_option maxHeartbeats 1000000
/-! Arcs; how many come into a ward. -/
namespace ST
open PySem PySem.Spec PyProof.Rows L2 SgO
section
variable {w : World} {K : PySem.W.Frag} {mg : Str → Option Value} {base : Heap}
/-- the ends that the signs tell of a road -/
def sgOf (ps : List Sgn) (n : Str) : Str × Str := ((ps.find? fun p => decide (p.1 = n)).map (·.2)).getD (n, n)
def arcOf (ps : List Sgn) (s : Stv) : List Sgn := match s.k with
  | .lane => [(s.nm, s.x, s.y)]
  | .road => [(s.nm, (sgOf ps s.nm).1, (sgOf ps s.nm).2)]
  | .avenue => [(s.nm, s.x, s.y), (s.nm, s.y, s.x)]
def arcsOf (ps : List Sgn) (ss : List (Stv × Addr)) : List Sgn := ss.flatMap fun b => arcOf ps b.1
theorem sgOf_in {ps : List Sgn} : ∀ {p : Sgn}, (ps.map (·.1)).Nodup → p ∈ ps → sgOf ps p.1 = p.2 := by
  induction ps with
  | nil => intro p _ h; cases h
  | cons c r ih =>
    intro p hn h
    rw [List.map_cons] at hn
    obtain ⟨h1, h2⟩ := List.nodup_cons.mp hn
    unfold sgOf
    rw [List.find?_cons]
    by_cases e : c.1 = p.1
    · rcases List.mem_cons.mp h with rfl | m
      · simp
      · exact absurd (List.mem_map.mpr ⟨p, m, e.symm⟩) h1
    · rw [decide_eq_false e]
      exact ih h2 ((List.mem_cons.mp h).resolve_left fun z => e (by rw [z]))
theorem rows_add {H : Hp} {D p : Addr} {as : List (Sgn × Addr)} {r : Sgn} (h : RowsAt H D as) (hp : H p = none) :
    RowsAt (upd (upd H p (.tup [.str r.1, .str r.2.1, .str r.2.2])) D (.lst ((as.map fun a => V.ref a.2) ++ [.ref p]))) D (as ++ [(r, p)]) := by
  have nD : ∀ b xs, H b = some (.tup xs) → b ≠ D := fun b xs e => ne_of e h.1 (fun z => nomatch z)
  have npD : p ≠ D := fun e => by rw [e, h.1] at hp; cases hp
  refine ⟨by rw [upd_same, List.map_append]; rfl, fun a ha => ?_⟩
  rcases List.mem_append.mp ha with m | m
  · have e := h.2 a m
    exact (upd_ne (nD _ _ e)).trans ((upd_ne (ne_of_none e hp)).trans e)
  · rw [List.mem_singleton.mp m]
    exact (upd_ne npD).trans upd_same
def sp_arcs (K : PySem.W.Frag) : Sp0 := fun vs H Q => ∃ (t a : Addr) (ps : List Sgn) (ss : List (Stv × Addr)), vs = [.ref t, .ref a] ∧ TAt K H t ss ∧ SgAt K H a ps ∧ SOk ps ∧ TOk ss ∧ Fits ps ss ∧
  ∀ H' r as, Same H H' → RowsAt H' r as → as.map (·.1) = arcsOf ps ss → Q (.ref r) H'
abbrev n_arcs : List Str := ["town", "signs", "found", "street"]
theorem sc_arcs : FnScope n_arcs ["town", "signs"] (defScope s_arcs) := ⟨rfl, rfl, rfl, by decide +kernel, rfl, by decide +kernel, by decide +kernel⟩
theorem fn_arcs (T : Txt K mg) : Fn w K mg base 4 (a_arcs K) (sp_arcs K) := by
  refine fn_by (N := n_arcs) (ps := ["town", "signs"]) (st := s_arcs) (T.fn 14 rfl) sc_arcs (fun _ _ _ _ _ _ us hl => match us, hl with | [_, _], _ => rfl) (by rintro vs H Q ⟨t, a, ps, ss, rfl, ht, hs, ok, tok, fit, q⟩; rfl) fun cdv A outer s H vs Q hr h => ?_
  obtain ⟨t, a, ps, ss, rfl, ht, hs, ok, tok, fit, q⟩ := h
  refine ⟨_, pss_cons (ps_set (i := 2) sc_arcs.nd rfl (by first | exact .inl rfl | exact .inr rfl) (pe_lst pa_nil))
  (pss_cons (ps_for PassesOwn.never rfl (piT_ K (pe_prop1 (T.cls T.r_c_Town) (propB_ok T.r_p_Town_streets) (fn_Town_streets T) (hr.mono (by decide)) (pv 0))) (pg_name (i := 3) sc_arcs.nd rfl (by first | exact .inl rfl | exact .inr rfl)) (pss_one (ps_if (pt_val (pe_callB (isi_ K) (by rfl) (T.free T.r_f_isinstance) bb_isinstance (pa_cons (pv 3) (pa_cons (pe_gC (T.glo T.r_g_Lane)) pa_nil)))) (pss_one (ps_expr (bm_ K PySem.F.plainAttrs_list PySem.F.slot_list_append PySem.F.type_list_append mt_append (pv 2) (pa_cons (pe_tup (pa_cons (fld_ K (pv 3)) (pa_cons (fld_ K (pv 3)) (pa_cons (fld_ K (pv 3)) pa_nil)))) pa_nil)))) (pss_one (ps_if (pt_val (pe_callB (isi_ K) (by rfl) (T.free T.r_f_isinstance) bb_isinstance (pa_cons (pv 3) (pa_cons (pe_gC (T.glo T.r_g_Road)) pa_nil)))) (pss_one (ps_expr (bm_ K PySem.F.plainAttrs_list PySem.F.slot_list_append PySem.F.type_list_append mt_append (pv 2) (pa_cons (pe_tup (pa_cons (fld_ K (pv 3)) (pa_cons (pe_mth (pv 1) (T.cls T.r_c_Signs) (T.meth T.r_me_Signs_tail) (fn_Signs_tail T) hr (by decide) (pa_cons (fld_ K (pv 3)) pa_nil)) (pa_cons (pe_ixOwn (T.own_getitem_Signs) T.r_fi_Signs_getitem (fn_Signs_getitem T) (hr.mono (by decide)) (pv 1) (fld_ K (pv 3))) pa_nil)))) pa_nil)))) (pss_one (ps_expr (bm_ K PySem.F.plainAttrs_list PySem.F.slot_list_extend PySem.F.type_list_extend mt_extend (pv 2) (pa_cons (pe_lst (pa_cons (pe_tup (pa_cons (fld_ K (pv 3)) (pa_cons (fld_ K (pv 3)) (pa_cons (fld_ K (pv 3)) pa_nil)))) (pa_cons (pe_tup (pa_cons (fld_ K (pv 3)) (pa_cons (fld_ K (pv 3)) (pa_cons (fld_ K (pv 3)) pa_nil)))) pa_nil))) pa_nil)))))))))
  (pss_one (ps_ret (pv 2)))), ?_⟩
  refine ⟨sz0, fun D hD => ?_⟩
  have s0 : Same H (upd H D (.lst [])) := same_upd hD
  refine ⟨_, rfl, t, _, _, rfl, ⟨rfl, rfl⟩, ins_town (ht.same s0).rd, t, ss, rfl, ht.same s0, fun tp htp => ?_⟩
  refine ⟨_, rfl, ⟨_, SqT.of htp⟩, ?_⟩
  refine for_c (as := ss) (c := fun b => .ref b.2) src_t (fun i σ H1 => (∃ v, σ = [some (.ref t), some (.ref a), some (.ref D), v]) ∧ Same H H1 ∧ H1 tp = some (.tup (ss.map fun b => .ref b.2)) ∧ ∃ as, RowsAt H1 D as ∧ as.map (·.1) = arcsOf ps (ss.take i) ∧ as.length ≤ 2 * i)
    ⟨⟨_, rfl⟩, s0, htp, [], ⟨upd_same, fun _ z => nomatch z⟩, rfl, Nat.le_refl _⟩ (fun i σ H1 _ h => SqT.of h.2.2.1) (fun i b σ H1 hb ⟨⟨v, e⟩, s1, htp1, as, hr1, hr2, hr3⟩ => ?_) fun σ H1 ⟨⟨v, e⟩, s1, _, as, hr1, hr2, _⟩ => ?_
  · subst e
    have hb' := List.mem_of_getElem? hb
    have hi : i < ss.length := (List.getElem?_eq_some_iff.mp hb).1
    have h14 := tok.2.1
    have hS : SAt K H1 b.2 b.1 := by
      obtain ⟨_, _, _, _, _, _, _, _, g, _⟩ := ht
      exact (g b hb').same s1
    have hS' := hS
    have hsg := hs.same s1
    have step : arcsOf ps (ss.take (i + 1)) = arcsOf ps (ss.take i) ++ arcOf ps b.1 := by
      rw [List.take_add_one, hb, arcsOf, List.flatMap_append]
      show _ ++ List.flatMap _ [b] = _
      simp [arcsOf]
    have add : ∀ (r : Sgn) (p : Addr), H1 p = none → Same H (upd (upd H1 p (.tup [.str r.1, .str r.2.1, .str r.2.2])) D (.lst ((as.map fun a => V.ref a.2) ++ [.ref p]))) ∧
        upd (upd H1 p (.tup [.str r.1, .str r.2.1, .str r.2.2])) D (.lst ((as.map fun a => V.ref a.2) ++ [.ref p])) tp = some (.tup (ss.map fun b => .ref b.2)) := fun r p hp => by
      have n1 : tp ≠ D := ne_of htp1 hr1.1 (fun z => nomatch z)
      exact ⟨ST.Same.upd (s1.trans (same_upd hp)) hD, (upd_ne n1).trans ((upd_ne (ne_of_none htp1 hp)).trans htp1)⟩
    have atD : ∀ (p : Addr) (o : HO), H1 p = none → upd H1 p o D = some (.lst (as.map fun a => .ref a.2)) := fun p o hp => (upd_ne (ne_of_none hr1.1 hp)).trans hr1.1
    have len : (as.map fun a : Sgn × Addr => V.ref a.2).length < sizeLine := by
      rw [List.length_map]
      exact Nat.lt_of_le_of_lt (show as.length ≤ 28 by omega) (by decide)
    obtain ⟨⟨k, nm, x, y⟩, ba⟩ := b
    obtain ⟨sok, dx, eb, p1, p2, e1, e2⟩ := hS
    cases k
    · refine ⟨_, rfl, _, _, _, rfl, st_isLane T hS', _, rfl, ?_⟩
      refine ⟨_, rfl, .inl ⟨rfl, _, SqL.of hr1.1⟩, ?_⟩
      refine ⟨_, rfl, ba, _, dx, _, _, rfl, e2, st_cls T .lane, st_name T .lane, rfl, ?_⟩
      refine ⟨_, rfl, ba, _, dx, _, _, rfl, e2, st_cls T .lane, T.noat T.r_n_Lane_start, rfl, ?_⟩
      refine ⟨_, rfl, ba, _, dx, _, _, rfl, e2, st_cls T .lane, T.noat T.r_n_Lane_goal, rfl, ?_⟩
      refine ⟨sz3, fun p hp => ⟨D, _, _, rfl, rfl, atD p _ hp, len, ?_⟩⟩
      exact ⟨⟨_, rfl⟩, (add (nm, x, y) p hp).1, (add (nm, x, y) p hp).2, _, rows_add (r := (nm, x, y)) hr1 hp, by rw [step, List.map_append, hr2]; rfl, by rw [List.length_append, List.length_singleton]; omega⟩
    · refine ⟨_, rfl, _, _, _, rfl, st_isLane T hS', _, rfl, ?_⟩
      refine ⟨_, rfl, _, _, _, rfl, st_isRoad T hS', _, rfl, ?_⟩
      refine ⟨_, rfl, .inl ⟨rfl, _, SqL.of hr1.1⟩, ?_⟩
      have no1 := st_one T .avenue (fun z => nomatch z)
      have no2 := st_other T .avenue (fun z => nomatch z)
      refine ⟨_, rfl, ba, _, dx, _, _, rfl, e2, st_cls T .avenue, st_name T .avenue, rfl, ?_⟩
      refine ⟨_, rfl, ba, _, dx, _, _, rfl, e2, st_cls T .avenue, no1, rfl, ?_⟩
      refine ⟨_, rfl, ba, _, dx, _, _, rfl, e2, st_cls T .avenue, no2, rfl, ?_⟩
      refine ⟨sz3, fun p hp => ?_⟩
      have e3 := same_upd (o := .tup [.str nm, .str x, .str y]) hp _ _ e2
      refine ⟨_, rfl, ba, _, dx, _, _, rfl, e3, st_cls T .avenue, st_name T .avenue, rfl, ?_⟩
      refine ⟨_, rfl, ba, _, dx, _, _, rfl, e3, st_cls T .avenue, no2, rfl, ?_⟩
      refine ⟨_, rfl, ba, _, dx, _, _, rfl, e3, st_cls T .avenue, no1, rfl, ?_⟩
      refine ⟨sz3, fun p' hp' => ⟨sz2, fun l hl => ?_⟩⟩
      have a1 := atD p (.tup [.str nm, .str x, .str y]) hp
      have a2 : upd (upd H1 p (.tup [.str nm, .str x, .str y])) p' (.tup [.str nm, .str y, .str x]) D = some (.lst (as.map fun a => .ref a.2)) := (upd_ne (ne_of_none a1 hp')).trans a1
      have a3 : upd (upd (upd H1 p (.tup [.str nm, .str x, .str y])) p' (.tup [.str nm, .str y, .str x])) l (.lst [.ref p, .ref p']) D = some (.lst (as.map fun a => .ref a.2)) := (upd_ne (ne_of_none a2 hl)).trans a2
      have sm : Same H1 (upd (upd (upd H1 p (.tup [.str nm, .str x, .str y])) p' (.tup [.str nm, .str y, .str x])) l (.lst [.ref p, .ref p'])) := ((same_upd hp).trans (same_upd hp')).trans (same_upd hl)
      refine ⟨D, l, _, _, rfl, rfl, a3, upd_same, ?_, ⟨_, rfl⟩, ST.Same.upd (s1.trans sm) hD, (upd_ne (ne_of htp1 hr1.1 (fun z => nomatch z))).trans (sm _ _ htp1), as ++ [((nm, x, y), p), ((nm, y, x), p')], ⟨?_, fun c hc => ?_⟩, ?_, ?_⟩
      · rw [List.length_map]
        exact Nat.le_of_lt (Nat.lt_of_le_of_lt (show as.length + 2 ≤ 30 by omega) (by decide))
      · rw [upd_same, List.map_append]
        rfl
      · have nD : ∀ b xs, H1 b = some (.tup xs) → b ≠ D := fun b xs e => ne_of e hr1.1 (fun z => nomatch z)
        rcases List.mem_append.mp hc with m | m
        · have e := hr1.2 c m
          exact (upd_ne (nD _ _ e)).trans (sm _ _ e)
        · have np : p ≠ D := fun e => by rw [e, hr1.1] at hp; cases hp
          have np' : p' ≠ D := fun e => by rw [e, a1] at hp'; cases hp'
          have npp : p ≠ p' := fun e => by rw [← e, upd_same] at hp'; cases hp'
          have npl : p ≠ l := fun e => by rw [← e, upd_ne npp, upd_same] at hl; cases hl
          have npl' : p' ≠ l := fun e => by rw [← e, upd_same] at hl; cases hl
          rcases List.mem_cons.mp m with e | m
          · rw [e]
            exact (upd_ne np).trans ((upd_ne npl).trans ((upd_ne npp).trans upd_same))
          · rw [List.mem_singleton.mp m]
            exact (upd_ne np').trans ((upd_ne npl').trans upd_same)
      · rw [step, List.map_append, hr2]
        rfl
      · rw [List.length_append]
        show as.length + 2 ≤ _
        omega
    · have hm : nm ∈ ps.map (·.1) := by
        rw [fit.1]
        exact List.mem_map.mpr ⟨_, List.mem_filter.mpr ⟨hb', by simp⟩, rfl⟩
      obtain ⟨g, hg, rfl⟩ := List.mem_map.mp hm
      have eg := sgOf_in ok.1 hg
      refine ⟨_, rfl, _, _, _, rfl, st_isLane T hS', _, rfl, ?_⟩
      refine ⟨_, rfl, _, _, _, rfl, st_isRoad T hS', _, rfl, ?_⟩
      refine ⟨_, rfl, .inl ⟨rfl, _, SqL.of hr1.1⟩, ?_⟩
      refine ⟨_, rfl, ba, _, dx, _, _, rfl, e2, st_cls T .road, st_name T .road, rfl, ?_⟩
      obtain ⟨dxs, fss, eis⟩ : ∃ dx fs, H1 a = some (.ins (He.ga K "Signs") dx fs) ∧ fs.lookup ("tail" : Str) = none := by
        obtain ⟨dx, d, tp, bs, h1, _⟩ := hsg
        exact ⟨dx, _, h1, rfl⟩
      refine ⟨_, rfl, a, dxs, fss, rfl, eis.1, eis.2, ?_⟩
      refine ⟨_, rfl, ba, _, dx, _, _, rfl, e2, st_cls T .road, st_name T .road, rfl, ?_⟩
      refine ⟨a, ps, g, rfl, hsg.rd, ok.1, hg, ?_⟩
      refine ⟨_, rfl, _, rfl, ba, _, dx, _, _, rfl, e2, st_cls T .road, st_name T .road, rfl, a, rfl, ⟨dxs, _, eis.1⟩, a, ps, g, rfl, hsg.rd, ok.1, hg, ?_⟩
      refine ⟨sz3, fun p hp => ⟨D, _, _, rfl, rfl, atD p _ hp, len, ?_⟩⟩
      exact ⟨⟨_, rfl⟩, (add g p hp).1, (add g p hp).2, _, rows_add (r := g) hr1 hp, by rw [step, List.map_append, hr2]; show _ = _ ++ [(g.1, (sgOf ps g.1).1, (sgOf ps g.1).2)]; rw [eg]; rfl, by rw [List.length_append, List.length_singleton]; omega⟩
  · subst e
    rw [List.take_length] at hr2
    exact ⟨_, rfl, q H1 D as s1 hr1 hr2⟩
theorem flat_txts (ns : List Str) : (ns.map V.str).all flatV = true := by
  rw [List.all_map]
  exact List.all_eq_true.mpr fun _ _ => rfl
theorem inV_txts (z : Str) (ns : List Str) : inV (.str z) (ns.map V.str) = decide (z ∈ ns) := by
  unfold inV
  rw [List.any_map]
  by_cases h : z ∈ ns
  · rw [decide_eq_true h]
    exact List.any_eq_true.mpr ⟨z, h, by show eqV (.str z) (.str z) = true; simp [eqV]⟩
  · rw [decide_eq_false h]
    refine Bool.eq_false_iff.mpr fun e => ?_
    obtain ⟨y, hy, e⟩ := List.any_eq_true.mp e
    have e : eqV (.str y) (.str z) = true := e
    simp [eqV] at e
    exact h (e ▸ hy)
/-- the rows that come into cs -/
def into (cs : List Str) (r : Sgn) : Bool := !decide (r.2.1 ∈ cs) && decide (r.2.2 ∈ cs)
def enterN (rows : List Sgn) (cs : List Str) : Nat := (rows.filter (into cs)).length
def sp_count_into (K : PySem.W.Frag) : Sp0 := fun vs H Q => ∃ (r wd : Addr) (as : List (Sgn × Addr)) (cs : List Str), vs = [.ref r, .ref wd] ∧ RowsAt H r as ∧ as.length ≤ 100 ∧ WAt K H wd cs ∧ ∀ H', Same H H' → Q (.int (enterN (as.map (·.1)) cs : Nat)) H'
abbrev n_count_into : List Str := ["rows", "ward", "held", "name", "start", "goal"]
theorem sc_count_into : FnScope n_count_into ["rows", "ward"] (defScope s_count_into) := ⟨rfl, rfl, rfl, by decide +kernel, rfl, by decide +kernel, by decide +kernel⟩
theorem fn_count_into (T : Txt K mg) : Fn w K mg base 3 (a_count_into K) (sp_count_into K) := by
  refine fn_by (N := n_count_into) (ps := ["rows", "ward"]) (st := s_count_into) (T.fn 15 rfl) sc_count_into (fun _ _ _ _ _ _ us hl => match us, hl with | [_, _], _ => rfl) (by rintro vs H Q ⟨r, wd, as, cs, rfl, hr', h100, hw, q⟩; rfl) fun cdv A outer s H vs Q hr h => ?_
  obtain ⟨r, wd, as, cs, rfl, hr', h100, hw, q⟩ := h
  refine ⟨_, pss_cons (ps_set (i := 2) sc_count_into.nd rfl (by first | exact .inl rfl | exact .inr rfl) (pe_prop1 (T.cls T.r_c_Ward) (propB_ok T.r_p_Ward_corners) (fn_Ward_corners T) (hr.mono (by decide)) (pv 1)))
  (pss_one (ps_ret (pe_callB (lenQ_ K) (by rfl) (T.free T.r_f_len) bb_len (pa_cons (pe_lc (own := [("name", 3), ("start", 4), ("goal", 5)]) rfl sc_count_into.nd (piL_ K (pv 0)) (blkOk_by (own := [("name", 3), ("start", 4), ("goal", 5)]) (N := n_count_into) (sc := defScope s_count_into) (by decide +kernel)) (fun _ _ _ _ _ => gtup_ K (n := 3) (pgs_cons (pg_name (i := 3) sc_count_into.nd rfl (by first | exact .inl rfl | exact .inr rfl)) (pgs_cons (pg_name (i := 4) sc_count_into.nd rfl (by first | exact .inl rfl | exact .inr rfl)) (pgs_cons (pg_name (i := 5) sc_count_into.nd rfl (by first | exact .inl rfl | exact .inr rfl)) pgs_nil)))) (fun _ _ _ _ _ => pts_one (PW.pt (pw_and (pt_cmpR (ninQ_ K) (pv 4) (pv 2) (by first | rfl | exact nomark _)) (pw_and1 (pt_cmpR (inQ_ K) (pv 5) (pv 2) (by first | rfl | exact nomark _)))))) (fun _ _ _ _ _ => pv 3)) pa_nil)))), ?_⟩
  have hw' := hw
  obtain ⟨dx, tw, hw1, hw2⟩ := hw'
  refine ⟨_, rfl, wd, _, _, rfl, ⟨rfl, rfl⟩, ⟨dx, _, hw1⟩, wd, cs, rfl, hw, fun tp htp => ?_⟩
  refine ⟨_, rfl, _, rfl, ⟨_, SqL.of hr'.1⟩, fun D hD => ?_⟩
  refine lc_pure (as := as) (c := fun a => .ref a.2) src_l (fun a => into cs a.1) (fun a => .str a.1.1) hD (fun H1 sm => SqL.of (sm _ _ hr'.1)) (Nat.lt_of_le_of_lt h100 (by decide)) (fun i b H1 Kt Kf hb sm k1 k2 => ?_) fun H1 s1 hl => ?_
  · have e3 := sm _ _ (hr'.2 b (List.mem_of_getElem? hb))
    refine ⟨b.2, _, rfl, SqT.of e3, rfl, _, _, rfl, _, _, rfl, _, _, rfl, rfl, ?_⟩
    refine ⟨rfl, _, rfl, _, rfl, tp, _, rfl, .inr (SqT.of (sm _ _ htp)), rfl, flat_txts _, _, rfl, ?_⟩
    have i1 : (if true = true then !inV (.str b.1.2.1) (cs.map V.str) else inV (.str b.1.2.1) (cs.map V.str)) = !decide (b.1.2.1 ∈ cs) := by rw [if_pos rfl, inV_txts]
    rw [i1]
    by_cases c1 : b.1.2.1 ∈ cs
    · rw [decide_eq_true c1]
      exact iteF (iteF (k2 H1 (by show (!decide _ && _) = false; rw [decide_eq_true c1]; rfl) (Same.refl _)))
    · rw [decide_eq_false c1]
      refine ⟨_, rfl, _, rfl, tp, _, rfl, .inr (SqT.of (sm _ _ htp)), rfl, flat_txts _, _, rfl, ?_⟩
      have i2 : (if false = true then !inV (.str b.1.2.2) (cs.map V.str) else inV (.str b.1.2.2) (cs.map V.str)) = decide (b.1.2.2 ∈ cs) := by rw [if_neg Bool.false_ne_true, inV_txts]
      rw [i2]
      by_cases c2 : b.1.2.2 ∈ cs
      · rw [decide_eq_true c2]
        exact ⟨_, rfl, k1 H1 (by show (!decide _ && decide _) = true; rw [decide_eq_false c1, decide_eq_true c2]; rfl) (Same.refl _)⟩
      · rw [decide_eq_false c2]
        exact iteF (k2 H1 (by show (!decide _ && decide _) = false; rw [decide_eq_false c1, decide_eq_false c2]; rfl) (Same.refl _))
  · refine ⟨D, _, rfl, .inl (SqL.of hl), ?_⟩
    have e : ((as.filter fun a => into cs a.1).map fun a => V.str a.1.1).length = enterN (as.map (·.1)) cs := by
      rw [List.length_map, enterN, List.filter_map, List.length_map]
      rfl
    rw [e]
    exact q H1 s1
end
end ST
end
section
set_option Elab.async false
set_option linter.all false
set_option maxRecDepth 100000
set_option maxHeartbeats 1000000
/-! Plain: what is reached. -/
namespace ST
open PySem PySem.Spec PyProof.Rows L2 SgO
/-- a corner, and by which street from where it was reached -/
abbrev Rch : Type := Str × Option (Str × Str)
abbrev cor (pm : List Rch) : List Str := pm.map (·.1)
/-- from u the street n leads on to c beside the flow F -/
def Res (rows F : List Sgn) (n u c : Str) : Prop := ((n, u, c) ∈ rows ∧ hasS F n = false) ∨ ((n, c, u) ∈ rows ∧ (n, c, u) ∈ F)
inductive Good (rows F : List Sgn) (start : Str) : List Rch → Prop
  | one : Good rows F start [(start, none)]
  | add {pm : List Rch} {n u c : Str} : Good rows F start pm → u ∈ cor pm → Res rows F n u c → c ∉ cor pm → Good rows F start (pm ++ [(c, some (n, u))])
/-- what of the row r leads on from u is reached -/
def Clo (F : List Sgn) (pm : List Rch) (u : Str) (r : Sgn) : Prop := (r.2.1 = u → hasS F r.1 = false → r.2.2 ∈ cor pm) ∧ (r.2.2 = u → r ∈ F → r.2.1 ∈ cor pm)
theorem Clo.more {F : List Sgn} {pm : List Rch} {u : Str} {r : Sgn} (h : Clo F pm u r) (e : Rch) : Clo F (pm ++ [e]) u r :=
  ⟨fun a b => by rw [cor, List.map_append]; exact List.mem_append_left _ (h.1 a b), fun a b => by rw [cor, List.map_append]; exact List.mem_append_left _ (h.2 a b)⟩
theorem hasS_false {F : List Sgn} {n : Str} (h : hasS F n = false) : ∀ g ∈ F, g.1 ≠ n := fun g hg e => by
  have := hasS_in hg
  rw [e, h] at this
  cases this
section
variable {rows F : List Sgn} {start : Str} {pm : List Rch}
theorem Good.nodup (h : Good rows F start pm) : (cor pm).Nodup := by
  induction h with
  | one => simp [cor]
  | add _ _ _ hc ih =>
    rw [cor, List.map_append]
    exact nd_snoc ih hc
theorem Good.ends (h : Good rows F start pm) : ∀ c ∈ cor pm, c ∈ start :: rows.flatMap fun r => [r.2.1, r.2.2] := by
  induction h with
  | one => simp [cor]
  | @add pm n u c _ _ hr _ ih =>
    intro z hz
    rw [cor, List.map_append] at hz
    rcases List.mem_append.mp hz with m | m
    · exact ih z m
    · rw [List.map_singleton, List.mem_singleton] at m
      rw [m]
      refine List.mem_cons_of_mem _ (List.mem_flatMap.mpr ?_)
      rcases hr with ⟨h1, _⟩ | ⟨h1, _⟩
      · exact ⟨_, h1, by simp⟩
      · exact ⟨_, h1, by simp⟩
theorem flat2_len (rows : List Sgn) : (rows.flatMap fun r => [r.2.1, r.2.2]).length = 2 * rows.length := by
  induction rows with
  | nil => rfl
  | cons r q ih =>
    simp only [List.flatMap_cons, List.length_append, List.length_cons, ih, List.length_nil]
    omega
theorem Good.len (h : Good rows F start pm) : pm.length ≤ 1 + 2 * rows.length := by
  have := nodup_le h.nodup h.ends
  rw [List.length_map, List.length_cons, flat2_len] at this
  omega
theorem Good.pos (h : Good rows F start pm) : 0 < pm.length := by
  cases h with
  | one => simp
  | add => simp
theorem Good.first (h : Good rows F start pm) : start ∈ cor pm := by
  induction h with
  | one => simp [cor]
  | add _ _ _ _ ih => rw [cor, List.map_append]; exact List.mem_append_left _ ih
end
end ST
end
section
set_option Elab.async false
set_option linter.all false
set_option maxHeartbeats 1000000
/-! Plain: flows by counts; the cut behind what is reached; walks. -/
namespace ST
open PySem PySem.Spec PyProof.Rows L2 SgO
theorem nodup_leA {α : Type} [DecidableEq α] {xs ys : List α} (h : xs.Nodup) (s : ∀ x ∈ xs, x ∈ ys) : xs.length ≤ ys.length := by
  induction xs generalizing ys with
  | nil => exact Nat.zero_le _
  | cons x r ih =>
    obtain ⟨h1, h2⟩ := List.nodup_cons.mp h
    have hx := s x List.mem_cons_self
    have := ih (ys := ys.erase x) h2 fun z hz => (List.mem_erase_of_ne (fun e : z = x => h1 (by rw [← e]; exact hz))).mpr (s z (List.mem_cons_of_mem _ hz))
    rw [List.length_erase_of_mem hx] at this
    have := List.length_pos_of_mem hx
    simp only [List.length_cons]
    omega
def outN (F : List Sgn) (v : Str) : Nat := (F.filter fun g => decide (g.2.1 = v)).length
def inN (F : List Sgn) (v : Str) : Nat := (F.filter fun g => decide (g.2.2 = v)).length
def dl (a v : Str) : Nat := if a = v then 1 else 0
/-- each street has one row, or two that lead both ways -/
structure RowsOk (rows : List Sgn) : Prop where
  ne : ∀ r ∈ rows, r.2.1 ≠ r.2.2
  two : ∀ r ∈ rows, ∀ s ∈ rows, r.1 = s.1 → s = r ∨ (s.2.1 = r.2.2 ∧ s.2.2 = r.2.1)
  nd : rows.Nodup
structure FlOk (rows F : List Sgn) (start : Str) : Prop where
  sub : ∀ g ∈ F, g ∈ rows
  nd : (F.map (·.1)).Nodup
  no : ∀ g ∈ F, g.2.2 ≠ start
/-- k units from start to goal, and one from c to goal -/
def Bal (F : List Sgn) (start goal c : Str) (k : Nat) : Prop := ∀ v, outN F v + k * dl goal v + dl goal v = inN F v + k * dl start v + dl c v
def Flow (F : List Sgn) (start goal : Str) (k : Nat) : Prop := ∀ v, outN F v + k * dl goal v = inN F v + k * dl start v
def delS (G : List Sgn) (n : Str) : List Sgn := G.filter fun g => !decide (g.1 = n)
section
variable {rows F G : List Sgn} {start goal c u v n : Str} {k : Nat}
theorem outN_cons {g : Sgn} : outN (g :: G) v = dl g.2.1 v + outN G v := by
  unfold outN dl
  rw [List.filter_cons]
  by_cases h : g.2.1 = v
  · simp [h]; omega
  · simp [h]
theorem inN_cons {g : Sgn} : inN (g :: G) v = dl g.2.2 v + inN G v := by
  unfold inN dl
  rw [List.filter_cons]
  by_cases h : g.2.2 = v
  · simp [h]; omega
  · simp [h]
theorem outN_snoc {g : Sgn} : outN (G ++ [g]) v = outN G v + dl g.2.1 v := by
  unfold outN dl
  rw [List.filter_append, List.length_append]
  by_cases h : g.2.1 = v <;> simp [h]
theorem inN_snoc {g : Sgn} : inN (G ++ [g]) v = inN G v + dl g.2.2 v := by
  unfold inN dl
  rw [List.filter_append, List.length_append]
  by_cases h : g.2.2 = v <;> simp [h]
theorem delS_none (h : ∀ g ∈ G, g.1 ≠ n) : delS G n = G := List.filter_eq_self.mpr fun g hg => by simp [h g hg]
theorem mem_delS {g : Sgn} : g ∈ delS G n ↔ g ∈ G ∧ g.1 ≠ n := by
  unfold delS
  rw [List.mem_filter]
  simp
theorem del_split : ∀ {G : List Sgn} {g : Sgn}, (G.map (·.1)).Nodup → g ∈ G → outN G v = outN (delS G g.1) v + dl g.2.1 v ∧ inN G v = inN (delS G g.1) v + dl g.2.2 v
  | [], _, _, h => by cases h
  | a :: r, g, hn, h => by
    rw [List.map_cons] at hn
    obtain ⟨h1, h2⟩ := List.nodup_cons.mp hn
    by_cases e : a.1 = g.1
    · have eg : g = a := by
        rcases List.mem_cons.mp h with z | m
        · exact z
        · exact absurd (List.mem_map.mpr ⟨g, m, e.symm⟩) h1
      subst eg
      have ed : delS (g :: r) g.1 = r := by
        unfold delS
        rw [List.filter_cons]
        simp only [decide_true, Bool.not_true, Bool.false_eq_true, if_false]
        exact delS_none fun b hb z => h1 (List.mem_map.mpr ⟨b, hb, z⟩)
      rw [ed, outN_cons, inN_cons]
      omega
    · have m : g ∈ r := (List.mem_cons.mp h).resolve_left fun z => e (by rw [z])
      have ed : delS (a :: r) g.1 = a :: delS r g.1 := by
        unfold delS
        rw [List.filter_cons]
        simp [e]
      obtain ⟨q1, q2⟩ := del_split h2 m
      rw [ed, outN_cons, inN_cons, outN_cons, inN_cons, q1, q2]
      omega
theorem delS_nd (h : (G.map (·.1)).Nodup) : ((delS G n).map (·.1)).Nodup := (List.filter_sublist.map _).nodup h
theorem delS_len {g : Sgn} (hg : g ∈ G) : (delS G g.1).length < G.length := by
  unfold delS
  have : (G.filter fun b => !decide (b.1 = g.1)) ≠ G := fun e => by
    have := e ▸ hg
    rw [List.mem_filter] at this
    simp at this
  exact Nat.lt_of_le_of_ne (List.length_filter_le _ _) fun e => this (List.filter_sublist.eq_of_length e)
/-- one arc more -/
theorem Bal.add (h : Bal G start goal c k) (n u : Str) : Bal (G ++ [(n, u, c)]) start goal u k := fun v => by
  have := h v
  rw [outN_snoc, inN_snoc]
  show outN G v + dl u v + k * dl goal v + dl goal v = inN G v + dl c v + k * dl start v + dl u v
  omega
/-- one arc less -/
theorem Bal.del (h : Bal G start goal c k) (hn : (G.map (·.1)).Nodup) (hg : (n, c, u) ∈ G) : Bal (delS G n) start goal u k := fun v => by
  have := h v
  obtain ⟨q1, q2⟩ := del_split (v := v) hn hg
  have q1 : outN G v = outN (delS G n) v + dl c v := q1
  have q2 : inN G v = inN (delS G n) v + dl u v := q2
  omega
theorem Flow.bal (h : Flow F start goal k) : Bal F start goal goal k := fun v => by
  have := h v
  omega
theorem Bal.flow (h : Bal F start goal start k) : Flow F start goal (k + 1) := fun v => by
  have := h v
  rw [Nat.succ_mul, Nat.succ_mul]
  omega
theorem Bal.done (h : Bal F start goal goal k) : Flow F start goal k := fun v => by
  have := h v
  omega
theorem Flow.back (h : Flow F start goal (k + 1)) : Bal F start goal start k := fun v => by
  have := h v
  rw [Nat.succ_mul, Nat.succ_mul] at this
  omega
theorem Flow.zero : Flow [] start goal 0 := fun v => by simp [outN, inN]
theorem FlOk.nil : FlOk rows [] start := ⟨fun _ h => (nomatch h), List.nodup_nil, fun _ h => (nomatch h)⟩
theorem inN_zero (h : ∀ g ∈ F, g.2.2 ≠ start) : inN F start = 0 := by
  unfold inN
  rw [List.length_eq_zero_iff]
  exact List.filter_eq_nil_iff.mpr fun g hg z => h g hg (of_decide_eq_true z)
theorem Flow.out (h : Flow F start goal k) (ne : start ≠ goal) (hf : FlOk rows F start) : outN F start = k := by
  have := h start
  rw [inN_zero hf.no] at this
  unfold dl at this
  rw [if_neg fun e => ne e.symm, if_pos rfl] at this
  omega
theorem FlOk.ndF (h : FlOk rows F start) : F.Nodup := List.Pairwise.of_map _ (fun _ _ h e => h (by rw [e])) h.nd
theorem FlOk.len (h : FlOk rows F start) : F.length ≤ rows.length := nodup_leA h.ndF h.sub
theorem FlOk.del (h : FlOk rows F start) : FlOk rows (delS F n) start := ⟨fun g hg => h.sub g (mem_delS.mp hg).1, delS_nd h.nd, fun g hg => h.no g (mem_delS.mp hg).1⟩
theorem FlOk.add (h : FlOk rows F start) (hr : (n, u, c) ∈ rows) (hn : hasS F n = false) (hc : c ≠ start) : FlOk rows (F ++ [(n, u, c)]) start := by
  refine ⟨fun g hg => ?_, ?_, fun g hg => ?_⟩
  · rcases List.mem_append.mp hg with m | m
    · exact h.sub g m
    · rw [List.mem_singleton.mp m]
      exact hr
  · rw [List.map_append]
    refine nd_snoc h.nd fun z => ?_
    obtain ⟨g, hg, e⟩ := List.mem_map.mp z
    exact hasS_false hn g hg e
  · rcases List.mem_append.mp hg with m | m
    · exact h.no g m
    · rw [List.mem_singleton.mp m]
      exact hc
/-! ### the cut -/
theorem filt_or {α : Type} {p q : α → Bool} : ∀ {l : List α}, (∀ a ∈ l, p a = true → q a = true → False) → (l.filter fun a => p a || q a).length = (l.filter p).length + (l.filter q).length
  | [], _ => rfl
  | a :: r, h => by
    have ih := filt_or (l := r) fun b hb => h b (List.mem_cons_of_mem _ hb)
    have ha := h a List.mem_cons_self
    rw [List.filter_cons, List.filter_cons, List.filter_cons]
    cases e1 : p a <;> cases e2 : q a
    · simp only [Bool.or_self, Bool.false_eq_true, if_false]; exact ih
    · simp only [Bool.or_true, if_true, Bool.false_eq_true, if_false, List.length_cons]; omega
    · simp only [Bool.or_false, if_true, Bool.false_eq_true, if_false, List.length_cons]; omega
    · exact (ha e1 e2).elim
theorem filt_and {α : Type} {p q : α → Bool} : ∀ {l : List α}, (l.filter p).length = (l.filter fun a => p a && q a).length + (l.filter fun a => p a && !q a).length
  | [] => rfl
  | a :: r => by
    have ih := filt_and (p := p) (q := q) (l := r)
    rw [List.filter_cons, List.filter_cons, List.filter_cons]
    cases e1 : p a <;> cases e2 : q a <;> simp <;> omega
def ind (a : Str) (cs : List Str) : Nat := if a ∈ cs then 1 else 0
theorem ind_cons {a c : Str} {r : List Str} (h : c ∉ r) : ind a (c :: r) = dl a c + ind a r := by
  unfold ind dl
  by_cases e : a = c
  · subst e
    simp [h]
  · simp [e]
theorem cnt_cons {f : Sgn → Str} {c : Str} {r : List Str} (h : c ∉ r) : (F.filter fun g => decide (f g ∈ c :: r)).length = (F.filter fun g => decide (f g = c)).length + (F.filter fun g => decide (f g ∈ r)).length := by
  rw [← filt_or]
  · congr 2
    funext g
    by_cases e : f g = c <;> simp [e]
  · intro g _ h1 h2
    rw [of_decide_eq_true h1] at h2
    exact h (of_decide_eq_true h2)
theorem cut_sum (h : Flow F start goal k) : ∀ {cs : List Str}, cs.Nodup → (F.filter fun g => decide (g.2.1 ∈ cs)).length + k * ind goal cs = (F.filter fun g => decide (g.2.2 ∈ cs)).length + k * ind start cs
  | [], _ => by simp [ind]
  | c :: r, hn => by
    obtain ⟨h1, h2⟩ := List.nodup_cons.mp hn
    have ih := cut_sum h h2
    have q := h c
    rw [cnt_cons (f := fun g => g.2.1) h1, cnt_cons (f := fun g => g.2.2) h1, ind_cons h1, ind_cons h1, Nat.mul_add, Nat.mul_add]
    show outN F c + _ + _ = inN F c + _ + _
    omega
def leav (cs : List Str) (g : Sgn) : Bool := decide (g.2.1 ∈ cs) && !decide (g.2.2 ∈ cs)
theorem cut_val (h : Flow F start goal k) {cs : List Str} (hn : cs.Nodup) (hs : start ∈ cs) (hg : goal ∉ cs) (no : ∀ g ∈ F, g.2.2 ∈ cs → g.2.1 ∈ cs) : (F.filter (leav cs)).length = k := by
  have q := cut_sum h hn
  have e1 : ind goal cs = 0 := if_neg hg
  have e2 : ind start cs = 1 := if_pos hs
  rw [e1, e2, filt_and (p := fun g : Sgn => decide (g.2.1 ∈ cs)) (q := fun g => decide (g.2.2 ∈ cs)), filt_and (p := fun g : Sgn => decide (g.2.2 ∈ cs)) (q := fun g => decide (g.2.1 ∈ cs))] at q
  have e3 : (F.filter fun g => decide (g.2.2 ∈ cs) && !decide (g.2.1 ∈ cs)) = [] := List.filter_eq_nil_iff.mpr fun g hg z => by
    obtain ⟨z1, z2⟩ := ands z
    rw [decide_eq_true (no g hg (of_decide_eq_true z1))] at z2
    cases z2
  have e4 : (F.filter fun g => decide (g.2.2 ∈ cs) && decide (g.2.1 ∈ cs)) = F.filter fun g => decide (g.2.1 ∈ cs) && decide (g.2.2 ∈ cs) := by
    congr 1
    funext g
    exact Bool.and_comm _ _
  rw [e3, e4] at q
  show (F.filter fun g => decide (g.2.1 ∈ cs) && !decide (g.2.2 ∈ cs)).length = k
  simp only [List.length_nil] at q
  omega
theorem max_flow {pm : List Rch} {cor0 : List Str} (ok : RowsOk rows) (hf : FlOk rows F start) (h : Flow F start goal k) (gd : Good rows F start pm) (cl : ∀ u ∈ cor pm, ∀ r ∈ rows, Clo F pm u r) (hg : goal ∉ cor pm)
    (he : ∀ r ∈ rows, r.2.1 ∈ cor0 ∧ r.2.2 ∈ cor0) : enterN rows (cor0.filter fun c => !decide (c ∈ cor pm)) = k := by
  have no : ∀ g ∈ F, g.2.2 ∈ cor pm → g.2.1 ∈ cor pm := fun g hg hc => (cl _ hc g (hf.sub g hg)).2 rfl hg
  rw [← cut_val h gd.nodup gd.first hg no]
  have e1 : enterN rows (cor0.filter fun c => !decide (c ∈ cor pm)) = (rows.filter (leav (cor pm))).length := by
    unfold enterN
    congr 1
    refine List.filter_congr fun r hr => ?_
    obtain ⟨h1, h2⟩ := he r hr
    unfold into leav
    have e : ∀ z, z ∈ cor0 → decide (z ∈ cor0.filter fun c => !decide (c ∈ cor pm)) = !decide (z ∈ cor pm) := fun z hz => by
      by_cases hc : z ∈ cor pm <;> simp [hz, hc]
    rw [e _ h1, e _ h2, Bool.not_not]
  rw [e1]
  refine Nat.le_antisymm (nodup_leA (ok.nd.filter _) fun r hr => ?_) (nodup_leA (hf.ndF.filter _) fun g hg => ?_)
  · obtain ⟨hr1, hr2⟩ := List.mem_filter.mp hr
    refine List.mem_filter.mpr ⟨?_, hr2⟩
    obtain ⟨z1, z2⟩ := ands (show (decide (r.2.1 ∈ cor pm) && !decide (r.2.2 ∈ cor pm)) = true from hr2)
    have t1 : r.2.1 ∈ cor pm := of_decide_eq_true z1
    have t2 : r.2.2 ∉ cor pm := fun m => by rw [decide_eq_true m] at z2; cases z2
    cases e : hasS F r.1 with
    | false => exact absurd ((cl _ t1 r hr1).1 rfl e) t2
    | true =>
      obtain ⟨g, hg, eg⟩ := List.any_eq_true.mp e
      have eg := of_decide_eq_true eg
      rcases ok.two r hr1 g (hf.sub g hg) eg.symm with z | ⟨y1, y2⟩
      · rw [← z]
        exact hg
      · exact absurd (y1 ▸ no g hg (y2 ▸ t1)) t2
  · obtain ⟨h1, h2⟩ := List.mem_filter.mp hg
    exact List.mem_filter.mpr ⟨hf.sub g h1, h2⟩
/-! ### a walk laid in -/
structure Lay (rows F : List Sgn) (pm : List Rch) (start goal : Str) (k : Nat) (c : Str) (G : List Sgn) (m : Nat) : Prop where
  at_ : ∃ pre e post, pm = pre ++ (c, e) :: post ∧ pre.length = m ∧ ∀ r ∈ rows, r.2.1 ∈ cor pre ++ [c] → r.2.2 ∈ cor pre ++ [c] → ∀ z, (r.1, z) ∈ G ↔ (r.1, z) ∈ F
  ok : FlOk rows G start
  bal : Bal G start goal c k
theorem Good.at {pm : List Rch} (h : Good rows F start pm) : ∀ {pre : List Rch} {e : Option (Str × Str)} {post : List Rch}, pm = pre ++ (c, e) :: post → c ≠ start → ∃ n u, e = some (n, u) ∧ u ∈ cor pre ∧ Res rows F n u c ∧ c ∉ cor pre := by
  induction h with
  | one =>
    intro pre e post h ne
    cases pre with
    | nil =>
      injection h with h1 h2
      injection h1 with h1 h3
      exact absurd h1.symm ne
    | cons a r =>
      injection h with h1 h2
      exact absurd h2.symm (by simp)
  | @add pm n u d hg hu hr hd ih =>
    intro pre e post h ne
    rcases List.eq_nil_or_concat post with rfl | ⟨p, x, rfl⟩
    · have := List.append_inj' h rfl
      obtain ⟨h1, h2⟩ := this
      injection h2 with h2 _
      injection h2 with h2 h3
      subst h1 h2
      exact ⟨n, u, h3.symm, hu, hr, hd⟩
    · rw [List.concat_eq_append] at h
      have h' : pm ++ [(d, some (n, u))] = (pre ++ (c, e) :: p) ++ [x] := by rw [h]; simp
      exact ih (List.append_inj' h' rfl).1 ne
theorem Lay.first {pm : List Rch} (gd : Good rows F start pm) (hf : FlOk rows F start) (h : Flow F start goal k) (hg : goal ∈ cor pm) : ∃ m, m < pm.length ∧ Lay rows F pm start goal k goal F m := by
  obtain ⟨⟨g, e⟩, hm, rfl⟩ := List.mem_map.mp hg
  obtain ⟨pre, post, ep⟩ := List.append_of_mem hm
  exact ⟨pre.length, by rw [ep, List.length_append, List.length_cons]; omega, ⟨pre, e, post, ep, rfl, fun _ _ _ _ _ => Iff.rfl⟩, hf, h.bal⟩
/-- the step on -/
theorem Lay.step {pm : List Rch} {m : Nat} (ok : RowsOk rows) (gd : Good rows F start pm) (hf : FlOk rows F start) (h : Lay rows F pm start goal k c G m) (ne : c ≠ start) :
    ∃ n u, (c, some (n, u)) ∈ pm ∧ ∃ m', m' < m ∧ ((hasS G n = true ∧ Lay rows F pm start goal k u (delS G n) m') ∨ (hasS G n = false ∧ Lay rows F pm start goal k u (G ++ [(n, u, c)]) m')) := by
  obtain ⟨⟨pre, e, post, ep, hl, ag⟩, ok', bal⟩ := h
  obtain ⟨n, u, rfl, hu, hr, hc⟩ := gd.at ep ne
  obtain ⟨⟨u', e'⟩, hm, eu⟩ := List.mem_map.mp hu
  have eu : u' = u := eu
  subst eu
  obtain ⟨p1, p2, ep1⟩ := List.append_of_mem hm
  have mu : u' ∈ cor pre ++ [c] := List.mem_append_left _ hu
  have mc : c ∈ cor pre ++ [c] := List.mem_append_right _ (List.mem_singleton.mpr rfl)
  have sub : ∀ z, z ∈ cor p1 ++ [u'] → z ∈ cor pre := fun z hz => by
    rw [ep1, cor, List.map_append]
    rcases List.mem_append.mp hz with q | q
    · exact List.mem_append_left _ q
    · rw [List.mem_singleton.mp q]
      exact List.mem_append_right _ List.mem_cons_self
  have ep' : pm = p1 ++ (u', e') :: (p2 ++ (c, some (n, u')) :: post) := by rw [ep, ep1]; simp
  have hl' : p1.length < m := by rw [← hl, ep1, List.length_append, List.length_cons]; omega
  -- another street's rows do not touch c
  have other : ∀ x y, (n, x, y) ∈ rows → (x = u' ∧ y = c) ∨ (x = c ∧ y = u') → ∀ r ∈ rows, r.2.1 ∈ cor p1 ++ [u'] → r.2.2 ∈ cor p1 ++ [u'] → r.1 ≠ n := by
    intro x y hxy hor r hr1 h1 h2 en
    have hx := sub _ h1
    have hy := sub _ h2
    rcases ok.two _ hxy r hr1 en.symm with z | ⟨z1, z2⟩
    · rw [z] at hx hy
      rcases hor with ⟨_, a⟩ | ⟨a, _⟩
      · exact hc (a ▸ hy)
      · exact hc (a ▸ hx)
    · have z1 : r.2.1 = y := z1
      have z2 : r.2.2 = x := z2
      rcases hor with ⟨_, a⟩ | ⟨a, _⟩
      · exact hc (a ▸ z1 ▸ hx)
      · exact hc (a ▸ z2 ▸ hy)
  refine ⟨n, u', by rw [ep]; simp, p1.length, hl', ?_⟩
  rcases hr with ⟨hr1, hr2⟩ | ⟨hr1, hr2⟩
  · have no : hasS G n = false := by
      cases eh : hasS G n with
      | false => rfl
      | true =>
        obtain ⟨g, hg, eg⟩ := List.any_eq_true.mp eh
        have eg : g.1 = n := of_decide_eq_true eg
        have hgF : (n, g.2) ∈ F := (ag _ hr1 mu mc g.2).mp (by show (n, g.2) ∈ G; rw [← eg]; exact hg)
        exact absurd rfl (hasS_false hr2 _ hgF)
    refine .inr ⟨no, ⟨p1, e', _, ep', rfl, fun r hr h1 h2 z => ?_⟩, ok'.add hr1 no ne, bal.add n u'⟩
    have en := other _ _ hr1 (.inl ⟨rfl, rfl⟩) r hr h1 h2
    rw [← ag r hr (List.mem_append_left _ (sub _ h1)) (List.mem_append_left _ (sub _ h2)) z, List.mem_append, List.mem_singleton]
    exact ⟨fun q => q.resolve_right fun y => en (congrArg (·.1) y), .inl⟩
  · have hG : (n, c, u') ∈ G := (ag _ hr1 mc mu _).mpr hr2
    refine .inl ⟨hasS_in hG, ⟨p1, e', _, ep', rfl, fun r hr h1 h2 z => ?_⟩, ok'.del, bal.del ok'.nd hG⟩
    have en := other _ _ hr1 (.inr ⟨rfl, rfl⟩) r hr h1 h2
    rw [← ag r hr (List.mem_append_left _ (sub _ h1)) (List.mem_append_left _ (sub _ h2)) z, mem_delS]
    exact ⟨fun q => q.1, fun q => ⟨q, en⟩⟩
/-! ### walks -/
inductive Wlk (rows : List Sgn) : Str → List Str → Str → Prop
  | nil {c : Str} : Wlk rows c [] c
  | cons {n c d g : Str} {r : List Str} : (n, c, d) ∈ rows → Wlk rows d r g → Wlk rows c (n :: r) g
theorem Wlk.snoc {a c d : Str} {ns : List Str} (h : Wlk rows a ns c) (hr : (n, c, d) ∈ rows) : Wlk rows a (ns ++ [n]) d := by
  induction h with
  | nil => exact .cons hr .nil
  | cons h1 _ ih => exact .cons h1 (ih hr)
theorem Wlk.mono {rows' : List Sgn} {a c : Str} {ns : List Str} (h : Wlk rows a ns c) (hs : ∀ n ∈ ns, ∀ x y, (n, x, y) ∈ rows → (n, x, y) ∈ rows') : Wlk rows' a ns c := by
  induction h with
  | nil => exact .nil
  | cons h1 _ ih => exact .cons (hs _ List.mem_cons_self _ _ h1) (ih fun n hn => hs n (List.mem_cons_of_mem _ hn))
/-- a bundle: that many walks, no street twice -/
structure Bun (rows : List Sgn) (a b : Str) (ws : List (List Str)) : Prop where
  wlk : ∀ ns ∈ ws, Wlk rows a ns b
  nd : ws.flatten.Nodup
/-- k units less are left, the walk so far is at c -/
structure Lft (rows L : List Sgn) (start goal c : Str) (m : Nat) (ws : List (List Str)) (ns : List Str) : Prop where
  ok : FlOk rows L start
  bal : Bal L start goal c m
  bun : ∀ ms ∈ ws, Wlk rows start ms goal
  wlk : Wlk rows start ns c
  nd : ((ws.flatten ++ ns) ++ L.map (·.1)).Nodup
theorem Lft.go {L : List Sgn} {ws : List (List Str)} {ns : List Str} {m : Nat} (h : Lft rows L start goal c m ws ns) (ne : c ≠ goal) : ∃ g ∈ L, g.2.1 = c := by
  have := h.bal c
  unfold dl at this
  rw [if_neg fun e => ne e.symm, if_pos rfl] at this
  have pos : 0 < outN L c := by omega
  obtain ⟨g, hg⟩ := List.exists_mem_of_length_pos pos
  obtain ⟨h1, h2⟩ := List.mem_filter.mp hg
  exact ⟨g, h1, of_decide_eq_true h2⟩
theorem Lft.step {L : List Sgn} {ws : List (List Str)} {ns : List Str} {m : Nat} {d : Str} (h : Lft rows L start goal c m ws ns) (hg : (n, c, d) ∈ L) : Lft rows (delS L n) start goal d m ws (ns ++ [n]) := by
  refine ⟨h.ok.del, h.bal.del h.ok.nd hg, h.bun, h.wlk.snoc (h.ok.sub _ hg), ?_⟩
  have nd := h.nd
  rw [← List.append_assoc]
  obtain ⟨n1, n2, n3⟩ := List.nodup_append.mp nd
  have hn : n ∈ L.map (·.1) := List.mem_map.mpr ⟨_, hg, rfl⟩
  refine List.nodup_append.mpr ⟨nd_snoc n1 fun z => n3 _ z _ hn rfl, delS_nd n2, fun a ha b hb e => ?_⟩
  obtain ⟨b', hb1, hb2⟩ := List.mem_map.mp hb
  obtain ⟨hb3, hb4⟩ := mem_delS.mp hb1
  rcases List.mem_append.mp ha with z | z
  · exact n3 a z b (List.mem_map.mpr ⟨b', hb3, hb2⟩) e
  · rw [List.mem_singleton.mp z] at e
    exact hb4 (hb2.trans e.symm)
/-- whole walks laid, k units are left -/
structure Lf0 (rows L : List Sgn) (start goal : Str) (k : Nat) (ws : List (List Str)) : Prop where
  ok : FlOk rows L start
  flow : Flow L start goal k
  bun : ∀ ms ∈ ws, Wlk rows start ms goal
  nd : (ws.flatten ++ L.map (·.1)).Nodup
theorem Lf0.first (h : FlOk rows F start) (q : Flow F start goal k) : Lf0 rows F start goal k [] := ⟨h, q, fun _ z => (nomatch z), h.nd⟩
theorem Lf0.begin {L : List Sgn} {ws : List (List Str)} (h : Lf0 rows L start goal (k + 1) ws) : Lft rows L start goal start k ws [] := ⟨h.ok, h.flow.back, h.bun, .nil, by rw [List.append_nil]; exact h.nd⟩
theorem Lft.next {L : List Sgn} {ws : List (List Str)} {ns : List Str} {m : Nat} (h : Lft rows L start goal goal m ws ns) : Lf0 rows L start goal m (ws ++ [ns]) := by
  refine ⟨h.ok, h.bal.done, fun ms hm => ?_, ?_⟩
  · rcases List.mem_append.mp hm with z | z
    · exact h.bun ms z
    · rw [List.mem_singleton.mp z]
      exact h.wlk
  · rw [List.flatten_append]
    simpa using h.nd
theorem Lf0.done {L : List Sgn} {ws : List (List Str)} (h : Lf0 rows L start goal k ws) : Bun rows start goal ws := ⟨h.bun, (List.nodup_append.mp h.nd).1⟩
end
end ST
end
section
set_option Elab.async false
set_option linter.all false
set_option maxRecDepth 100000
set_option maxHeartbeats 1000000
/-! What is come to; a walk laid in. -/
namespace ST
open PySem PySem.Spec PyProof.Rows L2 SgO
section
variable {w : World} {K : PySem.W.Frag} {mg : Str → Option Value} {base : Heap}
/-- how a corner was come to, as a value -/
def cv (H : Hp) : Option (Str × Str) → V → Prop
  | none, v => v = .non
  | some (n, u), v => ∃ a, v = .ref a ∧ T2 H a n u
abbrev cB (b : Rch × V) : Key × V := (.inr b.1.1, b.2)
def CmAt (H : Hp) (d : Addr) (bs : List (Rch × V)) : Prop := H d = some (.dK (bs.map cB)) ∧ ∀ b ∈ bs, cv H b.1.2 b.2
theorem cv.same {H H' : Hp} {e : Option (Str × Str)} {v : V} (h : cv H e v) (s : ∀ b xs, H b = some (.tup xs) → H' b = some (.tup xs)) : cv H' e v := by
  match e, h with
  | none, h => exact h
  | some (n, u), ⟨a, e1, e2⟩ => exact ⟨a, e1, s _ _ e2⟩
theorem CmAt.same {H H' : Hp} {d : Addr} {bs : List (Rch × V)} (h : CmAt H d bs) (s : Same H H') : CmAt H' d bs := ⟨s _ _ h.1, fun b hb => (h.2 b hb).same fun _ _ e => s _ _ e⟩
theorem valV_cm {bs : List (Rch × V)} {z : Str} : (valV (bs.map cB) (.inr z)).isSome = decide (z ∈ cor (bs.map (·.1))) := by
  rw [← valV_any, List.any_map]
  by_cases h : z ∈ cor (bs.map (·.1))
  · rw [decide_eq_true h]
    obtain ⟨e, he, rfl⟩ := List.mem_map.mp h
    obtain ⟨b, hb, rfl⟩ := List.mem_map.mp he
    exact List.any_eq_true.mpr ⟨b, hb, decide_eq_true rfl⟩
  · rw [decide_eq_false h]
    refine Bool.eq_false_iff.mpr fun e => ?_
    obtain ⟨b, hb, e⟩ := List.any_eq_true.mp e
    exact h (List.mem_map.mpr ⟨b.1, List.mem_map.mpr ⟨b, hb, rfl⟩, Sum.inr.inj (of_decide_eq_true e)⟩)
theorem drop_gS {fs : List (Sgn × Addr)} {n : Str} : dropK (fs.map gS) (.inr n) = (fs.filter fun b => !decide (b.1.1 = n)).map gS := by
  unfold dropK
  rw [List.filter_map]
  congr 1
  refine List.filter_congr fun b _ => ?_
  show decide ((Sum.inr b.1.1 : Key) ≠ .inr n) = _
  by_cases e : b.1.1 = n
  · simp [e]
  · simp [e]
theorem fst_del {fs : List (Sgn × Addr)} {n : Str} : (fs.filter fun b => !decide (b.1.1 = n)).map (·.1) = delS (fs.map (·.1)) n := by
  unfold delS
  rw [List.filter_map]
  rfl
/-- an own flow -/
def FAt (H : Hp) (d : Addr) (fs : List (Sgn × Addr)) : Prop := H d = some (.dK (fs.map gS)) ∧ ∀ b ∈ fs, T2 H b.2 b.1.2.1 b.1.2.2
theorem FAt.pd {H : Hp} {d : Addr} {fs : List (Sgn × Addr)} (h : FAt H d fs) : PD H d fs := ⟨.inl h.1, h.2⟩
theorem FAt.same {H H' : Hp} {d : Addr} {fs : List (Sgn × Addr)} (h : FAt H d fs) (s : Same H H') : FAt H' d fs := ⟨s _ _ h.1, fun b hb => s _ _ (h.2 b hb)⟩
theorem FAt.del {H : Hp} {d : Addr} {fs : List (Sgn × Addr)} (h : FAt H d fs) (n : Str) : FAt (upd H d (.dK ((fs.filter fun b => !decide (b.1.1 = n)).map gS))) d (fs.filter fun b => !decide (b.1.1 = n)) :=
  ⟨upd_same, fun b hb => (upd_ne (ne_of (h.2 b (List.mem_filter.mp hb).1) h.1 (fun z => nomatch z))).trans (h.2 b (List.mem_filter.mp hb).1)⟩
theorem FAt.put {H : Hp} {d p : Addr} {fs : List (Sgn × Addr)} {n u c : Str} (h : FAt H d fs) (hp : H p = none) (hn : hasS (fs.map (·.1)) n = false) :
    FAt (upd (upd H p (.tup [.str u, .str c])) d (.dK (putK (fs.map gS) (.inr n) (.ref p)))) d (fs ++ [((n, u, c), p)]) := by
  have hv : valV (fs.map gS) (.inr n) = none := by
    have := valV_sg (bs := fs) (z := n)
    rw [hn] at this
    cases e : valV (fs.map gS) (.inr n) with
    | none => rfl
    | some v =>
      rw [e] at this
      cases this
  have npd : p ≠ d := ne_of_none' hp h.1
  refine ⟨by rw [upd_same, putK_new _ hv, List.map_append]; rfl, fun b hb => ?_⟩
  rcases List.mem_append.mp hb with m | m
  · have e := h.2 b m
    exact (upd_ne (ne_of e h.1 (fun z => nomatch z))).trans ((upd_ne (ne_of_none e hp)).trans e)
  · rw [List.mem_singleton.mp m]
    exact (upd_ne npd).trans upd_same
def sp_laid_in (K : PySem.W.Frag) : Sp0 := fun vs H Q => ∃ (f d : Addr) (start goal : Str) (fs : List (Sgn × Addr)) (bs : List (Rch × V)) (rows : List Sgn) (k : Nat), vs = [.ref f, .ref d, .str start, .str goal] ∧ FAt H f fs ∧ CmAt H d bs ∧
  RowsOk rows ∧ rows.length ≤ 28 ∧ FlOk rows (fs.map (·.1)) start ∧ Flow (fs.map (·.1)) start goal k ∧ Good rows (fs.map (·.1)) start (bs.map (·.1)) ∧ goal ∈ cor (bs.map (·.1)) ∧
  ∀ H' p gs, Same H H' → FAt H' p gs → FlOk rows (gs.map (·.1)) start → Flow (gs.map (·.1)) start goal (k + 1) → Q (.ref p) H'
abbrev n_laid_in : List Str := ["flow", "came", "start", "goal", "found", "corner", "name", "before"]
theorem sc_laid_in : FnScope n_laid_in ["flow", "came", "start", "goal"] (defScope s_laid_in) := ⟨rfl, rfl, rfl, by decide +kernel, rfl, by decide +kernel, by decide +kernel⟩
theorem fn_laid_in (T : Txt K mg) : Fn w K mg base 1 (a_laid_in K) (sp_laid_in K) := by
  refine fn_by (N := n_laid_in) (ps := ["flow", "came", "start", "goal"]) (st := s_laid_in) (T.fn 17 rfl) sc_laid_in (fun _ _ _ _ _ _ us hl => match us, hl with | [_, _, _, _], _ => rfl) (by rintro vs H Q ⟨f, d, start, goal, fs, bs, rows, k, rfl, hf, hd, ok, h28, fok, flo, gd, hg, q⟩; rfl) fun cdv A outer s H vs Q hr h => ?_
  obtain ⟨f, d, start, goal, fs, bs, rows, k, rfl, hf, hd, ok, h28, fok, flo, gd, hg, q⟩ := h
  refine ⟨_, pss_cons (ps_set (i := 4) sc_laid_in.nd rfl (by first | exact .inl rfl | exact .inr rfl) (pe_callTy call_dictD (by rfl) (T.free T.r_f_dict) bb_dict (pa_cons (pv 0) pa_nil)))
  (pss_cons (ps_set (i := 5) sc_laid_in.nd rfl (by first | exact .inl rfl | exact .inr rfl) (pv 3))
  (pss_cons (ps_while PassesOwn.never (pt_cmpR op_ne (pv 5) (pv 2) (by first | rfl | exact nomark _)) (pss_cons (ps_asg (pe_dget (hu_of hr) (pv 1) (pv 5) (fun _ _ => rfl)) (gtup_ K (n := 2) (pgs_cons (pg_name (i := 6) sc_laid_in.nd rfl (by first | exact .inl rfl | exact .inr rfl)) (pgs_cons (pg_name (i := 7) sc_laid_in.nd rfl (by first | exact .inl rfl | exact .inr rfl)) pgs_nil))))
  (pss_cons (ps_if (pt_cmp (pc_din (hu_of hr) (pv 6) (pv 4))) (pss_one (ps_ddel (pv 4) (pv 6))) (pss_one (ps_dput (hu_of hr) (pv 4) (pv 6) (pe_tup (pa_cons (pv 7) (pa_cons (pv 5) pa_nil))) rfl)))
  (pss_one (ps_set (i := 5) sc_laid_in.nd rfl (by first | exact .inl rfl | exact .inr rfl) (pv 7))))))
  (pss_one (ps_ret (pv 4))))), ?_⟩
  refine ⟨_, rfl, f, _, rfl, .inl hf.1, fun p hp => ?_⟩
  refine ⟨_, rfl, ?_⟩
  obtain ⟨m0, _, lay0⟩ := Lay.first gd fok flo hg
  have s0 : Same H (upd H p (.dK (fs.map gS))) := same_upd hp
  refine ⟨fun m σ H1 => ∃ c gs x1 x2, σ = [some (.ref f), some (.ref d), some (.str start), some (.str goal), some (.ref p), some (.str c), x1, x2] ∧ Same H H1 ∧ FAt H1 p gs ∧ Lay rows (fs.map (·.1)) (bs.map (·.1)) start goal k c (gs.map (·.1)) m,
    ⟨m0, goal, fs, _, _, rfl, s0, ⟨upd_same, fun b hb => s0 _ _ (hf.2 b hb)⟩, lay0⟩, ?_⟩
  rintro m σ H1 ⟨c, gs, x1, x2, rfl, s1, hF, lay⟩
  refine ⟨_, rfl, _, rfl, rfl, _, rfl, ?_⟩
  by_cases e : c = start
  · subst e
    rw [decide_eq_true rfl]
    exact iteF ⟨_, rfl, q H1 p gs s1 hF lay.ok lay.bal.flow⟩
  rw [decide_eq_false (fun z => e (V.str.inj z))]
  obtain ⟨n, u, hm, m', hlt, hs⟩ := lay.step ok gd fok e
  obtain ⟨b, hb, eb⟩ := List.mem_map.mp hm
  have hcv := (hd.same s1).2 b hb
  have hnd : (bs.map fun b : Rch × V => b.1.1).Nodup := by
    have := gd.nodup
    rwa [cor, List.map_map] at this
  have hval := valV_of (k := fun b : Rch × V => b.1.1) (v := fun b => b.2) hnd hb
  obtain ⟨⟨bc, bo⟩, bv⟩ := b
  injection eb with eb1 eb2
  have eb1 : bc = c := eb1
  have eb2 : bo = some (n, u) := eb2
  subst eb1 eb2
  obtain ⟨a, ea, e2⟩ := hcv
  have ea : bv = .ref a := ea
  subst ea
  refine ⟨_, fun σ' H' h => ⟨m', hlt, h⟩, ?_⟩
  refine ⟨_, rfl, _, rfl, d, _, rfl, dget_r (.inl (s1 _ _ hd.1)) hval, a, _, rfl, SqT.of e2, rfl, _, _, rfl, _, _, rfl, rfl, ?_⟩
  refine ⟨_, rfl, _, rfl, p, _, rfl, dget_r (.inl hF.1) rfl, _, rfl, ?_⟩
  rw [valV_sg]
  rcases hs with ⟨h1, h2⟩ | ⟨h1, h2⟩
  · rw [h1]
    refine ⟨_, rfl, _, rfl, p, _, .inr n, rfl, hF.1, rfl, by rw [valV_sg]; exact h1, _, rfl, ?_⟩
    rw [drop_gS]
    exact ⟨u, _, _, _, rfl, ST.Same.upd s1 hp, hF.del n, by rw [fst_del]; exact h2⟩
  · rw [h1]
    refine iteF ⟨_, rfl, _, rfl, sz2, fun t ht => ?_⟩
    have e1 := (upd_ne (ne_of_none' ht hF.1).symm (o := .tup [.str u, .str bc])).trans hF.1
    refine ⟨_, rfl, _, rfl, p, _, rfl, .inl ⟨_, .inr n, e1, rfl, ?_, rfl⟩, _, rfl, ?_⟩
    · rw [List.length_map]
      have := lay.ok.len
      rw [List.length_map] at this
      exact Nat.lt_of_le_of_lt (Nat.le_trans this h28) (by decide)
    · exact ⟨u, _, _, _, rfl, ST.Same.upd (s1.trans (same_upd ht)) hp, hF.put ht h1, by rw [List.map_append]; exact h2⟩
end
end ST
end
section
set_option Elab.async false
set_option linter.all false
set_option maxRecDepth 100000
set_option maxHeartbeats 1000000
/-! What is come to beside a flow. -/
namespace ST
open PySem PySem.Spec PyProof.Rows L2 SgO
section
variable {w : World} {K : PySem.W.Frag} {mg : Str → Option Value} {base : Heap}
theorem sh_non : SeqAt.shaped .none = true := by
  simp [SeqAt.shaped, PyData.canLay0, PyData.depth]
theorem eqF {a b : PyData} (h : PyData.eqv a b = false) : PyData.eqv a b = false := h
/-- flow.get(n), to be compared with pairs of texts -/
theorem flow_get {H : Hp} {f : Addr} {fs : List (Sgn × Addr)} (h : PD H f fs) (hn : ((fs.map (·.1)).map (·.1)).Nodup) (nm : ∀ g ∈ fs.map (·.1), Nm g.2.1 ∧ Nm g.2.2) (n : Str) :
    ∃ o : Option V, DGet H f (.str n) o ∧ ∃ pd : PyData, (∀ H', Same H H' → Dp K H' (o.getD .non) pd) ∧ SeqAt.shaped pd = true ∧ ∀ x y, PyData.eqv pd (.tuple ([x, y].map PyData.str)) = decide ((n, x, y) ∈ fs.map (·.1)) := by
  rw [List.map_map] at hn
  cases e : hasS (fs.map (·.1)) n with
  | false =>
    refine ⟨none, dget_r h.1 ?_, .none, fun _ _ => .non, sh_non, fun x y => ?_⟩
    · have := valV_sg (bs := fs) (z := n)
      rw [e] at this
      cases ev : valV (fs.map gS) (.inr n) with
      | none => rfl
      | some v =>
        rw [ev] at this
        cases this
    · rw [eqv_nt, decide_eq_false fun z => hasS_false e _ z rfl]
  | true =>
    obtain ⟨g, hg, eg⟩ := List.any_eq_true.mp e
    obtain ⟨b, hb, rfl⟩ := List.mem_map.mp hg
    have eg : b.1.1 = n := of_decide_eq_true eg
    subst eg
    obtain ⟨n1, n2⟩ := nm b.1 hg
    refine ⟨some (.ref b.2), dget_r h.1 (valV_of (k := fun b : Sgn × Addr => b.1.1) (v := fun b => .ref b.2) hn hb), .tuple ([b.1.2.1, b.1.2.2].map PyData.str), fun H' s => dp_tt (ns := [_, _]) (s _ _ (h.2 b hb)), sh_txts _ (fun m hm => ?_), fun x y => ?_⟩
    · rcases List.mem_cons.mp hm with e | hm
      · exact e ▸ n1
      · rw [List.mem_singleton.mp hm]
        exact n2
    · rw [eqv_tt]
      refine decide_eq_decide.mpr ⟨fun z => ?_, fun z => ?_⟩
      · injection z with z1 z2
        injection z2 with z2 _
        rw [← z1, ← z2]
        exact hg
      · obtain ⟨c, hc, ec⟩ := List.mem_map.mp z
        have e1 : c.1.1 = b.1.1 := by rw [ec]
        have e2 : c = b := by
          obtain ⟨i, hi⟩ := List.mem_iff_getElem?.mp hb
          obtain ⟨j, hj⟩ := List.mem_iff_getElem?.mp hc
          have h1 : (fs.map ((·.1) ∘ (·.1)))[i]? = some b.1.1 := by rw [List.getElem?_map, hi]; rfl
          have h2 : (fs.map ((·.1) ∘ (·.1)))[j]? = some b.1.1 := by rw [List.getElem?_map, hj, ← e1]; rfl
          have := nd_ix hn h1 h2
          subst this
          rw [hi] at hj
          exact (Option.some.inj hj).symm
        rw [e2] at ec
        rw [ec]
/-- while it is looked for: the dict d, the queue q -/
def CT (rows F : List Sgn) (start : Str) (H0 H : Hp) (d q : Addr) (bs : List (Rch × V)) : Prop := Same H0 H ∧ CmAt H d bs ∧ H q = some (.lst ((cor (bs.map (·.1))).map V.str)) ∧ Good rows F start (bs.map (·.1))
theorem CT.add {rows F : List Sgn} {start : Str} {H0 H : Hp} {d q p : Addr} {bs : List (Rch × V)} {n u c : Str} (hd0 : H0 d = none) (hq0 : H0 q = none) (h : CT rows F start H0 H d q bs) (hp : H p = none)
    (hu : u ∈ cor (bs.map (·.1))) (hr : Res rows F n u c) (hc : c ∉ cor (bs.map (·.1))) :
    CT rows F start H0 (upd (upd (upd H p (.tup [.str n, .str u])) d (.dK (putK (bs.map cB) (.inr c) (.ref p)))) q (.lst ((cor (bs.map (·.1))).map V.str ++ [.str c]))) d q (bs ++ [((c, some (n, u)), .ref p)]) := by
  obtain ⟨sm, ⟨h1, h2⟩, h3, gd⟩ := h
  have ndq : d ≠ q := ne_of h1 h3 (fun z => nomatch z)
  have npd : p ≠ d := ne_of_none' hp h1
  have npq : p ≠ q := ne_of_none' hp h3
  have hv : valV (bs.map cB) (.inr c) = none := by
    have := valV_cm (bs := bs) (z := c)
    rw [decide_eq_false hc] at this
    cases e : valV (bs.map cB) (.inr c) with
    | none => rfl
    | some v =>
      rw [e] at this
      cases this
  refine ⟨ST.Same.upd (ST.Same.upd (sm.trans (same_upd hp)) hd0) hq0, ⟨?_, fun b hb => ?_⟩, ?_, ?_⟩
  · rw [upd_ne ndq, upd_same, putK_new _ hv, List.map_append]
    rfl
  · have tup : ∀ x xs, H x = some (.tup xs) → upd (upd (upd H p (.tup [.str n, .str u])) d (.dK (putK (bs.map cB) (.inr c) (.ref p)))) q (.lst ((cor (bs.map (·.1))).map V.str ++ [.str c])) x = some (.tup xs) := fun x xs e =>
      (upd_ne (ne_of e h3 (fun z => nomatch z))).trans ((upd_ne (ne_of e h1 (fun z => nomatch z))).trans ((upd_ne (ne_of_none e hp)).trans e))
    rcases List.mem_append.mp hb with m | m
    · exact (h2 b m).same tup
    · rw [List.mem_singleton.mp m]
      exact ⟨p, rfl, (upd_ne npq).trans ((upd_ne npd).trans upd_same)⟩
  · rw [upd_same, List.map_append, cor, cor, List.map_append, List.map_append]
    rfl
  · rw [List.map_append]
    exact .add gd hu hr hc
def Dn (rows F : List Sgn) (pm : List Rch) (k : Nat) : Prop := ∀ j z, j < k → (cor pm)[j]? = some z → ∀ r ∈ rows, Clo F pm z r
theorem Dn.more {rows F : List Sgn} {pm : List Rch} {k : Nat} (h : Dn rows F pm k) (hk : k ≤ pm.length) (e : Rch) : Dn rows F (pm ++ [e]) k := fun j z hj hz r hr => by
  rw [cor, List.map_append, List.getElem?_append_left (by rw [List.length_map]; omega)] at hz
  exact (h j z hj hz r hr).more e
def sp_come_to (K : PySem.W.Frag) : Sp0 := fun vs H Q => ∃ (r f : Addr) (start : Str) (as : List (Sgn × Addr)) (fs : List (Sgn × Addr)), vs = [.ref r, .ref f, .str start] ∧ RowsAt H r as ∧ PD H f fs ∧ as.length ≤ 28 ∧ RowsOk (as.map (·.1)) ∧ (∀ g ∈ as.map (·.1), Nm g.2.1 ∧ Nm g.2.2) ∧ FlOk (as.map (·.1)) (fs.map (·.1)) start ∧
  ∀ H' d bs, Same H H' → CmAt H' d bs → Good (as.map (·.1)) (fs.map (·.1)) start (bs.map (·.1)) → (∀ u ∈ cor (bs.map (·.1)), ∀ r ∈ as.map (·.1), Clo (fs.map (·.1)) (bs.map (·.1)) u r) → Q (.ref d) H'
abbrev n_come_to : List Str := ["rows", "flow", "start", "came", "queue", "at", "corner", "name", "tail", "head"]
theorem sc_come_to : FnScope n_come_to ["rows", "flow", "start"] (defScope s_come_to) := ⟨rfl, rfl, rfl, by decide +kernel, rfl, by decide +kernel, by decide +kernel⟩
theorem fn_come_to (T : Txt K mg) : Fn w K mg base 1 (a_come_to K) (sp_come_to K) := by
  refine fn_by (N := n_come_to) (ps := ["rows", "flow", "start"]) (st := s_come_to) (T.fn 16 rfl) sc_come_to (fun _ _ _ _ _ _ us hl => match us, hl with | [_, _, _], _ => rfl) (by rintro vs H Q ⟨r, f, start, as, fs, rfl, hr', hf, h28, rok, nmr, fok, qq⟩; rfl) fun cdv A outer s H vs Q hr h => ?_
  obtain ⟨r, f, start, as, fs, rfl, hr', hf, h28, rok, nmr, fok, qq⟩ := h
  refine ⟨_, pss_cons (ps_set (i := 3) sc_come_to.nd rfl (by first | exact .inl rfl | exact .inr rfl) (pe_disp (pps_cons (pv 2) pe_non pps_nil) (by rfl) (by rfl) (fun z => by cases z) (by decide)))
  (pss_cons (ps_set (i := 4) sc_come_to.nd rfl (by first | exact .inl rfl | exact .inr rfl) (pe_lst (pa_cons (pv 2) pa_nil)))
  (pss_cons (ps_set (i := 5) sc_come_to.nd rfl (by first | exact .inl rfl | exact .inr rfl) (pe_int))
  (pss_cons (ps_while PassesOwn.never (pt_cmpR op_lt (pv 5) (pe_callB (lenQ_ K) (by rfl) (T.free T.r_f_len) bb_len (pa_cons (pv 4) pa_nil)) (by first | rfl | exact nomark _)) (pss_cons (ps_set (i := 6) sc_come_to.nd rfl (by first | exact .inl rfl | exact .inr rfl) (pe_ix (ixL_ K) (pv 4) (pv 5) (fun _ _ => rfl)))
  (pss_cons (ps_aug (i := 5) sc_come_to.nd rfl (by first | exact .inl rfl | exact .inr rfl) pe_int ip_add)
  (pss_one (ps_for PassesOwn.never rfl (piL_ K (pv 0)) (gtup_ K (n := 3) (pgs_cons (pg_name (i := 7) sc_come_to.nd rfl (by first | exact .inl rfl | exact .inr rfl)) (pgs_cons (pg_name (i := 8) sc_come_to.nd rfl (by first | exact .inl rfl | exact .inr rfl)) (pgs_cons (pg_name (i := 9) sc_come_to.nd rfl (by first | exact .inl rfl | exact .inr rfl)) pgs_nil)))) (pss_cons (ps_if (PW.pt (pw_and (pt_cmpR op_eq (pv 8) (pv 6) (by first | rfl | exact nomark _)) (pw_and (pt_cmp (pc_dnotin (hu_of hr) (pv 9) (pv 3))) (pw_and1 (pt_cmp (pc_dnotin (hu_of hr) (pv 7) (pv 1))))))) (pss_cons (ps_dput (hu_of hr) (pv 3) (pv 9) (pe_tup (pa_cons (pv 7) (pa_cons (pv 6) pa_nil))) rfl)
  (pss_one (ps_expr (bm_ K PySem.F.plainAttrs_list PySem.F.slot_list_append PySem.F.type_list_append mt_append (pv 4) (pa_cons (pv 9) pa_nil))))) (pss_nil))
  (pss_one (ps_if (PW.pt (pw_and (pt_cmpR op_eq (pv 9) (pv 6) (by first | rfl | exact nomark _)) (pw_and (pt_cmp (pc_dnotin (hu_of hr) (pv 8) (pv 3))) (pw_and1 (pt_cmpR (eqD_ K hr.units) (pe_dget1 (hu_of hr) (pv 1) (pv 7) ⟨rfl, rfl, rfl, rfl⟩) (pe_tup (pa_cons (pv 8) (pa_cons (pv 9) pa_nil))) (by first | rfl | exact nomark _)))))) (pss_cons (ps_dput (hu_of hr) (pv 3) (pv 8) (pe_tup (pa_cons (pv 7) (pa_cons (pv 6) pa_nil))) rfl)
  (pss_one (ps_expr (bm_ K PySem.F.plainAttrs_list PySem.F.slot_list_append PySem.F.type_list_append mt_append (pv 4) (pa_cons (pv 8) pa_nil))))) (pss_nil)))))))))
  (pss_one (ps_ret (pv 3)))))), ?_⟩
  refine fun d hd => ⟨_, rfl, upd_same, [(.inr start, .non)], rfl, (show 1 ≤ 15 by decide), ?_⟩
  refine ⟨_, rfl, sz1, fun q hq => ?_⟩
  have ndq : d ≠ q := fun e => by rw [← e, upd_same] at hq; cases hq
  have hq0 : H q = none := by rw [upd_ne ndq.symm, upd_ne ndq.symm] at hq; exact hq
  have ct0 : CT (as.map (·.1)) (fs.map (·.1)) start H (upd (upd (upd H d (.dK [])) d (.dK (mergeK [] [(.inr start, .non)]))) q (.lst [.str start])) d q [((start, none), .non)] :=
    ⟨ST.Same.upd (ST.Same.upd (same_upd hd) hd) hq0, ⟨(upd_ne ndq).trans upd_same, fun b hb => by rw [List.mem_singleton.mp hb]; exact rfl⟩, upd_same, .one⟩
  generalize upd (upd (upd H d (.dK [])) d (.dK (mergeK [] [(.inr start, .non)]))) q (.lst [.str start]) = H1 at ct0
  clear hq
  have nmF : ∀ g ∈ fs.map (·.1), Nm g.2.1 ∧ Nm g.2.2 := fun g hg => nmr g (fok.sub g hg)
  have lenR : (as.map (·.1)).length ≤ 28 := by rw [List.length_map]; exact h28
  refine ⟨fun m σ H1 => ∃ bs k x6 x7 x8 x9, σ = [some (.ref r), some (.ref f), some (.str start), some (.ref d), some (.ref q), some (.int (k : Nat)), x6, x7, x8, x9] ∧ CT (as.map (·.1)) (fs.map (·.1)) start H H1 d q bs ∧ Dn (as.map (·.1)) (fs.map (·.1)) (bs.map (·.1)) k ∧ k ≤ bs.length ∧ m = 57 - k,
    ⟨57, _, 0, _, _, _, _, rfl, ct0, fun j z hj => absurd hj (Nat.not_lt_zero _), Nat.zero_le _, rfl⟩, ?_⟩
  rintro m σ H2 ⟨bs, k, x6, x7, x8, x9, rfl, ct, dn, hk, rfl⟩
  have hlq := ct.2.2.1
  have hbl : bs.length ≤ 57 := by
    have := ct.2.2.2.len
    rw [List.length_map] at this
    omega
  have hcl : ((cor (bs.map (·.1))).map V.str).length = bs.length := by simp [cor]
  refine ⟨_, rfl, _, rfl, q, _, rfl, .inl (SqL.of hlq), _, _, rfl, rfl, _, rfl, ?_⟩
  rw [hcl]
  by_cases hlt : k < bs.length
  rotate_left
  · rw [decide_eq_false (show ¬ (k : Int) < (bs.length : Int) by omega)]
    refine iteF ⟨_, rfl, qq H2 d bs ct.1 ct.2.1 ct.2.2.2 fun u hu r hr => ?_⟩
    obtain ⟨j, hj⟩ := List.mem_iff_getElem?.mp hu
    have := (List.getElem?_eq_some_iff.mp hj).1
    exact dn j u (by simp [cor] at this; omega) hj r hr
  rw [decide_eq_true (show (k : Int) < (bs.length : Int) by omega)]
  obtain ⟨u, hu⟩ : ∃ u, (cor (bs.map (·.1)))[k]? = some u := ⟨_, List.getElem?_eq_getElem (by simp [cor]; exact hlt)⟩
  refine ⟨_, fun σ' H' h => ⟨57 - (k + 1), by omega, h⟩, ?_⟩
  refine ⟨_, rfl, _, rfl, q, _, _, .str u, rfl, rfl, SqL.of hlq, atI_nat (by rw [List.getElem?_map, hu]; rfl), ?_⟩
  refine ⟨_, rfl, _, _, rfl, rfl, ?_⟩
  refine ⟨_, rfl, r, rfl, ⟨_, SqL.of (ct.1 _ _ hr'.1)⟩, ?_⟩
  refine for_c (as := as) (c := fun a => .ref a.2) src_l (fun i σ H3 => ∃ bs x7 x8 x9, σ = [some (.ref r), some (.ref f), some (.str start), some (.ref d), some (.ref q), some (.int ((k : Nat) + 1)), some (.str u), x7, x8, x9] ∧ CT (as.map (·.1)) (fs.map (·.1)) start H H3 d q bs ∧ Dn (as.map (·.1)) (fs.map (·.1)) (bs.map (·.1)) k ∧ k < bs.length ∧ (cor (bs.map (·.1)))[k]? = some u ∧ ∀ a ∈ as.take i, Clo (fs.map (·.1)) (bs.map (·.1)) u a.1)
    ⟨bs, _, _, _, rfl, ct, dn, hlt, hu, fun a ha => by cases ha⟩ (fun i σ H3 _ ⟨_, _, _, _, _, h, _⟩ => SqL.of (h.1 _ _ hr'.1)) (fun i b σ H3 hb ⟨bs, y7, y8, y9, e, ct, dn, hlt, hu, cl⟩ => ?_) fun σ H3 ⟨bs, y7, y8, y9, e, ct, dn, hlt, hu, cl⟩ => ?_
  rotate_left
  · subst e
    rw [List.take_length] at cl
    refine ⟨bs, k + 1, _, _, _, _, rfl, ct, fun j z hj hz r hr => ?_, hlt, rfl⟩
    by_cases ej : j = k
    · subst ej
      rw [hu] at hz
      cases hz
      obtain ⟨a, ha, rfl⟩ := List.mem_map.mp hr
      exact cl a ha
    · exact dn j z (by omega) hz r hr
  subst e
  clear hlq hbl hcl hk
  have hb' := List.mem_of_getElem? hb
  have hbr : b.1 ∈ as.map (·.1) := List.mem_map.mpr ⟨b, hb', rfl⟩
  have e3 := ct.1 _ _ (hr'.2 b hb')
  have hum : u ∈ cor (bs.map (·.1)) := List.mem_of_getElem? hu
  obtain ⟨⟨n, t, h⟩, ba⟩ := b
  have neth : t ≠ h := rok.ne _ hbr
  have lenb : ∀ bs : List (Rch × V), Good (as.map (·.1)) (fs.map (·.1)) start (bs.map (·.1)) → bs.length < sizeLine := fun bs g => by
    have := g.len
    rw [List.length_map] at this
    exact Nat.lt_of_le_of_lt (show bs.length ≤ 57 by omega) (by decide)
  have tk : ∀ a ∈ as.take (i + 1), a ∈ as.take i ∨ a = ((n, t, h), ba) := fun a ha => by
    rw [List.take_add_one, hb] at ha
    rcases List.mem_append.mp ha with m | m
    · exact .inl m
    · exact .inr (List.mem_singleton.mp m)
  have inS : ∀ (bs : List (Rch × V)) (e : Rch × V), k < bs.length → (cor (bs.map (·.1)))[k]? = some u → (cor ((bs ++ [e]).map (·.1)))[k]? = some u := fun bs e hk hu => by
    rw [List.map_append, cor, List.map_append, List.getElem?_append_left (by simp; exact hk)]
    exact hu
  have clS : ∀ (bs : List (Rch × V)) (e : Rch × V) a, Clo (fs.map (·.1)) (bs.map (·.1)) u a → Clo (fs.map (·.1)) ((bs ++ [e]).map (·.1)) u a := fun bs e a c => by
    rw [List.map_append]
    exact c.more _
  have mS : ∀ (bs : List (Rch × V)) (c : Str) (o : Option (Str × Str)) (v : V), c ∈ cor ((bs ++ [((c, o), v)]).map (·.1)) := fun bs c o v => by
    rw [List.map_append, cor, List.map_append]
    exact List.mem_append_right _ (by simp)
  have dnS : ∀ (bs : List (Rch × V)) (e : Rch × V), k < bs.length → Dn (as.map (·.1)) (fs.map (·.1)) (bs.map (·.1)) k → Dn (as.map (·.1)) (fs.map (·.1)) ((bs ++ [e]).map (·.1)) k := fun bs e hk dn => by
    rw [List.map_append]
    exact dn.more (by rw [List.length_map]; omega) _
  refine ⟨ba, _, rfl, SqT.of e3, rfl, _, _, rfl, _, _, rfl, _, _, rfl, rfl, ?_⟩
  by_cases hA : t = u ∧ h ∉ cor (bs.map (·.1)) ∧ hasS (fs.map (·.1)) n = false
  · obtain ⟨rfl, hA2, hA3⟩ := hA
    refine ⟨_, rfl, _, rfl, rfl, _, rfl, ?_⟩
    rw [decide_eq_true rfl]
    refine ⟨_, rfl, _, rfl, d, _, rfl, dget_r (.inl ct.2.1.1) rfl, _, rfl, ?_⟩
    rw [valV_cm, decide_eq_false hA2]
    refine ⟨_, rfl, _, rfl, f, _, rfl, dget_r (hf.sees (sees_same ct.1)).1 rfl, _, rfl, ?_⟩
    rw [valV_sg, hA3]
    refine ⟨_, rfl, _, rfl, sz2, fun p hp => ?_⟩
    have e1 := (upd_ne (ne_of_none' hp ct.2.1.1).symm (o := .tup [.str n, .str t])).trans ct.2.1.1
    refine ⟨_, rfl, _, rfl, d, _, rfl, .inl ⟨_, .inr h, e1, rfl, ?_, rfl⟩, ?_⟩
    · rw [List.length_map]
      exact lenb bs ct.2.2.2
    have ndq : q ≠ d := ne_of ct.2.2.1 ct.2.1.1 (fun z => nomatch z)
    have e2 := (upd_ne ndq (o := .dK (putK (bs.map cB) (.inr h) (.ref p)))).trans ((upd_ne (ne_of_none' hp ct.2.2.1).symm (o := .tup [.str n, .str t])).trans ct.2.2.1)
    refine ⟨_, rfl, .inl ⟨rfl, _, SqL.of e2⟩, _, rfl, q, _, _, rfl, rfl, e2, ?_, ?_⟩
    · rw [List.length_map, cor, List.length_map, List.length_map]
      exact lenb bs ct.2.2.2
    have ct' := CT.add hd hq0 ct hp hum (.inl ⟨hbr, hA3⟩) hA2
    refine ⟨_, rfl, _, rfl, rfl, _, rfl, ?_⟩
    rw [decide_eq_false (fun z => neth (V.str.inj z).symm)]
    refine iteF (iteF ?_)
    refine ⟨_, _, _, _, rfl, ct', dnS _ _ hlt dn, by rw [List.length_append]; omega, inS _ _ hlt hu, fun a ha => ?_⟩
    rcases tk a ha with m | rfl
    · exact clS _ _ _ (cl a m)
    · exact ⟨fun _ _ => mS _ _ _ _, fun e => absurd e.symm neth⟩
  have hc1 : t = u → hasS (fs.map (·.1)) n = false → h ∈ cor (bs.map (·.1)) := fun e1 e2 => Classical.byContradiction fun z => hA ⟨e1, z, e2⟩
  refine ⟨_, rfl, _, rfl, rfl, _, rfl, ?_⟩
  refine Classical.byCases (fun e1 : t = u => ?a) (fun e1 : ¬ t = u => ?b)
  case' b =>
    rw [decide_eq_false (fun z => e1 (V.str.inj z))]
    refine iteF (iteF ?c1)
  case' a =>
    rw [decide_eq_true (congrArg V.str e1)]
    refine ⟨_, rfl, _, rfl, d, _, rfl, dget_r (.inl ct.2.1.1) rfl, _, rfl, ?_⟩
    rw [valV_cm]
    refine Classical.byCases (fun e2 : h ∈ cor (bs.map (·.1)) => ?a1) (fun e2 : ¬ h ∈ cor (bs.map (·.1)) => ?a2)
  case' a1 =>
    rw [decide_eq_true e2]
    refine iteF (iteF ?c2)
  case' a2 =>
    rw [decide_eq_false e2]
    refine ⟨_, rfl, _, rfl, f, _, rfl, dget_r (hf.sees (sees_same ct.1)).1 rfl, _, rfl, ?_⟩
    rw [valV_sg, (show hasS (fs.map (·.1)) n = true by cases eh : hasS (fs.map (·.1)) n with | true => rfl | false => exact absurd (hc1 e1 eh) e2)]
    refine iteF ?c3
  all_goals
    refine ⟨_, rfl, _, rfl, rfl, _, rfl, ?_⟩
    by_cases f1 : h = u
    · rw [decide_eq_true (congrArg V.str f1)]
      refine ⟨_, rfl, _, rfl, d, _, rfl, dget_r (.inl ct.2.1.1) rfl, _, rfl, ?_⟩
      rw [valV_cm]
      by_cases f2 : t ∈ cor (bs.map (·.1))
      · rw [decide_eq_true f2]
        refine iteF (iteF ?_)
        refine ⟨_, _, _, _, rfl, ct, dn, hlt, hu, fun a ha => ?_⟩
        rcases tk a ha with m | rfl
        · exact cl a m
        · exact ⟨hc1, fun _ _ => f2⟩
      · rw [decide_eq_false f2]
        obtain ⟨o, ho, pd, hpd1, hpd2, hpd3⟩ := flow_get (K := K) (hf.sees (sees_same ct.1)) fok.nd nmF n
        refine ⟨_, rfl, f, rfl, .inl ⟨_, (hf.sees (sees_same ct.1)).1⟩, _, rfl, o, ho, _, rfl, _, rfl, sz2, fun p2 hp2 => ?_⟩
        have s2 := same_upd (o := .tup [.str t, .str h]) hp2
        have sm2 := ct.1.trans s2
        have ct2 : CT (as.map (·.1)) (fs.map (·.1)) start H (upd _ p2 (.tup [.str t, .str h])) d q bs := ⟨sm2, ct.2.1.same s2, s2 _ _ ct.2.2.1, ct.2.2.2⟩
        refine ⟨pd, _, hpd1 _ s2, dp_tt (ns := [t, h]) upd_same, hpd2, sh_txts _ (fun m hm => ?_), _, rfl, ?_⟩
        · obtain ⟨m1, m2⟩ := nmr _ hbr
          rcases List.mem_cons.mp hm with e | hm
          · exact e ▸ m1
          · rw [List.mem_singleton.mp hm]
            exact m2
        rw [hpd3]
        by_cases f3 : (n, t, h) ∈ fs.map (·.1)
        · rw [decide_eq_true f3]
          subst f1
          refine ⟨_, rfl, _, rfl, sz2, fun p hp => ?_⟩
          have g1 := (upd_ne (ne_of_none' hp ct2.2.1.1).symm (o := .tup [.str n, .str h])).trans ct2.2.1.1
          refine ⟨_, rfl, _, rfl, d, _, rfl, .inl ⟨_, .inr t, g1, rfl, ?_, rfl⟩, ?_⟩
          · rw [List.length_map]
            exact lenb bs ct.2.2.2
          have ndq : q ≠ d := ne_of ct.2.2.1 ct.2.1.1 (fun z => nomatch z)
          have g2 := (upd_ne ndq (o := .dK (putK (bs.map cB) (.inr t) (.ref p)))).trans ((upd_ne (ne_of_none' hp ct2.2.2.1).symm (o := .tup [.str n, .str h])).trans ct2.2.2.1)
          refine ⟨_, rfl, .inl ⟨rfl, _, SqL.of g2⟩, _, rfl, q, _, _, rfl, rfl, g2, ?_, ?_⟩
          · rw [List.length_map, cor, List.length_map, List.length_map]
            exact lenb bs ct.2.2.2
          have ct' := CT.add hd hq0 ct2 hp hum (.inr ⟨hbr, f3⟩) f2
          refine ⟨_, _, _, _, rfl, ct', dnS _ _ hlt dn, by rw [List.length_append]; omega, inS _ _ hlt hu, fun a ha => ?_⟩
          rcases tk a ha with m | rfl
          · exact clS _ _ _ (cl a m)
          · exact ⟨fun e => absurd e neth, fun _ _ => mS _ _ _ _⟩
        · rw [decide_eq_false f3]
          refine iteF ?_
          refine ⟨_, _, _, _, rfl, ct2, dn, hlt, hu, fun a ha => ?_⟩
          rcases tk a ha with m | rfl
          · exact cl a m
          · exact ⟨hc1, fun _ z => absurd z f3⟩
    · rw [decide_eq_false (fun z => f1 (V.str.inj z))]
      refine iteF (iteF ?_)
      refine ⟨_, _, _, _, rfl, ct, dn, hlt, hu, fun a ha => ?_⟩
      rcases tk a ha with m | rfl
      · exact cl a m
      · exact ⟨hc1, fun e => absurd e f1⟩
end
end ST
end
section
set_option Elab.async false
set_option linter.all false
set_option maxRecDepth 100000
set_option maxHeartbeats 1000000
/-! The walks of a flow. -/
namespace ST
open PySem PySem.Spec PyProof.Rows L2 SgO
section
variable {w : World} {K : PySem.W.Frag} {mg : Str → Option Value} {base : Heap}
theorem mem_fst {fs : List (Sgn × Addr)} {g : Sgn} (h : g ∈ fs.map (·.1)) : ∃ b ∈ fs, b.1 = g := let ⟨b, h1, h2⟩ := List.mem_map.mp h; ⟨b, h1, h2⟩
theorem outN_map {fs : List (Sgn × Addr)} {v : Str} : (fs.filter fun b => decide (b.1.2.1 = v)).length = outN (fs.map (·.1)) v := by
  unfold outN
  rw [List.filter_map, List.length_map]
  rfl
def sp_walks_in (K : PySem.W.Frag) : Sp0 := fun vs H Q => ∃ (r f : Addr) (start goal : Str) (as fs : List (Sgn × Addr)) (k : Nat), vs = [.ref r, .ref f, .str start, .str goal] ∧ RowsAt H r as ∧ FAt H f fs ∧ as.length ≤ 28 ∧ RowsOk (as.map (·.1)) ∧ (∀ g ∈ as.map (·.1), Nm g.2.1 ∧ Nm g.2.2) ∧
  FlOk (as.map (·.1)) (fs.map (·.1)) start ∧ Flow (fs.map (·.1)) start goal k ∧ start ≠ goal ∧ ∀ H' p ws, Same H H' → WalksAt H' p ws → ws.length = k → Bun (as.map (·.1)) start goal (ws.map (·.1)) → Q (.ref p) H'
abbrev n_walks_in : List Str := ["rows", "flow", "start", "goal", "left", "many", "walks", "number", "walk", "corner", "name", "head", "row"]
theorem sc_walks_in : FnScope n_walks_in ["rows", "flow", "start", "goal"] (defScope s_walks_in) := ⟨rfl, rfl, rfl, by decide +kernel, rfl, by decide +kernel, by decide +kernel⟩
theorem fn_walks_in (T : Txt K mg) : Fn w K mg base 1 (a_walks_in K) (sp_walks_in K) := by
  refine fn_by (N := n_walks_in) (ps := ["rows", "flow", "start", "goal"]) (st := s_walks_in) (T.fn 18 rfl) sc_walks_in (fun _ _ _ _ _ _ us hl => match us, hl with | [_, _, _, _], _ => rfl) (by rintro vs H Q ⟨r, f, start, goal, as, fs, k, rfl, hr', hf, h28, rok, nmr, fok, flo, ne, qq⟩; rfl) fun cdv A outer s H vs Q hr h => ?_
  obtain ⟨r, f, start, goal, as, fs, k, rfl, hr', hf, h28, rok, nmr, fok, flo, ne, qq⟩ := h
  refine ⟨_, pss_cons (ps_set (i := 4) sc_walks_in.nd rfl (by first | exact .inl rfl | exact .inr rfl) (pe_callTy call_dictD (by rfl) (T.free T.r_f_dict) bb_dict (pa_cons (pv 1) pa_nil)))
  (pss_cons (ps_set (i := 5) sc_walks_in.nd rfl (by first | exact .inl rfl | exact .inr rfl) (pe_callB (lenQ_ K) (by rfl) (T.free T.r_f_len) bb_len (pa_cons (pe_lock (pe_lc (own := [("name", 10)]) rfl sc_walks_in.nd (pi_keys (pv 4)) (blkOk_by (own := [("name", 10)]) (N := n_walks_in) (sc := defScope s_walks_in) (by decide +kernel)) (fun _ _ _ _ _ => pg_name (i := 10) sc_walks_in.nd rfl (by first | exact .inl rfl | exact .inr rfl)) (fun _ _ _ _ _ => pts_one (pt_cmpR op_eq (pe_ix (ixT_ K) (pe_dget (hu_of hr) (pv 4) (pv 10) (fun _ _ => rfl)) pe_int (fun _ _ => rfl)) (pv 2) (by first | rfl | exact nomark _))) (fun _ _ _ _ _ => pv 10))) pa_nil)))
  (pss_cons (ps_set (i := 6) sc_walks_in.nd rfl (by first | exact .inl rfl | exact .inr rfl) (pe_lst pa_nil))
  (pss_cons (ps_for PassesOwn.never rfl (pi_range1 (by rfl) (T.free T.r_f_range) (pa_cons (pv 5) pa_nil)) (pg_name (i := 7) sc_walks_in.nd rfl (by first | exact .inl rfl | exact .inr rfl)) (pss_cons (ps_set (i := 8) sc_walks_in.nd rfl (by first | exact .inl rfl | exact .inr rfl) (pe_lst pa_nil))
  (pss_cons (ps_set (i := 9) sc_walks_in.nd rfl (by first | exact .inl rfl | exact .inr rfl) (pv 2))
  (pss_cons (ps_while PassesOwn.never (pt_cmpR op_ne (pv 9) (pv 3) (by first | rfl | exact nomark _)) (pss_cons (ps_asg (pe_ix (ixL_ K) (pe_lc (own := [("row", 12)]) rfl sc_walks_in.nd (piL_ K (pv 0)) (blkOk_by (own := [("row", 12)]) (N := n_walks_in) (sc := defScope s_walks_in) (by decide +kernel)) (fun _ _ _ _ _ => pg_name (i := 12) sc_walks_in.nd rfl (by first | exact .inl rfl | exact .inr rfl)) (fun _ _ _ _ _ => pts_one (pt_cmpR (eqD_ K hr.units) (pe_dget1 (hu_of hr) (pv 4) (pe_ix (ixT_ K) (pv 12) pe_int (fun _ _ => rfl)) ⟨rfl, rfl, rfl, rfl⟩) (pe_tup (pa_cons (pv 9) (pa_cons (pe_ix (ixT_ K) (pv 12) pe_int (fun _ _ => rfl)) pa_nil))) (by first | rfl | exact nomark _))) (fun _ _ _ _ _ => pe_tup (pa_cons (pe_ix (ixT_ K) (pv 12) pe_int (fun _ _ => rfl)) (pa_cons (pe_ix (ixT_ K) (pv 12) pe_int (fun _ _ => rfl)) pa_nil)))) pe_int (fun _ _ => rfl)) (gtup_ K (n := 2) (pgs_cons (pg_name (i := 10) sc_walks_in.nd rfl (by first | exact .inl rfl | exact .inr rfl)) (pgs_cons (pg_name (i := 11) sc_walks_in.nd rfl (by first | exact .inl rfl | exact .inr rfl)) pgs_nil))))
  (pss_cons (ps_expr (bm_ K PySem.F.plainAttrs_list PySem.F.slot_list_append PySem.F.type_list_append mt_append (pv 8) (pa_cons (pv 10) pa_nil)))
  (pss_cons (ps_set (i := 9) sc_walks_in.nd rfl (by first | exact .inl rfl | exact .inr rfl) (pv 11))
  (pss_one (ps_ddel (pv 4) (pv 10)))))))
  (pss_one (ps_expr (bm_ K PySem.F.plainAttrs_list PySem.F.slot_list_append PySem.F.type_list_append mt_append (pv 6) (pa_cons (pe_callTy (tupOf_ K) (by rfl) (T.free T.r_f_tuple) bb_tuple (pa_cons (pv 8) pa_nil)) pa_nil))))))))
  (pss_one (ps_ret (pe_callTy (tupOf_ K) (by rfl) (T.free T.r_f_tuple) bb_tuple (pa_cons (pv 6) pa_nil))))))), ?_⟩
  refine ⟨_, rfl, f, _, rfl, .inl hf.1, fun L hL => ?_⟩
  have f28 : fs.length ≤ 28 := by
    have := fok.len
    rw [List.length_map, List.length_map] at this
    omega
  have ko : outN (fs.map (·.1)) start = k := flo.out ne fok
  have k28 : k ≤ 28 := by
    rw [← ko, ← outN_map]
    exact Nat.le_trans (List.length_filter_le _ _) f28
  have s1 : Same H (upd H L (.dK (fs.map gS))) := same_upd hL
  have hF1 : FAt (upd H L (.dK (fs.map gS))) L fs := ⟨upd_same, fun b hb => s1 _ _ (hf.2 b hb)⟩
  generalize upd H L (.dK (fs.map gS)) = H1 at s1 hF1
  have hnd : (fs.map fun b : Sgn × Addr => b.1.1).Nodup := by
    have := fok.nd
    rwa [List.map_map] at this
  refine ⟨L, _, hF1.1, trivial, fun od => ?_⟩
  refine ⟨_, rfl, L, od, rfl, .inl ⟨_, upd_same, fun D hD => ?_⟩⟩
  refine lc_pure (as := fs) (c := fun b => .str b.1.1) (src_km (g := gS)) (fun b => decide (b.1.2.1 = start)) (fun b => .str b.1.1) hD (fun H2 sm => sm _ _ upd_same) (Nat.lt_of_le_of_lt f28 (by decide)) (fun i b H2 Kt Kf hb sm k1 k2 => ?_) fun H2 s2 hl => ?_
  · have hb' := List.mem_of_getElem? hb
    refine ⟨rfl, _, rfl, _, rfl, L, _, rfl, dget_r (.inr ⟨od, sm _ _ upd_same⟩) (valV_of (k := fun b : Sgn × Addr => b.1.1) (v := fun b => .ref b.2) hnd hb'), _, _, _, _, rfl, rfl, SqT.of (sm _ _ (thru hF1.1 (hF1.2 b hb') (fun z => nomatch z))), rfl, ?_⟩
    refine ⟨_, rfl, rfl, _, rfl, ?_⟩
    by_cases e : b.1.2.1 = start
    · rw [decide_eq_true (congrArg V.str e)]
      exact ⟨_, rfl, k1 H2 (decide_eq_true e) (Same.refl _)⟩
    · rw [decide_eq_false (fun z => e (V.str.inj z))]
      exact iteF (k2 H2 (decide_eq_false e) (Same.refl _))
  have nD : D ≠ L := fun e => by rw [e, upd_same] at hD; cases hD
  refine ⟨s2 _ _ upd_same, D, _, rfl, .inl (SqL.of ((upd_ne nD).trans hl)), ?_⟩
  rw [List.length_map, outN_map, ko]
  have s3 := s1.trans (unlock_same hF1.1 s2)
  have hF2 : FAt (upd H2 L (.dK (fs.map gS))) L fs := hF1.same (unlock_same hF1.1 s2)
  generalize upd H2 L (.dK (fs.map gS)) = H3 at s3 hF2
  clear hl s2 hD nD hF1 s1
  refine ⟨sz0, fun W hW => ?_⟩
  have hW0 := s3.free hW
  have s4 := s3.trans (same_upd (o := .lst []) hW)
  have hF4 := hF2.same (same_upd (o := .lst []) hW)
  have hW4 : upd H3 W (.lst []) W = some (.lst []) := upd_same
  generalize upd H3 W (.lst []) = H4 at s4 hF4 hW4
  clear hF2 s3 hW
  refine ⟨_, rfl, (k : Nat), rfl, by omega, by omega, ?_⟩
  rw [Int.toNat_natCast]
  refine for_c (as := List.range k) (c := fun i => .int (0 + (i : Nat))) (by have z := src_r (n := k) (lo := 0); exact z) (fun j σ H5 => ∃ ls ws x7 x8 x9 x10 x11 x12, σ = [some (.ref r), some (.ref f), some (.str start), some (.str goal), some (.ref L), some (.int (k : Nat)), some (.ref W), x7, x8, x9, x10, x11, x12] ∧
      Same H H5 ∧ FAt H5 L ls ∧ ls.length ≤ 28 ∧ H5 W = some (.lst (ws.map fun b : List Str × Addr => V.ref b.2)) ∧ (∀ b ∈ ws, txts H5 b.2 b.1) ∧ ws.length = j ∧ Lf0 (as.map (·.1)) (ls.map (·.1)) start goal (k - j) (ws.map (·.1)))
    ⟨fs, [], _, _, _, _, _, _, rfl, s4, hF4, f28, hW4, fun _ z => (nomatch z), rfl, Lf0.first fok flo⟩ (fun _ _ _ _ _ => trivial) (fun j jj σ H5 hj ⟨ls, ws, x7, x8, x9, x10, x11, x12, e, sm, hF, l28, hWl, hws, hlen, lf⟩ => ?_) fun σ H5 ⟨ls, ws, x7, x8, x9, x10, x11, x12, e, sm, hF, l28, hWl, hws, hlen, lf⟩ => ?_
  rotate_left
  · subst e
    rw [List.length_range] at hlen
    refine ⟨_, rfl, W, _, rfl, .inl ⟨SqL.of hWl, fun tp htp => ?_⟩⟩
    exact qq _ tp ws (sm.trans (same_upd htp)) ⟨upd_same, fun b hb => same_upd htp _ _ (hws b hb)⟩ hlen lf.done
  subst e
  have hjk : j < k := by
    have := (List.getElem?_eq_some_iff.mp hj).1
    rwa [List.length_range] at this
  obtain ⟨m, hm⟩ : ∃ m, k - j = m + 1 := ⟨k - j - 1, by omega⟩
  have hm' : k - (j + 1) = m := by omega
  rw [hm] at lf
  refine ⟨sz0, fun wk hwk => ?_⟩
  have hwk0 := sm.free hwk
  have nW : W ≠ wk := (ne_of_none' hwk hWl).symm
  have sN := same_upd (o := .lst []) hwk
  refine ⟨_, rfl, ?_⟩
  let Wv : Nat → L2.St → Hp → Prop := fun mm σ H6 => ∃ ls ns c x10 x11 x12, σ = [some (.ref r), some (.ref f), some (.str start), some (.str goal), some (.ref L), some (.int (k : Nat)), some (.ref W), some (.int (0 + (jj : Nat))), some (.ref wk), some (.str c), x10, x11, x12] ∧
      Same H H6 ∧ FAt H6 L ls ∧ ns.length + ls.length ≤ 28 ∧ H6 W = some (.lst (ws.map fun b : List Str × Addr => V.ref b.2)) ∧ (∀ b ∈ ws, txts H6 b.2 b.1) ∧ H6 wk = some (.lst (ns.map V.str)) ∧ Lft (as.map (·.1)) (ls.map (·.1)) start goal c m (ws.map (·.1)) ns ∧ mm = ls.length
  refine ⟨Wv,
    ⟨ls.length, ls, [], start, _, _, _, rfl, sm.trans sN, hF.same sN, by simpa using l28, sN _ _ hWl, fun b hb => sN _ _ (hws b hb), upd_same, lf.begin, rfl⟩, ?_⟩
  clear hF sm hWl hws lf l28 hwk sN
  rintro mm σ H6 ⟨ls, ns, c, x10, x11, x12, rfl, sm, hF, l28, hWl, hws, hwk, lft, rfl⟩
  refine ⟨_, rfl, _, rfl, rfl, _, rfl, ?_⟩
  by_cases e : c = goal
  · subst e
    rw [decide_eq_true rfl]
    refine iteF ?_
    refine ⟨_, rfl, .inl ⟨rfl, _, SqL.of hWl⟩, _, rfl, wk, _, rfl, .inl ⟨SqL.of hwk, fun tp htp => ?_⟩⟩
    have s7 := same_upd (o := .tup (ns.map V.str)) htp
    have hW7 := s7 _ _ hWl
    refine ⟨W, _, _, rfl, rfl, hW7, ?_, ?_⟩
    · rw [List.length_map, hlen]
      exact Nat.lt_of_lt_of_le (Nat.lt_of_lt_of_le hjk k28) (by decide)
    have atT : ∀ b xs, H6 b = some (.tup xs) → upd (upd H6 tp (.tup (ns.map V.str))) W (.lst ((ws.map fun b : List Str × Addr => V.ref b.2) ++ [.ref tp])) b = some (.tup xs) := fun b xs e =>
      (upd_ne (ne_of e hWl (fun z => nomatch z))).trans (s7 _ _ e)
    refine ⟨ls, ws ++ [(ns, tp)], _, _, _, _, _, _, rfl, ST.Same.upd (sm.trans s7) hW0, ⟨?_, fun b hb => atT _ _ (hF.2 b hb)⟩, by omega, ?_, fun b hb => ?_, by rw [List.length_append, hlen]; rfl, ?_⟩
    · exact (upd_ne (ne_of hF.1 hWl (fun z => nomatch z))).trans (s7 _ _ hF.1)
    · rw [upd_same, List.map_append]
      rfl
    · rcases List.mem_append.mp hb with z | z
      · exact atT _ _ (hws b z)
      · rw [List.mem_singleton.mp z]
        exact (upd_ne (ne_of_none' htp hWl)).trans upd_same
    · rw [List.map_append, hm']
      exact lft.next
  rw [decide_eq_false (fun z => e (V.str.inj z))]
  refine ⟨fun σ' H' => ∃ m', m' < ls.length ∧ Wv m' σ' H', fun _ _ h => h, ?_⟩
  refine ⟨_, rfl, r, rfl, ⟨_, SqL.of (sm _ _ hr'.1)⟩, fun D hD => ?_⟩
  have nmF : ∀ g ∈ ls.map (·.1), Nm g.2.1 ∧ Nm g.2.2 := fun g hg => nmr g (lft.ok.sub g hg)
  obtain ⟨g0, hg0, eg0⟩ := lft.go e
  refine lc_keep (as := as) (c := fun a => .ref a.2) src_l (fun a => decide ((a.1.1, c, a.1.2.2) ∈ ls.map (·.1))) (fun a y H => ∃ t, y = .ref t ∧ t ≠ D ∧ T2 H t a.1.1 a.1.2.2) hD (fun a y H1 H2 h b => by
      obtain ⟨t, h1, h2, h3⟩ := h
      exact ⟨t, h1, h2, b t _ h2 h3⟩) (fun H7 s7 => SqL.of (s7 _ _ (sm _ _ hr'.1))) (Nat.lt_of_le_of_lt h28 (by decide)) (fun i b H7 Kt Kf hb s7 hDl k1 k2 => ?_) fun H7 ys s7 hl pr => ?_
  · have hb' := List.mem_of_getElem? hb
    have hbr : b.1 ∈ as.map (·.1) := List.mem_map.mpr ⟨b, hb', rfl⟩
    have e3 := s7 _ _ (sm _ _ (hr'.2 b hb'))
    obtain ⟨o, ho, pd, hpd1, hpd2, hpd3⟩ := flow_get (K := K) (hF.same s7).pd lft.ok.nd nmF b.1.1
    refine ⟨rfl, ?_⟩
    refine ⟨_, rfl, L, rfl, .inl ⟨_, .inl (s7 _ _ hF.1)⟩, _, rfl, _, _, _, _, rfl, rfl, SqT.of e3, rfl, o, ho, ?_⟩
    refine ⟨_, rfl, _, rfl, _, _, _, _, rfl, rfl, SqT.of e3, rfl, sz2, fun p2 hp2 => ?_⟩
    have s8 := same_upd (o := .tup [.str c, .str b.1.2.2]) hp2
    have nc : Nm c := by
      rw [← eg0]
      exact (nmF g0 hg0).1
    refine ⟨pd, _, hpd1 _ s8, dp_tt (ns := [c, b.1.2.2]) upd_same, hpd2, sh_txts _ (fun m hm => ?_), _, rfl, ?_⟩
    · rcases List.mem_cons.mp hm with e | hm
      · exact e ▸ nc
      · rw [List.mem_singleton.mp hm]
        exact (nmr _ hbr).2
    rw [hpd3]
    by_cases f3 : (b.1.1, c, b.1.2.2) ∈ ls.map (·.1)
    · rw [decide_eq_true f3]
      refine ⟨_, rfl, _, _, _, _, rfl, rfl, SqT.of (s8 _ _ e3), rfl, _, rfl, _, _, _, _, rfl, rfl, SqT.of (s8 _ _ e3), rfl, sz2, fun p3 hp3 => ?_⟩
      have s9 := same_upd (o := .tup [.str b.1.1, .str b.1.2.2]) hp3
      obtain ⟨l, hl⟩ := hDl
      exact k1 _ _ (decide_eq_true f3) (s8.trans s9) ⟨p3, rfl, ne_of_none' hp3 (s8 _ _ hl), upd_same⟩
    · rw [decide_eq_false f3]
      exact iteF (k2 _ (decide_eq_false f3) s8)
  have hgr : g0 ∈ as.map (·.1) := lft.ok.sub _ hg0
  obtain ⟨a0, ha0, ea0⟩ := mem_fst hgr
  have hin : a0 ∈ as.filter fun a => decide ((a.1.1, c, a.1.2.2) ∈ ls.map (·.1)) := List.mem_filter.mpr ⟨ha0, decide_eq_true (by rw [ea0, ← eg0]; exact hg0)⟩
  cases pr' : as.filter fun a => decide ((a.1.1, c, a.1.2.2) ∈ ls.map (·.1)) with
  | nil =>
    rw [pr'] at hin
    cases hin
  | cons b0 rest =>
    rw [pr'] at pr
    cases pr with
    | @cons _ y _ ys hy _ =>
    obtain ⟨t, rfl, ntD, ht⟩ := hy
    have hb0 : b0 ∈ as.filter fun a => decide ((a.1.1, c, a.1.2.2) ∈ ls.map (·.1)) := by rw [pr']; exact List.mem_cons_self
    have hbL := of_decide_eq_true (List.mem_filter.mp hb0).2
    refine ⟨D, _, _, .ref t, rfl, rfl, SqL.of hl, atI_nat (j := 0) rfl, ?_⟩
    refine ⟨t, _, rfl, SqT.of ht, rfl, _, _, rfl, _, _, rfl, rfl, ?_⟩
    have hwk7 := s7 _ _ hwk
    refine ⟨_, rfl, .inl ⟨rfl, _, SqL.of hwk7⟩, _, rfl, wk, _, _, rfl, rfl, hwk7, ?_, ?_⟩
    · rw [List.length_map]
      exact Nat.lt_of_le_of_lt (show ns.length ≤ 28 by omega) (by decide)
    refine ⟨_, rfl, ?_⟩
    have nLw : L ≠ wk := ne_of hF.1 hwk (fun z => nomatch z)
    have hL7 := (upd_ne nLw (o := .lst (ns.map V.str ++ [.str b0.1.1]))).trans (s7 _ _ hF.1)
    obtain ⟨bl, hbl, ebl⟩ := mem_fst hbL
    refine ⟨_, rfl, _, rfl, L, _, .inr b0.1.1, rfl, hL7, rfl, by rw [valV_sg]; exact hasS_in (p := (b0.1.1, c, b0.1.2.2)) hbL, ?_⟩
    rw [drop_gS]
    have hlt : (ls.filter fun b => !decide (b.1.1 = b0.1.1)).length < ls.length := by
      have := delS_len hbL
      rw [← fst_del, List.length_map, List.length_map] at this
      exact this
    have atT : ∀ b xs, H6 b = some (.tup xs) → upd (upd H7 wk (.lst (ns.map V.str ++ [.str b0.1.1]))) L (.dK ((ls.filter fun b => !decide (b.1.1 = b0.1.1)).map gS)) b = some (.tup xs) := fun b xs e =>
      (upd_ne (ne_of e hF.1 (fun z => nomatch z))).trans ((upd_ne (ne_of e hwk (fun z => nomatch z))).trans (s7 _ _ e))
    refine ⟨_, hlt, ls.filter fun b => !decide (b.1.1 = b0.1.1), ns ++ [b0.1.1], b0.1.2.2, _, _, _, rfl, ST.Same.upd (ST.Same.upd (sm.trans s7) hwk0) hL, ⟨upd_same, fun b hb => atT _ _ (hF.2 b (List.mem_filter.mp hb).1)⟩, by rw [List.length_append, List.length_singleton]; omega, ?_, fun b hb => atT _ _ (hws b hb), ?_, ?_, rfl⟩
    · exact (upd_ne (ne_of hWl hF.1 (fun z => nomatch z))).trans ((upd_ne nW).trans (s7 _ _ hWl))
    · exact (upd_ne nLw.symm).trans (by rw [upd_same, List.map_append]; rfl)
    · rw [fst_del]
      exact lft.step hbL
end
end ST
end
section
set_option Elab.async false
set_option linter.all false
set_option maxRecDepth 100000
set_option maxHeartbeats 1000000
/-! Bundles. -/
namespace ST
open PySem PySem.Spec PyProof.Rows L2 SgO
section
variable {w : World} {K : PySem.W.Frag} {mg : Str → Option Value} {base : Heap}
theorem mk_same {H : Hp} {x dx C : Addr} (hx : H x = none) (hdx : H dx = none) : Same H (upd (upd H dx (.own x)) x (.ins C dx [])) := fun c o e => (upd_ne (ne_of_none e hx)).trans ((upd_ne (ne_of_none e hdx)).trans e)
theorem made_same {H H' : Hp} {x dx C : Addr} (hx : H x = none) (hdx : H dx = none) (b : But x (upd (upd H dx (.own x)) x (.ins C dx [])) H') : Same H H' := fun c o e => b c o (ne_of_none e hx) (mk_same hx hdx c o e)
def sp_Bundle_init (K : PySem.W.Frag) : Sp0 := fun vs H Q => ∃ (a dx : Addr) (v1 v2 : V), vs = [.ref a, v1, v2] ∧ H a = some (.ins (He.ga K "Bundle") dx []) ∧ ∀ H', But a H H' → H' a = some (.ins (He.ga K "Bundle") dx [("walks", v1), ("ward", v2)]) → Q .non H'
abbrev n_Bundle_init : List Str := ["self", "walks", "ward"]
theorem sc_Bundle_init : FnScope n_Bundle_init ["self", "walks", "ward"] (defScope s_Bundle_init) := ⟨rfl, rfl, rfl, by decide +kernel, rfl, by decide +kernel, by decide +kernel⟩
theorem fn_Bundle_init (T : Txt K mg) : Fn w K mg base 1 (a_Bundle_init K) (sp_Bundle_init K) := by
  refine fn_by (N := n_Bundle_init) (ps := ["self", "walks", "ward"]) (st := s_Bundle_init) (T.fn 69 rfl) sc_Bundle_init (fun _ _ _ _ _ _ us hl => match us, hl with | [_, _, _], _ => rfl) (by rintro vs H Q ⟨a, dx, v1, v2, rfl, ha, q⟩; rfl) fun cdv A outer s H vs Q hr h => ?_
  obtain ⟨a, dx, v1, v2, rfl, ha, q⟩ := h
  refine ⟨_, pss_cons (sfld_ K (pv 0) (pv 1))
  (pss_one (sfld_ K (pv 0) (pv 2))), ?_⟩
  refine ⟨_, rfl, _, rfl, a, _, dx, _, rfl, ha, T.cls T.r_c_Bundle, T.noat T.r_n_Bundle_walks, by decide, ?_⟩
  refine ⟨_, rfl, _, rfl, a, _, dx, _, rfl, upd_same, T.cls T.r_c_Bundle, T.noat T.r_n_Bundle_ward, few1, ?_⟩
  exact q _ (But.refl a H).upd.upd upd_same
def sp_Ways_init (K : PySem.W.Frag) : Sp0 := fun vs H Q => ∃ (a dx : Addr) (v1 v2 v3 : V), vs = [.ref a, v1, v2, v3] ∧ H a = some (.ins (He.ga K "Ways") dx []) ∧ ∀ H', But a H H' → H' a = some (.ins (He.ga K "Ways") dx [("root", v1), ("out", v2), ("back", v3)]) → Q .non H'
abbrev n_Ways_init : List Str := ["self", "root", "out", "back"]
theorem sc_Ways_init : FnScope n_Ways_init ["self", "root", "out", "back"] (defScope s_Ways_init) := ⟨rfl, rfl, rfl, by decide +kernel, rfl, by decide +kernel, by decide +kernel⟩
theorem fn_Ways_init (T : Txt K mg) : Fn w K mg base 1 (a_Ways_init K) (sp_Ways_init K) := by
  refine fn_by (N := n_Ways_init) (ps := ["self", "root", "out", "back"]) (st := s_Ways_init) (T.fn 70 rfl) sc_Ways_init (fun _ _ _ _ _ _ us hl => match us, hl with | [_, _, _, _], _ => rfl) (by rintro vs H Q ⟨a, dx, v1, v2, v3, rfl, ha, q⟩; rfl) fun cdv A outer s H vs Q hr h => ?_
  obtain ⟨a, dx, v1, v2, v3, rfl, ha, q⟩ := h
  refine ⟨_, pss_cons (sfld_ K (pv 0) (pv 1))
  (pss_cons (sfld_ K (pv 0) (pv 2))
  (pss_one (sfld_ K (pv 0) (pv 3)))), ?_⟩
  refine ⟨_, rfl, _, rfl, a, _, dx, _, rfl, ha, T.cls T.r_c_Ways, T.noat T.r_n_Ways_root, by decide, ?_⟩
  refine ⟨_, rfl, _, rfl, a, _, dx, _, rfl, upd_same, T.cls T.r_c_Ways, T.noat T.r_n_Ways_out, few1, ?_⟩
  refine ⟨_, rfl, _, rfl, a, _, dx, _, rfl, upd_same, T.cls T.r_c_Ways, T.noat T.r_n_Ways_back, few2, ?_⟩
  exact q _ (But.refl a H).upd.upd.upd upd_same
def sp_Sound_init (K : PySem.W.Frag) : Sp0 := fun vs H Q => ∃ (a dx : Addr) (v1 : V), vs = [.ref a, v1] ∧ H a = some (.ins (He.ga K "Sound") dx []) ∧ ∀ H', But a H H' → H' a = some (.ins (He.ga K "Sound") dx [("ways", v1)]) → Q .non H'
abbrev n_Sound_init : List Str := ["self", "ways"]
theorem sc_Sound_init : FnScope n_Sound_init ["self", "ways"] (defScope s_Sound_init) := ⟨rfl, rfl, rfl, by decide +kernel, rfl, by decide +kernel, by decide +kernel⟩
theorem fn_Sound_init (T : Txt K mg) : Fn w K mg base 1 (a_Sound_init K) (sp_Sound_init K) := by
  refine fn_by (N := n_Sound_init) (ps := ["self", "ways"]) (st := s_Sound_init) (T.fn 71 rfl) sc_Sound_init (fun _ _ _ _ _ _ us hl => match us, hl with | [_, _], _ => rfl) (by rintro vs H Q ⟨a, dx, v1, rfl, ha, q⟩; rfl) fun cdv A outer s H vs Q hr h => ?_
  obtain ⟨a, dx, v1, rfl, ha, q⟩ := h
  refine ⟨_, pss_one (sfld_ K (pv 0) (pv 1)), ?_⟩
  refine ⟨_, rfl, _, rfl, a, _, dx, _, rfl, ha, T.cls T.r_c_Sound, T.noat T.r_n_Sound_ways, by decide, ?_⟩
  exact q _ (But.refl a H).upd upd_same
def sp_Sound_bool : Sp0 := fun vs H Q => ∃ a : Addr, vs = [.ref a] ∧ Q (.bl true) H
abbrev n_Sound_bool : List Str := ["self"]
theorem sc_Sound_bool : FnScope n_Sound_bool ["self"] (defScope s_Sound_bool) := ⟨rfl, rfl, rfl, by decide +kernel, rfl, by decide +kernel, by decide +kernel⟩
theorem fn_Sound_bool (T : Txt K mg) : Fn w K mg base 1 (a_Sound_bool K) sp_Sound_bool := by
  refine fn_by (N := n_Sound_bool) (ps := ["self"]) (st := s_Sound_bool) (T.fn 72 rfl) sc_Sound_bool (fun _ _ _ _ _ _ us hl => match us, hl with | [_], _ => rfl) (by rintro vs H Q ⟨a, rfl, q⟩; rfl) fun cdv A outer s H vs Q hr h => ?_
  obtain ⟨a, rfl, q⟩ := h
  refine ⟨_, pss_one (ps_ret (pe_bl)), ?_⟩
  exact q
def sp_Strength_init (K : PySem.W.Frag) : Sp0 := fun vs H Q => ∃ (a dx : Addr) (v1 v2 v3 : V), vs = [.ref a, v1, v2, v3] ∧ H a = some (.ins (He.ga K "Strength") dx []) ∧ ∀ H', But a H H' → H' a = some (.ins (He.ga K "Strength") dx [("number", v1), ("ward", v2), ("ways", v3)]) → Q .non H'
abbrev n_Strength_init : List Str := ["self", "number", "ward", "ways"]
theorem sc_Strength_init : FnScope n_Strength_init ["self", "number", "ward", "ways"] (defScope s_Strength_init) := ⟨rfl, rfl, rfl, by decide +kernel, rfl, by decide +kernel, by decide +kernel⟩
theorem fn_Strength_init (T : Txt K mg) : Fn w K mg base 1 (a_Strength_init K) (sp_Strength_init K) := by
  refine fn_by (N := n_Strength_init) (ps := ["self", "number", "ward", "ways"]) (st := s_Strength_init) (T.fn 73 rfl) sc_Strength_init (fun _ _ _ _ _ _ us hl => match us, hl with | [_, _, _, _], _ => rfl) (by rintro vs H Q ⟨a, dx, v1, v2, v3, rfl, ha, q⟩; rfl) fun cdv A outer s H vs Q hr h => ?_
  obtain ⟨a, dx, v1, v2, v3, rfl, ha, q⟩ := h
  refine ⟨_, pss_cons (sfld_ K (pv 0) (pv 1))
  (pss_cons (sfld_ K (pv 0) (pv 2))
  (pss_one (sfld_ K (pv 0) (pv 3)))), ?_⟩
  refine ⟨_, rfl, _, rfl, a, _, dx, _, rfl, ha, T.cls T.r_c_Strength, T.noat T.r_n_Strength_number, by decide, ?_⟩
  refine ⟨_, rfl, _, rfl, a, _, dx, _, rfl, upd_same, T.cls T.r_c_Strength, T.noat T.r_n_Strength_ward, few1, ?_⟩
  refine ⟨_, rfl, _, rfl, a, _, dx, _, rfl, upd_same, T.cls T.r_c_Strength, T.noat T.r_n_Strength_ways, few2, ?_⟩
  exact q _ (But.refl a H).upd.upd.upd upd_same
/-! ### what arcs are -/
def ArcFor (r : Sgn) (s : Stv) : Prop := r.1 = s.nm ∧ ((r.2.1 = s.x ∧ r.2.2 = s.y) ∨ (r.2.1 = s.y ∧ r.2.2 = s.x))
theorem nd_mem {α : Type} {f : α → Str} : ∀ {l : List α} {a b : α}, (l.map f).Nodup → a ∈ l → b ∈ l → f a = f b → a = b
  | [], _, _, _, h, _, _ => by cases h
  | c :: r, a, b, hn, ha, hb, e => by
    rw [List.map_cons] at hn
    obtain ⟨h1, h2⟩ := List.nodup_cons.mp hn
    rcases List.mem_cons.mp ha with rfl | ma
    · rcases List.mem_cons.mp hb with rfl | mb
      · rfl
      · exact absurd (List.mem_map.mpr ⟨b, mb, e.symm⟩) h1
    · rcases List.mem_cons.mp hb with rfl | mb
      · exact absurd (List.mem_map.mpr ⟨a, ma, e⟩) h1
      · exact nd_mem h2 ma mb e
theorem arc_for {ps : List Sgn} {ss : List (Stv × Addr)} (ok : SOk ps) (nd : (ss.map fun b => b.1.nm).Nodup) (f : Fits ps ss) {b : Stv × Addr} (hb : b ∈ ss) {r : Sgn} (h : r ∈ arcOf ps b.1) : ArcFor r b.1 := by
  obtain ⟨⟨k, nm, x, y⟩, ba⟩ := b
  cases k
  · rw [List.mem_singleton.mp (show r ∈ [(nm, x, y)] from h)]
    exact ⟨rfl, .inl ⟨rfl, rfl⟩⟩
  · rcases List.mem_cons.mp (show r ∈ [(nm, x, y), (nm, y, x)] from h) with e | e
    · rw [e]
      exact ⟨rfl, .inl ⟨rfl, rfl⟩⟩
    · rw [List.mem_singleton.mp e]
      exact ⟨rfl, .inr ⟨rfl, rfl⟩⟩
  · rw [List.mem_singleton.mp (show r ∈ [(nm, (sgOf ps nm).1, (sgOf ps nm).2)] from h)]
    have hm : nm ∈ ps.map (·.1) := by
      rw [f.1]
      exact List.mem_map.mpr ⟨_, List.mem_filter.mpr ⟨hb, by simp⟩, rfl⟩
    obtain ⟨g, hg, rfl⟩ := List.mem_map.mp hm
    obtain ⟨c, hc, e1, e2⟩ := f.2 g hg
    have ec := nd_mem (f := fun b : Stv × Addr => b.1.nm) nd hc hb e1
    rw [ec] at e2
    have e2 : ord2 x y = ord2 g.2.1 g.2.2 := e2
    rw [sgOf_in ok.1 hg]
    refine ⟨rfl, ?_⟩
    have ne := (ok.2.2 g hg).2.2.2
    have m1 : g.2.1 = x ∨ g.2.1 = y := mem_ord2.mp (by rw [e2]; exact mem_ord2.mpr (.inl rfl))
    have m2 : g.2.2 = x ∨ g.2.2 = y := mem_ord2.mp (by rw [e2]; exact mem_ord2.mpr (.inr rfl))
    rcases m1 with m1 | m1 <;> rcases m2 with m2 | m2
    · exact absurd (m1.trans m2.symm) ne
    · exact .inl ⟨m1, m2⟩
    · exact .inr ⟨m1, m2⟩
    · exact absurd (m1.trans m2.symm) ne
theorem arc_nd {ps : List Sgn} {s : Stv} (h : s.x ≠ s.y) : (arcOf ps s).Nodup := by
  obtain ⟨k, nm, x, y⟩ := s
  have h : x ≠ y := h
  cases k
  · simp [arcOf]
  · simp [arcOf, h]
  · simp [arcOf]
theorem arc_nm {ps : List Sgn} {s : Stv} {r : Sgn} (h : r ∈ arcOf ps s) : r.1 = s.nm := by
  obtain ⟨k, nm, x, y⟩ := s
  cases k
  · rw [List.mem_singleton.mp (show r ∈ [(nm, x, y)] from h)]
  · rcases List.mem_cons.mp (show r ∈ [(nm, x, y), (nm, y, x)] from h) with e | e
    · rw [e]
    · rw [List.mem_singleton.mp e]
  · rw [List.mem_singleton.mp (show r ∈ [(nm, (sgOf ps nm).1, (sgOf ps nm).2)] from h)]
theorem arcs_nd {ps : List Sgn} : ∀ {ss : List (Stv × Addr)}, (∀ b ∈ ss, b.1.x ≠ b.1.y) → (ss.map fun b => b.1.nm).Nodup → (arcsOf ps ss).Nodup
  | [], _, _ => List.nodup_nil
  | b :: r, h, hn => by
    rw [List.map_cons] at hn
    obtain ⟨h1, h2⟩ := List.nodup_cons.mp hn
    unfold arcsOf
    rw [List.flatMap_cons]
    refine List.nodup_append.mpr ⟨arc_nd (h b List.mem_cons_self), arcs_nd (fun c hc => h c (List.mem_cons_of_mem _ hc)) h2, fun x hx y hy e => ?_⟩
    obtain ⟨c, hc, hyc⟩ := List.mem_flatMap.mp hy
    refine h1 (List.mem_map.mpr ⟨c, hc, ?_⟩)
    rw [← arc_nm hyc, ← e, arc_nm hx]
theorem arcs_len {ps : List Sgn} : ∀ (ss : List (Stv × Addr)), (arcsOf ps ss).length ≤ 2 * ss.length
  | [] => Nat.le_refl _
  | b :: r => by
    have ih := arcs_len (ps := ps) r
    unfold arcsOf at ih ⊢
    rw [List.flatMap_cons, List.length_append, List.length_cons]
    have : (arcOf ps b.1).length ≤ 2 := by
      obtain ⟨⟨k, nm, x, y⟩, ba⟩ := b
      cases k <;> simp [arcOf]
    omega
structure ArcOk (rows : List Sgn) (cs : List Str) : Prop where
  ok : RowsOk rows
  nm : ∀ g ∈ rows, Nm g.2.1 ∧ Nm g.2.2
  len : rows.length ≤ 28
  ends : ∀ r ∈ rows, r.2.1 ∈ cs ∧ r.2.2 ∈ cs
theorem arcs_ok {ps : List Sgn} {ss : List (Stv × Addr)} {cs : List Str} (hs : ∀ b ∈ ss, b.1.Ok) (ok : SOk ps) (tok : TOk ss) (f : Fits ps ss) (hc : IsCor ss cs) : ArcOk (arcsOf ps ss) cs := by
  have key : ∀ r ∈ arcsOf ps ss, ∃ b ∈ ss, ArcFor r b.1 := fun r hr => by
    obtain ⟨b, hb, h⟩ := List.mem_flatMap.mp hr
    exact ⟨b, hb, arc_for ok tok.1 f hb h⟩
  refine ⟨⟨fun r hr => ?_, fun r hr s hs' e => ?_, arcs_nd (fun b hb => (hs b hb).2.2.2.1) tok.1⟩, fun r hr => ?_, Nat.le_trans (arcs_len ss) (by have := tok.2.1; omega), fun r hr => ?_⟩
  · obtain ⟨b, hb, _, h | h⟩ := key r hr
    · rw [h.1, h.2]
      exact (hs b hb).2.2.2.1
    · rw [h.1, h.2]
      exact (hs b hb).2.2.2.1.symm
  · obtain ⟨b, hb, e1, h1⟩ := key r hr
    obtain ⟨c, hc', e2, h2⟩ := key s hs'
    have ebc := nd_mem (f := fun b : Stv × Addr => b.1.nm) tok.1 hb hc' (by rw [← e1, ← e2]; exact e)
    subst ebc
    obtain ⟨r1, r2, r3⟩ := r
    obtain ⟨s1, s2, s3⟩ := s
    simp only at h1 h2 e e1 e2 ⊢
    rcases h1 with ⟨a1, a2⟩ | ⟨a1, a2⟩ <;> rcases h2 with ⟨a3, a4⟩ | ⟨a3, a4⟩
    · exact .inl (by rw [a1, a2, a3, a4, e])
    · exact .inr ⟨by rw [a3, a2], by rw [a4, a1]⟩
    · exact .inr ⟨by rw [a3, a2], by rw [a4, a1]⟩
    · exact .inl (by rw [a1, a2, a3, a4, e])
  · obtain ⟨b, hb, _, h | h⟩ := key r hr
    · rw [h.1, h.2]
      exact ⟨(hs b hb).2.1, (hs b hb).2.2.1⟩
    · rw [h.1, h.2]
      exact ⟨(hs b hb).2.2.1, (hs b hb).2.1⟩
  · obtain ⟨b, hb, _, h | h⟩ := key r hr
    · rw [h.1, h.2]
      exact ⟨(hc.2.2 _).mpr ⟨b, hb, .inl rfl⟩, (hc.2.2 _).mpr ⟨b, hb, .inr rfl⟩⟩
    · rw [h.1, h.2]
      exact ⟨(hc.2.2 _).mpr ⟨b, hb, .inr rfl⟩, (hc.2.2 _).mpr ⟨b, hb, .inl rfl⟩⟩
theorem TAt.oks {H : Hp} {t : Addr} {ss : List (Stv × Addr)} (h : TAt K H t ss) : ∀ b ∈ ss, b.1.Ok := by
  obtain ⟨_, _, _, _, _, _, _, _, g, _⟩ := h
  exact fun b hb => (g b hb).1
theorem cor_eq {ss : List (Stv × Addr)} {cs ds : List Str} (h : IsCor ss cs) (h' : IsCor ss ds) : ds = cs := asc_ext h'.1 h.1 fun z => (h'.2.2 z).trans (h.2.2 z).symm
def IsWard (cs ap : List Str) : Prop := ap.Sublist cs ∧ ap ≠ [] ∧ ap ≠ cs
/-- a town with signs that fit it -/
structure Site (K : PySem.W.Frag) (H : Hp) (t a : Addr) (ps : List Sgn) (ss : List (Stv × Addr)) (cs : List Str) : Prop where
  t : TAt K H t ss
  a : SgAt K H a ps
  sok : SOk ps
  tok : TOk ss
  fits : Fits ps ss
  cor : IsCor ss cs
theorem Site.same {H H' : Hp} {t a : Addr} {ps : List Sgn} {ss : List (Stv × Addr)} {cs : List Str} (h : Site K H t a ps ss cs) (s : Same H H') : Site K H' t a ps ss cs := ⟨h.t.same s, h.a.same s, h.sok, h.tok, h.fits, h.cor⟩
theorem Site.arcs {H : Hp} {t a : Addr} {ps : List Sgn} {ss : List (Stv × Addr)} {cs : List Str} (h : Site K H t a ps ss cs) : ArcOk (arcsOf ps ss) cs := arcs_ok h.t.oks h.sok h.tok h.fits h.cor
theorem Site.nm {H : Hp} {t a : Addr} {ps : List Sgn} {ss : List (Stv × Addr)} {cs : List Str} (h : Site K H t a ps ss cs) : ∀ c ∈ cs, Nm c := fun c hc => by
  obtain ⟨b, hb, e | e⟩ := (h.cor.2.2 c).mp hc
  · rw [e]
    exact (h.t.oks b hb).2.1
  · rw [e]
    exact (h.t.oks b hb).2.2.1
def sp_bundle_for (K : PySem.W.Frag) : Sp0 := fun vs H Q => ∃ (t a : Addr) (start goal : Str) (ps : List Sgn) (ss : List (Stv × Addr)) (cs : List Str), vs = [.ref t, .ref a, .str start, .str goal] ∧ Site K H t a ps ss cs ∧ start ∈ cs ∧ goal ∈ cs ∧ start ≠ goal ∧
  ∀ H' b dx wp wd ws, Same H H' → H' b = some (.ins (He.ga K "Bundle") dx [("walks", .ref wp), ("ward", wd)]) → WalksAt H' wp ws → Bun (arcsOf ps ss) start goal (ws.map (·.1)) → (∃ ap, IsWard cs ap ∧ ws.length = enterN (arcsOf ps ss) ap) → Q (.ref b) H'
abbrev n_bundle_for : List Str := ["town", "signs", "start", "goal", "rows", "flow", "came", "apart", "corner"]
theorem sc_bundle_for : FnScope n_bundle_for ["town", "signs", "start", "goal"] (defScope s_bundle_for) := ⟨rfl, rfl, rfl, by decide +kernel, rfl, by decide +kernel, by decide +kernel⟩
theorem fn_bundle_for (T : Txt K mg) : Fn w K mg base 5 (a_bundle_for K) (sp_bundle_for K) := by
  refine fn_by (N := n_bundle_for) (ps := ["town", "signs", "start", "goal"]) (st := s_bundle_for) (T.fn 19 rfl) sc_bundle_for (fun _ _ _ _ _ _ us hl => match us, hl with | [_, _, _, _], _ => rfl) (by rintro vs H Q ⟨t, a, start, goal, ps, ss, cs, rfl, st, hsc, hgc, ne, qq⟩; rfl) fun cdv A outer s H vs Q hr h => ?_
  obtain ⟨t, a, start, goal, ps, ss, cs, rfl, st, hsc, hgc, ne, qq⟩ := h
  refine ⟨_, pss_cons (ps_set (i := 4) sc_bundle_for.nd rfl (by first | exact .inl rfl | exact .inr rfl) (pe_fn (fn_arcs T) hr (by decide) (by rfl) (T.glo T.r_g_arcs) (T.kp 14 rfl) (pa_cons (pv 0) (pa_cons (pv 1) pa_nil))))
  (pss_cons (ps_set (i := 5) sc_bundle_for.nd rfl (by first | exact .inl rfl | exact .inr rfl) (pe_dnewK))
  (pss_cons (ps_set (i := 6) sc_bundle_for.nd rfl (by first | exact .inl rfl | exact .inr rfl) (pe_fn (fn_come_to T) hr (by decide) (by rfl) (T.glo T.r_g_come_to) (T.kp 16 rfl) (pa_cons (pv 4) (pa_cons (pv 5) (pa_cons (pv 2) pa_nil)))))
  (pss_cons (ps_while PassesOwn.never (pt_cmp (pc_din (hu_of hr) (pv 3) (pv 6))) (pss_cons (ps_set (i := 5) sc_bundle_for.nd rfl (by first | exact .inl rfl | exact .inr rfl) (pe_fn (fn_laid_in T) hr (by decide) (by rfl) (T.glo T.r_g_laid_in) (T.kp 17 rfl) (pa_cons (pv 5) (pa_cons (pv 6) (pa_cons (pv 2) (pa_cons (pv 3) pa_nil))))))
  (pss_one (ps_set (i := 6) sc_bundle_for.nd rfl (by first | exact .inl rfl | exact .inr rfl) (pe_fn (fn_come_to T) hr (by decide) (by rfl) (T.glo T.r_g_come_to) (T.kp 16 rfl) (pa_cons (pv 4) (pa_cons (pv 5) (pa_cons (pv 2) pa_nil))))))))
  (pss_cons (ps_setLc (i := 7) (own := [("corner", 8)]) rfl sc_bundle_for.nd rfl rfl (sw_true rfl rfl rfl (by decide +kernel)) (piT_ K (pe_prop1 (T.cls T.r_c_Town) (propB_ok T.r_p_Town_corners) (fn_Town_corners T) (hr.mono (by decide)) (pv 0))) (blkOk_by (own := [("corner", 8)]) (N := n_bundle_for) (sc := defScope s_bundle_for) (by decide +kernel)) (fun _ _ _ _ _ => pg_name (i := 8) sc_bundle_for.nd rfl (by first | exact .inl rfl | exact .inr rfl)) (fun _ _ _ _ _ => pts_one (pt_cmp (pc_dnotin (hu_of hr) (pv 8) (pv 6)))) (fun _ _ _ _ _ => pv 8))
  (pss_one (ps_ret (pe_mkP (T.mkr T.r_m_Bundle) (fn_Bundle_init T) (hr.mono (by decide)) (by rfl) (T.glo T.r_g_Bundle) (pa_cons (pe_fn (fn_walks_in T) hr (by decide) (by rfl) (T.glo T.r_g_walks_in) (T.kp 18 rfl) (pa_cons (pv 4) (pa_cons (pv 5) (pa_cons (pv 2) (pa_cons (pv 3) pa_nil))))) (pa_cons (pe_mkS (T.mkr T.r_m_Ward) (fn_Ward_init T) (hr.mono (by decide)) (by rfl) (T.glo T.r_g_Ward) (pv 7)) pa_nil))))))))), ?_⟩
  have ao := st.arcs
  refine ⟨_, rfl, _, rfl, t, a, ps, ss, rfl, st.t, st.a, st.sok, st.tok, st.fits, fun H1 r as s1 hr1 hr2 => ?_⟩
  have l28 : as.length ≤ 28 := by
    have := ao.len
    rwa [← hr2, List.length_map] at this
  refine fun fl0 hfl0 => ?_
  have s2 := s1.trans (same_upd (o := .dK []) hfl0)
  have hr3 := hr1.same (same_upd (o := .dK []) hfl0)
  have hF0 : FAt (upd H1 fl0 (.dK [])) fl0 [] := ⟨upd_same, fun _ z => (nomatch z)⟩
  generalize upd H1 fl0 (.dK []) = H2 at s2 hr3 hF0
  clear hr1 s1 hfl0
  have ok' : RowsOk (as.map (·.1)) := hr2 ▸ ao.ok
  have nm' : ∀ g ∈ as.map (·.1), Nm g.2.1 ∧ Nm g.2.2 := hr2 ▸ ao.nm
  have en' : ∀ g ∈ as.map (·.1), g.2.1 ∈ cs ∧ g.2.2 ∈ cs := hr2 ▸ ao.ends
  refine ⟨_, rfl, _, rfl, _, rfl, r, fl0, start, as, [], rfl, hr3, hF0.pd, l28, ok', nm', FlOk.nil, fun H3 d bs s3 hcm gd cl => ?_⟩
  let Wv : Nat → L2.St → Hp → Prop := fun m σ H4 => ∃ fl d fs bs k x7 x8, σ = [some (.ref t), some (.ref a), some (.str start), some (.str goal), some (.ref r), some (.ref fl), some (.ref d), x7, x8] ∧ Same H H4 ∧ RowsAt H4 r as ∧ FAt H4 fl fs ∧ FlOk (as.map (·.1)) (fs.map (·.1)) start ∧
    Flow (fs.map (·.1)) start goal k ∧ CmAt H4 d bs ∧ Good (as.map (·.1)) (fs.map (·.1)) start (bs.map (·.1)) ∧ (∀ u ∈ cor (bs.map (·.1)), ∀ r ∈ as.map (·.1), Clo (fs.map (·.1)) (bs.map (·.1)) u r) ∧ m = 28 - k
  refine ⟨Wv, ⟨28, fl0, d, [], bs, 0, _, _, rfl, s2.trans s3, hr3.same s3, hF0.same s3, FlOk.nil, Flow.zero, hcm, gd, cl, rfl⟩, ?_⟩
  clear hcm gd cl s3 hF0 hr3 s2
  rintro m σ H4 ⟨fl, d, fs, bs, k, x7, x8, rfl, s4, hr4, hF, fok, flo, hcm, gd, cl, rfl⟩
  refine ⟨_, rfl, _, rfl, d, _, rfl, dget_r (.inl hcm.1) rfl, _, rfl, ?_⟩
  rw [valV_cm]
  by_cases hg : goal ∈ cor (bs.map (·.1))
  · rw [decide_eq_true hg]
    refine ⟨fun σ' H' => ∃ m', m' < 28 - k ∧ Wv m' σ' H', fun _ _ h => h, ?_⟩
    have lr : (as.map (·.1)).length ≤ 28 := by rw [List.length_map]; exact l28
    refine ⟨_, rfl, _, rfl, _, rfl, _, rfl, fl, d, start, goal, fs, bs, as.map (·.1), k, rfl, hF, hcm, ok', lr, fok, flo, gd, hg, fun H5 fl' gs s5 hG gok gflo => ?_⟩
    have hk : k + 1 ≤ 28 := by
      rw [← gflo.out ne gok]
      exact Nat.le_trans (List.length_filter_le _ _) (Nat.le_trans gok.len lr)
    refine ⟨_, rfl, _, rfl, _, rfl, r, fl', start, as, gs, rfl, hr4.same s5, hG.pd, l28, ok', nm', gok, fun H6 d' bs' s6 hcm' gd' cl' => ?_⟩
    exact ⟨28 - (k + 1), by omega, fl', d', gs, bs', k + 1, _, _, rfl, (s4.trans s5).trans s6, (hr4.same s5).same s6, hG.same s6, gok, gflo, hcm', gd', cl', rfl⟩
  rw [decide_eq_false hg]
  refine iteF ?_
  have st4 := st.same s4
  refine ⟨_, rfl, t, _, _, rfl, ⟨rfl, rfl⟩, ins_town st4.t.rd, t, ss, rfl, st4.t, fun H5 tp cs' s5 hcor htp => ?_⟩
  rw [cor_eq st.cor hcor] at htp
  refine ⟨_, rfl, ⟨_, SqT.of htp⟩, fun D hD => ?_⟩
  refine lc_pure (as := cs) (c := fun c => .str c) src_t (fun c => !decide (c ∈ cor (bs.map (·.1)))) (fun c => .str c) hD (fun H6 sm => SqT.of (sm _ _ htp)) (Nat.lt_of_le_of_lt st.cor.2.1 (by decide)) (fun i c H6 Kt Kf hc sm k1 k2 => ?_) fun H6 s6 hl => ?_
  · refine ⟨rfl, _, rfl, _, rfl, d, _, rfl, dget_r (.inl ((hcm.same s5).same sm).1) rfl, _, rfl, ?_⟩
    rw [valV_cm]
    by_cases e : c ∈ cor (bs.map (·.1))
    · rw [decide_eq_true e]
      exact iteF (k2 _ (by rw [decide_eq_true e]; rfl) (Same.refl _))
    · rw [decide_eq_false e]
      exact ⟨_, rfl, k1 _ (by rw [decide_eq_false e]; rfl) (Same.refl _)⟩
  have s56 := s5.trans s6
  refine ⟨_, rfl, _, rfl, _, rfl, _, rfl, r, fl, start, goal, as, fs, k, rfl, hr4.same s56, hF.same s56, l28, ok', nm', fok, flo, ne, fun H7 wp ws s7 hws hwl bun => ?_⟩
  refine ⟨_, rfl, D, _, rfl, .inr (SqL.of (s7 _ _ hl)), ?_⟩
  have gap : goal ∈ cs.filter fun c => !decide (c ∈ cor (bs.map (·.1))) := List.mem_filter.mpr ⟨hgc, by rw [decide_eq_false hg]; rfl⟩
  have nst : start ∉ cs.filter fun c => !decide (c ∈ cor (bs.map (·.1))) := fun z => by
    have := (List.mem_filter.mp z).2
    rw [decide_eq_true gd.first] at this
    cases this
  refine ward_mk (K := K) (List.Pairwise.sublist List.filter_sublist st.cor.1) (fun c hc => st.nm c (List.mem_filter.mp hc).1) (fun e => by rw [e] at gap; cases gap) (Nat.le_trans (List.length_filter_le _ _) st.cor.2.1) fun H8 wd s8 hwd => ?_
  intro x dx hx hdx hne
  refine ⟨x, dx, .ref wp, .ref wd, rfl, upd_same, fun H9 b9 h9 => ⟨rfl, ?_⟩⟩
  have s9 := made_same hx hdx b9
  refine qq H9 x dx wp (.ref wd) ws ((((s4.trans s56).trans s7).trans s8).trans s9) h9 ((hws.same s8).same s9) (hr2 ▸ bun) ⟨_, ⟨List.filter_sublist, fun e => (by rw [e] at gap; cases gap), fun e => nst (by rw [e]; exact hsc)⟩, ?_⟩
  rw [hwl, ← hr2]
  exact (max_flow ok' fok flo gd cl hg en').symm
end
end ST
end
section
set_option Elab.async false
set_option linter.all false
set_option maxRecDepth 100000
set_option maxHeartbeats 1000000
/-! Ways; walks looked at. -/
namespace ST
open PySem PySem.Spec PyProof.Rows L2 SgO
section
variable {w : World} {K : PySem.W.Frag} {mg : Str → Option Value} {base : Heap}
theorem slA_ (K : PySem.W.Frag) {X : Cx} (h : X.K = K := by rfl) : SlR X (rSlA K) := h ▸ sl_tupA
theorem walk_enumT {a : Addr} {xs : List V} : Walk (SgE.IteT K a) xs.length (fun H => SqT K H a xs) (YPair (fun i => some (.int (i : Nat))) (fun i => xs[i]?)) := by
  refine ⟨fun i _ hi q => ⟨xs, xs[i], q, by simp [hi]⟩, fun _ q => ⟨xs, q, Nat.le_refl _⟩, fun i H v H' _ q y => ?_⟩
  obtain ⟨T, x, h1, h2, h3, h4⟩ := y
  exact ⟨T, .int (i : Nat), x, h1, h2, h3, rfl, h4 xs q⟩
/-- t[:n] -/
theorem sl_take {H : Hp} {a : Addr} {xs : List V} {n : Nat} {Q : VK} (h : H a = some (.tup xs)) (q : ∀ H' p, Same H H' → H' p = some (.tup (xs.take n)) → Q (.ref p) H') : rSlA K (.ref a) none (some (n : Int)) H Q := by
  refine ⟨a, xs, rfl, SqT.of h, fun hw => ?_, fun _ p hp => ?_⟩
  · have e := hw.2
    rw [HT.sIx_nat] at e
    exact q H a (Same.refl _) (by rw [h, List.take_of_length_le (by omega)])
  · refine q _ p (same_upd hp) ?_
    have e : cutV xs none (some (n : Int)) = xs.take n := by
      show (xs.drop 0).take (HT.sIx xs.length xs.length (some (n : Int)) - 0) = _
      rw [HT.sIx_nat, List.drop_zero, Nat.sub_zero]
      by_cases hn : n ≤ xs.length
      · rw [Nat.min_eq_left hn]
      · rw [Nat.min_eq_right (by omega), List.take_length, List.take_of_length_le (by omega)]
    rw [upd_same, e]
/-- t[n:], n not 0 -/
theorem sl_drop {H : Hp} {a : Addr} {xs : List V} {n : Nat} {Q : VK} (h : H a = some (.tup xs)) (h0 : 0 < n) (hl : 0 < xs.length) (q : ∀ p, H p = none → Q (.ref p) (upd H p (.tup (xs.drop n)))) : rSlA K (.ref a) (some (n : Int)) none H Q := by
  refine ⟨a, xs, rfl, SqT.of h, fun hw => ?_, fun _ p hp => ?_⟩
  · have e := hw.1
    rw [HT.sIx_nat] at e
    omega
  · have e : cutV xs (some (n : Int)) none = xs.drop n := by
      unfold cutV
      rw [HT.sIx_none, HT.sIx_nat]
      by_cases hn : n ≤ xs.length
      · rw [Nat.min_eq_left hn, List.take_of_length_le (by rw [List.length_drop]; exact Nat.le_refl _)]
      · rw [Nat.min_eq_right (by omega), List.drop_length, List.drop_of_length_le (by omega), List.take_nil]
    rw [e]
    exact q p hp
theorem sl_rest {H : Hp} {a : Addr} {x : V} {xs : List V} {Q : VK} (h : H a = some (.tup (x :: xs))) (q : ∀ p, H p = none → Q (.ref p) (upd H p (.tup xs))) : rSlA K (.ref a) (some 1) none H Q :=
  sl_drop (n := 1) h (by decide) (by simp) q
/-- bundles by a corner -/
abbrev Bnd : Type := Str × Addr × List (List Str × Addr)
def BAt (H : Hp) (d : Addr) (L : List Bnd) : Prop := H d = some (.dK (L.map fun e => (.inr e.1, .ref e.2.1))) ∧ ∀ e ∈ L, WalksAt H e.2.1 e.2.2
theorem BAt.same {H H' : Hp} {d : Addr} {L : List Bnd} (h : BAt H d L) (s : Same H H') : BAt H' d L := ⟨s _ _ h.1, fun e he => (h.2 e he).same s⟩
theorem BAt.put {H : Hp} {d : Addr} {L : List Bnd} {c : Str} {wp : Addr} {ws : List (List Str × Addr)} (h : BAt H d L) (hw : WalksAt H wp ws) (hc : c ∉ L.map (·.1)) :
    BAt (upd H d (.dK (putK (L.map fun e => ((.inr e.1 : Key), V.ref e.2.1)) (.inr c) (.ref wp)))) d (L ++ [(c, wp, ws)]) := by
  have keep : ∀ a ws, WalksAt H a ws → WalksAt (upd H d (.dK (putK (L.map fun e => ((.inr e.1 : Key), V.ref e.2.1)) (.inr c) (.ref wp)))) a ws := fun a ws q =>
    ⟨(upd_ne (ne_of q.1 h.1 (fun z => nomatch z))).trans q.1, fun b hb => (upd_ne (ne_of (q.2 b hb) h.1 (fun z => nomatch z))).trans (q.2 b hb)⟩
  refine ⟨?_, fun e he => ?_⟩
  · rw [upd_same, putK_new _ (valV_no (k := fun e : Bnd => e.1) (v := fun e => .ref e.2.1) fun b hb e => hc (List.mem_map.mpr ⟨b, hb, e⟩)), List.map_append]
    rfl
  · rcases List.mem_append.mp he with m | m
    · exact keep _ _ (h.2 e m)
    · rw [List.mem_singleton.mp m]
      exact keep _ _ hw
/-- ways: n walks out to each other corner and back -/
def WaysAt (K : PySem.W.Frag) (H : Hp) (v : Addr) (rows : List Sgn) (root : Str) (others : List Str) (n : Nat) : Prop := ∃ dx o b Lo Lb, H v = some (.ins (He.ga K "Ways") dx [("root", .str root), ("out", .ref o), ("back", .ref b)]) ∧ BAt H o Lo ∧ BAt H b Lb ∧
  Lo.map (·.1) = others ∧ Lb.map (·.1) = others ∧ (∀ e ∈ Lo, Bun rows root e.1 (e.2.2.map (·.1)) ∧ e.2.2.length = n) ∧ (∀ e ∈ Lb, Bun rows e.1 root (e.2.2.map (·.1)) ∧ e.2.2.length = n)
theorem WaysAt.same {H H' : Hp} {v : Addr} {rows : List Sgn} {root : Str} {others : List Str} {n : Nat} (h : WaysAt K H v rows root others n) (s : Same H H') : WaysAt K H' v rows root others n :=
  let ⟨dx, o, b, Lo, Lb, h1, h2, h3, h4⟩ := h; ⟨dx, o, b, Lo, Lb, s _ _ h1, h2.same s, h3.same s, h4⟩
theorem Bun.take {rows : List Sgn} {a b : Str} {ws : List (List Str)} (h : Bun rows a b ws) (n : Nat) : Bun rows a b (ws.take n) := by
  refine ⟨fun ns hn => h.wlk ns (List.mem_of_mem_take hn), ?_⟩
  have : ws.flatten = (ws.take n).flatten ++ (ws.drop n).flatten := by rw [← List.flatten_append, List.take_append_drop]
  have nd := h.nd
  rw [this] at nd
  exact (List.nodup_append.mp nd).1
def sp_ways_for (K : PySem.W.Frag) : Sp0 := fun vs H Q => ∃ (t a : Addr) (ps : List Sgn) (ss : List (Stv × Addr)) (root : Str) (others : List Str) (n : Nat), vs = [.ref t, .ref a, .int n] ∧ Site K H t a ps ss (root :: others) ∧ (∀ ap, IsWard (root :: others) ap → n ≤ enterN (arcsOf ps ss) ap) ∧
  ∀ H' v, Same H H' → WaysAt K H' v (arcsOf ps ss) root others n → Q (.ref v) H'
abbrev n_ways_for : List Str := ["town", "signs", "need", "root", "out", "back", "corner"]
theorem sc_ways_for : FnScope n_ways_for ["town", "signs", "need"] (defScope s_ways_for) := ⟨rfl, rfl, rfl, by decide +kernel, rfl, by decide +kernel, by decide +kernel⟩
theorem fn_ways_for (T : Txt K mg) : Fn w K mg base 6 (a_ways_for K) (sp_ways_for K) := by
  refine fn_by (N := n_ways_for) (ps := ["town", "signs", "need"]) (st := s_ways_for) (T.fn 20 rfl) sc_ways_for (fun _ _ _ _ _ _ us hl => match us, hl with | [_, _, _], _ => rfl) (by rintro vs H Q ⟨t, a, ps, ss, root, others, n, rfl, st, hn, qq⟩; rfl) fun cdv A outer s H vs Q hr h => ?_
  obtain ⟨t, a, ps, ss, root, others, n, rfl, st, hn, qq⟩ := h
  refine ⟨_, pss_cons (ps_set (i := 3) sc_ways_for.nd rfl (by first | exact .inl rfl | exact .inr rfl) (pe_ix (ixT_ K) (pe_prop1 (T.cls T.r_c_Town) (propB_ok T.r_p_Town_corners) (fn_Town_corners T) (hr.mono (by decide)) (pv 0)) pe_int (fun _ _ => rfl)))
  (pss_cons (ps_par (i := 4) (j := 5) rfl sc_ways_for.nd rfl rfl (by decide) rfl rfl (pa_cons pe_dnewK (pa_cons pe_dnewK pa_nil)) rfl)
  (pss_cons (ps_for PassesOwn.never rfl (piT_ K (pe_slice (slA_ K) (pe_prop1 (T.cls T.r_c_Town) (propB_ok T.r_p_Town_corners) (fn_Town_corners T) (hr.mono (by decide)) (pv 0)) (po_some pe_int) po_none)) (pg_name (i := 6) sc_ways_for.nd rfl (by first | exact .inl rfl | exact .inr rfl)) (pss_cons (ps_dput (hu_of hr) (pv 4) (pv 6) (pe_slice (slA_ K) (fld_ K (pe_fn (fn_bundle_for T) hr (by decide) (by rfl) (T.glo T.r_g_bundle_for) (T.kp 19 rfl) (pa_cons (pv 0) (pa_cons (pv 1) (pa_cons (pv 3) (pa_cons (pv 6) pa_nil)))))) po_none (po_some (pv 2))) rfl)
  (pss_one (ps_dput (hu_of hr) (pv 5) (pv 6) (pe_slice (slA_ K) (fld_ K (pe_fn (fn_bundle_for T) hr (by decide) (by rfl) (T.glo T.r_g_bundle_for) (T.kp 19 rfl) (pa_cons (pv 0) (pa_cons (pv 1) (pa_cons (pv 6) (pa_cons (pv 3) pa_nil)))))) po_none (po_some (pv 2))) rfl))))
  (pss_one (ps_ret (pe_mkP (T.mkr T.r_m_Ways) (fn_Ways_init T) (hr.mono (by decide)) (by rfl) (T.glo T.r_g_Ways) (pa_cons (pv 3) (pa_cons (pv 4) (pa_cons (pv 5) pa_nil)))))))), ?_⟩
  refine ⟨_, rfl, t, _, _, rfl, ⟨rfl, rfl⟩, ins_town st.t.rd, t, ss, rfl, st.t, fun H1 tp cs' s1 hcor htp => ?_⟩
  rw [cor_eq st.cor hcor] at htp
  refine ⟨_, _, _, _, rfl, rfl, SqT.of htp, atI_nat (j := 0) rfl, ?_⟩
  refine fun o ho => ?_
  refine fun b hb => ?_
  have ho0 := s1.free ho
  have hb1 : upd H1 o (.dK []) b = none := hb
  have nbo : b ≠ o := fun e => by rw [e, upd_same] at hb1; cases hb1
  have hb0 : H b = none := s1.free (by rw [upd_ne nbo] at hb1; exact hb1)
  refine ⟨_, _, rfl, ?_⟩
  have s2 : Same H (upd (upd H1 o (.dK [])) b (.dK [])) := ST.Same.upd (ST.Same.upd s1 ho0) hb0
  have hO : BAt (upd (upd H1 o (.dK [])) b (.dK [])) o [] := ⟨(upd_ne nbo.symm).trans upd_same, fun _ z => (nomatch z)⟩
  have hB : BAt (upd (upd H1 o (.dK [])) b (.dK [])) b [] := ⟨upd_same, fun _ z => (nomatch z)⟩
  generalize upd (upd H1 o (.dK [])) b (.dK []) = H2 at s2 hO hB
  clear htp hcor s1 ho hb hb1
  refine ⟨_, rfl, t, _, _, rfl, ⟨rfl, rfl⟩, ins_town (st.t.same s2).rd, t, ss, rfl, st.t.same s2, fun H3 tp cs' s3 hcor htp => ?_⟩
  rw [cor_eq st.cor hcor] at htp
  refine ⟨_, rfl, ?_⟩
  unfold tNoPart
  refine sl_rest htp fun q hq => ?_
  have s4 := s3.trans (same_upd (o := .tup (others.map V.str)) hq)
  have hQ : txts (upd H3 q (.tup (others.map V.str))) q others := upd_same
  generalize upd H3 q (.tup (others.map V.str)) = H4 at s4 hQ
  have h7 := st.cor.2.1
  have hnd := st.cor.1.nodup
  obtain ⟨hroot, hnd'⟩ := List.nodup_cons.mp hnd
  have h7' : others.length ≤ 7 := by
    rw [List.length_cons] at h7
    omega
  have s24 := s2.trans s4
  refine ⟨_, rfl, ⟨_, SqT.of hQ⟩, ?_⟩
  refine for_c (as := others) (c := V.str) src_t (fun i σ H5 => ∃ x6 Lo Lb, σ = [some (.ref t), some (.ref a), some (.int (n : Nat)), some (.str root), some (.ref o), some (.ref b), x6] ∧ Same H H5 ∧ txts H5 q others ∧ BAt H5 o Lo ∧ BAt H5 b Lb ∧
      Lo.map (·.1) = others.take i ∧ Lb.map (·.1) = others.take i ∧ (∀ e ∈ Lo, Bun (arcsOf ps ss) root e.1 (e.2.2.map (·.1)) ∧ e.2.2.length = n) ∧ (∀ e ∈ Lb, Bun (arcsOf ps ss) e.1 root (e.2.2.map (·.1)) ∧ e.2.2.length = n))
    ⟨_, [], [], rfl, s24, hQ, hO.same s4, hB.same s4, rfl, rfl, fun _ z => (nomatch z), fun _ z => (nomatch z)⟩ (fun i σ H5 _ ⟨_, _, _, _, _, h, _⟩ => SqT.of h) (fun i c σ H5 hc ⟨x6, Lo, Lb, e, s5, hq5, hO, hB, e1, e2, p1, p2⟩ => ?_) fun σ H5 ⟨x6, Lo, Lb, e, s5, hq5, hO, hB, e1, e2, p1, p2⟩ => ?_
  rotate_left
  · subst e
    rw [List.take_length] at e1 e2
    refine ⟨_, rfl, _, rfl, _, rfl, ?_⟩
    intro x dx hx hdx hne
    refine ⟨x, dx, _, _, _, rfl, upd_same, fun H9 b9 h9 => ⟨rfl, ?_⟩⟩
    have s9 := made_same hx hdx b9
    exact qq H9 x (s5.trans s9) ⟨dx, o, b, Lo, Lb, h9, hO.same s9, hB.same s9, e1, e2, p1, p2⟩
  subst e
  have hcm := List.mem_of_getElem? hc
  have nbo' : o ≠ b := nbo.symm
  have hi := (List.getElem?_eq_some_iff.mp hc).1
  have ncr : root ≠ c := fun e => hroot (e ▸ hcm)
  have hcn : c ∉ others.take i := fun m => by
    obtain ⟨j, hj⟩ := List.mem_iff_getElem?.mp m
    have hji := (List.getElem?_eq_some_iff.mp hj).1
    rw [List.length_take] at hji
    have hj' : others[j]? = some c := by rwa [List.getElem?_take_of_lt (by omega)] at hj
    have := nd_ix hnd' hj' hc
    omega
  have lt15 : ∀ L : List Bnd, L.map (·.1) = others.take i → (L.map fun e => ((.inr e.1 : Key), V.ref e.2.1)).length < sizeLine := fun L e => by
    have e := congrArg List.length e
    rw [List.length_map, List.length_take] at e
    rw [List.length_map]
    exact Nat.lt_of_le_of_lt (show L.length ≤ 7 by omega) (by decide)
  have tk : others.take (i + 1) = others.take i ++ [c] := by rw [List.take_add_one, hc]; rfl
  have rm : root ∈ root :: others := List.mem_cons_self
  have cm : c ∈ root :: others := List.mem_cons_of_mem _ hcm
  have cut : ∀ {ws : List (List Str × Addr)} {ap : List Str}, IsWard (root :: others) ap → ws.length = enterN (arcsOf ps ss) ap → (ws.take n).length = n := fun hw hl => by
    rw [List.length_take, hl, Nat.min_eq_left (hn _ hw)]
  refine ⟨_, rfl, _, rfl, _, rfl, _, rfl, t, a, root, c, ps, ss, _, rfl, st.same s5, rm, cm, ncr, fun H6 bd dx wp wd ws s6 hbd hws bun ⟨ap, hap, hwl⟩ => ?_⟩
  refine ⟨bd, _, dx, _, _, rfl, hbd, T.cls T.r_c_Bundle, T.noat T.r_n_Bundle_walks, rfl, _, rfl, _, rfl, ?_⟩
  refine sl_take hws.1 fun H7 wq s7 hwq => ?_
  have s57 := s6.trans s7
  rw [← List.map_take] at hwq
  have hwq' : WalksAt H7 wq (ws.take n) := ⟨hwq, fun b hb => s7 _ _ (hws.2 b (List.mem_of_mem_take hb))⟩
  have hO7 := hO.same s57
  refine ⟨_, rfl, _, rfl, o, _, rfl, .inl ⟨_, .inr c, hO7.1, rfl, lt15 Lo e1, rfl⟩, ?_⟩
  have hO8 := hO7.put hwq' (by rw [e1]; exact hcn)
  have s8 := ST.Same.upd (s5.trans s57) ho0 (o := .dK (putK (Lo.map fun e => ((.inr e.1 : Key), V.ref e.2.1)) (.inr c) (.ref wq)))
  have hB8 : BAt (upd H7 o (.dK (putK (Lo.map fun e => ((.inr e.1 : Key), V.ref e.2.1)) (.inr c) (.ref wq)))) b Lb := by
    have q := hB.same s57
    have up : ∀ x u, H7 x = some u → (∀ kvs, u ≠ .dK kvs) → upd H7 o (.dK (putK (Lo.map fun e => ((.inr e.1 : Key), V.ref e.2.1)) (.inr c) (.ref wq))) x = some u := fun x u e n => (upd_ne (fun z => by rw [z, hO7.1] at e; exact n _ (Option.some.inj e).symm)).trans e
    exact ⟨(upd_ne nbo).trans q.1, fun e he => ⟨up _ _ (q.2 e he).1 (fun _ z => (nomatch z)), fun b hb => up _ _ ((q.2 e he).2 b hb) (fun _ z => (nomatch z))⟩⟩
  have hq8 : txts (upd H7 o (.dK (putK (Lo.map fun e => ((.inr e.1 : Key), V.ref e.2.1)) (.inr c) (.ref wq)))) q others := (upd_ne (ne_of (s57 _ _ hq5) hO7.1 (fun z => nomatch z))).trans (s57 _ _ hq5)
  generalize upd H7 o (.dK (putK (Lo.map fun e => ((.inr e.1 : Key), V.ref e.2.1)) (.inr c) (.ref wq))) = H8 at hO8 s8 hB8 hq8
  refine ⟨_, rfl, _, rfl, _, rfl, _, rfl, t, a, c, root, ps, ss, _, rfl, st.same s8, cm, rm, ncr.symm, fun H9 bd2 dx2 wp2 wd2 ws2 s9 hbd2 hws2 bun2 ⟨ap2, hap2, hwl2⟩ => ?_⟩
  refine ⟨bd2, _, dx2, _, _, rfl, hbd2, T.cls T.r_c_Bundle, T.noat T.r_n_Bundle_walks, rfl, _, rfl, _, rfl, ?_⟩
  refine sl_take hws2.1 fun H10 wq2 s10 hwq2 => ?_
  have s910 := s9.trans s10
  rw [← List.map_take] at hwq2
  have hwq2' : WalksAt H10 wq2 (ws2.take n) := ⟨hwq2, fun b hb => s10 _ _ (hws2.2 b (List.mem_of_mem_take hb))⟩
  have hB10 := hB8.same s910
  have hO10 := hO8.same s910
  refine ⟨_, rfl, _, rfl, b, _, rfl, .inl ⟨_, .inr c, hB10.1, rfl, lt15 Lb e2, rfl⟩, ?_⟩
  have up : ∀ x u, H10 x = some u → (∀ kvs, u ≠ .dK kvs) → upd H10 b (.dK (putK (Lb.map fun e => ((.inr e.1 : Key), V.ref e.2.1)) (.inr c) (.ref wq2))) x = some u := fun x u e n => (upd_ne (fun z => by rw [z, hB10.1] at e; exact n _ (Option.some.inj e).symm)).trans e
  refine ⟨_, Lo ++ [(c, wq, ws.take n)], Lb ++ [(c, wq2, ws2.take n)], rfl, ST.Same.upd (s8.trans s910) hb0, up _ _ (s910 _ _ hq8) (fun _ z => (nomatch z)), ⟨(upd_ne nbo').trans hO10.1, fun e he => ⟨up _ _ (hO10.2 e he).1 (fun _ z => (nomatch z)), fun b hb => up _ _ ((hO10.2 e he).2 b hb) (fun _ z => (nomatch z))⟩⟩,
    hB10.put hwq2' (by rw [e2]; exact hcn), by rw [List.map_append, e1, tk]; rfl, by rw [List.map_append, e2, tk]; rfl, fun e he => ?_, fun e he => ?_⟩
  · rcases List.mem_append.mp he with m | m
    · exact p1 e m
    · rw [List.mem_singleton.mp m]
      exact ⟨by show Bun _ _ _ ((ws.take n).map (·.1)); rw [List.map_take]; exact bun.take n, cut hap hwl⟩
  · rcases List.mem_append.mp he with m | m
    · exact p2 e m
    · rw [List.mem_singleton.mp m]
      exact ⟨by show Bun _ _ _ ((ws2.take n).map (·.1)); rw [List.map_take]; exact bun2.take n, cut hap2 hwl2⟩
end
end ST
end
section
set_option Elab.async false
set_option linter.all false
set_option maxRecDepth 100000
set_option maxHeartbeats 1000000
/-! Walks looked at. -/
namespace ST
open PySem PySem.Spec PyProof.Rows L2 SgO
section
variable {w : World} {K : PySem.W.Frag} {mg : Str → Option Value} {base : Heap}
theorem Wlk.head {rows : List Sgn} {a n b : Str} {r : List Str} (h : Wlk rows a (n :: r) b) : ∃ d, (n, a, d) ∈ rows ∧ Wlk rows d r b := by
  cases h with
  | cons h1 h2 => exact ⟨_, h1, h2⟩
theorem RowsOk.one {rows : List Sgn} (ok : RowsOk rows) {n a d e : Str} (h1 : (n, a, d) ∈ rows) (h2 : (n, a, e) ∈ rows) : e = d := by
  rcases ok.two _ h1 _ h2 rfl with z | ⟨z, _⟩
  · injection z with _ z
    injection z with _ z
  · exact absurd z (ok.ne _ h1)
theorem nd_take {l : List Str} (h : l.Nodup) {i : Nat} {x : Str} (hx : l[i]? = some x) : x ∉ l.take i := fun m => by
  obtain ⟨j, hj⟩ := List.mem_iff_getElem?.mp m
  have hji := (List.getElem?_eq_some_iff.mp hj).1
  rw [List.length_take] at hji
  have hj' : l[j]? = some x := by rwa [List.getElem?_take_of_lt (by omega)] at hj
  have := nd_ix h hj' hx
  omega
theorem drop_at {l : List Str} {i : Nat} {x : Str} (hx : l[i]? = some x) : l.drop i = x :: l.drop (i + 1) := by
  obtain ⟨h, rfl⟩ := List.getElem?_eq_some_iff.mp hx
  exact List.drop_eq_getElem_cons h
def sp_walk_ends (K : PySem.W.Frag) : Sp0 := fun vs H Q => ∃ (t a tp : Addr) (start goal : Str) (ps : List Sgn) (ss : List (Stv × Addr)) (cs ns : List Str), vs = [.ref t, .ref a, .ref tp, .str start] ∧ Site K H t a ps ss cs ∧ txts H tp ns ∧ ns ≠ [] ∧ ns.Nodup ∧ Wlk (arcsOf ps ss) start ns goal ∧ ∀ H', Same H H' → Q (.str goal) H'
abbrev n_walk_ends : List Str := ["town", "signs", "walk", "start", "rows", "corner", "at", "name", "goals", "street", "tail", "head"]
theorem sc_walk_ends : FnScope n_walk_ends ["town", "signs", "walk", "start"] (defScope s_walk_ends) := ⟨rfl, rfl, rfl, by decide +kernel, rfl, by decide +kernel, by decide +kernel⟩
theorem fn_walk_ends (T : Txt K mg) : Fn w K mg base 5 (a_walk_ends K) (sp_walk_ends K) := by
  refine fn_by (N := n_walk_ends) (ps := ["town", "signs", "walk", "start"]) (st := s_walk_ends) (T.fn 21 rfl) sc_walk_ends (fun _ _ _ _ _ _ us hl => match us, hl with | [_, _, _, _], _ => rfl) (by rintro vs H Q ⟨t, a, tp, start, goal, ps, ss, cs, ns, rfl, st, htp, hne, hnd, hw, qq⟩; rfl) fun cdv A outer s H vs Q hr h => ?_
  obtain ⟨t, a, tp, start, goal, ps, ss, cs, ns, rfl, st, htp, hne, hnd, hw, qq⟩ := h
  refine ⟨_, pss_cons (ps_if (PW.pt (pw_or (pt_not (pt_val (pe_callB (isi_ K) (by rfl) (T.free T.r_f_isinstance) bb_isinstance (pa_cons (pv 2) (pa_cons (pe_bT (T.free T.r_f_tuple) bb_tuple) pa_nil))))) (pw_or (pt_cmpR op_eq (pe_callB (lenQ_ K) (by rfl) (T.free T.r_f_len) bb_len (pa_cons (pv 2) pa_nil)) pe_int (by first | rfl | exact nomark _)) (pw_or1 (pt_not (pt_val (pe_callB (isi_ K) (by rfl) (T.free T.r_f_isinstance) bb_isinstance (pa_cons (pv 3) (pa_cons (pe_bT (T.free T.r_f_str) bb_str) pa_nil))))))))) (pss_one (ps_ret (pe_non))) (pss_nil))
  (pss_cons (ps_set (i := 4) sc_walk_ends.nd rfl (by first | exact .inl rfl | exact .inr rfl) (pe_fn (fn_arcs T) hr (by decide) (by rfl) (T.glo T.r_g_arcs) (T.kp 14 rfl) (pa_cons (pv 0) (pa_cons (pv 1) pa_nil))))
  (pss_cons (ps_set (i := 5) sc_walk_ends.nd rfl (by first | exact .inl rfl | exact .inr rfl) (pv 3))
  (pss_cons (ps_for PassesOwn.never rfl (SgE.pi_enumT (by rfl) (T.free T.r_f_enumerate) (pa_cons (pv 2) pa_nil)) (gtup_ K (n := 2) (pgs_cons (pg_name (i := 6) sc_walk_ends.nd rfl (by first | exact .inl rfl | exact .inr rfl)) (pgs_cons (pg_name (i := 7) sc_walk_ends.nd rfl (by first | exact .inl rfl | exact .inr rfl)) pgs_nil))) (pss_cons (ps_if (PW.pt (pw_or (pt_not (pt_val (pe_callB (isi_ K) (by rfl) (T.free T.r_f_isinstance) bb_isinstance (pa_cons (pv 7) (pa_cons (pe_bT (T.free T.r_f_str) bb_str) pa_nil))))) (pw_or1 (pt_cmpR (inQ_ K) (pv 7) (pe_slice (slA_ K) (pv 2) po_none (po_some (pv 6))) (by first | rfl | exact nomark _))))) (pss_one (ps_ret (pe_non))) (pss_nil))
  (pss_cons (ps_setLc (i := 8) (own := [("street", 9), ("tail", 10), ("head", 11)]) rfl sc_walk_ends.nd rfl rfl (sw_true rfl rfl rfl (by decide +kernel)) (piL_ K (pv 4)) (blkOk_by (own := [("street", 9), ("tail", 10), ("head", 11)]) (N := n_walk_ends) (sc := defScope s_walk_ends) (by decide +kernel)) (fun _ _ _ _ _ => gtup_ K (n := 3) (pgs_cons (pg_name (i := 9) sc_walk_ends.nd rfl (by first | exact .inl rfl | exact .inr rfl)) (pgs_cons (pg_name (i := 10) sc_walk_ends.nd rfl (by first | exact .inl rfl | exact .inr rfl)) (pgs_cons (pg_name (i := 11) sc_walk_ends.nd rfl (by first | exact .inl rfl | exact .inr rfl)) pgs_nil)))) (fun _ _ _ _ _ => pts_one (PW.pt (pw_and (pt_cmpR op_eq (pv 9) (pv 7) (by first | rfl | exact nomark _)) (pw_and1 (pt_cmpR op_eq (pv 10) (pv 5) (by first | rfl | exact nomark _)))))) (fun _ _ _ _ _ => pv 11))
  (pss_cons (ps_if (pt_cmpR op_eq (pe_callB (lenQ_ K) (by rfl) (T.free T.r_f_len) bb_len (pa_cons (pv 8) pa_nil)) pe_int (by first | rfl | exact nomark _)) (pss_one (ps_ret (pe_non))) (pss_nil))
  (pss_one (ps_set (i := 5) sc_walk_ends.nd rfl (by first | exact .inl rfl | exact .inr rfl) (pe_ix (ixL_ K) (pv 8) pe_int (fun _ _ => rfl))))))))
  (pss_one (ps_ret (pv 5)))))), ?_⟩
  have ao := st.arcs
  have l0 : 0 < ns.length := List.length_pos_iff.mpr hne
  refine ⟨_, rfl, _, _, _, rfl, isi_tt htp, _, rfl, ?_⟩
  refine ⟨_, rfl, _, _, rfl, .inr (SqT.of htp), rfl, _, rfl, ?_⟩
  rw [decide_eq_false (fun z => by have := V.int.inj z; rw [List.length_map] at this; omega)]
  refine ⟨_, rfl, _, _, _, rfl, isi_ss, _, rfl, ?_⟩
  refine ⟨_, rfl, _, rfl, t, a, ps, ss, rfl, st.t, st.a, st.sok, st.tok, st.fits, fun H1 r as s1 hr1 hr2 => ?_⟩
  have l28 : as.length ≤ 28 := by
    have := ao.len
    rwa [← hr2, List.length_map] at this
  refine ⟨_, rfl, ?_⟩
  refine ⟨_, rfl, tp, _, rfl, SqT.of (s1 _ _ htp), ?_⟩
  refine for_it (walk_enumT (xs := ns.map V.str)) (fun i σ H2 => ∃ c x6 x7 x8 x9 x10 x11, σ = [some (.ref t), some (.ref a), some (.ref tp), some (.str start), some (.ref r), some (.str c), x6, x7, x8, x9, x10, x11] ∧ Same H1 H2 ∧ Wlk (arcsOf ps ss) c (ns.drop i) goal)
    ⟨start, _, _, _, _, _, _, rfl, Same.refl _, hw⟩ (fun i σ H2 _ ⟨_, _, _, _, _, _, _, _, s2, _⟩ => SqT.of (s2 _ _ (s1 _ _ htp))) (fun i x σ H2 H3 hi ⟨c, x6, x7, x8, x9, x10, x11, e, s2, wl⟩ y => ?_) fun σ H2 ⟨c, x6, x7, x8, x9, x10, x11, e, s2, wl⟩ => ?_
  rotate_left
  · subst e
    rw [List.length_map, List.drop_length] at wl
    cases wl
    exact ⟨_, rfl, qq _ (s1.trans s2)⟩
  subst e
  obtain ⟨T', x1, x2, rfl, hT, rfl, e1, e2⟩ := y
  cases e1
  have e2 : (ns.map V.str)[i]? = some x2 := e2
  rw [List.getElem?_map] at e2
  obtain ⟨n, hn, rfl⟩ := Option.map_eq_some_iff.mp e2
  rw [drop_at hn] at wl
  obtain ⟨d, hd, wl'⟩ := wl.head
  rw [List.length_map] at hi
  have s3 := s2.trans (same_upd (o := .tup [.int (i : Nat), .str n]) hT)
  refine ⟨T', _, rfl, SqT.of upd_same, rfl, _, _, rfl, _, _, rfl, rfl, ?_⟩
  generalize upd H2 T' (.tup [.int (i : Nat), .str n]) = H3 at s3
  refine ⟨_, rfl, _, _, _, rfl, isi_ss, _, rfl, ?_⟩
  refine ⟨_, rfl, _, rfl, _, rfl, _, rfl, ?_⟩
  refine sl_take ((s1.trans s3) _ _ htp) fun H4 q s4 hq => ?_
  rw [← List.map_take] at hq
  refine ⟨q, _, rfl, .inr (SqT.of hq), rfl, flat_txts _, _, rfl, ?_⟩
  have i1 : (if false = true then !inV (.str n) ((ns.take i).map V.str) else inV (.str n) ((ns.take i).map V.str)) = false := by rw [if_neg Bool.false_ne_true, inV_txts, decide_eq_false (nd_take hnd hn)]
  rw [i1]
  refine iteF ?_
  have s34 := s3.trans s4
  have hr4 := hr1.same s34
  refine ⟨_, rfl, r, rfl, ⟨_, SqL.of hr4.1⟩, fun D hD => ?_⟩
  refine lc_pure (as := as) (c := fun a => .ref a.2) src_l (fun a => decide (a.1.1 = n) && decide (a.1.2.1 = c)) (fun a => .str a.1.2.2) hD (fun H5 sm => SqL.of (sm _ _ hr4.1)) (Nat.lt_of_le_of_lt l28 (by decide)) (fun i b H5 Kt Kf hb sm k1 k2 => ?_) fun H5 s5 hl => ?_
  · have e3 := sm _ _ (hr4.2 b (List.mem_of_getElem? hb))
    refine ⟨b.2, _, rfl, SqT.of e3, rfl, _, _, rfl, _, _, rfl, _, _, rfl, rfl, ?_⟩
    refine ⟨rfl, _, rfl, _, rfl, rfl, _, rfl, ?_⟩
    by_cases c1 : b.1.1 = n
    · rw [decide_eq_true (congrArg V.str c1)]
      refine ⟨_, rfl, _, rfl, rfl, _, rfl, ?_⟩
      by_cases c2 : b.1.2.1 = c
      · rw [decide_eq_true (congrArg V.str c2)]
        exact ⟨_, rfl, k1 _ (by rw [decide_eq_true c1, decide_eq_true c2]; rfl) (Same.refl _)⟩
      · rw [decide_eq_false (fun z => c2 (V.str.inj z))]
        exact iteF (k2 _ (by rw [decide_eq_false c2, Bool.and_false]) (Same.refl _))
    · rw [decide_eq_false (fun z => c1 (V.str.inj z))]
      exact iteF (iteF (k2 _ (by rw [decide_eq_false c1, Bool.false_and]) (Same.refl _)))
  have hd' : (n, c, d) ∈ as.map (·.1) := hr2 ▸ hd
  obtain ⟨b0, hb0, eb0⟩ := mem_fst hd'
  have hin : b0 ∈ as.filter fun a => decide (a.1.1 = n) && decide (a.1.2.1 = c) := List.mem_filter.mpr ⟨hb0, by rw [eb0]; simp⟩
  cases ef : as.filter fun a => decide (a.1.1 = n) && decide (a.1.2.1 = c) with
  | nil =>
    rw [ef] at hin
    cases hin
  | cons b1 rest =>
    rw [ef] at hl
    have hb1 : b1 ∈ as.filter fun a => decide (a.1.1 = n) && decide (a.1.2.1 = c) := by rw [ef]; exact List.mem_cons_self
    obtain ⟨m1, m2⟩ := List.mem_filter.mp hb1
    obtain ⟨m3, m4⟩ := ands m2
    have m3 := of_decide_eq_true m3
    have m4 := of_decide_eq_true m4
    have m5 : (n, c, b1.1.2.2) ∈ arcsOf ps ss := by
      rw [← hr2, ← m3, ← m4]
      exact List.mem_map.mpr ⟨b1, m1, rfl⟩
    have ed := ao.ok.one hd m5
    refine ⟨_, rfl, D, _, rfl, .inl (SqL.of hl), rfl, _, rfl, ?_⟩
    rw [decide_eq_false (fun z => by have := V.int.inj z; rw [List.map_cons, List.length_cons] at this; omega)]
    refine iteF ?_
    refine ⟨_, rfl, D, _, _, _, rfl, rfl, SqL.of hl, atI_nat (j := 0) rfl, ?_⟩
    exact ⟨b1.1.2.2, _, _, _, _, _, _, rfl, s34.trans s5, by rw [ed]; exact wl'⟩
def sp_is_walk (K : PySem.W.Frag) : Sp0 := fun vs H Q => ∃ (t a tp : Addr) (start goal : Str) (ps : List Sgn) (ss : List (Stv × Addr)) (cs ns : List Str), vs = [.ref t, .ref a, .str start, .str goal, .ref tp] ∧ Site K H t a ps ss cs ∧ txts H tp ns ∧ ns ≠ [] ∧ ns.Nodup ∧ Wlk (arcsOf ps ss) start ns goal ∧ ∀ H', Same H H' → Q (.bl true) H'
abbrev n_is_walk : List Str := ["town", "signs", "start", "goal", "walk"]
theorem sc_is_walk : FnScope n_is_walk ["town", "signs", "start", "goal", "walk"] (defScope s_is_walk) := ⟨rfl, rfl, rfl, by decide +kernel, rfl, by decide +kernel, by decide +kernel⟩
theorem fn_is_walk (T : Txt K mg) : Fn w K mg base 6 (a_is_walk K) (sp_is_walk K) := by
  refine fn_by (N := n_is_walk) (ps := ["town", "signs", "start", "goal", "walk"]) (st := s_is_walk) (T.fn 22 rfl) sc_is_walk (fun _ _ _ _ _ _ us hl => match us, hl with | [_, _, _, _, _], _ => rfl) (by rintro vs H Q ⟨t, a, tp, start, goal, ps, ss, cs, ns, rfl, st, htp, hne, hnd, hw, qq⟩; rfl) fun cdv A outer s H vs Q hr h => ?_
  obtain ⟨t, a, tp, start, goal, ps, ss, cs, ns, rfl, st, htp, hne, hnd, hw, qq⟩ := h
  refine ⟨_, pss_cons (ps_expr (pe_fn (fn_need_town T) hr (by decide) (by rfl) (T.glo T.r_g_need_town) (T.kp 10 rfl) (pa_cons (pv 0) pa_nil)))
  (pss_cons (ps_expr (pe_fn (fn_need_fit T) hr (by decide) (by rfl) (T.glo T.r_g_need_fit) (T.kp 11 rfl) (pa_cons (pv 0) (pa_cons (pv 1) pa_nil))))
  (pss_one (ps_ret (pe_and (pe_callB (isi_ K) (by rfl) (T.free T.r_f_isinstance) bb_isinstance (pa_cons (pv 3) (pa_cons (pe_bT (T.free T.r_f_str) bb_str) pa_nil))) (pe_one (pe_cmpR op_eq (pe_fn (fn_walk_ends T) hr (by decide) (by rfl) (T.glo T.r_g_walk_ends) (T.kp 21 rfl) (pa_cons (pv 0) (pa_cons (pv 1) (pa_cons (pv 4) (pa_cons (pv 2) pa_nil))))) (pv 3) (by first | rfl | exact nomark _))))))), ?_⟩
  refine ⟨_, rfl, t, ss, rfl, st.t, ?_⟩
  refine ⟨_, rfl, _, rfl, t, a, ps, ss, rfl, st.a, st.t, st.sok, st.tok, st.fits, fun H1 s1 => ?_⟩
  refine ⟨_, rfl, _, _, _, rfl, isi_ss, _, rfl, ?_⟩
  refine ⟨_, rfl, _, rfl, _, rfl, _, rfl, t, a, tp, start, goal, ps, ss, cs, ns, rfl, st.same s1, s1 _ _ htp, hne, hnd, hw, fun H2 s2 => ?_⟩
  refine ⟨_, rfl, rfl, ?_⟩
  rw [decide_eq_true rfl]
  exact qq H2 (s1.trans s2)
end
end ST
end
section
set_option Elab.async false
set_option linter.all false
set_option maxRecDepth 100000
set_option maxHeartbeats 1000000
/-! The wards of a town. -/
namespace ST
open PySem PySem.Spec PyProof.Rows L2 SgO SgG
/-! ### choices of so many -/
def comb : Nat → List Str → List (List Str)
  | 0, _ => [[]]
  | _ + 1, [] => []
  | m + 1, x :: r => (comb m r).map (x :: ·) ++ comb (m + 1) r
theorem comb_sub : ∀ {m : Nat} {xs c : List Str}, c ∈ comb m xs → c.Sublist xs ∧ c.length = m
  | 0, xs, c, h => by
    rw [comb, List.mem_singleton] at h
    subst h
    exact ⟨List.nil_sublist _, rfl⟩
  | m + 1, [], c, h => by cases h
  | m + 1, x :: r, c, h => by
    rw [comb] at h
    rcases List.mem_append.mp h with h | h
    · obtain ⟨d, hd, rfl⟩ := List.mem_map.mp h
      obtain ⟨h1, h2⟩ := comb_sub hd
      exact ⟨h1.cons_cons x, by rw [List.length_cons, h2]⟩
    · obtain ⟨h1, h2⟩ := comb_sub h
      exact ⟨h1.cons x, h2⟩
theorem comb_all : ∀ {xs c : List Str}, c.Sublist xs → c ∈ comb c.length xs
  | [], c, h => by
    rw [List.sublist_nil.mp h]
    exact List.mem_singleton.mpr rfl
  | x :: r, [], h => List.mem_singleton.mpr rfl
  | x :: r, y :: c, h => by
    rw [List.length_cons, comb]
    cases h with
    | cons _ h => exact List.mem_append_right _ (comb_all h)
    | cons_cons _ h => exact List.mem_append_left _ (List.mem_map.mpr ⟨c, comb_all h, rfl⟩)
theorem comb_short : ∀ {m : Nat} {xs : List Str}, xs.length < m → comb m xs = []
  | 0, _, h => absurd h (Nat.not_lt_zero _)
  | m + 1, [], _ => rfl
  | m + 1, x :: r, h => by
    rw [List.length_cons] at h
    rw [comb, comb_short (by omega), comb_short (by omega)]
    rfl
def wardsL (cs : List Str) : List (List Str) := (List.range (cs.length - 1)).flatMap fun k => comb (k + 1) cs
theorem mem_wardsL {cs ap : List Str} : ap ∈ wardsL cs ↔ IsWard cs ap := by
  unfold wardsL
  rw [List.mem_flatMap]
  constructor
  · rintro ⟨k, hk, h⟩
    obtain ⟨h1, h2⟩ := comb_sub h
    rw [List.mem_range] at hk
    refine ⟨h1, fun e => ?_, fun e => ?_⟩
    · rw [e] at h2
      cases h2
    · rw [e] at h2
      omega
  · rintro ⟨h1, h2, h3⟩
    have l1 := h1.length_le
    have l2 : ap.length ≠ cs.length := fun e => h3 (h1.eq_of_length e)
    have l3 := List.length_pos_iff.mpr h2
    refine ⟨ap.length - 1, List.mem_range.mpr (by omega), ?_⟩
    have := comb_all h1
    rwa [show ap.length - 1 + 1 = ap.length by omega]
section
variable {w : World} {K : PySem.W.Frag} {mg : Str → Option Value} {base : Heap}
theorem sl_takeI {H : Hp} {a : Addr} {xs : List V} {i : Int} {n : Nat} {Q : VK} (h : H a = some (.tup xs)) (e : i = (n : Int)) (q : ∀ H' p, Same H H' → H' p = some (.tup (xs.take n)) → Q (.ref p) H') : rSlA K (.ref a) none (some i) H Q := by
  subst e
  exact sl_take h q
theorem sl_dropT {H : Hp} {a : Addr} {xs : List V} {i : Int} {n : Nat} {σ : L2.St} {Q : VK} (h : H a = some (.tup xs)) (e : i = (n : Int)) (h0 : 0 < n) (hl : 0 < xs.length) (q : ∀ p, H p = none → Q (.ref p) (upd H p (.tup (xs.drop n)))) : tNoPart σ H (fun u H3 => rSlA K (.ref a) (some i) u H3 Q) := by
  subst e
  exact sl_drop h h0 hl q
/-! ### a generator def, by its body -/
theorem gfn_by {x qual : Str} {st : Stmt} {f : Addr} {N ps : List Str} {k : Nat} {sp : SpX} (F : ∃ fd, FunD K x qual (defArgs st) (defBody st) (defScope st) [] [] f fd) (S : GScope N ps (defScope st)) (noc : ∀ y ∈ (defScope st).names, y.2 ≠ .cell)
    (hb : ∀ (kV doc pm : Value) (an : Option Addr) (cdv ct : Value) (us : List Value), us.length = ps.length → bindArgs (PySem.W.fnOf x qual (defArgs st) (defBody st) (defScope st) .none kV doc pm an cdv ct) ⟨us, []⟩ = pure (ps.zip us))
    (len : ∀ vs H xs, sp vs H xs → vs.length = ps.length)
    (hbody : ∀ (A : Around) (outer : List Env) (lo : Addr) (own : Addr × Obj) (g : Nat) (cdv : Value) (vs : List V) (H : Hp) (xs : List Item), Room k (A.deeper (envOfC qual (defScope st) lo f cdv)) → sp vs H xs →
      ∃ t, GSsx ⟨Sg, w, K, mg, base, A, outer, lo, own, g⟩ (envOfC qual (defScope st) lo f cdv) N true (defBody st) t ∧ ∀ H2, Same H H2 → t { nx := fun ys _ _ => ys = [], rt := fun ys v _ => ys = [] ∧ v = .non } xs (L2.start N vs) H2) :
    GFx Sg w K mg base (k + 2) f sp := by
  obtain ⟨fd, F⟩ := F
  obtain ⟨oc, od, dV, kV, doc, pm, an, cdv, ct, osl, rfl, lk, hcd, hd, _⟩ := F.ex
  have hdV : dV = .none := by
    rcases hd with ⟨_, e⟩ | ⟨e, _⟩
    · exact e
    · exact absurd rfl e
  subst hdV
  refine gfx_of lk hcd S noc (.all (hb kV doc pm an cdv ct)) len ?_
  rintro ⟨P', w', K', mg', base', A, outer, lo, own, g⟩ vs H xs rfl rfl rfl rfl rfl hr _ h
  exact hbody A outer lo own g cdv vs H xs hr h
theorem GFx.mono {k k' : Nat} {f : Addr} {sp sp' : SpX} (F : GFx Sg w K mg base k f sp) (h : k ≤ k') (hs : ∀ vs H xs, sp' vs H xs → sp vs H xs) : GFx Sg w K mg base k' f sp' := by
  intro A outer s H us vs xs hr e0 r hsp
  refine codeAny_mono (F A outer s H us vs xs (hr.mono h) e0 r (hs _ _ _ hsp)) fun r s' q => ?_
  cases r with
  | error e => exact q
  | ok fl =>
    cases fl with
    | ret u =>
      obtain ⟨a, lo, go, g, D, cc, nm, qn, h1, h2, h3, h4, h5, h6, h7, h8, h9, h10, h11⟩ := q
      exact ⟨a, lo, go, g, D, cc, nm, qn, h1, h2, h3, h4, h5, h6, h7, h8, h9, h10, fun XA hX => h11 XA (hX.mono h)⟩
    | next => exact q
    | brk => exact q
    | cont => exact q
/-- a for in a generator def over a walk -/
theorem gfor_it {J : It} {n : Nat} {G : Hp → Prop} {Y : Nat → Hp → V → Hp → Prop} (wk : Walk J n G Y) {g : TG} {tb : TGx} {D : GEn} {xs : List Item} {σ : L2.St} {H : Hp} (Pv : Nat → NX) (h0 : Pv 0 xs σ H) (hG : ∀ i xs σ H, i ≤ n → Pv i xs σ H → G H)
    (hs : ∀ i x xs σ H H', i < n → Pv i xs σ H → Y i H x H' → Same H H' ∧ g x σ H' fun σ2 H2 => Same H' H2 ∧ tb { D with nx := Pv (i + 1), ct := Pv (i + 1), bk := D.nx } xs σ2 H2) (hd : ∀ xs σ H, Pv n xs σ H → D.nx xs σ H) :
    ∃ W : Nat → Nat → NX, (∃ m, W 0 m xs σ H) ∧ ∀ i m xs σ H, W i m xs σ H → (J.stop i H ∧ D.nx xs σ H) ∨ (J.go i H ∧ ∃ Nn : NX, (∀ xs' σ' H', Nn xs' σ' H' → ∃ m', m' < m ∧ W (i + 1) m' xs' σ' H') ∧
      ∀ x H', J.yld i H x H' → Same H H' ∧ g x σ H' fun σ2 H2 => Same H' H2 ∧ tb { D with nx := Nn, ct := Nn, bk := D.nx } xs σ2 H2) := by
  refine ⟨fun i m xs σ H => m = n - i ∧ i ≤ n ∧ Pv i xs σ H, ⟨n, by simp, Nat.zero_le _, h0⟩, ?_⟩
  rintro i m xs σ H ⟨rfl, hi, p⟩
  have q := hG i xs σ H hi p
  by_cases hlt : i < n
  · exact .inr ⟨wk.goes i H hlt q, Pv (i + 1), fun xs' σ' H' p' => ⟨n - (i + 1), by omega, rfl, hlt, p'⟩, fun x H' y => hs i x xs σ H H' hlt p (wk.yields i H x H' hlt q y)⟩
  · have e : i = n := by omega
    subst e
    exact .inl ⟨wk.stops H q, hd xs σ H p⟩
theorem enumT_ (K : PySem.W.Frag) {X : Cx} {e : Expr} {ta : TA} {p pos tpos : Pos} {elts : List Expr} {kk : Nat} (hg : Gl X "enumerate") (hm : X.mg "enumerate" = none) (ha : PA X [e] ta) (h : X.K = K := by rfl) (hs : starEach [e] X.env = [(false, eval e X.env)] := by rfl) :
    PI X (.Tuple elts kk tpos) (.Call (.Name "enumerate" p) [e] [] pos) (SgE.iEnumT K ta) := h ▸ SgE.pi_enumT hg hm ha hs
theorem star_ (K : PySem.W.Frag) {X : Cx} {e : Expr} {es : List Expr} {te : TE} {t : TA} {p : Pos} (he : PE X e te) (hr : PA X es t) (h : X.K = K := by rfl) (hs : starEach (.Starred e p :: es) X.env = (true, eval e X.env) :: starEach es X.env := by rfl) : PA X (.Starred e p :: es) (StX.tStar K te t) := h ▸ StX.pa_star he hr hs
theorem mkS_ (K : PySem.W.Frag) {X : Cx} {C f : Addr} {k : Nat} {sp : Sp} {x : Str} {p pos p2 : Pos} {e : Expr} {te : TE} (M : Mk X.K C f) (F : Pr X k f sp) (hr : Room (k + 1) X.A) (hg : Gl X x) (hm : X.mg x = some (.ref C)) (he : PE X e te) (h : X.K = K := by rfl) (hdb : (x == ("__debug__" : Str)) = false := by decide)
    (hst : starEach [.Starred e p2] X.env = [(true, eval e X.env)] := by rfl) : PE X (.Call (.Name x p) [.Starred e p2] [] pos) (fun σ H Q => te σ H fun y H1 => ∃ a xs, y = V.ref a ∧ (SqT K H1 a xs ∨ SqL K H1 a xs) ∧ afterMk C sp xs H1 Q) := h ▸ pe_mkS M F hr hg hm he hdb hst
def itm (cs : List Str) : Item := fun y H => ∃ a, y = .ref a ∧ txts H a cs
def itW (K : PySem.W.Frag) (cs : List Str) : Item := fun y H => ∃ a, y = .ref a ∧ WAt K H a cs
def spPk (m : Nat) : SpX := fun vs H xs => ∃ (tp : Addr) (ns : List Str), vs = [.ref tp, .int (m : Nat)] ∧ txts H tp ns ∧ m ≤ ns.length ∧ ns.length ≤ 7 ∧ xs = (comb m ns).map itm
abbrev n_picks : List Str := ["names", "many", "at", "name", "rest"]
theorem gs_picks : GScope n_picks ["names", "many"] (defScope s_picks) := ⟨rfl, rfl, rfl, by decide +kernel, rfl, by decide +kernel, by decide +kernel⟩
theorem picks_body (T : Txt K mg) {m j : Nat} {sp' : SpX} (F : GFx Sg w K mg base j (a_picks K) sp') (h' : ∀ n, m = n + 1 → ∀ vs H xs, spPk n vs H xs → sp' vs H xs) : GFx Sg w K mg base (j + 2) (a_picks K) (spPk m) := by
  refine gfn_by (N := n_picks) (ps := ["names", "many"]) (st := s_picks) (T.fn 9 rfl) gs_picks (by decide +kernel) (fun _ _ _ _ _ _ us hl => match us, hl with | [_, _], _ => rfl) (by rintro vs H xs ⟨tp, ns, rfl, _⟩; rfl) fun A outer lo own g cdv vs H xs hr h => ?_
  obtain ⟨tp, ns, rfl, htp, hm, h7, rfl⟩ := h
  refine ⟨_, gssx_cons (gsx_if (fun s0 H0 => pt_cmpR op_eq (pv 1) pe_int (by first | rfl | exact nomark _)) (gssx_one (gsx_yield (fun s0 H0 => pe_tup pa_nil) rfl rfl)) gssx_nil)
    (gssx_one (gsx_for (fun s0 H0 => enumT_ K (by rfl) (T.free T.r_f_enumerate) (pa_cons (pe_slice (slA_ K) (pv 0) po_none (po_some (pe_op op_add (pe_op op_sub (pe_callB (lenQ_ K) (by rfl) (T.free T.r_f_len) bb_len (pa_cons (pv 0) pa_nil)) (pv 1)) pe_int))) pa_nil))
      (fun s0 H0 => gtup_ K (n := 2) (pgs_cons (pg_name (i := 2) gs_picks.nd rfl (by first | exact .inl rfl | exact .inr rfl)) (pgs_cons (pg_name (i := 3) gs_picks.nd rfl (by first | exact .inl rfl | exact .inr rfl)) pgs_nil)))
      (gssx_one (gsx_if (fun s0 H0 => pt_cmpR op_gt (pv 1) pe_int (by first | rfl | exact nomark _))
        (gssx_one (gsx_forG (fun s0 H0 => pgn_call F hr (T.kp 9 rfl) (by rfl) (T.glo T.r_g_picks) (pa_cons (pe_slice (slA_ K) (pv 0) (po_some (pe_op op_add (pv 2) pe_int)) po_none) (pa_cons (pe_op op_sub (pv 1) pe_int) pa_nil)))
          (fun s0 H0 => pg_name (i := 4) gs_picks.nd rfl (by first | exact .inl rfl | exact .inr rfl))
          (gssx_one (gsx_yield (fun s0 H0 => pe_tup (pa_cons (pv 3) (star_ K (pv 4) pa_nil))) rfl rfl)))) gssx_nil)))), ?_⟩
  intro H2 s2
  have ht2 := s2 _ _ htp
  have lenV : (ns.map V.str).length = ns.length := List.length_map _
  have szc : ∀ (x : Str) (c : List Str), c.length ≤ 7 → (V.str x :: (c.map V.str ++ [])).length ≤ sizeLine := fun x c h => by
    rw [List.append_nil, List.length_cons, List.length_map]
    exact Nat.le_trans (show c.length + 1 ≤ 8 by omega) (by decide)
  cases m with
  | zero =>
    refine ⟨_, rfl, rfl, _, rfl, Same.refl _, ?_⟩
    rw [decide_eq_true (show V.int ((0 : Nat) : Int) = V.int 0 from rfl)]
    refine ⟨sz0, fun p hp => ⟨same_upd hp, itm [], [], by rw [comb]; rfl, ⟨p, rfl, upd_same⟩, fun H3 s3' => ?_⟩⟩
    have s3 := (same_upd (o := .tup []) hp).trans s3'
    refine ⟨_, rfl, _, rfl, _, _, rfl, .inr (SqT.of (s3 _ _ ht2)), _, rfl, _, _, rfl, rfl, _, _, rfl, rfl, _, rfl, ?_⟩
    refine sl_takeI (n := ns.length + 1) (s3 _ _ ht2) (by rw [lenV]; omega) fun H4 q s4 hq => ?_
    refine ⟨q, _, rfl, SqT.of hq, s4, ?_⟩
    refine gfor_it (walk_enumT (xs := (ns.map V.str).take (ns.length + 1))) (fun i xs σ H5 => xs = [] ∧ Same H4 H5 ∧ ∃ x2 x3 x4, σ = [some (.ref tp), some (.int ((0 : Nat) : Int)), x2, x3, x4]) ⟨rfl, Same.refl _, _, _, _, rfl⟩ (fun i xs σ H5 _ h => SqT.of (h.2.1 _ _ hq)) (fun i x xs σ H5 H6 hi ⟨e0, s5, x2, x3, x4, e⟩ y => ?_) fun xs σ H5 h => h.1
    subst e0 e
    obtain ⟨T', x1, x2, rfl, hT, rfl, e1, e2⟩ := y
    cases e1
    refine ⟨same_upd hT, T', _, rfl, SqT.of upd_same, rfl, _, _, rfl, _, _, rfl, rfl, Same.refl _, ?_⟩
    refine ⟨_, rfl, _, _, rfl, rfl, _, rfl, Same.refl _, ?_⟩
    rw [decide_eq_false (show ¬ (0 : Int) < ((0 : Nat) : Int) by omega)]
    exact iteF ⟨rfl, s5.trans (same_upd hT), _, _, _, rfl⟩
  | succ n =>
    refine ⟨_, rfl, rfl, _, rfl, Same.refl _, ?_⟩
    rw [decide_eq_false (show ¬ V.int ((n + 1 : Nat) : Int) = V.int 0 from fun z => by have := V.int.inj z; omega)]
    refine iteF ?_
    refine ⟨_, rfl, _, rfl, _, _, rfl, .inr (SqT.of ht2), _, rfl, _, _, rfl, rfl, _, _, rfl, rfl, _, rfl, ?_⟩
    refine sl_takeI (n := ns.length - n) ht2 (by rw [lenV]; omega) fun H4 q s4 hq => ?_
    refine ⟨q, _, rfl, SqT.of hq, s4, ?_⟩
    have lenT : ((ns.map V.str).take (ns.length - n)).length = ns.length - n := by rw [List.length_take, lenV]; omega
    refine gfor_it (walk_enumT (xs := (ns.map V.str).take (ns.length - n))) (fun i xs σ H5 => xs = (comb (n + 1) (ns.drop i)).map itm ∧ Same H4 H5 ∧ ∃ x2 x3 x4, σ = [some (.ref tp), some (.int ((n + 1 : Nat) : Int)), x2, x3, x4]) ⟨by rw [List.drop_zero], Same.refl _, _, _, _, rfl⟩ (fun i xs σ H5 _ h => SqT.of (h.2.1 _ _ hq)) (fun i x xs σ H5 H6 hi ⟨e0, s5, x2, x3, x4, e⟩ y => ?_) fun xs σ H5 h => ?_
    rotate_left
    · rw [lenT] at h
      rw [h.1, comb_short (by rw [List.length_drop]; omega)]
      rfl
    subst e0 e
    obtain ⟨T', x1, x2, rfl, hT, rfl, e1, e2⟩ := y
    cases e1
    rw [lenT] at hi
    have e2 : ((ns.map V.str).take (ns.length - n))[i]? = some x2 := e2
    rw [List.getElem?_take_of_lt hi, List.getElem?_map] at e2
    obtain ⟨nm, hnm, rfl⟩ := Option.map_eq_some_iff.mp e2
    have s6 := s5.trans (same_upd (o := .tup [.int (i : Nat), .str nm]) hT)
    refine ⟨same_upd hT, T', _, rfl, SqT.of upd_same, rfl, _, _, rfl, _, _, rfl, rfl, Same.refl _, ?_⟩
    generalize upd H5 T' (.tup [.int (i : Nat), .str nm]) = H6 at s6
    refine ⟨_, rfl, _, _, rfl, rfl, _, rfl, Same.refl _, ?_⟩
    rw [decide_eq_true (show (0 : Int) < ((n + 1 : Nat) : Int) by omega)]
    have ht6 := s6 _ _ (s4 _ _ ht2)
    refine ⟨_, rfl, _, rfl, _, _, rfl, rfl, _, rfl, ?_⟩
    refine sl_dropT (n := i + 1) ht6 (by omega) (by omega) (by rw [lenV]; omega) fun p hp => ?_
    rw [← List.map_drop]
    have s7 := s6.trans (same_upd (o := .tup ((ns.drop (i + 1)).map V.str)) hp)
    have hp7 : txts (upd H6 p (.tup ((ns.drop (i + 1)).map V.str))) p (ns.drop (i + 1)) := upd_same
    have s67 := same_upd (o := .tup ((ns.drop (i + 1)).map V.str)) hp
    generalize upd H6 p (.tup ((ns.drop (i + 1)).map V.str)) = H7 at s7 hp7 s67
    have lr : (ns.drop (i + 1)).length = ns.length - (i + 1) := List.length_drop ..
    refine ⟨_, rfl, _, _, rfl, rfl, (comb n (ns.drop (i + 1))).map itm, h' n rfl _ _ _ ⟨p, ns.drop (i + 1), congrArg (fun z => [V.ref p, V.int z]) (by omega), hp7, by omega, by omega, rfl⟩, s67, ?_⟩
    rw [drop_at hnm, comb, List.map_append, List.map_map]
    refine ⟨fun j xs σ H8 => xs = ((comb n (ns.drop (i + 1))).drop j).map (fun c => itm (nm :: c)) ++ (comb (n + 1) (ns.drop (i + 1))).map itm ∧ Same H7 H8 ∧ ∃ x4, σ = [some (.ref tp), some (.int ((n + 1 : Nat) : Int)), some (.int (i : Nat)), some (.str nm), x4], ⟨by rw [List.drop_zero]; rfl, Same.refl _, _, rfl⟩, ?_⟩
    rintro j xs σ H8 ⟨rfl, s8, x4, rfl⟩
    refine ⟨fun ej H9 s9 => ?_, fun x hx y H9 s9 hy => ?_⟩
    · rw [List.length_map] at ej
      rw [ej, List.drop_length]
      exact ⟨rfl, (s7.trans s8).trans s9, _, _, _, rfl⟩
    · rw [List.getElem?_map] at hx
      obtain ⟨c, hc, rfl⟩ := Option.map_eq_some_iff.mp hx
      obtain ⟨a, rfl, ha⟩ := hy
      have hcl := (comb_sub (List.mem_of_getElem? hc)).2
      obtain ⟨hj, ec⟩ := List.getElem?_eq_some_iff.mp hc
      rw [List.drop_eq_getElem_cons hj, ec]
      refine ⟨Same.refl _, _, rfl, _, rfl, a, _, rfl, .inl (SqT.of ha), szc nm c (by omega), fun p2 hp2 => ⟨same_upd hp2, itm (nm :: c), _, rfl, ⟨p2, rfl, upd_same.trans (by rw [List.append_nil]; rfl)⟩, fun H10 s10 => ?_⟩⟩
      exact ⟨(same_upd hp2).trans s10, rfl, ((s8.trans s9).trans (same_upd hp2)).trans s10, _, rfl⟩
theorem gfx_picks (T : Txt K mg) : GFx Sg w K mg base 14 (a_picks K) (fun vs H xs => ∃ m, m ≤ 6 ∧ spPk m vs H xs) := by
  have all : ∀ m, GFx Sg w K mg base (2 * m + 2) (a_picks K) (spPk m) := by
    intro m
    induction m with
    | zero => exact picks_body T (j := 0) (sp' := fun _ _ _ => False) (fun _ _ _ _ _ _ _ _ _ _ h => h.elim) fun n e => nomatch e
    | succ n ih => exact picks_body T ih fun k e vs H xs h => by cases e; exact h
  intro A outer s H us vs xs hr e0 r hsp
  obtain ⟨m, hm, h⟩ := hsp
  exact GFx.mono (all m) (by omega : 2 * m + 2 ≤ 14) (fun _ _ _ z => z) A outer s H us vs xs hr e0 r h
abbrev n_Town_wards : List Str := ["self", "names", "many", "corners"]
theorem gs_Town_wards : GScope n_Town_wards ["self"] (defScope s_Town_wards) := ⟨rfl, rfl, rfl, by decide +kernel, rfl, by decide +kernel, by decide +kernel⟩
def spWd (K : PySem.W.Frag) : SpX := fun vs H xs => ∃ (t : Addr) (ss : List (Stv × Addr)) (cs : List Str), vs = [.ref t] ∧ TAt K H t ss ∧ IsCor ss cs ∧ (∀ c ∈ cs, Nm c) ∧ xs = (wardsL cs).map (itW K)
theorem gfx_Town_wards (T : Txt K mg) : GFx Sg w K mg base 16 (a_Town_wards K) (spWd K) := by
  refine gfn_by (N := n_Town_wards) (ps := ["self"]) (st := s_Town_wards) (T.fn 68 rfl) gs_Town_wards (by decide +kernel) (fun _ _ _ _ _ _ us hl => match us, hl with | [_], _ => rfl) (by rintro vs H xs ⟨t, ss, cs, rfl, _⟩; rfl) fun A outer lo own g cdv vs H xs hr h => ?_
  obtain ⟨t, ss, cs, rfl, ht, hc, hnm, rfl⟩ := h
  refine ⟨_, gssx_cons (gsx_ps (fun s0 H0 => ps_set (i := 1) gs_Town_wards.nd rfl (by first | exact .inl rfl | exact .inr rfl) (pe_prop1 (T.cls T.r_c_Town) (propB_ok T.r_p_Town_corners) (fn_Town_corners T) (hr.mono (by decide)) (pv 0))))
    (gssx_one (gsx_for (fun s0 H0 => pi_range2 (by rfl) (T.free T.r_f_range) (pa_cons pe_int (pa_cons (pe_callB (lenQ_ K) (by rfl) (T.free T.r_f_len) bb_len (pa_cons (pv 1) pa_nil)) pa_nil)))
      (fun s0 H0 => pg_name (i := 2) gs_Town_wards.nd rfl (by first | exact .inl rfl | exact .inr rfl))
      (gssx_one (gsx_forG (fun s0 H0 => pgn_call (gfx_picks T) hr (T.kp 9 rfl) (by rfl) (T.glo T.r_g_picks) (pa_cons (pv 1) (pa_cons (pv 2) pa_nil)))
        (fun s0 H0 => pg_name (i := 3) gs_Town_wards.nd rfl (by first | exact .inl rfl | exact .inr rfl))
        (gssx_one (gsx_yield (fun s0 H0 => mkS_ K (T.mkr T.r_m_Ward) (fn_Ward_init T) (hr.mono (by decide)) (by rfl) (T.glo T.r_g_Ward) (pv 3)) rfl rfl)))))), ?_⟩
  intro H2 s2
  have ht2 := ht.same s2
  refine ⟨_, rfl, t, _, _, rfl, ⟨rfl, rfl⟩, ins_town ht2.rd, t, ss, rfl, ht2, fun H3 tp cs' s3 hcor htp => ⟨s3, ?_⟩⟩
  rw [cor_eq hc hcor] at htp
  have l7 := hc.2.1
  refine ⟨_, rfl, _, _, rfl, .inr (SqT.of htp), _, _, rfl, ?_, Same.refl _, ?_⟩
  · rw [List.length_map]
    refine ⟨by omega, by omega, by omega, by omega⟩
  have en : (((cs.map V.str).length : Int) - 1).toNat = cs.length - 1 := by rw [List.length_map]; omega
  rw [en]
  refine gfor_it (walk_range (lo := 1) (n := cs.length - 1)) (fun i xs σ H4 => xs = (((List.range (cs.length - 1)).drop i).flatMap fun k => comb (k + 1) cs).map (itW K) ∧ Same H3 H4 ∧ ∃ x2 x3, σ = [some (.ref t), some (.ref tp), x2, x3]) ⟨by rw [List.drop_zero]; rfl, Same.refl _, _, _, rfl⟩ (fun _ _ _ _ _ _ => trivial) (fun i x xs σ H4 H5 hi ⟨e0, s4, x2, x3, e⟩ y => ?_) fun xs σ H4 h => ?_
  rotate_left
  · rw [h.1, List.drop_of_length_le (by rw [List.length_range]; exact Nat.le_refl _)]
    rfl
  subst e0 e
  obtain ⟨rfl, rfl⟩ := y
  refine ⟨Same.refl _, Same.refl _, ?_⟩
  have ei : (List.range (cs.length - 1))[i]? = some i := List.getElem?_range hi
  have ed : (List.range (cs.length - 1)).drop i = i :: (List.range (cs.length - 1)).drop (i + 1) := by
    obtain ⟨h1, h2⟩ := List.getElem?_eq_some_iff.mp ei
    rw [List.drop_eq_getElem_cons h1, h2]
  refine ⟨_, rfl, _, rfl, (comb (i + 1) cs).map itm, ⟨i + 1, by omega, tp, cs, congrArg (fun z => [V.ref tp, V.int z]) (by omega), s4 _ _ htp, by omega, l7, rfl⟩, Same.refl _, ?_⟩
  rw [ed, List.flatMap_cons, List.map_append]
  refine ⟨fun j xs σ H8 => xs = ((comb (i + 1) cs).drop j).map (itW K) ++ (((List.range (cs.length - 1)).drop (i + 1)).flatMap fun k => comb (k + 1) cs).map (itW K) ∧ Same H3 H8 ∧ ∃ x3, σ = [some (.ref t), some (.ref tp), some (.int (1 + (i : Nat))), x3], ⟨by rw [List.drop_zero], s4, _, rfl⟩, ?_⟩
  rintro j xs σ H8 ⟨rfl, s8, x4, rfl⟩
  refine ⟨fun ej H9 s9 => ?_, fun x hx y H9 s9 hy => ?_⟩
  · rw [List.length_map] at ej
    rw [ej, List.drop_length]
    exact ⟨rfl, s8.trans s9, _, _, rfl⟩
  · rw [List.getElem?_map] at hx
    obtain ⟨c, hcc, rfl⟩ := Option.map_eq_some_iff.mp hx
    obtain ⟨a, rfl, ha⟩ := hy
    obtain ⟨hsub, hcl⟩ := comb_sub (List.mem_of_getElem? hcc)
    obtain ⟨hj, ec⟩ := List.getElem?_eq_some_iff.mp hcc
    rw [List.drop_eq_getElem_cons hj, ec]
    refine ⟨Same.refl _, _, rfl, a, _, rfl, .inl (SqT.of ha), ?_⟩
    refine ward_mk (K := K) (List.Pairwise.sublist hsub hc.1) (fun z hz => hnm z (hsub.subset hz)) (fun e => by rw [e] at hcl; cases hcl) (Nat.le_trans hsub.length_le l7) fun H10 wd s10 hwd => ?_
    exact ⟨s10, itW K c, _, rfl, ⟨wd, rfl, hwd⟩, fun H11 s11 => ⟨s10.trans s11, rfl, ((s8.trans s9).trans s10).trans s11, _, rfl⟩⟩
end
end ST
end
section
set_option Elab.async false
set_option linter.all false
set_option maxRecDepth 100000
set_option maxHeartbeats 1000000
/-! The weakest ward; verdicts. -/
namespace ST
open PySem PySem.Spec PyProof.Rows L2 SgO
section
variable {w : World} {K : PySem.W.Frag} {mg : Str → Option Value} {base : Heap}
theorem wardsL_pos {cs : List Str} (h : 2 ≤ cs.length) : 0 < (wardsL cs).length := by
  match cs, h with
  | x :: y :: r, _ =>
    have : [x] ∈ wardsL (x :: y :: r) := mem_wardsL.mpr ⟨List.Sublist.cons_cons x (List.nil_sublist _), by simp, by simp⟩
    exact List.length_pos_of_mem this
/-- n is the least over the wards -/
def Least (rows : List Sgn) (cs : List Str) (n : Nat) : Prop := (∃ ap, IsWard cs ap ∧ n = enterN rows ap) ∧ ∀ ap, IsWard cs ap → n ≤ enterN rows ap
def sp_weakest (K : PySem.W.Frag) : Sp0 := fun vs H Q => ∃ (t a : Addr) (ps : List Sgn) (ss : List (Stv × Addr)) (cs : List Str), vs = [.ref t, .ref a] ∧ Site K H t a ps ss cs ∧ 2 ≤ cs.length ∧
  ∀ H' p (n : Nat) v, Same H H' → H' p = some (.tup [.int (n : Nat), v]) → Least (arcsOf ps ss) cs n → Q (.ref p) H'
abbrev n_weakest : List Str := ["town", "signs", "rows", "least", "found", "ward", "many"]
theorem sc_weakest : FnScope n_weakest ["town", "signs"] (defScope s_weakest) := ⟨rfl, rfl, rfl, by decide +kernel, rfl, by decide +kernel, by decide +kernel⟩
theorem fn_weakest (T : Txt K mg) : Fn w K mg base 17 (a_weakest K) (sp_weakest K) := by
  refine fn_by (N := n_weakest) (ps := ["town", "signs"]) (st := s_weakest) (T.fn 23 rfl) sc_weakest (fun _ _ _ _ _ _ us hl => match us, hl with | [_, _], _ => rfl) (by rintro vs H Q ⟨t, a, ps, ss, cs, rfl, st, h2, qq⟩; rfl) fun cdv A outer s H vs Q hr h => ?_
  obtain ⟨t, a, ps, ss, cs, rfl, st, h2, qq⟩ := h
  refine ⟨_, pss_cons (ps_set (i := 2) sc_weakest.nd rfl (by first | exact .inl rfl | exact .inr rfl) (pe_fn (fn_arcs T) hr (by decide) (by rfl) (T.glo T.r_g_arcs) (T.kp 14 rfl) (pa_cons (pv 0) (pa_cons (pv 1) pa_nil))))
  (pss_cons (ps_asg (pe_tup (pa_cons pe_non (pa_cons pe_non pa_nil))) (gtup_ K (n := 2) (pgs_cons (pg_name (i := 3) sc_weakest.nd rfl (by first | exact .inl rfl | exact .inr rfl)) (pgs_cons (pg_name (i := 4) sc_weakest.nd rfl (by first | exact .inl rfl | exact .inr rfl)) pgs_nil))))
  (pss_cons (SgG.ps_forG rfl (SgG.pgn_meth0 (pv 0) (T.cls T.r_c_Town) (T.meth T.r_me_Town_wards) (gfx_Town_wards T) (hr.mono (by decide))) (pg_name (i := 5) sc_weakest.nd rfl (by first | exact .inl rfl | exact .inr rfl)) (pss_cons (ps_set (i := 6) sc_weakest.nd rfl (by first | exact .inl rfl | exact .inr rfl) (pe_fn (fn_count_into T) hr (by decide) (by rfl) (T.glo T.r_g_count_into) (T.kp 15 rfl) (pa_cons (pv 2) (pa_cons (pv 5) pa_nil))))
  (pss_one (ps_if (PW.pt (pw_or (pt_cmp (pc_isN (pv 3))) (pw_or1 (pt_cmpR op_lt (pv 6) (pv 3) (by first | rfl | exact nomark _))))) (pss_one (ps_par (i := 3) (j := 4) rfl sc_weakest.nd rfl rfl (by decide) rfl rfl (pa_cons (pv 6) (pa_cons (pv 5) pa_nil)) rfl)) (pss_nil)))))
  (pss_one (ps_ret (pe_tup (pa_cons (pv 3) (pa_cons (pv 4) pa_nil))))))), ?_⟩
  refine ⟨_, rfl, _, rfl, t, a, ps, ss, rfl, st.t, st.a, st.sok, st.tok, st.fits, fun H1 r as s1 hr1 hr2 => ?_⟩
  have l28 : as.length ≤ 28 := by
    have := st.arcs.len
    rwa [← hr2, List.length_map] at this
  refine ⟨sz2, fun p hp => ⟨p, _, rfl, SqT.of upd_same, rfl, _, _, rfl, _, _, rfl, rfl, ?_⟩⟩
  have s2 := s1.trans (same_upd (o := .tup [.non, .non]) hp)
  have hr3 := hr1.same (same_upd (o := .tup [.non, .non]) hp)
  generalize upd H1 p (.tup [.non, .non]) = H2 at s2 hr3
  obtain ⟨dx, fs, et, el⟩ : ∃ dx fs, H2 t = some (.ins (He.ga K "Town") dx fs) ∧ fs.lookup ("wards" : Str) = none := by
    obtain ⟨dx, d, tp, dc, cs', h1, _⟩ := st.t.same s2
    exact ⟨dx, _, h1, rfl⟩
  refine ⟨_, rfl, t, dx, fs, rfl, et, el, _, ⟨t, ss, cs, rfl, st.t.same s2, st.cor, st.nm, rfl⟩, ?_⟩
  refine ⟨fun i σ H3 => ∃ v3 v4 x5 x6, σ = [some (.ref t), some (.ref a), some (.ref r), some v3, some v4, x5, x6] ∧ Same H2 H3 ∧ ((i = 0 ∧ v3 = .non) ∨ ∃ n : Nat, v3 = .int (n : Nat) ∧ (∃ ap ∈ wardsL cs, n = enterN (arcsOf ps ss) ap) ∧ ∀ ap ∈ (wardsL cs).take i, n ≤ enterN (arcsOf ps ss) ap),
    ⟨_, _, _, _, rfl, Same.refl _, .inl ⟨rfl, rfl⟩⟩, ?_⟩
  rintro i σ H3 ⟨v3, v4, x5, x6, rfl, s3, hv⟩
  refine ⟨fun ei H4 s4 => ?_, fun x hx y H4 s4 hy => ?_⟩
  · rw [List.length_map] at ei
    rcases hv with ⟨e, _⟩ | ⟨n, rfl, ⟨ap, hap, en⟩, hall⟩
    · have := wardsL_pos h2
      omega
    · rw [ei, List.take_length] at hall
      refine ⟨_, rfl, _, rfl, sz2, fun p hp => ?_⟩
      exact qq _ p n _ (((s2.trans s3).trans s4).trans (same_upd hp)) upd_same ⟨⟨ap, mem_wardsL.mp hap, en⟩, fun ap' h' => hall ap' (mem_wardsL.mpr h')⟩
  · rw [List.getElem?_map] at hx
    obtain ⟨c, hc, rfl⟩ := Option.map_eq_some_iff.mp hx
    obtain ⟨wd, rfl, hwd⟩ := hy
    have hcm := List.mem_of_getElem? hc
    have tk : ∀ ap ∈ (wardsL cs).take (i + 1), ap ∈ (wardsL cs).take i ∨ ap = c := fun ap ha => by
      rw [List.take_add_one, hc] at ha
      rcases List.mem_append.mp ha with m | m
      · exact .inl m
      · exact .inr (List.mem_singleton.mp m)
    refine ⟨_, rfl, _, rfl, r, wd, as, c, rfl, hr3.same (s3.trans s4), Nat.le_trans l28 (by decide), hwd, fun H5 s5 => ?_⟩
    rw [hr2]
    have s35 := (s3.trans s4).trans s5
    rcases hv with ⟨rfl, rfl⟩ | ⟨n, rfl, ⟨ap, hap, en⟩, hall⟩
    · refine ⟨_, rfl, _, rfl, ?_⟩
      refine ⟨_, rfl, _, rfl, _, _, rfl, s5, _, _, _, _, rfl, s35, .inr ⟨_, rfl, ⟨c, hcm, rfl⟩, fun ap ha => ?_⟩⟩
      rcases tk ap ha with m | rfl
      · cases m
      · exact Nat.le_refl _
    · refine ⟨_, rfl, _, rfl, ?_⟩
      refine ⟨_, rfl, _, rfl, _, _, rfl, rfl, _, rfl, ?_⟩
      by_cases hlt : enterN (arcsOf ps ss) c < n
      · rw [decide_eq_true (show ((enterN (arcsOf ps ss) c : Nat) : Int) < (n : Int) by omega)]
        refine ⟨_, rfl, _, rfl, _, _, rfl, s5, _, _, _, _, rfl, s35, .inr ⟨_, rfl, ⟨c, hcm, rfl⟩, fun ap' ha => ?_⟩⟩
        rcases tk ap' ha with m | rfl
        · have := hall ap' m
          omega
        · exact Nat.le_refl _
      · rw [decide_eq_false (show ¬ ((enterN (arcsOf ps ss) c : Nat) : Int) < (n : Int) by omega)]
        refine iteF ⟨s5, _, _, _, _, rfl, s35, .inr ⟨n, rfl, ⟨ap, hap, en⟩, fun ap' ha => ?_⟩⟩
        rcases tk ap' ha with m | rfl
        · exact hall ap' m
        · omega
theorem Site.len {H : Hp} {t a : Addr} {ps : List Sgn} {ss : List (Stv × Addr)} {cs : List Str} (st : Site K H t a ps ss cs) (h : cs ≠ []) : 0 < ss.length := by
  obtain ⟨c, r, rfl⟩ := List.exists_cons_of_ne_nil h
  obtain ⟨b, hb, _⟩ := (st.cor.2.2 c).mp List.mem_cons_self
  exact List.length_pos_of_mem hb
def SoundAt (K : PySem.W.Frag) (H : Hp) (v : Addr) (rows : List Sgn) (root : Str) (others : List Str) (n : Nat) : Prop := ∃ dx wy, H v = some (.ins (He.ga K "Sound") dx [("ways", .ref wy)]) ∧ WaysAt K H wy rows root others n
theorem SoundAt.same {H H' : Hp} {v : Addr} {rows : List Sgn} {root : Str} {others : List Str} {n : Nat} (h : SoundAt K H v rows root others n) (s : Same H H') : SoundAt K H' v rows root others n :=
  let ⟨dx, wy, h1, h2⟩ := h; ⟨dx, wy, s _ _ h1, h2.same s⟩
/-- a need that the wards let: Sound -/
def sp_judge (K : PySem.W.Frag) : Sp0 := fun vs H Q => ∃ (t a : Addr) (ps : List Sgn) (ss : List (Stv × Addr)) (root : Str) (others : List Str) (n : Nat), vs = [.ref t, .ref a, .int (n : Nat)] ∧ Site K H t a ps ss (root :: others) ∧ others ≠ [] ∧ 1 ≤ n ∧ n ≤ 20 ∧
  (∀ ap, IsWard (root :: others) ap → n ≤ enterN (arcsOf ps ss) ap) ∧ ∀ H' v, Same H H' → SoundAt K H' v (arcsOf ps ss) root others n → Q (.ref v) H'
abbrev n_judge : List Str := ["town", "signs", "need", "least", "ward"]
theorem sc_judge : FnScope n_judge ["town", "signs", "need"] (defScope s_judge) := ⟨rfl, rfl, rfl, by decide +kernel, rfl, by decide +kernel, by decide +kernel⟩
theorem fn_judge (T : Txt K mg) : Fn w K mg base 18 (a_judge K) (sp_judge K) := by
  refine fn_by (N := n_judge) (ps := ["town", "signs", "need"]) (st := s_judge) (T.fn 24 rfl) sc_judge (fun _ _ _ _ _ _ us hl => match us, hl with | [_, _, _], _ => rfl) (by rintro vs H Q ⟨t, a, ps, ss, root, others, n, rfl, st, hne, n1, n20, hn, qq⟩; rfl) fun cdv A outer s H vs Q hr h => ?_
  obtain ⟨t, a, ps, ss, root, others, n, rfl, st, hne, n1, n20, hn, qq⟩ := h
  refine ⟨_, pss_cons (ps_expr (pe_fn (fn_need_town T) hr (by decide) (by rfl) (T.glo T.r_g_need_town) (T.kp 10 rfl) (pa_cons (pv 0) pa_nil)))
  (pss_cons (ps_expr (pe_fn (fn_need_fit T) hr (by decide) (by rfl) (T.glo T.r_g_need_fit) (T.kp 11 rfl) (pa_cons (pv 0) (pa_cons (pv 1) pa_nil))))
  (pss_cons (ps_expr (pe_fn (fn_need_need T) hr (by decide) (by rfl) (T.glo T.r_g_need_need) (T.kp 12 rfl) (pa_cons (pv 2) pa_nil)))
  (pss_cons (ps_expr (pe_fn (fn_need_streets T) hr (by decide) (by rfl) (T.glo T.r_g_need_streets) (T.kp 13 rfl) (pa_cons (pv 0) pa_nil)))
  (pss_cons (ps_asg (pe_fn (fn_weakest T) hr (by decide) (by rfl) (T.glo T.r_g_weakest) (T.kp 23 rfl) (pa_cons (pv 0) (pa_cons (pv 1) pa_nil))) (gtup_ K (n := 2) (pgs_cons (pg_name (i := 3) sc_judge.nd rfl (by first | exact .inl rfl | exact .inr rfl)) (pgs_cons (pg_name (i := 4) sc_judge.nd rfl (by first | exact .inl rfl | exact .inr rfl)) pgs_nil))))
  (pss_cons (ps_if (pt_cmpR op_lt (pv 3) (pv 2) (by first | rfl | exact nomark _)) (pss_one (ps_never)) (pss_nil))
  (pss_one (ps_ret (pe_mkP (T.mkr T.r_m_Sound) (fn_Sound_init T) (hr.mono (by decide)) (by rfl) (T.glo T.r_g_Sound) (pa_cons (pe_fn (fn_ways_for T) hr (by decide) (by rfl) (T.glo T.r_g_ways_for) (T.kp 20 rfl) (pa_cons (pv 0) (pa_cons (pv 1) (pa_cons (pv 2) pa_nil)))) pa_nil))))))))), ?_⟩
  have h2 : 2 ≤ (root :: others).length := by
    have := List.length_pos_iff.mpr hne
    rw [List.length_cons]
    omega
  refine ⟨_, rfl, t, ss, rfl, st.t, ?_⟩
  refine ⟨_, rfl, _, rfl, t, a, ps, ss, rfl, st.a, st.t, st.sok, st.tok, st.fits, fun H1 s1 => ?_⟩
  refine ⟨_, rfl, (n : Nat), rfl, by omega, by omega, ?_⟩
  refine ⟨_, rfl, t, ss, rfl, st.t.same s1, st.len (by simp), st.tok.2.1, ?_⟩
  refine ⟨_, rfl, _, rfl, t, a, ps, ss, _, rfl, st.same s1, h2, fun H2 p k v s2 hp ⟨⟨ap, hap, ek⟩, hk⟩ => ?_⟩
  refine ⟨p, _, rfl, SqT.of hp, rfl, _, _, rfl, _, _, rfl, rfl, ?_⟩
  refine ⟨_, rfl, _, rfl, _, _, rfl, rfl, _, rfl, ?_⟩
  have hnk : n ≤ k := by
    rw [ek]
    exact hn ap hap
  rw [decide_eq_false (show ¬ (k : Int) < (n : Int) by omega)]
  refine iteF ?_
  refine ⟨_, rfl, _, rfl, _, rfl, t, a, ps, ss, root, others, n, rfl, st.same (s1.trans s2), hn, fun H3 wy s3 hwy => ?_⟩
  intro x dx hx hdx hne'
  refine ⟨x, dx, .ref wy, rfl, upd_same, fun H4 b4 h4 => ⟨rfl, ?_⟩⟩
  have s4 := made_same hx hdx b4
  exact qq H4 x (((s1.trans s2).trans s3).trans s4) ⟨dx, wy, h4, hwy.same s4⟩
def StrAt (K : PySem.W.Frag) (H : Hp) (v : Addr) (n : Nat) : Prop := ∃ dx v1 v2, H v = some (.ins (He.ga K "Strength") dx [("number", .int (n : Nat)), ("ward", v1), ("ways", v2)])
def sp_strength (K : PySem.W.Frag) : Sp0 := fun vs H Q => ∃ (t a : Addr) (ps : List Sgn) (ss : List (Stv × Addr)) (root : Str) (others : List Str), vs = [.ref t, .ref a] ∧ Site K H t a ps ss (root :: others) ∧ others ≠ [] ∧
  ∀ H' v n, Same H H' → StrAt K H' v n → Least (arcsOf ps ss) (root :: others) n → Q (.ref v) H'
abbrev n_strength : List Str := ["town", "signs", "least", "ward"]
theorem sc_strength : FnScope n_strength ["town", "signs"] (defScope s_strength) := ⟨rfl, rfl, rfl, by decide +kernel, rfl, by decide +kernel, by decide +kernel⟩
theorem fn_strength (T : Txt K mg) : Fn w K mg base 18 (a_strength K) (sp_strength K) := by
  refine fn_by (N := n_strength) (ps := ["town", "signs"]) (st := s_strength) (T.fn 25 rfl) sc_strength (fun _ _ _ _ _ _ us hl => match us, hl with | [_, _], _ => rfl) (by rintro vs H Q ⟨t, a, ps, ss, root, others, rfl, st, hne, qq⟩; rfl) fun cdv A outer s H vs Q hr h => ?_
  obtain ⟨t, a, ps, ss, root, others, rfl, st, hne, qq⟩ := h
  refine ⟨_, pss_cons (ps_expr (pe_fn (fn_need_town T) hr (by decide) (by rfl) (T.glo T.r_g_need_town) (T.kp 10 rfl) (pa_cons (pv 0) pa_nil)))
  (pss_cons (ps_expr (pe_fn (fn_need_fit T) hr (by decide) (by rfl) (T.glo T.r_g_need_fit) (T.kp 11 rfl) (pa_cons (pv 0) (pa_cons (pv 1) pa_nil))))
  (pss_cons (ps_expr (pe_fn (fn_need_streets T) hr (by decide) (by rfl) (T.glo T.r_g_need_streets) (T.kp 13 rfl) (pa_cons (pv 0) pa_nil)))
  (pss_cons (ps_asg (pe_fn (fn_weakest T) hr (by decide) (by rfl) (T.glo T.r_g_weakest) (T.kp 23 rfl) (pa_cons (pv 0) (pa_cons (pv 1) pa_nil))) (gtup_ K (n := 2) (pgs_cons (pg_name (i := 2) sc_strength.nd rfl (by first | exact .inl rfl | exact .inr rfl)) (pgs_cons (pg_name (i := 3) sc_strength.nd rfl (by first | exact .inl rfl | exact .inr rfl)) pgs_nil))))
  (pss_one (ps_ret (pe_mkP (T.mkr T.r_m_Strength) (fn_Strength_init T) (hr.mono (by decide)) (by rfl) (T.glo T.r_g_Strength) (pa_cons (pv 2) (pa_cons (pv 3) (pa_cons (pe_ifExp (pt_cmpR op_eq (pv 2) pe_int (by first | rfl | exact nomark _)) (pe_non) (pe_fn (fn_ways_for T) hr (by decide) (by rfl) (T.glo T.r_g_ways_for) (T.kp 20 rfl) (pa_cons (pv 0) (pa_cons (pv 1) (pa_cons (pv 2) pa_nil))))) pa_nil))))))))), ?_⟩
  have h2 : 2 ≤ (root :: others).length := by
    have := List.length_pos_iff.mpr hne
    rw [List.length_cons]
    omega
  refine ⟨_, rfl, t, ss, rfl, st.t, ?_⟩
  refine ⟨_, rfl, _, rfl, t, a, ps, ss, rfl, st.a, st.t, st.sok, st.tok, st.fits, fun H1 s1 => ?_⟩
  refine ⟨_, rfl, t, ss, rfl, st.t.same s1, st.len (by simp), st.tok.2.1, ?_⟩
  refine ⟨_, rfl, _, rfl, t, a, ps, ss, _, rfl, st.same s1, h2, fun H2 p k v s2 hp hk => ?_⟩
  refine ⟨p, _, rfl, SqT.of hp, rfl, _, _, rfl, _, _, rfl, rfl, ?_⟩
  refine ⟨_, rfl, _, rfl, ?_⟩
  have fin : ∀ (H3 : Hp) (v3 : V), Same H2 H3 → afterMk (He.ga K "Strength") (up (sp_Strength_init K)) [.int (k : Nat), v, v3] H3 Q := by
    intro H3 v3 s3 x dx hx hdx hne'
    refine ⟨x, dx, _, _, _, rfl, upd_same, fun H4 b4 h4 => ⟨rfl, ?_⟩⟩
    exact qq H4 x k (((s1.trans s2).trans s3).trans (made_same hx hdx b4)) ⟨dx, _, _, h4⟩ hk
  refine ⟨_, rfl, rfl, _, rfl, ?_⟩
  by_cases hk0 : k = 0
  · subst hk0
    rw [decide_eq_true (show V.int ((0 : Nat) : Int) = V.int 0 from rfl)]
    exact fin H2 .non (Same.refl _)
  · rw [decide_eq_false (show ¬ V.int (k : Int) = V.int 0 from fun z => by have := V.int.inj z; omega)]
    refine iteF ?_
    exact ⟨_, rfl, _, rfl, _, rfl, t, a, ps, ss, root, others, k, rfl, st.same (s1.trans s2), hk.2, fun H3 wy s3 hwy => fin H3 (.ref wy) s3⟩
end
end ST
end
section
set_option Elab.async false
set_option linter.all false
set_option maxRecDepth 100000
set_option maxHeartbeats 1000000
/-! The law's pen. -/
namespace ST
open PySem PySem.Spec PyProof.Rows L2 SgO
section
variable {w : World} {K : PySem.W.Frag} {mg : Str → Option Value} {base : Heap}
/-- the pen, with an index of k at most -/
def PenAt (H : Hp) (p cl : Addr) (k : Nat) : Prop := ∃ (cs : List Int) (i g : Int), H p = some (.lst [.ref cl, .int i, .int g]) ∧ H cl = some (.lst (cs.map V.int)) ∧ 0 ≤ i ∧ i ≤ k
theorem PenAt.same {H H' : Hp} {p cl : Addr} {k : Nat} (h : PenAt H p cl k) (s : Same H H') : PenAt H' p cl k := let ⟨cs, i, g, h1, h2, h3⟩ := h; ⟨cs, i, g, s _ _ h1, s _ _ h2, h3⟩
theorem PenAt.mono {H : Hp} {p cl : Addr} {k k' : Nat} (h : PenAt H p cl k) (hk : k ≤ k') : PenAt H p cl k' := let ⟨cs, i, g, h1, h2, h3, h4⟩ := h; ⟨cs, i, g, h1, h2, h3, by omega⟩
theorem PenAt.upd {H : Hp} {p cl q : Addr} {o : HO} {k : Nat} (h : PenAt H p cl k) (hq : H q = none) : PenAt (L2.upd H q o) p cl k := h.same (same_upd hq)
/-- another list may change -/
theorem PenAt.but {H : Hp} {p cl q : Addr} {o : HO} {k : Nat} (h : PenAt H p cl k) (n1 : q ≠ p) (n2 : q ≠ cl) : PenAt (L2.upd H q o) p cl k := let ⟨cs, i, g, h1, h2, h3⟩ := h; ⟨cs, i, g, (upd_ne n1.symm).trans h1, (upd_ne n2.symm).trans h2, h3⟩
theorem PenAt.ne {H : Hp} {p cl q : Addr} {k : Nat} (h : PenAt H p cl k) (hq : H q = none) : q ≠ p ∧ q ≠ cl := let ⟨_, _, _, h1, h2, _⟩ := h; ⟨ne_of_none' hq h1, ne_of_none' hq h2⟩
theorem cl_ints : ∀ ns : List Int, PyData.canLayAll0 (ns.map PyData.int) = true
  | [] => by simp [PyData.canLayAll0]
  | n :: r => by simp [PyData.canLayAll0, PyData.canLay0, cl_ints r]
theorem dp_ints0 : ∀ ns : List Int, PyData.depthAll (ns.map PyData.int) ≤ 1
  | [] => by simp [PyData.depthAll]
  | n :: r => by simp [PyData.depthAll, PyData.depth]; exact dp_ints0 r
theorem sh_ints (ns : List Int) : SeqAt.shaped (.list (ns.map PyData.int)) = true := by
  have q := dp_ints0 ns
  simp only [SeqAt.shaped, PyData.canLay0, cl_ints ns, Bool.true_and, decide_eq_true_eq]
  simp only [PyData.depth]
  omega
theorem eqv_ints0 (ns : List Int) : PyData.eqv (.list (ns.map PyData.int)) (.list []) = decide (ns = []) := by
  rw [PyData.eqv]
  cases ns <;> simp [PyData.eqvAll]
theorem dpa_ints {H : Hp} : ∀ ns : List Int, DpAll K H (ns.map V.int) (ns.map PyData.int)
  | [] => .nil
  | n :: r => .cons (.int n) (dpa_ints r)
theorem iteC {b : Bool} {A B : Prop} (t : b = true → A) (f : b = false → B) : if b = true then A else B := by
  cases b
  · exact f rfl
  · exact t rfl
theorem mix1 (c i : Int) (i0 : 0 ≤ i) (h : i ≤ 100000) : (c % 2147483587 + 81203 * i + 617).natAbs < 2 ^ 64 := by
  have u0 := Int.emod_nonneg c (show (2147483587 : Int) ≠ 0 by decide)
  have u1 := Int.emod_lt_of_pos c (show (0 : Int) < 2147483587 by decide)
  exact Nat.lt_of_le_of_lt (show (c % 2147483587 + 81203 * i + 617).natAbs ≤ 100000000000 by omega) (by decide)
theorem mix2 (z : Int) : -(2 ^ 64) < z % 2147483549 ∧ z % 2147483549 < 2 ^ 64 := by
  have u0 := Int.emod_nonneg z (show (2147483549 : Int) ≠ 0 by decide)
  have u1 := Int.emod_lt_of_pos z (show (0 : Int) < 2147483549 by decide)
  exact ⟨by omega, by omega⟩
theorem mix3 (z i : Int) (i0 : 0 ≤ i) (h : i ≤ 100000) : (z % 2147483549 * (2 * i + 107) + 90533 * i * i + 37).natAbs < 2 ^ 64 := by
  have u0 := Int.emod_nonneg z (show (2147483549 : Int) ≠ 0 by decide)
  have u1 := Int.emod_lt_of_pos z (show (0 : Int) < 2147483549 by decide)
  generalize z % 2147483549 = y at u0 u1
  have v0 : 0 ≤ y * (2 * i + 107) := Int.mul_nonneg u0 (by omega)
  have v1 : y * (2 * i + 107) ≤ 2147483549 * 200107 := Int.mul_le_mul (by omega) (by omega) (by omega) (by decide)
  have v2 : 0 ≤ 90533 * i * i := Int.mul_nonneg (by omega) i0
  have v3 : 90533 * i * i ≤ 9053300000 * 100000 := Int.mul_le_mul (by omega) (by omega) i0 (by decide)
  exact Nat.lt_of_le_of_lt (show (y * (2 * i + 107) + 90533 * i * i + 37).natAbs ≤ 10000000000000000 by omega) (by decide)
def sp__law_draw (K : PySem.W.Frag) : Sp0 := fun vs H Q => ∃ (p cl : Addr) (k : Nat) (m : Int), vs = [.ref p, .int m] ∧ PenAt H p cl k ∧ 0 < m ∧ m ≤ 1000000000000 ∧ k ≤ 100000 ∧ ∀ H' (d : Nat), (d : Int) < m → But p H H' → PenAt H' p cl (k + 1) → Q (.int (d : Nat)) H'
abbrev n__law_draw : List Str := ["_law_pen_here", "_law_many", "_law_digit", "_law_place_so", "_law_cell", "_law_great", "_law_mixed"]
theorem sc__law_draw : FnScope n__law_draw ["_law_pen_here", "_law_many"] (defScope s__law_draw) := ⟨rfl, rfl, rfl, by decide +kernel, rfl, by decide +kernel, by decide +kernel⟩
theorem fn__law_draw (T : Txt K mg) : Fn w K mg base 1 (a__law_draw K) (sp__law_draw K) := by
  refine fn_by (N := n__law_draw) (ps := ["_law_pen_here", "_law_many"]) (st := s__law_draw) (T.fn 27 rfl) sc__law_draw (fun _ _ _ _ _ _ us hl => match us, hl with | [_, _], _ => rfl) (by rintro vs H Q ⟨p, cl, k, m, rfl, ⟨cs, i, g, hp, hcl, i0, ik⟩, m0, m1, k1, q⟩; rfl) fun cdv A outer s H vs Q hr h => ?_
  obtain ⟨p, cl, k, m, rfl, ⟨cs, i, g, hp, hcl, i0, ik⟩, m0, m1, k1, q⟩ := h
  refine ⟨_, pss_cons (ps_if (pt_cmpR op_gt (pe_ix (ixL_ K) (pv 0) pe_int (fun _ _ => rfl)) pe_int (by first | rfl | exact nomark _)) (pss_cons (ps_set (i := 2) sc__law_draw.nd rfl (by first | exact .inl rfl | exact .inr rfl) (pe_op op_mod (pe_callTy call_int1 (by rfl) (T.free T.r_f_int) bb_int (pa_cons (pe_ix (ixL_ K) (pv 0) pe_int (fun _ _ => rfl)) pa_nil)) (pv 1)))
  (pss_cons (ps_asg (pe_op op_fdivW (pe_callTy call_int1 (by rfl) (T.free T.r_f_int) bb_int (pa_cons (pe_ix (ixL_ K) (pv 0) pe_int (fun _ _ => rfl)) pa_nil)) (pv 1)) (pg_sub (pv 0) pe_int set_list))
  (pss_one (ps_ret (pv 2))))) (pss_nil))
  (pss_cons (ps_set (i := 3) sc__law_draw.nd rfl (by first | exact .inl rfl | exact .inr rfl) (pe_ix (ixL_ K) (pv 0) pe_int (fun _ _ => rfl)))
  (pss_cons (ps_asg (pe_op op_add (pv 3) pe_int) (pg_sub (pv 0) pe_int set_list))
  (pss_cons (ps_set (i := 4) sc__law_draw.nd rfl (by first | exact .inl rfl | exact .inr rfl) (pe_op op_add (pe_op op_mul pe_int (pv 3)) pe_int))
  (pss_cons (ps_if (pt_cmpR (neD_ K hr.units) (pe_ix (ixL_ K) (pv 0) pe_int (fun _ _ => rfl)) (pe_lst pa_nil) (by first | rfl | exact nomark _)) (pss_one (ps_set (i := 4) sc__law_draw.nd rfl (by first | exact .inl rfl | exact .inr rfl) (pe_ix (ixL_ K) (pe_ix (ixL_ K) (pv 0) pe_int (fun _ _ => rfl)) (pe_op op_mod (pe_callTy call_int1 (by rfl) (T.free T.r_f_int) bb_int (pa_cons (pv 3) pa_nil)) (pe_callB (lenQ_ K) (by rfl) (T.free T.r_f_len) bb_len (pa_cons (pe_ix (ixL_ K) (pv 0) pe_int (fun _ _ => rfl)) pa_nil))) (fun _ _ => rfl)))) (pss_nil))
  (pss_cons (ps_if (PW.pt (pw_and (pt_cmpR op_lt (pv 3) (pe_callB (lenQ_ K) (by rfl) (T.free T.r_f_len) bb_len (pa_cons (pe_ix (ixL_ K) (pv 0) pe_int (fun _ _ => rfl)) pa_nil)) (by first | rfl | exact nomark _)) (pw_and1 (pt_cmpR op_ge (pe_callB call_abs (by rfl) (T.free T.r_f_abs) bb_abs (pa_cons (pv 4) pa_nil)) (pe_op op_pow pe_int pe_int) (by first | rfl | exact nomark _))))) (pss_cons (ps_set (i := 5) sc__law_draw.nd rfl (by first | exact .inl rfl | exact .inr rfl) (pe_op op_add (pe_op op_mul pe_int (pe_op op_sub (pe_callB call_abs (by rfl) (T.free T.r_f_abs) bb_abs (pa_cons (pv 4) pa_nil)) (pe_op op_pow pe_int pe_int))) (pe_callTy call_int1 (by rfl) (T.free T.r_f_int) bb_int (pa_cons (pe_cmpR op_lt (pv 4) pe_int (by first | rfl | exact nomark _)) pa_nil))))
  (pss_cons (ps_asg (pe_op op_fdivW (pe_callTy call_int1 (by rfl) (T.free T.r_f_int) bb_int (pa_cons (pv 5) pa_nil)) (pv 1)) (pg_sub (pv 0) pe_int set_list))
  (pss_one (ps_ret (pe_op op_mod (pe_callTy call_int1 (by rfl) (T.free T.r_f_int) bb_int (pa_cons (pv 5) pa_nil)) (pv 1)))))) (pss_nil))
  (pss_cons (ps_set (i := 6) sc__law_draw.nd rfl (by first | exact .inl rfl | exact .inr rfl) (pe_op op_mod (pe_callTy call_int1 (by rfl) (T.free T.r_f_int) bb_int (pa_cons (pe_op op_pow (pe_op op_add (pe_op op_add (pe_op op_mod (pe_callTy call_int1 (by rfl) (T.free T.r_f_int) bb_int (pa_cons (pv 4) pa_nil)) pe_int) (pe_op op_mul pe_int (pv 3))) pe_int) pe_int) pa_nil)) pe_int))
  (pss_cons (ps_set (i := 6) sc__law_draw.nd rfl (by first | exact .inl rfl | exact .inr rfl) (pe_op op_add (pe_op op_add (pe_op op_mul (pv 6) (pe_op op_add (pe_op op_mul pe_int (pv 3)) pe_int)) (pe_op op_mul (pe_op op_mul pe_int (pv 3)) (pv 3))) pe_int))
  (pss_cons (ps_set (i := 6) sc__law_draw.nd rfl (by first | exact .inl rfl | exact .inr rfl) (pe_op op_mod (pe_callTy call_int1 (by rfl) (T.free T.r_f_int) bb_int (pa_cons (pe_op op_pow (pv 6) pe_int) pa_nil)) pe_int))
  (pss_one (ps_ret (pe_op op_mod (pe_callTy call_int1 (by rfl) (T.free T.r_f_int) bb_int (pa_cons (pe_op op_fdivW (pv 6) pe_int) pa_nil)) (pv 1)))))))))))), ?_⟩
  have ncl : cl ≠ p := fun e => by
    rw [e, hp] at hcl
    have := HO.lst.inj (Option.some.inj hcl)
    cases cs with
    | nil => cases this
    | cons a r => injection this with h1 _; cases h1
  have hdw : ∀ x : Int, CDivW x m := fun x => wide_div (b := 50) m0 (Nat.lt_of_le_of_lt (show m.natAbs ≤ 1000000000000 by omega) (by decide)) (by decide) (by decide)
  -- a digit
  have fin : ∀ (x : Int) (H1 : Hp) (i' g' : Int), But p H H1 → H1 p = some (.lst [.ref cl, .int i', .int g']) → H1 cl = some (.lst (cs.map V.int)) → 0 ≤ i' → i' ≤ k + 1 → Q (.int (x % m)) H1 := by
    intro x H1 i' g' b hp' hcl' h0 h1
    have n0 := Int.emod_nonneg x (show m ≠ 0 by omega)
    have n1 := Int.emod_lt_of_pos x m0
    obtain ⟨d, hd⟩ := Int.eq_ofNat_of_zero_le n0
    rw [hd]
    exact q H1 d (by omega) b ⟨cs, i', g', hp', hcl', h0, by omega⟩
  refine ⟨_, rfl, p, _, _, _, rfl, rfl, SqL.of hp, atI_nat (j := 2) rfl, _, _, rfl, rfl, _, rfl, ?_⟩
  by_cases hg : 0 < g
  · rw [decide_eq_true (show (0 : Int) < g from hg)]
    refine ⟨_, rfl, p, _, _, _, rfl, rfl, SqL.of hp, atI_nat (j := 2) rfl, .inl ⟨_, rfl, ?_⟩⟩
    refine ⟨_, rfl, _, _, rfl, rfl, m0, ?_⟩
    refine ⟨_, rfl, p, _, _, _, rfl, rfl, SqL.of hp, atI_nat (j := 2) rfl, .inl ⟨_, rfl, ?_⟩⟩
    refine ⟨_, rfl, _, _, rfl, rfl, hdw _, ?_⟩
    refine ⟨_, rfl, p, _, _, 2, rfl, rfl, hp, rfl, ?_⟩
    refine ⟨_, rfl, ?_⟩
    exact fin g _ i (g / m) (But.refl p H).upd upd_same ((upd_ne ncl).trans hcl) i0 (by omega)
  rw [decide_eq_false (show ¬ (0 : Int) < g from hg)]
  refine iteF ?_
  refine ⟨_, rfl, p, _, _, _, rfl, rfl, SqL.of hp, atI_nat (j := 1) rfl, ?_⟩
  refine ⟨_, rfl, _, _, rfl, rfl, ?_⟩
  refine ⟨_, rfl, p, _, _, 1, rfl, rfl, hp, rfl, ?_⟩
  have b1 : But p H (upd H p (.lst ([.ref cl, .int i, .int g].set 1 (.int (i + 1))))) := (But.refl p H).upd
  have hp1 : upd H p (.lst ([.ref cl, .int i, .int g].set 1 (.int (i + 1)))) p = some (.lst [.ref cl, .int (i + 1), .int g]) := upd_same
  have hcl1 : upd H p (.lst ([.ref cl, .int i, .int g].set 1 (.int (i + 1)))) cl = some (.lst (cs.map V.int)) := (upd_ne ncl).trans hcl
  generalize upd H p (.lst ([.ref cl, .int i, .int g].set 1 (.int (i + 1)))) = H1 at b1 hp1 hcl1
  have ik2 : i ≤ 100000 := by omega
  refine ⟨_, rfl, _, _, rfl, rfl, .inl ⟨by decide, by decide⟩, _, _, rfl, rfl, ?_⟩
  refine ⟨_, rfl, p, _, _, _, rfl, rfl, SqL.of hp1, atI_nat (j := 0) rfl, sz0, fun em hem => ?_⟩
  have s2 := same_upd (o := .lst []) hem
  have b2 : But p H (upd H1 em (.lst [])) := b1.trans (ST.Same.but s2 p)
  have hp2 := s2 _ _ hp1
  have hcl2 := s2 _ _ hcl1
  refine ⟨_, _, .lst (SqL.of hcl2) (dpa_ints cs), .lst (SqL.of upd_same) .nil, sh_ints cs, sh_nil, _, rfl, ?_⟩
  generalize upd H1 em (.lst []) = H2 at b2 hp2 hcl2 s2
  rw [eqv_ints0]
  refine Classical.byCases (fun hcs : cs = [] => ?a) (fun hcs : ¬ cs = [] => ?b)
  case' a =>
    rw [decide_eq_true hcs]
    refine iteF ?_
    generalize 71429 * i + 3319 = c
  case' b =>
    rw [decide_eq_false hcs]
    have l0 : 0 < cs.length := List.length_pos_iff.mpr hcs
    have n0 := Int.emod_nonneg i (show ((cs.length : Nat) : Int) ≠ 0 by omega)
    have n1 := Int.emod_lt_of_pos i (show (0 : Int) < ((cs.length : Nat) : Int) by omega)
    obtain ⟨j, hj⟩ := Int.eq_ofNat_of_zero_le n0
    have hjl : j < cs.length := by omega
    refine ⟨_, rfl, p, _, _, _, rfl, rfl, SqL.of hp2, atI_nat (j := 0) rfl, _, rfl, .inl ⟨_, rfl, ?_⟩⟩
    refine ⟨_, rfl, p, _, _, _, rfl, rfl, SqL.of hp2, atI_nat (j := 0) rfl, cl, _, rfl, .inl (SqL.of hcl2), _, _, rfl, rfl, by rw [List.length_map]; omega, ?_⟩
    refine ⟨cl, _, _, .int cs[j], rfl, rfl, SqL.of hcl2, by rw [List.length_map, hj]; exact atI_nat (by rw [List.getElem?_map, List.getElem?_eq_getElem hjl]; rfl), ?_⟩
    generalize cs[j] = c
  all_goals
    refine ⟨_, rfl, _, rfl, p, _, _, _, rfl, rfl, SqL.of hp2, atI_nat (j := 0) rfl, cl, _, rfl, .inl (SqL.of hcl2), _, _, rfl, rfl, _, rfl, ?_⟩
    refine iteC (fun _ => ?_) (fun _ => iteF ?_)
    · refine ⟨_, rfl, _, rfl, _, _, rfl, rfl, ⟨by decide, by decide, by decide⟩, _, _, rfl, rfl, _, rfl, ?_⟩
      refine iteC (fun _ => ?_) (fun _ => ?_)
      · refine ⟨_, rfl, _, rfl, _, _, rfl, rfl, ⟨by decide, by decide, by decide⟩, _, _, rfl, rfl, ?_⟩
        refine ⟨_, _, rfl, rfl, .inl ⟨by decide, by decide⟩, ?_⟩
        refine ⟨_, rfl, _, _, rfl, rfl, .inr ⟨_, rfl, ?_⟩⟩
        refine ⟨_, _, rfl, rfl, ?_⟩
        refine ⟨_, rfl, .inl ⟨_, rfl, _, rfl, _, _, rfl, rfl, hdw _, ?_⟩⟩
        refine ⟨_, rfl, p, _, _, 2, rfl, rfl, hp2, rfl, ?_⟩
        have ncl2 := ncl
        refine ⟨_, rfl, .inl ⟨_, rfl, _, rfl, _, _, rfl, rfl, m0, ?_⟩⟩
        exact fin _ _ (i + 1) _ (b2.upd) upd_same ((upd_ne ncl).trans hcl2) (by omega) (by omega)
      · refine ⟨_, rfl, .inl ⟨_, rfl, ?_⟩⟩
        refine ⟨_, _, rfl, rfl, (show (0 : Int) < 2147483587 by decide), ?_⟩
        refine ⟨_, rfl, _, _, rfl, rfl, .inl ⟨by decide, by decide⟩, _, _, rfl, rfl, _, _, rfl, rfl, ?_⟩
        refine ⟨_, _, rfl, rfl, ⟨by decide, by decide, mix1 _ i i0 ik2⟩, .inl ⟨_, rfl, ?_⟩⟩
        refine ⟨_, _, rfl, rfl, (show (0 : Int) < 2147483549 by decide), ?_⟩
        refine ⟨_, rfl, _, rfl, _, _, rfl, rfl, .inl ⟨by decide, by decide⟩, _, _, rfl, rfl, ?_⟩
        refine ⟨_, _, rfl, rfl, .inl (mix2 _), ?_⟩
        refine ⟨_, rfl, _, _, rfl, rfl, .inl ⟨by decide, by decide⟩, _, rfl, _, _, rfl, rfl, .inr ⟨by omega, by omega⟩, _, _, rfl, rfl, _, _, rfl, rfl, ?_⟩
        refine ⟨_, rfl, _, _, rfl, rfl, ⟨by decide, by decide, mix3 _ i i0 ik2⟩, .inl ⟨_, rfl, ?_⟩⟩
        refine ⟨_, _, rfl, rfl, (show (0 : Int) < 2147483647 by decide), ?_⟩
        refine ⟨_, rfl, _, _, rfl, rfl, wide_div (b := 6) (by decide) (by decide) (by decide) (by decide), .inl ⟨_, rfl, _, rfl, _, _, rfl, rfl, m0, ?_⟩⟩
        exact fin _ _ (i + 1) g b2 hp2 hcl2 (by omega) (by omega)
    · refine ⟨_, rfl, .inl ⟨_, rfl, ?_⟩⟩
      refine ⟨_, _, rfl, rfl, (show (0 : Int) < 2147483587 by decide), ?_⟩
      refine ⟨_, rfl, _, _, rfl, rfl, .inl ⟨by decide, by decide⟩, _, _, rfl, rfl, _, _, rfl, rfl, ?_⟩
      refine ⟨_, _, rfl, rfl, ⟨by decide, by decide, mix1 _ i i0 ik2⟩, .inl ⟨_, rfl, ?_⟩⟩
      refine ⟨_, _, rfl, rfl, (show (0 : Int) < 2147483549 by decide), ?_⟩
      refine ⟨_, rfl, _, rfl, _, _, rfl, rfl, .inl ⟨by decide, by decide⟩, _, _, rfl, rfl, ?_⟩
      refine ⟨_, _, rfl, rfl, .inl (mix2 _), ?_⟩
      refine ⟨_, rfl, _, _, rfl, rfl, .inl ⟨by decide, by decide⟩, _, rfl, _, _, rfl, rfl, .inr ⟨by omega, by omega⟩, _, _, rfl, rfl, _, _, rfl, rfl, ?_⟩
      refine ⟨_, rfl, _, _, rfl, rfl, ⟨by decide, by decide, mix3 _ i i0 ik2⟩, .inl ⟨_, rfl, ?_⟩⟩
      refine ⟨_, _, rfl, rfl, (show (0 : Int) < 2147483647 by decide), ?_⟩
      refine ⟨_, rfl, _, _, rfl, rfl, wide_div (b := 6) (by decide) (by decide) (by decide) (by decide), .inl ⟨_, rfl, _, rfl, _, _, rfl, rfl, m0, ?_⟩⟩
      exact fin _ _ (i + 1) g b2 hp2 hcl2 (by omega) (by omega)
end
end ST
end
section
set_option Elab.async false
set_option linter.all false
set_option maxRecDepth 100000
set_option maxHeartbeats 1000000
/-! The law's pen made; picks; prices. -/
namespace ST
open PySem PySem.Spec PyProof.Rows L2 SgO
section
variable {w : World} {K : PySem.W.Frag} {mg : Str → Option Value} {base : Heap}
/-- what is no list stands, whatever the pen does -/
theorem keepP {H H' : Hp} {p cl b : Addr} {k : Nat} {o : HO} (hp : PenAt H p cl k) (s : But p H H') (e : H b = some o) (n : ∀ l, o ≠ .lst l) : H' b = some o := s b o (fun z => by
  obtain ⟨cs, i, g, h1, _⟩ := hp
  rw [z, h1] at e
  exact n _ (Option.some.inj e).symm) e
def sp__law_pen (K : PySem.W.Frag) : Sp0 := fun vs H Q => ∃ (s : Addr) (cs : List Int), vs = [.ref s] ∧ SqL K H s (cs.map V.int) ∧ ∀ H' p cl, Same H H' → H p = none → PenAt H' p cl 0 → Q (.ref p) H'
abbrev n__law_pen : List Str := ["_law_script"]
theorem sc__law_pen : FnScope n__law_pen ["_law_script"] (defScope s__law_pen) := ⟨rfl, rfl, rfl, by decide +kernel, rfl, by decide +kernel, by decide +kernel⟩
theorem fn__law_pen (T : Txt K mg) : Fn w K mg base 1 (a__law_pen K) (sp__law_pen K) := by
  refine fn_by (N := n__law_pen) (ps := ["_law_script"]) (st := s__law_pen) (T.fn 26 rfl) sc__law_pen (fun _ _ _ _ _ _ us hl => match us, hl with | [_], _ => rfl) (by rintro vs H Q ⟨s, cs, rfl, hs, q⟩; rfl) fun cdv A outer s H vs Q hr h => ?_
  obtain ⟨s, cs, rfl, hs, q⟩ := h
  refine ⟨_, pss_one (ps_ret (pe_lst (pa_cons (pe_callTy (lstOf_ K) (by rfl) (T.free T.r_f_list) bb_list (pa_cons (pe_slice (slL_ K) (pv 0) po_none (po_some pe_int)) pa_nil)) (pa_cons pe_int (pa_cons pe_int pa_nil))))), ?_⟩
  refine ⟨_, rfl, _, rfl, ?_⟩
  refine ⟨s, _, rfl, hs, fun a ha => ?_⟩
  have ec : cutV (cs.map V.int) none (some 63) = ((cs.drop (HT.sIx (cs.map V.int).length 0 none)).take (HT.sIx (cs.map V.int).length (cs.map V.int).length (some 63) - HT.sIx (cs.map V.int).length 0 none)).map V.int := by
    unfold cutV
    rw [List.map_take, List.map_drop]
  rw [ec]
  generalize (cs.drop (HT.sIx (cs.map V.int).length 0 none)).take (HT.sIx (cs.map V.int).length (cs.map V.int).length (some 63) - HT.sIx (cs.map V.int).length 0 none) = ds
  refine ⟨a, _, rfl, .inl (SqL.of upd_same), fun l hl => ?_⟩
  refine ⟨sz3, fun p hp => ?_⟩
  have s1 := same_upd (o := .lst (ds.map V.int)) ha
  have s2 := same_upd (o := .lst (ds.map V.int)) hl
  have s3 := same_upd (o := .lst [.ref l, .int 0, .int 0]) hp
  have s12 := s1.trans s2
  exact q _ p l (s12.trans s3) (s12.free hp) ⟨ds, 0, 0, upd_same, s3 _ _ upd_same, by omega, by omega⟩
def sp__law_pick (K : PySem.W.Frag) : Sp0 := fun vs H Q => ∃ (p cl l : Addr) (k : Nat) (xs : List V), vs = [.ref p, .ref l] ∧ PenAt H p cl k ∧ k ≤ 100000 ∧ H l = some (.lst xs) ∧ l ≠ p ∧ 0 < xs.length ∧ xs.length ≤ 1000 ∧ ∀ H' x, x ∈ xs → But p H H' → PenAt H' p cl (k + 1) → Q x H'
abbrev n__law_pick : List Str := ["_law_pen_here", "_law_some"]
theorem sc__law_pick : FnScope n__law_pick ["_law_pen_here", "_law_some"] (defScope s__law_pick) := ⟨rfl, rfl, rfl, by decide +kernel, rfl, by decide +kernel, by decide +kernel⟩
theorem fn__law_pick (T : Txt K mg) : Fn w K mg base 2 (a__law_pick K) (sp__law_pick K) := by
  refine fn_by (N := n__law_pick) (ps := ["_law_pen_here", "_law_some"]) (st := s__law_pick) (T.fn 28 rfl) sc__law_pick (fun _ _ _ _ _ _ us hl => match us, hl with | [_, _], _ => rfl) (by rintro vs H Q ⟨p, cl, l, k, xs, rfl, hp, hk, hl, ne, h0, h1, q⟩; rfl) fun cdv A outer s H vs Q hr h => ?_
  obtain ⟨p, cl, l, k, xs, rfl, hp, hk, hl, ne, h0, h1, q⟩ := h
  refine ⟨_, pss_one (ps_ret (pe_ix (ixL_ K) (pv 1) (pe_fn (fn__law_draw T) hr (by decide) (by rfl) (T.glo T.r_g__law_draw) (T.kp 27 rfl) (pa_cons (pv 0) (pa_cons (pe_callB (lenQ_ K) (by rfl) (T.free T.r_f_len) bb_len (pa_cons (pv 1) pa_nil)) pa_nil))) (fun _ _ => rfl))), ?_⟩
  refine ⟨_, rfl, _, rfl, _, rfl, l, _, rfl, .inl (SqL.of hl), p, cl, k, _, rfl, hp, by omega, by omega, hk, fun H1 d hd b1 hp1 => ?_⟩
  have hl1 := b1 _ _ ne hl
  have hdl : d < xs.length := by omega
  refine ⟨l, _, _, xs[d], rfl, rfl, SqL.of hl1, atI_nat (List.getElem?_eq_getElem hdl), ?_⟩
  exact q H1 _ (List.getElem_mem hdl) b1 hp1
def sp__law_price (K : PySem.W.Frag) : Sp0 := fun vs H Q => ∃ (p cl : Addr) (k : Nat), vs = [.ref p] ∧ PenAt H p cl k ∧ k ≤ 90000 ∧ ∀ H' (i : Int), -999999999999 ≤ i → i ≤ 999999999999 → But p H H' → PenAt H' p cl (k + 2) → Q (.int i) H'
abbrev n__law_price : List Str := ["_law_pen_here"]
theorem sc__law_price : FnScope n__law_price ["_law_pen_here"] (defScope s__law_price) := ⟨rfl, rfl, rfl, by decide +kernel, rfl, by decide +kernel, by decide +kernel⟩
theorem fn__law_price (T : Txt K mg) : Fn w K mg base 3 (a__law_price K) (sp__law_price K) := by
  refine fn_by (N := n__law_price) (ps := ["_law_pen_here"]) (st := s__law_price) (T.fn 31 rfl) sc__law_price (fun _ _ _ _ _ _ us hl => match us, hl with | [_], _ => rfl) (by rintro vs H Q ⟨p, cl, k, rfl, hp, hk, q⟩; rfl) fun cdv A outer s H vs Q hr h => ?_
  obtain ⟨p, cl, k, rfl, hp, hk, q⟩ := h
  refine ⟨_, pss_one (ps_ret (pe_fn (fn__law_pick T) hr (by decide) (by rfl) (T.glo T.r_g__law_pick) (T.kp 28 rfl) (pa_cons (pv 0) (pa_cons (pe_lst (pa_cons pe_int (pa_cons pe_int (pa_cons pe_int (pa_cons pe_int (pa_cons (pe_un un_neg pe_int) (pa_cons pe_int (pa_cons pe_int (pa_cons (pe_un un_neg pe_int) (pa_cons (pe_fn (fn__law_draw T) hr (by decide) (by rfl) (T.glo T.r_g__law_draw) (T.kp 27 rfl) (pa_cons (pv 0) (pa_cons (pe_op op_pow pe_int pe_int) pa_nil))) pa_nil)))))))))) pa_nil)))), ?_⟩
  refine ⟨_, rfl, _, rfl, _, rfl, _, rfl, _, _, rfl, rfl, ⟨by decide, by decide, by decide⟩, p, cl, k, _, rfl, hp, by decide, by decide, by omega, fun H1 d hd b1 hp1 => ?_⟩
  have hd : (d : Int) < 10 ^ (12 : Int).toNat := hd
  have e12 : (10 : Int) ^ (12 : Int).toNat = 1000000000000 := by decide
  rw [e12] at hd
  refine ⟨by show 9 ≤ sizeLine; decide, fun l hl => ?_⟩
  have hp2 := hp1.upd (o := .lst [.int 0, .int 0, .int 1, .int 5, .int (-3), .int 2, .int 999999999999, .int (-999999999999), .int (d : Nat)]) hl
  have nlp : l ≠ p := (hp1.ne hl).1
  refine ⟨p, cl, l, k + 1, _, rfl, hp2, by omega, upd_same, nlp, by show 0 < 9; decide, by show 9 ≤ 1000; decide, fun H3 x hx b3 hp3 => ?_⟩
  have bb : But p H H3 := (b1.trans (ST.Same.but (same_upd hl) p)).trans b3
  have mem : ∃ i : Int, x = .int i ∧ -999999999999 ≤ i ∧ i ≤ 999999999999 := by
    simp only [List.mem_cons, List.not_mem_nil, or_false] at hx
    rcases hx with e | e | e | e | e | e | e | e | e <;> exact ⟨_, e, by omega, by omega⟩
  obtain ⟨i, rfl, i1, i2⟩ := mem
  exact q H3 i i1 i2 bb hp3
end
end ST
end
section
set_option Elab.async false
set_option linter.all false
set_option maxRecDepth 100000
set_option maxHeartbeats 1000000
/-! The law's titles. -/
namespace ST
open PySem PySem.Spec PyProof.Rows L2 SgO TL
section
variable {w : World} {K : PySem.W.Frag} {mg : Str → Option Value} {base : Heap}
abbrev A26 : List Nat := ("abcdefghijklmnopqrstuvwxyz" : Str).cps.toList
theorem A26_len : A26.length = 26 := by decide +kernel
theorem A26_nd : A26.Nodup := by decide +kernel
theorem joinL_nil : ∀ ps : List (List Nat), joinL [] ps = ps.flatten
  | [] => rfl
  | [p] => by simp [joinL]
  | p :: q :: r => by rw [joinL, List.nil_append, joinL_nil (q :: r)]; rfl
theorem word_ok {ys : List Str} (h : ∀ y ∈ ys, ∃ c ∈ A26, y = ⟨#[c]⟩) : (∀ c ∈ tl (Txt.join "" ys), c ∈ A26) ∧ (tl (Txt.join "" ys)).length = ys.length := by
  rw [join_eq, tl_join, show tl "" = [] from by decide +kernel, joinL_nil]
  induction ys with
  | nil => simp
  | cons y r ih =>
    obtain ⟨i1, i2⟩ := ih fun z hz => h z (List.mem_cons_of_mem _ hz)
    obtain ⟨c, hc, rfl⟩ := h y List.mem_cons_self
    rw [List.map_cons, List.flatten_cons]
    refine ⟨fun d hd => ?_, ?_⟩
    · rcases List.mem_append.mp hd with m | m
      · have : d = c := by simpa [tl] using m
        rw [this]
        exact hc
      · exact i1 d m
    · rw [List.length_append, i2, List.length_cons]
      show [c].length + _ = _
      simp; omega
theorem tl_app (a b : Str) : tl (a ++ b) = tl a ++ tl b := by
  unfold tl
  rw [PySem.Str.cps_append, Array.toList_append]
theorem tl_take (z : Str) (n : Nat) (h : n ≤ (tl z).length) : tl (cutS z none (some (n : Int))) = (tl z).take n := by
  unfold cutS
  show ((tl z).drop 0).take (HT.sIx z.length z.length (some (n : Int)) - 0) = _
  rw [HT.sIx_nat, len_tl, Nat.min_eq_left h, List.drop_zero, Nat.sub_zero]
theorem tl_drop (z : Str) (n : Nat) (h : n ≤ (tl z).length) : tl (cutS z (some (n : Int)) none) = (tl z).drop n := by
  unfold cutS
  show ((tl z).drop (HT.sIx z.length 0 (some (n : Int)))).take (z.length - HT.sIx z.length 0 (some (n : Int))) = _
  rw [HT.sIx_nat, len_tl, Nat.min_eq_left h, List.take_of_length_le (by rw [List.length_drop]; exact Nat.le_refl _)]
/-- the i-th title -/
def tiE (W so : Str) (pos f i : Nat) : Str := ⟨#[A26.getD ((f + i) % 26) 0]⟩ ++ (if i % 2 = 0 then cutS W (some (pos : Int)) none else cutS W (some (pos : Int)) none ++ so)
def tiT (W so : Str) (pos f i : Nat) : Str := cutS W none (some (pos : Int)) ++ tiE W so pos f i
section
variable {W so : Str} {pos f i : Nat}
theorem tl_tiE (h : pos ≤ (tl W).length) : tl (tiE W so pos f i) = A26.getD ((f + i) % 26) 0 :: (if i % 2 = 0 then (tl W).drop pos else (tl W).drop pos ++ tl so) := by
  unfold tiE
  rw [tl_app]
  by_cases e : i % 2 = 0
  · rw [if_pos e, if_pos e, tl_drop _ _ h]
    rfl
  · rw [if_neg e, if_neg e, tl_app, tl_drop _ _ h]
    rfl
theorem tl_tiT (h : pos ≤ (tl W).length) : tl (tiT W so pos f i) = (tl W).take pos ++ (A26.getD ((f + i) % 26) 0 :: (if i % 2 = 0 then (tl W).drop pos else (tl W).drop pos ++ tl so)) := by
  unfold tiT
  rw [tl_app, tl_take _ _ h, tl_tiE h]
theorem A26_get (n : Nat) : A26.getD (n % 26) 0 ∈ A26 := by
  have h : n % 26 < A26.length := by rw [A26_len]; omega
  rw [List.getD_eq_getElem?_getD, List.getElem?_eq_getElem h]
  exact List.getElem_mem h
theorem tiT_nm (hW : ∀ c ∈ tl W, c ∈ A26) (hWl : (tl W).length ≤ 6) (hs : ∀ c ∈ tl so, c ∈ A26) (hsl : (tl so).length ≤ 1) (h : pos ≤ (tl W).length) : Nm (tiT W so pos f i) := by
  have e := tl_tiT (so := so) (f := f) (i := i) h
  have hl : (tl (tiT W so pos f i)).length ≤ 8 ∧ 1 ≤ (tl (tiT W so pos f i)).length := by
    rw [e, List.length_append, List.length_cons, List.length_take]
    split
    · rw [List.length_drop]
      omega
    · rw [List.length_append, List.length_drop]
      omega
  have hz : (tiT W so pos f i).cps.size = (tl (tiT W so pos f i)).length := by simp [tl]
  unfold Nm nmB
  rw [hz, decide_eq_true hl.2, decide_eq_true hl.1]
  refine List.all_eq_true.mpr fun c hc => decide_eq_true ?_
  have hc : c ∈ tl (tiT W so pos f i) := hc
  rw [e] at hc
  rcases List.mem_append.mp hc with m | m
  · exact hW c (List.mem_of_mem_take m)
  · rcases List.mem_cons.mp m with rfl | m
    · exact A26_get _
    · split at m
      · exact hW c (List.mem_of_mem_drop m)
      · rcases List.mem_append.mp m with m | m
        · exact hW c (List.mem_of_mem_drop m)
        · exact hs c m
theorem tiT_inj {j : Nat} (h : pos ≤ (tl W).length) (hi : i < 26) (hj : j < 26) (e : tiT W so pos f i = tiT W so pos f j) : i = j := by
  have e1 := congrArg tl e
  rw [tl_tiT h, tl_tiT h] at e1
  have e2 := List.append_cancel_left e1
  injection e2 with e3 _
  have h1 : (f + i) % 26 < A26.length := by rw [A26_len]; omega
  have h2 : (f + j) % 26 < A26.length := by rw [A26_len]; omega
  rw [List.getD_eq_getElem?_getD, List.getD_eq_getElem?_getD, List.getElem?_eq_getElem h1, List.getElem?_eq_getElem h2] at e3
  have e4 : (f + i) % 26 = (f + j) % 26 := nd_ix A26_nd (List.getElem?_eq_getElem h1) (by rw [List.getElem?_eq_getElem h2]; exact congrArg some e3.symm)
  omega
end
theorem tiT_nd {W so : Str} {pos f : Nat} (h : pos ≤ (tl W).length) {n : Nat} (hn : n ≤ 26) : ((List.range n).map (tiT W so pos f)).Nodup := by
  refine List.Pairwise.map _ (R := fun a b => a ≠ b ∧ a < 26 ∧ b < 26) (fun a b q e => q.1 (tiT_inj h q.2.1 q.2.2 e)) ?_
  have : (List.range n).Pairwise (· ≠ ·) := List.nodup_range
  refine List.Pairwise.imp_of_mem (fun {a b} ha hb q => ⟨q, ?_, ?_⟩) this
  · have := List.mem_range.mp ha
    omega
  · have := List.mem_range.mp hb
    omega
theorem atI26 (f i : Nat) : atI A26 (((f : Nat) + (0 + (i : Nat)) : Int) % 26) = some (A26.getD ((f + i) % 26) 0) := by
  have h : (f + i) % 26 < A26.length := by rw [A26_len]; omega
  rw [show ((f : Nat) + (0 + (i : Nat)) : Int) % 26 = (((f + i) % 26 : Nat) : Int) by omega]
  refine atI_nat ?_
  rw [List.getD_eq_getElem?_getD, List.getElem?_eq_getElem h]
  rfl
theorem atI2 (a b : V) (i : Nat) : atI [a, b] ((0 + (i : Nat) : Int) % 2) = some (if i % 2 = 0 then a else b) := by
  rw [show (0 + (i : Nat) : Int) % 2 = ((i % 2 : Nat) : Int) by omega]
  refine atI_nat ?_
  rcases Nat.mod_two_eq_zero_or_one i with e | e
  · rw [e]; rfl
  · rw [e]; rfl
theorem fresh_but {H H' : Hp} {p D : Addr} (b : But p H H') (n : D ≠ p) (h : H' D = none) : H D = none := fun_none b n h
def sp__law_titles (K : PySem.W.Frag) : Sp0 := fun vs H Q => ∃ (p cl : Addr) (k n : Nat), vs = [.ref p, .int (n : Nat)] ∧ PenAt H p cl k ∧ k ≤ 90000 ∧ n ≤ 26 ∧
  ∀ (H' : Hp) (l : Addr) (ts : List Str), ts.length = n → ts.Nodup → (∀ t ∈ ts, Nm t) → But p H H' → PenAt H' p cl (k + 10) → H' l = some (.lst (ts.map V.str)) → l ≠ p → l ≠ cl → H l = none → Q (.ref l) H'
abbrev n__law_titles : List Str := ["_law_pen_here", "_law_many", "_law_letters", "_law_word", "_law_first", "_law_place_so", "_law_tail_so", "_law_tails", "_law_ends_here", "_law_k", "_law_end"]
theorem sc__law_titles : FnScope n__law_titles ["_law_pen_here", "_law_many"] (defScope s__law_titles) := ⟨rfl, rfl, rfl, by decide +kernel, rfl, by decide +kernel, by decide +kernel⟩
theorem fn__law_titles (T : Txt K mg) : Fn w K mg base 3 (a__law_titles K) (sp__law_titles K) := by
  refine fn_by (N := n__law_titles) (ps := ["_law_pen_here", "_law_many"]) (st := s__law_titles) (T.fn 29 rfl) sc__law_titles (fun _ _ _ _ _ _ us hl => match us, hl with | [_, _], _ => rfl) (by rintro vs H Q ⟨p, cl, k, n, rfl, hp, hk, hn, q⟩; rfl) fun cdv A outer s H vs Q hr h => ?_
  obtain ⟨p, cl, k, n, rfl, hp, hk, hn, q⟩ := h
  refine ⟨_, pss_cons (ps_set (i := 2) sc__law_titles.nd rfl (by first | exact .inl rfl | exact .inr rfl) (pe_str))
  (pss_cons (ps_set (i := 3) sc__law_titles.nd rfl (by first | exact .inl rfl | exact .inr rfl) (pe_join pe_str (pe_lc (own := [("_law_k", 9)]) rfl sc__law_titles.nd (pi_range1 (by rfl) (T.free T.r_f_range) (pa_cons (pe_fn (fn__law_draw T) hr (by decide) (by rfl) (T.glo T.r_g__law_draw) (T.kp 27 rfl) (pa_cons (pv 0) (pa_cons pe_int pa_nil))) pa_nil)) (blkOk_by (own := [("_law_k", 9)]) (N := n__law_titles) (sc := defScope s__law_titles) (by decide +kernel)) (fun _ _ _ _ _ => pg_name (i := 9) sc__law_titles.nd rfl (by first | exact .inl rfl | exact .inr rfl)) (fun _ _ _ _ _ => pts_nil) (fun _ _ _ _ _ => pe_ix ix_str (pv 2) (pe_fn (fn__law_draw T) hr (by decide) (by rfl) (T.glo T.r_g__law_draw) (T.kp 27 rfl) (pa_cons (pv 0) (pa_cons pe_int pa_nil))) (fun _ _ => rfl)))))
  (pss_cons (ps_asg (pe_tup (pa_cons (pe_fn (fn__law_draw T) hr (by decide) (by rfl) (T.glo T.r_g__law_draw) (T.kp 27 rfl) (pa_cons (pv 0) (pa_cons pe_int pa_nil))) (pa_cons (pe_fn (fn__law_draw T) hr (by decide) (by rfl) (T.glo T.r_g__law_draw) (T.kp 27 rfl) (pa_cons (pv 0) (pa_cons (pe_op op_add (pe_callB call_len_str (by rfl) (T.free T.r_f_len) bb_len (pa_cons (pv 3) pa_nil)) pe_int) pa_nil))) (pa_cons (pe_fn (fn__law_pick T) hr (by decide) (by rfl) (T.glo T.r_g__law_pick) (T.kp 28 rfl) (pa_cons (pv 0) (pa_cons (pe_lst (pa_cons pe_str (pa_cons pe_str (pa_cons pe_str (pa_cons pe_str pa_nil))))) pa_nil))) pa_nil)))) (gtup_ K (n := 3) (pgs_cons (pg_name (i := 4) sc__law_titles.nd rfl (by first | exact .inl rfl | exact .inr rfl)) (pgs_cons (pg_name (i := 5) sc__law_titles.nd rfl (by first | exact .inl rfl | exact .inr rfl)) (pgs_cons (pg_name (i := 6) sc__law_titles.nd rfl (by first | exact .inl rfl | exact .inr rfl)) pgs_nil)))))
  (pss_cons (ps_set (i := 7) sc__law_titles.nd rfl (by first | exact .inl rfl | exact .inr rfl) (pe_lst (pa_cons (pe_slice sl_str (pv 3) (po_some (pv 5)) po_none) (pa_cons (pe_op op_add_str (pe_slice sl_str (pv 3) (po_some (pv 5)) po_none) (pv 6)) pa_nil))))
  (pss_cons (ps_setLc (i := 8) (own := [("_law_k", 9)]) rfl sc__law_titles.nd rfl rfl (sw_true rfl rfl rfl (by decide +kernel)) (pi_range1 (by rfl) (T.free T.r_f_range) (pa_cons (pv 1) pa_nil)) (blkOk_by (own := [("_law_k", 9)]) (N := n__law_titles) (sc := defScope s__law_titles) (by decide +kernel)) (fun _ _ _ _ _ => pg_name (i := 9) sc__law_titles.nd rfl (by first | exact .inl rfl | exact .inr rfl)) (fun _ _ _ _ _ => pts_nil) (fun _ _ _ _ _ => pe_op op_add_str (pe_ix ix_str (pv 2) (pe_op op_mod (pe_callTy call_int1 (by rfl) (T.free T.r_f_int) bb_int (pa_cons (pe_op op_add (pv 4) (pv 9)) pa_nil)) pe_int) (fun _ _ => rfl)) (pe_ix (ixL_ K) (pv 7) (pe_op op_mod (pv 9) pe_int) (fun _ _ => rfl))))
  (pss_one (ps_ret (pe_lc (own := [("_law_end", 10)]) rfl sc__law_titles.nd (piL_ K (pv 8)) (blkOk_by (own := [("_law_end", 10)]) (N := n__law_titles) (sc := defScope s__law_titles) (by decide +kernel)) (fun _ _ _ _ _ => pg_name (i := 10) sc__law_titles.nd rfl (by first | exact .inl rfl | exact .inr rfl)) (fun _ _ _ _ _ => pts_nil) (fun _ _ _ _ _ => pe_op op_add_str (pe_slice sl_str (pv 3) po_none (po_some (pv 5))) (pv 10))))))))), ?_⟩
  refine ⟨⟨_, rfl⟩, ?_⟩
  refine ⟨_, rfl, p, cl, k, _, rfl, hp, by decide, by decide, by omega, fun H1 d hd b1 hp1 => ?_⟩
  have hd : (d : Int) < 7 := hd
  refine ⟨_, rfl, by omega, by omega, fun D hD => ?_⟩
  rw [Int.toNat_natCast]
  obtain ⟨nDp, nDc⟩ := hp1.ne hD
  have hD0 := fresh_but b1 nDp hD
  refine lc_it (walk_range (lo := 0) (n := d)) (fun i H2 => ∃ ys : List Str, H2 D = some (.lst (ys.map V.str)) ∧ ys.length = i ∧ (∀ y ∈ ys, ∃ c ∈ A26, y = ⟨#[c]⟩) ∧ But p H H2 ∧ PenAt H2 p cl (k + 1 + i))
    ⟨[], upd_same, rfl, fun _ z => (nomatch z), b1.upd' hD0, hp1.upd hD⟩ (fun _ _ _ _ => trivial) (fun i x H2 H3 hi ⟨ys, h1, h2, h3, h4, h5⟩ y => ?_) fun H2 ⟨ys, h1, h2, h3, h4, h5⟩ => ?_
  · obtain ⟨rfl, rfl⟩ := y
    refine ⟨rfl, _, rfl, _, rfl, p, cl, _, _, rfl, h5, by decide, by decide, by omega, fun H4 e he b4 hp4 => ?_⟩
    have he : (e : Int) < 26 := he
    have hel : e < A26.length := by rw [A26_len]; omega
    refine ⟨_, _, A26[e], rfl, rfl, by decide, atI_nat (List.getElem?_eq_getElem hel), ?_⟩
    have hD4 := b4 _ _ nDp h1
    refine ⟨_, hD4, ?_, ys ++ [⟨#[A26[e]]⟩], by rw [upd_same, List.map_append]; rfl, by rw [List.length_append, h2]; rfl, fun z hz => ?_, (h4.trans b4).upd' hD0, (hp4.but nDp nDc).mono (by omega)⟩
    · rw [List.length_map, h2]
      exact Nat.lt_of_lt_of_le (show i < 7 by omega) (by decide)
    · rcases List.mem_append.mp hz with m | m
      · exact h3 z m
      · exact ⟨_, List.getElem_mem hel, List.mem_singleton.mp m⟩
  obtain ⟨hW1, hW2⟩ := word_ok h3
  have l6 : ys.length ≤ 6 := by omega
  refine ⟨_, D, ys, rfl, rfl, .inl (SqL.of h1), ?_, ?_⟩
  · have : (ys.map (·.length)).sum = ys.length := by
      clear h1 h2 hW1 hW2 l6
      induction ys with
      | nil => rfl
      | cons y r ih =>
        obtain ⟨c, _, rfl⟩ := h3 y List.mem_cons_self
        rw [List.map_cons, List.sum_cons, ih fun z hz => h3 z (List.mem_cons_of_mem _ hz), List.length_cons]
        show 1 + _ = _
        omega
    rw [this]
    show ys.length + ys.length * 0 ≤ _
    omega
  generalize Txt.join "" ys = W at hW1 hW2
  have hWl : (tl W).length ≤ 6 := by omega
  clear h1 h3
  have wl : W.length = (tl W).length := len_tl W
  -- the three draws
  refine ⟨_, rfl, p, cl, _, _, rfl, h5, by decide, by decide, by omega, fun H3 f hf b3 hp3 => ?_⟩
  have lenW : W.length ≤ sizeLine := Nat.le_trans (show W.length ≤ 6 by omega) (by decide)
  refine ⟨_, rfl, _, rfl, _, rfl, lenW, _, _, rfl, rfl, p, cl, _, _, rfl, hp3, by omega, by omega, by omega, fun H4 pos hpos b4 hp4 => ?_⟩
  refine ⟨_, rfl, sz4, fun l hl => ?_⟩
  obtain ⟨nlp, nlc⟩ := hp4.ne hl
  refine ⟨p, cl, l, _, _, rfl, hp4.upd hl, by omega, upd_same, nlp, by show 0 < 4; decide, by show 4 ≤ 1000; decide, fun H5 x hx b5 hp5 => ?_⟩
  have hso : ∃ so : Str, x = .str so ∧ (∀ c ∈ tl so, c ∈ A26) ∧ (tl so).length ≤ 1 := by
    simp only [List.mem_cons, List.not_mem_nil, or_false] at hx
    rcases hx with e | e | e | e
    · exact ⟨"", e, by decide +kernel, by decide +kernel⟩
    · exact ⟨"", e, by decide +kernel, by decide +kernel⟩
    · exact ⟨"z", e, by decide +kernel, by decide +kernel⟩
    · exact ⟨"a", e, by decide +kernel, by decide +kernel⟩
  obtain ⟨so, rfl, hs1, hs2⟩ := hso
  have bb : But p H H5 := (((h4.trans b3).trans b4).trans (ST.Same.but (same_upd hl) p)).trans b5
  have hpl : pos ≤ (tl W).length := by omega
  refine ⟨sz3, fun tq htq => ⟨tq, _, rfl, SqT.of upd_same, rfl, _, _, rfl, _, _, rfl, _, _, rfl, rfl, ?_⟩⟩
  have s6 := same_upd (o := .tup [.int (f : Nat), .int (pos : Nat), .str so]) htq
  have b6 : But p H (upd H5 tq (.tup [.int (f : Nat), .int (pos : Nat), .str so])) := bb.trans (ST.Same.but s6 p)
  have hp6 := hp5.upd (o := .tup [.int (f : Nat), .int (pos : Nat), .str so]) htq
  generalize upd H5 tq (.tup [.int (f : Nat), .int (pos : Nat), .str so]) = H6 at b6 hp6
  have l1 : (cutS W (some (pos : Int)) none).length ≤ 6 := by
    rw [len_tl, tl_drop _ _ hpl, List.length_drop]
    omega
  have l2 : (cutS W none (some (pos : Int))).length ≤ 6 := by
    rw [len_tl, tl_take _ _ hpl, List.length_take]
    omega
  have l3 : so.length ≤ 1 := by
    rw [len_tl]
    exact hs2
  have big : ∀ x : Nat, x ≤ 100 → x ≤ sizeLine := fun x hx => Nat.le_trans hx (by decide)
  refine ⟨_, rfl, _, rfl, _, rfl, W, rfl, lenW, _, rfl, _, rfl, _, rfl, W, rfl, lenW, _, rfl, _, _, rfl, rfl, big _ (by omega), sz2, fun lt hlt => ?_⟩
  have b7 := b6.trans (ST.Same.but (same_upd (o := .lst [.str (cutS W (some (pos : Int)) none), .str (cutS W (some (pos : Int)) none ++ so)]) hlt) p)
  have hp7 := hp6.upd (o := .lst [.str (cutS W (some (pos : Int)) none), .str (cutS W (some (pos : Int)) none ++ so)]) hlt
  have hlt7 : upd H6 lt (.lst [.str (cutS W (some (pos : Int)) none), .str (cutS W (some (pos : Int)) none ++ so)]) lt = some (.lst [.str (cutS W (some (pos : Int)) none), .str (cutS W (some (pos : Int)) none ++ so)]) := upd_same
  generalize upd H6 lt (.lst [.str (cutS W (some (pos : Int)) none), .str (cutS W (some (pos : Int)) none ++ so)]) = H7 at b7 hp7 hlt7
  refine ⟨_, rfl, (n : Nat), rfl, by omega, by omega, fun D2 hD2 => ?_⟩
  rw [Int.toNat_natCast]
  have nz : (List.range n).length < sizeLine := by
    rw [List.length_range]
    exact Nat.lt_of_le_of_lt hn (by decide)
  refine lc_pure (as := List.range n) (c := fun i => .int (0 + (i : Nat))) src_r (fun _ => true) (fun i => .str (tiE W so pos f i)) hD2 (fun _ _ => trivial) nz (fun j i H8 Kt Kf hi sm k1 k2 => ?_) fun H8 s8 hl8 => ?_
  · refine ⟨rfl, _, rfl, _, rfl, _, rfl, _, _, rfl, rfl, .inl ⟨_, rfl, _, _, rfl, rfl, (show (0 : Int) < 26 by decide), ?_⟩⟩
    refine ⟨_, _, _, rfl, rfl, by decide, atI26 f i, ?_⟩
    refine ⟨_, rfl, _, rfl, _, _, rfl, rfl, (show (0 : Int) < 2 by decide), lt, _, _, _, rfl, rfl, SqL.of (sm _ _ hlt7), atI2 _ _ i, ?_⟩
    rcases Nat.mod_two_eq_zero_or_one i with e | e
    · rw [if_pos e]
      refine ⟨_, _, rfl, rfl, big _ (by show 1 + _ ≤ 100; omega), ?_⟩
      have z := k1 H8 rfl (Same.refl _)
      unfold tiE at z
      rw [if_pos e] at z
      exact z
    · have e' : ¬ i % 2 = 0 := by omega
      rw [if_neg e']
      refine ⟨_, _, rfl, rfl, big _ ?_, ?_⟩
      · have : (cutS W (some (pos : Int)) none ++ so).length ≤ 7 := by
          rw [len_tl, tl_app, List.length_append, ← len_tl, ← len_tl]
          omega
        show 1 + _ ≤ 100
        omega
      have z := k1 H8 rfl (Same.refl _)
      unfold tiE at z
      rw [if_neg e'] at z
      exact z
  rw [List.filter_eq_self.mpr fun _ _ => rfl] at hl8
  refine ⟨_, rfl, D2, rfl, ⟨_, SqL.of hl8⟩, fun D3 hD3 => ?_⟩
  refine lc_pure (as := List.range n) (c := fun i => .str (tiE W so pos f i)) src_l (fun _ => true) (fun i => .str (tiT W so pos f i)) hD3 (fun H9 sm => SqL.of (sm _ _ hl8)) nz (fun j i H9 Kt Kf hi sm k1 k2 => ?_) fun H9 s9 hl9 => ?_
  · refine ⟨rfl, _, rfl, _, rfl, _, rfl, W, rfl, lenW, _, rfl, _, _, rfl, rfl, big _ ?_, k1 H9 rfl (Same.refl _)⟩
    have : (tiE W so pos f i).length ≤ 8 := by
      rw [len_tl, tl_tiE hpl, List.length_cons]
      split
      · rw [List.length_drop]
        omega
      · rw [List.length_append, List.length_drop]
        omega
    omega
  rw [List.filter_eq_self.mpr fun _ _ => rfl] at hl9
  have b9 := (b7.trans (ST.Same.but s8 p)).trans (ST.Same.but s9 p)
  have hp8 := hp7.same s8
  obtain ⟨n3p, n3c⟩ := hp8.ne hD3
  refine q H9 D3 ((List.range n).map (tiT W so pos f)) (by rw [List.length_map, List.length_range]) (tiT_nd hpl hn) (fun t ht => ?_) b9 ((hp8.same s9).mono (by omega)) (by rw [hl9, List.map_map]; rfl) n3p n3c (fresh_but (b7.trans (ST.Same.but s8 p)) n3p hD3)
  obtain ⟨i, _, rfl⟩ := List.mem_map.mp ht
  exact tiT_nm hW1 hWl hs1 hs2 hpl
end
end ST
end
section
set_option Elab.async false
set_option linter.all false
set_option maxRecDepth 100000
set_option maxHeartbeats 1000000
/-! The law's closed rounds. -/
namespace ST
open PySem PySem.Spec PyProof.Rows L2 SgO
section
variable {w : World} {K : PySem.W.Frag} {mg : Str → Option Value} {base : Heap}
theorem popIx {d n : Nat} (h : d < n) : seqIndex? (d : Int) n = some d := by
  unfold seqIndex?
  have h1 : ¬ (d : Int) < 0 := by omega
  have h2 : (0 ≤ (d : Int) && (d : Int) < (n : Int)) = true := by
    rw [Bool.and_eq_true]
    exact ⟨decide_eq_true (by omega), decide_eq_true (by omega)⟩
  simp only [h1, if_false, h2, if_true, Int.toNat_natCast]
theorem map_erase {α β : Type} {f : α → β} : ∀ {xs : List α} {d : Nat}, (xs.map f).eraseIdx d = (xs.eraseIdx d).map f
  | [], _ => rfl
  | _ :: _, 0 => rfl
  | x :: r, d + 1 => by rw [List.map_cons, List.eraseIdx_cons_succ, List.eraseIdx_cons_succ, List.map_cons, map_erase]
theorem erase_perm {α : Type} : ∀ {xs : List α} {d : Nat} (h : d < xs.length), (xs[d] :: xs.eraseIdx d).Perm xs
  | [], _, h => absurd h (Nat.not_lt_zero _)
  | _ :: _, 0, _ => .refl _
  | x :: r, d + 1, h => by
    rw [List.eraseIdx_cons_succ]
    exact (List.Perm.swap x _ _).trans ((erase_perm (xs := r) (d := d) (Nat.lt_of_succ_lt_succ h)).cons x)
/-- every part of the corners, not none and not all, is come into by a pair -/
def Round (ss : List Str) (prs : List (Str × Str)) : Prop := ∀ S : List Str, (∃ x ∈ ss, x ∈ S) → (∃ x ∈ ss, x ∉ S) → ∃ pr ∈ prs, pr.1 ∉ S ∧ pr.2 ∈ S
theorem Round.more {ss : List Str} {prs qs : List (Str × Str)} (h : Round ss prs) : Round ss (prs ++ qs) := fun S h1 h2 => let ⟨pr, h3, h4⟩ := h S h1 h2; ⟨pr, List.mem_append_left _ h3, h4⟩
theorem Round.more' {ss : List Str} {prs qs : List (Str × Str)} (h : Round ss qs) : Round ss (prs ++ qs) := fun S h1 h2 => let ⟨pr, h3, h4⟩ := h S h1 h2; ⟨pr, List.mem_append_right _ h3, h4⟩
/-- the pairs of a round -/
def rdP (os : List Str) (i : Nat) : Str × Str := (os.getD i "", os.getD ((i + 1) % os.length) "")
def rdL (os : List Str) : List (Str × Str) := (List.range os.length).map (rdP os)
theorem getD_mem {os : List Str} {i : Nat} (h : i < os.length) : os.getD i "" ∈ os := by
  rw [List.getD_eq_getElem?_getD, List.getElem?_eq_getElem h]
  exact List.getElem_mem h
theorem getD_at {os : List Str} {i : Nat} (h : i < os.length) : os[i]? = some (os.getD i "") := by
  rw [List.getD_eq_getElem?_getD, List.getElem?_eq_getElem h]
  rfl
theorem rd_round {os ss : List Str} (pm : os.Perm ss) : Round ss (rdL os) := by
  intro S ⟨x, hx, hxS⟩ ⟨y, hy, hyS⟩
  refine Classical.byContradiction fun no => ?_
  have step : ∀ i, i < os.length → os.getD i "" ∉ S → os.getD ((i + 1) % os.length) "" ∉ S := fun i hi h1 h2 =>
    no ⟨rdP os i, List.mem_map.mpr ⟨i, List.mem_range.mpr hi, rfl⟩, h1, h2⟩
  obtain ⟨a, ha, ea⟩ := List.mem_iff_getElem.mp (pm.mem_iff.mpr hy)
  obtain ⟨b, hb, eb⟩ := List.mem_iff_getElem.mp (pm.mem_iff.mpr hx)
  have n0 : 0 < os.length := by omega
  have all : ∀ j, os.getD ((a + j) % os.length) "" ∉ S := by
    intro j
    induction j with
    | zero =>
      rw [Nat.add_zero, Nat.mod_eq_of_lt ha, List.getD_eq_getElem?_getD, List.getElem?_eq_getElem ha]
      show os[a] ∉ S
      rw [ea]
      exact hyS
    | succ j ih =>
      have := step _ (Nat.mod_lt _ n0) ih
      rwa [Nat.mod_add_mod, Nat.add_assoc] at this
  have e : (a + (os.length - a + b)) % os.length = b := by
    rw [show a + (os.length - a + b) = os.length + b by omega, Nat.add_mod_left, Nat.mod_eq_of_lt hb]
  have := all (os.length - a + b)
  rw [e, List.getD_eq_getElem?_getD, List.getElem?_eq_getElem hb] at this
  exact this (by show os[b] ∈ S; rw [eb]; exact hxS)
theorem rd_ne {os : List Str} (nd : os.Nodup) (h2 : 2 ≤ os.length) {pr : Str × Str} (h : pr ∈ rdL os) : pr.1 ∈ os ∧ pr.2 ∈ os ∧ pr.1 ≠ pr.2 := by
  obtain ⟨i, hi, rfl⟩ := List.mem_map.mp h
  have hi := List.mem_range.mp hi
  have hj : (i + 1) % os.length < os.length := Nat.mod_lt _ (by omega)
  refine ⟨getD_mem hi, getD_mem hj, fun e => ?_⟩
  have e : os.getD i "" = os.getD ((i + 1) % os.length) "" := e
  have := nd_ix nd (getD_at hi) (by rw [getD_at hj, e])
  by_cases hl : i + 1 < os.length
  · rw [Nat.mod_eq_of_lt hl] at this
    omega
  · have h3 : i + 1 = os.length := by omega
    have h0 : (i + 1) % os.length = 0 := by rw [h3, Nat.mod_self]
    omega
/-- pairs, each at its place -/
def PrsAt (H : Hp) (l : Addr) (prs : List ((Str × Str) × Addr)) : Prop := H l = some (.lst (prs.map fun b => .ref b.2)) ∧ ∀ b ∈ prs, T2 H b.2 b.1.1 b.1.2
theorem paired_prs {H : Hp} {D : Addr} {f : Nat → Str × Str} : ∀ {is : List Nat} {ys : List V}, Paired (fun i y => ∃ t, y = V.ref t ∧ t ≠ D ∧ T2 H t (f i).1 (f i).2) is ys → ∃ prs : List ((Str × Str) × Addr), ys = prs.map (fun b => .ref b.2) ∧ prs.map (·.1) = is.map f ∧ ∀ b ∈ prs, T2 H b.2 b.1.1 b.1.2
  | _, _, .nil => ⟨[], rfl, rfl, fun _ z => nomatch z⟩
  | i :: is, y :: ys, .cons ⟨t, e, _, h⟩ r => by
    obtain ⟨prs, h1, h2, h3⟩ := paired_prs r
    refine ⟨(f i, t) :: prs, by rw [e, h1]; rfl, by rw [List.map_cons, List.map_cons, h2], fun b hb => ?_⟩
    rcases List.mem_cons.mp hb with rfl | m
    · exact h
    · exact h3 b m
def sp__law_pairs (K : PySem.W.Frag) : Sp0 := fun vs H Q => ∃ (p cl sp : Addr) (k n : Nat) (ss : List Str), vs = [.ref p, .ref sp, .int (n : Nat)] ∧ PenAt H p cl k ∧ k ≤ 90000 ∧ H sp = some (.lst (ss.map V.str)) ∧ sp ≠ p ∧ ss.Nodup ∧ 2 ≤ ss.length ∧ ss.length ≤ 5 ∧ n ≤ 4 ∧
  ∀ (H' : Hp) (l : Addr) (prs : List ((Str × Str) × Addr)), prs.length = n * ss.length → (∀ b ∈ prs, b.1.1 ∈ ss ∧ b.1.2 ∈ ss ∧ b.1.1 ≠ b.1.2) → (1 ≤ n → Round ss (prs.map (·.1))) → But p H H' → PenAt H' p cl (k + 5 * n) → PrsAt H' l prs → l ≠ p → l ≠ cl → H l = none → Q (.ref l) H'
abbrev n__law_pairs : List Str := ["_law_pen_here", "_law_spots_here", "_law_rounds", "_law_pairs_here", "_law_lap", "_law_left_here", "_law_order", "_law_k"]
theorem sc__law_pairs : FnScope n__law_pairs ["_law_pen_here", "_law_spots_here", "_law_rounds"] (defScope s__law_pairs) := ⟨rfl, rfl, rfl, by decide +kernel, rfl, by decide +kernel, by decide +kernel⟩
theorem fn__law_pairs (T : Txt K mg) : Fn w K mg base 2 (a__law_pairs K) (sp__law_pairs K) := by
  refine fn_by (N := n__law_pairs) (ps := ["_law_pen_here", "_law_spots_here", "_law_rounds"]) (st := s__law_pairs) (T.fn 30 rfl) sc__law_pairs (fun _ _ _ _ _ _ us hl => match us, hl with | [_, _, _], _ => rfl) (by rintro vs H Q ⟨p, cl, sp, k, n, ss, rfl, hp, hk, hsp, nsp, snd, s2, s5, n4, q⟩; rfl) fun cdv A outer s H vs Q hr h => ?_
  obtain ⟨p, cl, sp, k, n, ss, rfl, hp, hk, hsp, nsp, snd, s2, s5, n4, q⟩ := h
  refine ⟨_, pss_cons (ps_set (i := 3) sc__law_pairs.nd rfl (by first | exact .inl rfl | exact .inr rfl) (pe_lst pa_nil))
  (pss_cons (ps_for PassesOwn.never rfl (pi_range1 (by rfl) (T.free T.r_f_range) (pa_cons (pv 2) pa_nil)) (pg_name (i := 4) sc__law_pairs.nd rfl (by first | exact .inl rfl | exact .inr rfl)) (pss_cons (ps_set (i := 5) sc__law_pairs.nd rfl (by first | exact .inl rfl | exact .inr rfl) (pe_callTy (lstOf_ K) (by rfl) (T.free T.r_f_list) bb_list (pa_cons (pv 1) pa_nil)))
  (pss_cons (ps_set (i := 6) sc__law_pairs.nd rfl (by first | exact .inl rfl | exact .inr rfl) (pe_lc (own := [("_law_k", 7)]) rfl sc__law_pairs.nd (pi_range1 (by rfl) (T.free T.r_f_range) (pa_cons (pe_callB (lenQ_ K) (by rfl) (T.free T.r_f_len) bb_len (pa_cons (pv 1) pa_nil)) pa_nil)) (blkOk_by (own := [("_law_k", 7)]) (N := n__law_pairs) (sc := defScope s__law_pairs) (by decide +kernel)) (fun _ _ _ _ _ => pg_name (i := 7) sc__law_pairs.nd rfl (by first | exact .inl rfl | exact .inr rfl)) (fun _ _ _ _ _ => pts_nil) (fun _ _ _ _ _ => bm_ K PySem.F.plainAttrs_list PySem.F.slot_list_pop PySem.F.type_list_pop mt_popAt (pv 5) (pa_cons (pe_fn (fn__law_draw T) hr (by decide) (by rfl) (T.glo T.r_g__law_draw) (T.kp 27 rfl) (pa_cons (pv 0) (pa_cons (pe_callB (lenQ_ K) (by rfl) (T.free T.r_f_len) bb_len (pa_cons (pv 5) pa_nil)) pa_nil))) pa_nil))))
  (pss_one (ps_set (i := 3) sc__law_pairs.nd rfl (by first | exact .inl rfl | exact .inr rfl) (pe_op op_cat (pv 3) (pe_lc (own := [("_law_k", 7)]) rfl sc__law_pairs.nd (pi_range1 (by rfl) (T.free T.r_f_range) (pa_cons (pe_callB (lenQ_ K) (by rfl) (T.free T.r_f_len) bb_len (pa_cons (pv 6) pa_nil)) pa_nil)) (blkOk_by (own := [("_law_k", 7)]) (N := n__law_pairs) (sc := defScope s__law_pairs) (by decide +kernel)) (fun _ _ _ _ _ => pg_name (i := 7) sc__law_pairs.nd rfl (by first | exact .inl rfl | exact .inr rfl)) (fun _ _ _ _ _ => pts_nil) (fun _ _ _ _ _ => pe_tup (pa_cons (pe_ix (ixL_ K) (pv 6) (pv 7) (fun _ _ => rfl)) (pa_cons (pe_ix (ixL_ K) (pv 6) (pe_op op_mod (pe_callTy call_int1 (by rfl) (T.free T.r_f_int) bb_int (pa_cons (pe_op op_add (pv 7) pe_int) pa_nil)) (pe_callB (lenQ_ K) (by rfl) (T.free T.r_f_len) bb_len (pa_cons (pv 6) pa_nil))) (fun _ _ => rfl)) pa_nil))))))))))
  (pss_one (ps_ret (pv 3)))), ?_⟩
  refine ⟨sz0, fun l0 hl0 => ?_⟩
  have s0 := same_upd (o := .lst []) hl0
  obtain ⟨n0p, n0c⟩ := hp.ne hl0
  refine ⟨_, rfl, (n : Nat), rfl, by omega, by omega, ?_⟩
  rw [Int.toNat_natCast]
  refine for_it (walk_range (lo := 0) (n := n)) (fun j σ H1 => ∃ prs lp x4 x5 x6 x7, σ = [some (.ref p), some (.ref sp), some (.int (n : Nat)), some (.ref lp), x4, x5, x6, x7] ∧ PrsAt H1 lp prs ∧ lp ≠ p ∧ lp ≠ cl ∧ H lp = none ∧ But p H H1 ∧ PenAt H1 p cl (k + 5 * j) ∧
      prs.length = j * ss.length ∧ (∀ b ∈ prs, b.1.1 ∈ ss ∧ b.1.2 ∈ ss ∧ b.1.1 ≠ b.1.2) ∧ (1 ≤ j → Round ss (prs.map (·.1))))
    ⟨[], l0, _, _, _, _, rfl, ⟨upd_same, fun _ z => (nomatch z)⟩, n0p, n0c, hl0, ST.Same.but s0 p, hp.same s0, by simp, fun _ z => (nomatch z), fun z => absurd z (by decide)⟩ (fun _ _ _ _ _ => trivial) (fun j x σ H1 H2 hj ⟨prs, lp, x4, x5, x6, x7, e, hpr, nlp, nlc, hlp0, bb, hpn, hlen, hok, hrd⟩ y => ?_) fun σ H1 ⟨prs, lp, x4, x5, x6, x7, e, hpr, nlp, nlc, hlp0, bb, hpn, hlen, hok, hrd⟩ => ?_
  rotate_left
  · subst e
    exact ⟨_, rfl, q H1 lp prs hlen hok hrd bb hpn hpr nlp nlc hlp0⟩
  subst e
  obtain ⟨rfl, rfl⟩ := y
  have hsp1 := bb _ _ nsp hsp
  refine ⟨_, rfl, sp, _, rfl, .inl (SqL.of hsp1), fun lf hlf => ?_⟩
  have sf := same_upd (o := .lst (ss.map V.str)) hlf
  obtain ⟨nfp, nfc⟩ := hpn.ne hlf
  have hlf0 := fresh_but bb nfp hlf
  have hlfH : upd H2 lf (.lst (ss.map V.str)) lf = some (.lst (ss.map V.str)) := upd_same
  have b1 := bb.trans (ST.Same.but sf p)
  have hpn1 := hpn.same sf
  have hpr1 : PrsAt (upd H2 lf (.lst (ss.map V.str))) lp prs := ⟨sf _ _ hpr.1, fun b hb => sf _ _ (hpr.2 b hb)⟩
  have nflp : lf ≠ lp := ne_of_none' hlf hpr.1
  generalize upd H2 lf (.lst (ss.map V.str)) = Hx at hlfH b1 hpn1 hpr1
  clear hpr hpn bb sf hsp1 hlf
  have hsp2 := b1 _ _ nsp hsp
  refine ⟨_, rfl, _, _, rfl, .inl (SqL.of hsp2), _, rfl, by omega, by rw [List.length_map]; omega, fun D hD => ?_⟩
  rw [Int.toNat_natCast, List.length_map]
  obtain ⟨nDp, nDc⟩ := hpn1.ne hD
  have hD0 := fresh_but b1 nDp hD
  have nDf : D ≠ lf := ne_of_none' hD hlfH
  have nDl : D ≠ lp := ne_of_none' hD hpr1.1
  refine lc_it (walk_range (lo := 0) (n := ss.length)) (fun i H3 => ∃ os ls : List Str, H3 D = some (.lst (os.map V.str)) ∧ H3 lf = some (.lst (ls.map V.str)) ∧ os.length = i ∧ (os ++ ls).Perm ss ∧ But p H H3 ∧ PenAt H3 p cl (k + 5 * j + i) ∧ PrsAt H3 lp prs)
    ⟨[], ss, upd_same, (upd_ne nDf.symm).trans hlfH, rfl, .refl _, b1.upd' hD0, hpn1.upd hD, (upd_ne nDl.symm).trans hpr1.1, fun b hb => (upd_ne (ne_of_none (hpr1.2 b hb) hD)).trans (hpr1.2 b hb)⟩ (fun _ _ _ _ => trivial) (fun i x H3 H4 hi ⟨os, ls, h1, h2, h3, h4, h5, h6, h7⟩ y => ?_) fun H3 ⟨os, ls, h1, h2, h3, h4, h5, h6, h7⟩ => ?_
  · obtain ⟨rfl, rfl⟩ := y
    have hls : ls.length = ss.length - i := by
      have := h4.length_eq
      rw [List.length_append] at this
      omega
    refine ⟨rfl, _, rfl, .inl ⟨rfl, _, SqL.of h2⟩, _, rfl, _, rfl, lf, _, rfl, .inl (SqL.of h2), p, cl, _, _, rfl, h6, by rw [List.length_map]; omega, by rw [List.length_map]; omega, by omega, fun H5 d hd b5 hp5 => ?_⟩
    rw [List.length_map] at hd
    have hdl : d < ls.length := by omega
    have h25 := b5 _ _ nfp h2
    have h15 := b5 _ _ nDp h1
    refine ⟨lf, _, _, d, .str ls[d], rfl, rfl, h25, by omega, by omega, popIx (by rw [List.length_map]; exact hdl), by rw [List.getElem?_map, List.getElem?_eq_getElem hdl]; rfl, ?_⟩
    have h1' : upd H5 lf (.lst ((ls.map V.str).eraseIdx d)) D = some (.lst (os.map V.str)) := (upd_ne nDf).trans h15
    refine ⟨_, h1', ?_, os ++ [ls[d]], ls.eraseIdx d, by rw [upd_same, List.map_append]; rfl, (upd_ne nDf.symm).trans (by rw [upd_same, map_erase]), by rw [List.length_append, h3]; rfl, ?_, ((h5.trans b5).upd' hlf0).upd' hD0, ((hp5.but nfp nfc).but nDp nDc).mono (by omega), ?_⟩
    · rw [List.length_map, h3]
      exact Nat.lt_of_lt_of_le (show i < 5 by omega) (by decide)
    · rw [List.append_assoc]
      exact (List.Perm.append_left os (erase_perm hdl)).trans h4
    · have e1 := b5 _ _ nlp h7.1
      refine ⟨(upd_ne nDl.symm).trans ((upd_ne nflp.symm).trans e1), fun b hb => ?_⟩
      have e2 := keepP h6 b5 (h7.2 b hb) (fun _ z => nomatch z)
      exact (upd_ne (ne_of e2 h15 (fun z => nomatch z))).trans ((upd_ne (ne_of e2 h25 (fun z => nomatch z))).trans e2)
  have pm : os.Perm ss := by
    have hl := h4.length_eq
    rw [List.length_append] at hl
    have : ls = [] := List.length_eq_zero_iff.mp (by omega)
    rw [this, List.append_nil] at h4
    exact h4
  have ond := pm.symm.nodup snd
  have ol : os.length = ss.length := h3
  -- the pairs of this round
  refine ⟨_, rfl, _, rfl, D, _, rfl, .inl (SqL.of h1), _, rfl, by omega, by rw [List.length_map]; omega, fun E hE => ?_⟩
  rw [Int.toNat_natCast, List.length_map]
  refine lc_keep (as := List.range os.length) (c := fun i => .int (0 + (i : Nat))) src_r (fun _ => true) (fun i y H => ∃ t, y = V.ref t ∧ t ≠ E ∧ T2 H t (rdP os i).1 (rdP os i).2) hE (fun i y Ha Hb h b => by
      obtain ⟨t, g1, g2, g3⟩ := h
      exact ⟨t, g1, g2, b t _ g2 g3⟩) (fun _ _ => trivial) (by rw [List.length_range, ol]; exact Nat.lt_of_le_of_lt s5 (by decide)) (fun _ i H4 Kt Kf hi s4 hEl k1 k2 => ?_) fun H4 ys s4 hl pr => ?_
  · have hi := List.mem_range.mp (List.mem_of_getElem? hi)
    have h14 := s4 _ _ h1
    have hj2 : (i + 1) % os.length < os.length := Nat.mod_lt _ (by omega)
    refine ⟨rfl, _, rfl, _, rfl, D, _, _, .str (os.getD i ""), rfl, rfl, SqL.of h14, ?_, ?_⟩
    · rw [Int.zero_add]
      exact atI_nat (by rw [List.getElem?_map, getD_at hi]; rfl)
    refine ⟨_, rfl, _, rfl, _, _, rfl, rfl, .inl ⟨_, rfl, _, rfl, D, _, rfl, .inl (SqL.of h14), _, _, rfl, rfl, by rw [List.length_map]; omega, ?_⟩⟩
    refine ⟨D, _, _, .str (os.getD ((i + 1) % os.length) ""), rfl, rfl, SqL.of h14, ?_, sz2, fun t ht => ?_⟩
    · rw [List.length_map, show ((0 + (i : Nat) + 1 : Int)) % ((os.length : Nat) : Int) = (((i + 1) % os.length : Nat) : Int) by rw [Int.natCast_emod]; congr 1; omega]
      exact atI_nat (by rw [List.getElem?_map, getD_at hj2]; rfl)
    obtain ⟨l, hl⟩ := hEl
    exact k1 _ _ rfl (same_upd ht) ⟨t, rfl, ne_of_none' ht hl, upd_same⟩
  rw [List.filter_eq_self.mpr fun _ _ => rfl] at pr
  obtain ⟨qs, rfl, hq1, hq2⟩ := paired_prs pr
  have hqs : qs.map (·.1) = rdL os := hq1
  have hql : qs.length = ss.length := by
    have := congrArg List.length hqs
    rw [List.length_map, rdL, List.length_map, List.length_range] at this
    omega
  have hlp4 := s4 _ _ h7.1
  have hmul : (j + 1) * ss.length = j * ss.length + ss.length := Nat.succ_mul ..
  have hj5 : j * ss.length ≤ 3 * 5 := Nat.mul_le_mul (by omega) s5
  refine ⟨lp, E, _, _, rfl, rfl, hlp4, hl, ?_, fun l2 hl2 => ?_⟩
  · rw [List.length_map, List.length_map, hlen, hql]
    exact Nat.le_trans (show j * ss.length + ss.length ≤ 20 by omega) (by decide)
  have s5' := same_upd (o := .lst ((prs.map fun b => V.ref b.2) ++ (qs.map fun b => V.ref b.2))) hl2
  have hp4 := h6.same s4
  obtain ⟨n2p, n2c⟩ := hp4.ne hl2
  have b4 := h5.trans (ST.Same.but s4 p)
  refine ⟨prs ++ qs, l2, _, _, _, _, rfl, ⟨by rw [upd_same, List.map_append], fun b hb => ?_⟩, n2p, n2c, fresh_but b4 n2p hl2, b4.trans (ST.Same.but s5' p), (hp4.same s5').mono (by omega), by rw [List.length_append, hlen, hql, hmul], fun b hb => ?_, fun _ => ?_⟩
  · rcases List.mem_append.mp hb with m | m
    · exact s5' _ _ (s4 _ _ (h7.2 b m))
    · exact s5' _ _ (hq2 b m)
  · rcases List.mem_append.mp hb with m | m
    · exact hok b m
    · have := rd_ne ond (by omega) (hqs ▸ List.mem_map.mpr ⟨b, m, rfl⟩)
      exact ⟨pm.mem_iff.mp this.1, pm.mem_iff.mp this.2.1, this.2.2⟩
  · rw [List.map_append, hqs]
    exact (rd_round pm).more'
end
end ST
end
section
set_option Elab.async false
set_option linter.all false
set_option maxRecDepth 100000
set_option maxHeartbeats 1000000
/-! The law's site. -/
namespace ST
open PySem PySem.Spec PyProof.Rows L2 SgO
section
variable {w : World} {K : PySem.W.Frag} {mg : Str → Option Value} {base : Heap}
structure Rw where
  k : Kd
  nm : Str
  a : Str
  b : Str
  i : Int
  j : Int
def kdS : Kd → Str
  | .lane => "lane"
  | .avenue => "avenue"
  | .road => "road"
abbrev rwV (r : Rw) : List V := [.str (kdS r.k), .str r.nm, .str r.a, .str r.b, .int r.i, .int r.j]
/-- the law's rows -/
def LAt (H : Hp) (l : Addr) (rs : List (Rw × Addr)) : Prop := H l = some (.lst (rs.map fun b => .ref b.2)) ∧ ∀ b ∈ rs, H b.2 = some (.tup (rwV b.1))
theorem LAt.same {H H' : Hp} {l : Addr} {rs : List (Rw × Addr)} (h : LAt H l rs) (s : Same H H') : LAt H' l rs := ⟨s _ _ h.1, fun b hb => s _ _ (h.2 b hb)⟩
theorem LAt.butP {H H' : Hp} {p cl l : Addr} {k : Nat} {rs : List (Rw × Addr)} (h : LAt H l rs) (hp : PenAt H p cl k) (n : l ≠ p) (b : But p H H') : LAt H' l rs := ⟨b _ _ n h.1, fun c hc => keepP hp b (h.2 c hc) (fun _ z => nomatch z)⟩
theorem PrsAt.same {H H' : Hp} {l : Addr} {rs : List ((Str × Str) × Addr)} (h : PrsAt H l rs) (s : Same H H') : PrsAt H' l rs := ⟨s _ _ h.1, fun b hb => s _ _ (h.2 b hb)⟩
theorem PrsAt.butP {H H' : Hp} {p cl l : Addr} {k : Nat} {rs : List ((Str × Str) × Addr)} (h : PrsAt H l rs) (hp : PenAt H p cl k) (n : l ≠ p) (b : But p H H') : PrsAt H' l rs := ⟨b _ _ n h.1, fun c hc => keepP hp b (h.2 c hc) (fun _ z => nomatch z)⟩
structure RsOk (ss : List Str) (rs : List Rw) : Prop where
  nd : (rs.map (·.nm)).Nodup
  len : rs.length ≤ 14
  nms : ∀ r ∈ rs, Nm r.nm
  sn : ∀ x ∈ ss, Nm x
  snd : ss.Nodup
  s2 : 2 ≤ ss.length
  s5 : ss.length ≤ 5
  ends : ∀ r ∈ rs, r.a ∈ ss ∧ r.b ∈ ss ∧ r.a ≠ r.b
  pr : ∀ r ∈ rs, (-999999999999 ≤ r.i ∧ r.i ≤ 999999999999) ∧ (-999999999999 ≤ r.j ∧ r.j ≤ 999999999999)
  rd : Round ss (rs.map fun r => (r.a, r.b))
def mxR (n : Nat) : Int := if (14 : Int) / (n : Nat) < 4 then 14 / (n : Nat) else 4
theorem mxR_ok {n : Nat} (h2 : 2 ≤ n) (h5 : n ≤ 5) : 0 < mxR n ∧ mxR n ≤ 4 ∧ ∀ d : Nat, (d : Int) < mxR n → (1 + d) * n ≤ 14 := by
  have : n = 2 ∨ n = 3 ∨ n = 4 ∨ n = 5 := by omega
  rcases this with rfl | rfl | rfl | rfl
  · have e : mxR 2 = 4 := by decide
    exact ⟨by rw [e]; decide, by rw [e]; decide, fun d hd => by rw [e] at hd; omega⟩
  · have e : mxR 3 = 4 := by decide
    exact ⟨by rw [e]; decide, by rw [e]; decide, fun d hd => by rw [e] at hd; omega⟩
  · have e : mxR 4 = 3 := by decide
    exact ⟨by rw [e]; decide, by rw [e]; decide, fun d hd => by rw [e] at hd; omega⟩
  · have e : mxR 5 = 2 := by decide
    exact ⟨by rw [e]; decide, by rw [e]; decide, fun d hd => by rw [e] at hd; omega⟩
theorem zip_at {rs : List Rw} {ts : List Str} {qs : List (Str × Str)} {i : Nat} {r : Rw} {t : Str} {q : Str × Str} (h1 : rs.map (·.nm) = ts.take i) (h2 : rs.map (fun r => (r.a, r.b)) = qs.take i) (ht : ts[i]? = some t) (hq : qs[i]? = some q) (er : r.nm = t) (e1 : (r.a, r.b) = q) :
    (rs ++ [r]).map (·.nm) = ts.take (i + 1) ∧ (rs ++ [r]).map (fun r => (r.a, r.b)) = qs.take (i + 1) := by
  rw [List.map_append, List.map_append, h1, h2, List.take_add_one, List.take_add_one, ht, hq]
  exact ⟨by rw [← er]; rfl, by rw [← e1]; rfl⟩
theorem kinds_in {x : V} (h : x ∈ ([.str "road", .str "road", .str "lane", .str "avenue"] : List V)) : ∃ k : Kd, x = .str (kdS k) := by
  simp only [List.mem_cons, List.not_mem_nil, or_false] at h
  rcases h with e | e | e | e
  · exact ⟨.road, e⟩
  · exact ⟨.road, e⟩
  · exact ⟨.lane, e⟩
  · exact ⟨.avenue, e⟩
abbrev kinds4 : List V := [.str "road", .str "road", .str "lane", .str "avenue"]
def sp__law_site (K : PySem.W.Frag) : Sp0 := fun vs H Q => ∃ (p cl kl : Addr) (k : Nat), vs = [.ref p, .ref kl, .int 5] ∧ PenAt H p cl k ∧ k ≤ 10000 ∧ H kl = some (.lst kinds4) ∧ kl ≠ p ∧
  ∀ (H' : Hp) (t l : Addr) (n : Int) (ss : List Str) (rs : List (Rw × Addr)), But p H H' → PenAt H' p cl (k + 200) → H' t = some (.tup [.ref l, .int n]) → LAt H' l rs → l ≠ p → l ≠ cl → RsOk ss (rs.map (·.1)) → Q (.ref t) H'
abbrev n__law_site : List Str := ["_law_pen_here", "_law_kinds", "_law_many", "_law_spots_here", "_law_rounds", "_law_pairs_here", "_law_k", "_law_titles_here", "_law_rows", "_law_kind", "_law_ahead", "_law_behind"]
theorem sc__law_site : FnScope n__law_site ["_law_pen_here", "_law_kinds", "_law_many"] (defScope s__law_site) := ⟨rfl, rfl, rfl, by decide +kernel, rfl, by decide +kernel, by decide +kernel⟩
theorem fn__law_site (T : Txt K mg) : Fn w K mg base 4 (a__law_site K) (sp__law_site K) := by
  refine fn_by (N := n__law_site) (ps := ["_law_pen_here", "_law_kinds", "_law_many"]) (st := s__law_site) (T.fn 32 rfl) sc__law_site (fun _ _ _ _ _ _ us hl => match us, hl with | [_, _, _], _ => rfl) (by rintro vs H Q ⟨p, cl, kl, k, rfl, hp, hk, hkl, nkl, q⟩; rfl) fun cdv A outer s H vs Q hr h => ?_
  obtain ⟨p, cl, kl, k, rfl, hp, hk, hkl, nkl, q⟩ := h
  refine ⟨_, pss_cons (ps_set (i := 3) sc__law_site.nd rfl (by first | exact .inl rfl | exact .inr rfl) (pe_fn (fn__law_titles T) hr (by decide) (by rfl) (T.glo T.r_g__law_titles) (T.kp 29 rfl) (pa_cons (pv 0) (pa_cons (pe_op op_add pe_int (pe_fn (fn__law_draw T) hr (by decide) (by rfl) (T.glo T.r_g__law_draw) (T.kp 27 rfl) (pa_cons (pv 0) (pa_cons (pe_op op_sub (pv 2) pe_int) pa_nil)))) pa_nil))))
  (pss_cons (ps_set (i := 4) sc__law_site.nd rfl (by first | exact .inl rfl | exact .inr rfl) (pe_op op_add pe_int (pe_fn (fn__law_draw T) hr (by decide) (by rfl) (T.glo T.r_g__law_draw) (T.kp 27 rfl) (pa_cons (pv 0) (pa_cons (pe_callB (call_min2 rfl) (by rfl) (T.free T.r_f_min) bb_min (pa_cons pe_int (pa_cons (pe_op op_fdivW pe_int (pe_callB (lenQ_ K) (by rfl) (T.free T.r_f_len) bb_len (pa_cons (pv 3) pa_nil))) pa_nil))) pa_nil)))))
  (pss_cons (ps_set (i := 5) sc__law_site.nd rfl (by first | exact .inl rfl | exact .inr rfl) (pe_fn (fn__law_pairs T) hr (by decide) (by rfl) (T.glo T.r_g__law_pairs) (T.kp 30 rfl) (pa_cons (pv 0) (pa_cons (pv 3) (pa_cons (pv 4) pa_nil)))))
  (pss_cons (ps_for PassesOwn.never rfl (pi_range1 (by rfl) (T.free T.r_f_range) (pa_cons (pe_fn (fn__law_draw T) hr (by decide) (by rfl) (T.glo T.r_g__law_draw) (T.kp 27 rfl) (pa_cons (pv 0) (pa_cons pe_int pa_nil))) pa_nil)) (pg_name (i := 6) sc__law_site.nd rfl (by first | exact .inl rfl | exact .inr rfl)) (pss_one (ps_if (pt_cmpR op_lt (pe_callB (lenQ_ K) (by rfl) (T.free T.r_f_len) bb_len (pa_cons (pv 5) pa_nil)) pe_int (by first | rfl | exact nomark _)) (pss_one (ps_expr (bm_ K PySem.F.plainAttrs_list PySem.F.slot_list_append PySem.F.type_list_append mt_append (pv 5) (pa_cons (pe_ix (ixL_ K) (pe_fn (fn__law_pairs T) hr (by decide) (by rfl) (T.glo T.r_g__law_pairs) (T.kp 30 rfl) (pa_cons (pv 0) (pa_cons (pv 3) (pa_cons pe_int pa_nil)))) pe_int (fun _ _ => rfl)) pa_nil)))) (pss_nil))))
  (pss_cons (ps_par (i := 7) (j := 8) rfl sc__law_site.nd rfl rfl (by decide) rfl rfl (pa_cons (pe_fn (fn__law_titles T) hr (by decide) (by rfl) (T.glo T.r_g__law_titles) (T.kp 29 rfl) (pa_cons (pv 0) (pa_cons (pe_callB (lenQ_ K) (by rfl) (T.free T.r_f_len) bb_len (pa_cons (pv 5) pa_nil)) pa_nil))) (pa_cons (pe_lst pa_nil) pa_nil)) rfl)
  (pss_cons (ps_for PassesOwn.never rfl (pi_range1 (by rfl) (T.free T.r_f_range) (pa_cons (pe_callB (lenQ_ K) (by rfl) (T.free T.r_f_len) bb_len (pa_cons (pv 5) pa_nil)) pa_nil)) (pg_name (i := 6) sc__law_site.nd rfl (by first | exact .inl rfl | exact .inr rfl)) (pss_cons (ps_par3 (i := 9) (j := 10) (l := 11) rfl sc__law_site.nd rfl rfl rfl (by decide) (by decide) (by decide) rfl rfl rfl (pa_cons (pe_fn (fn__law_pick T) hr (by decide) (by rfl) (T.glo T.r_g__law_pick) (T.kp 28 rfl) (pa_cons (pv 0) (pa_cons (pv 1) pa_nil))) (pa_cons (pe_fn (fn__law_price T) hr (by decide) (by rfl) (T.glo T.r_g__law_price) (T.kp 31 rfl) (pa_cons (pv 0) pa_nil)) (pa_cons (pe_fn (fn__law_price T) hr (by decide) (by rfl) (T.glo T.r_g__law_price) (T.kp 31 rfl) (pa_cons (pv 0) pa_nil)) pa_nil))) rfl)
  (pss_one (ps_expr (bm_ K PySem.F.plainAttrs_list PySem.F.slot_list_append PySem.F.type_list_append mt_append (pv 8) (pa_cons (pe_tup (pa_cons (pv 9) (pa_cons (pe_ix (ixL_ K) (pv 7) (pv 6) (fun _ _ => rfl)) (pa_cons (pe_ix (ixT_ K) (pe_ix (ixL_ K) (pv 5) (pv 6) (fun _ _ => rfl)) pe_int (fun _ _ => rfl)) (pa_cons (pe_ix (ixT_ K) (pe_ix (ixL_ K) (pv 5) (pv 6) (fun _ _ => rfl)) pe_int (fun _ _ => rfl)) (pa_cons (pv 10) (pa_cons (pv 11) pa_nil))))))) pa_nil))))))
  (pss_one (ps_ret (pe_tup (pa_cons (pv 8) (pa_cons (pv 4) pa_nil)))))))))), ?_⟩
  -- the corners
  refine ⟨_, rfl, _, rfl, _, rfl, _, _, rfl, rfl, p, cl, k, _, rfl, hp, by decide, by decide, by omega, fun H1 d1 hd1 b1 hp1 => ?_⟩
  have hd1 : (d1 : Int) < 4 := hd1
  refine ⟨_, _, rfl, rfl, p, cl, _, 2 + d1, congrArg (fun z => [V.ref p, V.int z]) (by omega), hp1, by omega, by omega, fun H2 sp ss hsl snd snm b2 hp2 hsp nsp nspc hsp0 => ?_⟩
  have bb2 := b1.trans b2
  have s2 : 2 ≤ ss.length := by omega
  have s5 : ss.length ≤ 5 := by omega
  -- how many rounds
  refine ⟨_, rfl, _, rfl, sp, _, rfl, .inl (SqL.of hsp), _, _, rfl, rfl, wide_div (b := 6) (by rw [List.length_map]; omega) (by rw [List.length_map]; omega) (by decide) (by decide), ?_⟩
  obtain ⟨m0, m4, mx⟩ := mxR_ok s2 s5
  have em : (if (14 : Int) / (((ss.map V.str).length : Nat) : Int) < 4 then 14 / (((ss.map V.str).length : Nat) : Int) else 4) = mxR ss.length := by
    rw [List.length_map]
    rfl
  refine ⟨_, _, rfl, p, cl, _, _, rfl, hp2, by rw [em]; exact m0, by rw [em]; omega, by omega, fun H3 d2 hd2 b3 hp3 => ?_⟩
  rw [em] at hd2
  have rlen := mx d2 hd2
  refine ⟨_, _, rfl, rfl, ?_⟩
  have bb3 := bb2.trans b3
  have hsp3 := b3 _ _ nsp hsp
  -- the rounds
  refine ⟨_, rfl, _, rfl, _, rfl, p, cl, sp, _, 1 + d2, ss, congrArg (fun z => [V.ref p, V.ref sp, V.int z]) (by omega), hp3, by omega, hsp3, nsp, snd, s2, s5, by omega, fun H4 lp prs hlen hok hrd b4 hp4 hpr nlp nlc hlp0 => ?_⟩
  have hrd := hrd (by omega)
  have hsp4 := b4 _ _ nsp hsp3
  have hspl : sp ≠ lp := fun e => by
    rw [e, hlp0] at hsp3
    cases hsp3
  have bb4 := bb3.trans b4
  have hkl4 := bb4 _ _ nkl hkl
  have hkll : kl ≠ lp := fun e => by
    have := bb3 _ _ nkl hkl
    rw [e, hlp0] at this
    cases this
  have hlp00 : H lp = none := fresh_but bb3 nlp hlp0
  -- some more
  refine ⟨_, rfl, p, cl, _, _, rfl, hp4, by decide, by decide, by omega, fun H5 d3 hd3 b5 hp5 => ?_⟩
  have hd3 : (d3 : Int) < 4 := hd3
  refine ⟨_, rfl, by omega, by omega, ?_⟩
  rw [Int.toNat_natCast]
  have P0 : ∃ prs : List ((Str × Str) × Addr), PrsAt H5 lp prs ∧ H5 sp = some (.lst (ss.map V.str)) ∧ H5 kl = some (.lst kinds4) ∧ But p H H5 ∧ PenAt H5 p cl (k + 40 + 10 * 0) ∧ prs.length ≤ 14 ∧ (∀ b ∈ prs, b.1.1 ∈ ss ∧ b.1.2 ∈ ss ∧ b.1.1 ≠ b.1.2) ∧ Round ss (prs.map (·.1)) :=
    ⟨prs, hpr.butP hp4 nlp b5, b5 _ _ nsp hsp4, b5 _ _ nkl hkl4, bb4.trans b5, hp5.mono (by omega), by rw [hlen]; exact rlen, hok, hrd⟩
  obtain ⟨prs0, p01, p02, p03, p04, p05, p06, p07, p08⟩ := P0
  refine for_it (walk_range (lo := 0) (n := d3)) (fun j σ H6 => ∃ prs x6, σ = [some (.ref p), some (.ref kl), some (.int 5), some (.ref sp), some (.int (1 + (d2 : Nat))), some (.ref lp), x6, none, none, none, none, none] ∧ PrsAt H6 lp prs ∧ H6 sp = some (.lst (ss.map V.str)) ∧ H6 kl = some (.lst kinds4) ∧ But p H H6 ∧ PenAt H6 p cl (k + 40 + 10 * j) ∧ prs.length ≤ 14 ∧ (∀ b ∈ prs, b.1.1 ∈ ss ∧ b.1.2 ∈ ss ∧ b.1.1 ≠ b.1.2) ∧ Round ss (prs.map (·.1)))
    ⟨prs0, _, rfl, p01, p02, p03, p04, p05, p06, p07, p08⟩ (fun _ _ _ _ _ => trivial) (fun j x σ H6 H7 hj ⟨prs, x6, e, q1, q2, q3, q4, q5, q6, q7, q8⟩ y => ?_) fun σ H6 ⟨prs, x6, e, q1, q2, q3, q4, q5, q6, q7, q8⟩ => ?_
  · subst e
    obtain ⟨rfl, rfl⟩ := y
    refine ⟨_, rfl, lp, _, rfl, .inl (SqL.of q1.1), _, _, rfl, rfl, _, rfl, ?_⟩
    rw [List.length_map]
    by_cases hl14 : prs.length < 14
    · rw [decide_eq_true (show ((prs.length : Nat) : Int) < 14 by omega)]
      refine ⟨_, rfl, .inl ⟨rfl, _, SqL.of q1.1⟩, _, rfl, _, rfl, p, cl, sp, _, 1, ss, rfl, q5, by omega, q2, nsp, snd, s2, s5, by decide, fun H8 lq qs hql hqok _ b8 hp8 hqr nqp nqc _ => ?_⟩
      have hq0 : 0 < qs.length := by omega
      refine ⟨lq, _, _, .ref qs[0].2, rfl, rfl, SqL.of hqr.1, atI_nat (j := 0) (by rw [List.getElem?_map, List.getElem?_eq_getElem hq0]; rfl), ?_⟩
      have q18 := q1.butP q5 nlp b8
      refine ⟨lp, _, _, rfl, rfl, q18.1, ?_, ?_⟩
      · rw [List.length_map]
        exact Nat.lt_of_lt_of_le hl14 (by decide)
      have q0m := List.getElem_mem hq0
      have keep : ∀ b xs, H8 b = some (.tup xs) → upd H8 lp (.lst ((prs.map fun b => V.ref b.2) ++ [.ref qs[0].2])) b = some (.tup xs) := fun b xs e => (upd_ne (ne_of e q18.1 (fun z => nomatch z))).trans e
      refine ⟨prs ++ [qs[0]], _, rfl, ⟨by rw [upd_same, List.map_append]; rfl, fun b hb => ?_⟩, (upd_ne hspl).trans (b8 _ _ nsp q2), (upd_ne hkll).trans (b8 _ _ nkl q3), (q4.trans b8).upd' hlp00, (hp8.but nlp nlc).mono (by omega), by rw [List.length_append, List.length_singleton]; omega, fun b hb => ?_, by rw [List.map_append]; exact q8.more⟩
      · rcases List.mem_append.mp hb with m | m
        · exact keep _ _ (q18.2 b m)
        · rw [List.mem_singleton.mp m]
          exact keep _ _ (hqr.2 _ q0m)
      · rcases List.mem_append.mp hb with m | m
        · exact q7 b m
        · rw [List.mem_singleton.mp m]
          exact hqok _ q0m
    · rw [decide_eq_false (show ¬ ((prs.length : Nat) : Int) < 14 by omega)]
      exact iteF ⟨prs, _, rfl, q1, q2, q3, q4, q5.mono (by omega), q6, q7, q8⟩
  subst e
  clear p01 p02 p03 p04 p05 p06 p07 p08 hpr hok hrd hlen
  -- titles of the streets
  refine ⟨_, rfl, _, rfl, lp, _, rfl, .inl (SqL.of q1.1), p, cl, _, prs.length, by rw [List.length_map], q5, by omega, by omega, fun H7 lt ts htl htn htm b7 hp7 hlt nltp nltc hlt0 => ?_⟩
  refine ⟨sz0, fun lr hlr => ⟨_, _, rfl, ?_⟩⟩
  have s7 := same_upd (o := .lst []) hlr
  obtain ⟨nrp, nrc⟩ := hp7.ne hlr
  have q17 := (q1.butP q5 nlp b7).same s7
  have hkl7 := s7 _ _ (b7 _ _ nkl q3)
  have hlt7 := s7 _ _ hlt
  have bb7 := (q4.trans b7).trans (ST.Same.but s7 p)
  have hp8 := hp7.same s7
  have nrl : lr ≠ lp := ne_of_none' hlr (q1.butP q5 nlp b7).1
  have nrk : lr ≠ kl := ne_of_none' hlr (b7 _ _ nkl q3)
  have nrt : lr ≠ lt := ne_of_none' hlr hlt
  have hlr0 : H lr = none := fresh_but (q4.trans b7) nrp hlr
  have hr7 : upd H7 lr (.lst []) lr = some (.lst []) := upd_same
  generalize upd H7 lr (.lst []) = H8 at q17 hkl7 hlt7 bb7 hp8 hr7
  refine ⟨_, rfl, lp, _, rfl, .inl (SqL.of q17.1), _, rfl, by omega, by rw [List.length_map]; omega, ?_⟩
  rw [Int.toNat_natCast, List.length_map]
  refine for_it (walk_range (lo := 0) (n := prs.length)) (fun i σ H9 => ∃ rs x6 x9 x10 x11, σ = [some (.ref p), some (.ref kl), some (.int 5), some (.ref sp), some (.int (1 + (d2 : Nat))), some (.ref lp), x6, some (.ref lt), some (.ref lr), x9, x10, x11] ∧ PrsAt H9 lp prs ∧ H9 kl = some (.lst kinds4) ∧ H9 lt = some (.lst (ts.map V.str)) ∧ But p H H9 ∧ PenAt H9 p cl (k + 90 + 5 * i) ∧ LAt H9 lr rs ∧
      (rs.map (·.1)).map (·.nm) = ts.take i ∧ (rs.map (·.1)).map (fun r => (r.a, r.b)) = (prs.map (·.1)).take i ∧ ∀ r ∈ rs.map (·.1), (-999999999999 ≤ r.i ∧ r.i ≤ 999999999999) ∧ (-999999999999 ≤ r.j ∧ r.j ≤ 999999999999))
    ⟨[], _, _, _, _, rfl, q17, hkl7, hlt7, bb7, hp8.mono (by omega), ⟨hr7, fun _ z => (nomatch z)⟩, rfl, rfl, fun _ z => (nomatch z)⟩ (fun _ _ _ _ _ => trivial) (fun i x σ H9 H10 hi ⟨rs, x6, x9, x10, x11, e, r1, r2, r3, r4, r5, r6, r7, r8, r9⟩ y => ?_) fun σ H9 ⟨rs, x6, x9, x10, x11, e, r1, r2, r3, r4, r5, r6, r7, r8, r9⟩ => ?_
  · subst e
    obtain ⟨rfl, rfl⟩ := y
    have hl : rs.length = i := by
      have := congrArg List.length r7
      rw [List.length_map, List.length_map, List.length_take, htl] at this
      omega
    refine ⟨_, rfl, _, rfl, p, cl, kl, _, _, rfl, r5, by omega, r2, nkl, by show 0 < 4; decide, by show 4 ≤ 1000; decide, fun H11 x hx b11 hp11 => ?_⟩
    obtain ⟨kd, rfl⟩ := kinds_in hx
    refine ⟨_, rfl, p, cl, _, rfl, hp11, by omega, fun H12 i1 i1a i1b b12 hp12 => ?_⟩
    refine ⟨_, rfl, p, cl, _, rfl, hp12, by omega, fun H13 i2 i2a i2b b13 hp13 => ?_⟩
    refine ⟨_, _, _, rfl, ?_⟩
    have b113 := (b11.trans b12).trans b13
    have r13 := r1.butP r5 nlp b113
    have r33 := b113 _ _ nltp r3
    have r63 := r6.butP r5 nrp b113
    have hti : i < ts.length := by omega
    refine ⟨_, rfl, .inl ⟨rfl, _, SqL.of r63.1⟩, ?_⟩
    refine ⟨_, rfl, _, rfl, _, rfl, lt, _, _, .str ts[i], rfl, rfl, SqL.of r33, by rw [Int.zero_add]; exact atI_nat (by rw [List.getElem?_map, List.getElem?_eq_getElem hti]; rfl), ?_⟩
    have hpi := r13.2 _ (List.getElem_mem hi)
    have ixp : atI (prs.map fun b => V.ref b.2) (0 + (i : Nat)) = some (.ref prs[i].2) := by
      rw [Int.zero_add]
      exact atI_nat (by rw [List.getElem?_map, List.getElem?_eq_getElem hi]; rfl)
    refine ⟨_, rfl, _, rfl, lp, _, _, _, rfl, rfl, SqL.of r13.1, ixp, _, _, _, _, rfl, rfl, SqT.of hpi, atI_nat (j := 0) rfl, ?_⟩
    refine ⟨_, rfl, _, rfl, lp, _, _, _, rfl, rfl, SqL.of r13.1, ixp, _, _, _, _, rfl, rfl, SqT.of hpi, atI_nat (j := 1) rfl, ?_⟩
    refine ⟨_, rfl, _, rfl, sz6, fun t ht => ?_⟩
    have s14 := same_upd (o := .tup [.str (kdS kd), .str ts[i], .str prs[i].1.1, .str prs[i].1.2, .int i1, .int i2]) ht
    have r64 := r63.same s14
    refine ⟨lr, _, _, rfl, rfl, r64.1, ?_, ?_⟩
    · rw [List.length_map, hl]
      exact Nat.lt_of_lt_of_le (show i < 14 by omega) (by decide)
    have keep : ∀ b xs, upd H13 t (.tup [.str (kdS kd), .str ts[i], .str prs[i].1.1, .str prs[i].1.2, .int i1, .int i2]) b = some (.tup xs) → upd (upd H13 t (.tup [.str (kdS kd), .str ts[i], .str prs[i].1.1, .str prs[i].1.2, .int i1, .int i2])) lr (.lst ((rs.map fun b => V.ref b.2) ++ [.ref t])) b = some (.tup xs) := fun b xs e =>
      (upd_ne (ne_of e r64.1 (fun z => nomatch z))).trans e
    obtain ⟨z1, z2⟩ := zip_at (r := ⟨kd, ts[i], prs[i].1.1, prs[i].1.2, i1, i2⟩) r7 r8 (List.getElem?_eq_getElem hti) (by rw [List.getElem?_map, List.getElem?_eq_getElem hi]; rfl) rfl rfl
    refine ⟨rs ++ [(⟨kd, ts[i], prs[i].1.1, prs[i].1.2, i1, i2⟩, t)], _, _, _, _, rfl, ⟨(upd_ne nrl.symm).trans (s14 _ _ r13.1), fun b hb => keep _ _ (s14 _ _ (r13.2 b hb))⟩, (upd_ne nrk.symm).trans (s14 _ _ (b113 _ _ nkl r2)), (upd_ne nrt.symm).trans (s14 _ _ r33), ((r4.trans b113).trans (ST.Same.but s14 p)).upd' hlr0, ((hp13.same s14).but nrp nrc).mono (by omega), ⟨by rw [upd_same, List.map_append]; rfl, fun b hb => ?_⟩, by rw [List.map_append]; exact z1, by rw [List.map_append]; exact z2, fun r hr => ?_⟩
    · rcases List.mem_append.mp hb with m | m
      · exact keep _ _ (r64.2 b m)
      · rw [List.mem_singleton.mp m]
        exact keep _ _ upd_same
    · rw [List.map_append] at hr
      rcases List.mem_append.mp hr with m | m
      · exact r9 r m
      · rw [List.mem_singleton.mp m]
        exact ⟨⟨i1a, i1b⟩, i2a, i2b⟩
  subst e
  rw [List.take_of_length_le (by omega)] at r7
  rw [List.take_of_length_le (by rw [List.length_map]; exact Nat.le_refl _)] at r8
  have hl : (rs.map (·.1)).length = prs.length := by simpa using congrArg List.length r8
  refine ⟨_, rfl, _, rfl, sz2, fun t ht => ?_⟩
  have s10 := same_upd (o := .tup [.ref lr, .int (1 + (d2 : Nat))]) ht
  refine q _ t lr _ ss rs (r4.trans (ST.Same.but s10 p)) ((r5.same s10).mono (by omega)) upd_same (r6.same s10) nrp nrc ⟨by rw [r7]; exact htn, by omega, fun r hr => ?_, snm, snd, s2, s5, fun r hr => ?_, r9, by rw [r8]; exact q8⟩
  · exact htm _ (by rw [← r7]; exact List.mem_map.mpr ⟨r, hr, rfl⟩)
  · have : (r.a, r.b) ∈ prs.map (·.1) := by
      rw [← r8]
      exact List.mem_map.mpr ⟨r, hr, rfl⟩
    obtain ⟨b, hb, eb⟩ := List.mem_map.mp this
    have := q7 b hb
    rw [eb] at this
    exact this
end
end ST
end
section
set_option Elab.async false
set_option linter.all false
set_option maxRecDepth 100000
set_option maxHeartbeats 1000000
/-! The law's town. -/
namespace ST
open PySem PySem.Spec PyProof.Rows L2 SgO
section
variable {w : World} {K : PySem.W.Frag} {mg : Str → Option Value} {base : Heap}
theorem ord2_comm {x y : Str} (ne : x ≠ y) : ord2 x y = ord2 y x := by
  rcases ord2_or x y with ⟨e, h⟩ | ⟨e, h⟩ <;> rcases ord2_or y x with ⟨e', h'⟩ | ⟨e', h'⟩
  · exact absurd (lowS_trans h h') (lowS_irrefl _)
  · rw [e, e']
  · rw [e, e']
  · rcases lowS_total ne with z | z
    · exact absurd z h
    · exact absurd z h'
theorem seqAsg {te : TE} {i : Nat} {u : TS} {D : Ends} {σ : L2.St} {H : Hp} (h : te σ H fun v H1 => u D (σ.set i (some v)) H1) : tSeq (tAsg te (gName i)) u D σ H := h
def stR (r : Rw) : Stv := stOf r.k r.nm r.a r.b
theorem stR_nm (r : Rw) : (stR r).nm = r.nm := by
  unfold stR stOf
  cases r.k <;> rfl
theorem stR_ends (r : Rw) {c : Str} : c = (stR r).x ∨ c = (stR r).y ↔ c = r.a ∨ c = r.b := by
  have m : (c = (ord2 r.a r.b).1 ∨ c = (ord2 r.a r.b).2) ↔ c = r.a ∨ c = r.b := by
    rw [← mem_ord2 (x := r.a) (y := r.b)]
    simp
  unfold stR stOf
  cases r.k
  · exact Iff.rfl
  · exact m
  · exact m
section
variable {H H' : Hp} {p cl a : Addr} {k : Nat}
theorem SAt.butP {s : Stv} (h : SAt K H a s) (hp : PenAt H p cl k) (b : But p H H') : SAt K H' a s :=
  let ⟨ok, dx, e, q1, q2, h1, h2⟩ := h; ⟨ok, dx, e, q1, q2, keepP hp b h1 (fun _ z => nomatch z), keepP hp b h2 (fun _ z => nomatch z)⟩
theorem TAt.butP {ss : List (Stv × Addr)} (h : TAt K H a ss) (hp : PenAt H p cl k) (b : But p H H') : TAt K H' a ss :=
  let ⟨dx, d, tp, dc, cs, h1, h2, h3, h4, h5, h6⟩ := h
  ⟨dx, d, tp, dc, cs, keepP hp b h1 (fun _ z => nomatch z), keepP hp b h2 (fun _ z => nomatch z), keepP hp b h3 (fun _ z => nomatch z), fun c hc => (h4 c hc).butP hp b, keepP hp b h5 (fun _ z => nomatch z), h6⟩
theorem SgAt.butP {ps : List Sgn} (h : SgAt K H a ps) (hp : PenAt H p cl k) (b : But p H H') : SgAt K H' a ps :=
  let ⟨dx, d, tp, bs, h1, h2, h3, h4, h5⟩ := h
  ⟨dx, d, tp, bs, keepP hp b h1 (fun _ z => nomatch z), h2, keepP hp b h3 (fun _ z => nomatch z), fun c hc => keepP hp b (h4 c hc) (fun _ z => nomatch z), keepP hp b h5 (fun _ z => nomatch z)⟩
theorem Site.butP {t : Addr} {ps : List Sgn} {ss : List (Stv × Addr)} {cs : List Str} (h : Site K H t a ps ss cs) (hp : PenAt H p cl k) (b : But p H H') : Site K H' t a ps ss cs := ⟨h.t.butP hp b, h.a.butP hp b, h.sok, h.tok, h.fits, h.cor⟩
end
/-- the streets of the town are those of the rows -/
def Laid (bs : List (Stv × Addr)) (rs : List Rw) : Prop := (bs.map (·.1)).Perm (rs.map stR)
theorem RsOk.take {ss : List Str} {rs : List Rw} (h : RsOk ss rs) (i : Nat) : ((rs.take i).map (·.nm)).Nodup ∧ (rs.take i).length ≤ 14 :=
  ⟨((List.take_sublist i rs).map _).nodup h.nd, Nat.le_trans (List.length_take_le' i rs) h.len⟩
theorem laid_tok {ss : List Str} {rs : List Rw} {bs : List (Stv × Addr)} (hl : Laid bs rs) (nd : (rs.map (·.nm)).Nodup) (len : rs.length ≤ 14) (ends : ∀ r ∈ rs, r.a ∈ ss ∧ r.b ∈ ss) (s7 : ss.length ≤ 7) : TOk bs := by
  have e1 : bs.map (fun b => b.1.nm) = (bs.map (·.1)).map (·.nm) := by rw [List.map_map]; rfl
  have e2 : (rs.map stR).map (·.nm) = rs.map (·.nm) := by
    rw [List.map_map]
    exact List.map_congr_left fun r _ => stR_nm r
  refine ⟨?_, ?_, ss, s7, fun b hb => ?_⟩
  · rw [e1]
    exact (hl.map (fun s : Stv => s.nm)).symm.nodup (e2 ▸ nd)
  · have := hl.length_eq
    rw [List.length_map, List.length_map] at this
    omega
  · obtain ⟨r, hr, er⟩ := List.mem_map.mp (hl.mem_iff.mp (List.mem_map.mpr ⟨b, hb, rfl⟩))
    rw [← er]
    obtain ⟨h1, h2⟩ := ends r hr
    refine ⟨?_, ?_⟩
    · rcases (stR_ends r).mp (.inl rfl) with e | e <;> rw [e] <;> assumption
    · rcases (stR_ends r).mp (.inr rfl) with e | e <;> rw [e] <;> assumption
theorem noTown (T : Txt K mg) {D : Addr} (h : noSlots K "or" D = true) : D ≠ He.ga K "Town" := by
  intro e
  subst e
  obtain ⟨cd, rest, hcd, hm⟩ := PySem.W.ksp_first T.bin_or_Town.first
  unfold noSlots at h
  obtain ⟨cd', hcd', hall⟩ := PySem.W.any_some h
  rw [hcd] at hcd'
  cases hcd'
  have z := List.all_eq_true.mp hall (.ref (He.ga K "Town")) (by rw [hm]; exact List.mem_cons_self)
  have z1 := (Bool.and_eq_true_iff.mp (show (PySem.W.findIn K (.ref (He.ga K "Town")) (PySem.dunder "or") == some none && PySem.W.findIn K (.ref (He.ga K "Town")) (dunderR "or") == some none) = true from z)).1
  have z2 := eq_of_beq z1
  rw [T.bin_or_Town.me.at_] at z2
  cases z2
def sp__law_town (K : PySem.W.Frag) : Sp0 := fun vs H Q => ∃ (p cl l : Addr) (k : Nat) (ss : List Str) (rs : List (Rw × Addr)), vs = [.ref p, .ref l] ∧ PenAt H p cl k ∧ k ≤ 10000 ∧ LAt H l rs ∧ l ≠ p ∧ RsOk ss (rs.map (·.1)) ∧
  ∀ H' t bs, But p H H' → PenAt H' p cl (k + 14) → TAt K H' t bs → Laid bs (rs.map (·.1)) → Asc (bs.map fun b => b.1.nm) → Q (.ref t) H'
abbrev n__law_town : List Str := ["_law_pen_here", "_law_rows", "_law_made", "_law_kind", "_law_title", "_law_first", "_law_last", "_law_ahead", "_law_behind", "_law_is_back"]
theorem sc__law_town : FnScope n__law_town ["_law_pen_here", "_law_rows"] (defScope s__law_town) := ⟨rfl, rfl, rfl, by decide +kernel, rfl, by decide +kernel, by decide +kernel⟩
theorem fn__law_town (T : Txt K mg) : Fn w K mg base 8 (a__law_town K) (sp__law_town K) := by
  refine fn_by (N := n__law_town) (ps := ["_law_pen_here", "_law_rows"]) (st := s__law_town) (T.fn 33 rfl) sc__law_town (fun _ _ _ _ _ _ us hl => match us, hl with | [_, _], _ => rfl) (by rintro vs H Q ⟨p, cl, l, k, ss, rs, rfl, hp, hk, hl, nlp, ok, q⟩; rfl) fun cdv A outer s H vs Q hr h => ?_
  obtain ⟨p, cl, l, k, ss, rs, rfl, hp, hk, hl, nlp, ok, q⟩ := h
  refine ⟨_, pss_cons (ps_set (i := 2) sc__law_town.nd rfl (by first | exact .inl rfl | exact .inr rfl) (pe_mk0 (T.mkr T.r_m_Town) (fn_Town_init T) (hr.mono (by decide)) (by rfl) (T.glo T.r_g_Town)))
  (pss_cons (ps_for PassesOwn.never rfl (piL_ K (pv 1)) (gtup_ K (n := 6) (pgs_cons (pg_name (i := 3) sc__law_town.nd rfl (by first | exact .inl rfl | exact .inr rfl)) (pgs_cons (pg_name (i := 4) sc__law_town.nd rfl (by first | exact .inl rfl | exact .inr rfl)) (pgs_cons (pg_name (i := 5) sc__law_town.nd rfl (by first | exact .inl rfl | exact .inr rfl)) (pgs_cons (pg_name (i := 6) sc__law_town.nd rfl (by first | exact .inl rfl | exact .inr rfl)) (pgs_cons (pg_name (i := 7) sc__law_town.nd rfl (by first | exact .inl rfl | exact .inr rfl)) (pgs_cons (pg_name (i := 8) sc__law_town.nd rfl (by first | exact .inl rfl | exact .inr rfl)) pgs_nil))))))) (pss_cons (ps_set (i := 9) sc__law_town.nd rfl (by first | exact .inl rfl | exact .inr rfl) (pe_cmpR op_eq (pe_fn (fn__law_draw T) hr (by decide) (by rfl) (T.glo T.r_g__law_draw) (T.kp 27 rfl) (pa_cons (pv 0) (pa_cons pe_int pa_nil))) pe_int (by first | rfl | exact nomark _)))
  (pss_one (ps_if (pt_cmpR op_eq (pv 3) pe_str (by first | rfl | exact nomark _)) (pss_one (ps_set (i := 2) sc__law_town.nd rfl (by first | exact .inl rfl | exact .inr rfl) (pe_op (op_binI (op := .BitOr) (T.bin_or_Town) (fn_Town_or T) (hr.mono (by decide))) (pv 2) (pe_mkP (T.mkr T.r_m_Lane) (fn_Lane_init T) (hr.mono (by decide)) (by rfl) (T.glo T.r_g_Lane) (pa_cons (pv 4) (pa_cons (pv 5) (pa_cons (pv 6) pa_nil))))))) (pss_one (ps_if (pt_cmpR op_eq (pv 3) pe_str (by first | rfl | exact nomark _)) (pss_one (ps_set (i := 2) sc__law_town.nd rfl (by first | exact .inl rfl | exact .inr rfl) (pe_op (op_binI (op := .BitOr) (T.bin_or_Town) (fn_Town_or T) (hr.mono (by decide))) (pv 2) (pe_ifExp (pt_val (pv 9)) (pe_mkP (T.mkr T.r_m_Avenue) (fn_Avenue_init T) (hr.mono (by decide)) (by rfl) (T.glo T.r_g_Avenue) (pa_cons (pv 4) (pa_cons (pv 6) (pa_cons (pv 5) pa_nil)))) (pe_mkP (T.mkr T.r_m_Avenue) (fn_Avenue_init T) (hr.mono (by decide)) (by rfl) (T.glo T.r_g_Avenue) (pa_cons (pv 4) (pa_cons (pv 5) (pa_cons (pv 6) pa_nil)))))))) (pss_one (ps_if (pt_val (pv 9)) (pss_one (ps_set (i := 2) sc__law_town.nd rfl (by first | exact .inl rfl | exact .inr rfl) (pe_op (op_binI (op := .BitOr) (T.bin_or_Town) (fn_Town_or T) (hr.mono (by decide))) (pv 2) (pe_mkP (T.mkr T.r_m_Road) (fn_Road_init T) (hr.mono (by decide)) (by rfl) (T.glo T.r_g_Road) (pa_cons (pv 4) (pa_cons (pv 6) (pa_cons (pv 5) (pa_cons (pv 8) (pa_cons (pv 7) pa_nil))))))))) (pss_one (ps_set (i := 2) sc__law_town.nd rfl (by first | exact .inl rfl | exact .inr rfl) (pe_op (op_binI (op := .BitOr) (T.bin_or_Town) (fn_Town_or T) (hr.mono (by decide))) (pv 2) (pe_mkP (T.mkr T.r_m_Road) (fn_Road_init T) (hr.mono (by decide)) (by rfl) (T.glo T.r_g_Road) (pa_cons (pv 4) (pa_cons (pv 5) (pa_cons (pv 6) (pa_cons (pv 7) (pa_cons (pv 8) pa_nil)))))))))))))))))
  (pss_one (ps_ret (pv 2)))), ?_⟩
  refine seqAsg ?_
  refine town_mk (K := K) (ss := []) ⟨List.nodup_nil, Nat.zero_le _, [], Nat.zero_le _, fun _ z => (nomatch z)⟩ (fun _ z => (nomatch z)) fun H1 t0 bs0 s1 pm0 asc0 ta0 => ?_
  refine ⟨_, rfl, l, rfl, ⟨_, SqL.of (s1 _ _ hl.1)⟩, ?_⟩
  have s7 : ss.length ≤ 7 := Nat.le_trans ok.s5 (by decide)
  refine for_c (as := rs) (c := fun b => .ref b.2) src_l (fun i σ H2 => ∃ t bs x3 x4 x5 x6 x7 x8 x9, σ = [some (.ref p), some (.ref l), some (.ref t), x3, x4, x5, x6, x7, x8, x9] ∧ TAt K H2 t bs ∧ Laid bs ((rs.take i).map (·.1)) ∧ Asc (bs.map fun b => b.1.nm) ∧ But p H H2 ∧ PenAt H2 p cl (k + i))
    ⟨t0, bs0, _, _, _, _, _, _, _, rfl, ta0, by rw [List.take_zero]; rw [List.perm_nil.mp pm0]; exact .refl _, asc0, ST.Same.but s1 p, hp.same s1⟩ (fun i σ H2 _ ⟨_, _, _, _, _, _, _, _, _, _, _, _, _, b, _⟩ => SqL.of (b _ _ nlp hl.1)) (fun i r σ H2 hr ⟨t, bs, x3, x4, x5, x6, x7, x8, x9, e, ta, la, asc, bb, hp2⟩ => ?_) fun σ H2 ⟨t, bs, x3, x4, x5, x6, x7, x8, x9, e, ta, la, asc, bb, hp2⟩ => ?_
  rotate_left
  · subst e
    rw [List.take_length] at la
    have h14 := ok.len
    rw [List.length_map] at h14
    exact ⟨_, rfl, q H2 t bs bb (hp2.mono (by omega)) ta la asc⟩
  subst e
  have hrm := List.mem_of_getElem? hr
  have hi := (List.getElem?_eq_some_iff.mp hr).1
  have hrr : r.1 ∈ rs.map (·.1) := List.mem_map.mpr ⟨r, hrm, rfl⟩
  have h14 := ok.len
  rw [List.length_map] at h14
  have e2 := keepP hp bb (hl.2 r hrm) (fun _ z => nomatch z)
  refine ⟨r.2, _, rfl, SqT.of e2, rfl, _, _, rfl, _, _, rfl, _, _, rfl, _, _, rfl, _, _, rfl, _, _, rfl, rfl, ?_⟩
  refine ⟨_, rfl, p, cl, _, _, rfl, hp2, by decide, by decide, by omega, fun H3 d hd b3 hp3 => ?_⟩
  have ta3 := ta.butP hp2 b3
  have bb3 := bb.trans b3
  have hn := ok.nms _ hrr
  obtain ⟨ha, hb, hne⟩ := ok.ends _ hrr
  have hna := ok.sn _ ha
  have hnb := ok.sn _ hb
  obtain ⟨pr1, pr2⟩ := ok.pr _ hrr
  have tk : (rs.take (i + 1)).map (·.1) = (rs.take i).map (·.1) ++ [r.1] := by
    rw [List.take_add_one, hr, List.map_append]
    rfl
  have rsub : ∀ r' ∈ (rs.take (i + 1)).map (·.1), r' ∈ rs.map (·.1) := fun r' h => by
    obtain ⟨c, hc, rfl⟩ := List.mem_map.mp h
    exact List.mem_map.mpr ⟨c, List.mem_of_mem_take hc, rfl⟩
  -- a street more
  have more : ∀ (H4 : Hp) (x : Addr) (s : Stv), Same H3 H4 → SAt K H4 x s → s = stR r.1 → ∀ Q' : VK, (∀ H5 t' bs', Same H4 H5 → TAt K H5 t' bs' → Laid bs' ((rs.take (i + 1)).map (·.1)) → Asc (bs'.map fun b => b.1.nm) → Q' (.ref t') H5) → sp_Town_or K [.ref t, .ref x] H4 Q' := by
    intro H4 x s s4 hx es Q' hq
    have la' : Laid (bs ++ [(s, x)]) ((rs.take (i + 1)).map (·.1)) := by
      unfold Laid
      rw [tk, List.map_append, List.map_append, es]
      exact List.Perm.append_right _ la
    have tok : TOk (bs ++ [(s, x)]) := by
      refine laid_tok (ss := ss) la' ?_ ?_ (fun r' h => ⟨(ok.ends r' (rsub r' h)).1, (ok.ends r' (rsub r' h)).2.1⟩) s7
      · rw [List.map_take]
        exact ((List.take_sublist _ _).map _).nodup ok.nd
      · rw [List.length_map, List.length_take]
        omega
    exact ⟨t, x, bs, s, rfl, ta3.same s4, hx, tok, fun H5 t' bs' s5 pm asc' ta' => hq H5 t' bs' s5 ta' ((pm.map (fun b : Stv × Addr => b.1)).trans la') asc'⟩
  have fin2 : ∀ (H4 : Hp) (x : Addr) (s : Stv), Same H3 H4 → SAt K H4 x s → s = stR r.1 → ∀ Q' : VK, (∀ H5 t' bs', TAt K H5 t' bs' → Laid bs' ((rs.take (i + 1)).map (·.1)) → Asc (bs'.map fun b => b.1.nm) → But p H H5 → PenAt H5 p cl (k + (i + 1)) → Q' (.ref t') H5) →
      ∃ a b D, V.ref t = .ref a ∧ V.ref x = .ref b ∧ Ins H4 a (He.ga K "Town") ∧ Ins H4 b D ∧ D ≠ He.ga K "Town" ∧ noSlots K "or" D = true ∧ sp_Town_or K [.ref a, .ref b] H4 Q' := by
    intro H4 x s s4 hx es Q' hq
    have nsl : noSlots K "or" (cK K s.k) = true := by
      cases s.k
      · exact T.r_no_Lane_or
      · exact T.r_no_Avenue_or
      · exact T.r_no_Road_or
    exact ⟨t, x, cK K s.k, rfl, rfl, ins_town (ta3.same s4).rd, hx.ins, noTown T nsl, nsl, more H4 x s s4 hx es Q' fun H5 t' bs' s5 ta' la' asc' => hq H5 t' bs' ta' la' asc' ((bb3.trans (ST.Same.but s4 p)).trans (ST.Same.but s5 p)) (((hp3.same s4).same s5).mono (by omega))⟩
  refine ⟨rfl, ?_⟩
  refine ⟨_, rfl, rfl, _, rfl, ?_⟩
  obtain ⟨⟨kd, nm, a, b, i1, i2⟩, ra⟩ := r
  have e21 := ord2_comm hne
  cases kd
  · rw [decide_eq_true (show V.str (kdS .lane) = V.str "lane" from rfl)]
    refine ⟨_, rfl, _, rfl, _, rfl, _, rfl, ?_⟩
    intro x dx hx hdx _
    refine ⟨x, dx, nm, a, b, rfl, upd_same, hn, hna, hnb, hne, fun H4 b4 h4 => ⟨rfl, fin2 H4 x _ (made_same hx hdx b4) h4 rfl _ fun H5 t' bs' g1 g2 g3 g4 g5 => ⟨t', bs', _, _, _, _, _, _, _, rfl, g1, g2, g3, g4, g5⟩⟩⟩
  · rw [decide_eq_false (show ¬ V.str (kdS .avenue) = V.str "lane" from fun z => absurd (V.str.inj z) (by decide +kernel))]
    refine iteF ?_
    refine ⟨_, rfl, rfl, _, rfl, ?_⟩
    rw [decide_eq_true (show V.str (kdS .avenue) = V.str "avenue" from rfl)]
    refine ⟨_, rfl, _, rfl, _, rfl, ?_⟩
    refine iteC (fun _ => ?_) (fun _ => ?_)
    · refine ⟨_, rfl, _, rfl, _, rfl, ?_⟩
      intro x dx hx hdx _
      refine ⟨x, dx, nm, b, a, rfl, upd_same, hn, hnb, hna, hne.symm, fun H4 b4 h4 => ⟨rfl, fin2 H4 x _ (made_same hx hdx b4) h4 ?_ _ fun H5 t' bs' g1 g2 g3 g4 g5 => ⟨t', bs', _, _, _, _, _, _, _, rfl, g1, g2, g3, g4, g5⟩⟩⟩
      show Stv.mk .avenue nm (ord2 b a).1 (ord2 b a).2 = Stv.mk .avenue nm (ord2 a b).1 (ord2 a b).2
      rw [← e21]
    · refine ⟨_, rfl, _, rfl, _, rfl, ?_⟩
      intro x dx hx hdx _
      exact ⟨x, dx, nm, a, b, rfl, upd_same, hn, hna, hnb, hne, fun H4 b4 h4 => ⟨rfl, fin2 H4 x _ (made_same hx hdx b4) h4 rfl _ fun H5 t' bs' g1 g2 g3 g4 g5 => ⟨t', bs', _, _, _, _, _, _, _, rfl, g1, g2, g3, g4, g5⟩⟩⟩
  · rw [decide_eq_false (show ¬ V.str (kdS .road) = V.str "lane" from fun z => absurd (V.str.inj z) (by decide +kernel))]
    refine iteF ?_
    refine ⟨_, rfl, rfl, _, rfl, ?_⟩
    rw [decide_eq_false (show ¬ V.str (kdS .road) = V.str "avenue" from fun z => absurd (V.str.inj z) (by decide +kernel))]
    refine iteF ?_
    refine ⟨_, rfl, _, rfl, ?_⟩
    refine iteC (fun _ => ?_) (fun _ => ?_)
    · refine ⟨_, rfl, _, rfl, _, rfl, _, rfl, _, rfl, _, rfl, ?_⟩
      intro x dx hx hdx _
      refine ⟨x, dx, nm, b, a, i2, i1, rfl, upd_same, hn, hnb, hna, hne.symm, pr2, pr1, fun H4 b4 h4 => ⟨rfl, fin2 H4 x _ (made_same hx hdx b4) h4 ?_ _ fun H5 t' bs' g1 g2 g3 g4 g5 => ⟨t', bs', _, _, _, _, _, _, _, rfl, g1, g2, g3, g4, g5⟩⟩⟩
      show Stv.mk .road nm (ord2 b a).1 (ord2 b a).2 = Stv.mk .road nm (ord2 a b).1 (ord2 a b).2
      rw [← e21]
    · refine ⟨_, rfl, _, rfl, _, rfl, _, rfl, _, rfl, _, rfl, ?_⟩
      intro x dx hx hdx _
      exact ⟨x, dx, nm, a, b, i1, i2, rfl, upd_same, hn, hna, hnb, hne, pr1, pr2, fun H4 b4 h4 => ⟨rfl, fin2 H4 x _ (made_same hx hdx b4) h4 rfl _ fun H5 t' bs' g1 g2 g3 g4 g5 => ⟨t', bs', _, _, _, _, _, _, _, rfl, g1, g2, g3, g4, g5⟩⟩⟩
end
end ST
end
section
set_option Elab.async false
set_option linter.all false
set_option maxRecDepth 100000
set_option maxHeartbeats 1000000
/-! The law's signs, triples, corners. -/
namespace ST
open PySem PySem.Spec PyProof.Rows L2 SgO
section
variable {w : World} {K : PySem.W.Frag} {mg : Str → Option Value} {base : Heap}
/-- the signs of the roads -/
def sgR (rs : List Rw) : List Sgn := (rs.filter fun r => decide (r.k = .road)).map fun r => (r.nm, r.a, r.b)
def trR (r : Rw) : List Sgn := match r.k with
  | .avenue => [(r.nm, r.a, r.b), (r.nm, r.b, r.a)]
  | _ => [(r.nm, r.a, r.b)]
def trsR (rs : List Rw) : List Sgn := rs.flatMap trR
theorem mergeK_nd : ∀ {more acc : List (Key × V)}, ((acc ++ more).map (·.1)).Nodup → mergeK acc more = acc ++ more
  | [], acc, _ => by rw [List.append_nil]; rfl
  | kv :: r, acc, h => by
    have hv : valV acc kv.1 = none := by
      cases e : valV acc kv.1 with
      | none => rfl
      | some v =>
        have m := valV_in e
        rw [List.map_append, List.map_cons] at h
        exact absurd rfl ((List.nodup_append.mp h).2.2 _ m _ List.mem_cons_self)
    show mergeK (putK acc kv.1 kv.2) r = _
    rw [putK_new _ hv, mergeK_nd (by rw [List.append_assoc]; exact h), List.append_assoc]
    rfl
theorem kd_road {k : Kd} : decide (V.str (kdS k) = V.str "road") = decide (k = .road) := by
  cases k
  · exact (decide_eq_false (fun z => absurd (V.str.inj z) (by decide +kernel))).trans (decide_eq_false (fun z => nomatch z)).symm
  · exact (decide_eq_false (fun z => absurd (V.str.inj z) (by decide +kernel))).trans (decide_eq_false (fun z => nomatch z)).symm
  · exact (decide_eq_true rfl).trans (decide_eq_true rfl).symm
theorem kd_avenue {k : Kd} : decide (V.str (kdS k) = V.str "avenue") = decide (k = .avenue) := by
  cases k
  · exact (decide_eq_false (fun z => absurd (V.str.inj z) (by decide +kernel))).trans (decide_eq_false (fun z => nomatch z)).symm
  · exact (decide_eq_true rfl).trans (decide_eq_true rfl).symm
  · exact (decide_eq_false (fun z => absurd (V.str.inj z) (by decide +kernel))).trans (decide_eq_false (fun z => nomatch z)).symm
/-- the pairs (title, (start, goal)) -/
theorem paired_told {H : Hp} {D : Addr} : ∀ {rs : List (Rw × Addr)} {ys : List V}, Paired (fun (r : Rw × Addr) y => ∃ t pr, y = V.ref t ∧ t ≠ D ∧ pr ≠ D ∧ H t = some (.tup [.str r.1.nm, .ref pr]) ∧ T2 H pr r.1.a r.1.b) rs ys →
    ∃ (ps : List Addr) (bs : List (Sgn × Addr)), ys = ps.map V.ref ∧ bs.map (·.1) = rs.map (fun r => (r.1.nm, r.1.a, r.1.b)) ∧ Paired (fun p kv => SqT K H p [kV kv.1, kv.2]) ps (bs.map gS) ∧ ∀ b ∈ bs, T2 H b.2 b.1.2.1 b.1.2.2
  | _, _, .nil => ⟨[], [], rfl, rfl, .nil, fun _ z => nomatch z⟩
  | r :: rs, y :: ys, .cons ⟨t, pr, e, _, _, h1, h2⟩ q => by
    obtain ⟨ps, bs, e1, e2, h3, h4⟩ := paired_told q
    refine ⟨t :: ps, ((r.1.nm, r.1.a, r.1.b), pr) :: bs, by rw [e, e1]; rfl, by rw [List.map_cons, List.map_cons, e2], .cons (SqT.of h1) h3, fun b hb => ?_⟩
    rcases List.mem_cons.mp hb with rfl | m
    · exact h2
    · exact h4 b m
def sp__law_told (K : PySem.W.Frag) : Sp0 := fun vs H Q => ∃ (l : Addr) (rs : List (Rw × Addr)), vs = [.ref l] ∧ LAt H l rs ∧ rs.length ≤ 14 ∧ ((rs.map (·.1)).map (·.nm)).Nodup ∧ ∀ H' d bs, Same H H' → FAt H' d bs → bs.map (·.1) = sgR (rs.map (·.1)) → Q (.ref d) H'
abbrev n__law_told : List Str := ["_law_rows", "_law_row"]
theorem sc__law_told : FnScope n__law_told ["_law_rows"] (defScope s__law_told) := ⟨rfl, rfl, rfl, by decide +kernel, rfl, by decide +kernel, by decide +kernel⟩
theorem fn__law_told (T : Txt K mg) : Fn w K mg base 1 (a__law_told K) (sp__law_told K) := by
  refine fn_by (N := n__law_told) (ps := ["_law_rows"]) (st := s__law_told) (T.fn 34 rfl) sc__law_told (fun _ _ _ _ _ _ us hl => match us, hl with | [_], _ => rfl) (by rintro vs H Q ⟨l, rs, rfl, hl, h14, nd, q⟩; rfl) fun cdv A outer s H vs Q hr h => ?_
  obtain ⟨l, rs, rfl, hl, h14, nd, q⟩ := h
  refine ⟨_, pss_one (ps_ret (pe_callTy (call_dictP rfl) (by rfl) (T.free T.r_f_dict) bb_dict (pa_cons (pe_lc (own := [("_law_row", 1)]) rfl sc__law_told.nd (piL_ K (pv 0)) (blkOk_by (own := [("_law_row", 1)]) (N := n__law_told) (sc := defScope s__law_told) (by decide +kernel)) (fun _ _ _ _ _ => pg_name (i := 1) sc__law_told.nd rfl (by first | exact .inl rfl | exact .inr rfl)) (fun _ _ _ _ _ => pts_one (pt_cmpR op_eq (pe_ix (ixT_ K) (pv 1) pe_int (fun _ _ => rfl)) pe_str (by first | rfl | exact nomark _))) (fun _ _ _ _ _ => pe_tup (pa_cons (pe_ix (ixT_ K) (pv 1) pe_int (fun _ _ => rfl)) (pa_cons (pe_tup (pa_cons (pe_ix (ixT_ K) (pv 1) pe_int (fun _ _ => rfl)) (pa_cons (pe_ix (ixT_ K) (pv 1) pe_int (fun _ _ => rfl)) pa_nil))) pa_nil)))) pa_nil))), ?_⟩
  refine ⟨_, rfl, l, rfl, ⟨_, SqL.of hl.1⟩, fun D hD => ?_⟩
  refine lc_keep (as := rs) (c := fun b => .ref b.2) src_l (fun r => decide (r.1.k = .road)) (fun r y H => ∃ t pr, y = V.ref t ∧ t ≠ D ∧ pr ≠ D ∧ H t = some (.tup [.str r.1.nm, .ref pr]) ∧ T2 H pr r.1.a r.1.b) hD (fun r y Ha Hb h b => by
      obtain ⟨t, pr, g1, g2, g3, g4, g5⟩ := h
      exact ⟨t, pr, g1, g2, g3, b t _ g2 g4, b pr _ g3 g5⟩) (fun H1 s1 => SqL.of (s1 _ _ hl.1)) (Nat.lt_of_le_of_lt h14 (by decide)) (fun i r H1 Kt Kf hr s1 hDl k1 k2 => ?_) fun H1 ys s1 hys pr => ?_
  · have e2 := s1 _ _ (hl.2 r (List.mem_of_getElem? hr))
    refine ⟨rfl, _, rfl, _, _, _, _, rfl, rfl, SqT.of e2, atI_nat (j := 0) rfl, rfl, _, rfl, ?_⟩
    rw [kd_road]
    by_cases e : r.1.k = .road
    · rw [decide_eq_true e]
      obtain ⟨ll, hll⟩ := hDl
      refine ⟨_, rfl, _, _, _, _, rfl, rfl, SqT.of e2, atI_nat (j := 1) rfl, _, rfl, _, _, _, _, rfl, rfl, SqT.of e2, atI_nat (j := 2) rfl, _, rfl, _, _, _, _, rfl, rfl, SqT.of e2, atI_nat (j := 3) rfl, sz2, fun pr hpr => ?_⟩
      refine ⟨sz2, fun t ht => ?_⟩
      have s2 := same_upd (o := .tup [.str r.1.a, .str r.1.b]) hpr
      have s3 := same_upd (o := .tup [.str r.1.nm, .ref pr]) ht
      exact k1 _ _ (decide_eq_true e) (s2.trans s3) ⟨t, pr, rfl, ne_of_none' ht (s2 _ _ hll), ne_of_none' hpr hll, upd_same, s3 _ _ upd_same⟩
    · rw [decide_eq_false e]
      exact iteF (k2 _ (decide_eq_false e) (Same.refl _))
  obtain ⟨ps, bs, rfl, e1, h3, h4⟩ := paired_told (K := K) pr
  have eb : bs.map (·.1) = sgR (rs.map (·.1)) := by
    rw [e1, sgR, List.filter_map, List.map_map]
    rfl
  have hn : ((bs.map gS).map (·.1)).Nodup := by
    have e : (bs.map gS).map (·.1) = ((bs.map (·.1)).map (·.1)).map Sum.inr := by
      rw [List.map_map, List.map_map, List.map_map]
      rfl
    rw [e, eb]
    refine List.Pairwise.map _ (R := fun (a b : Str) => a ≠ b) (fun a b h e => h (Sum.inr.inj e)) ?_
    rw [sgR, List.map_map]
    exact (List.filter_sublist.map _).nodup nd
  refine ⟨D, ps, bs.map gS, rfl, SqL.of hys, h3, fun d hd => ?_⟩
  rw [mergeK_nd (by rw [List.nil_append]; exact hn), List.nil_append]
  exact q _ d bs (s1.trans (same_upd hd)) ⟨upd_same, fun b hb => same_upd hd _ _ (h4 b hb)⟩ eb
theorem sgR_mem {rs : List Rw} {r : Rw} (h : r ∈ rs) (hk : r.k = .road) : (r.nm, r.a, r.b) ∈ sgR rs := List.mem_map.mpr ⟨r, List.mem_filter.mpr ⟨h, decide_eq_true hk⟩, rfl⟩
theorem trsR_len : ∀ rs : List Rw, (trsR rs).length ≤ 2 * rs.length
  | [] => Nat.le_refl _
  | r :: q => by
    have ih := trsR_len q
    unfold trsR at ih ⊢
    rw [List.flatMap_cons, List.length_append, List.length_cons]
    have : (trR r).length ≤ 2 := by
      unfold trR
      cases r.k <;> simp
    omega
def sp__law_triples (K : PySem.W.Frag) : Sp0 := fun vs H Q => ∃ (l d : Addr) (rs : List (Rw × Addr)) (bs : List (Sgn × Addr)), vs = [.ref l, .ref d] ∧ LAt H l rs ∧ rs.length ≤ 14 ∧ ((rs.map (·.1)).map (·.nm)).Nodup ∧ FAt H d bs ∧ bs.map (·.1) = sgR (rs.map (·.1)) ∧
  ∀ H' r as, Same H H' → RowsAt H' r as → as.map (·.1) = trsR (rs.map (·.1)) → Q (.ref r) H'
abbrev n__law_triples : List Str := ["_law_rows", "_law_told_here", "_law_found", "_law_kind", "_law_title", "_law_first", "_law_last", "_law_ahead", "_law_behind"]
theorem sc__law_triples : FnScope n__law_triples ["_law_rows", "_law_told_here"] (defScope s__law_triples) := ⟨rfl, rfl, rfl, by decide +kernel, rfl, by decide +kernel, by decide +kernel⟩
theorem fn__law_triples (T : Txt K mg) : Fn w K mg base 1 (a__law_triples K) (sp__law_triples K) := by
  refine fn_by (N := n__law_triples) (ps := ["_law_rows", "_law_told_here"]) (st := s__law_triples) (T.fn 35 rfl) sc__law_triples (fun _ _ _ _ _ _ us hl => match us, hl with | [_, _], _ => rfl) (by rintro vs H Q ⟨l, d, rs, bs, rfl, hl, h14, nd, hd, eb, q⟩; rfl) fun cdv A outer s H vs Q hr h => ?_
  obtain ⟨l, d, rs, bs, rfl, hl, h14, nd, hd, eb, q⟩ := h
  refine ⟨_, pss_cons (ps_set (i := 2) sc__law_triples.nd rfl (by first | exact .inl rfl | exact .inr rfl) (pe_lst pa_nil))
  (pss_cons (ps_for PassesOwn.never rfl (piL_ K (pv 0)) (gtup_ K (n := 6) (pgs_cons (pg_name (i := 3) sc__law_triples.nd rfl (by first | exact .inl rfl | exact .inr rfl)) (pgs_cons (pg_name (i := 4) sc__law_triples.nd rfl (by first | exact .inl rfl | exact .inr rfl)) (pgs_cons (pg_name (i := 5) sc__law_triples.nd rfl (by first | exact .inl rfl | exact .inr rfl)) (pgs_cons (pg_name (i := 6) sc__law_triples.nd rfl (by first | exact .inl rfl | exact .inr rfl)) (pgs_cons (pg_name (i := 7) sc__law_triples.nd rfl (by first | exact .inl rfl | exact .inr rfl)) (pgs_cons (pg_name (i := 8) sc__law_triples.nd rfl (by first | exact .inl rfl | exact .inr rfl)) pgs_nil))))))) (pss_cons (ps_if (pt_cmpR op_eq (pv 3) pe_str (by first | rfl | exact nomark _)) (pss_one (ps_expr (bm_ K PySem.F.plainAttrs_list PySem.F.slot_list_append PySem.F.type_list_append mt_append (pv 2) (pa_cons (pe_tup (pa_cons (pv 4) (pa_cons (pe_ix (ixT_ K) (pe_dget (hu_of hr) (pv 1) (pv 4) (fun _ _ => rfl)) pe_int (fun _ _ => rfl)) (pa_cons (pe_ix (ixT_ K) (pe_dget (hu_of hr) (pv 1) (pv 4) (fun _ _ => rfl)) pe_int (fun _ _ => rfl)) pa_nil)))) pa_nil)))) (pss_one (ps_expr (bm_ K PySem.F.plainAttrs_list PySem.F.slot_list_append PySem.F.type_list_append mt_append (pv 2) (pa_cons (pe_tup (pa_cons (pv 4) (pa_cons (pv 5) (pa_cons (pv 6) pa_nil)))) pa_nil)))))
  (pss_one (ps_if (pt_cmpR op_eq (pv 3) pe_str (by first | rfl | exact nomark _)) (pss_one (ps_expr (bm_ K PySem.F.plainAttrs_list PySem.F.slot_list_append PySem.F.type_list_append mt_append (pv 2) (pa_cons (pe_tup (pa_cons (pv 4) (pa_cons (pv 6) (pa_cons (pv 5) pa_nil)))) pa_nil)))) (pss_nil)))))
  (pss_one (ps_ret (pv 2)))), ?_⟩
  refine ⟨sz0, fun D hD => ?_⟩
  have s0 : Same H (upd H D (.lst [])) := same_upd hD
  have hbn : (bs.map fun b : Sgn × Addr => b.1.1).Nodup := by
    have e : (bs.map fun b : Sgn × Addr => b.1.1) = (bs.map (·.1)).map (·.1) := by rw [List.map_map]; rfl
    rw [e, eb, sgR, List.map_map]
    exact (List.filter_sublist.map _).nodup nd
  refine ⟨_, rfl, l, rfl, ⟨_, SqL.of (s0 _ _ hl.1)⟩, ?_⟩
  refine for_c (as := rs) (c := fun b => .ref b.2) src_l (fun i σ H1 => ∃ x3 x4 x5 x6 x7 x8 as, σ = [some (.ref l), some (.ref d), some (.ref D), x3, x4, x5, x6, x7, x8] ∧ Same H H1 ∧ RowsAt H1 D as ∧ as.map (·.1) = trsR ((rs.take i).map (·.1)) ∧ as.length ≤ 2 * i)
    ⟨_, _, _, _, _, _, [], rfl, s0, ⟨upd_same, fun _ z => (nomatch z)⟩, rfl, Nat.le_refl _⟩ (fun i σ H1 _ ⟨_, _, _, _, _, _, _, _, s1, _⟩ => SqL.of (s1 _ _ hl.1)) (fun i r σ H1 hr ⟨x3, x4, x5, x6, x7, x8, as, e, s1, h1, h2, h3⟩ => ?_) fun σ H1 ⟨x3, x4, x5, x6, x7, x8, as, e, s1, h1, h2, h3⟩ => ?_
  rotate_left
  · subst e
    rw [List.take_length] at h2
    exact ⟨_, rfl, q H1 D as s1 h1 h2⟩
  subst e
  have hrm := List.mem_of_getElem? hr
  have hi := (List.getElem?_eq_some_iff.mp hr).1
  have e2 := s1 _ _ (hl.2 r hrm)
  have tk : trsR ((rs.take (i + 1)).map (·.1)) = trsR ((rs.take i).map (·.1)) ++ trR r.1 := by
    rw [List.take_add_one, hr, List.map_append]
    unfold trsR
    rw [List.flatMap_append]
    show _ ++ List.flatMap trR [r.1] = _
    simp
  have len : ∀ as : List (Sgn × Addr), as.length ≤ 2 * i + 1 → (as.map fun a : Sgn × Addr => V.ref a.2).length < sizeLine := fun as h => by
    rw [List.length_map]
    exact Nat.lt_of_le_of_lt (show as.length ≤ 28 by omega) (by decide)
  have add : ∀ (H2 : Hp) (as : List (Sgn × Addr)) (g : Sgn) (p : Addr), Same H H2 → RowsAt H2 D as → H2 p = none → Same H (upd (upd H2 p (.tup [.str g.1, .str g.2.1, .str g.2.2])) D (.lst ((as.map fun a => V.ref a.2) ++ [.ref p]))) ∧ RowsAt (upd (upd H2 p (.tup [.str g.1, .str g.2.1, .str g.2.2])) D (.lst ((as.map fun a => V.ref a.2) ++ [.ref p]))) D (as ++ [(g, p)]) :=
    fun H2 as g p s h hp => ⟨ST.Same.upd (s.trans (same_upd hp)) hD, rows_add h hp⟩
  have atD : ∀ (H2 : Hp) (as : List (Sgn × Addr)) (p : Addr) (o : HO), RowsAt H2 D as → H2 p = none → upd H2 p o D = some (.lst (as.map fun a => .ref a.2)) := fun H2 as p o h hp => (upd_ne (ne_of_none h.1 hp)).trans h.1
  obtain ⟨⟨kd, nm, a, b, i1, i2⟩, ra⟩ := r
  refine ⟨ra, _, rfl, SqT.of e2, rfl, _, _, rfl, _, _, rfl, _, _, rfl, _, _, rfl, _, _, rfl, _, _, rfl, rfl, ?_⟩
  refine ⟨_, rfl, rfl, _, rfl, ?_⟩
  rw [kd_road]
  by_cases er : kd = .road
  · subst er
    rw [decide_eq_true rfl]
    have hg : (nm, a, b) ∈ bs.map (·.1) := by
      rw [eb]
      exact sgR_mem (List.mem_map.mpr ⟨_, hrm, rfl⟩) rfl
    obtain ⟨c, hc, ec⟩ := mem_fst hg
    have hv := valV_of (k := fun b : Sgn × Addr => b.1.1) (v := fun b => .ref b.2) hbn hc
    rw [show c.1.1 = nm by rw [ec]] at hv
    have h2c := s1 _ _ (hd.2 c hc)
    rw [ec] at h2c
    refine ⟨_, rfl, .inl ⟨rfl, _, SqL.of h1.1⟩, _, rfl, ?_⟩
    refine ⟨_, rfl, _, rfl, d, _, rfl, dget_r (.inl (s1 _ _ hd.1)) hv, _, _, _, _, rfl, rfl, SqT.of h2c, atI_nat (j := 0) rfl, ?_⟩
    refine ⟨_, rfl, _, rfl, d, _, rfl, dget_r (.inl (s1 _ _ hd.1)) hv, _, _, _, _, rfl, rfl, SqT.of h2c, atI_nat (j := 1) rfl, ?_⟩
    refine ⟨sz3, fun p hp => ⟨D, _, _, rfl, rfl, atD H1 as p _ h1 hp, len as (by omega), ?_⟩⟩
    obtain ⟨z1, z2⟩ := add H1 as (nm, a, b) p s1 h1 hp
    refine ⟨_, rfl, rfl, _, rfl, ?_⟩
    rw [kd_avenue, decide_eq_false (show ¬ Kd.road = Kd.avenue from fun z => nomatch z)]
    exact iteF ⟨_, _, _, _, _, _, as ++ [((nm, a, b), p)], rfl, z1, z2, by rw [tk, List.map_append, h2]; rfl, by rw [List.length_append, List.length_singleton]; omega⟩
  · rw [decide_eq_false er]
    refine iteF ?_
    refine ⟨_, rfl, .inl ⟨rfl, _, SqL.of h1.1⟩, _, rfl, _, rfl, _, rfl, sz3, fun p hp => ⟨D, _, _, rfl, rfl, atD H1 as p _ h1 hp, len as (by omega), ?_⟩⟩
    obtain ⟨z1, z2⟩ := add H1 as (nm, a, b) p s1 h1 hp
    generalize upd (upd H1 p (.tup [.str (nm, a, b).1, .str (nm, a, b).2.1, .str (nm, a, b).2.2])) D (.lst ((as.map fun a => V.ref a.2) ++ [.ref p])) = H2 at z1 z2
    refine ⟨_, rfl, rfl, _, rfl, ?_⟩
    rw [kd_avenue]
    by_cases ea : kd = .avenue
    · subst ea
      rw [decide_eq_true rfl]
      refine ⟨_, rfl, .inl ⟨rfl, _, SqL.of z2.1⟩, _, rfl, _, rfl, _, rfl, sz3, fun p2 hp2 => ⟨D, _, _, rfl, rfl, atD H2 _ p2 _ z2 hp2, len _ (by rw [List.length_append, List.length_singleton]; omega), ?_⟩⟩
      obtain ⟨y1, y2⟩ := add H2 _ (nm, b, a) p2 z1 z2 hp2
      exact ⟨_, _, _, _, _, _, _, rfl, y1, y2, by rw [tk, List.map_append, List.map_append, h2, List.append_assoc]; rfl, by rw [List.length_append, List.length_append, List.length_singleton, List.length_singleton]; omega⟩
    · rw [decide_eq_false ea]
      have et : trR ⟨kd, nm, a, b, i1, i2⟩ = [(nm, a, b)] := by
        unfold trR
        cases kd
        · rfl
        · exact absurd rfl ea
        · rfl
      exact iteF ⟨_, _, _, _, _, _, as ++ [((nm, a, b), p)], rfl, z1, z2, by rw [tk, et, List.map_append, h2]; rfl, by rw [List.length_append, List.length_singleton]; omega⟩
/-- the corners of the rows, ascending -/
def CsR (rs : List Rw) (cs : List Str) : Prop := Asc cs ∧ ∀ c, c ∈ cs ↔ ∃ r ∈ rs, c = r.a ∨ c = r.b
def sp__law_spots : Sp0 := fun vs H Q => ∃ (l : Addr) (rs : List (Rw × Addr)), vs = [.ref l] ∧ LAt H l rs ∧ rs.length ≤ 14 ∧ ∀ H' q cs, Same H H' → H' q = some (.lst (cs.map V.str)) → CsR (rs.map (·.1)) cs → Q (.ref q) H'
abbrev n__law_spots : List Str := ["_law_rows", "_law_ends_here", "_law_row", "_law_end"]
theorem sc__law_spots : FnScope n__law_spots ["_law_rows"] (defScope s__law_spots) := ⟨rfl, rfl, rfl, by decide +kernel, rfl, by decide +kernel, by decide +kernel⟩
theorem fn__law_spots (T : Txt K mg) : Fn w K mg base 1 (a__law_spots K) sp__law_spots := by
  refine fn_by (N := n__law_spots) (ps := ["_law_rows"]) (st := s__law_spots) (T.fn 36 rfl) sc__law_spots (fun _ _ _ _ _ _ us hl => match us, hl with | [_], _ => rfl) (by rintro vs H Q ⟨l, rs, rfl, hl, h14, q⟩; rfl) fun cdv A outer s H vs Q hr h => ?_
  obtain ⟨l, rs, rfl, hl, h14, q⟩ := h
  refine ⟨_, pss_cons (ps_set (i := 1) sc__law_spots.nd rfl (by first | exact .inl rfl | exact .inr rfl) (pe_op op_cat (pe_lc (own := [("_law_row", 2)]) rfl sc__law_spots.nd (piL_ K (pv 0)) (blkOk_by (own := [("_law_row", 2)]) (N := n__law_spots) (sc := defScope s__law_spots) (by decide +kernel)) (fun _ _ _ _ _ => pg_name (i := 2) sc__law_spots.nd rfl (by first | exact .inl rfl | exact .inr rfl)) (fun _ _ _ _ _ => pts_nil) (fun _ _ _ _ _ => pe_ix (ixT_ K) (pv 2) pe_int (fun _ _ => rfl))) (pe_lc (own := [("_law_row", 2)]) rfl sc__law_spots.nd (piL_ K (pv 0)) (blkOk_by (own := [("_law_row", 2)]) (N := n__law_spots) (sc := defScope s__law_spots) (by decide +kernel)) (fun _ _ _ _ _ => pg_name (i := 2) sc__law_spots.nd rfl (by first | exact .inl rfl | exact .inr rfl)) (fun _ _ _ _ _ => pts_nil) (fun _ _ _ _ _ => pe_ix (ixT_ K) (pv 2) pe_int (fun _ _ => rfl)))))
  (pss_one (ps_ret (pe_callB (SgT.cr_sortedT rfl) (by rfl) (T.free T.r_f_sorted) bb_sorted (pa_cons (pe_callTy (setT_ K w) (by rfl) (T.free T.r_f_set) bb_set (pa_cons (pe_lc (own := [("_law_end", 3)]) rfl sc__law_spots.nd (piL_ K (pv 1)) (blkOk_by (own := [("_law_end", 3)]) (N := n__law_spots) (sc := defScope s__law_spots) (by decide +kernel)) (fun _ _ _ _ _ => pg_name (i := 3) sc__law_spots.nd rfl (by first | exact .inl rfl | exact .inr rfl)) (fun _ _ _ _ _ => pts_nil) (fun _ _ _ _ _ => pe_callTy SkE.call_str_str (by rfl) (T.free T.r_f_str) bb_str (pa_cons (pv 3) pa_nil))) pa_nil)) pa_nil)))), ?_⟩
  have n1 : rs.length < sizeLine := Nat.lt_of_le_of_lt h14 (by decide)
  refine ⟨_, rfl, l, rfl, ⟨_, SqL.of hl.1⟩, fun D hD => ?_⟩
  refine lc_pure (as := rs) (c := fun b => .ref b.2) src_l (fun _ => true) (fun b => .str b.1.a) hD (fun H1 s1 => SqL.of (s1 _ _ hl.1)) n1 (fun i r H1 Kt Kf hr s1 k1 k2 => ?_) fun H1 s1 hd1 => ?_
  · exact ⟨rfl, _, rfl, _, _, _, _, rfl, rfl, SqT.of (s1 _ _ (hl.2 r (List.mem_of_getElem? hr))), atI_nat (j := 2) rfl, k1 _ rfl (Same.refl _)⟩
  rw [List.filter_eq_self.mpr fun _ _ => rfl] at hd1
  have hl1 := hl.same s1
  refine ⟨_, rfl, l, rfl, ⟨_, SqL.of hl1.1⟩, fun D2 hD2 => ?_⟩
  refine lc_pure (as := rs) (c := fun b => .ref b.2) src_l (fun _ => true) (fun b => .str b.1.b) hD2 (fun H2 s2 => SqL.of (s2 _ _ hl1.1)) n1 (fun i r H2 Kt Kf hr s2 k1 k2 => ?_) fun H2 s2 hd2 => ?_
  · exact ⟨rfl, _, rfl, _, _, _, _, rfl, rfl, SqT.of (s2 _ _ (hl1.2 r (List.mem_of_getElem? hr))), atI_nat (j := 3) rfl, k1 _ rfl (Same.refl _)⟩
  rw [List.filter_eq_self.mpr fun _ _ => rfl] at hd2
  have zs : ∃ zs : List Str, (rs.map fun b => V.str b.1.a) ++ (rs.map fun b => V.str b.1.b) = zs.map V.str ∧ zs = (rs.map fun b => b.1.a) ++ (rs.map fun b => b.1.b) := ⟨_, by rw [List.map_append, List.map_map, List.map_map]; rfl, rfl⟩
  obtain ⟨zs, ez, ez'⟩ := zs
  have lz : zs.length ≤ 28 := by
    rw [ez', List.length_append, List.length_map, List.length_map]
    omega
  refine ⟨D, D2, _, _, rfl, rfl, s2 _ _ hd1, hd2, ?_, fun e he => ?_⟩
  · rw [List.length_map, List.length_map]
    exact Nat.le_trans (show rs.length + rs.length ≤ 28 by omega) (by decide)
  have s3 := same_upd (o := .lst ((rs.map fun b => V.str b.1.a) ++ (rs.map fun b => V.str b.1.b))) he
  have he3 : upd H2 e (.lst ((rs.map fun b => V.str b.1.a) ++ (rs.map fun b => V.str b.1.b))) e = some (.lst (zs.map V.str)) := by rw [upd_same, ez]
  generalize upd H2 e (.lst ((rs.map fun b => V.str b.1.a) ++ (rs.map fun b => V.str b.1.b))) = H3 at s3 he3
  refine ⟨_, rfl, e, rfl, ⟨_, SqL.of he3⟩, fun D3 hD3 => ?_⟩
  refine lc_pure (as := zs) (c := V.str) src_l (fun _ => true) V.str hD3 (fun H4 s4 => SqL.of (s4 _ _ he3)) (Nat.lt_of_le_of_lt lz (by decide)) (fun i z H4 Kt Kf hz s4 k1 k2 => ?_) fun H4 s4 hd4 => ?_
  · exact ⟨rfl, _, rfl, _, rfl, k1 _ rfl (Same.refl _)⟩
  rw [List.filter_eq_self.mpr fun _ _ => rfl] at hd4
  refine ⟨D3, zs, rfl, SqL.of hd4, Nat.lt_of_le_of_lt lz (by decide), fun p hp => ?_⟩
  refine ⟨p, _, rfl, upd_same, Nat.lt_of_le_of_lt (Nat.le_trans (SgT.ded_len zs) lz) (by decide), fun ys pn perm srt hpn => ?_⟩
  refine q _ pn ys ((((s1.trans s2).trans s3).trans s4).trans ((same_upd hp).trans (same_upd hpn))) upd_same ⟨sorted_asc srt (perm.symm.nodup (SgT.ded_nodup zs)), fun c => ?_⟩
  rw [perm.mem_iff, SgT.ded_mem, ez', List.mem_append]
  constructor
  · rintro (h | h)
    · obtain ⟨b, hb, rfl⟩ := List.mem_map.mp h
      exact ⟨b.1, List.mem_map.mpr ⟨b, hb, rfl⟩, .inl rfl⟩
    · obtain ⟨b, hb, rfl⟩ := List.mem_map.mp h
      exact ⟨b.1, List.mem_map.mpr ⟨b, hb, rfl⟩, .inr rfl⟩
  · rintro ⟨r, hr, e | e⟩
    · obtain ⟨b, hb, rfl⟩ := List.mem_map.mp hr
      exact .inl (List.mem_map.mpr ⟨b, hb, e.symm⟩)
    · obtain ⟨b, hb, rfl⟩ := List.mem_map.mp hr
      exact .inr (List.mem_map.mpr ⟨b, hb, e.symm⟩)
end
end ST
end
section
set_option Elab.async false
set_option linter.all false
set_option maxRecDepth 100000
set_option maxHeartbeats 1000000
/-! The law's wards. -/
namespace ST
open PySem PySem.Spec PyProof.Rows L2 SgO
section
variable {w : World} {K : PySem.W.Frag} {mg : Str → Option Value} {base : Heap}
/-- a list of tuples of texts -/
def GsAt (H : Hp) (l : Addr) (gs : List (List Str × Addr)) : Prop := H l = some (.lst (gs.map fun b => .ref b.2)) ∧ ∀ b ∈ gs, txts H b.2 b.1
theorem GsAt.same {H H' : Hp} {l : Addr} {gs : List (List Str × Addr)} (h : GsAt H l gs) (s : Same H H') : GsAt H' l gs := ⟨s _ _ h.1, fun b hb => s _ _ (h.2 b hb)⟩
theorem paired_gs {H : Hp} {D : Addr} {x : Str} : ∀ {gs : List (List Str × Addr)} {ys : List V}, Paired (fun (g : List Str × Addr) y => ∃ t, y = V.ref t ∧ t ≠ D ∧ txts H t (x :: g.1)) gs ys → ∃ hs : List (List Str × Addr), ys = hs.map (fun b => .ref b.2) ∧ hs.map (·.1) = gs.map (fun g => x :: g.1) ∧ ∀ b ∈ hs, txts H b.2 b.1
  | _, _, .nil => ⟨[], rfl, rfl, fun _ z => nomatch z⟩
  | g :: gs, y :: ys, .cons ⟨t, e, _, h⟩ q => by
    obtain ⟨hs, e1, e2, h3⟩ := paired_gs q
    refine ⟨(x :: g.1, t) :: hs, by rw [e, e1]; rfl, by rw [List.map_cons, List.map_cons, e2], fun b hb => ?_⟩
    rcases List.mem_cons.mp hb with rfl | m
    · exact h
    · exact h3 b m
def sp__law_groups : Sp0 := fun vs H Q => ∃ (sp : Addr) (cs : List Str), vs = [.ref sp] ∧ H sp = some (.lst (cs.map V.str)) ∧ 2 ≤ cs.length ∧ cs.length ≤ 5 ∧
  ∀ H' l gs, Same H H' → GsAt H' l gs → (∀ ap, ap ∈ gs.map (·.1) ↔ IsWard cs ap) → gs.length ≤ 160 → Q (.ref l) H'
abbrev n__law_groups : List Str := ["_law_spots_here", "_law_found", "_law_ordered", "_law_spot", "_law_size", "_law_group"]
theorem sc__law_groups : FnScope n__law_groups ["_law_spots_here"] (defScope s__law_groups) := ⟨rfl, rfl, rfl, by decide +kernel, rfl, by decide +kernel, by decide +kernel⟩
theorem fn__law_groups (T : Txt K mg) : Fn w K mg base 1 (a__law_groups K) sp__law_groups := by
  refine fn_by (N := n__law_groups) (ps := ["_law_spots_here"]) (st := s__law_groups) (T.fn 37 rfl) sc__law_groups (fun _ _ _ _ _ _ us hl => match us, hl with | [_], _ => rfl) (by rintro vs H Q ⟨sp, cs, rfl, hsp, h2, h5, q⟩; rfl) fun cdv A outer s H vs Q hr h => ?_
  obtain ⟨sp, cs, rfl, hsp, h2, h5, q⟩ := h
  refine ⟨_, pss_cons (ps_par (i := 1) (j := 2) rfl sc__law_groups.nd rfl rfl (by decide) rfl rfl (pa_cons (pe_lst (pa_cons (pe_tup pa_nil) pa_nil)) (pa_cons (pe_lst pa_nil) pa_nil)) rfl)
  (pss_cons (ps_for PassesOwn.never rfl (piL_ K (pe_revL (pv 0))) (pg_name (i := 3) sc__law_groups.nd rfl (by first | exact .inl rfl | exact .inr rfl)) (pss_one (ps_set (i := 1) sc__law_groups.nd rfl (by first | exact .inl rfl | exact .inr rfl) (pe_op op_cat (pe_lc (own := [("_law_group", 5)]) rfl sc__law_groups.nd (piL_ K (pv 1)) (blkOk_by (own := [("_law_group", 5)]) (N := n__law_groups) (sc := defScope s__law_groups) (by decide +kernel)) (fun _ _ _ _ _ => pg_name (i := 5) sc__law_groups.nd rfl (by first | exact .inl rfl | exact .inr rfl)) (fun _ _ _ _ _ => pts_nil) (fun _ _ _ _ _ => pe_op (catT_ K) (pe_tup (pa_cons (pv 3) pa_nil)) (pv 5))) (pv 1)))))
  (pss_cons (ps_for PassesOwn.never rfl (pi_range2 (by rfl) (T.free T.r_f_range) (pa_cons pe_int (pa_cons (pe_callB (lenQ_ K) (by rfl) (T.free T.r_f_len) bb_len (pa_cons (pv 0) pa_nil)) pa_nil))) (pg_name (i := 4) sc__law_groups.nd rfl (by first | exact .inl rfl | exact .inr rfl)) (pss_one (ps_set (i := 2) sc__law_groups.nd rfl (by first | exact .inl rfl | exact .inr rfl) (pe_op op_cat (pv 2) (pe_lc (own := [("_law_group", 5)]) rfl sc__law_groups.nd (piL_ K (pv 1)) (blkOk_by (own := [("_law_group", 5)]) (N := n__law_groups) (sc := defScope s__law_groups) (by decide +kernel)) (fun _ _ _ _ _ => pg_name (i := 5) sc__law_groups.nd rfl (by first | exact .inl rfl | exact .inr rfl)) (fun _ _ _ _ _ => pts_one (pt_cmpR op_eq (pe_callB (lenQ_ K) (by rfl) (T.free T.r_f_len) bb_len (pa_cons (pv 5) pa_nil)) (pv 4) (by first | rfl | exact nomark _))) (fun _ _ _ _ _ => pv 5))))))
  (pss_one (ps_ret (pv 2))))), ?_⟩
  refine ⟨sz0, fun t0 ht0 => ⟨sz1, fun l0 hl0 => ⟨sz0, fun m0 hm0 => ⟨_, _, rfl, ?_⟩⟩⟩⟩
  have s1 := same_upd (o := .tup []) ht0
  have s2 := same_upd (o := .lst [.ref t0]) hl0
  have s3 := same_upd (o := .lst []) hm0
  have g0 : GsAt (upd (upd (upd H t0 (.tup [])) l0 (.lst [.ref t0])) m0 (.lst [])) l0 [([], t0)] := ⟨s3 _ _ upd_same, fun b hb => by rw [List.mem_singleton.mp hb]; exact s3 _ _ (s2 _ _ upd_same)⟩
  have m0e : upd (upd (upd H t0 (.tup [])) l0 (.lst [.ref t0])) m0 (.lst []) m0 = some (.lst []) := upd_same
  have sA := (s1.trans s2).trans s3
  generalize upd (upd (upd H t0 (.tup [])) l0 (.lst [.ref t0])) m0 (.lst []) = H1 at g0 m0e sA
  refine ⟨_, rfl, sp, _, rfl, SqL.of (sA _ _ hsp), fun r hr => ?_⟩
  have s4 := same_upd (o := .lst (cs.map V.str).reverse) hr
  have hr4 : upd H1 r (.lst (cs.map V.str).reverse) r = some (.lst (cs.reverse.map V.str)) := by rw [upd_same, List.map_reverse]
  have g1 := g0.same s4
  have m1 := s4 _ _ m0e
  have sB := sA.trans s4
  generalize upd H1 r (.lst (cs.map V.str).reverse) = H2 at hr4 g1 m1 sB
  refine ⟨r, rfl, ⟨_, SqL.of hr4⟩, ?_⟩
  have lrv : cs.reverse.length ≤ 5 := by rw [List.length_reverse]; exact h5
  refine for_c (as := cs.reverse) (c := V.str) src_l (fun i σ H3 => ∃ fl gs x3 x4 x5, σ = [some (.ref sp), some (.ref fl), some (.ref m0), x3, x4, x5] ∧ Same H2 H3 ∧ GsAt H3 fl gs ∧ gs.length = 2 ^ i ∧ ∀ ap, ap ∈ gs.map (·.1) ↔ ap.Sublist (cs.reverse.take i).reverse)
    ⟨l0, [([], t0)], _, _, _, rfl, Same.refl _, g1, rfl, fun ap => by simp⟩ (fun i σ H3 _ ⟨_, _, _, _, _, _, s, _⟩ => SqL.of (s _ _ hr4)) (fun i x σ H3 hx ⟨fl, gs, x3, x4, x5, e, s5, g3, l3, mem⟩ => ?_) fun σ H3 ⟨fl, gs, x3, x4, x5, e, s5, g3, l3, mem⟩ => ?_
  · subst e
    have hi := (List.getElem?_eq_some_iff.mp hx).1
    have p16 : 2 ^ i ≤ 2 ^ 4 := Nat.pow_le_pow_right (by decide) (by omega)
    have l16 : gs.length ≤ 16 := by omega
    refine ⟨_, rfl, fl, rfl, ⟨_, SqL.of g3.1⟩, fun D hD => ?_⟩
    refine lc_keep (as := gs) (c := fun b => .ref b.2) src_l (fun _ => true) (fun g y H => ∃ t, y = V.ref t ∧ t ≠ D ∧ txts H t (x :: g.1)) hD (fun g y Ha Hb h b => by
        obtain ⟨t, a1, a2, a3⟩ := h
        exact ⟨t, a1, a2, b t _ a2 a3⟩) (fun H4 s6 => SqL.of (s6 _ _ g3.1)) (Nat.lt_of_le_of_lt l16 (by decide)) (fun j g H4 Kt Kf hg s6 hDl k1 k2 => ?_) fun H4 ys s6 hys pr => ?_
    · have hgm := List.mem_of_getElem? hg
      have e2 := s6 _ _ (g3.2 g hgm)
      obtain ⟨ll, hll⟩ := hDl
      have gl : g.1.length ≤ 5 := by
        have := ((mem g.1).mp (List.mem_map.mpr ⟨g, hgm, rfl⟩)).length_le
        rw [List.length_reverse, List.length_take] at this
        omega
      refine ⟨rfl, _, rfl, sz1, fun p1 hp1 => ⟨_, rfl, ?_⟩⟩
      have s7 := same_upd (o := .tup [.str x]) hp1
      refine ⟨p1, g.2, _, _, rfl, rfl, SqT.of upd_same, SqT.of (s7 _ _ e2), by simp, ?_, fun en => ?_, fun _ t ht => ?_⟩
      · rw [List.length_map]
        exact Nat.le_trans (show 1 + g.1.length ≤ 6 by omega) (by decide)
      · refine k1 _ _ rfl s7 ⟨p1, rfl, ne_of_none' hp1 hll, ?_⟩
        rw [List.map_eq_nil_iff.mp en]
        exact upd_same
      · have s8 := same_upd (o := .tup ([.str x] ++ g.1.map V.str)) ht
        exact k1 _ _ rfl (s7.trans s8) ⟨t, rfl, ne_of_none' ht (s7 _ _ hll), upd_same⟩
    rw [List.filter_eq_self.mpr fun _ _ => rfl] at pr
    obtain ⟨hs, rfl, e1, h3⟩ := paired_gs pr
    have g4 := g3.same s6
    have lh : hs.length = gs.length := by simpa using congrArg List.length e1
    refine ⟨_, rfl, D, fl, _, _, rfl, rfl, hys, g4.1, ?_, fun p hp => ?_⟩
    · rw [List.length_map, List.length_map]
      exact Nat.le_trans (show hs.length + gs.length ≤ 32 by omega) (by decide)
    have s9 := same_upd (o := .lst ((hs.map fun b => V.ref b.2) ++ gs.map fun b => V.ref b.2)) hp
    refine ⟨p, hs ++ gs, _, _, _, rfl, (s5.trans s6).trans s9, ⟨by rw [upd_same, List.map_append], fun b hb => ?_⟩, by rw [List.length_append, lh, l3, Nat.pow_succ]; omega, fun ap => ?_⟩
    · rcases List.mem_append.mp hb with m | m
      · exact s9 _ _ (h3 b m)
      · exact s9 _ _ (g4.2 b m)
    · rw [List.map_append, List.mem_append, e1, mem, List.take_add_one, hx, List.reverse_append]
      show _ ↔ ap.Sublist (x :: (cs.reverse.take i).reverse)
      rw [List.sublist_cons_iff]
      constructor
      · rintro (h | h)
        · obtain ⟨g, hg, rfl⟩ := List.mem_map.mp h
          exact .inr ⟨g.1, rfl, (mem g.1).mp (List.mem_map.mpr ⟨g, hg, rfl⟩)⟩
        · exact .inl h
      · rintro (h | ⟨r, rfl, h⟩)
        · exact .inr h
        · obtain ⟨g, hg, eg⟩ := List.mem_map.mp ((mem r).mpr h)
          exact .inl (List.mem_map.mpr ⟨g, hg, by rw [← eg]⟩)
  subst e
  rw [List.take_length, List.reverse_reverse] at mem
  have l32 : gs.length ≤ 32 := by
    rw [l3]
    exact Nat.pow_le_pow_right (n := 2) (j := 5) (by decide) lrv
  have m3 := s5 _ _ m1
  have sC := sB.trans s5
  refine ⟨_, rfl, _, _, rfl, .inl (SqL.of (sC _ _ hsp)), _, _, rfl, ?_, ?_⟩
  · rw [List.length_map]
    refine ⟨by omega, by omega, by omega, by omega⟩
  have en : (((cs.map V.str).length : Int) - 1).toNat = cs.length - 1 := by rw [List.length_map]; omega
  rw [en]
  refine for_it (walk_range (lo := 1) (n := cs.length - 1)) (fun j σ H4 => ∃ ol hs x3 x4 x5, σ = [some (.ref sp), some (.ref fl), some (.ref ol), x3, x4, x5] ∧ Same H3 H4 ∧ GsAt H4 ol hs ∧ hs.length ≤ 32 * j ∧ ∀ ap, ap ∈ hs.map (·.1) ↔ (ap.Sublist cs ∧ 1 ≤ ap.length ∧ ap.length ≤ j))
    ⟨m0, [], _, _, _, rfl, Same.refl _, ⟨m3, fun _ z => (nomatch z)⟩, Nat.le_refl _, fun ap => ⟨fun z => (nomatch z), fun ⟨_, z1, z2⟩ => by omega⟩⟩ (fun _ _ _ _ _ => trivial) (fun j x σ H4 H5 hj ⟨ol, hs, x3, x4, x5, e, s6, g4, l4, mm⟩ y => ?_) fun σ H4 ⟨ol, hs, x3, x4, x5, e, s6, g4, l4, mm⟩ => ?_
  · subst e
    obtain ⟨rfl, rfl⟩ := y
    have g34 := g3.same s6
    refine ⟨_, rfl, _, rfl, fl, rfl, ⟨_, SqL.of g34.1⟩, fun D hD => ?_⟩
    refine lc_pure (as := gs) (c := fun b => .ref b.2) src_l (fun g => decide (g.1.length = j + 1)) (fun g => .ref g.2) hD (fun H6 s7 => SqL.of (s7 _ _ g34.1)) (Nat.lt_of_le_of_lt l32 (by decide)) (fun i g H6 Kt Kf hg s7 k1 k2 => ?_) fun H6 s7 hys => ?_
    · have e2 := s7 _ _ (g34.2 g (List.mem_of_getElem? hg))
      refine ⟨rfl, _, rfl, _, _, rfl, .inr (SqT.of e2), _, rfl, rfl, _, rfl, ?_⟩
      by_cases e : g.1.length = j + 1
      · rw [decide_eq_true (show V.int ((g.1.map V.str).length : Nat) = V.int (1 + (j : Nat)) by rw [List.length_map, e]; congr 1; omega)]
        exact ⟨_, rfl, k1 _ (decide_eq_true e) (Same.refl _)⟩
      · rw [decide_eq_false (show ¬ V.int ((g.1.map V.str).length : Nat) = V.int (1 + (j : Nat)) from fun z => e (by have := V.int.inj z; rw [List.length_map] at this; omega))]
        exact iteF (k2 _ (decide_eq_false e) (Same.refl _))
    have g47 := g4.same s7
    have lf : (gs.filter fun g => decide (g.1.length = j + 1)).length ≤ 32 := Nat.le_trans (List.length_filter_le _ _) l32
    refine ⟨ol, D, _, _, rfl, rfl, g47.1, hys, ?_, fun p hp => ?_⟩
    · rw [List.length_map, List.length_map]
      exact Nat.le_trans (show hs.length + (gs.filter fun g => decide (g.1.length = j + 1)).length ≤ 200 by omega) (by decide)
    have s9 := same_upd (o := .lst ((hs.map fun b => V.ref b.2) ++ (gs.filter fun g => decide (g.1.length = j + 1)).map fun b => V.ref b.2)) hp
    refine ⟨p, hs ++ gs.filter fun g => decide (g.1.length = j + 1), _, _, _, rfl, (s6.trans s7).trans s9, ⟨by rw [upd_same, List.map_append], fun b hb => ?_⟩, by rw [List.length_append]; omega, fun ap => ?_⟩
    · rcases List.mem_append.mp hb with m | m
      · exact s9 _ _ (g47.2 b m)
      · exact s9 _ _ (s7 _ _ (g34.2 b (List.mem_filter.mp m).1))
    · rw [List.map_append, List.mem_append, mm]
      constructor
      · rintro (⟨h1, h2, h3⟩ | h)
        · exact ⟨h1, h2, by omega⟩
        · obtain ⟨g, hg, rfl⟩ := List.mem_map.mp h
          obtain ⟨hg1, hg2⟩ := List.mem_filter.mp hg
          have := of_decide_eq_true hg2
          exact ⟨(mem g.1).mp (List.mem_map.mpr ⟨g, hg1, rfl⟩), by omega, by omega⟩
      · rintro ⟨h1, h2, h3⟩
        by_cases e : ap.length = j + 1
        · obtain ⟨g, hg, rfl⟩ := List.mem_map.mp ((mem ap).mpr h1)
          exact .inr (List.mem_map.mpr ⟨g, List.mem_filter.mpr ⟨hg, decide_eq_true e⟩, rfl⟩)
        · exact .inl ⟨h1, h2, by omega⟩
  subst e
  refine ⟨_, rfl, q H4 ol hs (sC.trans s6) g4 (fun ap => ?_) (by omega)⟩
  rw [mm]
  constructor
  · rintro ⟨h1, h2, h3⟩
    refine ⟨h1, fun e => ?_, fun e => ?_⟩
    · rw [e] at h2
      simp at h2
    · rw [e] at h3
      omega
  · rintro ⟨h1, h2, h3⟩
    have l1 := h1.length_le
    have l2 : ap.length ≠ cs.length := fun e => h3 (h1.eq_of_length e)
    have l3 := List.length_pos_iff.mpr h2
    exact ⟨h1, l3, by omega⟩
def sp__law_enter : Sp0 := fun vs H Q => ∃ (r g : Addr) (as : List (Sgn × Addr)) (cs : List Str), vs = [.ref r, .ref g] ∧ RowsAt H r as ∧ as.length ≤ 100 ∧ txts H g cs ∧ ∀ H', Same H H' → Q (.int (enterN (as.map (·.1)) cs : Nat)) H'
abbrev n__law_enter : List Str := ["_law_triples_here", "_law_group", "_law_row"]
theorem sc__law_enter : FnScope n__law_enter ["_law_triples_here", "_law_group"] (defScope s__law_enter) := ⟨rfl, rfl, rfl, by decide +kernel, rfl, by decide +kernel, by decide +kernel⟩
theorem fn__law_enter (T : Txt K mg) : Fn w K mg base 1 (a__law_enter K) sp__law_enter := by
  refine fn_by (N := n__law_enter) (ps := ["_law_triples_here", "_law_group"]) (st := s__law_enter) (T.fn 38 rfl) sc__law_enter (fun _ _ _ _ _ _ us hl => match us, hl with | [_, _], _ => rfl) (by rintro vs H Q ⟨r, g, as, cs, rfl, hr', h100, hg, q⟩; rfl) fun cdv A outer s H vs Q hr h => ?_
  obtain ⟨r, g, as, cs, rfl, hr', h100, hg, q⟩ := h
  refine ⟨_, pss_one (ps_ret (pe_callB (lenQ_ K) (by rfl) (T.free T.r_f_len) bb_len (pa_cons (pe_lc (own := [("_law_row", 2)]) rfl sc__law_enter.nd (piL_ K (pv 0)) (blkOk_by (own := [("_law_row", 2)]) (N := n__law_enter) (sc := defScope s__law_enter) (by decide +kernel)) (fun _ _ _ _ _ => pg_name (i := 2) sc__law_enter.nd rfl (by first | exact .inl rfl | exact .inr rfl)) (fun _ _ _ _ _ => pts_one (PW.pt (pw_and (pt_cmpR (inQ_ K) (pe_ix (ixT_ K) (pv 2) pe_int (fun _ _ => rfl)) (pv 1) (by first | rfl | exact nomark _)) (pw_and1 (pt_cmpR (ninQ_ K) (pe_ix (ixT_ K) (pv 2) pe_int (fun _ _ => rfl)) (pv 1) (by first | rfl | exact nomark _)))))) (fun _ _ _ _ _ => pv 2)) pa_nil))), ?_⟩
  refine ⟨_, rfl, r, rfl, ⟨_, SqL.of hr'.1⟩, fun D hD => ?_⟩
  refine lc_pure (as := as) (c := fun a => .ref a.2) src_l (fun a => into cs a.1) (fun a => .ref a.2) hD (fun H1 sm => SqL.of (sm _ _ hr'.1)) (Nat.lt_of_le_of_lt h100 (by decide)) (fun i b H1 Kt Kf hb sm k1 k2 => ?_) fun H1 s1 hl => ?_
  · have e3 := sm _ _ (hr'.2 b (List.mem_of_getElem? hb))
    have eg := sm _ _ hg
    refine ⟨rfl, _, rfl, _, _, _, _, rfl, rfl, SqT.of e3, atI_nat (j := 2) rfl, _, rfl, g, _, rfl, .inr (SqT.of eg), rfl, flat_txts _, _, rfl, ?_⟩
    have i1 : (if false = true then !inV (.str b.1.2.2) (cs.map V.str) else inV (.str b.1.2.2) (cs.map V.str)) = decide (b.1.2.2 ∈ cs) := by rw [if_neg Bool.false_ne_true, inV_txts]
    rw [i1]
    by_cases c1 : b.1.2.2 ∈ cs
    · rw [decide_eq_true c1]
      refine ⟨_, rfl, _, _, _, _, rfl, rfl, SqT.of e3, atI_nat (j := 1) rfl, _, rfl, g, _, rfl, .inr (SqT.of eg), rfl, flat_txts _, _, rfl, ?_⟩
      have i2 : (if true = true then !inV (.str b.1.2.1) (cs.map V.str) else inV (.str b.1.2.1) (cs.map V.str)) = !decide (b.1.2.1 ∈ cs) := by rw [if_pos rfl, inV_txts]
      rw [i2]
      by_cases c2 : b.1.2.1 ∈ cs
      · rw [decide_eq_true c2]
        exact iteF (k2 H1 (by show (!decide _ && decide _) = false; rw [decide_eq_true c2]; rfl) (Same.refl _))
      · rw [decide_eq_false c2]
        exact ⟨_, rfl, k1 H1 (by show (!decide _ && decide _) = true; rw [decide_eq_true c1, decide_eq_false c2]; rfl) (Same.refl _)⟩
    · rw [decide_eq_false c1]
      exact iteF (iteF (k2 H1 (by show (!decide _ && decide _) = false; rw [decide_eq_false c1, Bool.and_false]) (Same.refl _)))
  · refine ⟨D, _, rfl, .inl (SqL.of hl), ?_⟩
    have e : ((as.filter fun a => into cs a.1).map fun a => V.ref a.2).length = enterN (as.map (·.1)) cs := by
      rw [List.length_map, enterN, List.filter_map, List.length_map]
      rfl
    rw [e]
    exact q H1 s1
def sp__law_weakest : Sp0 := fun vs H Q => ∃ (r sp : Addr) (as : List (Sgn × Addr)) (cs : List Str), vs = [.ref r, .ref sp] ∧ RowsAt H r as ∧ as.length ≤ 100 ∧ H sp = some (.lst (cs.map V.str)) ∧ 2 ≤ cs.length ∧ cs.length ≤ 5 ∧ ∀ H' (n : Nat), Same H H' → Least (as.map (·.1)) cs n → Q (.int (n : Nat)) H'
abbrev n__law_weakest : List Str := ["_law_triples_here", "_law_spots_here", "_law_group"]
theorem sc__law_weakest : FnScope n__law_weakest ["_law_triples_here", "_law_spots_here"] (defScope s__law_weakest) := ⟨rfl, rfl, rfl, by decide +kernel, rfl, by decide +kernel, by decide +kernel⟩
theorem fn__law_weakest (T : Txt K mg) : Fn w K mg base 2 (a__law_weakest K) sp__law_weakest := by
  refine fn_by (N := n__law_weakest) (ps := ["_law_triples_here", "_law_spots_here"]) (st := s__law_weakest) (T.fn 39 rfl) sc__law_weakest (fun _ _ _ _ _ _ us hl => match us, hl with | [_, _], _ => rfl) (by rintro vs H Q ⟨r, sp, as, cs, rfl, hr', h100, hsp, h2, h5, q⟩; rfl) fun cdv A outer s H vs Q hr h => ?_
  obtain ⟨r, sp, as, cs, rfl, hr', h100, hsp, h2, h5, q⟩ := h
  refine ⟨_, pss_one (ps_ret (pe_callB (min_ K) (by rfl) (T.free T.r_f_min) bb_min (pa_cons (pe_lc (own := [("_law_group", 2)]) rfl sc__law_weakest.nd (piL_ K (pe_fn (fn__law_groups T) hr (by decide) (by rfl) (T.glo T.r_g__law_groups) (T.kp 37 rfl) (pa_cons (pv 1) pa_nil))) (blkOk_by (own := [("_law_group", 2)]) (N := n__law_weakest) (sc := defScope s__law_weakest) (by decide +kernel)) (fun _ _ _ _ _ => pg_name (i := 2) sc__law_weakest.nd rfl (by first | exact .inl rfl | exact .inr rfl)) (fun _ _ _ _ _ => pts_nil) (fun _ _ _ _ _ => pe_callTy call_int1 (by rfl) (T.free T.r_f_int) bb_int (pa_cons (pe_fn (fn__law_enter T) hr (by decide) (by rfl) (T.glo T.r_g__law_enter) (T.kp 38 rfl) (pa_cons (pv 0) (pa_cons (pv 2) pa_nil))) pa_nil))) pa_nil))), ?_⟩
  refine ⟨_, rfl, sp, cs, rfl, hsp, h2, h5, fun H1 l gs s1 hgs hmem hl160 => ?_⟩
  refine ⟨l, rfl, ⟨_, SqL.of hgs.1⟩, fun D hD => ?_⟩
  refine lc_pure (as := gs) (c := fun b => .ref b.2) src_l (fun _ => true) (fun g => .int (enterN (as.map (·.1)) g.1 : Nat)) hD (fun H2 s2 => SqL.of (s2 _ _ hgs.1)) (Nat.lt_of_le_of_lt hl160 (by decide)) (fun i g H2 Kt Kf hg s2 k1 k2 => ?_) fun H2 s2 hys => ?_
  · have e2 := s2 _ _ (hgs.2 g (List.mem_of_getElem? hg))
    refine ⟨rfl, _, rfl, _, rfl, r, g.2, as, g.1, rfl, hr'.same (s1.trans s2), h100, e2, fun H3 s3 => .inl ⟨_, rfl, k1 _ rfl s3⟩⟩
  rw [List.filter_eq_self.mpr fun _ _ => rfl] at hys
  have ew : ∃ ap, IsWard cs ap := by
    match cs, h2 with
    | x :: y :: rr, _ => exact ⟨[x], List.Sublist.cons_cons x (List.nil_sublist _), by simp, by simp⟩
  obtain ⟨ap, hap⟩ := ew
  have hpos : 0 < gs.length := by
    have := List.length_pos_of_mem ((hmem ap).mpr hap)
    rwa [List.length_map] at this
  refine ⟨D, gs.map fun g => ((enterN (as.map (·.1)) g.1 : Nat) : Int), rfl, SqL.of (by rw [hys, List.map_map]; rfl), by rw [List.length_map]; exact hpos, fun m hm hall => ?_⟩
  obtain ⟨g, hg, rfl⟩ := List.mem_map.mp hm
  refine q H2 _ (s1.trans s2) ⟨⟨g.1, (hmem g.1).mp (List.mem_map.mpr ⟨g, hg, rfl⟩), rfl⟩, fun ap' hap' => ?_⟩
  obtain ⟨g', hg', rfl⟩ := List.mem_map.mp ((hmem ap').mpr hap')
  have := hall _ (List.mem_map.mpr ⟨g', hg', rfl⟩)
  omega
end
end ST
end
section
set_option Elab.async false
set_option linter.all false
set_option maxRecDepth 100000
set_option maxHeartbeats 1000000
/-! The law's own look at walks. -/
namespace ST
open PySem PySem.Spec PyProof.Rows L2 SgO
section
variable {w : World} {K : PySem.W.Frag} {mg : Str → Option Value} {base : Heap}
theorem sh_ltxts (ns : List Str) (h : ∀ n ∈ ns, Nm n) : SeqAt.shaped (.list (ns.map PyData.str)) = true := by
  have q := dp_txts ns
  simp only [SeqAt.shaped, PyData.canLay0, cl_txts ns h, Bool.true_and, decide_eq_true_eq]
  simp only [PyData.depth]
  omega
theorem eqv_txts0 (ns : List Str) : PyData.eqv (.list (ns.map PyData.str)) (.list []) = decide (ns = []) := by
  rw [PyData.eqv]
  cases ns <;> simp [PyData.eqvAll]
def sp__law_ends : Sp0 := fun vs H Q => ∃ (r tp : Addr) (start goal : Str) (as : List (Sgn × Addr)) (ns : List Str), vs = [.ref r, .ref tp, .str start] ∧ RowsAt H r as ∧ as.length ≤ 100 ∧ RowsOk (as.map (·.1)) ∧ (∀ g ∈ as.map (·.1), Nm g.2.2) ∧ txts H tp ns ∧ ns ≠ [] ∧ ns.Nodup ∧ ns.length ≤ 100 ∧ Wlk (as.map (·.1)) start ns goal ∧ ∀ H', Same H H' → Q (.str goal) H'
abbrev n__law_ends : List Str := ["_law_triples_here", "_law_path", "_law_first", "_law_spot", "_law_k", "_law_heads", "_law_row"]
theorem sc__law_ends : FnScope n__law_ends ["_law_triples_here", "_law_path", "_law_first"] (defScope s__law_ends) := ⟨rfl, rfl, rfl, by decide +kernel, rfl, by decide +kernel, by decide +kernel⟩
theorem fn__law_ends (T : Txt K mg) : Fn w K mg base 1 (a__law_ends K) sp__law_ends := by
  refine fn_by (N := n__law_ends) (ps := ["_law_triples_here", "_law_path", "_law_first"]) (st := s__law_ends) (T.fn 40 rfl) sc__law_ends (fun _ _ _ _ _ _ us hl => match us, hl with | [_, _, _], _ => rfl) (by rintro vs H Q ⟨r, tp, start, goal, as, ns, rfl, hr1, h100, ok, hnm, htp, hne, hnd, hnl, hw, qq⟩; rfl) fun cdv A outer s H vs Q hr h => ?_
  obtain ⟨r, tp, start, goal, as, ns, rfl, hr1, h100, ok, hnm, htp, hne, hnd, hnl, hw, qq⟩ := h
  refine ⟨_, pss_cons (ps_if (PW.pt (pw_or (pt_not (pt_val (pe_callB (isi_ K) (by rfl) (T.free T.r_f_isinstance) bb_isinstance (pa_cons (pv 1) (pa_cons (pe_bT (T.free T.r_f_tuple) bb_tuple) pa_nil))))) (pw_or1 (pt_cmpR op_eq (pe_callB (lenQ_ K) (by rfl) (T.free T.r_f_len) bb_len (pa_cons (pv 1) pa_nil)) pe_int (by first | rfl | exact nomark _))))) (pss_one (ps_ret (pe_non))) (pss_nil))
  (pss_cons (ps_set (i := 3) sc__law_ends.nd rfl (by first | exact .inl rfl | exact .inr rfl) (pv 2))
  (pss_cons (ps_for PassesOwn.never rfl (pi_range1 (by rfl) (T.free T.r_f_range) (pa_cons (pe_callB (lenQ_ K) (by rfl) (T.free T.r_f_len) bb_len (pa_cons (pv 1) pa_nil)) pa_nil)) (pg_name (i := 4) sc__law_ends.nd rfl (by first | exact .inl rfl | exact .inr rfl)) (pss_cons (ps_if (PW.pt (pw_or (pt_not (pt_val (pe_callB (isi_ K) (by rfl) (T.free T.r_f_isinstance) bb_isinstance (pa_cons (pe_ix (ixT_ K) (pv 1) (pv 4) (fun _ _ => rfl)) (pa_cons (pe_bT (T.free T.r_f_str) bb_str) pa_nil))))) (pw_or1 (pt_cmpR (inQ_ K) (pe_ix (ixT_ K) (pv 1) (pv 4) (fun _ _ => rfl)) (pe_slice (slA_ K) (pv 1) po_none (po_some (pv 4))) (by first | rfl | exact nomark _))))) (pss_one (ps_ret (pe_non))) (pss_nil))
  (pss_cons (ps_setLc (i := 5) (own := [("_law_row", 6)]) rfl sc__law_ends.nd rfl rfl (sw_true rfl rfl rfl (by decide +kernel)) (piL_ K (pv 0)) (blkOk_by (own := [("_law_row", 6)]) (N := n__law_ends) (sc := defScope s__law_ends) (by decide +kernel)) (fun _ _ _ _ _ => pg_name (i := 6) sc__law_ends.nd rfl (by first | exact .inl rfl | exact .inr rfl)) (fun _ _ _ _ _ => pts_one (PW.pt (pw_and (pt_cmpR op_eq (pe_ix (ixT_ K) (pv 6) pe_int (fun _ _ => rfl)) (pe_ix (ixT_ K) (pv 1) (pv 4) (fun _ _ => rfl)) (by first | rfl | exact nomark _)) (pw_and1 (pt_cmpR op_eq (pe_ix (ixT_ K) (pv 6) pe_int (fun _ _ => rfl)) (pv 3) (by first | rfl | exact nomark _)))))) (fun _ _ _ _ _ => pe_ix (ixT_ K) (pv 6) pe_int (fun _ _ => rfl)))
  (pss_cons (ps_if (pt_cmpR (eqD_ K hr.units) (pv 5) (pe_lst pa_nil) (by first | rfl | exact nomark _)) (pss_one (ps_ret (pe_non))) (pss_nil))
  (pss_one (ps_set (i := 3) sc__law_ends.nd rfl (by first | exact .inl rfl | exact .inr rfl) (pe_ix (ixL_ K) (pv 5) pe_int (fun _ _ => rfl))))))))
  (pss_one (ps_ret (pv 3))))), ?_⟩
  have l0 : 0 < ns.length := List.length_pos_iff.mpr hne
  refine ⟨_, rfl, _, _, _, rfl, isi_tt htp, _, rfl, ?_⟩
  refine ⟨_, rfl, _, _, rfl, .inr (SqT.of htp), rfl, _, rfl, ?_⟩
  rw [decide_eq_false (fun z => by have := V.int.inj z; rw [List.length_map] at this; omega)]
  refine ⟨_, rfl, ?_⟩
  refine ⟨_, rfl, _, _, rfl, .inr (SqT.of htp), _, rfl, by omega, by rw [List.length_map]; omega, ?_⟩
  rw [Int.toNat_natCast, List.length_map]
  refine for_it (walk_range (lo := 0) (n := ns.length)) (fun i σ H2 => ∃ c x4 x5 x6, σ = [some (.ref r), some (.ref tp), some (.str start), some (.str c), x4, x5, x6] ∧ Same H H2 ∧ Wlk (as.map (·.1)) c (ns.drop i) goal)
    ⟨start, _, _, _, rfl, Same.refl _, hw⟩ (fun _ _ _ _ _ => trivial) (fun i x σ H2 H3 hi ⟨c, x4, x5, x6, e, s2, wl⟩ y => ?_) fun σ H2 ⟨c, x4, x5, x6, e, s2, wl⟩ => ?_
  rotate_left
  · subst e
    rw [List.drop_length] at wl
    cases wl
    exact ⟨_, rfl, qq _ s2⟩
  subst e
  obtain ⟨rfl, rfl⟩ := y
  have hn : ns[i]? = some ns[i] := List.getElem?_eq_getElem hi
  rw [drop_at hn] at wl
  obtain ⟨d, hd, wl'⟩ := wl.head
  generalize ns[i] = n at hn wl hd
  have ixn : atI (ns.map V.str) (0 + (i : Nat)) = some (.str n) := by
    rw [Int.zero_add]
    exact atI_nat (by rw [List.getElem?_map, hn]; rfl)
  have htp2 := s2 _ _ htp
  refine ⟨_, rfl, _, rfl, tp, _, _, _, rfl, rfl, SqT.of htp2, ixn, _, _, _, rfl, isi_ss, _, rfl, ?_⟩
  refine ⟨_, rfl, _, rfl, tp, _, _, _, rfl, rfl, SqT.of htp2, ixn, _, rfl, _, rfl, _, rfl, ?_⟩
  refine sl_takeI (n := i) htp2 (by omega) fun H4 q s4 hq => ?_
  rw [← List.map_take] at hq
  refine ⟨q, _, rfl, .inr (SqT.of hq), rfl, flat_txts _, _, rfl, ?_⟩
  have i1 : (if false = true then !inV (.str n) ((ns.take i).map V.str) else inV (.str n) ((ns.take i).map V.str)) = false := by rw [if_neg Bool.false_ne_true, inV_txts, decide_eq_false (nd_take hnd hn)]
  rw [i1]
  refine iteF ?_
  have s24 := s2.trans s4
  have hr4 := hr1.same s24
  have htp4 := s4 _ _ htp2
  refine ⟨_, rfl, r, rfl, ⟨_, SqL.of hr4.1⟩, fun D hD => ?_⟩
  refine lc_pure (as := as) (c := fun a => .ref a.2) src_l (fun a => decide (a.1.1 = n) && decide (a.1.2.1 = c)) (fun a => .str a.1.2.2) hD (fun H5 sm => SqL.of (sm _ _ hr4.1)) (Nat.lt_of_le_of_lt h100 (by decide)) (fun j b H5 Kt Kf hb sm k1 k2 => ?_) fun H5 s5 hl => ?_
  · have e3 := sm _ _ (hr4.2 b (List.mem_of_getElem? hb))
    have e5 := sm _ _ htp4
    refine ⟨rfl, _, rfl, _, _, _, _, rfl, rfl, SqT.of e3, atI_nat (j := 0) rfl, _, rfl, _, rfl, tp, _, _, _, rfl, rfl, SqT.of e5, ixn, rfl, _, rfl, ?_⟩
    by_cases c1 : b.1.1 = n
    · rw [decide_eq_true (congrArg V.str c1)]
      refine ⟨_, rfl, _, _, _, _, rfl, rfl, SqT.of e3, atI_nat (j := 1) rfl, _, rfl, rfl, _, rfl, ?_⟩
      by_cases c2 : b.1.2.1 = c
      · rw [decide_eq_true (congrArg V.str c2)]
        exact ⟨_, rfl, _, _, _, _, rfl, rfl, SqT.of e3, atI_nat (j := 2) rfl, k1 _ (by rw [decide_eq_true c1, decide_eq_true c2]; rfl) (Same.refl _)⟩
      · rw [decide_eq_false (fun z => c2 (V.str.inj z))]
        exact iteF (k2 _ (by rw [decide_eq_false c2, Bool.and_false]) (Same.refl _))
    · rw [decide_eq_false (fun z => c1 (V.str.inj z))]
      exact iteF (iteF (k2 _ (by rw [decide_eq_false c1, Bool.false_and]) (Same.refl _)))
  obtain ⟨b0, hb0, eb0⟩ := mem_fst hd
  have hin : b0 ∈ as.filter fun a => decide (a.1.1 = n) && decide (a.1.2.1 = c) := List.mem_filter.mpr ⟨hb0, by rw [eb0]; simp⟩
  cases ef : as.filter fun a => decide (a.1.1 = n) && decide (a.1.2.1 = c) with
  | nil =>
    rw [ef] at hin
    cases hin
  | cons b1 rest =>
    rw [ef] at hl
    have hb1 : b1 ∈ as.filter fun a => decide (a.1.1 = n) && decide (a.1.2.1 = c) := by rw [ef]; exact List.mem_cons_self
    obtain ⟨m1, m2⟩ := List.mem_filter.mp hb1
    obtain ⟨m3, m4⟩ := ands m2
    have m3 := of_decide_eq_true m3
    have m4 := of_decide_eq_true m4
    have m5 : (n, c, b1.1.2.2) ∈ as.map (·.1) := by
      rw [← m3, ← m4]
      exact List.mem_map.mpr ⟨b1, m1, rfl⟩
    have ed := ok.one hd m5
    have hl' : H5 D = some (.lst (((b1 :: rest).map fun a => a.1.2.2).map V.str)) := by rw [hl, List.map_map]; rfl
    have hnms : ∀ z ∈ (b1 :: rest).map fun a : Sgn × Addr => a.1.2.2, Nm z := fun z hz => by
      obtain ⟨a, ha, rfl⟩ := List.mem_map.mp hz
      exact hnm _ (List.mem_map.mpr ⟨a, (List.mem_filter.mp (ef ▸ ha)).1, rfl⟩)
    refine ⟨_, rfl, sz0, fun em hem => ?_⟩
    have s6 := same_upd (o := .lst []) hem
    refine ⟨_, _, .lst (SqL.of (s6 _ _ hl')) (dpa_txts _), .lst (SqL.of upd_same) .nil, sh_ltxts _ hnms, sh_nil, _, rfl, ?_⟩
    rw [eqv_txts0, decide_eq_false (by simp)]
    refine iteF ?_
    refine ⟨_, rfl, D, _, _, _, rfl, rfl, SqL.of (s6 _ _ hl), atI_nat (j := 0) rfl, ?_⟩
    exact ⟨b1.1.2.2, _, _, _, rfl, (s24.trans s5).trans s6, by rw [ed]; exact wl'⟩
/-- no closed street in it -/
def open_ (cl : List Str) (b : List Str) : Bool := b.all fun n => !decide (n ∈ cl)
theorem open_nil {cl b : List Str} : decide (b.filter (fun n => decide (n ∈ cl)) = []) = open_ cl b := by
  unfold open_
  by_cases h : b.filter (fun n => decide (n ∈ cl)) = []
  · rw [decide_eq_true h]
    refine (List.all_eq_true.mpr fun n hn => ?_).symm
    have := List.filter_eq_nil_iff.mp h n hn
    cases e : decide (n ∈ cl) with
    | true => exact absurd e this
    | false => rfl
  · rw [decide_eq_false h]
    refine (Bool.eq_false_iff.mpr fun e => h (List.filter_eq_nil_iff.mpr fun n hn z => ?_)).symm
    have := List.all_eq_true.mp e n hn
    rw [z] at this
    cases this
def sp__law_left : Sp0 := fun vs H Q => ∃ (wp c : Addr) (ws : List (List Str × Addr)) (cl : List Str), vs = [.ref wp, .ref c] ∧ WalksAt H wp ws ∧ ws.length ≤ 100 ∧ (∀ b ∈ ws, b.1.length ≤ 100 ∧ ∀ n ∈ b.1, Nm n) ∧ H c = some (.lst (cl.map V.str)) ∧
  ∀ H' l, Same H H' → H' l = some (.lst ((ws.filter fun b => open_ cl b.1).map fun b => .ref b.2)) → Q (.ref l) H'
abbrev n__law_left : List Str := ["_law_paths", "_law_closed", "_law_path", "_law_title"]
theorem sc__law_left : FnScope n__law_left ["_law_paths", "_law_closed"] (defScope s__law_left) := ⟨rfl, rfl, rfl, by decide +kernel, rfl, by decide +kernel, by decide +kernel⟩
theorem fn__law_left (T : Txt K mg) : Fn w K mg base 1 (a__law_left K) sp__law_left := by
  refine fn_by (N := n__law_left) (ps := ["_law_paths", "_law_closed"]) (st := s__law_left) (T.fn 41 rfl) sc__law_left (fun _ _ _ _ _ _ us hl => match us, hl with | [_, _], _ => rfl) (by rintro vs H Q ⟨wp, c, ws, cl, rfl, hw, h100, hb, hc, q⟩; rfl) fun cdv A outer s H vs Q hr h => ?_
  obtain ⟨wp, c, ws, cl, rfl, hw, h100, hb, hc, q⟩ := h
  refine ⟨_, pss_one (ps_ret (pe_lc (own := [("_law_path", 2)]) rfl sc__law_left.nd (piT_ K (pv 0)) (blkOk_by (own := [("_law_path", 2)]) (N := n__law_left) (sc := defScope s__law_left) (by decide +kernel)) (fun _ _ _ _ _ => pg_name (i := 2) sc__law_left.nd rfl (by first | exact .inl rfl | exact .inr rfl)) (fun _ _ _ _ _ => pts_one (pt_cmpR (eqD_ K hr.units) (pe_lc (own := [("_law_title", 3)]) rfl sc__law_left.nd (piT_ K (pv 2)) (blkOk_by (own := [("_law_title", 3)]) (N := n__law_left) (sc := ⟨.function, [(".0", .local), ("_law_path", .local), ("_law_closed", .cell)], false, false, []⟩) (scope := ⟨.function, [(".0", .local), ("_law_title", .local), ("_law_closed", .free)], false, false, []⟩) (by decide +kernel)) (fun _ _ _ _ _ => pg_name (i := 3) sc__law_left.nd rfl (by first | exact .inl rfl | exact .inr rfl)) (fun _ _ _ _ _ => pts_one (pt_cmpR (inQ_ K) (pv 3) (pv 1) (by first | rfl | exact nomark _))) (fun _ _ _ _ _ => pv 3)) (pe_lst pa_nil) (by first | rfl | exact nomark _))) (fun _ _ _ _ _ => pv 2))), ?_⟩
  refine ⟨_, rfl, _, rfl, ⟨_, SqT.of hw.1⟩, fun D hD => ?_⟩
  refine lc_pure (as := ws) (c := fun b => .ref b.2) src_t (fun b => open_ cl b.1) (fun b => .ref b.2) hD (fun H1 s1 => SqT.of (s1 _ _ hw.1)) (Nat.lt_of_le_of_lt h100 (by decide)) (fun i b H1 Kt Kf hi s1 k1 k2 => ?_) fun H1 s1 hl => q H1 D s1 hl
  have hbm := List.mem_of_getElem? hi
  obtain ⟨b100, bnm⟩ := hb b hbm
  have e2 := s1 _ _ (hw.2 b hbm)
  have ec := s1 _ _ hc
  refine ⟨rfl, _, rfl, _, rfl, ⟨_, SqT.of e2⟩, fun D2 hD2 => ?_⟩
  refine lc_pure (as := b.1) (c := V.str) src_t (fun n => decide (n ∈ cl)) V.str hD2 (fun H2 s2 => SqT.of (s2 _ _ e2)) (Nat.lt_of_le_of_lt b100 (by decide)) (fun j n H2 Kt2 Kf2 hj s2 k3 k4 => ?_) fun H2 s2 hl2 => ?_
  · refine ⟨rfl, _, rfl, _, rfl, c, _, rfl, .inl (SqL.of (s2 _ _ ec)), rfl, flat_txts _, _, rfl, ?_⟩
    have i1 : (if false = true then !inV (.str n) (cl.map V.str) else inV (.str n) (cl.map V.str)) = decide (n ∈ cl) := by rw [if_neg Bool.false_ne_true, inV_txts]
    rw [i1]
    by_cases e : n ∈ cl
    · rw [decide_eq_true e]
      exact ⟨_, rfl, k3 _ (decide_eq_true e) (Same.refl _)⟩
    · rw [decide_eq_false e]
      exact iteF (k4 _ (decide_eq_false e) (Same.refl _))
  refine ⟨sz0, fun em hem => ?_⟩
  have s3 := same_upd (o := .lst []) hem
  refine ⟨_, _, .lst (SqL.of (s3 _ _ hl2)) (dpa_txts _), .lst (SqL.of upd_same) .nil, sh_ltxts _ (fun n hn => bnm n (List.mem_filter.mp hn).1), sh_nil, _, rfl, ?_⟩
  rw [eqv_txts0, open_nil]
  cases e : open_ cl b.1 with
  | true => exact ⟨_, rfl, k1 _ e (s2.trans s3)⟩
  | false => exact iteF (k2 _ e (s2.trans s3))
end
end ST
end
section
set_option Elab.async false
set_option linter.all false
set_option maxRecDepth 100000
set_option maxHeartbeats 1000000
/-! Plain: the law's rows and the town; streets shut. -/
namespace ST
open PySem PySem.Spec PyProof.Rows L2 SgO
section
variable {K : PySem.W.Frag}
/-- rows that stand well -/
structure RsW (rs : List Rw) : Prop where
  nd : (rs.map (·.nm)).Nodup
  len : rs.length ≤ 14
  nms : ∀ r ∈ rs, Nm r.nm ∧ Nm r.a ∧ Nm r.b ∧ r.a ≠ r.b
theorem RsOk.w {ss : List Str} {rs : List Rw} (h : RsOk ss rs) : RsW rs := ⟨h.nd, h.len, fun r hr => ⟨h.nms r hr, h.sn _ (h.ends r hr).1, h.sn _ (h.ends r hr).2.1, (h.ends r hr).2.2⟩⟩
theorem RsW.filter {rs : List Rw} (h : RsW rs) (p : Rw → Bool) : RsW (rs.filter p) := ⟨(List.filter_sublist.map _).nodup h.nd, Nat.le_trans (List.length_filter_le _ _) h.len, fun r hr => h.nms r (List.mem_filter.mp hr).1⟩
theorem rw_mem {rs : List Rw} (h : RsW rs) {r s : Rw} (hr : r ∈ rs) (hs : s ∈ rs) (e : r.nm = s.nm) : r = s := nd_mem (f := fun r : Rw => r.nm) h.nd hr hs e
theorem sgR_in {rs : List Rw} {p : Sgn} : p ∈ sgR rs ↔ ∃ r ∈ rs, r.k = .road ∧ p = (r.nm, r.a, r.b) := by
  unfold sgR
  rw [List.mem_map]
  constructor
  · rintro ⟨r, hr, rfl⟩
    obtain ⟨h1, h2⟩ := List.mem_filter.mp hr
    exact ⟨r, h1, of_decide_eq_true h2, rfl⟩
  · rintro ⟨r, hr, hk, rfl⟩
    exact ⟨r, List.mem_filter.mpr ⟨hr, decide_eq_true hk⟩, rfl⟩
theorem sgR_ok {rs : List Rw} (h : RsW rs) : SOk (sgR rs) := by
  refine ⟨?_, ?_, fun p hp => ?_⟩
  · rw [sgR, List.map_map]
    exact (List.filter_sublist.map _).nodup h.nd
  · rw [sgR, List.length_map]
    exact Nat.le_trans (List.length_filter_le _ _) h.len
  · obtain ⟨r, hr, _, rfl⟩ := sgR_in.mp hp
    exact h.nms r hr
theorem SOk.perm {ps qs : List Sgn} (h : SOk qs) (p : ps.Perm qs) : SOk ps := ⟨(p.map _).symm.nodup h.1, by rw [p.length_eq]; exact h.2.1, fun r hr => h.2.2 r (p.mem_iff.mp hr)⟩
theorem laid_in {rs : List Rw} {bs : List (Stv × Addr)} (la : Laid bs rs) {b : Stv × Addr} (h : b ∈ bs) : ∃ r ∈ rs, stR r = b.1 := by
  obtain ⟨r, hr, e⟩ := List.mem_map.mp (la.mem_iff.mp (List.mem_map.mpr ⟨b, h, rfl⟩))
  exact ⟨r, hr, e⟩
theorem laid_of {rs : List Rw} {bs : List (Stv × Addr)} (la : Laid bs rs) {r : Rw} (h : r ∈ rs) : ∃ b ∈ bs, b.1 = stR r := by
  obtain ⟨b, hb, e⟩ := List.mem_map.mp (la.mem_iff.mpr (List.mem_map.mpr ⟨r, h, rfl⟩))
  exact ⟨b, hb, e⟩
theorem stR_k (r : Rw) : (stR r).k = r.k := by
  unfold stR stOf
  cases r.k <;> rfl
theorem stR_road {r : Rw} (h : r.k = .road) : (stR r).x = (ord2 r.a r.b).1 ∧ (stR r).y = (ord2 r.a r.b).2 := by
  unfold stR stOf
  rw [h]
  exact ⟨rfl, rfl⟩
theorem laid_fits {rs : List Rw} {bs : List (Stv × Addr)} {ps : List Sgn} (W : RsW rs) (la : Laid bs rs) (asc : Asc (bs.map fun b => b.1.nm)) (pp : ps.Perm (sgR rs)) (asp : Asc (ps.map (·.1))) : Fits ps bs := by
  refine ⟨asc_ext asp (List.Pairwise.sublist (List.filter_sublist.map _) asc) fun z => ?_, fun p hp => ?_⟩
  · constructor
    · intro h
      obtain ⟨p, hp, rfl⟩ := List.mem_map.mp h
      obtain ⟨r, hr, hk, rfl⟩ := sgR_in.mp (pp.mem_iff.mp hp)
      obtain ⟨b, hb, eb⟩ := laid_of la hr
      refine List.mem_map.mpr ⟨b, List.mem_filter.mpr ⟨hb, decide_eq_true ?_⟩, ?_⟩
      · rw [eb, stR_k, hk]
      · rw [eb, stR_nm]
    · intro h
      obtain ⟨b, hb, rfl⟩ := List.mem_map.mp h
      obtain ⟨hb1, hb2⟩ := List.mem_filter.mp hb
      have hb2 := of_decide_eq_true hb2
      obtain ⟨r, hr, er⟩ := laid_in la hb1
      rw [← er, stR_k] at hb2
      rw [← er, stR_nm]
      exact List.mem_map.mpr ⟨_, pp.mem_iff.mpr (sgR_in.mpr ⟨r, hr, hb2, rfl⟩), rfl⟩
  · obtain ⟨r, hr, hk, rfl⟩ := sgR_in.mp (pp.mem_iff.mp hp)
    obtain ⟨b, hb, eb⟩ := laid_of la hr
    refine ⟨b, hb, by rw [eb, stR_nm], ?_⟩
    obtain ⟨e1, e2⟩ := stR_road hk
    rw [eb, e1, e2]
    exact ord2_idem (W.nms r hr).2.2.2
theorem laid_cor {rs : List Rw} {bs : List (Stv × Addr)} {cs : List Str} (la : Laid bs rs) (cr : CsR rs cs) (c7 : cs.length ≤ 7) : IsCor bs cs := by
  refine ⟨cr.1, c7, fun c => (cr.2 c).trans ⟨?_, ?_⟩⟩
  · rintro ⟨r, hr, h⟩
    obtain ⟨b, hb, eb⟩ := laid_of la hr
    exact ⟨b, hb, by rw [eb]; exact (stR_ends r).mpr h⟩
  · rintro ⟨b, hb, h⟩
    obtain ⟨r, hr, er⟩ := laid_in la hb
    exact ⟨r, hr, (stR_ends r).mp (by rw [er]; exact h)⟩
theorem laid_site {H : Hp} {t a : Addr} {rs : List Rw} {bs : List (Stv × Addr)} {ps : List Sgn} {cs : List Str} (W : RsW rs) (la : Laid bs rs) (asc : Asc (bs.map fun b => b.1.nm)) (pp : ps.Perm (sgR rs)) (asp : Asc (ps.map (·.1))) (cr : CsR rs cs) (c7 : cs.length ≤ 7)
    (ta : TAt K H t bs) (sa : SgAt K H a ps) : Site K H t a ps bs cs :=
  ⟨ta, sa, (sgR_ok W).perm pp, laid_tok (ss := cs) la W.nd W.len (fun r hr => ⟨(cr.2 _).mpr ⟨r, hr, .inl rfl⟩, (cr.2 _).mpr ⟨r, hr, .inr rfl⟩⟩) c7, laid_fits W la asc pp asp, laid_cor la cr c7⟩
theorem arc_tr {rs : List Rw} {ps : List Sgn} (W : RsW rs) (pp : ps.Perm (sgR rs)) {r : Rw} (hr : r ∈ rs) : (arcOf ps (stR r)).Perm (trR r) := by
  obtain ⟨k, nm, a, b, i, j⟩ := r
  cases k
  · exact .refl _
  · have ne : a ≠ b := (W.nms _ hr).2.2.2
    show [(nm, (ord2 a b).1, (ord2 a b).2), (nm, (ord2 a b).2, (ord2 a b).1)].Perm [(nm, a, b), (nm, b, a)]
    rcases ord2_or a b with ⟨e, _⟩ | ⟨e, _⟩
    · rw [e]
    · rw [e]
      exact .swap _ _ _
  · have hp : (nm, a, b) ∈ ps := pp.mem_iff.mpr (sgR_in.mpr ⟨_, hr, rfl, rfl⟩)
    have hn : (ps.map (·.1)).Nodup := ((sgR_ok W).perm pp).1
    have e := sgOf_in hn hp
    show [(nm, (sgOf ps nm).1, (sgOf ps nm).2)].Perm [(nm, a, b)]
    have e : sgOf ps nm = (a, b) := e
    rw [e]
theorem flat_perm {α β : Type} {f g : α → List β} : ∀ {l : List α}, (∀ a ∈ l, (f a).Perm (g a)) → (l.flatMap f).Perm (l.flatMap g)
  | [], _ => .refl _
  | a :: r, h => by
    rw [List.flatMap_cons, List.flatMap_cons]
    exact (h a List.mem_cons_self).append (flat_perm fun b hb => h b (List.mem_cons_of_mem _ hb))
theorem flat_perm2 {α β : Type} {f : α → List β} {l m : List α} (h : l.Perm m) : (l.flatMap f).Perm (m.flatMap f) := by
  induction h with
  | nil => exact .refl _
  | cons x _ ih =>
    rw [List.flatMap_cons, List.flatMap_cons]
    exact List.Perm.append_left _ ih
  | swap x y l =>
    rw [List.flatMap_cons, List.flatMap_cons, List.flatMap_cons, List.flatMap_cons, ← List.append_assoc, ← List.append_assoc]
    exact List.Perm.append_right _ List.perm_append_comm
  | trans _ _ h1 h2 => exact h1.trans h2
theorem arcs_tr {rs : List Rw} {bs : List (Stv × Addr)} {ps : List Sgn} (W : RsW rs) (la : Laid bs rs) (pp : ps.Perm (sgR rs)) : (arcsOf ps bs).Perm (trsR rs) := by
  have e : arcsOf ps bs = (bs.map (·.1)).flatMap (arcOf ps) := by
    unfold arcsOf
    rw [List.flatMap_map]
  rw [e]
  refine (flat_perm2 la).trans ?_
  rw [List.flatMap_map]
  exact flat_perm fun r hr => arc_tr W pp hr
theorem enterN_perm {rows rows' : List Sgn} (h : rows.Perm rows') (ap : List Str) : enterN rows ap = enterN rows' ap := (h.filter _).length_eq
theorem Least.perm {rows rows' : List Sgn} {cs : List Str} {n : Nat} (h : Least rows cs n) (p : rows.Perm rows') : Least rows' cs n :=
  let ⟨⟨ap, h1, h2⟩, h3⟩ := h; ⟨⟨ap, h1, by rw [← enterN_perm p]; exact h2⟩, fun ap' h' => by rw [← enterN_perm p]; exact h3 ap' h'⟩
theorem Least.one {rows : List Sgn} {cs : List Str} {n m : Nat} (h : Least rows cs n) (h' : Least rows cs m) : n = m := by
  obtain ⟨⟨ap, h1, h2⟩, h3⟩ := h
  obtain ⟨⟨ap', h1', h2'⟩, h3'⟩ := h'
  have := h3 ap' h1'
  have := h3' ap h1
  omega
theorem RowsOk.perm {rows rows' : List Sgn} (h : RowsOk rows) (p : rows.Perm rows') : RowsOk rows' :=
  ⟨fun r hr => h.ne r (p.mem_iff.mpr hr), fun r hr s hs => h.two r (p.mem_iff.mpr hr) s (p.mem_iff.mpr hs), p.nodup h.nd⟩
/-! ### streets shut -/
abbrev offN (cl : List Str) (r : Sgn) : Bool := !decide (r.1 ∈ cl)
abbrev offR (cl : List Str) (r : Rw) : Bool := !decide (r.nm ∈ cl)
theorem tr_nm {r : Rw} {g : Sgn} (h : g ∈ trR r) : g.1 = r.nm := by
  unfold trR at h
  split at h
  · rcases List.mem_cons.mp h with e | e
    · rw [e]
    · rw [List.mem_singleton.mp e]
  · rw [List.mem_singleton.mp h]
theorem trs_off (cl : List Str) : ∀ rs : List Rw, trsR (rs.filter (offR cl)) = (trsR rs).filter (offN cl)
  | [] => rfl
  | r :: q => by
    have ih := trs_off cl q
    unfold trsR at ih ⊢
    rw [List.flatMap_cons, List.filter_append, ← ih, List.filter_cons]
    by_cases e : r.nm ∈ cl
    · rw [show offR cl r = false by simp [offR, e]]
      have : (trR r).filter (offN cl) = [] := List.filter_eq_nil_iff.mpr fun g hg => by simp [offN, tr_nm hg, e]
      rw [this]
      rfl
    · rw [show offR cl r = true by simp [offR, e]]
      have : (trR r).filter (offN cl) = trR r := List.filter_eq_self.mpr fun g hg => by simp [offN, tr_nm hg, e]
      rw [this, if_pos rfl, List.flatMap_cons]
theorem sgs_off (cl : List Str) (rs : List Rw) : sgR (rs.filter (offR cl)) = (sgR rs).filter (offN cl) := by
  unfold sgR
  rw [List.filter_map, List.filter_filter, List.filter_filter]
  congr 1
  refine List.filter_congr fun r _ => ?_
  exact Bool.and_comm _ _
theorem nd_map {α β : Type} {f : α → β} : ∀ {l : List α}, l.Nodup → (∀ a ∈ l, ∀ b ∈ l, f a = f b → a = b) → (l.map f).Nodup
  | [], _, _ => List.nodup_nil
  | a :: r, h, inj => by
    obtain ⟨h1, h2⟩ := List.nodup_cons.mp h
    rw [List.map_cons]
    refine List.nodup_cons.mpr ⟨fun m => ?_, nd_map h2 fun b hb c hc => inj b (List.mem_cons_of_mem _ hb) c (List.mem_cons_of_mem _ hc)⟩
    obtain ⟨b, hb, e⟩ := List.mem_map.mp m
    have := inj b (List.mem_cons_of_mem _ hb) a List.mem_cons_self e
    exact h1 (this ▸ hb)
theorem into_nd {rows : List Sgn} (ok : RowsOk rows) (ap : List Str) : ((rows.filter (into ap)).map (·.1)).Nodup := by
  refine nd_map (ok.nd.filter _) fun r hr s hs e => ?_
  obtain ⟨r1, r2⟩ := List.mem_filter.mp hr
  obtain ⟨s1, s2⟩ := List.mem_filter.mp hs
  rcases ok.two r r1 s s1 e with z | ⟨z1, _⟩
  · exact z.symm
  · obtain ⟨_, a2⟩ := ands (show (!decide (r.2.1 ∈ ap) && decide (r.2.2 ∈ ap)) = true from r2)
    obtain ⟨b1, _⟩ := ands (show (!decide (s.2.1 ∈ ap) && decide (s.2.2 ∈ ap)) = true from s2)
    rw [z1, a2] at b1
    cases b1
theorem enter_off {rows : List Sgn} (ok : RowsOk rows) (ap cl : List Str) : enterN rows ap ≤ enterN (rows.filter (offN cl)) ap + cl.length := by
  unfold enterN
  rw [filt_and (p := into ap) (q := fun r : Sgn => decide (r.1 ∈ cl)), List.filter_filter]
  have h1 : (rows.filter fun a => into ap a && decide (a.1 ∈ cl)).length ≤ cl.length := by
    rw [← List.length_map (f := fun r : Sgn => r.1)]
    refine nodup_le ?_ fun x hx => ?_
    · have : (rows.filter fun a => into ap a && decide (a.1 ∈ cl)) = (rows.filter (into ap)).filter fun a => decide (a.1 ∈ cl) := by
        rw [List.filter_filter]
        refine List.filter_congr fun a _ => Bool.and_comm _ _
      rw [this]
      exact (List.filter_sublist.map _).nodup (into_nd ok ap)
    · obtain ⟨r, hr, rfl⟩ := List.mem_map.mp hx
      exact of_decide_eq_true (ands (List.mem_filter.mp hr).2).2
  have h2 : (rows.filter fun a => into ap a && !decide (a.1 ∈ cl)) = rows.filter fun a => into ap a && offN cl a := rfl
  rw [h2]
  omega
theorem enter_less {rows : List Sgn} (ap cl : List Str) : enterN (rows.filter (offN cl)) ap ≤ enterN rows ap := by
  unfold enterN
  exact (List.filter_sublist.filter _).length_le
theorem enter_nms {rows : List Sgn} (ok : RowsOk rows) (ap ns : List Str) (h : ∀ r ∈ rows, r.1 ∈ ns) : enterN rows ap ≤ ns.length := by
  unfold enterN
  rw [← List.length_map (f := fun r : Sgn => r.1)]
  refine nodup_le (into_nd ok ap) fun x hx => ?_
  obtain ⟨r, hr, rfl⟩ := List.mem_map.mp hx
  exact h r (List.mem_filter.mp hr).1
/-- a walk of the bundle leads along no closed street -/
theorem bun_open {rows : List Sgn} {a b : Str} {ws : List (List Str)} {cl : List Str} (h : Bun rows a b ws) (hl : cl.length < ws.length) : ∃ w ∈ ws, open_ cl w = true := by
  refine Classical.byContradiction fun no => ?_
  have cnt : ∀ {vs : List (List Str)}, (∀ v ∈ vs, open_ cl v = false) → vs.length ≤ (vs.flatten.filter fun n => decide (n ∈ cl)).length := by
    intro vs
    induction vs with
    | nil => exact fun _ => Nat.le_refl _
    | cons v r ih =>
      intro hv
      have := ih fun u hu => hv u (List.mem_cons_of_mem _ hu)
      have e := hv v List.mem_cons_self
      rw [← open_nil] at e
      have ne := of_decide_eq_false e
      have := List.length_pos_iff.mpr ne
      rw [List.flatten_cons, List.filter_append, List.length_append, List.length_cons]
      omega
  have h1 := cnt (vs := ws) fun v hv => by
    cases e : open_ cl v with
    | false => rfl
    | true => exact absurd ⟨v, hv, e⟩ no
  have h2 : (ws.flatten.filter fun n => decide (n ∈ cl)).length ≤ cl.length := nodup_le (h.nd.filter _) fun x hx => of_decide_eq_true (List.mem_filter.mp hx).2
  omega
theorem flat_nd {α : Type} : ∀ {ws : List (List α)} {w : List α}, ws.flatten.Nodup → w ∈ ws → w.Nodup
  | v :: r, w, h, hw => by
    rw [List.flatten_cons] at h
    obtain ⟨h1, h2, _⟩ := List.nodup_append.mp h
    rcases List.mem_cons.mp hw with rfl | m
    · exact h1
    · exact flat_nd h2 m
theorem Wlk.nms {rows : List Sgn} {a b : Str} {ns : List Str} (h : Wlk rows a ns b) : ∀ n ∈ ns, n ∈ rows.map (·.1) := by
  induction h with
  | nil => exact fun _ z => nomatch z
  | cons h1 _ ih =>
    intro n hn
    rcases List.mem_cons.mp hn with rfl | m
    · exact List.mem_map.mpr ⟨_, h1, rfl⟩
    · exact ih n m
theorem Wlk.off {rows rows' : List Sgn} {a b : Str} {ns cl : List Str} (h : Wlk rows a ns b) (ho : open_ cl ns = true) (hs : ∀ g, g ∈ rows → offN cl g = true → g ∈ rows') : Wlk rows' a ns b :=
  h.mono fun n hn x y hg => hs _ hg (List.all_eq_true.mp ho n hn)
/-- each corner has an end left -/
theorem cs_off {rs : List Rw} {cs cl : List Str} (cr : CsR rs cs) (h2 : 2 ≤ cs.length) (ok : RowsOk (trsR rs)) (hl : ∀ ap, IsWard cs ap → cl.length < enterN (trsR rs) ap) : CsR (rs.filter (offR cl)) cs := by
  refine ⟨cr.1, fun c => ⟨fun hc => ?_, fun ⟨r, hr, h⟩ => (cr.2 c).mpr ⟨r, (List.mem_filter.mp hr).1, h⟩⟩⟩
  have hw : IsWard cs [c] := ⟨List.singleton_sublist.mpr hc, by simp, fun e => by rw [← e] at h2; simp at h2⟩
  have q := hl _ hw
  have q2 := enter_off ok [c] cl
  have pos : 0 < enterN ((trsR rs).filter (offN cl)) [c] := by omega
  unfold enterN at pos
  obtain ⟨g, hg⟩ := List.exists_mem_of_length_pos pos
  obtain ⟨hg1, hg2⟩ := List.mem_filter.mp hg
  rw [← trs_off] at hg1
  obtain ⟨r, hr, hgr⟩ := List.mem_flatMap.mp hg1
  refine ⟨r, hr, ?_⟩
  have hc2 := of_decide_eq_true (ands (show (!decide (g.2.1 ∈ [c]) && decide (g.2.2 ∈ [c])) = true from hg2)).2
  rw [List.mem_singleton] at hc2
  unfold trR at hgr
  split at hgr
  · rcases List.mem_cons.mp hgr with e | e
    · rw [e] at hc2
      exact .inr hc2.symm
    · rw [List.mem_singleton.mp e] at hc2
      exact .inl hc2.symm
  · rw [List.mem_singleton.mp hgr] at hc2
    exact .inr hc2.symm
/-- every ward is come into -/
theorem round_pos {ss : List Str} {rs : List Rw} {cs : List Str} (ok : RsOk ss rs) (cr : CsR rs cs) {ap : List Str} (hw : IsWard cs ap) : 1 ≤ enterN (trsR rs) ap := by
  obtain ⟨h1, h2, h3⟩ := hw
  have sub : ∀ c ∈ cs, c ∈ ss := fun c hc => by
    obtain ⟨r, hr, e | e⟩ := (cr.2 c).mp hc
    · rw [e]; exact (ok.ends r hr).1
    · rw [e]; exact (ok.ends r hr).2.1
  obtain ⟨x, hx⟩ := List.exists_mem_of_ne_nil ap h2
  have hy : ∃ y ∈ cs, y ∉ ap := Classical.byContradiction fun no => by
    have := nodup_le cr.1.nodup (ys := ap) fun z hz => Classical.byContradiction fun q => no ⟨z, hz, q⟩
    exact h3 (h1.eq_of_length (Nat.le_antisymm h1.length_le this))
  obtain ⟨y, hy, hya⟩ := hy
  obtain ⟨pr, hpr, p1, p2⟩ := ok.rd ap ⟨x, sub x (h1.subset hx), hx⟩ ⟨y, sub y hy, hya⟩
  obtain ⟨r, hr, rfl⟩ := List.mem_map.mp hpr
  have hg : (r.nm, r.a, r.b) ∈ trsR rs := by
    refine List.mem_flatMap.mpr ⟨r, hr, ?_⟩
    unfold trR
    split
    · exact List.mem_cons_self
    · exact List.mem_singleton.mpr rfl
  unfold enterN
  refine List.length_pos_of_mem (a := (r.nm, r.a, r.b)) (List.mem_filter.mpr ⟨hg, ?_⟩)
  show (!decide (r.a ∈ ap) && decide (r.b ∈ ap)) = true
  rw [decide_eq_true p2, decide_eq_false p1]
  rfl
theorem cs_two {ss : List Str} {rs : List Rw} {cs : List Str} (ok : RsOk ss rs) (cr : CsR rs cs) : 2 ≤ cs.length ∧ cs.length ≤ 5 := by
  constructor
  · match ss, ok.s2, ok with
    | x :: y :: q, _, ok =>
      have hn := ok.snd
      obtain ⟨n1, _⟩ := List.nodup_cons.mp hn
      obtain ⟨pr, hpr, _⟩ := ok.rd [x] ⟨x, List.mem_cons_self, List.mem_singleton.mpr rfl⟩ ⟨y, by simp, fun e => n1 (by rw [List.mem_singleton.mp e]; exact List.mem_cons_self)⟩
      obtain ⟨r, hr, _⟩ := List.mem_map.mp hpr
      have ha := (cr.2 r.a).mpr ⟨r, hr, .inl rfl⟩
      have hb := (cr.2 r.b).mpr ⟨r, hr, .inr rfl⟩
      have hne := (ok.ends r hr).2.2
      have : [r.a, r.b].length ≤ cs.length := nodup_le (by simpa using hne) fun z hz => by
        rcases List.mem_cons.mp hz with rfl | m
        · exact ha
        · rw [List.mem_singleton.mp m]
          exact hb
      exact this
  · refine Nat.le_trans (nodup_le cr.1.nodup (ys := ss) fun c hc => ?_) ok.s5
    obtain ⟨r, hr, e | e⟩ := (cr.2 c).mp hc
    · rw [e]; exact (ok.ends r hr).1
    · rw [e]; exact (ok.ends r hr).2.1
end
end ST
end
section
set_option Elab.async false
set_option linter.all false
set_option maxRecDepth 100000
set_option maxHeartbeats 1000000
/-! What stands while some lists change. -/
namespace ST
open PySem PySem.Spec PyProof.Rows L2 SgO
section
variable {K : PySem.W.Frag}
/-- all stands but the lists of L -/
def Off (L : List Addr) (H H' : Hp) : Prop := (∀ b o, H b = some o → (∀ l, o ≠ .lst l) → H' b = some o) ∧ ∀ b l, b ∉ L → H b = some (.lst l) → H' b = some (.lst l)
section
variable {L : List Addr} {H H1 H' : Hp} {p cl a : Addr} {k : Nat}
theorem Off.refl : Off L H H := ⟨fun _ _ e _ => e, fun _ _ _ e => e⟩
theorem Off.trans (a : Off L H H1) (b : Off L H1 H') : Off L H H' := ⟨fun x o e n => b.1 x o (a.1 x o e n) n, fun x l n e => b.2 x l n (a.2 x l n e)⟩
theorem Off.of_same (s : Same H H') : Off L H H' := ⟨fun b _ e _ => s b _ e, fun b _ _ e => s b _ e⟩
theorem Off.of_but (hp : PenAt H p cl k) (hm : p ∈ L) (b : But p H H') : Off L H H' := ⟨fun _ _ e n => keepP hp b e n, fun x l n e => b x _ (fun z : x = p => n (by rw [z]; exact hm)) e⟩
theorem Off.of_upd {q : Addr} {l : List V} {o : HO} (h : H q = some (.lst l)) (hm : q ∈ L) : Off L H (upd H q o) :=
  ⟨fun b u e n => (upd_ne (fun z => by rw [z, h] at e; exact n _ (Option.some.inj e).symm)).trans e, fun b u n e => (upd_ne (fun z : b = q => n (by rw [z]; exact hm))).trans e⟩
theorem Off.tup {b : Addr} {xs : List V} (o : Off L H H') (e : H b = some (.tup xs)) : H' b = some (.tup xs) := o.1 _ _ e (fun _ z => nomatch z)
theorem Off.ins {b C dx : Addr} {fs : List (Str × V)} (o : Off L H H') (e : H b = some (.ins C dx fs)) : H' b = some (.ins C dx fs) := o.1 _ _ e (fun _ z => nomatch z)
theorem Off.dk {b : Addr} {kvs : List (Key × V)} (o : Off L H H') (e : H b = some (.dK kvs)) : H' b = some (.dK kvs) := o.1 _ _ e (fun _ z => nomatch z)
theorem SAt.off {s : Stv} (h : SAt K H a s) (o : Off L H H') : SAt K H' a s := let ⟨ok, dx, e, q1, q2, h1, h2⟩ := h; ⟨ok, dx, e, q1, q2, o.tup h1, o.ins h2⟩
theorem TAt.off {ss : List (Stv × Addr)} (h : TAt K H a ss) (o : Off L H H') : TAt K H' a ss :=
  let ⟨dx, d, tp, dc, cs, h1, h2, h3, h4, h5, h6⟩ := h; ⟨dx, d, tp, dc, cs, o.ins h1, o.dk h2, o.tup h3, fun c hc => (h4 c hc).off o, o.dk h5, h6⟩
theorem SgAt.off {ps : List Sgn} (h : SgAt K H a ps) (o : Off L H H') : SgAt K H' a ps := let ⟨dx, d, tp, bs, h1, h2, h3, h4, h5⟩ := h; ⟨dx, d, tp, bs, o.ins h1, h2, o.dk h3, fun c hc => o.tup (h4 c hc), o.tup h5⟩
theorem Site.off {t : Addr} {ps : List Sgn} {ss : List (Stv × Addr)} {cs : List Str} (h : Site K H t a ps ss cs) (o : Off L H H') : Site K H' t a ps ss cs := ⟨h.t.off o, h.a.off o, h.sok, h.tok, h.fits, h.cor⟩
theorem WalksAt.off {ws : List (List Str × Addr)} (h : WalksAt H a ws) (o : Off L H H') : WalksAt H' a ws := ⟨o.tup h.1, fun b hb => o.tup (h.2 b hb)⟩
theorem BAt.off {B : List Bnd} (h : BAt H a B) (o : Off L H H') : BAt H' a B := ⟨o.dk h.1, fun e he => (h.2 e he).off o⟩
theorem WaysAt.off {rows : List Sgn} {root : Str} {others : List Str} {n : Nat} (h : WaysAt K H a rows root others n) (o : Off L H H') : WaysAt K H' a rows root others n :=
  let ⟨dx, d1, d2, Lo, Lb, h1, h2, h3, h4⟩ := h; ⟨dx, d1, d2, Lo, Lb, o.ins h1, h2.off o, h3.off o, h4⟩
theorem SoundAt.off {rows : List Sgn} {root : Str} {others : List Str} {n : Nat} (h : SoundAt K H a rows root others n) (o : Off L H H') : SoundAt K H' a rows root others n := let ⟨dx, wy, h1, h2⟩ := h; ⟨dx, wy, o.ins h1, h2.off o⟩
theorem RowsAt.off {as : List (Sgn × Addr)} (h : RowsAt H a as) (n : a ∉ L) (o : Off L H H') : RowsAt H' a as := ⟨o.2 _ _ n h.1, fun b hb => o.tup (h.2 b hb)⟩
theorem LAt.off {rs : List (Rw × Addr)} (h : LAt H a rs) (n : a ∉ L) (o : Off L H H') : LAt H' a rs := ⟨o.2 _ _ n h.1, fun b hb => o.tup (h.2 b hb)⟩
end
/-! ### lists of walks as data -/
theorem cl_wks : ∀ ws : List (List Str), (∀ b ∈ ws, ∀ n ∈ b, Nm n) → PyData.canLayAll0 (ws.map fun b => PyData.tuple (b.map PyData.str)) = true
  | [], _ => by simp [PyData.canLayAll0]
  | b :: r, h => by simp [PyData.canLayAll0, PyData.canLay0, cl_txts b (h b List.mem_cons_self), cl_wks r fun c hc => h c (List.mem_cons_of_mem _ hc)]
theorem dp_wks : ∀ ws : List (List Str), PyData.depthAll (ws.map fun b => PyData.tuple (b.map PyData.str)) ≤ 2
  | [] => by simp [PyData.depthAll]
  | b :: r => by
    have h1 := dp_txts b
    have h2 := dp_wks r
    simp only [List.map_cons, PyData.depthAll, PyData.depth]
    omega
theorem sh_wks (ws : List (List Str)) (h : ∀ b ∈ ws, ∀ n ∈ b, Nm n) : SeqAt.shaped (.list (ws.map fun b => PyData.tuple (b.map PyData.str))) = true := by
  have q := dp_wks ws
  simp only [SeqAt.shaped, PyData.canLay0, cl_wks ws h, Bool.true_and, decide_eq_true_eq]
  simp only [PyData.depth]
  omega
theorem eqv_wks0 (ds : List PyData) : PyData.eqv (.list ds) (.list []) = decide (ds = []) := by
  rw [PyData.eqv]
  cases ds <;> simp [PyData.eqvAll]
theorem dpa_wks {H : Hp} : ∀ ws : List (List Str × Addr), (∀ b ∈ ws, txts H b.2 b.1) → DpAll K H (ws.map fun b => .ref b.2) ((ws.map (·.1)).map fun b => PyData.tuple (b.map PyData.str))
  | [], _ => .nil
  | b :: r, h => .cons (dp_tt (h b List.mem_cons_self)) (dpa_wks r fun c hc => h c (List.mem_cons_of_mem _ hc))
/-! ### streets shut one by one -/
theorem laid_off {bs bs2 : List (Stv × Addr)} {rs : List Rw} {z : Str} (la : Laid bs rs) (pm : bs2.Perm (bs.filter fun b => !decide (b.1.nm = z))) : Laid bs2 (rs.filter fun r => !decide (r.nm = z)) := by
  unfold Laid
  refine (pm.map (fun b : Stv × Addr => b.1)).trans ?_
  have e1 : (bs.filter fun b => !decide (b.1.nm = z)).map (·.1) = (bs.map (·.1)).filter fun s => !decide (s.nm = z) := by rw [List.filter_map]; rfl
  have e2 : (rs.filter fun r => !decide (r.nm = z)).map stR = (rs.map stR).filter fun s => !decide (s.nm = z) := by
    rw [List.filter_map]
    congr 1
    refine List.filter_congr fun r _ => ?_
    show _ = !decide ((stR r).nm = z)
    rw [stR_nm]
  rw [e1, e2]
  exact List.Perm.filter _ la
theorem sgs_one (rs : List Rw) (z : Str) : sgR (rs.filter fun r => !decide (r.nm = z)) = (sgR rs).filter fun p => !decide (p.1 = z) := by
  unfold sgR
  rw [List.filter_map, List.filter_filter, List.filter_filter]
  congr 1
  refine List.filter_congr fun r _ => ?_
  exact Bool.and_comm _ _
theorem off_one {rs : List Rw} {c : List Str} {j : Nat} {z : Str} (h : c[j]? = some z) : rs.filter (offR (c.take (j + 1))) = (rs.filter (offR (c.take j))).filter fun r => !decide (r.nm = z) := by
  rw [List.filter_filter, List.take_add_one, h]
  refine List.filter_congr fun r _ => ?_
  show (!decide (r.nm ∈ c.take j ++ [z])) = (!decide (r.nm = z) && !decide (r.nm ∈ c.take j))
  by_cases h1 : r.nm = z <;> by_cases h2 : r.nm ∈ c.take j <;> simp [h1, h2]
theorem RowsOk.filter {rows : List Sgn} (h : RowsOk rows) (q : Sgn → Bool) : RowsOk (rows.filter q) :=
  ⟨fun r hr => h.ne r (List.mem_filter.mp hr).1, fun r hr s hs => h.two r (List.mem_filter.mp hr).1 s (List.mem_filter.mp hs).1, h.nd.filter _⟩
theorem cut_rest {x : V} {xs : List V} : cutV (x :: xs) (some 1) none = xs := by
  have e : HT.sIx (x :: xs).length 0 (some ((1 : Nat) : Int)) = 1 := by
    rw [HT.sIx_nat, List.length_cons]
    omega
  have e : HT.sIx (x :: xs).length 0 (some (1 : Int)) = 1 := e
  unfold cutV
  rw [e, HT.sIx_none]
  simp
/-- what is looked at of a bundle: the walks that are left -/
theorem bun_left {rows : List Sgn} {u v : Str} {ws : List (List Str × Addr)} {c : List Str} (h : Bun rows u v (ws.map (·.1))) (hl : c.length < ws.length) : (ws.filter fun b => open_ c b.1) ≠ [] := fun e => by
  obtain ⟨w, hw, ho⟩ := bun_open h (cl := c) (by rw [List.length_map]; exact hl)
  obtain ⟨b, hb, rfl⟩ := List.mem_map.mp hw
  exact List.filter_eq_nil_iff.mp e b hb ho
theorem bun_nm {rows : List Sgn} {u v : Str} {ws : List (List Str × Addr)} (h : Bun rows u v (ws.map (·.1))) (hr : ∀ g ∈ rows, Nm g.1) (hl : rows.length ≤ 28) : ∀ b ∈ ws, b.1.length ≤ 100 ∧ ∀ n ∈ b.1, Nm n := fun b hb => by
  have hw := h.wlk b.1 (List.mem_map.mpr ⟨b, hb, rfl⟩)
  have nd := flat_nd h.nd (List.mem_map.mpr ⟨b, hb, rfl⟩)
  refine ⟨?_, fun n hn => ?_⟩
  · have := nodup_le nd hw.nms
    rw [List.length_map] at this
    omega
  · obtain ⟨g, hg, rfl⟩ := List.mem_map.mp (hw.nms n hn)
    exact hr g hg
end
end ST
end
section
set_option Elab.async false
set_option linter.all false
set_option maxRecDepth 100000
set_option maxHeartbeats 1000000
/-! The law. -/
namespace ST
open PySem PySem.Spec PyProof.Rows L2 SgO
section
variable {w : World} {K : PySem.W.Frag} {mg : Str → Option Value} {base : Heap}
/-- the slots written out -/
theorem atS {P : L2.St → Hp → Prop} {σ σ' : L2.St} {H : Hp} (e : σ = σ') (h : P σ' H) : P σ H := e ▸ h
theorem atG {i : Nat} {v : V} {σ σ' : L2.St} {H : Hp} {Q : L2.St → Hp → Prop} (e : σ.set i (some v) = σ') (h : Q σ' H) : gName i v σ H Q := by
  subst e
  exact h
theorem nilA {Q : List V → Hp → Prop} {σ : L2.St} {H : Hp} (h : Q [] H) : tNil σ H Q := h
def sp_law (K : PySem.W.Frag) : Sp0 := fun vs H Q => ∃ (s : Addr) (cs : List Int), vs = [.ref s] ∧ SqL K H s (cs.map V.int) ∧ ∀ H', Same H H' → Q (.bl true) H'
abbrev n_law : List Str := ["_law_script", "_law_pen_here", "_law_lap", "_law_told_here", "_law_just", "_law_asked", "_law_k", "_law_title", "_law_spot", "_law_now", "_law_rows", "_law_rounds", "_law_place", "_law_made", "_law_triples_here", "_law_spots_here", "_law_found", "_law_closed", "_law_left_here", "_law_place_so", "_law_made_so", "_law_ahead", "_law_behind", "_law_row"]
theorem sc_law : FnScope n_law ["_law_script"] (defScope s_law) := ⟨rfl, rfl, rfl, by decide +kernel, rfl, by decide +kernel, by decide +kernel⟩
theorem body_law (T : Txt K mg) (cdv : Value) (A : Around) (outer : List Env) (s : Shared) (H : Hp) (vs : List V) (Q : VK) (hr : Room 18 (bx w K mg base n_law "law" s_law (a_law K) cdv A outer s H).A) (h : sp_law K vs H Q) : ∃ t, PSs (bx w K mg base n_law "law" s_law (a_law K) cdv A outer s H) (defBody s_law) t ∧ t { nx := fun _ H' => Q .non H', rt := Q } (L2.start n_law vs) H := by
  obtain ⟨sc, zs, rfl, hs, qq⟩ := h
  refine ⟨_, pss_cons (ps_set (i := 1) sc_law.nd rfl (by first | exact .inl rfl | exact .inr rfl) (pe_fn (fn__law_pen T) hr (by decide) (by rfl) (T.glo T.r_g__law_pen) (T.kp 26 rfl) (pa_cons (pv 0) pa_nil)))
  (pss_cons (ps_for PassesOwn.never rfl (pi_range1 (by rfl) (T.free T.r_f_range) (pa_cons pe_int pa_nil)) (pg_name (i := 2) sc_law.nd rfl (by first | exact .inl rfl | exact .inr rfl)) (pss_cons (ps_asg (pe_fn (fn__law_site T) hr (by decide) (by rfl) (T.glo T.r_g__law_site) (T.kp 32 rfl) (pa_cons (pv 1) (pa_cons (pe_lst (pa_cons pe_str (pa_cons pe_str (pa_cons pe_str (pa_cons pe_str pa_nil))))) (pa_cons pe_int pa_nil)))) (gtup_ K (n := 2) (pgs_cons (pg_name (i := 10) sc_law.nd rfl (by first | exact .inl rfl | exact .inr rfl)) (pgs_cons (pg_name (i := 11) sc_law.nd rfl (by first | exact .inl rfl | exact .inr rfl)) pgs_nil))))
  (pss_cons (ps_set (i := 3) sc_law.nd rfl (by first | exact .inl rfl | exact .inr rfl) (pe_fn (fn__law_told T) hr (by decide) (by rfl) (T.glo T.r_g__law_told) (T.kp 34 rfl) (pa_cons (pv 10) pa_nil)))
  (pss_cons (ps_par (i := 12) (j := 13) rfl sc_law.nd rfl rfl (by decide) rfl rfl (pa_cons (pe_fn (fn__law_town T) hr (by decide) (by rfl) (T.glo T.r_g__law_town) (T.kp 33 rfl) (pa_cons (pv 1) (pa_cons (pv 10) pa_nil))) (pa_cons (pe_mkP (T.mkr T.r_m_Signs) (fn_Signs_init T) (hr.mono (by decide)) (by rfl) (T.glo T.r_g_Signs) (pa_cons (pe_callTy call_dictD (by rfl) (T.free T.r_f_dict) bb_dict (pa_cons (pv 3) pa_nil)) pa_nil)) pa_nil)) rfl)
  (pss_cons (ps_par (i := 14) (j := 15) rfl sc_law.nd rfl rfl (by decide) rfl rfl (pa_cons (pe_fn (fn__law_triples T) hr (by decide) (by rfl) (T.glo T.r_g__law_triples) (T.kp 35 rfl) (pa_cons (pv 10) (pa_cons (pv 3) pa_nil))) (pa_cons (pe_fn (fn__law_spots T) hr (by decide) (by rfl) (T.glo T.r_g__law_spots) (T.kp 36 rfl) (pa_cons (pv 10) pa_nil)) pa_nil)) rfl)
  (pss_cons (ps_set (i := 4) sc_law.nd rfl (by first | exact .inl rfl | exact .inr rfl) (pe_fn (fn__law_weakest T) hr (by decide) (by rfl) (T.glo T.r_g__law_weakest) (T.kp 39 rfl) (pa_cons (pv 14) (pa_cons (pv 15) pa_nil))))
  (pss_cons (ps_set (i := 5) sc_law.nd rfl (by first | exact .inl rfl | exact .inr rfl) (pe_fn (fn__law_pick T) hr (by decide) (by rfl) (T.glo T.r_g__law_pick) (T.kp 28 rfl) (pa_cons (pv 1) (pa_cons (pe_lst (pa_cons (pv 4) (pa_cons (pv 4) (pa_cons (pe_op op_add pe_int (pe_fn (fn__law_draw T) hr (by decide) (by rfl) (T.glo T.r_g__law_draw) (T.kp 27 rfl) (pa_cons (pv 1) (pa_cons (pv 4) pa_nil)))) pa_nil)))) pa_nil))))
  (pss_cons (ps_asg (pe_tup (pa_cons (pe_fn (fn_judge T) hr (by decide) (by rfl) (T.glo T.r_g_judge) (T.kp 24 rfl) (pa_cons (pv 12) (pa_cons (pv 13) (pa_cons (pv 5) pa_nil)))) (pa_cons (pe_lst pa_nil) (pa_cons (pe_lc (own := [("_law_row", 23)]) rfl sc_law.nd (piL_ K (pv 10)) (blkOk_by (own := [("_law_row", 23)]) (N := n_law) (sc := defScope s_law) (by decide +kernel)) (fun _ _ _ _ _ => pg_name (i := 23) sc_law.nd rfl (by first | exact .inl rfl | exact .inr rfl)) (fun _ _ _ _ _ => pts_nil) (fun _ _ _ _ _ => pe_ix (ixT_ K) (pv 23) pe_int (fun _ _ => rfl))) pa_nil)))) (gtup_ K (n := 3) (pgs_cons (pg_name (i := 16) sc_law.nd rfl (by first | exact .inl rfl | exact .inr rfl)) (pgs_cons (pg_name (i := 17) sc_law.nd rfl (by first | exact .inl rfl | exact .inr rfl)) (pgs_cons (pg_name (i := 18) sc_law.nd rfl (by first | exact .inl rfl | exact .inr rfl)) pgs_nil)))))
  (pss_cons (ps_if (PW.pt (pw_or (pt_not (pt_truthR (pv 16) (tru_own (T.own_bool_Sound) (fn_Sound_bool T) (hr.mono (by decide))) (fun _ => rfl))) (pw_or1 (pt_cmpR op_ne (fld_ K (pe_fn (fn_strength T) hr (by decide) (by rfl) (T.glo T.r_g_strength) (T.kp 25 rfl) (pa_cons (pv 12) (pa_cons (pv 13) pa_nil)))) (pv 4) (by first | rfl | exact nomark _))))) (pss_one (ps_ret (pe_bl))) (pss_nil))
  (pss_cons (ps_for PassesOwn.never rfl (pi_range1 (by rfl) (T.free T.r_f_range) (pa_cons (pe_op op_sub (pe_op op_sub (pv 5) pe_int) (pe_fn (fn__law_pick T) hr (by decide) (by rfl) (T.glo T.r_g__law_pick) (T.kp 28 rfl) (pa_cons (pv 1) (pa_cons (pe_lst (pa_cons pe_int (pa_cons pe_int (pa_cons (pe_fn (fn__law_draw T) hr (by decide) (by rfl) (T.glo T.r_g__law_draw) (T.kp 27 rfl) (pa_cons (pv 1) (pa_cons (pv 5) pa_nil))) pa_nil)))) pa_nil)))) pa_nil)) (pg_name (i := 6) sc_law.nd rfl (by first | exact .inl rfl | exact .inr rfl)) (pss_one (ps_expr (bm_ K PySem.F.plainAttrs_list PySem.F.slot_list_append PySem.F.type_list_append mt_append (pv 17) (pa_cons (bm_ K PySem.F.plainAttrs_list PySem.F.slot_list_pop PySem.F.type_list_pop mt_popAt (pv 18) (pa_cons (pe_fn (fn__law_draw T) hr (by decide) (by rfl) (T.glo T.r_g__law_draw) (T.kp 27 rfl) (pa_cons (pv 1) (pa_cons (pe_callB (lenQ_ K) (by rfl) (T.free T.r_f_len) bb_len (pa_cons (pv 18) pa_nil)) pa_nil))) pa_nil)) pa_nil)))))
  (pss_cons (ps_par (i := 19) (j := 20) rfl sc_law.nd rfl rfl (by decide) rfl rfl (pa_cons (pv 12) (pa_cons (pv 13) pa_nil)) rfl)
  (pss_cons (ps_for PassesOwn.never rfl (piL_ K (pv 17)) (pg_name (i := 7) sc_law.nd rfl (by first | exact .inl rfl | exact .inr rfl)) (pss_cons (ps_set (i := 19) sc_law.nd rfl (by first | exact .inl rfl | exact .inr rfl) (pe_op (op_binS (op := .Sub) (T.bin_sub_Town) (T.r_no_str_sub) (fn_Town_sub T) (hr.mono (by decide))) (pv 19) (pv 7)))
  (pss_one (ps_set (i := 20) sc_law.nd rfl (by first | exact .inl rfl | exact .inr rfl) (pe_ifExp (pt_cmpR (op_inOwn (T.own_contains_Signs) (fn_Signs_contains T) (hr.mono (by decide))) (pv 7) (pv 20) (by first | rfl | exact nomark _)) (pe_op (op_binS (op := .Sub) (T.bin_sub_Signs) (T.r_no_str_sub) (fn_Signs_sub T) (hr.mono (by decide))) (pv 20) (pv 7)) (pv 20))))))
  (pss_cons (ps_for PassesOwn.never rfl (piL_ K (pe_slice (slL_ K) (pv 15) (po_some pe_int) po_none)) (pg_name (i := 8) sc_law.nd rfl (by first | exact .inl rfl | exact .inr rfl)) (pss_cons (ps_par (i := 21) (j := 22) rfl sc_law.nd rfl rfl (by decide) rfl rfl (pa_cons (pe_fn (fn__law_left T) hr (by decide) (by rfl) (T.glo T.r_g__law_left) (T.kp 41 rfl) (pa_cons (pe_dget (hu_of hr) (fld_ K (fld_ K (pv 16))) (pv 8) (fun _ _ => rfl)) (pa_cons (pv 17) pa_nil))) (pa_cons (pe_fn (fn__law_left T) hr (by decide) (by rfl) (T.glo T.r_g__law_left) (T.kp 41 rfl) (pa_cons (pe_dget (hu_of hr) (fld_ K (fld_ K (pv 16))) (pv 8) (fun _ _ => rfl)) (pa_cons (pv 17) pa_nil))) pa_nil)) rfl)
  (pss_cons (ps_if (PW.pt (pw_or (pt_cmpR (eqD_ K hr.units) (pv 21) (pe_lst pa_nil) (by first | rfl | exact nomark _)) (pw_or1 (pt_cmpR (eqD_ K hr.units) (pv 22) (pe_lst pa_nil) (by first | rfl | exact nomark _))))) (pss_one (ps_ret (pe_bl))) (pss_nil))
  (pss_cons (ps_if (pt_not (pt_val (pe_fn (fn_is_walk T) hr (by decide) (by rfl) (T.glo T.r_g_is_walk) (T.kp 22 rfl) (pa_cons (pv 19) (pa_cons (pv 20) (pa_cons (pe_ix (ixL_ K) (pv 15) pe_int (fun _ _ => rfl)) (pa_cons (pv 8) (pa_cons (pe_ix (ixL_ K) (pv 21) pe_int (fun _ _ => rfl)) pa_nil)))))))) (pss_one (ps_ret (pe_bl))) (pss_nil))
  (pss_cons (ps_if (pt_not (pt_val (pe_fn (fn_is_walk T) hr (by decide) (by rfl) (T.glo T.r_g_is_walk) (T.kp 22 rfl) (pa_cons (pv 19) (pa_cons (pv 20) (pa_cons (pv 8) (pa_cons (pe_ix (ixL_ K) (pv 15) pe_int (fun _ _ => rfl)) (pa_cons (pe_ix (ixL_ K) (pv 22) (pe_un un_neg pe_int) (fun _ _ => rfl)) pa_nil)))))))) (pss_one (ps_ret (pe_bl))) (pss_nil))
  (pss_one (ps_if (pt_cmpR op_ne (pe_fn (fn__law_ends T) hr (by decide) (by rfl) (T.glo T.r_g__law_ends) (T.kp 40 rfl) (pa_cons (pe_lc (own := [("_law_row", 23)]) rfl sc_law.nd (piL_ K (pv 14)) (blkOk_by (own := [("_law_row", 23)]) (N := n_law) (sc := defScope s_law) (by decide +kernel)) (fun _ _ _ _ _ => pg_name (i := 23) sc_law.nd rfl (by first | exact .inl rfl | exact .inr rfl)) (fun _ _ _ _ _ => pts_one (pt_cmpR (ninQ_ K) (pe_ix (ixT_ K) (pv 23) pe_int (fun _ _ => rfl)) (pv 17) (by first | rfl | exact nomark _))) (fun _ _ _ _ _ => pv 23)) (pa_cons (pe_ix (ixL_ K) (pv 21) pe_int (fun _ _ => rfl)) (pa_cons (pe_ix (ixL_ K) (pv 15) pe_int (fun _ _ => rfl)) pa_nil)))) (pv 8) (by first | rfl | exact nomark _)) (pss_one (ps_ret (pe_bl))) (pss_nil))))))))
  (pss_cons (ps_set (i := 9) sc_law.nd rfl (by first | exact .inl rfl | exact .inr rfl) (fld_ K (pe_fn (fn_strength T) hr (by decide) (by rfl) (T.glo T.r_g_strength) (T.kp 25 rfl) (pa_cons (pv 19) (pa_cons (pv 20) pa_nil)))))
  (pss_one (ps_if (PW.pt (pw_or (pt_cmpR op_lt (pv 9) (pe_op op_sub (pv 4) (pe_callB (lenQ_ K) (by rfl) (T.free T.r_f_len) bb_len (pa_cons (pv 17) pa_nil))) (by first | rfl | exact nomark _)) (pw_or (pt_cmpR op_gt (pv 9) (pv 4) (by first | rfl | exact nomark _)) (pw_or1 (pt_not (pt_truthR (pe_fn (fn_judge T) hr (by decide) (by rfl) (T.glo T.r_g_judge) (T.kp 24 rfl) (pa_cons (pv 19) (pa_cons (pv 20) (pa_cons (pe_callB (call_max2 rfl) (by rfl) (T.free T.r_f_max) bb_max (pa_cons pe_int (pa_cons (pe_op op_sub (pv 4) (pe_callB (lenQ_ K) (by rfl) (T.free T.r_f_len) bb_len (pa_cons (pv 17) pa_nil))) pa_nil))) pa_nil)))) (tru_own (T.own_bool_Sound) (fn_Sound_bool T) (hr.mono (by decide))) (fun _ => rfl))))))) (pss_one (ps_ret (pe_bl))) (pss_nil)))))))))))))))))
  (pss_one (ps_ret (pe_bl)))), ?_⟩
  refine ⟨_, rfl, sc, zs, rfl, hs, fun H1 p cl s1 hp0 hp => ?_⟩
  refine ⟨2, rfl, by decide, by decide, ?_⟩
  refine for_it (walk_range (lo := 0) (n := (2 : Int).toNat)) (fun i σ H2 => ∃ x2 x3 x4 x5 x6 x7 x8 x9 x10 x11 x12 x13 x14 x15 x16 x17 x18 x19 x20 x21 x22 x23, σ = [some (.ref sc), some (.ref p), x2, x3, x4, x5, x6, x7, x8, x9, x10, x11, x12, x13, x14, x15, x16, x17, x18, x19, x20, x21, x22, x23] ∧ But p H H2 ∧ PenAt H2 p cl (400 * i))
    ⟨_, _, _, _, _, _, _, _, _, _, _, _, _, _, _, _, _, _, _, _, _, _, rfl, ST.Same.but s1 p, hp⟩ (fun _ _ _ _ _ => trivial) (fun i x σ H2 H3 hi ⟨x2, x3, x4, x5, x6, x7, x8, x9, x10, x11, x12, x13, x14, x15, x16, x17, x18, x19, x20, x21, x22, x23, e, bb, hp⟩ y => ?_) fun σ H2 ⟨x2, x3, x4, x5, x6, x7, x8, x9, x10, x11, x12, x13, x14, x15, x16, x17, x18, x19, x20, x21, x22, x23, e, bb, hp⟩ => ?_
  rotate_left
  · subst e
    exact qq H2 (But.same bb hp0)
  subst e
  obtain ⟨rfl, rfl⟩ := y
  have hi2 : i < 2 := hi
  -- the site
  refine ⟨_, rfl, sz4, fun kl hkl => ?_⟩
  obtain ⟨nkp, nkc⟩ := hp.ne hkl
  have s3 := same_upd (o := .lst kinds4) hkl
  refine ⟨p, cl, kl, _, rfl, hp.same s3, by omega, upd_same, nkp, fun H4 tq l nr ss rs b4 hp4 htq hl nlp nlc ok => ?_⟩
  refine ⟨tq, _, rfl, SqT.of htq, rfl, _, _, rfl, _, _, rfl, rfl, ?_⟩
  have bb4 := (bb.trans (ST.Same.but s3 p)).trans b4
  clear s3 hkl nkp nkc b4 htq hp s1
  have W := ok.w
  have rl : rs.length ≤ 14 := by
    have := ok.len
    rwa [List.length_map] at this
  -- the signs told
  refine ⟨_, rfl, l, rs, rfl, hl, rl, ok.nd, fun H5 d tb s5 hd eb => ?_⟩
  have bb5 := bb4.trans (ST.Same.but s5 p)
  have hp5 := hp4.same s5
  have hl5 := hl.same s5
  clear hp4 hl bb4 s5
  -- the town
  refine ⟨_, rfl, _, rfl, p, cl, l, _, ss, rs, rfl, hp5, by omega, hl5, nlp, ok, fun H6 t bs b6 hp6 ta la asc => ?_⟩
  have bb6 := bb5.trans b6
  have hl6 := hl5.butP hp5 nlp b6
  have hd6 : FAt H6 d tb := ⟨keepP hp5 b6 hd.1 (fun _ z => nomatch z), fun b hb => keepP hp5 b6 (hd.2 b hb) (fun _ z => nomatch z)⟩
  clear hp5 hl5 hd bb5 b6
  -- its signs
  refine ⟨_, rfl, d, _, rfl, .inl hd6.1, fun d2 hd2 => ?_⟩
  have s7 := same_upd (o := .dK (tb.map gS)) hd2
  refine nilA ?_
  refine sg_mk (K := K) (bs := tb) upd_same (fun b hb => s7 _ _ (hd6.2 b hb)) (eb ▸ sgR_ok W) fun H8 a ps s8 pp asp sa => ?_
  rw [eb] at pp
  have s78 := s7.trans s8
  refine ⟨_, _, rfl, ?_⟩
  have bb8 := bb6.trans (ST.Same.but s78 p)
  have hp8 := hp6.same s78
  have hl8 := hl6.same s78
  have hd8 := hd6.same s78
  have ta8 := ta.same s78
  clear hp6 hl6 hd6 ta bb6 s7 s8 s78 hd2
  -- triples, corners
  refine ⟨_, rfl, _, rfl, l, d, rs, tb, rfl, hl8, rl, ok.nd, hd8, eb, fun H9 q9 as s9 hq9 e9 => ?_⟩
  have hl9 := hl8.same s9
  refine ⟨_, rfl, l, rs, rfl, hl9, rl, fun H10 sq cs s10 hsq cr => ⟨_, _, rfl, ?_⟩⟩
  have s910 := s9.trans s10
  have bb10 := bb8.trans (ST.Same.but s910 p)
  have hp10 := hp8.same s910
  have hl10 := hl9.same s10
  have hq10 := hq9.same s10
  obtain ⟨c2, c5⟩ := cs_two ok cr
  have st10 : Site K H10 t a ps bs cs := laid_site W la asc pp asp cr (by omega) (ta8.same s910) (sa.same s910)
  have pT := arcs_tr W la pp
  have al : as.length ≤ 28 := by
    have := trsR_len (rs.map (·.1))
    rw [← e9, List.length_map, List.length_map] at this
    omega
  clear hp8 hl8 hl9 hd8 ta8 sa hq9 bb8 s9 s10 s910
  -- the least
  refine ⟨_, rfl, _, rfl, q9, sq, as, cs, rfl, hq10, by omega, hsq, c2, c5, fun H11 n s11 hn => ?_⟩
  rw [e9] at hn
  have bb11 := bb10.trans (ST.Same.but s11 p)
  have hp11 := hp10.same s11
  have st11 := st10.same s11
  have hl11 := hl10.same s11
  have hq11 := hq10.same s11
  have hsq11 := s11 _ _ hsq
  have okT : RowsOk (trsR (rs.map (·.1))) := st11.arcs.ok.perm pT
  have n1 : 1 ≤ n := by
    obtain ⟨⟨ap, h1, h2⟩, _⟩ := hn
    rw [h2]
    exact round_pos ok cr h1
  have nl : n ≤ rs.length := by
    obtain ⟨⟨ap, h1, h2⟩, _⟩ := hn
    rw [h2]
    have := enter_nms okT ap ((rs.map (·.1)).map (·.nm)) fun g hg => by
      obtain ⟨r, hr, h⟩ := List.mem_flatMap.mp hg
      rw [tr_nm h]
      exact List.mem_map.mpr ⟨r, hr, rfl⟩
    rwa [List.length_map, List.length_map] at this
  clear hp10 st10 hl10 hq10 hsq bb10 s11
  -- what is asked
  refine ⟨_, rfl, _, rfl, _, rfl, _, rfl, _, rfl, p, cl, _, _, rfl, hp11, by omega, by omega, by omega, fun H12 d1 hd1 b12 hp12 => ?_⟩
  refine ⟨_, _, rfl, rfl, sz3, fun kl hkl => ?_⟩
  obtain ⟨nkp, nkc⟩ := hp12.ne hkl
  have s13 := same_upd (o := .lst [.int (n : Nat), .int (n : Nat), .int (1 + (d1 : Nat))]) hkl
  refine ⟨p, cl, kl, _, _, rfl, hp12.same s13, by omega, upd_same, nkp, by show 0 < 3; decide, by show 3 ≤ 1000; decide, fun H14 x hx b14 hp14 => ?_⟩
  have hak : ∃ k : Nat, x = .int (k : Nat) ∧ 1 ≤ k ∧ k ≤ n := by
    simp only [List.mem_cons, List.not_mem_nil, or_false] at hx
    rcases hx with e | e | e
    · exact ⟨n, e, n1, Nat.le_refl _⟩
    · exact ⟨n, e, n1, Nat.le_refl _⟩
    · exact ⟨1 + d1, by rw [e]; congr 1, by omega, by omega⟩
  obtain ⟨k, rfl, k1, kn⟩ := hak
  have o14 : Off [p] H11 H14 := ((Off.of_but hp11 (List.mem_singleton.mpr rfl) b12).trans (Off.of_same s13)).trans (Off.of_but (hp12.same s13) (List.mem_singleton.mpr rfl) b14)
  have bb14 := ((bb11.trans b12).trans (ST.Same.but s13 p)).trans b14
  have notp : ∀ {z : Addr}, z ≠ p → z ∉ [p] := fun h m => h (List.mem_singleton.mp m)
  have hqp : q9 ≠ p := fun e => by
    obtain ⟨cs', i', g', h1, _⟩ := hp11
    have := hq11.1
    rw [e, h1] at this
    have := HO.lst.inj (Option.some.inj this)
    match as, this with
    | [], h => cases h
    | [_], h => injection h with _ h; cases h
    | _ :: _ :: _, h => injection h with _ h; injection h with h _; cases h
  have hsp : sq ≠ p := fun e => by
    obtain ⟨cs', i', g', h1, _⟩ := hp11
    rw [e, h1] at hsq11
    have := HO.lst.inj (Option.some.inj hsq11)
    cases cs with
    | nil => cases this
    | cons z r => injection this with h1 _; cases h1
  have st14 := st11.off o14
  have hl14 := hl11.off (notp nlp) o14
  have hq14 := hq11.off (notp hqp) o14
  have hsq14 := o14.2 _ _ (notp hsp) hsq11
  clear hp11 st11 hl11 hq11 hsq11 bb11 b12 b14 s13 o14 hp12 hkl nkp nkc hx
  obtain ⟨root, others, rfl⟩ : ∃ r o, cs = r :: o := List.exists_cons_of_ne_nil (fun e => by rw [e] at c2; exact absurd c2 (by decide))
  have hne : others ≠ [] := fun e => by rw [e] at c2; exact absurd c2 (by show ¬ 2 ≤ 1; decide)
  refine atG (σ' := [some (.ref sc), some (.ref p), some (.int (0 + (i : Nat))), some (.ref d), some (.int (n : Nat)), some (.int (k : Nat)), x6, x7, x8, x9, some (.ref l), some (.int nr), some (.ref t), some (.ref a), some (.ref q9), some (.ref sq), x16, x17, x18, x19, x20, x21, x22, x23]) rfl ?_
  -- the verdict
  refine ⟨_, rfl, _, rfl, _, rfl, t, a, ps, bs, root, others, k, rfl, st14, hne, k1, by omega, fun ap hap => Nat.le_trans kn (by rw [enterN_perm pT]; exact hn.2 ap hap), fun H15 v s15 hv => ?_⟩
  refine ⟨sz0, fun cq hcq => ?_⟩
  have s16 := same_upd (o := .lst []) hcq
  have hl16 := (hl14.same s15).same s16
  refine ⟨_, rfl, l, rfl, ⟨_, SqL.of hl16.1⟩, fun lq hlq => ?_⟩
  refine lc_pure (as := rs) (c := fun b => .ref b.2) src_l (fun _ => true) (fun b => .str b.1.nm) hlq (fun H17 sm => SqL.of (sm _ _ hl16.1)) (Nat.lt_of_le_of_lt rl (by decide)) (fun j r H17 Kt Kf hr sm k1 k2 => ?_) fun H17 s17 hlq17 => ?_
  · exact ⟨rfl, _, rfl, _, _, _, _, rfl, rfl, SqT.of (sm _ _ (hl16.2 r (List.mem_of_getElem? hr))), atI_nat (j := 1) rfl, k1 _ rfl (Same.refl _)⟩
  rw [List.filter_eq_self.mpr fun _ _ => rfl] at hlq17
  refine ⟨sz3, fun tq htq => ⟨tq, _, rfl, SqT.of upd_same, rfl, _, _, rfl, _, _, rfl, _, _, rfl, rfl, ?_⟩⟩
  have s18 := same_upd (o := .tup [.ref v, .ref cq, .ref lq]) htq
  have hcq16 : upd H15 cq (.lst []) cq = some (.lst []) := upd_same
  have ncl : cq ≠ lq := (ne_of_none' hlq hcq16).symm
  have s1718 := (s16.trans s17).trans s18
  have hv18 := ((hv.same s16).same s17).same s18
  have hcq18 := s18 _ _ (s17 _ _ hcq16)
  have hlq18 := s18 _ _ hlq17
  have st18 := (((st14.same s15).same s16).same s17).same s18
  have sAll := s15.trans s1718
  have hq18 := hq14.same sAll
  have hsq18 := sAll _ _ hsq14
  have hp18 := hp14.same sAll
  have hl18 := hl14.same sAll
  have bb18 := bb14.trans (ST.Same.but sAll p)
  have nqp := (hp14.same (s15)).ne hcq
  have nlqp := ((hp14.same s15).same s16).ne hlq
  have hcq0 : H cq = none := fresh_but (bb14.trans (ST.Same.but s15 p)) nqp.1 hcq
  have hlq0 : H lq = none := fresh_but ((bb14.trans (ST.Same.but s15 p)).trans (ST.Same.but s16 p)) nlqp.1 hlq
  have ncs : cq ≠ sq := (ne_of_none' hcq (s15 _ _ hsq14))
  have nls : lq ≠ sq := (ne_of_none' hlq (s16 _ _ (s15 _ _ hsq14)))
  have ncq9 : cq ≠ q9 := ne_of_none' hcq (s15 _ _ hq14.1)
  have nlq9 : lq ≠ q9 := ne_of_none' hlq (s16 _ _ (s15 _ _ hq14.1))
  generalize upd H17 tq (.tup [.ref v, .ref cq, .ref lq]) = H18 at hv18 hcq18 hlq18 st18 hq18 hsq18 hp18 hl18 bb18
  clear s15 s16 s17 s18 s1718 sAll hcq16 hlq17 hcq hlq htq hl16 hl14 hq14 hsq14 st14 hp14 bb14 hv
  refine atS (σ' := [some (.ref sc), some (.ref p), some (.int (0 + (i : Nat))), some (.ref d), some (.int (n : Nat)), some (.int (k : Nat)), x6, x7, x8, x9, some (.ref l), some (.int nr), some (.ref t), some (.ref a), some (.ref q9), some (.ref sq), some (.ref v), some (.ref cq), some (.ref lq), x19, x20, x21, x22, x23]) rfl ?_
  -- it is Sound; strength is the least
  obtain ⟨dxv, wy, hv1, hv2⟩ := hv18
  refine ⟨_, rfl, v, rfl, ⟨dxv, _, hv1⟩, v, rfl, ?_⟩
  refine ⟨_, rfl, iteF ?_⟩
  refine ⟨_, rfl, _, rfl, t, a, ps, bs, root, others, rfl, st18, hne, fun H19 v2 n2 s19 hv2 hl2 => ?_⟩
  obtain ⟨dx2, w1, w2, e2⟩ := hv2
  have en2 := Least.one (hl2.perm pT) hn
  subst en2
  refine ⟨v2, _, dx2, _, _, rfl, e2, T.cls T.r_c_Strength, T.noat T.r_n_Strength_number, rfl, _, rfl, rfl, _, rfl, ?_⟩
  rw [decide_eq_true rfl]
  refine iteF ?_
  have hp19 := hp18.same s19
  have bb19 := bb18.trans (ST.Same.but s19 p)
  clear hl2
  -- how many are shut
  refine ⟨_, rfl, _, _, rfl, rfl, _, rfl, _, rfl, _, rfl, p, cl, _, _, rfl, hp19, by omega, by omega, by omega, fun H20 d2' hd2 b20 hp20 => ?_⟩
  refine ⟨sz3, fun kl hkl => ?_⟩
  obtain ⟨nkp, nkc⟩ := hp20.ne hkl
  have s21 := same_upd (o := .lst [.int 0, .int 0, .int (d2' : Nat)]) hkl
  refine ⟨p, cl, kl, _, _, rfl, hp20.same s21, by omega, upd_same, nkp, by show 0 < 3; decide, by show 3 ≤ 1000; decide, fun H22 x hx b22 hp22 => ?_⟩
  have hxe : ∃ e : Nat, x = .int (e : Nat) ∧ e < k := by
    simp only [List.mem_cons, List.not_mem_nil, or_false] at hx
    rcases hx with e | e | e
    · exact ⟨0, e, by omega⟩
    · exact ⟨0, e, by omega⟩
    · exact ⟨d2', e, by omega⟩
  obtain ⟨e0, rfl, e0k⟩ := hxe
  refine ⟨_, _, rfl, rfl, _, rfl, by omega, by omega, ?_⟩
  have em : ((k : Int) - 1 - (e0 : Int)).toNat = k - 1 - e0 := by omega
  rw [em]
  have nmp : p ∈ [p, cq, lq] := List.mem_cons_self
  have nmc : cq ∈ [p, cq, lq] := List.mem_cons_of_mem _ List.mem_cons_self
  have nml : lq ∈ [p, cq, lq] := List.mem_cons_of_mem _ (List.mem_cons_of_mem _ List.mem_cons_self)
  have o22 : Off [p, cq, lq] H18 H22 := (((Off.of_same s19).trans (Off.of_but hp19 nmp b20)).trans (Off.of_same s21)).trans (Off.of_but (hp20.same s21) nmp b22)
  have bb22 := ((bb19.trans b20).trans (ST.Same.but s21 p)).trans b22
  have b1822 : But p H18 H22 := (((ST.Same.but s19 p).trans b20).trans (ST.Same.but s21 p)).trans b22
  have hcq22 := b1822 _ _ nqp.1 hcq18
  have hlq22 := b1822 _ _ nlqp.1 hlq18
  have enm : (rs.map fun b => V.str b.1.nm) = (((rs.map (·.1)).map (·.nm)).map V.str) := by rw [List.map_map, List.map_map]; rfl
  rw [enm] at hlq22
  have rnd := ok.nd
  have rnl : ((rs.map (·.1)).map (·.nm)).length = rs.length := by rw [List.length_map, List.length_map]
  generalize enms : (rs.map (·.1)).map (·.nm) = nms at hlq22 rnd rnl
  refine for_it (walk_range (lo := 0) (n := k - 1 - e0)) (fun j σ H23 => ∃ c ls x6, σ = [some (.ref sc), some (.ref p), some (.int (0 + (i : Nat))), some (.ref d), some (.int (n2 : Nat)), some (.int (k : Nat)), x6, x7, x8, x9, some (.ref l), some (.int nr), some (.ref t), some (.ref a), some (.ref q9), some (.ref sq), some (.ref v), some (.ref cq), some (.ref lq), x19, x20, x21, x22, x23] ∧
      Off [p, cq, lq] H18 H23 ∧ But p H H23 ∧ PenAt H23 p cl (400 * i + 250 + j) ∧ H23 cq = some (.lst (c.map V.str)) ∧ H23 lq = some (.lst (ls.map V.str)) ∧ c.length = j ∧ (c ++ ls).Perm nms)
    ⟨[], nms, _, rfl, o22, bb22, hp22.mono (by omega), hcq22, hlq22, rfl, .refl _⟩ (fun _ _ _ _ _ => trivial) (fun j x σ H23 H24 hj ⟨c, ls, x6, e, o23, b23, hp23, hc23, hl23, cj, pm⟩ y => ?_) fun σ H23 ⟨c, ls, x6, e, o23, b23, hp23, hc23, hl23, cj, pm⟩ => ?_
  · subst e
    obtain ⟨rfl, rfl⟩ := y
    have pl := pm.length_eq
    rw [List.length_append] at pl
    refine ⟨_, rfl, .inl ⟨rfl, _, SqL.of hc23⟩, _, rfl, .inl ⟨rfl, _, SqL.of hl23⟩, _, rfl, _, rfl, lq, _, rfl, .inl (SqL.of hl23), p, cl, _, _, rfl, hp23, by rw [List.length_map]; omega, by rw [List.length_map]; omega, by omega, fun H25 d3 hd3 b25 hp25 => ?_⟩
    rw [List.length_map] at hd3
    have hdl : d3 < ls.length := by omega
    have hl25 := b25 _ _ nlqp.1 hl23
    have hc25 := b25 _ _ nqp.1 hc23
    refine ⟨lq, _, _, d3, .str ls[d3], rfl, rfl, hl25, by omega, by omega, popIx (by rw [List.length_map]; exact hdl), by rw [List.getElem?_map, List.getElem?_eq_getElem hdl]; rfl, ?_⟩
    have hc26 : upd H25 lq (.lst ((ls.map V.str).eraseIdx d3)) cq = some (.lst (c.map V.str)) := (upd_ne ncl).trans hc25
    refine ⟨cq, _, _, rfl, rfl, hc26, ?_, ?_⟩
    · rw [List.length_map, cj]
      exact Nat.lt_of_lt_of_le (show j < 20 by omega) (by decide)
    refine ⟨c ++ [ls[d3]], ls.eraseIdx d3, _, rfl, ((o23.trans (Off.of_but hp23 nmp b25)).trans (Off.of_upd hl25 nml)).trans (Off.of_upd hc26 nmc), ((b23.trans b25).upd' hlq0).upd' hcq0, ((hp25.but nlqp.1 nlqp.2).but nqp.1 nqp.2).mono (by omega), by rw [upd_same, List.map_append]; rfl, (upd_ne ncl.symm).trans (by rw [upd_same, map_erase]), by rw [List.length_append, cj]; rfl, ?_⟩
    rw [List.append_assoc]
    exact (List.Perm.append_left c (erase_perm hdl)).trans pm
  subst e
  clear hcq22 hlq22 hcq18 hlq18 o22 bb22 b1822 hp22 hp20 hp19 hp18 bb19 bb18 b20 b22 s19 s21 hx hkl nkp nkc bb hl18
  -- what is as it was
  have n9 : q9 ∉ [p, cq, lq] := fun m => by
    rcases List.mem_cons.mp m with h | m
    · exact hqp h
    · rcases List.mem_cons.mp m with h | m
      · exact ncq9 h.symm
      · exact nlq9 (List.mem_singleton.mp m).symm
  have nsq : sq ∉ [p, cq, lq] := fun m => by
    rcases List.mem_cons.mp m with h | m
    · exact hsp h
    · rcases List.mem_cons.mp m with h | m
      · exact ncs h.symm
      · exact nls (List.mem_singleton.mp m).symm
  have st := st18.off o23
  have hq := hq18.off n9 o23
  have hsq := o23.2 _ _ nsq hsq18
  have hv1' := o23.ins hv1
  have hv2' := hv2.off o23
  clear st18 hq18 hsq18 hv1 hv2 o23
  have ck : c.length < k := by omega
  have cw : ∀ ap, IsWard (root :: others) ap → c.length < enterN (trsR (rs.map (·.1))) ap := fun ap hap => by
    have := hn.2 ap hap
    omega
  have cnd : c.Nodup := (List.nodup_append.mp (pm.symm.nodup rnd)).1
  -- the streets are taken out
  refine ⟨_, rfl, _, rfl, _, _, rfl, ?_⟩
  refine ⟨_, rfl, cq, rfl, ⟨_, SqL.of hc23⟩, ?_⟩
  refine for_c (as := c) (c := V.str) src_l (fun j σ H24 => ∃ t' a' bs' ps' x7, σ = [some (.ref sc), some (.ref p), some (.int (0 + (i : Nat))), some (.ref d), some (.int (n2 : Nat)), some (.int (k : Nat)), x6, x7, x8, x9, some (.ref l), some (.int nr), some (.ref t), some (.ref a), some (.ref q9), some (.ref sq), some (.ref v), some (.ref cq), some (.ref lq), some (.ref t'), some (.ref a'), x21, x22, x23] ∧
      Same H23 H24 ∧ TAt K H24 t' bs' ∧ SgAt K H24 a' ps' ∧ Laid bs' ((rs.map (·.1)).filter (offR (c.take j))) ∧ Asc (bs'.map fun b => b.1.nm) ∧ ps'.Perm (sgR ((rs.map (·.1)).filter (offR (c.take j)))) ∧ Asc (ps'.map (·.1)))
    ⟨t, a, bs, ps, _, rfl, Same.refl _, st.t, st.a, by rw [List.take_zero, List.filter_eq_self.mpr fun r _ => by simp [offR]]; exact la, asc, by rw [List.take_zero, List.filter_eq_self.mpr fun r _ => by simp [offR]]; exact pp, asp⟩ (fun j σ H24 _ ⟨_, _, _, _, _, _, s24, _⟩ => SqL.of (s24 _ _ hc23)) (fun j z σ H24 hz ⟨t', a', bs', ps', y7, e, s24, ta', sa', la', asc', pp', asp'⟩ => ?_) fun σ H24 ⟨t', a', bs', ps', y7, e, s24, ta', sa', la', asc', pp', asp'⟩ => ?_
  · subst e
    have W' := W.filter (offR (c.take j))
    have hzc := List.mem_of_getElem? hz
    have hzr : ∃ r ∈ (rs.map (·.1)).filter (offR (c.take j)), r.nm = z := by
      have : z ∈ nms := pm.mem_iff.mp (List.mem_append_left _ hzc)
      rw [← enms] at this
      obtain ⟨r, hr, rfl⟩ := List.mem_map.mp this
      exact ⟨r, List.mem_filter.mpr ⟨hr, by simp [offR, nd_take cnd hz]⟩, rfl⟩
    obtain ⟨r, hr, rfl⟩ := hzr
    obtain ⟨b, hb, eb'⟩ := laid_of la' hr
    have hhas : hasNm bs' r.nm = true := List.any_eq_true.mpr ⟨b, hb, decide_eq_true (by rw [eb', stR_nm])⟩
    have tok' := laid_tok (ss := root :: others) la' W'.nd W'.len (fun r' h => ⟨(cr.2 _).mpr ⟨r', (List.mem_filter.mp h).1, .inl rfl⟩, (cr.2 _).mpr ⟨r', (List.mem_filter.mp h).1, .inr rfl⟩⟩) (by omega)
    refine ⟨_, rfl, _, rfl, t', r.nm, rfl, rfl, ins_town ta'.rd, t', bs', r.nm, rfl, ta', hhas, tok', fun H25 t2 bs2 s25 pm2 asc2 ta2 => ?_⟩
    have la2 := laid_off la' pm2
    rw [← off_one hz] at la2
    have sa25 := sa'.same s25
    have ok' := (sgR_ok W').perm pp'
    refine ⟨_, rfl, _, rfl, a', rfl, ins_sg sa25.rd, a', ps', r.nm, rfl, sa25.rd, _, rfl, _, rfl, ?_⟩
    have ep : (ps'.filter fun q => !decide (q.1 = r.nm)).Perm (sgR ((rs.map (·.1)).filter (offR (c.take (j + 1))))) := by
      rw [off_one hz, sgs_one]
      exact pp'.filter _
    cases eh : hasS ps' r.nm with
    | true =>
      refine ⟨_, rfl, _, rfl, a', r.nm, rfl, rfl, ins_sg sa25.rd, a', ps', r.nm, rfl, sa25, eh, ok', fun H26 a2 ps2 s26 pp2 asp2 sa2 => ?_⟩
      exact ⟨t2, a2, bs2, ps2, _, rfl, (s24.trans s25).trans s26, ta2.same s26, sa2, la2, asc2, pp2.trans ep, asp2⟩
    | false =>
      have es : (ps'.filter fun q => !decide (q.1 = r.nm)) = ps' := List.filter_eq_self.mpr fun q hq => by simp [hasS_false eh q hq]
      rw [es] at ep
      exact iteF ⟨_, rfl, t2, a', bs2, ps', _, rfl, s24.trans s25, ta2, sa25, la2, asc2, ep, asp'⟩
  subst e
  rw [List.take_length] at la' pp'
  have W' := W.filter (offR c)
  have cr' : CsR ((rs.map (·.1)).filter (offR c)) (root :: others) := cs_off cr c2 okT cw
  have st' : Site K H24 t' a' ps' bs' (root :: others) := laid_site W' la' asc' pp' asp' cr' (by omega) ta' sa'
  have pT' := arcs_tr W' la' pp'
  rw [trs_off] at pT'
  have hq' := hq.same s24
  have hsq' := s24 _ _ hsq
  have hv1'' := s24 _ _ hv1'
  have hv2'' := hv2'.same s24
  have hc24 := s24 _ _ hc23
  have hp24 := hp23.same s24
  have bb24 := b23.trans (ST.Same.but s24 p)
  have anm : ∀ g ∈ arcsOf ps bs, Nm g.1 := fun g hg => by
    obtain ⟨b, hb, h⟩ := List.mem_flatMap.mp hg
    rw [arc_nm h]
    exact (st.t.oks b hb).1
  have alen := st.arcs.len
  have toOff : ∀ g, g ∈ arcsOf ps bs → offN c g = true → g ∈ arcsOf ps' bs' := fun g hg ho => pT'.mem_iff.mpr (List.mem_filter.mpr ⟨pT.mem_iff.mp hg, ho⟩)
  clear ta' sa' hq hsq hv1' hv2' hc23 hl23 hp23 b23 s24
  obtain ⟨dxw, o, b', Lo, Lb, hw1, hO, hB, eo, eb2, po, pb⟩ := hv2''
  -- each corner is looked at
  refine ⟨_, rfl, _, rfl, sq, _, rfl, SqL.of hsq', fun r hr => ?_⟩
  have er : cutV ((root :: others).map V.str) (some 1) none = others.map V.str := cut_rest
  have s25 := same_upd (o := .lst (cutV ((root :: others).map V.str) (some 1) none)) hr
  have hr25 : upd H24 r (.lst (cutV ((root :: others).map V.str) (some 1) none)) r = some (.lst (others.map V.str)) := by rw [upd_same, er]
  generalize upd H24 r (.lst (cutV ((root :: others).map V.str) (some 1) none)) = H25 at s25 hr25
  refine ⟨r, rfl, ⟨_, SqL.of hr25⟩, ?_⟩
  have cnd' := cr.1.nodup
  obtain ⟨hroot, ond⟩ := List.nodup_cons.mp cnd'
  refine for_c (as := others) (c := V.str) src_l (fun j σ H26 => ∃ x8 x21 x22 x23, σ = [some (.ref sc), some (.ref p), some (.int (0 + (i : Nat))), some (.ref d), some (.int (n2 : Nat)), some (.int (k : Nat)), x6, y7, x8, x9, some (.ref l), some (.int nr), some (.ref t), some (.ref a), some (.ref q9), some (.ref sq), some (.ref v), some (.ref cq), some (.ref lq), some (.ref t'), some (.ref a'), x21, x22, x23] ∧ Same H25 H26)
    ⟨_, _, _, _, rfl, Same.refl _⟩ (fun j σ H26 _ ⟨_, _, _, _, _, s26⟩ => SqL.of (s26 _ _ hr25)) (fun j z σ H26 hz ⟨x8, x21, x22, x23, e, s26⟩ => ?_) fun σ H26 ⟨x8, x21, x22, x23, e, s26⟩ => ?_
  · subst e
    have hzo := List.mem_of_getElem? hz
    have nrz : root ≠ z := fun e => hroot (e ▸ hzo)
    have s := s25.trans s26
    obtain ⟨eo1, heo1, rfl⟩ : ∃ e ∈ Lo, e.1 = z := by
      rw [← eo] at hzo
      obtain ⟨e, he, h⟩ := List.mem_map.mp hzo
      exact ⟨e, he, h⟩
    obtain ⟨eb1, heb1, ebz⟩ : ∃ e ∈ Lb, e.1 = eo1.1 := by
      rw [← eb2] at hzo
      obtain ⟨e, he, h⟩ := List.mem_map.mp hzo
      exact ⟨e, he, h⟩
    have vo := valV_of (k := fun e : Bnd => e.1) (v := fun e => .ref e.2.1) (by rw [eo]; exact ond) heo1
    have vb := valV_of (k := fun e : Bnd => e.1) (v := fun e => .ref e.2.1) (by rw [eb2]; exact ond) heb1
    rw [ebz] at vb
    obtain ⟨buno, leno⟩ := po eo1 heo1
    obtain ⟨bunb, lenb⟩ := pb eb1 heb1
    rw [ebz] at bunb
    have nmo := bun_nm buno anm alen
    have nmb := bun_nm bunb anm alen
    refine ⟨_, rfl, v, _, dxv, _, _, rfl, s _ _ hv1'', T.cls T.r_c_Sound, T.noat T.r_n_Sound_ways, rfl, wy, _, dxw, _, _, rfl, s _ _ hw1, T.cls T.r_c_Ways, T.noat T.r_n_Ways_out, rfl, _, rfl, o, _, rfl, dget_r (.inl (s _ _ hO.1)) vo, _, rfl, eo1.2.1, cq, eo1.2.2, c, rfl, (hO.2 _ heo1).same s, by omega, nmo, s _ _ hc24, fun H27 l1 s27 hl1 => ?_⟩
    have s' := s.trans s27
    refine ⟨_, rfl, v, _, dxv, _, _, rfl, s' _ _ hv1'', T.cls T.r_c_Sound, T.noat T.r_n_Sound_ways, rfl, wy, _, dxw, _, _, rfl, s' _ _ hw1, T.cls T.r_c_Ways, T.noat T.r_n_Ways_back, rfl, _, rfl, b', _, rfl, dget_r (.inl (s' _ _ hB.1)) vb, _, rfl, eb1.2.1, cq, eb1.2.2, c, rfl, (hB.2 _ heb1).same s', by omega, nmb, s' _ _ hc24, fun H28 l2 s28 hl2 => ⟨_, _, rfl, ?_⟩⟩
    have s'' := s'.trans s28
    have hl1' := s28 _ _ hl1
    have ne1 := bun_left buno (show c.length < eo1.2.2.length by omega)
    have ne2 := bun_left bunb (show c.length < eb1.2.2.length by omega)
    obtain ⟨w0, r0, ew0⟩ := List.exists_cons_of_ne_nil ne1
    have hw0 : w0 ∈ eo1.2.2.filter fun b => open_ c b.1 := by rw [ew0]; exact List.mem_cons_self
    obtain ⟨hw0a, hw0b⟩ := List.mem_filter.mp hw0
    have hw0m : w0.1 ∈ eo1.2.2.map (·.1) := List.mem_map.mpr ⟨w0, hw0a, rfl⟩
    have wk0 := buno.wlk _ hw0m
    have nd0 := flat_nd buno.nd hw0m
    have ne0 : w0.1 ≠ [] := fun e => by
      rw [e] at wk0
      cases wk0
      exact nrz rfl
    obtain ⟨rl, wl, ewl⟩ : ∃ i x, (eb1.2.2.filter fun b => open_ c b.1) = i ++ [x] := by
      rcases List.eq_nil_or_concat (eb1.2.2.filter fun b => open_ c b.1) with h | ⟨i, x, h⟩
      · exact absurd h ne2
      · exact ⟨i, x, by rw [h, List.concat_eq_append]⟩
    have hwl : wl ∈ eb1.2.2.filter fun b => open_ c b.1 := by rw [ewl]; exact List.mem_append_right _ List.mem_cons_self
    obtain ⟨hwla, hwlb⟩ := List.mem_filter.mp hwl
    have hwlm : wl.1 ∈ eb1.2.2.map (·.1) := List.mem_map.mpr ⟨wl, hwla, rfl⟩
    have wkl := bunb.wlk _ hwlm
    have ndl := flat_nd bunb.nd hwlm
    have nel : wl.1 ≠ [] := fun e => by
      rw [e] at wkl
      cases wkl
      exact nrz rfl
    have tx1 : ∀ b ∈ eo1.2.2, txts H28 b.2 b.1 := fun b hb => s'' _ _ ((hO.2 _ heo1).2 b hb)
    have tx2 : ∀ b ∈ eb1.2.2, txts H28 b.2 b.1 := fun b hb => s'' _ _ ((hB.2 _ heb1).2 b hb)
    -- neither is empty
    refine ⟨_, rfl, sz0, fun em hem => ?_⟩
    have s29 := same_upd (o := .lst []) hem
    refine ⟨_, _, .lst (SqL.of (s29 _ _ hl1')) (dpa_wks _ fun b hb => s29 _ _ (tx1 b (List.mem_filter.mp hb).1)), .lst (SqL.of upd_same) .nil, sh_wks _ (fun b hb n hn => by
      obtain ⟨b0, hb0, rfl⟩ := List.mem_map.mp hb
      exact (nmo b0 (List.mem_filter.mp hb0).1).2 n hn), sh_nil, _, rfl, ?_⟩
    rw [eqv_wks0, decide_eq_false (by rw [ew0]; simp)]
    refine ⟨_, rfl, sz0, fun em2 hem2 => ?_⟩
    have s30 := s29.trans (same_upd (o := .lst []) hem2)
    refine ⟨_, _, .lst (SqL.of (s30 _ _ hl2)) (dpa_wks _ fun b hb => s30 _ _ (tx2 b (List.mem_filter.mp hb).1)), .lst (SqL.of upd_same) .nil, sh_wks _ (fun b hb n hn => by
      obtain ⟨b0, hb0, rfl⟩ := List.mem_map.mp hb
      exact (nmb b0 (List.mem_filter.mp hb0).1).2 n hn), sh_nil, _, rfl, ?_⟩
    rw [eqv_wks0, decide_eq_false (by rw [ewl]; simp)]
    refine iteF ?_
    generalize upd (upd H28 em (.lst [])) em2 (.lst []) = H30 at s30
    have t30 := s''.trans s30
    have hl1q := s30 _ _ hl1'
    have hl2q := s30 _ _ hl2
    rw [ew0] at hl1q
    rw [ewl, List.map_append] at hl2q
    -- is_walk finds both
    refine ⟨_, rfl, _, rfl, _, rfl, sq, _, _, .str root, rfl, rfl, SqL.of (t30 _ _ hsq'), atI_nat (j := 0) rfl, _, rfl, _, rfl, l1, _, _, .ref w0.2, rfl, rfl, SqL.of hl1q, atI_nat (j := 0) rfl, t', a', w0.2, root, eo1.1, ps', bs', root :: others, w0.1, rfl, st'.same t30, s30 _ _ (tx1 w0 hw0a), ne0, nd0, wk0.off hw0b toOff, fun H31 s31 => ⟨_, rfl, iteF ?_⟩⟩
    have t31 := t30.trans s31
    refine ⟨_, rfl, _, rfl, _, rfl, _, rfl, sq, _, _, .str root, rfl, rfl, SqL.of (t31 _ _ hsq'), atI_nat (j := 0) rfl, _, rfl, _, rfl, l2, _, _, .ref wl.2, rfl, rfl, SqL.of (s31 _ _ hl2q), atI_last _ _, t', a', wl.2, eo1.1, root, ps', bs', root :: others, wl.1, rfl, st'.same t31, s31 _ _ (s30 _ _ (tx2 wl hwla)), nel, ndl, wkl.off hwlb toOff, fun H32 s32 => ⟨_, rfl, iteF ?_⟩⟩
    have t32 := t31.trans s32
    have hq32 := hq'.same t32
    -- the law's own look
    refine ⟨_, rfl, q9, rfl, ⟨_, SqL.of hq32.1⟩, fun D hD => ?_⟩
    refine lc_pure (as := as) (c := fun a => .ref a.2) src_l (fun a => offN c a.1) (fun a => .ref a.2) hD (fun H33 sm => SqL.of (sm _ _ hq32.1)) (Nat.lt_of_le_of_lt al (by decide)) (fun jj bb' H33 Kt Kf hb' sm k1' k2' => ?_) fun H33 s33 hD33 => ?_
    · have e3 := sm _ _ (hq32.2 bb' (List.mem_of_getElem? hb'))
      refine ⟨rfl, _, rfl, _, _, _, _, rfl, rfl, SqT.of e3, atI_nat (j := 0) rfl, _, rfl, cq, _, rfl, .inl (SqL.of (sm _ _ (t32 _ _ hc24))), rfl, flat_txts _, _, rfl, ?_⟩
      have i2 : (if true = true then !inV (.str bb'.1.1) (c.map V.str) else inV (.str bb'.1.1) (c.map V.str)) = !decide (bb'.1.1 ∈ c) := by rw [if_pos rfl, inV_txts]
      rw [i2]
      by_cases ec : bb'.1.1 ∈ c
      · rw [decide_eq_true ec]
        exact iteF (k2' _ (by show (!decide _) = false; rw [decide_eq_true ec]; rfl) (Same.refl _))
      · rw [decide_eq_false ec]
        exact ⟨_, rfl, k1' _ (by show (!decide _) = true; rw [decide_eq_false ec]; rfl) (Same.refl _)⟩
    have hRD : RowsAt H33 D (as.filter fun a => offN c a.1) := ⟨hD33, fun x hx => s33 _ _ (hq32.2 x (List.mem_filter.mp hx).1)⟩
    have eRD : (as.filter fun a => offN c a.1).map (·.1) = (trsR (rs.map (·.1))).filter (offN c) := by
      rw [← e9, List.filter_map]
      rfl
    have lRD : (as.filter fun a => offN c a.1).length ≤ 100 := Nat.le_trans (List.length_filter_le _ _) (by omega)
    have h133 := s33 _ _ (s32 _ _ (s31 _ _ hl1q))
    refine ⟨_, rfl, l1, _, _, .ref w0.2, rfl, rfl, SqL.of h133, atI_nat (j := 0) rfl, _, rfl, sq, _, _, .str root, rfl, rfl, SqL.of (s33 _ _ (t32 _ _ hsq')), atI_nat (j := 0) rfl, ?_⟩
    refine ⟨D, w0.2, root, eo1.1, _, w0.1, rfl, hRD, lRD, by rw [eRD]; exact okT.filter _, fun g hg => ?_, s33 _ _ (s32 _ _ (s31 _ _ (s30 _ _ (tx1 w0 hw0a)))), ne0, nd0, (nmo w0 hw0a).1, by rw [eRD]; exact wk0.off hw0b fun g hg ho => List.mem_filter.mpr ⟨pT.mem_iff.mp hg, ho⟩, fun H34 s34 => ?_⟩
    · rw [eRD] at hg
      exact (st.arcs.nm g (pT.mem_iff.mpr (List.mem_filter.mp hg).1)).2
    refine ⟨_, rfl, rfl, _, rfl, ?_⟩
    rw [decide_eq_true rfl]
    exact iteF ⟨_, _, _, _, rfl, (((((s26.trans s27).trans s28).trans s30).trans s31).trans s32).trans (s33.trans s34)⟩
  subst e
  have t26 := s25.trans s26
  refine ⟨_, rfl, _, rfl, t', a', ps', bs', root, others, rfl, st'.same t26, hne, fun H27 v3 m s27 hv3 hm => ?_⟩
  obtain ⟨dx3, u1, u2, e3⟩ := hv3
  refine ⟨v3, _, dx3, _, _, rfl, e3, T.cls T.r_c_Strength, T.noat T.r_n_Strength_number, rfl, ?_⟩
  have t27 := t26.trans s27
  have hm' := hm.perm pT'
  have lo : n2 - c.length ≤ m ∧ m ≤ n2 := by
    obtain ⟨⟨ap, hap, em⟩, hall⟩ := hm'
    constructor
    · have h1 := hn.2 ap hap
      have h2 := enter_off okT ap c
      omega
    · obtain ⟨⟨ap2, hap2, en⟩, _⟩ := hn
      have h1 := hall ap2 hap2
      have h2 := enter_less (rows := trsR (rs.map (·.1))) ap2 c
      omega
  have hc27 := t27 _ _ hc24
  refine ⟨_, rfl, _, rfl, _, rfl, cq, _, rfl, .inl (SqL.of hc27), _, _, rfl, rfl, _, _, rfl, rfl, _, rfl, ?_⟩
  rw [List.length_map, decide_eq_false (show ¬ (m : Int) < (n2 : Int) - (c.length : Nat) by omega)]
  refine ⟨_, rfl, _, rfl, _, _, rfl, rfl, _, rfl, ?_⟩
  rw [decide_eq_false (show ¬ (n2 : Int) < (m : Int) by omega)]
  have emx : (if (n2 : Int) - ((c.map V.str).length : Nat) > 1 then (n2 : Int) - ((c.map V.str).length : Nat) else 1) = ((n2 - c.length : Nat) : Int) := by
    rw [List.length_map]
    split <;> omega
  refine ⟨_, rfl, _, rfl, _, rfl, _, rfl, cq, _, rfl, .inl (SqL.of hc27), _, _, rfl, rfl, _, _, rfl, ?_⟩
  refine ⟨t', a', ps', bs', root, others, n2 - c.length, congrArg (fun z => [V.ref t', V.ref a', V.int z]) emx, st'.same t27, hne, by omega, by omega, fun ap hap => ?_, fun H28 v4 s28 hv4 => ?_⟩
  · rw [enterN_perm pT']
    have h1 := hn.2 ap hap
    have h2 := enter_off okT ap c
    omega
  obtain ⟨dx4, wy4, hv41, _⟩ := hv4
  refine ⟨v4, rfl, ⟨dx4, _, hv41⟩, v4, rfl, ?_⟩
  refine ⟨_, rfl, iteF ?_⟩
  have tA := t27.trans s28
  exact ⟨_, _, _, _, _, _, _, _, _, _, _, _, _, _, _, _, _, _, _, _, _, _, rfl, bb24.trans (ST.Same.but tA p), (hp24.same tA).mono (by omega)⟩
end
end ST
end
set_option Elab.async false
set_option linter.all false
set_option maxRecDepth 100000
set_option maxHeartbeats 0
/-! The end: the row holds. -/
namespace ST
open PySem PySem.Spec PySem.W PySem.Calls PyProof.Rows L2
def obT (s : SharedT) : AlS := obsS (HandSHeadRun.getT s)
theorem obT_eq (s : SharedT) : obT s = hookS.obs s.abs := obsS_eq (HandSHeadRun.getT_eq s)
theorem run_all (w : World) : HandSHeadRun.RunEq RR (PySem.W.view RR.prog [107]) hookS obT 20000 lnAll w := by
  intro os
  obtain ⟨s, hs, ha⟩ := Option.map_eq_some_iff.mp (run_A w os)
  have hb := run_B w os
  have hc := run_C w os
  have hd := run_D w os
  have hs' : HandSHeadRun.endF (HandSHeadRun.stepQ (HandSHeadRun.denQ HandSHeadRun.tabQ) RR.prog w) 20000 RR.prog w os = some s := hs
  rw [show RRB.prog = RR.prog from rfl, hs'] at hb
  rw [show RRC.prog = RR.prog from rfl, hs'] at hc
  rw [show RRD.prog = RR.prog from rfl, hs'] at hd
  have hb := Option.some.inj hb
  have hc := Option.some.inj hc
  have hd := Option.some.inj hd
  rw [hs']
  obtain ⟨a1, a2⟩ := Prod.mk.inj ha
  obtain ⟨d1, d2⟩ := Prod.mk.inj hd
  refine congrArg some (Prod.ext a1 (Prod.ext a2 ?_))
  have hb : ((fct.all fun f => f (He.frG (HandSHeadRun.getT s) (asS (HandSHeadRun.getT s))))) = true := hb
  have hc : ((fns.all fun d => d.ok (He.frG (HandSHeadRun.getT s) (asS (HandSHeadRun.getT s))))) = true := hc
  show ((fct.all fun f => f (He.frG (HandSHeadRun.getT s) (asS (HandSHeadRun.getT s)))) && (fns.all fun d => d.ok (He.frG (HandSHeadRun.getT s) (asS (HandSHeadRun.getT s)))), _, _) = (true, fns.map He5.DefA.val, supVals)
  rw [hb, hc]
  exact Prod.ext rfl (Prod.ext d1 d2)
theorem law_at {K : PySem.W.Frag} {mg : PySem.Str → Option Value} (T : Txt K mg) {h : Heap} (X : K.In h) (G : h.Ns mainGlobals mg) {fa : Addr} (hm : mg ("law" : PySem.Str) = some (.ref fa)) : He.ga K "law" = fa := by
  have c : PySem.W.nsIn K mainGlobals ("len" : PySem.Str) = some none := He.eqO_ok T.r_f_len
  have e : ∃ o, PySem.W.nsIn K mainGlobals ("law" : PySem.Str) = some o := by
    unfold PySem.W.nsIn at c ⊢
    split at c
    · split at c
      · cases c
      · split at c
        · cases c
        · rename_i hr
          split
          · exact ⟨_, rfl⟩
          · rw [if_neg hr]
            exact ⟨_, rfl⟩
    · cases c
  obtain ⟨o, e⟩ := e
  cases o with
  | none =>
    have q := PySem.W.mg_none_of X G e
    rw [hm] at q
    cases q
  | some v =>
    have q := PySem.W.mg_of X G e
    rw [hm] at q
    have q := Option.some.inj q
    subst q
    unfold He.ga
    rw [e]
theorem law_facts {w : World} {K : PySem.W.Frag} {mg : PySem.Str → Option Value} {h : Heap} {fa : Addr} (X : K.In h) (G : h.Ns mainGlobals mg) (hm : mg ("law" : PySem.Str) = some (.ref fa)) (c : SaysS K) :
    ∃ fd : FuncData, (∀ (s : Shared) (v : Value), BindsTo s fd ⟨[v], []⟩ [("_law_script", v)]) ∧ ∀ base : Heap, FnOk Sg w K mg base CX0 19 fa fd ["_law_script"] (up (sp_law K)) := by
  have T : Txt K mg := ⟨c, h, X, G⟩
  have ea := law_at T X G hm
  subst ea
  obtain ⟨fd, F⟩ := T.fn 42 (d := defOf a_law "law" "law" s_law) rfl
  have b := FunD.bindsA (ps := ["_law_script"]) F fun _ _ _ _ _ _ us hl => match us, hl with | [_], _ => rfl
  refine ⟨fd, fun s v => b s [v] rfl, fun base => ?_⟩
  exact F.ok sc_law (fun vs H Q E h => by obtain ⟨sc, zs, rfl, _⟩ := h; rfl) fun cdv A outer s H vs Q E hr h => by
    obtain ⟨t, h1, h2⟩ := body_law (w := w) (base := base) T cdv A outer s H vs Q hr h
    exact ⟨t, PSs.nox h1, h2⟩
end ST
open PySem PySem.W PySem.Calls PyProof.Rows
theorem PySem.Challenge.cw_signtown_k47_whole_walks_left_holds : PySem.Challenge.rw_signtown_k47_whole_walks_left.Holds := by
  w_on; o_law
  refine HandSHeadRun.head_any (r := OpenLaw.row PySem.Challenge.rw_signtown_k47_whole_walks_left) (q := view (OpenLaw.row PySem.Challenge.rw_signtown_k47_whole_walks_left).prog [107]) (H := ST.hookS) (ob := ST.obT) (M := 20000) (loose := ST.lnAll) (d := HandSHeadRun.topDef (OpenLaw.row PySem.Challenge.rw_signtown_k47_whole_walks_left).prog 107) (kwd := []) ST.obT_eq
    (by kernel_rfl) (fun s => by kernel_rfl) ST.run_all (by kernel_rfl) (by kernel_rfl) (by kernel_rfl) (by rfl) (by first | assumption | decide +kernel) (by decide +kernel) ⟨rfl, rfl, rfl, rfl, rfl, by decide +kernel⟩ ?hw ?hc
  case hw => w_witness2
  case hc =>
    refine L2.walk_ofE (l := PySem.Challenge.rw_signtown_k47_whole_walks_left) (n := 63) (k := 19) (x := "_law_script") (CX := L2.CX0) rfl (by decide) (by kernel_rfl) ⟨rfl, by decide, by decide⟩ ?F (fun _ _ _ _ z => z)
    intro w mg fa h Y G hmg0
    obtain ⟨K, KX, c⟩ := Y
    have hmg : mg ("law" : PySem.Str) = some (.ref fa) := by
      have e : (HandSHeadRun.topDef (OpenLaw.row PySem.Challenge.rw_signtown_k47_whole_walks_left).prog 107).name = ("law" : PySem.Str) := by kernel_rfl
      rw [← e]
      exact hmg0
    obtain ⟨fd, hb, hF⟩ := ST.law_facts (w := w) KX G hmg c
    exact ⟨K, fd, ST.up (ST.sp_law K), KX, hb, fun H a ns hl _ hS => ⟨a, ns, rfl, hS, fun _ _ => rfl⟩, fun base _ _ => hF base⟩
