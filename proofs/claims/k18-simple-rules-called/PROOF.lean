import PyProof.Rows.All
import Wide.All
import OpenK.AllK
import Wide.FinOn
import HandS.ForMost
import HandS.IsInst
import HandS.OwnEq
import KE.KOpsOwn
import KE.KFmtOwn
import KE.KCallOwn
import HandS.ExcInit
import HandS.ExcField
import HandS.Defaults
import HandS.MakeKw
import HandS.MakeKwOnly
import HandS.ExcIs
import HandS.ExcValue
import KE.KExcIs
import HandS.Exc
import HandS.TryOnly
import HandS.OwnIter
import HandS.IterVal
import PyProof.CollectIter
import PyProof.WalksMore
import HandS.Wide
import HandS.Codes
import HandS.Style
import KE.KxIndex
import HandS.Lambda
import HandS.EndTab
import KE.KNestM
import PyProof.EqKinds
import HandS.ClsMeth
import HandS.SetFor
import HandS.Strs
import HandS.Star
import HandS.Property
import HandS.HeadHook1
import HandS.HeadHook2
import HandS.Head2
import HandS.HeadEnd
import HandS.FStr
import HandS.Comp
import HandS.Iter
import PyProof.LongRange
import PyProof.Conv_bool
import OpenK.KOps
import HandS.More
import HandS.DeepEq
import HandS.Conv
import HandS.WordsExc
import HandS.Text
import HandS.Small
import HandS.SortInts
import HandS.Set
import HandS.Deep
import HandS.SortKw
import HandS.List
import KE.DataMinMax
import PyProof.WalkInts
import HandS.Nested
import KE.KSuper
import HandS.TupLe
import HandS.DictComp
import HandS.RaiseMore
import HandS.Flow
import PySem.Challenge.RW_nodeadnight_k18_simple_rules_called
set_option Elab.async false
set_option linter.all false
set_option maxRecDepth 100000
set_option maxHeartbeats 4000000
/-! NBe: operators of own classes: ==, != by __eq__, >> and the like, len, in, str. -/
namespace PySem.W
open PySem PySem.Calls PyProof.Rows
section
variable {prog : Program} {w : World} {A : Around} {E : Value → Shared → Prop} {s : Shared} {K : Frag} {x C L f : Addr} {h₀ : Heap} {m : Str → Option Value} {ox : Obj} {od : Option Obj} {T : String} {b : Value}
/-- an own operator, the other operand of a built-in type that the heap tells -/
theorem nb_binT {op : Operator} {fo ro rc : Option Value} {Q : Value → Shared → Prop} (F : Fr h₀ L s.heap m) (X₀ : K.In h₀) (I : InstAt s.heap x ox C od)
    (hb : Looks (model prog w) s.heap (typeOf b) (.type T)) (hc : selfFirst K C = true)
    (hs : findIn K (.ref C) (PySem.dunder op.info.2) = some (some (.ref f))) (hf : isFn K (.ref f) = true)
    (hr : findIn K (.ref C) (dunderR op.info.2) = some rc) (hp : rc = none ∨ ∃ g : Addr, rc = some (.ref g))
    (h1 : findIn K (.type T) (PySem.dunder op.info.2) = some fo) (h2 : findIn K (.type T) (dunderR op.info.2) = some ro)
    (hsub : subIn K (.type T) (.ref C) = some false)
    (h : wpAny (model prog w) A (call (.ref f) [.ref x, b]) (CmpBack Q) E s) : wpAny (model prog w) A (binaryOp op (.ref x) b) Q E s := by
  have X := X₀.keeps F.keep
  obtain ⟨cd, rest, hcd, hm⟩ := ksp_first hc
  rcases hi : op.info with ⟨sym, nm⟩
  rw [hi] at hs hr h1 h2
  dsimp only at hs hr h1 h2
  have one := ksp_try X I hs hf h
  obtain ⟨hh, g, d, tt, os⟩ := s
  have a1 : Looks (model prog w) hh (typeOf (.ref x)) (.ref C) := I.type
  have a3 : Looks (model prog w) hh (fillsNumberSlot (.ref C) nm) true := fills_K X hcd hm hs
  have a4 : Looks (model prog w) hh (fillsNumberSlot (.type T) nm) ((fo.isSome && !isSeqSlot fo) || (ro.isSome && !isSeqSlot ro)) := ksp_fillsT X h1 h2
  have a5 : Looks (model prog w) hh (isSubtype (.type T) (.ref C)) false := looks_subIn X hsub
  have a6 : Looks (model prog w) hh (numberSlotInPython (.ref C) nm) true := ksp_inPy X hs hr hp
  have a7 : Looks (model prog w) hh (numberSlotInPython (.type T) nm) false := Looks.of_pure rfl
  have a8 : Looks (model prog w) hh (typeLookup (.type T) (dunderR nm)) ro := looks_findIn X h2
  generalize ((fo.isSome && !isSeqSlot fo) || (ro.isSome && !isSeqSlot ro)) = right at a4
  have unlike : (Value.ref C == Value.type T) = false := Bool.eq_false_iff.mpr fun q => by cases beq_iff_eq.mp q
  simp only [binaryOp, hi]
  refine wpAny_holding (wpAny_bind ?_)
  unfold binaryOp1
  refine wpAny_bind (a1.at (wpAny_bind (hb.at (wpAny_bind (a3.at ?_)))))
  simp only [unlike, Bool.false_eq_true, if_false]
  cases right
  all_goals
    ksp_lk
    refine wpAny_mono one (fun r s' hr' => ?_) fun _ _ e => e
    obtain ⟨v, rfl, hq⟩ := hr'
    ksp_lk
    exact hq
theorem nb_ne_bind (self : Value) : bindSpecial (.builtin "object.__ne__") self = pure (.builtin "object.__ne__", [self]) := by
  have h1 : withoutEnding? "object.__ne__" "#opaque" = none := by decide +kernel
  have h2 : withoutEnding? "object.__ne__" "#data" = none := by decide +kernel
  have h3 : builtinKind "object.__ne__" = some .slot := by decide +kernel
  simp only [bindSpecial, typeOf, builtinType, h1, h2, h3]
  rfl
theorem nb_ne_entry : entryFor table "object.__ne__" = some Builtin.«object.__ne__» := entryFor_of_tree (by kernel_rfl)
theorem nb_ne_args (a b : Value) : argsOk "object.__ne__" ⟨[a, b], []⟩ := by unfold argsOk; kernel_rfl
theorem nb_ifB {M : Model} {name : Str} {id : String} {args : List Value} {Q : Option Value → Shared → Prop} (X : K.In s.heap) (I : InstAt s.heap x ox C od) (hs : findIn K (.ref C) name = some (some (.builtin id)))
    (hb : ∀ self, bindSpecial (.builtin id) self = pure (.builtin id, [self])) (h : wpAny M A (call (.builtin id) (.ref x :: args)) (fun v => Q (some v)) E s) : wpAny M A (callSpecialIfBound? (.ref x) name args) Q E s := by
  simp only [callSpecialIfBound?, bindSpecialIfBound?]
  refine wpAny_holding (wpAny_bind (wpAny_bind (wpAny_bind (I.type.here ((looks_findIn X hs).here ?_)))))
  refine wpAny_bind (wpAny_askSetting (wpAny_ite ?_))
  have done : wpAny M A (call (.builtin id) ([.ref x] ++ args) >>= fun v => pure (some v)) Q E s := wpAny_bind (wpAny_mono h (fun v s' h' => wpAny_pure h') fun _ _ h' => h')
  split
  · exact wpAny_bind ((Looks.of_pure (hb _)).here (wpAny_pure (by exact done)))
  · exact wpAny_tryCatch (wpAny_bind ((Looks.of_pure (hb _)).here (wpAny_pure (by exact done))))
/-- what != makes of the answer of an own == -/
def NeBack (Q : Bool → Shared → Prop) (v : Value) (s' : Shared) : Prop := match v with
  | .bool k => Q k s'
  | _ => False
/-- x != b by an own == -/
theorem nb_ne {tb : Value} {Q : Value → Shared → Prop} (hu : A.units + 1 < cLine) (F : Fr h₀ L s.heap m) (X₀ : K.In h₀) (I : InstAt s.heap x ox C od) (hb : Looks (model prog w) s.heap (typeOf b) tb) (hn : notFirst K C tb = true)
    (hne : findIn K (.ref C) "__ne__" = some (some (.builtin "object.__ne__"))) (hm : mroIn K C (.type "object") = some true) (hs : findIn K (.ref C) "__eq__" = some (some (.ref f))) (hf : isFn K (.ref f) = true)
    (h : wpAny (model prog w) A.in1 (call (.ref f) [.ref x, b]) (NeBack fun k s' => Q (.bool (!k)) s') E s) : wpAny (model prog w) A (richCompare .NotEq (.ref x) b) Q E s := by
  have X := X₀.keeps F.keep
  have inner : wpAny (model prog w) A (call (.builtin "object.__ne__") [.ref x, b]) (fun v s' => ∃ k, v = .bool k ∧ Q (.bool k) s') E s := by
    refine wpAny_call (codeAny_call_builtin (by decide +kernel) nb_ne_entry (check_slot (i := "object.__ne__") (owner := "object") (n := "__ne__") (by decide +kernel) (by decide +kernel) (I.type.andThen (looks_mroIn X hm)) (nb_ne_args _ _) ?_))
    unfold Builtin.«object.__ne__»
    refine wpAny_bind (wpAny_of_eq (a := ((Value.ref x : Value), [b])) (by first | rfl | (simp only [Builtin.slotArgs]; rfl)) ?_)
    refine wpAny_bind (wpAny_cRoomFor (by show A.units + 1 < cLine; omega) ?_)
    refine wpAny_bind (ifBound_K X I hs hf (wpAny_mono h (fun v s' hv => ?_) fun _ _ e => e))
    cases v <;> first | exact hv.elim | skip
    rename_i k
    show wpAny _ _ (truthy (.bool k) >>= fun r => ret (.bool !r)) _ _ _
    wp_walk
    exact ⟨_, rfl, hv⟩
  have one : wpAny (model prog w) A (tryCompare (.ref x) "__ne__" b) (fun r s' => ∃ k, r = some (.bool k) ∧ Q (.bool k) s') E s := by
    unfold tryCompare
    refine wpAny_bind (nb_ifB X I hne nb_ne_bind (wpAny_mono inner (fun v s' hv => ?_) fun _ _ e => e))
    obtain ⟨k, rfl, hq⟩ := hv
    exact wpAny_pure ⟨k, rfl, hq⟩
  unfold richCompare
  simp only [oneThing_ref]
  refine wpAny_holding (wpAny_bind (wpAny_cRoomFor (by omega) ?_))
  refine wpAny_bind (I.type.here (wpAny_bind (hb.here ?_)))
  split
  · rename_i q
    have e : subIn K tb (.ref C) = some false := by
      rcases Bool.or_eq_true_iff.mp hn with e | e
      · rw [beq_iff_eq.mp e] at q
        simp at q
      · exact beq_iff_eq.mp e
    refine wpAny_bind ((looks_subIn X e).here ?_)
    simp only [Bool.false_eq_true, if_false]
    refine wpAny_bind (wpAny_mono one (fun r s' z => ?_) fun _ _ e => e)
    obtain ⟨k, rfl, hq⟩ := z
    exact wpAny_pure hq
  · refine wpAny_bind (wpAny_pure ?_)
    simp only [Bool.false_eq_true, if_false]
    refine wpAny_bind (wpAny_mono one (fun r s' z => ?_) fun _ _ e => e)
    obtain ⟨k, rfl, hq⟩ := z
    exact wpAny_pure hq
end
end PySem.W
/-! NBf: the layer's rules for operators of own classes. -/
namespace NB
open PySem PySem.Spec L2
/-- a method of an own class and its promise -/
structure OwnM (X : Cx) (CX : CXT) (k : Nat) (C : Addr) (m : Str) (sp : Sp) : Prop where
  ex : ∃ (f : Addr) (fd : FuncData) (ps : List Str), FnOk X.prog X.w X.K X.mg X.base CX k f fd ps sp ∧ Binds X.K fd ps [] ∧ PySem.W.findIn X.K (.ref C) m = some (some (.ref f)) ∧ PySem.W.isFn X.K (.ref f) = true
section
variable {X : Cx} {CX : CXT} {k : Nat} {C f : Addr} {fd : FuncData} {ps : List Str} {sp : Sp} {E : XK} {pins : List (Addr × Obj)} {σ : L2.St} {H : Hp} {s : Shared} {A : Around}
theorem run_at (F : FnOk X.prog X.w X.K X.mg X.base CX k f fd ps sp) (sb : Sub X k A) (hb : Binds X.K fd ps []) (hx : Passes CX X E) (I : Inv X pins σ H s) {us : List Value} {vs : List V} {Q : VK} (r : Vals vs us) (h : sp vs H Q E) :
    wpAny (model X.prog X.w) A (call (.ref f) us) (EP X pins σ Q) X.xe s := by
  have e0 : Env0 X.prog X.w X.K X.mg X.base A X.stack s H := by
    have e := I.env0
    exact ⟨sb.fr.trans e.frames, e.mod, e.bs, e.bsz, e.funs, e.frf, e.hok, e.bare⟩
  have hl : us.length = ps.length := r.length.symm.trans (F.len _ _ _ _ h)
  have bd := hb s us I.kIn (by rw [List.append_nil]; exact hl)
  rw [List.append_nil] at bd
  refine wpAny_call (codeAny_mono (F.run A X.stack s H ⟨us, []⟩ us vs Q E sb.room e0 bd r h) ?_)
  intro r s' hq
  match r, hq with
  | .error e, hq => exact hx pins σ H s e s' I hq
  | .ok (.ret u), hq => exact I.after hq
theorem rel_ref {a : Addr} : RelV (.ref a) (Value.ref a) := rfl
theorem inst_of (I : Inv X pins σ H s) {a dx : Addr} {fs : List (Str × V)} (h : H a = some (.ins C dx fs)) : ∃ (ox : Obj) (od : Option Obj), PySem.W.InstAt s.heap a ox C od := by
  obtain ⟨mA, J, _⟩ := ins_get I.hok h
  obtain ⟨od, J, _⟩ := J.look
  exact ⟨_, _, J⟩
/-- x == y by x's own __eq__ -/
def rEqO (K : PySem.W.Frag) (C : Addr) (sp : Sp) (E : XK) : R2 := fun x y H Q => ∃ (a dx : Addr) (fs : List (Str × V)) (t : Value),
  x = .ref a ∧ H a = some (.ins C dx fs) ∧ TyX K H y t ∧ PySem.W.notFirst K C t = true ∧ sp [x, y] H (fun v H' => ∃ b, v = .bl b ∧ Q (.bl b) H') E
theorem op_eqO (M : OwnM X CX k C "__eq__" sp) (hr : Room k X.A) (hx : Passes CX X E) : OpR X (compareOp .Eq) (rEqO X.K C sp E) := by
  intro pins s σ H x y u v Q I rx ry h
  obtain ⟨f, fd, ps, F, hb, hs, hf⟩ := M.ex
  obtain ⟨a, dx, fs, t, rfl, ha, ty, nf, q⟩ := h
  obtain ⟨ox, od, J⟩ := inst_of I ha
  obtain ⟨Pt, Z, pt, _⟩ := kit_of I ry ty
  obtain ⟨m, hF⟩ := I.fr
  have rx' := rx
  cases rx'
  refine PySem.W.cmp_K (op := .Eq) (tb := t) hr.units0 hF I.ok.mod.kin J (Z.ty _ _ I.kIn pt) nf hs hf (wpAny_mono (run_at F ⟨hr, rfl⟩ hb hx I (.cons rel_ref (.cons ry .nil)) q) ?_ fun _ _ z => z)
  rintro w s' ⟨z, H', I', rz, b, rfl, qb⟩
  cases rz
  exact ⟨.bl b, H', I', rfl, qb⟩
/-- x != y -/
def rNeO (K : PySem.W.Frag) (C : Addr) (sp : Sp) (E : XK) : R2 := fun x y H Q => ∃ (a dx : Addr) (fs : List (Str × V)) (t : Value),
  x = .ref a ∧ H a = some (.ins C dx fs) ∧ TyX K H y t ∧ PySem.W.notFirst K C t = true ∧ sp [x, y] H (fun v H' => ∃ b, v = .bl b ∧ Q (.bl (!b)) H') E
theorem op_neO (M : OwnM X CX k C "__eq__" sp) (hr : Room (k + 1) X.A) (hx : Passes CX X E) (hne : PySem.W.findIn X.K (.ref C) "__ne__" = some (some (.builtin "object.__ne__"))) (hm : PySem.W.mroIn X.K C (.type "object") = some true) :
    OpR X (compareOp .NotEq) (rNeO X.K C sp E) := by
  intro pins s σ H x y u v Q I rx ry h
  obtain ⟨f, fd, ps, F, hb, hs, hf⟩ := M.ex
  obtain ⟨a, dx, fs, t, rfl, ha, ty, nf, q⟩ := h
  obtain ⟨ox, od, J⟩ := inst_of I ha
  obtain ⟨Pt, Z, pt, _⟩ := kit_of I ry ty
  obtain ⟨m, hF⟩ := I.fr
  have rx' := rx
  cases rx'
  refine PySem.W.nb_ne (tb := t) (by have := hr.units; omega) hF I.ok.mod.kin J (Z.ty _ _ I.kIn pt) nf hne hm hs hf (wpAny_mono (run_at F ⟨hr.in1, rfl⟩ hb hx I (.cons rel_ref (.cons ry .nil)) q) ?_ fun _ _ z => z)
  rintro w s' ⟨z, H', I', rz, b, rfl, qb⟩
  cases rz
  exact ⟨.bl (!b), H', I', rfl, qb⟩
/-- what the class and the operand's type must say for an own operator -/
structure BinT (K : PySem.W.Frag) (C : Addr) (op : Operator) (T : String) : Prop where
  hc : PySem.W.selfFirst K C = true
  hr : PySem.W.findIn K (.ref C) (dunderR op.info.2) = some none
  h1 : ∃ fo, PySem.W.findIn K (.type T) (PySem.dunder op.info.2) = some fo
  h2 : ∃ ro, PySem.W.findIn K (.type T) (dunderR op.info.2) = some ro
  hs : PySem.W.subIn K (.type T) (.ref C) = some false
/-- the answer is no NotImplemented -/
def rBinO (K : PySem.W.Frag) (C : Addr) (op : Operator) (sp : Sp) (E : XK) : R2 := fun x y H Q => ∃ (a dx : Addr) (fs : List (Str × V)) (T : String),
  x = .ref a ∧ H a = some (.ins C dx fs) ∧ TyX K H y (.type T) ∧ BinT K C op T ∧ sp [x, y] H (fun v H' => Q v H') E
theorem rel_noNI {v : V} {u : Value} (r : RelV v u) : u ≠ .notImplemented := by
  intro z
  subst z
  cases v
  · cases r
  · cases r
  · obtain ⟨t, e⟩ := r; cases e
  · obtain ⟨t, e⟩ := r; cases e
  · obtain ⟨t, e⟩ := r; cases e
  · obtain ⟨t, e⟩ := r; cases e
  · cases r
  · cases r
theorem op_binO {op : Operator} (M : OwnM X CX k C (PySem.dunder op.info.2) sp) (hr : Room k X.A) (hx : Passes CX X E) : OpR X (binaryOp op) (rBinO X.K C op sp E) := by
  intro pins s σ H x y u v Q I rx ry h
  obtain ⟨f, fd, ps, F, hb, hs, hf⟩ := M.ex
  obtain ⟨a, dx, fs, T, rfl, ha, ty, B, q⟩ := h
  obtain ⟨ox, od, J⟩ := inst_of I ha
  obtain ⟨Pt, Z, pt, _⟩ := kit_of I ry ty
  obtain ⟨m, hF⟩ := I.fr
  obtain ⟨fo, h1⟩ := B.h1
  obtain ⟨ro, h2⟩ := B.h2
  have rx' := rx
  cases rx'
  refine PySem.W.nb_binT hF I.ok.mod.kin J (Z.ty _ _ I.kIn pt) B.hc hs hf B.hr (.inl rfl) h1 h2 B.hs (wpAny_mono (run_at F ⟨hr, rfl⟩ hb hx I (.cons rel_ref (.cons ry .nil)) q) ?_ fun _ _ z => z)
  rintro w s' ⟨z, H', I', rz, qb⟩
  have e : EP X pins σ Q w s' := ⟨z, H', I', rz, qb⟩
  have n := rel_noNI rz
  cases w <;> first | exact e | exact absurd rfl n
/-- the other operand of the same class -/
def rBinS (K : PySem.W.Frag) (C : Addr) (sp : Sp) (E : XK) : R2 := fun x y H Q => ∃ (a dx b dy : Addr) (fs gs : List (Str × V)),
  x = .ref a ∧ H a = some (.ins C dx fs) ∧ y = .ref b ∧ H b = some (.ins C dy gs) ∧ sp [x, y] H (fun v H' => Q v H') E
/-- len(o) -/
def rLenO (C : Addr) (sp : Sp) (E : XK) : List V → Hp → VK → Prop := fun xs H Q => ∃ (a dx : Addr) (fs : List (Str × V)), xs = [.ref a] ∧ H a = some (.ins C dx fs) ∧ sp xs H (fun v H' => ∃ n : Int, v = .int n ∧ 0 ≤ n ∧ n < 2 ^ 63 ∧ Q (.int n) H') E
theorem call_lenO (M : OwnM X CX k C "__len__" sp) (hr : Room (k + 1) X.A) (hx : Passes CX X E) : CallR X (.builtin "len") (rLenO C sp E) := by
  intro pins s σ H xs us Q I r h
  obtain ⟨f, fd, ps, F, hb, hs, hf⟩ := M.ex
  obtain ⟨a, dx, fs, rfl, ha, q⟩ := h
  obtain ⟨ox, od, J⟩ := inst_of I ha
  obtain ⟨m, hF⟩ := I.fr
  obtain ⟨u, rfl, ru⟩ := vals1 r
  cases ru
  refine PySem.W.len_K hF I.ok.mod.kin J hs hf (wpAny_mono (run_at F ⟨hr.in1, rfl⟩ hb hx I (.cons rel_ref .nil) q) ?_ fun _ _ z => z)
  rintro w s' ⟨z, H', I', rz, n, rfl, n0, n1, qb⟩
  obtain ⟨t, rfl⟩ := rz
  exact ⟨⟨n0, n1⟩, .int n, H', I'.tok _, ⟨_, rfl⟩, qb⟩
/-- v in o -/
def rInO (C : Addr) (sp : Sp) (E : XK) : R2 := fun v x H Q => ∃ (a dx : Addr) (fs : List (Str × V)), x = .ref a ∧ H a = some (.ins C dx fs) ∧ sp [x, v] H (fun z H' => ∃ b, z = .bl b ∧ Q (.bl b) H') E
theorem op_inO (M : OwnM X CX k C "__contains__" sp) (hr : Room k X.A) (hx : Passes CX X E) : OpR X (compareOp .In) (rInO C sp E) := by
  intro pins s σ H x y u v Q I rx ry h
  obtain ⟨f, fd, ps, F, hb, hs, hf⟩ := M.ex
  obtain ⟨a, dx, fs, rfl, ha, q⟩ := h
  obtain ⟨ox, od, J⟩ := inst_of I ha
  obtain ⟨m, hF⟩ := I.fr
  have ry' := ry
  cases ry'
  refine PySem.W.in_K hF I.ok.mod.kin J hs hf (wpAny_mono (run_at F ⟨hr, rfl⟩ hb hx I (.cons rel_ref (.cons rx .nil)) q) ?_ fun _ _ z => z)
  rintro w s' ⟨z, H', I', rz, b, rfl, qb⟩
  cases rz
  wp_walk
  exact ⟨.bl b, H', I', rfl, qb⟩
/-- str(o) -/
def rStrO (C : Addr) (sp : Sp) (E : XK) : List V → Hp → VK → Prop := fun xs H Q => ∃ (a dx : Addr) (fs : List (Str × V)), xs = [.ref a] ∧ H a = some (.ins C dx fs) ∧ sp xs H (fun v H' => ∃ z : Str, v = .str z ∧ Q (.str z) H') E
theorem call_strO (M : OwnM X CX k C "__str__" sp) (hr : Room (k + 2) X.A) (hx : Passes CX X E) : CallR X (.type "str") (rStrO C sp E) := by
  intro pins s σ H xs us Q I r h
  obtain ⟨f, fd, ps, F, hb, hs, hf⟩ := M.ex
  obtain ⟨a, dx, fs, rfl, ha, q⟩ := h
  obtain ⟨ox, od, J⟩ := inst_of I ha
  obtain ⟨u, rfl, ru⟩ := vals1 r
  cases ru
  refine PySem.W.kso_call (by have := hr.units; show X.A.units + 1 + 1 < cLine; omega) I.kIn J hs hf (wpAny_mono (run_at F ⟨hr.in1.in1, rfl⟩ hb hx I (.cons rel_ref .nil) q) ?_ fun _ _ z => z)
  rintro w s' ⟨z, H', I', rz, y, rfl, qb⟩
  obtain ⟨t, rfl⟩ := rz
  exact ⟨.str y, H', I', ⟨_, rfl⟩, qb⟩
end
end NB
/-! NBa: defs that may show containers (repr): a promise over the surroundings in which nothing is being shown. -/
namespace NB
open PySem PySem.Spec PyProof.Rows L2

/-- the promise of a def where no repr is under way -/
structure FnG (P : Program) (w : World) (K : PySem.W.Frag) (mg : Str → Option Value) (base : Heap)
    (CX : CXT) (k : Nat) (f : Addr) (fd : FuncData) (ps : List Str) (sp : Sp) : Prop where
  len : ∀ vs H Q E, sp vs H Q E → vs.length = ps.length
  run : ∀ (A : Around) (outer : List Env) (s : Shared) (H : Hp) (args : Args) (us : List Value) (vs : List V) (Q : VK) (E : XK),
    Room k A → A.guards = some [] → Env0 P w K mg base A outer s H → BindsTo s fd args (ps.zip us) →
    Vals vs us → sp vs H Q E → codeAny (model P w) A (.call (.ref f) args) (CR CX outer P w H s Q E) s

section
variable {CX : CXT} {P : Program} {w : World} {K : PySem.W.Frag} {mg : Str → Option Value} {base : Heap}
theorem FnG.of {k : Nat} {f : Addr} {fd : FuncData} {ps : List Str} {sp : Sp} (F : FnOk P w K mg base CX k f fd ps sp) :
    FnG P w K mg base CX k f fd ps sp :=
  ⟨F.len, fun A o s H ar us vs Q E hr _ => F.run A o s H ar us vs Q E hr⟩

theorem fnG_of {k : Nat} {f : Addr} {name qual : Str} {params : Arguments} {body : List Stmt} {scope : Scope}
    {dV kV doc pm cdv ct oc : Value} {an od : Option Addr} {osl : Array (Option Value)} {N ps : List Str} {sp : Sp}
    (lk : K.lookup f = some ⟨oc, od, .func (PySem.W.fnOf name qual params body scope dV kV doc pm an cdv ct), osl⟩)
    (hcd : PySem.W.codeIn K cdv qual = true) (S : FnScope N ps scope)
    (len : ∀ vs H Q E, sp vs H Q E → vs.length = ps.length)
    (hbody : ∀ (A : Around) (outer : List Env) (s : Shared) (H : Hp) (vs : List V) (Q : VK) (E : XK),
      Room k (A.deeper (envOfC qual scope s.heap.objs.size f cdv)) → A.guards = some [] → sp vs H Q E →
      ∃ t, PSs (cxOf CX P w K mg base N qual scope f cdv A outer s H E) body t ∧
        t { nx := fun _ H' => Q .non H', rt := Q } (start N vs) H) :
    FnG P w K mg base CX (k + 1) f (PySem.W.fnOf name qual params body scope dV kV doc pm an cdv ct) ps sp := by
  refine ⟨len, ?_⟩
  intro A outer s H args us vs Q E room gd env bd rel hsp
  have inK : K.In s.heap := env.mod.kin.keeps (fun b o e => (env.bs b o e).1)
  have noLim : s.heap.NoLimit := env.mod.nolimit.keeps (fun b o e => (env.bs b o e).1)
  have kinds : ∀ y ∈ ps.zip us, scope.names.lookup y.1 = some .local ∨
      (scope.names.lookup y.1 = some .cell ∧
        ((cellsFrom (s.heap.objs.size + 1) scope.names []).lookup y.1).isSome = true) := by
    rintro ⟨n, v⟩ hy
    rcases S.par n (List.of_mem_zip hy).1 with z | z
    · exact Or.inl z
    · exact Or.inr ⟨z, PySem.W.cellsFrom_some _ _ _ (Or.inl z)⟩
  refine codeAny_call_function room.depth (inK _ _ lk) rfl S.co S.gen rfl (PySem.W.codeRec_of inK hcd)
    (bd _ _ _ _ (wpAny_newFunctionEnv_cells S.kind kinds fun env' he s1 x => ?_))
  subst he
  refine ⟨noLim.keeps x.toInCall.keep, codeAny_func ?_⟩
  obtain ⟨t, ht, hq⟩ := hbody A outer s H vs Q E (room.deeper _) gd hsp
  have I0 := inv_start (CX := CX) (E := E) S room.hd env (len _ _ _ _ hsp) rel x
  refine wpAny_mono (ht.run [] s1 (start N vs) H _ I0 hq) ?_ (fun e s' z => z)
  intro fl s' hs
  match fl, hs with
  | .ret u, ⟨v, σ', H', J, rv, q⟩ => exact ⟨v, H', J.os, J.bare, J.base, J.hok, rv, q⟩
  | .next, ⟨σ', H', J, q⟩ => exact ⟨V.non, H', J.os, J.bare, J.base, J.hok, rfl, q⟩
  | .brk, ⟨_, _, _, q⟩ => exact q.elim
  | .cont, ⟨_, _, _, q⟩ => exact q.elim

theorem okG {x qual : Str} {st : Stmt} {f : Addr} {fd : FuncData} {N ps : List Str} {k : Nat} {sp : Sp}
    (F : Fun K x qual st f fd) (S : FnScope N ps (defScope st)) (len : ∀ vs H Q E, sp vs H Q E → vs.length = ps.length)
    (hbody : ∀ (cdv : Value) (A : Around) (outer : List Env) (s : Shared) (H : Hp) (vs : List V) (Q : VK) (E : XK),
      Room k (A.deeper (envOfC qual (defScope st) s.heap.objs.size f cdv)) →
      (A.deeper (envOfC qual (defScope st) s.heap.objs.size f cdv)).guards = some [] → sp vs H Q E →
      ∃ t, PSs (cxOf CX0 P w K mg base N qual (defScope st) f cdv A outer s H E).nox (defBody st) t ∧
        t { nx := fun _ H' => Q .non H', rt := Q } (start N vs) H) :
    FnG P w K mg base CX0 (k + 1) f fd ps sp := by
  obtain ⟨oc, od, kV, doc, pm, an, cdv, ct, osl, rfl, lk, hcd⟩ := F.ex
  refine fnG_of lk hcd S len ?_
  intro A outer s H vs Q E room gd hsp
  obtain ⟨t, h, q⟩ := hbody cdv A outer s H vs Q E room gd hsp
  exact ⟨t, h.nox, q⟩
end

section
variable {X : Cx} {CX : CXT} {k : Nat} {f : Addr} {fd : FuncData} {ps : List Str} {sp : Sp} {ds : List Value} {dvs : List V} {E : XK} {x : Str} {e : Expr} {es : List Expr} {t : TA} {p pos : Pos}
/-- f(e, ..), f a def that shows -/
theorem pe_callG (F : FnG X.prog X.w X.K X.mg X.base CX k f fd ps sp) (hr : Room k X.A) (gd : X.A.guards = some [])
    (hg : Gl X x) (hm : X.mg x = some (.ref f)) (hk : PySem.W.keepIn X.K (.ref f) = true) (hb : Binds X.K fd ps ds)
    (hd : Vals dvs ds) (hx : Passes CX X E) (ha : PA X (e :: es) t) (hdb : (x == ("__debug__" : Str)) = false := by decide)
    (he : starEach (e :: es) X.env = (false, eval e X.env) :: starEach es X.env := by rfl)
    (hpl : (backTo pos (starEach es X.env)).any (·.1) = false := by rfl) :
    PE X (.Call (.Name x p) (e :: es) [] pos) (tCall sp dvs E t) := by
  constructor
  intro pins s σ H Q I h
  refine wpAny_Call_Name_kw (ld_glob I hg hm ?_ hdb)
  refine PySem.W.callWith_K (h₀ := X.base) I.ok.mod.kin hk (thn (ha.run pos pins s σ H _ I h) ?_) he hpl
  rintro us s1 ⟨vs, H1, I1, r, q⟩
  refine ⟨I1.kIn, ?_⟩
  have r2 : Vals (vs ++ dvs) (us ++ ds) := r.append hd
  have hl : (us ++ ds).length = ps.length := r2.length.symm.trans (F.len _ _ _ _ q)
  refine wpAny_call (codeAny_mono (F.run X.A X.stack s1 H1 ⟨us, []⟩ (us ++ ds) (vs ++ dvs) Q E hr gd I1.env0 (hb s1 us I1.kIn hl) r2 q) ?_)
  intro r s' hq
  match r, hq with
  | .error e, hq => exact hx pins σ H1 s1 e s' I1 hq
  | .ok (.ret u), hq => exact I1.after hq
end

/-- the law's own call -/
theorem law_callG {P : Program} {w : World} {K : PySem.W.Frag} {mg mb : Str → Option Value} {k : Nat} {fa a : Addr} {fd : FuncData} {x : Str} {sp : Sp}
    {s₁ : Shared} {vs : List Value} {ns : List Int} (KX : K.In s₁.heap) (hns : s₁.heap.Ns mainGlobals mg) (hb : s₁.heap.Ns builtinsNs mb)
    (hbb : ∀ x : Str, x ≠ "__name__" → mb x = bootBuiltins x) (hlim : s₁.heap.NoLimit) (hg : s₁.gens = #[])
    (ha : s₁.heap.get? a = some { cls := .type "list", data := .seq vs.toArray }) (hi : IntsAre vs ns) (hl : ns.length ≤ sizeLine) (hr : Room k callerA)
    (F : ∀ base : Heap, K.In base → base.Ns mainGlobals mg → FnG P w K mg base CX0 k fa fd [x] sp)
    (hbind : ∀ (s : Shared) (u : Value), BindsTo s fd ⟨[u], []⟩ [(x, u)])
    (hsp : ∀ H : Hp, Only H → SqL K H a (ns.map V.int) → sp [.ref a] H (fun v _ => v = .bl true) fun _ _ _ => False) :
    codeAny (model P w) callerA (.call (.ref fa) ⟨[.ref a], []⟩)
      (fun r s' => r = .ok (.ret (.bool true)) ∧ OldK s₁.heap s'.heap ∧ s'.os = s₁.os ∧ AllBare s'.gens) s₁ := by
  -- whatever is tracked at the entry is the script alone
  have main : ∀ H : Hp, Only H → SqL K H a (ns.map V.int) → HOk P w H s₁.heap → (∀ b, H b ≠ none → b = a) → (H a ≠ none → K.lookup a = none) →
      codeAny (model P w) callerA (.call (.ref fa) ⟨[.ref a], []⟩)
        (fun r s' => r = .ok (.ret (.bool true)) ∧ OldK s₁.heap s'.heap ∧ s'.os = s₁.os ∧ AllBare s'.gens) s₁ := by
    intro H only hS hok one hK
    have isA : ∀ {b : Addr} {u : HO}, H b = some u → b = a := fun {b u} q => one b (by rw [q]; exact Option.some_ne_none u)
    have dictFree : ∀ {b : Addr} {o : Obj} {es : Array DictEntry} {ep : Nat}, s₁.heap.get? b = some o → o.data = .dict es ep → H b = none := by
      intro b o es ep e d
      cases q : H b with
      | none => rfl
      | some u =>
        have z := isA q
        rw [z, ha] at e
        have e' := Option.some.inj e
        rw [← e'] at d
        exact absurd d (by intro y; cases y)
    have nsK : ∀ {b : Addr} {m : Str → Option Value}, s₁.heap.Ns b m → (hidT s₁.heap H).Ns b m := by
      rintro b m ⟨o, es, ep, e, d, r⟩
      exact ⟨o, es, ep, hidT_get e (dictFree e d), d, r⟩
    have kInB : K.In (hidT s₁.heap H) := by
      intro b o e
      refine hidT_get (KX b o e) ?_
      cases q : H b with
      | none => rfl
      | some u =>
        have z := isA q
        rw [z] at q e
        rw [hK (by rw [q]; exact Option.some_ne_none u)] at e
        cases e
    have md : Mod K mg (hidT s₁.heap H) := ⟨kInB, nsK hns, ⟨mb, nsK hb, hbb⟩, by obtain ⟨mc, h1, h2⟩ := hlim; exact ⟨mc, nsK h1, h2⟩⟩
    have e0 : Env0 P w K mg (hidT s₁.heap H) callerA [] s₁ H :=
      ⟨rfl, md, fun b o e => of_hidT e, Nat.le_of_eq (hidT_size _ _), trivial, fun b z => (List.not_mem_nil z).elim, hok, .of_eq hg⟩
    have goal := (F _ kInB (nsK hns)).run callerA [] s₁ H ⟨[.ref a], []⟩ [.ref a] [.ref a] _ _ hr rfl e0 (hbind s₁ (.ref a)) (.cons rfl .nil) (hsp H only hS)
    refine codeAny_mono goal ?_
    intro r s' h
    match r, h with
    | .ok (.ret u), ⟨v, H', os, bare, un, hok', r', q⟩ =>
      have q' : v = .bl true := q
      subst q'
      obtain rfl : u = Value.bool true := r'
      refine ⟨rfl, OldK.of_keep ?_, os, bare⟩
      intro b o e
      cases q : H b with
      | none => exact un.keep b o e q (fun z => (List.not_mem_nil z).elim) (fun z => (List.not_mem_nil z).elim)
      | some u =>
        rcases only b with z | ⟨ob, xs, z⟩
        · rw [z] at q
          cases q
        · obtain ⟨e1, _⟩ := hok b _ z
          obtain ⟨e2, _⟩ := hok' b _ (un.frzs b ob _ z)
          exact e2.trans (e1.symm.trans e)
  have rv := vals_ints hi
  cases hk : K.lookup a with
  | some o =>
    have e := KX a o hk
    rw [ha] at e
    have e' := Option.some.inj e
    subst e'
    refine main (fun _ => none) (fun _ => .inl rfl) (.inr ⟨_, vs.toArray, _, hk, rfl, rfl, rfl, ?_, ?_⟩) (fun b u z => ?_) (fun b z => (z rfl).elim) (fun z => (z rfl).elim)
    · rw [List.size_toArray, hi.length]
      exact hl
    · simpa using rv
    · exact absurd z (by intro y; cases y)
  | none =>
    have at_ : ∀ b, (fun b : Addr => if b = a then some (HO.frz { cls := .type "list", data := .seq vs.toArray } (.lst (ns.map V.int))) else none) b ≠ none → b = a := by
      intro b z
      by_cases hb : b = a
      · exact hb
      · exact absurd (if_neg hb) z
    refine main (fun b => if b = a then some (HO.frz { cls := .type "list", data := .seq vs.toArray } (.lst (ns.map V.int))) else none) (fun b => ?_)
      (.inl (.inr ⟨_, if_pos rfl⟩)) (fun b u z => ?_) at_ (fun _ => hk)
    · by_cases hb : b = a
      · exact .inr ⟨_, _, if_pos hb⟩
      · exact .inl (if_neg hb)
    · have hb := at_ b (by rw [z]; exact Option.some_ne_none u)
      have z' := (if_pos hb).symm.trans z
      have z2 := Option.some.inj z'
      subst z2
      rw [hb]
      exact ⟨ha, by rw [List.length_map]; exact hl, vs, _, rv, ha⟩

theorem walk_ofG {l : PySem.W.OpenLaw} {n k : Nat} {q : Program} {loose : List Str} {XP : (Str → Option Value) → Heap → Prop} {YP : World → Heap → Prop}
    {d : DefRec} {K : Params → PySem.W.Frag} {sp : PySem.W.Frag → Sp} {x : Str}
    (hn : l.most = some n) (hn2 : n ≤ sizeLine) (hdf : d.params.defaults = []) (hr : Room k callerA)
    (hY : ∀ (w : World) (h : Heap), YP w h → (K w.params).In h)
    (F : ∀ (w : World) (mg : Str → Option Value) (fa : Addr) (h : Heap), (K w.params).In h → h.Ns mainGlobals mg → mg d.name = some (.ref fa) →
      ∃ fd : FuncData, (∀ (s : Shared) (u : Value), BindsTo s fd ⟨[u], []⟩ [(x, u)]) ∧
        ∀ base : Heap, (K w.params).In base → base.Ns mainGlobals mg →
          FnG l.prog w (K w.params) mg base CX0 k fa fd [x] (sp (K w.params)))
    (hsp : ∀ (K : PySem.W.Frag) (H : Hp) (a : Addr) (ns : List Int), ns.length ≤ n → Only H → SqL K H a (ns.map V.int) →
      sp K [.ref a] H (fun v _ => v = .bl true) fun _ _ _ => False) :
    PySem.W.WalkO q loose XP YP l.row.toRowW d [] (fun f vs => PySem.call f vs) := by
  refine Att.attach_call hn hdf ?_
  intro w s₀ s₁ mg mb fa o pm cd doc a vs ns G Y ho hd hcd hmg hobj hints hlen hg
  obtain ⟨fd, hb, hF⟩ := F w mg fa _ (hY w _ Y) G.T.g hmg
  exact law_callG (hY w _ Y) G.T.g G.T.b G.T.builtins G.T.nolimit hg hobj hints (Nat.le_trans hlen hn2) hr hF hb
    (fun H hO hS => hsp (K w.params) H a ns hlen hO hS)
end NB
/-! NBb: repr of data (dicts too) in the layer. -/
namespace NB
open PySem PySem.Spec PyProof.Rows L2

def keyD : Key → PyData
  | .inl i => .int i
  | .inr x => .str x
mutual
inductive DR (K : PySem.W.Frag) (H : Hp) : V → PyData → Prop
  | non : DR K H .non .none
  | bl (b : Bool) : DR K H (.bl b) (.bool b)
  | int (i : Int) : DR K H (.int i) (.int i)
  | str (x : Str) : DR K H (.str x) (.str x)
  | lst {a : Addr} {xs : List V} {ds : List PyData} : a ≠ sysModules → SqL K H a xs → DRs K H xs ds → DR K H (.ref a) (.list ds)
  | tup {a : Addr} {xs : List V} {ds : List PyData} : SqT K H a xs → DRs K H xs ds → DR K H (.ref a) (.tuple ds)
  | dct {a : Addr} {kvs : List (Key × V)} {ds : List PyData} : H a = some (.dK kvs) → DRs K H (kvs.map (·.2)) ds →
      DR K H (.ref a) (.dict ((kvs.map fun p => keyD p.1).zip ds))
inductive DRs (K : PySem.W.Frag) (H : Hp) : List V → List PyData → Prop
  | nil : DRs K H [] []
  | cons {v : V} {vs : List V} {d : PyData} {ds : List PyData} : DR K H v d → DRs K H vs ds → DRs K H (v :: vs) (d :: ds)
end

/-- what stands stays readable where all that is tracked is kept -/
theorem sq_keep {K : PySem.W.Frag} {H H' : Hp} (e : ∀ a o, H a = some o → H' a = some o) {a : Addr} {xs : List V} (h : SqL K H a xs) : SqL K H' a xs := by
  rcases h with (h | ⟨o, h⟩) | h
  · exact Or.inl (Or.inl (e _ _ h))
  · exact Or.inl (Or.inr ⟨o, e _ _ h⟩)
  · exact Or.inr h
theorem st_keep {K : PySem.W.Frag} {H H' : Hp} (e : ∀ a o, H a = some o → H' a = some o) {a : Addr} {xs : List V} (h : SqT K H a xs) : SqT K H' a xs := by
  rcases h with (h | ⟨o, h⟩) | h
  · exact Or.inl (Or.inl (e _ _ h))
  · exact Or.inl (Or.inr ⟨o, e _ _ h⟩)
  · exact Or.inr h
mutual
theorem DR.keep {K : PySem.W.Frag} {H H' : Hp} (e : ∀ a o, H a = some o → H' a = some o) : ∀ {v : V} {d : PyData}, DR K H v d → DR K H' v d
  | _, _, .non => .non
  | _, _, .bl b => .bl b
  | _, _, .int i => .int i
  | _, _, .str x => .str x
  | _, _, .lst n h r => .lst n (sq_keep e h) (DRs.keep e r)
  | _, _, .tup h r => .tup (st_keep e h) (DRs.keep e r)
  | _, _, .dct h r => .dct (e _ _ h) (DRs.keep e r)
theorem DRs.keep {K : PySem.W.Frag} {H H' : Hp} (e : ∀ a o, H a = some o → H' a = some o) : ∀ {vs : List V} {ds : List PyData}, DRs K H vs ds → DRs K H' vs ds
  | _, _, .nil => .nil
  | _, _, .cons h r => .cons (DR.keep e h) (DRs.keep e r)
end

section
variable {X : Cx} {pins : List (Addr × Obj)} {σ : L2.St} {H : Hp} {s : Shared}
theorem keys_read {P : Program} {w : World} {h : Heap} : ∀ {es : List DictEntry} {kvs : List (Key × V)} {vs : List (Key × Value)}, KV kvs vs → Pairs (mixKind P w) es vs →
    ReadsAll h (es.map (·.key)) (kvs.map fun p => keyD p.1) [] ∧ Vals (kvs.map (·.2)) (es.map (·.val)) := by
  intro es kvs vs kv pr
  induction pr generalizing kvs with
  | nil => cases kv; exact ⟨.nil, .nil⟩
  | @cons e q es vs h1 h3 h2 ih =>
    cases kv with
    | @cons p _ kvs _ r kv' =>
      obtain ⟨i1, i2⟩ := ih kv'
      obtain ⟨k, v⟩ := p
      obtain ⟨k', v'⟩ := q
      obtain ⟨rk, rv⟩ := r
      have rk' : k = k' := rk
      subst rk'
      have h1 : keyIs k e.key = true := h1
      have h3 : e.val = v' := h3
      refine ⟨?_, .cons (by show RelV v e.val; rw [h3]; exact rv) i2⟩
      show ReadsAll h (e.key :: es.map (·.key)) (keyD k :: kvs.map fun p => keyD p.1) []
      have q : Reads h e.key (keyD k) [] := by
        rcases keyIs_shape h1 with ⟨i, t, rfl, z⟩ | ⟨x, t, rfl, z⟩
        · rw [z]; exact .int i t
        · rw [z]; exact .str x t
      exact ReadsAll.cons (as := []) (bs := []) q i1
theorem DRs.length {K : PySem.W.Frag} : ∀ {vs : List V} {ds : List PyData}, DRs K H vs ds → ds.length = vs.length
  | _, _, .nil => rfl
  | _, _, .cons _ r => congrArg (· + 1) (DRs.length r)
mutual
theorem DR.reads (I : Inv X pins σ H s) : ∀ {v : V} {d : PyData}, DR X.K H v d → ∀ (u : Value), RelV v u → ∃ as, Reads s.heap u d as ∧ sysModules ∉ as
  | _, _, .non, _, r => by
    cases r
    exact ⟨_, .none, List.not_mem_nil⟩
  | _, _, .bl b, _, r => by
    cases r
    exact ⟨_, .bool b, List.not_mem_nil⟩
  | _, _, .int i, _, r => by
    obtain ⟨t, rfl⟩ := r
    exact ⟨_, .int i t, List.not_mem_nil⟩
  | _, _, .str x, _, r => by
    obtain ⟨t, rfl⟩ := r
    exact ⟨_, .str x t, List.not_mem_nil⟩
  | _, _, .lst hn hs ha, _, r => by
    cases r
    obtain ⟨its, rv, ⟨o, n, ho, hc, _, hd⟩, _⟩ := I.list hs
    obtain ⟨as, hr, hm⟩ := DRs.reads I ha its rv
    refine ⟨_, .list ho hc hd hr, fun z => ?_⟩
    rcases List.mem_cons.mp z with z | z
    · exact hn z.symm
    · exact hm z
  | _, _, .tup hs ha, _, r => by
    cases r
    obtain ⟨its, rv, ⟨o, ho, hc, n, hd⟩, _⟩ := I.tuple hs
    obtain ⟨as, hr, hm⟩ := DRs.reads I ha its rv
    exact ⟨_, .tuple ho hc hd hr, hm⟩
  | _, _, @DR.dct _ _ a kvs ds he ha, _, r => by
    cases r
    obtain ⟨_, hsys, vs, kv, o, es, ep, ho, hex, hd, _, hp, _⟩ : kvs.length ≤ sizeLine ∧ (a == sysModules) = false ∧ ∃ vs, KV kvs vs ∧ s.heap.DictOf (mixKind X.prog X.w) a vs := I.hok a _ he
    obtain ⟨h1, h2⟩ := keys_read (h := s.heap) kv hp
    have hl : ds.length = kvs.length := by rw [DRs.length ha, List.length_map]
    have e1 : ((kvs.map fun p => keyD p.1).zip ds).map (·.1) = kvs.map fun p => keyD p.1 := List.map_fst_zip (by rw [List.length_map, hl]; exact Nat.le_refl _)
    have e2 : ((kvs.map fun p => keyD p.1).zip ds).map (·.2) = ds := List.map_snd_zip (by rw [List.length_map, hl]; exact Nat.le_refl _)
    obtain ⟨as, hr, hm⟩ := DRs.reads I ha (es.toList.map (·.val)) h2
    refine ⟨_, .dict ho hex.1 hd (as := []) (bs := as) (by rw [e1]; exact h1) (by rw [e2]; exact hr), fun z => ?_⟩
    rcases List.mem_cons.mp z with z | z
    · rw [z] at hsys; simp at hsys
    · exact hm z
theorem DRs.reads (I : Inv X pins σ H s) : ∀ {vs : List V} {ds : List PyData}, DRs X.K H vs ds → ∀ (us : List Value), Vals vs us → ∃ as, ReadsAll s.heap us ds as ∧ sysModules ∉ as
  | _, _, .nil, _, r => by
    cases r
    exact ⟨_, .nil, List.not_mem_nil⟩
  | _, _, .cons h1 h2, _, r => by
    cases r with
    | cons r1 r2 =>
      obtain ⟨as, q1, m1⟩ := DR.reads I h1 _ r1
      obtain ⟨bs, q2, m2⟩ := DRs.reads I h2 _ r2
      exact ⟨_, .cons q1 q2, fun z => (List.mem_append.mp z).elim m1 m2⟩
end
end

/-- repr(x): the text of the data -/
def rRepr (K : PySem.W.Frag) : List V → Hp → VK → Prop := fun xs H Q => ∃ (x : V) (d : PyData), xs = [x] ∧ DR K H x d ∧ d.showable = true ∧ d.depth ≤ 60 ∧ d.shown.length ≤ sizeLine ∧ Q (.str d.shown) H
theorem call_repr {X : Cx} {k : Nat} (hr : Room k X.A) (gd : X.A.guards = some []) : CallR X (.builtin "repr") (rRepr X.K) := by
  intro pins s σ H xs us Q I r h
  obtain ⟨x, d, rfl, hd, h1, h2, h3, q⟩ := h
  obtain ⟨u, rfl, rx⟩ := vals1 r
  cases hd with
  | non =>
    cases rx
    exact PySem.P.repr_of_none ⟨.str _, H, I.tok _, ⟨_, rfl⟩, q⟩
  | bl b =>
    cases rx
    exact PySem.P.repr_of_bool ⟨.str _, H, I.tok _, ⟨_, rfl⟩, q⟩
  | int i =>
    obtain ⟨t, rfl⟩ := rx
    exact PySem.P.repr_of_int (of_decide_eq_true h1) ⟨.str _, H, I.tok _, ⟨_, rfl⟩, q⟩
  | str y =>
    obtain ⟨t, rfl⟩ := rx
    exact PySem.P.repr_of_str ⟨.str _, H, I.tok _, ⟨_, rfl⟩, q⟩ h3
  | lst a b c =>
    obtain ⟨as, rd, nm⟩ := DR.reads I (.lst a b c) _ rx
    cases rx
    exact repr_of_reads' rd h1 (fun _ => nm) gd (by have := hr.units; omega) (fun _ _ e => e) (fun h' u tk hk => ⟨.str _, H, I.kept hk, ⟨_, rfl⟩, q⟩) h3
  | tup a b =>
    obtain ⟨as, rd, nm⟩ := DR.reads I (.tup a b) _ rx
    cases rx
    exact repr_of_reads' rd h1 (fun _ => nm) gd (by have := hr.units; omega) (fun _ _ e => e) (fun h' u tk hk => ⟨.str _, H, I.kept hk, ⟨_, rfl⟩, q⟩) h3
  | dct a b =>
    obtain ⟨as, rd, nm⟩ := DR.reads I (.dct a b) _ rx
    cases rx
    exact repr_of_reads' rd h1 (fun _ => nm) gd (by have := hr.units; omega) (fun _ _ e => e) (fun h' u tk hk => ⟨.str _, H, I.kept hk, ⟨_, rfl⟩, q⟩) h3

/-- a list display whose place is told to be none of the interpreter's own -/
def tLstM (t : TA) : TE := fun σ H Q => t σ H fun xs H1 => xs.length ≤ sizeLine ∧ ∀ p, H1 p = none → p ≠ sysModules → Q (.ref p) (upd H1 p (.lst xs))
theorem pe_lstM {X : Cx} {es : List Expr} {t : TA} {pos : Pos} (h : PA X es t) : PE X (.List es pos) (tLstM t) := by
  constructor
  intro pins s σ H Q I hq
  refine wpAny_List_spliced (thn (h.run pos pins s σ H _ I hq) ?_)
  rintro us s1 ⟨xs, H1, I1, r, z, q⟩
  refine ⟨r.length ▸ z, .ref s1.heap.objs.size, upd H1 s1.heap.objs.size (.lst xs), ?_, rfl, q _ (I1.hok.fresh (Nat.le_refl _)) (Nat.ne_of_gt I1.big)⟩
  exact I1.laid (t' := s1.toks) (fun b u e => Heap.get?_push_of_some _ e) (Nat.le_refl _) ⟨z, us, 0, r, Heap.get?_push_size _ rfl⟩
end NB
/-! NBc: own exceptions as values: made by place and by name, asked for their class, their fields read. -/
namespace PySem
namespace NBX
open Builtin Builtin.ObjectAttr HandSPX
section
variable {M : Model} {A : Around} {E : Value → Shared → Prop} {h : Heap} {g : Array GenState} {d : Drawn} {t : Nat} {os : OsState}
variable {nm q : Str} {C N : Addr} {bs bm bmB : List Value} {hdct : Bool} {sn : List Str} {sub : List Value} {ab : Bool} {col : Option Bool} {dd : Option Addr} {k0 k1 k2 k3 k5 : Option Value} {B newId initId : String}
variable {kw : List (Str × Value)}
theorem check_newK (F : ExcBaseFacts B newId initId bmB) (hT : ∀ X : String, bm.contains (.type X) = bmB.contains (.type X)) {rest : List Value} {Q : Unit → Shared → Prop}
    (hC : h.get? C = some (excClassObj nm q C N bs bm hdct sn sub ab col dd k0 k1 k2 k3 k5 newId)) (hq : Q () ⟨h, g, d, t, os⟩) :
    wpAny M A (checkBuiltinCall newId ⟨.ref C :: rest, kw⟩) Q E ⟨h, g, d, t, os⟩ := by
  have has : (Value.ref C :: bm).contains (.type B) = true := by rw [List.contains_cons, hT, F.hasB, Bool.or_true]
  have short := F.noStar
  simp only [checkBuiltinCall, F.newKind, F.newSplit, F.newRow]
  repeat (first
    | refine wpAny_loadPart_at hC ?_
    | (refine wpAny_isSubtype_exc hC ?_; rw [has])
    | refine wpAny_staticBase_exc hC ?_
    | refine wpAny_madeBy_exc hC ?_
    | simp only [bne_self_eq_false, Bool.false_eq_true, if_false]
    | wp_step)
  exact hq
end
section
variable {prog : Program} {w : World} {A : Around} {E : Value → Shared → Prop} {R : Result → Shared → Prop} {h : Heap} {g : Array GenState} {d : Drawn} {t : Nat} {os : OsState}
variable {nm q : Str} {C N : Addr} {bs bm bmB : List Value} {hdct : Bool} {sn : List Str} {sub : List Value} {ab : Bool} {col : Option Bool} {dd : Option Addr} {k0 k1 k2 k3 k5 : Option Value} {B newId initId : String}
variable {kw : List (Str × Value)}
theorem newK (F : ExcBaseFacts B newId initId bmB) (hT : ∀ X : String, bm.contains (.type X) = bmB.contains (.type X)) {rest : List Value}
    (hC : h.get? C = some (excClassObj nm q C N bs bm hdct sn sub ab col dd k0 k1 k2 k3 k5 newId))
    (hq : R (.ok (.ret (.ref (h.objs.size + 1)))) ⟨(h.push (W.kdv_tup rest)).push (excO C h.objs.size), g, d, t, os⟩)
    (hrest : rest.length ≤ sizeLine) :
    codeAny (model prog w) A (.builtin newId ⟨.ref C :: rest, kw⟩) R ⟨h, g, d, t, os⟩ := by
  have ends := F.ends
  have c1 : (Value.ref C :: bm).contains (.type B) = true := by rw [List.contains_cons, hT, F.hasB, Bool.or_true]
  have c2 : (Value.ref C :: bm).contains (.type "AttributeError") = false := by rw [List.contains_cons, hT, F.noAttr]; rfl
  have c3 : (Value.ref C :: bm).contains (.type "NameError") = false := by rw [List.contains_cons, hT, F.noName]; rfl
  refine codeAny_builtinAt F.entry ?_
  unfold Builtin.«BaseException.__new__»
  refine wpAt_bind ?_
  show wpAt _ _ _ (stack >>= _) _ _ _
  refine wpAt_bind (wpAt_stack fun p below => wpAt_of_wpAny ?_)
  wp_walk
  refine wpAt_of_wpAny ?_
  rw [F.owner]
  repeat (first
    | with_reducible refine wpAny_madeHere_exc F.canon hC ?_
    | with_reducible refine wpAny_loadPart_at hC ?_
    | (with_reducible refine wpAny_isSubtype_exc hC ?_; first | rw [c1] | rw [c2] | rw [c3])
    | wp_step)
  show R _ _
  rw [Heap.size_push]
  exact hq
theorem type_callK (F : ExcBaseFacts B newId initId bmB) (hT : ∀ X : String, bm.contains (.type X) = bmB.contains (.type X)) {rest : List Value} {fI : Addr} {Q : Fin → Shared → Prop}
    (hC : h.get? C = some (excClassObj nm q C N bs bm hdct sn sub ab col dd k0 k1 k2 k3 k5 newId))
    (hi : W.Looks (model prog w) h (typeLookup (.ref C) "__init__") (some (.ref fI)))
    (hb : ∀ self, W.Looks (model prog w) h (bindSpecial (.ref fI) self) (.ref fI, [self])) (hrest : rest.length ≤ sizeLine)
    (hq : codeAny (model prog w) A (.call (.ref fI) ⟨.ref (h.objs.size + 1) :: rest, kw⟩)
      (fun r s' => match r with
        | .ok (.ret v) => v = .none ∧ Q (.done (.ret (.ref (h.objs.size + 1)))) s'
        | .ok _ => False
        | .error e => E e s')
      ⟨(h.push (W.kdv_tup rest)).push (excO C h.objs.size), g, d, t, os⟩) :
    wpAny (model prog w) A (Builtin.«type.__call__» ⟨.ref C :: rest, kw⟩) Q E ⟨h, g, d, t, os⟩ := by
  repeat (first
    | with_reducible refine wpAny_loadPart_at hC ?_
    | with_reducible refine wpAny_madeBy_exc hC ?_
    | wp_step)
  refine codeAny_call_builtin_code (Code.quiet_builtin _ F.quiet) (check_newK F hT hC (newK F hT hC ?_ hrest))
  show wpAny _ _ _ _ _ _
  have kept : ∀ b o, h.get? b = some o → ((h.push (W.kdv_tup rest)).push (excO C h.objs.size)).get? b = some o :=
    fun b o e => Heap.get?_push_of_some _ (Heap.get?_push_of_some _ e)
  have hC1 := kept _ _ hC
  have new1 : ((h.push (W.kdv_tup rest)).push (excO C h.objs.size)).get? (h.objs.size + 1) = some (excO C h.objs.size) := by heap_get
  have own : (Value.ref C :: bm).contains (.ref C) = true := by simp
  have hi1 := hi.keeps kept
  have hb1 := (hb (.ref (h.objs.size + 1))).keeps kept
  unfold isInstance
  repeat (first
    | with_reducible refine wpAny_loadPart_at new1 ?_
    | (with_reducible refine wpAny_isSubtype_exc hC1 ?_; rw [own])
    | wp_step)
  show wpAny _ _ (typeLookup (.ref C) _) _ _ _
  refine hi1.at (wpAny_holding (wpAny_bind (hb1.at (wpAny_bind (wpAny_call (codeAny_mono hq ?_))))))
  intro r s' z
  rcases r with e | (v | _ | _ | _)
  all_goals first
    | exact z
    | exact z.elim
    | (obtain ⟨rfl, z⟩ := z
       first
         | exact wpAny_pure (wpAny_pure z)
         | (wp_walk; exact z))
theorem callK (F : ExcBaseFacts B newId initId bmB) (hT : ∀ X : String, bm.contains (.type X) = bmB.contains (.type X)) {rest : List Value} {fI : Addr}
    (hC : h.get? C = some (excClassObj nm q C N bs bm hdct sn sub ab col dd k0 k1 k2 k3 k5 newId))
    (hi : W.Looks (model prog w) h (typeLookup (.ref C) "__init__") (some (.ref fI)))
    (hb : ∀ self, W.Looks (model prog w) h (bindSpecial (.ref fI) self) (.ref fI, [self])) (hrest : rest.length ≤ sizeLine)
    (hq : codeAny (model prog w) (A.under (.builtin "type.__call__" ⟨.ref C :: rest, kw⟩)) (.call (.ref fI) ⟨.ref (h.objs.size + 1) :: rest, kw⟩)
      (W.InitBack (h.objs.size + 1) R) ⟨(h.push (W.kdv_tup rest)).push (excO C h.objs.size), g, d, t, os⟩) :
    codeAny (model prog w) A (.call (.ref C) ⟨rest, kw⟩) R ⟨h, g, d, t, os⟩ := by
  have z1 := tc_lookup
  have z2 := tc_bind (.ref C)
  have hTy : (⟨h, g, d, t, os⟩ : Shared).TypeIs (.ref C) "type" := ⟨_, hC, rfl⟩
  refine codeAny_of_tree ?_
  show wpAny _ _ (callAny (.ref C) _) _ _ _
  repeat (any_goals (first | assumption | with_reducible refine wpAny_loadPart_at hC ?_ | wp_step))
  refine ⟨rfl, codeAny_call_builtin_at (Code.quiet_builtin _ (by decide +kernel)) entry_typeCall
    (wpAny_check_type_call_sub hC (type_callK F hT hC hi hb hrest (codeAny_mono hq ?_)))⟩
  intro r s' z
  rcases r with e | (v | _ | _ | _) <;> exact z
end
end NBX
end PySem
/-! NBd: the layer's rules for own exceptions as values. -/
namespace NB
open PySem PySem.Spec L2
abbrev SV := L2.St

/-- an exception that was caught and kept -/
def exk (a C : Addr) (d : Option Addr) : HO := .ext fun h => ∃ (o : Obj) (vs : Array Value), h.get? a = some o ∧ o.cls = .ref C ∧ o.dict = d ∧ o.data = .fields vs
theorem exk_ok {P : Program} {w : World} {H : Hp} {h : Heap} {a C : Addr} {d : Option Addr} {o : Obj} {vs : Array Value} (e : h.get? a = some o) (c : o.cls = .ref C) (dd : o.dict = d) (f : o.data = .fields vs) : ObjOk P w H h a (exk a C d) := by
  refine ⟨⟨o, vs, e, c, dd, f⟩, ⟨o, e⟩, ?_⟩
  rintro h1 h2 ⟨o', v', q, r⟩ k
  exact ⟨o', v', k _ q, r⟩

/-- at a: an exception of the class at C with its dict at d -/
inductive IsEx (H : Hp) (a C : Addr) (d : Option Addr) : Prop
  | new (h : H a = some (exo a C d))
  | kept (h : H a = some (exk a C d))
  | plain (e : d = none) (h : H a = some (ExO (.ref C) a))
inductive XDict (H : Hp) (d : Addr) (fs : List (Str × V)) : Prop
  | new (h : H d = some (exd d fs))
  | old (h : H d = some (.xd fs))
/-- its fields -/
inductive XFs (H : Hp) : Option Addr → List (Str × V) → Prop
  | no : XFs H none []
  | have_ {d : Addr} {fs : List (Str × V)} (h : XDict H d fs) : XFs H (some d) fs

section
variable {P : Program} {w : World} {H H' : Hp} {h : Heap} {a C : Addr} {d : Option Addr} {fs : List (Str × V)}
theorem IsEx.at_ (hok : HOk P w H h) (x : IsEx H a C d) : ∃ (o : Obj) (vs : Array Value), h.get? a = some o ∧ o.cls = .ref C ∧ o.dict = d ∧ o.data = .fields vs := by
  cases x with
  | new e =>
    obtain ⟨t1, q⟩ := exo_at hok e
    exact ⟨_, _, q, rfl, rfl, rfl⟩
  | kept e =>
    have z : ObjOk P w H h a (.ext fun h => ∃ (o : Obj) (vs : Array Value), h.get? a = some o ∧ o.cls = .ref C ∧ o.dict = d ∧ o.data = .fields vs) := hok a _ e
    exact z.1
  | plain ed e =>
    have z : ObjOk P w H h a (.ext fun h => ∃ (oe : Obj) (vs : Array Value), h.get? a = some oe ∧ Zc (.ref C) none oe ∧ oe.data = .fields vs ∧ vs[1]? = some .none ∧ vs[2]? = some .none ∧ 4 < vs.size) := hok a _ e
    obtain ⟨oe, vs, q, zc, f, _⟩ := z.1
    subst ed
    exact ⟨oe, vs, q, zc.1, zc.2, f⟩
theorem XDict.at_ {dx : Addr} (hok : HOk P w H h) (x : XDict H dx fs) : ∃ mA, h.Ns1 dx mA ∧ ∀ f, RelO (fs.lookup f) (mA f) := by
  cases x with
  | new e => exact exd_at hok e
  | old e =>
    have z : ObjOk P w H h dx (.xd fs) := hok dx _ e
    exact z
theorem IsEx.keep (k : ∀ a o, H a = some o → H' a = some o) (x : IsEx H a C d) : IsEx H' a C d := by
  cases x with
  | new e => exact .new (k _ _ e)
  | kept e => exact .kept (k _ _ e)
  | plain ed e => exact .plain ed (k _ _ e)
theorem XFs.keep (k : ∀ a o, H a = some o → H' a = some o) (x : XFs H d fs) : XFs H' d fs := by
  cases x with
  | no => exact .no
  | have_ y =>
    cases y with
    | new e => exact .have_ (.new (k _ _ e))
    | old e => exact .have_ (.old (k _ _ e))
end

section
variable {X : Cx} {pins : List (Addr × Obj)} {σ : SV} {H : Hp} {s : Shared} {a C : Addr} {d : Option Addr} {fs : List (Str × V)}
theorem inst_ex (I : Inv X pins σ H s) (x : IsEx H a C d) (y : XFs H d fs) : ∃ (o : Obj) (od : Option Obj), PySem.W.InstAt s.heap a o C od := by
  obtain ⟨o, vs, e, c, dd, f⟩ := x.at_ I.hok
  have nc : PySem.W.notCls o = true := by unfold PySem.W.notCls; rw [f] <;> rfl
  cases y with
  | no => exact ⟨o, none, ⟨e, c, nc, by rw [dd]; trivial⟩⟩
  | have_ y =>
    obtain ⟨mA, hn, _⟩ := y.at_ I.hok
    obtain ⟨od, ho, _⟩ := lookIn_ns hn
    exact ⟨o, some od, ⟨e, c, nc, by rw [dd]; exact ho⟩⟩
/-- isinstance(e, D), e an exception of an own class -/
def rIsX (K : PySem.W.Frag) : List V → Hp → VK → Prop := fun xs H Q => ∃ (a C : Addr) (d : Option Addr) (fs : List (Str × V)) (c : V) (cv : Value) (b : Bool),
  xs = [.ref a, c] ∧ IsEx H a C d ∧ XFs H d fs ∧ ExcC K C ∧ ClsV c cv ∧ PySem.W.kitOne K (.ref C) cv = some b ∧ Q (.bl b) H
theorem kitx_ex {K : PySem.W.Frag} {ox : Obj} {od : Option Obj} (T : ExcC K C) : PySem.W.KitX K (.ref a) (.ref C) (fun h => PySem.W.InstAt h a ox C od) where
  ty := fun _ _ _ I => I.type
  it := fun _ _ X _ => by
    obtain ⟨cd, hc, _⟩ := PySem.W.any_some T.hd
    unfold PySem.W.clsIn at hc
    split at hc
    · rename_i c' d' cd' sl' ho
      intro A' Q' E' s' k q
      unfold isType loadHead
      exact wpAny_bind (wpAny_loadPart (k _ _ (X _ _ ho)) (wpAny_pure q))
    · cases hc
  ne := fun h tp dd its n sl X htp => by
    obtain ⟨cd, hc, _⟩ := PySem.W.any_some T.hd
    refine Bool.eq_false_iff.mpr ?_
    intro q
    have e : C = tp := Value.ref.inj (beq_iff_eq.mp q)
    subst e
    unfold PySem.W.clsIn at hc
    split at hc
    · rename_i c' d' cd' sl' ho
      cases (X _ _ ho).symm.trans htp
    · cases hc
  ca := fun X I k => PySem.W.kx_classE X I T.hg T.hk T.hs (PySem.W.findObj_dataE (by obtain ⟨cd, hc, _⟩ := PySem.W.any_some T.hd; rw [hc]; rfl) T.ha T.hn T.ht) T.hm k
theorem call_isX : CallR X (.builtin "isinstance") (rIsX X.K) := by
  intro pins s σ H xs us Q I r h
  obtain ⟨a, C, d, fs, c, cv, b, rfl, x, y, T, k, e, q⟩ := h
  obtain ⟨u1, u2, rfl, r1, r2⟩ := vals2 r
  cases r1
  have e2 := k.eq r2
  subst e2
  obtain ⟨o, od, J⟩ := inst_ex I x y
  exact PySem.W.kia_one (kitx_ex T) I.kIn J e (fun z => nomatch z) fun tk => ⟨.bl b, H, I.tok tk, rfl, q⟩

/-- e.f -/
def tEfld (K : PySem.W.Frag) (n : Str) (te : TE) : TE := fun σ H Q => te σ H fun x H1 => ∃ (a C dd : Addr) (fs : List (Str × V)) (v : V),
  x = .ref a ∧ IsEx H1 a C (some dd) ∧ XDict H1 dd fs ∧ XfC K C ∧ PySem.W.findIn K (.ref C) n = some none ∧ fs.lookup n = some v ∧ Q v H1
theorem pe_efld {e : Expr} {te : TE} {pos : Pos} {n : Str} (he : PE X e te) (hb : attributeBase e n X.env (eval e X.env) = eval e X.env := by rfl) : PE X (.Attribute e n pos) (tEfld X.K n te) := by
  constructor
  intro pins s σ H Q I h
  refine attr_of hb (thn (he.run pins s σ H _ I h) ?_)
  rintro u s1 ⟨x, H1, I1, rx, a, C, dd, fs, v, ex, ix, xd, T, hno, l, q⟩
  subst ex
  obtain rfl : u = Value.ref a := rx
  obtain ⟨o, vs, ho, hc, hd, hf⟩ := ix.at_ I1.hok
  obtain ⟨mA, hns, hr⟩ := xd.at_ I1.hok
  obtain ⟨od, hod, hl⟩ := lookIn_ns hns
  obtain ⟨u, hu, ru⟩ := RelO.some_of (v := v) (o := mA n) (by rw [← l]; exact hr n)
  have J : PySem.W.InstAt s1.heap a o C (some od) := ⟨ho, hc, by unfold PySem.W.notCls; rw [hf] <;> rfl, by rw [hd]; exact hod⟩
  exact HandSPX.exc_get I1.kIn J T.ga T.gg T.exC (PySem.W.findObj_own T.hdC hno rfl (by rw [hl, hu])) (handed_of ru) ⟨v, H1, I1.tok _, ru, q⟩
end

/-! ### making one -/
section
variable {X : Cx} {k : Nat} {C fI : Addr} {fd : FuncData} {ps ks : List Str} {sp : Sp} {x : Str} {p pos : Pos} {e : Expr} {es : List Expr} {kws : List Keyword} {t tk : TA}
/-- vs: the values in the parameters' order, self left out -/
def tExv (C : Addr) (sp : Sp) (t : TA) : TE := fun σ H Q => t σ H fun vs H1 => vs.length ≤ 1000 ∧ ∀ a, H1 a = none → sp (.ref a :: vs) (upd H1 a (exo a C none)) (fun v H2 => v = .non ∧ Q (.ref a) H2) E0
theorem run_exv {pins : List (Addr × Obj)} {σ : SV} {H : Hp} {s : Shared} {Q : VK} {us ws : List Value} {kw : List (Str × Value)} {vs : List V} (T : OexC X.K C)
    (iC : PySem.W.findIn X.K (.ref C) "__init__" = some (some (.ref fI))) (tI : PySem.W.typeIn X.K (.ref fI) = some (.type "function"))
    (F : FnOk X.prog X.w X.K X.mg X.base CX0 k fI fd ps sp) (hr : Room (k + 1) X.A) (I : Inv X pins σ H s) (hz : us.length ≤ sizeLine) (r : Vals vs ws)
    (hb : ∀ (s' : Shared) (u : Value), X.K.In s'.heap → BindsTo s' fd ⟨u :: us, kw⟩ (ps.zip (u :: ws)))
    (h : ∀ a, H a = none → sp (.ref a :: vs) (upd H a (exo a C none)) (fun v H2 => v = .non ∧ Q (.ref a) H2) E0) :
    wpAny (model X.prog X.w) X.A (call (.ref C) us kw) (EP X pins σ Q) X.xe s := by
  obtain ⟨nm, q, N, bs, bm, sn, sub, ab, col, dd, k0, k1, k2, k3, k5, hC, hbm⟩ := T.cls
  obtain ⟨hp, g, dr, tok, os⟩ := s
  have up : hp.objs.size ≤ hp.objs.size + 1 := Nat.le_succ _
  have kept : ∀ b o, hp.get? b = some o → ((hp.push (PySem.W.kdv_tup us)).push (PySem.HandSPX.excO C hp.objs.size)).get? b = some o :=
    fun b o e => Heap.get?_push_of_some _ (Heap.get?_push_of_some _ e)
  have new1 : ((hp.push (PySem.W.kdv_tup us)).push (PySem.HandSPX.excO C hp.objs.size)).get? (hp.objs.size + 1) = some (PySem.HandSPX.excO C hp.objs.size) := by heap_get
  have I2 : Inv X pins σ (upd H (hp.objs.size + 1) (exo (hp.objs.size + 1) C none)) ⟨(hp.push (PySem.W.kdv_tup us)).push (PySem.HandSPX.excO C hp.objs.size), g, dr, tok, os⟩ :=
    I.laid (t' := tok) kept up (exo_ok new1)
  have want := h (hp.objs.size + 1) (I.hok.fresh up)
  have r2 : Vals (V.ref (hp.objs.size + 1) :: vs) (Value.ref (hp.objs.size + 1) :: ws) := .cons rfl r
  have call1 := F.run _ X.stack _ _ ⟨Value.ref (hp.objs.size + 1) :: us, kw⟩ (Value.ref (hp.objs.size + 1) :: ws) _ _ E0 (hr.make C us kw) (I2.env0.make C us kw) (hb _ _ I2.kIn) r2 want
  refine wpAny_call (PySem.NBX.callK PySem.F.excBase_ValueError (fun Y => PySem.HandSPX.refsVE_contains Y bm hbm) (I.kIn _ _ hC) (PySem.W.looks_findIn I.kIn iC) (fun self => PySem.W.bind_fn I.kIn self tI) hz (codeAny_mono call1 ?_))
  intro r s' hq
  match r, hq with
  | .error er, hq => exact hq.elim
  | .ok (.ret u), hq =>
    obtain ⟨v, H', J, rv, ev, q3⟩ := I2.after hq
    subst ev
    exact ⟨rv, ⟨V.ref (hp.objs.size + 1), H', J, rfl, q3⟩⟩
/-- C(e, ..) -/
theorem pe_exv (T : OexC X.K C) (iC : PySem.W.findIn X.K (.ref C) "__init__" = some (some (.ref fI))) (tI : PySem.W.typeIn X.K (.ref fI) = some (.type "function"))
    (F : FnOk X.prog X.w X.K X.mg X.base CX0 k fI fd ps sp) (hr : Room (k + 1) X.A) (hb : Binds X.K fd ps []) (hg : Gl X x) (hm : X.mg x = some (.ref C)) (ha : PA X (e :: es) t)
    (hdb : (x == ("__debug__" : Str)) = false := by decide) (he : starEach (e :: es) X.env = (false, eval e X.env) :: starEach es X.env := by rfl)
    (hpl : (backTo pos (starEach es X.env)).any (·.1) = false := by rfl) : PE X (.Call (.Name x p) (e :: es) [] pos) (tExv C sp t) := by
  constructor
  intro pins s σ H Q I h
  refine wpAny_Call_Name_kw (ld_glob I hg hm ?_ hdb)
  refine PySem.W.callWith_K (h₀ := X.base) I.ok.mod.kin T.kC (thn (ha.run pos pins s σ H _ I h) ?_) he hpl
  rintro us s1 ⟨vs, H1, I1, r, hz, q⟩
  refine ⟨I1.kIn, ?_⟩
  have hl : vs.length + 1 = ps.length := F.len _ _ _ _ (q s1.heap.objs.size (I1.hok.fresh (Nat.le_refl _)))
  have hu : us.length ≤ sizeLine := by
    rw [← r.length, sizeLine_eq]
    omega
  refine run_exv T iC tI F hr I1 hu r (fun s' u kin => ?_) q
  have b := hb s' (u :: us) kin (by rw [List.append_nil, List.length_cons, ← r.length]; exact hl)
  rw [List.append_nil] at b
  exact b
/-- C(k = e, ..): g brings the keywords' values into the parameters' order -/
theorem pe_exvK {g : List Value → List Value} {gV : List V → List V} (T : OexC X.K C) (iC : PySem.W.findIn X.K (.ref C) "__init__" = some (some (.ref fI))) (tI : PySem.W.typeIn X.K (.ref fI) = some (.type "function"))
    (F : FnOk X.prog X.w X.K X.mg X.base CX0 k fI fd ps sp) (hr : Room (k + 1) X.A)
    (hb : ∀ (s' : Shared) (u : Value) (ws : List Value), ws.length = ks.length → BindsTo s' fd ⟨[u], ks.zip ws⟩ (ps.zip (u :: g ws)))
    (hrel : ∀ {zs : List V} {ws : List Value}, zs.length = ks.length → Vals zs ws → Vals (gV zs) (g ws))
    (hg : Gl X x) (hm : X.mg x = some (.ref C)) (hkw : PK X kws tk)
    (hall : (backToKw pos (keywordEach kws X.env)).all (·.1.isSome) = true := by rfl) (hks : (backToKw pos (keywordEach kws X.env)).filterMap (·.1) = ks := by rfl)
    (hdb : (x == ("__debug__" : Str)) = false := by decide)
    (hpl : ((backTo pos (starEach [] X.env)).any (·.1) || (backToKw pos (keywordEach kws X.env)).any (·.1.isNone)) = false := by rfl) :
    PE X (.Call (.Name x p) [] kws pos) (tExv C sp fun σ H Q => tk σ H fun zs H1 => zs.length = ks.length ∧ Q (gV zs) H1) := by
  constructor
  intro pins s σ H Q I h
  refine wpAny_Call_Name_kw (ld_glob I hg hm ?_ hdb)
  refine PySem.W.callWith_KW0 (h₀ := X.base) I.ok.mod.kin T.kC hall ?_ hpl
  refine thn (hkw.run pos pins s σ H _ I h) ?_
  rintro ws s1 ⟨zs, H1, I1, r, hl, hz, q⟩
  refine ⟨I1.kIn, ?_⟩
  rw [hks]
  exact run_exv (us := []) T iC tI F hr I1 (Nat.zero_le _) (hrel hl r) (fun s' u kin => hb s' u ws (r.length.symm.trans hl)) q
/-- C(), a class without an own __init__ -/
theorem pe_exc0 {bmB : List Value} {B newId initId : String} (F : ExcBaseFacts B newId initId bmB) (q : PySem.W.excIn X.K C bmB newId = true) (gC : X.mg x = some (.ref C)) (kC : PySem.W.keepIn X.K (.ref C) = true) (hg : Gl X x)
    (hdb : (x == ("__debug__" : Str)) = false := by decide) : PE X (.Call (.Name x p) [] [] pos) (fun _ H Q => ∀ a, H a = none → Q (.ref a) (upd H a (ExO (.ref C) a))) := by
  constructor
  intro pins s σ H Q I h
  refine wpAny_Call_Name_kw (ld_glob I hg gC ?_ hdb)
  refine PySem.W.callWith_K0 I.kIn kC ?_
  show wpAny _ _ (call (.ref C) []) _ _ _
  obtain ⟨bm, N, nm, qn, bs, hdct, sn, sub, ab, col, dd, k0, k1, k2, k3, k5, mN, hC, hN, hni, T⟩ := exc_obj I.kIn q
  refine wpAny_call_exc_subT F T hC hN hni (fun h' a hm => ?_) (Nat.zero_le _)
  obtain ⟨t, ht, _, _⟩ := hm.there
  have hn : H a = none := I.hok.gone hm.new
  exact ⟨.ref a, upd H a (ExO (.ref C) a), I.laidN hm.keeps hm.new hn (exO_ok ht ⟨rfl, rfl⟩ rfl rfl rfl (show 4 < 6 by decide)), rfl, h a hn⟩
end
end NB
/-! NBg: try .. except X as e: y = e, the error kept behind the suite. -/
namespace NB
open PySem PySem.Spec PyProof.Rows L2
section
variable {X : Cx} {pins : List (Addr × Obj)} {σ : L2.St} {H : Hp} {s : Shared} {a : Addr}
/-- an object that was not tracked is tracked from now on -/
theorem track {u : HO} {o : Obj} (J : Inv X pins σ H s) (ha : s.heap.get? a = some o) (n : H a = none) (nL : a ≠ X.env.locals) (nc : ∀ x c, X.env.cells.lookup x = some c → c ≠ a)
    (np : ∀ p ∈ X.pn ++ pins, p.1 ≠ a) (n0 : X.s_0.heap.get? a = none) (new : ObjOk X.prog X.w (upd H a u) s.heap a u) : Inv X pins σ (upd H a u) s := by
  have old : ∀ b v, H b = some v → upd H a u b = some v := fun b v e => by
    rw [upd_ne (ne_of_none e n)]
    exact e
  have gone : ∀ b, b ≠ a → H b = none → upd H a u b = none := fun b hb e => by
    rw [upd_ne hb]
    exact e
  refine ⟨J.ok, J.os, J.bare, ⟨J.base.keep, J.base.slot, fun b ob e z hx => gone b (fun y => ?_) (J.base.free b ob e z hx), J.base.there, fun b xs e => old b _ (J.base.tups b xs e), fun b ob xs e => old b _ (J.base.frzs b ob xs e), fun b ps e => ?_⟩,
    J.loc, J.cell, gone _ nL.symm J.free, fun x c e => gone c (nc x c e) (J.freeC x c e), fun p hp => ?_, fun b v e => ?_, J.len⟩
  · rw [y, n0] at e
    cases e
  · obtain ⟨m, q⟩ := J.base.tbls b ps e
    exact ⟨m, old b _ q⟩
  · obtain ⟨h1, h2, h3, h4, h5⟩ := J.pin p hp
    exact ⟨h1, gone _ (np p hp) h2, h3, h4, h5⟩
  · by_cases hb : b = a
    · subst hb
      rw [upd_same] at e
      cases e
      exact new
    · rw [upd_ne hb] at e
      exact (J.hok b v e).stay (fun c w _ q => q) (fun c q => old c _ q) fun c xs q => old c _ q
end
/-- the wish of such a try: the error is of the class c; behind it the name j holds it -/
def wKeep (K : PySem.W.Frag) (c : Value) (n i j : Nat) (D : Ends) : WX := fun cls d σ H => PySem.W.exmOne K cls c = some true ∧ ∃ C, cls = .ref C ∧ (σ.length = n → ∀ a, H a = none → D.nx ((σ.set j (some (.ref a))).set i none) (upd H a (exk a C d)))
section
variable {X : Cx} {x n y : Str} {c : Value} {i j : Nat} {body : List Stmt} {np npy npn apos pos pos' : Pos} {tb : WX → TS}
theorem run_keep {X : Cx} {i j : Nat} {n y : Str} {npy npn apos : Pos} {σ : L2.St} {H : Hp} {s : Shared} {v : V} (hN : X.N.Nodup) (hi : X.N[i]? = some n) (hln : X.env.kindOf n = some .local) (hj : X.N[j]? = some y) (hly : X.env.kindOf y = some .local)
    (hnd : (n == ("__debug__" : Str)) = false) (hnc : (n == ("__classdict__" : Str)) = false) (hsw : swapsWith (.Name n npn) (some (.Name y npy)) apos.line X.env = pure false)
    (J : Inv X [] σ H s) (hv : σ[i]? = some (some v)) {Q : Flow → Shared → Prop} {E : Value → Shared → Prop} (hE : ∀ e s', X.xe e s' → E e s') (hQ : ∀ s', Inv X [] (σ.set j (some v)) H s' → Q .next s') :
    wpAny (model X.prog X.w) X.A (execs [.Assign [.Name y npy] (.Name n npn) apos] X.env) Q E s := by
  have one : PS X (.Assign [.Name y npy] (.Name n npn) apos) (tAsg (tVar i) (gName j)) :=
    ps_asg (pe_var hi (.inl hln) hnd hnc) (pg_name hN hj (.inl hly) (.inr hly)) hsw
  refine wpAny_mono ((pss_one one).run [] s σ H { nx := fun σ6 H6 => σ6 = σ.set j (some v) ∧ H6 = H, rt := fun _ _ => False } J ⟨v, hv, rfl, rfl⟩) (fun f s6 hsp => ?_) (fun _ _ z => ?_)
  · match f, hsp with
    | .next, ⟨σ6, H6, S6, e6, e7⟩ =>
      subst e6 e7
      exact hQ _ S6
    | .brk, ⟨_, _, _, z⟩ => exact z.elim
    | .cont, ⟨_, _, _, z⟩ => exact z.elim
    | .ret u, ⟨_, _, _, _, _, z⟩ => exact z.elim
  · exact hE _ _ z
theorem ps_try_keep (hs : X.stack = X.env :: X.outer) (hf : X.env.frame = some X.env.locals) (hex : X.ex = []) (hN : X.N.Nodup) (hi : X.N[i]? = some n) (hln : X.env.kindOf n = some .local) (hj : X.N[j]? = some y) (hly : X.env.kindOf y = some .local)
    (hij : i ≠ j) (hnd : (n == ("__debug__" : Str)) = false) (hnc : (n == ("__classdict__" : Str)) = false) (hgl : Gl X x) (hdbg : (x == ("__debug__" : Str)) = false) (hmx : X.mg x = some c)
    (hsw : ∀ a pn, swapsWith (.Name n npn) (some (.Name y npy)) apos.line (X.suite a pn).env = pure false)
    (hb : ∀ (W : WX) (pn : List (Addr × Obj)) (xe : Value → Shared → Prop), Takes (X.tr pn xe) W → PassesOwn (model X.prog X.w) X.A X.env xe → PSs (X.tr pn xe) body (tb W)) :
    PS X (.Try body [.ExceptHandler (some (.Name x np)) (some n) [.Assign [.Name y npy] (.Name n npn) apos] pos'] [] [] pos) (fun D σ H => tb (wKeep X.K c X.N.length i j D) D σ H) := by
  constructor
  intro pins s σ H D I h
  have ok := I.ok
  have frames : X.A.frames = some (X.env :: X.outer) := ok.frames.trans (congrArg some hs)
  refine wpAny_Try_except (wpAny_mono ((hb (wKeep X.K c X.N.length i j D) (X.pn ++ pins)
    (fun e s₁ => wpAny (model X.prog X.w) X.A (noteFrame e X.env)
      (fun _ s₂ => wpAny (model X.prog X.w) X.A (setFlight e none)
        (fun _ s₃ => wpAny (model X.prog X.w) X.A (handleBy e X.env [.ExceptHandler (some (.Name x np)) (some n) [.Assign [.Name y npy] (.Name n npn) apos] pos']) (SP X pins D) X.xe s₃) X.xe s₂) X.xe s₁)
    (fun u s' xx => ?_) PassesOwn.looking).run [] s σ H D (I.toTry _) h) (fun f s1 hsp => ?_) (fun e s1 he => he))
  · -- it is caught
    obtain ⟨a, B, sI, pins', σ', H', cls, d, rfl, J', nb, up, sky, na, os, ag, hyes, C, rfl, hq⟩ := xx
    have J : Inv X pins σ' H' sI := J'.ofTry ok
    rw [hs] at sky
    show wpAny (model X.prog X.w) X.A (noteFrame (.ref a) X.env) _ _ _
    refine Sky.land Zc.steady frames hf sky fun h3 fl3 up3 => ?_
    have J3 : Inv X pins σ' H' { s' with heap := h3 } := J.landed nb fl3.1 (up.trans up3) os ag
    obtain ⟨oe3, vs3, he3, hz3, hd3⟩ := fl3.there
    have nfr : a ∉ frs (X.env :: X.outer) := by
      intro hm
      obtain ⟨_, o', e', hnf⟩ := fl3.2.2.1.mem hm
      rw [he3] at e'
      cases e'
      exact hnf _ hd3
    have nL : a ≠ X.env.locals := by
      intro z
      exact nfr (List.mem_filterMap.mpr ⟨X.env, List.mem_cons_self, by rw [hf, z]⟩)
    have nF : a ∉ X.fs := by
      intro hm
      obtain ⟨e, he, q⟩ := List.mem_filterMap.mp hm
      exact nfr (List.mem_filterMap.mpr ⟨e, List.mem_cons_of_mem _ he, q⟩)
    have noB : B.get? a = none := fl3.2.1
    have noI : ∀ o, sI.heap.get? a ≠ some o := by
      intro o e
      have z := nb a o e (by rw [hs]; exact nfr)
      rw [noB] at z
      cases z
    have no0 : X.s_0.heap.get? a = none := by
      cases q : X.s_0.heap.get? a with
      | none => rfl
      | some o =>
        obtain ⟨o', e'⟩ := J.base.there a o q (by rw [hex]; exact List.not_mem_nil)
        exact absurd e' (noI o')
    have noP : ∀ p ∈ X.pn ++ pins, p.1 ≠ a := by
      intro p hp z
      have q := (J.pin p hp).1
      rw [z] at q
      exact noI _ q
    have S3 := J3.suite he3 hd3 na nL nF
    refine wpAny_handleBy_cons (codeAny_handlers_test ?_) (by intro q; cases q)
    have ty : PySem.W.Looks (model X.prog X.w) h3 (typeOf (.ref a)) (.ref C) := fun A Q E s k q => wpAny_typeOf_ref (k _ _ he3) (by rw [hz3.1]; exact q)
    have yes := PySem.W.exm_one (M := model X.prog X.w) J3.kIn ty hyes
    refine ld_glob (X := X.suite a ((a, oe3) :: (X.pn ++ pins))) S3 hgl hmx ?_ hdbg
    refine yes.here (codeAny_handlers_suite_as (HandSPX.lands_againZ fl3 fun h4 fl4 up4 => ?_))
    have J4 : Inv X pins σ' H' { s' with heap := h4 } := J.landed nb fl4.1 ((up.trans up3).trans up4) os ag
    obtain ⟨oe4, vs4, he4, hz4, hd4⟩ := fl4.there
    have S4 := J4.suite he4 hd4 na nL nF
    refine store_ok (X := X.suite a ((a, oe4) :: (X.pn ++ pins))) (v := .ref a) S4 hN hi (.inl hln) rfl (fun s5 S5 => ?_) (.inr hln)
    refine run_keep (X := X.suite a ((a, oe4) :: (X.pn ++ pins))) (v := .ref a) hN hi hln hj hly hnd hnc (hsw a ((a, oe4) :: (X.pn ++ pins))) S5 ?_ (fun _ _ z => z.elim) (fun s6 S6 => ?_)
    · rw [List.getElem?_set_self]
      rw [J4.len]
      exact (List.getElem?_eq_some_iff.mp hi).1
    obtain ⟨g1, g2, _⟩ := S6.pin (a, oe4) (List.mem_append_left _ List.mem_cons_self)
    have J6 : Inv X pins ((σ'.set i (some (.ref a))).set j (some (.ref a))) H' s6 := S6.unsuite ok
    have cellNe : ∀ x c, X.env.cells.lookup x = some c → c ≠ a := by
      intro x c e z
      obtain ⟨v, ob, hob, hdc⟩ := J6.cell x c e
      rw [z, g1] at hob
      cases hob
      rw [hd4] at hdc
      cases hdc
    have J7 := track J6 g1 na nL cellNe noP no0 (exk_ok (d := d) g1 hz4.1 hz4.2 hd4)
    refine gone_ok J7 hN hi hln fun s7 J8 => ⟨_, _, J8, ?_⟩
    have e : ((σ'.set i (some (V.ref a))).set j (some (V.ref a))).set i none = (σ'.set j (some (V.ref a))).set i none := by
      rw [List.set_comm _ _ hij, List.set_set]
    rw [e]
    exact hq J.len a na
  · match f, hsp with
    | .next, ⟨σ', H', J', q⟩ => exact wpAny_execs_nil ⟨σ', H', J'.ofTry ok, q⟩
    | .brk, ⟨σ', H', J', q⟩ => exact ⟨σ', H', J'.ofTry ok, q⟩
    | .cont, ⟨σ', H', J', q⟩ => exact ⟨σ', H', J'.ofTry ok, q⟩
    | .ret u, ⟨v, σ', H', J', r, q⟩ => exact ⟨v, σ', H', J'.ofTry ok, r, q⟩
end
end NB
/-! NBi: list(o), o of an own class whose __iter__ gives a tuple's iterator and that has an own __len__. -/
namespace NB
open PySem PySem.Spec PyProof.Rows L2
/-- at it: an iterator over the tuple at t, at its start -/
def TItO (t it : Addr) : HO := .ext fun h => h.IsTupleIter it t 0
theorem tItO_ok {P : Program} {w : World} {H : Hp} {h : Heap} {t it : Addr} (e : h.IsTupleIter it t 0) : ObjOk P w H h it (TItO t it) := by
  obtain ⟨o, ho, hc, hd⟩ := e
  exact ⟨⟨o, ho, hc, hd⟩, ⟨o, ho⟩, fun h1 h2 ⟨o', ho', r⟩ k => ⟨o', k _ ho', r⟩⟩
section
variable {X : Cx} {pins : List (Addr × Obj)} {σ : L2.St} {H : Hp} {s : Shared}
/-- iter(t), t a tuple -/
def rIterT (K : PySem.W.Frag) : List V → Hp → VK → Prop := fun xs H Q => ∃ (t : Addr) (zs : List V), xs = [.ref t] ∧ SqT K H t zs ∧ ∀ it, H it = none → Q (.ref it) (upd H it (TItO t it))
theorem tup_of {s : Shared} {t : Addr} {items : Array Value} (h : IsTup s.heap t items) : s.heap.IsTuple t items := by
  obtain ⟨o, ho, hc, hd⟩ := h
  exact ⟨o, ho, hc, hd⟩
theorem call_iterT : CallR X (.builtin "iter") (rIterT X.K) := by
  intro pins s σ H xs us Q I r h
  obtain ⟨l, zs, rfl, hq, q⟩ := h
  obtain rfl := Vals.ref1 r
  obtain ⟨its, rv, ht, hz⟩ := I.tuple hq
  refine Calls.call_function_entry (by decide +kernel) (by decide +kernel) PySem.W.kdk_entry_iter (PySem.W.kdk_args_iter _) ?_
  unfold Builtin.«iter»
  refine wpAny_bind (m := someArgs "iter" 1 2 _) (wpAny_of_eq (a := [Value.ref l]) (by first | rfl | kernel_rfl!) ?_)
  show wpAny _ _ (pyIter (.ref l) >>= _) _ _ _
  refine wpAny_bind (wpAny_pyIter_tuple (tup_of ht) ?_)
  refine wpAny_pure ⟨_, rfl, ?_⟩
  exact ⟨.ref s.heap.objs.size, _, I.laid (t' := s.toks) (fun b u e => Heap.get?_push_of_some _ e) (Nat.le_refl _) (tItO_ok ⟨_, Heap.get?_push_size _ rfl, rfl, rfl⟩), rfl, q _ (I.hok.fresh (Nat.le_refl _))⟩
/-- an untracked record at it has turned, the list at q has been filled -/
theorem inv_filled {it q : Addr} {xs ys : List V} {h' : Heap} {t' : Nat} (J : Inv X pins σ H s) (k : ∀ b o, b ≠ it → b ≠ q → s.heap.get? b = some o → h'.get? b = some o) (n : H it = none) (nL : it ≠ X.env.locals)
    (nc : ∀ x c, X.env.cells.lookup x = some c → c ≠ it) (np : ∀ p ∈ X.pn ++ pins, p.1 ≠ it) (n0 : X.s_0.heap.get? it = none) (hq : H q = some (.lst xs)) (new : ObjOk X.prog X.w (upd H q (.lst ys)) h' q (.lst ys)) :
    Inv X pins σ (upd H q (.lst ys)) { s with heap := h', toks := t' } := by
  have nq : ∀ b, H b = none → b ≠ q := fun b e z => by
    rw [z, hq] at e
    cases e
  have n0q : ∀ b o, X.s_0.heap.get? b = some o → b ≠ it := fun b o e z => by
    rw [z, n0] at e
    cases e
  have other : ∀ b v, H b = some v → (∀ zs, v ≠ .lst zs) → upd H q (.lst ys) b = some v := fun b v e z => by
    have hb : b ≠ q := fun y => by
      rw [y, hq] at e
      exact z _ (Option.some.inj e).symm
    rw [upd_ne hb]
    exact e
  have nsK : ∀ {b : Addr} {o : Obj}, H b = none → b ≠ it → s.heap.get? b = some o → h'.get? b = some o := fun {b o} e1 e2 e => k b o e2 (nq b e1) e
  obtain ⟨_, its, c, _, eq⟩ := new
  refine ⟨J.ok, J.os, J.bare, ⟨fun b o e z f x => ?_, fun b o e z f x => ?_, fun b o e z x => ?_, fun b o e x => ?_, fun b zs e => other b _ (J.base.tups b zs e) (fun _ y => nomatch y), fun b o u e => other b _ (J.base.frzs b o u e) (fun _ y => nomatch y), fun b ps e => ?_⟩,
    ?_, fun x c e => ?_, ?_, fun x c e => ?_, fun p hp => ?_, fun b v e => ?_, J.len⟩
  · exact nsK (J.base.free b o e z x) (n0q b o e) (J.base.keep b o e z f x)
  · obtain ⟨sl, y⟩ := J.base.slot b o e z f x
    exact ⟨sl, nsK (J.base.free b o e z x) (n0q b o e) y⟩
  · have y := J.base.free b o e z x
    rw [upd_ne (nq b y)]
    exact y
  · obtain ⟨o', y⟩ := J.base.there b o e x
    by_cases hb : b = q
    · rw [hb]
      exact ⟨_, eq⟩
    · exact ⟨o', k b o' (n0q b o e) hb y⟩
  · obtain ⟨m, y⟩ := J.base.tbls b ps e
    exact ⟨m, other b _ y (fun _ y => nomatch y)⟩
  · obtain ⟨m, hns, hl⟩ := J.loc
    obtain ⟨o, es, ep, ho, r⟩ := hns
    refine ⟨m, ⟨o, es, ep, nsK J.free nL.symm ho, r⟩, fun i x v e1 e2 e3 => ?_⟩
    obtain ⟨u, ru, lk⟩ := hl i x v e1 e2 e3
    refine ⟨u, ru, ?_⟩
    rcases lk with ⟨k1, k2⟩ | ⟨k1, c, k2, k3⟩
    · exact .inl ⟨k1, k2⟩
    · refine .inr ⟨k1, c, k2, ?_⟩
      obtain ⟨oc, ho, r⟩ := k3
      exact ⟨oc, nsK (J.freeC x c k2) (nc x c k2) ho, r⟩
  · obtain ⟨v, oc, ho, r⟩ := J.cell x c e
    exact ⟨v, oc, nsK (J.freeC x c e) (nc x c e) ho, r⟩
  · rw [upd_ne (nq _ J.free)]
    exact J.free
  · have y := J.freeC x c e
    rw [upd_ne (nq _ y)]
    exact y
  · obtain ⟨h1, h2, h3, h4, h5⟩ := J.pin p hp
    exact ⟨nsK h2 (np p hp) h1, by rw [upd_ne (nq _ h2)]; exact h2, h3, h4, h5⟩
  · by_cases hb : b = q
    · subst hb
      rw [upd_same] at e
      cases e
      exact ⟨by assumption, its, c, by assumption, eq⟩
    · rw [upd_ne hb] at e
      have ni : b ≠ it := fun z => by
        rw [z, n] at e
        cases e
      refine (J.hok b v e).stay (fun d u hd y => ?_) (fun d y => other d _ y fun _ z => nomatch z) (fun d zs y => other d _ y fun _ z => nomatch z)
      rcases hd with z | z
      · rw [z] at y ⊢
        exact k b u ni hb y
      · refine k d u (fun z2 => ?_) (fun z2 => ?_) y
        · rw [z2, n] at z
          cases z
        · rw [z2, hq] at z
          cases z
end
end NB
/-! NBj: list(o), the rule. -/
namespace NB
open PySem PySem.Spec PyProof.Rows L2 ItX
section
variable {X : Cx} {pins : List (Addr × Obj)} {σ : L2.St} {H : Hp} {s : Shared}
/-- the hint of an own __len__ -/
theorem len_hint {M : Model} {A : Around} {E : Value → Shared → Prop} {Q : Bool → Shared → Prop} {K : PySem.W.Frag} {a C f : Addr} {ox : Obj} {od : Option Obj} (hK : K.In s.heap) (J : PySem.W.InstAt s.heap a ox C od) (hl : PySem.W.findIn K (.ref C) "__len__" = some (some (.ref f)))
    (h : wpAny M A (call (.builtin "len") [.ref a]) (fun v s' => ∃ (n : Nat) (t : Tok), v = .int (n : Int) t ∧ n ≤ 1000 ∧ Q (((n : Int)) != 0) s') (fun e s' => False) s) :
    wpAny M A (Builtin.List.listLengthHint (.ref a)) Q E s := by
  unfold Builtin.List.listLengthHint
  refine wpAny_bind (wpAny_bind (J.type.here ((PySem.W.looks_findIn hK hl).here ?_)))
  refine PySem.W.KFB.if_not rfl ?_
  refine wpAny_ite_split (fun _ => ?_) (fun z => absurd rfl z)
  refine wpAny_bind (wpAny_rule (wpAny_bind (wpAny_attempt (wpAny_mono h (fun v s' hv => ?_) fun _ _ z => z.elim))))
  obtain ⟨n, t, rfl, hn, q⟩ := hv
  refine wpAny_bind (m := asInt? (.int n t)) (wpAny_pure ?_)
  dsimp only
  refine PySem.W.KFB.if_not ?_ (wpAny_pure q)
  show decide ((n : Int).toNat > sizeLine) = false
  rw [decide_eq_false]
  rw [sizeLine_eq]
  omega
theorem run_at0 {k : Nat} {f : Addr} {fd : FuncData} {ps : List Str} {sp : Sp} {A : Around} {E : XK} (F : FnOk X.prog X.w X.K X.mg X.base CX0 k f fd ps sp) (sb : Sub X k A) (hb : Binds X.K fd ps []) (I : Inv X pins σ H s) {us : List Value} {vs : List V} {Q : VK} (r : Vals vs us) (h : sp vs H Q E) :
    wpAny (model X.prog X.w) A (call (.ref f) us) (EP X pins σ Q) (fun _ _ => False) s := by
  have e0 : Env0 X.prog X.w X.K X.mg X.base A X.stack s H := by
    have e := I.env0
    exact ⟨sb.fr.trans e.frames, e.mod, e.bs, e.bsz, e.funs, e.frf, e.hok, e.bare⟩
  have hl : us.length = ps.length := r.length.symm.trans (F.len _ _ _ _ h)
  have bd := hb s us I.kIn (by rw [List.append_nil]; exact hl)
  rw [List.append_nil] at bd
  refine wpAny_call (codeAny_mono (F.run A X.stack s H ⟨us, []⟩ us vs Q E sb.room e0 bd r h) ?_)
  intro r s' hq
  match r, hq with
  | .ok (.ret u), hq => exact I.after hq
/-- list(o) -/
def rListI (C : Addr) (spI spL : Sp) : List V → Hp → VK → Prop := fun xs H Q => ∃ (a dx t : Addr) (fs : List (Str × V)) (zs : List V), xs = [.ref a] ∧ H a = some (.ins C dx fs) ∧ H t = some (.tup zs) ∧ 1 ≤ zs.length ∧ zs.length ≤ 1000 ∧
  ∀ q, H q = none → spI [.ref a] (upd H q (.lst [])) (fun v H2 => ∃ it, v = .ref it ∧ upd H q (.lst []) it = none ∧ H2 = upd (upd H q (.lst [])) it (TItO t it) ∧ spL [.ref a] H2 (fun v H3 => v = .int zs.length ∧ H3 = H2) E0) E0 ∧ Q (.ref q) (upd H q (.lst zs))
variable {CX : CXT} {k : Nat} {C : Addr} {spI spL : Sp}
theorem extend_own {a dx q t : Addr} {fs : List (Str × V)} {zs : List V} {A1 : Around} {Rs : Result → Shared → Prop} (MI : OwnM X CX k C "__iter__" spI) (ML : OwnM X CX0 k C "__len__" spL) (hr : Sub X (k + 1) A1.in1) (hx : Passes CX X E0) (hh : A1.handled = none) (hex : X.ex = [])
    (I : Inv X pins σ H s) (ha : H a = some (.ins C dx fs)) (ht : H t = some (.tup zs)) (hz : zs.length ≤ 1000) (hz1 : 1 ≤ zs.length) (hq : H q = some (.lst []))
    (h : spI [.ref a] H (fun v H2 => ∃ it, v = .ref it ∧ H it = none ∧ H2 = upd H it (TItO t it) ∧ spL [.ref a] H2 (fun v H3 => v = .int zs.length ∧ H3 = H2) E0) E0)
    (hdone : ∀ s', Inv X pins σ (upd H q (.lst zs)) s' → Rs (.ok (.ret .none)) s') (herr : ∀ e s, X.xe e s → Rs (.error e) s) :
    wpAny (model X.prog X.w) A1.in1 (Builtin.List.listExtendWith (.ref q) (.ref a) .none)
      (fun fin s' => match fin with | .done f => Rs (.ok f) s' | .again c' => c'.quiet = true ∧ codeAny (model X.prog X.w) A1 c' Rs s') (fun e s' => Rs (.error e) s') s := by
  have hne : q ≠ a := ne_of hq ha (fun z => nomatch z)
  obtain ⟨ox, od, J⟩ := inst_of I ha
  obtain ⟨m0, hF⟩ := I.fr
  obtain ⟨fI, fdI, psI, FI, bI, sI, iI⟩ := MI.ex
  obtain ⟨fL, fdL, psL, FL, bL, sL, iL⟩ := ML.ex
  unfold Builtin.List.listExtendWith
  refine wpAny_bind (J.type.here ?_)
  have h1 : Builtin.List.listSameRef (.ref q) (.ref a) = false := by simp [Builtin.List.listSameRef, hne]
  have h2 : (Value.ref C == Value.type "list") = false := rfl
  have h3 : (Value.ref C == Value.type "tuple") = false := rfl
  simp only [h1, h2, h3, Bool.or_false, Bool.false_eq_true, if_false]
  refine wpAny_bind (PySem.W.owit_iter hF I.ok.mod.kin J sI iI ?_)
  have e0 : Env0 X.prog X.w X.K X.mg X.base A1.in1 X.stack s H := by
    have e := I.env0
    exact ⟨by rw [hr.fr]; exact e.frames, e.mod, e.bs, e.bsz, e.funs, e.frf, e.hok, e.bare⟩
  have hl := FI.len _ _ _ _ h
  have bd := bI s [.ref a] I.kIn (by simpa using hl)
  rw [List.append_nil] at bd
  refine wpAny_call (codeAny_mono (FI.run A1.in1 X.stack s H ⟨[.ref a], []⟩ [.ref a] [.ref a] _ E0 (hr.room.mono (Nat.le_succ _)) e0 bd (.cons rel_ref .nil) h) fun r s' hq' => ?_)
  match r, hq' with
  | .error e, hq' => exact herr e s' (hx pins σ H s e s' I hq')
  | .ok (.ret u), ⟨v, H2, os, bare, un, hok, rv, it, ev, hit, eH, hsl⟩ =>
    subst ev
    obtain rfl : u = Value.ref it := rv
    have nit : s.heap.get? it = none := by
      cases e : s.heap.get? it with
      | none => rfl
      | some o =>
        have z := un.free it o e hit (fun z => nomatch z)
        rw [eH, upd_same] at z
        cases z
    obtain ⟨_, _, I2, _, _, e4⟩ := I.after (Q := fun v2 H3 => v2 = .ref it ∧ H3 = H2) ⟨.ref it, H2, os, bare, un, hok, rel_ref, rfl, rfl⟩
    rw [e4] at I2
    have eIt : H2 it = some (TItO t it) := by rw [eH]; exact upd_same
    have hti : s'.heap.IsTupleIter it t 0 := (I2.hok it _ eIt).1
    have ha2 : H2 a = some (.ins C dx fs) := by rw [eH, upd_ne (ne_of_none ha hit)]; exact ha
    have hq2 : H2 q = some (.lst []) := by rw [eH, upd_ne (ne_of_none hq hit)]; exact hq
    have ht2 : H2 t = some (.tup zs) := by rw [eH, upd_ne (ne_of_none ht hit)]; exact ht
    obtain ⟨ox2, od2, J2⟩ := inst_of I2 ha2
    obtain ⟨m2, hF2⟩ := I2.fr
    unfold PySem.W.OwitIt
    refine wpAny_specialOf hti.typeIs F.slot_tuple_iterator_next.lookup ?_
    show wpAny _ _ _ _ _ _
    refine wpAny_bind (wpAny_holding (len_hint I2.kIn J2 sL ?_))
    refine PySem.W.len_K hF2 I2.ok.mod.kin J2 sL iL (wpAny_mono (run_at0 FL hr.in1 bL I2 (.cons rel_ref .nil) hsl) ?_ fun e s3 z => z)
    rintro w s3 ⟨z, H3, I3, rz, rfl, e5⟩
    rw [e5] at I3
    obtain ⟨tk, rfl⟩ := rz
    refine ⟨⟨by omega, by omega⟩, zs.length, _, rfl, hz, ?_⟩
    have I4 : Inv X pins σ H2 { s3 with toks := s3.toks + 1 } := I3.tok _
    have hb : (((zs.length : Nat) : Int) != 0) = true := bne_iff_ne.mpr (by omega)
    rw [hb]
    refine wpAny_ite_split (fun _ => ?_) (fun z => absurd rfl z)
    refine wpAny_bind (wpAny_rule ?_)
    refine wpAny_bind ?_
    show wpAny _ _ (updateSeq q (·.push .none) >>= fun _ => updateSeq q (·.pop)) _ _ _
    obtain ⟨z, its, c0, r3, hl3, e3⟩ := I4.lstM hq2
    cases r3
    refine wpAny_bind (wpAny_updateSeq e3 rfl ?_)
    have I5 := I4.lset (f := (·.push Value.none)) (its' := [Value.none]) (ys := [.non]) (t' := s3.toks + 1) hq2 e3 (by simp) (.cons rfl .nil) (by rw [List.length_singleton, sizeLine_eq]; decide)
    obtain ⟨z4, its4, k4, r4, hl4, e4⟩ := I5.lstM upd_same
    obtain ⟨u4, rfl, ru4⟩ := r4.one
    refine wpAny_updateSeq e4 rfl ?_ (by show 1 ≤ sizeLine; rw [sizeLine_eq]; decide) (by show 0 ≤ sizeLine + 1; exact Nat.zero_le _)
    have I6 := I5.lset (f := (·.pop)) (its := [u4]) (its' := []) (ys := []) (t' := s3.toks + 1) upd_same e4 (by rfl) .nil (Nat.zero_le _)
    rw [upd_upd] at I6
    have hH : upd H2 q (.lst []) = H2 := by
      funext b
      by_cases hb : b = q
      · rw [hb, upd_same, hq2]
      · rw [upd_ne hb]
    rw [hH] at I6
    refine wpAny_pure ⟨plainId_quiet PySem.F.plain_extend_loop _, ?_⟩
    have nL : it ≠ X.env.locals := fun z => by
      have y := I6.free
      rw [← z, eIt] at y
      cases y
    have nc : ∀ x c, X.env.cells.lookup x = some c → c ≠ it := fun x c e z => by
      have y := I6.freeC x c e
      rw [z, eIt] at y
      cases y
    have np : ∀ p ∈ X.pn ++ pins, p.1 ≠ it := fun p hp z => by
      have y := (I6.pin p hp).2.1
      rw [z, eIt] at y
      cases y
    have n0 : X.s_0.heap.get? it = none := by
      cases e : X.s_0.heap.get? it with
      | none => rfl
      | some o =>
        obtain ⟨o', y⟩ := I.base.there it o e (by rw [hex]; exact List.not_mem_nil)
        rw [nit] at y
        cases y
    have ntt : t ≠ it := ne_of_none ht hit
    have ntq : q ≠ it := ne_of_none hq hit
    have nqt : q ≠ t := ne_of hq ht (fun z => nomatch z)
    obtain ⟨items, rv6, ht6, _⟩ := I6.tuple (a := t) (xs := zs) (.inl (.inl ht2))
    have hti6 := (I6.hok it _ eIt).1
    obtain ⟨z6, its6, c6, r6, hl6, e6⟩ := I6.lstM hq2
    cases r6
    have hD : dropH H2 it = H := by rw [eH]; exact dropH_upd hit
    have J6 := inv_drop I6 eIt
    rw [hD] at J6
    have W := (Walks.tuple (prog := X.prog) (w := X.w) (A := A1.in1) hh it t ntt items.toArray).toS
    have lz : zs.length = items.length := rv6.length
    refine codeAny_extend_loopS W (by rw [List.size_toArray, ← lz, sizeLine_eq]; omega) q (by simp [ntq, nqt]) .none items.toArray.size 0 _ _ _ rfl (Nat.zero_le _) ⟨hti6, tup_of ht6⟩ e6 (ItemsOf.nil _) (fun s' acc' c' hm hS' hacc => ?_)
    refine hdone s' ?_
    obtain ⟨h7, g7, d7, t7, o7⟩ := s'
    obtain rfl := hm.gens
    obtain rfl := hm.drawn
    obtain rfl := hm.os
    refine inv_filled (t' := t7) J6 (fun b o n1 n2 e => hm.heap b o (by simp [n1, n2]) e) hit nL nc np n0 hq ⟨by rw [sizeLine_eq]; omega, acc'.toList, c', ?_, by rw [Array.toArray_toList]; exact hS'⟩
    have ea : acc'.toList = items := by
      refine List.ext_getElem? fun i => ?_
      by_cases hi : i < acc'.size
      · have y := hacc.2 i acc'[i] (Array.getElem?_eq_getElem hi)
        rw [Array.getElem?_toList, Array.getElem?_eq_getElem hi]
        have y2 : items.toArray[i]? = some acc'[i] := y
        rw [List.getElem?_toArray] at y2
        exact y2.symm
      · have y : acc'.size = items.toArray.size := hacc.1
        have y1 : acc'.size = items.length := y.trans List.size_toArray
        have y2 : items.length ≤ i := by rw [← y1]; exact Nat.le_of_not_lt hi
        rw [List.getElem?_eq_none (by rw [Array.length_toList]; exact Nat.le_of_not_lt hi), List.getElem?_eq_none y2]
    rw [ea]
    exact rv6
theorem call_listI (MI : OwnM X CX k C "__iter__" spI) (ML : OwnM X CX0 k C "__len__" spL) (hr : Room (k + 3) X.A) (hx : Passes CX X E0) (hc : X.calm = true) (hex : X.ex = []) : CallR X (.type "list") (rListI C spI spL) := by
  intro pins s σ H xs us Q I rv h
  obtain ⟨a, dx, t, fs, zs, rfl, ha, ht, hz1, hz, hq⟩ := h
  obtain ⟨u, rfl, ru⟩ := rv.one
  cases ru
  have sb : Sub X (k + 1) X.A.in1.in1 := (Sub.in1 (Sub.in1 (⟨hr, rfl⟩ : Sub X (k + 3) X.A)))
  refine callType_codes (Q₁ := fun obj s₁ => obj = .ref s.heap.objs.size ∧ s₁ = { s with heap := s.heap.push { cls := .type "list", data := .seq #[] } }) PySem.F.called_list (PySem.F.typeCall_list_1 _) PySem.F.entry_list_init
    (code_list_new _ ⟨rfl, rfl⟩) fun obj s₁ h₁ => ?_
  obtain ⟨rfl, rfl⟩ := h₁
  have hS : (s.heap.push { cls := .type "list", data := .seq #[] }).get? s.heap.objs.size = some { cls := .type "list", data := .seq #[] } := Heap.get?_push_size _ rfl
  refine ⟨⟨_, hS, rfl⟩, PySem.F.args_list_init_2 _ _, ?_⟩
  have fr : H s.heap.objs.size = none := I.hok.fresh (Nat.le_refl _)
  obtain ⟨hsp, hQ⟩ := hq _ fr
  have I1 : Inv X pins σ (upd H s.heap.objs.size (.lst [])) { s with heap := s.heap.push { cls := .type "list", data := .seq #[] } } := I.lnew (its := []) (t' := s.toks) .nil (Nat.zero_le _)
  show wpAny _ _ (do let old ← Builtin.List.listItems (.ref s.heap.objs.size); Builtin.List.listUpdate (.ref s.heap.objs.size) (fun _ => #[]); letGo old.toList.reverse; Builtin.List.listExtendWith (.ref s.heap.objs.size) (.ref a) .none) _ _ _
  refine wpAny_bind ?_
  unfold Builtin.List.listItems
  refine wpAny_bind (wpAny_seqItems hS rfl (wpAny_pure ?_))
  show wpAny _ _ (updateSeq s.heap.objs.size (fun _ => #[]) >>= fun _ => letGo (#[] : Array Value).toList.reverse >>= fun _ => Builtin.List.listExtendWith (.ref s.heap.objs.size) (.ref a) .none) _ _ _
  refine wpAny_bind (wpAny_updateSeq hS rfl ?_)
  have I2 := I1.lset (f := fun _ => #[]) (its := []) (its' := []) (ys := []) (t' := s.toks) upd_same hS rfl .nil (Nat.zero_le _)
  rw [upd_upd] at I2
  refine wpAny_bind (wpAny_letGo ?_)
  have ha2 : upd H s.heap.objs.size (.lst []) a = some (.ins C dx fs) := by rw [upd_ne (ne_of_none ha fr)]; exact ha
  have ht2 : upd H s.heap.objs.size (.lst []) t = some (.tup zs) := by rw [upd_ne (ne_of_none ht fr)]; exact ht
  exact extend_own (A1 := X.A.in1) (Rs := wants (fun r s₂ => r = .none ∧ EP X pins σ Q (.ref s.heap.objs.size) s₂) X.xe) MI ML sb hx (I.ok.hd hc) hex I2 ha2 ht2 hz hz1 upd_same hsp
    (fun s' I' => ⟨rfl, .ref s.heap.objs.size, _, I', rfl, by rw [upd_upd]; exact hQ⟩) (fun e s' he => he)
end
end NB
/-! NBk: own operators in place (without an own in-place method), and with an operand of the same class. -/
namespace PySem.W
open PySem PySem.Calls PyProof.Rows
section
variable {prog : Program} {w : World} {A : Around} {E : Value → Shared → Prop} {s : Shared} {K : Frag} {x C L f : Addr} {h₀ : Heap} {m : Str → Option Value} {ox : Obj} {od : Option Obj} {T : String} {b : Value}
theorem nb_fillsI0 {M : Model} {h : Heap} {nm : String} {cd : ClassData} {add : Bool} (X : K.In h) (hc : clsIn K C = some cd) (hm : cd.mro = [.ref C, .type "object"]) (hs : findIn K (.ref C) (dunderI nm) = some none) (ho : findIn K (.type "object") (dunderI nm) = some none) :
    Looks M h (fillsInplaceSlot (.ref C) nm add) false := by
  intro A Q E s k q
  have Lm : Looks M h (mroOf (.ref C)) cd.mro := (looks_clsIn X hc).andThen (f := fun cd => pure cd.mro) .now
  have Lm' := Lm.keeps k
  obtain ⟨hh, g, d, tt, os⟩ := s
  have X' : K.In hh := X.keeps k
  have L1 : Looks M hh (typeLookup (.ref C) (dunderI nm)) none := looks_findIn X' hs
  have L2 : Looks M hh (typeLookup (.type "object") (dunderI nm)) none := looks_findIn X' ho
  unfold fillsInplaceSlot
  refine wpAny_bind (Lm'.at ?_)
  rw [hm, List.anyM_cons]
  refine wpAny_bind ?_
  refine wpAny_bind (L1.at (wpAny_pure ?_))
  rw [if_neg (by decide), List.anyM_cons]
  refine wpAny_bind (wpAny_bind (L2.at (wpAny_pure ?_)))
  rw [if_neg (by decide)]
  exact wpAny_pure q
theorem nb_bin1 {op : Operator} {fo ro rc : Option Value} {Q : Value → Shared → Prop} (F : Fr h₀ L s.heap m) (X₀ : K.In h₀) (I : InstAt s.heap x ox C od)
    (hb : Looks (model prog w) s.heap (typeOf b) (.type T)) (hc : selfFirst K C = true)
    (hs : findIn K (.ref C) (PySem.dunder op.info.2) = some (some (.ref f))) (hf : isFn K (.ref f) = true)
    (hr : findIn K (.ref C) (dunderR op.info.2) = some rc) (hp : rc = none ∨ ∃ g : Addr, rc = some (.ref g))
    (h1 : findIn K (.type T) (PySem.dunder op.info.2) = some fo) (h2 : findIn K (.type T) (dunderR op.info.2) = some ro)
    (hsub : subIn K (.type T) (.ref C) = some false)
    (h : wpAny (model prog w) A (call (.ref f) [.ref x, b]) (CmpBack Q) E s) : wpAny (model prog w) A (binaryOp1 op.info.2 (.ref x) b) (fun r s' => ∃ v, r = some v ∧ Q v s') E s := by
  have X := X₀.keeps F.keep
  obtain ⟨cd, rest, hcd, hm⟩ := ksp_first hc
  rcases hi : op.info with ⟨sym, nm⟩
  rw [hi] at hs hr h1 h2
  dsimp only at hs hr h1 h2
  have one := ksp_try X I hs hf h
  obtain ⟨hh, g, d, tt, os⟩ := s
  have a1 : Looks (model prog w) hh (typeOf (.ref x)) (.ref C) := I.type
  have a3 : Looks (model prog w) hh (fillsNumberSlot (.ref C) nm) true := fills_K X hcd hm hs
  have a4 : Looks (model prog w) hh (fillsNumberSlot (.type T) nm) ((fo.isSome && !isSeqSlot fo) || (ro.isSome && !isSeqSlot ro)) := ksp_fillsT X h1 h2
  have a5 : Looks (model prog w) hh (isSubtype (.type T) (.ref C)) false := looks_subIn X hsub
  have a6 : Looks (model prog w) hh (numberSlotInPython (.ref C) nm) true := ksp_inPy X hs hr hp
  have a7 : Looks (model prog w) hh (numberSlotInPython (.type T) nm) false := Looks.of_pure rfl
  have a8 : Looks (model prog w) hh (typeLookup (.type T) (dunderR nm)) ro := looks_findIn X h2
  generalize ((fo.isSome && !isSeqSlot fo) || (ro.isSome && !isSeqSlot ro)) = right at a4
  have unlike : (Value.ref C == Value.type T) = false := Bool.eq_false_iff.mpr fun q => by cases beq_iff_eq.mp q
  dsimp only
  unfold binaryOp1
  refine wpAny_bind (a1.at (wpAny_bind (hb.at (wpAny_bind (a3.at ?_)))))
  simp only [unlike, Bool.false_eq_true, if_false]
  cases right
  all_goals
    ksp_lk
    refine wpAny_mono one (fun r s' hr' => ?_) fun _ _ e => e
    obtain ⟨v, rfl, hq⟩ := hr'
    ksp_lk
    exact ⟨v, rfl, hq⟩
/-- x op= b, no own in-place method -/
theorem nb_inT {op : Operator} {cd : ClassData} {fo ro rc : Option Value} {Q : Value → Shared → Prop} (F : Fr h₀ L s.heap m) (X₀ : K.In h₀) (I : InstAt s.heap x ox C od)
    (hb : Looks (model prog w) s.heap (typeOf b) (.type T)) (hc : selfFirst K C = true) (hcd : clsIn K C = some cd) (hm : cd.mro = [.ref C, .type "object"]) (hi : findIn K (.ref C) (dunderI op.info.2) = some none) (ho : findIn K (.type "object") (dunderI op.info.2) = some none)
    (hs : findIn K (.ref C) (PySem.dunder op.info.2) = some (some (.ref f))) (hf : isFn K (.ref f) = true)
    (hr : findIn K (.ref C) (dunderR op.info.2) = some rc) (hp : rc = none ∨ ∃ g : Addr, rc = some (.ref g))
    (h1 : findIn K (.type T) (PySem.dunder op.info.2) = some fo) (h2 : findIn K (.type T) (dunderR op.info.2) = some ro)
    (hsub : subIn K (.type T) (.ref C) = some false)
    (h : wpAny (model prog w) A (call (.ref f) [.ref x, b]) (CmpBack Q) E s) : wpAny (model prog w) A (inplaceOp op (.ref x) b) Q E s := by
  have X := X₀.keeps F.keep
  unfold inplaceOp
  refine wpAny_holding (wpAny_bind (I.type.here (wpAny_bind ((nb_fillsI0 X hcd hm hi ho).here ?_))))
  rw [if_neg (by decide)]
  refine wpAny_bind (wpAny_mono (nb_bin1 F X₀ I hb hc hs hf hr hp h1 h2 hsub h) (fun r s' hq => ?_) fun _ _ e => e)
  obtain ⟨v, rfl, hq⟩ := hq
  exact wpAny_pure hq
end
end PySem.W
namespace NB
open PySem PySem.Spec L2
section
variable {X : Cx} {CX : CXT} {k : Nat} {C f : Addr} {fd : FuncData} {ps : List Str} {sp : Sp} {E : XK} {pins : List (Addr × Obj)} {σ : L2.St} {H : Hp} {s : Shared} {A : Around}
/-- what the class must say for an operator in place -/
structure InT (K : PySem.W.Frag) (C : Addr) (op : Operator) : Prop where
  cd : ∃ cd, PySem.W.clsIn K C = some cd ∧ cd.mro = [.ref C, .type "object"]
  hi : PySem.W.findIn K (.ref C) (dunderI op.info.2) = some none
  ho : PySem.W.findIn K (.type "object") (dunderI op.info.2) = some none
theorem in_O {op : Operator} (M : OwnM X CX k C (PySem.dunder op.info.2) sp) (N : InT X.K C op) (hr : Room k X.A) (hx : Passes CX X E) : InOp X op (rBinO X.K C op sp E) := by
  intro pins s σ H x y u v Q I rx ry h
  obtain ⟨f, fd, ps, F, hb, hs, hf⟩ := M.ex
  obtain ⟨a, dx, fs, T, rfl, ha, ty, B, q⟩ := h
  obtain ⟨ox, od, J⟩ := inst_of I ha
  obtain ⟨Pt, Z, pt, _⟩ := kit_of I ry ty
  obtain ⟨m, hF⟩ := I.fr
  obtain ⟨fo, h1⟩ := B.h1
  obtain ⟨ro, h2⟩ := B.h2
  obtain ⟨cd, hcd, hm⟩ := N.cd
  have rx' := rx
  cases rx'
  refine PySem.W.nb_inT hF I.ok.mod.kin J (Z.ty _ _ I.kIn pt) B.hc hcd hm N.hi N.ho hs hf B.hr (.inl rfl) h1 h2 B.hs (wpAny_mono (run_at F ⟨hr, rfl⟩ hb hx I (.cons rel_ref (.cons ry .nil)) q) ?_ fun _ _ z => z)
  rintro w s' ⟨z, H', I', rz, qb⟩
  have e : EP X pins σ Q w s' := ⟨z, H', I', rz, qb⟩
  have n := rel_noNI rz
  cases w <;> first | exact e | exact absurd rfl n
/-- the other operand of the same class -/
theorem op_binS {op : Operator} (M : OwnM X CX k C (PySem.dunder op.info.2) sp) (hc : PySem.W.selfFirst X.K C = true) (hr : Room k X.A) (hx : Passes CX X E) : OpR X (binaryOp op) (rBinS X.K C sp E) := by
  intro pins s σ H x y u v Q I rx ry h
  obtain ⟨f, fd, ps, F, hb, hs, hf⟩ := M.ex
  obtain ⟨a, dx, b, dy, fs, gs, rfl, ha, rfl, hb2, q⟩ := h
  obtain ⟨ox, od, J⟩ := inst_of I ha
  obtain ⟨oy, oe, J2⟩ := inst_of I hb2
  obtain ⟨m, hF⟩ := I.fr
  have rx' := rx
  cases rx'
  have ry' := ry
  cases ry'
  refine PySem.W.binop_K hF I.ok.mod.kin J J2.type hc hs hf (wpAny_mono (run_at F ⟨hr, rfl⟩ hb hx I (.cons rel_ref (.cons rel_ref .nil)) q) ?_ fun _ _ z => z)
  rintro w s' ⟨z, H', I', rz, qb⟩
  have e : EP X pins σ Q w s' := ⟨z, H', I', rz, qb⟩
  have n := rel_noNI rz
  cases w <;> first | exact e | exact absurd rfl n
/-- either -/
theorem op_or {f : Value → Value → Sem Value} {r1 r2 : R2} (h1 : OpR X f r1) (h2 : OpR X f r2) : OpR X f (fun x y H Q => r1 x y H Q ∨ r2 x y H Q) := by
  intro pins s σ H x y u v Q I rx ry h
  rcases h with h | h
  · exact h1 pins s σ H x y u v Q I rx ry h
  · exact h2 pins s σ H x y u v Q I rx ry h
end
end NB
/-! NBp: what all laws share: the pen, readings one construct at a time, lists told by rows. -/
namespace NB
open PySem L2
/-- the pen: a list of its cells, the number of the next one, what is left of a great one -/
structure Pen (H : Hp) (p c : Addr) (ns : List Int) (i r : Int) : Prop where
  pen : H p = some (.lst [.ref c, .int i, .int r])
  cells : H c = some (.lst (ns.map V.int))
  lo : 0 ≤ i
  few : ns.length ≤ 63
/-- all that was tracked stands, but what is at p -/
def But (p : Addr) (H H' : Hp) : Prop := ∀ a o, a ≠ p → H a = some o → H' a = some o
theorem But.refl (p : Addr) (H : Hp) : But p H H := fun _ _ _ h => h
theorem But.trans {p : Addr} {H H1 H2 : Hp} (a : But p H H1) (b : But p H1 H2) : But p H H2 := fun x o n h => b x o n (a x o n h)
theorem But.upd {p : Addr} {H H' : Hp} {o : HO} (a : But p H H') : But p H (L2.upd H' p o) := fun x u n h => by
  rw [upd_ne n]
  exact a x u n h
theorem But.new {p q : Addr} {H H' : Hp} {o : HO} (a : But p H H') (h : H' q = none) : But p H (L2.upd H' q o) := fun x u n e => by
  have z := a x u n e
  rw [upd_ne (ne_of_none z h)]
  exact z
abbrev penO (c : Addr) (i r : Int) : HO := .lst [.ref c, .int i, .int r]
structure Bi (mg : Str → Option Value) : Prop where
  int : mg "int" = none
  len : mg "len" = none
  abs : mg "abs" = none
  list : mg "list" = none
  range : mg "range" = none
  isinstance : mg "isinstance" = none
  repr : mg "repr" = none
  str : mg "str" = none
  tuple : mg "tuple" = none
  iter : mg "iter" = none
  bool : mg "bool" = none
def spDraw : Sp := fun vs H Q _ => ∃ (p c : Addr) (ns : List Int) (i r many : Int), vs = [.ref p, .int many] ∧ Pen H p c ns i r ∧ i ≤ 10000 ∧ 1 ≤ many ∧ many < 2 ^ 100 ∧
  ∀ (H' : Hp) (i' r' d : Int), But p H H' → Pen H' p c ns i' r' → i ≤ i' → i' ≤ i + 1 → 0 ≤ d → d < many → Q (.int d) H'
theorem dp_ints {K : PySem.W.Frag} {H : Hp} : ∀ ns : List Int, DpAll K H (ns.map V.int) (ns.map PyData.int)
  | [] => .nil
  | n :: ns => .cons (.int n) (dp_ints ns)
theorem canLay_ints : ∀ ns : List Int, PyData.canLayAll0 (ns.map PyData.int) = true
  | [] => rfl
  | n :: ns => by
    show (PyData.canLay0 (.int n) && PyData.canLayAll0 (ns.map PyData.int)) = true
    rw [canLay_ints ns]
    rfl
theorem depth_ints : ∀ ns : List Int, PyData.depthAll (ns.map PyData.int) = 0
  | [] => rfl
  | n :: ns => by
    show max (PyData.depth (.int n)) (PyData.depthAll (ns.map PyData.int)) = 0
    rw [depth_ints ns]
    rfl
theorem shaped_ints (ns : List Int) : SeqAt.shaped (.list (ns.map PyData.int)) = true := by
  unfold SeqAt.shaped
  have h1 : PyData.canLay0 (.list (ns.map PyData.int)) = true := by
    show PyData.canLayAll0 (ns.map PyData.int) = true
    exact canLay_ints ns
  have h2 : PyData.depth (.list (ns.map PyData.int)) = 1 := by
    show PyData.depthAll (ns.map PyData.int) + 1 = 1
    rw [depth_ints]
  rw [h1, h2]
  rfl
/-- text * number -/
theorem op_mul_str {X : Cx} : OpR X (binaryOp .Mult) (fun x y H Q => ∃ (z : Str) (i : Int), x = .str z ∧ y = .int i ∧ z.length ≤ 16 ∧ 0 ≤ i ∧ i ≤ 1000 ∧ Q (.str (Txt.mul z i)) H) := by
  intro pins s σ H x y v u Q I rx ry h
  obtain ⟨z, i, rfl, rfl, h1, h2, h3, q⟩ := h
  obtain ⟨t, rfl⟩ := rx
  obtain ⟨t', rfl⟩ := ry
  exact PySem.W.KXi.mul rfl h1 (by omega) (by omega) fun t' k _ _ => ⟨.str _, H, I.tok _, ⟨_, rfl⟩, q⟩
/-- the heap without what stands at p -/
def hide (p : Addr) (H : Hp) : Hp := fun a => if a = p then none else H a
theorem hide_sub {p : Addr} {H : Hp} : ∀ a o, hide p H a = some o → H a = some o := fun a o h => by
  unfold hide at h
  split at h
  · cases h
  · exact h
theorem hide_of {p a : Addr} {H : Hp} {o : HO} (n : a ≠ p) (h : H a = some o) : hide p H a = some o := by
  unfold hide
  rw [if_neg n]
  exact h
theorem But.hide {p : Addr} {H H' : Hp} (b : But p H H') : ∀ a o, NB.hide p H a = some o → NB.hide p H' a = some o := fun a o h => by
  have n : a ≠ p := by
    intro z
    unfold NB.hide at h
    rw [if_pos z] at h
    cases h
  exact hide_of n (b a o n (hide_sub a o h))
/-- a drawn value: small data, apart from the pen -/
structure Small (d : PyData) : Prop where
  sh : d.showable = true
  dp : d.depth ≤ 10
  ln : d.shown.length ≤ 1000
def Thing (K : PySem.W.Frag) (p : Addr) (H : Hp) (v : V) : Prop := ∃ d, DR K (hide p H) v d ∧ Small d
theorem Thing.keep {K : PySem.W.Frag} {p : Addr} {H H' : Hp} {v : V} (t : Thing K p H v) (b : But p H H') : Thing K p H' v := by
  obtain ⟨d, h, s⟩ := t
  exact ⟨d, h.keep b.hide, s⟩

def spPen (K : PySem.W.Frag) : Sp := fun vs H Q _ => ∃ (a : Addr) (ns : List Int), vs = [.ref a] ∧ SqL K H a (ns.map V.int) ∧ ns.length ≤ 63 ∧
  ∀ (H' : Hp) (p c : Addr) (ms : List Int), Same H H' → H p = none → Pen H' p c ms 0 0 → Q (.ref p) H'
theorem cut_ints (ns : List Int) (lo hi : Option Int) : ∃ ms : List Int, cutV (ns.map V.int) lo hi = ms.map V.int ∧ ms.length ≤ ns.length := by
  refine ⟨(ns.drop (HT.sIx (ns.map V.int).length 0 lo)).take (HT.sIx (ns.map V.int).length (ns.map V.int).length hi - HT.sIx (ns.map V.int).length 0 lo), ?_, ?_⟩
  · unfold cutV
    rw [List.map_take, List.map_drop]
  · rw [List.length_take, List.length_drop]
    omega
def spPick : Sp := fun vs H Q _ => ∃ (p c l : Addr) (ns : List Int) (i r : Int) (xs : List V), vs = [.ref p, .ref l] ∧ Pen H p c ns i r ∧ i ≤ 10000 ∧ l ≠ p ∧ H l = some (.lst xs) ∧ 1 ≤ xs.length ∧ xs.length ≤ 1000 ∧
  ∀ (H' : Hp) (i' r' : Int) (v : V), But p H H' → Pen H' p c ns i' r' → i ≤ i' → i' ≤ i + 1 → v ∈ xs → Q v H'
structure DefOf (P : Program) (w : World) (K : PySem.W.Frag) (mg : Str → Option Value) (base : Heap) (x : Str) (k : Nat) (ps : List Str) (sp : Sp) : Prop where
  ex : ∃ (f : Addr) (fd : FuncData), FnOk P w K mg base CX0 k f fd ps sp ∧ mg x = some (.ref f) ∧ PySem.W.keepIn K (.ref f) = true ∧ Binds K fd ps []
theorem fresh_upd {H : Hp} {a b : Addr} {o : HO} (h : upd H a o b = none) : b ≠ a ∧ H b = none := by
  by_cases z : b = a
  · rw [z, upd_same] at h
    cases h
  · rw [upd_ne z] at h
    exact ⟨z, h⟩
theorem Thing.at_ {K : PySem.W.Frag} {p : Addr} {H : Hp} {v : V} {d : PyData} (h : DR K (hide p H) v d) (s : Small d) : Thing K p H v := ⟨d, h, s⟩
theorem Paired.at_ {α β : Type} {F : α → β → Prop} : ∀ {l₁ : List α} {l₂ : List β} {i : Nat} {a : α}, Paired F l₁ l₂ → l₁[i]? = some a → ∃ b, l₂[i]? = some b ∧ F a b
  | _, _, _, _, .nil, e => by simp at e
  | _, _, 0, _, .cons r _, e => by
    simp at e
    subst e
    exact ⟨_, rfl, r⟩
  | _, _, i + 1, _, .cons _ t, e => by
    obtain ⟨b, h1, h2⟩ := Paired.at_ (i := i) t (by simpa using e)
    exact ⟨b, by simpa using h1, h2⟩
theorem ref_at {ts : List Addr} {i : Nat} {x : V} (h : (ts.map V.ref)[i]? = some x) : ∃ t, ts[i]? = some t ∧ x = .ref t := by
  rw [List.getElem?_map] at h
  cases e : ts[i]? with
  | none =>
    rw [e] at h
    cases h
  | some t =>
    rw [e] at h
    exact ⟨t, rfl, (Option.some.inj h).symm⟩
theorem Paired.imp2 {α β : Type} {F G : α → β → Prop} : ∀ {l₁ : List α} {l₂ : List β}, Paired F l₁ l₂ → (∀ a b, F a b → G a b) → Paired G l₁ l₂
  | _, _, .nil, _ => .nil
  | _, _, .cons r t, f => .cons (f _ _ r) (Paired.imp2 t f)
theorem Paired.app {α β : Type} {F : α → β → Prop} : ∀ {l₁ m₁ : List α} {l₂ m₂ : List β}, Paired F l₁ l₂ → Paired F m₁ m₂ → Paired F (l₁ ++ m₁) (l₂ ++ m₂)
  | _, _, _, _, .nil, h => h
  | _, _, _, _, .cons r t, h => .cons r (Paired.app t h)
theorem same_new {H H' : Hp} {a : Addr} {o : HO} (s : Same H H') (h : H' a = none) : Same H (upd H' a o) := fun b u e => by
  have z := s b u e
  rw [upd_ne (ne_of_none z h)]
  exact z
/-- e is an error of the class at C -/
structure ErrAt (K : PySem.W.Frag) (H : Hp) (e C : Addr) : Prop where
  ex : ∃ (d : Option Addr) (fs : List (Str × V)), IsEx H e C d ∧ XFs H d fs
  ec : ExcC K C
theorem ErrAt.keep {K : PySem.W.Frag} {H H' : Hp} {e C : Addr} (h : ErrAt K H e C) (s : Same H H') : ErrAt K H' e C := by
  obtain ⟨⟨d, fs, x, y⟩, z⟩ := h
  exact ⟨⟨d, fs, x.keep s, y.keep s⟩, z⟩
/-- isinstance of it -/
theorem isx {K : PySem.W.Frag} {H : Hp} {e C D : Addr} {b : Bool} {Q : VK} (h : ErrAt K H e C) (k : PySem.W.kitOne K (.ref C) (.ref D) = some b) (q : Q (.bl b) H) : rIsX K [.ref e, .ref D] H Q := by
  obtain ⟨⟨d, fs, x, y⟩, z⟩ := h
  exact ⟨e, C, d, fs, .ref D, .ref D, b, rfl, x, y, z, .own D, k, q⟩
/-! readings, one construct at a time -/
section
variable {σ : SV} {H : Hp} {D : Ends} {te ta tb : TE} {t : TA} {Q : VK} {QA : List V → Hp → Prop} {i : Nat} {r : R2} {rc : List V → Hp → VK → Prop} {v : V}
theorem rd_asg (h : te σ H fun v H' => D.nx (σ.set i (some v)) H') : tAsg te (gName i) D σ H := h
theorem rd_lst (h : t σ H fun xs H1 => xs.length ≤ sizeLine ∧ ∀ p, H1 p = none → Q (.ref p) (upd H1 p (.lst xs))) : tLst t σ H Q := h
theorem rd_tup (h : t σ H fun xs H1 => xs.length ≤ sizeLine ∧ ∀ p, H1 p = none → Q (.ref p) (upd H1 p (.tup xs))) : tTup t σ H Q := h
theorem rd_cons (h : te σ H fun x H1 => t σ H1 fun xs H2 => QA (x :: xs) H2) : tCons te t σ H QA := h
theorem rd_nil (h : QA [] H) : tNil σ H QA := h
theorem rd_op (h : ta σ H fun x H1 => tb σ H1 fun y H2 => r x y H2 Q) : tOp r ta tb σ H Q := h
theorem rd_cb (h : t σ H fun vs H1 => rc vs H1 Q) : tCB rc t σ H Q := h
theorem rd_var (h : σ[i]? = some (some v)) (q : Q v H) : tVar i σ H Q := ⟨v, h, q⟩
theorem rd_c (q : Q v H) : tC v σ H Q := q
end
section
variable {σ : SV} {H : Hp} {D : Ends} {te ta tb : TE} {tt : TT} {Q : VK} {QB : Bool → Hp → Prop} {K : PySem.W.Frag} {e C S : Addr} {b : Bool} {i : Nat}
theorem rd_ret (h : te σ H D.rt) : tRet te D σ H := h
theorem rd_ifE (h : tt σ H fun c H1 => if c = true then ta σ H1 Q else tb σ H1 Q) : tIf tt ta tb σ H Q := h
theorem rd_b (h : te σ H fun x H1 => ∃ c, x = .bl c ∧ QB c H1) : tB te σ H QB := h
theorem rd_isi (h0 : σ[i]? = some (some (.ref e))) (he : ErrAt K H e C) (k : PySem.W.kitOne K (.ref C) (.ref S) = some b) (q : Q (.bl b) H) :
    tCB (rIsX K) (tCons (tVar i) (tCons (tC (.ref S)) tNil)) σ H Q := rd_cb (rd_cons (rd_var h0 (rd_cons (rd_c (rd_nil (isx he k q))))))
end
/-- what the __init__ of an error of the package does: it keeps its fields -/
def spI (C : Addr) (fl : List Str) : Sp := fun vs H Q _ => ∃ (a : Addr) (ws : List V), vs = .ref a :: ws ∧ ws.length = fl.length ∧ H a = some (exo a C none) ∧
  ∀ (H' : Hp) (d : Addr), But a H H' → H d = none → H' a = some (exo a C (some d)) → H' d = some (exd d (fl.zip ws).reverse) → Q .non H'
def KwB (fd : FuncData) (fl : List Str) : Prop := ∀ (s' : Shared) (u : Value) (ws : List Value), ws.length = fl.length → BindsTo s' fd ⟨[u], fl.reverse.zip ws⟩ ((("self" : Str) :: fl).zip (u :: ws.reverse))
structure Err (P : Program) (w : World) (K : PySem.W.Frag) (mg : Str → Option Value) (base : Heap) (x : Str) (fl : List Str) (C : Addr) : Prop where
  mgC : mg x = some (.ref C)
  oex : OexC K C
  xf : XfC K C
  ec : ExcC K C
  nf : ∀ f ∈ fl, PySem.W.findIn K (.ref C) f = some none
  ini : ∃ (fI : Addr) (fd : FuncData), PySem.W.findIn K (.ref C) "__init__" = some (some (.ref fI)) ∧ PySem.W.typeIn K (.ref fI) = some (.type "function") ∧
    FnOk P w K mg base CX0 1 fI fd ("self" :: fl) (spI C fl) ∧ Binds K fd ("self" :: fl) [] ∧ KwB fd fl
theorem mk_err {C : Addr} {fl : List Str} {ws : List V} {H : Hp} {Q : VK} (hl : ws.length = fl.length) (hz : fl.length ≤ 1000)
    (h : ∀ (H' : Hp) (a d : Addr), Same H H' → H a = none → H' a = some (exo a C (some d)) → H' d = some (exd d (fl.zip ws).reverse) → Q (.ref a) H') :
    ws.length ≤ 1000 ∧ ∀ a, H a = none → spI C fl (.ref a :: ws) (upd H a (exo a C none)) (fun v H2 => v = .non ∧ Q (.ref a) H2) E0 := by
  refine ⟨by omega, fun a ha => ⟨a, ws, rfl, hl, upd_same, fun H' d b hd ea ed => ⟨rfl, ?_⟩⟩⟩
  refine h H' a d (fun x o e => ?_) ha ea ed
  have n := ne_of_none e ha
  exact b x o n (by rw [upd_ne n]; exact e)
/-! lists of objects that are told by rows -/
section
variable {ρ : Type} {F : Hp → Addr → ρ → Prop}
def Mono (F : Hp → Addr → ρ → Prop) : Prop := ∀ H H' t r, Same H H' → F H t r → F H' t r
def LRows (F : Hp → Addr → ρ → Prop) (H : Hp) (l : Addr) (rs : List ρ) : Prop := ∃ ts : List Addr, H l = some (.lst (ts.map V.ref)) ∧ Paired (F H) ts rs
theorem LRows.keep (m : Mono F) {H H' : Hp} {l : Addr} {rs : List ρ} (h : LRows F H l rs) (s : Same H H') : LRows F H' l rs := by
  obtain ⟨ts, e, p⟩ := h
  exact ⟨ts, s _ _ e, Paired.imp2 p fun t r z => m _ _ t r s z⟩
/-- an item's reading -/
def ItE (te : TE) (σ : SV) (H : Hp) (F : Hp → Addr → ρ → Prop) (r : ρ) : Prop := ∀ H1, Same H H1 → ∀ Q : VK, (∀ H2 t, Same H1 H2 → F H2 t r → Q (.ref t) H2) → te σ H1 Q
def ItA (ta : TA) (σ : SV) (H : Hp) (F : Hp → Addr → ρ → Prop) (rs : List ρ) : Prop := ∀ H1, Same H H1 → ∀ Q : List V → Hp → Prop, (∀ H2 (ts : List Addr), Same H1 H2 → Paired (F H2) ts rs → Q (ts.map V.ref) H2) → ta σ H1 Q
variable {te : TE} {ta : TA} {σ : SV} {H : Hp} {r : ρ} {rs rs0 : List ρ} {Q : VK}
theorem ia_nil : ItA tNil σ H F ([] : List ρ) := fun H1 _ Q q => q H1 [] (Same.refl _) .nil
theorem ia_cons (m : Mono F) (h1 : ItE te σ H F r) (h2 : ItA ta σ H F rs) : ItA (tCons te ta) σ H F (r :: rs) := fun H1 s1 Q q =>
  rd_cons (h1 H1 s1 _ fun H2 t s2 f => h2 H2 (s1.trans s2) _ fun H3 ts s3 p => q H3 (t :: ts) (s2.trans s3) (.cons (m _ _ _ _ s3 f) p))
theorem rd_lrows (m : Mono F) (h : ItA ta σ H F rs) (hz : rs.length ≤ 100) (q : ∀ H' l, Same H H' → LRows F H' l rs → Q (.ref l) H') : tLst ta σ H Q := by
  refine rd_lst (h H (Same.refl _) _ fun H1 ts s1 p => ?_)
  have lt : ts.length = rs.length := Paired.length p
  refine ⟨?_, fun l hl => ?_⟩
  · rw [List.length_map, lt, sizeLine_eq]
    omega
  · have s2 := same_new (o := .lst (ts.map V.ref)) (Same.refl H1) hl
    exact q _ l (s1.trans s2) ⟨ts, upd_same, Paired.imp2 p fun t r z => m _ _ t r s2 z⟩
theorem rd_lcat {i : Nat} {l : Addr} (m : Mono F) (hv : σ[i]? = some (some (.ref l))) (h0 : LRows F H l rs0) (h : ItA ta σ H F rs) (hz : rs0.length + rs.length ≤ 100)
    (q : ∀ H' l', Same H H' → LRows F H' l' (rs0 ++ rs) → Q (.ref l') H') : tOp rCat (tVar i) (tLst ta) σ H Q := by
  refine rd_op (rd_var hv (rd_lst (h H (Same.refl _) _ fun H1 ts s1 p => ?_)))
  obtain ⟨t0, e0, p0⟩ := h0
  have l0 : t0.length = rs0.length := Paired.length p0
  have lt : ts.length = rs.length := Paired.length p
  refine ⟨?_, fun b hb => ?_⟩
  · rw [List.length_map, lt, sizeLine_eq]
    omega
  · have s2 := same_new (o := .lst (ts.map V.ref)) (Same.refl H1) hb
    refine ⟨l, b, _, _, rfl, rfl, (s1.trans s2) _ _ e0, upd_same, ?_, fun g hg => ?_⟩
    · rw [List.length_map, List.length_map, lt, l0, sizeLine_eq]
      omega
    · have s3 := same_new (o := .lst (t0.map V.ref ++ ts.map V.ref)) s2 hg
      refine q _ g (s1.trans s3) ⟨t0 ++ ts, ?_, Paired.app (Paired.imp2 p0 fun t r z => m _ _ t r (s1.trans s3) z) (Paired.imp2 p fun t r z => m _ _ t r s3 z)⟩
      rw [List.map_append]
      exact upd_same
end
theorem vals_rev : ∀ {zs : List V} {ws : List Value}, Vals zs ws → Vals zs.reverse ws.reverse
  | _, _, .nil => .nil
  | _, _, .cons (a := a) (b := b) r t => by
    rw [List.reverse_cons, List.reverse_cons]
    exact (vals_rev t).append (.cons r .nil)
theorem upd_past {H : Hp} {B g : Addr} {o o' u : HO} (h : g ≠ B) : upd (upd (upd H B o) g u) B o' = upd (upd H g u) B o' := by
  funext x
  by_cases z : x = B
  · rw [z, upd_same, upd_same]
  · rw [upd_ne z, upd_ne z]
    by_cases y : x = g
    · rw [y, upd_same, upd_same]
    · rw [upd_ne y, upd_ne y, upd_ne z]
theorem rd_seq {t1 t2 : TS} {D : Ends} {σ : SV} {H : Hp} (h : t1 { D with nx := t2 D } σ H) : tSeq t1 t2 D σ H := h
theorem rd_sa {te : TE} {i : Nat} {t2 : TS} {D : Ends} {σ : SV} {H : Hp} (h : te σ H fun v H' => t2 D (σ.set i (some v)) H') : tSeq (tAsg te (gName i)) t2 D σ H := h
theorem rd_sp {ta : TA} {i j : Nat} {t2 : TS} {D : Ends} {σ : SV} {H : Hp} (h : ta σ H fun vs H1 => ∃ v w, vs = [v, w] ∧ t2 D ((σ.set i (some v)).set j (some w)) H1) : tSeq (tPar i j ta) t2 D σ H := h
theorem rd_sp3 {ta : TA} {i j l : Nat} {t2 : TS} {D : Ends} {σ : SV} {H : Hp} (h : ta σ H fun vs H1 => ∃ u v w, vs = [u, v, w] ∧ t2 D (((σ.set i (some u)).set j (some v)).set l (some w)) H1) : tSeq (tPar3 i j l ta) t2 D σ H := h
theorem rd_keep {T F : Hp → Prop} {σ : SV} {H : Hp} (h : T H) : tYes σ H (fun b H3 => if b = true then T H3 else F H3) := by
  show (if true = true then T H else F H)
  rw [if_pos rfl]
  exact h
/-- an error with its field -/
def ErrF (H : Hp) (a C : Addr) (f : Str) (v : V) : Prop := ∃ (d : Addr) (fs : List (Str × V)), H a = some (exo a C (some d)) ∧ H d = some (exd d fs) ∧ fs.lookup f = some v
theorem ErrF.keep {H H' : Hp} {a C : Addr} {f : Str} {v : V} (h : ErrF H a C f v) (s : Same H H') : ErrF H' a C f v := by
  obtain ⟨d, fs, x, y, z⟩ := h
  exact ⟨d, fs, s _ _ x, s _ _ y, z⟩
theorem ErrF.at_ {K : PySem.W.Frag} {H : Hp} {a C : Addr} {f : Str} {v : V} (h : ErrF H a C f v) (T : ExcC K C) : ErrAt K H a C := by
  obtain ⟨d, fs, x, y, z⟩ := h
  exact ⟨⟨some d, fs, .new x, .have_ (.new y)⟩, T⟩
section
variable {P : Program} {w : World} {K : PySem.W.Frag} {mg : Str → Option Value} {base : Heap} {x f : Str} {C : Addr} {σ : SV} {H : Hp} {i : Nat} {v : V} {Q : VK} {s : Str}
theorem rd_efld {a : Addr} (h0 : σ[i]? = some (some (.ref a))) (E : ErrF H a C f v) (T : XfC K C) (hn : PySem.W.findIn K (.ref C) f = some none) (q : Q v H) : tEfld K f (tVar i) σ H Q := by
  obtain ⟨d, fs, e1, e2, e3⟩ := E
  exact ⟨_, h0, a, C, d, fs, v, rfl, .new e1, .new e2, T, hn, e3, q⟩
theorem one_fs : (([f] : List Str).zip [v]).reverse.lookup f = some v := by
  show (([(f, v)] : List (Str × V))).lookup f = some v
  simp [List.lookup]
abbrev tPos (C : Addr) (f : Str) (i : Nat) : TE := tExv C (spI C [f]) (tCons (tVar i) tNil)
abbrev tKw (C : Addr) (f : Str) (i : Nat) : TE := tExv C (spI C [f]) fun σ H Q => tCons (tVar i) tNil σ H fun zs H1 => zs.length = ([f] : List Str).reverse.length ∧ Q zs.reverse H1
theorem rd_pos (h0 : σ[i]? = some (some v)) (q : ∀ H' a, Same H H' → ErrF H' a C f v → Q (.ref a) H') : tPos C f i σ H Q := by
  refine ⟨v, h0, mk_err rfl (by show 1 ≤ 1000; decide) fun H' a d s1 _ e1 e2 => q H' a s1 ⟨d, _, e1, e2, one_fs⟩⟩
theorem rd_kw (h0 : σ[i]? = some (some v)) (q : ∀ H' a, Same H H' → ErrF H' a C f v → Q (.ref a) H') : tKw C f i σ H Q := by
  refine ⟨v, h0, rfl, mk_err rfl (by show 1 ≤ 1000; decide) fun H' a d s1 _ e1 e2 => q H' a s1 ⟨d, _, e1, e2, one_fs⟩⟩
end
section
variable {K : PySem.W.Frag} {σ : SV} {H : Hp} {i j : Nat} {te : TE} {Q : VK} {QB : Bool → Hp → Prop}
theorem rd_test {te : TE} (h : te σ H fun x H' => ∃ k, x = .bl k ∧ QB k H') : tTest te σ H QB := h
theorem rd_repr {v : V} {d : PyData} (h0 : σ[i]? = some (some v)) (hd : DR K H v d) (sm : Small d) (q : Q (.str d.shown) H) : tCB (rRepr K) (tCons (tVar i) tNil) σ H Q :=
  ⟨v, h0, v, d, rfl, hd, sm.sh, Nat.le_trans sm.dp (by decide), Nat.le_trans sm.ln (by decide), q⟩
theorem ne_same {z : Str} (q : QB false H) : rNe (.str z) (.str z) H fun x H' => ∃ k, x = .bl k ∧ QB k H' := by
  refine ⟨rfl, false, ?_, q⟩
  show V.bl (!decide (V.str z = V.str z)) = V.bl false
  rw [decide_eq_true rfl]
  rfl
theorem rd_or {A B : TT} (h : A σ H fun c H1 => if c = true then QB true H1 else B σ H1 QB) : tOr A B σ H QB := h
theorem rd_andV {ta tb : TE} (h : ta σ H fun x H1 => ∃ c, x = .bl c ∧ if c = true then tb σ H1 Q else Q (.bl false) H1) : tAndV ta tb σ H Q := h
theorem rd_ifs {A : TT} {t u : TS} {DD : Ends} (h : A σ H fun b H1 => if b = true then t DD σ H1 else u DD σ H1) : tIfS A t u DD σ H := h
theorem rd_sif0 {A : TT} {t t2 : TS} {DD : Ends} (h : A σ H fun b H1 => if b = true then t { DD with nx := t2 DD } σ H1 else t2 DD σ H1) : tSeq (tIfS A t tNext) t2 DD σ H := h
theorem rd_if0 {A : TT} {t : TS} {DD : Ends} (h : A σ H fun b H1 => if b = true then t DD σ H1 else DD.nx σ H1) : tIfS A t tNext DD σ H := h
theorem rd_lstM {ta : TA} (h : ta σ H fun xs H1 => xs.length ≤ sizeLine ∧ ∀ p, H1 p = none → p ≠ sysModules → Q (.ref p) (upd H1 p (.lst xs))) : tLstM ta σ H Q := h
theorem rd_sif {A : TT} {t u t2 : TS} {DD : Ends} (h : A σ H fun b H1 => if b = true then t { DD with nx := t2 DD } σ H1 else u { DD with nx := t2 DD } σ H1) : tSeq (tIfS A t u) t2 DD σ H := h
end
/-! how long a shown list is -/
theorem textFrom_le : ∀ (ts : List Str) (k : Nat) (acc : Str) (m : Nat), (∀ t ∈ ts, t.length ≤ m) → (textFrom k acc ts).length ≤ acc.length + ts.length * (m + 2)
  | [], k, acc, m, _ => by
    show acc.length ≤ acc.length + 0 * (m + 2)
    omega
  | t :: ts, k, acc, m, h => by
    have ih := textFrom_le ts (k + 1) (acc ++ (if k > 0 then ", " else "" : String) ++ t) m fun x hx => h x (List.mem_cons_of_mem _ hx)
    have ht := h t (List.mem_cons_self ..)
    have e : (acc ++ (if k > 0 then ", " else "" : String) ++ t : Str).length ≤ acc.length + 2 + t.length := by
      rw [strLen_append, strLen_append]
      have : (Str.ofString (if k > 0 then ", " else "" : String)).length ≤ 2 := by
        split
        · decide
        · decide
      omega
    show (textFrom (k + 1) (acc ++ (if k > 0 then ", " else "" : String) ++ t) ts).length ≤ acc.length + (ts.length + 1) * (m + 2)
    have : (ts.length + 1) * (m + 2) = ts.length * (m + 2) + (m + 2) := Nat.succ_mul _ _
    omega
theorem small_list {ds : List PyData} (h : ∀ d ∈ ds, Small d) (hz : ds.length ≤ 10) : (PyData.list ds).showable = true ∧ (PyData.list ds).depth ≤ 60 ∧ (PyData.list ds).shown.length ≤ sizeLine := by
  have a1 : ∀ ds : List PyData, (∀ d ∈ ds, Small d) → PyData.showableAll ds = true ∧ PyData.depthAll ds ≤ 10 ∧ (∀ t ∈ PyData.shownAll ds, t.length ≤ 1000) ∧ (PyData.shownAll ds).length = ds.length := by
    intro ds
    induction ds with
    | nil =>
      intro _
      exact ⟨rfl, Nat.zero_le _, (fun t ht => by cases ht), rfl⟩
    | cons d ds ih =>
      intro h
      obtain ⟨i1, i2, i3, i4⟩ := ih fun x hx => h x (List.mem_cons_of_mem _ hx)
      have s := h d (List.mem_cons_self ..)
      refine ⟨?_, ?_, ?_, ?_⟩
      · show (PyData.showable d && PyData.showableAll ds) = true
        rw [s.sh, i1]
        rfl
      · show max (PyData.depth d) (PyData.depthAll ds) ≤ 10
        exact Nat.max_le.mpr ⟨s.dp, i2⟩
      · intro t ht
        rcases List.mem_cons.mp (show t ∈ PyData.shown d :: PyData.shownAll ds from ht) with rfl | ht
        · exact s.ln
        · exact i3 t ht
      · show (PyData.shownAll ds).length + 1 = ds.length + 1
        rw [i4]
  obtain ⟨i1, i2, i3, i4⟩ := a1 ds h
  refine ⟨i1, ?_, ?_⟩
  · show PyData.depthAll ds + 1 ≤ 60
    omega
  · show (listText (PyData.shownAll ds)).length ≤ sizeLine
    unfold listText
    rw [strLen_append]
    have e := textFrom_le (PyData.shownAll ds) 0 "[" 1000 i3
    rw [i4] at e
    have e1 : ("[" : Str).length = 1 := rfl
    have e2 : (Str.ofString "]").length = 1 := rfl
    rw [e1] at e
    rw [e2, sizeLine_eq]
    have : ds.length * (1000 + 2) ≤ 10 * (1000 + 2) := Nat.mul_le_mul_right _ hz
    omega
/-- repr of a new list -/
theorem rp_list {K : PySem.W.Frag} {H : Hp} {p : Addr} {vs : List V} {ds : List PyData} {Q : VK} (np : p ≠ sysModules) (hp : H p = some (.lst vs)) (hd : DRs K H vs ds) (h : ∀ d ∈ ds, Small d) (hz : ds.length ≤ 10) (q : Q (.str (PyData.list ds).shown) H) : rRepr K [.ref p] H Q := by
  obtain ⟨h1, h2, h3⟩ := small_list h hz
  exact ⟨.ref p, .list ds, rfl, .lst np (SqL.of hp) hd, h1, h2, h3, q⟩
end NB
/-! NBl: defs that make lambdas (their code object is known), the end with tables and without repr under way. -/
namespace NB
open PySem PySem.Spec PyProof.Rows L2
structure FunC (K : PySem.W.Frag) (x qual : Str) (st : Stmt) (f c : Addr) (fd : FuncData) : Prop where
  ex : ∃ (oc : Value) (od : Option Addr) (kV doc pm : Value) (an : Option Addr) (ct : Value) (osl : Array (Option Value)),
    fd = PySem.W.fnOf x qual (defArgs st) (defBody st) (defScope st) .none kV doc pm an (.ref c) ct ∧ K.lookup f = some ⟨oc, od, .func fd, osl⟩ ∧ PySem.W.codeIn K (.ref c) qual = true
  kp : PySem.W.keepIn K (.ref f) = true
section
variable {P : Program} {w : World} {K : PySem.W.Frag} {mg : Str → Option Value} {base : Heap}
theorem FunC.toFun {x qual : Str} {st : Stmt} {f c : Addr} {fd : FuncData} (F : FunC K x qual st f c fd) : Fun K x qual st f fd := by
  obtain ⟨oc, od, kV, doc, pm, an, ct, osl, e, lk, hcd⟩ := F.ex
  exact ⟨⟨oc, od, kV, doc, pm, an, .ref c, ct, osl, e, lk, hcd⟩, F.kp⟩
theorem okGC {x qual : Str} {st : Stmt} {f c : Addr} {fd : FuncData} {N ps : List Str} {k : Nat} {sp : Sp}
    (F : FunC K x qual st f c fd) (S : FnScope N ps (defScope st)) (len : ∀ vs H Q E, sp vs H Q E → vs.length = ps.length)
    (hbody : ∀ (A : Around) (outer : List Env) (s : Shared) (H : Hp) (vs : List V) (Q : VK) (E : XK),
      Room k (A.deeper (envOfC qual (defScope st) s.heap.objs.size f (.ref c))) →
      (A.deeper (envOfC qual (defScope st) s.heap.objs.size f (.ref c))).guards = some [] → sp vs H Q E →
      ∃ t, PSs (cxOf CX0 P w K mg base N qual (defScope st) f (.ref c) A outer s H E).nox (defBody st) t ∧
        t { nx := fun _ H' => Q .non H', rt := Q } (start N vs) H) :
    FnG P w K mg base CX0 (k + 1) f fd ps sp := by
  obtain ⟨oc, od, kV, doc, pm, an, ct, osl, rfl, lk, hcd⟩ := F.ex
  refine fnG_of lk hcd S len ?_
  intro A outer s H vs Q E room gd hsp
  obtain ⟨t, h, q⟩ := hbody A outer s H vs Q E room gd hsp
  exact ⟨t, h.nox, q⟩
end
/-! ### tables -/
section
variable {p : Addr} {H H' H1 H2 : Hp}
/-- all but what stands at p, and the tables -/
def ButN (p : Addr) (H H' : Hp) : Prop := ∀ a o, a ≠ p → H a = some o → (∀ ps, o ≠ .tbl ps) → H' a = some o
theorem ButN.refl (p : Addr) (H : Hp) : ButN p H H := fun _ _ _ h _ => h
theorem ButN.trans (a : ButN p H H1) (b : ButN p H1 H2) : ButN p H H2 := fun x o n h t => b x o n (a x o n h t) t
theorem ButN.ext (e : LamX.ExtN H H') : ButN p H H' := fun a o _ h t => e a o h t
theorem tabs_but {T : List (Addr × Str)} {xs : List V} (b : ∀ a o, a ≠ p → H a = some o → H' a = some o) (hp : H p = some (.lst xs)) (t : LamX.Tabs T H) : LamX.Tabs T H' := by
  intro q hq
  obtain ⟨ps, h1, h2, h3⟩ := t q hq
  have ne : ∀ c o, H c = some o → (∀ zs, o ≠ .lst zs) → c ≠ p := fun c o e n z => by
    rw [z, hp] at e
    exact n xs (Option.some.inj e).symm
  refine ⟨ps, b _ _ (ne _ _ h1 (fun _ z => nomatch z)) h1, h2, fun pos cv hc => ?_⟩
  obtain ⟨c, e1, e2⟩ := h3 pos cv hc
  exact ⟨c, e1, b _ _ (ne _ _ e2 (fun zs z => by unfold LamX.CodeO at z; cases z)) e2⟩
end
/-! ### the end -/
theorem law_callTG {P : Program} {w : World} {K : PySem.W.Frag} {mg mb : Str → Option Value} {k : Nat} {fa a : Addr} {cs : List (Addr × Addr)} {fd : FuncData} {x : Str} {sp : Sp} {s₁ : Shared} {vs : List Value} {ns : List Int}
    (KX : K.In s₁.heap) (hns : s₁.heap.Ns mainGlobals mg) (hb : s₁.heap.Ns builtinsNs mb) (hbb : ∀ x : Str, x ≠ "__name__" → mb x = bootBuiltins x) (hlim : s₁.heap.NoLimit) (hg : s₁.gens = #[])
    (hT : ∀ p ∈ cs, s₁.heap.get? p.2 = some { cls := .none, data := .fields #[] }) (nT : ∀ p ∈ cs, K.lookup p.2 = none) (C : ∀ p ∈ cs, PySem.W.CodeHd s₁.heap p.1 p.2)
    (hbm : ∃ (bm : Addr) (ob : Obj), mg "__builtins__" = some (.ref bm) ∧ bm ≠ builtinsNs ∧ s₁.heap.get? bm = some ob ∧ ob.cls = .type "module" ∧ ob.dict = some builtinsNs ∧ ob.data = .plain)
    (ha : s₁.heap.get? a = some { cls := .type "list", data := .seq vs.toArray }) (hi : IntsAre vs ns) (hl : ns.length ≤ sizeLine) (hr : Room k callerA)
    (F : ∀ base : Heap, K.In base → base.Ns mainGlobals mg → (∀ p ∈ cs, LamX.TabB base mg p.1 p.2) → FnG P w K mg base CX0 k fa fd [x] sp) (hbind : ∀ (s : Shared) (u : Value), BindsTo s fd ⟨[u], []⟩ [(x, u)])
    (hsp : ∀ H : Hp, (∀ p ∈ cs, H p.2 = some (.tbl #[])) → SqL K H a (ns.map V.int) → sp [.ref a] H (fun v _ => v = .bl true) fun _ _ _ => False) :
    codeAny (model P w) callerA (.call (.ref fa) ⟨[.ref a], []⟩) (fun r s' => r = .ok (.ret (.bool true)) ∧ OldK s₁.heap s'.heap ∧ s'.os = s₁.os ∧ AllBare s'.gens) s₁ := by
  let ts : List Addr := cs.map (·.2)
  have tabAt : ∀ b ∈ ts, s₁.heap.get? b = some { cls := .none, data := .fields #[] } := by
    intro b hb
    obtain ⟨p, hp, rfl⟩ := List.mem_map.mp hb
    exact hT p hp
  have inT : ∀ p ∈ cs, p.2 ∈ ts := fun p hp => List.mem_map_of_mem hp
  have aOut : a ∉ ts := by
    intro z
    have y := tabAt a z
    rw [ha] at y
    have y2 := congrArg Obj.data (Option.some.inj y)
    cases y2
  -- whatever is tracked at the entry is the script, or a table
  have main : ∀ H : Hp, (∀ p ∈ cs, H p.2 = some (.tbl #[])) → (∀ b, b ∉ ts → H b = none ∨ ∃ o xs, H b = some (.frz o (.lst xs))) → SqL K H a (ns.map V.int) → HOk P w H s₁.heap → (∀ b, H b ≠ none → b = a ∨ b ∈ ts) → (H a ≠ none → K.lookup a = none) →
      codeAny (model P w) callerA (.call (.ref fa) ⟨[.ref a], []⟩)
        (fun r s' => r = .ok (.ret (.bool true)) ∧ OldK s₁.heap s'.heap ∧ s'.os = s₁.os ∧ AllBare s'.gens) s₁ := by
    intro H tab only hS hok one hK
    have untracked : ∀ {b : Addr} {o : Obj}, s₁.heap.get? b = some o → (∀ us n, o.data ≠ .seq us n) → o.data ≠ .fields #[] → H b = none := by
      intro b o e h1 h2
      cases q : H b with
      | none => rfl
      | some u =>
        rcases one b (by rw [q]; exact Option.some_ne_none u) with z | z
        · rw [z, ha] at e
          rw [← Option.some.inj e] at h1
          exact absurd rfl (h1 _ _)
        · rw [tabAt b z] at e
          rw [← Option.some.inj e] at h2
          exact absurd rfl h2
    have dictFree : ∀ {b : Addr} {o : Obj} {es : Array DictEntry} {ep : Nat}, s₁.heap.get? b = some o → o.data = .dict es ep → H b = none := by
      intro b o es ep e d
      exact untracked e (fun us n z => by rw [d] at z; cases z) (fun z => by rw [d] at z; cases z)
    have nsK : ∀ {b : Addr} {m : Str → Option Value}, s₁.heap.Ns b m → (hidT s₁.heap H).Ns b m := by
      rintro b m ⟨o, es, ep, e, d, r⟩
      exact ⟨o, es, ep, hidT_get e (dictFree e d), d, r⟩
    have kInB : K.In (hidT s₁.heap H) := by
      intro b o e
      refine hidT_get (KX b o e) ?_
      cases q : H b with
      | none => rfl
      | some u =>
        rcases one b (by rw [q]; exact Option.some_ne_none u) with z | z
        · rw [z] at q e
          rw [hK (by rw [q]; exact Option.some_ne_none u)] at e
          cases e
        · obtain ⟨p, hp, rfl⟩ := List.mem_map.mp z
          rw [nT p hp] at e
          cases e
    have md : Mod K mg (hidT s₁.heap H) := ⟨kInB, nsK hns, ⟨mb, nsK hb, hbb⟩, by obtain ⟨mc, h1, h2⟩ := hlim; exact ⟨mc, nsK h1, h2⟩⟩
    have tabB : ∀ p ∈ cs, LamX.TabB (hidT s₁.heap H) mg p.1 p.2 := by
      intro p hp
      have tp := hT p hp
      have gNs := hns
      refine ⟨?_, ?_, ?_⟩
      · obtain ⟨o, us, file, tf, flags, tg, inF, text, tt, e1, r1, r2, r3, rest⟩ := C p hp
        refine ⟨o, us, file, tf, flags, tg, inF, text, tt, hidT_get e1 (untracked e1 (fun _ _ z => by rw [r2] at z; cases z) (fun z => ?_)), r1, r2, r3, rest⟩
        rw [r2] at z
        cases z
        simp at r3
      · obtain ⟨bm, ob, b1, b2, b3, b4, b5, b6⟩ := hbm
        refine ⟨bm, ob, b1, b2, ?_, ?_, hidT_get b3 (untracked b3 (fun _ _ z => by rw [b6] at z; cases z) (fun z => by rw [b6] at z; cases z)), b4, b5, b6⟩
        · intro z
          obtain ⟨o, es, ep, e, d, _⟩ := gNs
          rw [z, e] at b3
          rw [← Option.some.inj b3, d] at b6
          cases b6
        · intro z
          rw [z, tp] at b3
          rw [← Option.some.inj b3] at b6
          cases b6
      · intro z
        obtain ⟨o, es, ep, e, d, _⟩ := gNs
        rw [z, tp] at e
        rw [← Option.some.inj e] at d
        cases d
    have e0 : Env0 P w K mg (hidT s₁.heap H) callerA [] s₁ H :=
      ⟨rfl, md, fun b o e => of_hidT e, Nat.le_of_eq (hidT_size _ _), trivial, fun b z => (List.not_mem_nil z).elim, hok, .of_eq hg⟩
    have goal := (F _ kInB (nsK hns) tabB).run callerA [] s₁ H ⟨[.ref a], []⟩ [.ref a] [.ref a] _ _ hr rfl e0 (hbind s₁ (.ref a)) (.cons rfl .nil) (hsp H tab hS)
    refine codeAny_mono goal ?_
    intro r s' h
    match r, h with
    | .ok (.ret u), ⟨v, H', os, bare, un, hok', r', q⟩ =>
      have q' : v = .bl true := q
      subst q'
      obtain rfl : u = Value.bool true := r'
      have kept : ∀ b o, b ∉ ts → s₁.heap.get? b = some o → s'.heap.get? b = some o := by
        intro b o nb e
        rcases only b nb with z | ⟨ob, xs, z⟩
        · exact un.keep b o e z (fun z => (List.not_mem_nil z).elim) (fun z => (List.not_mem_nil z).elim)
        · obtain ⟨e1, _⟩ := hok b _ z
          obtain ⟨e2, _⟩ := hok' b _ (un.frzs b ob _ z)
          exact e2.trans (e1.symm.trans e)
      have grown : ∀ p ∈ cs, ∃ more : Array Value, s'.heap.get? p.2 = some { cls := .none, data := .fields more } := by
        intro p hp
        obtain ⟨more, z⟩ := un.tbls p.2 #[] (tab p hp)
        exact ⟨_, hok' p.2 _ z⟩
      refine ⟨rfl, ⟨fun b o e => ?_, fun b o e => ?_⟩, os, bare⟩
      · by_cases hb : b ∈ ts
        · obtain ⟨p, hp, rfl⟩ := List.mem_map.mp hb
          obtain ⟨more, hm⟩ := grown p hp
          rw [hT p hp] at e
          have eo := (Option.some.inj e).symm
          subst eo
          exact .inr (.inl ⟨((C p hp).tab (hT p hp)).isCodeTable, rfl, #[], more, rfl, by rw [Array.empty_append]; exact hm⟩)
        · exact .inl (kept b o hb e)
      · by_cases hb : b ∈ ts
        · obtain ⟨p, hp, rfl⟩ := List.mem_map.mp hb
          obtain ⟨more, hm⟩ := grown p hp
          exact ⟨_, hm⟩
        · exact ⟨o, kept b o hb e⟩
  have rv := vals_ints hi
  -- the entry's heap: the tables, and the script where it is no part of K
  let HT : Hp := fun b => if b ∈ ts then some (.tbl #[]) else none
  cases hk : K.lookup a with
  | some o =>
    have e := KX a o hk
    rw [ha] at e
    have e' := Option.some.inj e
    subst e'
    refine main HT (fun p hp => if_pos (inT p hp)) (fun b nb => .inl (if_neg nb)) (.inr ⟨_, vs.toArray, _, hk, rfl, rfl, rfl, ?_, ?_⟩) (fun b u z => ?_) (fun b z => ?_) (fun z => absurd (if_neg aOut) z)
    · rw [List.size_toArray, hi.length]
      exact hl
    · simpa using rv
    · by_cases hb : b ∈ ts
      · have z2 := Option.some.inj ((if_pos hb).symm.trans z)
        subst z2
        exact tabAt b hb
      · exact absurd ((if_neg hb).symm.trans z) (by intro y; cases y)
    · by_cases hb : b ∈ ts
      · exact .inr hb
      · exact absurd (if_neg hb) z
  | none =>
    let HA : Hp := fun b => if b = a then some (HO.frz { cls := .type "list", data := .seq vs.toArray } (.lst (ns.map V.int))) else HT b
    have off : ∀ b, b ≠ a → HA b = HT b := fun b hb => if_neg hb
    refine main HA (fun p hp => ?_) (fun b nb => ?_) (.inl (.inr ⟨_, if_pos rfl⟩)) (fun b u z => ?_) (fun b z => ?_) (fun _ => hk)
    · rw [off p.2 (fun z => aOut (by rw [← z]; exact inT p hp))]
      exact if_pos (inT p hp)
    · by_cases hb : b = a
      · exact .inr ⟨_, _, if_pos hb⟩
      · rw [off b hb]
        exact .inl (if_neg nb)
    · by_cases hb : b = a
      · have z2 := Option.some.inj ((if_pos hb).symm.trans z)
        subst z2
        rw [hb]
        exact ⟨ha, by rw [List.length_map]; exact hl, vs, _, rv, ha⟩
      · rw [off b hb] at z
        by_cases hb2 : b ∈ ts
        · have z2 := Option.some.inj ((if_pos hb2).symm.trans z)
          subst z2
          exact tabAt b hb2
        · exact absurd ((if_neg hb2).symm.trans z) (by intro y; cases y)
    · by_cases hb : b = a
      · exact .inl hb
      · rw [off b hb] at z
        by_cases hb2 : b ∈ ts
        · exact .inr hb2
        · exact absurd (if_neg hb2) z
/-- what is known of the law's promise at the head's heap h -/
def LawAtG (l : PySem.W.OpenLaw) (w : World) (K : PySem.W.Frag) (k n : Nat) (x : Str) (mg : Str → Option Value) (fa : Addr) (h : Heap) : Prop :=
  ∃ (fd : FuncData) (cs : List (Addr × Addr)) (sp : Sp), (∀ p ∈ cs, h.get? p.2 = some { cls := .none, data := .fields #[] }) ∧ (∀ p ∈ cs, K.lookup p.2 = none) ∧ (∀ p ∈ cs, PySem.W.CodeHd h p.1 p.2) ∧ (∀ (s : Shared) (u : Value), BindsTo s fd ⟨[u], []⟩ [(x, u)]) ∧
    (∀ (H : Hp) (a : Addr) (ns : List Int), ns.length ≤ n → (∀ p ∈ cs, H p.2 = some (.tbl #[])) → SqL K H a (ns.map V.int) → sp [.ref a] H (fun v _ => v = .bl true) fun _ _ _ => False) ∧
    ∀ base : Heap, K.In base → base.Ns mainGlobals mg → (∀ p ∈ cs, LamX.TabB base mg p.1 p.2) → FnG l.prog w K mg base CX0 k fa fd [x] sp
theorem walk_ofTG {l : PySem.W.OpenLaw} {n k : Nat} {q : Program} {loose : List Str} {XP : (Str → Option Value) → Heap → Prop} {YP : World → Heap → Prop} {d : DefRec} {K : Params → PySem.W.Frag} {x : Str}
    (hn : l.most = some n) (hn2 : n ≤ sizeLine) (hdf : d.params.defaults = []) (hr : Room k callerA) (hY : ∀ (w : World) (h : Heap), YP w h → (K w.params).In h)
    (F : ∀ (w : World) (mg : Str → Option Value) (fa : Addr) (h : Heap), YP w h → (K w.params).In h → h.Ns mainGlobals mg → mg d.name = some (.ref fa) → LawAtG l w (K w.params) k n x mg fa h) :
    PySem.W.WalkO q loose XP YP l.row.toRowW d [] (fun f vs => PySem.call f vs) := by
  refine Att.attach_call hn hdf ?_
  intro w s₀ s₁ mg mb fa o pm cd doc a vs ns G Y ho hd hcd hmg hobj hints hlen hg
  have KX := hY w _ Y
  obtain ⟨fd, cs, sp, hT, nT, C, hb, hsp, hF⟩ := F w mg fa _ Y KX G.T.g hmg
  exact law_callTG KX G.T.g G.T.b G.T.builtins G.T.nolimit hg hT nT C G.T.bmain hobj hints (Nat.le_trans hlen hn2) hr hF hb (fun H hH hS => hsp H a ns hlen hH hS)
end NB
/-! NBh: what the top leaves: errors, defs, methods, a class with operators. -/
namespace NB
open PySem L2
def excB (K : PySem.W.Frag) (C : Addr) : Bool :=
  decide (PySem.W.findIn K (.ref C) "__getattribute__" = some (some (.builtin "BaseException.__getattribute__"))) && (decide (PySem.W.findIn K (.ref C) "__getattr__" = some none) &&
  (decide (PySem.W.subIn K (.ref C) (.type "BaseException") = some true) && (PySem.W.hasDictIn K C && (decide (PySem.W.findIn K (.ref C) "__class__" = some (some (.builtin "object.__class__"))) &&
  (decide (PySem.W.specialIn K (.builtin "object.__class__") "__get__" = some (some (.builtin "getset_descriptor.__get__"))) && (decide (PySem.W.takesIn K (.builtin "object.__class__") = some true) && decide (PySem.W.mroIn K C (.type "object") = some true)))))))
theorem excB_ok {K : PySem.W.Frag} {C : Addr} (h : excB K C = true) : ExcC K C := by
  unfold excB at h
  simp only [Bool.and_eq_true, decide_eq_true_eq] at h
  obtain ⟨h1, h2, h3, h4, h5, h6, h7, h8⟩ := h
  exact ⟨h1, h2, h3, h4, h5, h6, h7, h8⟩
def errB (K : PySem.W.Frag) (C : Addr) (fl : List Str) : Bool :=
  decide (PySem.W.findIn K (.ref C) "__setattr__" = some (some (.builtin "object.__setattr__"))) && (decide (PySem.W.subIn K (.ref C) (.type "BaseException") = some true) && (decide (PySem.W.typeIn K (.ref C) = some (.type "type")) &&
  (PySem.W.keepIn K (.ref C) && (xfB K C && (excB K C && fl.all fun f => decide (PySem.W.findIn K (.ref C) f = some none))))))
/-- what the top leaves of an error's class -/
structure ErrK (K : PySem.W.Frag) (x qual : Str) (st : Stmt) (fl : List Str) (C f : Addr) (fd : FuncData) : Prop where
  ns : PySem.W.nsIn K mainGlobals x = some (some (.ref C))
  oex : OexC K C
  xf : XfC K C
  ec : ExcC K C
  nf : ∀ f ∈ fl, PySem.W.findIn K (.ref C) f = some none
  iC : PySem.W.findIn K (.ref C) "__init__" = some (some (.ref f))
  tI : PySem.W.typeIn K (.ref f) = some (.type "function")
  F : Fun K "__init__" qual st f fd
theorem err_mk {K : PySem.W.Frag} {x qual : Str} {st : Stmt} {fl : List Str} {C f N : Addr} {nm q : Str} {bs bm : List Value} {sn : List Str} {sub : List Value} {ab : Bool} {col : Option Bool} {dd : Option Addr} {k0 k1 k2 k3 k5 : Option Value}
    {oc kV doc pm cdv ct : Value} {od an : Option Addr} {osl : Array (Option Value)}
    (a : PySem.W.nsIn K mainGlobals x = some (some (.ref C))) (l : K.lookup C = some (excClassObj nm q C N bs bm true sn sub ab col dd k0 k1 k2 k3 k5 "ValueError.__new__")) (r : PySem.HandSPX.refsVE bm = true)
    (i : PySem.W.findIn K (.ref C) "__init__" = some (some (.ref f))) (t : PySem.W.typeIn K (.ref f) = some (.type "function"))
    (l2 : K.lookup f = some ⟨oc, od, .func (PySem.W.fnOf "__init__" qual (defArgs st) (defBody st) (defScope st) .none kV doc pm an cdv ct), osl⟩) (c2 : PySem.W.codeIn K cdv qual = true) (k2' : PySem.W.keepIn K (.ref f) = true)
    (b : errB K C fl = true) : ErrK K x qual st fl C f (PySem.W.fnOf "__init__" qual (defArgs st) (defBody st) (defScope st) .none kV doc pm an cdv ct) := by
  unfold errB at b
  simp only [Bool.and_eq_true, decide_eq_true_eq, List.all_eq_true] at b
  obtain ⟨b1, b2, b3, b4, b5, b6, b7⟩ := b
  exact ⟨a, ⟨⟨nm, q, N, bs, bm, sn, sub, ab, col, dd, k0, k1, k2, k3, k5, l, r⟩, b1, b2, b3, b4⟩, xfB_ok b5, excB_ok b6, b7, i, t, fun_mk l2 c2 k2'⟩
/-- a def that stands at the top -/
structure DefK (K : PySem.W.Frag) (x : Str) (st : Stmt) (f : Addr) (fd : FuncData) : Prop where
  ns : PySem.W.nsIn K mainGlobals x = some (some (.ref f))
  F : Fun K x x st f fd
theorem def_mk {K : PySem.W.Frag} {x : Str} {st : Stmt} {f : Addr} {oc kV doc pm cdv ct : Value} {od an : Option Addr} {osl : Array (Option Value)} (a : PySem.W.nsIn K mainGlobals x = some (some (.ref f)))
    (l : K.lookup f = some ⟨oc, od, .func (PySem.W.fnOf x x (defArgs st) (defBody st) (defScope st) .none kV doc pm an cdv ct), osl⟩) (c : PySem.W.codeIn K cdv x = true) (k : PySem.W.keepIn K (.ref f) = true) :
    DefK K x st f (PySem.W.fnOf x x (defArgs st) (defBody st) (defScope st) .none kV doc pm an cdv ct) := ⟨a, fun_mk l c k⟩
theorem DefK.of {P : Program} {w : World} {K : PySem.W.Frag} {mg : Str → Option Value} {base h : Heap} {x : Str} {st : Stmt} {f : Addr} {fd : FuncData} {k : Nat} {ps : List Str} {sp : Sp} (E : DefK K x st f fd) (X : K.In h) (G : h.Ns mainGlobals mg)
    (ok : FnOk P w K mg base CX0 k f fd ps sp) (b : Binds K fd ps []) : DefOf P w K mg base x k ps sp := ⟨f, fd, ok, PySem.W.mg_of X G E.ns, E.F.kp, b⟩
/-- a def that makes lambdas -/
structure DefKC (K : PySem.W.Frag) (x : Str) (st : Stmt) (f c : Addr) (fd : FuncData) : Prop where
  ns : PySem.W.nsIn K mainGlobals x = some (some (.ref f))
  F : FunC K x x st f c fd
theorem defC_mk {K : PySem.W.Frag} {x : Str} {st : Stmt} {f c : Addr} {oc kV doc pm ct : Value} {od an : Option Addr} {osl : Array (Option Value)} (a : PySem.W.nsIn K mainGlobals x = some (some (.ref f)))
    (l : K.lookup f = some ⟨oc, od, .func (PySem.W.fnOf x x (defArgs st) (defBody st) (defScope st) .none kV doc pm an (.ref c) ct), osl⟩) (cc : PySem.W.codeIn K (.ref c) x = true) (k : PySem.W.keepIn K (.ref f) = true) :
    DefKC K x st f c (PySem.W.fnOf x x (defArgs st) (defBody st) (defScope st) .none kV doc pm an (.ref c) ct) := ⟨a, ⟨⟨oc, od, kV, doc, pm, an, ct, osl, rfl, l, cc⟩, k⟩⟩
/-- a method -/
structure MethK (K : PySem.W.Frag) (C : Addr) (m qual : Str) (st : Stmt) (f : Addr) (fd : FuncData) : Prop where
  at_ : PySem.W.findIn K (.ref C) m = some (some (.ref f))
  fn : PySem.W.isFn K (.ref f) = true
  F : Fun K m qual st f fd
theorem meth_mk {K : PySem.W.Frag} {C : Addr} {m qual : Str} {st : Stmt} {f : Addr} {oc kV doc pm cdv ct : Value} {od an : Option Addr} {osl : Array (Option Value)} (a : PySem.W.findIn K (.ref C) m = some (some (.ref f)))
    (l : K.lookup f = some ⟨oc, od, .func (PySem.W.fnOf m qual (defArgs st) (defBody st) (defScope st) .none kV doc pm an cdv ct), osl⟩) (c : PySem.W.codeIn K cdv qual = true) (k : PySem.W.keepIn K (.ref f) = true) (n : PySem.W.isFn K (.ref f) = true) :
    MethK K C m qual st f (PySem.W.fnOf m qual (defArgs st) (defBody st) (defScope st) .none kV doc pm an cdv ct) := ⟨a, n, fun_mk l c k⟩
def binB (K : PySem.W.Frag) (C : Addr) (op : Operator) (T : String) : Bool :=
  PySem.W.selfFirst K C && (decide (PySem.W.findIn K (.ref C) (dunderR op.info.2) = some none) && ((PySem.W.findIn K (.type T) (PySem.dunder op.info.2)).isSome && ((PySem.W.findIn K (.type T) (dunderR op.info.2)).isSome && decide (PySem.W.subIn K (.type T) (.ref C) = some false))))
theorem binB_ok {K : PySem.W.Frag} {C : Addr} {op : Operator} {T : String} (h : binB K C op T = true) : BinT K C op T := by
  unfold binB at h
  simp only [Bool.and_eq_true, decide_eq_true_eq] at h
  obtain ⟨h1, h2, h3, h4, h5⟩ := h
  exact ⟨h1, h2, Option.isSome_iff_exists.mp h3, Option.isSome_iff_exists.mp h4, h5⟩
def inB (K : PySem.W.Frag) (C : Addr) (op : Operator) : Bool :=
  (match PySem.W.clsIn K C with | some cd => decide (cd.mro = [.ref C, .type "object"]) | none => false) && (decide (PySem.W.findIn K (.ref C) (dunderI op.info.2) = some none) && decide (PySem.W.findIn K (.type "object") (dunderI op.info.2) = some none))
theorem inB_ok {K : PySem.W.Frag} {C : Addr} {op : Operator} (h : inB K C op = true) : InT K C op := by
  unfold inB at h
  simp only [Bool.and_eq_true, decide_eq_true_eq] at h
  obtain ⟨h1, h2, h3⟩ := h
  refine ⟨?_, h2, h3⟩
  split at h1
  · rename_i cd e
    exact ⟨cd, e, by simpa using h1⟩
  · cases h1
def clsB (K : PySem.W.Frag) (C : Addr) (fl : List Str) : Bool :=
  PySem.W.plainGet K C Str.empty && (PySem.W.hasDictIn K C && (PySem.W.plainOver K C && (decide (PySem.W.findIn K (.ref C) "__setattr__" = some (some (.builtin "object.__setattr__"))) && (PySem.W.makesIn K C && (PySem.W.keepIn K (.ref C) &&
  (decide (PySem.W.findIn K (.ref C) "__class__" = some (some (.builtin "object.__class__"))) && (decide (PySem.W.specialIn K (.builtin "object.__class__") "__get__" = some (some (.builtin "getset_descriptor.__get__"))) &&
  (decide (PySem.W.takesIn K (.builtin "object.__class__") = some true) && (decide (PySem.W.mroIn K C (.type "object") = some true) && (decide (PySem.W.kitOne K (.ref C) (.ref C) = some true) && fl.all fun f => decide (PySem.W.findIn K (.ref C) f = some none)))))))))))
structure ClsK (K : PySem.W.Frag) (C : Addr) (fl : List Str) : Prop where
  cl : Cls K C
  mk_ : PySem.W.makesIn K C = true
  kp : PySem.W.keepIn K (.ref C) = true
  ca : PySem.W.findIn K (.ref C) "__class__" = some (some (.builtin "object.__class__"))
  cn : PySem.W.specialIn K (.builtin "object.__class__") "__get__" = some (some (.builtin "getset_descriptor.__get__"))
  ct : PySem.W.takesIn K (.builtin "object.__class__") = some true
  cm : PySem.W.mroIn K C (.type "object") = some true
  kc : PySem.W.kitOne K (.ref C) (.ref C) = some true
  nf : ∀ f ∈ fl, NoAttr K C f
theorem clsB_ok {K : PySem.W.Frag} {C : Addr} {fl : List Str} (h : clsB K C fl = true) : ClsK K C fl := by
  unfold clsB at h
  simp only [Bool.and_eq_true, decide_eq_true_eq, List.all_eq_true] at h
  obtain ⟨h1, h2, h3, h4, h5, h6, h7, h8, h9, h10, h11, h12⟩ := h
  exact ⟨⟨h1, h2, h3, h4⟩, h5, h6, h7, h8, h9, h10, h11, fun f hf => h12 f hf⟩
end NB
/-! NBm: an own operator with an operand of another own class that has no such method. -/
namespace PySem.W
open PySem PySem.Calls PyProof.Rows
section
variable {prog : Program} {w : World} {A : Around} {E : Value → Shared → Prop} {s : Shared} {K : Frag} {x C D L f : Addr} {h₀ : Heap} {m : Str → Option Value} {ox : Obj} {od : Option Obj} {b : Value}
theorem nb_fillsD0 {M : Model} {h : Heap} {nm : String} {cd : ClassData} (X : K.In h) (hc : clsIn K D = some cd) (hm : cd.mro = [.ref D, .type "object"]) (h1 : findIn K (.ref D) (PySem.dunder nm) = some none) (h2 : findIn K (.ref D) (dunderR nm) = some none)
    (o1 : findIn K (.type "object") (PySem.dunder nm) = some none) (o2 : findIn K (.type "object") (dunderR nm) = some none) : Looks M h (fillsNumberSlot (.ref D) nm) false := by
  intro A Q E s k q
  have Lm : Looks M h (mroOf (.ref D)) cd.mro := (looks_clsIn X hc).andThen (f := fun cd => pure cd.mro) .now
  have Lm' := Lm.keeps k
  obtain ⟨hh, g, d, tt, os⟩ := s
  have X' : K.In hh := X.keeps k
  have L1 : Looks M hh (typeLookup (.ref D) (PySem.dunder nm)) none := looks_findIn X' h1
  have L2 : Looks M hh (typeLookup (.ref D) (dunderR nm)) none := looks_findIn X' h2
  have L3 : Looks M hh (typeLookup (.type "object") (PySem.dunder nm)) none := looks_findIn X' o1
  have L4 : Looks M hh (typeLookup (.type "object") (dunderR nm)) none := looks_findIn X' o2
  unfold fillsNumberSlot
  refine wpAny_bind (Lm'.at ?_)
  rw [hm, List.anyM_cons]
  refine wpAny_bind ?_
  show wpAny M A (List.anyM _ [PySem.dunder nm, dunderR nm]) _ _ _
  rw [List.anyM_cons]
  refine wpAny_bind (wpAny_bind (L1.at (wpAny_pure ?_)))
  rw [if_neg (by decide), List.anyM_cons]
  refine wpAny_bind (wpAny_bind (L2.at (wpAny_pure ?_)))
  rw [if_neg (by decide)]
  refine wpAny_pure ?_
  rw [if_neg (by decide), List.anyM_cons]
  refine wpAny_bind (wpAny_bind (L3.at (wpAny_bind (L4.at (wpAny_pure ?_)))))
  rw [if_neg (by decide)]
  exact wpAny_pure q
theorem nb_binD {op : Operator} {cd : ClassData} {rc : Option Value} {Q : Value → Shared → Prop} (F : Fr h₀ L s.heap m) (X₀ : K.In h₀) (I : InstAt s.heap x ox C od)
    (hb : Looks (model prog w) s.heap (typeOf b) (.ref D)) (ne : C ≠ D) (hc : selfFirst K C = true)
    (hs : findIn K (.ref C) (PySem.dunder op.info.2) = some (some (.ref f))) (hf : isFn K (.ref f) = true)
    (hr : findIn K (.ref C) (dunderR op.info.2) = some rc) (hp : rc = none ∨ ∃ g : Addr, rc = some (.ref g))
    (hcd : clsIn K D = some cd) (hm : cd.mro = [.ref D, .type "object"]) (h1 : findIn K (.ref D) (PySem.dunder op.info.2) = some none) (h2 : findIn K (.ref D) (dunderR op.info.2) = some none)
    (o1 : findIn K (.type "object") (PySem.dunder op.info.2) = some none) (o2 : findIn K (.type "object") (dunderR op.info.2) = some none)
    (h : wpAny (model prog w) A (call (.ref f) [.ref x, b]) (CmpBack Q) E s) : wpAny (model prog w) A (binaryOp op (.ref x) b) Q E s := by
  have X := X₀.keeps F.keep
  obtain ⟨cd', rest, hcd', hm'⟩ := ksp_first hc
  rcases hi : op.info with ⟨sym, nm⟩
  rw [hi] at hs hr h1 h2 o1 o2
  dsimp only at hs hr h1 h2 o1 o2
  have one := ksp_try X I hs hf h
  obtain ⟨hh, g, d, tt, os⟩ := s
  have a1 : Looks (model prog w) hh (typeOf (.ref x)) (.ref C) := I.type
  have a3 : Looks (model prog w) hh (fillsNumberSlot (.ref C) nm) true := fills_K X hcd' hm' hs
  have a4 : Looks (model prog w) hh (fillsNumberSlot (.ref D) nm) false := nb_fillsD0 X hcd hm h1 h2 o1 o2
  have a6 : Looks (model prog w) hh (numberSlotInPython (.ref C) nm) true := ksp_inPy X hs hr hp
  have unlike : (Value.ref C == Value.ref D) = false := Bool.eq_false_iff.mpr fun q => by cases beq_iff_eq.mp q; exact ne rfl
  simp only [binaryOp, hi]
  refine wpAny_holding (wpAny_bind ?_)
  unfold binaryOp1
  refine wpAny_bind (a1.at (wpAny_bind (hb.at (wpAny_bind (a3.at ?_)))))
  simp only [unlike, Bool.false_eq_true, if_false]
  ksp_lk
  refine wpAny_mono one (fun r s' hr' => ?_) fun _ _ e => e
  obtain ⟨v, rfl, hq⟩ := hr'
  ksp_lk
  exact hq
end
end PySem.W
namespace NB
open PySem PySem.Spec L2
section
variable {X : Cx} {CX : CXT} {k : Nat} {C D : Addr} {sp : Sp} {E : XK}
/-- what both classes must say -/
structure BinD (K : PySem.W.Frag) (C D : Addr) (op : Operator) : Prop where
  ne : C ≠ D
  hc : PySem.W.selfFirst K C = true
  hr : PySem.W.findIn K (.ref C) (dunderR op.info.2) = some none
  cd : ∃ cd, PySem.W.clsIn K D = some cd ∧ cd.mro = [.ref D, .type "object"]
  h1 : PySem.W.findIn K (.ref D) (PySem.dunder op.info.2) = some none
  h2 : PySem.W.findIn K (.ref D) (dunderR op.info.2) = some none
  o1 : PySem.W.findIn K (.type "object") (PySem.dunder op.info.2) = some none
  o2 : PySem.W.findIn K (.type "object") (dunderR op.info.2) = some none
def binDB (K : PySem.W.Frag) (C D : Addr) (op : Operator) : Bool :=
  decide (C ≠ D) && (PySem.W.selfFirst K C && (decide (PySem.W.findIn K (.ref C) (dunderR op.info.2) = some none) && ((match PySem.W.clsIn K D with | some cd => decide (cd.mro = [.ref D, .type "object"]) | none => false) &&
  (decide (PySem.W.findIn K (.ref D) (PySem.dunder op.info.2) = some none) && (decide (PySem.W.findIn K (.ref D) (dunderR op.info.2) = some none) && (decide (PySem.W.findIn K (.type "object") (PySem.dunder op.info.2) = some none) && decide (PySem.W.findIn K (.type "object") (dunderR op.info.2) = some none)))))))
theorem binDB_ok {K : PySem.W.Frag} {op : Operator} (h : binDB K C D op = true) : BinD K C D op := by
  unfold binDB at h
  simp only [Bool.and_eq_true, decide_eq_true_eq] at h
  obtain ⟨h1, h2, h3, h4, h5, h6, h7, h8⟩ := h
  refine ⟨h1, h2, h3, ?_, h5, h6, h7, h8⟩
  split at h4
  · rename_i cd e
    exact ⟨cd, e, by simpa using h4⟩
  · cases h4
def rBinD (K : PySem.W.Frag) (C D : Addr) (op : Operator) (sp : Sp) (E : XK) : R2 := fun x y H Q => ∃ (a dx b dy : Addr) (fs gs : List (Str × V)),
  x = .ref a ∧ H a = some (.ins C dx fs) ∧ y = .ref b ∧ H b = some (.ins D dy gs) ∧ BinD K C D op ∧ sp [x, y] H (fun v H' => Q v H') E
theorem op_binD {op : Operator} (M : OwnM X CX k C (PySem.dunder op.info.2) sp) (hr : Room k X.A) (hx : Passes CX X E) : OpR X (binaryOp op) (rBinD X.K C D op sp E) := by
  intro pins s σ H x y u v Q I rx ry h
  obtain ⟨f, fd, ps, F, hb, hs, hf⟩ := M.ex
  obtain ⟨a, dx, b, dy, fs, gs, rfl, ha, rfl, hb2, B, q⟩ := h
  obtain ⟨ox, od, J⟩ := inst_of I ha
  obtain ⟨oy, oe, J2⟩ := inst_of I hb2
  obtain ⟨m, hF⟩ := I.fr
  obtain ⟨cd, hcd, hm⟩ := B.cd
  have rx' := rx
  cases rx'
  have ry' := ry
  cases ry'
  refine PySem.W.nb_binD hF I.ok.mod.kin J J2.type B.ne B.hc hs hf B.hr (.inl rfl) hcd hm B.h1 B.h2 B.o1 B.o2 (wpAny_mono (run_at F ⟨hr, rfl⟩ hb hx I (.cons rel_ref (.cons rel_ref .nil)) q) ?_ fun _ _ z => z)
  rintro w s' ⟨z, H', I', rz, qb⟩
  have e : EP X pins σ Q w s' := ⟨z, H', I', rz, qb⟩
  have n := rel_noNI rz
  cases w <;> first | exact e | exact absurd rfl n
end
end NB
/-! NBn: a built-in value == an own object. -/
namespace PySem.W
open PySem PySem.Calls PyProof.Rows
section
variable {prog : Program} {w : World} {A : Around} {E : Value → Shared → Prop} {s : Shared} {K : Frag} {y C L f : Addr} {h₀ : Heap} {m : Str → Option Value} {oy : Obj} {od : Option Obj} {a : Value} {T : String}
/-- a == y, a declines -/
theorem nb_eqR {Q : Value → Shared → Prop} (hu : A.units < cLine) (F : Fr h₀ L s.heap m) (X₀ : K.In h₀) (I : InstAt s.heap y oy C od) (ha : Looks (model prog w) s.heap (typeOf a) (.type T)) (hsub : subIn K (.ref C) (.type T) = some false) (h1 : oneThing? .Eq a (.ref y) = none)
    (decl : ∀ (Q : Option Value → Shared → Prop), Q none s → wpAny (model prog w) A (tryCompare a "__eq__" (.ref y)) Q E s)
    (hs : findIn K (.ref C) "__eq__" = some (some (.ref f))) (hf : isFn K (.ref f) = true)
    (h : wpAny (model prog w) A (call (.ref f) [.ref y, a]) (CmpBack Q) E s) : wpAny (model prog w) A (richCompare .Eq a (.ref y)) Q E s := by
  have X := X₀.keeps F.keep
  have unlike : (Value.type T != Value.ref C) = true := by
    rw [bne_iff_ne]
    intro z
    cases z
  unfold richCompare
  simp only [h1]
  refine wpAny_holding (wpAny_bind (wpAny_cRoomFor hu ?_))
  refine wpAny_bind (ha.here (wpAny_bind (I.type.here ?_)))
  rw [if_pos unlike]
  refine wpAny_bind ((looks_subIn X hsub).here ?_)
  simp only [Bool.false_eq_true, if_false]
  refine wpAny_bind (decl _ ?_)
  simp only [Bool.not_false, if_true]
  refine wpAny_bind ?_
  unfold tryCompare
  refine wpAny_bind (ifBound_K X I hs hf (wpAny_mono h (fun v s' hv => ?_) fun _ _ e => e))
  cases v <;> first | exact hv.elim | exact wpAny_pure (wpAny_pure hv)
end
end PySem.W
namespace PySem
open PySem.F
theorem int_eq_declines_plain (b : Int) (u : Tok) (l : Addr) (o : Obj) (hd : o.data = .plain) :
    Meets (Builtin.«int.__eq__» ⟨[.int b u, .ref l], []⟩) (fun _ R s => s.heap.get? l = some o ∧ R (.ok (.ret .notImplemented)) s) :=
  .of_wp fun prog w A R s h => by obtain ⟨hp, g, d, tk, os⟩ := s; obtain ⟨hl, h⟩ := h; obtain ⟨c, dd, dat, sl⟩ := o; cases hd; wp_walk using wpAny_loadPart' hl, wpAny_load hl; exact ⟨_, rfl, h⟩
theorem bool_eq_declines_plain (b : Bool) (l : Addr) (o : Obj) (hd : o.data = .plain) :
    Meets (Builtin.«int.__eq__» ⟨[.bool b, .ref l], []⟩) (fun _ R s => s.heap.get? l = some o ∧ R (.ok (.ret .notImplemented)) s) :=
  .of_wp fun prog w A R s h => by obtain ⟨hp, g, d, tk, os⟩ := s; obtain ⟨hl, h⟩ := h; obtain ⟨c, dd, dat, sl⟩ := o; cases hd; wp_walk using wpAny_loadPart' hl, wpAny_load hl; exact ⟨_, rfl, h⟩
theorem str_eq_declines_plain (b : Str) (u : Tok) (l : Addr) (o : Obj) (hd : o.data = .plain) :
    Meets (Builtin.«str.__eq__» ⟨[.str b u, .ref l], []⟩) (fun _ R s => s.heap.get? l = some o ∧ R (.ok (.ret .notImplemented)) s) :=
  .of_wp fun prog w A R s h => by obtain ⟨hp, g, d, tk, os⟩ := s; obtain ⟨hl, h⟩ := h; obtain ⟨c, dd, dat, sl⟩ := o; cases hd; wp_walk using wpAny_loadPart' hl, wpAny_load hl; exact ⟨_, rfl, h⟩
end PySem
/-! NBq: the layer's rule for a built-in value == an own object. -/
namespace PySem.W
open PySem PySem.Calls PyProof.Rows PySem.SeqAt
section
variable {prog : Program} {w : World} {A : Around} {E : Value → Shared → Prop} {s : Shared} {K : Frag} {y C : Addr} {oy : Obj} {od : Option Obj} {l : Addr} {o : Obj}
theorem nb_dec_tup (X : K.In s.heap) (I : InstAt s.heap y oy C od) (ho : s.heap.get? l = some o) (hc : o.cls = .type "tuple") (hs : subIn K (.ref C) (.type "tuple") = some false) (Q : Option Value → Shared → Prop) (h : Q none s) :
    wpAny (model prog w) A (tryCompare (.ref l) "__eq__" (.ref y)) Q E s := by
  refine wpAny_tryCompare_declines (T := "tuple") ⟨_, ho, hc⟩ F.slot_tuple_eq ?_
  refine wpAny_call (codeAny_call_builtin F.slot_tuple_eq.plain F.entry_tuple_eq (F.slot_tuple_eq.check _ _ _ _ _ _ _ _ ⟨_, ho, hc⟩ (F.args_tuple_eq_2 _ _) ?_))
  have hi : ∀ (R : Bool → Shared → Prop) (A : Around) (E : Value → Shared → Prop), R false s → wpAny (model prog w) A (isInstance (.ref y) (.type "tuple")) R E s := fun R A E q => wpAny_bind (I.type.here ((looks_subIn X hs).here q))
  obtain ⟨hp, g, d, tk, os⟩ := s
  wp_walk using hi
  exact ⟨rfl, h⟩
theorem nb_dec_lst (X : K.In s.heap) (I : InstAt s.heap y oy C od) (ho : s.heap.get? l = some o) (hc : o.cls = .type "list") (hs : subIn K (.ref C) (.type "list") = some false) (Q : Option Value → Shared → Prop) (h : Q none s) :
    wpAny (model prog w) A (tryCompare (.ref l) "__eq__" (.ref y)) Q E s := by
  refine wpAny_tryCompare_declines (T := "list") ⟨_, ho, hc⟩ F.slot_list_eq ?_
  refine wpAny_call (codeAny_call_builtin F.slot_list_eq.plain F.entry_list_eq (F.slot_list_eq.check _ _ _ _ _ _ _ _ ⟨_, ho, hc⟩ (F.args_list_eq_2 _ _) ?_))
  have hi : ∀ (R : Bool → Shared → Prop) (A : Around) (E : Value → Shared → Prop), R false s → wpAny (model prog w) A (isInstance (.ref y) (.type "list")) R E s := fun R A E q => wpAny_bind (I.type.here ((looks_subIn X hs).here q))
  obtain ⟨hp, g, d, tk, os⟩ := s
  wp_walk using hi
  exact ⟨rfl, h⟩
theorem nb_dec_none (Q : Option Value → Shared → Prop) (h : Q none s) : wpAny (model prog w) A (tryCompare .none "__eq__" (.ref y)) Q E s :=
  wpAny_tryCompare_declines (T := "NoneType") rfl F.slot_NoneType_eq (call_gives F.slot_NoneType_eq rfl F.entry_NoneType_eq (F.args_NoneType_eq_2 _ _) (NoneType___eq___none_ref_0 y) ⟨rfl, h⟩)
theorem nb_dec_int {i : Int} {t : Tok} (ho : s.heap.get? y = some oy) (hd : oy.data = .plain) (Q : Option Value → Shared → Prop) (h : Q none s) : wpAny (model prog w) A (tryCompare (.int i t) "__eq__" (.ref y)) Q E s :=
  wpAny_tryCompare_declines (T := "int") (typeIs_int s i t) F.slot_int_eq (call_meets F.slot_int_eq (typeIs_int s i t) F.entry_int_eq (F.args_int_eq_2 _ _) (int_eq_declines_plain i t y oy hd) ⟨ho, rfl, h⟩)
theorem nb_dec_bool {b : Bool} (ho : s.heap.get? y = some oy) (hd : oy.data = .plain) (Q : Option Value → Shared → Prop) (h : Q none s) : wpAny (model prog w) A (tryCompare (.bool b) "__eq__" (.ref y)) Q E s :=
  wpAny_tryCompare_declines (T := "bool") rfl F.slot_bool_eq (call_meets F.slot_bool_eq rfl F.entry_int_eq (F.args_int_eq_2 _ _) (bool_eq_declines_plain b y oy hd) ⟨ho, rfl, h⟩)
theorem nb_dec_str {z : Str} {t : Tok} (ho : s.heap.get? y = some oy) (hd : oy.data = .plain) (Q : Option Value → Shared → Prop) (h : Q none s) : wpAny (model prog w) A (tryCompare (.str z t) "__eq__" (.ref y)) Q E s :=
  wpAny_tryCompare_declines (T := "str") (typeIs_str s z t) F.slot_str_eq (call_meets F.slot_str_eq (typeIs_str s z t) F.entry_str_eq (F.args_str_eq_2 _ _) (str_eq_declines_plain z t y oy hd) ⟨ho, rfl, h⟩)
end
end PySem.W
namespace NB
open PySem PySem.Spec L2
/-- built-in values on the left -/
inductive Lft (H : Hp) : V → String → Prop
  | non : Lft H .non "NoneType"
  | bl (b : Bool) : Lft H (.bl b) "bool"
  | int (i : Int) : Lft H (.int i) "int"
  | str (z : Str) : Lft H (.str z) "str"
  | tup {a : Addr} {xs : List V} (e : H a = some (.tup xs)) : Lft H (.ref a) "tuple"
  | lst {a : Addr} {xs : List V} (e : H a = some (.lst xs)) : Lft H (.ref a) "list"
section
variable {X : Cx} {CX : CXT} {k : Nat} {C : Addr} {sp : Sp} {E : XK}
theorem Lft.ty {K : PySem.W.Frag} {H : Hp} {x : V} {T : String} (h : Lft H x T) : TyX K H x (.type T) := by
  cases h with
  | non => exact .base .non
  | bl b => exact .base (.bl b)
  | int i => exact .base (.int i)
  | str z => exact .base (.str z)
  | tup e => exact .base (.tup e)
  | lst e => exact .base (.lst e)
/-- x == y by y's own __eq__, x built-in -/
def rEqR (K : PySem.W.Frag) (C : Addr) (sp : Sp) (E : XK) : R2 := fun x y H Q => ∃ (b dy : Addr) (fs : List (Str × V)) (T : String), y = .ref b ∧ H b = some (.ins C dy fs) ∧ Lft H x T ∧ PySem.W.subIn K (.ref C) (.type T) = some false ∧
  sp [y, x] H (fun v H' => ∃ b, v = .bl b ∧ Q (.bl b) H') E
theorem op_eqR (M : OwnM X CX k C "__eq__" sp) (hr : Room k X.A) (hx : Passes CX X E) : OpR X (compareOp .Eq) (rEqR X.K C sp E) := by
  intro pins s σ H x y u v Q I rx ry h
  obtain ⟨f, fd, ps, F, hb, hs, hf⟩ := M.ex
  obtain ⟨b, dy, fs, T, rfl, hy, lf, sub, q⟩ := h
  obtain ⟨mA, J0, _⟩ := ins_get I.hok hy
  obtain ⟨od, J, _⟩ := J0.look
  obtain ⟨Pt, Z, pt, _⟩ := kit_of I rx (lf.ty (K := X.K))
  obtain ⟨m, hF⟩ := I.fr
  have ry' := ry
  cases ry'
  have fin : wpAny (model X.prog X.w) X.A (call (.ref f) [.ref b, u]) (PySem.W.CmpBack (EP X pins σ Q)) X.xe s := by
    refine wpAny_mono (run_at F ⟨hr, rfl⟩ hb hx I (.cons rel_ref (.cons rx .nil)) q) ?_ fun _ _ z => z
    rintro w s' ⟨z, H', I', rz, b, rfl, qb⟩
    cases rz
    exact ⟨.bl b, H', I', rfl, qb⟩
  have ty := Z.ty (model X.prog X.w) _ I.kIn pt
  have kIn := I.kIn
  cases lf with
  | non =>
    cases (show u = Value.none from rx)
    exact PySem.W.nb_eqR hr.units0 hF I.ok.mod.kin J ty sub rfl (fun Q q => PySem.W.nb_dec_none Q q) hs hf fin
  | bl i =>
    cases (show u = Value.bool i from rx)
    exact PySem.W.nb_eqR hr.units0 hF I.ok.mod.kin J ty sub rfl (fun Q q => PySem.W.nb_dec_bool J0.obj rfl Q q) hs hf fin
  | int i =>
    obtain ⟨t, rfl⟩ := (show ∃ t, u = Value.int i t from rx)
    exact PySem.W.nb_eqR hr.units0 hF I.ok.mod.kin J ty sub rfl (fun Q q => PySem.W.nb_dec_int J0.obj rfl Q q) hs hf fin
  | str z =>
    obtain ⟨t, rfl⟩ := (show ∃ t, u = Value.str z t from rx)
    exact PySem.W.nb_eqR hr.units0 hF I.ok.mod.kin J ty sub rfl (fun Q q => PySem.W.nb_dec_str J0.obj rfl Q q) hs hf fin
  | @tup a xs e =>
    cases (show u = Value.ref a from rx)
    obtain ⟨_, its, _, ob, e1, c1⟩ := (show ObjOk _ _ H s.heap a (.tup xs) from I.hok a _ e)
    exact PySem.W.nb_eqR hr.units0 hF I.ok.mod.kin J ty sub rfl (fun Q q => PySem.W.nb_dec_tup kIn J e1 c1.1 sub Q q) hs hf fin
  | @lst a xs e =>
    cases (show u = Value.ref a from rx)
    obtain ⟨_, its, n, _, e1⟩ := (show ObjOk _ _ H s.heap a (.lst xs) from I.hok a _ e)
    exact PySem.W.nb_eqR hr.units0 hF I.ok.mod.kin J ty sub rfl (fun Q q => PySem.W.nb_dec_lst kIn J e1 rfl sub Q q) hs hf fin
end
end NB
/-! NBr: for x in o and [.. for x in o], o of an own class whose __iter__ gives a tuple's iterator. -/
namespace NB
open PySem PySem.Spec PyProof.Rows L2 ItX
section
variable {X : Cx} {CX : CXT} {k : Nat} {C : Addr} {spI : Sp}
/-- iter(t), t a tuple: the iterator lies above all that is tracked -/
def rIterA (K : PySem.W.Frag) : List V → Hp → VK → Prop := fun xs H Q => ∃ (t : Addr) (zs : List V), xs = [.ref t] ∧ SqT K H t zs ∧ ∀ it, H it = none → (∀ b u, H b = some u → b < it) → Q (.ref it) (upd H it (TItO t it))
theorem call_iterA : CallR X (.builtin "iter") (rIterA X.K) := by
  intro pins s σ H xs us Q I r h
  obtain ⟨l, zs, rfl, hq, q⟩ := h
  obtain rfl := Vals.ref1 r
  obtain ⟨its, rv, ht, hz⟩ := I.tuple hq
  refine Calls.call_function_entry (by decide +kernel) (by decide +kernel) PySem.W.kdk_entry_iter (PySem.W.kdk_args_iter _) ?_
  unfold Builtin.«iter»
  refine wpAny_bind (m := someArgs "iter" 1 2 _) (wpAny_of_eq (a := [Value.ref l]) (by first | rfl | kernel_rfl!) ?_)
  show wpAny _ _ (pyIter (.ref l) >>= _) _ _ _
  refine wpAny_bind (wpAny_pyIter_tuple (tup_of ht) ?_)
  refine wpAny_pure ⟨_, rfl, ?_⟩
  exact ⟨.ref s.heap.objs.size, _, I.laid (t' := s.toks) (fun b u e => Heap.get?_push_of_some _ e) (Nat.le_refl _) (tItO_ok ⟨_, Heap.get?_push_size _ rfl, rfl, rfl⟩), rfl, q _ (I.hok.fresh (Nat.le_refl _)) fun b u e => (I.hok b u e).lt⟩
def iOwn (K : PySem.W.Frag) (C : Addr) (spI : Sp) (te : TE) : TI := fun σ H R => te σ H fun x H1 => ∃ (a dx t : Addr) (fs : List (Str × V)) (zs : List V), x = .ref a ∧ H1 a = some (.ins C dx fs) ∧ H1 t = some (.tup zs) ∧
  (∀ H', Same H1 H' → spI [.ref a] H' (fun v H2 => ∃ it, v = .ref it ∧ (∀ b u, H' b = some u → b < it) ∧ H2 = upd H' it (TItO t it)) E0) ∧ R (Itt K t) H1
theorem pi_own {e tg : Expr} {te : TE} (he : PE X e te) (MI : OwnM X CX0 k C "__iter__" spI) (hr : Room k X.A) (y : Str) (hk : X.env.kindOf y = some .cell) (hf : X.fn y = true) : PI X tg e (iOwn X.K C spI te) := by
  refine ⟨fun pins s σ H R I h => ?_⟩
  refine thn (he.run pins s σ H _ I h) fun v s1 ⟨x, H1, I1, r1, q1⟩ => ?_
  obtain ⟨a, dx, t, fs, zs, rfl, ha, ht, hsp, q⟩ := q1
  cases r1
  obtain ⟨ox, od, J⟩ := inst_of I1 ha
  obtain ⟨m0, hF⟩ := I1.fr
  obtain ⟨fI, fdI, psI, FI, bI, sI, iI⟩ := MI.ex
  refine PySem.W.owit_iter hF I1.ok.mod.kin J sI iI ?_
  -- a cell of the frame as a mark
  obtain ⟨mk, hy⟩ := I1.ok.has y (.inl hk)
  obtain ⟨vL, oL, hoL, hdL⟩ := I1.cell y mk hy
  have fL : H1 mk = none := I1.freeC y mk hy
  have hL : X.s_0.heap.objs.size ≤ mk := I1.ok.cab y mk hf hy
  generalize hH' : upd H1 mk (.ext fun h => h.get? mk = some oL) = H'
  have eL : H' mk = some (.ext fun h => h.get? mk = some oL) := by rw [← hH']; exact upd_same
  have nH' : ∀ b, b ≠ mk → H' b = H1 b := fun b n => by rw [← hH', upd_ne n]
  have sm : Same H1 H' := fun b o e => by
    rw [nH' b (ne_of_none e fL)]
    exact e
  have hsp := hsp H' sm
  have hok1 : HOk X.prog X.w H' s1.heap := by
    intro b o e
    by_cases hb : b = mk
    · rw [hb, eL] at e
      cases e
      rw [hb]
      exact ⟨hoL, ⟨_, hoL⟩, fun h1 h2 z y => y _ z⟩
    · rw [nH' b hb] at e
      exact (I1.hok b o e).stay (fun d u _ y => y) (fun d y => sm _ _ y) (fun d zs y => sm _ _ y)
  have env : Env0 X.prog X.w X.K X.mg X.base X.A X.stack s1 H' := by
    have e := I1.env0
    refine ⟨e.frames, e.mod, fun b o y => ⟨(e.bs b o y).1, ?_⟩, e.bsz, e.funs, fun b y => ?_, hok1, e.bare⟩
    · have n : b ≠ mk := fun z => by
        rw [z] at y
        exact absurd (Nat.lt_of_lt_of_le (Heap.lt_size y) (Nat.le_trans I1.ok.bsz hL)) (Nat.lt_irrefl _)
      rw [nH' b n]
      exact (e.bs b o y).2
    · have n : b ≠ mk := fun z => by
        rw [z] at y
        have no : mk ∉ frs X.outer := fun u => by
          obtain ⟨_, o, ho, _⟩ := I1.ok.funs.mem u
          exact absurd (Nat.lt_of_lt_of_le (Heap.lt_size ho) hL) (Nat.lt_irrefl _)
        rcases I1.ok.stk with z | ⟨z, fr⟩
        · rw [z] at y
          exact no y
        · rw [z] at y
          unfold frs at y no
          rw [List.filterMap_cons, fr] at y
          rcases List.mem_cons.mp y with u | u
          · exact I1.cne _ _ hy u
          · exact no u
      rw [nH' b n]
      exact e.frf b y
  have hl := FI.len _ _ _ _ hsp
  have bd := bI s1 [.ref a] I1.kIn (by simpa using hl)
  rw [List.append_nil] at bd
  refine wpAny_call (codeAny_mono (FI.run X.A X.stack s1 H' ⟨[.ref a], []⟩ [.ref a] [.ref a] _ E0 hr env bd (.cons rel_ref .nil) hsp) fun r s' hq' => ?_)
  match r, hq' with
  | .ok (.ret u), ⟨v, H2, os, bare, un, hok, rv, it, ev, hit, eH⟩ =>
    subst ev
    obtain rfl : u = Value.ref it := rv
    have lit : mk < it := hit _ _ eL
    have nit : H1 it = none := by
      cases z : H1 it with
      | none => rfl
      | some o => exact absurd (hit _ _ (sm _ _ z)) (Nat.lt_irrefl _)
    have h2L : H2 mk = some (.ext fun h => h.get? mk = some oL) := by rw [eH, upd_ne (Nat.ne_of_lt lit)]; exact eL
    have keepL : s'.heap.get? mk = some oL := (hok _ _ h2L).1
    have h2it : H2 it = some (TItO t it) := by rw [eH]; exact upd_same
    have un' : Un (frs X.stack) [] H1 (upd H1 it (TItO t it)) s1.heap s'.heap := by
      refine ⟨fun b o e n f x => ?_, fun b o e n f x => ?_, fun b o e n x => ?_, fun b o e x => un.there b o e x, fun b xs e => ?_, fun b o u e => ?_, fun b ps e => ⟨#[], ?_⟩⟩
      · by_cases hb : b = mk
        · rw [hb] at e ⊢
          rw [keepL, ← hoL, e]
        · exact un.keep b o e (by rw [nH' b hb]; exact n) f x
      · by_cases hb : b = mk
        · rw [hb] at e ⊢
          refine ⟨o.slots, ?_⟩
          rw [keepL, ← hoL, e]
        · exact un.slot b o e (by rw [nH' b hb]; exact n) f x
      · by_cases hb : b = mk
        · rw [hb, upd_ne (Nat.ne_of_lt lit)]
          exact fL
        · have z := un.free b o e (by rw [nH' b hb]; exact n) x
          have nb : b ≠ it := fun y => by
            rw [y, h2it] at z
            cases z
          rw [upd_ne nb]
          exact n
      · rw [upd_ne (ne_of_none e nit)]
        exact e
      · rw [upd_ne (ne_of_none e nit)]
        exact e
      · rw [upd_ne (ne_of_none e nit), e]
        simp
    have hok' : HOk X.prog X.w (upd H1 it (TItO t it)) s'.heap := by
      have tr : ∀ b o, H2 b = some o → (∀ φ, o ≠ .ext φ) → upd H1 it (TItO t it) b = some o := fun b o e ne => by
        have nb : b ≠ it := fun z => by
          rw [z, h2it] at e
          exact ne _ (Option.some.inj e).symm
        have nl : b ≠ mk := fun z => by
          rw [z, h2L] at e
          exact ne _ (Option.some.inj e).symm
        rw [upd_ne nb]
        rw [eH, upd_ne nb, nH' b nl] at e
        exact e
      intro b o e
      have e2 : H2 b = some o := by
        by_cases hb : b = it
        · rw [hb, upd_same] at e
          rw [hb, h2it]
          exact e
        · rw [upd_ne hb] at e
          rw [eH, upd_ne hb]
          exact sm _ _ e
      exact (hok b o e2).stay (fun d u _ y => y) (fun d y => tr _ _ y (fun _ z => nomatch z)) (fun d zs y => tr _ _ y (fun _ z => nomatch z))
    obtain ⟨_, _, I2, _, _, e4⟩ := I1.after (Q := fun v2 H3 => v2 = .ref it ∧ H3 = upd H1 it (TItO t it)) ⟨.ref it, _, os, bare, un', hok', rel_ref, rfl, rfl⟩
    rw [e4] at I2
    have eIt : upd H1 it (TItO t it) it = some (TItO t it) := upd_same
    have hti : s'.heap.IsTupleIter it t 0 := (I2.hok it _ eIt).1
    have hD : dropH (upd H1 it (TItO t it)) it = H1 := dropH_upd nit
    have J6 := inv_drop I2 eIt
    have fp := inv_fp I2 eIt (Nat.le_trans hL (Nat.le_of_lt lit))
    rw [hD] at J6 fp
    unfold PySem.W.OwitIt
    refine wpAny_specialOf hti.typeIs F.slot_tuple_iterator_next.lookup ?_
    refine ⟨it, [it], _, _, H1, rfl, J6, turn_tuple t it, hti, fun b hb => ?_, q⟩
    have e : b = it := by simpa using hb
    rw [e]
    exact fp
end
end NB
/-! NBs: o in [..], built-in values in the list, by o's own __eq__. -/
namespace NB
open PySem PySem.Spec PyProof.Rows L2 PySem.SeqAt
open AutoSeq1 (wpAny_loadPart')
open MeetsSeq MeetsSeq2 MeetsSeq3 SeqRoads2
section
variable {X : Cx} {CX : CXT} {k : Nat} {C : Addr} {sp : Sp} {E : XK} {A : Around} {pins : List (Addr × Obj)} {σ : L2.St} {H : Hp} {s : Shared}
theorem eqR_at (M : OwnM X CX k C "__eq__" sp) (sb : Sub X k A) (hx : Passes CX X E) (I : Inv X pins σ H s) {x : V} {u : Value} {b : Addr} (rx : RelV x u) {Q : VK} (h : rEqR X.K C sp E x (.ref b) H Q) :
    wpAny (model X.prog X.w) A (richCompare .Eq u (.ref b)) (EP X pins σ Q) X.xe s := by
  obtain ⟨f, fd, ps, F, hb, hs, hf⟩ := M.ex
  obtain ⟨b', dy, fs, T, eb, hy, lf, sub, q⟩ := h
  cases eb
  obtain ⟨mA, J0, _⟩ := ins_get I.hok hy
  obtain ⟨od, J, _⟩ := J0.look
  obtain ⟨Pt, Z, pt, _⟩ := kit_of I rx (lf.ty (K := X.K))
  obtain ⟨m, hF⟩ := I.fr
  have fin : wpAny (model X.prog X.w) A (call (.ref f) [.ref b, u]) (PySem.W.CmpBack (EP X pins σ Q)) X.xe s := by
    refine wpAny_mono (run_at F sb hb hx I (.cons rel_ref (.cons rx .nil)) q) ?_ fun _ _ z => z
    rintro w s' ⟨z, H', I', rz, b, rfl, qb⟩
    cases rz
    exact ⟨.bl b, H', I', rfl, qb⟩
  have ty := Z.ty (model X.prog X.w) _ I.kIn pt
  have kIn := I.kIn
  have hu := sb.room.units0
  cases lf with
  | non =>
    cases (show u = Value.none from rx)
    exact PySem.W.nb_eqR hu hF I.ok.mod.kin J ty sub rfl (fun Q q => PySem.W.nb_dec_none Q q) hs hf fin
  | bl i =>
    cases (show u = Value.bool i from rx)
    exact PySem.W.nb_eqR hu hF I.ok.mod.kin J ty sub rfl (fun Q q => PySem.W.nb_dec_bool J0.obj rfl Q q) hs hf fin
  | int i =>
    obtain ⟨t, rfl⟩ := (show ∃ t, u = Value.int i t from rx)
    exact PySem.W.nb_eqR hu hF I.ok.mod.kin J ty sub rfl (fun Q q => PySem.W.nb_dec_int J0.obj rfl Q q) hs hf fin
  | str z =>
    obtain ⟨t, rfl⟩ := (show ∃ t, u = Value.str z t from rx)
    exact PySem.W.nb_eqR hu hF I.ok.mod.kin J ty sub rfl (fun Q q => PySem.W.nb_dec_str J0.obj rfl Q q) hs hf fin
  | @tup a xs e =>
    cases (show u = Value.ref a from rx)
    obtain ⟨_, its, _, ob, e1, c1⟩ := (show ObjOk _ _ H s.heap a (.tup xs) from I.hok a _ e)
    exact PySem.W.nb_eqR hu hF I.ok.mod.kin J ty sub rfl (fun Q q => PySem.W.nb_dec_tup kIn J e1 c1.1 sub Q q) hs hf fin
  | @lst a xs e =>
    cases (show u = Value.ref a from rx)
    obtain ⟨_, its, n, _, e1⟩ := (show ObjOk _ _ H s.heap a (.lst xs) from I.hok a _ e)
    exact PySem.W.nb_eqR hu hF I.ok.mod.kin J ty sub rfl (fun Q q => PySem.W.nb_dec_lst kIn J e1 rfl sub Q q) hs hf fin
theorem eqB_at (M : OwnM X CX k C "__eq__" sp) (sb : Sub X k A) (hx : Passes CX X E) (I : Inv X pins σ H s) {x : V} {u : Value} {b : Addr} (rx : RelV x u) (h : rEqR X.K C sp E x (.ref b) H (fun v H' => v = .bl false ∧ H' = H)) :
    wpAny (model X.prog X.w) A (eqBool u (.ref b)) (fun v s' => v = false ∧ Inv X pins σ H s') X.xe s := by
  have key : wpAny (model X.prog X.w) A (richCompare .Eq u (.ref b)) (fun v s' => v = .bool false ∧ Inv X pins σ H s') X.xe s := by
    refine wpAny_mono (eqR_at M sb hx I rx h) ?_ fun _ _ z => z
    rintro w s' ⟨z, H', I', rz, rfl, rfl⟩
    cases rz
    exact ⟨rfl, I'⟩
  have two : wpAny (model X.prog X.w) A (richCompare .Eq u (.ref b) >>= fun r => truthOfDropped r) (fun v s' => v = false ∧ Inv X pins σ H s') X.xe s := by
    refine wpAny_bind (wpAny_mono key ?_ fun _ _ z => z)
    rintro w s' ⟨rfl, I'⟩
    exact wpAny_truthy_bool ⟨rfl, I'⟩
  obtain ⟨b', dy, fs, T, eb, hy, lf, _⟩ := h
  cases eb
  unfold eqBool
  refine wpAny_holding ?_
  cases lf with
  | non =>
    cases (show u = Value.none from rx)
    exact wpAny_ite_split (fun hab => absurd (eq_of_beq hab) nofun) (fun _ => two)
  | bl i =>
    cases (show u = Value.bool i from rx)
    exact wpAny_ite_split (fun hab => absurd (eq_of_beq hab) nofun) (fun _ => two)
  | int i =>
    obtain ⟨t, rfl⟩ := (show ∃ t, u = Value.int i t from rx)
    exact wpAny_ite_split (fun hab => absurd (eq_of_beq hab) nofun) (fun _ => two)
  | str z =>
    obtain ⟨t, rfl⟩ := (show ∃ t, u = Value.str z t from rx)
    exact wpAny_ite_split (fun hab => absurd (eq_of_beq hab) nofun) (fun _ => two)
  | @tup a xs e =>
    cases (show u = Value.ref a from rx)
    refine wpAny_ite_split (fun hab => ?_) (fun _ => two)
    cases eq_of_beq hab
    rw [hy] at e
    cases e
  | @lst a xs e =>
    cases (show u = Value.ref a from rx)
    refine wpAny_ite_split (fun hab => ?_) (fun _ => two)
    cases eq_of_beq hab
    rw [hy] at e
    cases e
theorem in_loopO (M : OwnM X CX k C "__eq__" sp) (sb : Sub X k A.in1) (hx : Passes CX X E) {l b : Addr} {xs : List V} (hall : ∀ x ∈ xs, rEqR X.K C sp E x (.ref b) H (fun v H' => v = .bl false ∧ H' = H)) (hl : H l = some (.lst xs)) {R : Result → Shared → Prop}
    (fin : ∀ s', Inv X pins σ H s' → R (.ok (.ret (.bool false))) s') (herr : ∀ e s', X.xe e s' → R (.error e) s') (j : Nat) :
    ∀ (i : Nat) (s : Shared), xs.length - i = j → Inv X pins σ H s → wpAny (model X.prog X.w) A.in1 (Builtin.«list.__contains__.loop» ⟨[.ref l, .ref b, rawInt i], []⟩)
      (fun fin s' => match fin with | .done f => R (.ok f) s' | .again c' => c'.quiet = true ∧ codeAny (model X.prog X.w) A c' R s') (fun e s' => R (.error e) s') s := by
  induction j with
  | zero =>
    intro i s hk I
    obtain ⟨_, its, n, rv, e1⟩ := (show ObjOk _ _ H s.heap l (.lst xs) from I.hok l _ hl)
    have lz : xs.length = its.length := rv.length
    obtain ⟨hp, g, d, tk, os⟩ := s
    wp_walk using wpAny_loadPart' e1
    have hi : its.toArray[((i : Nat) : Int).toNat]? = none := by simp; omega
    rw [hi]
    wp_walk
    exact fin _ I
  | succ j ih =>
    intro i s hk I
    obtain ⟨_, its, n, rv, e1⟩ := (show ObjOk _ _ H s.heap l (.lst xs) from I.hok l _ hl)
    have lz : xs.length = its.length := rv.length
    have hlt : i < its.length := by omega
    have hltx : i < xs.length := by omega
    obtain ⟨hp, g, d, tk, os⟩ := s
    wp_walk using wpAny_loadPart' e1
    have hi : its.toArray[((i : Nat) : Int).toNat]? = some its[i] := by simp [hlt]
    rw [hi]
    have hq := hall _ (List.getElem_mem hltx)
    have rx : RelV xs[i] its[i] := by
      obtain ⟨u, h1, h2⟩ := NB.Paired.at_ rv (List.getElem?_eq_getElem hltx)
      rw [List.getElem?_eq_getElem hlt] at h1
      cases h1
      exact h2
    have step : wpAny (model X.prog X.w) A.in1 (eqBool its[i] (.ref b)) (fun v s' => v = false ∧ Inv X pins σ H s') X.xe ⟨hp, g, d, tk, os⟩ := eqB_at M sb hx I rx hq
    refine wpAny_bind (wpAny_mono step ?_ fun e s' z => herr e s' z)
    rintro v s' ⟨rfl, I'⟩
    have hc : ((i : Int) + 1) = ((i + 1 : Nat) : Int) := by push_cast; rfl
    wp_walk
    rw [hc]
    exact ⟨plainId_quiet plain_contains_loop _, codeAny_builtin entry_contains_loop (by
      rw [Around.under_plainId plain_contains_loop _]
      exact ih (i + 1) s' (by omega) I')⟩
def rInR (K : PySem.W.Frag) (C : Addr) (sp : Sp) (E : XK) : R2 := fun x y H Q => ∃ (b l : Addr) (xs : List V), x = .ref b ∧ y = .ref l ∧ H l = some (.lst xs) ∧ (∀ z ∈ xs, rEqR K C sp E z (.ref b) H (fun v H' => v = .bl false ∧ H' = H)) ∧ Q (.bl false) H
theorem op_inR (M : OwnM X CX k C "__eq__" sp) (hr : Room (k + 1) X.A) (hx : Passes CX X E) : OpR X (compareOp .In) (rInR X.K C sp E) := by
  intro pins s σ H x y u v Q I rx ry h
  obtain ⟨b, l, xs, rfl, rfl, hl, hall, q⟩ := h
  cases rx
  cases ry
  obtain ⟨_, its, n, rv, e1⟩ := (show ObjOk _ _ H s.heap l (.lst xs) from I.hok l _ hl)
  show wpAny _ X.A (do return Value.bool (← contains (.ref l) (.ref b))) _ _ s
  have hT : s.TypeIs (.ref l) "list" := ⟨_, e1, rfl⟩
  refine wpAny_bind (wpAny_contains_slot hT F.slot_list_contains (wpAny_mono (call_meetsIn (S := fun A R s' => A = X.A ∧ s' = s ∧ R = wants (fun v s' => v = .bool false ∧ Inv X pins σ H s') X.xe) F.slot_list_contains hT F.entry_list_contains (F.args_list_contains_2 _ _) ?_ ⟨rfl, rfl, rfl⟩) (fun v s' hv => ?_) fun _ _ e => e))
  · rintro A R s' ⟨rfl, rfl, rfl⟩
    obtain ⟨hp, g, d, tk, os⟩ := s'
    wp_walk using wpAny_loadPart' e1
    exact ⟨plainId_quiet plain_contains_loop _, codeAny_builtin entry_contains_loop (by
      rw [Around.under_plainId plain_contains_loop _]
      exact in_loopO M ⟨hr.in1, rfl⟩ hx hall hl (fun s' I' => ⟨rfl, I'⟩) (fun e s' z => z) _ 0 _ rfl I)⟩
  · obtain ⟨rfl, I'⟩ := hv
    exact wpAny_truthy_bool (wpAny_pure ⟨.bl false, H, I', rfl, q⟩)
end
end NB
/-! NBt: o.m(k = v, ..). -/
namespace NB
open PySem PySem.Spec PyProof.Rows L2
def tMethK (C : Addr) (m : Str) (j : Nat) (sp : Sp) (gV : List V → List V → List V) (E : XK) (ta : TE) (tk : TA) : TE := fun σ H Q => ta σ H fun x H1 => ∃ a dx fs, x = .ref a ∧ H1 a = some (.ins C dx fs) ∧ fs.lookup m = none ∧ tk σ H1 fun zs H2 => zs.length = j ∧ sp (gV [x] zs) H2 Q E
section
variable {X : Cx} {CX : CXT} {k n : Nat} {f C : Addr} {fd : FuncData} {ps ks : List Str} {sp : Sp} {E : XK} {m : Str} {apos pos : Pos} {o : Expr} {kws : List Keyword} {ta : TE} {tk : TA} {g : List Value → List Value → List Value} {gV : List V → List V → List V}
theorem pe_methK0 {pl : Sem Bool} (he : PE X o ta) (c : Cls X.K C) (hm : Meth X.K C m f) (F : FnOk X.prog X.w X.K X.mg X.base CX k f fd ps sp) (hr : Room k X.A) (hb : KBn X.K fd ps 1 ks g gV) (hx : Passes CX X E) (hkw : PK X kws tk)
    (hall : (backToKw pos (keywordEach kws X.env)).all (·.1.isSome) = true := by rfl) (hks : (backToKw pos (keywordEach kws X.env)).filterMap (·.1) = ks := by rfl)
    (hpl : ((backTo pos (starEach [] X.env)).any (·.1) || (backToKw pos (keywordEach kws X.env)).any (·.1.isNone)) = false := by rfl)
    (ht : eval (.Call (.Attribute o m apos) [] kws pos) X.env = (do
      let ov ← eval o X.env
      standAt apos.atName
      let (f, first) ← holding [ov] (getMethod ov m pl)
      callWith pos f first (backTo pos (starEach [] X.env)) (backToKw pos (keywordEach kws X.env))) := by rfl) :
    PE X (.Call (.Attribute o m apos) [] kws pos) (tMethK C m ks.length sp gV E ta tk) := by
  refine ⟨fun pins s σ H Q I h => ?_⟩
  refine PySem.W.methodCall_KW (pl := pl) (thn (he.run pins s σ H _ I h) fun u s1 ⟨x, H1, I1, rx, a, dx, fs, ex, ea, l, q⟩ => ?_) ht
  subst ex
  obtain rfl : u = Value.ref a := rx
  refine getmeth_ok I1 ea c hm l ?_
  refine PySem.W.callWith_KW0 (first := [.ref a]) (h₀ := X.base) I.ok.mod.kin hm.kp hall ?_ hpl
  refine thn (hkw.run pos pins s1 σ H1 _ I1 q) fun ws s2 ⟨zs, H2, I2, rz, l2, q2⟩ => ⟨I2.kIn, ?_⟩
  rw [hks]
  have r1 : Vals [V.ref a] [Value.ref a] := .cons rfl .nil
  have r2 := hb.rel r1 rz
  refine wpAny_call (codeAny_mono (F.run X.A X.stack s2 H2 ⟨[.ref a], ks.zip ws⟩ (g [.ref a] ws) (gV [.ref a] zs) Q E hr I2.env0 (hb.to s2 [.ref a] ws I2.kIn rfl (rz.length.symm.trans l2)) r2 q2) fun r s' hq => ?_)
  match r, hq with
  | .error e, hq => exact hx pins σ H2 s2 e s' I2 hq
  | .ok (.ret u), hq => exact I2.after hq
/-- all but the first by name, the last one first -/
theorem kbn_of {K : PySem.W.Frag} {fd : FuncData} {fl : List Str} (h : KwB fd fl) : KBn K fd ("self" :: fl) 1 fl.reverse (fun us ws => us ++ ws.reverse) (fun vs zs => vs ++ zs.reverse) := by
  refine ⟨fun s us ws _ l1 l2 => ?_, fun r1 r2 => r1.append (vals_rev r2)⟩
  match us, l1 with
  | [u], _ => exact h s u ws (by rw [l2, List.length_reverse])
end
end NB
/-! NBv: cls(..) by a local name, C.m(k = v) of a classmethod, text[::-1]. -/
namespace NB
open PySem PySem.Spec PyProof.Rows L2 ClX
/-- x(..), the slot holds the class at C -/
def tMakeV (C : Addr) (i : Nat) (sp : Sp) (E : XK) (t : TA) : TE := fun σ H Q => σ[i]? = some (some (.ref C)) ∧ t σ H fun vs H1 => ∀ x dx, H1 x = none → H1 dx = none → dx ≠ x → sp (.ref x :: vs) (upd (upd H1 dx (.own x)) x (.ins C dx [])) (fun v H2 => v = .non ∧ Q (.ref x) H2) E
def tCMethK (C : Addr) (j : Nat) (sp : Sp) (gV : List V → List V → List V) (E : XK) (ta : TE) (tk : TA) : TE := fun σ H Q => ta σ H fun x H1 => x = .ref C ∧ tk σ H1 fun zs H2 => zs.length = j ∧ sp (gV [.ref C] zs) H2 Q E
def tRevS (te : TE) : TE := fun σ H Q => te σ H fun x H1 => ∃ z : Str, x = .str z ∧ z.length ≤ 2 ∧ ∀ y : Str, y.length ≤ 2 → (∀ c ∈ y.cps.toList, c ∈ z.cps.toList) → Q (.str y) H1
section
variable {X : Cx} {CX : CXT} {k i : Nat} {f C p g : Addr} {mc : Value} {fd : FuncData} {ps ks : List Str} {sp : Sp} {E : XK} {x m : Str} {pp apos pos : Pos} {o e : Expr} {es : List Expr} {kws : List Keyword} {ta te : TE} {t tk : TA} {gs : List Value → List Value → List Value} {gV : List V → List V → List V}
theorem pe_makeV (M : Mk X.K C f) (F : FnOk X.prog X.w X.K X.mg X.base CX k f fd ps sp) (hr : Room (k + 1) X.A) (hN : X.N[i]? = some x) (hv : Vis X.env.scope x) (hb : Binds X.K fd ps []) (hx : Passes CX X E) (ha : PA X (e :: es) t)
    (hdb : (x == ("__debug__" : Str)) = false := by decide) (hcd : (x == ("__classdict__" : Str)) = false := by decide)
    (he : starEach (e :: es) X.env = (false, eval e X.env) :: starEach es X.env := by rfl) (hpl : (backTo pos (starEach es X.env)).any (·.1) = false := by rfl) :
    PE X (.Call (.Name x pp) (e :: es) [] pos) (tMakeV C i sp E t) := by
  refine ⟨fun pins s σ H Q I h => ?_⟩
  obtain ⟨hs, ht⟩ := h
  refine wpAny_Call_Name_kw (thn ((pe_var (pos := pp) hN hv hdb hcd).run pins s σ H (fun v H1 => v = .ref C ∧ H1 = H) I ⟨.ref C, hs, rfl, rfl⟩) fun u s1 ⟨v, H1, I1, r1, q1⟩ => ?_)
  obtain ⟨rfl, rfl⟩ := q1
  cases r1
  refine PySem.W.callWith_K (h₀ := X.base) I.ok.mod.kin M.kp (thn (ha.run pos pins s1 σ _ _ I1 ht) fun us s2 ⟨vs, H2, I2, r, q⟩ => ⟨I2.kIn, ?_⟩) he hpl
  exact run_make M F hr hb .nil hx I2 r (fun a b h1 h2 h3 => by rw [List.append_nil]; exact q a b h1 h2 h3)
theorem pe_cmethK {pl : Sem Bool} (he : PE X o ta) (r : CRead X.K C mc) (c : CMet X.K C mc m p g) (F : FnOk X.prog X.w X.K X.mg X.base CX k g fd ps sp) (hr : Room k X.A) (hb : KBn X.K fd ps 1 ks gs gV) (hx : Passes CX X E) (hkw : PK X kws tk)
    (hall : (backToKw pos (keywordEach kws X.env)).all (·.1.isSome) = true := by rfl) (hks : (backToKw pos (keywordEach kws X.env)).filterMap (·.1) = ks := by rfl)
    (hpl : ((backTo pos (starEach [] X.env)).any (·.1) || (backToKw pos (keywordEach kws X.env)).any (·.1.isNone)) = false := by rfl)
    (ht : eval (.Call (.Attribute o m apos) [] kws pos) X.env = (do
      let ov ← eval o X.env
      standAt apos.atName
      let (f, first) ← holding [ov] (getMethod ov m pl)
      callWith pos f first (backTo pos (starEach [] X.env)) (backToKw pos (keywordEach kws X.env))) := by rfl) :
    PE X (.Call (.Attribute o m apos) [] kws pos) (tCMethK C ks.length sp gV E ta tk) := by
  refine ⟨fun pins s σ H Q I h => ?_⟩
  refine PySem.W.methodCall_KW (pl := pl) (thn (he.run pins s σ H _ I h) fun u s1 ⟨x, H1, I1, rx, ex, q⟩ => ?_) ht
  subst ex
  obtain rfl : u = Value.ref C := rx
  refine getmethcm_ok I1 r c fun s2 I2 => ?_
  have hq := pin_at I2
  have hL : s1.heap.objs.size ≠ X.env.locals := (I2.pin (s1.heap.objs.size, PySem.W.methodObj (.ref g) (.ref C)) (List.mem_append_right _ List.mem_cons_self)).2.2.1
  refine PySem.W.callWith_of (P := PySem.W.MethP X.K s1.heap.objs.size g (.ref C)) hpl (PySem.W.keeps_M c.fi) (evalArgs_kw2_nil hall ?_)
  refine thn (hkw.run pos _ s2 σ H1 _ I2 q) fun ws s3 ⟨zs, H2, I3, rz, l2, q2⟩ => ⟨⟨pin_at I3, I3.kIn⟩, ?_⟩
  rw [hks]
  have r1 : Vals [V.ref C] [Value.ref C] := .cons rfl .nil
  have r2 := hb.rel r1 rz
  have z : wpAny (model X.prog X.w) X.A (call (.ref s1.heap.objs.size) [] (ks.zip ws)) (EP X ((s1.heap.objs.size, PySem.W.methodObj (.ref g) (.ref C)) :: pins) σ Q) X.xe s3 := by
    refine wpAny_call (PySem.W.method_call (pin_at I3) ?_)
    refine codeAny_mono (F.run X.A X.stack s3 H2 ⟨[.ref C], ks.zip ws⟩ (gs [.ref C] ws) (gV [.ref C] zs) Q E hr I3.env0 (hb.to s3 [.ref C] ws I3.kIn rfl (rz.length.symm.trans l2)) r2 q2) fun r s' hq => ?_
    match r, hq with
    | .error e, hq => exact hx _ σ H2 s3 e s' I3 hq
    | .ok (.ret u), hq => exact I3.after hq
  exact thn z fun _ _ y => unpinE y
theorem pe_revS {n : Nat} {p1 p2 p3 : Pos} (he : PE X e te) : PE X (.Subscript e (.Slice none none (some (.UnaryOp .USub (.Constant (.int 1) n p1) p2)) p3) pos) (tRevS te) := by
  refine ⟨fun pins s σ H Q I h => ?_⟩
  refine Subscript_ (thn (he.run pins s σ H _ I h) fun v s1 ⟨x, H1, I1, r1, q1⟩ => ?_)
  obtain ⟨z, ex, hz, q⟩ := q1
  subst ex
  obtain ⟨tk, rfl⟩ := r1
  have hst : PO X (some (.UnaryOp .USub (.Constant (.int 1) n p1) p2)) (tPart (tUn (rU fun i => .int (-i)) (tC (.int 1)))) := po_some (pe_un un_neg pe_int)
  refine wpAny_Slice (thn (po_none.run pins s1 σ H1 (fun o H2 => o = none ∧ H2 = H1) I1 ⟨rfl, rfl⟩) fun vl s2 ⟨l, H2, I2, pl, el, e2⟩ => ?_)
  subst el e2
  refine thn (po_none.run pins s2 σ H2 (fun o H3 => o = none ∧ H3 = H2) I2 ⟨rfl, rfl⟩) fun vu s3 ⟨u, H3, I3, pu, eu, e3⟩ => ?_
  subst eu e3
  refine thn (hst.run pins s3 σ H3 (fun o H4 => o = some (-1) ∧ H4 = H3) I3 ⟨1, rfl, -1, rfl, rfl, rfl⟩) fun vs s4 ⟨o, H4, I4, ps, eo, e4⟩ => ?_
  subst eo e4
  have I5 : Inv X pins σ H4 { s4 with heap := s4.heap.push { cls := .type "slice", data := .fields #[vl, vu, vs] } } := I4.kept (t' := s4.toks) fun b ob q => Heap.get?_push_of_some _ q
  show wpAny (model X.prog X.w) X.A (subscriptTail e (.Slice none none (some (.UnaryOp .USub (.Constant (.int 1) n p1) p2)) p3) (.str z tk) (.ref s4.heap.objs.size)) (EP X pins σ Q) X.xe { s4 with heap := s4.heap.push { cls := .type "slice", data := .fields #[vl, vu, vs] } }
  refine tail_any (ops := [.str z tk, .ref s4.heap.objs.size]) (typeIs_str _ _ _) (F.slot_str_getitem.lookup) ?_ (by with_unfolding_all rfl)
  obtain ⟨l, rfl, hl⟩ := IsPart.raw pl
  obtain ⟨u, rfl, hu⟩ := IsPart.raw pu
  obtain ⟨st, rfl, hs⟩ := IsPart.raw ps
  cases l with
  | some _ => cases hl
  | none =>
  cases u with
  | some _ => cases hu
  | none =>
  cases st with
  | none => cases hs
  | some st =>
    obtain ⟨i, ti⟩ := st
    have hi : i = -1 := Option.some.inj hs
    subst hi
    refine wpAny_getItem_str_slice (l := none) (u := none) (st := some (-1, ti)) ⟨_, Heap.get?_push_size _ rfl, rfl, rfl⟩ rfl ?_
    show Made.post (if ((-1 : Int) == 1 && _) = true then Made.val (.str z tk) else Made.str ⟨((Builtin.Str.strSliceIndices none none (-1) z.length).filterMap (z.cps[·]?)).toArray⟩) (EP X pins σ Q) _
    rw [if_neg (by simp)]
    have li : (Builtin.Str.strSliceIndices none none (-1) z.length).length ≤ 2 := by
      generalize z.length = n at hz
      match n, hz with
      | 0, _ => decide +kernel
      | 1, _ => decide +kernel
      | 2, _ => decide +kernel
    have lf := List.length_filterMap_le (fun i => z.cps[i]?) (Builtin.Str.strSliceIndices none none (-1) z.length)
    have ly : (⟨((Builtin.Str.strSliceIndices none none (-1) z.length).filterMap (z.cps[·]?)).toArray⟩ : Str).length ≤ 2 := by
      show (((Builtin.Str.strSliceIndices none none (-1) z.length).filterMap (z.cps[·]?)).toArray).size ≤ 2
      rw [List.size_toArray]
      omega
    refine ⟨Nat.le_trans ly (by rw [sizeLine_eq]; decide), .str _, H4, I5.tok _, ⟨_, rfl⟩, q _ ly fun c hc => ?_⟩
    obtain ⟨j, _, hj⟩ := List.mem_filterMap.mp (show c ∈ ((Builtin.Str.strSliceIndices none none (-1) z.length).filterMap (z.cps[·]?)) from hc)
    rw [← Array.getElem?_toList] at hj
    exact List.mem_of_getElem? hj
end
end NB
/-! NBw: set(list of integers), static methods called by the class. -/
namespace NB
open PySem PySem.Spec PyProof.Rows L2 ClX
abbrev setNew (w : World) : Obj := { cls := .type "set", dict := none, data := .set #[] 0 (.fresh 0 0 (!w.params.followText "set-order")) }
section
variable {P : Program} {w : World} {A : Around} {E : Value → Shared → Prop} {s : Shared}
/-- what is asked of set(l), l a list of integers -/
theorem set_ints {l : Addr} {items : Array Value} (ns : List Int) {Q : Value → Shared → Prop} (hh : A.handled = none) (hl : s.heap.IsList l items) (hit : IntsAre items.toList ns) (hb : ns.length + 1 < scanBound)
    (h : ∀ (h' : Heap) (tk c : Nat), SetR w h' s.heap.objs.size (fun j => decide (j ∈ ns)) c → c ≤ ns.length → (∀ b o, s.heap.get? b = some o → h'.get? b = some o) → Q (.ref s.heap.objs.size) { s with heap := h', toks := tk }) :
    wpAny (model P w) A (call (.type "set") [.ref l]) Q E s := by
  have hisz : items.size = ns.length := by
    rw [← Array.length_toList]
    exact IntsAre.length hit
  obtain ⟨c, tl, hmro⟩ := F.called_set.mro
  have hmade := F.called_set.made
  have hsub := F.called_set.sub
  refine wpAny_call (codeAny_of_tree ?_)
  show wpAny _ _ (callAny (.type "set") _) _ _ _
  refine wpAny_pure ⟨Code.quiet_builtin _ (by decide +kernel), codeAny_builtin F.entry_type_call ?_⟩
  rw [Around.under_plain (weight_type_call_type "set" [.ref l] []) rfl]
  have h1 := F.called_set.notType
  have h2 := F.called_set.canCreate
  have hct := F.typeCall_set_1 (.ref l)
  repeat (any_goals (first | assumption | wp_step))
  refine codeAny_mono (code_set_led1 (.ref l) (E := E) (Q₁ := fun obj s₁ => obj = .ref s.heap.objs.size ∧ s₁ = { s with heap := s.heap.push (setNew w) }) ⟨rfl, rfl⟩) fun r s₁ hr => ?_
  match r, hr with
  | .error e, hr => exact hr
  | .ok (.ret obj), hr =>
    obtain ⟨rfl, rfl⟩ := hr
    have hS : (s.heap.push (setNew w)).get? s.heap.objs.size = some (setNew w) := Heap.get?_push_size _ rfl
    have hT : Shared.TypeIs { s with heap := s.heap.push (setNew w) } (.ref s.heap.objs.size) "set" := ⟨_, hS, rfl⟩
    have hli := F.called_set.init.lookup
    have hbi := F.called_set.init.bind (.ref s.heap.objs.size)
    repeat (any_goals (first | assumption | wp_step))
    refine codeAny_mono (codeAny_call_builtin (R := wants (fun r s₂ => r = .none ∧ ∃ h' tk c, s₂ = { s with heap := h', toks := tk } ∧ SetR w h' s.heap.objs.size (fun j => decide (j ∈ ns)) c ∧ c ≤ ns.length ∧ (∀ b o, s.heap.get? b = some o → h'.get? b = some o)) E)
      F.called_set.init.plain F.entry_set_init (check_set_init_1 hT ?_)) fun r₂ s₂ hr₂ => ?_
    · obtain ⟨⟨ocls, odict, odata, oslots⟩, hol, hcl, nl, hdl⟩ := hl
      simp only at hcl hdl
      subst hcl
      subst hdl
      have hol' : (s.heap.push (setNew w)).get? l = some { cls := .type "list", dict := odict, data := .seq items nl, slots := oslots } := Heap.get?_push_of_some _ hol
      have hsls := F.sub_list_set
      have hslf := F.sub_list_frozenset
      have hne : (Value.type "list" == Value.type "dict") = false := by decide
      have hl1 : (s.heap.push (setNew w)).IsList l items := ⟨_, hol', rfl, nl, rfl⟩
      unfold Builtin.«set.__init__» noKeywords Builtin.Frozenset.updateFrom
      generalize hPI : pyIter = PI
      wp_walk
      subst hPI
      refine wpAny_pyIter_list hl1 ?_
      refine wpAny_bind (wpAny_runValue ?_)
      have hlS : l < s.heap.objs.size := Heap.lt_size hol
      have hh3 : A.in1.in1.in1.handled = none := by simp [hh]
      have hz : (s.heap.push (setNew w)).objs.size = s.heap.objs.size + 1 := Heap.size_push ..
      have hval : ∀ (i : Nat) (v : Value), items[i]? = some v → ∃ k t, ns[i]? = some k ∧ v = .int k t := fun i v hv => by
        have hi : i < ns.length := by rw [← hisz]; exact (Array.getElem?_eq_some_iff.mp hv).1
        obtain ⟨t, e⟩ := IntsAre.int_at hit i v (by rw [Array.getElem?_toList]; exact hv)
        refine ⟨ns[i], t, List.getElem?_eq_getElem hi, ?_⟩
        rw [e, List.getD_eq_getElem?_getD, List.getElem?_eq_getElem hi] <;> rfl
      refine set_update_ints ((Walks.list hh3 _ l (by rw [hz]; exact Nat.ne_of_lt (Nat.lt_succ_of_lt hlS)) items).toS) s.heap.objs.size (by rw [hz]; simp only [List.mem_cons, List.not_mem_nil, or_false, not_or]; exact ⟨Nat.ne_of_lt (Nat.lt_succ_self _), Nat.ne_of_gt hlS⟩) ns hisz hb hval (items.size - 0) 0 _ (by omega) (Nat.zero_le _)
        ⟨⟨_, Heap.get?_push_size _ rfl, rfl, rfl⟩, hl1.push _⟩ ⟨0, Nat.le_refl 0, setR_new_at (Heap.get?_push_of_some _ hS)⟩ fun s' c' hm hc' hS' => ?_
      obtain ⟨h', g2, d', tk', os'⟩ := s'
      obtain rfl : g2 = s.gens := hm.gens
      obtain rfl : d' = s.drawn := hm.drawn
      obtain rfl : os' = s.os := hm.os
      show wpAny _ _ _ _ _ _
      refine wpAny_pure ?_
      show wpAny _ _ (ret Value.none) _ _ _
      rw [hisz] at hc'
      refine wpAny_pure ⟨rfl, h', tk', c', rfl, hS', hc', fun b o e => ?_⟩
      have hb0 : b < s.heap.objs.size := Heap.lt_size e
      exact hm.heap b o (by rw [hz]; simp only [List.mem_cons, List.not_mem_nil, or_false, not_or]; exact ⟨Nat.ne_of_lt hb0, Nat.ne_of_lt (Nat.lt_succ_of_lt hb0)⟩) (Heap.get?_push_of_some _ (Heap.get?_push_of_some _ e))
    · match r₂, hr₂ with
      | .error e, hr₂ => exact hr₂
      | .ok (.ret r), hr₂ =>
        obtain ⟨rfl, h', tk, c', rfl, hS', hc', hk'⟩ := hr₂
        repeat (any_goals (first | assumption | wp_step))
        exact h _ _ _ hS' hc' hk'
end
/-- set(l), l a list of integers -/
def rSetL (K : PySem.W.Frag) (w : World) : List V → Hp → VK → Prop := fun xs H Q => ∃ (a : Addr) (ns : List Int), xs = [.ref a] ∧ SqL K H a (ns.map V.int) ∧ ns.length ≤ 1000 ∧ ∀ p c, H p = none → c ≤ ns.length → Q (.ref p) (upd H p (SetO w p (fun j => decide (j ∈ ns)) c))
section
variable {X : Cx}
theorem cr_setL (hc : X.calm = true) : CallR X (.type "set") (rSetL X.K X.w) := by
  intro pins s σ H xs us Q I r h
  obtain ⟨a, ns, rfl, hs, hn, q⟩ := h
  obtain ⟨its, rv, hl, _⟩ := I.list hs
  rw [Vals.ref1 r]
  refine set_ints ns (I.ok.hd hc) hl.isList (ints_of_vals rv) (by unfold scanBound; omega) fun h' tk c R1 hcn k => ?_
  exact ⟨.ref _, upd H s.heap.objs.size (SetO X.w s.heap.objs.size (fun j => decide (j ∈ ns)) c), I.laid (t' := tk) k (Nat.le_refl _) (setO_new R1), rfl, q _ _ (I.hok.fresh (Nat.le_refl _)) hcn⟩
end
/-- C.m is a static method: its record at p, its def at g -/
structure SMet (K : PySem.W.Frag) (C : Addr) (mc : Value) (m : Str) (p g : Addr) : Prop where
  at_ : PySem.W.findCls K (.ref C) mc m = some (.get (.builtin "staticmethod.__get__") (.ref p) .none (.ref C))
  rc : ∃ rest, PySem.W.recIn K p "staticmethod" = some (.ref g :: rest)
  kp : PySem.W.keepIn K (.ref g) = true
def tSMeth (C : Addr) (sp : Sp) (E : XK) (ta : TE) (t : TA) : TE := fun σ H Q => ta σ H fun x H1 => x = .ref C ∧ t σ H1 fun vs H2 => sp vs H2 Q E
section
variable {X : Cx} {CX : CXT} {k : Nat} {C p g : Addr} {mc : Value} {sp : Sp} {E : XK} {o e : Expr} {es : List Expr} {m : Str} {pos apos : Pos} {ta : TE} {t : TA} {pl : Sem Bool} {pins : List (Addr × Obj)} {σ : L2.St} {H : Hp} {s : Shared}
theorem getmethsm_ok {A : Around} {E : Value → Shared → Prop} {Q : Value × List Value → Shared → Prop} (I : Inv X pins σ H s) (r : CRead X.K C mc) (k : SMet X.K C mc m p g) (h : ∀ s', Inv X pins σ H s' → Q (.ref g, []) s') : wpAny (model X.prog X.w) A (getMethod (.ref C) m pl) Q E s := by
  obtain ⟨rest, hp⟩ := k.rc
  refine PySem.W.method_cls I.kIn r.ga (PySem.W.cls_bind I.kIn r.rd k.at_ ?_)
  exact wpAny_call (PySem.W.sm_get (s := { s with toks := s.toks + 1 }) I.kIn hp (PySem.W.handed_on rfl (h _ (I.tok _))))
theorem pe_smeth (he : PE X o ta) (r : CRead X.K C mc) (c : SMet X.K C mc m p g) (F : FnR X.prog X.w X.K X.mg X.base CX k g sp) (hr : Room k X.A) (hx : Passes CX X E) (ha : PA X (e :: es) t)
    (hst : starEach (e :: es) X.env = (false, eval e X.env) :: starEach es X.env := by rfl) (hpl : (backTo pos (starEach es X.env)).any (·.1) = false := by rfl)
    (ht : eval (.Call (.Attribute o m apos) (e :: es) [] pos) X.env = (do
      let ov ← eval o X.env
      standAt apos.atName
      let (f, first) ← holding [ov] (getMethod ov m pl)
      callWith pos f first (backTo pos (starEach (e :: es) X.env)) (backToKw pos (keywordEach [] X.env))) := by rfl) :
    PE X (.Call (.Attribute o m apos) (e :: es) [] pos) (tSMeth C sp E ta t) := by
  refine ⟨fun pins s σ H Q I h => ?_⟩
  refine PySem.W.methodCall_KW (pl := pl) (thn (he.run pins s σ H _ I h) fun u s1 ⟨x, H1, I1, rx, ex, q⟩ => ?_) ht
  subst ex
  obtain rfl : u = Value.ref C := rx
  refine getmethsm_ok I1 r c fun s2 I2 => ?_
  refine PySem.W.callWith_K (h₀ := X.base) I2.ok.mod.kin c.kp (thn (ha.run pos pins s2 σ H1 _ I2 q) fun us s3 ⟨vs, H2, I3, rv, q2⟩ => ⟨I3.kIn, ?_⟩) hst hpl
  exact wpAny_call (run_fnR F hr hx I3 rv q2)
theorem pe_smeth0 (he : PE X o ta) (r : CRead X.K C mc) (c : SMet X.K C mc m p g) (F : FnR X.prog X.w X.K X.mg X.base CX k g sp) (hr : Room k X.A) (hx : Passes CX X E)
    (ht : eval (.Call (.Attribute o m apos) [] [] pos) X.env = (do
      let ov ← eval o X.env
      standAt apos.atName
      let (f, first) ← holding [ov] (getMethod ov m pl)
      callWith pos f first (backTo pos (starEach [] X.env)) (backToKw pos (keywordEach [] X.env))) := by rfl) :
    PE X (.Call (.Attribute o m apos) [] [] pos) (tSMeth C sp E ta tNil) := by
  refine ⟨fun pins s σ H Q I h => ?_⟩
  refine PySem.W.methodCall_KW (pl := pl) (thn (he.run pins s σ H _ I h) fun u s1 ⟨x, H1, I1, rx, ex, q⟩ => ?_) ht
  subst ex
  obtain rfl : u = Value.ref C := rx
  refine getmethsm_ok I1 r c fun s2 I2 => ?_
  exact PySem.W.callWith_K0 I2.kIn c.kp (wpAny_call (run_fnR (us := []) F hr hx I2 .nil q))
end
end NB
/-! NWh: what the top leaves, more of it: built-ins, properties, class methods, static methods. -/
namespace NB
open PySem L2 ClX
abbrev biL : List Str := ["int", "len", "abs", "list", "range", "isinstance", "repr", "str", "tuple", "iter", "bool"]
def biB (K : PySem.W.Frag) (xs : List Str) : Bool := (biL ++ xs).all fun x => decide (PySem.W.nsIn K mainGlobals x = some none)
theorem biB_at {K : PySem.W.Frag} {h : Heap} {mg : Str → Option Value} {xs : List Str} (X : K.In h) (G : h.Ns mainGlobals mg) (b : biB K xs = true) : ∀ x ∈ biL ++ xs, mg x = none :=
  fun x hx => PySem.W.mg_none_of X G (of_decide_eq_true (List.all_eq_true.mp b x hx))
theorem biB_ok {K : PySem.W.Frag} {h : Heap} {mg : Str → Option Value} {xs : List Str} (X : K.In h) (G : h.Ns mainGlobals mg) (b : biB K xs = true) : Bi mg := by
  have key : ∀ x ∈ biL, mg x = none := fun x hx => biB_at X G b x (List.mem_append_left _ hx)
  exact ⟨key _ (by decide), key _ (by decide), key _ (by decide), key _ (by decide), key _ (by decide), key _ (by decide), key _ (by decide), key _ (by decide), key _ (by decide), key _ (by decide), key _ (by decide)⟩
/-- a property -/
structure PropK (K : PySem.W.Frag) (C : Addr) (m qual : Str) (st : Stmt) (p f : Addr) (fd : FuncData) : Prop where
  pr : PropOf K C m p f
  F : Fun K m qual st f fd
theorem prop_mk {K : PySem.W.Frag} {C : Addr} {m qual : Str} {st : Stmt} {p f : Addr} {rest : List Value} {oc kV doc pm cdv ct : Value} {od an : Option Addr} {osl : Array (Option Value)} (a : PySem.W.findIn K (.ref C) m = some (some (.ref p)))
    (g : PySem.W.specialIn K (.ref p) "__get__" = some (some (.builtin "property.__get__"))) (t : PySem.W.takesIn K (.ref p) = some true) (r : PySem.W.recIn K p "property" = some (.ref f :: rest))
    (l : K.lookup f = some ⟨oc, od, .func (PySem.W.fnOf m qual (defArgs st) (defBody st) (defScope st) .none kV doc pm an cdv ct), osl⟩) (c : PySem.W.codeIn K cdv qual = true) (k : PySem.W.keepIn K (.ref f) = true) :
    PropK K C m qual st p f (PySem.W.fnOf m qual (defArgs st) (defBody st) (defScope st) .none kV doc pm an cdv ct) := ⟨⟨a, g, t, rest, r⟩, fun_mk l c k⟩
/-- a classmethod -/
structure CmK (K : PySem.W.Frag) (C : Addr) (m qual : Str) (st : Stmt) (p f : Addr) (fd : FuncData) : Prop where
  cm : CMet K C (.type "type") m p f
  F : Fun K m qual st f fd
theorem cm_mk {K : PySem.W.Frag} {C : Addr} {m qual : Str} {st : Stmt} {p f : Addr} {rest : List Value} {oc kV doc pm cdv ct : Value} {od an : Option Addr} {osl : Array (Option Value)} (a0 : PySem.W.findIn K (.ref C) m = some (some (.ref p)))
    (r : PySem.W.recIn K p "classmethod" = some (.ref f :: rest)) (a : PySem.W.findCls K (.ref C) (.type "type") m = some (.get (.builtin "classmethod.__get__") (.ref p) .none (.ref C))) (fi : PySem.W.fnIn K f = true)
    (l : K.lookup f = some ⟨oc, od, .func (PySem.W.fnOf m qual (defArgs st) (defBody st) (defScope st) .none kV doc pm an cdv ct), osl⟩) (c : PySem.W.codeIn K cdv qual = true) (k : PySem.W.keepIn K (.ref f) = true) :
    CmK K C m qual st p f (PySem.W.fnOf m qual (defArgs st) (defBody st) (defScope st) .none kV doc pm an cdv ct) := ⟨⟨a, ⟨rest, r⟩, fi⟩, fun_mk l c k⟩
/-- a static method -/
structure SmK (K : PySem.W.Frag) (C : Addr) (m qual : Str) (st : Stmt) (p f : Addr) (fd : FuncData) : Prop where
  sm : SMet K C (.type "type") m p f
  F : Fun K m qual st f fd
theorem sm_mk {K : PySem.W.Frag} {C : Addr} {m qual : Str} {st : Stmt} {p f : Addr} {rest : List Value} {oc kV doc pm cdv ct : Value} {od an : Option Addr} {osl : Array (Option Value)} (a0 : PySem.W.findIn K (.ref C) m = some (some (.ref p)))
    (r : PySem.W.recIn K p "staticmethod" = some (.ref f :: rest)) (a : PySem.W.findCls K (.ref C) (.type "type") m = some (.get (.builtin "staticmethod.__get__") (.ref p) .none (.ref C)))
    (l : K.lookup f = some ⟨oc, od, .func (PySem.W.fnOf m qual (defArgs st) (defBody st) (defScope st) .none kV doc pm an cdv ct), osl⟩) (c : PySem.W.codeIn K cdv qual = true) (k : PySem.W.keepIn K (.ref f) = true) :
    SmK K C m qual st p f (PySem.W.fnOf m qual (defArgs st) (defBody st) (defScope st) .none kV doc pm an cdv ct) := ⟨⟨a, ⟨rest, r⟩, k⟩, fun_mk l c k⟩
theorem raw0 {P : Program} {w : World} {K : PySem.W.Frag} {mg : Str → Option Value} {base : Heap} {CX : CXT} {k : Nat} {f : Addr} {sp : Sp} {fd : FuncData} {ps : List Str} (F : FnOk P w K mg base CX k f fd ps sp) (hb : Binds K fd ps []) : FnR P w K mg base CX k f sp := by
  have z := FnOk.raw F hb .nil
  simp only [List.append_nil] at z
  exact z
/-- a tuple of the module -/
def TupK (K : PySem.W.Frag) (a : Addr) (xs : List V) : Prop := ∃ (o : Obj) (its : Array Value) (n : Nat), K.lookup a = some o ∧ o.cls = .type "tuple" ∧ o.data = .seq its n ∧ its.size ≤ sizeLine ∧ Vals xs its.toList
theorem tup_mk {K : PySem.W.Frag} {a : Addr} {xs : List V} {oc : Value} {od : Option Addr} {its : Array Value} {n : Nat} {osl : Array (Option Value)} (l : K.lookup a = some ⟨oc, od, .seq its n, osl⟩) (c : oc = .type "tuple") (z : its.size ≤ sizeLine) (v : Vals xs its.toList) : TupK K a xs := ⟨_, its, n, l, c, rfl, z, v⟩
/-- the class is read plainly -/
def crB (K : PySem.W.Frag) (C : Addr) : Bool := PySem.W.readsIn K C (.type "type") && decide (PySem.W.specialIn K (.ref C) "__getattribute__" = some (some (.builtin "type.__getattribute__")))
theorem crB_ok {K : PySem.W.Frag} {C : Addr} (h : crB K C = true) : CRead K C (.type "type") := by
  unfold crB at h
  simp only [Bool.and_eq_true, decide_eq_true_eq] at h
  exact ⟨h.1, h.2⟩
/-- two tables of lambdas, or more: each bears its own name -/
theorem tab_own {T : List (Addr × Str)} {a : Addr} {q : Str} (h : T.all (fun p => decide (p.1 = a → p.2 = q)) = true) : ∀ p ∈ T, p.1 = a → p.2 = q := fun p hp => of_decide_eq_true (List.all_eq_true.mp h p hp)
end NB
/-! NHk0: the end by facts: a Hook whose facts are truth functions of the part that is kept; nothing of the top is written out. -/
namespace NB
open PySem L2 ClX
/-! ### functions -/
abbrev FnT : Type := Option (Str × Str × Arguments × FuncBody × Scope × Addr × Addr)
def fnT (K : PySem.W.Frag) (f : Addr) : FnT := match K.lookup f with
  | some ⟨_, _, .func fd, _⟩ => some (fd.name, fd.qualname, fd.params, fd.body, fd.scope, fd.globals, fd.builtins)
  | _ => none
def valT (x q : Str) (st : Stmt) : FnT := some (x, q, defArgs st, .stmts (defBody st), defScope st, mainGlobals, builtinsNs)
/-- a plain def's other parts -/
def fnB (K : PySem.W.Frag) (f : Addr) (q : Str) : Bool := (match K.lookup f with
  | some ⟨_, _, .func fd, _⟩ => PySem.W.codeIn K fd.code q && ((match fd.closure with | [] => true | _ => false) && (match fd.defaults with | .none => true | _ => false))
  | _ => false) && PySem.W.keepIn K (.ref f)
def vsB : List V → List Value → Bool
  | [], [] => true
  | v :: vs, u :: us => He.relB v u && vsB vs us
  | _, _ => false
theorem vsB_ok : ∀ {vs : List V} {us : List Value}, vsB vs us = true → Vals vs us
  | [], [], _ => .nil
  | v :: vs, u :: us, h => by
    obtain ⟨a, b⟩ := Bool.and_eq_true_iff.mp h
    exact .cons (He.relB_ok a) (vsB_ok b)
  | [], _ :: _, h => nomatch h
  | _ :: _, [], h => nomatch h
def fnDB (K : PySem.W.Frag) (f : Addr) (q : Str) (dvs : List V) : Bool := (match K.lookup f with
  | some ⟨_, _, .func fd, _⟩ => PySem.W.codeIn K fd.code q && ((match fd.closure with | [] => true | _ => false) && (match fd.defaults with
    | .ref T => (match K.lookup T with
      | some ⟨_, _, .seq its _, _⟩ => vsB dvs its.toList
      | _ => false)
    | _ => false))
  | _ => false) && (PySem.W.keepIn K (.ref f) && !dvs.isEmpty)
/-! ### tuples, integers -/
def tupB (K : PySem.W.Frag) (a : Addr) (xs : List V) : Bool := match K.lookup a with
  | some ⟨.type T, _, .seq its _, _⟩ => decide (T = "tuple") && (decide (its.size ≤ 1000) && vsB xs its.toList)
  | _ => false
def nsB (K : PySem.W.Frag) (x : Str) (a : Addr) : Bool := decide (PySem.W.nsIn K mainGlobals x = some (some (.ref a)))
theorem nsB_ok {K : PySem.W.Frag} {x : Str} {a : Addr} (h : nsB K x a = true) : PySem.W.nsIn K mainGlobals x = some (some (.ref a)) := of_decide_eq_true h
def intB (K : PySem.W.Frag) (x : Str) (i : Int) : Bool := (He.Fa.int x i).ok K
theorem intB_ok {K : PySem.W.Frag} {h : Heap} {mg : Str → Option Value} (X : K.In h) (G : h.Ns mainGlobals mg) {x : Str} {i : Int} (c : intB K x i = true) : ∃ t, mg x = some (.int i t) := He.int_ok X G c
def fiB (K : PySem.W.Frag) (C : Addr) (m : Str) (a : Addr) : Bool := decide (PySem.W.findIn K (.ref C) m = some (some (.ref a)))
theorem fiB_ok {K : PySem.W.Frag} {C a : Addr} {m : Str} (h : fiB K C m a = true) : PySem.W.findIn K (.ref C) m = some (some (.ref a)) := of_decide_eq_true h
/-- the def in a record -/
def rf (K : PySem.W.Frag) (p : Addr) (kd : String) : Addr := match PySem.W.recIn K p kd with
  | some (.ref f :: _) => f
  | _ => 0
def recB (K : PySem.W.Frag) (p : Addr) (kd : String) : Bool := match PySem.W.recIn K p kd with
  | some (.ref _ :: _) => true
  | _ => false
theorem recB_ok {K : PySem.W.Frag} {p : Addr} {kd : String} (h : recB K p kd = true) : ∃ rest, PySem.W.recIn K p kd = some (.ref (rf K p kd) :: rest) := by
  unfold recB at h
  unfold rf
  split at h
  · rename_i f rest z
    rw [z]
    exact ⟨rest, rfl⟩
  · cases h
def gotB (K : PySem.W.Frag) (C p : Addr) (m : Str) (g : String) : Bool := match PySem.W.findCls K (.ref C) (.type "type") m with
  | some (.get (.builtin n) (.ref p') .none (.ref C')) => decide (n = g) && (decide (p' = p) && decide (C' = C))
  | _ => false
theorem gotB_ok {K : PySem.W.Frag} {C p : Addr} {m : Str} {g : String} (h : gotB K C p m g = true) : PySem.W.findCls K (.ref C) (.type "type") m = some (.get (.builtin g) (.ref p) .none (.ref C)) := by
  unfold gotB at h
  split at h
  · rename_i n p' C' z
    simp only [Bool.and_eq_true, decide_eq_true_eq] at h
    obtain ⟨rfl, rfl, rfl⟩ := h
    exact z
  · cases h
def propB (K : PySem.W.Frag) (C : Addr) (m : Str) (p : Addr) : Bool := fiB K C m p && (decide (PySem.W.specialIn K (.ref p) "__get__" = some (some (.builtin "property.__get__"))) && (decide (PySem.W.takesIn K (.ref p) = some true) && recB K p "property"))
def smB (K : PySem.W.Frag) (C : Addr) (m : Str) (p : Addr) : Bool := recB K p "staticmethod" && gotB K C p m "staticmethod.__get__"
def cmB (K : PySem.W.Frag) (C : Addr) (m : Str) (p : Addr) : Bool := recB K p "classmethod" && (gotB K C p m "classmethod.__get__" && PySem.W.fnIn K (rf K p "classmethod"))
def methB (K : PySem.W.Frag) (C : Addr) (m : Str) (f : Addr) : Bool := fiB K C m f && PySem.W.isFn K (.ref f)
/-- the class of an error -/
def excSB (K : PySem.W.Frag) (C : Addr) : Bool := match K.lookup C with
  | some ⟨.type T, _, .cls cd, sl⟩ => decide (T = "type") && (match cd.mro, sl.toList with
    | .ref D :: bm, [_, _, _, _, some (.builtin n), _] => decide (D = C) && (decide (n = "ValueError.__new__") && (PySem.HandSPX.refsVE bm && (!cd.hasDel && cd.hasDict)))
    | _, _ => false)
  | _ => false
theorem excSB_ok {K : PySem.W.Frag} {C : Addr} (h : excSB K C = true) : ∃ nm q N bs bm sn sub ab col dd k0 k1 k2 k3 k5, K.lookup C = some (excClassObj nm q C N bs bm true sn sub ab col dd k0 k1 k2 k3 k5 "ValueError.__new__") ∧ PySem.HandSPX.refsVE bm = true := by
  unfold excSB at h
  split at h
  · rename_i T dd cd sl z
    obtain ⟨h0, h⟩ := Bool.and_eq_true_iff.mp h
    split at h
    · rename_i D bm k0 k1 k2 k3 n k5 em es
      simp only [Bool.and_eq_true, decide_eq_true_eq, Bool.not_eq_true'] at h
      obtain ⟨rfl, rfl, h3, h4, h5⟩ := h
      obtain rfl := of_decide_eq_true h0
      obtain ⟨c1, c2, c3, c4, c5, c6, c7, c8, c9, c10, c11⟩ := cd
      dsimp only at em h4 h5
      subst em h4 h5
      obtain ⟨sl⟩ := sl
      dsimp only at es
      subst es
      exact ⟨_, _, _, _, bm, _, _, _, _, dd, k0, k1, k2, k3, k5, z, h3⟩
    · cases h
  · cases h
def erB (K : PySem.W.Frag) (x : Str) (fl : List Str) (C f : Addr) : Bool := nsB K x C && (excSB K C && (fiB K C "__init__" f && (decide (PySem.W.typeIn K (.ref f) = some (.type "function")) && errB K C fl)))
/-- the i-th default of the def at f -/
def dfA (K : PySem.W.Frag) (f : Addr) (i : Nat) : Addr := match K.lookup f with
  | some ⟨_, _, .func fd, _⟩ => (match fd.defaults with
    | .ref T => (match K.lookup T with
      | some ⟨_, _, .seq its _, _⟩ => (match its.toList[i]? with
        | some (.ref a) => a
        | _ => 0)
      | _ => 0)
    | _ => 0)
  | _ => 0
/-! ### the Hook -/
/-- the part at written addresses, its list made first -/
def frK {α : Type} (g : Addr → Option Obj) : List Addr → PySem.W.Frag → (PySem.W.Frag → α) → α
  | [], acc, k => k acc
  | a :: r, acc, k => match g a with
    | some o => frK g r ((a, o) :: acc) k
    | none => frK g r acc k
theorem frK_in {h : Heap} : ∀ {as : List Addr} {acc : PySem.W.Frag}, acc.In h → ∃ K : PySem.W.Frag, K.In h ∧ ∀ {α : Type} (k : PySem.W.Frag → α), frK h.get? as acc k = k K
  | [], acc, X => ⟨acc, X, fun _ => rfl⟩
  | a :: r, acc, X => by
    cases e : h.get? a with
    | none =>
      obtain ⟨K, q, z⟩ := frK_in (as := r) X
      refine ⟨K, q, fun k => ?_⟩
      rw [← z k]
      unfold frK
      rw [e]
      cases r <;> rfl
    | some o =>
      have X2 : PySem.W.Frag.In ((a, o) :: acc) h := fun b o' z => by
        rw [List.lookup_cons] at z
        cases q : b == a with
        | true =>
          rw [q] at z
          cases z
          rw [beq_iff_eq.mp q]
          exact e
        | false =>
          rw [q] at z
          exact X b o' z
      obtain ⟨K, q, z⟩ := frK_in (as := r) X2
      refine ⟨K, q, fun k => ?_⟩
      rw [← z k]
      show (match h.get? a with | some o => frK h.get? r ((a, o) :: acc) k | none => frK h.get? r acc k) = _
      rw [e]
abbrev AlB : Type := Bool × List FnT
def obsB (fs : List (PySem.W.Frag → Bool)) (fns : List (PySem.W.Frag → Addr)) (K : PySem.W.Frag) : AlB := (fs.all fun f => f K, fns.map fun f => fnT K (f K))
def SaysB (fs : List (PySem.W.Frag → Bool)) (fns : List (PySem.W.Frag → Addr)) (vs : List FnT) (K : PySem.W.Frag) : Prop := obsB fs fns K = (true, vs)
def obsBG (as : List Addr) (fs : List (PySem.W.Frag → Bool)) (fns : List (PySem.W.Frag → Addr)) (g : Addr → Option Obj) : AlB := frK g as [] (obsB fs fns)
def hookB (as : List Addr) (fs : List (PySem.W.Frag → Bool)) (fns : List (PySem.W.Frag → Addr)) (vs : List FnT) : PySem.W.Hook where
  α := AlB
  obs := fun s => obsBG as fs fns s.heap.get?
  val := fun _ => (true, vs)
  says := fun _ h => ∃ K : PySem.W.Frag, K.In h ∧ SaysB fs fns vs K
  of := fun _ _ e => by
    obtain ⟨K, X, q⟩ := frK_in (as := as) (acc := []) (fun _ _ z => nomatch z)
    exact ⟨K, X, (q (obsB fs fns)).symm.trans e⟩
  keeps := fun _ _ _ ⟨K, hK, c⟩ k => ⟨K, PySem.W.Frag.In.keeps hK k, c⟩
theorem obsBG_eq {as : List Addr} {fs : List (PySem.W.Frag → Bool)} {fns : List (PySem.W.Frag → Addr)} {vs : List FnT} (s : PySem.W.SharedT) : obsBG as fs fns (HandSHeadRun.getT s) = (hookB as fs fns vs).obs s.abs := by
  have e : HandSHeadRun.getT s = s.abs.heap.get? := funext (HandSHeadRun.getT_eq s)
  rw [e]
  rfl
/-- the run once more, for further facts -/
def RunOb (r : PySem.W.OpenRow) (M : Nat) (as : List Addr) (fs : List (PySem.W.Frag → Bool)) (fns : List (PySem.W.Frag → Addr)) (vs : List FnT) (w : World) : Prop :=
  ∀ os : OsState, (HandSHeadRun.endF (HandSHeadRun.stepQ (HandSHeadRun.denQ HandSHeadRun.tabQ) r.prog w) M r.prog w os).map (fun s => obsBG as fs fns (HandSHeadRun.getT s)) = some (true, vs)
theorem run_two {r : PySem.W.OpenRow} {q : Program} {M : Nat} {loose : List Str} {as : List Addr} {fs1 fs2 : List (PySem.W.Frag → Bool)} {fn1 fn2 : List (PySem.W.Frag → Addr)} {vs1 vs2 : List FnT} {w : World}
    (a : HandSHeadRun.RunEq r q (hookB as fs1 fn1 vs1) (fun s => obsBG as fs1 fn1 (HandSHeadRun.getT s)) M loose w) (b : RunOb r M as fs2 fn2 vs2 w) :
    HandSHeadRun.RunEq r q (hookB as (fs1 ++ fs2) (fn1 ++ fn2) (vs1 ++ vs2)) (fun s => obsBG as (fs1 ++ fs2) (fn1 ++ fn2) (HandSHeadRun.getT s)) M loose w := by
  intro os
  obtain ⟨s, es, e1⟩ := Option.map_eq_some_iff.mp (a os)
  obtain ⟨s', es', e2⟩ := Option.map_eq_some_iff.mp (b os)
  rw [es] at es'
  cases es'
  rw [es]
  have l1 := congrArg (fun z => z.1) e1
  have l2 := congrArg (fun z => z.2.1) e1
  have l3 := congrArg (fun z => z.2.2) e1
  have eg : HandSHeadRun.getT s = s.abs.heap.get? := funext (HandSHeadRun.getT_eq s)
  obtain ⟨K, X, z⟩ := frK_in (h := s.abs.heap) (as := as) (acc := []) (fun _ _ z => nomatch z)
  have l3 : obsB fs1 fn1 K = (true, vs1) := by
    rw [← z (obsB fs1 fn1), ← eg]
    exact l3
  have e2 : obsB fs2 fn2 K = (true, vs2) := by
    rw [← z (obsB fs2 fn2), ← eg]
    exact e2
  have l4 : obsBG as (fs1 ++ fs2) (fn1 ++ fn2) (HandSHeadRun.getT s) = (true, vs1 ++ vs2) := by
    unfold obsBG
    rw [eg, z]
    unfold obsB at l3 e2 ⊢
    simp only [Prod.mk.injEq] at l3 e2
    rw [List.all_append, List.map_append, l3.1, l3.2, e2.1, e2.2]
    rfl
  exact congrArg some (Prod.ext l1 (Prod.ext l2 l4))
section
variable {fs : List (PySem.W.Frag → Bool)} {fns : List (PySem.W.Frag → Addr)} {vs : List FnT} {K : PySem.W.Frag}
theorem SaysB.fact (c : SaysB fs fns vs K) (i : Nat) {f : PySem.W.Frag → Bool} (h : fs[i]? = some f) : f K = true :=
  List.all_eq_true.mp (congrArg (fun z : AlB => z.1) c) f (List.mem_of_getElem? h)
theorem SaysB.fn (c : SaysB fs fns vs K) (i : Nat) {f : PySem.W.Frag → Addr} {v : FnT} (h : fns[i]? = some f) (hv : vs[i]? = some v) : fnT K (f K) = v := by
  have e : fns.map (fun f => fnT K (f K)) = vs := congrArg (fun z : AlB => z.2) c
  rw [← e, List.getElem?_map, h] at hv
  exact Option.some.inj hv
end
/-- a law over such a head -/
theorem walk_ofGE {l : PySem.W.OpenLaw} {n k : Nat} {q : Program} {loose : List Str} {XP : (Str → Option Value) → Heap → Prop} {YP : World → Heap → Prop} {d : DefRec} {x : Str}
    (hn : l.most = some n) (hn2 : n ≤ sizeLine) (hdf : d.params.defaults = []) (hr : Room k callerA)
    (F : ∀ (w : World) (mg : Str → Option Value) (fa : Addr) (h : Heap), YP w h → h.Ns mainGlobals mg → mg d.name = some (.ref fa) → ∃ K : PySem.W.Frag, K.In h ∧ LawAtG l w K k n x mg fa h) :
    PySem.W.WalkO q loose XP YP l.row.toRowW d [] (fun f vs => PySem.call f vs) := by
  refine Att.attach_call hn hdf ?_
  intro w s₀ s₁ mg mb fa o pm cd doc a vs ns G Y ho hd hcd hmg hobj hints hlen hg
  obtain ⟨K, KX, fd, cs, sp, hT, nT, C, hb, hsp, hF⟩ := F w mg fa _ Y G.T.g hmg
  exact law_callTG KX G.T.g G.T.b G.T.builtins G.T.nolimit hg hT nT C G.T.bmain hobj hints (Nat.le_trans hlen hn2) hr hF hb (fun H hH hS => hsp H a ns hlen hH hS)
end NB
/-! NRo: truth functions of the kept part: methods with super(), classes of rules. -/
namespace NB
open PySem L2 ClX
def fnSB (K : PySem.W.Frag) (P : Program) (f : Addr) (q : Str) (D : Addr) : Bool := (match K.lookup f with
  | some ⟨_, _, .func fd, _⟩ => PySem.W.codeIn K fd.code q && ((match fd.defaults with | .none => true | _ => false) && ((match fd.closure with
    | [(n, cc)] => decide (n = "__class__") && (match K.lookup cc with
      | some ⟨_, _, .cell (some (.ref D')), _⟩ => decide (D' = D)
      | _ => false)
    | _ => false) && (match fd.code with
    | .ref c => (match K.lookup c with
      | some ⟨_, _, .fields vs, _⟩ => (match (vs[2]? : Option Value) with
        | some (Value.str file _) => ((P.main.file : Str) == file)
        | _ => false)
      | _ => false)
    | _ => false)))
  | _ => false) && (PySem.W.keepIn K (.ref f) && !(P.main.scope.names.lookup ("super" : Str)).isSome)
/-- super()'s find -/
def supB (K : PySem.W.Frag) (C D : Addr) (m : Str) (f : Addr) : Bool := decide (PySem.W.mroIn K C (.ref D) = some true) && decide (PySem.W.ks_superIn K C D m = some (some (.ref f)))
/-- a class of rules: the base, its word -/
def wordB (K : PySem.W.Frag) (R C : Addr) (wd : Str) : Bool := decide (PySem.W.kitOne K (.ref C) (.ref R) = some true) &&
  (match PySem.W.findIn K (.ref C) "WORD" with | some (some (.str z t)) => decide (z = wd) && decide (PySem.W.specialIn K (.str z t) "__get__" = some none) | _ => false)
def neB (K : PySem.W.Frag) (C : Addr) : Bool := decide (PySem.W.findIn K (.ref C) "__ne__" = some (some (.builtin "object.__ne__")))
def fnsB (K : PySem.W.Frag) (fs : List Addr) : Bool := fs.all fun f => PySem.W.fnIn K f
abbrev oT7 : List String := ["NoneType", "bool", "int", "str", "tuple", "list", "dict"]
/-- the five simple classes, numbered -/
def rulB18 (K : PySem.W.Frag) (R KD KN KL Cd Cl : Addr) (cs : List (Addr × Nat)) : Bool :=
  (cs.all fun x => (cs.all fun y => PySem.W.notFirst K x.1 (.ref y.1) && decide (PySem.W.kitOne K (.ref x.1) (.ref y.1) = some (decide (x.2 = y.2)))) && ((oT7.all fun t => PySem.W.notFirst K x.1 (.type t)) && (PySem.W.notFirst K x.1 (.ref Cd) && (PySem.W.notFirst K x.1 (.ref Cl) &&
    (decide (PySem.W.kitOne K (.ref x.1) (.ref KD) = some (decide (x.2 < 4))) && (decide (PySem.W.kitOne K (.ref x.1) (.ref KN) = some (decide (x.2 = 2) || decide (x.2 = 3))) && decide (PySem.W.kitOne K (.ref x.1) (.ref KL) = some (decide (x.2 = 4))))))))) &&
  ((oT7.all fun t => decide (PySem.W.kitOne K (.type t) (.ref R) = some false)) && (decide (PySem.W.kitOne K (.ref Cd) (.ref R) = some false) && decide (PySem.W.kitOne K (.ref Cl) (.ref R) = some false)))
/-- an integer of a class -/
def cvIB (K : PySem.W.Frag) (C : Addr) (m : Str) (i : Int) : Bool := match PySem.W.findCls K (.ref C) (.type "type") m with
  | some (.val (.int j _)) => decide (j = i)
  | _ => false
end NB
/-! the facts that the law leans on; the top's run, seen in parts -/
namespace NB
open PySem L2 ClX
abbrev tR (i : Nat) : Stmt := PySem.Challenge.pw_nodeadnight_k18_simple_rules_called.main.body.getD i (.Pass ⟨0, 0, 0, 0⟩)
def fs18_0 : List (PySem.W.Frag → Bool) := [
  fun K => erB K "BadLengths" ["part"] (He.ga K "BadLengths") (He.ma K (He.ga K "BadLengths") "__init__"),
  fun K => fnB K (He.ma K (He.ga K "BadLengths") "__init__") "BadLengths.__init__",
  fun K => erB K "BadCount" ["value"] (He.ga K "BadCount") (He.ma K (He.ga K "BadCount") "__init__"),
  fun K => fnB K (He.ma K (He.ga K "BadCount") "__init__") "BadCount.__init__",
  fun K => erB K "TooMany" ["what", "most"] (He.ga K "TooMany") (He.ma K (He.ga K "TooMany") "__init__"),
  fun K => fnB K (He.ma K (He.ga K "TooMany") "__init__") "TooMany.__init__",
  fun K => erB K "BadDays" ["part"] (He.ga K "BadDays") (He.ma K (He.ga K "BadDays") "__init__"),
  fun K => fnB K (He.ma K (He.ga K "BadDays") "__init__") "BadDays.__init__",
  fun K => erB K "BadStay" ["part"] (He.ga K "BadStay") (He.ma K (He.ga K "BadStay") "__init__"),
  fun K => fnB K (He.ma K (He.ga K "BadStay") "__init__") "BadStay.__init__",
  fun K => erB K "BadRule" ["part"] (He.ga K "BadRule") (He.ma K (He.ga K "BadRule") "__init__"),
  fun K => fnB K (He.ma K (He.ga K "BadRule") "__init__") "BadRule.__init__",
  fun K => nsB K "Rule" (He.ga K "Rule"),
  fun K => nsB K "DayRule" (He.ga K "DayRule"),
  fun K => nsB K "NightRule" (He.ga K "NightRule"),
  fun K => nsB K "LengthRule" (He.ga K "LengthRule"),
  fun K => nsB K "Lengths" (He.ga K "Lengths"),
  fun K => clsB K (He.ga K "Lengths") ["form"],
  fun K => nsB K "Days" (He.ga K "Days"),
  fun K => clsB K (He.ga K "Days") ["form"],
  fun K => nsB K "Stay" (He.ga K "Stay"),
  fun K => clsB K (He.ga K "Stay") ["first", "after", "nights"],
  fun K => nsB K "Comes" (He.ga K "Comes"),
  fun K => clsB K (He.ga K "Comes") ["text", "own_size", "periods", "sets", "days", "lengths", "one", "other", "rule"],
  fun K => nsB K "Goes" (He.ga K "Goes"),
  fun K => clsB K (He.ga K "Goes") ["text", "own_size", "periods", "sets", "days", "lengths", "one", "other", "rule"],
  fun K => nsB K "Holds" (He.ga K "Holds"),
  fun K => clsB K (He.ga K "Holds") ["text", "own_size", "periods", "sets", "days", "lengths", "one", "other", "rule"],
  fun K => nsB K "Within" (He.ga K "Within"),
  fun K => clsB K (He.ga K "Within") ["text", "own_size", "periods", "sets", "days", "lengths", "one", "other", "rule"],
  fun K => nsB K "Lasts" (He.ga K "Lasts"),
  fun K => clsB K (He.ga K "Lasts") ["text", "own_size", "periods", "sets", "days", "lengths", "one", "other", "rule"],
  fun K => methB K (He.ga K "Lengths") "__init__" (He.ma K (He.ga K "Lengths") "__init__"),
  fun K => fnDB K (He.ma K (He.ga K "Lengths") "__init__") "Lengths.__init__" [.ref (dfA K (He.ma K (He.ga K "Lengths") "__init__") 0), .int 1, .ref (dfA K (He.ma K (He.ga K "Lengths") "__init__") 2)],
  fun K => methB K (He.ga K "Lengths") "__eq__" (He.ma K (He.ga K "Lengths") "__eq__"),
  fun K => fnB K (He.ma K (He.ga K "Lengths") "__eq__") "Lengths.__eq__"]
def fn18_0 : List (PySem.W.Frag → Addr) := [
  fun K => (He.ma K (He.ga K "BadLengths") "__init__"),
  fun K => (He.ma K (He.ga K "BadCount") "__init__"),
  fun K => (He.ma K (He.ga K "TooMany") "__init__"),
  fun K => (He.ma K (He.ga K "BadDays") "__init__"),
  fun K => (He.ma K (He.ga K "BadStay") "__init__"),
  fun K => (He.ma K (He.ga K "BadRule") "__init__"),
  fun K => (He.ma K (He.ga K "Lengths") "__init__"),
  fun K => (He.ma K (He.ga K "Lengths") "__eq__"),
  fun K => (He.ma K (He.ga K "Lengths") "__contains__"),
  fun K => (He.ma K (He.ga K "Lengths") "__str__"),
  fun K => (He.ma K (He.ga K "Days") "__init__"),
  fun K => (rf K (He.ma K (He.ga K "Days") "period") "property"),
  fun K => (He.ma K (He.ga K "Days") "__contains__")]
def vs18_0 : List FnT := [
  valT "__init__" "BadLengths.__init__" (inClass (tR 16) 0),
  valT "__init__" "BadCount.__init__" (inClass (tR 20) 0),
  valT "__init__" "TooMany.__init__" (inClass (tR 23) 0),
  valT "__init__" "BadDays.__init__" (inClass (tR 17) 0),
  valT "__init__" "BadStay.__init__" (inClass (tR 18) 0),
  valT "__init__" "BadRule.__init__" (inClass (tR 19) 0),
  valT "__init__" "Lengths.__init__" (inClass (tR 40) 1),
  valT "__eq__" "Lengths.__eq__" (inClass (tR 40) 27),
  valT "__contains__" "Lengths.__contains__" (inClass (tR 40) 18),
  valT "__str__" "Lengths.__str__" (inClass (tR 40) 29),
  valT "__init__" "Days.__init__" (inClass (tR 54) 1),
  valT "period" "Days.period" (inClass (tR 54) 6),
  valT "__contains__" "Days.__contains__" (inClass (tR 54) 9)]
def fs18_1 : List (PySem.W.Frag → Bool) := [
  fun K => methB K (He.ga K "Lengths") "__contains__" (He.ma K (He.ga K "Lengths") "__contains__"),
  fun K => fnB K (He.ma K (He.ga K "Lengths") "__contains__") "Lengths.__contains__",
  fun K => methB K (He.ga K "Lengths") "__str__" (He.ma K (He.ga K "Lengths") "__str__"),
  fun K => fnB K (He.ma K (He.ga K "Lengths") "__str__") "Lengths.__str__",
  fun K => methB K (He.ga K "Days") "__init__" (He.ma K (He.ga K "Days") "__init__"),
  fun K => fnB K (He.ma K (He.ga K "Days") "__init__") "Days.__init__",
  fun K => propB K (He.ga K "Days") "period" (He.ma K (He.ga K "Days") "period"),
  fun K => fnB K (rf K (He.ma K (He.ga K "Days") "period") "property") "Days.period",
  fun K => methB K (He.ga K "Days") "__contains__" (He.ma K (He.ga K "Days") "__contains__"),
  fun K => fnB K (He.ma K (He.ga K "Days") "__contains__") "Days.__contains__",
  fun K => methB K (He.ga K "Days") "__eq__" (He.ma K (He.ga K "Days") "__eq__"),
  fun K => fnB K (He.ma K (He.ga K "Days") "__eq__") "Days.__eq__",
  fun K => methB K (He.ga K "Days") "__str__" (He.ma K (He.ga K "Days") "__str__"),
  fun K => fnB K (He.ma K (He.ga K "Days") "__str__") "Days.__str__",
  fun K => methB K (He.ga K "Stay") "__init__" (He.ma K (He.ga K "Stay") "__init__"),
  fun K => fnB K (He.ma K (He.ga K "Stay") "__init__") "Stay.__init__",
  fun K => methB K (He.ga K "Stay") "__len__" (He.ma K (He.ga K "Stay") "__len__"),
  fun K => fnB K (He.ma K (He.ga K "Stay") "__len__") "Stay.__len__",
  fun K => methB K (He.ga K "Rule") "__init__" (He.ma K (He.ga K "Rule") "__init__"),
  fun K => fnB K (He.ma K (He.ga K "Rule") "__init__") "Rule.__init__",
  fun K => methB K (He.ga K "Comes") "__init__" (He.ma K (He.ga K "Comes") "__init__"),
  fun K => fnSB K (PySem.W.OpenLaw.row PySem.Challenge.rw_nodeadnight_k18_simple_rules_called).prog (He.ma K (He.ga K "Comes") "__init__") "DayRule.__init__" (He.ga K "DayRule"),
  fun K => methB K (He.ga K "Comes") "__eq__" (He.ma K (He.ga K "Comes") "__eq__"),
  fun K => fnB K (He.ma K (He.ga K "Comes") "__eq__") "Rule.__eq__",
  fun K => methB K (He.ga K "Comes") "__str__" (He.ma K (He.ga K "Comes") "__str__"),
  fun K => fnB K (He.ma K (He.ga K "Comes") "__str__") "Rule.__str__",
  fun K => methB K (He.ga K "Comes") "__call__" (He.ma K (He.ga K "Comes") "__call__"),
  fun K => fnB K (He.ma K (He.ga K "Comes") "__call__") "Rule.__call__",
  fun K => propB K (He.ga K "Comes") "size" (He.ma K (He.ga K "Comes") "size"),
  fun K => fnB K (rf K (He.ma K (He.ga K "Comes") "size") "property") "Rule.size",
  fun K => methB K (He.ga K "Comes") "lets_nights" (He.ma K (He.ga K "Comes") "lets_nights"),
  fun K => fnB K (He.ma K (He.ga K "Comes") "lets_nights") "Comes.lets_nights",
  fun K => methB K (He.ga K "Goes") "__init__" (He.ma K (He.ga K "Goes") "__init__"),
  fun K => fnSB K (PySem.W.OpenLaw.row PySem.Challenge.rw_nodeadnight_k18_simple_rules_called).prog (He.ma K (He.ga K "Goes") "__init__") "DayRule.__init__" (He.ga K "DayRule"),
  fun K => methB K (He.ga K "Goes") "__eq__" (He.ma K (He.ga K "Goes") "__eq__"),
  fun K => fnB K (He.ma K (He.ga K "Goes") "__eq__") "Rule.__eq__"]
def fn18_1 : List (PySem.W.Frag → Addr) := [
  fun K => (He.ma K (He.ga K "Days") "__eq__"),
  fun K => (He.ma K (He.ga K "Days") "__str__"),
  fun K => (He.ma K (He.ga K "Stay") "__init__"),
  fun K => (He.ma K (He.ga K "Stay") "__len__"),
  fun K => (He.ma K (He.ga K "Rule") "__init__"),
  fun K => (He.ma K (He.ga K "Comes") "__init__"),
  fun K => (He.ma K (He.ga K "Comes") "__eq__"),
  fun K => (He.ma K (He.ga K "Comes") "__str__"),
  fun K => (He.ma K (He.ga K "Comes") "__call__"),
  fun K => (rf K (He.ma K (He.ga K "Comes") "size") "property"),
  fun K => (He.ma K (He.ga K "Comes") "lets_nights"),
  fun K => (He.ma K (He.ga K "Goes") "__init__"),
  fun K => (He.ma K (He.ga K "Goes") "__eq__")]
def vs18_1 : List FnT := [
  valT "__eq__" "Days.__eq__" (inClass (tR 54) 20),
  valT "__str__" "Days.__str__" (inClass (tR 54) 22),
  valT "__init__" "Stay.__init__" (inClass (tR 26) 1),
  valT "__len__" "Stay.__len__" (inClass (tR 26) 4),
  valT "__init__" "Rule.__init__" (inClass (tR 59) 2),
  valT "__init__" "DayRule.__init__" (inClass (tR 60) 0),
  valT "__eq__" "Rule.__eq__" (inClass (tR 59) 10),
  valT "__str__" "Rule.__str__" (inClass (tR 59) 11),
  valT "__call__" "Rule.__call__" (inClass (tR 59) 5),
  valT "size" "Rule.size" (inClass (tR 59) 3),
  valT "lets_nights" "Comes.lets_nights" (inClass (tR 63) 1),
  valT "__init__" "DayRule.__init__" (inClass (tR 60) 0),
  valT "__eq__" "Rule.__eq__" (inClass (tR 59) 10)]
def fs18_2 : List (PySem.W.Frag → Bool) := [
  fun K => methB K (He.ga K "Goes") "__str__" (He.ma K (He.ga K "Goes") "__str__"),
  fun K => fnB K (He.ma K (He.ga K "Goes") "__str__") "Rule.__str__",
  fun K => methB K (He.ga K "Goes") "__call__" (He.ma K (He.ga K "Goes") "__call__"),
  fun K => fnB K (He.ma K (He.ga K "Goes") "__call__") "Rule.__call__",
  fun K => propB K (He.ga K "Goes") "size" (He.ma K (He.ga K "Goes") "size"),
  fun K => fnB K (rf K (He.ma K (He.ga K "Goes") "size") "property") "Rule.size",
  fun K => methB K (He.ga K "Goes") "lets_nights" (He.ma K (He.ga K "Goes") "lets_nights"),
  fun K => fnB K (He.ma K (He.ga K "Goes") "lets_nights") "Goes.lets_nights",
  fun K => methB K (He.ga K "Holds") "__init__" (He.ma K (He.ga K "Holds") "__init__"),
  fun K => fnSB K (PySem.W.OpenLaw.row PySem.Challenge.rw_nodeadnight_k18_simple_rules_called).prog (He.ma K (He.ga K "Holds") "__init__") "DayRule.__init__" (He.ga K "DayRule"),
  fun K => methB K (He.ga K "Holds") "__eq__" (He.ma K (He.ga K "Holds") "__eq__"),
  fun K => fnB K (He.ma K (He.ga K "Holds") "__eq__") "Rule.__eq__",
  fun K => methB K (He.ga K "Holds") "__str__" (He.ma K (He.ga K "Holds") "__str__"),
  fun K => fnB K (He.ma K (He.ga K "Holds") "__str__") "Rule.__str__",
  fun K => methB K (He.ga K "Holds") "__call__" (He.ma K (He.ga K "Holds") "__call__"),
  fun K => fnB K (He.ma K (He.ga K "Holds") "__call__") "Rule.__call__",
  fun K => propB K (He.ga K "Holds") "size" (He.ma K (He.ga K "Holds") "size"),
  fun K => fnB K (rf K (He.ma K (He.ga K "Holds") "size") "property") "Rule.size",
  fun K => methB K (He.ga K "Holds") "lets_nights" (He.ma K (He.ga K "Holds") "lets_nights"),
  fun K => fnB K (He.ma K (He.ga K "Holds") "lets_nights") "Holds.lets_nights",
  fun K => methB K (He.ga K "Holds") "marks" (He.ma K (He.ga K "Holds") "marks"),
  fun K => fnB K (He.ma K (He.ga K "Holds") "marks") "NightRule.marks",
  fun K => methB K (He.ga K "Within") "__init__" (He.ma K (He.ga K "Within") "__init__"),
  fun K => fnSB K (PySem.W.OpenLaw.row PySem.Challenge.rw_nodeadnight_k18_simple_rules_called).prog (He.ma K (He.ga K "Within") "__init__") "DayRule.__init__" (He.ga K "DayRule"),
  fun K => methB K (He.ga K "Within") "__eq__" (He.ma K (He.ga K "Within") "__eq__"),
  fun K => fnB K (He.ma K (He.ga K "Within") "__eq__") "Rule.__eq__",
  fun K => methB K (He.ga K "Within") "__str__" (He.ma K (He.ga K "Within") "__str__"),
  fun K => fnB K (He.ma K (He.ga K "Within") "__str__") "Rule.__str__",
  fun K => methB K (He.ga K "Within") "__call__" (He.ma K (He.ga K "Within") "__call__"),
  fun K => fnB K (He.ma K (He.ga K "Within") "__call__") "Rule.__call__",
  fun K => propB K (He.ga K "Within") "size" (He.ma K (He.ga K "Within") "size"),
  fun K => fnB K (rf K (He.ma K (He.ga K "Within") "size") "property") "Rule.size",
  fun K => methB K (He.ga K "Within") "lets_nights" (He.ma K (He.ga K "Within") "lets_nights"),
  fun K => fnB K (He.ma K (He.ga K "Within") "lets_nights") "Within.lets_nights",
  fun K => methB K (He.ga K "Within") "marks" (He.ma K (He.ga K "Within") "marks"),
  fun K => fnB K (He.ma K (He.ga K "Within") "marks") "NightRule.marks"]
def fn18_2 : List (PySem.W.Frag → Addr) := [
  fun K => (He.ma K (He.ga K "Goes") "__str__"),
  fun K => (He.ma K (He.ga K "Goes") "__call__"),
  fun K => (rf K (He.ma K (He.ga K "Goes") "size") "property"),
  fun K => (He.ma K (He.ga K "Goes") "lets_nights"),
  fun K => (He.ma K (He.ga K "Holds") "__init__"),
  fun K => (He.ma K (He.ga K "Holds") "__eq__"),
  fun K => (He.ma K (He.ga K "Holds") "__str__"),
  fun K => (He.ma K (He.ga K "Holds") "__call__"),
  fun K => (rf K (He.ma K (He.ga K "Holds") "size") "property"),
  fun K => (He.ma K (He.ga K "Holds") "lets_nights"),
  fun K => (He.ma K (He.ga K "Holds") "marks"),
  fun K => (He.ma K (He.ga K "Within") "__init__"),
  fun K => (He.ma K (He.ga K "Within") "__eq__")]
def vs18_2 : List FnT := [
  valT "__str__" "Rule.__str__" (inClass (tR 59) 11),
  valT "__call__" "Rule.__call__" (inClass (tR 59) 5),
  valT "size" "Rule.size" (inClass (tR 59) 3),
  valT "lets_nights" "Goes.lets_nights" (inClass (tR 64) 1),
  valT "__init__" "DayRule.__init__" (inClass (tR 60) 0),
  valT "__eq__" "Rule.__eq__" (inClass (tR 59) 10),
  valT "__str__" "Rule.__str__" (inClass (tR 59) 11),
  valT "__call__" "Rule.__call__" (inClass (tR 59) 5),
  valT "size" "Rule.size" (inClass (tR 59) 3),
  valT "lets_nights" "Holds.lets_nights" (inClass (tR 65) 1),
  valT "marks" "NightRule.marks" (inClass (tR 61) 0),
  valT "__init__" "DayRule.__init__" (inClass (tR 60) 0),
  valT "__eq__" "Rule.__eq__" (inClass (tR 59) 10)]
def fs18_3 : List (PySem.W.Frag → Bool) := [
  fun K => methB K (He.ga K "Lasts") "__init__" (He.ma K (He.ga K "Lasts") "__init__"),
  fun K => fnSB K (PySem.W.OpenLaw.row PySem.Challenge.rw_nodeadnight_k18_simple_rules_called).prog (He.ma K (He.ga K "Lasts") "__init__") "LengthRule.__init__" (He.ga K "LengthRule"),
  fun K => methB K (He.ga K "Lasts") "__eq__" (He.ma K (He.ga K "Lasts") "__eq__"),
  fun K => fnB K (He.ma K (He.ga K "Lasts") "__eq__") "Rule.__eq__",
  fun K => methB K (He.ga K "Lasts") "__str__" (He.ma K (He.ga K "Lasts") "__str__"),
  fun K => fnB K (He.ma K (He.ga K "Lasts") "__str__") "Rule.__str__",
  fun K => methB K (He.ga K "Lasts") "__call__" (He.ma K (He.ga K "Lasts") "__call__"),
  fun K => fnB K (He.ma K (He.ga K "Lasts") "__call__") "Rule.__call__",
  fun K => propB K (He.ga K "Lasts") "size" (He.ma K (He.ga K "Lasts") "size"),
  fun K => fnB K (rf K (He.ma K (He.ga K "Lasts") "size") "property") "Rule.size",
  fun K => methB K (He.ga K "Lasts") "lets_nights" (He.ma K (He.ga K "Lasts") "lets_nights"),
  fun K => fnB K (He.ma K (He.ga K "Lasts") "lets_nights") "Lasts.lets_nights",
  fun K => nsB K "is_integer" (He.ga K "is_integer"),
  fun K => fnB K (He.ga K "is_integer") "is_integer",
  fun K => nsB K "is_between" (He.ga K "is_between"),
  fun K => fnB K (He.ga K "is_between") "is_between",
  fun K => nsB K "are_between" (He.ga K "are_between"),
  fun K => fnB K (He.ga K "are_between") "are_between",
  fun K => nsB K "ascending" (He.ga K "ascending"),
  fun K => fnB K (He.ga K "ascending") "ascending",
  fun K => nsB K "least_period" (He.ga K "least_period"),
  fun K => fnB K (He.ga K "least_period") "least_period",
  fun K => nsB K "least_start" (He.ga K "least_start"),
  fun K => fnB K (He.ga K "least_start") "least_start",
  fun K => nsB K "form_of" (He.ga K "form_of"),
  fun K => fnB K (He.ga K "form_of") "form_of",
  fun K => nsB K "is_day" (He.ga K "is_day"),
  fun K => fnB K (He.ga K "is_day") "is_day",
  fun K => nsB K "has" (He.ga K "has"),
  fun K => fnB K (He.ga K "has") "has",
  fun K => nsB K "need_part" (He.ga K "need_part"),
  fun K => fnB K (He.ga K "need_part") "need_part",
  fun K => nsB K "_law_pen" (He.ga K "_law_pen"),
  fun K => fnB K (He.ga K "_law_pen") "_law_pen",
  fun K => nsB K "_law_draw" (He.ga K "_law_draw"),
  fun K => fnB K (He.ga K "_law_draw") "_law_draw"]
def fn18_3 : List (PySem.W.Frag → Addr) := [
  fun K => (He.ma K (He.ga K "Within") "__str__"),
  fun K => (He.ma K (He.ga K "Within") "__call__"),
  fun K => (rf K (He.ma K (He.ga K "Within") "size") "property"),
  fun K => (He.ma K (He.ga K "Within") "lets_nights"),
  fun K => (He.ma K (He.ga K "Within") "marks"),
  fun K => (He.ma K (He.ga K "Lasts") "__init__"),
  fun K => (He.ma K (He.ga K "Lasts") "__eq__"),
  fun K => (He.ma K (He.ga K "Lasts") "__str__"),
  fun K => (He.ma K (He.ga K "Lasts") "__call__"),
  fun K => (rf K (He.ma K (He.ga K "Lasts") "size") "property"),
  fun K => (He.ma K (He.ga K "Lasts") "lets_nights"),
  fun K => (He.ga K "is_integer"),
  fun K => (He.ga K "is_between")]
def vs18_3 : List FnT := [
  valT "__str__" "Rule.__str__" (inClass (tR 59) 11),
  valT "__call__" "Rule.__call__" (inClass (tR 59) 5),
  valT "size" "Rule.size" (inClass (tR 59) 3),
  valT "lets_nights" "Within.lets_nights" (inClass (tR 66) 1),
  valT "marks" "NightRule.marks" (inClass (tR 61) 0),
  valT "__init__" "LengthRule.__init__" (inClass (tR 62) 0),
  valT "__eq__" "Rule.__eq__" (inClass (tR 59) 10),
  valT "__str__" "Rule.__str__" (inClass (tR 59) 11),
  valT "__call__" "Rule.__call__" (inClass (tR 59) 5),
  valT "size" "Rule.size" (inClass (tR 59) 3),
  valT "lets_nights" "Lasts.lets_nights" (inClass (tR 67) 1),
  valT "is_integer" "is_integer" (tR 4),
  valT "is_between" "is_between" (tR 5)]
def fs18_4 : List (PySem.W.Frag → Bool) := [
  fun K => nsB K "_law_pick" (He.ga K "_law_pick"),
  fun K => fnB K (He.ga K "_law_pick") "_law_pick",
  fun K => nsB K "_law_days" (He.ga K "_law_days"),
  fun K => fnB K (He.ga K "_law_days") "_law_days",
  fun K => nsB K "_law_lengths" (He.ga K "_law_lengths"),
  fun K => fnB K (He.ga K "_law_lengths") "_law_lengths",
  fun K => nsB K "_law_plan" (He.ga K "_law_plan"),
  fun K => fnB K (He.ga K "_law_plan") "_law_plan",
  fun K => nsB K "_law_lets" (He.ga K "_law_lets"),
  fun K => fnB K (He.ga K "_law_lets") "_law_lets",
  fun K => nsB K "_law_set" (He.ga K "_law_set"),
  fun K => fnB K (He.ga K "_law_set") "_law_set",
  fun K => nsB K "_law_made" (He.ga K "_law_made"),
  fun K => fnB K (He.ga K "_law_made") "_law_made",
  fun K => nsB K "_law_kinds" (He.ga K "_law_kinds"),
  fun K => fnB K (He.ga K "_law_kinds") "_law_kinds",
  fun K => nsB K "_law_kinds_due" (He.ga K "_law_kinds_due"),
  fun K => fnB K (He.ga K "_law_kinds_due") "_law_kinds_due",
  fun K => nsB K "_law_right" (He.ga K "_law_right"),
  fun K => fnB K (He.ga K "_law_right") "_law_right",
  fun K => nsB K "law" (He.ga K "law"),
  fun K => fnB K (He.ga K "law") "law",
  fun K => crB K (He.ga K "Rule"),
  fun K => rulB18 K (He.ga K "Rule") (He.ga K "DayRule") (He.ga K "NightRule") (He.ga K "LengthRule") (He.ga K "Days") (He.ga K "Lengths") [((He.ga K "Comes"), 0), ((He.ga K "Goes"), 1), ((He.ga K "Holds"), 2), ((He.ga K "Within"), 3), ((He.ga K "Lasts"), 4)],
  fun K => cvIB K (He.ga K "Rule") "MOST" 30,
  fun K => crB K (He.ga K "Lengths"),
  fun K => decide (PySem.W.fnIn K (He.ma K (He.ga K "Rule") "__init__") = true),
  fun K => decide (PySem.W.typeIn K (.ref (He.ma K (He.ga K "Rule") "__init__")) = some (.type "function")),
  fun K => decide (PySem.W.nsIn K cStatics "thirdparty.any" = some none),
  fun K => (PySem.W.clsIn K (He.ga K "DayRule")).isSome,
  fun K => (PySem.W.clsIn K (He.ga K "LengthRule")).isSome,
  fun K => decide (PySem.W.notFirst K (He.ga K "Lengths") (.ref (He.ga K "Lengths")) = true),
  fun K => decide (PySem.W.notFirst K (He.ga K "Days") (.ref (He.ga K "Days")) = true),
  fun K => neB K (He.ga K "Lengths"),
  fun K => neB K (He.ga K "Days"),
  fun K => wordB K (He.ga K "Rule") (He.ga K "Comes") "comes"]
def fn18_4 : List (PySem.W.Frag → Addr) := [
  fun K => (He.ga K "are_between"),
  fun K => (He.ga K "ascending"),
  fun K => (He.ga K "least_period"),
  fun K => (He.ga K "least_start"),
  fun K => (He.ga K "form_of"),
  fun K => (He.ga K "is_day"),
  fun K => (He.ga K "has"),
  fun K => (He.ga K "need_part"),
  fun K => (He.ga K "_law_pen"),
  fun K => (He.ga K "_law_draw"),
  fun K => (He.ga K "_law_pick"),
  fun K => (He.ga K "_law_days"),
  fun K => (He.ga K "_law_lengths")]
def vs18_4 : List FnT := [
  valT "are_between" "are_between" (tR 7),
  valT "ascending" "ascending" (tR 10),
  valT "least_period" "least_period" (tR 34),
  valT "least_start" "least_start" (tR 35),
  valT "form_of" "form_of" (tR 36),
  valT "is_day" "is_day" (tR 6),
  valT "has" "has" (tR 41),
  valT "need_part" "need_part" (tR 58),
  valT "_law_pen" "_law_pen" (tR 73),
  valT "_law_draw" "_law_draw" (tR 74),
  valT "_law_pick" "_law_pick" (tR 75),
  valT "_law_days" "_law_days" (tR 76),
  valT "_law_lengths" "_law_lengths" (tR 77)]
def fs18_5 : List (PySem.W.Frag → Bool) := [
  fun K => supB K (He.ga K "Comes") (He.ga K "DayRule") "__init__" (He.ma K (He.ga K "Rule") "__init__"),
  fun K => neB K (He.ga K "Comes"),
  fun K => decide (PySem.W.fnIn K (He.ma K (He.ga K "Comes") "__call__") = true),
  fun K => decide (PySem.W.fnIn K (He.ma K (He.ga K "Comes") "lets_nights") = true),
  fun K => wordB K (He.ga K "Rule") (He.ga K "Goes") "goes",
  fun K => supB K (He.ga K "Goes") (He.ga K "DayRule") "__init__" (He.ma K (He.ga K "Rule") "__init__"),
  fun K => neB K (He.ga K "Goes"),
  fun K => decide (PySem.W.fnIn K (He.ma K (He.ga K "Goes") "__call__") = true),
  fun K => decide (PySem.W.fnIn K (He.ma K (He.ga K "Goes") "lets_nights") = true),
  fun K => wordB K (He.ga K "Rule") (He.ga K "Holds") "holds",
  fun K => supB K (He.ga K "Holds") (He.ga K "DayRule") "__init__" (He.ma K (He.ga K "Rule") "__init__"),
  fun K => neB K (He.ga K "Holds"),
  fun K => decide (PySem.W.fnIn K (He.ma K (He.ga K "Holds") "__call__") = true),
  fun K => decide (PySem.W.fnIn K (He.ma K (He.ga K "Holds") "lets_nights") = true),
  fun K => wordB K (He.ga K "Rule") (He.ga K "Within") "within",
  fun K => supB K (He.ga K "Within") (He.ga K "DayRule") "__init__" (He.ma K (He.ga K "Rule") "__init__"),
  fun K => neB K (He.ga K "Within"),
  fun K => decide (PySem.W.fnIn K (He.ma K (He.ga K "Within") "__call__") = true),
  fun K => decide (PySem.W.fnIn K (He.ma K (He.ga K "Within") "lets_nights") = true),
  fun K => wordB K (He.ga K "Rule") (He.ga K "Lasts") "lasts",
  fun K => supB K (He.ga K "Lasts") (He.ga K "LengthRule") "__init__" (He.ma K (He.ga K "Rule") "__init__"),
  fun K => neB K (He.ga K "Lasts"),
  fun K => decide (PySem.W.fnIn K (He.ma K (He.ga K "Lasts") "__call__") = true),
  fun K => decide (PySem.W.fnIn K (He.ma K (He.ga K "Lasts") "lets_nights") = true),
  fun K => intB K "BOUND_lengths" 400,
  fun K => intB K "BOUND_days" 7,
  fun K => intB K "MOST_NIGHTS" 400,
  fun K => intB K "MOST_DAY" 999999999999,
  fun K => intB K "MOST_RULES" 30,
  fun K => tupB K (dfA K (He.ma K (He.ga K "Lengths") "__init__") 0) [],
  fun K => tupB K (dfA K (He.ma K (He.ga K "Lengths") "__init__") 2) [],
  fun K => biB K ["all", "any", "sorted", "set", "max", "sum", "super"]]
def fn18_5 : List (PySem.W.Frag → Addr) := [
  fun K => (He.ga K "_law_plan"),
  fun K => (He.ga K "_law_lets"),
  fun K => (He.ga K "_law_set"),
  fun K => (He.ga K "_law_made"),
  fun K => (He.ga K "_law_kinds"),
  fun K => (He.ga K "_law_kinds_due"),
  fun K => (He.ga K "_law_right"),
  fun K => (He.ga K "law")]
def vs18_5 : List FnT := [
  valT "_law_plan" "_law_plan" (tR 78),
  valT "_law_lets" "_law_lets" (tR 79),
  valT "_law_set" "_law_set" (tR 80),
  valT "_law_made" "_law_made" (tR 81),
  valT "_law_kinds" "_law_kinds" (tR 82),
  valT "_law_kinds_due" "_law_kinds_due" (tR 83),
  valT "_law_right" "_law_right" (tR 84),
  valT "law" "law" (tR 85)]
def lo18_0 : List Str := [("_wall" : Str), ("FIGURES" : Str), ("MOST_DAY" : Str), ("is_integer" : Str), ("is_between" : Str), ("is_day" : Str), ("are_between" : Str), ("count_in" : Str), ("day_in" : Str), ("ascending" : Str), ("common_divisor" : Str), ("common_multiple" : Str), ("StayError" : Str), ("BadInput" : Str), ("BadLengths" : Str), ("BadDays" : Str), ("BadStay" : Str), ("BadRule" : Str), ("BadCount" : Str), ("BadText" : Str), ("Refused" : Str), ("TooMany" : Str), ("MOST_NIGHTS" : Str), ("Stay" : Str), ("stay_told" : Str), ("BOUND_lengths" : Str), ("TEXT_FIGURES" : Str), ("AND" : Str), ("OR" : Str), ("LESS" : Str)]
def lo18_1 : List Str := [("least_period" : Str), ("least_start" : Str), ("form_of" : Str), ("lengths_of" : Str), ("need_number" : Str), ("need_from_zero" : Str), ("Lengths" : Str), ("has" : Str), ("member_from" : Str), ("greater_start" : Str), ("joined" : Str), ("joined_lengths" : Str), ("is_within" : Str), ("numbers_told" : Str), ("told_form" : Str), ("BOUND_days" : Str), ("joined_days" : Str), ("truths_of" : Str), ("Days" : Str), ("told_days" : Str), ("MOST_RULES" : Str), ("need_part" : Str), ("Rule" : Str), ("DayRule" : Str), ("NightRule" : Str), ("LengthRule" : Str), ("Comes" : Str), ("Goes" : Str), ("Holds" : Str), ("Within" : Str)]
def lo18_2 : List Str := [("Lasts" : Str), ("Joined" : Str), ("Both" : Str), ("Either" : Str), ("Not" : Str), ("_law_pen" : Str), ("_law_draw" : Str), ("_law_pick" : Str), ("_law_days" : Str), ("_law_lengths" : Str), ("_law_plan" : Str), ("_law_lets" : Str), ("_law_set" : Str), ("_law_made" : Str), ("_law_kinds" : Str), ("_law_kinds_due" : Str), ("_law_right" : Str)]
def lo18 : List Str := lo18_0 ++ (lo18_1 ++ (lo18_2))
/-- the places that are looked at -/
def as18 : List Addr := (List.range 1500).reverse
abbrev rw18 : PySem.W.OpenRow := PySem.W.OpenLaw.row PySem.Challenge.rw_nodeadnight_k18_simple_rules_called
theorem run18_0 (w : World) : HandSHeadRun.RunEq rw18 (PySem.W.view rw18.prog [85]) (hookB as18 fs18_0 fn18_0 vs18_0) (fun s => obsBG as18 fs18_0 fn18_0 (HandSHeadRun.getT s)) 14000 lo18 w := by
  intro os
  kernel_rfl
theorem run18_1 (w : World) : RunOb rw18 14000 as18 fs18_1 fn18_1 vs18_1 w := by
  intro os
  kernel_rfl
theorem run18_2 (w : World) : RunOb rw18 14000 as18 fs18_2 fn18_2 vs18_2 w := by
  intro os
  kernel_rfl
theorem run18_3 (w : World) : RunOb rw18 14000 as18 fs18_3 fn18_3 vs18_3 w := by
  intro os
  kernel_rfl
theorem run18_4 (w : World) : RunOb rw18 14000 as18 fs18_4 fn18_4 vs18_4 w := by
  intro os
  kernel_rfl
theorem run18_5 (w : World) : RunOb rw18 14000 as18 fs18_5 fn18_5 vs18_5 w := by
  intro os
  kernel_rfl
theorem run18 (w : World) : HandSHeadRun.RunEq rw18 (PySem.W.view rw18.prog [85]) (hookB as18 (((((fs18_0 ++ fs18_1) ++ fs18_2) ++ fs18_3) ++ fs18_4) ++ fs18_5) (((((fn18_0 ++ fn18_1) ++ fn18_2) ++ fn18_3) ++ fn18_4) ++ fn18_5) (((((vs18_0 ++ vs18_1) ++ vs18_2) ++ vs18_3) ++ vs18_4) ++ vs18_5)) (fun s => obsBG as18 (((((fs18_0 ++ fs18_1) ++ fs18_2) ++ fs18_3) ++ fs18_4) ++ fs18_5) (((((fn18_0 ++ fn18_1) ++ fn18_2) ++ fn18_3) ++ fn18_4) ++ fn18_5) (HandSHeadRun.getT s)) 14000 lo18 w := run_two (run_two (run_two (run_two (run_two (run18_0 w) (run18_1 w)) (run18_2 w)) (run18_3 w)) (run18_4 w)) (run18_5 w)
end NB
namespace NB
open PySem L2
def top (i : Nat) : Stmt := PySem.Challenge.pw_nodeadnight_k18_simple_rules_called.main.body.getD i (.Pass ⟨0, 0, 0, 0⟩)
section
variable {P : Program} {w : World} {K : PySem.W.Frag} {mg : Str → Option Value} {base : Heap}
abbrev sDraw : Stmt := top 74
theorem scDraw : FnScope ["_law_pen_here", "_law_many", "_law_digit", "_law_at", "_law_cell", "_law_great", "_law_mixed"] ["_law_pen_here", "_law_many"] (defScope sDraw) :=
  ⟨rfl, rfl, rfl, by decide +kernel, rfl, by decide +kernel, by decide +kernel⟩
theorem ok_draw {f : Addr} {fd : FuncData} (F : Fun K "_law_draw" "_law_draw" sDraw f fd) (T : Bi mg) : FnOk P w K mg base CX0 1 f fd ["_law_pen_here", "_law_many"] spDraw := by
  refine F.ok scDraw (fun vs H Q E h => ?_) (fun cdv A outer s H vs Q E hr h => ?_)
  · obtain ⟨p, c, ns, i, r, many, rfl, _⟩ := h
    rfl
  · obtain ⟨p, c, ns, i, r, many, rfl, pen, hi, hm, hm2, k⟩ := h
    refine ⟨_, pss_cons (ps_if (pt_cmpR op_gt (pe_ix ix_list (pv 0) pe_int (fun _ _ => rfl)) pe_int (nomark _))
        (pss_cons (ps_set (i := 2) scDraw.nd rfl (.inl rfl) (pe_op op_mod (pe_callTy call_int1 (by rfl) T.int (by decide +kernel) (pa_cons (pe_ix ix_list (pv 0) pe_int (fun _ _ => rfl)) pa_nil)) (pv 1)))
        (pss_cons (ps_asg (pe_op op_fdivW (pe_callTy call_int1 (by rfl) T.int (by decide +kernel) (pa_cons (pe_ix ix_list (pv 0) pe_int (fun _ _ => rfl)) pa_nil)) (pv 1)) (pg_sub (pv 0) pe_int set_list))
        (pss_one (ps_ret (pv 2))))) pss_nil)
      (pss_cons (ps_set (i := 3) scDraw.nd rfl (.inl rfl) (pe_ix ix_list (pv 0) pe_int (fun _ _ => rfl)))
      (pss_cons (ps_asg (pe_op op_add (pv 3) pe_int) (pg_sub (pv 0) pe_int set_list))
      (pss_cons (ps_set (i := 4) scDraw.nd rfl (.inl rfl) (pe_op op_add (pe_op op_mul pe_int (pv 3)) pe_int))
      (C8.pss_cut (ps_if (pt_cmpR (op_neD hr.units) (pe_ix ix_list (pv 0) pe_int (fun _ _ => rfl)) (pe_lst pa_nil) (nomark _))
        (pss_one (ps_set (i := 4) scDraw.nd rfl (.inl rfl) (pe_ix ix_list (pe_ix ix_list (pv 0) pe_int (fun _ _ => rfl))
          (pe_op op_mod (pe_callTy call_int1 (by rfl) T.int (by decide +kernel) (pa_cons (pv 3) pa_nil)) (pe_callB call_len_seq (by rfl) T.len PySem.boot_len (pa_cons (pe_ix ix_list (pv 0) pe_int (fun _ _ => rfl)) pa_nil))) (fun _ _ => rfl)))) pss_nil)
      (C8.pss_cut (ps_if (PW.pt (pw_and (pt_cmpR op_lt (pv 3) (pe_callB call_len_seq (by rfl) T.len PySem.boot_len (pa_cons (pe_ix ix_list (pv 0) pe_int (fun _ _ => rfl)) pa_nil)) (nomark _))
          (pw_and1 (pt_cmpR op_ge (pe_callB call_abs (by rfl) T.abs (by decide +kernel) (pa_cons (pv 4) pa_nil)) (pe_op op_pow pe_int pe_int) (nomark _)))))
        (pss_cons (ps_set (i := 5) scDraw.nd rfl (.inl rfl) (pe_op op_add (pe_op op_mul pe_int (pe_op op_sub (pe_callB call_abs (by rfl) T.abs (by decide +kernel) (pa_cons (pv 4) pa_nil)) (pe_op op_pow pe_int pe_int)))
            (pe_callTy call_int1 (by rfl) T.int (by decide +kernel) (pa_cons (pe_cmpR op_lt (pv 4) pe_int (nomark _)) pa_nil))))
        (pss_cons (ps_asg (pe_op op_fdivW (pe_callTy call_int1 (by rfl) T.int (by decide +kernel) (pa_cons (pv 5) pa_nil)) (pv 1)) (pg_sub (pv 0) pe_int set_list))
        (pss_one (ps_ret (pe_op op_mod (pe_callTy call_int1 (by rfl) T.int (by decide +kernel) (pa_cons (pv 5) pa_nil)) (pv 1)))))) pss_nil)
      (pss_cons (ps_set (i := 6) scDraw.nd rfl (.inl rfl) (pe_op op_mod (pe_callTy call_int1 (by rfl) T.int (by decide +kernel) (pa_cons (pe_op op_pow (pe_op op_add (pe_op op_add (pe_op op_mod (pe_callTy call_int1 (by rfl) T.int (by decide +kernel) (pa_cons (pv 4) pa_nil)) pe_int)
          (pe_op op_mul pe_int (pv 3))) pe_int) pe_int) pa_nil)) pe_int))
      (pss_cons (ps_set (i := 6) scDraw.nd rfl (.inl rfl) (pe_op op_mod (pe_callTy call_int1 (by rfl) T.int (by decide +kernel) (pa_cons (pe_op op_pow (pe_op op_add (pe_op op_add (pe_op op_mul (pv 6) (pe_op op_add (pe_op op_mul pe_int (pv 3)) pe_int))
          (pe_op op_mul (pe_op op_mul pe_int (pv 3)) (pv 3))) pe_int) pe_int) pa_nil)) pe_int))
      (pss_one (ps_ret (pe_op op_mod (pe_callTy call_int1 (by rfl) T.int (by decide +kernel) (pa_cons (pe_op op_fdiv (pv 6) pe_int) pa_nil)) (pv 1)))))))))))
      , ?_⟩
    have hlp : SqL K H p [.ref c, .int i, .int r] := SqL.of pen.pen
    have hcp : c ≠ p := ne_of pen.cells pen.pen (by
      intro z
      have z2 := HO.lst.inj z
      cases ns with
      | nil => cases z2
      | cons a t => cases z2)
    have hpow : (10 : Int) ^ (18 : Int).toNat = 1000000000000000000 := by decide
    refine ⟨_, rfl, p, _, _, _, rfl, rfl, hlp, rfl, _, _, rfl, rfl, _, rfl, ?_⟩
    refine ite2 (fun h => ?_) (fun h => ?_)
    · refine ⟨_, rfl, p, _, _, _, rfl, rfl, hlp, rfl, .inl ⟨_, rfl, _, rfl, _, _, rfl, rfl, (by show (0 : Int) < many; omega), ?_⟩⟩
      refine ⟨_, rfl, p, _, _, _, rfl, rfl, hlp, rfl, .inl ⟨_, rfl, _, rfl, _, _, rfl, rfl, wide_div (b := 100) (by omega) (by omega) (by decide) (by decide), _, rfl, p, _, _, 2, rfl, rfl, pen.pen, rfl, _, rfl, ?_⟩⟩
      exact k _ i _ _ (But.refl _ _).upd ⟨upd_same, by rw [upd_ne hcp]; exact pen.cells, pen.lo, pen.few⟩ (Int.le_refl _) (by omega) (Int.emod_nonneg _ (by omega)) (Int.emod_lt_of_pos _ (by omega))
    · refine ⟨_, rfl, p, _, _, _, rfl, rfl, hlp, rfl, ?_⟩
      refine ⟨_, rfl, _, _, rfl, rfl, _, rfl, p, _, _, 1, rfl, rfl, pen.pen, rfl, ?_⟩
      have e1 : ([V.ref c, V.int i, V.int r].set 1 (V.int (i + 1))) = [V.ref c, V.int (i + 1), V.int r] := rfl
      rw [e1]
      generalize hH1 : upd H p (HO.lst [V.ref c, V.int (i + 1), V.int r]) = H1
      have h1p : H1 p = some (.lst [.ref c, .int (i + 1), .int r]) := by rw [← hH1]; exact upd_same
      have h1c : H1 c = some (.lst (ns.map V.int)) := by rw [← hH1, upd_ne hcp]; exact pen.cells
      have hl1 : SqL K H1 p [.ref c, .int (i + 1), .int r] := SqL.of h1p
      have b1 : But p H H1 := by rw [← hH1]; exact (But.refl _ _).upd
      refine ⟨_, rfl, _, _, rfl, rfl, .inl ⟨by decide, by decide⟩, _, _, rfl, rfl, ?_⟩
      refine ⟨fun σ' H' => ∃ cell : Int, σ' = [some (.ref p), some (.int many), none, some (.int i), some (.int cell), none, none] ∧ But p H H' ∧
        H' p = some (.lst [.ref c, .int (i + 1), .int r]) ∧ H' c = some (.lst (ns.map V.int)), ?_, ?_⟩
      · refine ⟨_, rfl, p, _, _, _, rfl, rfl, hl1, rfl, Nat.zero_le _, fun q hq => ?_⟩
        have npq : p ≠ q := ne_of_none h1p hq
        have ncq : c ≠ q := ne_of_none h1c hq
        have h2p : upd H1 q (.lst []) p = some (.lst [.ref c, .int (i + 1), .int r]) := by rw [upd_ne npq]; exact h1p
        have h2c : upd H1 q (.lst []) c = some (.lst (ns.map V.int)) := by rw [upd_ne ncq]; exact h1c
        have b2 : But p H (upd H1 q (.lst [])) := b1.new hq
        refine ⟨PyData.list (ns.map PyData.int), PyData.list [], .lst (SqL.of h2c) (dp_ints ns), .lst (SqL.of upd_same) .nil, shaped_ints ns, rfl, _, rfl, ?_⟩
        refine ite2 (fun g => ?_) (fun g => ?_)
        · have hne : 0 < ns.length := by
            cases ns with
            | nil => exact absurd g (by decide)
            | cons a t => exact Nat.succ_pos _
          refine ⟨_, rfl, p, _, _, _, rfl, rfl, SqL.of h2p, rfl, _, rfl, .inl ⟨_, rfl, _, rfl, p, _, _, _, rfl, rfl, SqL.of h2p, rfl, c, _, rfl, .inl (SqL.of h2c), _, _, rfl, rfl, ?_, ?_⟩⟩
          · show (0 : Int) < ((ns.map V.int).length : Int)
            rw [List.length_map]
            omega
          · have l1 : 0 ≤ i % (ns.length : Int) := Int.emod_nonneg _ (by omega)
            have l2 : i % (ns.length : Int) < (ns.length : Int) := Int.emod_lt_of_pos _ (by omega)
            obtain ⟨j, ej⟩ : ∃ j : Nat, i % (ns.length : Int) = (j : Int) := ⟨_, (Int.toNat_of_nonneg l1).symm⟩
            have hj : j < ns.length := by omega
            refine ⟨c, _, _, .int ns[j], rfl, rfl, SqL.of h2c, ?_, ns[j], rfl, b2, h2p, h2c⟩
            show atI (ns.map V.int) (i % ((ns.map V.int).length : Int)) = some (.int ns[j])
            rw [List.length_map, ej]
            exact atI_nat (by rw [List.getElem?_map, List.getElem?_eq_getElem hj]; rfl)
        · exact ⟨_, rfl, b2, h2p, h2c⟩
      · rintro σ' H' ⟨cell, rfl, b2, h2p, h2c⟩
        have lo := pen.lo
        have pen2 : ∀ r' : Int, Pen (upd H' p (.lst [.ref c, .int (i + 1), .int r'])) p c ns (i + 1) r' := fun r' => ⟨upd_same, by rw [upd_ne hcp]; exact h2c, by omega, pen.few⟩
        refine ⟨fun σ2 H3 => σ2 = [some (.ref p), some (.int many), none, some (.int i), some (.int cell), none, none] ∧ H3 = H', ?_, ?_⟩
        · refine ⟨_, rfl, _, rfl, p, _, _, _, rfl, rfl, SqL.of h2p, rfl, c, _, rfl, .inl (SqL.of h2c), _, _, rfl, rfl, _, rfl, ?_⟩
          refine ite2 (fun g1 => ?_) (fun g1 => ⟨rfl, rfl⟩)
          refine ⟨_, rfl, _, rfl, _, _, rfl, rfl, ⟨by decide, by decide, by decide⟩, _, _, rfl, rfl, _, rfl, ?_⟩
          refine ite2 (fun g2 => ?_) (fun g2 => ⟨rfl, rfl⟩)
          refine ⟨_, rfl, _, rfl, _, _, rfl, rfl, ⟨by decide, by decide, by decide⟩, _, _, rfl, rfl, _, _, rfl, rfl, .inl ⟨by decide, by decide⟩, _, rfl, _, _, rfl, rfl, .inr ⟨_, rfl, _, _, rfl, rfl, ?_⟩⟩
          refine ⟨_, rfl, .inl ⟨_, rfl, _, rfl, _, _, rfl, rfl, wide_div (b := 100) (by omega) (by omega) (by decide) (by decide), _, rfl, p, _, _, 2, rfl, rfl, h2p, rfl, ?_⟩⟩
          refine ⟨_, rfl, .inl ⟨_, rfl, _, rfl, _, _, rfl, rfl, (by show (0 : Int) < many; omega), ?_⟩⟩
          exact k _ (i + 1) _ _ b2.upd (pen2 _) (by omega) (by omega) (Int.emod_nonneg _ (by omega)) (Int.emod_lt_of_pos _ (by omega))
        · rintro σ2 H3 ⟨rfl, rfl⟩
          have p1 : (0 : Int) < 2147483549 := by decide
          have p2 : (0 : Int) < 2147483629 := by decide
          have p3 : (0 : Int) < 2147483587 := by decide
          have c1 := Int.emod_nonneg cell (Int.ne_of_gt p1)
          have c2 := Int.emod_lt_of_pos cell p1
          refine ⟨_, rfl, .inl ⟨_, rfl, _, _, rfl, rfl, p1, _, rfl, _, _, rfl, rfl, .inl ⟨by decide, by decide⟩, _, _, rfl, rfl, _, _, rfl, rfl, _, _, rfl, rfl, ⟨by decide, by decide, ?_⟩, .inl ⟨_, rfl, _, _, rfl, rfl, p2, ?_⟩⟩⟩
          · show (cell % 2147483549 + 50207 * i + 577).natAbs < 2 ^ 64
            omega
          · have d1 := Int.emod_nonneg ((cell % 2147483549 + 50207 * i + 577) ^ (5 : Int).toNat) (Int.ne_of_gt p2)
            have d2 := Int.emod_lt_of_pos ((cell % 2147483549 + 50207 * i + 577) ^ (5 : Int).toNat) p2
            obtain ⟨x, hx⟩ : ∃ x : Int, ((cell % 2147483549 + 50207 * i + 577) ^ (5 : Int).toNat) % 2147483629 = x := ⟨_, rfl⟩
            rw [hx] at d1 d2
            have x1 : 0 ≤ x * (2 * i + 173) := Int.mul_nonneg d1 (by omega)
            have x2 : x * (2 * i + 173) ≤ 2147483629 * 20173 := Int.mul_le_mul (by omega) (by omega) (by omega) (by decide)
            have x3 : 0 ≤ 57173 * i * i := Int.mul_nonneg (by omega) lo
            have x4 : 57173 * i * i ≤ 571730000 * 10000 := Int.mul_le_mul (by omega) hi lo (by decide)
            refine ⟨_, rfl, _, rfl, _, _, rfl, rfl, .inl ⟨by decide, by decide⟩, _, _, rfl, rfl, _, _, rfl, rfl, .inl ⟨by rw [hx]; omega, by rw [hx]; omega⟩,
              _, rfl, _, _, rfl, rfl, .inl ⟨by decide, by decide⟩, _, rfl, _, _, rfl, rfl, .inr ⟨by omega, by omega⟩, _, _, rfl, rfl, _, _, rfl, rfl, _, _, rfl, rfl, ⟨by decide, by decide, ?_⟩,
              .inl ⟨_, rfl, _, _, rfl, rfl, p3, ?_⟩⟩
            · show ((cell % 2147483549 + 50207 * i + 577) ^ (5 : Int).toNat % 2147483629 * (2 * i + 173) + 57173 * i * i + 89).natAbs < 2 ^ 64
              rw [hx]
              omega
            · refine ⟨_, rfl, _, _, rfl, rfl, ⟨by decide, by decide⟩, .inl ⟨_, rfl, _, rfl, _, _, rfl, rfl, (by show (0 : Int) < many; omega), ?_⟩⟩
              exact k _ (i + 1) r _ b2 ⟨h2p, h2c, by omega, pen.few⟩ (by omega) (by omega) (Int.emod_nonneg _ (by omega)) (Int.emod_lt_of_pos _ (by omega))
abbrev sPen : Stmt := top 73
theorem scPen : FnScope ["_law_script"] ["_law_script"] (defScope sPen) := ⟨rfl, rfl, rfl, by decide +kernel, rfl, by decide +kernel, by decide +kernel⟩
theorem ok_pen {f : Addr} {fd : FuncData} (F : Fun K "_law_pen" "_law_pen" sPen f fd) (T : Bi mg) : FnOk P w K mg base CX0 1 f fd ["_law_script"] (spPen K) := by
  refine F.ok scPen (fun vs H Q E h => ?_) (fun cdv A outer s H vs Q E hr h => ?_)
  · obtain ⟨a, ns, rfl, _⟩ := h
    rfl
  · obtain ⟨a, ns, rfl, hs, hl, k⟩ := h
    refine ⟨_, pss_one (ps_ret (pe_lst (pa_cons (pe_callTy call_list_of (by rfl) T.list (by decide +kernel) (pa_cons (pe_slice sl_list (pv 0) po_none (po_some pe_int)) pa_nil)) (pa_cons pe_int (pa_cons pe_int pa_nil))))), ?_⟩
    obtain ⟨ms, em, lm⟩ := cut_ints ns none (some 63)
    refine ⟨_, rfl, _, rfl, a, _, rfl, hs, fun q hq => ?_⟩
    rw [em]
    refine ⟨q, _, rfl, .inl (SqL.of upd_same), fun c hc => ⟨(by show 3 ≤ sizeLine; decide), fun p hp => ?_⟩⟩
    have n1 : c ≠ p := fun z => by
      rw [z, ← z, upd_same] at hp
      cases hp
    have hp1 : upd H q (.lst (ms.map V.int)) p = none := by
      rw [upd_ne n1.symm] at hp
      exact hp
    have hp0 : H p = none := by
      by_cases z : p = q
      · rw [z, upd_same] at hp1
        cases hp1
      · rw [upd_ne z] at hp1
        exact hp1
    refine k _ p c ms (fun b o e => ?_) hp0 ⟨upd_same, ?_, Int.le_refl _, by omega⟩
    · have e1 : upd H q (.lst (ms.map V.int)) b = some o := by
        rw [upd_ne (ne_of_none e hq)]
        exact e
      have e2 : upd (upd H q (.lst (ms.map V.int))) c (.lst (ms.map V.int)) b = some o := by
        rw [upd_ne (ne_of_none e1 hc)]
        exact e1
      rw [upd_ne (ne_of_none e2 hp)]
      exact e2
    · rw [upd_ne n1]
      exact upd_same

abbrev sPick : Stmt := top 75
theorem scPick : FnScope ["_law_pen_here", "_law_some"] ["_law_pen_here", "_law_some"] (defScope sPick) := ⟨rfl, rfl, rfl, by decide +kernel, rfl, by decide +kernel, by decide +kernel⟩
theorem ok_pick {f : Addr} {fd : FuncData} (F : Fun K "_law_pick" "_law_pick" sPick f fd) (T : Bi mg) (D : DefOf P w K mg base "_law_draw" 1 ["_law_pen_here", "_law_many"] spDraw) :
    FnOk P w K mg base CX0 2 f fd ["_law_pen_here", "_law_some"] spPick := by
  obtain ⟨fD, fdD, FD, mD, kD, bD⟩ := D.ex
  refine F.ok scPick (fun vs H Q E h => ?_) (fun cdv A outer s H vs Q E hr h => ?_)
  · obtain ⟨p, c, l, ns, i, r, xs, rfl, _⟩ := h
    rfl
  · obtain ⟨p, c, l, ns, i, r, xs, rfl, pen, hi, nlp, hl, h1, h2, k⟩ := h
    refine ⟨_, pss_one (ps_ret (pe_ix ix_list (pv 1) (pe_call FD hr rfl mD kD bD .nil pass0 (pa_cons (pv 0) (pa_cons (pe_callB call_len_seq (by rfl) T.len PySem.boot_len (pa_cons (pv 1) pa_nil)) pa_nil))) (fun _ _ => rfl))), ?_⟩
    refine ⟨_, rfl, _, rfl, _, rfl, l, xs, rfl, .inl (SqL.of hl), p, c, ns, i, r, _, rfl, pen, hi, by omega, ?_, fun H' i' r' d b pen' g1 g2 d0 d1 => ?_⟩
    · exact Int.lt_of_le_of_lt (show (xs.length : Int) ≤ 1000 by omega) (by decide)
    · obtain ⟨j, ej⟩ : ∃ j : Nat, d = (j : Int) := ⟨d.toNat, (Int.toNat_of_nonneg d0).symm⟩
      have hj : j < xs.length := by omega
      refine ⟨l, xs, d, xs[j], rfl, rfl, SqL.of (b _ _ nlp hl), ?_, k H' i' r' _ b pen' g1 g2 (List.getElem_mem hj)⟩
      rw [ej]
      exact atI_nat (List.getElem?_eq_getElem hj)
end
end NB
/-! NWa: what stands through the walk of a law's def, carried as one thing. -/
namespace NB
open PySem L2
/-- nothing but lists and tables is written -/
def Kp (H H' : Hp) : Prop := ∀ x o, H x = some o → (∀ zs, o ≠ .lst zs) → (∀ ps, o ≠ .tbl ps) → H' x = some o
/-- what is true of a heap and stays so -/
structure SP where
  P : Hp → Prop
  st : ∀ H H', Kp H H' → P H → P H'
def nTb (o : HO) : Prop := ∀ ps, o ≠ .tbl ps
/-- the walk of a law's def: from H0 to H, with b draws at most, what is true (ps), lists that may be written (ms), what is known (l) -/
structure Wd (T : List (Addr × Str)) (p c : Addr) (ns : List Int) (H0 H : Hp) (b : Int) (ps : List SP) (ms : List (Addr × List V)) (l : List (Addr × HO)) : Prop where
  bt : ButN p H0 H
  pen : ∃ i r, Pen H p c ns i r ∧ i ≤ b
  tb : LamX.Tabs T H
  im : ∀ s ∈ ps, s.P H
  kn : ∀ q ∈ l, q.1 ≠ p ∧ nTb q.2 ∧ H q.1 = some q.2
  mu : ∀ m ∈ ms, m.1 ≠ p ∧ m.1 ≠ c ∧ (∀ o, H0 m.1 = some o → ¬ nTb o) ∧ H m.1 = some (.lst m.2) ∧ ∀ q ∈ l, q.1 ≠ m.1
  dj : ms.Pairwise fun m n => m.1 ≠ n.1
/-- an object is laid -/
def Al (n : Nat) (o : HO) (H : Hp) (k : Addr → Hp → Prop) : Prop := n ≤ sizeLine ∧ ∀ a, H a = none → k a (upd H a o)
theorem ra_lst {t : TA} {σ : SV} {H : Hp} {Q : VK} (h : t σ H fun xs H1 => Al xs.length (.lst xs) H1 fun a H2 => Q (.ref a) H2) : tLst t σ H Q := h
theorem ra_tup {t : TA} {σ : SV} {H : Hp} {Q : VK} (h : t σ H fun xs H1 => Al xs.length (.tup xs) H1 fun a H2 => Q (.ref a) H2) : tTup t σ H Q := h
section
variable {T : List (Addr × Str)} {p c : Addr} {ns : List Int} {H0 H H' : Hp} {b b' : Int} {ps : List SP} {ms : List (Addr × List V)} {l : List (Addr × HO)} {a L : Addr} {o : HO} {xs ys : List V}
theorem Wd.step (W : Wd T p c ns H0 H b ps ms l) (u : ButN p H H') (pen : ∃ i r, Pen H' p c ns i r ∧ i ≤ b') (tb : LamX.Tabs T H') : Wd T p c ns H0 H' b' ps ms l := by
  obtain ⟨i, r, pn, _⟩ := W.pen
  have kp : Kp H H' := fun x o e n t => u x o (fun z => by rw [z, pn.pen] at e; exact n _ (Option.some.inj e).symm) e t
  refine ⟨W.bt.trans u, pen, tb, fun s hs => s.st _ _ kp (W.im s hs), fun q hq => ?_, fun m hm => ?_, W.dj⟩
  · obtain ⟨h1, h2, h3⟩ := W.kn q hq
    exact ⟨h1, h2, u _ _ h1 h3 h2⟩
  · obtain ⟨h1, h2, h3, h4, h5⟩ := W.mu m hm
    exact ⟨h1, h2, h3, u _ _ h1 h4 (fun _ z => nomatch z), h5⟩
theorem Wd.same (W : Wd T p c ns H0 H b ps ms l) (s : Same H H') : Wd T p c ns H0 H' b ps ms l := by
  obtain ⟨i, r, pn, hi⟩ := W.pen
  exact W.step (fun x o _ e _ => s x o e) ⟨i, r, ⟨s _ _ pn.pen, s _ _ pn.cells, pn.lo, pn.few⟩, hi⟩ (W.tb.ext s)
theorem Wd.extN (W : Wd T p c ns H0 H b ps ms l) (s : LamX.ExtN H H') (tb : LamX.Tabs T H') : Wd T p c ns H0 H' b ps ms l := by
  obtain ⟨i, r, pn, hi⟩ := W.pen
  exact W.step (fun x o _ e t => s x o e t) ⟨i, r, ⟨s _ _ pn.pen (fun _ z => nomatch z), s _ _ pn.cells (fun _ z => nomatch z), pn.lo, pn.few⟩, hi⟩ tb
theorem Wd.but (W : Wd T p c ns H0 H b ps ms l) {i' r' : Int} (u : But p H H') (pen : Pen H' p c ns i' r') (h : i' ≤ b') : Wd T p c ns H0 H' b' ps ms l := by
  obtain ⟨i, r, pn, hi⟩ := W.pen
  exact W.step (fun x o n e _ => u x o n e) ⟨i', r', pen, h⟩ (tabs_but u pn.pen W.tb)
theorem Wd.le (W : Wd T p c ns H0 H b ps ms l) (h : b ≤ b' := by omega) : Wd T p c ns H0 H b' ps ms l := by
  obtain ⟨i, r, pn, hi⟩ := W.pen
  exact { W with pen := ⟨i, r, pn, Int.le_trans hi h⟩ }
theorem Wd.new (W : Wd T p c ns H0 H b ps ms l) (h : H a = none) (ho : nTb o) : Wd T p c ns H0 (upd H a o) b ps ms ((a, o) :: l) := by
  have W1 := W.same (same_new (o := o) (Same.refl H) h)
  obtain ⟨i, r, pn, _⟩ := W.pen
  refine { W1 with kn := fun q hq => ?_, mu := fun m hm => ?_ }
  · rcases List.mem_cons.mp hq with rfl | hq
    · exact ⟨(ne_of_none pn.pen h).symm, ho, upd_same⟩
    · exact W1.kn q hq
  · obtain ⟨h1, h2, h3, h4, h5⟩ := W1.mu m hm
    refine ⟨h1, h2, h3, h4, fun q hq => ?_⟩
    rcases List.mem_cons.mp hq with rfl | hq
    · exact (ne_of_none (W.mu m hm).2.2.2.1 h).symm
    · exact h5 q hq
theorem Wd.newM (W : Wd T p c ns H0 H b ps ms l) (h : H a = none) : Wd T p c ns H0 (upd H a (.lst xs)) b ps ((a, xs) :: ms) l := by
  have W1 := W.same (same_new (o := .lst xs) (Same.refl H) h)
  obtain ⟨i, r, pn, _⟩ := W.pen
  have np := (ne_of_none pn.pen h).symm
  refine { W1 with mu := fun m hm => ?_, dj := List.pairwise_cons.mpr ⟨fun m hm => (ne_of_none (W.mu m hm).2.2.2.1 h).symm, W.dj⟩ }
  rcases List.mem_cons.mp hm with rfl | hm
  · refine ⟨np, (ne_of_none pn.cells h).symm, fun o e t => ?_, upd_same, fun q hq => ne_of_none (W.kn q hq).2.2 h⟩
    have z := W.bt a o np e t
    rw [h] at z
    cases z
  · exact W1.mu m hm
theorem Wd.put (W : Wd T p c ns H0 H b ps ((L, xs) :: ms) l) : Wd T p c ns H0 (upd H L (.lst ys)) b ps ((L, ys) :: ms) l := by
  obtain ⟨i, r, pn, hi⟩ := W.pen
  obtain ⟨h1, h2, h3, h4, h5⟩ := W.mu (L, xs) (List.mem_cons_self ..)
  have dj := List.pairwise_cons.mp W.dj
  have u : But L H (upd H L (.lst ys)) := fun x o n e => by
    rw [upd_ne n]
    exact e
  refine ⟨fun x o n e t => ?_, ⟨i, r, ⟨?_, ?_, pn.lo, pn.few⟩, hi⟩, tabs_but u h4 W.tb, fun s hs => s.st H _ (fun x o e n _ => ?_) (W.im s hs), fun q hq => ?_, fun m hm => ?_, ?_⟩
  · by_cases z : x = L
    · subst z
      exact absurd t (h3 o e)
    · rw [upd_ne z]
      exact W.bt x o n e t
  · rw [upd_ne (Ne.symm h1)]
    exact pn.pen
  · rw [upd_ne (Ne.symm h2)]
    exact pn.cells
  · refine u x o (fun z => ?_) e
    rw [z, h4] at e
    exact n _ (Option.some.inj e).symm
  · obtain ⟨k1, k2, k3⟩ := W.kn q hq
    exact ⟨k1, k2, u _ _ (h5 q hq) k3⟩
  · rcases List.mem_cons.mp hm with rfl | hm
    · exact ⟨h1, h2, h3, upd_same, h5⟩
    · obtain ⟨k1, k2, k3, k4, k5⟩ := W.mu m (List.mem_cons_of_mem _ hm)
      exact ⟨k1, k2, k3, u _ _ (Ne.symm (dj.1 m hm)) k4, k5⟩
  · exact List.pairwise_cons.mpr ⟨dj.1, dj.2⟩
theorem Wd.add (W : Wd T p c ns H0 H b ps ms l) (s : SP) (h : s.P H) : Wd T p c ns H0 H b (s :: ps) ms l := by
  refine { W with im := fun q hq => ?_ }
  rcases List.mem_cons.mp hq with rfl | hq
  · exact h
  · exact W.im q hq
theorem Wd.know (W : Wd T p c ns H0 H b ps [] l) (h : H a = some o) (np : a ≠ p) (ho : nTb o) : Wd T p c ns H0 H b ps [] ((a, o) :: l) := { W with
  kn := fun q hq => by
    rcases List.mem_cons.mp hq with rfl | hq
    · exact ⟨np, ho, h⟩
    · exact W.kn q hq
  mu := fun m hm => by cases hm }
theorem Wd.at (W : Wd T p c ns H0 H b ps ms l) (h : (a, o) ∈ l := by repeat (first | exact List.Mem.head _ | apply List.Mem.tail)) : H a = some o := (W.kn _ h).2.2
theorem Wd.mat (W : Wd T p c ns H0 H b ps ((L, xs) :: ms) l) : H L = some (.lst xs) := (W.mu _ (List.mem_cons_self ..)).2.2.2.1
theorem Wd.al (W : Wd T p c ns H0 H b ps ms l) {n : Nat} {K : Addr → Hp → Prop} (k : ∀ a H', Wd T p c ns H0 H' b ps ms ((a, o) :: l) → K a H') (hz : n ≤ sizeLine := by exact Nat.le_of_ble_eq_true rfl) (ho : nTb o := by exact fun _ z => nomatch z) : Al n o H K :=
  ⟨hz, fun a h => k a _ (W.new h ho)⟩
theorem Wd.alM (W : Wd T p c ns H0 H b ps ms l) {n : Nat} {K : Addr → Hp → Prop} (k : ∀ a H', Wd T p c ns H0 H' b ps ((a, xs) :: ms) l → K a H') (hz : n ≤ sizeLine := by exact Nat.le_of_ble_eq_true rfl) : Al n (.lst xs) H K :=
  ⟨hz, fun a h => k a _ (W.newM h)⟩
theorem Wd.sub (W : Wd T p c ns H0 H b ps ms l) : Wd T p c ns H H b [] [] [] := ⟨ButN.refl _ _, W.pen, W.tb, fun _ h => (nomatch h), fun _ h => (nomatch h), fun _ h => (nomatch h), .nil⟩
/-- the end of a walk: what was carried is left -/
theorem Wd.sub' (W : Wd T p c ns H0 H b ps ms l) : Wd T p c ns H0 H b [] [] [] := ⟨W.bt, W.pen, W.tb, fun _ h => (nomatch h), fun _ h => (nomatch h), fun _ h => (nomatch h), .nil⟩
theorem Wd.back {ps' : List SP} {ms' : List (Addr × List V)} {l' : List (Addr × HO)} (W : Wd T p c ns H0 H b ps ms l) (U : Wd T p c ns H H' b' ps' ms' l') : Wd T p c ns H0 H' b' ps ms l := W.step U.bt U.pen U.tb
theorem Wd.draw {Q : VK} {E : XK} {n : Int} (W : Wd T p c ns H0 H b ps ms l) (k : ∀ d H', Wd T p c ns H0 H' (b + 1) ps ms l → 0 ≤ d → d < n → Q (.int d) H') (hb : b ≤ 10000 := by omega) (h1 : 1 ≤ n := by first | omega | decide) (h2 : n < 2 ^ 100 := by first | omega | decide) : spDraw [.ref p, .int n] H Q E := by
  obtain ⟨i, r, pn, hi⟩ := W.pen
  exact ⟨p, c, ns, i, r, n, rfl, pn, Int.le_trans hi hb, h1, h2, fun H' i' r' d u pen' g1 g2 d1 d2 => k d H' (W.but u pen' (by omega)) d1 d2⟩
theorem Wd.pick {Q : VK} {E : XK} (W : Wd T p c ns H0 H b ps ms l) (k : ∀ v H', Wd T p c ns H0 H' (b + 1) ps ms l → v ∈ xs → Q v H') (hm : (L, .lst xs) ∈ l := by repeat (first | exact List.Mem.head _ | apply List.Mem.tail)) (hb : b ≤ 10000 := by omega)
    (h1 : 1 ≤ xs.length := by exact Nat.le_of_ble_eq_true rfl) (h2 : xs.length ≤ 1000 := by exact Nat.le_of_ble_eq_true rfl) : spPick [.ref p, .ref L] H Q E := by
  obtain ⟨i, r, pn, hi⟩ := W.pen
  obtain ⟨k1, _, k3⟩ := W.kn _ hm
  exact ⟨p, c, L, ns, i, r, xs, rfl, pn, Int.le_trans hi hb, k1, k3, h1, h2, fun H' i' r' v u pen' g1 g2 hv => k v H' (W.but u pen' (by omega)) hv⟩
theorem Wd.lam {TT : (XK → Hp → VK → Prop) → Hp → VK → Prop} {t : XK → TE} {σ : SV} {Q : VK} (W : Wd T p c ns H0 H b ps ms l) (k : ∀ H1, Wd T p c ns H0 H1 b ps ms l → TT (fun E H' Q' => t E σ H' Q') H1 Q) : LamX.tLam T TT t σ H Q :=
  ⟨W.tb, fun H1 x1 tabs1 => k H1 (W.extN x1 tabs1)⟩
theorem Wd.fst {i r : Int} (pen : Pen H p c ns i r) (tb : LamX.Tabs T H) (h : i ≤ b) : Wd T p c ns H H b [] [] [] := ⟨ButN.refl _ _, ⟨i, r, pen, h⟩, tb, fun _ h => (nomatch h), fun _ h => (nomatch h), fun _ h => (nomatch h), .nil⟩
theorem Wd.app {Q : VK} {x : V} (W : Wd T p c ns H0 H b ps ((L, xs) :: ms) l) (k : ∀ H', Wd T p c ns H0 H' b ps ((L, xs ++ [x]) :: ms) l → Q .non H') (hz : xs.length < sizeLine := by exact Nat.le_of_ble_eq_true rfl) : rAppend (.ref L) [x] H Q :=
  ⟨L, _, _, rfl, rfl, W.mat, hz, k _ W.put⟩
end
end NB
/-! NWr: readings, one construct at a time, to be taken by their head. -/
namespace NB
open PySem L2
section
variable {σ : SV} {H : Hp} {D : Ends} {te ta tb : TE} {t : TA} {tt tu : TT} {ts t2 tv : TS} {Q : VK} {QA : List V → Hp → Prop} {QB : Bool → Hp → Prop} {i j : Nat} {v : V} {g : TG} {K : PySem.W.Frag} {C : Addr} {sp : Sp} {E : XK} {r : R2}
theorem q_sa (h : te σ H fun v H' => t2 D (σ.set i (some v)) H') : tSeq (tAsg te (gName i)) t2 D σ H := h
theorem q_sag (h : te σ H fun v H1 => g v σ H1 (t2 D)) : tSeq (tAsg te g) t2 D σ H := h
theorem q_sp (h : t σ H fun vs H1 => ∃ v w, vs = [v, w] ∧ t2 D ((σ.set i (some v)).set j (some w)) H1) : tSeq (tPar i j t) t2 D σ H := h
theorem q_sif0 (h : tt σ H fun b H1 => if b = true then ts { D with nx := t2 D } σ H1 else t2 D σ H1) : tSeq (tIfS tt ts tNext) t2 D σ H := h
theorem q_sif (h : tt σ H fun b H1 => if b = true then ts { D with nx := t2 D } σ H1 else tv { D with nx := t2 D } σ H1) : tSeq (tIfS tt ts tv) t2 D σ H := h
theorem q_if0 (h : tt σ H fun b H1 => if b = true then ts D σ H1 else D.nx σ H1) : tIfS tt ts tNext D σ H := h
theorem q_if (h : tt σ H fun b H1 => if b = true then ts D σ H1 else tv D σ H1) : tIfS tt ts tv D σ H := h
theorem q_sdrop (h : te σ H fun _ H1 => t2 D σ H1) : tSeq (tDrop te) t2 D σ H := h
theorem q_drop (h : te σ H fun _ H1 => D.nx σ H1) : tDrop te D σ H := h
theorem q_asg (h : te σ H fun v H' => D.nx (σ.set i (some v)) H') : tAsg te (gName i) D σ H := h
theorem q_ret (h : te σ H D.rt) : tRet te D σ H := h
theorem q_cons (h : te σ H fun x H1 => t σ H1 fun xs H2 => QA (x :: xs) H2) : tCons te t σ H QA := h
theorem q_nil (h : QA [] H) : tNil σ H QA := h
theorem q_op (h : ta σ H fun x H1 => tb σ H1 fun y H2 => r x y H2 Q) : tOp r ta tb σ H Q := h
theorem q_un {r : V → Hp → VK → Prop} (h : ta σ H fun x H1 => r x H1 Q) : tUn r ta σ H Q := h
theorem q_cb {rc : List V → Hp → VK → Prop} (h : t σ H fun vs H1 => rc vs H1 Q) : tCB rc t σ H Q := h
theorem q_var (h : σ[i]? = some (some v)) (q : Q v H) : tVar i σ H Q := ⟨v, h, q⟩
theorem q_c (q : Q v H) : tC v σ H Q := q
theorem q_ifE (h : tt σ H fun c H1 => if c = true then ta σ H1 Q else tb σ H1 Q) : tIf tt ta tb σ H Q := h
theorem q_b (h : te σ H fun x H1 => ∃ c, x = .bl c ∧ QB c H1) : tB te σ H QB := h
theorem q_test (h : te σ H fun x H' => ∃ k, x = .bl k ∧ QB k H') : tTest te σ H QB := h
theorem q_or (h : tt σ H fun c H1 => if c = true then QB true H1 else tu σ H1 QB) : tOr tt tu σ H QB := h
theorem q_and (h : tt σ H fun c H1 => if c = true then tu σ H1 QB else QB false H1) : tAnd tt tu σ H QB := h
theorem q_not (h : tt σ H fun c H1 => QB (!c) H1) : tNot tt σ H QB := h
theorem q_andV (h : ta σ H fun x H1 => ∃ c, x = .bl c ∧ if c = true then tb σ H1 Q else Q (.bl false) H1) : tAndV ta tb σ H Q := h
theorem q_orV (h : ta σ H fun x H1 => ∃ c, x = .bl c ∧ if c = true then Q (.bl true) H1 else tb σ H1 Q) : tOrV ta tb σ H Q := h
theorem q_notV (h : ta σ H fun x H1 => ∃ c, x = .bl c ∧ Q (.bl (!c)) H1) : tNotV ta σ H Q := h
theorem q_isN (h : ta σ H fun x H1 => Q (.bl (decide (x = .non))) H1) : tIsN ta σ H Q := h
theorem q_notN (h : ta σ H fun x H1 => Q (.bl (!decide (x = .non))) H1) : tNotN ta σ H Q := h
theorem q_call (h : t σ H fun vs H1 => sp vs H1 Q E) : tCall sp [] E t σ H Q := by
  unfold tCall
  simp only [List.append_nil]
  exact h
theorem q_make (h : t σ H fun vs H1 => ∀ x dx, H1 x = none → H1 dx = none → dx ≠ x → sp (.ref x :: vs) (upd (upd H1 dx (.own x)) x (.ins C dx [])) (fun v H2 => v = .non ∧ Q (.ref x) H2) E) : tMake C sp [] E t σ H Q := by
  unfold tMake
  simp only [List.append_nil]
  exact h
theorem q_meth {m : Str} (h : ta σ H fun x H1 => ∃ a dx fs, x = .ref a ∧ H1 a = some (.ins C dx fs) ∧ fs.lookup m = none ∧ t σ H1 fun vs H2 => sp (x :: vs) H2 Q E) : tMeth C m sp [] E ta t σ H Q := by
  unfold tMeth
  simp only [List.append_nil]
  exact h
theorem q_sfor {wi : TI} (h : tFor wi g ts { D with nx := t2 D } σ H) : tSeq (tFor wi g ts) t2 D σ H := h
theorem q_for {wi : TI} (h : wi σ H fun J H1 => ∃ W : Nat → Nat → L2.St → Hp → Prop, (∃ m, W 0 m σ H1) ∧ ∀ i m σ H, W i m σ H →
      (J.stop i H ∧ D.nx σ H) ∨ (J.go i H ∧ ∃ N : L2.St → Hp → Prop, (∀ σ' H', N σ' H' → ∃ m', m' < m ∧ W (i + 1) m' σ' H') ∧ ∀ x H', J.yld i H x H' → g x σ H' fun σ2 H2 => ts { D with nx := N, ct := N, bk := D.nx } σ2 H2)) : tFor wi g ts D σ H := h
theorem q_saug {ti : TIp} {x : V} (h0 : σ[i]? = some (some x)) (h : te σ H fun y H1 => ti x y H1 fun z H2 => t2 D (σ.set i (some z)) H2) : tSeq (tAug i te ti) t2 D σ H := ⟨x, h0, h⟩
theorem q_chain {r r' : R2} {tc : TE} (h : ta σ H fun x H1 => tb σ H1 fun y H2 => r x y H2 fun z H3 => ∃ k, z = .bl k ∧ (if k = true then tc σ H3 fun w' H4 => r' y w' H4 Q else Q (.bl false) H3)) : tChain r r' ta tb tc σ H Q := h
theorem q_sl {r : V → Option Int → Option Int → Hp → VK → Prop} {tl th : TO} (h : te σ H fun x H1 => tl σ H1 fun l H2 => th σ H2 fun u H3 => r x l u H3 Q) : tSl r te tl th σ H Q := h
theorem q_part {Q : Option Int → Hp → Prop} (h : te σ H fun x H1 => ∃ i, x = .int i ∧ Q (some i) H1) : tPart te σ H Q := h
theorem q_nopart {Q : Option Int → Hp → Prop} (h : Q none H) : tNoPart σ H Q := h
theorem q_fmt (h : te σ H fun x H1 => (∃ y : Str, x = .str y ∧ y.length ≤ sizeLine ∧ Q (.str y) H1) ∨ ∃ i : Int, x = .int i ∧ i.natAbs.log2 < 1920 ∧ Q (.str (toString i)) H1) : tFmt te σ H Q := h
theorem q_dnew (h : Al 0 (.dK []) H fun a H2 => Q (.ref a) H2) : tDNewK σ H Q := h.2
theorem q_i0 {f : Int → Int → V} {i j : Int} (q : Q (f i j) H) : rI0 f (.int i) (.int j) H Q := ⟨i, j, rfl, rfl, q⟩
theorem q_u {f : Int → V} {i : Int} (q : Q (f i) H) : rU f (.int i) H Q := ⟨i, rfl, q⟩
theorem q_i {f : Int → Int → V} {P : Int → Int → Prop} {i j : Int} (p : P i j) (q : Q (f i j) H) : rI P f (.int i) (.int j) H Q := ⟨i, j, rfl, rfl, p, q⟩
theorem q_eq {x y : V} (h : scal x y = true) (q : Q (.bl (decide (x = y))) H) : rEq x y H Q := ⟨h, q⟩
theorem q_ne {x y : V} (h : scal x y = true) (q : Q (.bl (!decide (x = y))) H) : rNe x y H Q := ⟨h, q⟩
theorem q_bl {b : Bool} {P : Bool → Prop} (h : P b) : ∃ k, (V.bl b : V) = .bl k ∧ P k := ⟨b, rfl, h⟩
theorem q_in {b : Int} {P : Int → Prop} (h : P b) : ∃ k, (V.int b : V) = .int k ∧ P k := ⟨b, rfl, h⟩
theorem q_two {x y : V} {P : V → V → Prop} (h : P x y) : ∃ v w, [x, y] = [v, w] ∧ P v w := ⟨x, y, rfl, h⟩
theorem q_iT {A B : Prop} (h : A) : if true = true then A else B := by
  rw [if_pos rfl]
  exact h
theorem q_iF {A B : Prop} (h : B) : if false = true then A else B := by
  rw [if_neg Bool.false_ne_true]
  exact h
theorem q_nT {A B : Prop} (h : B) : if (!true) = true then A else B := q_iF h
theorem q_nF {A B : Prop} (h : A) : if (!false) = true then A else B := q_iT h
theorem q_int1 {i : Int} (q : Q (.int i) H) : (∃ i', [V.int i] = [.int i'] ∧ Q (.int i') H) ∨ ∃ k, [V.int i] = [.bl k] ∧ Q (.int (if k then 1 else 0)) H := .inl ⟨i, rfl, q⟩
theorem q_pow {i j : Int} (p : CPow i j) (q : Q (.int (i ^ j.toNat)) H) : rI CPow (fun i j => .int (i ^ j.toNat)) (.int i) (.int j) H Q := ⟨i, j, rfl, rfl, p, q⟩
theorem q_yes (h : QB true H) : tYes σ H QB := h
theorem q_rng1 {n : Int} {R : It → Hp → Prop} (h1 : -(2 ^ 62) ≤ n) (h2 : n < 2 ^ 62) (q : R (Itr 0 n.toNat) H) : ∃ j : Int, [V.int n] = [.int j] ∧ -(2 ^ 62) ≤ j ∧ j < 2 ^ 62 ∧ R (Itr 0 j.toNat) H := ⟨n, rfl, h1, h2, q⟩
theorem q_tb {to : TE} {T : String} {r : V → List V → Hp → VK → Prop} {t : TA} (h : to σ H fun x H1 => tyV K T x H1 ∧ t σ H1 fun xs H2 => r x xs H2 Q) : tBM K T r to t σ H Q := h
/-- xs.append(..) -/
theorem q_app {i : Nat} {L : Addr} {xs : List V} {ta : TA} (h0 : σ[i]? = some (some (.ref L))) (hL : H L = some (.lst xs)) (h : ta σ H fun vs H2 => rAppend (.ref L) vs H2 Q) : tBM K "list" rAppend (tVar i) ta σ H Q :=
  ⟨_, h0, .inl ⟨rfl, xs, SqL.of hL⟩, h⟩
end
/-- what is known, without the pen -/
def KnL (l : List (Addr × HO)) (H : Hp) : Prop := ∀ q ∈ l, H q.1 = some q.2
theorem KnL.at {l : List (Addr × HO)} {H : Hp} {a : Addr} {o : HO} (k : KnL l H) (h : (a, o) ∈ l := by repeat (first | exact List.Mem.head _ | apply List.Mem.tail)) : H a = some o := k _ h
section
variable {T : List (Addr × Str)} {p c : Addr} {ns : List Int} {H0 H H' : Hp} {b b' : Int} {ps : List SP} {ms : List (Addr × List V)} {l l0 : List (Addr × HO)}
theorem Wd.kl (W : Wd T p c ns H0 H b ps ms l) (h : ∀ q, q ∈ l0 → q ∈ l := by (intro q hq; repeat (first | exact hq | apply List.mem_cons_of_mem))) : KnL l0 H := fun q hq => (W.kn q (h q hq)).2.2
theorem Wd.all (W : Wd T p c ns H0 H b ps ms l) {P : Hp → Prop} (f : ∀ H, KnL l H → P H) : ∀ H, KnL l H → P H := f
/-- a turn of a law: it draws from the pen and says True -/
def spTurn (T : List (Addr × Str)) (n : Int) : Sp := fun vs H Q _ => ∃ (p c : Addr) (ns : List Int) (b : Int), vs = [.ref p] ∧ Wd T p c ns H H b [] [] [] ∧ b ≤ 9000 ∧ ∀ H', Wd T p c ns H H' (b + n) [] [] [] → Q (.bl true) H'
theorem Wd.turn {Q : VK} {E : XK} {n : Int} (W : Wd T p c ns H0 H b ps ms l) (k : ∀ H', Wd T p c ns H0 H' (b + n) ps ms l → Q (.bl true) H') (hb : b ≤ 9000 := by omega) : spTurn T n [.ref p] H Q E :=
  ⟨p, c, ns, b, rfl, W.sub, hb, fun H' U => k H' (W.back U)⟩
end
end NB
/-! NBx: for x in range(i, j), any integers; comprehensions over a range, told by a filter and a map. -/
namespace NB
open PySem PySem.Spec PyProof.Rows L2
theorem turn_long {P : Program} {w : World} {K : PySem.W.Frag} {tg : Expr} (it : Addr) (lo : Int) (n : Nat) : Turn P w K tg (Itr lo n) [it] it (fun i h => IsLongIter h it (lo + (i : Nat) * 1) ((n : Int) - (i : Nat)) 1) where
  mem := by simp
  obj := fun i h st b hb => by
    obtain rfl : b = it := by simpa using hb
    exact ⟨_, st, fun v z => by cases (show Data.fields _ = Data.cell v from z)⟩
  keep := fun i h h' st k => k it (by simp) _ st
  item := by
    intro X hP hw hK hc i pins s σ H E I hf st hg
    subst hP hw hK
    obtain ⟨f0, f1, f2, f3, f4, f5⟩ := hf it (by simp)
    refine (Walks.longrange (prog := X.prog) (w := X.w) (I.ok.hd hc) it lo 1 n).item i s _ _ hg st fun v h' tk hv st' kk => ?_
    obtain ⟨t, rfl⟩ := hv
    have I1 : Inv X pins σ H { s with heap := h', toks := tk } := I.turned (fun b o hb e => kk b o (by simpa using hb) e) f0 f1 f3 f4 f5
    exact ⟨_, rfl, go_of (s := { s with heap := h', toks := tk }) (n := "longrange_iterator") st' rfl rfl (by decide) ⟨.int (lo + i), H, I1, ⟨t, by rw [Int.mul_one]⟩, ⟨rfl, rfl⟩, st', fun b hb => (hf b hb).1⟩⟩
  done := by
    intro X hP hw hK hc i pins s σ H E I hf st hg
    subst hP hw hK
    obtain ⟨f0, f1, f2, f3, f4, f5⟩ := hf it (by simp)
    exact wpAny_pyNext_long_end (I.ok.hd hc) st (by have : n ≤ i := hg; omega) fun h' eb => ⟨rfl, I.turned (t' := s.toks) (fun b o hb e => eb b o hb e) f0 f1 f3 f4 f5⟩
  self := fun _ _ _ _ _ st h => wpAny_pyIter_longiter st h
section
variable {X : Cx} {tg : Expr}
theorem range_any {pins : List (Addr × Obj)} {σ : L2.St} {H : Hp} {s : Shared} {R : It → Hp → Prop} {E : Value → Shared → Prop} {lo hi : Int} {t u v : Tok} {tk : Nat} (I : Inv X pins σ H s) (q : R (Itr lo (hi - lo).toNat) H) :
    wpAny (model X.prog X.w) X.A (pyIter (.ref s.heap.objs.size)) (PIE X pins σ tg R) E { s with heap := s.heap.push { cls := .type "range", data := .fields #[.int lo t, .int hi u, .int 1 v] }, toks := tk } := by
  have I1 : Inv X pins σ H { s with heap := s.heap.push { cls := .type "range", data := .fields #[.int lo t, .int hi u, .int 1 v] }, toks := tk } := I.kept fun b o e => Heap.get?_push_of_some _ e
  have e1 : lo + ((0 : Nat) : Int) * 1 = lo := by simp
  have e2 : (((hi - lo).toNat : Nat) : Int) - ((0 : Nat) : Int) = Builtin.Range.rangeSize lo hi 1 := by rw [rangeSize_one]; split <;> omega
  have fp : ∀ b ∈ [(s.heap.push { cls := .type "range", data := .fields #[.int lo t, .int hi u, .int 1 v] }).objs.size], FpOk X pins H b := fun b hb => by
    obtain rfl : b = _ := List.mem_singleton.mp hb
    exact I1.fpOk (Nat.le_refl _) (I1.hok.fresh (Nat.le_refl _))
  by_cases hsm : Builtin.Range.small lo hi 1 = true
  · refine wpAny_pyIter_range (IsRange.new ..) hsm ?_
    refine ⟨_, [_], _, _, H, rfl, I1.kept (t' := tk) fun b o e => Heap.get?_push_of_some _ e, turn_range _ lo (hi - lo).toNat, ?_, fp, q⟩
    show IsRangeIter _ _ (lo + ((0 : Nat) : Int) * 1) ((((hi - lo).toNat : Nat) : Int) - ((0 : Nat) : Int)) 1
    rw [e1, e2]
    exact Heap.get?_push_size _ rfl
  · have hsm : Builtin.Range.small lo hi 1 = false := eq_false_of_ne_true hsm
    refine wpAny_pyIter_longrange (IsRange.new ..) hsm ?_
    refine ⟨_, [_], _, _, H, rfl, I1.kept (t' := tk) fun b o e => Heap.get?_push_of_some _ e, turn_long _ lo (hi - lo).toNat, ?_, fp, q⟩
    show IsLongIter _ _ (lo + ((0 : Nat) : Int) * 1) ((((hi - lo).toNat : Nat) : Int) - ((0 : Nat) : Int)) 1
    rw [e1, e2]
    exact Heap.get?_push_size _ rfl
def iRngA (ta : TA) : TI := fun σ H R => ta σ H fun vs H1 => ∃ i j : Int, vs = [.int i, .int j] ∧ R (Itr i (j - i).toNat) H1
theorem pi_rangeA {a b : Expr} {ta : TA} {p pos : Pos} (hg : Gl X "range") (hm : X.mg "range" = none) (ha : PA X [a, b] ta) (hs : starEach [a, b] X.env = [(false, eval a X.env), (false, eval b X.env)] := by rfl) (hs2 : starEach [b] X.env = [(false, eval b X.env)] := by rfl) :
    PI X tg (.Call (.Name "range" p) [a, b] [] pos) (iRngA ta) := by
  refine ⟨fun pins s σ H R I h => ?_⟩
  refine Call_ (ld_blt I hg hm boot_range (callWith_type1 (thn (ha.run pos pins s σ H _ I h) fun us s1 ⟨vs, H1, I1, r1, q1⟩ => ?_) (by rw [hs, hs2]) (by rw [hs2]; rfl)))
  obtain ⟨i, j, e, q⟩ := q1
  subst e
  cases r1 with
  | cons r rr =>
    cases rr with
    | cons r' rr =>
      cases rr
      obtain ⟨t, rfl⟩ := r
      obtain ⟨t', rfl⟩ := r'
      exact call_range_2 (range_any I1 q)
end
section
variable {lo : Int} {n : Nat} {D : Addr} {tt : TT} {te : TE} {vs : List Nat} {σ : SV} {H1 : Hp} {Qd : Hp → Prop} {j : Nat}
/-- what range(lo, lo + n) gives -/
abbrev rgN (lo : Int) (n : Nat) : List Int := (List.range n).map fun (i : Nat) => lo + (i : Int)
/-- [e for x in range(..) if t] -/
theorem lc_filR (p : Int → Bool) (F : Int → V) (hD : H1 D = none) (hn : n < sizeLine) (hw : ∀ x, wipe ((wipe σ vs).set j (some x)) vs = wipe σ vs)
    (htt : ∀ k ∈ rgN lo n, ∀ (H' : Hp) (Q : Bool → Hp → Prop), Same H1 H' → Q (p k) H' → tt ((wipe σ vs).set j (some (.int k))) H' Q)
    (hel : ∀ k ∈ rgN lo n, p k = true → ∀ (H' : Hp) (Q : VK), Same H1 H' → Q (F k) H' → te ((wipe σ vs).set j (some (.int k))) H' Q) (hd : Qd (upd H1 D (.lst (((rgN lo n).filter p).map F)))) :
    ∃ W : Nat → Nat → Hp → Prop, (∃ m, W 0 m (upd H1 D (.lst []))) ∧ ∀ i m H, W i m H →
      ((Itr lo n).stop i H ∧ Qd H) ∨ ((Itr lo n).go i H ∧ ∃ Nx : Hp → Prop, (∀ H', Nx H' → ∃ m', m' < m ∧ W (i + 1) m' H') ∧ ∀ x H', (Itr lo n).yld i H x H' → gName j x (wipe σ vs) H' fun σ2 H2 => wipe σ2 vs = wipe σ vs ∧ tt σ2 H2 fun b H3 =>
        if b = true then te σ2 H3 fun y H4 => ∃ acc, H4 D = some (.lst acc) ∧ acc.length < sizeLine ∧ Nx (upd H4 D (.lst (acc ++ [y]))) else Nx H3) := by
  refine ⟨fun i m H => m = n - i ∧ i ≤ n ∧ H = upd H1 D (.lst (((rgN lo i).filter p).map F)), ⟨_, rfl, Nat.zero_le _, rfl⟩, ?_⟩
  rintro i m H ⟨rfl, hi, rfl⟩
  have es : rgN lo (i + 1) = rgN lo i ++ [lo + (i : Int)] := by
    unfold rgN
    rw [List.range_succ, List.map_append]
    rfl
  by_cases hlt : i < n
  · refine .inr ⟨hlt, fun H' => H' = upd H1 D (.lst (((rgN lo (i + 1)).filter p).map F)), fun H' e => ⟨_, by omega, rfl, hlt, e⟩, ?_⟩
    rintro x H' ⟨rfl, rfl⟩
    have mem : lo + (i : Int) ∈ rgN lo n := List.mem_map.mpr ⟨i, List.mem_range.mpr hlt, rfl⟩
    have sD := same_new (o := .lst (((rgN lo i).filter p).map F)) (Same.refl H1) hD
    refine ⟨hw _, htt _ mem _ _ sD ?_⟩
    refine ite2 (fun b => hel _ mem b _ _ sD ⟨_, upd_same, ?_, ?_⟩) (fun b => ?_)
    · rw [List.length_map]
      have := List.length_filter_le p (rgN lo i)
      rw [List.length_map, List.length_range] at this
      omega
    · rw [upd_upd, es, List.filter_append, List.map_append, List.filter_cons_of_pos (p := p) (a := lo + (i : Int)) (l := []) b]
      rfl
    · rw [es, List.filter_append, List.filter_cons_of_neg (p := p) (a := lo + (i : Int)) (l := []) b, List.filter_nil, List.append_nil]
  · have e : i = n := by omega
    subst e
    exact .inl ⟨Nat.le_refl _, hd⟩
end
end NB
/-! NWc: comprehensions within the walk of a law's def (printed by gwc.py). -/
namespace NB
open PySem L2
theorem q_lc {wi : TI} {g : TG} {tt : TT} {te : TE} {vs : List Nat} {σ : SV} {H : Hp} {Q : VK} (h : wi σ H fun J H1 => ∀ D, H1 D = none → ∃ W : Nat → Nat → Hp → Prop, (∃ m, W 0 m (upd H1 D (.lst []))) ∧ ∀ i m H, W i m H →
  (J.stop i H ∧ Q (.ref D) H) ∨ (J.go i H ∧ ∃ Nx : Hp → Prop, (∀ H', Nx H' → ∃ m', m' < m ∧ W (i + 1) m' H') ∧ ∀ x H', J.yld i H x H' → g x (wipe σ vs) H' fun σ2 H2 => wipe σ2 vs = wipe σ vs ∧ tt σ2 H2 fun b H3 =>
    if b = true then te σ2 H3 fun y H4 => ∃ acc, H4 D = some (.lst acc) ∧ acc.length < sizeLine ∧ Nx (upd H4 D (.lst (acc ++ [y]))) else Nx H3)) : tLc wi g tt te vs σ H Q := h
theorem q_iR1 {ta : TA} {σ : SV} {H : Hp} {R : It → Hp → Prop} (h : ta σ H fun vs H1 => ∃ j : Int, vs = [.int j] ∧ -(2 ^ 62) ≤ j ∧ j < 2 ^ 62 ∧ R (Itr 0 j.toNat) H1) : iRng1 ta σ H R := h
theorem q_iR2 {ta : TA} {σ : SV} {H : Hp} {R : It → Hp → Prop} (h : ta σ H fun vs H1 => ∃ i j : Int, vs = [.int i, .int j] ∧ (-(2 ^ 62) ≤ i ∧ i < 2 ^ 62 ∧ -(2 ^ 62) ≤ j ∧ j < 2 ^ 62) ∧ R (Itr i (j - i).toNat) H1) : iRng2 ta σ H R := h
theorem q_iRA {ta : TA} {σ : SV} {H : Hp} {R : It → Hp → Prop} (h : ta σ H fun vs H1 => ∃ i j : Int, vs = [.int i, .int j] ∧ R (Itr i (j - i).toNat) H1) : iRngA ta σ H R := h
theorem q_r1 {n : Int} {R : It → Hp → Prop} {H : Hp} (h1 : -(2 ^ 62) ≤ n) (h2 : n < 2 ^ 62) (q : R (Itr 0 n.toNat) H) : ∃ j : Int, [V.int n] = [.int j] ∧ -(2 ^ 62) ≤ j ∧ j < 2 ^ 62 ∧ R (Itr 0 j.toNat) H := ⟨n, rfl, h1, h2, q⟩
theorem q_r1N {n : Nat} {R : It → Hp → Prop} {H : Hp} (h2 : n ≤ 1000000) (q : R (Itr 0 n) H) : ∃ j : Int, [V.int (n : Int)] = [.int j] ∧ -(2 ^ 62) ≤ j ∧ j < 2 ^ 62 ∧ R (Itr 0 j.toNat) H := ⟨n, rfl, by omega, by omega, q⟩
theorem q_rA {n m : Int} {R : It → Hp → Prop} {H : Hp} (q : R (Itr n (m - n).toNat) H) : ∃ i j : Int, [V.int n, V.int m] = [.int i, .int j] ∧ R (Itr i (j - i).toNat) H := ⟨n, m, rfl, q⟩
theorem q_iL {K : PySem.W.Frag} {te : TE} {σ : SV} {H : Hp} {R : It → Hp → Prop} (h : te σ H fun x H1 => ∃ a, x = .ref a ∧ (∃ xs, SqL K H1 a xs) ∧ R (Itl K a) H1) : iList K te σ H R := h
theorem q_iT2 {K : PySem.W.Frag} {te : TE} {σ : SV} {H : Hp} {R : It → Hp → Prop} (h : te σ H fun x H1 => ∃ a, x = .ref a ∧ (∃ xs, SqT K H1 a xs) ∧ R (Itt K a) H1) : iTup K te σ H R := h
theorem q_xL {K : PySem.W.Frag} {a : Addr} {xs : List V} {H : Hp} {R : It → Hp → Prop} (h : H a = some (.lst xs)) (q : R (Itl K a) H) : ∃ a', V.ref a = .ref a' ∧ (∃ xs, SqL K H a' xs) ∧ R (Itl K a') H := ⟨a, rfl, ⟨xs, SqL.of h⟩, q⟩
theorem q_xT {K : PySem.W.Frag} {a : Addr} {xs : List V} {H : Hp} {R : It → Hp → Prop} (h : H a = some (.tup xs)) (q : R (Itt K a) H) : ∃ a', V.ref a = .ref a' ∧ (∃ xs, SqT K H a' xs) ∧ R (Itt K a') H := ⟨a, rfl, ⟨xs, .inl (.inl h)⟩, q⟩
section
variable {T : List (Addr × Str)} {p c : Addr} {ns : List Int} {H0 H H' : Hp} {b b' : Int} {ps : List SP} {ms : List (Addr × List V)} {l l0 : List (Addr × HO)} {K : PySem.W.Frag} {tt : TT} {te : TE} {vs : List Nat} {σ : SV} {j : Nat} {Qd : Addr → Hp → Prop}
/-- what is known less -/
theorem Wd.fg (W : Wd T p c ns H0 H b ps ms l) (h : ∀ q, q ∈ l0 → q ∈ l := by (intro q hq; repeat (first | exact hq | apply List.mem_cons_of_mem))) : Wd T p c ns H0 H b ps ms l0 :=
  ⟨W.bt, W.pen, W.tb, W.im, fun q hq => W.kn q (h q hq), fun m hm => ⟨(W.mu m hm).1, (W.mu m hm).2.1, (W.mu m hm).2.2.1, (W.mu m hm).2.2.2.1, fun q hq => (W.mu m hm).2.2.2.2 q (h q hq)⟩, W.dj⟩
/-- a list that is written no more -/
theorem Wd.frz {L : Addr} {xs : List V} (W : Wd T p c ns H0 H b ps ((L, xs) :: ms) l) : Wd T p c ns H0 H b ps ms ((L, .lst xs) :: l) := by
  have dj := List.pairwise_cons.mp W.dj
  obtain ⟨h1, h2, h3, h4, h5⟩ := W.mu (L, xs) (List.mem_cons_self ..)
  refine ⟨W.bt, W.pen, W.tb, W.im, fun q hq => ?_, fun m hm => ?_, dj.2⟩
  · rcases List.mem_cons.mp hq with rfl | hq
    · exact ⟨h1, (fun _ z => nomatch z), h4⟩
    · exact W.kn q hq
  · obtain ⟨k1, k2, k3, k4, k5⟩ := W.mu m (List.mem_cons_of_mem _ hm)
    refine ⟨k1, k2, k3, k4, fun q hq => ?_⟩
    rcases List.mem_cons.mp hq with rfl | hq
    · exact dj.1 m hm
    · exact k5 q hq
theorem Wd.alS {o : HO} (W : Wd T p c ns H0 H b ps ms l) {n : Nat} {K : Addr → Hp → Prop} (k : ∀ a H', Same H H' → Wd T p c ns H0 H' b ps ms ((a, o) :: l) → K a H') (hz : n ≤ sizeLine := by exact Nat.le_of_ble_eq_true rfl) (ho : nTb o := by exact fun _ z => nomatch z) : Al n o H K :=
  ⟨hz, fun a h => k a _ (same_new (Same.refl H) h) (W.new h ho)⟩
theorem Kp.of {H H' : Hp} (s : Same H H') : Kp H H' := fun x o e _ _ => s x o e
theorem Kp.put {H : Hp} {L : Addr} {xs ys : List V} (h : H L = some (.lst xs)) : Kp H (upd H L (.lst ys)) := fun x o e n _ => by
  have ne : x ≠ L := fun z => by
    rw [z, h] at e
    exact n xs (Option.some.inj e).symm
  rw [upd_ne ne]
  exact e
/-- [e for x in range(..) if t] -/
theorem Wd.lcR {lo : Int} {n : Nat} (W : Wd T p c ns H0 H b ps ms l) (k : Int) (Φ : Nat → List V → Hp → Prop) (st : ∀ i acc H H', Kp H H' → Φ i acc H → Φ i acc H') (h0 : ∀ H, Φ 0 [] H) (hn : n ≤ 1000) (hw : ∀ x, wipe ((wipe σ vs).set j (some x)) vs = wipe σ vs)
    (step : ∀ (i : Nat), i < n → ∀ D acc H', Wd T p c ns H0 H' (b + (i : Int) * k) ps ((D, acc) :: ms) l → Φ i acc H' → acc.length ≤ i → ∀ (Qe : VK) (Qn : Hp → Prop), (∀ y H4, Wd T p c ns H0 H4 (b + ((i : Int) + 1) * k) ps ((D, acc) :: ms) l → Φ (i + 1) (acc ++ [y]) H4 → Qe y H4) →
      (∀ H3, Wd T p c ns H0 H3 (b + ((i : Int) + 1) * k) ps ((D, acc) :: ms) l → Φ (i + 1) acc H3 → Qn H3) → tt ((wipe σ vs).set j (some (.int (lo + (i : Int))))) H' fun bb H3 => if bb = true then te ((wipe σ vs).set j (some (.int (lo + (i : Int))))) H3 Qe else Qn H3)
    (done : ∀ D acc H', Wd T p c ns H0 H' (b + ((n : Nat) : Int) * k) ps ((D, acc) :: ms) l → Φ (n) acc H' → Qd D H') : ∀ D, H D = none → ∃ W : Nat → Nat → Hp → Prop, (∃ m, W 0 m (upd H D (.lst []))) ∧ ∀ i m H, W i m H →
      ((Itr lo n).stop i H ∧ Qd D H) ∨ ((Itr lo n).go i H ∧ ∃ Nx : Hp → Prop, (∀ H', Nx H' → ∃ m', m' < m ∧ W (i + 1) m' H') ∧ ∀ x H', (Itr lo n).yld i H x H' → gName j x (wipe σ vs) H' fun σ2 H2 => wipe σ2 vs = wipe σ vs ∧ tt σ2 H2 fun b H3 =>
        if b = true then te σ2 H3 fun y H4 => ∃ acc, H4 D = some (.lst acc) ∧ acc.length < sizeLine ∧ Nx (upd H4 D (.lst (acc ++ [y]))) else Nx H3) := by
  intro D hD
  refine lc_range (lo := lo) (n := n) (fun i H' => ∃ acc, Wd T p c ns H0 H' (b + (i : Int) * k) ps ((D, acc) :: ms) l ∧ Φ i acc H' ∧ acc.length ≤ i) ⟨[], by rw [show b + ((0 : Nat) : Int) * k = b by simp]; exact W.newM hD, h0 _, Nat.le_refl _⟩ ?_ ?_
  · rintro i H' hi ⟨acc, W1, f1, la⟩
    refine ⟨hw _, step i hi D acc H' W1 f1 la _ _ (fun y H4 W4 f4 => ⟨acc, W4.mat, ?_, acc ++ [y], W4.put, st _ _ _ _ (Kp.put W4.mat) f4, ?_⟩) (fun H3 W3 f3 => ⟨acc, W3, f3, by omega⟩)⟩
    · rw [sizeLine_eq]
      skip
      omega
    · rw [List.length_append]
      show acc.length + 1 ≤ i + 1
      omega
  · rintro H' ⟨acc, W1, f1, la⟩
    exact done D acc H' W1 f1
/-- [e for x in xs if t] -/
theorem Wd.lcL {a : Addr} {xs : List V} (W : Wd T p c ns H0 H b ps ms l) (k : Int) (Φ : Nat → List V → Hp → Prop) (st : ∀ i acc H H', Kp H H' → Φ i acc H → Φ i acc H') (h0 : ∀ H, Φ 0 [] H) (hm : (a, .lst xs) ∈ l) (hn : xs.length ≤ 1000) (hw : ∀ x, wipe ((wipe σ vs).set j (some x)) vs = wipe σ vs)
    (step : ∀ (i : Nat) (x : V), xs[i]? = some x → ∀ D acc H', Wd T p c ns H0 H' (b + (i : Int) * k) ps ((D, acc) :: ms) l → Φ i acc H' → acc.length ≤ i → ∀ (Qe : VK) (Qn : Hp → Prop), (∀ y H4, Wd T p c ns H0 H4 (b + ((i : Int) + 1) * k) ps ((D, acc) :: ms) l → Φ (i + 1) (acc ++ [y]) H4 → Qe y H4) →
      (∀ H3, Wd T p c ns H0 H3 (b + ((i : Int) + 1) * k) ps ((D, acc) :: ms) l → Φ (i + 1) acc H3 → Qn H3) → tt ((wipe σ vs).set j (some x)) H' fun bb H3 => if bb = true then te ((wipe σ vs).set j (some x)) H3 Qe else Qn H3)
    (done : ∀ D acc H', Wd T p c ns H0 H' (b + ((xs.length : Nat) : Int) * k) ps ((D, acc) :: ms) l → Φ (xs.length) acc H' → Qd D H') : ∀ D, H D = none → ∃ W : Nat → Nat → Hp → Prop, (∃ m, W 0 m (upd H D (.lst []))) ∧ ∀ i m H, W i m H →
      ((Itl K a).stop i H ∧ Qd D H) ∨ ((Itl K a).go i H ∧ ∃ Nx : Hp → Prop, (∀ H', Nx H' → ∃ m', m' < m ∧ W (i + 1) m' H') ∧ ∀ x H', (Itl K a).yld i H x H' → gName j x (wipe σ vs) H' fun σ2 H2 => wipe σ2 vs = wipe σ vs ∧ tt σ2 H2 fun b H3 =>
        if b = true then te σ2 H3 fun y H4 => ∃ acc, H4 D = some (.lst acc) ∧ acc.length < sizeLine ∧ Nx (upd H4 D (.lst (acc ++ [y]))) else Nx H3) := by
  intro D hD
  refine lc_list (K := K) (a := a) (xs := xs) (fun i H' => ∃ acc, Wd T p c ns H0 H' (b + (i : Int) * k) ps ((D, acc) :: ms) l ∧ Φ i acc H' ∧ acc.length ≤ i) ⟨[], by rw [show b + ((0 : Nat) : Int) * k = b by simp]; exact W.newM hD, h0 _, Nat.le_refl _⟩ (fun i H' _ h => SqL.of (h.choose_spec.1.kn _ hm).2.2) ?_ ?_
  · rintro i x H' hi ⟨acc, W1, f1, la⟩
    refine ⟨hw _, step i x hi D acc H' W1 f1 la _ _ (fun y H4 W4 f4 => ⟨acc, W4.mat, ?_, acc ++ [y], W4.put, st _ _ _ _ (Kp.put W4.mat) f4, ?_⟩) (fun H3 W3 f3 => ⟨acc, W3, f3, by omega⟩)⟩
    · rw [sizeLine_eq]
      have := (List.getElem?_eq_some_iff.mp hi).1
      omega
    · rw [List.length_append]
      show acc.length + 1 ≤ i + 1
      omega
  · rintro H' ⟨acc, W1, f1, la⟩
    exact done D acc H' W1 f1
/-- [e for x in a tuple if t] -/
theorem Wd.lcT {a : Addr} {xs : List V} (W : Wd T p c ns H0 H b ps ms l) (k : Int) (Φ : Nat → List V → Hp → Prop) (st : ∀ i acc H H', Kp H H' → Φ i acc H → Φ i acc H') (h0 : ∀ H, Φ 0 [] H) (hm : (a, .tup xs) ∈ l) (hn : xs.length ≤ 1000) (hw : ∀ x, wipe ((wipe σ vs).set j (some x)) vs = wipe σ vs)
    (step : ∀ (i : Nat) (x : V), xs[i]? = some x → ∀ D acc H', Wd T p c ns H0 H' (b + (i : Int) * k) ps ((D, acc) :: ms) l → Φ i acc H' → acc.length ≤ i → ∀ (Qe : VK) (Qn : Hp → Prop), (∀ y H4, Wd T p c ns H0 H4 (b + ((i : Int) + 1) * k) ps ((D, acc) :: ms) l → Φ (i + 1) (acc ++ [y]) H4 → Qe y H4) →
      (∀ H3, Wd T p c ns H0 H3 (b + ((i : Int) + 1) * k) ps ((D, acc) :: ms) l → Φ (i + 1) acc H3 → Qn H3) → tt ((wipe σ vs).set j (some x)) H' fun bb H3 => if bb = true then te ((wipe σ vs).set j (some x)) H3 Qe else Qn H3)
    (done : ∀ D acc H', Wd T p c ns H0 H' (b + ((xs.length : Nat) : Int) * k) ps ((D, acc) :: ms) l → Φ (xs.length) acc H' → Qd D H') : ∀ D, H D = none → ∃ W : Nat → Nat → Hp → Prop, (∃ m, W 0 m (upd H D (.lst []))) ∧ ∀ i m H, W i m H →
      ((Itt K a).stop i H ∧ Qd D H) ∨ ((Itt K a).go i H ∧ ∃ Nx : Hp → Prop, (∀ H', Nx H' → ∃ m', m' < m ∧ W (i + 1) m' H') ∧ ∀ x H', (Itt K a).yld i H x H' → gName j x (wipe σ vs) H' fun σ2 H2 => wipe σ2 vs = wipe σ vs ∧ tt σ2 H2 fun b H3 =>
        if b = true then te σ2 H3 fun y H4 => ∃ acc, H4 D = some (.lst acc) ∧ acc.length < sizeLine ∧ Nx (upd H4 D (.lst (acc ++ [y]))) else Nx H3) := by
  intro D hD
  refine lc_tup (K := K) (a := a) (xs := xs) (fun i H' => ∃ acc, Wd T p c ns H0 H' (b + (i : Int) * k) ps ((D, acc) :: ms) l ∧ Φ i acc H' ∧ acc.length ≤ i) ⟨[], by rw [show b + ((0 : Nat) : Int) * k = b by simp]; exact W.newM hD, h0 _, Nat.le_refl _⟩ (fun i H' _ h => .inl (.inl (h.choose_spec.1.kn _ hm).2.2)) ?_ ?_
  · rintro i x H' hi ⟨acc, W1, f1, la⟩
    refine ⟨hw _, step i x hi D acc H' W1 f1 la _ _ (fun y H4 W4 f4 => ⟨acc, W4.mat, ?_, acc ++ [y], W4.put, st _ _ _ _ (Kp.put W4.mat) f4, ?_⟩) (fun H3 W3 f3 => ⟨acc, W3, f3, by omega⟩)⟩
    · rw [sizeLine_eq]
      have := (List.getElem?_eq_some_iff.mp hi).1
      omega
    · rw [List.length_append]
      show acc.length + 1 ≤ i + 1
      omega
  · rintro H' ⟨acc, W1, f1, la⟩
    exact done D acc H' W1 f1
end
end NB
namespace NB
open PySem L2
theorem take_next {α : Type} {xs : List α} {i : Nat} {x : α} (h : xs[i]? = some x) : xs.take (i + 1) = xs.take i ++ [x] := by
  rw [List.take_add_one, h]
  rfl
section
variable {K : PySem.W.Frag} {a D : Addr} {xs : List V} {te : TE} {vs : List Nat} {σ : SV} {H1 : Hp} {Qd : Hp → Prop} {j : Nat}
/-- [e for x in l], e told by F -/
theorem lc_mapL (F : V → V) (hD : H1 D = none) (hsq : H1 a = some (.lst xs)) (hn : xs.length < sizeLine) (hw : ∀ x, wipe ((wipe σ vs).set j (some x)) vs = wipe σ vs)
    (hel : ∀ x ∈ xs, ∀ (H' : Hp) (Q : VK), Same H1 H' → Q (F x) H' → te ((wipe σ vs).set j (some x)) H' Q) (hd : Qd (upd H1 D (.lst (xs.map F)))) :
    ∃ W : Nat → Nat → Hp → Prop, (∃ m, W 0 m (upd H1 D (.lst []))) ∧ ∀ i m H, W i m H →
      ((Itl K a).stop i H ∧ Qd H) ∨ ((Itl K a).go i H ∧ ∃ Nx : Hp → Prop, (∀ H', Nx H' → ∃ m', m' < m ∧ W (i + 1) m' H') ∧ ∀ x H', (Itl K a).yld i H x H' → gName j x (wipe σ vs) H' fun σ2 H2 => wipe σ2 vs = wipe σ vs ∧ tYes σ2 H2 fun b H3 =>
        if b = true then te σ2 H3 fun y H4 => ∃ acc, H4 D = some (.lst acc) ∧ acc.length < sizeLine ∧ Nx (upd H4 D (.lst (acc ++ [y]))) else Nx H3) := by
  refine lc_list (K := K) (a := a) (xs := xs) (fun i H' => H' = upd H1 D (.lst ((xs.take i).map F))) rfl ?_ ?_ ?_
  · rintro i H' _ rfl
    exact SqL.of (by rw [upd_ne (ne_of_none hsq hD)]; exact hsq)
  · rintro i x H' hx rfl
    refine ⟨hw x, rd_keep (hel x (List.mem_of_getElem? hx) _ _ (same_new (Same.refl _) hD) ⟨_, upd_same, ?_, ?_⟩)⟩
    · rw [List.length_map, List.length_take]
      omega
    · rw [upd_upd, take_next hx, List.map_append]
      rfl
  · rintro H' rfl
    rw [List.take_length]
    exact hd
theorem lc_mapT (F : V → V) (hD : H1 D = none) (hsq : H1 a = some (.tup xs)) (hn : xs.length < sizeLine) (hw : ∀ x, wipe ((wipe σ vs).set j (some x)) vs = wipe σ vs)
    (hel : ∀ x ∈ xs, ∀ (H' : Hp) (Q : VK), Same H1 H' → Q (F x) H' → te ((wipe σ vs).set j (some x)) H' Q) (hd : Qd (upd H1 D (.lst (xs.map F)))) :
    ∃ W : Nat → Nat → Hp → Prop, (∃ m, W 0 m (upd H1 D (.lst []))) ∧ ∀ i m H, W i m H →
      ((Itt K a).stop i H ∧ Qd H) ∨ ((Itt K a).go i H ∧ ∃ Nx : Hp → Prop, (∀ H', Nx H' → ∃ m', m' < m ∧ W (i + 1) m' H') ∧ ∀ x H', (Itt K a).yld i H x H' → gName j x (wipe σ vs) H' fun σ2 H2 => wipe σ2 vs = wipe σ vs ∧ tYes σ2 H2 fun b H3 =>
        if b = true then te σ2 H3 fun y H4 => ∃ acc, H4 D = some (.lst acc) ∧ acc.length < sizeLine ∧ Nx (upd H4 D (.lst (acc ++ [y]))) else Nx H3) := by
  refine lc_tup (K := K) (a := a) (xs := xs) (fun i H' => H' = upd H1 D (.lst ((xs.take i).map F))) rfl ?_ ?_ ?_
  · rintro i H' _ rfl
    exact .inl (.inl (by rw [upd_ne (ne_of_none hsq hD)]; exact hsq))
  · rintro i x H' hx rfl
    refine ⟨hw x, rd_keep (hel x (List.mem_of_getElem? hx) _ _ (same_new (Same.refl _) hD) ⟨_, upd_same, ?_, ?_⟩)⟩
    · rw [List.length_map, List.length_take]
      omega
    · rw [upd_upd, take_next hx, List.map_append]
      rfl
  · rintro H' rfl
    rw [List.take_length]
    exact hd
/-- two lists of equal integers -/
theorem rd_neInts {H : Hp} {l1 l2 : Addr} {ns : List Int} {QB : Bool → Hp → Prop} (h1 : H l1 = some (.lst (ns.map V.int))) (h2 : H l2 = some (.lst (ns.map V.int))) (q : QB false H) : rNeD K (.ref l1) (.ref l2) H fun x H' => ∃ k, x = .bl k ∧ QB k H' := by
  refine ⟨.list (ns.map PyData.int), .list (ns.map PyData.int), .lst (SqL.of h1) (dp_ints _), .lst (SqL.of h2) (dp_ints _), shaped_ints _, shaped_ints _, false, ?_, q⟩
  rw [SeqAt.eqv_refl _ (SeqAt.canLay_of_shaped (shaped_ints _))]
  rfl
theorem dp_bools {H : Hp} : ∀ ns : List Bool, DpAll K H (ns.map V.bl) (ns.map PyData.bool)
  | [] => .nil
  | n :: ns => .cons (.bl n) (dp_bools ns)
theorem canLay_bools : ∀ ns : List Bool, PyData.canLayAll0 (ns.map PyData.bool) = true
  | [] => rfl
  | n :: ns => by
    show (PyData.canLay0 (.bool n) && PyData.canLayAll0 (ns.map PyData.bool)) = true
    rw [canLay_bools ns]
    rfl
theorem depth_bools : ∀ ns : List Bool, PyData.depthAll (ns.map PyData.bool) = 0
  | [] => rfl
  | n :: ns => by
    show max (PyData.depth (.bool n)) (PyData.depthAll (ns.map PyData.bool)) = 0
    rw [depth_bools ns]
    rfl
theorem shaped_bools (ns : List Bool) : SeqAt.shaped (.list (ns.map PyData.bool)) = true := by
  unfold SeqAt.shaped
  have h1 : PyData.canLay0 (.list (ns.map PyData.bool)) = true := canLay_bools ns
  have h2 : PyData.depth (.list (ns.map PyData.bool)) = 1 := by
    show PyData.depthAll (ns.map PyData.bool) + 1 = 1
    rw [depth_bools]
  rw [h1, h2]
  rfl
theorem rd_neBools {H : Hp} {l1 l2 : Addr} {ns : List Bool} {QB : Bool → Hp → Prop} (h1 : H l1 = some (.lst (ns.map V.bl))) (h2 : H l2 = some (.lst (ns.map V.bl))) (q : QB false H) : rNeD K (.ref l1) (.ref l2) H fun x H' => ∃ k, x = .bl k ∧ QB k H' := by
  refine ⟨.list (ns.map PyData.bool), .list (ns.map PyData.bool), .lst (SqL.of h1) (dp_bools _), .lst (SqL.of h2) (dp_bools _), shaped_bools _, shaped_bools _, false, ?_, q⟩
  rw [SeqAt.eqv_refl _ (SeqAt.canLay_of_shaped (shaped_bools _))]
  rfl
end
end NB
/-! NBy: bool(o) by an own __bool__. -/
namespace PySem.W
open PySem PySem.Calls PyProof.Rows
section
variable {prog : Program} {w : World} {A : Around} {E : Value → Shared → Prop} {s : Shared} {K : Frag} {x C f : Addr} {ox : Obj} {od : Option Obj}
theorem nb_truthy {Q : Bool → Shared → Prop} (X : K.In s.heap) (I : InstAt s.heap x ox C od) (hs : findIn K (.ref C) "__bool__" = some (some (.ref f))) (hf : isFn K (.ref f) = true)
    (h : wpAny (model prog w) A (call (.ref f) [.ref x]) (BoolBack Q) E s) : wpAny (model prog w) A (truthy (.ref x)) Q E s := by
  unfold truthy
  refine wpAny_bind (m := callSpecial? (.ref x) (Str.ofString "__bool__")) (special_fn X I hs (beq_iff_eq.mp hf) (wpAny_mono h (fun r s' hr => ?_) fun _ _ y => y))
  cases r <;> first | exact hr.elim | skip
  exact wpAny_pure hr
theorem nb_bool {Q : Value → Shared → Prop} (X : K.In s.heap) (I : InstAt s.heap x ox C od) (hs : findIn K (.ref C) "__bool__" = some (some (.ref f))) (hf : isFn K (.ref f) = true)
    (h : wpAny (model prog w) A.in1.in1 (call (.ref f) [.ref x]) (BoolBack fun b s' => Q (.bool b) s') E s) : wpAny (model prog w) A (call (.type "bool") [.ref x]) Q E s := by
  refine callType_codes (T := "bool") (Bi := Builtin.«object.__init__») (Q₁ := fun r s₁ => ∃ b, r = .bool b ∧ Q r s₁) PySem.F.called_bool (PySem.F.typeCall_bool_1 _) PySem.F.entry_object_init ?_ ?_
  · refine codeAny_of_tree ?_
    show wpAny _ A.in1.in1 (do checkBuiltinCall "bool.__new__" ⟨[.type "bool", .ref x], []⟩; again (.builtin "bool.__new__" ⟨[.type "bool", .ref x], []⟩)) _ _ s
    refine wpAny_bind (wpAny_of_eq (PySem.F.newCall_bool_1 _) (wpAny_pure ⟨plainId_quiet (by decide +kernel) _, codeAny_builtin PySem.F.entry_bool_new ?_⟩))
    rw [Around.under_plainId (by decide +kernel) _]
    unfold Builtin.«bool.__new__»
    have f1 := PySem.F.conv_sub_bool
    refine wpAny_bind (m := isType (.type "bool")) (wpAny_pure ?_)
    refine wpAny_bind (wpAny_of_eq f1 ?_)
    refine wpAny_bind (m := someArgs "bool" 0 1 _) (wpAny_pure ?_)
    refine wpAny_bind (wpAny_mono (nb_truthy (E := E) (Q := fun b s' => Q (.bool b) s') X I hs hf h) (fun b s' hq => ?_) fun _ _ y => y)
    exact wpAny_pure ⟨b, rfl, hq⟩
  · rintro obj s₁ ⟨b, rfl, hq⟩
    exact ⟨rfl, PySem.F.args_object_init_2 _ _, object_init_meets PySem.F.called_bool.init.lookup PySem.F.called_bool.made (by decide) prog w A.in1 _ s₁ ⟨rfl, rfl, hq⟩⟩
end
end PySem.W
namespace NB
open PySem PySem.Spec PyProof.Rows L2
section
variable {X : Cx} {CX : CXT} {k : Nat} {C : Addr} {sp : Sp} {E : XK}
def rBoolO (C : Addr) (sp : Sp) (E : XK) : List V → Hp → VK → Prop := fun xs H Q => ∃ (a dx : Addr) (fs : List (Str × V)), xs = [.ref a] ∧ H a = some (.ins C dx fs) ∧ sp xs H (fun v H' => ∃ b : Bool, v = .bl b ∧ Q (.bl b) H') E
theorem call_boolO (M : OwnM X CX k C "__bool__" sp) (hr : Room (k + 2) X.A) (hx : Passes CX X E) : CallR X (.type "bool") (rBoolO C sp E) := by
  intro pins s σ H xs us Q I r h
  obtain ⟨f, fd, ps, F, hb, hs, hf⟩ := M.ex
  obtain ⟨a, dx, fs, rfl, ha, q⟩ := h
  obtain ⟨ox, od, J⟩ := inst_of I ha
  obtain ⟨u, rfl, ru⟩ := vals1 r
  cases ru
  refine PySem.W.nb_bool I.kIn J hs hf (wpAny_mono (run_at F ⟨hr.in1.in1, rfl⟩ hb hx I (.cons rel_ref .nil) q) ?_ fun _ _ z => z)
  rintro w s' ⟨z, H', I', rz, b, rfl, qb⟩
  cases rz
  exact ⟨.bl b, H', I', rfl, qb⟩
end
end NB
/-! NBz: v not in o by an own __contains__; two tuples of the very same items. -/
namespace NB
open PySem PySem.Spec PyProof.Rows L2
section
variable {X : Cx} {CX : CXT} {k : Nat} {C : Addr} {sp : Sp} {E : XK}
def rNotInO (C : Addr) (sp : Sp) (E : XK) : R2 := fun v x H Q => ∃ (a dx : Addr) (fs : List (Str × V)), x = .ref a ∧ H a = some (.ins C dx fs) ∧ sp [x, v] H (fun z H' => ∃ b, z = .bl b ∧ Q (.bl (!b)) H') E
theorem op_notInO (M : OwnM X CX k C "__contains__" sp) (hr : Room k X.A) (hx : Passes CX X E) : OpR X (compareOp .NotIn) (rNotInO C sp E) := by
  intro pins s σ H x y u v Q I rx ry h
  obtain ⟨f, fd, ps, F, hb, hs, hf⟩ := M.ex
  obtain ⟨a, dx, fs, rfl, ha, q⟩ := h
  obtain ⟨ox, od, J⟩ := inst_of I ha
  obtain ⟨m, hF⟩ := I.fr
  have ry' := ry
  cases ry'
  refine PySem.W.notIn_K hF I.ok.mod.kin J hs hf (wpAny_mono (run_at F ⟨hr, rfl⟩ hb hx I (.cons rel_ref (.cons rx .nil)) q) ?_ fun _ _ z => z)
  rintro w s' ⟨z, H', I', rz, b, rfl, qb⟩
  cases rz
  wp_walk
  exact ⟨.bl (!b), H', I', rfl, qb⟩
/-- == of two tuples of the same items, each flat or one object -/
def rEqSm (K : PySem.W.Frag) : R2 := fun x y H Q => ∃ a b xs, x = .ref a ∧ y = .ref b ∧ SqT K H a xs ∧ SqT K H b xs ∧ (∀ v ∈ xs, flatB v = true ∨ ∃ c, v = .ref c) ∧ Q (.bl true) H
theorem same_items {A : Around} {s : Shared} : ∀ {xs : List V} {us ws : List Value}, Vals xs us → Vals xs ws → (∀ v ∈ xs, flatB v = true ∨ ∃ c, v = .ref c) → ∀ j (h1 : j < us.length) (h2 : j < ws.length), SeqAt.EqAt A s us[j] ws[j] true
  | _, _, _, .nil, .nil, _, j, h1, _ => absurd h1 (Nat.not_lt_zero _)
  | v :: xs, u :: us, w :: ws, .cons r1 t1, .cons r2 t2, f, 0, _, _ => by
    rcases f v List.mem_cons_self with f | ⟨c, rfl⟩
    · exact eqAt_same r1 r2 f
    · cases (show u = Value.ref c from r1)
      cases (show w = Value.ref c from r2)
      exact SeqAt.EqAt.same _
  | v :: xs, u :: us, w :: ws, .cons r1 t1, .cons r2 t2, f, j + 1, h1, h2 => same_items t1 t2 (fun v hv => f v (List.mem_cons_of_mem _ hv)) j (Nat.lt_of_succ_lt_succ h1) (Nat.lt_of_succ_lt_succ h2)
theorem op_eqSm (hu : X.A.units + 64 < cLine) : OpR X (compareOp .Eq) (rEqSm X.K) := by
  intro pins s σ H x y v u Q I rx ry h
  obtain ⟨a, b, xs, rfl, rfl, ha, hb, f, q⟩ := h
  cases (show v = Value.ref a from rx)
  cases (show u = Value.ref b from ry)
  obtain ⟨us, r1, p1, _⟩ := I.tuple ha
  obtain ⟨ws, r2, p2, _⟩ := I.tuple hb
  refine SeqAt.eq_tupleAt (e := fun _ => true) (show s.heap.IsTuple a us.toArray from p1) (show s.heap.IsTuple b ws.toArray from p2) (by omega) (fun j h1 h2 => ?_) ?_
  · have k := same_items (A := X.A.in1) (s := s) r1 r2 f j (by simpa using h1) (by simpa using h2)
    simpa using k
  · have e : us.length = ws.length := by rw [← r1.length, ← r2.length]
    rw [show ((List.range (min us.toArray.size ws.toArray.size)).all (fun _ => true) && us.toArray.size == ws.toArray.size) = true by simp [e]]
    exact ⟨.bl true, H, I, rfl, q⟩
end
end NB
/-! NWp: the words of the promises of checks, errors, days (parted from k11 by split.py). -/
namespace NB
open PySem L2 ClX
/-- the truth at a number -/
abbrev atB (bs : List Bool) (k : Int) : Bool := bs.getD k.toNat false
/-- what is asked of a period -/
def perOk (bs : List Bool) (p : Nat) : Bool := decide (bs.length % p = 0) && decide (bs.drop p = bs.take (bs.length - p))
/-- the least period -/
def lpG (bs : List Bool) : Nat := ((List.range' 1 (bs.length - 1)).find? (perOk bs)).getD bs.length
/-- the rests below a number -/
def restsB (bs : List Bool) (p : Nat) : List Int := (rgN 0 p).filter (atB bs)
/-- the truths of some rests -/
def truB (p : Nat) (ns : List Int) : List Bool := (rgN 0 p).map fun d => decide (d ∈ ns)
def allB : Nat → List (List Bool)
  | 0 => [[]]
  | n + 1 => (allB n).map (false :: ·) ++ (allB n).map (true :: ·)
theorem mem_allB : ∀ bs : List Bool, bs ∈ allB bs.length
  | [] => by simp [allB]
  | b :: bs => by
    have h := mem_allB bs
    show (b :: bs) ∈ (allB bs.length).map (false :: ·) ++ (allB bs.length).map (true :: ·)
    rw [List.mem_append]
    cases b
    · exact .inl (List.mem_map.mpr ⟨bs, h, rfl⟩)
    · exact .inr (List.mem_map.mpr ⟨bs, h, rfl⟩)
/-- a check of all truths of one to seven days -/
theorem all7 {p : List Bool → Bool} (h : ((List.range 7).all fun n => (allB (n + 1)).all p) = true) {bs : List Bool} (h1 : 1 ≤ bs.length) (h2 : bs.length ≤ 7) : p bs = true := by
  have e := List.all_eq_true.mp h (bs.length - 1) (List.mem_range.mpr (by omega))
  rw [show bs.length - 1 + 1 = bs.length by omega] at e
  exact List.all_eq_true.mp e bs (mem_allB bs)
/-- what law's own look asks of a period -/
def rotOk (bs : List Bool) (k : Nat) : Bool := decide (bs.length % k = 0) && decide (bs.drop k ++ bs.take k = bs)
theorem lp_facts {bs : List Bool} (h1 : 1 ≤ bs.length) (h2 : bs.length ≤ 7) : 1 ≤ lpG bs ∧ lpG bs ≤ bs.length ∧ bs.length % lpG bs = 0 ∧ ((List.range' 1 bs.length).filter (rotOk bs)).head? = some (lpG bs) ∧ ∀ r < bs.length, bs.getD (r % lpG bs) false = bs.getD r false := by
  have h := all7 (p := fun bs => decide (1 ≤ lpG bs) && (decide (lpG bs ≤ bs.length) && (decide (bs.length % lpG bs = 0) && (decide (((List.range' 1 bs.length).filter (rotOk bs)).head? = some (lpG bs)) && ((List.range bs.length).all fun r => bs.getD (r % lpG bs) false == bs.getD r false))))) (by decide +kernel) h1 h2
  simp only [Bool.and_eq_true, decide_eq_true_eq, List.all_eq_true, beq_iff_eq, List.mem_range] at h
  exact h
theorem mem_rgN {lo k : Int} {n : Nat} : k ∈ rgN lo n ↔ lo ≤ k ∧ k < lo + n := by
  unfold rgN
  rw [List.mem_map]
  constructor
  · rintro ⟨i, hi, rfl⟩
    have := List.mem_range.mp hi
    omega
  · rintro ⟨h1, h2⟩
    exact ⟨(k - lo).toNat, List.mem_range.mpr (by omega), by omega⟩
theorem mem_restsB {bs : List Bool} {p : Nat} {k : Int} : k ∈ restsB bs p ↔ (0 ≤ k ∧ k < p) ∧ atB bs k = true := by
  unfold restsB
  rw [List.mem_filter, mem_rgN]
  simp
theorem truB_len (p : Nat) (ns : List Int) : (truB p ns).length = p := by simp [truB]
theorem truB_at {p : Nat} {ns : List Int} {r : Nat} (h : r < p) : (truB p ns).getD r false = decide ((r : Int) ∈ ns) := by
  unfold truB rgN
  rw [List.getD_eq_getElem?_getD, List.getElem?_map, List.getElem?_map, List.getElem?_range h]
  simp
/-- the truths of the rests of truths -/
theorem truB_rests (bs : List Bool) (ns : List Int) (h : ∀ k, k ∈ ns ↔ k ∈ restsB bs bs.length) : truB bs.length ns = bs := by
  refine List.ext_getElem (truB_len _ _) fun i h1 h2 => ?_
  have e := truB_at (p := bs.length) (ns := ns) h2
  rw [List.getD_eq_getElem?_getD, List.getElem?_eq_getElem h1, Option.getD_some] at e
  rw [e, Bool.eq_iff_iff, decide_eq_true_eq, h, mem_restsB]
  have : ((i : Int)).toNat = i := by omega
  unfold atB
  rw [this, List.getD_eq_getElem?_getD, List.getElem?_eq_getElem h2, Option.getD_some]
  constructor
  · exact fun z => z.2
  · exact fun z => ⟨⟨by omega, by omega⟩, z⟩
/-- the day d is in the set -/
def dinB (bs : List Bool) (d : Int) : Bool := atB bs (d % bs.length)
theorem dinB_mod {bs : List Bool} (h1 : 1 ≤ bs.length) (h2 : bs.length ≤ 7) (d : Int) : decide (d % (lpG bs : Int) ∈ restsB bs (lpG bs)) = dinB bs d := by
  obtain ⟨f1, f2, f3, _, f5⟩ := lp_facts h1 h2
  have hd : ((lpG bs : Nat) : Int) ∣ (bs.length : Int) := Int.ofNat_dvd.mpr (Nat.dvd_of_mod_eq_zero f3)
  have m1 : 0 ≤ d % (bs.length : Int) := Int.emod_nonneg _ (by omega)
  have m2 : d % (bs.length : Int) < bs.length := Int.emod_lt_of_pos _ (by omega)
  have e : d % (lpG bs : Int) = (d % (bs.length : Int)) % (lpG bs : Int) := (Int.emod_emod_of_dvd d hd).symm
  have n1 : 0 ≤ d % (lpG bs : Int) := Int.emod_nonneg _ (by omega)
  have n2 : d % (lpG bs : Int) < lpG bs := Int.emod_lt_of_pos _ (by omega)
  have z := f5 (d % (bs.length : Int)).toNat (by omega)
  have t : (d % (lpG bs : Int)).toNat = (d % (bs.length : Int)).toNat % lpG bs := by
    rw [e]
    have : ((d % (bs.length : Int)) % (lpG bs : Int)) = (((d % (bs.length : Int)).toNat % lpG bs : Nat) : Int) := by
      rw [Int.natCast_emod, Int.toNat_of_nonneg m1]
    rw [this, Int.toNat_natCast]
  have q : decide (d % (lpG bs : Int) ∈ restsB bs (lpG bs)) = atB bs (d % (lpG bs : Int)) := by
    rw [Bool.eq_iff_iff, decide_eq_true_eq, mem_restsB]
    exact ⟨fun z => z.2, fun z => ⟨⟨n1, n2⟩, z⟩⟩
  rw [q]
  unfold dinB atB
  rw [t]
  exact z
/-- the same day by the rests of a round -/
theorem dinB_all {bs : List Bool} (h1 : 1 ≤ bs.length) (d : Int) : decide (d % (bs.length : Int) ∈ restsB bs bs.length) = dinB bs d := by
  have m1 : 0 ≤ d % (bs.length : Int) := Int.emod_nonneg _ (by omega)
  have m2 : d % (bs.length : Int) < bs.length := Int.emod_lt_of_pos _ (by omega)
  rw [Bool.eq_iff_iff, decide_eq_true_eq, mem_restsB]
  exact ⟨fun z => z.2, fun z => ⟨⟨m1, m2⟩, z⟩⟩
theorem rgN_add (lo : Int) (a b : Nat) : rgN lo (a + b) = rgN lo a ++ rgN (lo + a) b := by
  unfold rgN
  rw [List.range_add, List.map_append, List.map_map]
  congr 1
  refine List.map_congr_left fun i _ => ?_
  show lo + ((a + i : Nat) : Int) = lo + a + i
  omega
/-- the first day from one on -/
def folB (bs : List Bool) (d : Int) (n : Nat) : Option Int := (rgN d n).find? (dinB bs)
theorem folB_lp {bs : List Bool} (h1 : 1 ≤ bs.length) (h2 : bs.length ≤ 7) (d : Int) : folB bs d (lpG bs) = folB bs d bs.length := by
  obtain ⟨f1, f2, f3, _, _⟩ := lp_facts h1 h2
  unfold folB
  obtain ⟨c, hc⟩ : ∃ c, bs.length = lpG bs + c := ⟨bs.length - lpG bs, by omega⟩
  conv => rhs; rw [hc, rgN_add, List.find?_append]
  cases e : (rgN d (lpG bs)).find? (dinB bs) with
  | some x => rfl
  | none =>
    show none = (rgN (d + lpG bs) c).find? (dinB bs)
    symm
    rw [List.find?_eq_none]
    intro k _ hk
    have no := List.find?_eq_none.mp e
    have n1 : 0 ≤ (k - d) % (lpG bs : Int) := Int.emod_nonneg _ (by omega)
    have n2 : (k - d) % (lpG bs : Int) < lpG bs := Int.emod_lt_of_pos _ (by omega)
    refine no (d + (k - d) % (lpG bs : Int)) (mem_rgN.mpr ⟨by omega, by omega⟩) ?_
    rw [← dinB_mod h1 h2] at hk ⊢
    rw [Int.add_emod_emod, show d + (k - d) = k by omega]
    exact hk
theorem rests_len (bs : List Bool) (p : Nat) : (restsB bs p).length ≤ p := by
  unfold restsB
  refine Nat.le_trans (List.length_filter_le _ _) ?_
  simp
theorem rests_sorted (bs : List Bool) (p : Nat) : (restsB bs p).Pairwise (· < ·) := by
  unfold restsB rgN
  refine List.Pairwise.filter _ ?_
  rw [List.pairwise_map]
  exact List.Pairwise.imp (fun h => by omega) List.pairwise_lt_range
/-- two ascending lists of the same numbers -/
theorem asc_uniq : ∀ {xs ys : List Int}, xs.Pairwise (· < ·) → ys.Pairwise (· < ·) → (∀ k, k ∈ xs ↔ k ∈ ys) → xs = ys
  | [], [], _, _, _ => rfl
  | [], y :: ys, _, _, h => by
    have := (h y).mpr List.mem_cons_self
    cases this
  | x :: xs, [], _, _, h => by
    have := (h x).mp List.mem_cons_self
    cases this
  | x :: xs, y :: ys, hx, hy, h => by
    obtain ⟨a1, a2⟩ := List.pairwise_cons.mp hx
    obtain ⟨b1, b2⟩ := List.pairwise_cons.mp hy
    have e : x = y := by
      rcases List.mem_cons.mp ((h x).mp List.mem_cons_self) with e | e
      · exact e
      · rcases List.mem_cons.mp ((h y).mpr List.mem_cons_self) with f | f
        · exact f.symm
        · have := a1 _ f
          have := b1 _ e
          omega
    subst e
    congr 1
    refine asc_uniq a2 b2 fun k => ⟨fun m => ?_, fun m => ?_⟩
    · rcases List.mem_cons.mp ((h k).mp (List.mem_cons_of_mem _ m)) with e | e
      · have := a1 _ m
        omega
      · exact e
    · rcases List.mem_cons.mp ((h k).mpr (List.mem_cons_of_mem _ m)) with e | e
      · have := b1 _ m
        omega
      · exact e

/-- no integer, as is_integer asks -/
def NotInt (K : PySem.W.Frag) (H : Hp) (v : V) : Prop := ∃ (t : Value) (b1 b2 : Bool), TyX K H v t ∧ PySem.W.kitOne K t (.type "int") = some b1 ∧ PySem.W.kitOne K t (.type "bool") = some b2 ∧ (b1 = false ∨ b2 = true)
section
variable {P : Program} {w : World} {K : PySem.W.Frag} {mg : Str → Option Value} {base : Heap}
def spIsInt (K : PySem.W.Frag) : Sp := fun vs H Q _ => ∃ v, vs = [v] ∧ ((∃ n, v = .int n ∧ Q (.bl true) H) ∨ (NotInt K H v ∧ Q (.bl false) H))
def spBetw (K : PySem.W.Frag) : Sp := fun vs H Q _ => ∃ (v : V) (lo hi : Int), vs = [v, .int lo, .int hi] ∧ ((∃ n, v = .int n ∧ Q (.bl (decide (lo ≤ n) && decide (n ≤ hi))) H) ∨ (NotInt K H v ∧ Q (.bl false) H))
/-- between, as is_between tells -/
def BtwV (K : PySem.W.Frag) (H : Hp) (lo hi : Int) (v : V) (b : Bool) : Prop := (∃ n, v = .int n ∧ b = (decide (lo ≤ n) && decide (n ≤ hi))) ∨ (NotInt K H v ∧ b = false)
theorem TyX.keep {K : PySem.W.Frag} {H H' : Hp} {v : V} {t : Value} (h : TyX K H v t) (s : Same H H') : TyX K H' v t := by
  cases h with
  | base h =>
    refine .base ?_
    cases h with
    | non => exact .non
    | bl x => exact .bl x
    | int i => exact .int i
    | str x => exact .str x
    | flt x => exact .flt x
    | lst e => exact .lst (s _ _ e)
    | frz e => exact .frz (s _ _ e)
    | tup e => exact .tup (s _ _ e)
    | dK e => exact .dK (s _ _ e)
    | dT e => exact .dT (s _ _ e)
    | ins e a b c d f => exact .ins (s _ _ e) a b c d f
  | byt b => exact .byt b
  | set e => exact .set (s _ _ e)
  | kList e c => exact .kList e c
  | kTuple e c => exact .kTuple e c
  | kDict e c => exact .kDict e c
  | fTuple e => exact .fTuple (s _ _ e)
  | fDict e => exact .fDict (s _ _ e)
theorem NotInt.keep {K : PySem.W.Frag} {H H' : Hp} {v : V} (h : NotInt K H v) (s : Same H H') : NotInt K H' v := by
  obtain ⟨t, b1, b2, ty, k1, k2, c⟩ := h
  exact ⟨t, b1, b2, TyX.keep ty s, k1, k2, c⟩
theorem BtwV.keep {H H' : Hp} {lo hi : Int} {v : V} {b : Bool} (h : BtwV K H lo hi v b) (s : Same H H') : BtwV K H' lo hi v b := by
  rcases h with h | ⟨h, e⟩
  · exact .inl h
  · exact .inr ⟨h.keep s, e⟩
theorem BtwV.sp {H : Hp} {lo hi : Int} {v : V} {b : Bool} {Q : VK} {E : XK} (d : BtwV K H lo hi v b) (q : Q (.bl b) H) : spBetw K [v, .int lo, .int hi] H Q E := by
  rcases d with ⟨n, rfl, rfl⟩ | ⟨n, rfl⟩
  · exact ⟨_, _, _, rfl, .inl ⟨n, rfl, q⟩⟩
  · exact ⟨_, _, _, rfl, .inr ⟨n, q⟩⟩
theorem rd_call {sp : Sp} {E : XK} {ta : TA} {σ : SV} {H : Hp} {Q : VK} (h : ta σ H fun vs H1 => sp vs H1 Q E) : tCall sp [] E ta σ H Q := by
  unfold tCall
  simp only [List.append_nil]
  exact h
theorem rd_not {A : TT} {σ : SV} {H : Hp} {QB : Bool → Hp → Prop} (h : A σ H fun c H1 => QB (!c) H1) : tNot A σ H QB := h
/-- no list, no tuple -/
def NotSeq (K : PySem.W.Frag) (H : Hp) (v : V) : Prop := ∃ t, TyX K H v t ∧ PySem.W.kitAny K t [.type "list", .type "tuple"] = some false
/-- the integers between, as are_between tells -/
def AreV (K : PySem.W.Frag) (H : Hp) (lo hi : Int) (v : V) (r : Bool) : Prop :=
  (∃ (a : Addr) (xs : List V) (b : V → Bool), v = .ref a ∧ (H a = some (.lst xs) ∨ H a = some (.tup xs)) ∧ xs.length < sizeLine ∧ (∀ x ∈ xs, BtwV K H lo hi x (b x)) ∧ r = xs.all b) ∨ (NotSeq K H v ∧ r = false)
def spAre (K : PySem.W.Frag) : Sp := fun vs H Q _ => ∃ (v : V) (lo hi : Int) (r : Bool), vs = [v, .int lo, .int hi] ∧ AreV K H lo hi v r ∧ ∀ H', Same H H' → Q (.bl r) H'
theorem kit_list {K : PySem.W.Frag} : PySem.W.kitAny K (.type "list") [.type "list", .type "tuple"] = some true := kitAny_cons (b := true) (kit_ty (by decide +kernel)) (fun z => nomatch z) (fun _ => rfl)
theorem kit_tuple {K : PySem.W.Frag} : PySem.W.kitAny K (.type "tuple") [.type "list", .type "tuple"] = some true := kitAny_cons (b := false) (kit_ty (by decide +kernel)) (fun _ => kitAny_cons (b := true) (kit_ty (by decide +kernel)) (fun z => nomatch z) (fun _ => rfl)) (fun z => nomatch z)
end
theorem eqv_bools : ∀ xs ys : List Bool, PyData.eqvAll (xs.map PyData.bool) (ys.map PyData.bool) = decide (xs = ys)
  | [], [] => by simp [PyData.eqvAll]
  | [], y :: ys => by simp [PyData.eqvAll]
  | x :: xs, [] => by simp [PyData.eqvAll]
  | x :: xs, y :: ys => by
    have e : PyData.eqv (.bool x) (.bool y) = decide (x = y) := by cases x <;> cases y <;> simp [PyData.eqv]
    rw [List.map_cons, List.map_cons, PyData.eqvAll, eqv_bools xs ys, e, Bool.eq_iff_iff]
    simp
theorem eqv_boolL (xs ys : List Bool) : PyData.eqv (.list (xs.map PyData.bool)) (.list (ys.map PyData.bool)) = decide (xs = ys) := by
  rw [PyData.eqv]
  exact eqv_bools xs ys
theorem eqv_ints : ∀ xs ys : List Int, PyData.eqvAll (xs.map PyData.int) (ys.map PyData.int) = decide (xs = ys)
  | [], [] => by simp [PyData.eqvAll]
  | [], y :: ys => by simp [PyData.eqvAll]
  | x :: xs, [] => by simp [PyData.eqvAll]
  | x :: xs, y :: ys => by
    have e : PyData.eqv (.int x) (.int y) = decide (x = y) := by simp [PyData.eqv]; rfl
    rw [List.map_cons, List.map_cons, PyData.eqvAll, eqv_ints xs ys, e, Bool.eq_iff_iff]
    simp
theorem cut_sufV (xs : List V) (k : Nat) : cutV xs (some (k : Int)) none = xs.drop k := by
  unfold cutV
  rw [HT.sIx_none, HT.sIx_nat]
  have e : xs.drop (min k xs.length) = xs.drop k := by
    by_cases h : k ≤ xs.length
    · rw [Nat.min_eq_left h]
    · rw [Nat.min_eq_right (by omega), List.drop_length, List.drop_eq_nil_of_le (by omega)]
  rw [e]
  refine List.take_of_length_le ?_
  rw [List.length_drop]
  omega
theorem cut_preV (xs : List V) (k : Nat) : cutV xs none (some (k : Int)) = xs.take k := by
  unfold cutV
  rw [HT.sIx_none, HT.sIx_nat, List.drop_zero, Nat.sub_zero, List.take_eq_take_iff]
  omega
theorem lp_first {bs : List Bool} {p : Nat} (h1 : 1 ≤ p) (h2 : p < bs.length) (hp : perOk bs p = true) (hn : ∀ q, 1 ≤ q → q < p → perOk bs q = false) : lpG bs = p := by
  unfold lpG
  have e : (List.range' 1 (bs.length - 1)).find? (perOk bs) = some p := by
    rw [List.find?_range'_eq_some]
    exact ⟨hp, by rw [List.mem_range'_1]; omega, fun q q1 q2 => by rw [hn q q1 q2]; rfl⟩
  rw [e]
  rfl
theorem lp_last {bs : List Bool} (hn : ∀ q, 1 ≤ q → q < bs.length → perOk bs q = false) : lpG bs = bs.length := by
  unfold lpG
  have e : (List.range' 1 (bs.length - 1)).find? (perOk bs) = none := by
    rw [List.find?_eq_none]
    intro q hq
    rw [List.mem_range'_1] at hq
    rw [hn q (by omega) (by omega)]
    exact Bool.false_ne_true
  rw [e]
  rfl
theorem dec_v {i j : Int} : decide (V.int i = V.int j) = decide (i = j) := by
  by_cases h : i = j
  · rw [h, decide_eq_true rfl, decide_eq_true rfl]
  · rw [decide_eq_false h, decide_eq_false fun z => h (V.int.inj z)]
theorem rd_sfor {wi : TI} {g : TG} {tb t2 : TS} {D : Ends} {σ : SV} {H : Hp} (h : wi σ H fun J H1 => ∃ W : Nat → Nat → L2.St → Hp → Prop, (∃ m, W 0 m σ H1) ∧ ∀ i m σ H, W i m σ H →
      (J.stop i H ∧ t2 D σ H) ∨ (J.go i H ∧ ∃ N : L2.St → Hp → Prop, (∀ σ' H', N σ' H' → ∃ m', m' < m ∧ W (i + 1) m' σ' H') ∧ ∀ x H', J.yld i H x H' → g x σ H' fun σ2 H2 => tb { D with nx := N, ct := N, bk := t2 D } σ2 H2)) : tSeq (tFor wi g tb) t2 D σ H := h
theorem rd_and {A B : TT} {σ : SV} {H : Hp} {QB : Bool → Hp → Prop} (h : A σ H fun c H1 => if c = true then B σ H1 QB else QB false H1) : tAnd A B σ H QB := h
section
variable {P : Program} {w : World} {K : PySem.W.Frag} {mg : Str → Option Value} {base : Heap}
def spAsc (K : PySem.W.Frag) : Sp := fun vs H Q _ => ∃ (a : Addr) (ns : List Int), vs = [.ref a] ∧ H a = some (.lst (ns.map V.int)) ∧ ns.length ≤ 60 ∧ ∀ (H' : Hp) (p : Addr) (ms : List Int), Same H H' → H' p = some (.lst (ms.map V.int)) → ms.Pairwise (· < ·) → (∀ k, k ∈ ms ↔ k ∈ ns) → Q (.ref p) H'
def spLp (K : PySem.W.Frag) : Sp := fun vs H Q _ => ∃ (a : Addr) (bs : List Bool), vs = [.ref a] ∧ H a = some (.lst (bs.map V.bl)) ∧ 1 ≤ bs.length ∧ bs.length ≤ 1000 ∧ ∀ (H' : Hp), Same H H' → Q (.int (lpG bs)) H'
/-- an error of the class at B with one field leaves -/
def BadF (B : Addr) (fl : Str) (E : XK) (H : Hp) (p : V) : Prop := ∀ (H' : Hp) (dd : Addr), Same H H' → H' dd = some (.xd [(fl, p)]) → E (.ref B) (some dd) H'
theorem BadF.keep {B : Addr} {fl : Str} {E : XK} {H H1 : Hp} {p : V} (b : BadF B fl E H p) (s : Same H H1) : BadF B fl E H1 p := fun H' dd s' e => b H' dd (s.trans s') e
theorem mk_badF {B : Addr} {fl : Str} {E : XK} {H : Hp} {p : V} {te : TE} {σ : SV} (ht : ∀ Q : VK, Q p H → te σ H Q) (h : BadF B fl E H p) : tMkO B (spI B [fl]) [] (tCons te tNil) σ H E := by
  refine ht _ ⟨by show 1 ≤ 1000; decide, fun a ha => ⟨a, [p], rfl, rfl, upd_same, fun H' d b hd ea ed => ⟨rfl, d, _, ea, ed, (fresh_upd hd).2, ?_⟩⟩⟩
  refine h _ d (fun x o e => ?_) upd_same
  have n1 := ne_of_none e ha
  have n2 := ne_of_none e (fresh_upd hd).2
  rw [upd_ne n2, del_ne n1]
  exact b x o n1 (by rw [upd_ne n1]; exact e)
/-- the facts of an error's class with one field -/
structure BadC (P : Program) (w : World) (K : PySem.W.Frag) (mg : Str → Option Value) (base : Heap) (x fl : Str) (B : Addr) : Prop where
  mgC : mg x = some (.ref B)
  oex : OexC K B
  nf : PySem.W.findIn K (.ref B) fl = some none
  ini : ∃ (fI : Addr) (fd : FuncData), PySem.W.findIn K (.ref B) "__init__" = some (some (.ref fI)) ∧ PySem.W.typeIn K (.ref fI) = some (.type "function") ∧
    FnOk P w K mg base CX0 1 fI fd ["self", fl] (spI B [fl]) ∧ Binds K fd ["self", fl] []
end
section
variable {X : Cx} {B : Addr} {x fl : Str}
theorem ps_badS {W : WX} {z : Str} {p1 p2 p3 p4 : Pos} {j : Nat} (Bd : BadC X.prog X.w X.K X.mg X.base x fl B) (hr : Room 2 X.A) (hg : Gl X x) (hc : X.calm = true) (tk : Takes X W) (hdb : (x == ("__debug__" : Str)) = false := by decide) :
    PS X (.Raise (some (.Call (.Name x p1) [.Constant (.str z) j p2] [] p3)) none p4) (fun _ σ H => BadF B fl (fun cls d H' => W cls d σ H') H (.str z)) := by
  obtain ⟨fI, fd, h1, h2, F, hb⟩ := Bd.ini
  have q := ps_raise (pos := p4) hc tk (pmk_oex (p := p1) (pos := p3) Bd.oex h1 h2 F hr hb .nil pass0 hg Bd.mgC (pa_cons (pe_str (x := z) (j := j) (pos := p2)) pa_nil) hdb)
  exact ⟨fun pins s σ H D I h => q.run pins s σ H D I (mk_badF (fun Q z => z) h)⟩
theorem ps_badV {W : WX} {y : Str} {p1 p2 p3 p4 : Pos} {i : Nat} (Bd : BadC X.prog X.w X.K X.mg X.base x fl B) (hr : Room 2 X.A) (hg : Gl X x) (hc : X.calm = true) (tk : Takes X W) (hN : X.N[i]? = some y) (hv : Vis X.env.scope y) (hdb : (x == ("__debug__" : Str)) = false := by decide)
    (hdb2 : (y == ("__debug__" : Str)) = false := by decide) (hcd : (y == ("__classdict__" : Str)) = false := by decide) :
    PS X (.Raise (some (.Call (.Name x p1) [.Name y p2] [] p3)) none p4) (fun _ σ H => ∃ v, σ[i]? = some (some v) ∧ BadF B fl (fun cls d H' => W cls d σ H') H v) := by
  obtain ⟨fI, fd, h1, h2, F, hb⟩ := Bd.ini
  have q := ps_raise (pos := p4) hc tk (pmk_oex (p := p1) (pos := p3) Bd.oex h1 h2 F hr hb .nil pass0 hg Bd.mgC (pa_cons (pe_var (pos := p2) hN hv hdb2 hcd) pa_nil) hdb)
  exact ⟨fun pins s σ H D I h => by
    obtain ⟨v, hv, h⟩ := h
    exact q.run pins s σ H D I (mk_badF (fun Q z => ⟨v, hv, z⟩) h)⟩
end
theorem in_ints (k : Int) (ns : List Int) : inV (.int k) (ns.map V.int) = decide (k ∈ ns) := by
  unfold inV
  rw [List.any_map, Bool.eq_iff_iff, List.any_eq_true, decide_eq_true_eq]
  constructor
  · rintro ⟨n, hn, e⟩
    have e : (n == k) = true := e
    rw [← eq_of_beq e]
    exact hn
  · exact fun h => ⟨k, h, beq_self_eq_true k⟩
theorem flat_ints (ns : List Int) : (ns.map V.int).all flatV = true := by
  rw [List.all_map, List.all_eq_true]
  exact fun _ _ => rfl
/-- k in a list or tuple of integers -/
theorem rd_inI {K : PySem.W.Frag} {H : Hp} {l : Addr} {k : Int} {ns : List Int} {Q : VK} (h : H l = some (.lst (ns.map V.int)) ∨ H l = some (.tup (ns.map V.int))) (q : Q (.bl (decide (k ∈ ns))) H) : rIn K false (.int k) (.ref l) H Q := by
  refine ⟨l, _, rfl, ?_, rfl, flat_ints ns, ?_⟩
  · rcases h with h | h
    · exact .inl (SqL.of h)
    · exact .inr (.inl (.inl h))
  · rw [← in_ints] at q
    exact q
theorem atI_bools {bs : List Bool} {k : Int} (h1 : 0 ≤ k) (h2 : k < bs.length) : atI (bs.map V.bl) k = some (.bl (atB bs k)) := by
  have e : k = ((k.toNat : Nat) : Int) := (Int.toNat_of_nonneg h1).symm
  rw [e]
  refine atI_nat ?_
  have l : k.toNat < bs.length := by omega
  rw [List.getElem?_map, List.getElem?_eq_getElem l]
  unfold atB
  rw [Int.toNat_natCast, List.getD_eq_getElem?_getD, List.getElem?_eq_getElem l]
  rfl
section
variable {n : Nat} {tt : TT} {te : TE} {vs : List Nat} {σ : SV} {H : Hp} {Q : VK} {i j : Nat}
/-- [e for x in range(n) if t] -/
theorem rd_lcR (p : Int → Bool) (F : Int → V) (h0 : σ[i]? = some (some (.int n))) (hn : n ≤ 1000) (hw : ∀ x, wipe ((wipe σ vs).set j (some x)) vs = wipe σ vs)
    (htt : ∀ k ∈ rgN 0 n, ∀ (H' : Hp) (Q : Bool → Hp → Prop), Same H H' → Q (p k) H' → tt ((wipe σ vs).set j (some (.int k))) H' Q)
    (hel : ∀ k ∈ rgN 0 n, p k = true → ∀ (H' : Hp) (Q : VK), Same H H' → Q (F k) H' → te ((wipe σ vs).set j (some (.int k))) H' Q)
    (hd : ∀ (D : Addr) (H' : Hp), Same H H' → H' D = some (.lst (((rgN 0 n).filter p).map F)) → Q (.ref D) H') : tLc (iRng1 (tCons (tVar i) tNil)) (gName j) tt te vs σ H Q := by
  refine ⟨_, h0, _, rfl, by omega, by omega, fun D hD => ?_⟩
  rw [Int.toNat_natCast]
  exact lc_filR p F hD (by rw [sizeLine_eq]; omega) hw htt hel (hd D _ (same_new (Same.refl H) hD) upd_same)
end
/-- the set of days at a: what Days makes of these truths -/
structure IsDays (H : Hp) (C a : Addr) (bs : List Bool) : Prop where
  ex : ∃ dx q r, H a = some (.ins C dx [("form", .ref q)]) ∧ H q = some (.tup [.int (lpG bs), .ref r]) ∧ H r = some (.tup ((restsB bs (lpG bs)).map V.int))
  lo : 1 ≤ bs.length
  hi : bs.length ≤ 7
theorem IsDays.keep {H H' : Hp} {C a : Addr} {bs : List Bool} (h : IsDays H C a bs) (s : Same H H') : IsDays H' C a bs := by
  obtain ⟨⟨dx, q, r, e1, e2, e3⟩, l, u⟩ := h
  exact ⟨⟨dx, q, r, s _ _ e1, s _ _ e2, s _ _ e3⟩, l, u⟩
/-- kept where all but lists stay -/
theorem IsDays.nl {H H' : Hp} {C a : Addr} {bs : List Bool} (h : IsDays H C a bs) (k : ∀ x o, H x = some o → (∀ zs, o ≠ .lst zs) → (∀ zs, o ≠ .tbl zs) → H' x = some o) : IsDays H' C a bs := by
  obtain ⟨⟨dx, q, r, e1, e2, e3⟩, l, u⟩ := h
  exact ⟨⟨dx, q, r, k _ _ e1 (fun _ z => nomatch z) (fun _ z => nomatch z), k _ _ e2 (fun _ z => nomatch z) (fun _ z => nomatch z), k _ _ e3 (fun _ z => nomatch z) (fun _ z => nomatch z)⟩, l, u⟩
/-- the facts of the class Days -/
structure DyC (K : PySem.W.Frag) (C : Addr) : Prop where
  cl : Cls K C
  n1 : NoAttr K C "form"
section
variable {P : Program} {w : World} {K : PySem.W.Frag} {mg : Str → Option Value} {base : Heap} {B C : Addr}
/-- what Days(v, u) says: truths, or the part that is wrong -/
def DaysV (K : PySem.W.Frag) (H : Hp) (v u : V) (r : List Bool ⊕ Str) : Prop :=
  (∃ (p : Nat) (l : Addr) (ns : List Int), v = .int p ∧ 1 ≤ p ∧ p ≤ 7 ∧ u = .ref l ∧ (H l = some (.lst (ns.map V.int)) ∨ H l = some (.tup (ns.map V.int))) ∧ ns.length ≤ 1000 ∧ (∀ n ∈ ns, 0 ≤ n ∧ n < p) ∧ r = .inl (truB p ns)) ∨
  (BtwV K H 1 7 v false ∧ r = .inr "period") ∨ (∃ p : Nat, v = .int p ∧ 1 ≤ p ∧ p ≤ 7 ∧ AreV K H 0 ((p : Int) - 1) u false ∧ r = .inr "rests")
def spDI (K : PySem.W.Frag) (B C : Addr) : Sp := fun vs H Q E => ∃ (a dx : Addr) (v u : V) (r : List Bool ⊕ Str), vs = [.ref a, v, u] ∧ H a = some (.ins C dx []) ∧ DaysV K H v u r ∧ (∀ s, r = .inr s → BadF B "part" E H (.str s)) ∧
  ∀ bs, r = .inl bs → ∀ (H' : Hp), But a H H' → IsDays H' C a bs → Q .non H'
end
/-- an integer, or none -/
def optV : Option Int → V
  | none => .non
  | some n => .int n
/-- the form of a set of days -/
def formB (bs : List Bool) : Int × List Int := (lpG bs, restsB bs (lpG bs))
/-- the form as data -/
def formD (bs : List Bool) : PyData := .tuple [.int (lpG bs), .tuple ((restsB bs (lpG bs)).map PyData.int)]
theorem shaped_form (bs : List Bool) : SeqAt.shaped (formD bs) = true := by
  unfold SeqAt.shaped formD
  have h1 : PyData.canLay0 (.tuple [.int (lpG bs), .tuple ((restsB bs (lpG bs)).map PyData.int)]) = true := by
    show (PyData.canLay0 (.int (lpG bs)) && (PyData.canLayAll0 ((restsB bs (lpG bs)).map PyData.int) && true)) = true
    rw [canLay_ints]
    rfl
  have h2 : PyData.depth (.tuple [.int (lpG bs), .tuple ((restsB bs (lpG bs)).map PyData.int)]) = 2 := by
    show max 0 (max (PyData.depthAll ((restsB bs (lpG bs)).map PyData.int) + 1) 0) + 1 = 2
    rw [depth_ints]
    rfl
  rw [h1, h2]
  rfl
theorem eqv_form (bs cs : List Bool) : PyData.eqv (formD bs) (formD cs) = decide (formB bs = formB cs) := by
  unfold formD formB
  have e : PyData.eqv (.int (lpG bs)) (.int (lpG cs)) = decide ((lpG bs : Int) = (lpG cs : Int)) := by simp [PyData.eqv]; rfl
  rw [PyData.eqv, PyData.eqvAll, PyData.eqvAll, PyData.eqvAll, e, PyData.eqv, eqv_ints, Bool.eq_iff_iff]
  simp
section
variable {P : Program} {w : World} {K : PySem.W.Frag} {mg : Str → Option Value} {base : Heap} {B Bc C : Addr}
theorem rgN_succ (lo : Int) (i : Nat) : rgN lo (i + 1) = rgN lo i ++ [lo + (i : Int)] := by
  unfold rgN
  rw [List.range_succ, List.map_append]
  rfl
theorem rd_sag {te : TE} {g : TG} {t2 : TS} {D : Ends} {σ : SV} {H : Hp} (h : te σ H fun v H1 => g v σ H1 (t2 D)) : tSeq (tAsg te g) t2 D σ H := h
/-- Days(..): what it makes -/
theorem mk_days {H : Hp} {Q : Addr → Hp → Prop} {E : XK} {v u : V} {r : List Bool ⊕ Str} (d : DaysV K H v u r) (h0 : ∀ bs, r = .inl bs → ∀ H' a, Same H H' → IsDays H' C a bs → Q a H') (h1 : ∀ p, r = .inr p → BadF B "part" E H (.str p)) :
    ∀ x dx, H x = none → H dx = none → dx ≠ x → spDI K B C [.ref x, v, u] (upd (upd H dx (.own x)) x (.ins C dx [])) (fun v H2 => v = .non ∧ Q x H2) E := by
  intro x dx hx hdx ne
  have s1 : Same H (upd (upd H dx (.own x)) x (.ins C dx [])) := fun b o e => by
    rw [upd_ne (ne_of_none e hx), upd_ne (ne_of_none e hdx)]
    exact e
  refine ⟨x, dx, v, u, r, rfl, upd_same, ?_, fun s e => (h1 s e).keep s1, fun bs e H' b d => ⟨rfl, h0 bs e H' x (fun y o q => b y o (ne_of_none q hx) (s1 y o q)) d⟩⟩
  rcases d with ⟨p, l, ns, e1, p1, p2, e2, hl, hn, hb, e3⟩ | ⟨hv, e⟩ | ⟨p, e1, p1, p2, hu, e⟩
  · exact .inl ⟨p, l, ns, e1, p1, p2, e2, hl.imp (fun h => s1 _ _ h) (fun h => s1 _ _ h), hn, hb, e3⟩
  · exact .inr (.inl ⟨hv.keep s1, e⟩)
  · refine .inr (.inr ⟨p, e1, p1, p2, ?_, e⟩)
    rcases hu with ⟨a, xs, b, e2, hx2, hz, hb, hr⟩ | ⟨⟨t, ty, kt⟩, e2⟩
    · exact .inl ⟨a, xs, b, e2, hx2.imp (fun h => s1 _ _ h) (fun h => s1 _ _ h), hz, fun x hm => (hb x hm).keep s1, hr⟩
    · exact .inr ⟨⟨t, TyX.keep ty s1, kt⟩, e2⟩
/-- Days(..) -/
structure DyD (P : Program) (w : World) (K : PySem.W.Frag) (mg : Str → Option Value) (base : Heap) (B C : Addr) : Prop where
  cls : DyC K C
  mgC : mg "Days" = some (.ref C)
  ini : ∃ (fI : Addr) (fd : FuncData), Mk K C fI ∧ FnOk P w K mg base (CX P w) 5 fI fd ["self", "period", "rests"] (spDI K B C) ∧ Binds K fd ["self", "period", "rests"] []
  mkk : ∃ (fI : Addr) (fd : FuncData), Mk K C fI ∧ FnOk P w K mg base (CX P w) 5 fI fd ["self", "period", "rests"] (spDI K B C) ∧ KwB fd ["period", "rests"]
  ca : PySem.W.findIn K (.ref C) "__class__" = some (some (.builtin "object.__class__"))
  cn : PySem.W.specialIn K (.builtin "object.__class__") "__get__" = some (some (.builtin "getset_descriptor.__get__"))
  ct : PySem.W.takesIn K (.builtin "object.__class__") = some true
  cm : PySem.W.mroIn K C (.type "object") = some true
  kc : PySem.W.kitOne K (.ref C) (.ref C) = some true
theorem DyD.ty (S : DyD P w K mg base B C) {H : Hp} {a : Addr} {bs : List Bool} (h : IsDays H C a bs) : TyX K H (.ref a) (.ref C) := by
  obtain ⟨⟨dx, q, r, e1, e2, e3⟩, _, _⟩ := h
  exact .base (.ins e1 S.cls.cl S.ca S.cn S.ct S.cm)
/-- o.form -/
theorem rd_form {σ : SV} {H : Hp} {i : Nat} {a : Addr} {bs : List Bool} {Q : VK} (S : DyC K C) (h0 : σ[i]? = some (some (.ref a))) (h : IsDays H C a bs) (q : ∀ f r, H f = some (.tup [.int (lpG bs), .ref r]) → H r = some (.tup ((restsB bs (lpG bs)).map V.int)) → Q (.ref f) H) : tFld K (tVar i) "form" σ H Q := by
  obtain ⟨⟨dx, f, r, e1, e2, e3⟩, _, _⟩ := h
  exact ⟨_, h0, a, C, dx, _, _, rfl, e1, S.cl, S.n1, rfl, q f r e2 e3⟩
theorem rd_form0 {σ : SV} {H : Hp} {i : Nat} {a : Addr} {bs : List Bool} {Q : VK} (S : DyC K C) (h0 : σ[i]? = some (some (.ref a))) (h : IsDays H C a bs) (q : Q (.int (lpG bs)) H) : tOp (rIxT K) (tFld K (tVar i) "form") (tC (.int 0)) σ H Q :=
  rd_op (rd_form S h0 h fun f r e1 e2 => rd_c ⟨f, _, 0, _, rfl, rfl, .inl (.inl e1), rfl, q⟩)
theorem rd_form1 {σ : SV} {H : Hp} {i : Nat} {a : Addr} {bs : List Bool} {Q : VK} (S : DyC K C) (h0 : σ[i]? = some (some (.ref a))) (h : IsDays H C a bs) (q : ∀ r, H r = some (.tup ((restsB bs (lpG bs)).map V.int)) → Q (.ref r) H) : tOp (rIxT K) (tFld K (tVar i) "form") (tC (.int 1)) σ H Q :=
  rd_op (rd_form S h0 h fun f r e1 e2 => rd_c ⟨f, _, 1, _, rfl, rfl, .inl (.inl e1), rfl, q r e2⟩)
theorem rd_make {sp : Sp} {E : XK} {ta : TA} {σ : SV} {H : Hp} {Q : VK} (h : ta σ H fun vs H1 => ∀ x dx, H1 x = none → H1 dx = none → dx ≠ x → sp (.ref x :: vs) (upd (upd H1 dx (.own x)) x (.ins C dx [])) (fun v H2 => v = .non ∧ Q (.ref x) H2) E) : tMake C sp [] E ta σ H Q := by
  unfold tMake
  simp only [List.append_nil]
  exact h
def spPer (C : Addr) : Sp := fun vs H Q _ => ∃ (a : Addr) (bs : List Bool), vs = [.ref a] ∧ IsDays H C a bs ∧ Q (.int (lpG bs)) H
def spRst (C : Addr) : Sp := fun vs H Q _ => ∃ (a : Addr) (bs : List Bool), vs = [.ref a] ∧ IsDays H C a bs ∧ ∀ r, H r = some (.tup ((restsB bs (lpG bs)).map V.int)) → Q (.ref r) H
def spFol (K : PySem.W.Frag) (Bc C : Addr) : Sp := fun vs H Q E => ∃ (a : Addr) (bs : List Bool) (v : V), vs = [.ref a, v] ∧ IsDays H C a bs ∧ ((∃ d, v = .int d ∧ Q (optV (folB bs d (lpG bs))) H) ∨ (NotInt K H v ∧ BadF Bc "value" E H v))
def spIn (K : PySem.W.Frag) (C : Addr) : Sp := fun vs H Q _ => ∃ (a : Addr) (bs : List Bool) (v : V), vs = [.ref a, v] ∧ IsDays H C a bs ∧ ((∃ d, v = .int d ∧ Q (.bl (dinB bs d)) H) ∨ (NotInt K H v ∧ Q (.bl false) H))
/-- equal to v -/
def EqV (K : PySem.W.Frag) (C : Addr) (H : Hp) (bs : List Bool) (v : V) (r : Bool) : Prop :=
  (∃ b cs, v = .ref b ∧ IsDays H C b cs ∧ r = decide (formB bs = formB cs)) ∨ (∃ ty, TyX K H v ty ∧ PySem.W.kitOne K ty (.ref C) = some false ∧ r = false)
def spEq (K : PySem.W.Frag) (C : Addr) : Sp := fun vs H Q _ => ∃ (a : Addr) (bs : List Bool) (v : V) (r : Bool), vs = [.ref a, v] ∧ IsDays H C a bs ∧ EqV K C H bs v r ∧ Q (.bl r) H
def spBo (C : Addr) : Sp := fun vs H Q _ => ∃ (a : Addr) (bs : List Bool), vs = [.ref a] ∧ IsDays H C a bs ∧ Q (.bl (decide (restsB bs (lpG bs) ≠ []))) H
end
/-- the text of a set of days -/
def daysTxt (bs : List Bool) : Str := if restsB bs (lpG bs) = [] then "none" else if (restsB bs (lpG bs)).length = lpG bs then "every" else Txt.join " " (([Str.ofString "by", Str.ofString (toString (lpG bs : Int)), Str.ofString "at"] : List Str) ++ (restsB bs (lpG bs)).map fun (k : Int) => Str.ofString (toString k))
theorem rd_fmt {te : TE} {σ : SV} {H : Hp} {Q : VK} (h : te σ H fun x H1 => (∃ y : Str, x = .str y ∧ y.length ≤ sizeLine ∧ Q (.str y) H1) ∨ ∃ i : Int, x = .int i ∧ i.natAbs.log2 < 1920 ∧ Q (.str (toString i)) H1) : tFmt te σ H Q := h
theorem txt_le {i : Int} (h : i.natAbs < 10 ^ 13) : (Str.ofString (toString i)).length ≤ 14 := by
  rw [ofString_length]
  exact int_text_length_le10 (k := 13) (by decide) h
theorem log_lt {i : Int} (h : i.natAbs < 10 ^ 13) : i.natAbs.log2 < 1920 := Nat.lt_of_lt_of_le (PySem.Flt.log2_lt_of (n := i.natAbs) (k := 44) (by decide) (Nat.lt_of_lt_of_le h (by decide))) (by decide)
theorem sum_le : ∀ (l : List Nat) (m : Nat), (∀ x ∈ l, x ≤ m) → l.sum ≤ l.length * m
  | [], m, _ => by simp
  | x :: l, m, h => by
    have a := sum_le l m fun y hy => h y (List.mem_cons_of_mem _ hy)
    have b := h x List.mem_cons_self
    rw [List.sum_cons, List.length_cons, Nat.add_mul]
    omega
section
variable {P : Program} {w : World} {K : PySem.W.Frag} {mg : Str → Option Value} {base : Heap} {B Bc C : Addr}
def spStr (C : Addr) : Sp := fun vs H Q _ => ∃ (a : Addr) (bs : List Bool), vs = [.ref a] ∧ IsDays H C a bs ∧ ∀ H', Same H H' → Q (.str (daysTxt bs)) H'
/-- Days made of v and of u -/
def spMk (K : PySem.W.Frag) (B C : Addr) : Sp := fun vs H Q E => ∃ (v u : V) (r : List Bool ⊕ Str), vs = [v, u] ∧ DaysV K H v u r ∧ (∀ s, r = .inr s → BadF B "part" E H (.str s)) ∧ ∀ bs, r = .inl bs → ∀ (H' : Hp) (a : Addr), Same H H' → IsDays H' C a bs → Q (.ref a) H'
def spOn (K : PySem.W.Frag) (B C : Addr) : Sp := fun vs H Q E => ∃ (ws rest : List V), vs = ws ++ rest ∧ ws.length = ["period"].length ∧ rest.length ≤ sizeLine ∧ ∀ p, H p = none → spMk K B C (ws ++ [V.ref p]) (upd H p (.tup rest)) Q E
def spEvery (C : Addr) (bs : List Bool) : Sp := fun vs H Q _ => vs = [] ∧ ∀ (H' : Hp) (a : Addr), Same H H' → IsDays H' C a bs → Q (.ref a) H'
end
section
variable {lo : Int} {n : Nat} {D : Addr} {tt : TT} {te : TE} {vs : List Nat} {σ : SV} {H1 : Hp} {Qd : Hp → Prop} {j : Nat}
/-- [e for x in range(..) if t], t may lay objects -/
theorem lc_filX (p : Int → Bool) (F : Int → V) (hD : H1 D = none) (hn : n < sizeLine) (hw : ∀ x, wipe ((wipe σ vs).set j (some x)) vs = wipe σ vs)
    (htt : ∀ k ∈ rgN lo n, ∀ (H' : Hp) (Q : Bool → Hp → Prop), Same H1 H' → (∀ H'', Same H' H'' → Q (p k) H'') → tt ((wipe σ vs).set j (some (.int k))) H' Q)
    (hel : ∀ k ∈ rgN lo n, p k = true → ∀ (H' : Hp) (Q : VK), Same H1 H' → (∀ H'', Same H' H'' → Q (F k) H'') → te ((wipe σ vs).set j (some (.int k))) H' Q)
    (hd : ∀ H', Same H1 H' → H' D = some (.lst (((rgN lo n).filter p).map F)) → Qd H') :
    ∃ W : Nat → Nat → Hp → Prop, (∃ m, W 0 m (upd H1 D (.lst []))) ∧ ∀ i m H, W i m H →
      ((Itr lo n).stop i H ∧ Qd H) ∨ ((Itr lo n).go i H ∧ ∃ Nx : Hp → Prop, (∀ H', Nx H' → ∃ m', m' < m ∧ W (i + 1) m' H') ∧ ∀ x H', (Itr lo n).yld i H x H' → gName j x (wipe σ vs) H' fun σ2 H2 => wipe σ2 vs = wipe σ vs ∧ tt σ2 H2 fun b H3 =>
        if b = true then te σ2 H3 fun y H4 => ∃ acc, H4 D = some (.lst acc) ∧ acc.length < sizeLine ∧ Nx (upd H4 D (.lst (acc ++ [y]))) else Nx H3) := by
  refine ⟨fun i m H => m = n - i ∧ i ≤ n ∧ Same H1 H ∧ H D = some (.lst (((rgN lo i).filter p).map F)), ⟨_, rfl, Nat.zero_le _, same_new (Same.refl _) hD, upd_same⟩, ?_⟩
  rintro i m H ⟨rfl, hi, sH, eD⟩
  have es := rgN_succ lo i
  by_cases hlt : i < n
  · refine .inr ⟨hlt, fun H' => Same H1 H' ∧ H' D = some (.lst (((rgN lo (i + 1)).filter p).map F)), fun H' e => ⟨_, by omega, rfl, hlt, e⟩, ?_⟩
    rintro x H' ⟨rfl, rfl⟩
    have mem : lo + (i : Int) ∈ rgN lo n := List.mem_map.mpr ⟨i, List.mem_range.mpr hlt, rfl⟩
    refine ⟨hw _, htt _ mem _ _ sH fun H2 s2 => ?_⟩
    refine ite2 (fun b => hel _ mem b _ _ (sH.trans s2) fun H3 s3 => ⟨_, s3 _ _ (s2 _ _ eD), ?_, ?_, ?_⟩) (fun b => ⟨sH.trans s2, ?_⟩)
    · rw [List.length_map]
      have := List.length_filter_le p (rgN lo i)
      rw [List.length_map, List.length_range] at this
      omega
    · exact fun a o e => by
        rw [upd_ne (ne_of_none e hD)]
        exact s3 _ _ (s2 _ _ (sH _ _ e))
    · rw [upd_same, es, List.filter_append, List.map_append, List.filter_cons_of_pos (p := p) (a := lo + (i : Int)) (l := []) b]
      rfl
    · rw [es, List.filter_append, List.filter_cons_of_neg (p := p) (a := lo + (i : Int)) (l := []) b, List.filter_nil, List.append_nil]
      exact s2 _ _ eD
  · have e : i = n := by omega
    subst e
    exact .inl ⟨Nat.le_refl _, hd _ sH eD⟩
end
theorem rd_lcI {wi : TI} {g : TG} {tt : TT} {te : TE} {vs : List Nat} {σ : SV} {H : Hp} {Q : VK} (h : wi σ H fun J H1 => ∀ D, H1 D = none → ∃ W : Nat → Nat → Hp → Prop, (∃ m, W 0 m (upd H1 D (.lst []))) ∧ ∀ i m H, W i m H →
  (J.stop i H ∧ Q (.ref D) H) ∨ (J.go i H ∧ ∃ Nx : Hp → Prop, (∀ H', Nx H' → ∃ m', m' < m ∧ W (i + 1) m' H') ∧ ∀ x H', J.yld i H x H' → g x (wipe σ vs) H' fun σ2 H2 => wipe σ2 vs = wipe σ vs ∧ tt σ2 H2 fun b H3 =>
    if b = true then te σ2 H3 fun y H4 => ∃ acc, H4 D = some (.lst acc) ∧ acc.length < sizeLine ∧ Nx (upd H4 D (.lst (acc ++ [y]))) else Nx H3)) : tLc wi g tt te vs σ H Q := h
theorem rd_rng2 {ta : TA} {σ : SV} {H : Hp} {R : It → Hp → Prop} (h : ta σ H fun vs H1 => ∃ i j : Int, vs = [.int i, .int j] ∧ (-(2 ^ 62) ≤ i ∧ i < 2 ^ 62 ∧ -(2 ^ 62) ≤ j ∧ j < 2 ^ 62) ∧ R (Itr i (j - i).toNat) H1) : iRng2 ta σ H R := h
theorem rd_rngA {ta : TA} {σ : SV} {H : Hp} {R : It → Hp → Prop} (h : ta σ H fun vs H1 => ∃ i j : Int, vs = [.int i, .int j] ∧ R (Itr i (j - i).toNat) H1) : iRngA ta σ H R := h
theorem rd_sl {r : V → Option Int → Option Int → Hp → VK → Prop} {te : TE} {tl th : TO} {σ : SV} {H : Hp} {Q : VK} (h : te σ H fun x H1 => tl σ H1 fun l H2 => th σ H2 fun u H3 => r x l u H3 Q) : tSl r te tl th σ H Q := h
theorem rd_part {t : TE} {σ : SV} {H : Hp} {Q : Option Int → Hp → Prop} (h : t σ H fun x H1 => ∃ i, x = .int i ∧ Q (some i) H1) : tPart t σ H Q := h
theorem rd_nopart {σ : SV} {H : Hp} {Q : Option Int → Hp → Prop} (h : Q none H) : tNoPart σ H Q := h
/-- what law's own look finds -/
theorem rot_first {bs : List Bool} (h1 : 1 ≤ bs.length) (h2 : bs.length ≤ 7) : ∃ r, (rgN 1 bs.length).filter (fun k => rotOk bs k.toNat) = (lpG bs : Int) :: r := by
  obtain ⟨_, _, _, f4, _⟩ := lp_facts h1 h2
  have e : rgN 1 bs.length = (List.range' 1 bs.length).map Int.ofNat := by
    rw [List.range'_eq_map_range, List.map_map]
    refine List.map_congr_left fun i _ => ?_
    show (1 : Int) + i = ((1 + i : Nat) : Int)
    omega
  rw [e, List.filter_map]
  have e2 : ((fun k : Int => rotOk bs k.toNat) ∘ Int.ofNat) = rotOk bs := by
    funext k
    rfl
  rw [e2]
  cases hl : (List.range' 1 bs.length).filter (rotOk bs) with
  | nil =>
    rw [hl] at f4
    cases f4
  | cons x r =>
    rw [hl] at f4
    have : x = lpG bs := Option.some.inj f4
    rw [this]
    exact ⟨_, rfl⟩
section
variable {P : Program} {w : World} {K : PySem.W.Frag} {mg : Str → Option Value} {base : Heap} {B Bc C : Addr}
def spLeast : Sp := fun vs H Q _ => ∃ (l : Addr) (bs : List Bool), vs = [.int bs.length, .ref l] ∧ 1 ≤ bs.length ∧ bs.length ≤ 7 ∧ H l = some (.lst ((restsB bs bs.length).map V.int)) ∧
  ∀ (H' : Hp) (t r : Addr), Same H H' → H' t = some (.tup [.int (lpG bs), .ref r]) → H' r = some (.tup ((restsB bs (lpG bs)).map V.int)) → Q (.ref t) H'
end
structure OwnMP (P : Program) (w : World) (K : PySem.W.Frag) (mg : Str → Option Value) (base : Heap) (CX : CXT) (k : Nat) (C : Addr) (m : Str) (sp : Sp) : Prop where
  ex : ∃ (f : Addr) (fd : FuncData) (ps : List Str), FnOk P w K mg base CX k f fd ps sp ∧ Binds K fd ps [] ∧ PySem.W.findIn K (.ref C) m = some (some (.ref f)) ∧ PySem.W.isFn K (.ref f) = true
theorem OwnMP.at_ {X : Cx} {CX : CXT} {k : Nat} {C : Addr} {m : Str} {sp : Sp} (h : OwnMP X.prog X.w X.K X.mg X.base CX k C m sp) : OwnM X CX k C m sp := ⟨h.ex⟩
abbrev lTs : List String := ["NoneType", "bool", "int", "str", "tuple", "list"]
/-- the class Days -/
structure DyN (P : Program) (w : World) (K : PySem.W.Frag) (mg : Str → Option Value) (base : Heap) (B Bc C : Addr) : Prop extends DyD P w K mg base B C where
  eqm : OwnMP P w K mg base CX0 1 C "__eq__" (spEq K C)
  ne : PySem.W.findIn K (.ref C) "__ne__" = some (some (.builtin "object.__ne__"))
  nf : PySem.W.notFirst K C (.ref C) = true
  boolm : OwnMP P w K mg base CX0 1 C "__bool__" (spBo C)
  strm : OwnMP P w K mg base CX0 1 C "__str__" (spStr C)
  cont : OwnMP P w K mg base CX0 2 C "__contains__" (spIn K C)
  per : ∃ (p g : Addr) (fd : FuncData), PropOf K C "period" p g ∧ FnOk P w K mg base CX0 1 g fd ["self"] (spPer C) ∧ Binds K fd ["self"] []
  rst : ∃ (p g : Addr) (fd : FuncData), PropOf K C "rests" p g ∧ FnOk P w K mg base CX0 1 g fd ["self"] (spRst C) ∧ Binds K fd ["self"] []
  fol : ∃ (f : Addr) (fd : FuncData), Meth K C "following" f ∧ FnOk P w K mg base (CX P w) 3 f fd ["self", "d"] (spFol K Bc C) ∧ Binds K fd ["self", "d"] [] ∧ KwB fd ["d"]
  on : ∃ (mc : Value) (p g : Addr), CRead K C mc ∧ SMet K C mc "on" p g ∧ FnR P w K mg base (CX P w) 7 g (spOn K B C)
  ev : ∃ (mc : Value) (p g : Addr), CRead K C mc ∧ SMet K C mc "every" p g ∧ FnR P w K mg base CX0 7 g (spEvery C [true])
  no : ∃ (mc : Value) (p g : Addr), CRead K C mc ∧ SMet K C mc "none" p g ∧ FnR P w K mg base CX0 7 g (spEvery C [false])
  mo : ∃ mc u, CRead K C mc ∧ CVal K C mc "MOST" (.int 7) u
  lt : ∀ T ∈ lTs, PySem.W.subIn K (.ref C) (.type T) = some false
  kt : ∀ T ∈ lTs, PySem.W.kitOne K (.type T) (.ref C) = some false
section
variable {P : Program} {w : World} {K : PySem.W.Frag} {mg : Str → Option Value} {base : Heap} {B Bc C : Addr} {H : Hp} {Q : VK} {a b : Addr} {bs cs : List Bool}
theorem IsDays.at_ (h : IsDays H C a bs) : ∃ dx fs, H a = some (.ins C dx fs) ∧ fs.lookup ("following" : Str) = none := by
  obtain ⟨⟨dx, q, r, e1, e2, e3⟩, _, _⟩ := h
  exact ⟨dx, _, e1, rfl⟩
theorem rd_eqL (S : DyN P w K mg base B Bc C) {x : V} {T : String} (ha : IsDays H C a bs) (l : Lft H x T) (hT : T ∈ lTs) (q : Q (.bl false) H) : rEqR K C (spEq K C) E0 x (.ref a) H Q := by
  obtain ⟨dx, fs, e1, _⟩ := ha.at_
  exact ⟨a, dx, _, T, rfl, e1, l, S.lt T hT, a, bs, x, false, rfl, ha, .inr ⟨_, l.ty, S.kt T hT, rfl⟩, _, rfl, q⟩
theorem rd_neD (S : DyN P w K mg base B Bc C) (ha : IsDays H C a bs) (hb : IsDays H C b cs) (q : Q (.bl (!decide (formB bs = formB cs))) H) : rNeO K C (spEq K C) E0 (.ref a) (.ref b) H Q := by
  obtain ⟨dx, fs, e1, _⟩ := ha.at_
  exact ⟨a, dx, _, .ref C, rfl, e1, S.ty hb, S.nf, a, bs, .ref b, _, rfl, ha, .inl ⟨b, cs, rfl, hb, rfl⟩, _, rfl, q⟩
theorem rd_neDE (S : DyN P w K mg base B Bc C) (ha : IsDays H C a bs) (hb : IsDays H C b cs) (e : formB bs = formB cs) (q : Q (.bl false) H) : rNeO K C (spEq K C) E0 (.ref a) (.ref b) H Q := by
  refine rd_neD S ha hb ?_
  rw [decide_eq_true e]
  exact q
theorem rd_inD {d : Int} (ha : IsDays H C a bs) (q : Q (.bl (dinB bs d)) H) : rInO C (spIn K C) E0 (.int d) (.ref a) H Q := by
  obtain ⟨dx, fs, e1, _⟩ := ha.at_
  exact ⟨a, dx, _, rfl, e1, a, bs, .int d, rfl, ha, .inl ⟨d, rfl, _, rfl, q⟩⟩
theorem rd_notInD {v : V} (ha : IsDays H C a bs) (hv : NotInt K H v) (q : Q (.bl true) H) : rNotInO C (spIn K C) E0 v (.ref a) H Q := by
  obtain ⟨dx, fs, e1, _⟩ := ha.at_
  exact ⟨a, dx, _, rfl, e1, a, bs, v, rfl, ha, .inr ⟨hv, _, rfl, q⟩⟩
theorem rd_strD (ha : IsDays H C a bs) (q : ∀ H', Same H H' → Q (.str (daysTxt bs)) H') : rStrO C (spStr C) E0 [.ref a] H Q := by
  obtain ⟨dx, fs, e1, _⟩ := ha.at_
  exact ⟨a, dx, _, rfl, e1, a, bs, rfl, ha, fun H' s' => ⟨_, rfl, q H' s'⟩⟩
theorem rd_boolD (ha : IsDays H C a bs) (q : Q (.bl (decide (restsB bs (lpG bs) ≠ []))) H) : rBoolO C (spBo C) E0 [.ref a] H Q := by
  obtain ⟨dx, fs, e1, _⟩ := ha.at_
  exact ⟨a, dx, _, rfl, e1, a, bs, rfl, ha, _, rfl, q⟩
theorem rd_perV {σ : SV} {i : Nat} (h0 : σ[i]? = some (some (.ref a))) (ha : IsDays H C a bs) (q : Q (.int (lpG bs)) H) : tProp C (spPer C) [] E0 (tVar i) σ H Q := by
  obtain ⟨dx, fs, e1, _⟩ := ha.at_
  exact ⟨_, h0, a, dx, fs, rfl, e1, a, bs, rfl, ha, q⟩
theorem rd_rstV {σ : SV} {i : Nat} (h0 : σ[i]? = some (some (.ref a))) (ha : IsDays H C a bs) (q : ∀ r, H r = some (.tup ((restsB bs (lpG bs)).map V.int)) → Q (.ref r) H) : tProp C (spRst C) [] E0 (tVar i) σ H Q := by
  obtain ⟨dx, fs, e1, _⟩ := ha.at_
  exact ⟨_, h0, a, dx, fs, rfl, e1, a, bs, rfl, ha, q⟩
theorem rd_meth {m : Str} {sp : Sp} {E : XK} {to : TE} {ta : TA} {σ : SV} (h : to σ H fun x H1 => ∃ a dx fs, x = .ref a ∧ H1 a = some (.ins C dx fs) ∧ fs.lookup m = none ∧ ta σ H1 fun vs H2 => sp (x :: vs) H2 Q E) : tMeth C m sp [] E to ta σ H Q := by
  unfold tMeth
  simp only [List.append_nil]
  exact h
theorem Pen.same {H H' : Hp} {p c : Addr} {ns : List Int} {i r : Int} (h : Pen H p c ns i r) (s : Same H H') : Pen H' p c ns i r := ⟨s _ _ h.pen, s _ _ h.cells, h.lo, h.few⟩
theorem But.same {p : Addr} {H H1 H2 : Hp} (b : But p H H1) (s : Same H1 H2) : But p H H2 := fun x o n e => s _ _ (b x o n e)
theorem IsDays.but {p c : Addr} {ns : List Int} {i r : Int} {H H' : Hp} (h : IsDays H C a bs) (s : But p H H') (pen : Pen H p c ns i r) : IsDays H' C a bs :=
  h.nl fun x o e n _ => s x o (fun z => by rw [z, pen.pen] at e; exact n _ (Option.some.inj e).symm) e
theorem IsDays.butN {p c : Addr} {ns : List Int} {i r : Int} {H H' : Hp} (h : IsDays H C a bs) (s : ButN p H H') (pen : Pen H p c ns i r) : IsDays H' C a bs :=
  h.nl fun x o e n t => s x o (fun z => by rw [z, pen.pen] at e; exact n _ (Option.some.inj e).symm) e t
theorem IsDays.extN {H H' : Hp} (h : IsDays H C a bs) (s : LamX.ExtN H H') : IsDays H' C a bs := h.nl fun x o e _ t => s x o e t
theorem Pen.extN {H H' : Hp} {p c : Addr} {ns : List Int} {i r : Int} (h : Pen H p c ns i r) (s : LamX.ExtN H H') : Pen H' p c ns i r := ⟨s _ _ h.pen (fun _ z => nomatch z), s _ _ h.cells (fun _ z => nomatch z), h.lo, h.few⟩
theorem ButN.of {p : Addr} {H H' : Hp} (b : But p H H') : ButN p H H' := fun a o n h _ => b a o n h
theorem ButN.same {p : Addr} {H H1 H2 : Hp} (b : ButN p H H1) (s : Same H1 H2) : ButN p H H2 := fun x o n e t => s _ _ (b x o n e t)
abbrev lamQ (x : Str) : Str := (x ++ ".<locals>.") ++ "<lambda>"
theorem not_int {H : Hp} {v : V} {Tn : String} (m : Tn ∈ ["NoneType", "bool", "str", "tuple", "list", "dict"]) (h : TyX K H v (.type Tn)) : NotInt K H v := by
  simp only [List.mem_cons, List.not_mem_nil, or_false] at m
  rcases m with rfl | rfl | rfl | rfl | rfl | rfl
  · exact ⟨_, false, false, h, kit_ty (by decide +kernel), kit_ty (by decide +kernel), .inl rfl⟩
  · exact ⟨_, true, true, h, kit_ty (by decide +kernel), kit_ty (by decide +kernel), .inr rfl⟩
  · exact ⟨_, false, false, h, kit_ty (by decide +kernel), kit_ty (by decide +kernel), .inl rfl⟩
  · exact ⟨_, false, false, h, kit_ty (by decide +kernel), kit_ty (by decide +kernel), .inl rfl⟩
  · exact ⟨_, false, false, h, kit_ty (by decide +kernel), kit_ty (by decide +kernel), .inl rfl⟩
  · exact ⟨_, false, false, h, kit_ty (by decide +kernel), kit_ty (by decide +kernel), .inl rfl⟩
theorem rd_sdrop {te : TE} {t2 : TS} {D : Ends} {σ : SV} {H : Hp} (h : te σ H fun _ H1 => t2 D σ H1) : tSeq (tDrop te) t2 D σ H := h
theorem rd_app {i : Nat} {L : Addr} {xs : List V} {ta : TA} {σ : SV} {H : Hp} {Q : VK} (h0 : σ[i]? = some (some (.ref L))) (hL : H L = some (.lst xs)) (h : ta σ H fun vs H2 => rAppend (.ref L) vs H2 Q) : tBM K "list" rAppend (tVar i) ta σ H Q :=
  ⟨_, h0, .inl ⟨rfl, xs, SqL.of hL⟩, h⟩
/-- a list is written anew: all that is no list stays -/
theorem nl_put {H : Hp} {L : Addr} {xs ys : List V} (h : H L = some (.lst xs)) : ∀ x o, H x = some o → (∀ zs, o ≠ .lst zs) → upd H L (.lst ys) x = some o := fun x o e n => by
  have ne : x ≠ L := fun z => by
    rw [z, h] at e
    exact n xs (Option.some.inj e).symm
  rw [upd_ne ne]
  exact e
theorem tabs_put {T : List (Addr × Str)} {H : Hp} {L : Addr} {xs ys : List V} (h : H L = some (.lst xs)) (t : LamX.Tabs T H) : LamX.Tabs T (upd H L (.lst ys)) :=
  tabs_but (fun a o n e => by rw [upd_ne n]; exact e) h t
theorem ints_ne {H : Hp} {L p c : Addr} {zs ns : List Int} {i r : Int} (h : H L = some (.lst (zs.map V.int))) (pen : Pen H p c ns i r) : L ≠ p := fun z => by
  rw [z, pen.pen] at h
  have y2 := congrArg (fun o => match o with | some (HO.lst (V.ref _ :: _)) => true | _ => false) h
  cases zs with
  | nil => cases y2
  | cons n ns => cases y2
/-- a def that shows, by its name -/
structure DefG (P : Program) (w : World) (K : PySem.W.Frag) (mg : Str → Option Value) (base : Heap) (x : Str) (k : Nat) (ps : List Str) (sp : Sp) : Prop where
  ex : ∃ (f : Addr) (fd : FuncData), FnG P w K mg base CX0 k f fd ps sp ∧ mg x = some (.ref f) ∧ PySem.W.keepIn K (.ref f) = true ∧ Binds K fd ps []
end
theorem TyX.extN {K : PySem.W.Frag} {H H' : Hp} {v : V} {t : Value} (h : TyX K H v t) (s : LamX.ExtN H H') : TyX K H' v t := by
  cases h with
  | base h =>
    refine .base ?_
    cases h with
    | non => exact .non
    | bl x => exact .bl x
    | int i => exact .int i
    | str x => exact .str x
    | flt x => exact .flt x
    | lst e => exact .lst (s _ _ e (fun _ z => nomatch z))
    | frz e => exact .frz (s _ _ e (fun _ z => nomatch z))
    | tup e => exact .tup (s _ _ e (fun _ z => nomatch z))
    | dK e => exact .dK (s _ _ e (fun _ z => nomatch z))
    | dT e => exact .dT (s _ _ e (fun _ z => nomatch z))
    | ins e a b c d f => exact .ins (s _ _ e (fun _ z => nomatch z)) a b c d f
  | byt b => exact .byt b
  | set e => exact .set (s _ _ e (fun _ z => nomatch z))
  | kList e c => exact .kList e c
  | kTuple e c => exact .kTuple e c
  | kDict e c => exact .kDict e c
  | fTuple e => exact .fTuple (s _ _ e (fun _ z => nomatch z))
  | fDict e => exact .fDict (s _ _ e (fun _ z => nomatch z))
theorem NotInt.extN {K : PySem.W.Frag} {H H' : Hp} {v : V} (h : NotInt K H v) (s : LamX.ExtN H H') : NotInt K H' v := by
  obtain ⟨t, b1, b2, ty, k1, k2, c⟩ := h
  exact ⟨t, b1, b2, TyX.extN ty s, k1, k2, c⟩
theorem BtwV.extN {K : PySem.W.Frag} {H H' : Hp} {lo hi : Int} {v : V} {b : Bool} (h : BtwV K H lo hi v b) (s : LamX.ExtN H H') : BtwV K H' lo hi v b := by
  rcases h with h | ⟨h, e⟩
  · exact .inl h
  · exact .inr ⟨h.extN s, e⟩
theorem AreV.extN {K : PySem.W.Frag} {H H' : Hp} {lo hi : Int} {v : V} {r : Bool} (h : AreV K H lo hi v r) (s : LamX.ExtN H H') : AreV K H' lo hi v r := by
  rcases h with ⟨a, xs, b, e2, hx2, hz, hb, hr⟩ | ⟨⟨t, ty, kt⟩, e2⟩
  · exact .inl ⟨a, xs, b, e2, hx2.imp (fun h => s _ _ h (fun _ z => nomatch z)) (fun h => s _ _ h (fun _ z => nomatch z)), hz, fun x hm => (hb x hm).extN s, hr⟩
  · exact .inr ⟨⟨t, TyX.extN ty s, kt⟩, e2⟩
theorem AreV.keep {K : PySem.W.Frag} {H H' : Hp} {lo hi : Int} {v : V} {r : Bool} (h : AreV K H lo hi v r) (s : Same H H') : AreV K H' lo hi v r := h.extN (LamX.ExtN.of s)
theorem restsB_snoc (bs : List Bool) (b : Bool) : restsB (bs ++ [b]) (bs.length + 1) = restsB bs bs.length ++ (if b = true then [(bs.length : Int)] else []) := by
  unfold restsB
  rw [rgN_succ, List.filter_append]
  congr 1
  · refine List.filter_congr fun k hk => ?_
    have := mem_rgN.mp hk
    unfold atB
    rw [List.getD_eq_getElem?_getD, List.getElem?_append_left (by omega), List.getD_eq_getElem?_getD]
  · have e : atB (bs ++ [b]) (0 + (bs.length : Int)) = b := by
      unfold atB
      rw [Int.zero_add, Int.toNat_natCast, List.getD_eq_getElem?_getD, List.getElem?_append_right (Nat.le_refl _), Nat.sub_self]
      rfl
    cases b
    · rw [List.filter_cons_of_neg (by rw [e]; exact Bool.false_ne_true)]
      rfl
    · rw [List.filter_cons_of_pos e, Int.zero_add]
      rfl
/-- [x for x in range(n) if draw(pen, 2) == 0] -/
theorem rd_lcDraw {σ : SV} {vs : List Nat} {H : Hp} {Q : VK} {a0 a1 j n : Nat} {p c : Addr} {ns : List Int} {i r : Int} (h1 : σ[a1]? = some (some (.int n))) (hn : n ≤ 1000) (pen : Pen H p c ns i r) (hi : i + n ≤ 10000) (hw : ∀ x, wipe ((wipe σ vs).set j (some x)) vs = wipe σ vs)
    (h0 : ∀ x, ((wipe σ vs).set j (some x))[a0]? = some (some (.ref p))) (hj : ∀ x, ((wipe σ vs).set j (some x))[j]? = some (some x))
    (q : ∀ (D : Addr) (H' : Hp) (i' r' : Int) (bs : List Bool), But p H H' → Pen H' p c ns i' r' → i' ≤ i + n → bs.length = n → H D = none → H' D = some (.lst ((restsB bs n).map V.int)) → Q (.ref D) H') :
    tLc (iRng1 (tCons (tVar a1) tNil)) (gName j) (tTest (tOp rEq (tCall spDraw [] E0 (tCons (tVar a0) (tCons (tC (.int 2)) tNil))) (tC (.int 0)))) (tVar j) vs σ H Q := by
  refine ⟨_, h1, _, rfl, by omega, by omega, fun D hD => ?_⟩
  rw [Int.toNat_natCast]
  have nD : D ≠ p := (ne_of_none pen.pen hD).symm
  refine ⟨fun k m H' => m = n - k ∧ k ≤ n ∧ ∃ (i' r' : Int) (bs : List Bool), But p H H' ∧ Pen H' p c ns i' r' ∧ i' ≤ i + k ∧ bs.length = k ∧ H' D = some (.lst ((restsB bs k).map V.int)),
    ⟨_, rfl, Nat.zero_le _, i, r, [], (But.refl p H).new hD, pen.same (same_new (Same.refl H) hD), by omega, rfl, upd_same⟩, ?_⟩
  rintro k m H' ⟨rfl, hk, i', r', bs, bt, pen', gi, hl, eD⟩
  by_cases hlt : k < n
  · refine .inr ⟨hlt, fun H'' => ∃ (i' r' : Int) (bs : List Bool), But p H H'' ∧ Pen H'' p c ns i' r' ∧ i' ≤ i + (k + 1 : Nat) ∧ bs.length = k + 1 ∧ H'' D = some (.lst ((restsB bs (k + 1)).map V.int)), fun H'' e => ⟨_, by omega, rfl, hlt, e⟩, ?_⟩
    rintro x H1 ⟨rfl, rfl⟩
    refine ⟨hw _, rd_test (rd_op (rd_call (rd_cons (rd_var (h0 _) (rd_cons (rd_c (rd_nil ⟨p, c, ns, i', r', 2, rfl, pen', by omega, by decide, by decide, fun H2 i2 r2 d u2 pen2 g1 g2 m1 m2 => rd_c ⟨rfl, _, rfl, ?_⟩⟩)))))))⟩
    rw [dec_v]
    have eD2 := u2 _ _ nD eD
    subst hl
    refine ite2 (fun b => ⟨_, hj _, _, eD2, ?_, ?_⟩) (fun b => ?_)
    · rw [List.length_map, sizeLine_eq]
      have := rests_len bs bs.length
      omega
    · refine ⟨i2, r2, bs ++ [true], fun x o n e => ?_, ⟨?_, ?_, pen2.lo, pen2.few⟩, by omega, by simp, ?_⟩
      · rw [upd_ne (ne_of_none e hD)]
        exact u2 _ _ n (bt _ _ n e)
      · rw [upd_ne nD.symm]
        exact pen2.pen
      · rw [upd_ne (ne_of_none pen.cells hD)]
        exact pen2.cells
      · rw [upd_same, restsB_snoc, if_pos rfl, List.map_append, Int.zero_add]
        rfl
    · refine ⟨i2, r2, bs ++ [false], bt.trans u2, pen2, by omega, by simp, ?_⟩
      rw [restsB_snoc, if_neg (by decide), List.append_nil]
      exact eD2
  · have e : k = n := by omega
    subst e
    exact .inl ⟨Nat.le_refl _, q D _ i' r' bs bt pen' gi hl hD eD⟩
/-- what the form tells as data -/
theorem form_small {bs : List Bool} (h1 : 1 ≤ bs.length) (h2 : bs.length ≤ 7) : (formD bs).showable = true ∧ (formD bs).depth ≤ 60 ∧ (formD bs).shown.length ≤ sizeLine := by
  have h := all7 (p := fun bs => (formD bs).showable && (decide ((formD bs).depth ≤ 60) && decide ((formD bs).shown.length ≤ 100))) (by decide +kernel) h1 h2
  simp only [Bool.and_eq_true, decide_eq_true_eq] at h
  exact ⟨h.1, h.2.1, Nat.le_trans h.2.2 (by rw [sizeLine_eq]; decide)⟩
theorem rests_nil {bs : List Bool} (h1 : 1 ≤ bs.length) (h2 : bs.length ≤ 7) : decide (restsB bs (lpG bs) ≠ []) = !decide (restsB bs bs.length = []) := by
  have h := all7 (p := fun bs => decide (restsB bs (lpG bs) ≠ []) == !decide (restsB bs bs.length = [])) (by decide +kernel) h1 h2
  exact eq_of_beq h
theorem DR.form {K : PySem.W.Frag} {H : Hp} {t r : Addr} {bs : List Bool} (e1 : H t = some (.tup [.int (lpG bs), .ref r])) (e2 : H r = some (.tup ((restsB bs (lpG bs)).map V.int))) : DR K H (.ref t) (formD bs) :=
  .tup (.inl (.inl e1)) (.cons (.int _) (.cons (.tup (.inl (.inl e2)) (dr_ints _)) .nil))
where
  dr_ints {K : PySem.W.Frag} {H : Hp} : ∀ ns : List Int, DRs K H (ns.map V.int) (ns.map PyData.int)
    | [] => .nil
    | n :: ns => .cons (.int n) (dr_ints ns)
/-- what stands through the walk -/
structure Rt (T : List (Addr × Str)) (p c : Addr) (ns : List Int) (C a L t r : Addr) (bs : List Bool) (H0 H : Hp) (i r' : Int) : Prop where
  bt : But p H0 H
  pen : Pen H p c ns i r'
  dy : IsDays H C a bs
  du : H t = some (.tup [.int (lpG bs), .ref r])
  rs : H r = some (.tup ((restsB bs (lpG bs)).map V.int))
  so : H L = some (.lst ((restsB bs bs.length).map V.int))
  tb : LamX.Tabs T H
theorem Rt.keep {T : List (Addr × Str)} {p c : Addr} {ns : List Int} {C a L t r : Addr} {bs : List Bool} {H0 H H' : Hp} {i r' : Int} (h : Rt T p c ns C a L t r bs H0 H i r') (s : Same H H') : Rt T p c ns C a L t r bs H0 H' i r' :=
  ⟨h.bt.same s, h.pen.same s, h.dy.keep s, s _ _ h.du, s _ _ h.rs, s _ _ h.so, h.tb.ext s⟩
theorem Rt.draw {T : List (Addr × Str)} {p c : Addr} {ns : List Int} {C a L t r : Addr} {bs : List Bool} {H0 H H' : Hp} {i r' i2 r2 : Int} (h : Rt T p c ns C a L t r bs H0 H i r') (u : But p H H') (pen : Pen H' p c ns i2 r2) : Rt T p c ns C a L t r bs H0 H' i2 r2 :=
  ⟨h.bt.trans u, pen, h.dy.but u h.pen, u _ _ (fun z => by have e := h.du; rw [z, h.pen.pen] at e; cases e) h.du, u _ _ (fun z => by have e := h.rs; rw [z, h.pen.pen] at e; cases e) h.rs, u _ _ (ints_ne h.so h.pen) h.so, tabs_but u h.pen.pen h.tb⟩
theorem ne_sameB {H : Hp} {b : Bool} {QB : Bool → Hp → Prop} (q : QB false H) : rNe (.bl b) (.bl b) H fun x H' => ∃ k, x = .bl k ∧ QB k H' := by
  refine ⟨rfl, false, ?_, q⟩
  cases b <;> rfl
theorem opt_small (o : Option Int) (h : ∀ k, o = some k → k.natAbs < 10 ^ 40) : ∃ d, (∀ {K : PySem.W.Frag} {H : Hp}, DR K H (optV o) d) ∧ d.showable = true ∧ d.depth ≤ 60 ∧ d.shown.length ≤ sizeLine := by
  cases o with
  | none => exact ⟨.none, .non, by decide +kernel, by decide +kernel, by rw [sizeLine_eq]; decide +kernel⟩
  | some k =>
    have hk := h k rfl
    refine ⟨.int k, .int k, decide_eq_true (Nat.lt_of_lt_of_le (PySem.Flt.log2_lt_of (n := k.natAbs) (k := 140) (by decide) (Nat.lt_of_lt_of_le hk (by decide))) (by decide)), by show 0 ≤ 60; decide, ?_⟩
    show (Str.ofString (toString k)).length ≤ sizeLine
    rw [ofString_length]
    exact Nat.le_trans (int_text_length_le10 (k := 40) (by decide) hk) (by rw [sizeLine_eq]; decide)
theorem bool_small (b : Bool) : (PyData.bool b).showable = true ∧ (PyData.bool b).depth ≤ 60 ∧ (PyData.bool b).shown.length ≤ sizeLine := by
  cases b
  · exact ⟨rfl, by decide +kernel, by rw [sizeLine_eq]; decide +kernel⟩
  · exact ⟨rfl, by decide +kernel, by rw [sizeLine_eq]; decide +kernel⟩

end NB
/-! NLa: sets that come round: their least form, plain. -/
namespace NB
/-- truths that go round as a whole -/
def cyB (bs : List Bool) (n : Nat) : Bool := bs.getD (n % bs.length) false
theorem perOk_iff {bs : List Bool} {p : Nat} : perOk bs p = true ↔ bs.length % p = 0 ∧ ∀ i, i + p < bs.length → bs.getD (i + p) false = bs.getD i false := by
  unfold perOk
  rw [Bool.and_eq_true, decide_eq_true_eq, decide_eq_true_eq]
  refine and_congr_right fun _ => ⟨fun e i hi => ?_, fun h => List.ext_getElem? fun i => ?_⟩
  · have z := congrArg (fun l : List Bool => l[i]?) e
    simp only [List.getElem?_drop, List.getElem?_take] at z
    rw [if_pos (by omega)] at z
    rw [List.getD_eq_getElem?_getD, List.getD_eq_getElem?_getD, show i + p = p + i by omega, z]
  · rw [List.getElem?_drop, List.getElem?_take]
    by_cases c : i + p < bs.length
    · rw [if_pos (by omega)]
      have z := h i c
      rw [List.getD_eq_getElem?_getD, List.getD_eq_getElem?_getD, List.getElem?_eq_getElem (by omega : i < bs.length), List.getElem?_eq_getElem c] at z
      simp only [Option.getD_some] at z
      rw [List.getElem?_eq_getElem (by omega : p + i < bs.length), List.getElem?_eq_getElem (by omega : i < bs.length)]
      congr 1
      rw [← z]
      congr 1
      omega
    · rw [if_neg (by omega), List.getElem?_eq_none (by omega)]
theorem lpG_cases (bs : List Bool) : (perOk bs (lpG bs) = true ∧ 1 ≤ lpG bs ∧ lpG bs < bs.length) ∨ (lpG bs = bs.length ∧ ∀ q, 1 ≤ q → q < bs.length → perOk bs q = false) := by
  unfold lpG
  cases e : (List.range' 1 (bs.length - 1)).find? (perOk bs) with
  | some p =>
    have z := List.mem_range'_1.mp (List.mem_of_find?_eq_some e)
    exact .inl ⟨List.find?_some e, z.1, by show p < _; omega⟩
  | none =>
    refine .inr ⟨rfl, fun q q1 q2 => ?_⟩
    have z := List.find?_eq_none.mp e q (List.mem_range'_1.mpr ⟨q1, by omega⟩)
    exact Bool.eq_false_iff.mpr z
theorem lpG_le_of {bs : List Bool} {q : Nat} (h1 : 1 ≤ q) (h2 : q < bs.length) (h : perOk bs q = true) : lpG bs ≤ q := by
  unfold lpG
  cases e : (List.range' 1 (bs.length - 1)).find? (perOk bs) with
  | none =>
    have z := List.find?_eq_none.mp e q (List.mem_range'_1.mpr ⟨h1, by omega⟩)
    exact absurd h z
  | some p =>
    rw [List.find?_range'_eq_some] at e
    show p ≤ q
    rcases Nat.lt_or_ge q p with c | c
    · have := e.2.2 q h1 c
      rw [h] at this
      cases this
    · exact c
theorem lpG_pos {bs : List Bool} (h : 1 ≤ bs.length) : 1 ≤ lpG bs := by
  rcases lpG_cases bs with z | z
  · exact z.2.1
  · rw [z.1]
    exact h
theorem lpG_le (bs : List Bool) : lpG bs ≤ bs.length := by
  rcases lpG_cases bs with z | z
  · exact Nat.le_of_lt z.2.2
  · rw [z.1]
    exact Nat.le_refl _
theorem lpG_ok {bs : List Bool} : bs.length % lpG bs = 0 ∧ ∀ i, i + lpG bs < bs.length → bs.getD (i + lpG bs) false = bs.getD i false := by
  rcases lpG_cases bs with z | z
  · exact perOk_iff.mp z.1
  · rw [z.1]
    exact ⟨Nat.mod_self _, fun i hi => absurd hi (by omega)⟩
/-- a period from s on -/
def PerN (f : Nat → Bool) (s p : Nat) : Prop := ∀ n, s ≤ n → f (n + p) = f n
theorem PerN.mul {f : Nat → Bool} {s p : Nat} (h : PerN f s p) (k : Nat) : ∀ n, s ≤ n → f (n + p * k) = f n := by
  induction k with
  | zero => intro n _; rfl
  | succ k ih =>
    intro n hn
    rw [show n + p * (k + 1) = (n + p * k) + p by rw [Nat.mul_succ]; omega, h _ (by omega), ih n hn]
theorem PerN.mulP {f : Nat → Bool} {s p : Nat} (h : PerN f s p) (k : Nat) : PerN f s (p * k) := h.mul k
theorem PerN.le {f : Nat → Bool} {s s' p : Nat} (h : PerN f s p) (hs : s ≤ s') : PerN f s' p := fun n hn => h n (by omega)
/-- a period later is one from where another one begins -/
theorem PerN.back {f : Nat → Bool} {s s' p q : Nat} (hp : 1 ≤ p) (h : PerN f s p) (h2 : PerN f s' q) : PerN f s q := fun n hn => by
  rw [← h.mul s' n hn, ← h.mul s' (n + q) (by omega), show n + q + p * s' = (n + p * s') + q by omega]
  refine h2 _ ?_
  have : s' ≤ p * s' := Nat.le_mul_of_pos_left _ hp
  omega
/-- the same rest, the same truth -/
theorem PerN.cong {f : Nat → Bool} {s p n m : Nat} (h : PerN f s p) (hn : s ≤ n) (hm : s ≤ m) (e : n % p = m % p) : f n = f m := by
  have a : ∀ n m, s ≤ n → n ≤ m → n % p = m % p → f n = f m := fun n m hn hm e => by
    have d : p ∣ m - n := Nat.dvd_of_mod_eq_zero (Nat.sub_mod_eq_zero_of_mod_eq e.symm)
    obtain ⟨k, hk⟩ := d
    rw [← h.mul k n hn, ← hk]
    congr 1
    omega
  rcases Nat.le_total n m with c | c
  · exact a n m hn c e
  · exact (a m n hm c e.symm).symm
theorem PerN.sub {f : Nat → Bool} {s p q : Nat} (hp : 1 ≤ p) (h : PerN f s p) (h2 : PerN f s q) : PerN f s (q % p) := fun n hn => by
  rw [← h.mul (q / p) (n + q % p) (by omega), show n + q % p + p * (q / p) = n + q by have := Nat.mod_add_div q p; omega]
  exact h2 n hn
theorem PerN.gcd {f : Nat → Bool} {s : Nat} (p q : Nat) : PerN f s p → PerN f s q → PerN f s (Nat.gcd p q) := by
  induction p, q using Nat.gcd.induction with
  | H0 n => intro _ h; rw [Nat.gcd_zero_left]; exact h
  | H1 m n hm ih => intro h1 h2; rw [Nat.gcd_rec]; exact ih (h1.sub hm h2) h1
theorem cyB_len {bs : List Bool} : PerN (cyB bs) 0 bs.length := fun n _ => by
  unfold cyB
  rw [Nat.add_mod_right]
theorem cyB_lt {bs : List Bool} {n : Nat} (h : n < bs.length) : cyB bs n = bs.getD n false := by
  unfold cyB
  rw [Nat.mod_eq_of_lt h]
theorem cyB_per {bs : List Bool} (h1 : 1 ≤ bs.length) : PerN (cyB bs) 0 (lpG bs) := fun n _ => by
  obtain ⟨d, c⟩ := lpG_ok (bs := bs)
  have p1 := lpG_pos h1
  have p2 := lpG_le bs
  generalize lpG bs = p at *
  have red : ∀ i, i < bs.length → bs.getD i false = bs.getD (i % p) false := by
    intro i
    induction i using Nat.strongRecOn with
    | _ i ih =>
      intro hi
      by_cases hip : i < p
      · rw [Nat.mod_eq_of_lt hip]
      · have z := c (i - p) (by omega)
        rw [show i - p + p = i by omega] at z
        rw [z, ih (i - p) (by omega) (by omega)]
        congr 1
        exact (Nat.mod_eq_sub_mod (by omega)).symm
  unfold cyB
  have m1 := Nat.mod_lt n (show 0 < bs.length by omega)
  have m2 := Nat.mod_lt (n + p) (show 0 < bs.length by omega)
  rw [red _ m1, red _ m2]
  congr 1
  have dv : p ∣ bs.length := Nat.dvd_of_mod_eq_zero d
  rw [Nat.mod_mod_of_dvd _ dv, Nat.mod_mod_of_dvd _ dv, Nat.add_mod_right]
theorem cyB_min {bs : List Bool} (h1 : 1 ≤ bs.length) {s q : Nat} (hq : 1 ≤ q) (h : PerN (cyB bs) s q) : lpG bs ≤ q := by
  have h0 : PerN (cyB bs) 0 q := (cyB_len (bs := bs)).back h1 h
  have g := PerN.gcd _ _ h0 (cyB_len (bs := bs))
  have g1 : 1 ≤ Nat.gcd q bs.length := Nat.gcd_pos_of_pos_left _ hq
  have g2 : Nat.gcd q bs.length ≤ q := Nat.le_of_dvd hq (Nat.gcd_dvd_left _ _)
  have g3 : Nat.gcd q bs.length ∣ bs.length := Nat.gcd_dvd_right _ _
  have g4 := Nat.le_of_dvd h1 g3
  refine Nat.le_trans ?_ g2
  generalize Nat.gcd q bs.length = r at *
  rcases Nat.lt_or_ge r bs.length with c | c
  · refine lpG_le_of g1 c (perOk_iff.mpr ⟨Nat.mod_eq_zero_of_dvd g3, fun i hi => ?_⟩)
    have z := g i (Nat.zero_le _)
    rw [cyB_lt hi, cyB_lt (by omega)] at z
    exact z
  · exact Nat.le_trans (lpG_le bs) c
/-! ### least forms -/
/-- the least start and the least period of a set of numbers -/
structure LF (f : Nat → Bool) (s p : Nat) : Prop where
  pos : 1 ≤ p
  per : PerN f s p
  minp : ∀ q, 1 ≤ q → PerN f s q → p ≤ q
  mins : s = 0 ∨ f (s - 1) ≠ f (s - 1 + p)
theorem LF.uniq {f : Nat → Bool} {s p s' p' : Nat} (a : LF f s p) (b : LF f s' p') : s = s' ∧ p = p' := by
  have e : p = p' := Nat.le_antisymm (a.minp p' b.pos (a.per.back a.pos b.per)) (b.minp p a.pos (b.per.back b.pos a.per))
  subst e
  refine ⟨?_, rfl⟩
  rcases Nat.lt_trichotomy s s' with c | c | c
  · rcases b.mins with z | z
    · omega
    · exact absurd (a.per (s' - 1) (by omega)).symm z
  · exact c
  · rcases a.mins with z | z
    · omega
    · exact absurd (b.per (s - 1) (by omega)).symm z
theorem LF.least {f : Nat → Bool} {s p s' q : Nat} (a : LF f s p) (hq : 1 ≤ q) (h : PerN f s' q) : s ≤ s' ∧ p ∣ q := by
  have hb := a.per.back a.pos h
  have g := PerN.gcd _ _ a.per hb
  have g1 : 1 ≤ Nat.gcd p q := Nat.gcd_pos_of_pos_left _ a.pos
  have ge := a.minp _ g1 g
  have gl := Nat.le_of_dvd a.pos (Nat.gcd_dvd_left p q)
  have e : Nat.gcd p q = p := by omega
  have d : p ∣ q := by
    have := Nat.gcd_dvd_right p q
    rw [e] at this
    exact this
  refine ⟨?_, d⟩
  rcases Nat.lt_or_ge s' s with c | c
  · rcases a.mins with z | z
    · omega
    · refine absurd ?_ z
      obtain ⟨k, rfl⟩ := d
      have k1 : 1 ≤ k := by
        rcases Nat.eq_zero_or_pos k with y | y
        · rw [y] at hq; omega
        · exact y
      rw [← h (s - 1) (by omega), ← a.per.mul (k - 1) (s - 1 + p) (by have := a.pos; omega)]
      congr 1
      rw [Nat.mul_sub_one]
      have : p ≤ p * k := Nat.le_mul_of_pos_right _ k1
      omega
  · exact c
/-- the least start, as least_start looks for it -/
def lsG (bs : List Bool) : Nat → Nat → Nat
  | 0, _ => 0
  | k + 1, p => if bs.getD k false = bs.getD (k + p) false then lsG bs k p else k + 1
theorem lsG_le (bs : List Bool) (p : Nat) : ∀ k, lsG bs k p ≤ k
  | 0 => Nat.le_refl _
  | k + 1 => by
    unfold lsG
    split
    · exact Nat.le_succ_of_le (lsG_le bs p k)
    · exact Nat.le_refl _
theorem lsG_eq (bs : List Bool) (p : Nat) : ∀ k n, lsG bs k p ≤ n → n < k → bs.getD n false = bs.getD (n + p) false
  | 0, n, _, h => by omega
  | k + 1, n, h1, h2 => by
    unfold lsG at h1
    split at h1
    · rename_i e
      rcases Nat.lt_or_ge n k with c | c
      · exact lsG_eq bs p k n h1 c
      · rw [show n = k by omega]
        exact e
    · omega
theorem lsG_ne (bs : List Bool) (p : Nat) : ∀ k, lsG bs k p = 0 ∨ bs.getD (lsG bs k p - 1) false ≠ bs.getD (lsG bs k p - 1 + p) false
  | 0 => .inl rfl
  | k + 1 => by
    unfold lsG
    split
    · exact lsG_ne bs p k
    · rename_i e
      exact .inr e
/-- the set that truths tell, the ones from k on going round -/
def fB (bs : List Bool) (k n : Nat) : Bool := if n < k then bs.getD n false else cyB (bs.drop k) (n - k)
theorem fB_lt {bs : List Bool} {k n : Nat} (h : n < bs.length) : fB bs k n = bs.getD n false := by
  unfold fB
  split
  · rfl
  · rw [cyB_lt (by rw [List.length_drop]; omega), List.getD_eq_getElem?_getD, List.getElem?_drop, List.getD_eq_getElem?_getD]
    congr 2
    omega
theorem fB_per {bs : List Bool} {k p : Nat} (h : PerN (cyB (bs.drop k)) 0 p) : PerN (fB bs k) k p := fun n hn => by
  unfold fB
  rw [if_neg (by omega), if_neg (by omega), show n + p - k = (n - k) + p by omega]
  exact h _ (Nat.zero_le _)
abbrev lpF (bs : List Bool) (k : Nat) : Nat := lpG (bs.drop k)
abbrev lsF (bs : List Bool) (k : Nat) : Nat := lsG bs k (lpF bs k)
theorem fB_LF {bs : List Bool} {k : Nat} (hk : k < bs.length) : LF (fB bs k) (lsF bs k) (lpF bs k) := by
  have l1 : 1 ≤ (bs.drop k).length := by rw [List.length_drop]; omega
  have p1 : 1 ≤ lpF bs k := lpG_pos l1
  have p2 : lpF bs k ≤ bs.length - k := by
    have := lpG_le (bs.drop k)
    rw [List.length_drop] at this
    exact this
  have pk := fB_per (cyB_per l1)
  have le : lsF bs k ≤ k := lsG_le bs (lpF bs k) k
  refine ⟨p1, fun n hn => ?_, fun q q1 hq => ?_, ?_⟩
  · rcases Nat.lt_or_ge n k with c | c
    · rw [fB_lt (by omega), fB_lt (by omega)]
      exact (lsG_eq bs _ k n hn c).symm
    · exact pk n c
  · refine cyB_min l1 (s := 0) q1 fun n _ => ?_
    have z := hq (n + k) (by omega)
    unfold fB at z
    rw [if_neg (by omega), if_neg (by omega), show n + k + q - k = n + q by omega, show n + k - k = n by omega] at z
    exact z
  · rcases lsG_ne bs (lpF bs k) k with z | z
    · exact .inl z
    · rcases Nat.eq_zero_or_pos (lsF bs k) with y | y
      · exact .inl y
      · refine .inr ?_
        rw [fB_lt (by omega), fB_lt (by omega)]
        exact z
/-- truths of a set up to a round tell the set -/
theorem fB_of {h : Nat → Bool} {S m : Nat} (hm : 1 ≤ m) (hp : PerN h S m) (n : Nat) : fB ((List.range (S + m)).map h) S n = h n := by
  have at_ : ∀ i, i < S + m → ((List.range (S + m)).map h).getD i false = h i := fun i hi => by
    rw [List.getD_eq_getElem?_getD, List.getElem?_map, List.getElem?_range hi]
    rfl
  unfold fB
  split
  · exact at_ n (by omega)
  · rename_i c
    have ld : (((List.range (S + m)).map h).drop S).length = m := by rw [List.length_drop, List.length_map, List.length_range]; omega
    unfold cyB
    rw [ld]
    have ml := Nat.mod_lt (n - S) (show 0 < m by omega)
    have z := at_ (S + (n - S) % m) (by omega)
    rw [List.getD_eq_getElem?_getD] at z ⊢
    rw [List.getElem?_drop, z]
    refine hp.cong (by omega) (by omega) ?_
    have y := Nat.mod_add_div (n - S) m
    rw [show n = (S + (n - S) % m) + m * ((n - S) / m) by omega, Nat.add_mul_mod_self_left]
    congr 1
    have y2 := Nat.add_mul_mod_self_left (S + (n - S) % m) m ((n - S) / m)
    rw [show S + (n - S) % m + m * ((n - S) / m) = n by omega]
theorem LF.cong {f g : Nat → Bool} {s p : Nat} (h : LF f s p) (e : ∀ n, f n = g n) : LF g s p := by
  have : f = g := funext e
  rw [← this]
  exact h
end NB
/-! NLs: sorted(s) for a set of ints, up to 1000 of them. -/
namespace L2
open PySem PySem.Spec PyProof.Rows
theorem sorted_setA {P : Program} {w : World} {A : Around} {E : Value → Shared → Prop} {s : Shared} {a : Addr} {S : Int → Bool} {n : Nat} {Q : Value → Shared → Prop} (R : SetR w s.heap a S n) (hh : A.handled = none) (h1k : n ≤ 1000)
    (hQ : ∀ s' p (out : List Value) (c : Nat) (ns : List Int), (∀ b o, s.heap.get? b = some o → s'.heap.get? b = some o) → s'.gens = s.gens → s'.os = s.os → s.heap.objs.size ≤ p →
      s'.heap.get? p = some (seqObj "list" out.toArray c) → IntsAre out ns → ns.Pairwise (· < ·) → (∀ k, k ∈ ns ↔ S k = true) → ns.length = n → Q (.ref p) s') :
    wpAny (model P w) A (call (.builtin "sorted") [.ref a]) Q E s := by
  obtain ⟨o, es, ep, t, ho, hex, hd, g, nd, hm, hb, hf, hn, hr, hl⟩ := R
  refine Calls.call_function_entry kind_sorted plain_sorted entry_sorted (args_sorted1 _) ?_
  unfold Builtin.«sorted»
  refine wpAny_bind (m := checkCount "sorted" 1 1 _) (wpAny_pure ?_)
  refine wpAny_bind (collect_set (A := A.in1) hh ⟨o, ho, hex.1, hd⟩ hf hb hr hl fun s1 vs k1 hz g1 o1 pm => ?_)
  have hvl : vs.length = n := by rw [pm.length_eq, List.length_map, Array.length_toList]; exact hn
  have hI : IntsAre vs (vs.map Builtin.Re.reRawOf) := ints_of vs fun v hv => by
    obtain ⟨e, he, q⟩ := List.mem_map.mp (pm.mem_iff.mp hv)
    obtain ⟨k, tk, h1, _⟩ := g e he
    exact ⟨k, tk, by rw [← q]; exact h1⟩
  have pk : (vs.map Builtin.Re.reRawOf).Perm (es.toList.map keyOf) := by
    have q := pm.map Builtin.Re.reRawOf
    rw [List.map_map] at q
    exact q
  have hvz : vs.length ≤ sizeLine := by rw [hvl, sizeLine_eq]; omega
  refine wpAny_bind (wpAny_newList ?_ hvz)
  have hoL : (s1.heap.push (seqObj "list" vs.toArray 0)).get? s1.heap.objs.size = some (seqObj "list" vs.toArray 0) := Heap.get?_push_size _ rfl
  refine wpAny_bind (wpAny_holding (wpAny_call_entry slot_list_sort ⟨_, hoL, rfl⟩ entry_list_sort (SrtO.list_sort_ord SrtO.swo_int hoL hvz (fun h2 => SrtO.ints_sortable hI h2) fun out b1 b2 => ⟨_, rfl, ?_⟩) (args_list_sort _)))
  obtain ⟨a1, a2, a3⟩ := SrtO.ints_out hI b1 b2
  obtain ⟨c, hc⟩ := sortedHeap_at (vs := vs) (out := out.toArray) hoL
  have pn : (out.map SrtO.iv).Perm (es.toList.map keyOf) := a2.trans pk
  refine wpAny_pure ⟨_, rfl, hQ _ s1.heap.objs.size out c (out.map SrtO.iv) (fun b u e => ?_) g1 o1 hz hc a1 (lt_of_le_nodup _ a3 (pn.nodup_iff.mpr nd)) (fun k => by rw [pn.mem_iff, ← hm k]) ?_⟩
  · have q := k1 b u e
    have hlt := Heap.lt_size q
    show (sortedHeap (s1.heap.push (seqObj "list" vs.toArray 0)) s1.heap.objs.size vs out.toArray).get? b = some u
    rw [sortedHeap_old (Nat.ne_of_lt hlt) (by rw [size_push']; exact Nat.lt_succ_of_lt hlt)]
    exact Heap.get?_push_of_some _ q
  · rw [pn.length_eq, List.length_map, Array.length_toList]; exact hn
/-- sorted(s), a set of ints, up to 1000 -/
def rSortedSetA (w : World) : List V → Hp → VK → Prop := fun vs H Q => ∃ (a : Addr) (S : Int → Bool) (n : Nat), vs = [V.ref a] ∧ H a = some (SetO w a S n) ∧ n ≤ 1000 ∧
  ∀ (ns : List Int) (p : Addr), ns.Pairwise (· < ·) → (∀ k : Int, k ∈ ns ↔ S k = true) → ns.length = n → H p = none → Q (.ref p) (upd H p (.lst (ns.map V.int)))
section
variable {X : Cx}
theorem cr_sortedSetA (hc : X.calm = true) : CallR X (.builtin "sorted") (rSortedSetA X.w) := by
  intro pins s σ H vs us Q I r h
  obtain ⟨a, S, n, rfl, ha, h1k, q⟩ := h
  have R := setO_get I ha
  rw [Vals.ref1 r]
  refine sorted_setA R (I.ok.hd hc) h1k fun s' p out c ns k g o hp hg hi hs hm hl => ?_
  have hlen : (ns.map V.int).length ≤ sizeLine := by rw [List.length_map, hl, sizeLine_eq]; omega
  have hn : H p = none := I.hok.fresh hp
  have J : Inv X pins σ (upd H p (.lst (ns.map V.int))) { s with heap := s'.heap, gens := s'.gens, drawn := s'.drawn, toks := s'.toks } :=
    I.call (ch := []) (Un.laid k hp hn) (I.hok.laid k hp ⟨hlen, out, c, vals_of_ints hi, hg⟩) (by rw [g]; exact I.bare) (fun _ z => nomatch z)
  have e : s' = { s with heap := s'.heap, gens := s'.gens, drawn := s'.drawn, toks := s'.toks } := by
    obtain ⟨h1, g1, d1, t1, o1⟩ := s'
    obtain rfl : o1 = s.os := o
    rfl
  rw [e]
  exact ⟨.ref p, _, J, rfl, q ns p hs hm hl hn⟩
end
end L2
/-! NWd: errors with any fields; a plain walk carried as one thing; joined days. -/
namespace NB
open PySem L2 ClX
theorem q_int1' {i : Int} {P : Int → Prop} {R : Prop} (h : P i) : (∃ i', [V.int i] = [.int i'] ∧ P i') ∨ R := .inl ⟨i, rfl, h⟩
theorem q_int1b {b : Bool} {P : Bool → Prop} {R : Prop} (h : P b) : R ∨ ∃ k, [V.bl b] = [.bl k] ∧ P k := .inr ⟨b, rfl, h⟩
/-- a statement's reading goes on -/
theorem q_while {c : TT} {tb t2 : TS} {D : Ends} {σ : SV} {H : Hp} (h : tWhile c tb { D with nx := t2 D } σ H) : tSeq (tWhile c tb) t2 D σ H := h
/-! ### an error with its fields -/
/-- an error of the class at B with these fields leaves -/
def BadFs (B : Addr) (fs : List (Str × V)) (E : XK) (H : Hp) : Prop := ∀ (H' : Hp) (dd : Addr), Same H H' → H' dd = some (.xd fs) → E (.ref B) (some dd) H'
theorem BadFs.keep {B : Addr} {fs : List (Str × V)} {E : XK} {H H1 : Hp} (b : BadFs B fs E H) (s : Same H H1) : BadFs B fs E H1 := fun H' dd s' e => b H' dd (s.trans s') e
/-- the facts of an error's class -/
structure BadN (P : Program) (w : World) (K : PySem.W.Frag) (mg : Str → Option Value) (base : Heap) (x : Str) (fl : List Str) (B : Addr) : Prop where
  mgC : mg x = some (.ref B)
  oex : OexC K B
  ini : ∃ (fI : Addr) (fd : FuncData), PySem.W.findIn K (.ref B) "__init__" = some (some (.ref fI)) ∧ PySem.W.typeIn K (.ref fI) = some (.type "function") ∧
    FnOk P w K mg base CX0 1 fI fd ("self" :: fl) (spI B fl) ∧ Binds K fd ("self" :: fl) []
theorem mk_raw {B : Addr} {fl : List Str} {vs : List V} {E : XK} {H : Hp} (h : BadFs B (fl.zip vs).reverse E H) (hl : vs.length = fl.length := by rfl) (hz : vs.length ≤ 1000 := by exact Nat.le_of_ble_eq_true rfl) : vs.length ≤ 1000 ∧ ∀ a, H a = none → spI B fl (.ref a :: (vs ++ [])) (upd H a (exo a B none))
  (fun v H2 => v = .non ∧ ∃ (d : Addr) (fs : List (Str × V)), H2 a = some (exo a B (some d)) ∧ H2 d = some (exd d fs) ∧ H d = none ∧ E (.ref B) (some d) (upd (del H2 a) d (.xd fs))) (fun _ _ _ => False) := by
  refine ⟨hz, fun a ha => ⟨a, vs, by rw [List.append_nil], hl, upd_same, fun H' d b hd ea ed => ⟨rfl, d, _, ea, ed, (fresh_upd hd).2, ?_⟩⟩⟩
  refine h _ d (fun x o e => ?_) upd_same
  have n1 := ne_of_none e ha
  have n2 := ne_of_none e (fresh_upd hd).2
  rw [upd_ne n2, del_ne n1]
  exact b x o n1 (by rw [upd_ne n1]; exact e)
theorem q_mkO {C : Addr} {sp : Sp} {dvs : List V} {ta : TA} {σ : SV} {H : Hp} {Q : XK} (h : ta σ H fun vs H1 => vs.length ≤ 1000 ∧ ∀ a, H1 a = none → sp (.ref a :: (vs ++ dvs)) (upd H1 a (exo a C none))
  (fun v H2 => v = .non ∧ ∃ (d : Addr) (fs : List (Str × V)), H2 a = some (exo a C (some d)) ∧ H2 d = some (exd d fs) ∧ H1 d = none ∧ Q (.ref C) (some d) (upd (del H2 a) d (.xd fs))) (fun _ _ _ => False)) : tMkO C sp dvs ta σ H Q := h
/-- raise X(e, ..) -/
theorem ps_badN {X : Cx} {W : WX} {x : Str} {fl : List Str} {B : Addr} {e : Expr} {es : List Expr} {ta : TA} {p1 p3 p4 : Pos} (Bd : BadN X.prog X.w X.K X.mg X.base x fl B) (hr : Room 2 X.A) (hg : Gl X x) (hc : X.calm = true) (tk : Takes X W) (ha : PA X (e :: es) ta)
    (hdb : (x == ("__debug__" : Str)) = false := by decide) (he : starEach (e :: es) X.env = (false, eval e X.env) :: starEach es X.env := by rfl) (hpl : (backTo p3 (starEach es X.env)).any (·.1) = false := by rfl) :
    PS X (.Raise (some (.Call (.Name x p1) (e :: es) [] p3)) none p4) (fun _ σ H => tMkO B (spI B fl) [] ta σ H fun cls d H' => W cls d σ H') := by
  obtain ⟨fI, fd, h1, h2, F, hb⟩ := Bd.ini
  exact ps_raise hc tk (pmk_oex Bd.oex h1 h2 F hr hb .nil pass0 hg Bd.mgC ha hdb he hpl)
/-! ### a plain walk: from H0 to H, what is known -/
structure Kw (H0 H : Hp) (l : List (Addr × HO)) : Prop where
  sm : Same H0 H
  kn : ∀ q ∈ l, H q.1 = some q.2
section
variable {H0 H H' : Hp} {l l0 : List (Addr × HO)} {a : Addr} {o : HO}
theorem Kw.fst : Kw H H [] := ⟨Same.refl _, fun _ h => (nomatch h)⟩
theorem Kw.same (W : Kw H0 H l) (s : Same H H') : Kw H0 H' l := ⟨W.sm.trans s, fun q hq => s _ _ (W.kn q hq)⟩
theorem Kw.know (W : Kw H0 H l) (h : H a = some o) : Kw H0 H ((a, o) :: l) := ⟨W.sm, fun q hq => by
  rcases List.mem_cons.mp hq with rfl | hq
  · exact h
  · exact W.kn q hq⟩
theorem Kw.new (W : Kw H0 H l) (h : H a = none) : Kw H0 (upd H a o) ((a, o) :: l) := (W.same (same_new (Same.refl H) h)).know upd_same
theorem Kw.at (W : Kw H0 H l) (h : (a, o) ∈ l := by repeat (first | exact List.Mem.head _ | apply List.Mem.tail)) : H a = some o := W.kn _ h
theorem Kw.al (W : Kw H0 H l) {n : Nat} {K : Addr → Hp → Prop} (k : ∀ a H', Kw H0 H' ((a, o) :: l) → K a H') (hz : n ≤ sizeLine := by exact Nat.le_of_ble_eq_true rfl) : Al n o H K := ⟨hz, fun a h => k a _ (W.new h)⟩
end
/-- the pair of a period and rests at t is the form of bs -/
def FormAt (H : Hp) (t : Addr) (bs : List Bool) : Prop := ∃ r, H t = some (.tup [.int (lpG bs), .ref r]) ∧ H r = some (.tup ((restsB bs (lpG bs)).map V.int))
theorem FormAt.kp {H H' : Hp} {t : Addr} {bs : List Bool} (h : FormAt H t bs) (k : Kp H H') : FormAt H' t bs := by
  obtain ⟨r, e1, e2⟩ := h
  exact ⟨r, k _ _ e1 (fun _ z => nomatch z) (fun _ z => nomatch z), k _ _ e2 (fun _ z => nomatch z) (fun _ z => nomatch z)⟩
theorem FormAt.keep {H H' : Hp} {t : Addr} {bs : List Bool} (h : FormAt H t bs) (s : Same H H') : FormAt H' t bs := h.kp (Kp.of s)
theorem FormAt.dp {K : PySem.W.Frag} {H : Hp} {t : Addr} {bs : List Bool} (h : FormAt H t bs) : Dp K H (.ref t) (formD bs) := by
  obtain ⟨r, e1, e2⟩ := h
  exact .tup (.inl (.inl e1)) (.cons (.int _) (.cons (.tup (.inl (.inl e2)) (dp_ints _)) .nil))
theorem rd_formF {K : PySem.W.Frag} {C : Addr} {σ : SV} {H : Hp} {i : Nat} {a : Addr} {bs : List Bool} {Q : VK} (S : DyC K C) (h0 : σ[i]? = some (some (.ref a))) (h : IsDays H C a bs) (q : ∀ f, FormAt H f bs → Q (.ref f) H) : tFld K (tVar i) "form" σ H Q :=
  rd_form S h0 h fun f r e1 e2 => q f ⟨r, e1, e2⟩
theorem q_f0 {K : PySem.W.Frag} {H : Hp} {t : Addr} {bs : List Bool} {Q : VK} (h : FormAt H t bs) (q : Q (.int (lpG bs)) H) : rIxT K (.ref t) (.int 0) H Q := by
  obtain ⟨r, e1, _⟩ := h
  exact ⟨t, _, 0, _, rfl, rfl, .inl (.inl e1), rfl, q⟩
theorem q_f1 {K : PySem.W.Frag} {H : Hp} {t : Addr} {bs : List Bool} {Q : VK} (h : FormAt H t bs) (q : ∀ r, H r = some (.tup ((restsB bs (lpG bs)).map V.int)) → Q (.ref r) H) : rIxT K (.ref t) (.int 1) H Q := by
  obtain ⟨r, e1, e2⟩ := h
  exact ⟨t, _, 1, _, rfl, rfl, .inl (.inl e1), rfl, q r e2⟩
/-! ### joined days: the plain law -/
structure Ln (bs : List Bool) : Prop where
  lo : 1 ≤ bs.length
  hi : bs.length ≤ 7
theorem IsDays.ln {H : Hp} {C a : Addr} {bs : List Bool} (h : IsDays H C a bs) : Ln bs := ⟨h.lo, h.hi⟩
theorem Ln.lp {bs : List Bool} (h : Ln bs) : 1 ≤ lpG bs ∧ lpG bs ≤ 7 := by
  obtain ⟨f1, f2, _⟩ := lp_facts h.lo h.hi
  exact ⟨f1, Nat.le_trans f2 h.hi⟩
def m2 (bs cs : List Bool) : Nat := Nat.lcm (lpG bs) (lpG cs)
theorem m2_pos {bs cs : List Bool} (h1 : Ln bs) (h2 : Ln cs) : 1 ≤ m2 bs cs := Nat.lcm_pos h1.lp.1 h2.lp.1
theorem m2_le {bs cs : List Bool} (h1 : Ln bs) (h2 : Ln cs) : m2 bs cs ≤ 49 :=
  Nat.le_trans (Nat.le_of_dvd (Nat.mul_pos h1.lp.1 h2.lp.1) (Nat.lcm_dvd (Nat.dvd_mul_right _ _) (Nat.dvd_mul_left _ _))) (Nat.mul_le_mul h1.lp.2 h2.lp.2)
theorem dinB_per {bs : List Bool} (h : Ln bs) {m : Nat} (hm : lpG bs ∣ m) (d : Int) : dinB bs (d % (m : Int)) = dinB bs d := by
  rw [← dinB_mod h.lo h.hi, ← dinB_mod h.lo h.hi, Int.emod_emod_of_dvd d (Int.natCast_dvd_natCast.mpr hm)]
/-- the truths of f on 0 .. m - 1 -/
def trF (m : Nat) (f : Int → Bool) : List Bool := (rgN 0 m).map f
theorem trF_len (m : Nat) (f : Int → Bool) : (trF m f).length = m := by simp [trF]
theorem trF_at {m : Nat} {f : Int → Bool} {d : Int} (h1 : 0 ≤ d) (h2 : d < m) : atB (trF m f) d = f d := by
  unfold atB trF
  have l : d.toNat < m := by omega
  rw [List.getD_eq_getElem?_getD, List.getElem?_map, List.getElem?_map, List.getElem?_range l]
  show f (0 + ((d.toNat : Nat) : Int)) = f d
  rw [Int.zero_add, Int.toNat_of_nonneg h1]
theorem trF_in {m : Nat} {f : Int → Bool} (h1 : 1 ≤ m) (hf : ∀ d, f (d % (m : Int)) = f d) (d : Int) : dinB (trF m f) d = f d := by
  unfold dinB
  rw [trF_len]
  rw [trF_at (Int.emod_nonneg _ (by omega)) (Int.emod_lt_of_pos _ (by omega)), hf]
/-- two sets of days joined by a table -/
def jnB (t : Bool → Bool → Bool) (bs cs : List Bool) : List Bool := trF (m2 bs cs) fun d => t (dinB bs d) (dinB cs d)
theorem jn_in {bs cs : List Bool} (h1 : Ln bs) (h2 : Ln cs) (t : Bool → Bool → Bool) (d : Int) : dinB (jnB t bs cs) d = t (dinB bs d) (dinB cs d) := by
  refine trF_in (m2_pos h1 h2) (fun d => ?_) d
  rw [dinB_per (m := m2 bs cs) h1 (Nat.dvd_lcm_left _ _), dinB_per (m := m2 bs cs) h2 (Nat.dvd_lcm_right _ _)]
theorem jn_ln {bs cs : List Bool} (h1 : Ln bs) (h2 : Ln cs) {t : Bool → Bool → Bool} (h : m2 bs cs ≤ 7) : Ln (jnB t bs cs) := ⟨by rw [jnB, trF_len]; exact m2_pos h1 h2, by rw [jnB, trF_len]; exact h⟩
/-- a table of four truths -/
def tbV (t : Bool → Bool → Bool) : List V := [.bl (t false false), .bl (t false true), .bl (t true false), .bl (t true true)]
def spCd : Sp := fun vs H Q _ => ∃ a b : Nat, vs = [.int a, .int b] ∧ 1 ≤ a ∧ 1 ≤ b ∧ a ≤ 100000 ∧ b ≤ 100000 ∧ Q (.int (Nat.gcd a b)) H
def spCm : Sp := fun vs H Q _ => ∃ a b : Nat, vs = [.int a, .int b] ∧ 1 ≤ a ∧ 1 ≤ b ∧ a ≤ 100000 ∧ b ≤ 100000 ∧ Q (.int (Nat.lcm a b)) H
def spTru (K : PySem.W.Frag) : Sp := fun vs H Q _ => ∃ (f1 f2 tb : Addr) (bs cs : List Bool) (t : Bool → Bool → Bool), vs = [.ref f1, .ref f2, .ref tb] ∧ FormAt H f1 bs ∧ FormAt H f2 cs ∧ Ln bs ∧ Ln cs ∧ (∀ H, SqT K H tb (tbV t)) ∧
  ∀ H' D, Same H H' → H' D = some (.lst ((jnB t bs cs).map V.bl)) → Q (.ref D) H'
def spJn (K : PySem.W.Frag) (Bm C : Addr) : Sp := fun vs H Q E => ∃ (f1 f2 tb : Addr) (bs cs : List Bool) (t : Bool → Bool → Bool), vs = [.ref f1, .ref f2, .ref tb] ∧ FormAt H f1 bs ∧ FormAt H f2 cs ∧ Ln bs ∧ Ln cs ∧ (∀ H, SqT K H tb (tbV t)) ∧
  (7 < m2 bs cs → BadFs Bm [("most", .int 7), ("what", .str "days")] E H) ∧ (m2 bs cs ≤ 7 → ∀ H' a, Same H H' → IsDays H' C a (jnB t bs cs) → Q (.ref a) H')
/-- one op other, by a table -/
def spOp (Bm C : Addr) (t : Bool → Bool → Bool) : Sp := fun vs H Q E => ∃ (a b : Addr) (bs cs : List Bool), vs = [.ref a, .ref b] ∧ IsDays H C a bs ∧ IsDays H C b cs ∧
  (7 < m2 bs cs → BadFs Bm [("most", .int 7), ("what", .str "days")] E H) ∧ (m2 bs cs ≤ 7 → ∀ H' x, Same H H' → IsDays H' C x (jnB t bs cs) → Q (.ref x) H')
def tAnd2 (a b : Bool) : Bool := a && b
def tOr2 (a b : Bool) : Bool := a || b
def tLess (a b : Bool) : Bool := a && !b
/-- the others -/
def notB (bs : List Bool) : List Bool := trF (lpG bs) fun d => !dinB bs d
theorem not_in {bs : List Bool} (h : Ln bs) (d : Int) : dinB (notB bs) d = !dinB bs d := trF_in h.lp.1 (fun d => by rw [dinB_per h (Nat.dvd_refl _)]) d
theorem not_ln {bs : List Bool} (h : Ln bs) : Ln (notB bs) := ⟨by rw [notB, trF_len]; exact h.lp.1, by rw [notB, trF_len]; exact h.lp.2⟩
def spInv (C : Addr) : Sp := fun vs H Q _ => ∃ (a : Addr) (bs : List Bool), vs = [.ref a] ∧ IsDays H C a bs ∧ ∀ H' x, Same H H' → IsDays H' C x (notB bs) → Q (.ref x) H'
/-- moved by k -/
def shB (bs : List Bool) (k : Int) : List Bool := trF (lpG bs) fun d => dinB bs (d - k)
theorem sh_in {bs : List Bool} (h : Ln bs) (k d : Int) : dinB (shB bs k) d = dinB bs (d - k) := by
  refine trF_in (f := fun d => dinB bs (d - k)) h.lp.1 (fun d => ?_) d
  show dinB bs (d % _ - k) = dinB bs (d - k)
  rw [← dinB_per h (Nat.dvd_refl _) (d % _ - k), ← dinB_per h (Nat.dvd_refl _) (d - k), Int.emod_sub_emod]
theorem sh_ln {bs : List Bool} (h : Ln bs) (k : Int) : Ln (shB bs k) := ⟨by rw [shB, trF_len]; exact h.lp.1, by rw [shB, trF_len]; exact h.lp.2⟩
def spSh (C : Addr) (sg : Int) : Sp := fun vs H Q _ => ∃ (a : Addr) (bs : List Bool) (k : Int), vs = [.ref a, .int k] ∧ IsDays H C a bs ∧ ∀ H' x, Same H H' → IsDays H' C x (shB bs (sg * k)) → Q (.ref x) H'
/-- all days of bs are days of cs -/
def leB (bs cs : List Bool) : Bool := !(jnB tLess bs cs).any id
def spLe (C : Addr) (f : List Bool → List Bool → Bool) : Sp := fun vs H Q _ => ∃ (a b : Addr) (bs cs : List Bool), vs = [.ref a, .ref b] ∧ IsDays H C a bs ∧ IsDays H C b cs ∧ ∀ H', Same H H' → Q (.bl (f bs cs)) H'
theorem le_iff {bs cs : List Bool} (h1 : Ln bs) (h2 : Ln cs) : leB bs cs = true ↔ ∀ d, dinB bs d = true → dinB cs d = true := by
  unfold leB
  rw [Bool.not_eq_true', List.any_eq_false]
  constructor
  · intro h d hd
    have m := m2_pos h1 h2
    have e0 := Int.emod_nonneg d (b := (m2 bs cs : Int)) (by omega)
    have e1 := Int.emod_lt_of_pos d (b := (m2 bs cs : Int)) (by omega)
    have z := h (tLess (dinB bs (d % (m2 bs cs : Int))) (dinB cs (d % (m2 bs cs : Int)))) (List.mem_map.mpr ⟨_, mem_rgN.mpr ⟨e0, by omega⟩, rfl⟩)
    rw [dinB_per (m := m2 bs cs) h1 (Nat.dvd_lcm_left _ _), dinB_per (m := m2 bs cs) h2 (Nat.dvd_lcm_right _ _), hd] at z
    unfold tLess at z
    cases hc : dinB cs d with
    | true => rfl
    | false => rw [hc] at z; exact absurd rfl z
  · intro h x hx
    obtain ⟨d, _, rfl⟩ := List.mem_map.mp hx
    have z := h d
    show ¬ tLess (dinB bs d) (dinB cs d) = true
    unfold tLess
    cases hb : dinB bs d with
    | false => simp
    | true => rw [z hb]; simp
/-! equal sets have equal forms -/
theorem rests_of {bs : List Bool} {p : Nat} (h : Ln bs) (hp : p ≤ lpG bs) : restsB bs p = (rgN 0 p).filter (dinB bs) := by
  unfold restsB
  refine List.filter_congr fun d hd => ?_
  have := mem_rgN.mp hd
  have l := lp_facts h.lo h.hi
  unfold dinB
  rw [Int.emod_eq_of_lt (by omega) (by omega)]
def Per (f : Int → Bool) (p : Nat) : Prop := ∀ d, f (d + (p : Int)) = f d
theorem Per.mul {f : Int → Bool} {p : Nat} (h : Per f p) : ∀ (k : Nat) (d : Int), f (d + (p : Int) * (k : Int)) = f d
  | 0, d => by simp
  | k + 1, d => by
    have e : d + (p : Int) * ((k + 1 : Nat) : Int) = (d + (p : Int) * (k : Int)) + (p : Int) := by
      rw [Int.natCast_add, Int.mul_add]
      simp [Int.add_assoc]
    rw [e, h, h.mul k]
theorem Per.modp {f : Int → Bool} {p q : Nat} (h : Per f p) (h2 : Per f q) : Per f (q % p) := fun d => by
  have e : ((q % p : Nat) : Int) + (p : Int) * ((q / p : Nat) : Int) = (q : Int) := by
    have := Nat.mod_add_div q p
    exact_mod_cast this
  rw [← h.mul (q / p) (d + ((q % p : Nat) : Int)), Int.add_assoc, e, h2]
theorem Per.gcd {f : Int → Bool} (p q : Nat) : Per f p → Per f q → Per f (Nat.gcd p q) := by
  induction p, q using Nat.gcd.induction with
  | H0 n => intro _ h; rw [Nat.gcd_zero_left]; exact h
  | H1 m n hm ih => intro h1 h2; rw [Nat.gcd_rec]; exact ih (h1.modp h2) h1
theorem lp_per {bs : List Bool} (h : Ln bs) : Per (dinB bs) (lpG bs) := fun d => by
  rw [← dinB_mod h.lo h.hi, ← dinB_mod h.lo h.hi, Int.add_emod_right]
theorem lp_min {bs : List Bool} (h : Ln bs) {p : Nat} (hp : 1 ≤ p) (hf : Per (dinB bs) p) : lpG bs ≤ p := by
  have hn : Per (dinB bs) bs.length := fun d => by
    unfold dinB
    rw [Int.add_emod_right]
  have hg := Per.gcd p bs.length hf hn
  have g0 : 1 ≤ Nat.gcd p bs.length := Nat.gcd_pos_of_pos_left _ hp
  have gp : Nat.gcd p bs.length ≤ p := Nat.le_of_dvd hp (Nat.gcd_dvd_left _ _)
  have gd : Nat.gcd p bs.length ∣ bs.length := Nat.gcd_dvd_right _ _
  generalize Nat.gcd p bs.length = g at hg g0 gp gd
  refine Nat.le_trans ?_ gp
  have gl : g ≤ bs.length := Nat.le_of_dvd h.lo gd
  have ok : perOk bs g = true := by
    unfold perOk
    rw [decide_eq_true (Nat.mod_eq_zero_of_dvd gd), Bool.true_and, decide_eq_true_eq]
    refine List.ext_getElem (by simp) fun i h1 h2 => ?_
    rw [List.getElem_drop, List.getElem_take]
    have l1 : g + i < bs.length := by
      rw [List.length_drop] at h1
      omega
    have a : ∀ (j : Nat) (hj : j < bs.length), dinB bs (j : Int) = bs[j] := fun j hj => by
      unfold dinB atB
      rw [Int.emod_eq_of_lt (by omega) (by omega), Int.toNat_natCast, List.getD_eq_getElem?_getD, List.getElem?_eq_getElem hj]
      rfl
    have z := hg (i : Int)
    rw [show ((i : Int) + (g : Int)) = ((g + i : Nat) : Int) by omega, a _ l1, a i (by omega)] at z
    exact z
  unfold lpG
  by_cases hlt : g < bs.length
  · cases hc : (List.range' 1 (bs.length - 1)).find? (perOk bs) with
    | none =>
      have := List.find?_eq_none.mp hc g (List.mem_range'_1.mpr ⟨g0, by omega⟩)
      exact absurd ok this
    | some q =>
      show q ≤ g
      rw [List.find?_range'_eq_some] at hc
      rcases Nat.lt_or_ge g q with hq | hq
      · have := hc.2.2 g g0 hq
        rw [ok] at this
        cases this
      · exact hq
  · have e : g = bs.length := by omega
    rw [e]
    cases hc : (List.range' 1 (bs.length - 1)).find? (perOk bs) with
    | none => exact Nat.le_refl _
    | some q =>
      show q ≤ bs.length
      have := List.mem_range'_1.mp (List.mem_of_find?_eq_some hc)
      omega
theorem form_ext {bs cs : List Bool} (h1 : Ln bs) (h2 : Ln cs) (e : ∀ d, dinB bs d = dinB cs d) : formB bs = formB cs := by
  have ef : dinB bs = dinB cs := funext e
  have l1 : lpG bs ≤ lpG cs := lp_min h1 h2.lp.1 (by rw [ef]; exact lp_per h2)
  have l2 : lpG cs ≤ lpG bs := lp_min h2 h1.lp.1 (by rw [← ef]; exact lp_per h1)
  have l : lpG bs = lpG cs := Nat.le_antisymm l1 l2
  unfold formB
  rw [rests_of h1 (Nat.le_refl _), rests_of h2 (Nat.le_refl _), ef, l]
theorem form_in {bs cs : List Bool} (h1 : Ln bs) (h2 : Ln cs) (e : formB bs = formB cs) (d : Int) : dinB bs d = dinB cs d := by
  unfold formB at e
  have l : (lpG bs : Int) = lpG cs := congrArg Prod.fst e
  have r : restsB bs (lpG bs) = restsB cs (lpG cs) := congrArg Prod.snd e
  rw [← dinB_mod h1.lo h1.hi, ← dinB_mod h2.lo h2.hi, l, r]
theorem form_dec {bs cs : List Bool} (h1 : Ln bs) (h2 : Ln cs) : decide (formB bs = formB cs) = (leB bs cs && leB cs bs) := by
  rw [Bool.eq_iff_iff, decide_eq_true_eq, Bool.and_eq_true, le_iff h1 h2, le_iff h2 h1]
  constructor
  · intro e
    exact ⟨fun d hd => by rw [← form_in h1 h2 e]; exact hd, fun d hd => by rw [form_in h1 h2 e]; exact hd⟩
  · rintro ⟨a, b⟩
    refine form_ext h1 h2 fun d => ?_
    cases hb : dinB bs d with
    | true => rw [a d hb]
    | false =>
      cases hc : dinB cs d with
      | false => rfl
      | true => rw [b d hc] at hb; cases hb
end NB
/-! NWq: <=, <, >=, > by own methods; == and != of two lists whose items are equal by an own __eq__. -/
namespace NB
section
open PySem PySem.Spec L2
variable {X : Cx} {CX : CXT} {k : Nat} {C : Addr} {sp : Sp} {E : XK}
/-- x op y by x's own method -/
theorem op_cmpO {op : CmpOp} (hq : ∀ u v, compareOp op u v = richCompare op u v) (M : OwnM X CX k C (cmpInfo op).2.1 sp) (hr : Room k X.A) (hx : Passes CX X E) : OpR X (compareOp op) (rEqO X.K C sp E) := by
  intro pins s σ H x y u v Q I rx ry h
  obtain ⟨f, fd, ps, F, hb, hs, hf⟩ := M.ex
  obtain ⟨a, dx, fs, t, rfl, ha, ty, nf, q⟩ := h
  obtain ⟨ox, od, J⟩ := inst_of I ha
  obtain ⟨Pt, Z, pt, _⟩ := kit_of I ry ty
  obtain ⟨m, hF⟩ := I.fr
  have rx' := rx
  cases rx'
  rw [hq]
  refine PySem.W.cmp_K (op := op) (tb := t) hr.units0 hF I.ok.mod.kin J (Z.ty _ _ I.kIn pt) nf hs hf (wpAny_mono (run_at F ⟨hr, rfl⟩ hb hx I (.cons rel_ref (.cons ry .nil)) q) ?_ fun _ _ z => z)
  rintro w s' ⟨z, H', I', rz, b, rfl, qb⟩
  cases rz
  exact ⟨.bl b, H', I', rfl, qb⟩
end
section
open PySem PySem.SeqAt GQ
open AutoSeq1 (wpAny_loadPart')
open MeetsSeq MeetsSeq2 MeetsSeq3 SeqRoads2
variable {prog : Program} {w : World} {A : Around} {R : Result → Shared → Prop}
theorem neq_loop (l b : Addr) (N : Nat) (J : Nat → Shared → Prop) (hJ : ListI prog w A (fun e s' => R (.error e) s') l b N J) (fin : ∀ s, J N s → R (.ok (.ret (.bool false))) s) (k : Nat) : ∀ i : Nat, N - i = k → i ≤ N → ∀ s, J i s →
      wpAny (model prog w) A.in1 (Builtin.«list.__eq__.loop» ⟨[.ref l, .ref b, rawInt i, rawInt 3], []⟩) (FinOf prog w A R) (fun e s' => R (.error e) s') s := by
  induction k with
  | zero =>
    intro i hk hi s j0
    obtain ⟨xs, ys, m, m', x1, y1, z1, z2, _⟩ := hJ _ _ j0
    obtain rfl : i = N := by omega
    have last := fin s j0
    obtain ⟨q1, q2, q3, q4, q5⟩ := s
    wp_walk using wpAny_loadPart' x1, wpAny_loadPart' y1
    rw [show xs[((i : Nat) : Int).toNat]? = none by simp; omega, show ys[((i : Nat) : Int).toNat]? = none by simp; omega]
    wp_walk using wpAny_loadPart' x1, wpAny_loadPart' y1
    show R (.ok (.ret (.bool (xs.size != ys.size)))) _
    rw [z1, z2, bne_self_eq_false]
    exact last
  | succ k ih =>
    intro i hk hi s j0
    obtain ⟨xs, ys, m, m', x1, y1, z1, z2, turn⟩ := hJ _ _ j0
    have l1 : i < xs.size := by omega
    have l2 : i < ys.size := by omega
    have one := turn l1 l2
    obtain ⟨q1, q2, q3, q4, q5⟩ := s
    wp_walk using wpAny_loadPart' x1, wpAny_loadPart' y1
    rw [show xs[((i : Nat) : Int).toNat]? = some xs[i] by simp [l1], show ys[((i : Nat) : Int).toNat]? = some ys[i] by simp [l2]]
    refine wpAny_bind (wpAny_mono one ?_ fun _ _ x => x)
    rintro r s2 ⟨rfl, j2⟩
    have more := ih (i + 1) (by omega) (by omega) s2 j2
    obtain ⟨r1, r2, r3, r4, r5⟩ := s2
    wp_walk
    rw [show ((i : Int) + 1) = ((i + 1 : Nat) : Int) by omega]
    refine ⟨plainId_quiet plain_eq_loop _, codeAny_builtin entry_eq_loop ?_⟩
    rw [Around.under_plainId plain_eq_loop _]
    exact more
theorem neq_list (l b : Addr) (N : Nat) (J : Nat → Shared → Prop) (hJ : ListI prog w A (fun e s' => R (.error e) s') l b N J) (fin : ∀ s, J N s → R (.ok (.ret (.bool false))) s) {s : Shared} (j0 : J 0 s) :
    wpAny (model prog w) A.in1 (Builtin.«list.__ne__» ⟨[.ref l, .ref b], []⟩) (FinOf prog w A R) (fun e s' => R (.error e) s') s := by
  obtain ⟨xs, ys, m, m', x1, y1, z1, z2, _⟩ := hJ _ _ j0
  have more := neq_loop (A := A) (R := R) l b N J hJ fin _ 0 rfl (Nat.zero_le _) s j0
  obtain ⟨q1, q2, q3, q4, q5⟩ := s
  have f3 := AutoSeq1.sub_list_list
  have hne : ¬ (xs.size != ys.size) = true := by simp [z1, z2]
  wp_walk using wpAny_loadPart' x1, wpAny_loadPart' y1
  refine ⟨plainId_quiet plain_eq_loop _, codeAny_builtin entry_eq_loop ?_⟩
  rw [Around.under_plainId plain_eq_loop _]
  exact more
end
section
open PySem PySem.Spec L2 GQ
variable {X : Cx} {n : Nat} {D : Eqv}
/-- two lists, item by item equal: != says False -/
def rNeG (D : Eqv) : R2 := fun x y H Q => DList D x y H ∧ ∀ H', Same H H' → Q (.bl false) H'
theorem op_neG (hD : Mon D) (h : EqG X n D) (hr : Room (n + 1) X.A) : OpR X (compareOp .NotEq) (rNeG D) := by
  intro pins s σ H x y v u Q I rx ry hq
  obtain ⟨⟨a, b, xs, ys, rfl, rfl, ha, hb, p⟩, q⟩ := hq
  cases rx
  cases ry
  have sb : Sub X (n + 1) X.A := ⟨hr, rfl⟩
  show wpAny (model X.prog X.w) X.A (richCompare .NotEq (.ref a) (.ref b)) (EP X pins σ Q) X.xe s
  have hl : ListI X.prog X.w X.A X.xe a b xs.length (fun _ s' => LoopI X pins σ H s') := fun i s' q' => by
    obtain ⟨H1, I1, e1⟩ := id q'
    obtain ⟨z, its, k, r, e⟩ := I1.hok a _ (e1 _ _ ha)
    obtain ⟨z2, its2, k2, r2, e2⟩ := I1.hok b _ (e1 _ _ hb)
    exact ⟨its.toArray, its2.toArray, k, k2, e, e2, by rw [List.size_toArray, ← r.length], by rw [List.size_toArray, ← r2.length, ← p.1], fun h1 h2 => turnG hD h sb p r r2 i h1 h2 s' q'⟩
  obtain ⟨items, items2, m1, m2', hl1, hb1, _⟩ := hl 0 s ⟨H, I, Ext.rfl'⟩
  refine wpAny_richCompare_same_room (op := .NotEq) ⟨_, hl1, rfl⟩ ⟨_, hb1, rfl⟩ F.slot_list_ne (call_here F.slot_list_ne ⟨_, hl1, rfl⟩ F.entry_list_ne (F.args_list_ne_2 _ _) ?_) sb.room.units0
  refine neq_list a b xs.length (fun _ s' => LoopI X pins σ H s') hl (fun s' z => ⟨(fun x => nomatch x), ?_⟩) ⟨H, I, Ext.rfl'⟩
  obtain ⟨H', I', e'⟩ := z
  exact ⟨.bl false, H', I', rfl, q H' e'⟩
/-- two objects of the class at C that its own __eq__ says to be equal -/
def DOwn (C : Addr) (sp : Sp) (E : XK) : Eqv := fun x y H => ∃ a b dx dy fs gs, x = .ref a ∧ y = .ref b ∧ H a = some (.ins C dx fs) ∧ H b = some (.ins C dy gs) ∧ ∀ H1, Same H H1 → sp [x, y] H1 (fun v H' => v = .bl true ∧ Same H1 H') E
theorem mon_own {C : Addr} {sp : Sp} {E : XK} : Mon (DOwn C sp E) := fun x y H H' e d => by
  obtain ⟨a, b, dx, dy, fs, gs, hx, hy, h1, h2, q⟩ := d
  exact ⟨a, b, dx, dy, fs, gs, hx, hy, e _ _ h1, e _ _ h2, fun H1 s1 => q H1 (fun c o z => s1 c o (e c o z))⟩
theorem eqG_own {CX : CXT} {k : Nat} {C : Addr} {sp : Sp} {E : XK} (M : OwnM X CX k C "__eq__" sp) (hx : Passes CX X E) : EqG X k (DOwn C sp E) := by
  refine RcG.eqG (fun A pins s σ H x y u v sb I rx ry d => ?_) fun _ _ _ d => let ⟨a, b, _, _, _, _, hx, hy, _⟩ := d; ⟨a, b, hx, hy⟩
  obtain ⟨f, fd, ps, F, hb, hs, hf⟩ := M.ex
  obtain ⟨a, b, dx, dy, fs, gs, rfl, rfl, ha, hb2, q⟩ := d
  obtain ⟨ox, od, J⟩ := inst_of I ha
  obtain ⟨oy, od2, J2⟩ := inst_of I hb2
  obtain ⟨m, hF⟩ := I.fr
  have rx' := rx
  have ry' := ry
  cases rx'
  cases ry'
  refine PySem.W.cmp_K (op := .Eq) (tb := .ref C) sb.room.units0 hF I.ok.mod.kin J J2.type (by simp [PySem.W.notFirst]) hs hf (wpAny_mono (run_at F sb hb hx I (.cons rel_ref (.cons rel_ref .nil)) (q H (Same.refl H))) ?_ fun _ _ z => z)
  rintro w s' ⟨z, H', I', rz, rfl, e⟩
  cases rz
  exact ⟨rfl, H', I', e⟩
end
end NB
/-! NWo: operators in place with an operand of the same own class; ~o. -/
namespace PySem.W
open PySem PySem.Calls PyProof.Rows
section
variable {prog : Program} {w : World} {A : Around} {E : Value → Shared → Prop} {s : Shared} {K : Frag} {x y C L f : Addr} {h₀ : Heap} {m : Str → Option Value} {ox oy : Obj} {od oe : Option Obj}
theorem nb_bin1S {op : Operator} {Q : Value → Shared → Prop} (F : Fr h₀ L s.heap m) (X₀ : K.In h₀) (I : InstAt s.heap x ox C od) (J : InstAt s.heap y oy C oe) (hc : selfFirst K C = true)
    (hs : findIn K (.ref C) (PySem.dunder op.info.2) = some (some (.ref f))) (hf : isFn K (.ref f) = true)
    (h : wpAny (model prog w) A (call (.ref f) [.ref x, .ref y]) (CmpBack Q) E s) : wpAny (model prog w) A (binaryOp1 op.info.2 (.ref x) (.ref y)) (fun r s' => ∃ v, r = some v ∧ Q v s') E s := by
  have X := X₀.keeps F.keep
  obtain ⟨cd, rest, hcd, hm⟩ := ksp_first hc
  rcases hi : op.info with ⟨sym, nm⟩
  rw [hi] at hs
  dsimp only at hs
  have one := ksp_try X I hs hf h
  obtain ⟨hh, g, d, tt, os⟩ := s
  have a1 : Looks (model prog w) hh (typeOf (.ref x)) (.ref C) := I.type
  have a2 : Looks (model prog w) hh (typeOf (.ref y)) (.ref C) := J.type
  have a3 : Looks (model prog w) hh (fillsNumberSlot (.ref C) nm) true := fills_K X hcd hm hs
  have alike : (Value.ref C == Value.ref C) = true := beq_self_eq_true _
  dsimp only
  unfold binaryOp1
  refine wpAny_bind (a1.at (wpAny_bind (a2.at (wpAny_bind (a3.at ?_)))))
  simp only [alike, if_true]
  ksp_lk
  refine wpAny_mono one (fun r s' hr' => ?_) fun _ _ e => e
  obtain ⟨v, rfl, hq⟩ := hr'
  ksp_lk
  exact ⟨v, rfl, hq⟩
theorem nb_inS {op : Operator} {cd : ClassData} {Q : Value → Shared → Prop} (F : Fr h₀ L s.heap m) (X₀ : K.In h₀) (I : InstAt s.heap x ox C od) (J : InstAt s.heap y oy C oe) (hc : selfFirst K C = true) (hcd : clsIn K C = some cd) (hm : cd.mro = [.ref C, .type "object"])
    (hi : findIn K (.ref C) (dunderI op.info.2) = some none) (ho : findIn K (.type "object") (dunderI op.info.2) = some none) (hs : findIn K (.ref C) (PySem.dunder op.info.2) = some (some (.ref f))) (hf : isFn K (.ref f) = true)
    (h : wpAny (model prog w) A (call (.ref f) [.ref x, .ref y]) (CmpBack Q) E s) : wpAny (model prog w) A (inplaceOp op (.ref x) (.ref y)) Q E s := by
  have X := X₀.keeps F.keep
  unfold inplaceOp
  refine wpAny_holding (wpAny_bind (I.type.here (wpAny_bind ((nb_fillsI0 X hcd hm hi ho).here ?_))))
  rw [if_neg (by decide)]
  refine wpAny_bind (wpAny_mono (nb_bin1S F X₀ I J hc hs hf h) (fun r s' hq => ?_) fun _ _ e => e)
  obtain ⟨v, rfl, hq⟩ := hq
  exact wpAny_pure hq
end
end PySem.W
namespace NB
open PySem PySem.Spec L2
section
variable {X : Cx} {CX : CXT} {k : Nat} {C : Addr} {sp : Sp} {E : XK}
/-- x op= y, y of the same own class -/
theorem in_S {op : Operator} (M : OwnM X CX k C (PySem.dunder op.info.2) sp) (N : InT X.K C op) (hc : PySem.W.selfFirst X.K C = true) (hr : Room k X.A) (hx : Passes CX X E) : InOp X op (rBinS X.K C sp E) := by
  intro pins s σ H x y u v Q I rx ry h
  obtain ⟨f, fd, ps, F, hb, hs, hf⟩ := M.ex
  obtain ⟨a, dx, b, dy, fs, gs, rfl, ha, rfl, hb2, q⟩ := h
  obtain ⟨ox, od, J⟩ := inst_of I ha
  obtain ⟨oy, oe, J2⟩ := inst_of I hb2
  obtain ⟨m, hF⟩ := I.fr
  obtain ⟨cd, hcd, hm⟩ := N.cd
  have rx' := rx
  cases rx'
  have ry' := ry
  cases ry'
  refine PySem.W.nb_inS hF I.ok.mod.kin J J2 hc hcd hm N.hi N.ho hs hf (wpAny_mono (run_at F ⟨hr, rfl⟩ hb hx I (.cons rel_ref (.cons rel_ref .nil)) q) ?_ fun _ _ z => z)
  rintro w s' ⟨z, H', I', rz, qb⟩
  have e : EP X pins σ Q w s' := ⟨z, H', I', rz, qb⟩
  have n := rel_noNI rz
  cases w <;> first | exact e | exact absurd rfl n
/-- ~o by o's own __invert__ -/
def rInvO (C : Addr) (sp : Sp) (E : XK) : V → Hp → VK → Prop := fun x H Q => ∃ (a dx : Addr) (fs : List (Str × V)), x = .ref a ∧ H a = some (.ins C dx fs) ∧ sp [x] H Q E
theorem un_invO (M : OwnM X CX k C "__invert__" sp) (hr : Room k X.A) (hx : Passes CX X E) : UnR X (unaryOp .Invert) (rInvO C sp E) := by
  intro pins s σ H x u Q I rx h
  obtain ⟨f, fd, ps, F, hb, hs, hf⟩ := M.ex
  obtain ⟨a, dx, fs, rfl, ha, q⟩ := h
  obtain ⟨ox, od, J⟩ := inst_of I ha
  obtain ⟨m, hF⟩ := I.fr
  have rx' := rx
  cases rx'
  exact PySem.W.ksp_inv hF I.ok.mod.kin J hs hf (run_at F ⟨hr, rfl⟩ hb hx I (.cons rel_ref .nil) q)
end
end NB
/-! NWe: days within the walk of a law. -/
namespace NB
open PySem L2 ClX
def dyS (C a : Addr) (bs : List Bool) : SP := ⟨fun H => IsDays H C a bs, fun H H' k h => h.nl k⟩
def fmS (t : Addr) (bs : List Bool) : SP := ⟨fun H => FormAt H t bs, fun H H' k h => h.kp k⟩
theorem q_cat {H : Hp} {Q : VK} {l2 b2 : Addr} {xs zs : List V} (h1 : H l2 = some (.lst xs)) (h2 : H b2 = some (.lst zs)) (h : Al (xs.length + zs.length) (.lst (xs ++ zs)) H fun a H2 => Q (.ref a) H2) : rCat (.ref l2) (.ref b2) H Q := ⟨l2, b2, xs, zs, rfl, rfl, h1, h2, h.1, h.2⟩
theorem q_aug {te : TE} {ti : TIp} {D : Ends} {σ : SV} {H : Hp} {i : Nat} {x : V} (h0 : σ[i]? = some (some x)) (h : te σ H fun y H1 => ti x y H1 fun z H2 => D.nx (σ.set i (some z)) H2) : tAug i te ti D σ H := ⟨x, h0, h⟩
theorem q_rep {H : Hp} {Q : VK} {l2 : Addr} {n : Int} {xs : List V} (h1 : H l2 = some (.lst xs)) (hn : 0 ≤ n) (hn2 : n ≤ 1000) (h : Al (xs.length * n.toNat) (.lst (List.replicate n.toNat xs).flatten) H fun a H2 => Q (.ref a) H2) : rRep (.ref l2) (.int n) H Q := ⟨l2, n, xs, rfl, rfl, h1, by omega, by omega, h.1, h.2⟩
theorem q_slL {K : PySem.W.Frag} {H : Hp} {Q : VK} {a : Addr} {xs : List V} {lo hi : Option Int} (h : H a = some (.lst xs)) (k : Al 0 (.lst (cutV xs lo hi)) H fun p H2 => Q (.ref p) H2) : rSlL K (.ref a) lo hi H Q := ⟨a, xs, rfl, SqL.of h, k.2⟩
theorem q_ixL {K : PySem.W.Frag} {H : Hp} {Q : VK} {a : Addr} {xs : List V} {i : Int} {v : V} (h : H a = some (.lst xs)) (hi : atI xs i = some v) (q : Q v H) : rIxL K (.ref a) (.int i) H Q := ⟨a, xs, i, v, rfl, rfl, SqL.of h, hi, q⟩
theorem q_ixT {K : PySem.W.Frag} {H : Hp} {Q : VK} {a : Addr} {xs : List V} {i : Int} {v : V} (h : H a = some (.tup xs)) (hi : atI xs i = some v) (q : Q v H) : rIxT K (.ref a) (.int i) H Q := ⟨a, xs, i, v, rfl, rfl, .inl (.inl h), hi, q⟩
theorem q_neD {K : PySem.W.Frag} {H : Hp} {Q : VK} {x y : V} {d e : PyData} (h1 : Dp K H x d) (h2 : Dp K H y e) (s1 : SeqAt.shaped d = true) (s2 : SeqAt.shaped e = true) (q : Q (.bl (!PyData.eqv d e)) H) : rNeD K x y H Q := ⟨d, e, h1, h2, s1, s2, q⟩
theorem q_eqD {K : PySem.W.Frag} {H : Hp} {Q : VK} {x y : V} {d e : PyData} (h1 : Dp K H x d) (h2 : Dp K H y e) (s1 : SeqAt.shaped d = true) (s2 : SeqAt.shaped e = true) (q : Q (.bl (PyData.eqv d e)) H) : rEqD K x y H Q := ⟨d, e, h1, h2, s1, s2, q⟩
theorem q_neDE {K : PySem.W.Frag} {H : Hp} {Q : VK} {x y : V} {d : PyData} (h1 : Dp K H x d) (h2 : Dp K H y d) (s1 : SeqAt.shaped d = true) (q : Q (.bl false) H) : rNeD K x y H Q := by
  refine q_neD h1 h2 s1 s1 ?_
  rw [SeqAt.eqv_refl _ (SeqAt.canLay_of_shaped s1)]
  exact q
theorem q_eqDE {K : PySem.W.Frag} {H : Hp} {Q : VK} {x y : V} {d : PyData} (h1 : Dp K H x d) (h2 : Dp K H y d) (s1 : SeqAt.shaped d = true) (q : Q (.bl true) H) : rEqD K x y H Q := by
  refine q_eqD h1 h2 s1 s1 ?_
  rw [SeqAt.eqv_refl _ (SeqAt.canLay_of_shaped s1)]
  exact q
def AlM (n : Nat) (o : HO) (H : Hp) (k : Addr → Hp → Prop) : Prop := n ≤ sizeLine ∧ ∀ a, H a = none → a ≠ sysModules → k a (upd H a o)
theorem q_lstM {t : TA} {σ : SV} {H : Hp} {Q : VK} (h : t σ H fun xs H1 => AlM xs.length (.lst xs) H1 fun a H2 => Q (.ref a) H2) : tLstM t σ H Q := h
theorem q_repr {K : PySem.W.Frag} {H : Hp} {Q : VK} {v : V} {d : PyData} (h : DR K H v d) (s : d.showable = true ∧ d.depth ≤ 60 ∧ d.shown.length ≤ sizeLine) (q : Q (.str d.shown) H) : rRepr K [v] H Q := ⟨v, d, rfl, h, s.1, s.2.1, s.2.2, q⟩
theorem bools_small : ∀ bs : List Bool, bs.length ≤ 4 → (PyData.list (bs.map PyData.bool)).showable = true ∧ (PyData.list (bs.map PyData.bool)).depth ≤ 60 ∧ (PyData.list (bs.map PyData.bool)).shown.length ≤ sizeLine := by
  intro bs h
  refine small_list (fun d hd => ?_) (by rw [List.length_map]; omega)
  obtain ⟨b, _, rfl⟩ := List.mem_map.mp hd
  cases b
  · exact ⟨rfl, by decide +kernel, by decide +kernel⟩
  · exact ⟨rfl, by decide +kernel, by decide +kernel⟩
theorem dr_bools {K : PySem.W.Frag} {H : Hp} : ∀ bs : List Bool, DRs K H (bs.map V.bl) (bs.map PyData.bool)
  | [] => .nil
  | b :: bs => .cons (.bl b) (dr_bools bs)
/-- repr of a list of truths -/
theorem q_reprB {K : PySem.W.Frag} {H : Hp} {Q : VK} {a : Addr} {bs : List Bool} (h : H a = some (.lst (bs.map V.bl))) (na : a ≠ sysModules) (hz : bs.length ≤ 4) (q : Q (.str (PyData.list (bs.map PyData.bool)).shown) H) : rRepr K [.ref a] H Q :=
  q_repr (.lst na (SqL.of h) (dr_bools bs)) (bools_small bs hz) q
theorem q_smC {C : Addr} {sp : Sp} {E : XK} {t : TA} {σ : SV} {H : Hp} {Q : VK} (h : t σ H fun vs H2 => sp vs H2 Q E) : tSMeth C sp E (tC (.ref C)) t σ H Q := ⟨rfl, h⟩
theorem q_disp {trs : List (TE × TE)} {σ : SV} {H : Hp} {Q : VK} {kvs : List (Key × V)} (hp : ∀ (H : Hp) (QP : List (V × V) → Hp → Prop), QP (kvs.map fun kv => (kV kv.1, kv.2)) H → tPairs trs σ H QP) (hz : kvs.length ≤ 15) (h : Al 0 (.dK (mergeK [] kvs)) H fun a H2 => Q (.ref a) H2) : tDisp trs σ H Q := by
  intro p hp0
  refine hp _ _ ⟨upd_same, kvs, rfl, hz, ?_⟩
  rw [upd_upd]
  exact h.2 p hp0
theorem not_seq {K : PySem.W.Frag} {H : Hp} {v : V} {Tn : String} (m : Tn ∈ ["NoneType", "bool", "int", "str", "dict"]) (h : TyX K H v (.type Tn)) : NotSeq K H v := by
  simp only [List.mem_cons, List.not_mem_nil, or_false] at m
  rcases m with rfl | rfl | rfl | rfl | rfl
  all_goals exact ⟨_, h, kitAny_cons (b := false) (kit_ty (by decide +kernel)) (fun _ => kitAny_cons (b := false) (kit_ty (by decide +kernel)) (fun _ => rfl) (fun z => nomatch z)) (fun z => nomatch z)⟩
def bwV (lo hi : Int) : V → Bool
  | .int n => decide (lo ≤ n) && decide (n ≤ hi)
  | _ => false
theorem are_no {K : PySem.W.Frag} {H : Hp} {a : Addr} {lo hi : Int} {xs : List V} (hx : H a = some (.lst xs) ∨ H a = some (.tup xs)) (hr : xs.all (bwV lo hi) = false) (hz : xs.length < sizeLine) (hb : ∀ x ∈ xs, (∃ n, x = .int n) ∨ NotInt K H x ∧ bwV lo hi x = false) : AreV K H lo hi (.ref a) false :=
  .inl ⟨a, xs, bwV lo hi, rfl, hx, hz, fun x hm => by
    rcases hb x hm with ⟨n, rfl⟩ | ⟨h1, h2⟩
    · exact .inl ⟨n, rfl, rfl⟩
    · exact .inr ⟨h1, h2⟩, hr.symm⟩
section
variable {T : List (Addr × Str)} {p c : Addr} {ns : List Int} {H0 H H' : Hp} {b b' : Int} {ps ps' : List SP} {ms : List (Addr × List V)} {l l0 l' : List (Addr × HO)}
variable {P : Program} {w : World} {K : PySem.W.Frag} {mg : Str → Option Value} {base : Heap} {S B Bm Bc C : Addr}
theorem Wd.knowT {a : Addr} {xs : List V} (W : Wd T p c ns H0 H b ps ms l) (h : H a = some (.tup xs)) : Wd T p c ns H0 H b ps ms ((a, .tup xs) :: l) := { W with
  kn := fun q hq => by
    rcases List.mem_cons.mp hq with rfl | hq
    · obtain ⟨i, r, pn, _⟩ := W.pen
      exact ⟨ne_of h pn.pen (fun z => by cases z), (fun _ z => nomatch z), h⟩
    · exact W.kn q hq
  mu := fun m hm => by
    obtain ⟨h1, h2, h3, h4, h5⟩ := W.mu m hm
    refine ⟨h1, h2, h3, h4, fun q hq => ?_⟩
    rcases List.mem_cons.mp hq with rfl | hq
    · exact ne_of h h4 (fun z => by cases z)
    · exact h5 q hq }
theorem Wd.dy {a : Addr} {bs : List Bool} (W : Wd T p c ns H0 H b ps ms l) (h : dyS C a bs ∈ ps := by repeat (first | exact List.Mem.head _ | apply List.Mem.tail)) : IsDays H C a bs := W.im _ h
theorem Wd.fm {t : Addr} {bs : List Bool} (W : Wd T p c ns H0 H b ps ms l) (h : fmS t bs ∈ ps := by repeat (first | exact List.Mem.head _ | apply List.Mem.tail)) : FormAt H t bs := W.im _ h
theorem Wd.on {Q : VK} {E : XK} {v u : V} {bs : List Bool} (W : Wd T p c ns H0 H b ps ms l) (d : DaysV K H v u (.inl bs)) (k : ∀ a H', Wd T p c ns H0 H' b (dyS C a bs :: ps) ms l → Q (.ref a) H') : spMk K B C [v, u] H Q E :=
  ⟨v, u, _, rfl, d, (fun _ e => nomatch e), fun bs' e H' a s' h => by cases e; exact k a H' ((W.same s').add (dyS C a bs) h)⟩
theorem Wd.ev {Q : VK} {E : XK} {bs : List Bool} (W : Wd T p c ns H0 H b ps ms l) (k : ∀ a H', Wd T p c ns H0 H' b (dyS C a bs :: ps) ms l → Q (.ref a) H') : spEvery C bs [] H Q E :=
  ⟨rfl, fun H' a s' h => k a H' ((W.same s').add (dyS C a bs) h)⟩
theorem Wd.mkD {Q : Addr → Hp → Prop} {E : XK} {v u : V} {bs : List Bool} (W : Wd T p c ns H0 H b ps ms l) (d : DaysV K H v u (.inl bs)) (k : ∀ a H', Wd T p c ns H0 H' b (dyS C a bs :: ps) ms l → Q a H') :
    ∀ x dx, H x = none → H dx = none → dx ≠ x → spDI K B C [.ref x, v, u] (upd (upd H dx (.own x)) x (.ins C dx [])) (fun v H2 => v = .non ∧ Q x H2) E := mk_days d (fun bs' e H' a s' h => by cases e; exact k a H' ((W.same s').add (dyS C a bs) h)) (fun _ e => nomatch e)
theorem q_on {Q : VK} {E : XK} {v : V} {rest : List V} (h : Al rest.length (.tup rest) H fun a H2 => spMk K B C [v, .ref a] H2 Q E) : spOn K B C (v :: rest) H Q E := ⟨[v], rest, rfl, rfl, h.1, fun q hq => h.2 q hq⟩
theorem mk_daysB {Q : Addr → Hp → Prop} {E : XK} {v u : V} {z : Str} (d : DaysV K H v u (.inr z)) (h1 : BadF B "part" E H (.str z)) :
    ∀ x dx, H x = none → H dx = none → dx ≠ x → spDI K B C [.ref x, v, u] (upd (upd H dx (.own x)) x (.ins C dx [])) (fun v H2 => v = .non ∧ Q x H2) E := mk_days d (fun _ e => nomatch e) (fun p e => by cases e; exact h1)
theorem mk_onB {Q : VK} {E : XK} {v u : V} {z : Str} (d : DaysV K H v u (.inr z)) (h1 : BadF B "part" E H (.str z)) : spMk K B C [v, u] H Q E := ⟨v, u, _, rfl, d, fun p e => by cases e; exact h1, fun _ e => nomatch e⟩
/-- the object of a set -/
theorem IsDays.ob {a : Addr} {bs : List Bool} (h : IsDays H C a bs) : ∃ dx fs, H a = some (.ins C dx fs) := by
  obtain ⟨⟨dx, q, r, e1, e2, e3⟩, _, _⟩ := h
  exact ⟨dx, _, e1⟩
/-- one op other -/
theorem Wd.bin {Q : VK} {E : XK} {t : Bool → Bool → Bool} {a a2 : Addr} {bs cs : List Bool} (W : Wd T p c ns H0 H b ps ms l) (ha : IsDays H C a bs) (hb : IsDays H C a2 cs) (h7 : m2 bs cs ≤ 7) (k : ∀ x H', Wd T p c ns H0 H' b (dyS C x (jnB t bs cs) :: ps) ms l → Q (.ref x) H') : rBinS K C (spOp Bm C t) E (.ref a) (.ref a2) H Q := by
  obtain ⟨dx, fs, e1⟩ := ha.ob
  obtain ⟨dy, gs, e2⟩ := hb.ob
  exact ⟨a, dx, a2, dy, fs, gs, rfl, e1, rfl, e2, a, a2, bs, cs, rfl, ha, hb, fun z => absurd z (by omega), fun _ H' x s' h => k x H' ((W.same s').add (dyS C x _) h)⟩
theorem Wd.inv {Q : VK} {E : XK} {a : Addr} {bs : List Bool} (W : Wd T p c ns H0 H b ps ms l) (ha : IsDays H C a bs) (k : ∀ x H', Wd T p c ns H0 H' b (dyS C x (notB bs) :: ps) ms l → Q (.ref x) H') : rInvO C (spInv C) E (.ref a) H Q := by
  obtain ⟨dx, fs, e1⟩ := ha.ob
  exact ⟨a, dx, fs, rfl, e1, a, bs, rfl, ha, fun H' x s' h => k x H' ((W.same s').add (dyS C x _) h)⟩
theorem Wd.sh {Q : VK} {E : XK} {op : Operator} {sg n : Int} {a : Addr} {bs : List Bool} (W : Wd T p c ns H0 H b ps ms l) (Bt : BinT K C op "int") (ha : IsDays H C a bs) (k : ∀ x H', Wd T p c ns H0 H' b (dyS C x (shB bs (sg * n)) :: ps) ms l → Q (.ref x) H') : rBinO K C op (spSh C sg) E (.ref a) (.int n) H Q := by
  obtain ⟨dx, fs, e1⟩ := ha.ob
  exact ⟨a, dx, fs, "int", rfl, e1, .base (.int n), Bt, a, bs, n, rfl, ha, fun H' x s' h => k x H' ((W.same s').add (dyS C x _) h)⟩
theorem Wd.cmp {Q : VK} {E : XK} {f : List Bool → List Bool → Bool} {a a2 : Addr} {bs cs : List Bool} (W : Wd T p c ns H0 H b ps ms l) (D : DyD P w K mg base B C) (nf : PySem.W.notFirst K C (.ref C) = true) (ha : IsDays H C a bs) (hb : IsDays H C a2 cs) (k : ∀ H', Wd T p c ns H0 H' b ps ms l → Q (.bl (f bs cs)) H') : rEqO K C (spLe C f) E (.ref a) (.ref a2) H Q := by
  obtain ⟨dx, fs, e1⟩ := ha.ob
  exact ⟨a, dx, fs, .ref C, rfl, e1, D.ty hb, nf, a, a2, bs, cs, rfl, ha, hb, fun H' s' => ⟨_, rfl, k H' (W.same s')⟩⟩
theorem q_eqY {Q : VK} {E : XK} {a a2 : Addr} {bs cs : List Bool} (D : DyD P w K mg base B C) (nf : PySem.W.notFirst K C (.ref C) = true) (ha : IsDays H C a bs) (hb : IsDays H C a2 cs) (q : Q (.bl (decide (formB bs = formB cs))) H) : rEqO K C (spEq K C) E (.ref a) (.ref a2) H Q := by
  obtain ⟨dx, fs, e1⟩ := ha.ob
  exact ⟨a, dx, fs, .ref C, rfl, e1, D.ty hb, nf, a, bs, .ref a2, _, rfl, ha, .inl ⟨a2, cs, rfl, hb, rfl⟩, _, rfl, q⟩
theorem q_eqE {Q : VK} {E : XK} {a a2 : Addr} {bs cs : List Bool} (D : DyD P w K mg base B C) (nf : PySem.W.notFirst K C (.ref C) = true) (ha : IsDays H C a bs) (hb : IsDays H C a2 cs) (e : ∀ d, dinB bs d = dinB cs d) (q : Q (.bl true) H) : rEqO K C (spEq K C) E (.ref a) (.ref a2) H Q := by
  refine q_eqY D nf ha hb ?_
  rw [decide_eq_true (form_ext ha.ln hb.ln e)]
  exact q
theorem own_eq {E : XK} {a a2 : Addr} {bs cs : List Bool} (D : DyD P w K mg base B C) (ha : IsDays H C a bs) (hb : IsDays H C a2 cs) (e : ∀ d, dinB bs d = dinB cs d) : DOwn C (spEq K C) E (.ref a) (.ref a2) H := by
  obtain ⟨dx, fs, e1⟩ := ha.ob
  obtain ⟨dy, gs, e2⟩ := hb.ob
  exact ⟨a, a2, dx, dy, fs, gs, rfl, rfl, e1, e2, fun H1 s1 => ⟨a, bs, .ref a2, true, rfl, ha.keep s1, .inl ⟨a2, cs, rfl, hb.keep s1, by rw [decide_eq_true (form_ext ha.ln hb.ln e)]⟩, rfl, Same.refl _⟩⟩
theorem Wd.subK (W : Wd T p c ns H0 H b ps ms l) (h : ∀ q, q ∈ l0 → q ∈ l := by (intro q hq; repeat (first | exact hq | apply List.mem_cons_of_mem))) : Wd T p c ns H H b [] [] l0 := ⟨ButN.refl _ _, W.pen, W.tb, fun _ h => (nomatch h), fun q hq => W.kn q (h q hq), fun _ h => (nomatch h), .nil⟩
theorem Wd.hide (W : Wd T p c ns H0 H b ps ms l) : ∃ ps' l', ps' = ps ∧ l' = l ∧ Wd T p c ns H0 H b ps' ms l' := ⟨ps, l, rfl, rfl, W⟩
theorem txt_ok {bs : List Bool} (h : Ln bs) : PyData.strOk (daysTxt bs) = true := all7 (p := fun bs => PyData.strOk (daysTxt bs)) (by decide +kernel) h.lo h.hi
/-- Days of a size and its rests -/
theorem days_of {L : Addr} {bs : List Bool} (h : H L = some (.lst ((restsB bs bs.length).map V.int))) (l : Ln bs) : DaysV K H (.int bs.length) (.ref L) (.inl bs) :=
  .inl ⟨bs.length, L, restsB bs bs.length, rfl, l.lo, l.hi, rfl, .inl h, Nat.le_trans (rests_len _ _) (Nat.le_trans l.hi (by decide)), fun n hn => (mem_restsB.mp hn).1, by rw [truB_rests bs _ (fun _ => Iff.rfl)]⟩
theorem Wd.alR {o : HO} (W : Wd T p c ns H0 H b ps ms l) {n : Nat} {K : Addr → Hp → Prop} (k : ∀ a H', a ≠ sysModules → Wd T p c ns H0 H' b ps ms ((a, o) :: l) → K a H') (hz : n ≤ sizeLine := by exact Nat.le_of_ble_eq_true rfl) (ho : nTb o := by exact fun _ z => nomatch z) : AlM n o H K :=
  ⟨hz, fun a h na => k a _ na (W.new h ho)⟩
/-- what a def gave is known -/
theorem Wd.got (W : Wd T p c ns H0 H b ps [] l) (U : Wd T p c ns H H' b' ps' [] l') : Wd T p c ns H0 H' b' (ps' ++ ps) [] (l' ++ l) := by
  have W1 := W.back U
  refine ⟨W1.bt, W1.pen, W1.tb, fun s hs => ?_, fun q hq => ?_, (fun m hm => nomatch hm), .nil⟩
  · rcases List.mem_append.mp hs with h | h
    · exact U.im s h
    · exact W1.im s h
  · rcases List.mem_append.mp hq with h | h
    · exact U.kn q h
    · exact W1.kn q h
end
end NB
/-! NWt: try .. except X as n: suite (and more clauses, which are not come to: each error of the body is an X). -/
namespace NB
open PySem PySem.Spec PyProof.Rows L2
/-- the wish of such a try -/
def wFst (K : PySem.W.Frag) (c : Value) (n i : Nat) (ts : Addr → Value → Option Addr → TS) (D : Ends) : WX := fun cls d σ H => PySem.W.exmOne K cls c = some true ∧ (σ.length = n → ∀ a, H a = none → ts a cls d { nx := fun σ' H' => D.nx (σ'.set i none) H', rt := D.rt, bk := fun σ' H' => D.bk (σ'.set i none) H', ct := fun σ' H' => D.ct (σ'.set i none) H' } (σ.set i (some (.ref a))) H)
section
variable {X : Cx} {x n : Str} {c : Value} {i : Nat} {body suite : List Stmt} {b₀ : Stmt} {more : List ExceptHandler} {np pos pos' : Pos} {tb : WX → TS} {ts : Addr → Value → Option Addr → TS}
theorem ps_try_first (hs : X.stack = X.env :: X.outer) (hf : X.env.frame = some X.env.locals) (hN : X.N.Nodup) (hi : X.N[i]? = some n) (hln : X.env.kindOf n = some .local) (hgl : Gl X x) (hdbg : (x == ("__debug__" : Str)) = false) (hmx : X.mg x = some c)
    (hb : ∀ (W : WX) (pn : List (Addr × Obj)) (xe : Value → Shared → Prop), Takes (X.tr pn xe) W → PassesOwn (model X.prog X.w) X.A X.env xe → PSs (X.tr pn xe) body (tb W))
    (hsu : ∀ (a : Addr) (oe : Obj) (cls : Value) (d : Option Addr) (pn : List (Addr × Obj)), Zc cls d oe → (∃ vs, oe.data = .fields vs) → PSs (X.suite a ((a, oe) :: pn)) (b₀ :: suite) (ts a cls d)) :
    PS X (.Try body (.ExceptHandler (some (.Name x np)) (some n) (b₀ :: suite) pos' :: more) [] [] pos) (fun D σ H => tb (wFst X.K c X.N.length i ts D) D σ H) := by
  constructor
  intro pins s σ H D I h
  have ok := I.ok
  have frames : X.A.frames = some (X.env :: X.outer) := ok.frames.trans (congrArg some hs)
  refine wpAny_Try_except (wpAny_mono ((hb (wFst X.K c X.N.length i ts D) (X.pn ++ pins)
    (fun e s₁ => wpAny (model X.prog X.w) X.A (noteFrame e X.env)
      (fun _ s₂ => wpAny (model X.prog X.w) X.A (setFlight e none)
        (fun _ s₃ => wpAny (model X.prog X.w) X.A (handleBy e X.env (.ExceptHandler (some (.Name x np)) (some n) (b₀ :: suite) pos' :: more)) (L2.SP X pins D) X.xe s₃) X.xe s₂) X.xe s₁)
    (fun u s' xx => ?_) PassesOwn.looking).run [] s σ H D (I.toTry _) h) (fun f s1 hsp => ?_) (fun e s1 he => he))
  · -- it is caught
    obtain ⟨a, B, sI, pins', σ', H', cls, d, rfl, J', nb, up, sky, na, os, ag, hyes, hq⟩ := xx
    have J : Inv X pins σ' H' sI := J'.ofTry ok
    rw [hs] at sky
    show wpAny (model X.prog X.w) X.A (noteFrame (.ref a) X.env) _ _ _
    refine Sky.land Zc.steady frames hf sky fun h3 fl3 up3 => ?_
    have J3 : Inv X pins σ' H' { s' with heap := h3 } := J.landed nb fl3.1 (up.trans up3) os ag
    obtain ⟨oe3, vs3, he3, hz3, hd3⟩ := fl3.there
    have nfr : a ∉ frs (X.env :: X.outer) := by
      intro hm
      obtain ⟨_, o', e', hnf⟩ := fl3.2.2.1.mem hm
      rw [he3] at e'
      cases e'
      exact hnf _ hd3
    have nL : a ≠ X.env.locals := by
      intro z
      exact nfr (List.mem_filterMap.mpr ⟨X.env, List.mem_cons_self, by rw [hf, z]⟩)
    have nF : a ∉ X.fs := by
      intro hm
      obtain ⟨e, he, q⟩ := List.mem_filterMap.mp hm
      exact nfr (List.mem_filterMap.mpr ⟨e, List.mem_cons_of_mem _ he, q⟩)
    have S3 := J3.suite he3 hd3 na nL nF
    refine wpAny_handleBy_cons (codeAny_handlers_test ?_) (by intro q; cases q)
    have ty : PySem.W.Looks (model X.prog X.w) h3 (typeOf (.ref a)) cls := fun A Q E s k q => wpAny_typeOf_ref (k _ _ he3) (by rw [hz3.1]; exact q)
    have yes := PySem.W.exm_one (M := model X.prog X.w) J3.kIn ty hyes
    refine ld_glob (X := X.suite a ((a, oe3) :: (X.pn ++ pins))) S3 hgl hmx ?_ hdbg
    refine yes.here (codeAny_handlers_suite_as (HandSPX.lands_againZ fl3 fun h4 fl4 up4 => ?_))
    have J4 : Inv X pins σ' H' { s' with heap := h4 } := J.landed nb fl4.1 ((up.trans up3).trans up4) os ag
    obtain ⟨oe4, vs4, he4, hz4, hd4⟩ := fl4.there
    have S4 := J4.suite he4 hd4 na nL nF
    refine store_ok (X := X.suite a ((a, oe4) :: (X.pn ++ pins))) (v := .ref a) S4 hN hi (.inl hln) rfl (fun s5 S5 => ?_) (.inr hln)
    have last : ∀ {σ6 : L2.St} {H6 : Hp} {s6 : Shared} {R : Shared → Prop}, Inv (X.suite a ((a, oe4) :: (X.pn ++ pins))) [] σ6 H6 s6 → (∀ s7, Inv X pins (σ6.set i none) H6 s7 → R s7) →
        wpAny (model X.prog X.w) X.A (do bindName X.env n .none; unbindBehindTheSuite X.env n pos') (fun _ s7 => R s7) X.xe s6 := fun S6 r => gone_ok (S6.unsuite ok) hN hi hln r
    refine wpAny_mono ((hsu a oe4 cls d (X.pn ++ pins) hz4 ⟨_, hd4⟩).run [] s5 _ H' _ S5 (hq J.len a na)) (fun f s6 hsp => ?_) (fun _ _ z => z.elim)
    match f, hsp with
    | .next, ⟨σ6, H6, S6, q6⟩ => exact last S6 fun s7 J7 => ⟨_, _, J7, q6⟩
    | .brk, ⟨σ6, H6, S6, q6⟩ => exact last S6 fun s7 J7 => ⟨_, _, J7, q6⟩
    | .cont, ⟨σ6, H6, S6, q6⟩ => exact last S6 fun s7 J7 => ⟨_, _, J7, q6⟩
    | .ret u, ⟨v6, σ6, H6, S6, r6, q6⟩ => exact last S6 fun s7 J7 => ⟨_, _, _, J7, r6, q6⟩
  · match f, hsp with
    | .next, ⟨σ', H', J', q⟩ => exact wpAny_execs_nil ⟨σ', H', J'.ofTry ok, q⟩
    | .brk, ⟨σ', H', J', q⟩ => exact ⟨σ', H', J'.ofTry ok, q⟩
    | .cont, ⟨σ', H', J', q⟩ => exact ⟨σ', H', J'.ofTry ok, q⟩
    | .ret u, ⟨v, σ', H', J', r, q⟩ => exact ⟨v, σ', H', J'.ofTry ok, r, q⟩
end
end NB
/-! NWm: xs * k whose place is told to be none of the interpreter's own (it is to be shown). -/
namespace NB
open PySem PySem.Spec PyProof.Rows L2
def rRepM : R2 := fun x y H Q => ∃ a n zs, x = .ref a ∧ y = .int n ∧ H a = some (.lst zs) ∧ 0 ≤ n ∧ n ≤ 1000 ∧ zs.length * n.toNat ≤ sizeLine ∧ ∀ p, H p = none → p ≠ sysModules → Q (.ref p) (upd H p (.lst (List.replicate n.toNat zs).flatten))
theorem op_repM {X : Cx} : OpR X (binaryOp .Mult) rRepM := by
  intro pins s σ H x y u w Q I rx ry ⟨a, n, zs, ex, ey, ha, n0, n1, hz, q⟩
  subst ex ey
  cases rx
  obtain ⟨tk, rfl⟩ := ry
  obtain ⟨_, ws, m, rv, lw, ea⟩ := I.lstM ha
  have size : ws.toArray.size * n.toNat ≤ sizeLine := by
    simpa [← lw] using hz
  have c1 : ¬ ws.toArray.size * n.toNat > (2 ^ 63 - 1) / 8 := fun z => absurd (Nat.lt_of_lt_of_le z size) (by decide)
  have c2 : ¬ (!Builtin.List.listFitsIndex n) = true := by
    simp [fitsIndex_both (show -(2 ^ 63) ≤ n by omega) (show n < 2 ^ 63 by omega)]
  have c3 : ¬ Builtin.List.listTooLong (ws.toArray.size * n.toNat) = true := by
    exact fun z => Bool.false_ne_true ((notLongL size).symm.trans z)
  have all : ∀ k : Nat, List.foldl (fun x1 x2 => x1 ++ x2) #[] (List.replicate k ws.toArray) = (List.replicate k ws).flatten.toArray := fun k => by
    simpa using foldl_rep ws k []
  have made : List.foldl (fun x1 x2 => x1 ++ x2) #[] (List.replicate (if ws.toArray.isEmpty = true then 0 else n.toNat) ws.toArray) = (List.replicate n.toNat ws).flatten.toArray := by
    rw [all]
    cases ws with
    | nil => simp
    | cons b bs => simp
  refine wpAny_binaryOp_repeat_ref (T := "list") (U := "int") (by decide) ⟨_, ea, rfl⟩ (fun s' => typeIs_int s' n tk) noFill_list_mul F.fills_int_mul F.slot_int_rmul repeat_list F.slot_int_index.lookup (call_meets F.slot_int_rmul (typeIs_int s n tk) F.entry_int_rmul (F.args_int_rmul_2 _ _) (int___rmul___int_list n tk a ws.toArray m) ⟨ea, rfl, ⟨_, ea, rfl⟩, call_meets F.slot_list_mul ⟨_, ea, rfl⟩ F.entry_list_mul (F.args_list_mul_2 _ _) (AutoListH.list___mul___list_int_3 a ws.toArray m n tk c2 c1 c3) ⟨ea, ?_⟩⟩)
  rw [made]
  have fits : (List.replicate n.toNat zs).flatten.length ≤ sizeLine := by
    rw [PyProof.Rows.lm_len_rep_flat, Nat.mul_comm]
    exact hz
  exact ⟨.ref _, _, I.lnew (t' := s.toks) (rv.rep n.toNat) fits, rfl, q _ I.fresh (Nat.ne_of_gt I.big)⟩
theorem q_repM {H : Hp} {Q : VK} {a : Addr} {n : Int} {zs : List V} (h1 : H a = some (.lst zs)) (hn : 0 ≤ n) (hn2 : n ≤ 1000) (h : AlM (zs.length * n.toNat) (.lst (List.replicate n.toNat zs).flatten) H fun p H2 => Q (.ref p) H2) : rRepM (.ref a) (.int n) H Q := ⟨a, n, zs, rfl, rfl, h1, hn, hn2, h.1, h.2⟩
section
variable {T : List (Addr × Str)} {p c : Addr} {ns : List Int} {H0 H H' : Hp} {b b' : Int} {ps ps' : List SP} {ms : List (Addr × List V)} {l l0 l' : List (Addr × HO)}
theorem Wd.alRM {xs : List V} (W : Wd T p c ns H0 H b ps ms l) {n : Nat} {K : Addr → Hp → Prop} (k : ∀ a H', a ≠ sysModules → Wd T p c ns H0 H' b ps ((a, xs) :: ms) l → K a H') (hz : n ≤ sizeLine := by exact Nat.le_of_ble_eq_true rfl) : AlM n (.lst xs) H K :=
  ⟨hz, fun a h na => k a _ na (W.newM h)⟩
end
end NB
/-! S16: texts of stays, plainly. -/
namespace NB
open PySem L2 NumText TL
abbrev fig (c : Nat) : Bool := decide (48 ≤ c) && decide (c ≤ 57)
/-- a count that a word writes with so many figures at most -/
def cntB (l : List Nat) (most : Nat) : Bool := !l.isEmpty && (decide (l.length ≤ most) && (l.all fig && (decide (l = [48]) || !decide (l.head? = some 48))))
theorem cntB_is {l : List Nat} {m : Nat} (h : cntB l m = true) : AllDigits l ∧ l ≠ [] ∧ l.length ≤ m ∧ (l = [48] ∨ l.head? ≠ some 48) := by
  unfold cntB at h
  simp only [Bool.and_eq_true, Bool.or_eq_true, Bool.not_eq_true', decide_eq_true_eq, decide_eq_false_iff_not, List.isEmpty_eq_false_iff, List.all_eq_true] at h
  obtain ⟨h1, h2, h3, h4⟩ := h
  refine ⟨fun c hc => ?_, h1, h2, h4⟩
  have := h3 c hc
  simpa using this
theorem val_snoc (l : List Nat) (c : Nat) : digitsVal (l ++ [c]) = digitsVal l * 10 + (c - 48) := by
  unfold digitsVal
  rw [List.foldl_append]
  rfl
theorem val_pos : ∀ {l : List Nat}, AllDigits l → l.head? ≠ some 48 → l ≠ [] → 0 < digitsVal l := by
  intro l
  have key : ∀ (n : Nat) (l : List Nat), l.length = n → AllDigits l → l.head? ≠ some 48 → l ≠ [] → 0 < digitsVal l := by
    intro n
    induction n with
    | zero =>
      intro l hl _ _ ne
      exact absurd (List.length_eq_zero_iff.mp hl) ne
    | succ n ih =>
      intro l hl ha hh ne
      obtain ⟨m, c, rfl⟩ : ∃ m c, l = m ++ [c] := ⟨l.dropLast, l.getLast ne, (List.dropLast_concat_getLast ne).symm⟩
      rw [val_snoc]
      cases m with
      | nil =>
        have hc := ha c (by simp)
        have : c ≠ 48 := fun z => hh (by rw [z]; rfl)
        simp only [List.nil_append] at *
        omega
      | cons d m =>
        have := ih (d :: m) (by simpa using hl) (fun x hx => ha x (List.mem_append_left _ hx)) (by simpa using hh) (by simp)
        omega
  exact key l.length l rfl
/-- what is written in the one way comes back -/
theorem num_val : ∀ {l : List Nat}, AllDigits l → l ≠ [] → (l = [48] ∨ l.head? ≠ some 48) → numL (digitsVal l) = l := by
  have key : ∀ (n : Nat) (l : List Nat), l.length = n → AllDigits l → l ≠ [] → (l = [48] ∨ l.head? ≠ some 48) → numL (digitsVal l) = l := by
    intro n
    induction n with
    | zero =>
      intro l hl _ ne
      exact absurd (List.length_eq_zero_iff.mp hl) ne
    | succ n ih =>
      intro l hl ha ne hh
      obtain ⟨m, c, rfl⟩ : ∃ m c, l = m ++ [c] := ⟨l.dropLast, l.getLast ne, (List.dropLast_concat_getLast ne).symm⟩
      have hc := ha c (by simp)
      rw [val_snoc]
      cases m with
      | nil =>
        have e : digitsVal ([] : List Nat) * 10 + (c - 48) = c - 48 := by
          show 0 * 10 + (c - 48) = c - 48
          omega
        rw [e, numL_lt (by omega)]
        simp only [List.nil_append]
        congr 1
        omega
      | cons d m =>
        have hd : (d :: m).head? ≠ some 48 := by
          rcases hh with hh | hh
          · exfalso
            have := congrArg List.length hh
            simp at this
          · simpa using hh
        have hm : AllDigits (d :: m) := fun x hx => ha x (List.mem_append_left _ hx)
        have p := val_pos hm hd (by simp)
        rw [numL_step (by omega)]
        have e1 : (digitsVal (d :: m) * 10 + (c - 48)) / 10 = digitsVal (d :: m) := by omega
        have e2 : (digitsVal (d :: m) * 10 + (c - 48)) % 10 = c - 48 := by omega
        rw [e1, e2, ih (d :: m) (by simpa using hl) hm (by simp) (.inr hd)]
        congr 2
        omega
  intro l
  exact key l.length l rfl
theorem num_head {n : Nat} : numL n = [48] ∨ (numL n).head? ≠ some 48 := by
  induction n using Nat.strongRecOn with
  | _ n ih =>
    by_cases h : n < 10
    · rw [numL_lt h]
      by_cases z : n = 0
      · left
        rw [z]
      · right
        intro e
        have := Option.some.inj e
        omega
    · right
      rw [numL_step (by omega)]
      rcases ih (n / 10) (by omega) with e | e
      · exfalso
        have v := numL_val (n / 10)
        rw [e] at v
        have : digitsVal [48] = 0 := rfl
        omega
      · intro y
        cases hx : numL (n / 10) with
        | nil => exact numL_ne _ hx
        | cons d m =>
          rw [hx] at y e
          exact e y
theorem cnt_num {n k : Nat} (hk : 0 < k) (h : n < 10 ^ k) : cntB (numL n) k = true := by
  unfold cntB
  simp only [Bool.and_eq_true, Bool.or_eq_true, Bool.not_eq_true', decide_eq_true_eq, decide_eq_false_iff_not, List.isEmpty_eq_false_iff, List.all_eq_true]
  refine ⟨numL_ne n, numL_len hk h, fun c hc => ?_, num_head⟩
  have := numL_digits n c hc
  simpa using this
theorem val_lt {l : List Nat} (h : AllDigits l) : digitsVal l < 10 ^ l.length := by
  have key : ∀ (n : Nat) (l : List Nat), l.length = n → AllDigits l → digitsVal l < 10 ^ n := by
    intro n
    induction n with
    | zero =>
      intro l hl _
      rw [List.length_eq_zero_iff.mp hl]
      decide
    | succ n ih =>
      intro l hl ha
      have ne : l ≠ [] := fun z => by rw [z] at hl; cases hl
      obtain ⟨m, c, rfl⟩ : ∃ m c, l = m ++ [c] := ⟨l.dropLast, l.getLast ne, (List.dropLast_concat_getLast ne).symm⟩
      have hc := ha c (by simp)
      rw [val_snoc, Nat.pow_succ]
      have := ih m (by simpa using hl) (fun x hx => ha x (List.mem_append_left _ hx))
      omega
  exact key l.length l rfl h
end NB
/-! NWx: texts: counts, words, formats of own objects. -/
namespace NB
open PySem L2 ClX NumText TL
def cntOf (l : List Nat) (m : Nat) : Option Int := if cntB l m = true then some (digitsVal l : Int) else none
section
variable {D : Addr} {z : Str} {te : TE} {tt : TT} {vs : List Nat} {σ : SV} {H1 : Hp} {Qd : Hp → Prop} {j : Nat}
/-- [e for sign in z if t] -/
theorem lc_filS (p : Nat → Bool) (F : Nat → V) (hD : H1 D = none) (hn : z.length < sizeLine) (hw : ∀ x, wipe ((wipe σ vs).set j (some x)) vs = wipe σ vs)
    (htt : ∀ c ∈ tl z, ∀ (H' : Hp) (Q : Bool → Hp → Prop), Same H1 H' → Q (p c) H' → tt ((wipe σ vs).set j (some (.str ⟨#[c]⟩))) H' Q)
    (hel : ∀ c ∈ tl z, ∀ (H' : Hp) (Q : VK), Same H1 H' → Q (F c) H' → te ((wipe σ vs).set j (some (.str ⟨#[c]⟩))) H' Q) (hd : Qd (upd H1 D (.lst (((tl z).filter p).map F)))) :
    ∃ W : Nat → Nat → Hp → Prop, (∃ m, W 0 m (upd H1 D (.lst []))) ∧ ∀ i m H, W i m H →
      ((Its z).stop i H ∧ Qd H) ∨ ((Its z).go i H ∧ ∃ Nx : Hp → Prop, (∀ H', Nx H' → ∃ m', m' < m ∧ W (i + 1) m' H') ∧ ∀ x H', (Its z).yld i H x H' → gName j x (wipe σ vs) H' fun σ2 H2 => wipe σ2 vs = wipe σ vs ∧ tt σ2 H2 fun b H3 =>
        if b = true then te σ2 H3 fun y H4 => ∃ acc, H4 D = some (.lst acc) ∧ acc.length < sizeLine ∧ Nx (upd H4 D (.lst (acc ++ [y]))) else Nx H3) := by
  have lz : (tl z).length = z.cps.size := by simp [tl]
  refine ⟨fun i m H => m = z.cps.size - i ∧ i ≤ z.cps.size ∧ H = upd H1 D (.lst ((((tl z).take i).filter p).map F)), ⟨_, rfl, Nat.zero_le _, rfl⟩, ?_⟩
  rintro i m H ⟨rfl, hi, rfl⟩
  by_cases hlt : i < z.cps.size
  · refine .inr ⟨hlt, fun H' => H' = upd H1 D (.lst ((((tl z).take (i + 1)).filter p).map F)), fun H' e => ⟨_, by omega, rfl, hlt, e⟩, ?_⟩
    rintro x H' ⟨rfl, c, hc, rfl⟩
    have hx : (tl z)[i]? = some c := by
      unfold tl
      rw [Array.getElem?_toList]
      exact hc
    have mem := List.mem_of_getElem? hx
    have sD := same_new (o := .lst ((((tl z).take i).filter p).map F)) (Same.refl H1) hD
    refine ⟨hw _, htt c mem _ _ sD ?_⟩
    refine ite2 (fun b => hel c mem _ _ sD ⟨_, upd_same, ?_, ?_⟩) (fun b => ?_)
    · rw [List.length_map]
      have := List.length_filter_le p ((tl z).take i)
      rw [List.length_take] at this
      have e : z.length = z.cps.size := rfl
      omega
    · rw [upd_upd, take_next hx, List.filter_append, List.map_append, List.filter_cons_of_pos (p := p) (a := c) (l := []) b]
      rfl
    · rw [take_next hx, List.filter_append, List.filter_cons_of_neg (p := p) (a := c) (l := []) b, List.filter_nil, List.append_nil]
  · refine .inl ⟨Nat.le_of_not_lt hlt, ?_⟩
    have e : i = (tl z).length := by omega
    rw [e, List.take_length]
    exact hd
end
abbrev FIG : Str := "0123456789"
theorem fig_mem (c : Nat) : decide (c ∈ FIG.cps.toList) = fig c := by
  have e : FIG.cps.toList = [48, 49, 50, 51, 52, 53, 54, 55, 56, 57] := by decide +kernel
  rw [e, Bool.eq_iff_iff]
  simp only [Bool.and_eq_true, decide_eq_true_eq, List.mem_cons, List.not_mem_nil, or_false]
  omega
theorem str_lit {z y : Str} {l : List Nat} (h : tl y = l) : decide (V.str z = V.str y) = decide (tl z = l) := by
  by_cases c : tl z = l
  · rw [decide_eq_true c]
    have : z = y := ext_tl (c.trans h.symm)
    rw [this]
    exact decide_eq_true rfl
  · rw [decide_eq_false c]
    exact decide_eq_false fun e => c (by rw [V.str.inj e]; exact h)
def spCnt : Sp := fun vs H Q _ => ∃ (z : Str) (m : Nat), vs = [.str z, .int m] ∧ z.length ≤ 600 ∧ ∀ H', Same H H' → Q (optV (cntOf (tl z) m)) H'
theorem u65 {k : Nat} {A : Around} (r : Room k A) : A.units + 65 < cLine := by
  have := r.un
  omega
section
open PySem.Spec PyProof.Rows
variable {X : Cx}
/-- x in a tuple, items of any depth -/
def rInDT (K : PySem.W.Frag) : R2 := fun x y H Q => ∃ d ds, Dp K H x d ∧ Dp K H y (.tuple ds) ∧ SeqAt.shaped d = true ∧ SeqAt.shaped (.tuple ds) = true ∧ Q (.bl (ds.any fun z => PyData.eqv z d)) H
theorem op_inDT (hu : X.A.units + 65 < cLine) : OpR X (compareOp .In) (rInDT X.K) := by
  intro pins s σ H x y v u Q I rx ry ⟨d, ds, hd, he, sd, se, q⟩
  obtain ⟨as, r1⟩ := Dp.reads I d x v hd rx
  obtain ⟨bs, r2⟩ := Dp.reads I (.tuple ds) y u he ry
  exact SeqAt.in_tuple_reads r2 r1 (SeqAt.canLay_of_shaped se) (SeqAt.canLay_of_shaped sd) (room_in_shaped sd hu) ⟨.bl _, H, I, rfl, q⟩
/-- the text of an own object within an f-string -/
def tFmtO (C : Addr) (sp : Sp) (E : XK) (te : TE) : TE := fun σ H Q => te σ H fun x H1 => ∃ (a dx : Addr) (fs : List (Str × V)), x = .ref a ∧ H1 a = some (.ins C dx fs) ∧ sp [x] H1 (fun v H' => ∃ z : Str, v = .str z ∧ Q (.str z) H') E
theorem pe_fmtO {CX : CXT} {k : Nat} {C : Addr} {sp : Sp} {E : XK} {e : Expr} {te : TE} {pos : Pos} (M : OwnM X CX k C "__str__" sp) (hr : Room (k + 1) X.A) (hx : Passes CX X E) (hfm : PySem.W.findIn X.K (.ref C) "__format__" = some (some (.builtin "object.__format__"))) (hm : PySem.W.mroIn X.K C (.type "object") = some true) (he : PE X e te) :
    PE X (.FormattedValue e (-1) none pos) (tFmtO C sp E te) := by
  refine ⟨fun pins s σ H Q I h => ?_⟩
  refine wpAny_FormattedValue_plain (thn (he.run pins s σ H _ I h) fun v s1 ⟨x, H1, I1, r1, a, dx, fs, ex, ha, q⟩ => ?_)
  subst ex
  obtain ⟨f, fd, ps, F, hb, hs, hf⟩ := M.ex
  obtain ⟨ox, od, J⟩ := inst_of I1 ha
  cases r1
  have I2 := I1.tok (s1.toks + 1)
  refine PySem.W.kfo_fieldS (by have := hr.units; show X.A.units + 1 < cLine; omega) I1.kIn J hfm hm hs hf (wpAny_mono (run_at F ⟨hr.in1, rfl⟩ hb hx I2 (.cons rel_ref .nil) q) ?_ fun _ _ z => z)
  rintro u s' ⟨y, H', I', ry, z, rfl, qz⟩
  obtain ⟨t, rfl⟩ := ry
  exact ⟨.str z, H', I', ⟨_, rfl⟩, qz⟩
end
end NB
/-! NWy: words of texts of days. -/
namespace NB
open PySem L2 ClX NumText TL
section
variable {K : PySem.W.Frag} {a D : Addr} {xs : List V} {te : TE} {vs : List Nat} {σ : SV} {H1 : Hp} {Qd : Hp → Prop} {j : Nat}
/-- [e for x in xs], e may lay objects -/
theorem lc_mapXL (F : V → V) (hD : H1 D = none) (hsq : H1 a = some (.lst xs)) (hn : xs.length < sizeLine) (hw : ∀ x, wipe ((wipe σ vs).set j (some x)) vs = wipe σ vs)
    (hel : ∀ x ∈ xs, ∀ (H' : Hp) (Q : VK), Same H1 H' → (∀ H'', Same H' H'' → Q (F x) H'') → te ((wipe σ vs).set j (some x)) H' Q) (hd : ∀ H', Same H1 H' → H' D = some (.lst (xs.map F)) → Qd H') :
    ∃ W : Nat → Nat → Hp → Prop, (∃ m, W 0 m (upd H1 D (.lst []))) ∧ ∀ i m H, W i m H →
      ((Itl K a).stop i H ∧ Qd H) ∨ ((Itl K a).go i H ∧ ∃ Nx : Hp → Prop, (∀ H', Nx H' → ∃ m', m' < m ∧ W (i + 1) m' H') ∧ ∀ x H', (Itl K a).yld i H x H' → gName j x (wipe σ vs) H' fun σ2 H2 => wipe σ2 vs = wipe σ vs ∧ tYes σ2 H2 fun b H3 =>
        if b = true then te σ2 H3 fun y H4 => ∃ acc, H4 D = some (.lst acc) ∧ acc.length < sizeLine ∧ Nx (upd H4 D (.lst (acc ++ [y]))) else Nx H3) := by
  refine lc_list (K := K) (a := a) (xs := xs) (fun i H' => Same H1 H' ∧ H' D = some (.lst ((xs.take i).map F))) ⟨same_new (Same.refl _) hD, upd_same⟩ ?_ ?_ ?_
  · rintro i H' _ ⟨s', _⟩
    exact SqL.of (s' _ _ hsq)
  · rintro i x H' hx ⟨s', eD⟩
    refine ⟨hw x, rd_keep (hel x (List.mem_of_getElem? hx) _ _ s' fun H'' s'' => ⟨_, s'' _ _ eD, ?_, ?_, ?_⟩)⟩
    · rw [List.length_map, List.length_take]
      omega
    · exact fun b o e => by
        rw [upd_ne (ne_of_none e hD)]
        exact s'' _ _ (s' _ _ e)
    · rw [upd_same, take_next hx, List.map_append]
      rfl
  · rintro H' ⟨s', eD⟩
    rw [List.take_length] at eD
    exact hd H' s' eD
end
def restOk (p : Int) (w : Str) : Bool := match cntOf (tl w) 1 with | some q => decide (q < p) | none => false
/-- what the words of a text tell -/
def toldS (ws : List Str) : Option (Int × List Int) :=
  if ws = [("every" : Str)] then some (1, [0]) else if ws = [("none" : Str)] then some (1, []) else
  match ws with
  | w0 :: w1 :: w2 :: w3 :: r => if w0 = "by" ∧ w2 = "at" then (match cntOf (tl w1) 1 with | none => none | some p => if (decide (1 ≤ p) && decide (p ≤ 7) && (w3 :: r).all (restOk p)) = true then some (p, (w3 :: r).map fun w => (cntOf (tl w) 1).getD 0) else none) else none
  | _ => none
theorem cnt_lo {l : List Nat} {m : Nat} {q : Int} (h : cntOf l m = some q) : 0 ≤ q := by
  unfold cntOf at h
  split at h
  · cases h
    exact Int.natCast_nonneg _
  · cases h
theorem told_ok {ws : List Str} {p : Int} {rs : List Int} (h : toldS ws = some (p, rs)) : 1 ≤ p ∧ p ≤ 7 ∧ rs.length ≤ ws.length ∧ ∀ r ∈ rs, 0 ≤ r ∧ r < p := by
  unfold toldS at h
  split at h
  · rename_i e
    cases h
    rw [e]
    exact ⟨by decide, by decide, by decide, by decide⟩
  · split at h
    · rename_i e
      cases h
      rw [e]
      exact ⟨by decide, by decide, by decide, by decide⟩
    · split at h
      · rename_i w0 w1 w2 w3 r _ _
        split at h
        · split at h
          · cases h
          · rename_i q _
            split at h
            · rename_i c
              cases h
              simp only [Bool.and_eq_true, decide_eq_true_eq] at c
              refine ⟨c.1.1, c.1.2, by simp, fun z hz => ?_⟩
              obtain ⟨w, hw, rfl⟩ := List.mem_map.mp hz
              have a := List.all_eq_true.mp c.2 w hw
              unfold restOk at a
              cases hc : cntOf (tl w) 1 with
              | none => rw [hc] at a; cases a
              | some y =>
                rw [hc] at a
                exact ⟨cnt_lo hc, of_decide_eq_true a⟩
            · cases h
        · cases h
      · cases h
/-- words that can be compared -/
structure Wds (ws : List Str) : Prop where
  few : ws.length ≤ 1000
  ok : ∀ w ∈ ws, w.length ≤ 600 ∧ PyData.strOk w = true
theorem eqv_strs : ∀ xs ys : List Str, PyData.eqvAll (xs.map PyData.str) (ys.map PyData.str) = decide (xs = ys)
  | [], [] => by simp [PyData.eqvAll]
  | [], y :: ys => by simp [PyData.eqvAll]
  | x :: xs, [] => by simp [PyData.eqvAll]
  | x :: xs, y :: ys => by
    have e : PyData.eqv (.str x) (.str y) = decide (x = y) := by simp [PyData.eqv]; rfl
    rw [List.map_cons, List.map_cons, PyData.eqvAll, eqv_strs xs ys, e, Bool.eq_iff_iff]
    simp
theorem eqv_strL (xs ys : List Str) : PyData.eqv (.list (xs.map PyData.str)) (.list (ys.map PyData.str)) = decide (xs = ys) := by
  rw [PyData.eqv]
  exact eqv_strs xs ys
theorem canLay_strs : ∀ xs : List Str, (∀ w ∈ xs, PyData.strOk w = true) → PyData.canLayAll0 (xs.map PyData.str) = true
  | [], _ => rfl
  | x :: xs, h => by
    show (PyData.strOk x && PyData.canLayAll0 (xs.map PyData.str)) = true
    rw [h x List.mem_cons_self, canLay_strs xs fun w hw => h w (List.mem_cons_of_mem _ hw)]
    rfl
theorem depth_strs : ∀ xs : List Str, PyData.depthAll (xs.map PyData.str) = 0
  | [] => rfl
  | x :: xs => by
    show max (PyData.depth (.str x)) (PyData.depthAll (xs.map PyData.str)) = 0
    rw [depth_strs xs]
    rfl
theorem shaped_strs {xs : List Str} (h : ∀ w ∈ xs, PyData.strOk w = true) : SeqAt.shaped (.list (xs.map PyData.str)) = true := by
  unfold SeqAt.shaped
  have h1 : PyData.canLay0 (.list (xs.map PyData.str)) = true := canLay_strs xs h
  have h2 : PyData.depth (.list (xs.map PyData.str)) = 1 := by
    show PyData.depthAll (xs.map PyData.str) + 1 = 1
    rw [depth_strs]
  rw [h1, h2]
  rfl
theorem dp_strs {K : PySem.W.Frag} {H : Hp} : ∀ xs : List Str, DpAll K H (xs.map V.str) (xs.map PyData.str)
  | [] => .nil
  | x :: xs => .cons (.str x) (dp_strs xs)
def spTd : Sp := fun vs H Q _ => ∃ (a : Addr) (ws : List Str), vs = [.ref a] ∧ H a = some (.lst (ws.map V.str)) ∧ Wds ws ∧ (toldS ws = none → ∀ H', Same H H' → Q .non H') ∧
  ∀ p rs, toldS ws = some (p, rs) → ∀ H' t L, Same H H' → H' t = some (.tup [.int p, .ref L]) → H' L = some (.lst (rs.map V.int)) → Q (.ref t) H'
end NB
/-! NLb: sets of lengths as they stand in the heap; the promises of lengths. -/
namespace NB
open PySem L2 ClX
/-- the numbers below s; the rests of a round -/
def lowI (f : Nat → Bool) (s : Nat) : List Int := (rgN 0 s).filter fun d => f d.toNat
def restI (f : Nat → Bool) (s p : Nat) : List Int := (rgN 0 p).filter fun r => f (r.toNat + p * s)
theorem mem_lowI {f : Nat → Bool} {s : Nat} {k : Int} : k ∈ lowI f s ↔ (0 ≤ k ∧ k < s) ∧ f k.toNat = true := by
  unfold lowI
  rw [List.mem_filter, mem_rgN]
  simp
theorem mem_restI {f : Nat → Bool} {s p : Nat} {k : Int} : k ∈ restI f s p ↔ (0 ≤ k ∧ k < p) ∧ f (k.toNat + p * s) = true := by
  unfold restI
  rw [List.mem_filter, mem_rgN]
  simp
theorem lowI_len (f : Nat → Bool) (s : Nat) : (lowI f s).length ≤ s := Nat.le_trans (List.length_filter_le _ _) (by simp)
theorem restI_len (f : Nat → Bool) (s p : Nat) : (restI f s p).length ≤ p := Nat.le_trans (List.length_filter_le _ _) (by simp)
theorem rgN_sorted (lo : Int) (n : Nat) : (rgN lo n).Pairwise (· < ·) := by
  unfold rgN
  rw [List.pairwise_map]
  exact List.Pairwise.imp (fun h => by omega) List.pairwise_lt_range
theorem lowI_sorted (f : Nat → Bool) (s : Nat) : (lowI f s).Pairwise (· < ·) := (rgN_sorted _ _).filter _
theorem restI_sorted (f : Nat → Bool) (s p : Nat) : (restI f s p).Pairwise (· < ·) := (rgN_sorted _ _).filter _
theorem lowI_at {f : Nat → Bool} {s : Nat} {n : Nat} (h : n < s) : decide ((n : Int) ∈ lowI f s) = f n := by
  rw [Bool.eq_iff_iff, decide_eq_true_eq, mem_lowI]
  exact ⟨fun z => z.2, fun z => ⟨⟨by omega, by omega⟩, z⟩⟩
theorem restI_at {f : Nat → Bool} {s p : Nat} (L : LF f s p) {n : Nat} (h : s ≤ n) : decide ((n : Int) % (p : Int) ∈ restI f s p) = f n := by
  have e : (n : Int) % (p : Int) = ((n % p : Nat) : Int) := (Int.natCast_emod n p).symm
  have m := Nat.mod_lt n L.pos
  have c : f (n % p + p * s) = f n := L.per.cong (by have := Nat.le_mul_of_pos_left s L.pos; omega) h (by rw [Nat.add_mul_mod_self_left, Nat.mod_mod])
  rw [e, Bool.eq_iff_iff, decide_eq_true_eq, mem_restI, Int.toNat_natCast, c]
  exact ⟨fun z => z.2, fun z => ⟨⟨by omega, by omega⟩, z⟩⟩
/-- the form of a set at t -/
def FormL (H : Hp) (t : Addr) (f : Nat → Bool) (s p : Nat) : Prop := ∃ lo re, H t = some (.tup [.int s, .ref lo, .int p, .ref re]) ∧ H lo = some (.tup ((lowI f s).map V.int)) ∧ H re = some (.tup ((restI f s p).map V.int))
theorem FormL.kp {H H' : Hp} {t : Addr} {f : Nat → Bool} {s p : Nat} (h : FormL H t f s p) (k : Kp H H') : FormL H' t f s p := by
  obtain ⟨lo, re, e1, e2, e3⟩ := h
  exact ⟨lo, re, k _ _ e1 (fun _ z => nomatch z) (fun _ z => nomatch z), k _ _ e2 (fun _ z => nomatch z) (fun _ z => nomatch z), k _ _ e3 (fun _ z => nomatch z) (fun _ z => nomatch z)⟩
theorem FormL.keep {H H' : Hp} {t : Addr} {f : Nat → Bool} {s p : Nat} (h : FormL H t f s p) (k : Same H H') : FormL H' t f s p := h.kp (Kp.of k)
def formLD (f : Nat → Bool) (s p : Nat) : PyData := .tuple [.int s, .tuple ((lowI f s).map PyData.int), .int p, .tuple ((restI f s p).map PyData.int)]
theorem FormL.dp {K : PySem.W.Frag} {H : Hp} {t : Addr} {f : Nat → Bool} {s p : Nat} (h : FormL H t f s p) : Dp K H (.ref t) (formLD f s p) := by
  obtain ⟨lo, re, e1, e2, e3⟩ := h
  exact .tup (.inl (.inl e1)) (.cons (.int _) (.cons (.tup (.inl (.inl e2)) (dp_ints _)) (.cons (.int _) (.cons (.tup (.inl (.inl e3)) (dp_ints _)) .nil))))
theorem shaped_formL (f : Nat → Bool) (s p : Nat) : SeqAt.shaped (formLD f s p) = true := by
  unfold SeqAt.shaped formLD
  have h1 : PyData.canLay0 (.tuple [.int s, .tuple ((lowI f s).map PyData.int), .int p, .tuple ((restI f s p).map PyData.int)]) = true := by
    show (PyData.canLay0 (.int s) && (PyData.canLayAll0 ((lowI f s).map PyData.int) && (PyData.canLay0 (.int p) && (PyData.canLayAll0 ((restI f s p).map PyData.int) && true)))) = true
    rw [canLay_ints, canLay_ints]
    rfl
  have h2 : PyData.depth (.tuple [.int s, .tuple ((lowI f s).map PyData.int), .int p, .tuple ((restI f s p).map PyData.int)]) = 2 := by
    show max 0 (max (PyData.depthAll ((lowI f s).map PyData.int) + 1) (max 0 (max (PyData.depthAll ((restI f s p).map PyData.int) + 1) 0))) + 1 = 2
    rw [depth_ints, depth_ints]
    rfl
  rw [h1, h2]
  rfl
theorem eqv_nat (a b : Nat) : PyData.eqv (.int a) (.int b) = decide (a = b) := by
  have e : PyData.eqv (.int (a : Int)) (.int (b : Int)) = decide ((a : Int) = (b : Int)) := by simp [PyData.eqv]; rfl
  rw [e, Bool.eq_iff_iff, decide_eq_true_eq, decide_eq_true_eq]
  exact ⟨fun z => by omega, fun z => by omega⟩
theorem eqv_formL (f g : Nat → Bool) (s p s' p' : Nat) : PyData.eqv (formLD f s p) (formLD g s' p') = decide (s = s' ∧ lowI f s = lowI g s' ∧ p = p' ∧ restI f s p = restI g s' p') := by
  unfold formLD
  rw [PyData.eqv, PyData.eqvAll, PyData.eqvAll, PyData.eqvAll, PyData.eqvAll, PyData.eqvAll, eqv_nat, eqv_nat, PyData.eqv, PyData.eqv, eqv_ints, eqv_ints, Bool.eq_iff_iff]
  simp
/-- equal forms, equal sets -/
theorem form_same {f g : Nat → Bool} {s p s' p' : Nat} (a : LF f s p) (b : LF g s' p') : (s = s' ∧ lowI f s = lowI g s' ∧ p = p' ∧ restI f s p = restI g s' p') ↔ f = g := by
  constructor
  · rintro ⟨rfl, h1, rfl, h2⟩
    refine funext fun n => ?_
    rcases Nat.lt_or_ge n s with c | c
    · rw [← lowI_at (f := f) c, ← lowI_at (f := g) c, h1]
    · rw [← restI_at a c, ← restI_at b c, h2]
  · rintro rfl
    obtain ⟨rfl, rfl⟩ := a.uniq b
    exact ⟨rfl, rfl, rfl, rfl⟩
open Classical in
theorem eqv_sets {f g : Nat → Bool} {s p s' p' : Nat} (a : LF f s p) (b : LF g s' p') : PyData.eqv (formLD f s p) (formLD g s' p') = decide (f = g) := by
  rw [eqv_formL, Bool.eq_iff_iff, decide_eq_true_eq, decide_eq_true_eq]
  exact form_same a b
/-- the set of lengths at a -/
structure IsLen (H : Hp) (C a : Addr) (f : Nat → Bool) : Prop where
  ex : ∃ s p t dx, LF f s p ∧ s + p ≤ 400 ∧ FormL H t f s p ∧ H a = some (.ins C dx [("form", .ref t)])
theorem IsLen.kp {H H' : Hp} {C a : Addr} {f : Nat → Bool} (h : IsLen H C a f) (k : Kp H H') : IsLen H' C a f := by
  obtain ⟨s, p, t, dx, L, b, F, e⟩ := h.ex
  exact ⟨s, p, t, dx, L, b, F.kp k, k _ _ e (fun _ z => nomatch z) (fun _ z => nomatch z)⟩
theorem IsLen.keep {H H' : Hp} {C a : Addr} {f : Nat → Bool} (h : IsLen H C a f) (k : Same H H') : IsLen H' C a f := h.kp (Kp.of k)
theorem IsLen.ob {H : Hp} {C a : Addr} {f : Nat → Bool} (h : IsLen H C a f) : ∃ dx fs, H a = some (.ins C dx fs) := by
  obtain ⟨s, p, t, dx, _, _, _, e⟩ := h.ex
  exact ⟨dx, _, e⟩
/-- what stays: a set of lengths -/
def lnS (C a : Addr) (f : Nat → Bool) : SP := ⟨fun H => IsLen H C a f, fun _ _ k h => h.kp k⟩
/-! ### lists and tuples of values, those of the module among them -/
def FzT (K : PySem.W.Frag) (a : Addr) (xs : List V) : Prop := ∃ (o : Obj) (its : Array Value) (n : Nat), K.lookup a = some o ∧ o.cls = .type "tuple" ∧ o.data = .seq its n ∧ its.size ≤ sizeLine ∧ Vals xs its.toList
def Sq2 (K : PySem.W.Frag) (H : Hp) (a : Addr) (xs : List V) : Prop := H a = some (.lst xs) ∨ H a = some (.tup xs) ∨ FzT K a xs
theorem Sq2.keep {K : PySem.W.Frag} {H H' : Hp} {a : Addr} {xs : List V} (h : Sq2 K H a xs) (s : Same H H') : Sq2 K H' a xs := h.imp (fun h => s _ _ h) (fun h => h.imp (fun h => s _ _ h) id)
theorem FzT.sq {K : PySem.W.Frag} {H : Hp} {a : Addr} {xs : List V} (h : FzT K a xs) : SqT K H a xs := .inr h
theorem FzT.ty {K : PySem.W.Frag} {H : Hp} {a : Addr} {xs : List V} (h : FzT K a xs) : TyX K H (.ref a) (.type "tuple") := by
  obtain ⟨o, its, n, e, c, _⟩ := h
  exact .kTuple e c
/-- integers in a list or a tuple -/
def SeqI (K : PySem.W.Frag) (H : Hp) (v : V) (ns : List Int) : Prop := ∃ a, v = .ref a ∧ Sq2 K H a (ns.map V.int) ∧ ns.length ≤ 1000
theorem SeqI.keep {K : PySem.W.Frag} {H H' : Hp} {v : V} {ns : List Int} (h : SeqI K H v ns) (s : Same H H') : SeqI K H' v ns := by
  obtain ⟨a, e, h, l⟩ := h
  exact ⟨a, e, h.keep s, l⟩
theorem SeqI.inI {K : PySem.W.Frag} {H : Hp} {v : V} {ns : List Int} (h : SeqI K H v ns) {k : Int} {Q : VK} (q : Q (.bl (decide (k ∈ ns))) H) : rIn K false (.int k) v H Q := by
  obtain ⟨a, rfl, h, _⟩ := h
  refine ⟨a, _, rfl, ?_, rfl, flat_ints ns, ?_⟩
  · rcases h with h | h | h
    · exact .inl (SqL.of h)
    · exact .inr (SqT.of h)
    · exact .inr h.sq
  · rw [← in_ints] at q
    exact q
theorem SeqI.niI {K : PySem.W.Frag} {H : Hp} {v : V} {ns : List Int} (h : SeqI K H v ns) {k : Int} {Q : VK} (q : Q (.bl (!decide (k ∈ ns))) H) : rIn K true (.int k) v H Q := by
  obtain ⟨a, rfl, h, _⟩ := h
  refine ⟨a, _, rfl, ?_, rfl, flat_ints ns, ?_⟩
  · rcases h with h | h | h
    · exact .inl (SqL.of h)
    · exact .inr (SqT.of h)
    · exact .inr h.sq
  · rw [← in_ints] at q
    exact q
/-- as are_between tells, of lists, tuples and those of the module -/
def AreL (K : PySem.W.Frag) (H : Hp) (lo hi : Int) (v : V) (r : Bool) : Prop :=
  (∃ (a : Addr) (xs : List V) (b : V → Bool), v = .ref a ∧ Sq2 K H a xs ∧ xs.length < sizeLine ∧ (∀ x ∈ xs, BtwV K H lo hi x (b x)) ∧ r = xs.all b) ∨ (NotSeq K H v ∧ r = false)
theorem AreL.keep {K : PySem.W.Frag} {H H' : Hp} {lo hi : Int} {v : V} {r : Bool} (h : AreL K H lo hi v r) (s : Same H H') : AreL K H' lo hi v r := by
  rcases h with ⟨a, xs, b, e, h, z, hb, hr⟩ | ⟨⟨t, ty, k⟩, hr⟩
  · exact .inl ⟨a, xs, b, e, h.keep s, z, fun x hx => (hb x hx).keep s, hr⟩
  · exact .inr ⟨⟨t, TyX.keep ty s, k⟩, hr⟩
theorem SeqI.are {K : PySem.W.Frag} {H : Hp} {v : V} {ns : List Int} (h : SeqI K H v ns) {lo hi : Int} (hb : ∀ n ∈ ns, lo ≤ n ∧ n ≤ hi) : AreL K H lo hi v true := by
  obtain ⟨a, rfl, h, l⟩ := h
  refine .inl ⟨a, ns.map V.int, fun x => match x with | .int n => decide (lo ≤ n) && decide (n ≤ hi) | _ => false, rfl, h, by rw [List.length_map, sizeLine_eq]; omega, fun x hx => ?_, ?_⟩
  · obtain ⟨n, _, rfl⟩ := List.mem_map.mp hx
    exact .inl ⟨n, rfl, rfl⟩
  · symm
    rw [List.all_map, List.all_eq_true]
    intro n hn
    show (decide (lo ≤ n) && decide (n ≤ hi)) = true
    rw [decide_eq_true (hb n hn).1, decide_eq_true (hb n hn).2]
    rfl
def spAreL (K : PySem.W.Frag) : Sp := fun vs H Q _ => ∃ (v : V) (lo hi : Int) (r : Bool), vs = [v, .int lo, .int hi] ∧ AreL K H lo hi v r ∧ ∀ H', Same H H' → Q (.bl r) H'
def spAscL (K : PySem.W.Frag) : Sp := fun vs H Q _ => ∃ (a : Addr) (ns : List Int), vs = [.ref a] ∧ H a = some (.lst (ns.map V.int)) ∧ ns.length ≤ 1000 ∧ ∀ (H' : Hp) (p : Addr) (ms : List Int), Same H H' → H' p = some (.lst (ms.map V.int)) → ms.Pairwise (· < ·) → (∀ k, k ∈ ms ↔ k ∈ ns) → Q (.ref p) H'
/-! ### the promises -/
def spLs : Sp := fun vs H Q _ => ∃ (a : Addr) (bs : List Bool) (k p : Nat), vs = [.ref a, .int k, .int p] ∧ H a = some (.lst (bs.map V.bl)) ∧ k + p ≤ bs.length ∧ bs.length ≤ 1000 ∧ Q (.int (lsG bs k p)) H
def spFo : Sp := fun vs H Q _ => ∃ (a : Addr) (bs : List Bool) (k : Nat), vs = [.ref a, .int k] ∧ H a = some (.lst (bs.map V.bl)) ∧ k < bs.length ∧ bs.length ≤ 1000 ∧
  ∀ H' t s p, Same H H' → LF (fB bs k) s p → s ≤ k → k + p ≤ bs.length → FormL H' t (fB bs k) s p → Q (.ref t) H'
def spHas : Sp := fun vs H Q _ => ∃ (t : Addr) (f : Nat → Bool) (s p n : Nat), vs = [.ref t, .int n] ∧ FormL H t f s p ∧ LF f s p ∧ Q (.bl (f n)) H
/-- the set that start, low, period, rests tell -/
def telF (s p : Nat) (ns ms : List Int) (n : Nat) : Bool := if n < s then decide ((n : Int) ∈ ns) else decide ((n : Int) % (p : Int) ∈ ms)
theorem telF_per (s p : Nat) (ns ms : List Int) : PerN (telF s p ns ms) s p := fun n hn => by
  unfold telF
  rw [if_neg (by omega), if_neg (by omega), Int.natCast_add, Int.add_emod_right]
section
variable (K : PySem.W.Frag) (H : Hp)
/-- what Lengths(v1, v2, v3, v4) says: the part that is wrong, or a set -/
def LenV (v1 v2 v3 v4 : V) (r : Str ⊕ (Nat → Bool)) : Prop :=
  (BtwV K H 0 400 v1 false ∧ r = .inl "start") ∨ (∃ s : Nat, v1 = .int s ∧ s ≤ 400 ∧
  ((AreL K H 0 ((s : Int) - 1) v2 false ∧ r = .inl "low") ∨ (∃ ns, SeqI K H v2 ns ∧ (∀ n ∈ ns, 0 ≤ n ∧ n < s) ∧
  ((BtwV K H 1 400 v3 false ∧ r = .inl "period") ∨ (∃ p : Nat, v3 = .int p ∧ 1 ≤ p ∧ p ≤ 400 ∧
  ((AreL K H 0 ((p : Int) - 1) v4 false ∧ r = .inl "rests") ∨ (∃ ms, SeqI K H v4 ms ∧ (∀ n ∈ ms, 0 ≤ n ∧ n < p) ∧ r = .inr (telF s p ns ms))))))))
end
theorem LenV.keep {K : PySem.W.Frag} {H H' : Hp} {v1 v2 v3 v4 : V} {r : Str ⊕ (Nat → Bool)} (h : LenV K H v1 v2 v3 v4 r) (s : Same H H') : LenV K H' v1 v2 v3 v4 r := by
  rcases h with ⟨h, e⟩ | ⟨s0, e1, l1, ⟨h, e⟩ | ⟨ns, h1, h2, ⟨h, e⟩ | ⟨p, e2, l2, l3, ⟨h, e⟩ | ⟨ms, h3, h4, e⟩⟩⟩⟩
  · exact .inl ⟨h.keep s, e⟩
  · exact .inr ⟨s0, e1, l1, .inl ⟨h.keep s, e⟩⟩
  · exact .inr ⟨s0, e1, l1, .inr ⟨ns, h1.keep s, h2, .inl ⟨h.keep s, e⟩⟩⟩
  · exact .inr ⟨s0, e1, l1, .inr ⟨ns, h1.keep s, h2, .inr ⟨p, e2, l2, l3, .inl ⟨h.keep s, e⟩⟩⟩⟩
  · exact .inr ⟨s0, e1, l1, .inr ⟨ns, h1.keep s, h2, .inr ⟨p, e2, l2, l3, .inr ⟨ms, h3.keep s, h4, e⟩⟩⟩⟩
/-- the fields of TooMany("lengths", 400) -/
abbrev tmL : List (Str × V) := [("most", .int 400), ("what", .str "lengths")]
def spLI (K : PySem.W.Frag) (B Bm C : Addr) : Sp := fun vs H Q E => ∃ (a dx : Addr) (v1 v2 v3 v4 : V) (r : Str ⊕ (Nat → Bool)), vs = [.ref a, v1, v2, v3, v4] ∧ H a = some (.ins C dx []) ∧ LenV K H v1 v2 v3 v4 r ∧
  (∀ z, r = .inl z → BadFs B [("part", .str z)] E H) ∧ (∀ f, r = .inr f → (∀ s p, LF f s p → 400 < s + p → BadFs Bm tmL E H) ∧ ∀ H', But a H H' → IsLen H' C a f → Q .non H')
/-- the facts of the class -/
structure LnC (K : PySem.W.Frag) (C : Addr) : Prop where
  cl : Cls K C
  n1 : NoAttr K C "form"
section
variable {P : Program} {w : World} {K : PySem.W.Frag} {mg : Str → Option Value} {base : Heap} {B Bm Bc C : Addr}
/-- Lengths(..): what it makes -/
theorem mk_len {H : Hp} {Q : Addr → Hp → Prop} {E : XK} {v1 v2 v3 v4 : V} {r : Str ⊕ (Nat → Bool)} (d : LenV K H v1 v2 v3 v4 r) (h0 : ∀ f, r = .inr f → (∀ s p, LF f s p → 400 < s + p → BadFs Bm tmL E H) ∧ ∀ H' a, Same H H' → IsLen H' C a f → Q a H') (h1 : ∀ z, r = .inl z → BadFs B [("part", .str z)] E H) :
    ∀ x dx, H x = none → H dx = none → dx ≠ x → spLI K B Bm C [.ref x, v1, v2, v3, v4] (upd (upd H dx (.own x)) x (.ins C dx [])) (fun v H2 => v = .non ∧ Q x H2) E := by
  intro x dx hx hdx ne
  have s1 : Same H (upd (upd H dx (.own x)) x (.ins C dx [])) := fun b o e => by
    rw [upd_ne (ne_of_none e hx), upd_ne (ne_of_none e hdx)]
    exact e
  exact ⟨x, dx, v1, v2, v3, v4, r, rfl, upd_same, d.keep s1, fun z e => (h1 z e).keep s1, fun f e => ⟨fun s p L l => ((h0 f e).1 s p L l).keep s1, fun H' b d => ⟨rfl, (h0 f e).2 H' x (fun y o q => b y o (ne_of_none q hx) (s1 y o q)) d⟩⟩⟩
abbrev psL : List Str := ["self", "start", "low", "period", "rests"]
/-- Lengths(..), of the package -/
structure LnD (P : Program) (w : World) (K : PySem.W.Frag) (mg : Str → Option Value) (base : Heap) (B Bm C : Addr) : Prop where
  cls : LnC K C
  mgC : mg "Lengths" = some (.ref C)
  ini : ∃ (fI : Addr) (fd : FuncData) (e1 e2 : Addr) (d1 d2 : List Value), Mk K C fI ∧ FnOk P w K mg base (CX P w) 4 fI fd psL (spLI K B Bm C) ∧ Binds K fd psL [] ∧
    Vals [.ref e1, .int 1, .ref e2] d1 ∧ Binds K fd psL d1 ∧ Vals [.int 1, .ref e2] d2 ∧ Binds K fd psL d2 ∧ FzT K e1 [] ∧ FzT K e2 []
  ca : PySem.W.findIn K (.ref C) "__class__" = some (some (.builtin "object.__class__"))
  cn : PySem.W.specialIn K (.builtin "object.__class__") "__get__" = some (some (.builtin "getset_descriptor.__get__"))
  ct : PySem.W.takesIn K (.builtin "object.__class__") = some true
  cm : PySem.W.mroIn K C (.type "object") = some true
  kc : PySem.W.kitOne K (.ref C) (.ref C) = some true
theorem LnD.ty (S : LnD P w K mg base B Bm C) {H : Hp} {a : Addr} {f : Nat → Bool} (h : IsLen H C a f) : TyX K H (.ref a) (.ref C) := by
  obtain ⟨s, p, t, dx, _, _, _, e⟩ := h.ex
  exact .base (.ins e S.cls.cl S.ca S.cn S.ct S.cm)
end
section
variable {K : PySem.W.Frag} {te : TE} {vs : List Nat} {σ : SV} {H1 : Hp} {Qd : Hp → Prop} {D a : Addr} {xs : List V} {j : Nat}
/-- [e for x in xs] over a tuple that always stands -/
theorem lc_mapF (F : V → V) (hD : H1 D = none) (hsq : ∀ H, SqT K H a xs) (hn : xs.length < sizeLine) (hw : ∀ x, wipe ((wipe σ vs).set j (some x)) vs = wipe σ vs)
    (hel : ∀ x ∈ xs, ∀ (H' : Hp) (Q : VK), Same H1 H' → Q (F x) H' → te ((wipe σ vs).set j (some x)) H' Q) (hd : Qd (upd H1 D (.lst (xs.map F)))) :
    ∃ W : Nat → Nat → Hp → Prop, (∃ m, W 0 m (upd H1 D (.lst []))) ∧ ∀ i m H, W i m H →
      ((Itt K a).stop i H ∧ Qd H) ∨ ((Itt K a).go i H ∧ ∃ Nx : Hp → Prop, (∀ H', Nx H' → ∃ m', m' < m ∧ W (i + 1) m' H') ∧ ∀ x H', (Itt K a).yld i H x H' → gName j x (wipe σ vs) H' fun σ2 H2 => wipe σ2 vs = wipe σ vs ∧ tYes σ2 H2 fun b H3 =>
        if b = true then te σ2 H3 fun y H4 => ∃ acc, H4 D = some (.lst acc) ∧ acc.length < sizeLine ∧ Nx (upd H4 D (.lst (acc ++ [y]))) else Nx H3) := by
  refine lc_tup (K := K) (a := a) (xs := xs) (fun i H' => H' = upd H1 D (.lst ((xs.take i).map F))) rfl ?_ ?_ ?_
  · rintro i H' _ rfl
    exact hsq _
  · rintro i x H' hx rfl
    refine ⟨hw x, rd_keep (hel x (List.mem_of_getElem? hx) _ _ (same_new (Same.refl _) hD) ⟨_, upd_same, ?_, ?_⟩)⟩
    · rw [List.length_map, List.length_take]
      omega
    · rw [upd_upd, take_next hx, List.map_append]
      rfl
  · rintro H' rfl
    rw [List.take_length]
    exact hd
end
/-- start, low, period, rests = form -/
theorem q_form4 {K : PySem.W.Frag} {H : Hp} {t : Addr} {f : Nat → Bool} {s p i j k l n : Nat} {σ : SV} {R : SV → Hp → Prop} (h : FormL H t f s p) (hn : n = 4) (q : ∀ lo re, H lo = some (.tup ((lowI f s).map V.int)) → H re = some (.tup ((restI f s p).map V.int)) →
    R ((((σ.set i (some (.int s))).set j (some (.ref lo))).set k (some (.int p))).set l (some (.ref re))) H) : gTup K n (gCons (gName i) (gCons (gName j) (gCons (gName k) (gCons (gName l) gNil)))) (.ref t) σ H R := by
  subst hn
  obtain ⟨lo, re, e1, e2, e3⟩ := h
  exact ⟨t, _, rfl, .inl (.inl e1), rfl, _, _, rfl, _, _, rfl, _, _, rfl, _, _, rfl, rfl, q lo re e2 e3⟩
theorem q_iR3 {ta : TA} {σ : SV} {H : Hp} {R : It → Hp → Prop} (h : ta σ H fun vs H1 => ∃ (i j c : Int) (n : Nat), vs = [.int i, .int j, .int c] ∧ RgC i j c n ∧ R (Itc i c n) H1) : iRng3 ta σ H R := h
theorem down_rg (k : Nat) (h : k < 2 ^ 60) : RgC (k : Int) 0 (-1) k := by
  have z := RgC.neg (i := (k : Int)) (j := 0) (by omega) (by omega) (by decide) (by decide)
  rw [show ((k : Int) - 0).toNat = k by omega] at z
  exact z
theorem dec_bl {x y : Bool} : decide (V.bl x = V.bl y) = decide (x = y) := by
  cases x <;> cases y <;> rfl
/-- o.form -/
theorem rd_formL {K : PySem.W.Frag} {C : Addr} {σ : SV} {H : Hp} {i : Nat} {a : Addr} {f : Nat → Bool} {Q : VK} (S : LnC K C) (h0 : σ[i]? = some (some (.ref a))) (h : IsLen H C a f) (q : ∀ t s p, LF f s p → s + p ≤ 400 → FormL H t f s p → Q (.ref t) H) : tFld K (tVar i) "form" σ H Q := by
  obtain ⟨s, p, t, dx, L, b, F, e⟩ := h.ex
  exact ⟨_, h0, a, C, dx, _, _, rfl, e, S.cl, S.n1, rfl, q t s p L b F⟩
section
variable {K : PySem.W.Frag} {H : Hp} {t : Addr} {f : Nat → Bool} {s p : Nat} {Q : VK}
theorem q_g0 (h : FormL H t f s p) (q : Q (.int s) H) : rIxT K (.ref t) (.int 0) H Q := by
  obtain ⟨lo, re, e1, _⟩ := h
  exact ⟨t, _, 0, _, rfl, rfl, .inl (.inl e1), rfl, q⟩
theorem q_g1 (h : FormL H t f s p) (q : ∀ lo, H lo = some (.tup ((lowI f s).map V.int)) → Q (.ref lo) H) : rIxT K (.ref t) (.int 1) H Q := by
  obtain ⟨lo, re, e1, e2, _⟩ := h
  exact ⟨t, _, 1, _, rfl, rfl, .inl (.inl e1), rfl, q lo e2⟩
theorem q_g2 (h : FormL H t f s p) (q : Q (.int p) H) : rIxT K (.ref t) (.int 2) H Q := by
  obtain ⟨lo, re, e1, _⟩ := h
  exact ⟨t, _, 2, _, rfl, rfl, .inl (.inl e1), rfl, q⟩
theorem q_g3 (h : FormL H t f s p) (q : ∀ re, H re = some (.tup ((restI f s p).map V.int)) → Q (.ref re) H) : rIxT K (.ref t) (.int 3) H Q := by
  obtain ⟨lo, re, e1, _, e3⟩ := h
  exact ⟨t, _, 3, _, rfl, rfl, .inl (.inl e1), rfl, q re e3⟩
end
theorem ite_var {i j : Nat} {σ : SV} {H : Hp} {Q : VK} {c : Bool} {x y : V} (h1 : σ[i]? = some (some x)) (h2 : σ[j]? = some (some y)) (q : Q (if c = true then x else y) H) : if c = true then tVar i σ H Q else tVar j σ H Q := by
  cases c
  · exact iteF ⟨_, h2, q⟩
  · exact iteT ⟨_, h1, q⟩
theorem shaped_intT (ns : List Int) : SeqAt.shaped (.tuple (ns.map PyData.int)) = true := by
  unfold SeqAt.shaped
  have h1 : PyData.canLay0 (.tuple (ns.map PyData.int)) = true := canLay_ints ns
  have h2 : PyData.depth (.tuple (ns.map PyData.int)) = 1 := by
    show PyData.depthAll (ns.map PyData.int) + 1 = 1
    rw [depth_ints]
  rw [h1, h2]
  rfl
theorem eqv_intT (xs ys : List Int) : PyData.eqv (.tuple (xs.map PyData.int)) (.tuple (ys.map PyData.int)) = decide (xs = ys) := by
  rw [PyData.eqv]
  exact eqv_ints xs ys
theorem int_nat {i : Int} (h : 0 ≤ i) : ∃ n : Nat, i = n := ⟨i.toNat, by omega⟩
theorem btw_of {K : PySem.W.Frag} {H : Hp} {lo hi n : Int} (h1 : lo ≤ n) (h2 : n ≤ hi) : BtwV K H lo hi (.int n) true := .inl ⟨n, rfl, by rw [decide_eq_true h1, decide_eq_true h2]; rfl⟩
/-- the truths of a set up to a round, as the program lays them -/
theorem tru_map (h : Nat → Bool) (n : Nat) : ((rgN 0 n).filter fun _ => true).map (fun d => V.bl (h d.toNat)) = ((List.range n).map h).map V.bl := by
  rw [List.filter_eq_self.mpr (fun _ _ => rfl)]
  unfold rgN
  rw [List.map_map, List.map_map]
  exact List.map_congr_left fun i _ => by show V.bl (h (0 + (i : Int)).toNat) = V.bl (h i); rw [Int.zero_add, Int.toNat_natCast]
theorem telF_form {f : Nat → Bool} {s p : Nat} (L : LF f s p) : telF s p (lowI f s) (restI f s p) = f := funext fun n => by
  unfold telF
  by_cases c : n < s
  · rw [if_pos c, lowI_at c]
  · rw [if_neg c, restI_at L (by omega)]
/-- a member from n on, the least -/
def MemF (f : Nat → Bool) (n : Int) (Q : VK) (H : Hp) : Prop := (∀ m : Nat, n ≤ m → f m = true → (∀ j : Nat, n ≤ j → j < m → f j = false) → Q (.int m) H) ∧ ((∀ j : Nat, n ≤ j → f j = false) → Q .non H)
def spMf : Sp := fun vs H Q _ => ∃ (t : Addr) (f : Nat → Bool) (s p : Nat) (n : Int), vs = [.ref t, .int n] ∧ FormL H t f s p ∧ LF f s p ∧ s ≤ 1000 ∧ p ≤ 1000 ∧ ∀ H', Same H H' → MemF f n Q H'
def spGs : Sp := fun vs H Q _ => ∃ (t u : Addr) (f g : Nat → Bool) (s p s' p' : Nat), vs = [.ref t, .ref u] ∧ FormL H t f s p ∧ FormL H u g s' p' ∧ Q (.int ((max s s' : Nat) : Int)) H
/-- lengths_of(truths, start) -/
def spLo (Bm C : Addr) : Sp := fun vs H Q E => ∃ (a : Addr) (bs : List Bool) (k : Nat), vs = [.ref a, .int k] ∧ H a = some (.lst (bs.map V.bl)) ∧ k < bs.length ∧ bs.length ≤ 400 ∧
  ∀ H' x, Same H H' → IsLen H' C x (fB bs k) → Q (.ref x) H'
/-- two sets joined by a table -/
def spJl (K : PySem.W.Frag) (Bm C : Addr) : Sp := fun vs H Q E => ∃ (f1 f2 tb : Addr) (f g : Nat → Bool) (s p s' p' : Nat) (t : Bool → Bool → Bool), vs = [.ref f1, .ref f2, .ref tb] ∧ FormL H f1 f s p ∧ FormL H f2 g s' p' ∧ LF f s p ∧ LF g s' p' ∧ s + p ≤ 400 ∧ s' + p' ≤ 400 ∧ (∀ H, SqT K H tb (tbV t)) ∧
  (400 < max s s' + Nat.lcm p p' → BadFs Bm tmL E H) ∧ (max s s' + Nat.lcm p p' ≤ 400 → ∀ H' a, Same H H' → IsLen H' C a (fun n => t (f n) (g n)) → Q (.ref a) H')
/-- one op other -/
def spOpL (Bm C : Addr) (t : Bool → Bool → Bool) : Sp := fun vs H Q E => ∃ (a b : Addr) (f g : Nat → Bool), vs = [.ref a, .ref b] ∧ IsLen H C a f ∧ IsLen H C b g ∧
  (∀ s p s' p', LF f s p → LF g s' p' → 400 < max s s' + Nat.lcm p p' → BadFs Bm tmL E H) ∧ ((∀ s p s' p', LF f s p → LF g s' p' → max s s' + Nat.lcm p p' ≤ 400) → ∀ H' x, Same H H' → IsLen H' C x (fun n => t (f n) (g n)) → Q (.ref x) H')
def spInvL (C : Addr) : Sp := fun vs H Q _ => ∃ (a : Addr) (f : Nat → Bool), vs = [.ref a] ∧ IsLen H C a f ∧ ∀ H' x, Same H H' → IsLen H' C x (fun n => !f n) → Q (.ref x) H'
open Classical in
noncomputable def leF (f g : Nat → Bool) : Bool := decide (∀ n, f n = true → g n = true)
open Classical in
noncomputable def eqF (f g : Nat → Bool) : Bool := decide (f = g)
/-- what == says of a value -/
def EqVL (K : PySem.W.Frag) (C : Addr) (H : Hp) (f : Nat → Bool) (v : V) (r : Bool) : Prop :=
  (∃ b g, v = .ref b ∧ IsLen H C b g ∧ r = eqF f g) ∨ (∃ ty, TyX K H v ty ∧ PySem.W.kitOne K ty (.ref C) = some false ∧ r = false)
def spEqL (K : PySem.W.Frag) (C : Addr) : Sp := fun vs H Q _ => ∃ (a : Addr) (f : Nat → Bool) (v : V) (r : Bool), vs = [.ref a, v] ∧ IsLen H C a f ∧ EqVL K C H f v r ∧ Q (.bl r) H
def spInL (K : PySem.W.Frag) (C : Addr) : Sp := fun vs H Q _ => ∃ (a : Addr) (f : Nat → Bool) (v : V), vs = [.ref a, v] ∧ IsLen H C a f ∧ ((∃ d : Int, v = .int d ∧ Q (.bl (decide (0 ≤ d) && f d.toNat)) H) ∨ (NotInt K H v ∧ Q (.bl false) H))
/-- a property that tells something of the form -/
def spPrL (C : Addr) (v : (Nat → Bool) → Nat → Nat → V) : Sp := fun vs H Q _ => ∃ (a : Addr) (f : Nat → Bool), vs = [.ref a] ∧ IsLen H C a f ∧ ∀ s p H', LF f s p → s + p ≤ 400 → Same H H' → Q (v f s p) H'
def spPrT (C : Addr) (xs : (Nat → Bool) → Nat → Nat → List Int) : Sp := fun vs H Q _ => ∃ (a : Addr) (f : Nat → Bool), vs = [.ref a] ∧ IsLen H C a f ∧ ∀ s p r, LF f s p → s + p ≤ 400 → H r = some (.tup ((xs f s p).map V.int)) → Q (.ref r) H
abbrev vStart (_ : Nat → Bool) (s _ : Nat) : V := .int s
abbrev vPeriod (_ : Nat → Bool) (_ p : Nat) : V := .int p
abbrev vFin (f : Nat → Bool) (s p : Nat) : V := .bl (decide (restI f s p = []))
abbrev vGap (f : Nat → Bool) (s p : Nat) : V := if (restI f s p).length = p then .int ((s : Int) - 1) else .non
abbrev vBo (f : Nat → Bool) (s p : Nat) : V := .bl (decide (lowI f s ≠ [] ∨ restI f s p ≠ []))
abbrev xLow (f : Nat → Bool) (s _ : Nat) : List Int := lowI f s
theorem LenV.ok {K : PySem.W.Frag} {H : Hp} {v2 v4 : V} {s p : Nat} {ns ms : List Int} (hs : s ≤ 400) (n1 : SeqI K H v2 ns) (n2 : ∀ n ∈ ns, 0 ≤ n ∧ n < s) (hp : 1 ≤ p) (hp2 : p ≤ 400) (m1 : SeqI K H v4 ms) (m2 : ∀ n ∈ ms, 0 ≤ n ∧ n < p) : LenV K H (.int s) v2 (.int p) v4 (.inr (telF s p ns ms)) :=
  .inr ⟨s, rfl, hs, .inr ⟨ns, n1, n2, .inr ⟨p, rfl, hp, hp2, .inr ⟨ms, m1, m2, rfl⟩⟩⟩⟩
theorem SeqI.lst {K : PySem.W.Frag} {H : Hp} {a : Addr} {ns : List Int} (h : H a = some (.lst (ns.map V.int))) (l : ns.length ≤ 1000) : SeqI K H (.ref a) ns := ⟨a, rfl, .inl h, l⟩
theorem SeqI.tup {K : PySem.W.Frag} {H : Hp} {a : Addr} {ns : List Int} (h : H a = some (.tup (ns.map V.int))) (l : ns.length ≤ 1000) : SeqI K H (.ref a) ns := ⟨a, rfl, .inr (.inl h), l⟩
theorem SeqI.frz {K : PySem.W.Frag} {H : Hp} {a : Addr} (h : FzT K a []) : SeqI K H (.ref a) [] := ⟨a, rfl, .inr (.inr h), Nat.zero_le _⟩
abbrev rInt1 : List V → Hp → VK → Prop := fun xs H Q => (∃ i, xs = [.int i] ∧ Q (.int i) H) ∨ ∃ k, xs = [.bl k] ∧ Q (.int (if k then 1 else 0)) H
theorem strOk_of (s : String) : PyData.strOk (Str.ofString s) = true := by
  rw [Str.ofString_eq_toList]
  unfold PyData.strOk
  rw [List.all_toArray, List.all_eq_true]
  intro x hx
  obtain ⟨c, _, rfl⟩ := List.mem_map.mp hx
  refine decide_eq_true ?_
  rcases c.valid with h | h
  · exact Nat.lt_trans h (by decide)
  · exact h.2
theorem q_par {t : TA} {i j : Nat} {D : Ends} {σ : SV} {H : Hp} (h : t σ H fun vs H1 => ∃ v w, vs = [v, w] ∧ D.nx ((σ.set i (some v)).set j (some w)) H1) : tPar i j t D σ H := h
theorem q_star {K : PySem.W.Frag} {te : TE} {t : TA} {σ : SV} {H : Hp} {Q : List V → Hp → Prop} (h : te σ H fun x H1 => ∃ p xs, x = V.ref p ∧ (SqT K H1 p xs ∨ SqL K H1 p xs) ∧ t σ H1 fun ys H2 => Q (xs ++ ys) H2) : StX.tStar K te t σ H Q := h
theorem q_makeD {C : Addr} {sp : Sp} {dvs : List V} {E : XK} {t : TA} {σ : SV} {H : Hp} {Q : VK} (h : t σ H fun vs H1 => ∀ x dx, H1 x = none → H1 dx = none → dx ≠ x → sp (.ref x :: (vs ++ dvs)) (upd (upd H1 dx (.own x)) x (.ins C dx [])) (fun v H2 => v = .non ∧ Q (.ref x) H2) E) : tMake C sp dvs E t σ H Q := h
def spLst (C : Addr) : Sp := fun vs H Q _ => ∃ (a : Addr) (f : Nat → Bool), vs = [.ref a] ∧ IsLen H C a f ∧ ∀ H', Same H H' → MemF f 0 Q H'
/-- the text of a set -/
def lenWords (f : Nat → Bool) (s p : Nat) : List Str := (lowI f s).map (fun (n : Int) => Str.ofString (toString n)) ++ (if restI f s p = [] then [] else [Str.ofString "from", Str.ofString (toString (s : Int)), Str.ofString "by", Str.ofString (toString (p : Int)), Str.ofString "at"] ++ (restI f s p).map (fun (n : Int) => Str.ofString (toString n)))
def lenTxt (f : Nat → Bool) (s p : Nat) : Str := if lenWords f s p = [] then Str.ofString "none" else Txt.join " " (lenWords f s p)
def spStrL (C : Addr) : Sp := fun vs H Q _ => ∃ (a : Addr) (f : Nat → Bool), vs = [.ref a] ∧ IsLen H C a f ∧ ∀ s p H', LF f s p → s + p ≤ 400 → Same H H' → Q (.str (lenTxt f s p)) H'
end NB
/-! NLm: max(xs, default=d), xs a list of integers. -/
namespace L2
open PySem PySem.Spec PyProof.Rows
theorem cmpIn_ints_gt {prog : Program} {w : World} {A : Around} {H : Heap} {P : Nat → Value → Prop} (val : Nat → Int) (hval : ∀ i v, P i v → ∃ t, v = .int (val i) t) :
    CmpIn prog w A .Gt H P (fun i j => decide (val i > val j)) := fun i j vi vj s Q E _ hi hj h => by
  obtain ⟨t, rfl⟩ := hval i vi hi
  obtain ⟨u, rfl⟩ := hval j vj hj
  exact richCompare_gives (op := .Gt) (typeIs_int s _ t) (typeIs_int s _ u) F.slot_int_gt F.entry_int_gt (F.args_int_gt_2 _ _) (gives_int_gt _ _ t u) (fun x => nomatch x) h
def rMaxD (K : PySem.W.Frag) : List V → List V → Hp → VK → Prop := fun vs zs H Q => ∃ (a : Addr) (ns : List Int) (d : V), vs = [V.ref a] ∧ zs = [d] ∧ SqL K H a (ns.map V.int) ∧ (ns = [] → Q d H) ∧ (ns ≠ [] → ∀ m, m ∈ ns → (∀ y, y ∈ ns → y ≤ m) → Q (.int m) H)
section
variable {X : Cx}
theorem cr_maxDf (hc : X.calm = true) : CallRK X (.builtin "max") [Str.ofString "default"] (rMaxD X.K) := by
  intro pins s σ H vs zs us ws Q I r rz h
  obtain ⟨a, ns, d, rfl, rfl, hs, q0, q1⟩ := h
  obtain ⟨its, rv, hl, _⟩ := I.list hs
  obtain rfl := Vals.ref1 r
  obtain ⟨w1, rfl, e1⟩ := vals1 rz
  have hi := rv.ints
  have hls := hl.isList
  obtain ⟨xs, e⟩ := hi.allInts.items
  have hn : numsOf (intItems xs).toList = ns := by rw [← e]; exact hi.numsOf
  rw [nums_intItems] at hn
  subst hn
  rw [e] at hls
  refine call_max_walkD (PySem.W.iter_listW (A := X.A.in1) (I.ok.hd hc) hls fun s₂ e2 W st hfp hw hk => ?_)
  refine ⟨_, _, _, _, _, _, _, s.heap, (fun i j => decide (numAt xs i > numAt xs j)), rfl, W, st, hfp, hw, hk, fun hz s' m => ?_, fun hp => ⟨cmpIn_ints_gt (numAt xs) (fun _ _ => intItems_at), fun v s' hP m => ?_⟩⟩
  · obtain ⟨h', tk, rfl, hk'⟩ := PySem.W.moved_old e2 rfl m
    refine ⟨d, H, I.kept hk', e1, q0 ?_⟩
    have hz' : xs.size = 0 := by simpa [intItems] using hz
    have : xs.toList = [] := List.eq_nil_of_length_eq_zero (by simpa using hz')
    rw [this]
    rfl
  · obtain ⟨h', tk, rfl, hk'⟩ := PySem.W.moved_old e2 rfl m
    have hp' : 0 < xs.size := by simpa [intItems] using hp
    have hs2 : (intItems xs).size = xs.size := by simp [intItems]
    rw [hs2] at hP
    obtain ⟨t, rfl⟩ := intItems_at hP
    obtain ⟨h1, h2⟩ := argBest_gt (numAt xs) (xs.size - 1)
    refine ⟨.int _, H, I.kept hk', ⟨_, rfl⟩, q1 ?_ _ ?_ fun b hb => ?_⟩
    · intro z
      have := congrArg List.length z
      rw [List.length_map, Array.length_toList] at this
      simp at this
      rw [this] at hp'
      exact absurd hp' (by decide)
    · rw [numAt_eq]; exact PySem.getD_mem (by rw [List.length_map, Array.length_toList]; omega)
    · obtain ⟨j, hj, rfl⟩ := mem_getD hb
      rw [List.length_map, Array.length_toList] at hj
      rw [← numAt_eq]; exact h2 j (by omega)
end
end L2
/-! NLc: more promises of lengths: sets of numbers, steps, counts. -/
namespace NB
open PySem L2 ClX
/-- need_number(value) -/
def spNn (K : PySem.W.Frag) (Bc : Addr) : Sp := fun vs H Q E => ∃ (v : V) (b : Bool), vs = [v] ∧ BtwV K H 0 399 v b ∧ (b = true → Q .non H) ∧ (b = false → BadFs Bc [("value", v)] E H)
/-- need_from_zero(value): what it says of a value -/
def FromZ (K : PySem.W.Frag) (H : Hp) (v : V) (b : Bool) : Prop := (∃ n : Int, v = .int n ∧ b = decide (0 ≤ n)) ∨ (NotInt K H v ∧ b = false)
def spNz (K : PySem.W.Frag) (Bc : Addr) : Sp := fun vs H Q E => ∃ (v : V) (b : Bool), vs = [v] ∧ FromZ K H v b ∧ (b = true → Q .non H) ∧ (b = false → BadFs Bc [("value", v)] E H)
/-- of(*numbers): a set, or the first value that is no number -/
def OfV (K : PySem.W.Frag) (H : Hp) (xs : List V) (r : V ⊕ (Nat → Bool)) : Prop :=
  (∃ ns : List Int, xs = ns.map V.int ∧ (∀ n ∈ ns, 0 ≤ n ∧ n ≤ 399) ∧ r = .inr (fun n => decide ((n : Int) ∈ ns))) ∨
  (∃ (ns : List Int) (v : V) (rest : List V), xs = ns.map V.int ++ v :: rest ∧ (∀ n ∈ ns, 0 ≤ n ∧ n ≤ 399) ∧ BtwV K H 0 399 v false ∧ r = .inl v)
theorem OfV.keep {K : PySem.W.Frag} {H H' : Hp} {xs : List V} {r : V ⊕ (Nat → Bool)} (h : OfV K H xs r) (s : Same H H') : OfV K H' xs r := by
  rcases h with h | ⟨ns, v, rest, e, h1, h2, e2⟩
  · exact .inl h
  · exact .inr ⟨ns, v, rest, e, h1, h2.keep s, e2⟩
def spOf1 (K : PySem.W.Frag) (Bc Bm C : Addr) : Sp := fun vs H Q E => ∃ (t : Addr) (xs : List V) (r : V ⊕ (Nat → Bool)), vs = [.ref t] ∧ H t = some (.tup xs) ∧ xs.length ≤ 1000 ∧ OfV K H xs r ∧ (∀ v, r = .inl v → BadFs Bc [("value", v)] E H) ∧
  (∀ f, r = .inr f → (∀ s p, LF f s p → 400 < s + p → BadFs Bm tmL E H) ∧ ∀ H' a, Same H H' → IsLen H' C a f → Q (.ref a) H')
def spOfL (K : PySem.W.Frag) (Bc Bm C : Addr) : Sp := fun vs H Q E => ∃ (ws rest : List V), vs = ws ++ rest ∧ ws.length = ([] : List Str).length ∧ rest.length ≤ sizeLine ∧ ∀ p, H p = none → spOf1 K Bc Bm C (ws ++ [V.ref p]) (upd H p (.tup rest)) Q E
/-- since(least) -/
def spSi (K : PySem.W.Frag) (Bc C : Addr) : Sp := fun vs H Q E => ∃ (v : V) (b : Bool), vs = [v] ∧ BtwV K H 0 399 v b ∧ (b = false → BadFs Bc [("value", v)] E H) ∧ (∀ n : Nat, b = true → v = .int n → ∀ H' a, Same H H' → IsLen H' C a (fun m => decide (n ≤ m)) → Q (.ref a) H')
/-- steps(first, by) -/
def stepF (n b m : Nat) : Bool := decide (n ≤ m) && decide ((m - n) % b = 0)
def spSt (K : PySem.W.Frag) (Bc C : Addr) : Sp := fun vs H Q E => ∃ (v u : V) (b c : Bool), vs = [v, u] ∧ BtwV K H 0 399 v b ∧ BtwV K H 1 400 u c ∧ (b = false → BadFs Bc [("value", v)] E H) ∧ (b = true → c = false → BadFs Bc [("value", u)] E H) ∧
  (∀ n k : Nat, b = true → c = true → v = .int n → u = .int k → ∀ H' a, Same H H' → IsLen H' C a (stepF n k) → Q (.ref a) H')
/-- every(), none() -/
def spCo (C : Addr) (f : Nat → Bool) : Sp := fun vs H Q _ => vs = [] ∧ ∀ H' a, Same H H' → IsLen H' C a f → Q (.ref a) H'
/-- a set that is told by a start, numbers, a period, rests, if it fits -/
theorem telF_top {s p s' p' : Nat} {ns ms : List Int} (hp : 1 ≤ p) (L : LF (telF s p ns ms) s' p') : s' ≤ s ∧ p' ≤ p := by
  obtain ⟨h1, h2⟩ := L.least hp (telF_per s p ns ms)
  exact ⟨h1, Nat.le_of_dvd hp h2⟩
theorem telF_nil (s p : Nat) (ns : List Int) (h : ∀ n ∈ ns, n < s) : telF s p ns [] = fun n : Nat => decide ((n : Int) ∈ ns) := funext fun n => by
  unfold telF
  by_cases c : n < s
  · rw [if_pos c]
  · rw [if_neg c, decide_eq_false (show ¬ (n : Int) ∈ ns from fun z => by have := h _ z; omega)]
    exact decide_eq_false (fun z => nomatch z)
theorem telF_since (n : Nat) : telF n 1 [] [0] = fun m : Nat => decide (n ≤ m) := funext fun m => by
  unfold telF
  by_cases c : m < n
  · rw [if_pos c, decide_eq_false (show ¬ n ≤ m by omega)]
    simp
  · rw [if_neg c, decide_eq_true (show n ≤ m by omega), decide_eq_true (by rw [show (m : Int) % ((1 : Nat) : Int) = 0 by omega]; exact List.mem_singleton.mpr rfl)]
theorem telF_steps (n b : Nat) (hb : 1 ≤ b) : telF n b [] [(n : Int) % (b : Int)] = stepF n b := funext fun m => by
  unfold telF stepF
  by_cases c : m < n
  · rw [if_pos c, decide_eq_false (show ¬ n ≤ m by omega)]
    simp
  · rw [if_neg c, decide_eq_true (show n ≤ m by omega), Bool.true_and, Bool.eq_iff_iff, decide_eq_true_eq, decide_eq_true_eq, List.mem_singleton, ← Int.natCast_emod, ← Int.natCast_emod]
    constructor
    · intro e
      exact Nat.sub_mod_eq_zero_of_mod_eq (by omega)
    · intro e
      have d := Nat.dvd_of_mod_eq_zero e
      obtain ⟨k, hk⟩ := d
      rw [show m = n + b * k by omega, Nat.add_mul_mod_self_left]
theorem steps_fit {n m s p : Nat} (hm : 1 ≤ m) (hn : n ≤ 399 ∧ m ≤ 400) (L : LF (stepF n m) s p) : s + p ≤ 400 := by
  have h : PerN (stepF n m) (n + 1 - m) m := fun k hk => by
    unfold stepF
    by_cases c : n ≤ k
    · rw [decide_eq_true c, decide_eq_true (show n ≤ k + m by omega), show k + m - n = k - n + m by omega, Nat.add_mod_right]
    · rw [decide_eq_false c, decide_eq_true (show n ≤ k + m by omega), Nat.mod_eq_of_lt (show k + m - n < m by omega), decide_eq_false (show ¬ k + m - n = 0 by omega)]
      rfl
  obtain ⟨h1, h2⟩ := L.least hm h
  have := Nat.le_of_dvd hm h2
  omega
theorem bnot_inj {a b : Bool} (h : (!a) = !b) : a = b := by
  cases a <;> cases b <;> first | rfl | cases h
theorem LF.not {f : Nat → Bool} {s p : Nat} (L : LF f s p) : LF (fun n => !f n) s p := by
  refine ⟨L.pos, fun n hn => ?_, fun q q1 hq => L.minp q q1 fun n hn => bnot_inj (hq n hn), L.mins.imp id fun z y => z (bnot_inj y)⟩
  show (!f (n + p)) = !f n
  rw [L.per n hn]
theorem BtwV.num {K : PySem.W.Frag} {H : Hp} {lo hi : Int} {v : V} (h : BtwV K H lo hi v true) : ∃ n, v = .int n ∧ lo ≤ n ∧ n ≤ hi := by
  rcases h with ⟨n, rfl, e⟩ | ⟨_, e⟩
  · have e := e.symm
    rw [Bool.and_eq_true, decide_eq_true_eq, decide_eq_true_eq] at e
    exact ⟨n, rfl, e.1, e.2⟩
  · cases e
/-- a def that may raise, by its name -/
structure DefOfX (P : Program) (w : World) (K : PySem.W.Frag) (mg : Str → Option Value) (base : Heap) (x : Str) (k : Nat) (ps : List Str) (sp : Sp) : Prop where
  ex : ∃ (f : Addr) (fd : FuncData), FnOk P w K mg base (CX P w) k f fd ps sp ∧ mg x = some (.ref f) ∧ PySem.W.keepIn K (.ref f) = true ∧ Binds K fd ps []
theorem LFx (f : Nat → Bool) {s p : Nat} (hp : 1 ≤ p) (h : PerN f s p) : ∃ s' p', LF f s' p' ∧ s' ≤ s ∧ p' ≤ p := by
  have e : fB ((List.range (s + p)).map f) s = f := funext fun n => fB_of hp h n
  have L := fB_LF (bs := (List.range (s + p)).map f) (k := s) (by rw [List.length_map, List.length_range]; omega)
  rw [e] at L
  obtain ⟨h1, h2⟩ := L.least hp h
  exact ⟨_, _, L, h1, Nat.le_of_dvd hp h2⟩
theorem bind_star0 {B : List Value → Sem (List (Str × Value))} {pv : Str} (h0 : B [] = (newTuple [] >>= fun t => pure [(pv, t)])) (h1 : ∀ r rs, B (r :: rs) = (newTuple (r :: rs) >>= fun t => pure [(pv, t)])) :
    ∀ us rest : List Value, us.length = ([] : List Str).length → B (us ++ rest) = (newTuple rest >>= fun t => pure (([] : List Str).zip us ++ [(pv, t)]))
  | [], [], _ => h0
  | [], r :: rs, _ => h1 r rs
theorem q_kw {r : List V → List V → Hp → VK → Prop} {t tk : TA} {σ : SV} {H : Hp} {Q : VK} (h : t σ H fun vs H1 => tk σ H1 fun zs H2 => r vs zs H2 Q) : tCKw r t tk σ H Q := h
end NB
/-! NSi: for x in o, [.. for x in o] by own __iter__, no mark needed: the promise holds of every base. -/
namespace NB
open PySem PySem.Spec PyProof.Rows L2 ItX
/-- the same heap, with places that are free behind it -/
def padH (b : Heap) (n : Nat) : Heap := { b with objs := b.objs ++ Array.replicate n { cls := .none, data := .freed } }
theorem padH_get (b : Heap) (n : Nat) (a : Addr) : (padH b n).get? a = b.get? a := by
  unfold padH Heap.get?
  show (match (b.objs ++ Array.replicate n { cls := .none, data := .freed })[a]? with | some ⟨_, _, .freed, _⟩ => none | o => o) = _
  by_cases z : a < b.objs.size
  · rw [Array.getElem?_append_left z]
    rfl
  · rw [Array.getElem?_append_right (Nat.le_of_not_lt z), Array.getElem?_eq_none (xs := b.objs) (Nat.le_of_not_lt z), Array.getElem?_replicate]
    by_cases y : a - b.objs.size < n
    · rw [if_pos y]; try rfl
    · rw [if_neg y]; try rfl
theorem padH_size (b : Heap) (n : Nat) : (padH b n).objs.size = b.objs.size + n := by
  unfold padH
  rw [Array.size_append, Array.size_replicate]
theorem frames_pad {h b : Heap} {n : Nat} : ∀ {l : List Env}, h.FunFrames b l → h.FunFrames (padH b n) l
  | [], _ => trivial
  | env :: rest, ⟨k, ⟨L, o, e1, e2, e3⟩, r⟩ => ⟨k, ⟨L, o, e1, by rw [padH_get]; exact e2, e3⟩, frames_pad r⟩
theorem env_pad {P : Program} {w : World} {K : PySem.W.Frag} {mg : Str → Option Value} {base : Heap} {A : Around} {outer : List Env} {s : Shared} {H : Hp} (e : Env0 P w K mg base A outer s H) : Env0 P w K mg (padH base (s.heap.objs.size - base.objs.size)) A outer s H := by
  have g : ∀ b o, base.get? b = some o → (padH base (s.heap.objs.size - base.objs.size)).get? b = some o := fun b o z => by rw [padH_get]; exact z
  refine ⟨e.frames, ⟨fun a o z => g _ _ (e.mod.kin a o z), e.mod.glob.keeps g, ?_, ?_⟩, fun b o z => e.bs b o (by rw [padH_get] at z; exact z), ?_, frames_pad e.funs, e.frf, e.hok, e.bare⟩
  · obtain ⟨mb, n, q⟩ := e.mod.blt
    exact ⟨mb, n.keeps g, q⟩
  · obtain ⟨mc, n, q⟩ := e.mod.nolimit
    exact ⟨mc, n.keeps g, q⟩
  · rw [padH_size]
    have := e.bsz
    omega
/-- an own method whose promise knows how much stood ahead of the call -/
structure OwnMB (P : Program) (w : World) (K : PySem.W.Frag) (mg : Str → Option Value) (k : Nat) (C : Addr) (m : Str) (sp : Nat → Sp) : Prop where
  ex : ∃ (f : Addr) (fd : FuncData) (ps : List Str), (∀ base, FnOk P w K mg base CX0 k f fd ps (sp base.objs.size)) ∧ Binds K fd ps [] ∧ PySem.W.findIn K (.ref C) m = some (some (.ref f)) ∧ PySem.W.isFn K (.ref f) = true
section
variable {X : Cx} {k : Nat} {C : Addr} {spI : Nat → Sp}
/-- iter(t), t a tuple: the iterator lies behind all that stood ahead of the call -/
def rIterB (K : PySem.W.Frag) (n : Nat) : List V → Hp → VK → Prop := fun xs H Q => ∃ (t : Addr) (zs : List V), xs = [.ref t] ∧ SqT K H t zs ∧ ∀ it, H it = none → n ≤ it → Q (.ref it) (upd H it (TItO t it))
theorem call_iterB : CallR X (.builtin "iter") (rIterB X.K X.base.objs.size) := by
  intro pins s σ H xs us Q I r h
  obtain ⟨l, zs, rfl, hq, q⟩ := h
  obtain rfl := Vals.ref1 r
  obtain ⟨its, rv, ht, hz⟩ := I.tuple hq
  refine Calls.call_function_entry (by decide +kernel) (by decide +kernel) PySem.W.kdk_entry_iter (PySem.W.kdk_args_iter _) ?_
  unfold Builtin.«iter»
  refine wpAny_bind (m := someArgs "iter" 1 2 _) (wpAny_of_eq (a := [Value.ref l]) (by first | rfl | kernel_rfl!) ?_)
  show wpAny _ _ (pyIter (.ref l) >>= _) _ _ _
  refine wpAny_bind (wpAny_pyIter_tuple (tup_of ht) ?_)
  refine wpAny_pure ⟨_, rfl, ?_⟩
  exact ⟨.ref s.heap.objs.size, _, I.laid (t' := s.toks) (fun b u e => Heap.get?_push_of_some _ e) (Nat.le_refl _) (tItO_ok ⟨_, Heap.get?_push_size _ rfl, rfl, rfl⟩), rfl, q _ (I.hok.fresh (Nat.le_refl _)) (Nat.le_trans I.ok.bsz I.sz)⟩
def iOwnB (K : PySem.W.Frag) (C : Addr) (spI : Nat → Sp) (te : TE) : TI := fun σ H R => te σ H fun x H1 => ∃ (a dx t : Addr) (fs : List (Str × V)) (zs : List V), x = .ref a ∧ H1 a = some (.ins C dx fs) ∧ H1 t = some (.tup zs) ∧
  (∀ n, spI n [.ref a] H1 (fun v H2 => ∃ it, v = .ref it ∧ H1 it = none ∧ n ≤ it ∧ H2 = upd H1 it (TItO t it)) E0) ∧ R (Itt K t) H1
theorem pi_ownB {e tg : Expr} {te : TE} (he : PE X e te) (MI : OwnMB X.prog X.w X.K X.mg k C "__iter__" spI) (hr : Room k X.A) : PI X tg e (iOwnB X.K C spI te) := by
  refine ⟨fun pins s σ H R I h => ?_⟩
  refine thn (he.run pins s σ H _ I h) fun v s1 ⟨x, H1, I1, r1, q1⟩ => ?_
  obtain ⟨a, dx, t, fs, zs, rfl, ha, ht, hsp, q⟩ := q1
  cases r1
  obtain ⟨ox, od, J⟩ := inst_of I1 ha
  obtain ⟨m0, hF⟩ := I1.fr
  obtain ⟨fI, fdI, psI, FI, bI, sI, iI⟩ := MI.ex
  refine PySem.W.owit_iter hF I1.ok.mod.kin J sI iI ?_
  have env := env_pad I1.env0
  have bz : (padH X.base (s1.heap.objs.size - X.base.objs.size)).objs.size = s1.heap.objs.size := by
    rw [padH_size]
    have := I1.env0.bsz
    omega
  have FI := FI (padH X.base (s1.heap.objs.size - X.base.objs.size))
  have hsp := hsp (padH X.base (s1.heap.objs.size - X.base.objs.size)).objs.size
  have hl := FI.len _ _ _ _ hsp
  have bd := bI s1 [.ref a] I1.kIn (by simpa using hl)
  rw [List.append_nil] at bd
  refine wpAny_call (codeAny_mono (FI.run X.A X.stack s1 H1 ⟨[.ref a], []⟩ [.ref a] [.ref a] _ E0 hr env bd (.cons rel_ref .nil) hsp) fun r s' hq' => ?_)
  match r, hq' with
  | .ok (.ret u), ⟨v, H2, os, bare, un, hok, rv, it, ev, nit, lit, eH⟩ =>
    subst ev
    obtain rfl : u = Value.ref it := rv
    rw [bz] at lit
    have lit : X.s_0.heap.objs.size ≤ it := Nat.le_trans I1.sz lit
    subst eH
    obtain ⟨_, _, I2, _, _, e4⟩ := I1.after (Q := fun v2 H3 => v2 = .ref it ∧ H3 = upd H1 it (TItO t it)) ⟨.ref it, _, os, bare, un, hok, rel_ref, rfl, rfl⟩
    rw [e4] at I2
    have eIt : upd H1 it (TItO t it) it = some (TItO t it) := upd_same
    have hti : s'.heap.IsTupleIter it t 0 := (I2.hok it _ eIt).1
    have hD : dropH (upd H1 it (TItO t it)) it = H1 := dropH_upd nit
    have J6 := inv_drop I2 eIt
    have fp := inv_fp I2 eIt lit
    rw [hD] at J6 fp
    unfold PySem.W.OwitIt
    refine wpAny_specialOf hti.typeIs F.slot_tuple_iterator_next.lookup ?_
    refine ⟨it, [it], _, _, H1, rfl, J6, turn_tuple t it, hti, fun b hb => ?_, q⟩
    have e : b = it := by simpa using hb
    rw [e]
    exact fp
end
end NB
/-! NSa: stays: the words of their promises (from k15's texts, printed by gSt.py). -/
namespace NB
open PySem L2 ClX
/-- the last day -/
abbrev MD : Int := 999999999999
abbrev dayB (n : Int) : Bool := decide (-MD ≤ n) && decide (n ≤ MD)
def spDay (K : PySem.W.Frag) : Sp := fun vs H Q _ => ∃ (v : V), vs = [v] ∧ ((∃ n, v = .int n ∧ Q (.bl (dayB n)) H) ∨ (NotInt K H v ∧ Q (.bl false) H))
/-- what makes a stay -/
structure StayOk (f t : Int) : Prop where
  d1 : dayB f = true
  d2 : dayB t = true
  lt : f < t
  le : t ≤ f + 400
/-- the stay at a -/
structure IsStay (H : Hp) (C a : Addr) (f t : Int) : Prop where
  ex : ∃ dx n, H a = some (.ins C dx [("first", .int f), ("after", .int t), ("nights", .ref n)]) ∧ H n = some (.tup (rgV f t))
  ok : StayOk f t
theorem IsStay.keep {H H' : Hp} {C a : Addr} {f t : Int} (h : IsStay H C a f t) (s : Same H H') : IsStay H' C a f t := by
  obtain ⟨⟨dx, n, e1, e2⟩, ok⟩ := h
  exact ⟨⟨dx, n, s _ _ e1, s _ _ e2⟩, ok⟩
/-- the facts of the class Stay -/
structure StC (K : PySem.W.Frag) (C : Addr) : Prop where
  cl : Cls K C
  n1 : NoAttr K C "first"
  n2 : NoAttr K C "after"
  n3 : NoAttr K C "nights"
section
variable {P : Program} {w : World} {K : PySem.W.Frag} {mg : Str → Option Value} {base : Heap} {B C : Addr}
def DayV (K : PySem.W.Frag) (H : Hp) (v : V) (b : Bool) : Prop := (∃ n, v = .int n ∧ b = dayB n) ∨ (NotInt K H v ∧ b = false)
theorem DayV.sp {H : Hp} {v : V} {b : Bool} {Q : VK} {E : XK} (d : DayV K H v b) (q : Q (.bl b) H) : spDay K [v] H Q E := by
  rcases d with ⟨n, rfl, rfl⟩ | ⟨n, rfl⟩
  · exact ⟨_, rfl, .inl ⟨n, rfl, q⟩⟩
  · exact ⟨_, rfl, .inr ⟨n, q⟩⟩
theorem rd_day {σ : SV} {H : Hp} {i : Nat} {v : V} {b : Bool} {QB : Bool → Hp → Prop} (h0 : σ[i]? = some (some v)) (d : DayV K H v b) (q : QB b H) : tB (tCall (spDay K) [] E0 (tCons (tVar i) tNil)) σ H QB :=
  ⟨v, h0, (d.sp (E := E0) ⟨b, rfl, q⟩ : spDay K [v] H (fun x H1 => ∃ c, x = V.bl c ∧ QB c H1) E0)⟩
def spSInit (K : PySem.W.Frag) (B C : Addr) : Sp := fun vs H Q E => ∃ (a dx : Addr) (v u : V), vs = [.ref a, v, u] ∧ H a = some (.ins C dx []) ∧
  ((∃ f t, v = .int f ∧ u = .int t ∧ StayOk f t ∧ ∀ (H' : Hp) (n : Addr), But a H H' → H' a = some (.ins C dx [("first", .int f), ("after", .int t), ("nights", .ref n)]) → H' n = some (.tup (rgV f t)) → Q .non H') ∨
  ((NotInt K H v ∨ ∃ f, v = .int f ∧ dayB f = false) ∧ BadF B "part" E H (.str "first")) ∨
  (∃ f, v = .int f ∧ dayB f = true ∧ (NotInt K H u ∨ ∃ t, u = .int t ∧ (dayB t && (decide (f < t) && decide (t ≤ f + 400))) = false) ∧ BadF B "part" E H (.str "after")))
end
/-- the part that is wrong with a stay -/
def stayBad (f t : Int) : Option Str := if dayB f = true then (if (dayB t && (decide (f < t) && decide (t ≤ f + 400))) = true then none else some "after") else some "first"
theorem stayBad_ok {f t : Int} (h : stayBad f t = none) : StayOk f t := by
  unfold stayBad at h
  split at h
  · split at h
    · rename_i h1 h2
      simp only [Bool.and_eq_true, decide_eq_true_eq] at h2
      exact ⟨h1, by simp only [Bool.and_eq_true, decide_eq_true_eq]; exact h2.1, h2.2.1, h2.2.2⟩
    · cases h
  · cases h
theorem stayBad_none {f t : Int} (h : StayOk f t) : stayBad f t = none := by
  unfold stayBad
  rw [if_pos h.d1, if_pos]
  rw [h.d2, decide_eq_true h.lt, decide_eq_true h.le]
  rfl
section
variable {P : Program} {w : World} {K : PySem.W.Frag} {mg : Str → Option Value} {base : Heap} {B C : Addr}
theorem mk_stay {H : Hp} {Q : Addr → Hp → Prop} {E : XK} {f t : Int} (h0 : stayBad f t = none → ∀ H' a, Same H H' → IsStay H' C a f t → Q a H') (h1 : ∀ p, stayBad f t = some p → BadF B "part" E H (.str p)) :
    ∀ x dx, H x = none → H dx = none → dx ≠ x → spSInit K B C [.ref x, .int f, .int t] (upd (upd H dx (.own x)) x (.ins C dx [])) (fun v H2 => v = .non ∧ Q x H2) E := by
  intro x dx hx hdx ne
  have s1 : Same H (upd (upd H dx (.own x)) x (.ins C dx [])) := fun b o e => by
    rw [upd_ne (ne_of_none e hx), upd_ne (ne_of_none e hdx)]
    exact e
  refine ⟨x, dx, _, _, rfl, upd_same, ?_⟩
  cases e : stayBad f t with
  | none =>
    have ok := stayBad_ok e
    refine .inl ⟨f, t, rfl, rfl, ok, fun H' n b e1 e2 => ⟨rfl, h0 e H' x (fun y o q => ?_) ⟨⟨dx, n, e1, e2⟩, ok⟩⟩⟩
    exact b y o (ne_of_none q hx) (s1 y o q)
  | some p =>
    have k := (h1 p e).keep s1
    unfold stayBad at e
    split at e
    · rename_i d
      split at e
      · cases e
      · rename_i d2
        cases e
        exact .inr (.inr ⟨f, rfl, d, .inr ⟨t, rfl, Bool.eq_false_iff.mpr d2⟩, k⟩)
    · rename_i d
      cases e
      exact .inr (.inl ⟨.inr ⟨f, rfl, Bool.eq_false_iff.mpr d⟩, k⟩)
/-- Stay(..) -/
structure StD (P : Program) (w : World) (K : PySem.W.Frag) (mg : Str → Option Value) (base : Heap) (B C : Addr) : Prop where
  cls : StC K C
  mgC : mg "Stay" = some (.ref C)
  ini : ∃ (fI : Addr) (fd : FuncData), Mk K C fI ∧ FnOk P w K mg base (CX P w) 4 fI fd ["self", "first", "after"] (spSInit K B C) ∧ Binds K fd ["self", "first", "after"] []
  ca : PySem.W.findIn K (.ref C) "__class__" = some (some (.builtin "object.__class__"))
  cn : PySem.W.specialIn K (.builtin "object.__class__") "__get__" = some (some (.builtin "getset_descriptor.__get__"))
  ct : PySem.W.takesIn K (.builtin "object.__class__") = some true
  cm : PySem.W.mroIn K C (.type "object") = some true
  kc : PySem.W.kitOne K (.ref C) (.ref C) = some true
theorem StD.ty (S : StD P w K mg base B C) {H : Hp} {a : Addr} {f t : Int} (h : IsStay H C a f t) : TyX K H (.ref a) (.ref C) := by
  obtain ⟨⟨dx, n, e1, e2⟩, _⟩ := h
  exact .base (.ins e1 S.cls.cl S.ca S.cn S.ct S.cm)
/-- o.first, o.after -/
theorem rd_firstV {σ : SV} {H : Hp} {i : Nat} {a : Addr} {f t : Int} {Q : VK} (S : StC K C) (h0 : σ[i]? = some (some (.ref a))) (h : IsStay H C a f t) (q : Q (.int f) H) : tFld K (tVar i) "first" σ H Q := by
  obtain ⟨⟨dx, n, e1, e2⟩, _⟩ := h
  exact ⟨_, h0, a, C, dx, _, _, rfl, e1, S.cl, S.n1, rfl, q⟩
theorem rd_afterV {σ : SV} {H : Hp} {i : Nat} {a : Addr} {f t : Int} {Q : VK} (S : StC K C) (h0 : σ[i]? = some (some (.ref a))) (h : IsStay H C a f t) (q : Q (.int t) H) : tFld K (tVar i) "after" σ H Q := by
  obtain ⟨⟨dx, n, e1, e2⟩, _⟩ := h
  exact ⟨_, h0, a, C, dx, _, _, rfl, e1, S.cl, S.n2, rfl, q⟩
theorem rd_nightsV {σ : SV} {H : Hp} {i : Nat} {a : Addr} {f t : Int} {Q : VK} (S : StC K C) (h0 : σ[i]? = some (some (.ref a))) (h : IsStay H C a f t) (q : ∀ n, H n = some (.tup (rgV f t)) → Q (.ref n) H) : tFld K (tVar i) "nights" σ H Q := by
  obtain ⟨⟨dx, n, e1, e2⟩, _⟩ := h
  exact ⟨_, h0, a, C, dx, _, _, rfl, e1, S.cl, S.n3, rfl, q n e2⟩
def spMeets (C : Addr) : Sp := fun vs H Q _ => ∃ (a b : Addr) (f t g u : Int), vs = [.ref a, .ref b] ∧ IsStay H C a f t ∧ IsStay H C b g u ∧ Q (.bl (decide (f < u) && decide (g < t))) H
def spSLen (C : Addr) : Sp := fun vs H Q _ => ∃ (a : Addr) (f t : Int), vs = [.ref a] ∧ IsStay H C a f t ∧ Q (.int (t - f)) H
/-- moved by k -/
def spMove (B C : Addr) (sg : Int) : Sp := fun vs H Q E => ∃ (a : Addr) (f t k : Int), vs = [.ref a, .int k] ∧ IsStay H C a f t ∧
  (stayBad (f + sg * k) (t + sg * k) = none → ∀ H' b, Same H H' → IsStay H' C b (f + sg * k) (t + sg * k) → Q (.ref b) H') ∧ (∀ p, stayBad (f + sg * k) (t + sg * k) = some p → BadF B "part" E H (.str p))
/-- parted at day v -/
def spDiv (K : PySem.W.Frag) (B C : Addr) : Sp := fun vs H Q E => ∃ (a : Addr) (v : V) (f t : Int), vs = [.ref a, v] ∧ IsStay H C a f t ∧
  ((∃ d, v = .int d ∧ f < d ∧ d < t ∧ ∀ H' tp b c, Same H H' → H' tp = some (.tup [.ref b, .ref c]) → IsStay H' C b f d → IsStay H' C c d t → Q (.ref tp) H') ∨
  ((NotInt K H v ∨ ∃ d, v = .int d ∧ (decide (f < d) && decide (d < t)) = false) ∧ BadF B "part" E H (.str "day")))
theorem StayOk.left {f t d : Int} (h : StayOk f t) (h1 : f < d) (h2 : d < t) : StayOk f d := by
  have a := h.d1
  have b := h.d2
  have c := h.le
  simp only [dayB, MD, Bool.and_eq_true, decide_eq_true_eq] at a b
  refine ⟨h.d1, ?_, h1, by omega⟩
  simp only [dayB, MD, Bool.and_eq_true, decide_eq_true_eq]
  omega
theorem StayOk.right {f t d : Int} (h : StayOk f t) (h1 : f < d) (h2 : d < t) : StayOk d t := by
  have a := h.d1
  have b := h.d2
  have c := h.le
  simp only [dayB, MD, Bool.and_eq_true, decide_eq_true_eq] at a b
  refine ⟨?_, h.d2, h2, by omega⟩
  simp only [dayB, MD, Bool.and_eq_true, decide_eq_true_eq]
  omega
/-- equal to v -/
def EqVS (K : PySem.W.Frag) (C : Addr) (H : Hp) (f t : Int) (v : V) (r : Bool) : Prop :=
  (∃ b g u, v = .ref b ∧ IsStay H C b g u ∧ r = (decide (f = g) && decide (t = u))) ∨ (∃ ty, TyX K H v ty ∧ PySem.W.kitOne K ty (.ref C) = some false ∧ r = false)
def spSEq (K : PySem.W.Frag) (C : Addr) : Sp := fun vs H Q _ => ∃ (a : Addr) (f t : Int) (v : V) (r : Bool), vs = [.ref a, v] ∧ IsStay H C a f t ∧ EqVS K C H f t v r ∧ Q (.bl r) H
theorem rd_js {te : TE} {ts : List TE} {acc : Str} {σ : SV} {H : Hp} {Q : Str → Hp → Prop} (h : te σ H fun x H1 => ∃ y : Str, x = .str y ∧ (acc ++ y).length ≤ sizeLine ∧ tJs ts (acc ++ y) σ H1 Q) : tJs (te :: ts) acc σ H Q := h
/-- the text of a stay -/
def stayTxt (f t : Int) : Str := ((Str.empty ++ Str.ofString (toString f)) ++ Str.ofString "+") ++ Str.ofString (toString (t - f))
def spSStr (C : Addr) : Sp := fun vs H Q _ => ∃ (a : Addr) (f t : Int), vs = [.ref a] ∧ IsStay H C a f t ∧ Q (.str (stayTxt f t)) H
def spSIter (C : Addr) : Sp := fun vs H Q _ => ∃ (a dx n : Addr) (f t : Int), vs = [.ref a] ∧ H a = some (.ins C dx [("first", .int f), ("after", .int t), ("nights", .ref n)]) ∧ H n = some (.tup (rgV f t)) ∧ ∀ it, H it = none → Q (.ref it) (upd H it (TItO n it))
/-- list(o) -/
theorem rd_listS {H : Hp} {Q : VK} {a : Addr} {f t : Int} (h : IsStay H C a f t) (q : ∀ l, H l = none → Q (.ref l) (upd H l (.lst (rgV f t)))) : rListI C (spSIter C) (spSLen C) [.ref a] H Q := by
  have h' := h
  obtain ⟨⟨dx, n, e1, e2⟩, ok⟩ := h'
  have m1 := ok.lt
  have m2 := ok.le
  refine ⟨a, dx, n, _, rgV f t, rfl, e1, e2, by rw [rgV_length]; omega, by rw [rgV_length]; omega, fun l hl => ⟨?_, q l hl⟩⟩
  have s1 := same_new (o := .lst []) (Same.refl H) hl
  refine ⟨a, dx, n, f, t, rfl, s1 _ _ e1, s1 _ _ e2, fun it hit => ⟨it, rfl, hit, rfl, a, f, t, rfl, h.keep (same_new s1 hit), ?_, rfl⟩⟩
  rw [rgV_length, Int.toNat_of_nonneg (by omega)]
theorem rgV_app {f d t : Int} (h1 : f < d) (h2 : d < t) : rgV f d ++ rgV d t = rgV f t := by
  unfold rgV
  have e : (t - f).toNat = (d - f).toNat + (t - d).toNat := by omega
  rw [e, List.range_add, List.map_append]
  congr 1
  rw [List.map_map]
  refine List.map_congr_left fun i _ => ?_
  show V.int (d + (i : Int)) = V.int (f + (((d - f).toNat + i : Nat) : Int))
  congr 1
  omega
def rgI (f t : Int) : List Int := (List.range (t - f).toNat).map fun i => f + (i : Nat)
theorem rgV_ints (f t : Int) : rgV f t = (rgI f t).map V.int := by
  unfold rgV rgI
  rw [List.map_map]
  rfl
end
section
variable {H H' : Hp} {C a : Addr} {f t : Int}
theorem IsStay.nl (h : IsStay H C a f t) (k : ∀ x o, H x = some o → (∀ zs, o ≠ .lst zs) → (∀ zs, o ≠ .tbl zs) → H' x = some o) : IsStay H' C a f t := by
  obtain ⟨⟨dx, n, e1, e2⟩, ok⟩ := h
  exact ⟨⟨dx, n, k _ _ e1 (fun _ z => nomatch z) (fun _ z => nomatch z), k _ _ e2 (fun _ z => nomatch z) (fun _ z => nomatch z)⟩, ok⟩
theorem IsStay.ob (h : IsStay H C a f t) : ∃ dx fs, H a = some (.ins C dx fs) := by
  obtain ⟨⟨dx, n, e1, e2⟩, ok⟩ := h
  exact ⟨dx, _, e1⟩
def stS (C a : Addr) (f t : Int) : SP := ⟨fun H => IsStay H C a f t, fun H H' k h => h.nl k⟩
/-- the nights -/
abbrev nights (f t : Int) : List Int := rgN f (t - f).toNat
theorem rgV_nights (f t : Int) : rgV f t = (nights f t).map V.int := by
  unfold rgV nights rgN
  rw [List.map_map]
  rfl
theorem IsStay.nt (h : IsStay H C a f t) : ∃ dx n, H a = some (.ins C dx [("first", .int f), ("after", .int t), ("nights", .ref n)]) ∧ H n = some (.tup ((nights f t).map V.int)) := by
  obtain ⟨⟨dx, n, e1, e2⟩, ok⟩ := h
  exact ⟨dx, n, e1, by rw [← rgV_nights]; exact e2⟩
theorem rd_lenS {Q : VK} (h : IsStay H C a f t) (q : Q (.int (t - f)) H) : rLenO C (spSLen C) E0 [.ref a] H Q := by
  obtain ⟨dx, fs, e⟩ := h.ob
  have m1 := h.ok.lt
  have m2 := h.ok.le
  exact ⟨a, dx, fs, rfl, e, a, f, t, rfl, h, _, rfl, by omega, by omega, q⟩
end
/-- its nights one after another; the iterator lies behind all that stood ahead -/
def spSIterB (C : Addr) (m : Nat) : Sp := fun vs H Q _ => ∃ (a dx n : Addr) (f t : Int), vs = [.ref a] ∧ H a = some (.ins C dx [("first", .int f), ("after", .int t), ("nights", .ref n)]) ∧ H n = some (.tup (rgV f t)) ∧ ∀ it, H it = none → m ≤ it → Q (.ref it) (upd H it (TItO n it))
theorem q_own {K : PySem.W.Frag} {H : Hp} {C a : Addr} {f t : Int} {te : TE} {σ : SV} {R : It → Hp → Prop} (h : te σ H fun x H1 => ∃ a f t, x = .ref a ∧ IsStay H1 C a f t ∧ ∀ n, H1 n = some (.tup ((nights f t).map V.int)) → R (Itt K n) H1) (mono : ∀ Q Q' : VK, (∀ v H, Q v H → Q' v H) → te σ H Q → te σ H Q') : iOwnB K C (spSIterB C) te σ H R := by
  refine mono _ _ (fun v H1 hx => ?_) h
  obtain ⟨a, f, t, rfl, hs, q⟩ := hx
  obtain ⟨⟨dx, n, e1, e2⟩, ok⟩ := hs
  exact ⟨a, dx, n, _, _, rfl, e1, e2, fun m => ⟨a, dx, n, f, t, rfl, e1, e2, fun it h0 h1 => ⟨it, rfl, h0, h1, rfl⟩⟩, q n (by rw [← rgV_nights]; exact e2)⟩
theorem q_ownV {K : PySem.W.Frag} {H : Hp} {C a : Addr} {f t : Int} {i : Nat} {σ : SV} {R : It → Hp → Prop} (h0 : σ[i]? = some (some (.ref a))) (hs : IsStay H C a f t) (q : ∀ n, H n = some (.tup ((nights f t).map V.int)) → R (Itt K n) H) : iOwnB K C (spSIterB C) (tVar i) σ H R :=
  q_own (a := a) (f := f) (t := t) ⟨_, h0, a, f, t, rfl, hs, q⟩ (fun Q Q' k z => by obtain ⟨v, e, z⟩ := z; exact ⟨v, e, k _ _ z⟩)
/-! ### what stands, heap by heap, where nothing is written -/
structure Ky (H0 H : Hp) (ps : List SP) : Prop where
  sm : Same H0 H
  im : ∀ s ∈ ps, s.P H
theorem Kp.ofS {H H' : Hp} (s : Same H H') : Kp H H' := Kp.of s
section
variable {P : Program} {w : World} {K : PySem.W.Frag} {mg : Str → Option Value} {base : Heap} {B Bm C Cs : Addr} {H0 H H' : Hp} {ps ps' : List SP}
theorem Ky.fst : Ky H H [] := ⟨Same.refl _, fun _ h => nomatch h⟩
theorem Ky.same (W : Ky H0 H ps) (s : Same H H') : Ky H0 H' ps := ⟨W.sm.trans s, fun q hq => q.st _ _ (Kp.of s) (W.im q hq)⟩
theorem Ky.add (W : Ky H0 H ps) (s : SP) (h : s.P H) : Ky H0 H (s :: ps) := ⟨W.sm, fun q hq => by
  rcases List.mem_cons.mp hq with rfl | hq
  · exact h
  · exact W.im q hq⟩
theorem Ky.dy {a : Addr} {bs : List Bool} (W : Ky H0 H ps) (h : dyS C a bs ∈ ps := by repeat (first | exact List.Mem.head _ | apply List.Mem.tail)) : IsDays H C a bs := W.im _ h
theorem Ky.sy {a : Addr} {f t : Int} (W : Ky H0 H ps) (h : stS C a f t ∈ ps := by repeat (first | exact List.Mem.head _ | apply List.Mem.tail)) : IsStay H C a f t := W.im _ h
theorem Ky.bin {Q : VK} {E : XK} {t : Bool → Bool → Bool} {a a2 : Addr} {bs cs : List Bool} (W : Ky H0 H ps) (ha : IsDays H C a bs) (hb : IsDays H C a2 cs) (h7 : m2 bs cs ≤ 7) (k : ∀ x H', Ky H0 H' (dyS C x (jnB t bs cs) :: ps) → Q (.ref x) H') : rBinS K C (spOp Bm C t) E (.ref a) (.ref a2) H Q := by
  obtain ⟨dx, fs, e1⟩ := ha.ob
  obtain ⟨dy, gs, e2⟩ := hb.ob
  exact ⟨a, dx, a2, dy, fs, gs, rfl, e1, rfl, e2, a, a2, bs, cs, rfl, ha, hb, fun z => absurd z (by omega), fun _ H' x s' h => k x H' ((W.same s').add (dyS C x _) h)⟩
theorem Ky.inv {Q : VK} {E : XK} {a : Addr} {bs : List Bool} (W : Ky H0 H ps) (ha : IsDays H C a bs) (k : ∀ x H', Ky H0 H' (dyS C x (notB bs) :: ps) → Q (.ref x) H') : rInvO C (spInv C) E (.ref a) H Q := by
  obtain ⟨dx, fs, e1⟩ := ha.ob
  exact ⟨a, dx, fs, rfl, e1, a, bs, rfl, ha, fun H' x s' h => k x H' ((W.same s').add (dyS C x _) h)⟩
theorem Ky.sh {Q : VK} {E : XK} {op : Operator} {sg n : Int} {a : Addr} {bs : List Bool} (W : Ky H0 H ps) (Bt : BinT K C op "int") (ha : IsDays H C a bs) (k : ∀ x H', Ky H0 H' (dyS C x (shB bs (sg * n)) :: ps) → Q (.ref x) H') : rBinO K C op (spSh C sg) E (.ref a) (.int n) H Q := by
  obtain ⟨dx, fs, e1⟩ := ha.ob
  exact ⟨a, dx, fs, "int", rfl, e1, .base (.int n), Bt, a, bs, n, rfl, ha, fun H' x s' h => k x H' ((W.same s').add (dyS C x _) h)⟩
theorem Ky.cmp {Q : VK} {E : XK} {f : List Bool → List Bool → Bool} {a a2 : Addr} {bs cs : List Bool} (W : Ky H0 H ps) (D : DyD P w K mg base B C) (nf : PySem.W.notFirst K C (.ref C) = true) (ha : IsDays H C a bs) (hb : IsDays H C a2 cs) (k : ∀ H', Ky H0 H' ps → Q (.bl (f bs cs)) H') : rEqO K C (spLe C f) E (.ref a) (.ref a2) H Q := by
  obtain ⟨dx, fs, e1⟩ := ha.ob
  exact ⟨a, dx, fs, .ref C, rfl, e1, D.ty hb, nf, a, a2, bs, cs, rfl, ha, hb, fun H' s' => ⟨_, rfl, k H' (W.same s')⟩⟩
/-- a stay moved -/
theorem Ky.mv {Q : VK} {E : XK} {op : Operator} {sg n f t : Int} {a : Addr} (W : Ky H0 H ps) (Bt : BinT K Cs op "int") (ha : IsStay H Cs a f t) (ok : StayOk (f + sg * n) (t + sg * n)) (k : ∀ x H', Ky H0 H' (stS Cs x (f + sg * n) (t + sg * n) :: ps) → Q (.ref x) H') : rBinO K Cs op (spMove B Cs sg) E (.ref a) (.int n) H Q := by
  obtain ⟨dx, fs, e1⟩ := ha.ob
  exact ⟨a, dx, fs, "int", rfl, e1, .base (.int n), Bt, a, f, t, n, rfl, ha, fun _ H' x s' h => k x H' ((W.same s').add (stS Cs x _ _) h), fun p e => by rw [stayBad_none ok] at e; cases e⟩
/-- a stay parted -/
theorem Ky.div {Q : VK} {E : XK} {op : Operator} {d f t : Int} {a : Addr} (W : Ky H0 H ps) (Bt : BinT K Cs op "int") (ha : IsStay H Cs a f t) (h1 : f < d) (h2 : d < t) (k : ∀ x y z H', Ky H0 H' (stS Cs y f d :: stS Cs z d t :: ps) → H' x = some (.tup [.ref y, .ref z]) → Q (.ref x) H') : rBinO K Cs op (spDiv K B Cs) E (.ref a) (.int d) H Q := by
  obtain ⟨dx, fs, e1⟩ := ha.ob
  exact ⟨a, dx, fs, "int", rfl, e1, .base (.int d), Bt, a, .int d, f, t, rfl, ha, .inl ⟨d, rfl, h1, h2, fun H' tp b c s' e hb hc => k tp b c H' (((W.same s').add (stS Cs c _ _) hc).add (stS Cs b _ _) hb) e⟩⟩
end
end NB
namespace NB
open PySem L2 ClX
local macro_rules
  | `(tactic| and_intros) => `(tactic| repeat (first
    | with_reducible refine q_cons ?_ | with_reducible refine q_c ?_ | ((with_reducible apply q_var); exact rfl) | with_reducible refine q_nil ?_ | with_reducible refine q_call ?_ | with_reducible refine q_op ?_
    | with_reducible refine q_sa ?_ | with_reducible refine ra_lst ?_ | with_reducible refine ra_tup ?_ | with_reducible refine q_i0 ?_ | with_reducible refine q_cb ?_ | with_reducible refine q_test ?_ | with_reducible refine q_b ?_ | with_reducible refine q_bl ?_ | with_reducible refine q_iT ?_ | with_reducible refine q_iF ?_ | with_reducible refine q_nT ?_ | with_reducible refine q_nF ?_
    | with_reducible refine q_sif0 ?_ | with_reducible refine q_if0 ?_ | with_reducible refine q_sif ?_ | with_reducible refine q_if ?_ | with_reducible refine q_sdrop ?_ | with_reducible refine q_drop ?_ | with_reducible refine q_asg ?_ | with_reducible refine q_ret ?_ | with_reducible refine q_un ?_ | with_reducible refine q_u ?_ | with_reducible refine q_ifE ?_ | with_reducible refine q_or ?_ | with_reducible refine q_and ?_ | with_reducible refine q_not ?_ | with_reducible refine q_andV ?_ | with_reducible refine q_orV ?_ | with_reducible refine q_notV ?_ | with_reducible refine q_isN ?_ | with_reducible refine q_notN ?_ | with_reducible refine q_make ?_ | with_reducible refine q_meth ?_ | with_reducible refine q_sp ?_ | with_reducible refine q_par ?_ | with_reducible refine q_two ?_ | with_reducible refine q_in ?_ | with_reducible refine q_sl ?_ | with_reducible refine q_part ?_ | with_reducible refine q_nopart ?_ | with_reducible refine q_fmt ?_ | with_reducible refine q_dnew ?_ | with_reducible refine q_chain ?_ | with_reducible refine q_yes ?_ | with_reducible refine q_mkO ?_ | with_reducible refine q_int1' ?_ | with_reducible refine q_iR1 ?_ | with_reducible refine q_iR2 ?_ | with_reducible refine q_iRA ?_ | with_reducible refine q_iL ?_ | with_reducible refine q_iT2 ?_ | with_reducible refine q_rA ?_ | with_reducible refine q_sfor ?_ | with_reducible refine q_for ?_
    | ((with_reducible refine q_eq ?_ ?_); exact rfl) | ((with_reducible refine q_ne ?_ ?_); exact rfl) | ((with_reducible refine q_pow ?_ ?_); exact ⟨by decide, by decide, by decide⟩)))
section
variable {P : Program} {w : World} {K : PySem.W.Frag} {mg : Str → Option Value} {base : Heap}
abbrev sIsInt : Stmt := top 4
theorem scIsInt : FnScope ["value"] ["value"] (defScope sIsInt) := ⟨rfl, rfl, rfl, by decide +kernel, rfl, by decide +kernel, by decide +kernel⟩
theorem ok_isint {f : Addr} {fd : FuncData} (F : Fun K "is_integer" "is_integer" sIsInt f fd) (T : Bi mg) : FnOk P w K mg base CX0 1 f fd ["value"] (spIsInt K) := by
  refine F.ok scIsInt (fun vs H Q E h => ?_) (fun cdv A outer s H vs Q E hr h => ?_)
  · obtain ⟨v, rfl, _⟩ := h
    rfl
  · obtain ⟨v, rfl, h⟩ := h
    refine ⟨_, pss_one (ps_ret (pe_and (pe_callB call_isi (by rfl) T.isinstance (by decide +kernel) (pa_cons (pv 0) (pa_cons (pe_bltn (v := .ty "int") (by rfl) T.int (by decide +kernel) rfl) pa_nil)))
      (pe_one (pe_not (pe_callB call_isi (by rfl) T.isinstance (by decide +kernel) (pa_cons (pv 0) (pa_cons (pe_bltn (v := .ty "bool") (by rfl) T.bool (by decide +kernel) rfl) pa_nil))))))), ?_⟩
    rcases h with ⟨n, rfl, q⟩ | ⟨⟨t, b1, b2, ty, k1, k2, c⟩, q⟩
    · exact ⟨_, rfl, _, _, _, _, true, rfl, .ty _, .base (.int n), rfl, true, rfl, iteT ⟨_, rfl, _, _, _, _, false, rfl, .ty _, .base (.int n), rfl, _, rfl, q⟩⟩
    · refine ⟨_, rfl, _, _, _, _, b1, rfl, .ty _, ty, k1, b1, rfl, ite2 (fun e => ?_) (fun _ => q)⟩
      rcases c with c | c
      · rw [c] at e
        cases e
      · subst c
        exact ⟨_, rfl, _, _, _, _, true, rfl, .ty _, ty, k2, _, rfl, q⟩
end
section
variable {P : Program} {w : World} {K : PySem.W.Frag} {mg : Str → Option Value} {base : Heap}
abbrev sBetw : Stmt := top 5
theorem scBetw : FnScope ["value", "low", "high"] ["value", "low", "high"] (defScope sBetw) := ⟨rfl, rfl, rfl, by decide +kernel, rfl, by decide +kernel, by decide +kernel⟩
theorem ok_betw {f : Addr} {fd : FuncData} (F : Fun K "is_between" "is_between" sBetw f fd) (D : DefOf P w K mg base "is_integer" 1 ["value"] (spIsInt K)) : FnOk P w K mg base CX0 2 f fd ["value", "low", "high"] (spBetw K) := by
  obtain ⟨fD, fdD, FD, mD, kD, bD⟩ := D.ex
  refine F.ok scBetw (fun vs H Q E h => ?_) (fun cdv A outer s H vs Q E hr h => ?_)
  · obtain ⟨v, lo, hi, rfl, _⟩ := h
    rfl
  · obtain ⟨v, lo, hi, rfl, h⟩ := h
    refine ⟨_, pss_one (ps_ret (pe_and (pe_call FD hr rfl mD kD bD .nil pass0 (pa_cons (pv 0) pa_nil)) (pe_one (pe_chain op_le op_le (pv 1) (pv 0) (pv 2))))), ?_⟩
    rcases h with ⟨n, rfl, q⟩ | ⟨ni, q⟩
    · refine ⟨_, rfl, _, rfl, .inl ⟨n, rfl, true, rfl, iteT ?_⟩⟩
      refine ⟨_, rfl, _, rfl, _, _, rfl, rfl, _, rfl, ite2 (fun a => ⟨_, rfl, _, _, rfl, rfl, ?_⟩) (fun a => ?_)⟩
      · rw [a, Bool.true_and] at q
        exact q
      · rw [Bool.eq_false_iff.mpr a, Bool.false_and] at q
        exact q
    · exact ⟨_, rfl, _, rfl, .inr ⟨ni, false, rfl, q⟩⟩
end
section
variable {P : Program} {w : World} {K : PySem.W.Frag} {mg : Str → Option Value} {base : Heap} {B C : Addr}
abbrev sDay : Stmt := top 6
theorem scDay : FnScope ["value"] ["value"] (defScope sDay) := ⟨rfl, rfl, rfl, by decide +kernel, rfl, by decide +kernel, by decide +kernel⟩
theorem ok_day {f : Addr} {fd : FuncData} {t : Tok} (F : Fun K "is_day" "is_day" sDay f fd) (mM : mg "MOST_DAY" = some (.int MD t)) (D : DefOf P w K mg base "is_between" 2 ["value", "low", "high"] (spBetw K)) : FnOk P w K mg base CX0 3 f fd ["value"] (spDay K) := by
  obtain ⟨fD, fdD, FD, mD, kD, bD⟩ := D.ex
  refine F.ok scDay (fun vs H Q E h => ?_) (fun cdv A outer s H vs Q E hr h => ?_)
  · obtain ⟨v, rfl, _⟩ := h
    rfl
  · obtain ⟨v, rfl, h⟩ := h
    refine ⟨_, pss_one (ps_ret (pe_call FD hr rfl mD kD bD .nil pass0 (pa_cons (pv 0) (pa_cons (pe_un un_neg (pe_glob (v := .int MD) (by rfl) mM ⟨_, rfl⟩)) (pa_cons (pe_glob (v := .int MD) (by rfl) mM ⟨_, rfl⟩) pa_nil))))), ?_⟩
    exact ⟨v, rfl, _, rfl, v, -MD, MD, rfl, h⟩
end
section
variable {P : Program} {w : World} {K : PySem.W.Frag} {mg : Str → Option Value} {base : Heap}
abbrev nAre : List Str := ["values", "low", "high", "value"]
abbrev sAre : Stmt := top 7
theorem scAre : FnScope nAre ["values", "low", "high"] (defScope sAre) := ⟨rfl, rfl, rfl, by decide +kernel, rfl, by decide +kernel, by decide +kernel⟩
theorem ok_are {f : Addr} {fd : FuncData} (F : Fun K "are_between" "are_between" sAre f fd) (T : Bi mg) (mA : mg "all" = none) (mT : mg "tuple" = none) (D : DefOf P w K mg base "is_between" 2 ["value", "low", "high"] (spBetw K)) : FnOk P w K mg base CX0 3 f fd ["values", "low", "high"] (spAre K) := by
  obtain ⟨fD, fdD, FD, mD, kD, bD⟩ := D.ex
  refine F.ok scAre (fun vs H Q E h => ?_) (fun cdv A outer s H vs Q E hr h => ?_)
  · obtain ⟨v, lo, hi, r, rfl, _⟩ := h
    rfl
  · obtain ⟨v, lo, hi, r, rfl, h, k⟩ := h
    rcases h with ⟨a, xs, b, rfl, hx, hz, hb, rfl⟩ | ⟨⟨t, ty, kt⟩, rfl⟩
    · rcases hx with hx | hx
      · refine ⟨_, pss_one (ps_ret (pe_and (pe_callB call_isiT (by rfl) T.isinstance (by decide +kernel) (pa_cons (pv 0) (pa_cons (pe_tup (pa_cons (pe_bltn (v := .ty "list") (by rfl) T.list (by decide +kernel) rfl) (pa_cons (pe_bltn (v := .ty "tuple") (by rfl) mT (by decide +kernel) rfl) pa_nil))) pa_nil)))
          (pe_one (pe_callB (cr_all rfl) (by rfl) mA (by decide +kernel) (pa_cons (pe_lc (own := [("value", 3)]) (g := gName 3) (tt := tYes) (te := tCall (spBetw K) [] E0 (tCons (tVar 3) (tCons (tVar 1) (tCons (tVar 2) tNil)))) (by rfl) scAre.nd (pi_list (pv 0)) (blkOk_by (own := [("value", 3)]) (N := nAre) (sc := defScope sAre) (by decide +kernel))
            (fun _ _ _ _ _ => pg_name (i := 3) scAre.nd rfl (.inl rfl)) (fun _ _ _ _ _ => pts_nil) (fun _ _ _ _ _ => pe_call FD hr rfl mD kD bD .nil pass0 (pa_cons (pv 3) (pa_cons (pv 1) (pa_cons (pv 2) pa_nil))))) pa_nil))))), ?_⟩
        refine rd_ret (rd_andV (rd_cb (rd_cons (rd_var rfl (rd_cons (rd_tup (rd_cons (rd_c (rd_cons (rd_c (rd_nil ⟨by show 2 ≤ sizeLine; decide, fun tp htp => ?_⟩)))))))))))
        have s1 := same_new (o := .tup [.ty "list", .ty "tuple"]) (Same.refl H) htp
        refine rd_nil ⟨_, tp, _, _, _, true, rfl, upd_same, .cons (.ty _) (.cons (.ty _) .nil), .base (.lst (s1 _ _ hx)), kit_list, true, rfl, iteT ?_⟩
        refine rd_cb (rd_cons ⟨_, rfl, a, rfl, ⟨_, SqL.of (s1 _ _ hx)⟩, fun D1 hD1 => lc_mapL (K := K) (a := a) (fun x => .bl (b x)) hD1 (s1 _ _ hx) hz (fun _ => rfl) (fun x hm H' Q s' q => rd_call (rd_cons (rd_var rfl (rd_cons (rd_var rfl (rd_cons (rd_var rfl (rd_nil (((hb x hm).keep (s1.trans s')).sp q))))))))) ?_⟩)
        have s2 := same_new (o := .lst (xs.map fun x => .bl (b x))) s1 hD1
        have eb : xs.map (fun x => V.bl (b x)) = (xs.map b).map V.bl := by rw [List.map_map]; rfl
        refine rd_nil ⟨D1, xs.map b, rfl, SqL.of (by rw [upd_same, eb]), ?_⟩
        have ea : (xs.map b).all id = xs.all b := by rw [List.all_map]; rfl
        rw [ea]
        exact k _ s2
      · refine ⟨_, pss_one (ps_ret (pe_and (pe_callB call_isiT (by rfl) T.isinstance (by decide +kernel) (pa_cons (pv 0) (pa_cons (pe_tup (pa_cons (pe_bltn (v := .ty "list") (by rfl) T.list (by decide +kernel) rfl) (pa_cons (pe_bltn (v := .ty "tuple") (by rfl) mT (by decide +kernel) rfl) pa_nil))) pa_nil)))
          (pe_one (pe_callB (cr_all rfl) (by rfl) mA (by decide +kernel) (pa_cons (pe_lc (own := [("value", 3)]) (g := gName 3) (tt := tYes) (te := tCall (spBetw K) [] E0 (tCons (tVar 3) (tCons (tVar 1) (tCons (tVar 2) tNil)))) (by rfl) scAre.nd (pi_tup (pv 0)) (blkOk_by (own := [("value", 3)]) (N := nAre) (sc := defScope sAre) (by decide +kernel))
            (fun _ _ _ _ _ => pg_name (i := 3) scAre.nd rfl (.inl rfl)) (fun _ _ _ _ _ => pts_nil) (fun _ _ _ _ _ => pe_call FD hr rfl mD kD bD .nil pass0 (pa_cons (pv 3) (pa_cons (pv 1) (pa_cons (pv 2) pa_nil))))) pa_nil))))), ?_⟩
        refine rd_ret (rd_andV (rd_cb (rd_cons (rd_var rfl (rd_cons (rd_tup (rd_cons (rd_c (rd_cons (rd_c (rd_nil ⟨by show 2 ≤ sizeLine; decide, fun tp htp => ?_⟩)))))))))))
        have s1 := same_new (o := .tup [.ty "list", .ty "tuple"]) (Same.refl H) htp
        refine rd_nil ⟨_, tp, _, _, _, true, rfl, upd_same, .cons (.ty _) (.cons (.ty _) .nil), .base (.tup (s1 _ _ hx)), kit_tuple, true, rfl, iteT ?_⟩
        refine rd_cb (rd_cons ⟨_, rfl, a, rfl, ⟨_, .inl (.inl (s1 _ _ hx))⟩, fun D1 hD1 => lc_mapT (K := K) (a := a) (fun x => .bl (b x)) hD1 (s1 _ _ hx) hz (fun _ => rfl) (fun x hm H' Q s' q => rd_call (rd_cons (rd_var rfl (rd_cons (rd_var rfl (rd_cons (rd_var rfl (rd_nil (((hb x hm).keep (s1.trans s')).sp q))))))))) ?_⟩)
        have s2 := same_new (o := .lst (xs.map fun x => .bl (b x))) s1 hD1
        have eb : xs.map (fun x => V.bl (b x)) = (xs.map b).map V.bl := by rw [List.map_map]; rfl
        refine rd_nil ⟨D1, xs.map b, rfl, SqL.of (by rw [upd_same, eb]), ?_⟩
        have ea : (xs.map b).all id = xs.all b := by rw [List.all_map]; rfl
        rw [ea]
        exact k _ s2
    · refine ⟨_, pss_one (ps_ret (pe_and (pe_callB call_isiT (by rfl) T.isinstance (by decide +kernel) (pa_cons (pv 0) (pa_cons (pe_tup (pa_cons (pe_bltn (v := .ty "list") (by rfl) T.list (by decide +kernel) rfl) (pa_cons (pe_bltn (v := .ty "tuple") (by rfl) mT (by decide +kernel) rfl) pa_nil))) pa_nil)))
          (pe_one (pe_callB (cr_all rfl) (by rfl) mA (by decide +kernel) (pa_cons (pe_lc (own := [("value", 3)]) (g := gName 3) (tt := tYes) (te := tCall (spBetw K) [] E0 (tCons (tVar 3) (tCons (tVar 1) (tCons (tVar 2) tNil)))) (by rfl) scAre.nd (pi_list (pv 0)) (blkOk_by (own := [("value", 3)]) (N := nAre) (sc := defScope sAre) (by decide +kernel))
            (fun _ _ _ _ _ => pg_name (i := 3) scAre.nd rfl (.inl rfl)) (fun _ _ _ _ _ => pts_nil) (fun _ _ _ _ _ => pe_call FD hr rfl mD kD bD .nil pass0 (pa_cons (pv 3) (pa_cons (pv 1) (pa_cons (pv 2) pa_nil))))) pa_nil))))), ?_⟩
      refine rd_ret (rd_andV (rd_cb (rd_cons (rd_var rfl (rd_cons (rd_tup (rd_cons (rd_c (rd_cons (rd_c (rd_nil ⟨by show 2 ≤ sizeLine; decide, fun tp htp => ?_⟩)))))))))))
      have s1 := same_new (o := .tup [.ty "list", .ty "tuple"]) (Same.refl H) htp
      exact rd_nil ⟨_, tp, _, _, _, false, rfl, upd_same, .cons (.ty _) (.cons (.ty _) .nil), TyX.keep ty s1, kt, false, rfl, iteF (k _ s1)⟩
end
section
variable {P : Program} {w : World} {K : PySem.W.Frag} {mg : Str → Option Value} {base : Heap}
abbrev nAsc : List Str := ["numbers", "number"]
abbrev sAsc : Stmt := top 10
theorem scAsc : FnScope nAsc ["numbers"] (defScope sAsc) := ⟨rfl, rfl, rfl, by decide +kernel, rfl, by decide +kernel, by decide +kernel⟩
theorem ok_asc {f : Addr} {fd : FuncData} (F : Fun K "ascending" "ascending" sAsc f fd) (T : Bi mg) (mS : mg "sorted" = none) (mE : mg "set" = none) : FnOk P w K mg base CX0 1 f fd ["numbers"] (spAsc K) := by
  refine F.ok scAsc (fun vs H Q E h => ?_) (fun cdv A outer s H vs Q E hr h => ?_)
  · obtain ⟨a, ns, rfl, _⟩ := h
    rfl
  · obtain ⟨a, ns, rfl, ha, hz, k⟩ := h
    refine ⟨_, pss_one (ps_ret (pe_callB (cr_sortedSet rfl) (by rfl) mS (by decide +kernel) (pa_cons (pe_callTy (cr_setL rfl) (by rfl) mE (by decide +kernel) (pa_cons
      (pe_lc (own := [("number", 1)]) (g := gName 1) (tt := tYes) (te := tCB (fun xs H Q => (∃ i, xs = [.int i] ∧ Q (.int i) H) ∨ ∃ k, xs = [.bl k] ∧ Q (.int (if k then 1 else 0)) H) (tCons (tVar 1) tNil)) (by rfl) scAsc.nd (pi_list (pv 0)) (blkOk_by (own := [("number", 1)]) (N := nAsc) (sc := defScope sAsc) (by decide +kernel))
            (fun _ _ _ _ _ => pg_name (i := 1) scAsc.nd rfl (.inl rfl)) (fun _ _ _ _ _ => pts_nil) (fun _ _ _ _ _ => pe_callTy call_int1 (by rfl) T.int (by decide +kernel) (pa_cons (pv 1) pa_nil))) pa_nil)) pa_nil))), ?_⟩
    refine rd_ret (rd_cb (rd_cons (rd_cb (rd_cons ⟨_, rfl, a, rfl, ⟨_, SqL.of ha⟩, fun D1 hD1 => lc_mapL (K := K) (a := a) (xs := ns.map V.int) id hD1 ha (by rw [List.length_map, sizeLine_eq]; omega) (fun _ => rfl) (fun x hx H' Q s' q => ?_) ?_⟩))))
    · obtain ⟨n, _, rfl⟩ := List.mem_map.mp hx
      exact rd_cb (rd_cons (rd_var rfl (rd_nil (.inl ⟨n, rfl, q⟩))))
    · have s1 := same_new (o := .lst ((ns.map V.int).map id)) (Same.refl H) hD1
      refine rd_nil ⟨D1, ns, rfl, SqL.of (by rw [upd_same, List.map_id]), by omega, fun p c hp hc => ?_⟩
      have s2 := same_new (o := SetO w p (fun j => decide (j ∈ ns)) c) s1 hp
      refine rd_nil ⟨p, _, c, rfl, upd_same, by omega, fun ms q h1 h2 _ hq => ?_⟩
      exact k _ q ms (same_new s2 hq) upd_same h1 (fun j => by rw [h2 j, decide_eq_true_eq])
end
section
variable {P : Program} {w : World} {K : PySem.W.Frag} {mg : Str → Option Value} {base : Heap}
abbrev sLp : Stmt := top 34
theorem scLp : FnScope ["truths", "size", "period"] ["truths"] (defScope sLp) := ⟨rfl, rfl, rfl, by decide +kernel, rfl, by decide +kernel, by decide +kernel⟩
theorem ok_lp {f : Addr} {fd : FuncData} (F : Fun K "least_period" "least_period" sLp f fd) (T : Bi mg) : FnOk P w K mg base CX0 1 f fd ["truths"] (spLp K) := by
  refine F.ok scLp (fun vs H Q E h => ?_) (fun cdv A outer s H vs Q E hr h => ?_)
  · obtain ⟨a, bs, rfl, _⟩ := h
    rfl
  · obtain ⟨a, bs, rfl, ha, h1, h2, k⟩ := h
    refine ⟨_, pss_cons (ps_set (i := 1) scLp.nd rfl (.inl rfl) (pe_callB call_len_seq (by rfl) T.len PySem.boot_len (pa_cons (pv 0) pa_nil)))
      (pss_cons (ps_for PassesOwn.never rfl (pi_range2 (by rfl) T.range (pa_cons pe_int (pa_cons (pv 1) pa_nil))) (pg_name (i := 2) scLp.nd rfl (.inl rfl))
        (pss_one (ps_if (PW.pt (pw_and (pt_cmpR op_eq (pe_op op_mod (pv 1) (pv 2)) pe_int (nomark _)) (pw_and1 (pt_cmpR (op_eqD hr.units) (pe_slice sl_list (pv 0) (po_some (pv 2)) po_none) (pe_slice sl_list (pv 0) po_none (po_some (pe_op op_sub (pv 1) (pv 2)))) (nomark _)))))
          (pss_one (ps_ret (pv 2))) pss_nil)))
      (pss_one (ps_ret (pv 1)))), ?_⟩
    have ln : ((bs.map V.bl).length : Int) = (bs.length : Int) := by rw [List.length_map]
    refine rd_sa (rd_cb (rd_cons (rd_var rfl (rd_nil ⟨a, _, rfl, .inl (SqL.of ha), ?_⟩))))
    rw [ln]
    refine rd_sfor (rd_cons (rd_c (rd_cons (rd_var rfl (rd_nil ⟨_, _, rfl, ⟨by decide, by decide, by omega, by omega⟩, ?_⟩)))))
    refine for_range (lo := 1) (D := { nx := _, rt := Q }) (fun i σ H' => ∃ x, σ = [some (.ref a), some (.int bs.length), x] ∧ Same H H' ∧ ∀ q, 1 ≤ q → q < i + 1 → perOk bs q = false) ⟨_, rfl, Same.refl _, fun q a b => by omega⟩ ?_ ?_
    · rintro i σ H1 hi ⟨x, rfl, s1, no⟩
      refine rd_if0 (rd_and (rd_test (rd_op (rd_op (rd_var rfl (rd_var rfl ⟨_, _, rfl, rfl, by show (0 : Int) < 1 + (i : Int); omega, rd_c ⟨rfl, _, rfl, ?_⟩⟩))))))
      have em : (bs.length : Int) % (1 + (i : Int)) = ((bs.length % (i + 1) : Nat) : Int) := by
        rw [Int.natCast_emod]
        congr 1
        omega
      rw [dec_v, em]
      by_cases c : bs.length % (i + 1) = 0
      · rw [decide_eq_true (by rw [c]; rfl)]
        refine iteT (rd_test (rd_op ⟨_, rfl, _, rfl, _, rfl, a, _, rfl, SqL.of (s1 _ _ ha), fun l1 hl1 => ?_⟩))
        have e1 : cutV (bs.map V.bl) (some (1 + (i : Int))) none = (bs.drop (i + 1)).map V.bl := by
          rw [show (1 + (i : Int)) = ((i + 1 : Nat) : Int) by omega, cut_sufV, List.map_drop]
        rw [e1]
        have s2 := same_new (o := .lst ((bs.drop (i + 1)).map V.bl)) s1 hl1
        refine ⟨_, rfl, _, rfl, _, rfl, _, _, rfl, rfl, _, rfl, a, _, rfl, SqL.of (s2 _ _ ha), fun l2 hl2 => ?_⟩
        have e2 : cutV (bs.map V.bl) none (some ((bs.length : Int) - (1 + (i : Int)))) = (bs.take (bs.length - (i + 1))).map V.bl := by
          rw [show ((bs.length : Int) - (1 + (i : Int))) = ((bs.length - (i + 1) : Nat) : Int) by omega, cut_preV, List.map_take]
        rw [e2]
        have s3 := same_new (o := .lst ((bs.take (bs.length - (i + 1))).map V.bl)) (Same.refl _) hl2
        refine ⟨_, _, .lst (SqL.of (s3 _ _ upd_same)) (dp_bools _), .lst (SqL.of upd_same) (dp_bools _), shaped_bools _, shaped_bools _, _, rfl, ?_⟩
        rw [eqv_boolL]
        refine ite2 (fun c2 => rd_ret (rd_var rfl ?_)) (fun c2 => ⟨_, rfl, s2.trans s3, fun q q1 q2 => ?_⟩)
        · have e := lp_first (bs := bs) (p := i + 1) (by omega) (by omega) (by unfold perOk; rw [decide_eq_true c, c2]; rfl) no
          have z := k _ (s2.trans s3)
          rw [e, show ((i + 1 : Nat) : Int) = 1 + (i : Int) by omega] at z
          exact z
        · rcases Nat.lt_or_ge q (i + 1) with y | y
          · exact no q q1 y
          · obtain rfl : q = i + 1 := by omega
            unfold perOk
            rw [Bool.eq_false_iff.mpr c2, Bool.and_false]
      · rw [decide_eq_false (fun z => c (by omega))]
        refine iteF ⟨_, rfl, s1, fun q q1 q2 => ?_⟩
        rcases Nat.lt_or_ge q (i + 1) with y | y
        · exact no q q1 y
        · obtain rfl : q = i + 1 := by omega
          unfold perOk
          rw [decide_eq_false c, Bool.false_and]
    · rintro σ H1 ⟨x, rfl, s1, no⟩
      refine rd_ret (rd_var rfl ?_)
      have z := k _ s1
      rw [lp_last (fun q q1 q2 => no q q1 (by omega))] at z
      exact z
end
section
variable {P : Program} {w : World} {K : PySem.W.Frag} {mg : Str → Option Value} {base : Heap} {B Bm Bc C : Addr}
abbrev sCd : Stmt := top 11
abbrev nCd : List Str := ["one", "other", "high", "low"]
theorem scCd : FnScope nCd ["one", "other"] (defScope sCd) := ⟨rfl, rfl, rfl, by decide +kernel, rfl, by decide +kernel, by decide +kernel⟩
theorem ok_cd {f : Addr} {fd : FuncData} (F : Fun K "common_divisor" "common_divisor" sCd f fd) : FnOk P w K mg base CX0 1 f fd ["one", "other"] spCd := by
  refine F.ok scCd (fun vs H Q E h => ?_) (fun cdv A outer s H vs Q E hr h => ?_)
  · obtain ⟨a, b, rfl, _⟩ := h
    rfl
  · obtain ⟨a, b, rfl, ha, hb, _, _, q⟩ := h
    refine ⟨_, pss_cons (ps_par (i := 2) (j := 3) rfl scCd.nd rfl rfl (by decide) rfl rfl (pa_cons (pv 0) (pa_cons (pv 1) pa_nil)) (by rfl))
      (pss_cons (ps_while PassesOwn.never (pt_cmpR op_ne (pv 3) pe_int (nomark _))
        (pss_one (ps_par (i := 2) (j := 3) rfl scCd.nd rfl rfl (by decide) rfl rfl (pa_cons (pv 3) (pa_cons (pe_op op_mod (pv 2) (pv 3)) pa_nil)) (by rfl))))
      (pss_one (ps_ret (pv 2)))), ?_⟩
    and_intros
    refine q_while (while_by (fun σ H' => ∃ x y : Nat, σ = [some (.int a), some (.int b), some (.int x), some (.int y)] ∧ H' = H ∧ Nat.gcd x y = Nat.gcd a b) (fun σ _ => match (σ[3]? : Option (Option V)) with | some (some (V.int y)) => y.toNat | _ => 0) ⟨a, b, rfl, rfl, rfl⟩ ?_ ?_)
    · rintro σ H' ⟨x, y, rfl, rfl, e⟩
      and_intros
      have d0 : (!decide (V.int (y : Int) = V.int 0)) = decide (y ≠ 0) := by
        rw [dec_v]
        by_cases z : y = 0
        · subst z
          rfl
        · rw [decide_eq_false (show ¬ (y : Int) = 0 by omega), decide_eq_true z]
          rfl
      rw [d0]
      refine ite2 (fun c => ?_) (fun c => ?_)
      · have c := of_decide_eq_true c
        and_intros
        refine ⟨_, _, rfl, rfl, by show (0 : Int) < (y : Int); omega, ?_⟩
        and_intros
        refine ⟨⟨y, x % y, ?_, rfl, ?_⟩, ?_⟩
        · rw [Int.natCast_emod]
          rfl
        · rw [← e, Nat.gcd_comm x y, Nat.gcd_rec y x, Nat.gcd_comm]
        · show ((x : Int) % (y : Int)).toNat < ((y : Int)).toNat
          rw [← Int.natCast_emod, Int.toNat_natCast, Int.toNat_natCast]
          exact Nat.mod_lt _ (by omega)
      · have z : y = 0 := by
          rcases Nat.eq_zero_or_pos y with z | z
          · exact z
          · exact absurd (decide_eq_true (show y ≠ 0 by omega)) c
        subst z
        dsimp only
        refine q_ret (q_var rfl ?_)
        rw [Nat.gcd_zero_right] at e
        rw [e]
        exact q
    · rintro σ H' Q1 Q2 m ⟨v, hv, hs, k, hk, z⟩
      exact ⟨v, hv, hs, k, hk, m _ _ z⟩
end
section
variable {P : Program} {w : World} {K : PySem.W.Frag} {mg : Str → Option Value} {base : Heap} {B Bm Bc C : Addr}
abbrev sCm : Stmt := top 12
abbrev nCm : List Str := ["one", "other"]
theorem scCm : FnScope nCm ["one", "other"] (defScope sCm) := ⟨rfl, rfl, rfl, by decide +kernel, rfl, by decide +kernel, by decide +kernel⟩
theorem ok_cm {f : Addr} {fd : FuncData} (F : Fun K "common_multiple" "common_multiple" sCm f fd) (D : DefOf P w K mg base "common_divisor" 1 ["one", "other"] spCd) : FnOk P w K mg base CX0 2 f fd ["one", "other"] spCm := by
  obtain ⟨fG, fdG, FG, mG, kG, bG⟩ := D.ex
  refine F.ok scCm (fun vs H Q E h => ?_) (fun cdv A outer s H vs Q E hr h => ?_)
  · obtain ⟨a, b, rfl, _⟩ := h
    rfl
  · obtain ⟨a, b, rfl, ha, hb, la, lb, q⟩ := h
    refine ⟨_, pss_one (ps_ret (pe_op op_mul (pe_op op_fdiv (pv 0) (pe_call FG hr rfl mG kG bG .nil pass0 (pa_cons (pv 0) (pa_cons (pv 1) pa_nil)))) (pv 1))), ?_⟩
    have g0 : 1 ≤ Nat.gcd a b := Nat.gcd_pos_of_pos_left _ ha
    have g1 : Nat.gcd a b ≤ a := Nat.le_of_dvd ha (Nat.gcd_dvd_left _ _)
    and_intros
    refine ⟨a, b, rfl, ha, hb, la, lb, ⟨_, _, rfl, rfl, ⟨by omega, by omega⟩, ?_⟩⟩
    and_intros
    have e : (a : Int) / (Nat.gcd a b : Int) * (b : Int) = (Nat.lcm a b : Int) := by
      rw [← Int.natCast_ediv, ← Int.natCast_mul]
      congr 1
      unfold Nat.lcm
      rw [Nat.mul_comm a b, Nat.mul_div_assoc b (Nat.gcd_dvd_left a b), Nat.mul_comm]
    refine ⟨_, _, rfl, rfl, .inr ⟨by omega, by omega⟩, ?_⟩
    dsimp only
    rw [e]
    exact q
end
section
variable {P : Program} {w : World} {K : PySem.W.Frag} {mg : Str → Option Value} {base : Heap} {B C : Addr}
abbrev sDays (i : Nat) : Stmt := inClass (top 54) i
end
end NB
namespace NB
open PySem L2 ClX
local macro_rules
  | `(tactic| and_intros) => `(tactic| repeat (first
    | with_reducible refine q_cons ?_ | with_reducible refine q_c ?_ | ((with_reducible apply q_var); exact rfl) | with_reducible refine q_nil ?_ | with_reducible refine q_call ?_ | with_reducible refine q_op ?_
    | with_reducible refine q_sa ?_ | with_reducible refine ra_lst ?_ | with_reducible refine ra_tup ?_ | with_reducible refine q_i0 ?_ | with_reducible refine q_cb ?_ | with_reducible refine q_test ?_ | with_reducible refine q_b ?_ | with_reducible refine q_bl ?_ | with_reducible refine q_iT ?_ | with_reducible refine q_iF ?_ | with_reducible refine q_nT ?_ | with_reducible refine q_nF ?_
    | with_reducible refine q_sif0 ?_ | with_reducible refine q_if0 ?_ | with_reducible refine q_sif ?_ | with_reducible refine q_if ?_ | with_reducible refine q_sdrop ?_ | with_reducible refine q_drop ?_ | with_reducible refine q_asg ?_ | with_reducible refine q_ret ?_ | with_reducible refine q_un ?_ | with_reducible refine q_u ?_ | with_reducible refine q_ifE ?_ | with_reducible refine q_or ?_ | with_reducible refine q_and ?_ | with_reducible refine q_not ?_ | with_reducible refine q_andV ?_ | with_reducible refine q_orV ?_ | with_reducible refine q_notV ?_ | with_reducible refine q_isN ?_ | with_reducible refine q_notN ?_ | with_reducible refine q_make ?_ | with_reducible refine q_meth ?_ | with_reducible refine q_sp ?_ | with_reducible refine q_par ?_ | with_reducible refine q_two ?_ | with_reducible refine q_in ?_ | with_reducible refine q_sl ?_ | with_reducible refine q_part ?_ | with_reducible refine q_nopart ?_ | with_reducible refine q_fmt ?_ | with_reducible refine q_dnew ?_ | with_reducible refine q_chain ?_ | with_reducible refine q_yes ?_ | with_reducible refine q_mkO ?_ | with_reducible refine q_int1' ?_ | with_reducible refine q_iR1 ?_ | with_reducible refine q_iR2 ?_ | with_reducible refine q_iRA ?_ | with_reducible refine q_iL ?_ | with_reducible refine q_iT2 ?_ | with_reducible refine q_rA ?_ | with_reducible refine q_iR3 ?_ | with_reducible refine q_sfor ?_ | with_reducible refine q_for ?_
    | ((with_reducible refine q_eq ?_ ?_); exact rfl) | ((with_reducible refine q_ne ?_ ?_); exact rfl) | ((with_reducible refine q_pow ?_ ?_); exact ⟨by decide, by decide, by decide⟩)))
section
variable {P : Program} {w : World} {K : PySem.W.Frag} {mg : Str → Option Value} {base : Heap} {B Bm Bc Bt C : Addr}
abbrev sAreL : Stmt := top 7
abbrev nAreL : List Str := ["values", "low", "high", "value"]
theorem scAreL : FnScope nAreL ["values", "low", "high"] (defScope sAreL) := ⟨rfl, rfl, rfl, by decide +kernel, rfl, by decide +kernel, by decide +kernel⟩
theorem ok_AreL {f : Addr} {fd : FuncData} (F : Fun K "are_between" "are_between" sAreL f fd) (T : Bi mg) (mA : mg "all" = none) (mT : mg "tuple" = none) (D : DefOf P w K mg base "is_between" 2 ["value", "low", "high"] (spBetw K)) : FnOk P w K mg base CX0 3 f fd ["values", "low", "high"] (spAreL K) := by
  obtain ⟨fD, fdD, FD, mD, kD, bD⟩ := D.ex
  refine F.ok scAreL (fun vs H Q E h => ?_) (fun cdv A outer s H vs Q E hr h => ?_)
  · obtain ⟨v, lo, hi, r, rfl, _⟩ := h
    rfl
  · obtain ⟨v, lo, hi, r, rfl, h, k⟩ := h
    rcases h with ⟨a, xs, b, rfl, hx, hz, hb, rfl⟩ | ⟨⟨t, ty, kt⟩, rfl⟩
    · rcases hx with hx | hx | hx
      · refine ⟨_, (pss_one (ps_ret (pe_and (pe_callB call_isiT (by rfl) T.isinstance (by decide +kernel) (pa_cons (pv 0) (pa_cons (pe_tup (pa_cons (pe_bltn (v := .ty "list") (by rfl) T.list (by decide +kernel) rfl) (pa_cons (pe_bltn (v := .ty "tuple") (by rfl) mT (by decide +kernel) rfl) pa_nil))) pa_nil)))
          (pe_one (pe_callB (cr_all rfl) (by rfl) mA (by decide +kernel) (pa_cons (pe_lc (own := [("value", 3)]) (g := gName 3) (tt := tYes) (te := tCall (spBetw K) [] E0 (tCons (tVar 3) (tCons (tVar 1) (tCons (tVar 2) tNil)))) (by rfl) scAreL.nd (pi_list (pv 0)) (blkOk_by (own := [("value", 3)]) (N := nAreL) (sc := defScope sAreL) (by decide +kernel))
            (fun _ _ _ _ _ => pg_name (i := 3) scAreL.nd rfl (.inl rfl)) (fun _ _ _ _ _ => pts_nil) (fun _ _ _ _ _ => pe_call FD hr rfl mD kD bD .nil pass0 (pa_cons (pv 3) (pa_cons (pv 1) (pa_cons (pv 2) pa_nil))))) pa_nil)))))), ?_⟩
        refine rd_ret (rd_andV (rd_cb (rd_cons (rd_var rfl (rd_cons (rd_tup (rd_cons (rd_c (rd_cons (rd_c (rd_nil ⟨by show 2 ≤ sizeLine; decide, fun tp htp => ?_⟩)))))))))))
        have s1 := same_new (o := .tup [.ty "list", .ty "tuple"]) (Same.refl H) htp
        refine rd_nil ⟨_, tp, _, _, _, true, rfl, upd_same, .cons (.ty _) (.cons (.ty _) .nil), .base (.lst (s1 _ _ hx)), kit_list, true, rfl, iteT ?_⟩
        refine rd_cb (rd_cons ⟨_, rfl, a, rfl, ⟨_, SqL.of (s1 _ _ hx)⟩, fun D1 hD1 => lc_mapL (K := K) (a := a) (fun x => .bl (b x)) hD1 (s1 _ _ hx) hz (fun _ => rfl) (fun x hm H' Q s' q => rd_call (rd_cons (rd_var rfl (rd_cons (rd_var rfl (rd_cons (rd_var rfl (rd_nil (((hb x hm).keep (s1.trans s')).sp q))))))))) ?_⟩)
        have s2 := same_new (o := .lst (xs.map fun x => .bl (b x))) s1 hD1
        have eb : xs.map (fun x => V.bl (b x)) = (xs.map b).map V.bl := by rw [List.map_map]; rfl
        refine rd_nil ⟨D1, xs.map b, rfl, SqL.of (by rw [upd_same, eb]), ?_⟩
        have ea : (xs.map b).all id = xs.all b := by rw [List.all_map]; rfl
        rw [ea]
        exact k _ s2
      · refine ⟨_, (pss_one (ps_ret (pe_and (pe_callB call_isiT (by rfl) T.isinstance (by decide +kernel) (pa_cons (pv 0) (pa_cons (pe_tup (pa_cons (pe_bltn (v := .ty "list") (by rfl) T.list (by decide +kernel) rfl) (pa_cons (pe_bltn (v := .ty "tuple") (by rfl) mT (by decide +kernel) rfl) pa_nil))) pa_nil)))
          (pe_one (pe_callB (cr_all rfl) (by rfl) mA (by decide +kernel) (pa_cons (pe_lc (own := [("value", 3)]) (g := gName 3) (tt := tYes) (te := tCall (spBetw K) [] E0 (tCons (tVar 3) (tCons (tVar 1) (tCons (tVar 2) tNil)))) (by rfl) scAreL.nd (pi_tup (pv 0)) (blkOk_by (own := [("value", 3)]) (N := nAreL) (sc := defScope sAreL) (by decide +kernel))
            (fun _ _ _ _ _ => pg_name (i := 3) scAreL.nd rfl (.inl rfl)) (fun _ _ _ _ _ => pts_nil) (fun _ _ _ _ _ => pe_call FD hr rfl mD kD bD .nil pass0 (pa_cons (pv 3) (pa_cons (pv 1) (pa_cons (pv 2) pa_nil))))) pa_nil)))))), ?_⟩
        refine rd_ret (rd_andV (rd_cb (rd_cons (rd_var rfl (rd_cons (rd_tup (rd_cons (rd_c (rd_cons (rd_c (rd_nil ⟨by show 2 ≤ sizeLine; decide, fun tp htp => ?_⟩)))))))))))
        have s1 := same_new (o := .tup [.ty "list", .ty "tuple"]) (Same.refl H) htp
        refine rd_nil ⟨_, tp, _, _, _, true, rfl, upd_same, .cons (.ty _) (.cons (.ty _) .nil), .base (.tup (s1 _ _ hx)), kit_tuple, true, rfl, iteT ?_⟩
        refine rd_cb (rd_cons ⟨_, rfl, a, rfl, ⟨_, SqT.of (s1 _ _ hx)⟩, fun D1 hD1 => lc_mapT (K := K) (a := a) (fun x => .bl (b x)) hD1 (s1 _ _ hx) hz (fun _ => rfl) (fun x hm H' Q s' q => rd_call (rd_cons (rd_var rfl (rd_cons (rd_var rfl (rd_cons (rd_var rfl (rd_nil (((hb x hm).keep (s1.trans s')).sp q))))))))) ?_⟩)
        have s2 := same_new (o := .lst (xs.map fun x => .bl (b x))) s1 hD1
        have eb : xs.map (fun x => V.bl (b x)) = (xs.map b).map V.bl := by rw [List.map_map]; rfl
        refine rd_nil ⟨D1, xs.map b, rfl, SqL.of (by rw [upd_same, eb]), ?_⟩
        have ea : (xs.map b).all id = xs.all b := by rw [List.all_map]; rfl
        rw [ea]
        exact k _ s2
      · refine ⟨_, (pss_one (ps_ret (pe_and (pe_callB call_isiT (by rfl) T.isinstance (by decide +kernel) (pa_cons (pv 0) (pa_cons (pe_tup (pa_cons (pe_bltn (v := .ty "list") (by rfl) T.list (by decide +kernel) rfl) (pa_cons (pe_bltn (v := .ty "tuple") (by rfl) mT (by decide +kernel) rfl) pa_nil))) pa_nil)))
          (pe_one (pe_callB (cr_all rfl) (by rfl) mA (by decide +kernel) (pa_cons (pe_lc (own := [("value", 3)]) (g := gName 3) (tt := tYes) (te := tCall (spBetw K) [] E0 (tCons (tVar 3) (tCons (tVar 1) (tCons (tVar 2) tNil)))) (by rfl) scAreL.nd (pi_tup (pv 0)) (blkOk_by (own := [("value", 3)]) (N := nAreL) (sc := defScope sAreL) (by decide +kernel))
            (fun _ _ _ _ _ => pg_name (i := 3) scAreL.nd rfl (.inl rfl)) (fun _ _ _ _ _ => pts_nil) (fun _ _ _ _ _ => pe_call FD hr rfl mD kD bD .nil pass0 (pa_cons (pv 3) (pa_cons (pv 1) (pa_cons (pv 2) pa_nil))))) pa_nil)))))), ?_⟩
        refine rd_ret (rd_andV (rd_cb (rd_cons (rd_var rfl (rd_cons (rd_tup (rd_cons (rd_c (rd_cons (rd_c (rd_nil ⟨by show 2 ≤ sizeLine; decide, fun tp htp => ?_⟩)))))))))))
        have s1 := same_new (o := .tup [.ty "list", .ty "tuple"]) (Same.refl H) htp
        refine rd_nil ⟨_, tp, _, _, _, true, rfl, upd_same, .cons (.ty _) (.cons (.ty _) .nil), hx.ty, kit_tuple, true, rfl, iteT ?_⟩
        refine rd_cb (rd_cons ⟨_, rfl, a, rfl, ⟨_, hx.sq⟩, fun D1 hD1 => lc_mapF (K := K) (a := a) (fun x => .bl (b x)) hD1 (fun _ => hx.sq) hz (fun _ => rfl) (fun x hm H' Q s' q => rd_call (rd_cons (rd_var rfl (rd_cons (rd_var rfl (rd_cons (rd_var rfl (rd_nil (((hb x hm).keep (s1.trans s')).sp q))))))))) ?_⟩)
        have s2 := same_new (o := .lst (xs.map fun x => .bl (b x))) s1 hD1
        have eb : xs.map (fun x => V.bl (b x)) = (xs.map b).map V.bl := by rw [List.map_map]; rfl
        refine rd_nil ⟨D1, xs.map b, rfl, SqL.of (by rw [upd_same, eb]), ?_⟩
        have ea : (xs.map b).all id = xs.all b := by rw [List.all_map]; rfl
        rw [ea]
        exact k _ s2
    · refine ⟨_, (pss_one (ps_ret (pe_and (pe_callB call_isiT (by rfl) T.isinstance (by decide +kernel) (pa_cons (pv 0) (pa_cons (pe_tup (pa_cons (pe_bltn (v := .ty "list") (by rfl) T.list (by decide +kernel) rfl) (pa_cons (pe_bltn (v := .ty "tuple") (by rfl) mT (by decide +kernel) rfl) pa_nil))) pa_nil)))
          (pe_one (pe_callB (cr_all rfl) (by rfl) mA (by decide +kernel) (pa_cons (pe_lc (own := [("value", 3)]) (g := gName 3) (tt := tYes) (te := tCall (spBetw K) [] E0 (tCons (tVar 3) (tCons (tVar 1) (tCons (tVar 2) tNil)))) (by rfl) scAreL.nd (pi_list (pv 0)) (blkOk_by (own := [("value", 3)]) (N := nAreL) (sc := defScope sAreL) (by decide +kernel))
            (fun _ _ _ _ _ => pg_name (i := 3) scAreL.nd rfl (.inl rfl)) (fun _ _ _ _ _ => pts_nil) (fun _ _ _ _ _ => pe_call FD hr rfl mD kD bD .nil pass0 (pa_cons (pv 3) (pa_cons (pv 1) (pa_cons (pv 2) pa_nil))))) pa_nil)))))), ?_⟩
      refine rd_ret (rd_andV (rd_cb (rd_cons (rd_var rfl (rd_cons (rd_tup (rd_cons (rd_c (rd_cons (rd_c (rd_nil ⟨by show 2 ≤ sizeLine; decide, fun tp htp => ?_⟩)))))))))))
      have s1 := same_new (o := .tup [.ty "list", .ty "tuple"]) (Same.refl H) htp
      exact rd_nil ⟨_, tp, _, _, _, false, rfl, upd_same, .cons (.ty _) (.cons (.ty _) .nil), TyX.keep ty s1, kt, false, rfl, iteF (k _ s1)⟩
end
section
variable {P : Program} {w : World} {K : PySem.W.Frag} {mg : Str → Option Value} {base : Heap} {B Bm Bc Bt C : Addr}
abbrev sAscL : Stmt := top 10
abbrev nAscL : List Str := ["numbers", "number"]
theorem scAscL : FnScope nAscL ["numbers"] (defScope sAscL) := ⟨rfl, rfl, rfl, by decide +kernel, rfl, by decide +kernel, by decide +kernel⟩
theorem ok_AscL {f : Addr} {fd : FuncData} (F : Fun K "ascending" "ascending" sAscL f fd) (T : Bi mg) (mS : mg "sorted" = none) (mE : mg "set" = none) : FnOk P w K mg base CX0 1 f fd ["numbers"] (spAscL K) := by
  refine F.ok scAscL (fun vs H Q E h => ?_) (fun cdv A outer s H vs Q E hr h => ?_)
  · obtain ⟨a, ns, rfl, _⟩ := h
    rfl
  · obtain ⟨a, ns, rfl, ha, hz, k⟩ := h
    refine ⟨_, pss_one (ps_ret (pe_callB (cr_sortedSetA rfl) (by rfl) mS (by decide +kernel) (pa_cons (pe_callTy (cr_setL rfl) (by rfl) mE (by decide +kernel) (pa_cons
      (pe_lc (own := [("number", 1)]) (g := gName 1) (tt := tYes) (te := tCB (fun xs H Q => (∃ i, xs = [.int i] ∧ Q (.int i) H) ∨ ∃ k, xs = [.bl k] ∧ Q (.int (if k then 1 else 0)) H) (tCons (tVar 1) tNil)) (by rfl) scAscL.nd (pi_list (pv 0)) (blkOk_by (own := [("number", 1)]) (N := nAscL) (sc := defScope sAscL) (by decide +kernel))
            (fun _ _ _ _ _ => pg_name (i := 1) scAscL.nd rfl (.inl rfl)) (fun _ _ _ _ _ => pts_nil) (fun _ _ _ _ _ => pe_callTy call_int1 (by rfl) T.int (by decide +kernel) (pa_cons (pv 1) pa_nil))) pa_nil)) pa_nil))), ?_⟩
    refine rd_ret (rd_cb (rd_cons (rd_cb (rd_cons ⟨_, rfl, a, rfl, ⟨_, SqL.of ha⟩, fun D1 hD1 => lc_mapL (K := K) (a := a) (xs := ns.map V.int) id hD1 ha (by rw [List.length_map, sizeLine_eq]; omega) (fun _ => rfl) (fun x hx H' Q s' q => ?_) ?_⟩))))
    · obtain ⟨n, _, rfl⟩ := List.mem_map.mp hx
      exact rd_cb (rd_cons (rd_var rfl (rd_nil (.inl ⟨n, rfl, q⟩))))
    · have s1 := same_new (o := .lst ((ns.map V.int).map id)) (Same.refl H) hD1
      refine rd_nil ⟨D1, ns, rfl, SqL.of (by rw [upd_same, List.map_id]), by omega, fun p c hp hc => ?_⟩
      have s2 := same_new (o := SetO w p (fun j => decide (j ∈ ns)) c) s1 hp
      refine rd_nil ⟨p, _, c, rfl, upd_same, by omega, fun ms q h1 h2 _ hq => ?_⟩
      exact k _ q ms (same_new s2 hq) upd_same h1 (fun j => by rw [h2 j, decide_eq_true_eq])
end
section
variable {P : Program} {w : World} {K : PySem.W.Frag} {mg : Str → Option Value} {base : Heap} {B Bm Bc Bt C : Addr}
abbrev sLs : Stmt := top 35
abbrev nLs : List Str := ["truths", "start", "period", "at"]
theorem scLs : FnScope nLs ["truths", "start", "period"] (defScope sLs) := ⟨rfl, rfl, rfl, by decide +kernel, rfl, by decide +kernel, by decide +kernel⟩
theorem ok_Ls {f : Addr} {fd : FuncData} (F : Fun K "least_start" "least_start" sLs f fd) (Tb : Bi mg) : FnOk P w K mg base CX0 1 f fd ["truths", "start", "period"] spLs := by
  refine F.ok scLs (fun vs H Q E h => ?_) (fun cdv A outer s H vs Q E hr h => ?_)
  · obtain ⟨a, bs, k, p, rfl, _⟩ := h
    rfl
  · obtain ⟨a, bs, k, p, rfl, ha, hb, hz, q⟩ := h
    refine ⟨_, pss_cons (ps_for PassesOwn.never rfl (pi_range3 (by rfl) Tb.range (pa_cons (pv 1) (pa_cons pe_int (pa_cons (pe_un un_neg pe_int) pa_nil)))) (pg_name (i := 3) scLs.nd rfl (.inl rfl))
        (pss_one (ps_if (pt_cmpR op_ne (pe_ix ix_list (pv 0) (pe_op op_sub (pv 3) pe_int) (fun _ _ => rfl)) (pe_ix ix_list (pv 0) (pe_op op_add (pe_op op_sub (pv 3) pe_int) (pv 2)) (fun _ _ => rfl)) (nomark _)) (pss_one (ps_ret (pv 3))) pss_nil)))
      (pss_one (ps_ret pe_int)), ?_⟩
    and_intros
    refine ⟨k, 0, -1, k, rfl, down_rg k (by omega), for_rangeC (D := { nx := _, rt := Q }) (fun i σ H' => ∃ x, σ = [some (.ref a), some (.int k), some (.int p), x] ∧ H' = H ∧ lsG bs k p = lsG bs (k - i) p) ⟨_, rfl, rfl, rfl⟩ ?_ ?_⟩
    · rintro i σ H1 hi ⟨x, rfl, rfl, no⟩
      obtain ⟨j, hj⟩ : ∃ j, k - i = j + 1 := ⟨k - i - 1, by omega⟩
      have e1 : (k : Int) + (i : Nat) * (-1) - 1 = (j : Int) := by omega
      show tIfS _ _ _ _ _ _
      and_intros
      refine q_ixL ha (v := .bl (atB bs (j : Nat))) (by rw [e1]; exact atI_bools (by omega) (by omega)) ?_
      and_intros
      refine q_ixL ha (v := .bl (atB bs ((j + p : Nat) : Int))) (by rw [e1, show (j : Int) + p = ((j + p : Nat) : Int) by omega]; exact atI_bools (by omega) (by omega)) ?_
      and_intros
      rw [dec_bl]
      have es : lsG bs (j + 1) p = if bs.getD j false = bs.getD (j + p) false then lsG bs j p else j + 1 := rfl
      rw [hj, es] at no
      refine ite2 (fun c => ?_) (fun c => ?_)
      · rw [if_neg (fun z => by rw [show atB bs (j : Nat) = atB bs ((j + p : Nat) : Int) from z, decide_eq_true rfl] at c; cases c)] at no
        rw [no] at q
        and_intros
        rw [show (k : Int) + (i : Nat) * (-1) = ((j + 1 : Nat) : Int) by omega]
        exact q
      · have c' : atB bs (j : Nat) = atB bs ((j + p : Nat) : Int) := by
          cases e : decide (atB bs (j : Nat) = atB bs ((j + p : Nat) : Int)) with
          | true => exact of_decide_eq_true e
          | false => rw [e] at c; exact absurd rfl c
        rw [if_pos (show bs.getD j false = bs.getD (j + p) false from c')] at no
        exact ⟨_, rfl, rfl, by rw [no, show k - (i + 1) = j by omega]⟩
    · rintro σ H1 ⟨x, rfl, rfl, no⟩
      and_intros
      rw [Nat.sub_self] at no
      rw [no] at q
      exact q
end
section
variable {P : Program} {w : World} {K : PySem.W.Frag} {mg : Str → Option Value} {base : Heap} {B Bm Bc Bt C : Addr}
abbrev sFo : Stmt := top 36
abbrev nFo : List Str := ["truths", "start", "period", "least", "low", "rests", "n"]
theorem scFo : FnScope nFo ["truths", "start"] (defScope sFo) := ⟨rfl, rfl, rfl, by decide +kernel, rfl, by decide +kernel, by decide +kernel⟩
theorem ok_Fo {f : Addr} {fd : FuncData} (F : Fun K "form_of" "form_of" sFo f fd) (Tb : Bi mg) (Dp : DefOf P w K mg base "least_period" 1 ["truths"] (spLp K)) (Ds : DefOf P w K mg base "least_start" 1 ["truths", "start", "period"] spLs) (Da : DefOf P w K mg base "ascending" 1 ["numbers"] (spAscL K)) : FnOk P w K mg base CX0 2 f fd ["truths", "start"] spFo := by
  obtain ⟨fP, fdP, FP, mP, kP, bP⟩ := Dp.ex
  obtain ⟨fS, fdS, FS, mS, kS, bS⟩ := Ds.ex
  obtain ⟨fA, fdA, FA, mA, kA, bA⟩ := Da.ex
  refine F.ok scFo (fun vs H Q E h => ?_) (fun cdv A outer s H vs Q E hr h => ?_)
  · obtain ⟨a, bs, k, rfl, _⟩ := h
    rfl
  · obtain ⟨a, bs, k, rfl, ha, hk, hz, q⟩ := h
    have r1 := hr
    refine ⟨_, pss_cons (ps_set (i := 2) scFo.nd rfl (.inr rfl) (pe_call FP r1 rfl mP kP bP .nil pass0 (pa_cons (pe_slice sl_list (pv 0) (po_some (pv 1)) po_none) pa_nil)))
      (pss_cons (ps_set (i := 3) scFo.nd rfl (.inl rfl) (pe_call FS r1 rfl mS kS bS .nil pass0 (pa_cons (pv 0) (pa_cons (pv 1) (pa_cons (pv 2) pa_nil)))))
      (pss_cons (ps_setLc (i := 4) (own := [("n", 6)]) (g := (gName 6)) (tt := (tB (tOp (rIxL K) (tVar 0) (tVar 6)))) (te := (tVar 6)) (by rfl) scFo.nd rfl rfl (sw_true rfl rfl rfl (by decide +kernel)) (pi_range1 (by rfl) Tb.range (pa_cons (pv 3) pa_nil)) (blkOk_by (own := [("n", 6)]) (N := nFo) (sc := defScope sFo) (by decide +kernel)) (fun _ _ _ _ _ => pg_name (i := 6) scFo.nd rfl (.inl rfl)) (fun _ _ _ _ _ => pts_one (pt_val (pe_ix ix_list (pv 0) (pv 6) (fun _ _ => rfl)))) (fun _ _ _ _ _ => pv 6))
      (pss_cons (ps_setLc (i := 5) (own := [("n", 6)]) (g := (gName 6)) (tt := (tB (tOp (rIxL K) (tVar 0) (tVar 6)))) (te := (tOp (rI (fun _ j => 0 < j) fun i j => .int (i % j)) (tVar 6) (tVar 2))) (by rfl) scFo.nd rfl rfl (sw_true rfl rfl rfl (by decide +kernel)) (pi_rangeA (by rfl) Tb.range (pa_cons (pv 1) (pa_cons (pe_op op_add (pv 1) (pv 2)) pa_nil))) (blkOk_by (own := [("n", 6)]) (N := nFo) (sc := defScope sFo) (by decide +kernel)) (fun _ _ _ _ _ => pg_name (i := 6) scFo.nd rfl (.inl rfl)) (fun _ _ _ _ _ => pts_one (pt_val (pe_ix ix_list (pv 0) (pv 6) (fun _ _ => rfl)))) (fun _ _ _ _ _ => pe_op op_mod (pv 6) (pv 2)))
      (pss_one (ps_ret (pe_tup (pa_cons (pv 3) (pa_cons (pe_callTy call_tuple_of (by rfl) Tb.tuple (by decide +kernel) (pa_cons (pv 4) pa_nil)) (pa_cons (pv 2) (pa_cons (pe_callTy call_tuple_of (by rfl) Tb.tuple (by decide +kernel) (pa_cons (pe_call FA r1 rfl mA kA bA .nil pass0 (pa_cons (pv 5) pa_nil)) pa_nil)) pa_nil)))))))))), ?_⟩
    have W : Kw H H [(a, .lst (bs.map V.bl))] := Kw.fst.know ha
    and_intros
    refine q_slL W.at (W.al fun l1 H1 W => ?_)
    have e1 : H1 l1 = some (.lst ((bs.drop k).map V.bl)) := by
      have z := W.at (a := l1)
      rw [cut_sufV, ← List.map_drop] at z
      exact z
    have L := fB_LF hk
    have l1 : lsF bs k ≤ k := lsG_le bs (lpF bs k) k
    have l2 : lpF bs k ≤ (bs.drop k).length := lpG_le (bs.drop k)
    rw [List.length_drop] at l2
    have p1 := L.pos
    and_intros
    refine ⟨_, bs.drop k, rfl, e1, by rw [List.length_drop]; omega, by rw [List.length_drop]; omega, fun H2 s2 => ?_⟩
    have W := W.same s2
    change tSeq _ _ _ _ _
    and_intros
    refine ⟨a, bs, k, lpG (bs.drop k), rfl, W.at, by show k + lpF bs k ≤ _; omega, hz, ?_⟩
    change tSeq _ _ _ _ _
    have ed : ∀ d : Int, 0 ≤ d → d < bs.length → atB bs d = fB bs k d.toNat := fun d d1 d2 => (fB_lt (by omega)).symm
    generalize hs : lsG bs k (lpG (bs.drop k)) = sv
    generalize hp : lpG (bs.drop k) = pv
    replace hs : lsF bs k = sv := hs
    replace hp : lpF bs k = pv := hp
    rw [hs] at l1
    rw [hp] at l2 p1
    rw [hs, hp] at L
    refine q_sa ?_
    refine q_lc (q_iR1 ?_)
    and_intros
    refine ⟨_, rfl, by omega, by omega, fun D1 hD1 => ?_⟩
    rw [Int.toNat_natCast]
    refine lc_filR (atB bs) V.int hD1 (by rw [sizeLine_eq]; omega) (fun _ => rfl) (fun d hd H' Q s' q => ?_) (fun d hd _ H' Q s' q => q_var rfl q) ?_
    · have := mem_rgN.mp hd
      and_intros
      exact ⟨a, _, d, _, rfl, rfl, SqL.of (s' _ _ W.at), atI_bools (by omega) (by omega), _, rfl, q⟩
    have eL : (rgN 0 sv).filter (atB bs) = lowI (fB bs k) sv := List.filter_congr fun d hd => by
      have := mem_rgN.mp hd
      exact ed d (by omega) (by omega)
    rw [eL]
    have W := W.new (o := .lst ((lowI (fB bs k) sv).map V.int)) hD1
    generalize upd H2 D1 (.lst ((lowI (fB bs k) sv).map V.int)) = H3 at W
    and_intros
    refine q_lc (q_iRA ?_)
    and_intros
    refine ⟨_, _, rfl, fun D2 hD2 => ?_⟩
    rw [show ((k : Int) + pv - k).toNat = pv by omega]
    refine lc_filR (atB bs) (fun d => .int (d % (pv : Int))) hD2 (by rw [sizeLine_eq]; omega) (fun _ => rfl) (fun d hd H' Q s' q => ?_) (fun d hd _ H' Q s' q => ?_) ?_
    · have := mem_rgN.mp hd
      and_intros
      exact ⟨a, _, d, _, rfl, rfl, SqL.of (s' _ _ W.at), atI_bools (by omega) (by omega), _, rfl, q⟩
    · and_intros
      exact ⟨_, _, rfl, rfl, by show (0 : Int) < pv; omega, q⟩
    have eR : ((rgN (k : Int) pv).filter (atB bs)).map (fun d => V.int (d % (pv : Int))) = (((rgN (k : Int) pv).filter (atB bs)).map (fun d => d % (pv : Int))).map V.int := by rw [List.map_map]; rfl
    rw [eR]
    have W := W.new (o := .lst ((((rgN (k : Int) pv).filter (atB bs)).map (fun d => d % (pv : Int))).map V.int)) hD2
    generalize upd H3 D2 (.lst ((((rgN (k : Int) pv).filter (atB bs)).map (fun d => d % (pv : Int))).map V.int)) = H4 at W
    have mR : ∀ r : Int, r ∈ ((rgN (k : Int) pv).filter (atB bs)).map (fun d => d % (pv : Int)) ↔ r ∈ restI (fB bs k) sv pv := fun r => by
      rw [mem_restI, List.mem_map]
      constructor
      · rintro ⟨d, hd, rfl⟩
        obtain ⟨hd1, hd2⟩ := List.mem_filter.mp hd
        have := mem_rgN.mp hd1
        have m1 := Int.emod_nonneg d (b := (pv : Int)) (by omega)
        have m2 := Int.emod_lt_of_pos d (b := (pv : Int)) (by omega)
        refine ⟨⟨m1, m2⟩, ?_⟩
        rw [ed d (by omega) (by omega)] at hd2
        rw [← hd2]
        refine L.per.cong (by have := Nat.le_mul_of_pos_left sv p1; omega) (by omega) ?_
        rw [Nat.add_mul_mod_self_left]
        have t : (d % (pv : Int)).toNat = d.toNat % pv := by
          have e : d = ((d.toNat : Nat) : Int) := by omega
          rw [e, ← Int.natCast_emod, Int.toNat_natCast, Int.toNat_natCast]
        rw [t, Nat.mod_mod]
      · rintro ⟨⟨r1, r2⟩, hr⟩
        obtain ⟨j, rfl⟩ : ∃ j : Nat, r = (j : Int) := ⟨r.toNat, by omega⟩
        rw [Int.toNat_natCast] at hr
        have ml := Nat.mod_lt (j + pv * k - k) (show 0 < pv by omega)
        have kl := Nat.le_mul_of_pos_left k p1
        have cg : (k + (j + pv * k - k) % pv) % pv = j := by
          rw [Nat.add_mod_mod, show k + (j + pv * k - k) = j + pv * k by omega, Nat.add_mul_mod_self_left, Nat.mod_eq_of_lt (by omega)]
        refine ⟨((k + (j + pv * k - k) % pv : Nat) : Int), List.mem_filter.mpr ⟨mem_rgN.mpr ⟨by omega, by omega⟩, ?_⟩, by rw [← Int.natCast_emod, cg]⟩
        rw [ed _ (by omega) (by omega), Int.toNat_natCast, ← hr]
        refine L.per.cong (by omega) (by have := Nat.le_mul_of_pos_left sv p1; omega) ?_
        rw [cg, Nat.add_mul_mod_self_left, Nat.mod_eq_of_lt (by omega)]
    and_intros
    refine ⟨D1, _, rfl, .inl ⟨SqL.of W.at, fun t1 ht1 => ?_⟩⟩
    have W := W.new (o := .tup ((lowI (fB bs k) sv).map V.int)) ht1
    generalize upd H4 t1 (.tup ((lowI (fB bs k) sv).map V.int)) = H5 at W
    and_intros
    refine ⟨D2, _, rfl, W.at, by rw [List.length_map]; exact Nat.le_trans (List.length_filter_le _ _) (by simp; omega), fun H6 l3 ms s6 e6 hs6 hm6 => ?_⟩
    obtain rfl : ms = restI (fB bs k) sv pv := asc_uniq hs6 (restI_sorted _ _ _) fun r => (hm6 r).trans (mR r)
    have W := W.same s6
    and_intros
    refine ⟨l3, _, rfl, .inl ⟨SqL.of e6, fun t2 ht2 => ?_⟩⟩
    have W := W.new (o := .tup ((restI (fB bs k) sv pv).map V.int)) ht2
    generalize upd H6 t2 (.tup ((restI (fB bs k) sv pv).map V.int)) = H7 at W
    and_intros
    refine W.al fun t3 H8 W => ?_
    exact q _ t3 sv pv W.sm L l1 (by omega) ⟨t1, t2, W.at, W.at, W.at⟩
end
section
variable {P : Program} {w : World} {K : PySem.W.Frag} {mg : Str → Option Value} {base : Heap} {B Bm Bc Bt C : Addr}
abbrev sHas : Stmt := top 41
abbrev nHas : List Str := ["form", "n", "start", "low", "period", "rests"]
theorem scHas : FnScope nHas ["form", "n"] (defScope sHas) := ⟨rfl, rfl, rfl, by decide +kernel, rfl, by decide +kernel, by decide +kernel⟩
theorem ok_Has {f : Addr} {fd : FuncData} (F : Fun K "has" "has" sHas f fd) : FnOk P w K mg base CX0 1 f fd ["form", "n"] spHas := by
  refine F.ok scHas (fun vs H Q E h => ?_) (fun cdv A outer s H vs Q E hr h => ?_)
  · obtain ⟨t, f, s, p, n, rfl, _⟩ := h
    rfl
  · obtain ⟨t, f, s, p, n, rfl, ht, L, q⟩ := h
    refine ⟨_, pss_cons (ps_asg (pv 0) (pg_tup rfl (pgs_cons (pg_name (i := 2) scHas.nd rfl (.inl rfl)) (pgs_cons (pg_name (i := 3) scHas.nd rfl (.inl rfl)) (pgs_cons (pg_name (i := 4) scHas.nd rfl (.inl rfl)) (pgs_cons (pg_name (i := 5) scHas.nd rfl (.inl rfl)) pgs_nil))))))
      (pss_one (ps_ret (pe_ifExp (pt_cmpR op_lt (pv 1) (pv 2) (nomark _)) (pe_cmpR op_in_seq (pv 1) (pv 3) rfl) (pe_cmpR op_in_seq (pe_op op_mod (pv 1) (pv 4)) (pv 5) rfl)))), ?_⟩
    refine q_sag ?_
    and_intros
    refine q_form4 ht rfl fun lo re e2 e3 => ?_
    and_intros
    refine ite2 (fun c => ?_) (fun c => ?_)
    · have c : n < s := by have := of_decide_eq_true c; omega
      and_intros
      refine rd_inI (.inr e2) ?_
      rw [lowI_at c]
      exact q
    · have c : s ≤ n := by
        rcases Nat.lt_or_ge n s with z | z
        · exact absurd (decide_eq_true (show (n : Int) < s by omega)) c
        · exact z
      and_intros
      refine ⟨_, _, rfl, rfl, by show (0 : Int) < p; have := L.pos; omega, ?_⟩
      and_intros
      refine rd_inI (.inr e3) ?_
      rw [restI_at L c]
      exact q
end
section
variable {P : Program} {w : World} {K : PySem.W.Frag} {mg : Str → Option Value} {base : Heap}
abbrev sIBadDays : Stmt := inClass (top 17) 0
theorem scIBadDays : FnScope ["self", "part"] ["self", "part"] (defScope sIBadDays) := ⟨rfl, rfl, rfl, by decide +kernel, rfl, by decide +kernel, by decide +kernel⟩
theorem okIBadDays {f C : Addr} {fd : FuncData} (F : Fun K "__init__" "BadDays.__init__" sIBadDays f fd) (T : OexC K C) (hn0 : PySem.W.findIn K (.ref C) "part" = some none) :
    FnOk P w K mg base CX0 1 f fd ["self", "part"] (spI C ["part"]) ∧ Binds K fd ["self", "part"] [] := by
  refine ⟨F.ok scIBadDays (fun vs H Q E h => ?_) (fun cdv A outer s H vs Q E hr h => ?_), F.binds (fun _ _ _ _ _ _ us hl => match us, hl with | [_, _], _ => rfl)⟩
  · obtain ⟨a, ws, rfl, hl, _⟩ := h
    rw [List.length_cons, hl]
    rfl
  · obtain ⟨a, ws, rfl, hl, ha, k⟩ := h
    match ws, hl with
    | [v], _ =>
      refine ⟨_, pss_one (ps_ost (pv 0) (pv 1)), ?_⟩
      refine ⟨_, rfl, _, rfl, a, C, rfl, T, hn0, .inl ⟨ha, fun dx hdx ne => ?_⟩⟩
      exact k _ dx (fun b o n e => by rw [upd_ne n, upd_ne (ne_of_none e hdx)]; exact e) hdx upd_same (by rw [upd_ne ne]; exact upd_same)
end
section
variable {P : Program} {w : World} {K : PySem.W.Frag} {mg : Str → Option Value} {base : Heap}
abbrev sIBadLengths : Stmt := inClass (top 16) 0
theorem scIBadLengths : FnScope ["self", "part"] ["self", "part"] (defScope sIBadLengths) := ⟨rfl, rfl, rfl, by decide +kernel, rfl, by decide +kernel, by decide +kernel⟩
theorem okIBadLengths {f C : Addr} {fd : FuncData} (F : Fun K "__init__" "BadLengths.__init__" sIBadLengths f fd) (T : OexC K C) (hn0 : PySem.W.findIn K (.ref C) "part" = some none) :
    FnOk P w K mg base CX0 1 f fd ["self", "part"] (spI C ["part"]) ∧ Binds K fd ["self", "part"] [] := by
  refine ⟨F.ok scIBadLengths (fun vs H Q E h => ?_) (fun cdv A outer s H vs Q E hr h => ?_), F.binds (fun _ _ _ _ _ _ us hl => match us, hl with | [_, _], _ => rfl)⟩
  · obtain ⟨a, ws, rfl, hl, _⟩ := h
    rw [List.length_cons, hl]
    rfl
  · obtain ⟨a, ws, rfl, hl, ha, k⟩ := h
    match ws, hl with
    | [v], _ =>
      refine ⟨_, pss_one (ps_ost (pv 0) (pv 1)), ?_⟩
      refine ⟨_, rfl, _, rfl, a, C, rfl, T, hn0, .inl ⟨ha, fun dx hdx ne => ?_⟩⟩
      exact k _ dx (fun b o n e => by rw [upd_ne n, upd_ne (ne_of_none e hdx)]; exact e) hdx upd_same (by rw [upd_ne ne]; exact upd_same)
end
section
variable {P : Program} {w : World} {K : PySem.W.Frag} {mg : Str → Option Value} {base : Heap}
abbrev sIBadCount : Stmt := inClass (top 20) 0
theorem scIBadCount : FnScope ["self", "value"] ["self", "value"] (defScope sIBadCount) := ⟨rfl, rfl, rfl, by decide +kernel, rfl, by decide +kernel, by decide +kernel⟩
theorem okIBadCount {f C : Addr} {fd : FuncData} (F : Fun K "__init__" "BadCount.__init__" sIBadCount f fd) (T : OexC K C) (hn0 : PySem.W.findIn K (.ref C) "value" = some none) :
    FnOk P w K mg base CX0 1 f fd ["self", "value"] (spI C ["value"]) ∧ Binds K fd ["self", "value"] [] := by
  refine ⟨F.ok scIBadCount (fun vs H Q E h => ?_) (fun cdv A outer s H vs Q E hr h => ?_), F.binds (fun _ _ _ _ _ _ us hl => match us, hl with | [_, _], _ => rfl)⟩
  · obtain ⟨a, ws, rfl, hl, _⟩ := h
    rw [List.length_cons, hl]
    rfl
  · obtain ⟨a, ws, rfl, hl, ha, k⟩ := h
    match ws, hl with
    | [v], _ =>
      refine ⟨_, pss_one (ps_ost (pv 0) (pv 1)), ?_⟩
      refine ⟨_, rfl, _, rfl, a, C, rfl, T, hn0, .inl ⟨ha, fun dx hdx ne => ?_⟩⟩
      exact k _ dx (fun b o n e => by rw [upd_ne n, upd_ne (ne_of_none e hdx)]; exact e) hdx upd_same (by rw [upd_ne ne]; exact upd_same)
end
section
variable {P : Program} {w : World} {K : PySem.W.Frag} {mg : Str → Option Value} {base : Heap}
abbrev sITooMany : Stmt := inClass (top 23) 0
theorem scITooMany : FnScope ["self", "what", "most"] ["self", "what", "most"] (defScope sITooMany) := ⟨rfl, rfl, rfl, by decide +kernel, rfl, by decide +kernel, by decide +kernel⟩
theorem okITooMany {f C : Addr} {fd : FuncData} (F : Fun K "__init__" "TooMany.__init__" sITooMany f fd) (T : OexC K C) (hn0 : PySem.W.findIn K (.ref C) "what" = some none) (hn1 : PySem.W.findIn K (.ref C) "most" = some none) :
    FnOk P w K mg base CX0 1 f fd ["self", "what", "most"] (spI C ["what", "most"]) ∧ Binds K fd ["self", "what", "most"] [] := by
  refine ⟨F.ok scITooMany (fun vs H Q E h => ?_) (fun cdv A outer s H vs Q E hr h => ?_), F.binds (fun _ _ _ _ _ _ us hl => match us, hl with | [_, _, _], _ => rfl)⟩
  · obtain ⟨a, ws, rfl, hl, _⟩ := h
    rw [List.length_cons, hl]
    rfl
  · obtain ⟨a, ws, rfl, hl, ha, k⟩ := h
    match ws, hl with
    | [v, v2], _ =>
      refine ⟨_, pss_cons (ps_ost (pv 0) (pv 1)) (pss_one (ps_ost (pv 0) (pv 2))), ?_⟩
      refine ⟨_, rfl, _, rfl, a, C, rfl, T, hn0, .inl ⟨ha, fun dx hdx ne => ?_⟩⟩
      refine ⟨_, rfl, _, rfl, a, C, rfl, T, hn1, .inr ⟨dx, _, upd_same, (by rw [upd_ne ne]; exact upd_same), (by show 1 ≤ 900; decide), ?_⟩⟩
      exact k _ dx (fun b o n e => by rw [upd_ne (ne_of_none e hdx), upd_ne n, upd_ne (ne_of_none e hdx)]; exact e) hdx (by rw [upd_ne ne.symm]; exact upd_same) upd_same
end
section
variable {P : Program} {w : World} {K : PySem.W.Frag} {mg : Str → Option Value} {base : Heap}
abbrev sIBadStay : Stmt := inClass (top 18) 0
theorem scIBadStay : FnScope ["self", "part"] ["self", "part"] (defScope sIBadStay) := ⟨rfl, rfl, rfl, by decide +kernel, rfl, by decide +kernel, by decide +kernel⟩
theorem okIBadStay {f C : Addr} {fd : FuncData} (F : Fun K "__init__" "BadStay.__init__" sIBadStay f fd) (T : OexC K C) (hn0 : PySem.W.findIn K (.ref C) "part" = some none) :
    FnOk P w K mg base CX0 1 f fd ["self", "part"] (spI C ["part"]) ∧ Binds K fd ["self", "part"] [] := by
  refine ⟨F.ok scIBadStay (fun vs H Q E h => ?_) (fun cdv A outer s H vs Q E hr h => ?_), F.binds (fun _ _ _ _ _ _ us hl => match us, hl with | [_, _], _ => rfl)⟩
  · obtain ⟨a, ws, rfl, hl, _⟩ := h
    rw [List.length_cons, hl]
    rfl
  · obtain ⟨a, ws, rfl, hl, ha, k⟩ := h
    match ws, hl with
    | [v], _ =>
      refine ⟨_, pss_one (ps_ost (pv 0) (pv 1)), ?_⟩
      refine ⟨_, rfl, _, rfl, a, C, rfl, T, hn0, .inl ⟨ha, fun dx hdx ne => ?_⟩⟩
      exact k _ dx (fun b o n e => by rw [upd_ne n, upd_ne (ne_of_none e hdx)]; exact e) hdx upd_same (by rw [upd_ne ne]; exact upd_same)
end
section
variable {P : Program} {w : World} {K : PySem.W.Frag} {mg : Str → Option Value} {base : Heap}
abbrev sIBadRule : Stmt := inClass (top 19) 0
theorem scIBadRule : FnScope ["self", "part"] ["self", "part"] (defScope sIBadRule) := ⟨rfl, rfl, rfl, by decide +kernel, rfl, by decide +kernel, by decide +kernel⟩
theorem okIBadRule {f C : Addr} {fd : FuncData} (F : Fun K "__init__" "BadRule.__init__" sIBadRule f fd) (T : OexC K C) (hn0 : PySem.W.findIn K (.ref C) "part" = some none) :
    FnOk P w K mg base CX0 1 f fd ["self", "part"] (spI C ["part"]) ∧ Binds K fd ["self", "part"] [] := by
  refine ⟨F.ok scIBadRule (fun vs H Q E h => ?_) (fun cdv A outer s H vs Q E hr h => ?_), F.binds (fun _ _ _ _ _ _ us hl => match us, hl with | [_, _], _ => rfl)⟩
  · obtain ⟨a, ws, rfl, hl, _⟩ := h
    rw [List.length_cons, hl]
    rfl
  · obtain ⟨a, ws, rfl, hl, ha, k⟩ := h
    match ws, hl with
    | [v], _ =>
      refine ⟨_, pss_one (ps_ost (pv 0) (pv 1)), ?_⟩
      refine ⟨_, rfl, _, rfl, a, C, rfl, T, hn0, .inl ⟨ha, fun dx hdx ne => ?_⟩⟩
      exact k _ dx (fun b o n e => by rw [upd_ne n, upd_ne (ne_of_none e hdx)]; exact e) hdx upd_same (by rw [upd_ne ne]; exact upd_same)
end
end NB
namespace NB
open PySem L2 ClX
local macro_rules
  | `(tactic| and_intros) => `(tactic| repeat (first
    | with_reducible refine q_cons ?_ | with_reducible refine q_c ?_ | ((with_reducible apply q_var); exact rfl) | with_reducible refine q_nil ?_ | with_reducible refine q_call ?_ | with_reducible refine q_op ?_
    | with_reducible refine q_sa ?_ | with_reducible refine ra_lst ?_ | with_reducible refine ra_tup ?_ | with_reducible refine q_i0 ?_ | with_reducible refine q_cb ?_ | with_reducible refine q_test ?_ | with_reducible refine q_b ?_ | with_reducible refine q_bl ?_ | with_reducible refine q_iT ?_ | with_reducible refine q_iF ?_ | with_reducible refine q_nT ?_ | with_reducible refine q_nF ?_
    | with_reducible refine q_sif0 ?_ | with_reducible refine q_if0 ?_ | with_reducible refine q_sif ?_ | with_reducible refine q_if ?_ | with_reducible refine q_sdrop ?_ | with_reducible refine q_drop ?_ | with_reducible refine q_asg ?_ | with_reducible refine q_ret ?_ | with_reducible refine q_un ?_ | with_reducible refine q_u ?_ | with_reducible refine q_ifE ?_ | with_reducible refine q_or ?_ | with_reducible refine q_and ?_ | with_reducible refine q_not ?_ | with_reducible refine q_andV ?_ | with_reducible refine q_orV ?_ | with_reducible refine q_notV ?_ | with_reducible refine q_isN ?_ | with_reducible refine q_notN ?_ | with_reducible refine q_make ?_ | with_reducible refine q_meth ?_ | with_reducible refine q_sp ?_ | with_reducible refine q_par ?_ | with_reducible refine q_two ?_ | with_reducible refine q_in ?_ | with_reducible refine q_sl ?_ | with_reducible refine q_part ?_ | with_reducible refine q_nopart ?_ | with_reducible refine q_fmt ?_ | with_reducible refine q_dnew ?_ | with_reducible refine q_chain ?_ | with_reducible refine q_yes ?_ | with_reducible refine q_mkO ?_ | with_reducible refine q_int1' ?_ | with_reducible refine q_iR1 ?_ | with_reducible refine q_iR2 ?_ | with_reducible refine q_iRA ?_ | with_reducible refine q_iL ?_ | with_reducible refine q_iT2 ?_ | with_reducible refine q_rA ?_ | with_reducible refine q_sfor ?_ | with_reducible refine q_for ?_
    | ((with_reducible refine q_eq ?_ ?_); exact rfl) | ((with_reducible refine q_ne ?_ ?_); exact rfl) | ((with_reducible refine q_pow ?_ ?_); exact ⟨by decide, by decide, by decide⟩)))
section
variable {P : Program} {w : World} {K : PySem.W.Frag} {mg : Str → Option Value} {base : Heap} {B C : Addr}
abbrev sStay (i : Nat) : Stmt := inClass (top 26) i
end
section
variable {P : Program} {w : World} {K : PySem.W.Frag} {mg : Str → Option Value} {base : Heap} {B C : Addr}
theorem scSInit : FnScope ["self", "first", "after"] ["self", "first", "after"] (defScope (sStay 1)) := ⟨rfl, rfl, rfl, by decide +kernel, rfl, by decide +kernel, by decide +kernel⟩
theorem ok_sinit {f : Addr} {fd : FuncData} {t : Tok} (F : Fun K "__init__" "Stay.__init__" (sStay 1) f fd) (T : Bi mg) (mN : mg "MOST_NIGHTS" = some (.int 400 t)) (S : StC K C) (Bd : BadC P w K mg base "BadStay" "part" B) (D : DefOf P w K mg base "is_day" 3 ["value"] (spDay K)) :
    FnOk P w K mg base (CX P w) 4 f fd ["self", "first", "after"] (spSInit K B C) := by
  obtain ⟨fD, fdD, FD, mD, kD, bD⟩ := D.ex
  refine F.okX scSInit (fun vs H Q E h => ?_) (fun cdv A outer s H vs Q E hr h => ?_)
  · obtain ⟨a, dx, v, u, rfl, _⟩ := h
    rfl
  · obtain ⟨a, dx, v, u, rfl, ha, h⟩ := h
    refine ⟨_, pss_cons (ps_if (pt_not (pt_val (pe_call FD hr rfl mD kD bD .nil pass0 (pa_cons (pv 1) pa_nil)))) (pss_one (ps_badS Bd (hr.mono (by decide)) rfl rfl (takes_of rfl rfl rfl rfl))) pss_nil)
      (pss_cons (ps_if (PW.pt (pw_or (pt_not (pt_val (pe_call FD hr rfl mD kD bD .nil pass0 (pa_cons (pv 2) pa_nil)))) (pw_or1 (pt_not (pt_chain op_lt op_le (pv 1) (pv 2) (pe_op op_add (pv 1) (pe_glob (v := .int 400) (by rfl) mN ⟨_, rfl⟩)))))))
        (pss_one (ps_badS Bd (hr.mono (by decide)) rfl rfl (takes_of rfl rfl rfl rfl))) pss_nil)
      (pss_cons (ps_fld (pv 0) (pv 1) rfl) (pss_cons (ps_fld (pv 0) (pv 2) rfl) (pss_one (ps_fld (pv 0) (pe_tupRg rfl (by rfl) T.tuple (prg_2 (by rfl) T.range (pv 1) (pv 2))) rfl))))), ?_⟩
    rcases h with ⟨f, t, rfl, rfl, ok, k⟩ | ⟨c, k⟩ | ⟨f, rfl, d, c, k⟩
    · refine rd_sif0 (rd_not (rd_day rfl (.inl ⟨f, rfl, ok.d1.symm⟩) (iteF ?_)))
      refine rd_sif0 (rd_or (rd_not (rd_day rfl (.inl ⟨t, rfl, ok.d2.symm⟩) (iteF (rd_not (rd_test ?_))))))
      refine ⟨_, rfl, _, rfl, _, _, rfl, rfl, _, rfl, ite2 (fun _ => ?_) (fun c => absurd (decide_eq_true ok.lt) c)⟩
      refine ⟨_, rfl, _, _, rfl, rfl, _, _, rfl, rfl, _, rfl, ?_⟩
      refine ite2 (fun c => ?_) (fun _ => ?_)
      · rw [decide_eq_true ok.le] at c
        cases c
      · have m1 := ok.d1
        have m2 := ok.d2
        simp only [dayB, MD, Bool.and_eq_true, decide_eq_true_eq] at m1 m2
        have m3 := ok.lt
        have m4 := ok.le
        refine ⟨_, rfl, _, rfl, a, C, dx, _, rfl, ha, S.cl, S.n1, by show 0 < 1000; decide, ?_⟩
        refine ⟨_, rfl, _, rfl, a, C, dx, _, rfl, upd_same, S.cl, S.n2, by show 1 < 1000; decide, ?_⟩
        refine ⟨_, rfl, _, rfl, _, _, rfl, rfl, ⟨by omega, by omega, by omega, by omega, by omega⟩, fun q hq => ?_⟩
        obtain ⟨nq, hq⟩ := fresh_upd hq
        obtain ⟨_, hq⟩ := fresh_upd hq
        refine ⟨_, rfl, a, C, dx, _, rfl, by rw [upd_ne nq.symm]; exact upd_same, S.cl, S.n3, by show 2 < 1000; decide, ?_⟩
        refine k _ q (fun x o n e => ?_) upd_same (by rw [upd_ne nq]; exact upd_same)
        rw [upd_ne n, upd_ne (ne_of_none e hq), upd_ne n, upd_ne n]
        exact e
    · have d : DayV K H v false := by
        rcases c with c | ⟨f, rfl, e⟩
        · exact .inr ⟨c, rfl⟩
        · exact .inl ⟨f, rfl, e.symm⟩
      refine rd_sif0 (rd_not (rd_day rfl d ?_))
      exact iteT k
    · refine rd_sif0 (rd_not (rd_day rfl (.inl ⟨f, rfl, d.symm⟩) (iteF ?_)))
      refine rd_sif0 (rd_or (rd_not ?_))
      rcases c with c | ⟨t, rfl, c⟩
      · exact rd_day rfl (.inr ⟨c, rfl⟩) (iteT (iteT k))
      · refine rd_day rfl (.inl ⟨t, rfl, rfl⟩) ?_
        refine ite2 (fun _ => iteT k) (fun c1 => rd_not (rd_test ?_))
        have c1 : dayB t = true := by
          cases h : dayB t
          · rw [h] at c1
            exact absurd rfl c1
          · rfl
        refine ⟨_, rfl, _, rfl, _, _, rfl, rfl, _, rfl, ite2 (fun c2 => ?_) (fun c2 => ⟨_, rfl, iteT k⟩)⟩
        refine ⟨_, rfl, _, _, rfl, rfl, _, _, rfl, rfl, _, rfl, ?_⟩
        rw [c1, Bool.true_and, c2, Bool.true_and] at c
        refine ite2 (fun _ => k) (fun c3 => ?_)
        rw [c] at c3
        exact absurd rfl c3
end
section
variable {P : Program} {w : World} {K : PySem.W.Frag} {mg : Str → Option Value} {base : Heap} {B C : Addr}
theorem scS4 : FnScope ["self"] ["self"] (defScope (sStay 4)) := ⟨rfl, rfl, rfl, by decide +kernel, rfl, by decide +kernel, by decide +kernel⟩
theorem ok_slen {f : Addr} {fd : FuncData} (F : Fun K "__len__" "Stay.__len__" (sStay 4) f fd) (T : Bi mg) (S : StC K C) : FnOk P w K mg base CX0 1 f fd ["self"] (spSLen C) := by
  refine F.ok scS4 (fun vs H Q E h => ?_) (fun cdv A outer s H vs Q E hr h => ?_)
  · obtain ⟨a, f, t, rfl, _⟩ := h
    rfl
  · obtain ⟨a, f, t, rfl, ha, q⟩ := h
    refine ⟨_, pss_one (ps_ret (pe_callB call_len_seq (by rfl) T.len PySem.boot_len (pa_cons (pe_fld (pv 0) rfl) pa_nil))), ?_⟩
    refine rd_ret (rd_cb (rd_cons (rd_nightsV S rfl ha fun n hn => rd_nil ⟨n, _, rfl, .inr (.inl (.inl hn)), ?_⟩)))
    rw [rgV_length]
    have := ha.ok.lt
    rw [Int.toNat_of_nonneg (by omega)]
    exact q
end
end NB
/-! NSs: methods that call super().__init__(..): the def with its cell, the statement. -/
namespace NB
open PySem PySem.Spec PyProof.Rows L2 ClX NdefX
/-- a method in K that closes over __class__, the class at D -/
structure FunS (K : PySem.W.Frag) (P : Program) (x q : Str) (st : Stmt) (D f : Addr) (F : NF) (fd : FuncData) : Prop where
  kp : PySem.W.keepIn K (.ref f) = true
  sup : (P.main.scope.names.lookup ("super" : Str)).isSome = false
  nm : F.qual = q
  pa : F.params = defArgs st
  bo : F.body = defBody st
  sc : F.scope = defScope st
  ex : ∃ (oc kV doc pm ct cl ccl : Value) (od an cld cdd : Option Addr) (osl csl ccs : Array (Option Value)) (cc : Addr) (vs : Array Value) (file : Str) (tf : Tok), F.cl = [(("__class__" : Str), cc)] ∧
    fd = PySem.W.fnX x q F.params F.body F.scope [("__class__", cc)] .none kV doc pm an (.ref F.c) ct ∧ K.lookup f = some ⟨oc, od, .func fd, osl⟩ ∧ PySem.W.codeIn K (.ref F.c) q = true ∧
    K.lookup cc = some ⟨cl, cld, .cell (some (.ref D)), csl⟩ ∧ K.lookup F.c = some ⟨ccl, cdd, .fields vs, ccs⟩ ∧ vs[2]? = some (.str file tf) ∧ ((P.main.file : Str) == file) = true
/-- a body, known as what is running -/
structure PSAs (X : Cx) (body st : List Stmt) (t : TS) : Prop where
  run : ∀ (pins : List (Addr × Obj)) (s : Shared) (σ : L2.St) (H : Hp) (D : Ends), Inv X pins σ H s → t D σ H → _root_.PySem.wpAt (model X.prog X.w) X.A (.func body X.env) (execs st X.env) (L2.SP X pins D) X.xe s
section
variable {X : Cx} {body rest st : List Stmt} {s1 : Stmt} {t u : TS}
theorem psa_of (h : PSs X st t) : PSAs X body st t := ⟨fun pins s σ H D I q => wpAt_of_wpAny (h.run pins s σ H D I q)⟩
theorem psa_then (h1 : ∀ (pins : List (Addr × Obj)) (s : Shared) (σ : L2.St) (H : Hp) (D : Ends), Inv X pins σ H s → t D σ H → _root_.PySem.wpAt (model X.prog X.w) X.A (.func body X.env) (exec s1 X.env) (L2.SP X pins D) X.xe s) (h2 : PSAs X body rest u) : PSAs X body (s1 :: rest) (tSeq t u) := by
  refine ⟨fun pins s σ H D I h => PySem.ks_wpAt_execs_cons (PySem.ks_wpAt_mono (h1 pins s σ H { D with nx := u D } I h) (fun f s' q => ?_) (fun _ _ e => e))⟩
  cases f with
  | next =>
    obtain ⟨σ', H', I', q⟩ := q
    exact h2.run pins s' σ' H' D I' q
  | ret v => exact q
  | brk => exact q
  | cont => exact q
theorem psa_cons (h1 : PS X s1 t) (h2 : PSAs X body rest u) : PSAs X body (s1 :: rest) (tSeq t u) := psa_then (fun pins s σ H D I q => wpAt_of_wpAny (h1.run pins s σ H D I q)) h2
end
/-- super() of an object of the class C, from the class D on, finds f at m -/
structure SupK (K : PySem.W.Frag) (C D : Addr) (m : Str) (f : Addr) : Prop where
  sub : PySem.W.mroIn K C (.ref D) = some true
  at_ : PySem.W.ks_superIn K C D m = some (some (.ref f))
/-- super().m(..) as a statement: what it gives is dropped -/
def tSup (K : PySem.W.Frag) (D f : Addr) (m : Str) (sp : Sp) (E : XK) (t : TA) : TS := fun En σ H => ∃ (x C dx : Addr) (fs : List (Str × V)), σ[0]? = some (some (.ref x)) ∧ H x = some (.ins C dx fs) ∧ SupK K C D m f ∧ t σ H fun vs H1 => sp (.ref x :: vs) H1 (fun _ H2 => En.nx σ H2) E
section
variable {CX CX' : CXT} {P : Program} {w : World} {K : PySem.W.Frag} {mg : Str → Option Value} {base : Heap} {N ps : List Str} {F : NF} {f f2 D : Addr} {fd fd2 : FuncData} {k j : Nat} {sp sp2 : Sp} {x q m : Str} {st : Stmt}
/-- THE RULE: such a method by its body -/
theorem FunS.okX (Fs : FunS K P x q st D f F fd) (S : NScope N ps ["__class__"] (defScope st)) (len : ∀ vs H Q E, sp vs H Q E → vs.length = ps.length)
    (hbody : ∀ (A : Around) (outer : List Env) (s : Shared) (H : Hp) (vs : List V) (Q : VK) (E : XK), Room k (A.deeper (envF F f s.heap.objs.size)) → sp vs H Q E →
      ∃ t, PSAs (ncx CX P w K mg base N F f A outer s H E) (defBody st) (defBody st) t ∧ t { nx := fun _ H' => Q .non H', rt := Q } (startF N vs [some (.ref D)]) H) : FnOk P w K mg base CX (k + 1) f fd ps sp := by
  obtain ⟨kp, sup, nm, pa, bo, sc, ex⟩ := Fs
  obtain ⟨oc, kV, doc, pm, ct, cl, ccl, od, an, cld, cdd, osl, csl, ccs, cc, vs', file, tf, ecl, rfl, lk, hcd, lcc, lc, ev, hf⟩ := ex
  refine ⟨len, fun A outer s H args us vs Q E hr e0 hb r hsp => ?_⟩
  have hl := len _ _ _ _ hsp
  have stay : ∀ b o, base.get? b = some o → s.heap.get? b = some o := fun b o e => (e0.bs b o e).1
  have inK := e0.mod.kin.keeps stay
  have noL := e0.mod.nolimit.keeps stay
  have hcc := e0.bs _ _ (e0.mod.kin _ _ lcc)
  rw [← sc] at S
  have C : CellsAt F.cl ["__class__"] [some (.ref D)] s.heap H := by
    rw [ecl]
    refine ⟨rfl, fun y c e => ?_, fun y z c e1 e2 => ?_, fun i y e => ?_⟩
    · by_cases hy : (y == ("__class__" : Str)) = true
      · rw [List.lookup_cons, hy] at e
        cases e
        exact ⟨hcc.2, some (.ref D), _, hcc.1, rfl⟩
      · rw [List.lookup_cons, Bool.eq_false_iff.mpr hy] at e
        cases e
    · have one : ∀ y, ([(("__class__" : Str), cc)] : List (Str × Addr)).lookup y = some c → y = "__class__" := fun y e => by
        by_cases hy : (y == ("__class__" : Str)) = true
        · exact eq_of_beq hy
        · rw [List.lookup_cons, Bool.eq_false_iff.mpr hy] at e
          cases e
      rw [one y e1, one z e2]
    · match i, e with
      | 0, e =>
        cases e
        exact ⟨cc, rfl, fun v ev => by cases ev; exact ⟨.ref D, rfl, _, hcc.1, rfl⟩⟩
  refine codeAny_call_function hr.depth (inK _ _ lk) rfl S.co S.gen rfl (PySem.W.codeRec_of inK hcd) (hb _ _ _ _
    (wpAny_newFunctionEnv S.nocell (fun ⟨n, _⟩ hy => S.par n (List.of_mem_zip hy).1) (fun h₁ hns hsb => ⟨noL.fresh _ hsb, ?_⟩) S.kind))
  have kpH : ∀ b o, s.heap.get? b = some o → h₁.get? b = some o := fun b o e => hsb.extBut b o (Nat.ne_of_lt (Heap.lt_size e)) (Heap.get?_push_of_some _ e)
  have ⟨t, ht, hq⟩ := hbody A outer s H vs Q E (hr.deeper _) hsp
  have I : Inv (ncx CX P w K mg base N F f A outer s H E) [] (startF N vs [some (.ref D)]) H { s with heap := h₁, toks := s.toks + (ps.zip us).length } := inv_startN S hr.hd e0 hl r C hns kpH
  subst nm
  rw [← ecl, bo]
  show codeAny _ _ (.func (defBody st) (envF F f s.heap.objs.size)) _ _
  refine PySem.ks_codeAny_funcAt (PySem.ks_wpAt_mono (ht.run [] _ (startF N vs [some (.ref D)]) H _ I hq) (fun fl s' hs => ?_) fun e s' hs => hs)
  match fl, hs with
  | .ret u, ⟨v, _, H3, J, rv, q⟩ => exact ⟨v, H3, J.os, J.bare, J.base, J.hok, rv, q⟩
  | .next, ⟨_, H3, J, q⟩ => exact ⟨V.non, H3, J.os, J.bare, J.base, J.hok, rfl, q⟩
  | .brk, ⟨_, _, _, q⟩ => exact False.elim q
  | .cont, ⟨_, _, _, q⟩ => exact False.elim q
end
section
variable {CX CX' : CXT} {P : Program} {w : World} {K : PySem.W.Frag} {mg : Str → Option Value} {base : Heap} {N : List Str} {F : NF} {f f2 D : Addr} {fd : FuncData} {k j : Nat} {sp2 : Sp} {x q m : Str} {st : Stmt}
variable {A : Around} {outer : List Env} {s0 : Shared} {H0 : Hp} {E0' : XK} {E' : XK} {body rest : List Stmt} {u : TS} {ta : TA} {e : Expr} {es : List Expr} {p0 p1 p2 p3 p4 : Pos} {ar : Arg} {pl : Sem Bool}
theorem psa_sup (Fs : FunS K P x q st D f F fd) (hsu : mg "super" = none) (hta : PySem.W.nsIn K cStatics "thirdparty.any" = some none) (ci : ∃ cd, PySem.W.clsIn K D = some cd) (F2 : FnR P w K mg base CX' j f2 sp2) (fi : PySem.W.fnIn K f2 = true) (ty : PySem.W.typeIn K (.ref f2) = some (.type "function"))
    (hr : Room j (ncx CX P w K mg base N F f A outer s0 H0 E0').A) (hx : Passes CX' (ncx CX P w K mg base N F f A outer s0 H0 E0') E') (ha : PA (ncx CX P w K mg base N F f A outer s0 H0 E0') (e :: es) ta) (h2 : PSAs (ncx CX P w K mg base N F f A outer s0 H0 E0') body rest u)
    (hN0 : N[0]? = some ar.arg) (hp : ((defArgs st).posonlyargs ++ (defArgs st).args).head? = some ar) (hks : (defScope st).names.lookup ("super" : Str) = some .globalImplicit) (hkc : (defScope st).names.lookup ("__class__" : Str) = some .free) (hka : (defScope st).names.lookup ar.arg = some .local) (hkd : (defScope st).kind = .function)
    (hat : (m == ("__class__" : Str)) = false) (hst : starEach (e :: es) (ncx CX P w K mg base N F f A outer s0 H0 E0').env = (false, eval e (ncx CX P w K mg base N F f A outer s0 H0 E0').env) :: starEach es (ncx CX P w K mg base N F f A outer s0 H0 E0').env) (hpl : (backTo p3 (starEach es (ncx CX P w K mg base N F f A outer s0 H0 E0').env)).any (·.1) = false)
    (hte : eval (.Call (.Attribute (.Call (.Name "super" p0) [] [] p1) m p2) (e :: es) [] p3) (ncx CX P w K mg base N F f A outer s0 H0 E0').env = (do
      let ov ← attributeBase (.Call (.Name "super" p0) [] [] p1) m (ncx CX P w K mg base N F f A outer s0 H0 E0').env (eval (.Call (.Name "super" p0) [] [] p1) (ncx CX P w K mg base N F f A outer s0 H0 E0').env)
      standAt p2.atName
      let (g, first) ← holding [ov] (getMethod ov m pl)
      callWith p3 g first (backTo p3 (starEach (e :: es) (ncx CX P w K mg base N F f A outer s0 H0 E0').env)) [])) :
    PSAs (ncx CX P w K mg base N F f A outer s0 H0 E0') body (.Expr (.Call (.Attribute (.Call (.Name "super" p0) [] [] p1) m p2) (e :: es) [] p3) p4 :: rest) (tSeq (tSup K D f2 m sp2 E' ta) u) := by
  obtain ⟨kp, sup, nm, pa, bo, sc, ex⟩ := Fs
  obtain ⟨oc, kV, doc, pm, ct, cl, ccl, od, an, cld, cdd, osl, csl, ccs, cc, vs', file, tf, ecl, rfl, lk, hcd, lcc, lc, ev, hf⟩ := ex
  refine psa_then (fun pins s σ H Dn I h => ?_) h2
  obtain ⟨a, C, dx, fs, h0, hx1, SK, ht⟩ := h
  have inK : K.In s.heap := I.kIn
  refine PySem.ks_wpAt_Expr_any ?_ I.quiet rfl
  refine PySem.ks_wpAt_MethodCall (pl := pl) ?_ hte
  refine PySem.ks_wpAt_super_base (fd := PySem.W.fnX x q F.params F.body F.scope [(("__class__" : Str), cc)] .none kV doc pm an (.ref F.c) ct) ?_ ?_ hat rfl (inK _ _ lk) rfl (by rw [pa]; exact hp) rfl (inK _ _ lc) rfl ev hf sup ?_
  · show F.scope.names.lookup _ = _
    rw [sc]
    exact hks
  · show F.scope.names.lookup _ = _
    rw [sc]
    exact hkc
  have hk1 : (ncx CX P w K mg base N F f A outer s0 H0 E0').env.kindOf ("super" : Str) = some .globalImplicit := by
    show F.scope.names.lookup _ = _
    rw [sc]
    exact hks
  have hk2 : (ncx CX P w K mg base N F f A outer s0 H0 E0').env.kindOf ("__class__" : Str) = some .free := by
    show F.scope.names.lookup _ = _
    rw [sc]
    exact hkc
  have hk3 : (ncx CX P w K mg base N F f A outer s0 H0 E0').env.kindOf ar.arg = some .local := by
    show F.scope.names.lookup _ = _
    rw [sc]
    exact hka
  obtain ⟨mb, g1, g2⟩ := I.mod.blt
  refine PySem.W.ks_loadName_global I.ok.kind hk1 (Calls.loadGlobal_builtin (by rw [I.ok.glob]; exact I.mod.glob.keeps I.bk) hsu (by rw [I.ok.blt]; exact g1.keeps I.bk) ((g2 _ (by decide)).trans (show bootBuiltins "super" = some (.type "super") by decide +kernel)) ⟨rfl, ?_⟩)
  refine wpAny_loadName_free I.ok.kind hk2 (c := cc) (by show F.cl.lookup _ = _; rw [ecl]; rfl) ⟨_, inK _ _ lcc, rfl⟩ ?_
  obtain ⟨m0, hn, hl⟩ := I.loc
  obtain ⟨v0, r0, l0⟩ := hl 0 ar.arg _ hN0 h0 (.inl hk3)
  cases r0
  rcases l0 with ⟨hk, hm⟩ | ⟨hk, _⟩
  rotate_left
  · rw [hk3] at hk
    rcases hk with hk | hk <;> cases hk
  refine wpAny_loadName_local I.ok.kind hk3 hn hm ?_
  obtain ⟨cdD, hcD⟩ := ci
  have hD : ∃ oD, s.heap.get? D = some oD ∧ oD.data = .cls cdD := by
    revert hcD
    unfold PySem.W.clsIn
    split
    · next sl ho =>
      intro z
      cases z
      exact ⟨_, inK _ _ ho, rfl⟩
    · exact fun z => nomatch z
  obtain ⟨oD, hD1, hD2⟩ := hD
  obtain ⟨ox, od', J⟩ := inst_of I hx1
  obtain ⟨of, hof, hofc⟩ := Option.map_eq_some_iff.mp (show (K.lookup f2).map (fun o => o.cls) = some (Value.type "function") from ty)
  have sat := SK.at_
  unfold PySem.W.ks_superIn at sat
  obtain ⟨cd, hcC, sat⟩ := Option.bind_eq_some_iff.mp sat
  rcases s with ⟨hh, g, d, t, os⟩
  refine PySem.ks_wpAny_isType_cls hD1 hD2 ⟨rfl, ?_⟩
  refine PySem.ks_wpAny_call_super hD1 hD2 J.at_ J.cls (fun c e => ?_) (PySem.W.looks_mroIn inK SK.sub) (fun h' e k => ?_)
  · have := J.no
    unfold PySem.W.notCls at this
    rw [e] at this
    exact Bool.noConfusion this
  have I1 : Inv (ncx CX P w K mg base N F f A outer s0 H0 E0') pins σ H ⟨h', g, d, t, os⟩ := I.kept (t' := t) k
  have mro : PySem.W.Looks (model P w) h' (mroOf (.ref C)) cd.mro := fun A Q E s k' q => wpAny_bind ((PySem.W.looks_clsIn I1.kIn hcC) A _ E s k' (wpAny_pure q))
  refine PySem.ks_wpAny_getMethod_super (x := a) (C := C) (D := D) e (PySem.W.looks_opaque I1.kIn hta) mro rfl I1.kIn sat (I1.kIn _ _ hof) hofc (PySem.W.ks_ne inK J hcC) hat ?_
  refine callwith_cm (met_new I1) (base_none I1 (Nat.le_refl _)) fi (thn (ha.run p3 _ _ σ H _ (met_new I1) ht) fun us s2 ⟨vs, H2, I2, r, q⟩ => ⟨⟨pin_at I2, I2.kIn⟩, ?_⟩) hst hpl
  exact thn (run_cm F2 hr hx I2 r q) fun _ _ ⟨v, H', I', _, q⟩ => ⟨σ, H', I', q⟩
end
end NB
/-! NRc: methods and properties by the class that an object has; objects that are called. -/
namespace NB
open PySem PySem.Spec PyProof.Rows L2 ClX
/-- the class at C has a method m with this promise -/
structure VM (P : Program) (w : World) (K : PySem.W.Frag) (mg : Str → Option Value) (base : Heap) (CX : CXT) (k : Nat) (C : Addr) (m : Str) (ps : List Str) (sp : Sp) : Prop where
  cl : Cls K C
  ex : ∃ (f : Addr) (fd : FuncData), Meth K C m f ∧ PySem.W.fnIn K f = true ∧ FnOk P w K mg base CX k f fd ps sp ∧ Binds K fd ps []
def tMethV (Y : Addr → Sp → Prop) (m : Str) (E : XK) (to : TE) (ta : TA) : TE := fun σ H Q => to σ H fun x H1 => ∃ (a C dx : Addr) (fs : List (Str × V)) (sp : Sp), x = .ref a ∧ H1 a = some (.ins C dx fs) ∧ Y C sp ∧ fs.lookup m = none ∧ ta σ H1 fun vs H2 => sp (.ref a :: vs) H2 Q E
section
variable {X : Cx} {CX : CXT} {k n : Nat} {ps ks : List Str} {E : XK} {m : Str} {apos pos p : Pos} {o e : Expr} {es : List Expr} {kws : List Keyword} {ta : TE} {t tk : TA} {x : Str}
theorem pe_methV {pl : Sem Bool} (he : PE X o ta) (hr : Room k X.A) (hx : Passes CX X E) (ha : PA X (e :: es) t)
    (hst : starEach (e :: es) X.env = (false, eval e X.env) :: starEach es X.env := by rfl) (hpl : (backTo pos (starEach es X.env)).any (·.1) = false := by rfl)
    (ht : eval (.Call (.Attribute o m apos) (e :: es) [] pos) X.env = (do
      let ov ← eval o X.env
      standAt apos.atName
      let (f, first) ← holding [ov] (getMethod ov m pl)
      callWith pos f first (backTo pos (starEach (e :: es) X.env)) (backToKw pos (keywordEach [] X.env))) := by rfl) :
    PE X (.Call (.Attribute o m apos) (e :: es) [] pos) (tMethV (VM X.prog X.w X.K X.mg X.base CX k · m ps ·) m E ta t) := by
  refine ⟨fun pins s σ H Q I h => PySem.W.methodCall_KW (pl := pl) (thn (he.run pins s σ H _ I h) fun u s1 ⟨v, H1, I1, rx, a, C, dx, fs, sp, ex, ea, vm, l, q⟩ => ?_) ht⟩
  subst ex
  cases rx
  obtain ⟨g, fd, hm, _, F, hb⟩ := vm.ex
  refine getmeth_ok I1 ea vm.cl hm l (PySem.W.callWith_K (first := [.ref a]) (h₀ := X.base) I.ok.mod.kin hm.kp (thn (ha.run pos pins s1 σ H1 _ I1 q) fun us s2 ⟨vs, H2, I2, r, q2⟩ => ⟨I2.kIn, ?_⟩) hst hpl)
  have z := run_fn (us := .ref a :: us) (vs := .ref a :: vs) F hr hb .nil hx I2 (.cons rfl r) (by rw [List.append_nil]; exact q2)
  exact z
/-- the class at C has a property f with this promise -/
structure VP (P : Program) (w : World) (K : PySem.W.Frag) (mg : Str → Option Value) (base : Heap) (CX : CXT) (k : Nat) (C : Addr) (f : Str) (sp : Sp) : Prop where
  cl : Cls K C
  ex : ∃ (p g : Addr) (fd : FuncData), PropOf K C f p g ∧ FnOk P w K mg base CX k g fd ["self"] sp ∧ Binds K fd ["self"] []
def tPropV (Y : Addr → Sp → Prop) (E : XK) (te : TE) : TE := fun σ H Q => te σ H fun x H1 => ∃ (a C dx : Addr) (fs : List (Str × V)) (sp : Sp), x = .ref a ∧ H1 a = some (.ins C dx fs) ∧ Y C sp ∧ sp [.ref a] H1 Q E
theorem pe_propV (he : PE X e ta) (hr : Room (k + 1) X.A) (hx : Passes CX X.nox E) (hab : attributeBase e x X.env (eval e X.env) = eval e X.env) : PE X (.Attribute e x pos) (tPropV (VP X.prog X.w X.K X.mg X.base CX k · x ·) E ta) := by
  refine ⟨fun pins s σ H Q I h => attr_of hab (thn (he.run pins s σ H _ I h) fun u s1 ⟨v, H1, I1, rx, a, C, dx, fs, sp, ex, ea, vp, q⟩ => ?_)⟩
  subst ex
  cases rx
  obtain ⟨p, g, fd, hp, F, hb⟩ := vp.ex
  exact getprop_ok I1 ea vp.cl hp F hr hb .nil hx q
end
section
open PySem.W
variable {M : Model} {A : Around} {E : Value → Shared → Prop} {s : Shared} {C dx a : Addr} {Q : Value → Shared → Prop} {pos : Pos}
theorem calli_with {args : List (Bool × Sem Value)} {kws : List (Option Str × Sem Value)} (hp : (args.any (·.1) || kws.any (·.1.isNone)) = false)
    (h : wpAny M A (evalArgs (.ref a) true args kws) (fun x s1 => s1.heap.get? a = some (instObj C dx) ∧ wpAny M A (call (.ref a) x.pos x.kw) Q E s1) E s) : wpAny M A (callWith pos (.ref a) [] args kws) Q E s := by
  unfold callWith
  refine wpAny_bind (wpAny_holding (wpAny_mono h (fun x s1 q => wpAny_bind (wpAny_standAt ?_)) fun _ _ z => z))
  have L : Looks M s1.heap (keeperOf (.ref a)) .caller := (Looks.ld (part := none) q.1).andThen .now
  simp only [hp]
  exact wpAny_bind (L.here (wpAny_bind (wpAny_mono (wpAny_operateT q.2) (fun r s2 z => wpAny_bind (wpAny_holding (wpAny_point (wpAny_pure z)))) fun _ _ z => z)))
end
/-- o(..), o an object: its class says what it does -/
def tCallI (Y : Addr → Sp → Prop) (E : XK) (te : TE) (t : TA) : TE := fun σ H Q => te σ H fun x H1 => ∃ (a C dx : Addr) (fs : List (Str × V)) (sp : Sp), x = .ref a ∧ H1 a = some (.ins C dx fs) ∧ Y C sp ∧ t σ H1 fun vs H2 => (∃ fs', H2 a = some (.ins C dx fs')) ∧ sp (.ref a :: vs) H2 Q E
section
variable {X : Cx} {CX : CXT} {k n : Nat} {ps ks : List Str} {E : XK} {pos p : Pos} {e : Expr} {es : List Expr} {kws : List Keyword} {te : TE} {t tk : TA} {x : Str}
theorem pe_calli (he : PE X (.Name x p) te) (hr : Room k X.A) (hx : Passes CX X E) (ha : PA X (e :: es) t)
    (hst : starEach (e :: es) X.env = (false, eval e X.env) :: starEach es X.env := by rfl) (hpl : (backTo pos (starEach es X.env)).any (·.1) = false := by rfl) :
    PE X (.Call (.Name x p) (e :: es) [] pos) (tCallI (VM X.prog X.w X.K X.mg X.base CX k · "__call__" ps ·) E te t) := by
  refine ⟨fun pins s σ H Q I h => wpAny_Call_Name_kw (thn (he.run pins s σ H _ I h) fun u s1 ⟨v, H1, I1, rx, a, C, dx, fs, sp, ex, ea, vm, q⟩ => ?_)⟩
  subst ex
  cases rx
  obtain ⟨g, fd, hm, fi, F, hb⟩ := vm.ex
  have r1 := ha.run pos pins s1 σ H1 _ I1 q
  rw [hst] at r1 ⊢
  refine calli_with (C := C) (dx := dx) (by show ((false || (backTo pos (starEach es X.env)).any (·.1)) || false) = false; rw [hpl]; rfl) (Calls.evalArgs_plain (thn r1 fun us s2 ⟨vs, H2, I2, r, ⟨fs', e2⟩, q2⟩ => ?_))
  obtain ⟨mA, O, _⟩ := ins_get I2.hok e2
  obtain ⟨od, J, _⟩ := O.look
  refine ⟨O.obj, wpAny_call (PySem.W.kco_code I2.kIn J rfl hm.at_ hm.fn fi ?_)⟩
  have hv : Vals (V.ref a :: vs) (Value.ref a :: us) := .cons rfl r
  have hl : (Value.ref a :: us).length = ps.length := by rw [← hv.length]; exact F.len _ _ _ _ q2
  have bd := hb s2 (.ref a :: us) I2.kIn (by simpa using hl)
  rw [List.append_nil] at bd
  refine codeAny_mono (F.run X.A X.stack s2 H2 ⟨.ref a :: us, []⟩ (.ref a :: us) (.ref a :: vs) Q E hr I2.env0 bd (.cons rfl r) q2) fun z s' hq => ?_
  match z, hq with
  | .error e, hq => exact hx pins σ H2 s2 e s' I2 hq
  | .ok (.ret u), hq => exact I2.after hq
/-- o(k = v), o an object -/
def tCallIK (Y : Addr → Sp → Prop) (n : Nat) (gV : List V → List V → List V) (E : XK) (te : TE) (t : TA) : TE := fun σ H Q => te σ H fun x H1 => ∃ (a C dx : Addr) (fs : List (Str × V)) (sp : Sp), x = .ref a ∧ H1 a = some (.ins C dx fs) ∧ Y C sp ∧ t σ H1 fun zs H2 => (∃ fs', H2 a = some (.ins C dx fs')) ∧ zs.length = n ∧ sp (gV [.ref a] zs) H2 Q E
/-- .. with the arguments behind the first by name -/
structure VMK (P : Program) (w : World) (K : PySem.W.Frag) (mg : Str → Option Value) (base : Heap) (CX : CXT) (k : Nat) (C : Addr) (m : Str) (ps ks : List Str) (g : List Value → List Value → List Value) (gV : List V → List V → List V) (sp : Sp) : Prop where
  cl : Cls K C
  ex : ∃ (f : Addr) (fd : FuncData), Meth K C m f ∧ PySem.W.fnIn K f = true ∧ FnOk P w K mg base CX k f fd ps sp ∧ KBn K fd ps 1 ks g gV
theorem pe_callik {g : List Value → List Value → List Value} {gV : List V → List V → List V} (he : PE X (.Name x p) te) (hr : Room k X.A) (hx : Passes CX X E) (hkw : PK X kws tk)
    (hall : (backToKw pos (keywordEach kws X.env)).all (·.1.isSome) = true := by rfl) (hks : (backToKw pos (keywordEach kws X.env)).filterMap (·.1) = ks := by rfl)
    (hpl : ((backTo pos (starEach [] X.env)).any (·.1) || (backToKw pos (keywordEach kws X.env)).any (·.1.isNone)) = false := by rfl) :
    PE X (.Call (.Name x p) [] kws pos) (tCallIK (VMK X.prog X.w X.K X.mg X.base CX k · "__call__" ps ks g gV ·) ks.length gV E te tk) := by
  refine ⟨fun pins s σ H Q I h => wpAny_Call_Name_kw (thn (he.run pins s σ H _ I h) fun u s1 ⟨v, H1, I1, rx, a, C, dx, fs, sp, ex, ea, vm, q⟩ => ?_)⟩
  subst ex
  cases rx
  obtain ⟨gf, fd, hm, fi, F, hb⟩ := vm.ex
  refine calli_with (C := C) (dx := dx) hpl (PyProof.Rows.evalArgs_kw2_nil hall (thn (hkw.run pos pins s1 σ H1 _ I1 q) fun ws s2 ⟨zs, H2, I2, rz, ⟨fs', e2⟩, l2, q2⟩ => ?_))
  obtain ⟨mA, O, _⟩ := ins_get I2.hok e2
  obtain ⟨od, J, _⟩ := O.look
  rw [hks]
  have hv : Vals [V.ref a] [Value.ref a] := .cons rfl .nil
  refine ⟨O.obj, wpAny_call (PySem.W.kco_code I2.kIn J rfl hm.at_ hm.fn fi ?_)⟩
  refine codeAny_mono (F.run X.A X.stack s2 H2 ⟨[.ref a], ks.zip ws⟩ (g [.ref a] ws) (gV [.ref a] zs) Q E hr I2.env0 (hb.to s2 [.ref a] ws I2.kIn rfl (rz.length.symm.trans l2)) (hb.rel hv rz) q2) fun z s' hq => ?_
  match z, hq with
  | .error e, hq => exact hx pins σ H2 s2 e s' I2 hq
  | .ok (.ret u), hq => exact I2.after hq
end
end NB
/-! NWz: how long texts and their words are. -/
namespace NB
open PySem L2 ClX NumText TL
/-- letters and one more, of all words -/
def Tw (ws : List Str) : Nat := (ws.map fun w => w.length + 1).sum
theorem Tw_app (a b : List Str) : Tw (a ++ b) = Tw a + Tw b := by simp [Tw]
theorem Tw_cons (w : Str) (b : List Str) : Tw (w :: b) = w.length + 1 + Tw b := by simp [Tw]
theorem Tw_take (k : Nat) (ws : List Str) : Tw (ws.take k) ≤ Tw ws := by
  conv => rhs; rw [← List.take_append_drop k ws, Tw_app]
  omega
theorem Tw_drop (k : Nat) (ws : List Str) : Tw (ws.drop k) ≤ Tw ws := by
  conv => rhs; rw [← List.take_append_drop k ws, Tw_app]
  omega
theorem Tw_len : ∀ ws : List Str, ws.length ≤ Tw ws
  | [] => Nat.le_refl _
  | w :: ws => by
    have := Tw_len ws
    rw [Tw_cons, List.length_cons]
    omega
theorem Tw_mem {w : Str} : ∀ {ws : List Str}, w ∈ ws → w.length ≤ Tw ws
  | x :: ws, h => by
    rw [Tw_cons]
    rcases List.mem_cons.mp h with rfl | h
    · omega
    · have := Tw_mem h
      omega
theorem Tw_rev : ∀ ws : List Str, Tw ws.reverse = Tw ws
  | [] => rfl
  | w :: ws => by
    rw [List.reverse_cons, Tw_app, Tw_rev ws, Tw_cons, Tw_cons]
    show Tw ws + (w.length + 1 + 0) = _
    omega
theorem spl_sum (c : Nat) : ∀ (l acc : List Nat), ((TL.spl [c] 0 acc l).map fun p => p.length + 1).sum = acc.length + l.length + 1
  | [], acc => by rw [TL.spl_nil]; simp
  | x :: r, acc => by
    cases h : TL.pre [c] (x :: r) with
    | true =>
      rw [TL.spl_hit h]
      show acc.length + 1 + ((TL.spl [c] 0 [] r).map fun p => p.length + 1).sum = _
      rw [spl_sum c r []]
      simp
      omega
    | false =>
      rw [TL.spl_miss h, spl_sum c r]
      simp
      omega
theorem spl_mem (c : Nat) : ∀ (l acc p : List Nat) (y : Nat), p ∈ TL.spl [c] 0 acc l → y ∈ p → y ∈ acc ∨ y ∈ l
  | [], acc, p, y, hp, hy => by
    rw [TL.spl_nil, List.mem_singleton] at hp
    rw [hp] at hy
    exact .inl hy
  | x :: r, acc, p, y, hp, hy => by
    cases h : TL.pre [c] (x :: r) with
    | true =>
      rw [TL.spl_hit h] at hp
      rcases List.mem_cons.mp hp with rfl | hp
      · exact .inl hy
      · rcases spl_mem c r [] p y hp hy with z | z
        · cases z
        · exact .inr (List.mem_cons_of_mem _ z)
    | false =>
      rw [TL.spl_miss h] at hp
      rcases spl_mem c r _ p y hp hy with z | z
      · rcases List.mem_append.mp z with z | z
        · exact .inl z
        · exact .inr (by rw [List.mem_singleton.mp z]; exact List.mem_cons_self)
      · exact .inr (List.mem_cons_of_mem _ z)
theorem ok_iff (z : Str) : PyData.strOk z = true ↔ ∀ y ∈ tl z, y < 0x110000 := by
  unfold PyData.strOk tl
  rw [Array.all_eq_true_iff_forall_mem]
  constructor
  · intro h y hy
    exact of_decide_eq_true (h y (by simpa using hy))
  · intro h y hy
    exact decide_eq_true (h y (by simpa using hy))
theorem split_is (z : Str) : (Txt.split z " ").map tl = TL.spl [32] 0 [] (tl z) := by
  have z1 := SX.split_S (a := tl z) (b := [32]) (by simp) (by decide)
  have e : SX.S (tl z) = z := SX.S_tl z
  rw [e, show SX.S [32] = (" " : Str) by decide +kernel] at z1
  rw [z1, List.map_map]
  exact (List.map_congr_left fun p _ => show tl (SX.S p) = p by simp [tl]).trans (List.map_id _)
theorem Tw_split (z : Str) : Tw (Txt.split z " ") = z.length + 1 := by
  have h := spl_sum 32 (tl z) []
  rw [← split_is, List.map_map] at h
  have e : (Txt.split z " ").map (fun w => w.length + 1) = (Txt.split z " ").map ((fun p : List Nat => p.length + 1) ∘ tl) := List.map_congr_left fun w _ => by
    show w.length + 1 = (tl w).length + 1
    rw [len_tl]
  unfold Tw
  rw [e, h, len_tl]
  simp
theorem split_ok {z : Str} (h : PyData.strOk z = true) : ∀ w ∈ Txt.split z " ", PyData.strOk w = true := by
  intro w hw
  rw [ok_iff] at h ⊢
  intro y hy
  have hm : tl w ∈ TL.spl [32] 0 [] (tl z) := by
    rw [← split_is]
    exact List.mem_map.mpr ⟨w, hw, rfl⟩
  rcases spl_mem 32 _ _ _ _ hm hy with q | q
  · cases q
  · exact h y q
theorem join_sum (c : Nat) : ∀ ps : List (List Nat), (TL.joinL [c] ps).length ≤ (ps.map fun p => p.length + 1).sum
  | [] => Nat.zero_le _
  | [p] => by
    show p.length ≤ _
    simp
  | p :: q :: r => by
    show (p ++ ([c] ++ TL.joinL [c] (q :: r))).length ≤ _
    have := join_sum c (q :: r)
    simp only [List.length_append, List.map_cons, List.sum_cons, List.length_singleton] at *
    omega
theorem join_mem (c : Nat) : ∀ (ps : List (List Nat)) (y : Nat), y ∈ TL.joinL [c] ps → y = c ∨ ∃ p ∈ ps, y ∈ p
  | [], y, h => by cases h
  | [p], y, h => .inr ⟨p, List.mem_singleton.mpr rfl, h⟩
  | p :: q :: r, y, h => by
    rcases List.mem_append.mp (show y ∈ p ++ ([c] ++ TL.joinL [c] (q :: r)) from h) with h | h
    · exact .inr ⟨p, List.mem_cons_self, h⟩
    · rcases List.mem_append.mp h with h | h
      · exact .inl (List.mem_singleton.mp h)
      · rcases join_mem c (q :: r) y h with h | ⟨p', hp', h⟩
        · exact .inl h
        · exact .inr ⟨p', List.mem_cons_of_mem _ hp', h⟩
theorem join_is (ws : List Str) : tl (Txt.join " " ws) = TL.joinL [32] (ws.map tl) := by
  have z1 := SX.join_S [32] (ws.map tl)
  rw [show SX.S [32] = (" " : Str) by decide +kernel, List.map_map, show ws.map (SX.S ∘ tl) = ws from (List.map_congr_left fun w _ => SX.S_tl w).trans (List.map_id _)] at z1
  rw [z1]
theorem join_len (ws : List Str) : (Txt.join " " ws).length ≤ Tw ws := by
  rw [len_tl, join_is]
  refine Nat.le_trans (join_sum 32 _) ?_
  rw [List.map_map]
  unfold Tw
  simp only [Function.comp_def, len_tl]
  exact Nat.le_refl _
theorem join_ok {ws : List Str} (h : ∀ w ∈ ws, PyData.strOk w = true) : PyData.strOk (Txt.join " " ws) = true := by
  rw [ok_iff]
  intro y hy
  rw [join_is] at hy
  rcases join_mem 32 _ y hy with rfl | ⟨p, hp, hy⟩
  · decide
  · obtain ⟨w, hw, rfl⟩ := List.mem_map.mp hp
    exact (ok_iff w).mp (h w hw) y hy
/-- a text of at most n signs -/
structure Gd (n : Nat) (z : Str) : Prop where
  len : z.length ≤ n
  ok : PyData.strOk z = true
theorem Gd.wds {n : Nat} {z : Str} (h : Gd n z) (hn : n ≤ 500) : Wds (Txt.split z " ") := by
  have l := h.len
  have t := Tw_split z
  refine ⟨by have := Tw_len (Txt.split z " "); omega, fun w hw => ⟨by have := Tw_mem hw; omega, split_ok h.ok w hw⟩⟩
/-- words of so many signs -/
structure Gw (n : Nat) (ws : List Str) : Prop where
  len : Tw ws ≤ n
  ok : ∀ w ∈ ws, PyData.strOk w = true
theorem Gd.words {n : Nat} {z : Str} (h : Gd n z) : Gw (n + 1) (Txt.split z " ") := ⟨by rw [Tw_split]; have := h.len; omega, split_ok h.ok⟩
theorem Gw.join {n : Nat} {ws : List Str} (h : Gw n ws) : Gd n (Txt.join " " ws) := ⟨Nat.le_trans (join_len ws) h.len, join_ok h.ok⟩
theorem Gw.take {n : Nat} {ws : List Str} (h : Gw n ws) (k : Nat) : Gw n (ws.take k) := ⟨Nat.le_trans (Tw_take k ws) h.len, fun w hw => h.ok w (List.mem_of_mem_take hw)⟩
theorem Gw.drop {n : Nat} {ws : List Str} (h : Gw n ws) (k : Nat) : Gw n (ws.drop k) := ⟨Nat.le_trans (Tw_drop k ws) h.len, fun w hw => h.ok w (List.mem_of_mem_drop hw)⟩
theorem Gw.rev {n : Nat} {ws : List Str} (h : Gw n ws) : Gw n ws.reverse := ⟨by rw [Tw_rev]; exact h.len, fun w hw => h.ok w (List.mem_reverse.mp hw)⟩
theorem Gw.app {n m : Nat} {a b : List Str} (h : Gw n a) (h' : Gw m b) : Gw (n + m) (a ++ b) := ⟨by rw [Tw_app]; have := h.len; have := h'.len; omega, fun w hw => (List.mem_append.mp hw).elim (h.ok w) (h'.ok w)⟩
theorem Gw.one {n : Nat} {w : Str} (h : Gd n w) : Gw (n + 1) [w] := ⟨by rw [Tw_cons]; have := h.len; show w.length + 1 + 0 ≤ _; omega, fun x hx => by rw [List.mem_singleton.mp hx]; exact h.ok⟩
theorem Gw.le {n m : Nat} {a : List Str} (h : Gw n a) (l : n ≤ m) : Gw m a := ⟨Nat.le_trans h.len l, h.ok⟩
theorem Gd.le {n m : Nat} {a : Str} (h : Gd n a) (l : n ≤ m) : Gd m a := ⟨Nat.le_trans h.len l, h.ok⟩
end NB
/-! NLw: sets of lengths within the walk of a law's def. -/
namespace NB
open PySem L2 ClX
section
variable {X : Cx} {CX : CXT} {k : Nat} {C : Addr} {sp : Sp} {E : XK}
/-- v not in o -/
def rNiO (C : Addr) (sp : Sp) (E : XK) : R2 := fun v x H Q => ∃ (a dx : Addr) (fs : List (Str × V)), x = .ref a ∧ H a = some (.ins C dx fs) ∧ sp [x, v] H (fun z H' => ∃ b, z = .bl b ∧ Q (.bl (!b)) H') E
theorem op_niO (M : OwnM X CX k C "__contains__" sp) (hr : Room k X.A) (hx : Passes CX X E) : OpR X (compareOp .NotIn) (rNiO C sp E) := by
  intro pins s σ H x y u v Q I rx ry h
  obtain ⟨f, fd, ps, F, hb, hs, hf⟩ := M.ex
  obtain ⟨a, dx, fs, rfl, ha, q⟩ := h
  obtain ⟨ox, od, J⟩ := inst_of I ha
  obtain ⟨m, hF⟩ := I.fr
  have ry' := ry
  cases ry'
  refine PySem.W.notIn_K hF I.ok.mod.kin J hs hf (wpAny_mono (run_at F ⟨hr, rfl⟩ hb hx I (.cons rel_ref (.cons rx .nil)) q) ?_ fun _ _ z => z)
  rintro w s' ⟨z, H', I', rz, b, rfl, qb⟩
  cases rz
  wp_walk
  exact ⟨.bl (!b), H', I', rfl, qb⟩
end
/-- a static method -/
structure SmM (P : Program) (w : World) (K : PySem.W.Frag) (mg : Str → Option Value) (base : Heap) (CX : CXT) (k : Nat) (C : Addr) (m : Str) (sp : Sp) : Prop where
  ex : ∃ (mc : Value) (p g : Addr), CRead K C mc ∧ SMet K C mc m p g ∧ FnR P w K mg base CX k g sp
/-- a property -/
structure PrM (P : Program) (w : World) (K : PySem.W.Frag) (mg : Str → Option Value) (base : Heap) (k : Nat) (C : Addr) (m : Str) (sp : Sp) : Prop where
  ex : ∃ (p f : Addr) (fd : FuncData), PropOf K C m p f ∧ FnOk P w K mg base CX0 k f fd ["self"] sp ∧ Binds K fd ["self"] []
theorem q_prop {C : Addr} {sp : Sp} {dvs : List V} {E : XK} {ta : TE} {σ : SV} {H : Hp} {Q : VK} (h : ta σ H fun x H1 => ∃ a dx fs, x = .ref a ∧ H1 a = some (.ins C dx fs) ∧ sp (.ref a :: dvs) H1 Q E) : tProp C sp dvs E ta σ H Q := h
/-- the numbers of a list -/
def memF (ns : List Int) (n : Nat) : Bool := decide ((n : Int) ∈ ns)
theorem memF_per {ns : List Int} {S : Nat} (h : ∀ n ∈ ns, n < S) : PerN (memF ns) S 1 := fun n hn => by
  unfold memF
  rw [decide_eq_false (show ¬ ((n + 1 : Nat) : Int) ∈ ns from fun z => by have := h _ z; omega), decide_eq_false (show ¬ (n : Int) ∈ ns from fun z => by have := h _ z; omega)]
/-- it fits -/
theorem fit1 {f : Nat → Bool} {S P M : Nat} (hP : 1 ≤ P) (h : PerN f S P) (hm : S + P ≤ M) {s p : Nat} (L : LF f s p) : s + p ≤ M := by
  obtain ⟨h1, h2⟩ := L.least hP h
  have := Nat.le_of_dvd hP h2
  omega
theorem fit2 {f g : Nat → Bool} {S P S' P' M : Nat} (hP : 1 ≤ P) (hP' : 1 ≤ P') (h : PerN f S P) (h' : PerN g S' P') (hm : max S S' + Nat.lcm P P' ≤ M) {s p s' p' : Nat} (L : LF f s p) (L' : LF g s' p') : max s s' + Nat.lcm p p' ≤ M := by
  obtain ⟨h1, h2⟩ := L.least hP h
  obtain ⟨h3, h4⟩ := L'.least hP' h'
  have d : Nat.lcm p p' ∣ Nat.lcm P P' := Nat.lcm_dvd (Nat.dvd_trans h2 (Nat.dvd_lcm_left _ _)) (Nat.dvd_trans h4 (Nat.dvd_lcm_right _ _))
  have := Nat.le_of_dvd (Nat.lcm_pos hP hP') d
  omega
theorem per2 {f g : Nat → Bool} {S P S' P' : Nat} (t : Bool → Bool → Bool) (h : PerN f S P) (h' : PerN g S' P') : PerN (fun n => t (f n) (g n)) (max S S') (Nat.lcm P P') := fun n hn => by
  have d1 : PerN f S (Nat.lcm P P') := by
    obtain ⟨c, hc⟩ := Nat.dvd_lcm_left P P'
    rw [hc]
    exact h.mulP c
  have d2 : PerN g S' (Nat.lcm P P') := by
    obtain ⟨c, hc⟩ := Nat.dvd_lcm_right P P'
    rw [hc]
    exact h'.mulP c
  show t (f (n + Nat.lcm P P')) (g (n + Nat.lcm P P')) = t (f n) (g n)
  rw [d1 n (by omega), d2 n (by omega)]
theorem per_not {f : Nat → Bool} {S P : Nat} (h : PerN f S P) : PerN (fun n => !f n) S P := fun n hn => by
  show (!f (n + P)) = !f n
  rw [h n hn]
theorem PerN.up {f : Nat → Bool} {S P S' P' : Nat} (h : PerN f S P) (hs : S ≤ S') (hp : P ∣ P') : PerN f S' P' := by
  obtain ⟨c, rfl⟩ := hp
  exact (h.mulP c).le hs
open Classical in
theorem eqF_true {f g : Nat → Bool} (h : f = g) : eqF f g = true := by
  unfold eqF
  exact decide_eq_true h
theorem eqF_refl (f : Nat → Bool) : eqF f f = true := eqF_true rfl
section
variable {P : Program} {w : World} {K : PySem.W.Frag} {mg : Str → Option Value} {base : Heap} {B Bm Bc C : Addr} {T : List (Addr × Str)} {p c : Addr} {ns : List Int} {H0 H H' : Hp} {b b' : Int} {ps : List SP} {ms : List (Addr × List V)} {l l0 : List (Addr × HO)} {f g : Nat → Bool} {a a2 : Addr} {Q : VK} {E : XK}
theorem Wd.ln (W : Wd T p c ns H0 H b ps ms l) (h : lnS C a f ∈ ps := by repeat (first | exact List.Mem.head _ | apply List.Mem.tail)) : IsLen H C a f := W.im _ h
theorem Wd.lnew (W : Wd T p c ns H0 H b ps ms l) (s : Same H H') (h : IsLen H' C a f) : Wd T p c ns H0 H' b (lnS C a f :: ps) ms l := (W.same s).add (lnS C a f) h
/-- Lengths(v1, v2, v3, v4) -/
theorem Wd.mkL {Q : Addr → Hp → Prop} {v1 v2 v3 v4 : V} (W : Wd T p c ns H0 H b ps ms l) (d : LenV K H v1 v2 v3 v4 (.inr f)) (fit : ∀ s p, LF f s p → s + p ≤ 400) (k : ∀ a H', Wd T p c ns H0 H' b (lnS C a f :: ps) ms l → Q a H') :
    ∀ x dx, H x = none → H dx = none → dx ≠ x → spLI K B Bm C [.ref x, v1, v2, v3, v4] (upd (upd H dx (.own x)) x (.ins C dx [])) (fun v H2 => v = .non ∧ Q x H2) E :=
  mk_len d (fun f' e => by cases e; exact ⟨fun s p L h => absurd (fit s p L) (by omega), fun H' a s' h => k a H' (W.lnew s' h)⟩) (fun _ e => nomatch e)
/-- Lengths.of(..) -/
theorem Wd.ofL {zs : List Int} {vs : List V} (W : Wd T p c ns H0 H b ps ms l) (e : vs = zs.map V.int) (hz : zs.length ≤ 1000) (h : ∀ n ∈ zs, 0 ≤ n ∧ n ≤ 398) (k : ∀ a H', Wd T p c ns H0 H' b (lnS C a (memF zs) :: ps) ms l → Q (.ref a) H') : spOfL K Bc Bm C vs H Q E := by
  subst e
  refine ⟨[], zs.map V.int, rfl, rfl, by rw [List.length_map, sizeLine_eq]; omega, fun t ht => ⟨t, _, .inr (memF zs), rfl, upd_same, by rw [List.length_map]; exact hz, .inl ⟨zs, rfl, fun n hn => by have := h n hn; omega, rfl⟩, (fun _ e => nomatch e), fun f e => ?_⟩⟩
  cases e
  have s1 := same_new (o := .tup (zs.map V.int)) (Same.refl H) ht
  refine ⟨fun s p L h' => ?_, fun H' a s' h' => k a H' (W.lnew (s1.trans s') h')⟩
  have := fit1 (M := 400) (Nat.le_refl 1) (memF_per (S := 399) fun n hn => by have := h n hn; omega) (by omega) L
  omega
/-- Lengths.since(n) -/
theorem Wd.siL {n : Nat} (W : Wd T p c ns H0 H b ps ms l) (h : n ≤ 399) (k : ∀ a H', Wd T p c ns H0 H' b (lnS C a (fun m => decide (n ≤ m)) :: ps) ms l → Q (.ref a) H') : spSi K Bc C [.int n] H Q E :=
  ⟨_, true, rfl, btw_of (by omega) (by omega), (fun e => nomatch e), fun m _ e H' a s' h' => by
    have e : n = m := by have := V.int.inj e; omega
    subst e
    exact k a H' (W.lnew s' h')⟩
/-- Lengths.steps(n, m) -/
theorem Wd.stL {n m : Nat} (W : Wd T p c ns H0 H b ps ms l) (h : n ≤ 399) (h1 : 1 ≤ m) (h2 : m ≤ 400) (k : ∀ a H', Wd T p c ns H0 H' b (lnS C a (stepF n m) :: ps) ms l → Q (.ref a) H') : spSt K Bc C [.int n, .int m] H Q E :=
  ⟨_, _, true, true, rfl, btw_of (by omega) (by omega), btw_of (by omega) (by omega), (fun e => nomatch e), (fun _ e => nomatch e), fun i j _ _ e1 e2 H' a s' h' => by
    have e1 : n = i := by have := V.int.inj e1; omega
    have e2 : m = j := by have := V.int.inj e2; omega
    subst e1 e2
    exact k a H' (W.lnew s' h')⟩
/-- Lengths.every(), Lengths.none() -/
theorem Wd.coL (W : Wd T p c ns H0 H b ps ms l) (k : ∀ a H', Wd T p c ns H0 H' b (lnS C a f :: ps) ms l → Q (.ref a) H') : spCo C f [] H Q E := ⟨rfl, fun H' a s' h => k a H' (W.lnew s' h)⟩
/-- one op other -/
theorem Wd.binL {t : Bool → Bool → Bool} (W : Wd T p c ns H0 H b ps ms l) (ha : IsLen H C a f) (hb : IsLen H C a2 g) (fit : ∀ s p s' p', LF f s p → LF g s' p' → max s s' + Nat.lcm p p' ≤ 400) (k : ∀ x H', Wd T p c ns H0 H' b (lnS C x (fun n => t (f n) (g n)) :: ps) ms l → Q (.ref x) H') : rBinS K C (spOpL Bm C t) E (.ref a) (.ref a2) H Q := by
  obtain ⟨dx, fs, e1⟩ := ha.ob
  obtain ⟨dy, gs, e2⟩ := hb.ob
  exact ⟨a, dx, a2, dy, fs, gs, rfl, e1, rfl, e2, a, a2, f, g, rfl, ha, hb, fun s p s' p' L L' z => absurd (fit s p s' p' L L') (by omega), fun _ H' x s' h => k x H' (W.lnew s' h)⟩
theorem Wd.invL (W : Wd T p c ns H0 H b ps ms l) (ha : IsLen H C a f) (k : ∀ x H', Wd T p c ns H0 H' b (lnS C x (fun n => !f n) :: ps) ms l → Q (.ref x) H') : rInvO C (spInvL C) E (.ref a) H Q := by
  obtain ⟨dx, fs, e1⟩ := ha.ob
  exact ⟨a, dx, fs, rfl, e1, a, f, rfl, ha, fun H' x s' h => k x H' (W.lnew s' h)⟩
theorem q_eqL (D : LnD P w K mg base B Bm C) (nf : PySem.W.notFirst K C (.ref C) = true) (ha : IsLen H C a f) (hb : IsLen H C a2 g) (q : Q (.bl (eqF f g)) H) : rEqO K C (spEqL K C) E (.ref a) (.ref a2) H Q := by
  obtain ⟨dx, fs, e1⟩ := ha.ob
  exact ⟨a, dx, fs, .ref C, rfl, e1, D.ty hb, nf, a, f, .ref a2, _, rfl, ha, .inl ⟨a2, g, rfl, hb, rfl⟩, _, rfl, q⟩
theorem q_neL (D : LnD P w K mg base B Bm C) (nf : PySem.W.notFirst K C (.ref C) = true) (ha : IsLen H C a f) (hb : IsLen H C a2 g) (q : Q (.bl (!eqF f g)) H) : rNeO K C (spEqL K C) E (.ref a) (.ref a2) H Q := by
  obtain ⟨dx, fs, e1⟩ := ha.ob
  exact ⟨a, dx, fs, .ref C, rfl, e1, D.ty hb, nf, a, f, .ref a2, _, rfl, ha, .inl ⟨a2, g, rfl, hb, rfl⟩, _, rfl, q⟩
/-- n in o -/
theorem q_inL {d : Int} (ha : IsLen H C a f) (q : Q (.bl (decide (0 ≤ d) && f d.toNat)) H) : rInO C (spInL K C) E (.int d) (.ref a) H Q := by
  obtain ⟨dx, fs, e1⟩ := ha.ob
  exact ⟨a, dx, fs, rfl, e1, a, f, .int d, rfl, ha, .inl ⟨d, rfl, _, rfl, q⟩⟩
theorem q_niL {d : Int} (ha : IsLen H C a f) (q : Q (.bl (!(decide (0 ≤ d) && f d.toNat))) H) : rNiO C (spInL K C) E (.int d) (.ref a) H Q := by
  obtain ⟨dx, fs, e1⟩ := ha.ob
  exact ⟨a, dx, fs, rfl, e1, a, f, .int d, rfl, ha, .inl ⟨d, rfl, _, rfl, q⟩⟩
theorem q_inN {d : Nat} (ha : IsLen H C a f) (q : Q (.bl (f d)) H) : rInO C (spInL K C) E (.int d) (.ref a) H Q := q_inL ha (by rw [decide_eq_true (show (0 : Int) ≤ d by omega), Bool.true_and, Int.toNat_natCast]; exact q)
theorem q_niN {d : Nat} (ha : IsLen H C a f) (q : Q (.bl (!f d)) H) : rNiO C (spInL K C) E (.int d) (.ref a) H Q := q_niL ha (by rw [decide_eq_true (show (0 : Int) ≤ d by omega), Bool.true_and, Int.toNat_natCast]; exact q)
/-- a property -/
theorem Wd.prL {v : (Nat → Bool) → Nat → Nat → V} (W : Wd T p c ns H0 H b ps ms l) (ha : IsLen H C a f) (k : ∀ s p' H', LF f s p' → s + p' ≤ 400 → Wd T p c ns H0 H' b ps ms l → Q (v f s p') H') : ∃ a' dx fs, V.ref a = .ref a' ∧ H a' = some (.ins C dx fs) ∧ spPrL C v (.ref a' :: []) H Q E := by
  obtain ⟨dx, fs, e1⟩ := ha.ob
  exact ⟨a, dx, fs, rfl, e1, a, f, rfl, ha, fun s p' H' L l s' => k s p' H' L l (W.same s')⟩
theorem Wd.lsL (W : Wd T p c ns H0 H b ps ms l) (ha : IsLen H C a f) (k : ∀ H', Wd T p c ns H0 H' b ps ms l → MemF f 0 Q H') : ∃ a' dx fs, V.ref a = .ref a' ∧ H a' = some (.ins C dx fs) ∧ spLst C (.ref a' :: []) H Q E := by
  obtain ⟨dx, fs, e1⟩ := ha.ob
  exact ⟨a, dx, fs, rfl, e1, a, f, rfl, ha, fun H' s' => k H' (W.same s')⟩
theorem q_prT {xs : (Nat → Bool) → Nat → Nat → List Int} (ha : IsLen H C a f) (q : ∀ s p r, LF f s p → s + p ≤ 400 → H r = some (.tup ((xs f s p).map V.int)) → Q (.ref r) H) : ∃ a' dx fs, V.ref a = .ref a' ∧ H a' = some (.ins C dx fs) ∧ spPrT C xs (.ref a' :: []) H Q E := by
  obtain ⟨dx, fs, e1⟩ := ha.ob
  exact ⟨a, dx, fs, rfl, e1, a, f, rfl, ha, q⟩
end
/-- two ways to one value -/
theorem q_if2 {c : Bool} {ta tb : TE} {σ : SV} {H : Hp} {Q : VK} (R : V → Hp → Prop) (k : ∀ v H', R v H' → Q v H') (h1 : c = true → ∀ Q' : VK, (∀ v H', R v H' → Q' v H') → ta σ H Q') (h2 : ¬ c = true → ∀ Q' : VK, (∀ v H', R v H' → Q' v H') → tb σ H Q') : if c = true then ta σ H Q else tb σ H Q := by
  split
  · rename_i e
    exact h1 e Q k
  · rename_i e
    exact h2 e Q k
/-- a and b, that is false -/
theorem q_andF {c : Bool} {tu : TT} {σ : SV} {H : Hp} {QB : Bool → Hp → Prop} (R : Hp → Prop) (k : ∀ H', R H' → QB false H') (h1 : c = true → ∀ QB' : Bool → Hp → Prop, (∀ H', R H' → QB' false H') → tu σ H QB') (h2 : ¬ c = true → R H) : if c = true then tu σ H QB else QB false H := by
  split
  · rename_i e
    exact h1 e QB k
  · rename_i e
    exact k H (h2 e)
theorem eqv_intL (xs ys : List Int) : PyData.eqv (.list (xs.map PyData.int)) (.list (ys.map PyData.int)) = decide (xs = ys) := by
  rw [PyData.eqv]
  exact eqv_ints xs ys
section
variable {T : List (Addr × Str)} {p c : Addr} {ns : List Int} {H0 H H' : Hp} {b b' : Int} {ps : List SP} {ms : List (Addr × List V)} {l l0 : List (Addr × HO)}
theorem Wd.only {s : SP} (W : Wd T p c ns H0 H b ps ms l) (h : s ∈ ps := by repeat (first | exact List.Mem.head _ | apply List.Mem.tail)) : Wd T p c ns H0 H b [s] ms l := by
  refine { W with im := fun q hq => ?_ }
  rw [List.mem_singleton.mp hq]
  exact W.im s h
end
theorem LF_mem {zs : List Int} {m : Nat} (h : ∀ z ∈ zs, 0 ≤ z ∧ z < m) (h2 : m = 0 ∨ ((m - 1 : Nat) : Int) ∈ zs) : LF (memF zs) m 1 := by
  have pr := memF_per (S := m) fun z hz => (h z hz).2
  refine ⟨by omega, pr, fun q q1 _ => q1, h2.imp id fun e z => ?_⟩
  have t1 : memF zs (m - 1) = true := decide_eq_true e
  have t2 : memF zs (m - 1 + 1) = false := decide_eq_false fun y => by
    have := (h _ y).2
    omega
  rw [t1, t2] at z
  cases z
theorem restI_memF {zs : List Int} {m : Nat} (h : ∀ z ∈ zs, 0 ≤ z ∧ z < m) : restI (memF zs) m 1 = [] := by
  unfold restI
  rw [List.filter_eq_nil_iff]
  intro r hr
  have := mem_rgN.mp hr
  show ¬ memF zs (r.toNat + 1 * m) = true
  unfold memF
  rw [decide_eq_false (fun y => by have := (h _ y).2; omega)]
  exact Bool.false_ne_true
theorem q_maxD {K : PySem.W.Frag} {H : Hp} {Q : VK} {D : Addr} {zs : List Int} (hD : H D = some (.lst ((zs.map (· + 1)).map V.int))) (hz : ∀ z ∈ zs, 0 ≤ z) (k : ∀ m : Nat, (∀ z ∈ zs, 0 ≤ z ∧ z < m) → (m = 0 ∨ ((m - 1 : Nat) : Int) ∈ zs) → Q (.int m) H) : rMaxD K [.ref D] [.int 0] H Q := by
  refine ⟨D, zs.map (· + 1), .int 0, rfl, rfl, SqL.of hD, fun e => ?_, fun e m h1 h2 => ?_⟩
  · have e : zs = [] := List.map_eq_nil_iff.mp e
    exact k 0 (fun z h => by rw [e] at h; cases h) (.inl rfl)
  · obtain ⟨z0, h0, rfl⟩ := List.mem_map.mp h1
    have := hz z0 h0
    obtain ⟨m, hm⟩ := int_nat (show 0 ≤ z0 + 1 by omega)
    rw [hm]
    refine k m (fun z h => ⟨hz z h, by have := h2 (z + 1) (List.mem_map.mpr ⟨z, h, rfl⟩); omega⟩) (.inr ?_)
    rw [show ((m - 1 : Nat) : Int) = z0 by omega]
    exact h0
theorem len1 {α : Type} {zs : List α} (h : zs.length = 1) : ∃ x, zs = [x] := by
  match zs, h with
  | [x], _ => exact ⟨x, rfl⟩
theorem len2 {α : Type} {zs : List α} (h : zs.length = 2) : ∃ x y, zs = [x, y] := by
  match zs, h with
  | [x, y], _ => exact ⟨x, y, rfl⟩
theorem len3 {α : Type} {zs : List α} (h : zs.length = 3) : ∃ x y z, zs = [x, y, z] := by
  match zs, h with
  | [x, y, z], _ => exact ⟨x, y, z, rfl⟩
theorem len9 {α : Type} {zs : List α} (h : zs.length = 9) : ∃ a b c d e f g i j, zs = [a, b, c, d, e, f, g, i, j] := by
  match zs, h with
  | [a, b, c, d, e, f, g, i, j], _ => exact ⟨a, b, c, d, e, f, g, i, j, rfl⟩
theorem memF_far {zs : List Int} {d : Int} {m : Int} (h : ∀ z ∈ zs, z < m) (hd : m ≤ d) (h0 : 0 ≤ d) : memF zs d.toNat = false := decide_eq_false fun y => by
  rw [Int.toNat_of_nonneg h0] at y
  have := h _ y
  omega
theorem form3_small {m : Nat} (h : m ≤ 55) : (PyData.tuple [.int m, .int 1, .tuple []]).showable = true ∧ (PyData.tuple [.int m, .int 1, .tuple []]).depth ≤ 60 ∧ (PyData.tuple [.int m, .int 1, .tuple []]).shown.length ≤ sizeLine := by
  have z : ((List.range 56).all fun m : Nat => (PyData.tuple [.int m, .int 1, .tuple []]).showable && (decide ((PyData.tuple [.int m, .int 1, .tuple []]).depth ≤ 60) && decide ((PyData.tuple [.int m, .int 1, .tuple []]).shown.length ≤ 100))) = true := by decide +kernel
  have y := List.all_eq_true.mp z m (List.mem_range.mpr (by omega))
  simp only [Bool.and_eq_true, decide_eq_true_eq] at y
  exact ⟨y.1, y.2.1, Nat.le_trans y.2.2 (by rw [sizeLine_eq]; decide)⟩
section
variable {w : World} {K : PySem.W.Frag} {T : List (Addr × Str)} {p c : Addr} {ns : List Int} {H0 H H' : Hp} {b b' : Int} {ps : List SP} {ms : List (Addr × List V)} {l l0 : List (Addr × HO)} {Q : VK}
theorem Wd.setL {D : Addr} {zs : List Int} (W : Wd T p c ns H0 H b ps ms l) (h : H D = some (.lst (zs.map V.int))) (hz : zs.length ≤ 1000) (k : ∀ p2 c2 H', H' p2 = some (SetO w p2 (fun j => decide (j ∈ zs)) c2) → c2 ≤ zs.length → Wd T p c ns H0 H' b ps ms l → Q (.ref p2) H') : rSetL K w [.ref D] H Q :=
  ⟨D, zs, rfl, SqL.of h, hz, fun p2 c2 hp hc => k p2 c2 _ upd_same hc (W.same (same_new (o := SetO w p2 (fun j => decide (j ∈ zs)) c2) (Same.refl _) hp))⟩
theorem Wd.sortS {p2 : Addr} {c2 : Nat} {S : Int → Bool} (W : Wd T p c ns H0 H b ps ms l) (h : H p2 = some (SetO w p2 S c2)) (hz : c2 ≤ 1000) (k : ∀ (q : Addr) (zs : List Int) (H' : Hp), zs.Pairwise (· < ·) → (∀ k : Int, k ∈ zs ↔ S k = true) → Wd T p c ns H0 H' b ps ms ((q, .lst (zs.map V.int)) :: l) → Q (.ref q) H') : rSortedSetA w [.ref p2] H Q :=
  ⟨p2, S, c2, rfl, h, hz, fun zs q g1 g2 _ hq => k q zs _ g1 g2 (W.new hq (fun _ z => nomatch z))⟩
/-- tuple(xs) of a list -/
theorem Wd.tupL {D : Addr} {xs : List V} (W : Wd T p c ns H0 H b ps ms l) (h : H D = some (.lst xs)) (k : ∀ t H', Wd T p c ns H0 H' b ps ms ((t, .tup xs) :: l) → Q (.ref t) H') : ∃ a ys, [V.ref D] = [V.ref a] ∧ ((SqL K H a ys ∧ ∀ l, H l = none → Q (.ref l) (upd H l (.tup ys))) ∨ (SqT K H a ys ∧ Q (.ref a) H)) :=
  ⟨D, xs, rfl, .inl ⟨SqL.of h, fun t ht => k t _ (W.new ht (fun _ z => nomatch z))⟩⟩
end
theorem LF_since (n : Nat) : LF (fun m => decide (n ≤ m)) n 1 := by
  refine ⟨by omega, fun m hm => ?_, fun q q1 _ => q1, ?_⟩
  · show decide (n ≤ m + 1) = decide (n ≤ m)
    rw [decide_eq_true hm, decide_eq_true (show n ≤ m + 1 by omega)]
  · rcases Nat.eq_zero_or_pos n with e | e
    · exact .inl e
    · refine .inr fun z => ?_
      have z : decide (n ≤ n - 1) = decide (n ≤ n - 1 + 1) := z
      rw [decide_eq_true (show n ≤ n - 1 + 1 by omega), decide_eq_false (show ¬ n ≤ n - 1 by omega)] at z
      cases z
theorem lowI_none {f : Nat → Bool} {s : Nat} (h : ∀ n < s, f n = false) : lowI f s = [] := by
  unfold lowI
  rw [List.filter_eq_nil_iff]
  intro r hr
  have := mem_rgN.mp hr
  rw [h r.toNat (by omega)]
  exact Bool.false_ne_true
theorem restI_one {f : Nat → Bool} {s p n : Nat} (L : LF f s p) (hn : s ≤ n) (h1 : f n = true) (h2 : ∀ m, s ≤ m → f m = true → m % p = n % p) : restI f s p = [((n % p : Nat) : Int)] := by
  refine asc_uniq (restI_sorted _ _ _) (by simp) fun k => ?_
  rw [List.mem_singleton]
  have a := restI_at L hn
  rw [h1, decide_eq_true_eq, ← Int.natCast_emod] at a
  constructor
  · intro hk
    obtain ⟨⟨k1, k2⟩, k3⟩ := mem_restI.mp hk
    have z := h2 _ (by have := Nat.le_mul_of_pos_left s L.pos; omega) k3
    rw [Nat.add_mul_mod_self_left, Nat.mod_eq_of_lt (show k.toNat < p by omega)] at z
    omega
  · rintro rfl
    exact a
theorem LF_steps {n m : Nat} (hm : 1 ≤ m) : LF (stepF n m) (n + 1 - m) m := by
  have h : PerN (stepF n m) (n + 1 - m) m := fun k hk => by
    unfold stepF
    by_cases c : n ≤ k
    · rw [decide_eq_true c, decide_eq_true (show n ≤ k + m by omega), show k + m - n = k - n + m by omega, Nat.add_mod_right]
    · rw [decide_eq_false c, decide_eq_true (show n ≤ k + m by omega), Nat.mod_eq_of_lt (show k + m - n < m by omega), decide_eq_false (show ¬ k + m - n = 0 by omega)]
      rfl
  have hn : stepF n m n = true := by
    unfold stepF
    rw [decide_eq_true (Nat.le_refl n), Nat.sub_self, Nat.zero_mod, decide_eq_true rfl]
    rfl
  refine ⟨hm, h, fun q q1 hq => ?_, ?_⟩
  · have z := hq n (by omega)
    rw [hn] at z
    unfold stepF at z
    rw [Bool.and_eq_true, decide_eq_true_eq, decide_eq_true_eq, Nat.add_sub_cancel_left] at z
    exact Nat.le_of_dvd q1 (Nat.dvd_of_mod_eq_zero z.2)
  · rcases Nat.eq_zero_or_pos (n + 1 - m) with e | e
    · exact .inl e
    · refine .inr fun z => ?_
      rw [show n + 1 - m - 1 + m = n by omega, hn] at z
      unfold stepF at z
      rw [decide_eq_false (show ¬ n ≤ n + 1 - m - 1 by omega)] at z
      cases z
theorem stepF_mod {n m k : Nat} (h : stepF n m k = true) : k % m = n % m := by
  unfold stepF at h
  rw [Bool.and_eq_true, decide_eq_true_eq, decide_eq_true_eq] at h
  obtain ⟨c, hc⟩ := Nat.dvd_of_mod_eq_zero h.2
  rw [show k = n + m * c by omega, Nat.add_mul_mod_self_left]
theorem stepF_lt {n m k : Nat} (h : k < n) : stepF n m k = false := by
  unfold stepF
  rw [decide_eq_false (show ¬ n ≤ k by omega)]
  rfl
theorem stepF_at (n m c : Nat) : stepF n m (n + m * c) = true := by
  unfold stepF
  rw [decide_eq_true (show n ≤ n + m * c by omega), Nat.add_sub_cancel_left, Nat.mul_mod_right, decide_eq_true rfl]
  rfl
theorem dp_form4 {K : PySem.W.Frag} {H : Hp} {t r1 r2 : Addr} {s p : Nat} {lo re : List Int} (h : H t = some (.lst [.int s, .ref r1, .int p, .ref r2])) (h1 : H r1 = some (.tup (lo.map V.int))) (h2 : H r2 = some (.tup (re.map V.int))) : Dp K H (.ref t) (.list [.int s, .tuple (lo.map PyData.int), .int p, .tuple (re.map PyData.int)]) :=
  .lst (SqL.of h) (.cons (.int _) (.cons (.tup (.inl (.inl h1)) (dp_ints _)) (.cons (.int _) (.cons (.tup (.inl (.inl h2)) (dp_ints _)) .nil))))
theorem shaped_form4 (s p : Nat) (lo re : List Int) : SeqAt.shaped (.list [.int s, .tuple (lo.map PyData.int), .int p, .tuple (re.map PyData.int)]) = true := by
  unfold SeqAt.shaped
  have h1 : PyData.canLay0 (.list [.int s, .tuple (lo.map PyData.int), .int p, .tuple (re.map PyData.int)]) = true := by
    show (PyData.canLay0 (.int s) && (PyData.canLayAll0 (lo.map PyData.int) && (PyData.canLay0 (.int p) && (PyData.canLayAll0 (re.map PyData.int) && true)))) = true
    rw [canLay_ints, canLay_ints]
    rfl
  have h2 : PyData.depth (.list [.int s, .tuple (lo.map PyData.int), .int p, .tuple (re.map PyData.int)]) = 2 := by
    show max 0 (max (PyData.depthAll (lo.map PyData.int) + 1) (max 0 (max (PyData.depthAll (re.map PyData.int) + 1) 0))) + 1 = 2
    rw [depth_ints, depth_ints]
    rfl
  rw [h1, h2]
  rfl
end NB
/-! NLd: sets of lengths within one another: numbers with two given rests; in a dict; {.. for x in range(n)}. -/
namespace NB
open PySem L2 ClX NumText TL
theorem bezout (a b : Nat) : ∃ x y : Int, (a : Int) * x + (b : Int) * y = (Nat.gcd a b : Nat) := by
  induction a, b using Nat.gcd.induction with
  | H0 n => exact ⟨0, 1, by rw [Nat.gcd_zero_left]; omega⟩
  | H1 m n hm ih =>
    obtain ⟨x, y, e⟩ := ih
    refine ⟨y - ((n / m : Nat) : Int) * x, x, ?_⟩
    rw [Nat.gcd_rec, ← e]
    have h : (n : Int) = ((n % m : Nat) : Int) + (m : Int) * ((n / m : Nat) : Int) := by
      rw [← Int.natCast_mul, ← Int.natCast_add]
      exact congrArg _ (Nat.mod_add_div n m).symm
    have h2 : (n : Int) * x = ((n % m : Nat) : Int) * x + (m : Int) * ((n / m : Nat) : Int) * x := by
      rw [← Int.add_mul, ← h]
    rw [Int.mul_sub, h2, ← Int.mul_assoc]
    omega
/-- a number with two given rests -/
theorem two_rests {p q r t : Nat} (hp : 1 ≤ p) (hq : 1 ≤ q) (h : r % Nat.gcd p q = t % Nat.gcd p q) (S : Nat) : ∃ n : Nat, S ≤ n ∧ n % p = r % p ∧ n % q = t % q := by
  obtain ⟨x, y, e⟩ := bezout p q
  obtain ⟨k, ek⟩ : ∃ k : Int, (t : Int) - r = ((Nat.gcd p q : Nat) : Int) * k := by
    refine ⟨((t / Nat.gcd p q : Nat) : Int) - ((r / Nat.gcd p q : Nat) : Int), ?_⟩
    have e1 := Nat.mod_add_div r (Nat.gcd p q)
    have e2 := Nat.mod_add_div t (Nat.gcd p q)
    rw [Int.mul_sub, ← Int.natCast_mul, ← Int.natCast_mul]
    omega
  -- the number, first as an integer
  have a1 : (r : Int) + (p : Int) * (x * k) = (t : Int) + (q : Int) * (-(y * k)) := by
    have h2 : ((Nat.gcd p q : Nat) : Int) * k = (p : Int) * (x * k) + (q : Int) * (y * k) := by
      rw [← e, Int.add_mul, Int.mul_assoc, Int.mul_assoc]
    rw [Int.mul_neg]
    omega
  let M : Nat := S + ((r : Int) + (p : Int) * (x * k)).natAbs
  have hM : 1 * M ≤ (p * q) * M := Nat.mul_le_mul_right M (Nat.mul_pos hp hq)
  have hz : (S : Int) ≤ (r : Int) + (p : Int) * (x * k) + ((p * q * M : Nat) : Int) := by
    have : M = S + ((r : Int) + (p : Int) * (x * k)).natAbs := rfl
    omega
  refine ⟨((r : Int) + (p : Int) * (x * k) + ((p * q * M : Nat) : Int)).toNat, by omega, ?_, ?_⟩
  · refine Int.ofNat.inj ?_
    show (((_ : Nat) % p : Nat) : Int) = ((r % p : Nat) : Int)
    rw [Int.natCast_emod, Int.toNat_of_nonneg (by omega), Int.natCast_emod, show ((p * q * M : Nat) : Int) = (p : Int) * ((q * M : Nat) : Int) by rw [← Int.natCast_mul, Nat.mul_assoc], Int.add_assoc, ← Int.mul_add, Int.add_mul_emod_self_left]
  · refine Int.ofNat.inj ?_
    show (((_ : Nat) % q : Nat) : Int) = ((t % q : Nat) : Int)
    rw [Int.natCast_emod, Int.toNat_of_nonneg (by omega), Int.natCast_emod, a1, show ((p * q * M : Nat) : Int) = (q : Int) * ((p * M : Nat) : Int) by rw [← Int.natCast_mul, Nat.mul_comm p q, Nat.mul_assoc], Int.add_assoc, ← Int.mul_add, Int.add_mul_emod_self_left]
/-- the rests that are lacking, by a divisor -/
def missL (g : Nat → Bool) (s' p' d : Nat) (r : Int) : Prop := ∃ t : Int, (0 ≤ t ∧ t < p') ∧ ¬ t ∈ restI g s' p' ∧ t % (d : Int) = r
theorem within_iff {f g : Nat → Bool} {s p s' p' : Nat} (L : LF f s p) (L' : LF g s' p') (h : ∀ n, n < max s s' → f n = true → g n = true) :
    (∀ n, f n = true → g n = true) ↔ ∀ r ∈ restI f s p, ¬ missL g s' p' (Nat.gcd p p') (r % ((Nat.gcd p p' : Nat) : Int)) := by
  have p1 := L.pos
  have p2 := L'.pos
  constructor
  · rintro H r hr ⟨t, ⟨t0, t1⟩, t2, e⟩
    obtain ⟨⟨r0, r1⟩, _⟩ := mem_restI.mp hr
    obtain ⟨r, rfl⟩ := int_nat r0
    obtain ⟨t, rfl⟩ := int_nat t0
    obtain ⟨n, n1, n2, n3⟩ := two_rests (S := max s s') (r := r) (t := t) p1 p2 (by
      rw [← Int.natCast_emod, ← Int.natCast_emod] at e
      omega)
    have a := H n
    rw [← restI_at L (show s ≤ n by omega), ← restI_at L' (show s' ≤ n by omega), ← Int.natCast_emod, ← Int.natCast_emod, n2, n3, Nat.mod_eq_of_lt (by omega), Nat.mod_eq_of_lt (by omega)] at a
    exact t2 (of_decide_eq_true (a (decide_eq_true hr)))
  · intro H n hf
    by_cases c : n < max s s'
    · exact h n c hf
    rw [← restI_at L (show s ≤ n by omega)] at hf
    have hf := of_decide_eq_true hf
    have z := H _ hf
    rw [← restI_at L' (show s' ≤ n by omega)]
    refine decide_eq_true ?_
    refine Classical.byContradiction fun y => z ⟨(n : Int) % (p' : Int), ⟨Int.emod_nonneg _ (by omega), Int.emod_lt_of_pos _ (by omega)⟩, y, ?_⟩
    rw [Int.emod_emod_of_dvd _ (Int.natCast_dvd_natCast.mpr (Nat.gcd_dvd_right p p')), Int.emod_emod_of_dvd _ (Int.natCast_dvd_natCast.mpr (Nat.gcd_dvd_left p p'))]
open Classical in
theorem leF_iff {f g : Nat → Bool} : leF f g = true ↔ ∀ n, f n = true → g n = true := by
  unfold leF
  exact decide_eq_true_iff
noncomputable def ltF (f g : Nat → Bool) : Bool := leF f g && !eqF f g
noncomputable def ltFG (f g : Nat → Bool) : Bool := leF g f && !eqF f g
open Classical in
theorem leF_true {f g : Nat → Bool} (h : ∀ n, f n = true → g n = true) : leF f g = true := by
  unfold leF
  exact decide_eq_true h
open Classical in
theorem leF_false {f g : Nat → Bool} {n : Nat} (h : f n = true) (h2 : g n = false) : leF f g = false := by
  unfold leF
  exact decide_eq_false fun z => by
    have := z n h
    rw [h2] at this
    exact nomatch this
/-- a number in a dict -/
def rInK : R2 := fun x y H Q => ∃ (n : Int) (a : Addr) (kvs : List (Key × V)), x = .int n ∧ y = .ref a ∧ H a = some (.dK kvs) ∧ Q (.bl (valV kvs (.inl n)).isSome) H
theorem op_inK {X : Cx} (hu : X.A.units + 64 < cLine) : OpR X (compareOp .In) rInK := by
  intro pins s σ H x y v u Q I rx ry ⟨n, a, kvs, e1, e2, e3, q⟩
  subst e1 e2
  cases ry
  exact d_in (by omega) I (DGet.k (k := .inl n) e3) rx fun s' I' => ⟨.bl _, H, I', rfl, q⟩
theorem q_dc {wi : TI} {g : TG} {tt : TT} {tk tv : TE} {vs : List Nat} {σ : SV} {H : Hp} {Q : VK} (h : wi σ H fun J H1 => ∀ D, H1 D = none → ∃ W : Nat → Nat → Hp → Prop, (∃ m, W 0 m (upd H1 D (.dK []))) ∧ ∀ i m H, W i m H →
  (J.stop i H ∧ Q (.ref D) H) ∨ (J.go i H ∧ ∃ Nx : Hp → Prop, (∀ H', Nx H' → ∃ m', m' < m ∧ W (i + 1) m' H') ∧ ∀ x H', J.yld i H x H' → g x (wipe σ vs) H' fun σ2 H2 => wipe σ2 vs = wipe σ vs ∧ tt σ2 H2 fun b H3 =>
    if b = true then tk σ2 H3 fun y H4 => tv σ2 H4 fun z H5 => ∃ kvs k, y = kV k ∧ H5 D = some (.dK kvs) ∧ kvs.length < sizeLine ∧ Nx (upd H5 D (.dK (putK kvs k z))) else Nx H3)) : tDc wi g tt tk tv vs σ H Q := h
section
variable {lo : Int} {n : Nat} {D : Addr} {tt : TT} {tk tv : TE} {vs : List Nat} {σ : SV} {H1 : Hp} {Qd : Hp → Prop} {j : Nat}
/-- {k: v for x in range(..) if t}: which keys it has -/
theorem dc_filR (p : Int → Bool) (kf : Int → Int) (z : V) (hD : H1 D = none) (hn : n < sizeLine) (hw : ∀ x, wipe ((wipe σ vs).set j (some x)) vs = wipe σ vs)
    (htt : ∀ k ∈ rgN lo n, ∀ (H' : Hp) (Q : Bool → Hp → Prop), Same H1 H' → Q (p k) H' → tt ((wipe σ vs).set j (some (.int k))) H' Q)
    (hel : ∀ k ∈ rgN lo n, p k = true → ∀ (H' : Hp) (Q : VK), Same H1 H' → Q (.int (kf k)) H' → tk ((wipe σ vs).set j (some (.int k))) H' Q)
    (hev : ∀ (σ : SV) (H' : Hp) (Q : VK), Q z H' → tv σ H' Q)
    (hd : ∀ kvs : List (Key × V), (∀ r : Int, (valV kvs (.inl r)).isSome = true ↔ ∃ k ∈ rgN lo n, p k = true ∧ kf k = r) → Qd (upd H1 D (.dK kvs))) :
    ∃ W : Nat → Nat → Hp → Prop, (∃ m, W 0 m (upd H1 D (.dK []))) ∧ ∀ i m H, W i m H →
      ((Itr lo n).stop i H ∧ Qd H) ∨ ((Itr lo n).go i H ∧ ∃ Nx : Hp → Prop, (∀ H', Nx H' → ∃ m', m' < m ∧ W (i + 1) m' H') ∧ ∀ x H', (Itr lo n).yld i H x H' → gName j x (wipe σ vs) H' fun σ2 H2 => wipe σ2 vs = wipe σ vs ∧ tt σ2 H2 fun b H3 =>
        if b = true then tk σ2 H3 fun y H4 => tv σ2 H4 fun z H5 => ∃ kvs k, y = kV k ∧ H5 D = some (.dK kvs) ∧ kvs.length < sizeLine ∧ Nx (upd H5 D (.dK (putK kvs k z))) else Nx H3) := by
  let Pv : Nat → Hp → Prop := fun i H => ∃ kvs : List (Key × V), H = upd H1 D (.dK kvs) ∧ kvs.length ≤ i ∧ ∀ r : Int, (valV kvs (.inl r)).isSome = true ↔ ∃ k ∈ rgN lo i, p k = true ∧ kf k = r
  refine ⟨fun i m H => m = n - i ∧ i ≤ n ∧ Pv i H, ⟨_, rfl, Nat.zero_le _, [], rfl, Nat.le_refl _, fun r => ⟨(fun h => nomatch h), (fun ⟨k, hk, _⟩ => nomatch hk)⟩⟩, ?_⟩
  rintro i m H ⟨rfl, hi, kvs, rfl, hl, hv⟩
  have es : rgN lo (i + 1) = rgN lo i ++ [lo + (i : Int)] := by
    unfold rgN
    rw [List.range_succ, List.map_append]
    rfl
  by_cases hlt : i < n
  · refine .inr ⟨hlt, Pv (i + 1), fun H' e => ⟨_, by omega, rfl, hlt, e⟩, ?_⟩
    rintro x H' ⟨rfl, rfl⟩
    have mem : lo + (i : Int) ∈ rgN lo n := List.mem_map.mpr ⟨i, List.mem_range.mpr hlt, rfl⟩
    have sD := same_new (o := .dK kvs) (Same.refl H1) hD
    refine ⟨hw _, htt _ mem _ _ sD ?_⟩
    refine ite2 (fun b => hel _ mem b _ _ sD (hev _ _ _ ⟨kvs, .inl (kf (lo + (i : Int))), rfl, upd_same, by omega, ?_⟩)) (fun b => ?_)
    · refine ⟨_, upd_upd .., by have := length_putK kvs (.inl (kf (lo + (i : Int)))) z; omega, fun r => ?_⟩
      rw [valV_put, es]
      by_cases e : (Sum.inl r : Key) = .inl (kf (lo + (i : Int)))
      · rw [if_pos e]
        exact ⟨fun _ => ⟨_, List.mem_append_right _ (List.mem_singleton.mpr rfl), b, (Sum.inl.inj e).symm⟩, fun _ => rfl⟩
      · rw [if_neg e, hv r]
        constructor
        · rintro ⟨k, hk, h⟩
          exact ⟨k, List.mem_append_left _ hk, h⟩
        · rintro ⟨k, hk, h1, h2⟩
          rcases List.mem_append.mp hk with y | y
          · exact ⟨k, y, h1, h2⟩
          · rw [List.mem_singleton.mp y] at h2
            exact absurd (congrArg Sum.inl h2.symm) e
    · refine ⟨kvs, rfl, by omega, fun r => ?_⟩
      rw [hv r, es]
      constructor
      · rintro ⟨k, hk, h⟩
        exact ⟨k, List.mem_append_left _ hk, h⟩
      · rintro ⟨k, hk, h1, h2⟩
        rcases List.mem_append.mp hk with y | y
        · exact ⟨k, y, h1, h2⟩
        · rw [List.mem_singleton.mp y] at h1
          exact absurd h1 b
  · have e : i = n := by omega
    subst e
    exact .inl ⟨Nat.le_refl _, hd kvs hv⟩
end
/-- is_within(form, other) -/
def spIw : Sp := fun vs H Q _ => ∃ (t u : Addr) (f g : Nat → Bool) (s p s' p' : Nat), vs = [.ref t, .ref u] ∧ FormL H t f s p ∧ FormL H u g s' p' ∧ LF f s p ∧ LF g s' p' ∧ s + p ≤ 400 ∧ s' + p' ≤ 400 ∧ ∀ H', Same H H' → Q (.bl (leF f g)) H'
/-- one <= other and so on -/
def spCmpL (C : Addr) (r : (Nat → Bool) → (Nat → Bool) → Bool) : Sp := fun vs H Q _ => ∃ (a b : Addr) (f g : Nat → Bool), vs = [.ref a, .ref b] ∧ IsLen H C a f ∧ IsLen H C b g ∧ ∀ H', Same H H' → Q (.bl (r f g)) H'
end NB
/-! NLe: an if without else: both ways joined; the state of names written out. -/
namespace NB
open PySem L2
theorem q_ifJ {c : Bool} {ta : TS} {t2 : TS} {D : Ends} {σ : SV} {H : Hp} (R : SV → Hp → Prop) (k : ∀ σ' H', R σ' H' → t2 D σ' H') (h1 : c = true → ∀ X : SV → Hp → Prop, (∀ σ' H', R σ' H' → X σ' H') → ta { D with nx := X } σ H) (h2 : ¬ c = true → R σ H) : if c = true then ta { D with nx := t2 D } σ H else tNext { D with nx := t2 D } σ H := by
  split
  · rename_i e
    exact h1 e _ k
  · rename_i e
    exact k _ _ (h2 e)
end NB
/-! NLk: a static method called by names alone. -/
namespace NB
section
open PySem PySem.Spec PyProof.Rows L2 ClX
def tSMethK (C : Addr) (n : Nat) (sp : Sp) (gV : List V → List V → List V) (E : XK) (ta : TE) (tk : TA) : TE := fun σ H Q => ta σ H fun x H1 => x = .ref C ∧ tk σ H1 fun zs H2 => zs.length = n ∧ sp (gV [] zs) H2 Q E
variable {X : Cx} {CX : CXT} {k : Nat} {C p g : Addr} {fd : FuncData} {ps ks : List Str} {gs : List Value → List Value → List Value} {gV : List V → List V → List V} {mc : Value} {sp : Sp} {E : XK} {o : Expr} {kws : List Keyword} {m : Str} {pos apos : Pos} {ta : TE} {tk : TA} {pl : Sem Bool}
theorem pe_smethK (he : PE X o ta) (r : CRead X.K C mc) (c : SMet X.K C mc m p g) (F : FnOk X.prog X.w X.K X.mg X.base CX k g fd ps sp) (hr : Room k X.A) (hb : KBn X.K fd ps 0 ks gs gV) (hx : Passes CX X E) (hkw : PK X kws tk)
    (hall : (backToKw pos (keywordEach kws X.env)).all (·.1.isSome) = true := by rfl) (hks : (backToKw pos (keywordEach kws X.env)).filterMap (·.1) = ks := by rfl)
    (hpl : ((backTo pos (starEach [] X.env)).any (·.1) || (backToKw pos (keywordEach kws X.env)).any (·.1.isNone)) = false := by rfl)
    (ht : eval (.Call (.Attribute o m apos) [] kws pos) X.env = (do
      let ov ← eval o X.env
      standAt apos.atName
      let (f, first) ← holding [ov] (getMethod ov m pl)
      callWith pos f first (backTo pos (starEach [] X.env)) (backToKw pos (keywordEach kws X.env))) := by rfl) :
    PE X (.Call (.Attribute o m apos) [] kws pos) (tSMethK C ks.length sp gV E ta tk) := by
  refine ⟨fun pins s σ H Q I h => ?_⟩
  refine PySem.W.methodCall_KW (pl := pl) (thn (he.run pins s σ H _ I h) fun u s1 ⟨x, H1, I1, rx, ex, q⟩ => ?_) ht
  subst ex
  obtain rfl : u = Value.ref C := rx
  refine getmethsm_ok I1 r c fun s2 I2 => ?_
  refine PySem.W.callWith_KW0 (h₀ := X.base) I2.ok.mod.kin c.kp hall ?_ hpl
  refine thn (hkw.run pos _ s2 σ H1 _ I2 q) fun ws s3 ⟨zs, H2, I3, rz, l2, q2⟩ => ⟨I3.kIn, ?_⟩
  rw [hks]
  have r2 := hb.rel (.nil : Vals [] []) rz
  refine wpAny_call (codeAny_mono (F.run X.A X.stack s3 H2 ⟨[], ks.zip ws⟩ (gs [] ws) (gV [] zs) Q E hr I3.env0 (hb.to s3 [] ws I3.kIn rfl (rz.length.symm.trans l2)) r2 q2) fun r s' hq => ?_)
  match r, hq with
  | .error e, hq => exact hx _ σ H2 s3 e s' I3 hq
  | .ok (.ret u), hq => exact I3.after hq
/-- all by name, the last one first -/
theorem kbn0_of {K : PySem.W.Frag} {fd : FuncData} {fl : List Str} (h : ∀ (s' : Shared) (ws : List Value), ws.length = fl.length → BindsTo s' fd ⟨[], fl.reverse.zip ws⟩ (fl.zip ws.reverse)) : KBn K fd fl 0 fl.reverse (fun us ws => us ++ ws.reverse) (fun vs zs => vs ++ zs.reverse) := by
  refine ⟨fun s us ws _ l1 l2 => ?_, fun r1 r2 => r1.append (vals_rev r2)⟩
  match us, l1 with
  | [], _ => exact h s ws (by rw [l2, List.length_reverse])
theorem q_smK {C : Addr} {n : Nat} {sp : Sp} {gV : List V → List V → List V} {E : XK} {tk : TA} {σ : SV} {H : Hp} {Q : VK} (h : tk σ H fun zs H2 => zs.length = n ∧ sp (gV [] zs) H2 Q E) : tSMethK C n sp gV E (tC (.ref C)) tk σ H Q := ⟨rfl, h⟩
end
end NB
/-! NLf: readings shared by the later laws: states written out, class and static methods, lists joined that are to be shown. -/
namespace NB
open PySem PySem.Spec PyProof.Rows L2 ClX
theorem sv_seq {t1 t2 : TS} {D : Ends} {σ σ' : SV} {H : Hp} (e : σ' = σ) (h : tSeq t1 t2 D σ' H) : tSeq t1 t2 D σ H := e ▸ h
theorem q_asgg {te : TE} {g : TG} {D : Ends} {σ : SV} {H : Hp} (h : te σ H fun v H1 => g v σ H1 D.nx) : tAsg te g D σ H := h
theorem q_mkK {C : Addr} {m : Nat} {sp : Sp} {gV : List V → List V → List V} {E : XK} {tk : TA} {σ : SV} {H : Hp} {Q : VK} (h : tk σ H fun zs H2 => ([] : List V).length = 0 ∧ zs.length = m ∧ ∀ x dx, H2 x = none → H2 dx = none → dx ≠ x → sp (gV [.ref x] zs) (upd (upd H2 dx (.own x)) x (.ins C dx [])) (fun v H3 => v = .non ∧ Q (.ref x) H3) E) : tMakeK C 0 m sp gV E tNil tk σ H Q := h
section
variable {C : Addr} {j : Nat} {gV : List V → List V → List V} {t : TA} {σ : SV} {H : Hp} {Q : VK} {sp : Sp} {E : XK}
theorem q_smt (h : t σ H fun vs H1 => sp vs H1 Q E) : tSMeth C sp E (tC (.ref C)) t σ H Q := ⟨rfl, h⟩
theorem q_cmt (h : t σ H fun vs H1 => sp (.ref C :: vs) H1 Q E) : tCMeth C sp E (tC (.ref C)) t σ H Q := ⟨rfl, h⟩
theorem q_cmK (h : t σ H fun zs H2 => zs.length = j ∧ sp (gV [.ref C] zs) H2 Q E) : tCMethK C j sp gV E (tC (.ref C)) t σ H Q := ⟨rfl, h⟩
end
def rCatM : R2 := fun x y H Q => ∃ a e us vs, x = .ref a ∧ y = .ref e ∧ H a = some (.lst us) ∧ H e = some (.lst vs) ∧ us.length + vs.length ≤ sizeLine ∧ ∀ p, H p = none → p ≠ sysModules → Q (.ref p) (upd H p (.lst (us ++ vs)))
theorem op_catM {X : Cx} : OpR X (binaryOp .Add) rCatM := by
  intro pins st ss HH xx yy uu ww QQ In rx ry ⟨a, e, us, vs, ex, ey, ha, he, hz, q⟩
  subst ex ey
  cases rx
  cases ry
  obtain ⟨_, ws, m1, r1, l1, q1⟩ := In.lstM ha
  obtain ⟨_, zs, m2, r2, l2, q2⟩ := In.lstM he
  refine PySem.P.add_list q1 q2 ?_ (by simp only [List.size_toArray]; omega)
  rw [show ws.toArray ++ zs.toArray = (ws ++ zs).toArray by simp]
  have fits : (us ++ vs).length ≤ sizeLine := by simpa using hz
  exact ⟨.ref _, _, In.lnew (t' := st.toks) (r1.append r2) fits, rfl, q _ In.fresh (Nat.ne_of_gt In.big)⟩
theorem q_catM {H : Hp} {Q : VK} {a e : Addr} {us vs : List V} (h1 : H a = some (.lst us)) (h2 : H e = some (.lst vs)) (h : AlM (us.length + vs.length) (.lst (us ++ vs)) H fun p H2 => Q (.ref p) H2) : rCatM (.ref a) (.ref e) H Q := ⟨a, e, us, vs, rfl, rfl, h1, h2, h.1, h.2⟩
section
variable {T : List (Addr × Str)} {p c : Addr} {ns : List Int} {H0 H H' : Hp} {b : Int} {ps : List SP} {ms : List (Addr × List V)} {l : List (Addr × HO)} {C a : Addr} {f : Nat → Bool} {Q : VK} {E : XK}
theorem Wd.knowU {a : Addr} {xs : List V} (W : Wd T p c ns H0 H b ps ms l) (h : H a = some (.tup xs)) : Wd T p c ns H0 H b ps ms ((a, .tup xs) :: l) := { W with
  kn := fun q hq => by
    rcases List.mem_cons.mp hq with rfl | hq
    · obtain ⟨i, r, pn, _⟩ := W.pen
      exact ⟨ne_of h pn.pen (fun z => by cases z), (fun _ z => nomatch z), h⟩
    · exact W.kn q hq
  mu := fun m hm => by
    obtain ⟨h1, h2, h3, h4, h5⟩ := W.mu m hm
    refine ⟨h1, h2, h3, h4, fun q hq => ?_⟩
    rcases List.mem_cons.mp hq with rfl | hq
    · exact ne_of h h4 (fun z => by cases z)
    · exact h5 q hq }
theorem Wd.ex1 {α : Type} {L : List α} (W : Wd T p c ns H0 H b ps ms l) {R : α → Hp → Prop} (f : ∃ d, d ∈ L ∧ ∀ H, KnL l H → R d H) : ∃ d, d ∈ L ∧ ∀ H, KnL l H → R d H := f
theorem Kw.prL {v : (Nat → Bool) → Nat → Nat → V} (W : Kw H0 H l) (ha : IsLen H C a f) (k : ∀ s p H', LF f s p → s + p ≤ 400 → Kw H0 H' l → Q (v f s p) H') : ∃ a' dx fs, V.ref a = .ref a' ∧ H a' = some (.ins C dx fs) ∧ spPrL C v (.ref a' :: []) H Q E := by
  obtain ⟨dx, fs, e⟩ := ha.ob
  exact ⟨a, dx, fs, rfl, e, a, f, rfl, ha, fun s p H' L b s' => k s p H' L b (W.same s')⟩
theorem Kw.cat {x y : Addr} {us vs : List V} (W : Kw H0 H l) (h1 : H x = some (.lst us)) (h2 : H y = some (.lst vs)) (hz : us.length + vs.length ≤ sizeLine) (k : ∀ t H', Kw H0 H' ((t, .lst (us ++ vs)) :: l) → Q (.ref t) H') : rCat (.ref x) (.ref y) H Q :=
  ⟨x, y, us, vs, rfl, rfl, h1, h2, hz, fun t ht => k t _ (W.new ht)⟩
end
/-- sets of lengths that are kept -/
def pastS (C : Addr) (xs : List (Addr × (Nat → Bool))) : SP := ⟨fun H => ∀ q ∈ xs, IsLen H C q.1 q.2, fun _ _ k h q hq => (h q hq).kp k⟩
end NB
/-! NLp: texts of lengths, plainly: what words tell. -/
namespace NB
open PySem L2 ClX NumText TL
/-- the numbers that words write, ascending, or none -/
def numsL (ws : List Str) : Option (List Int) :=
  if (ws.all fun w => (cntOf (tl w) 3).isSome) = true ∧ (ws.map fun w => (cntOf (tl w) 3).getD 0).Pairwise (· < ·) then some (ws.map fun w => (cntOf (tl w) 3).getD 0) else none
def nFr (w : Str) : Bool := !decide (w = "from")
/-- what is told behind the numbers -/
def moreL (low : List Int) : List Str → Option (Int × List Int × Int × List Int)
  | [] => if low ≠ [] ∧ low.getLastD 0 < 399 then some (low.getLastD 0 + 1, low, 1, []) else none
  | _ :: w1 :: w2 :: w3 :: w4 :: w5 :: r => if w2 = "by" ∧ w4 = "at" then
      (match numsL (w5 :: r) with
      | none => none
      | some rs => match cntOf (tl w1) 3, cntOf (tl w3) 3 with
        | some s, some p => if p = 0 ∨ s + p > 400 then none else if rs.getLastD 0 ≥ p ∨ (low ≠ [] ∧ low.getLastD 0 ≥ s) then none else some (s, low, p, rs)
        | _, _ => none) else none
  | _ => none
def toldL (ws : List Str) : Option (Int × List Int × Int × List Int) :=
  if ws = [("none" : Str)] then some (0, [], 1, []) else
  match numsL (ws.takeWhile nFr) with
  | none => none
  | some low => moreL low (ws.dropWhile nFr)
theorem more6 (low : List Int) (f0 w1 w2 w3 w4 w5 : Str) (r : List Str) : moreL low (f0 :: w1 :: w2 :: w3 :: w4 :: w5 :: r) = if w2 = "by" ∧ w4 = "at" then
      (match numsL (w5 :: r) with
      | none => none
      | some rs => match cntOf (tl w1) 3, cntOf (tl w3) 3 with
        | some s, some p => if p = 0 ∨ s + p > 400 then none else if rs.getLastD 0 ≥ p ∨ (low ≠ [] ∧ low.getLastD 0 ≥ s) then none else some (s, low, p, rs)
        | _, _ => none) else none := rfl
theorem numsL_ok {ws : List Str} {ns : List Int} (h : numsL ws = some ns) : ns.length = ws.length ∧ ns.Pairwise (· < ·) ∧ ∀ n ∈ ns, 0 ≤ n := by
  unfold numsL at h
  split at h
  · rename_i c
    cases h
    refine ⟨List.length_map _, c.2, fun n hn => ?_⟩
    obtain ⟨w, hw, rfl⟩ := List.mem_map.mp hn
    have z := List.all_eq_true.mp c.1 w hw
    cases hc : cntOf (tl w) 3 with
    | none => rw [hc] at z; cases z
    | some q => exact cnt_lo hc
  · cases h
theorem lastD {xs : List Int} (ne : xs ≠ []) : xs.getLastD 0 = xs.getLast ne := by
  cases xs with
  | nil => exact absurd rfl ne
  | cons x xs => rfl
theorem asc_last {ns : List Int} (h : ns.Pairwise (· < ·)) : ∀ n ∈ ns, n ≤ ns.getLastD 0 := fun n hn => by
  have ne : ns ≠ [] := fun z => by rw [z] at hn; cases hn
  rw [lastD ne]
  have d := List.dropLast_concat_getLast ne
  rw [← d] at h hn
  rcases List.mem_append.mp hn with y | y
  · exact Int.le_of_lt ((List.pairwise_append.mp h).2.2 n y _ (List.mem_singleton.mpr rfl))
  · rw [List.mem_singleton.mp y]
    exact Int.le_refl _
/-- what is told is let -/
theorem told_fit {ws : List Str} {s p : Int} {low rs : List Int} (h : toldL ws = some (s, low, p, rs)) : ∃ s' p' : Nat, s = s' ∧ p = p' ∧ s' + p' ≤ 400 ∧ 1 ≤ p' ∧ (∀ n ∈ low, 0 ≤ n ∧ n < s') ∧ (∀ n ∈ rs, 0 ≤ n ∧ n < p') ∧ low.length ≤ ws.length ∧ rs.length ≤ ws.length := by
  unfold toldL at h
  split at h
  · cases h
    exact ⟨0, 1, rfl, rfl, by decide, by decide, (fun n hn => nomatch hn), (fun n hn => nomatch hn), Nat.zero_le _, Nat.zero_le _⟩
  split at h
  · cases h
  rename_i lo e1
  obtain ⟨l1, l2, l3⟩ := numsL_ok e1
  have lt : lo.length ≤ ws.length := by rw [l1]; exact (List.takeWhile_sublist _).length_le
  have ld : (ws.dropWhile nFr).length ≤ ws.length := (List.dropWhile_sublist _).length_le
  unfold moreL at h
  split at h
  · split at h
    · rename_i c
      cases h
      have a := asc_last l2
      have b : 0 ≤ low.getLastD 0 := by
        cases low with
        | nil => exact absurd rfl c.1
        | cons x xs => exact Int.le_trans (l3 x (List.mem_cons_self ..)) (a x (List.mem_cons_self ..))
      obtain ⟨m, hm⟩ := int_nat b
      rw [hm] at c a ⊢
      refine ⟨m + 1, 1, by omega, rfl, by omega, by omega, fun n hn => ⟨l3 n hn, by have := a n hn; omega⟩, (fun n hn => nomatch hn), lt, Nat.zero_le _⟩
    · cases h
  · rename_i x w1 w2 w3 w4 w5 r e2
    rw [e2] at ld
    split at h
    · split at h
      · cases h
      rename_i rs' e3
      obtain ⟨r1, r2, r3⟩ := numsL_ok e3
      have ar := asc_last r2
      have al := asc_last l2
      split at h
      · rename_i s0 p0 hs hp
        split at h
        · cases h
        split at h
        · cases h
        rename_i c1 c2
        cases h
        obtain ⟨s', rfl⟩ := int_nat (cnt_lo hs)
        obtain ⟨p', rfl⟩ := int_nat (cnt_lo hp)
        refine ⟨s', p', rfl, rfl, by omega, by omega, fun n hn => ⟨l3 n hn, ?_⟩, fun n hn => ⟨r3 n hn, ?_⟩, lt, ?_⟩
        · have := al n hn
          have ne : low ≠ [] := fun z => by rw [z] at hn; cases hn
          have : ¬ low.getLastD 0 ≥ (s' : Int) := fun z => c2 (.inr ⟨ne, z⟩)
          omega
        · have := ar n hn
          have : ¬ rs.getLastD 0 ≥ (p' : Int) := fun z => c2 (.inl z)
          omega
        · rw [r1]
          simp only [List.length_cons] at ld ⊢
          omega
      · cases h
    · cases h
  · cases h
/-! ### the text of a set tells it -/
abbrev nSt (n : Int) : Str := Str.ofString (toString n)
theorem cnt_nSt {n : Int} (h0 : 0 ≤ n) (h : n < 1000) : cntOf (tl (nSt n)) 3 = some n := by
  obtain ⟨m, rfl⟩ := int_nat h0
  show cntOf (tl (Str.ofString (toString ((m : Nat) : Int)))) 3 = some (m : Int)
  rw [tl_num]
  unfold cntOf
  rw [if_pos (cnt_num (by decide) (show m < 10 ^ 3 by omega)), numL_val]
theorem nums_txt {ns : List Int} (h : ∀ n ∈ ns, 0 ≤ n ∧ n < 1000) (hp : ns.Pairwise (· < ·)) : numsL (ns.map nSt) = some ns := by
  have e : ((ns.map nSt).map fun w => (cntOf (tl w) 3).getD 0) = ns := by
    rw [List.map_map]
    refine (List.map_congr_left fun n hn => ?_).trans (List.map_id _)
    show (cntOf (tl (nSt n)) 3).getD 0 = n
    rw [cnt_nSt (h n hn).1 (h n hn).2]
    rfl
  have a : ((ns.map nSt).all fun w => (cntOf (tl w) 3).isSome) = true := by
    rw [List.all_eq_true]
    intro w hw
    obtain ⟨n, hn, rfl⟩ := List.mem_map.mp hw
    rw [cnt_nSt (h n hn).1 (h n hn).2]
    rfl
  unfold numsL
  rw [e, if_pos ⟨a, hp⟩]
/-- letters of words: no blank -/
theorem num_nb (m : Nat) : (32 : Nat) ∉ tl (nSt (m : Int)) := by
  show (32 : Nat) ∉ tl (Str.ofString (toString ((m : Nat) : Int)))
  rw [tl_num]
  intro y
  have := numL_digits m 32 y
  omega
theorem nSt_nFr {n : Int} (h : 0 ≤ n) : nFr (nSt n) = true := by
  obtain ⟨m, rfl⟩ := int_nat h
  unfold nFr
  rw [decide_eq_false]
  · rfl
  intro e
  have e := congrArg tl e
  have e : tl (Str.ofString (toString ((m : Nat) : Int))) = tl ("from" : Str) := e
  rw [tl_num] at e
  have := numL_digits m 102 (by rw [e]; decide +kernel)
  omega
theorem nSt_none {n : Int} (h : 0 ≤ n) : nSt n ≠ ("none" : Str) := by
  obtain ⟨m, rfl⟩ := int_nat h
  intro e
  have e : tl (Str.ofString (toString ((m : Nat) : Int))) = tl ("none" : Str) := congrArg tl e
  rw [tl_num] at e
  have := numL_digits m 110 (by rw [e]; decide +kernel)
  omega
theorem split_join {ws : List Str} (hne : ws ≠ []) (h : ∀ w ∈ ws, (32 : Nat) ∉ tl w) : Txt.split (Txt.join " " ws) " " = ws := by
  have a := split_is (Txt.join " " ws)
  rw [join_is, TL.spl_join (by simpa using hne) (fun p hp => by obtain ⟨w, hw, rfl⟩ := List.mem_map.mp hp; exact h w hw)] at a
  have z := congrArg (List.map SX.S) a
  rw [List.map_map, List.map_map] at z
  have i : ∀ xs : List Str, xs.map (SX.S ∘ tl) = xs := fun xs => (List.map_congr_left fun w _ => SX.S_tl w).trans (List.map_id _)
  rw [i, i] at z
  exact z
theorem lowI_all {f : Nat → Bool} {s : Nat} (hs : s ≤ 400) : ∀ n ∈ lowI f s, 0 ≤ n ∧ n < 1000 := fun n hn => by
  have := (mem_lowI.mp hn).1
  omega
theorem restI_all {f : Nat → Bool} {s p : Nat} (hs : p ≤ 400) : ∀ n ∈ restI f s p, 0 ≤ n ∧ n < 1000 := fun n hn => by
  have := (mem_restI.mp hn).1
  omega
theorem lenWords_nb {f : Nat → Bool} {s p : Nat} : ∀ w ∈ lenWords f s p, (32 : Nat) ∉ tl w := by
  intro w hw
  have nm : ∀ n : Int, 0 ≤ n → (32 : Nat) ∉ tl (nSt n) := fun n h0 => by
    obtain ⟨m, rfl⟩ := int_nat h0
    exact num_nb m
  unfold lenWords at hw
  rcases List.mem_append.mp hw with hw | hw
  · obtain ⟨n, hn, rfl⟩ := List.mem_map.mp hw
    exact nm n (mem_lowI.mp hn).1.1
  · split at hw
    · cases hw
    · rcases List.mem_append.mp hw with hw | hw
      · simp only [List.mem_cons, List.not_mem_nil, or_false] at hw
        rcases hw with rfl | rfl | rfl | rfl | rfl
        · decide +kernel
        · exact num_nb s
        · decide +kernel
        · exact num_nb p
        · decide +kernel
      · obtain ⟨n, hn, rfl⟩ := List.mem_map.mp hw
        exact nm n (mem_restI.mp hn).1.1
/-- the words of the text of a set -/
theorem split_txt (f : Nat → Bool) (s p : Nat) : Txt.split (lenTxt f s p) " " = if lenWords f s p = [] then [("none" : Str)] else lenWords f s p := by
  unfold lenTxt
  split
  · decide +kernel
  · rename_i c
    exact split_join c lenWords_nb
theorem take_low {ns : List Int} {r : List Str} (h : ∀ n ∈ ns, 0 ≤ n) (hr : r.head? = none ∨ r.head? = some ("from" : Str)) : (ns.map nSt ++ r).takeWhile nFr = ns.map nSt ∧ (ns.map nSt ++ r).dropWhile nFr = r := by
  have a : ∀ w ∈ ns.map nSt, nFr w = true := fun w hw => by
    obtain ⟨n, hn, rfl⟩ := List.mem_map.mp hw
    exact nSt_nFr (h n hn)
  rw [List.takeWhile_append_of_pos a, List.dropWhile_append_of_pos a]
  cases r with
  | nil => simp
  | cons x xs =>
    rcases hr with hr | hr
    · cases hr
    · cases hr
      have n0 : nFr ("from" : Str) = false := by decide +kernel
      rw [List.takeWhile_cons_of_neg (by rw [n0]; exact Bool.false_ne_true), List.dropWhile_cons_of_neg (by rw [n0]; exact Bool.false_ne_true)]
      simp
/-- the text of a set is read -/
theorem told_txt {f : Nat → Bool} {s p : Nat} (L : LF f s p) (hb : s + p ≤ 400) : ∃ s' p' : Nat, 1 ≤ p' ∧ toldL (Txt.split (lenTxt f s p) " ") = some ((s' : Int), lowI f s, (p' : Int), restI f s p) ∧ telF s' p' (lowI f s) (restI f s p) = f := by
  have p1 := L.pos
  have la := lowI_all (f := f) (show s ≤ 400 by omega)
  have ra := restI_all (f := f) (s := s) (show p ≤ 400 by omega)
  have nl := nums_txt la (lowI_sorted f s)
  have nr := nums_txt ra (restI_sorted f s p)
  rw [split_txt]
  by_cases cr : restI f s p = []
  · have ew : lenWords f s p = (lowI f s).map nSt := by
      unfold lenWords
      rw [if_pos cr, List.append_nil]
    have far : ∀ n, s ≤ n → f n = false := fun n hn => by
      rw [← restI_at L hn, cr]
      exact decide_eq_false (fun z => nomatch z)
    by_cases cl : lowI f s = []
    · rw [ew, cl, cr]
      refine ⟨0, 1, by decide, rfl, ?_⟩
      rw [telF_nil 0 1 [] (fun n hn => nomatch hn)]
      refine funext fun n => ?_
      rw [decide_eq_false (fun z => nomatch z)]
      rcases Nat.lt_or_ge n s with c | c
      · rw [← lowI_at (f := f) c, cl]
        try exact (decide_eq_false (fun z => nomatch z)).symm
      · exact (far n c).symm
    · have al := asc_last (lowI_sorted f s)
      have ml : (lowI f s).getLastD 0 ∈ lowI f s := by
        rw [lastD cl]
        exact List.getLast_mem cl
      generalize eg : (lowI f s).getLastD 0 = g at al ml
      have bg := (mem_lowI.mp ml).1
      obtain ⟨m, rfl⟩ := int_nat bg.1
      refine ⟨m + 1, 1, by decide, ?_, ?_⟩
      · rw [ew, if_neg (by simpa using cl)]
        have n0 : ¬ (lowI f s).map nSt = [("none" : Str)] := fun e => by
          have z : ("none" : Str) ∈ (lowI f s).map nSt := by rw [e]; exact List.mem_singleton.mpr rfl
          obtain ⟨n, hn, e2⟩ := List.mem_map.mp z
          exact nSt_none (la n hn).1 e2
        have tk := take_low (r := []) (fun n hn => (la n hn).1) (.inl rfl)
        rw [List.append_nil] at tk
        unfold toldL
        rw [if_neg n0, tk.1, tk.2, nl]
        show moreL (lowI f s) [] = _
        unfold moreL
        rw [eg, if_pos ⟨cl, by omega⟩, cr]
        rfl
      · rw [cr, telF_nil _ _ _ (fun n hn => by have := al n hn; omega)]
        refine funext fun n => ?_
        rcases Nat.lt_or_ge n s with c | c
        · exact lowI_at c
        · rw [far n c]
          exact decide_eq_false fun z => by have := (mem_lowI.mp z).1; omega
  · refine ⟨s, p, p1, ?_, telF_form L⟩
    have ew : lenWords f s p = (lowI f s).map nSt ++ (("from" : Str) :: nSt (s : Int) :: ("by" : Str) :: nSt (p : Int) :: ("at" : Str) :: (restI f s p).map nSt) := by
      unfold lenWords
      rw [if_neg cr]
      rfl
    rw [ew, if_neg (by simp)]
    have n0 : ¬ (lowI f s).map nSt ++ (("from" : Str) :: nSt (s : Int) :: ("by" : Str) :: nSt (p : Int) :: ("at" : Str) :: (restI f s p).map nSt) = [("none" : Str)] := fun e => by
      have z := congrArg List.length e
      simp only [List.length_append, List.length_cons, List.length_nil] at z
      omega
    have tk := take_low (ns := lowI f s) (r := (("from" : Str) :: nSt (s : Int) :: ("by" : Str) :: nSt (p : Int) :: ("at" : Str) :: (restI f s p).map nSt)) (fun n hn => (la n hn).1) (.inr rfl)
    unfold toldL
    rw [if_neg n0, tk.1, tk.2, nl]
    show moreL (lowI f s) _ = _
    obtain ⟨r0, rr, er⟩ : ∃ r0 rr, restI f s p = r0 :: rr := by
      cases h : restI f s p with
      | nil => exact absurd h cr
      | cons x xs => exact ⟨x, xs, rfl⟩
    have ar := asc_last (restI_sorted f s p)
    have bl : ∀ n ∈ restI f s p, n < p := fun n hn => (mem_restI.mp hn).1.2
    have ml : (restI f s p).getLastD 0 < p := by
      rw [lastD cr]
      exact bl _ (List.getLast_mem cr)
    have mw : lowI f s ≠ [] → (lowI f s).getLastD 0 < s := fun cl => by
      rw [lastD cl]
      exact (mem_lowI.mp (List.getLast_mem cl)).1.2
    have nr2 : numsL (nSt r0 :: rr.map nSt) = some (restI f s p) := by
      rw [← nr, er]
      rfl
    rw [er, List.map_cons, more6, if_pos ⟨rfl, rfl⟩, nr2, cnt_nSt (by omega) (by omega), cnt_nSt (by omega) (by omega)]
    show (if (p : Int) = 0 ∨ (s : Int) + (p : Int) > 400 then none else _) = _
    rw [if_neg (by omega), if_neg (fun z => by rcases z with z | ⟨z1, z2⟩; omega; have := mw z1; omega), er]
theorem lenTxt_inj {f g : Nat → Bool} {s p s' p' : Nat} (L : LF f s p) (hb : s + p ≤ 400) (L' : LF g s' p') (hb' : s' + p' ≤ 400) (e : lenTxt f s p = lenTxt g s' p') : f = g := by
  obtain ⟨a, b, _, h1, h2⟩ := told_txt L hb
  obtain ⟨a', b', _, h3, h4⟩ := told_txt L' hb'
  rw [e, h3] at h1
  injection h1 with h1
  injection h1 with e1 h1
  injection h1 with e2 h1
  injection h1 with e3 e4
  rw [← h2, ← h4, ← e2, ← e4, show a = a' by omega, show b = b' by omega]
/-- how long the text of a set is -/
theorem lenTxt_len {f : Nat → Bool} {s p : Nat} (hb : s + p ≤ 400) : (lenTxt f s p).length ≤ 16000 := by
  unfold lenTxt
  split
  · decide
  · refine Nat.le_trans (join_len _) ?_
    have w14 : ∀ w ∈ lenWords f s p, w.length + 1 ≤ 15 := fun w hw => by
      have k : ∀ n : Int, 0 ≤ n → n ≤ 400 → (Str.ofString (toString n)).length + 1 ≤ 15 := fun n h0 h1 => by
        have := txt_le (i := n) (Nat.lt_of_le_of_lt (show n.natAbs ≤ 400 by omega) (by decide))
        omega
      unfold lenWords at hw
      rcases List.mem_append.mp hw with hw | hw
      · obtain ⟨n, hn, rfl⟩ := List.mem_map.mp hw
        have := (mem_lowI.mp hn).1
        exact k n (by omega) (by omega)
      · split at hw
        · cases hw
        · rcases List.mem_append.mp hw with hw | hw
          · simp only [List.mem_cons, List.not_mem_nil, or_false] at hw
            rcases hw with rfl | rfl | rfl | rfl | rfl
            · decide
            · exact k s (by omega) (by omega)
            · decide
            · exact k p (by omega) (by omega)
            · decide
          · obtain ⟨n, hn, rfl⟩ := List.mem_map.mp hw
            have := (mem_restI.mp hn).1
            exact k n (by omega) (by omega)
    have ll : (lenWords f s p).length ≤ 900 := by
      have b1 := lowI_len f s
      have b2 := restI_len f s p
      unfold lenWords
      split
      · simp only [List.length_append, List.length_map, List.length_nil]
        omega
      · simp only [List.length_append, List.length_cons, List.length_nil, List.length_map]
        omega
    have sm : ∀ ws : List Str, (∀ w ∈ ws, w.length + 1 ≤ 15) → Tw ws ≤ 15 * ws.length := by
      intro ws
      induction ws with
      | nil => intro _; exact Nat.le_refl _
      | cons x xs ih =>
        intro h
        have a := h x (List.mem_cons_self ..)
        have b := ih fun w hw => h w (List.mem_cons_of_mem _ hw)
        rw [Tw_cons, List.length_cons]
        omega
    have := sm _ w14
    omega
end NB
/-! NRa: rules: the words of their promises. -/
namespace NB
open PySem L2 ClX NumText TL
abbrev rFl : List Str := ["text", "own_size", "periods", "sets", "days", "lengths", "one", "other", "rule"]
/-- what a class of rules must have: R the base of all rules -/
structure RCl (K : PySem.W.Frag) (R C : Addr) (wd : Str) : Prop where
  ck : ClsK K C rFl
  kr : PySem.W.kitOne K (.ref C) (.ref R) = some true
  wo : ∃ u, Con K C "WORD" (.str wd) u
def rclB (K : PySem.W.Frag) (R C : Addr) (wd : Str) : Bool :=
  clsB K C rFl && (decide (PySem.W.kitOne K (.ref C) (.ref R) = some true) &&
  (match PySem.W.findIn K (.ref C) "WORD" with | some (some (.str z t)) => decide (z = wd) && decide (PySem.W.specialIn K (.str z t) "__get__" = some none) | _ => false))
theorem rclB_ok {K : PySem.W.Frag} {R C : Addr} {wd : Str} (h : rclB K R C wd = true) : RCl K R C wd := by
  unfold rclB at h
  simp only [Bool.and_eq_true, decide_eq_true_eq] at h
  obtain ⟨h1, h2, h3⟩ := h
  refine ⟨clsB_ok h1, h2, ?_⟩
  split at h3
  · rename_i z t e
    simp only [Bool.and_eq_true, decide_eq_true_eq] at h3
    obtain ⟨rfl, h4⟩ := h3
    exact ⟨_, e, ⟨t, rfl⟩, h4, by decide⟩
  · cases h3
theorem RCl.na {K : PySem.W.Frag} {R C : Addr} {wd : Str} (h : RCl K R C wd) (f : Str) (hf : f ∈ rFl := by simp [rFl]) : NoAttr K C f := h.ck.nf f hf
theorem RCl.ty {K : PySem.W.Frag} {R C : Addr} {wd : Str} (h : RCl K R C wd) {H : Hp} {a dx : Addr} {fs : List (Str × V)} (e : H a = some (.ins C dx fs)) : TyX K H (.ref a) (.ref C) := .base (.ins e h.ck.cl h.ck.ca h.ck.cn h.ck.ct h.ck.cm)
/-- a rule with this text -/
def RTx (K : PySem.W.Frag) (R : Addr) (H : Hp) (a : Addr) (t : Str) : Prop := ∃ (C dx : Addr) (fs : List (Str × V)) (wd : Str), H a = some (.ins C dx fs) ∧ fs.lookup ("text" : Str) = some (.str t) ∧ RCl K R C wd
/-- equal to v: a rule with a text, or none -/
def EqR (K : PySem.W.Frag) (R : Addr) (H : Hp) (t : Str) (v : V) (r : Bool) : Prop := (∃ b u, v = .ref b ∧ RTx K R H b u ∧ r = decide (t = u)) ∨ (∃ ty, TyX K H v ty ∧ PySem.W.kitOne K ty (.ref R) = some false ∧ r = false)
def spREq (K : PySem.W.Frag) (R : Addr) : Sp := fun vs H Q _ => ∃ (a : Addr) (t : Str) (v : V) (r : Bool), vs = [.ref a, v] ∧ RTx K R H a t ∧ EqR K R H t v r ∧ Q (.bl r) H
def spRStr (K : PySem.W.Frag) (R : Addr) : Sp := fun vs H Q _ => ∃ (a : Addr) (t : Str), vs = [.ref a] ∧ RTx K R H a t ∧ Q (.str t) H
def spRSz (K : PySem.W.Frag) (R : Addr) : Sp := fun vs H Q _ => ∃ (a C dx : Addr) (fs : List (Str × V)) (wd : Str) (n : Int), vs = [.ref a] ∧ H a = some (.ins C dx fs) ∧ fs.lookup ("own_size" : Str) = some (.int n) ∧ RCl K R C wd ∧ Q (.int n) H
/-- need_part(part, is_right) -/
def spNp (B : Addr) : Sp := fun vs H Q E => ∃ (z : Str) (b : Bool), vs = [.str z, .bl b] ∧ (b = true → Q .non H) ∧ (b = false → BadF B "part" E H (.str z))
/-- a rule's text -/
def rTxt (wd t : Str) : Str := Txt.join " " [wd, t]
/-- Rule.__init__ of a simple rule: no rule in it -/
def spRI0 (K : PySem.W.Frag) (R : Addr) : Sp := fun vs H Q _ => ∃ (a ws inn C dx : Addr) (wd t : Str), vs = [.ref a, .ref ws, .ref inn] ∧ H a = some (.ins C dx []) ∧ RCl K R C wd ∧ wd.length ≤ 20 ∧ t.length ≤ 20000 ∧ H ws = some (.lst [.str t]) ∧ H inn = some (.lst []) ∧
  ∀ (H' : Hp) (pl sl : Addr), But a H H' → H pl = none → H sl = none → pl ≠ sl → H' a = some (.ins C dx [("text", .str (rTxt wd t)), ("own_size", .int 1), ("periods", .ref pl), ("sets", .ref sl)]) → H' pl = some (.lst []) → H' sl = some (.lst []) → Q .non H'
/-! ### the simple rules -/
inductive RK | comes | goes | holds | within deriving DecidableEq
def RK.word : RK → Str
  | .comes => "comes"
  | .goes => "goes"
  | .holds => "holds"
  | .within => "within"
/-- a stay of n nights from day x is let -/
def RK.lets (k : RK) (b : Int → Bool) (x n : Int) : Bool := match k with
  | .comes => b x
  | .goes => b (x + n)
  | .holds => (nights x (x + n)).any b
  | .within => (nights x (x + n)).all b
/-- a rule about days -/
structure IsDR (Cd : Addr) (H : Hp) (C a : Addr) (wd : Str) (bs : List Bool) : Prop where
  ex : ∃ dx d pl sl, H a = some (.ins C dx [("text", .str (rTxt wd (daysTxt bs))), ("own_size", .int 1), ("periods", .ref pl), ("sets", .ref sl), ("days", .ref d)]) ∧ IsDays H Cd d bs ∧ H pl = some (.lst [.int (lpG bs)]) ∧ H sl = some (.lst [])
/-- a rule about lengths -/
structure IsLR (Cl : Addr) (H : Hp) (C a : Addr) (wd : Str) (f : Nat → Bool) : Prop where
  ex : ∃ dx d pl sl s p, LF f s p ∧ s + p ≤ 400 ∧ H a = some (.ins C dx [("text", .str (rTxt wd (lenTxt f s p))), ("own_size", .int 1), ("periods", .ref pl), ("sets", .ref sl), ("lengths", .ref d)]) ∧ IsLen H Cl d f ∧ H pl = some (.lst []) ∧ H sl = some (.lst [.ref d])
def spDRI (K : PySem.W.Frag) (B R Cd C : Addr) (wd : Str) : Sp := fun vs H Q E => ∃ (a dx : Addr) (v : V), vs = [.ref a, v] ∧ H a = some (.ins C dx []) ∧
  ((∃ d bs, v = .ref d ∧ IsDays H Cd d bs ∧ ∀ H', But a H H' → IsDR Cd H' C a wd bs → Q .non H') ∨ (∃ ty, TyX K H v ty ∧ PySem.W.kitOne K ty (.ref Cd) = some false ∧ BadF B "part" E H (.str "days")))
def spLRI (K : PySem.W.Frag) (B R Cl C : Addr) (wd : Str) : Sp := fun vs H Q E => ∃ (a dx : Addr) (v : V), vs = [.ref a, v] ∧ H a = some (.ins C dx []) ∧
  ((∃ d f, v = .ref d ∧ IsLen H Cl d f ∧ ∀ H', But a H H' → IsLR Cl H' C a wd f → Q .non H') ∨ (∃ ty, TyX K H v ty ∧ PySem.W.kitOne K ty (.ref Cl) = some false ∧ BadF B "part" E H (.str "lengths")))
/-- lets_nights of a rule about days -/
def spLnD (Cd C : Addr) (wd : Str) (k : RK) : Sp := fun vs H Q _ => ∃ (a : Addr) (x n : Int) (bs : List Bool), vs = [.ref a, .int x, .int n] ∧ IsDR Cd H C a wd bs ∧ 1 ≤ n ∧ ∀ H', Same H H' → Q (.bl (k.lets (dinB bs) x n)) H'
def spLnL (Cl C : Addr) (wd : Str) : Sp := fun vs H Q _ => ∃ (a : Addr) (x n : Int) (f : Nat → Bool), vs = [.ref a, .int x, .int n] ∧ IsLR Cl H C a wd f ∧ 1 ≤ n ∧ ∀ H', Same H H' → Q (.bl (f n.toNat)) H'
/-- marks(days, first, nights) -/
def spMk2 (Cd : Addr) : Sp := fun vs H Q _ => ∃ (a d : Addr) (x n : Int) (bs : List Bool), vs = [.ref a, .ref d, .int x, .int n] ∧ IsDays H Cd d bs ∧ 1 ≤ n ∧ ∀ H' D, Same H H' → H' D = some (.lst (((rgN x (min n (lpG bs)).toNat).map (dinB bs)).map V.bl)) → Q (.ref D) H'
/-- a rule that is called: its class's lets_nights tells g -/
def LetsAt (P : Program) (w : World) (K : PySem.W.Frag) (mg : Str → Option Value) (base : Heap) (k : Nat) (H : Hp) (a : Addr) (g : Int → Int → Bool) : Prop := ∃ (C dx : Addr) (fs : List (Str × V)) (sp : Sp), H a = some (.ins C dx fs) ∧ fs.lookup ("lets_nights" : Str) = none ∧
  VM P w K mg base CX0 k C "lets_nights" ["self", "first", "nights"] sp ∧ ∀ (x n : Int) (H1 : Hp) (Q : VK) (E : XK), Same H H1 → 1 ≤ n → (∀ H', Same H1 H' → Q (.bl (g x n)) H') → sp [.ref a, .int x, .int n] H1 Q E
def spRC (P : Program) (w : World) (K : PySem.W.Frag) (mg : Str → Option Value) (base : Heap) (k : Nat) (B Cs : Addr) : Sp := fun vs H Q E => ∃ (a : Addr) (v : V), vs = [.ref a, v] ∧
  ((∃ st f t g, v = .ref st ∧ IsStay H Cs st f t ∧ LetsAt P w K mg base k H a g ∧ ∀ H', Same H H' → Q (.bl (g f (t - f))) H') ∨ (∃ ty, TyX K H v ty ∧ PySem.W.kitOne K ty (.ref Cs) = some false ∧ BadF B "part" E H (.str "stay")))
section
variable {H H' : Hp} {Cd Cl C a : Addr} {wd : Str} {bs : List Bool} {f : Nat → Bool}
theorem IsDR.keep (h : IsDR Cd H C a wd bs) (s : Same H H') : IsDR Cd H' C a wd bs := by
  obtain ⟨dx, d, pl, sl, e1, e2, e3, e4⟩ := h.ex
  exact ⟨dx, d, pl, sl, s _ _ e1, e2.keep s, s _ _ e3, s _ _ e4⟩
theorem IsLR.keep (h : IsLR Cl H C a wd f) (s : Same H H') : IsLR Cl H' C a wd f := by
  obtain ⟨dx, d, pl, sl, p, q, L, l, e1, e2, e3, e4⟩ := h.ex
  exact ⟨dx, d, pl, sl, p, q, L, l, s _ _ e1, e2.keep s, s _ _ e3, s _ _ e4⟩
theorem IsDR.tx {K : PySem.W.Frag} {R : Addr} (h : IsDR Cd H C a wd bs) (c : RCl K R C wd) : RTx K R H a (rTxt wd (daysTxt bs)) := by
  obtain ⟨dx, d, pl, sl, e1, e2, e3, e4⟩ := h.ex
  exact ⟨C, dx, _, wd, e1, rfl, c⟩
theorem IsLR.tx {K : PySem.W.Frag} {R : Addr} (h : IsLR Cl H C a wd f) (c : RCl K R C wd) : ∃ s p, LF f s p ∧ s + p ≤ 400 ∧ RTx K R H a (rTxt wd (lenTxt f s p)) := by
  obtain ⟨dx, d, pl, sl, s, p, L, l, e1, e2, e3, e4⟩ := h.ex
  exact ⟨s, p, L, l, C, dx, _, wd, e1, rfl, c⟩
end
theorem once_of {bs : List Bool} (l : Ln bs) {x n k : Int} (h1 : x ≤ k) (h2 : k < x + n) : ∃ k', x ≤ k' ∧ k' < x + min n (lpG bs) ∧ dinB bs k' = dinB bs k := by
  have lp := l.lp
  by_cases c : n ≤ lpG bs
  · exact ⟨k, h1, by omega, rfl⟩
  · have n1 : 0 ≤ (k - x) % (lpG bs : Int) := Int.emod_nonneg _ (by omega)
    have n2 : (k - x) % (lpG bs : Int) < lpG bs := Int.emod_lt_of_pos _ (by omega)
    refine ⟨x + (k - x) % (lpG bs : Int), by omega, by omega, ?_⟩
    rw [← dinB_mod l.lo l.hi, ← dinB_mod l.lo l.hi, Int.add_emod_emod, show x + (k - x) = k by omega]
theorem mem_nt {f t k : Int} : k ∈ nights f t ↔ f ≤ k ∧ k < t := by
  unfold nights
  rw [mem_rgN]
  constructor <;> intro h <;> omega
theorem any_once {bs : List Bool} (l : Ln bs) {x n : Int} (hn : 1 ≤ n) : ((rgN x (min n (lpG bs)).toNat).map (dinB bs)).any id = (nights x (x + n)).any (dinB bs) := by
  have lp := l.lp
  rw [List.any_map, Bool.eq_iff_iff, List.any_eq_true, List.any_eq_true]
  constructor
  · rintro ⟨k, hk, h⟩
    have := mem_rgN.mp hk
    exact ⟨k, mem_nt.mpr ⟨by omega, by omega⟩, h⟩
  · rintro ⟨k, hk, h⟩
    have := mem_nt.mp hk
    obtain ⟨k', a, b, e⟩ := once_of l (n := n) this.1 this.2
    exact ⟨k', mem_rgN.mpr ⟨a, by omega⟩, e.trans h⟩
theorem all_once {bs : List Bool} (l : Ln bs) {x n : Int} (hn : 1 ≤ n) : ((rgN x (min n (lpG bs)).toNat).map (dinB bs)).all id = (nights x (x + n)).all (dinB bs) := by
  have lp := l.lp
  rw [List.all_map, Bool.eq_iff_iff, List.all_eq_true, List.all_eq_true]
  constructor
  · intro h k hk
    have := mem_nt.mp hk
    obtain ⟨k', a, b, e⟩ := once_of l (n := n) this.1 this.2
    exact e.symm.trans (h k' (mem_rgN.mpr ⟨a, by omega⟩))
  · intro h k hk
    have := mem_rgN.mp hk
    exact h k (mem_nt.mpr ⟨by omega, by omega⟩)
theorem marks_is (bs : List Bool) (x : Int) (m : Nat) : ((rgN 0 m).filter fun _ => true).map (fun k => V.bl (dinB bs (x + k))) = ((rgN x m).map (dinB bs)).map V.bl := by
  rw [List.filter_eq_self.mpr (fun _ _ => rfl)]
  unfold rgN
  rw [List.map_map, List.map_map, List.map_map]
  refine List.map_congr_left fun i _ => ?_
  show V.bl (dinB bs (x + (0 + (i : Int)))) = V.bl (dinB bs (x + (i : Int)))
  rw [Int.zero_add]
theorem q_fldS {K : PySem.W.Frag} {ta tv : TE} {f : Str} {t2 : TS} {D : Ends} {σ : SV} {H : Hp} (h : tv σ H fun y H1 => ta σ H1 fun x H2 => ∃ a C dx fs, x = V.ref a ∧ H2 a = some (.ins C dx fs) ∧ Cls K C ∧ NoAttr K C f ∧ fs.length < 1000 ∧ t2 D σ (upd H2 a (.ins C dx (putF f y fs)))) : tSeq (sFld K ta tv f) t2 D σ H := h
theorem q_fld1 {K : PySem.W.Frag} {ta tv : TE} {f : Str} {D : Ends} {σ : SV} {H : Hp} (h : tv σ H fun y H1 => ta σ H1 fun x H2 => ∃ a C dx fs, x = V.ref a ∧ H2 a = some (.ins C dx fs) ∧ Cls K C ∧ NoAttr K C f ∧ fs.length < 1000 ∧ D.nx σ (upd H2 a (.ins C dx (putF f y fs)))) : sFld K ta tv f D σ H := h
theorem q_m1 {r : V → List V → Hp → VK → Prop} {to te : TE} {σ : SV} {H : Hp} {Q : VK} (h : to σ H fun x H1 => (∃ a, x = V.str a) ∧ te σ H1 fun y H2 => r x [y] H2 Q) : tM1 r to te σ H Q := h
theorem but_put {a : Addr} {H H1 : Hp} {o : HO} (b : But a H H1) : But a H (upd H1 a o) := fun x u n e => by rw [upd_ne n]; exact b x u n e
theorem but_alc {a l : Addr} {H H1 : Hp} {o : HO} (b : But a H H1) (h : H1 l = none) : But a H (upd H1 l o) := fun x u n e => by
  have z := b x u n e
  rw [upd_ne (ne_of_none z h)]
  exact z
theorem but_none {a l : Addr} {H H1 : Hp} (b : But a H H1) (n : l ≠ a) (h : H1 l = none) : H l = none := by
  cases e : H l with
  | none => rfl
  | some o => rw [b l o n e] at h; cases h
/-- a comprehension of an empty list -/
theorem lc_nil {K : PySem.W.Frag} {a D : Addr} {H : Hp} {Qd : Hp → Prop} (ha : H a = some (.lst [])) (hD : H D = none) (q : Qd (upd H D (.lst []))) (body : Nat → Hp → (Hp → Prop) → Prop) :
    ∃ W : Nat → Nat → Hp → Prop, (∃ m, W 0 m (upd H D (.lst []))) ∧ ∀ i m H1, W i m H1 → ((Itl K a).stop i H1 ∧ Qd H1) ∨ ((Itl K a).go i H1 ∧ ∃ Nx : Hp → Prop, (∀ H', Nx H' → ∃ m', m' < m ∧ W (i + 1) m' H') ∧ body i H1 Nx) := by
  refine ⟨fun i m H' => i = 0 ∧ m = 0 ∧ H' = upd H D (.lst []), ⟨0, rfl, rfl, rfl⟩, ?_⟩
  rintro i m H' ⟨rfl, rfl, rfl⟩
  exact .inl ⟨⟨_, SqL.of (by rw [upd_ne (ne_of_none ha hD)]; exact ha), Nat.le_refl _⟩, q⟩
theorem but_days {H H' : Hp} {Cd C d a dx : Addr} {bs : List Bool} (h : IsDays H Cd d bs) (e : H a = some (.ins C dx [])) (b : But a H H') : IsDays H' Cd d bs := by
  obtain ⟨⟨dy, q, r, e1, e2, e3⟩, l1, l2⟩ := h
  exact ⟨⟨dy, q, r, b _ _ (fun z => by rw [z, e] at e1; cases e1) e1, b _ _ (fun z => by rw [z, e] at e2; cases e2) e2, b _ _ (fun z => by rw [z, e] at e3; cases e3) e3⟩, l1, l2⟩
theorem but_len {H H' : Hp} {Cl C d a dx : Addr} {f : Nat → Bool} (h : IsLen H Cl d f) (e : H a = some (.ins C dx [])) (b : But a H H') : IsLen H' Cl d f := by
  obtain ⟨s, p, t, dy, L, l, ⟨lo, re, e1, e2, e3⟩, e4⟩ := h.ex
  exact ⟨s, p, t, dy, L, l, ⟨lo, re, b _ _ (fun z => by rw [z, e] at e1; cases e1) e1, b _ _ (fun z => by rw [z, e] at e2; cases e2) e2, b _ _ (fun z => by rw [z, e] at e3; cases e3) e3⟩, b _ _ (fun z => by rw [z, e] at e4; cases e4) e4⟩
theorem days_short {bs : List Bool} (h : Ln bs) : (daysTxt bs).length ≤ 20000 := by
  have z := all7 (p := fun bs => decide ((daysTxt bs).length ≤ 100)) (by decide +kernel) h.lo h.hi
  have := of_decide_eq_true z
  omega
end NB
namespace NB
open PySem L2 ClX
local macro_rules
  | `(tactic| and_intros) => `(tactic| repeat (first
    | with_reducible refine q_cons ?_ | with_reducible refine q_c ?_ | ((with_reducible apply q_var); exact rfl) | with_reducible refine q_nil ?_ | with_reducible refine q_call ?_ | with_reducible refine q_op ?_
    | with_reducible refine q_sa ?_ | with_reducible refine ra_lst ?_ | with_reducible refine ra_tup ?_ | with_reducible refine q_i0 ?_ | with_reducible refine q_cb ?_ | with_reducible refine q_test ?_ | with_reducible refine q_b ?_ | with_reducible refine q_bl ?_ | with_reducible refine q_iT ?_ | with_reducible refine q_iF ?_ | with_reducible refine q_nT ?_ | with_reducible refine q_nF ?_
    | with_reducible refine q_sif0 ?_ | with_reducible refine q_if0 ?_ | with_reducible refine q_sif ?_ | with_reducible refine q_if ?_ | with_reducible refine q_sdrop ?_ | with_reducible refine q_drop ?_ | with_reducible refine q_asg ?_ | with_reducible refine q_ret ?_ | with_reducible refine q_un ?_ | with_reducible refine q_u ?_ | with_reducible refine q_ifE ?_ | with_reducible refine q_or ?_ | with_reducible refine q_and ?_ | with_reducible refine q_not ?_ | with_reducible refine q_andV ?_ | with_reducible refine q_orV ?_ | with_reducible refine q_notV ?_ | with_reducible refine q_isN ?_ | with_reducible refine q_notN ?_ | with_reducible refine q_make ?_ | with_reducible refine q_meth ?_ | with_reducible refine q_sp ?_ | with_reducible refine q_par ?_ | with_reducible refine q_two ?_ | with_reducible refine q_in ?_ | with_reducible refine q_sl ?_ | with_reducible refine q_part ?_ | with_reducible refine q_nopart ?_ | with_reducible refine q_fmt ?_ | with_reducible refine q_dnew ?_ | with_reducible refine q_chain ?_ | with_reducible refine q_yes ?_ | with_reducible refine q_mkO ?_ | with_reducible refine q_int1' ?_ | with_reducible refine q_iR1 ?_ | with_reducible refine q_iR2 ?_ | with_reducible refine q_iRA ?_ | with_reducible refine q_iL ?_ | with_reducible refine q_iT2 ?_ | with_reducible refine q_rA ?_ | with_reducible refine q_sfor ?_ | with_reducible refine q_for ?_
    | ((with_reducible refine q_eq ?_ ?_); exact rfl) | ((with_reducible refine q_ne ?_ ?_); exact rfl) | ((with_reducible refine q_pow ?_ ?_); exact ⟨by decide, by decide, by decide⟩)))
section
variable {P : Program} {w : World} {K : PySem.W.Frag} {mg : Str → Option Value} {base : Heap} {B Bm Bs Bd R Cd Cl Cs C D fRI : Addr} {wd : Str}
abbrev sNp : Stmt := top 58
abbrev nNp : List Str := ["part", "is_right"]
theorem scNp : FnScope nNp ["part", "is_right"] (defScope sNp) := ⟨rfl, rfl, rfl, by decide +kernel, rfl, by decide +kernel, by decide +kernel⟩
theorem ok_Np {f : Addr} {fd : FuncData} (F : Fun K "need_part" "need_part" sNp f fd) (Bd : BadC P w K mg base "BadRule" "part" B) : FnOk P w K mg base (CX P w) 3 f fd ["part", "is_right"] (spNp B) := by
  refine F.okX scNp (fun vs H Q E h => ?_) (fun cdv A outer s H vs Q E hr h => ?_)
  · obtain ⟨z, b, rfl, _⟩ := h
    rfl
  · obtain ⟨z, b, rfl, k1, k2⟩ := h
    have r2 := hr
    refine ⟨_, pss_one (ps_if (pt_not (pt_val (pv 1))) (pss_one (ps_badV (i := 0) Bd r2 rfl rfl (takes_of rfl rfl rfl rfl) rfl (.inl rfl))) pss_nil), ?_⟩
    and_intros
    cases b with
    | true =>
      and_intros
      exact k1 rfl
    | false =>
      and_intros
      exact ⟨_, rfl, k2 rfl⟩
end
section
variable {P : Program} {w : World} {K : PySem.W.Frag} {mg : Str → Option Value} {base : Heap} {B Bm Bs Bd R Cd Cl Cs C D fRI : Addr} {wd : Str}
abbrev sRsz : Stmt := inClass (top 59) 3
abbrev nRsz : List Str := ["self"]
theorem scRsz : FnScope nRsz ["self"] (defScope sRsz) := ⟨rfl, rfl, rfl, by decide +kernel, rfl, by decide +kernel, by decide +kernel⟩
theorem ok_Rsz {f : Addr} {fd : FuncData} (F : Fun K "size" "Rule.size" sRsz f fd) : FnOk P w K mg base CX0 1 f fd ["self"] (spRSz K R) := by
  refine F.ok scRsz (fun vs H Q E h => ?_) (fun cdv A outer s H vs Q E hr h => ?_)
  · obtain ⟨a, C, dx, fs, wd, n, rfl, _⟩ := h
    rfl
  · obtain ⟨a, C, dx, fs, wd, n, rfl, e, el, c, k⟩ := h
    refine ⟨_, pss_one (ps_ret (pe_fld (pv 0) rfl)), ?_⟩
    and_intros
    exact ⟨_, rfl, a, C, dx, fs, _, rfl, e, c.ck.cl, c.na "own_size", el, k⟩
end
section
variable {P : Program} {w : World} {K : PySem.W.Frag} {mg : Str → Option Value} {base : Heap} {B Bm Bs Bd R Cd Cl Cs C D fRI : Addr} {wd : Str}
abbrev sRst : Stmt := inClass (top 59) 11
abbrev nRst : List Str := ["self"]
theorem scRst : FnScope nRst ["self"] (defScope sRst) := ⟨rfl, rfl, rfl, by decide +kernel, rfl, by decide +kernel, by decide +kernel⟩
theorem ok_Rst {f : Addr} {fd : FuncData} (F : Fun K "__str__" "Rule.__str__" sRst f fd) (Tb : Bi mg) : FnOk P w K mg base CX0 1 f fd ["self"] (spRStr K R) := by
  refine F.ok scRst (fun vs H Q E h => ?_) (fun cdv A outer s H vs Q E hr h => ?_)
  · obtain ⟨a, t, rfl, _⟩ := h
    rfl
  · obtain ⟨a, t, rfl, ⟨C, dx, fs, wd, e, el, c⟩, k⟩ := h
    refine ⟨_, pss_one (ps_ret (pe_callTy SkE.call_str_str (by rfl) Tb.str (by decide +kernel) (pa_cons (pe_fld (pv 0) rfl) pa_nil))), ?_⟩
    and_intros
    refine ⟨_, rfl, a, C, dx, fs, _, rfl, e, c.ck.cl, c.na "text", el, ?_⟩
    and_intros
    exact ⟨_, rfl, k⟩
end
section
variable {P : Program} {w : World} {K : PySem.W.Frag} {mg : Str → Option Value} {base : Heap} {B Bm Bs Bd R Cd Cl Cs C D fRI : Addr} {wd : Str}
abbrev sReq : Stmt := inClass (top 59) 10
abbrev nReq : List Str := ["self", "other"]
theorem scReq : FnScope nReq ["self", "other"] (defScope sReq) := ⟨rfl, rfl, rfl, by decide +kernel, rfl, by decide +kernel, by decide +kernel⟩
theorem ok_Req {f : Addr} {fd : FuncData} (F : Fun K "__eq__" "Rule.__eq__" sReq f fd) (Tb : Bi mg) (mR : mg "Rule" = some (.ref R)) : FnOk P w K mg base CX0 1 f fd ["self", "other"] (spREq K R) := by
  refine F.ok scReq (fun vs H Q E h => ?_) (fun cdv A outer s H vs Q E hr h => ?_)
  · obtain ⟨a, t, v, r, rfl, _⟩ := h
    rfl
  · obtain ⟨a, t, v, r, rfl, ⟨C, dx, fs, wd, e, el, c⟩, hv, k⟩ := h
    refine ⟨_, pss_one (ps_ret (pe_and (pe_callB call_isi (by rfl) Tb.isinstance (by decide +kernel) (pa_cons (pv 1) (pa_cons (pe_glob (v := .ref R) (by rfl) mR rfl) pa_nil))) (pe_one (pe_cmpR op_eq (pe_fld (pv 0) rfl) (pe_fld (pv 1) rfl) (nomark _))))), ?_⟩
    and_intros
    rcases hv with ⟨b, u, rfl, ⟨C2, dx2, fs2, wd2, e2, el2, c2⟩, rfl⟩ | ⟨ty, ht, hk, rfl⟩
    · refine ⟨_, _, _, _, true, rfl, .own R, c2.ty e2, c2.kr, _, rfl, iteT ?_⟩
      and_intros
      refine ⟨_, rfl, a, C, dx, fs, _, rfl, e, c.ck.cl, c.na "text", el, ?_⟩
      and_intros
      refine ⟨_, rfl, b, C2, dx2, fs2, _, rfl, e2, c2.ck.cl, c2.na "text", el2, ?_⟩
      and_intros
      rw [show decide (V.str t = V.str u) = decide (t = u) from by rw [Bool.eq_iff_iff, decide_eq_true_iff, decide_eq_true_iff]; exact ⟨fun z => V.str.inj z, fun z => by rw [z]⟩]
      exact k
    · exact ⟨_, _, _, _, false, rfl, .own R, ht, hk, _, rfl, iteF k⟩
end
section
variable {P : Program} {w : World} {K : PySem.W.Frag} {mg : Str → Option Value} {base : Heap} {B Bm Bs Bd R Cd Cl Cs C D fRI : Addr} {wd : Str}
abbrev sLco : Stmt := inClass (top 63) 1
abbrev nLco : List Str := ["self", "first", "nights"]
theorem scLco : FnScope nLco ["self", "first", "nights"] (defScope sLco) := ⟨rfl, rfl, rfl, by decide +kernel, rfl, by decide +kernel, by decide +kernel⟩
theorem ok_Lco {f : Addr} {fd : FuncData} (F : Fun K "lets_nights" "Comes.lets_nights" sLco f fd) (c : RCl K R C wd) (Cn : OwnMP P w K mg base CX0 2 Cd "__contains__" (spIn K Cd)) : FnOk P w K mg base CX0 4 f fd ["self", "first", "nights"] (spLnD Cd C wd .comes) := by
  refine F.ok scLco (fun vs H Q E h => ?_) (fun cdv A outer s H vs Q E hr h => ?_)
  · obtain ⟨a, x, n, bs, rfl, _⟩ := h
    rfl
  · obtain ⟨a, x, n, bs, rfl, hr1, hn, k⟩ := h
    obtain ⟨dx, d, pl, sl, e1, e2, e3, e4⟩ := hr1.ex
    have r2 := hr.mono (show 2 ≤ 3 by decide)
    refine ⟨_, pss_one (ps_ret (pe_cmpR (op_inO Cn.at_ r2 pass0) (pv 1) (pe_fld (pv 0) rfl) rfl)), ?_⟩
    and_intros
    refine ⟨_, rfl, a, C, dx, _, _, rfl, e1, c.ck.cl, c.na "days", rfl, ?_⟩
    refine rd_inD e2 ?_
    exact k _ (Same.refl _)
end
section
variable {P : Program} {w : World} {K : PySem.W.Frag} {mg : Str → Option Value} {base : Heap} {B Bm Bs Bd R Cd Cl Cs C D fRI : Addr} {wd : Str}
abbrev sLgo : Stmt := inClass (top 64) 1
abbrev nLgo : List Str := ["self", "first", "nights"]
theorem scLgo : FnScope nLgo ["self", "first", "nights"] (defScope sLgo) := ⟨rfl, rfl, rfl, by decide +kernel, rfl, by decide +kernel, by decide +kernel⟩
theorem ok_Lgo {f : Addr} {fd : FuncData} (F : Fun K "lets_nights" "Goes.lets_nights" sLgo f fd) (c : RCl K R C wd) (Cn : OwnMP P w K mg base CX0 2 Cd "__contains__" (spIn K Cd)) : FnOk P w K mg base CX0 4 f fd ["self", "first", "nights"] (spLnD Cd C wd .goes) := by
  refine F.ok scLgo (fun vs H Q E h => ?_) (fun cdv A outer s H vs Q E hr h => ?_)
  · obtain ⟨a, x, n, bs, rfl, _⟩ := h
    rfl
  · obtain ⟨a, x, n, bs, rfl, hr1, hn, k⟩ := h
    obtain ⟨dx, d, pl, sl, e1, e2, e3, e4⟩ := hr1.ex
    have r2 := hr.mono (show 2 ≤ 3 by decide)
    refine ⟨_, pss_one (ps_ret (pe_cmpR (op_inO Cn.at_ r2 pass0) (pe_op op_add (pv 1) (pv 2)) (pe_fld (pv 0) rfl) rfl)), ?_⟩
    and_intros
    refine ⟨_, rfl, a, C, dx, _, _, rfl, e1, c.ck.cl, c.na "days", rfl, ?_⟩
    refine rd_inD e2 ?_
    exact k _ (Same.refl _)
end
section
variable {P : Program} {w : World} {K : PySem.W.Frag} {mg : Str → Option Value} {base : Heap} {B Bm Bs Bd R Cd Cl Cs C D fRI : Addr} {wd : Str}
abbrev sMk2 : Stmt := inClass (top 61) 0
abbrev nMk2 : List Str := ["self", "days", "first", "nights", "many", "k"]
theorem scMk2 : FnScope nMk2 ["self", "days", "first", "nights"] (defScope sMk2) := ⟨rfl, rfl, rfl, by decide +kernel, rfl, by decide +kernel, by decide +kernel⟩
theorem ok_Mk2 {f : Addr} {fd : FuncData} (F : Fun K "marks" "NightRule.marks" sMk2 f fd) (Tb : Bi mg) (Cn : OwnMP P w K mg base CX0 2 Cd "__contains__" (spIn K Cd)) (Pr : ∃ (p g : Addr) (fd : FuncData), PropOf K Cd "period" p g ∧ FnOk P w K mg base CX0 1 g fd ["self"] (spPer Cd) ∧ Binds K fd ["self"] []) (cl : Cls K Cd) : FnOk P w K mg base CX0 3 f fd ["self", "days", "first", "nights"] (spMk2 Cd) := by
  obtain ⟨p1_, f1_, fd1_, P1, F1, B1⟩ := Pr
  refine F.ok scMk2 (fun vs H Q E h => ?_) (fun cdv A outer s H vs Q E hr h => ?_)
  · obtain ⟨a, d, x, n, bs, rfl, _⟩ := h
    rfl
  · obtain ⟨a, d, x, n, bs, rfl, hd, hn, k⟩ := h
    have r2 := hr
    have lp := hd.ln.lp
    refine ⟨_, pss_cons (ps_set (i := 4) scMk2.nd rfl (.inl rfl) (pe_ifExp (pt_cmpR op_lt (pv 3) (pe_prop (pv 1) cl P1 F1 r2 B1 .nil pass0 rfl) (nomark _)) (pv 3) (pe_prop (pv 1) cl P1 F1 r2 B1 .nil pass0 rfl)))
      (pss_one (ps_ret (pe_lc (own := [("k", 5)]) (g := (gName 5)) (tt := tYes) (te := (tOp (rInO Cd (spIn K Cd) E0) (tOp (rI0 fun i j => .int (i + j)) (tVar 2) (tVar 5)) (tVar 1))) (by rfl) scMk2.nd (pi_range1 (by rfl) Tb.range (pa_cons (pv 4) pa_nil)) (blkOk_by (own := [("k", 5)]) (N := nMk2) (sc := defScope sMk2) (by decide +kernel)) (fun _ _ _ _ _ => pg_name (i := 5) scMk2.nd rfl (.inl rfl)) (fun _ _ _ _ _ => pts_nil) (fun _ _ _ _ _ => pe_cmpR (op_inO Cn.at_ r2 pass0) (pe_op op_add (pv 2) (pv 5)) (pv 1) rfl)))), ?_⟩
    and_intros
    refine rd_perV rfl hd ?_
    refine ⟨_, _, rfl, rfl, ?_⟩
    by_cases c : n < lpG bs
    · refine ⟨_, congrArg V.bl (decide_eq_true c), iteT ?_⟩
      and_intros
      refine q_lc (q_iR1 ?_)
      and_intros
      refine ⟨_, rfl, by omega, by omega, fun D hD => ?_⟩
      refine lc_filR (fun _ => true) (fun k => .bl (dinB bs (x + k))) hD (by rw [sizeLine_eq]; omega) (fun _ => rfl) (fun k hk H' Q s1 q => by and_intros; exact q) (fun k hk _ H' Q s1 q => ?_) ?_
      · and_intros
        exact rd_inD (hd.keep s1) q
      rw [marks_is]
      refine k _ D (same_new (Same.refl H) hD) ?_
      rw [upd_same, show min n (lpG bs : Int) = n by omega]
    · refine ⟨_, congrArg V.bl (decide_eq_false c), iteF ?_⟩
      refine rd_perV rfl hd ?_
      and_intros
      refine q_lc (q_iR1 ?_)
      and_intros
      refine ⟨_, rfl, by omega, by omega, fun D hD => ?_⟩
      refine lc_filR (fun _ => true) (fun k => .bl (dinB bs (x + k))) hD (by rw [sizeLine_eq]; omega) (fun _ => rfl) (fun k hk H' Q s1 q => by and_intros; exact q) (fun k hk _ H' Q s1 q => ?_) ?_
      · and_intros
        exact rd_inD (hd.keep s1) q
      rw [marks_is]
      refine k _ D (same_new (Same.refl H) hD) ?_
      rw [upd_same, show min n (lpG bs : Int) = (lpG bs : Int) by omega]
end
section
variable {P : Program} {w : World} {K : PySem.W.Frag} {mg : Str → Option Value} {base : Heap} {B Bm Bs Bd R Cd Cl Cs C D fRI : Addr} {wd : Str}
abbrev sLho : Stmt := inClass (top 65) 1
abbrev nLho : List Str := ["self", "first", "nights"]
theorem scLho : FnScope nLho ["self", "first", "nights"] (defScope sLho) := ⟨rfl, rfl, rfl, by decide +kernel, rfl, by decide +kernel, by decide +kernel⟩
theorem ok_Lho {f : Addr} {fd : FuncData} (F : Fun K "lets_nights" "Holds.lets_nights" sLho f fd) (Tb : Bi mg) (mAny : mg "any" = none) (c : RCl K R C wd) (Mk_ : ∃ (f : Addr) (fd : FuncData), Meth K C "marks" f ∧ FnOk P w K mg base CX0 3 f fd ["self", "days", "first", "nights"] (spMk2 Cd) ∧ Binds K fd ["self", "days", "first", "nights"] []) : FnOk P w K mg base CX0 4 f fd ["self", "first", "nights"] (spLnD Cd C wd .holds) := by
  obtain ⟨fM_, fdM_, MM_, FM_, BM_⟩ := Mk_
  refine F.ok scLho (fun vs H Q E h => ?_) (fun cdv A outer s H vs Q E hr h => ?_)
  · obtain ⟨a, x, n, bs, rfl, _⟩ := h
    rfl
  · obtain ⟨a, x, n, bs, rfl, hr1, hn, k⟩ := h
    obtain ⟨dx, d, pl, sl, e1, e2, e3, e4⟩ := hr1.ex
    have r3 := hr
    refine ⟨_, pss_one (ps_ret (pe_callB (cr_any rfl) (by rfl) mAny (by decide +kernel) (pa_cons (pe_meth (pv 0) c.ck.cl MM_ FM_ r3 BM_ .nil pass0 (pa_cons (pe_fld (pv 0) rfl) (pa_cons (pv 1) (pa_cons (pv 2) pa_nil)))) pa_nil))), ?_⟩
    and_intros
    refine ⟨a, dx, _, rfl, e1, rfl, ?_⟩
    and_intros
    refine ⟨_, rfl, a, C, dx, _, _, rfl, e1, c.ck.cl, c.na "days", rfl, ?_⟩
    and_intros
    refine ⟨a, d, x, n, bs, rfl, e2, hn, fun H1 D s1 eD => ?_⟩
    and_intros
    refine ⟨D, _, rfl, SqL.of eD, ?_⟩
    rw [any_once e2.ln hn]
    exact k _ s1
end
section
variable {P : Program} {w : World} {K : PySem.W.Frag} {mg : Str → Option Value} {base : Heap} {B Bm Bs Bd R Cd Cl Cs C D fRI : Addr} {wd : Str}
abbrev sLwi : Stmt := inClass (top 66) 1
abbrev nLwi : List Str := ["self", "first", "nights"]
theorem scLwi : FnScope nLwi ["self", "first", "nights"] (defScope sLwi) := ⟨rfl, rfl, rfl, by decide +kernel, rfl, by decide +kernel, by decide +kernel⟩
theorem ok_Lwi {f : Addr} {fd : FuncData} (F : Fun K "lets_nights" "Within.lets_nights" sLwi f fd) (Tb : Bi mg) (mAll : mg "all" = none) (c : RCl K R C wd) (Mk_ : ∃ (f : Addr) (fd : FuncData), Meth K C "marks" f ∧ FnOk P w K mg base CX0 3 f fd ["self", "days", "first", "nights"] (spMk2 Cd) ∧ Binds K fd ["self", "days", "first", "nights"] []) : FnOk P w K mg base CX0 4 f fd ["self", "first", "nights"] (spLnD Cd C wd .within) := by
  obtain ⟨fM_, fdM_, MM_, FM_, BM_⟩ := Mk_
  refine F.ok scLwi (fun vs H Q E h => ?_) (fun cdv A outer s H vs Q E hr h => ?_)
  · obtain ⟨a, x, n, bs, rfl, _⟩ := h
    rfl
  · obtain ⟨a, x, n, bs, rfl, hr1, hn, k⟩ := h
    obtain ⟨dx, d, pl, sl, e1, e2, e3, e4⟩ := hr1.ex
    have r3 := hr
    refine ⟨_, pss_one (ps_ret (pe_callB (cr_all rfl) (by rfl) mAll (by decide +kernel) (pa_cons (pe_meth (pv 0) c.ck.cl MM_ FM_ r3 BM_ .nil pass0 (pa_cons (pe_fld (pv 0) rfl) (pa_cons (pv 1) (pa_cons (pv 2) pa_nil)))) pa_nil))), ?_⟩
    and_intros
    refine ⟨a, dx, _, rfl, e1, rfl, ?_⟩
    and_intros
    refine ⟨_, rfl, a, C, dx, _, _, rfl, e1, c.ck.cl, c.na "days", rfl, ?_⟩
    and_intros
    refine ⟨a, d, x, n, bs, rfl, e2, hn, fun H1 D s1 eD => ?_⟩
    and_intros
    refine ⟨D, _, rfl, SqL.of eD, ?_⟩
    rw [all_once e2.ln hn]
    exact k _ s1
end
section
variable {P : Program} {w : World} {K : PySem.W.Frag} {mg : Str → Option Value} {base : Heap} {B Bm Bs Bd R Cd Cl Cs C D fRI : Addr} {wd : Str}
abbrev sLla : Stmt := inClass (top 67) 1
abbrev nLla : List Str := ["self", "first", "nights"]
theorem scLla : FnScope nLla ["self", "first", "nights"] (defScope sLla) := ⟨rfl, rfl, rfl, by decide +kernel, rfl, by decide +kernel, by decide +kernel⟩
theorem ok_Lla {f : Addr} {fd : FuncData} (F : Fun K "lets_nights" "Lasts.lets_nights" sLla f fd) (c : RCl K R C wd) (Cn : OwnMP P w K mg base CX0 2 Cl "__contains__" (spInL K Cl)) : FnOk P w K mg base CX0 4 f fd ["self", "first", "nights"] (spLnL Cl C wd) := by
  refine F.ok scLla (fun vs H Q E h => ?_) (fun cdv A outer s H vs Q E hr h => ?_)
  · obtain ⟨a, x, n, f, rfl, _⟩ := h
    rfl
  · obtain ⟨a, x, n, f, rfl, hr1, hn, k⟩ := h
    obtain ⟨dx, d, pl, sl, s0, p0, L, l, e1, e2, e3, e4⟩ := hr1.ex
    have r2 := hr.mono (show 2 ≤ 3 by decide)
    refine ⟨_, pss_one (ps_ret (pe_cmpR (op_inO Cn.at_ r2 pass0) (pv 2) (pe_fld (pv 0) rfl) rfl)), ?_⟩
    and_intros
    refine ⟨_, rfl, a, C, dx, _, _, rfl, e1, c.ck.cl, c.na "lengths", rfl, ?_⟩
    obtain ⟨dx2, fs2, e5⟩ := e2.ob
    refine ⟨d, dx2, fs2, rfl, e5, d, f, .int n, rfl, e2, .inl ⟨n, rfl, _, rfl, ?_⟩⟩
    rw [decide_eq_true (show 0 ≤ n by omega), Bool.true_and]
    exact k _ (Same.refl _)
end
section
variable {P : Program} {w : World} {K : PySem.W.Frag} {mg : Str → Option Value} {base : Heap} {B Bm Bs Bd R Cd Cl Cs C D fRI : Addr} {wd : Str}
abbrev sRca : Stmt := inClass (top 59) 5
abbrev nRca : List Str := ["self", "stay"]
theorem scRca : FnScope nRca ["self", "stay"] (defScope sRca) := ⟨rfl, rfl, rfl, by decide +kernel, rfl, by decide +kernel, by decide +kernel⟩
theorem ok_Rca {f : Addr} {fd : FuncData} (F : Fun K "__call__" "Rule.__call__" sRca f fd) {k : Nat} (hk : 2 ≤ k) (Tb : Bi mg) (Ss : StD P w K mg base Bs Cs) (Sl : OwnMP P w K mg base CX0 1 Cs "__len__" (spSLen Cs)) (Bd : BadC P w K mg base "BadStay" "part" B) : FnOk P w K mg base (CX P w) (k + 1) f fd ["self", "stay"] (spRC P w K mg base k B Cs) := by
  refine F.okX scRca (fun vs H Q E h => ?_) (fun cdv A outer s H vs Q E hr h => ?_)
  · obtain ⟨a, v, rfl, _⟩ := h
    rfl
  · obtain ⟨a, v, rfl, h⟩ := h
    have r2 := hr.mono hk
    have rk := hr
    refine ⟨_, pss_cons (ps_if (pt_not (pt_val (pe_callB call_isi (by rfl) Tb.isinstance (by decide +kernel) (pa_cons (pv 1) (pa_cons (pe_glob (v := .ref Cs) (by rfl) Ss.mgC rfl) pa_nil))))) (pss_one (ps_badS Bd r2 rfl rfl (takes_of rfl rfl rfl rfl))) pss_nil)
      (pss_one (ps_ret (pe_methV (k := k) (CX := CX0) (E := E0) (ps := ["self", "first", "nights"]) (pv 0) rk pass0 (pa_cons (pe_fld (pv 1) rfl) (pa_cons (pe_callB (call_lenO Sl.at_ r2 pass0) (by rfl) Tb.len PySem.boot_len (pa_cons (pv 1) pa_nil)) pa_nil))))), ?_⟩
    and_intros
    rcases h with ⟨st, f0, t0, g, rfl, hs, ⟨C, dx, fs, sp, e, el, vm, hg⟩, q⟩ | ⟨ty, ht, hk', q⟩
    · refine ⟨_, _, _, _, true, rfl, .own Cs, Ss.ty hs, Ss.kc, ?_⟩
      and_intros
      refine ⟨_, rfl, a, C, dx, fs, sp, rfl, e, vm, el, ?_⟩
      refine rd_cons (rd_firstV Ss.cls rfl hs ?_)
      and_intros
      refine rd_lenS hs ?_
      and_intros
      have := hs.ok.lt
      exact hg _ _ _ _ _ (Same.refl _) (by omega) q
    · refine ⟨_, _, _, _, false, rfl, .own Cs, ht, hk', ?_⟩
      and_intros
      exact q
end
section
variable {P : Program} {w : World} {K : PySem.W.Frag} {mg : Str → Option Value} {base : Heap} {B Bm Bs Bd R Cd Cl Cs C D fRI : Addr} {wd : Str}
abbrev sRi0 : Stmt := inClass (top 59) 2
abbrev nRi0 : List Str := ["self", "words", "inner", "size", "rule", "period", "lengths"]
theorem scRi0 : FnScope nRi0 ["self", "words", "inner"] (defScope sRi0) := ⟨rfl, rfl, rfl, by decide +kernel, rfl, by decide +kernel, by decide +kernel⟩
theorem ok_Ri0 {f : Addr} {fd : FuncData} (F : Fun K "__init__" "Rule.__init__" sRi0 f fd) {t0 : Tok} (Tb : Bi mg) (mSum : mg "sum" = none) (mN : mg "MOST_RULES" = some (.int 30 t0)) (Bdm : BadN P w K mg base "TooMany" ["what", "most"] Bm) : FnOk P w K mg base (CX P w) 4 f fd ["self", "words", "inner"] (spRI0 K R) := by
  refine F.okX scRi0 (fun vs H Q E h => ?_) (fun cdv A outer s H vs Q E hr h => ?_)
  · obtain ⟨a, ws, inn, C, dx, wd, t, rfl, _⟩ := h
    rfl
  · obtain ⟨a, ws, inn, C, dx, wd, t, rfl, ha, c, w20, tl, hw, hi, k⟩ := h
    have r2 := hr.mono (show 2 ≤ 3 by decide)
    obtain ⟨u, cu⟩ := c.wo
    refine ⟨_, pss_cons (ps_set (i := 3) scRi0.nd rfl (.inl rfl) (pe_op op_add pe_int (pe_callB (cr_sum rfl) (by rfl) mSum (by decide +kernel) (pa_cons (pe_lc (own := [("rule", 4)]) (g := (gName 4)) (tt := tYes) (te := (tPropV (VP P w K mg base CX0 1 · "size" ·) E0 (tVar 4))) (by rfl) scRi0.nd (pi_list (pv 2)) (blkOk_by (own := [("rule", 4)]) (N := nRi0) (sc := defScope sRi0) (by decide +kernel)) (fun _ _ _ _ _ => pg_name (i := 4) scRi0.nd rfl (.inl rfl)) (fun _ _ _ _ _ => pts_nil) (fun _ _ _ _ _ => pe_propV (k := 1) (CX := CX0) (E := E0) (pv 4) r2 pass0 (by rfl))) pa_nil))))
      (pss_cons (ps_if (pt_cmpR op_gt (pv 3) (pe_glob (v := .int 30) (by rfl) mN ⟨_, rfl⟩) (nomark _)) (pss_one (ps_badN Bdm r2 rfl rfl (takes_of rfl rfl rfl rfl) (pa_cons pe_str (pa_cons (pe_glob (v := .int 30) (by rfl) mN ⟨_, rfl⟩) pa_nil)))) pss_nil)
      (pss_cons (ps_fld (pv 0) (pe_join pe_str (pe_lst (pa_cons (pe_con (pv 0) rfl) (StX.pa_star (pv 1) pa_nil)))) rfl)
      (pss_cons (ps_fld (pv 0) (pv 3) rfl)
      (pss_cons (ps_fld (pv 0) (pe_lc2 (own := [("rule", 4), ("period", 5)]) (g := gName 4) (tt := tYes) (g1 := gName 5) (tt1 := tYes) (te := tVar 5) (wi1 := (iList K (tFld K (tVar 4) "periods"))) (vs1 := [5]) (by rfl) scRi0.nd (pi_list (pv 2)) (blkOk_by (own := [("rule", 4), ("period", 5)]) (N := nRi0) (sc := defScope sRi0) (by decide +kernel)) (by decide) (fun _ _ _ _ _ => pg_name (i := 4) scRi0.nd rfl (.inl rfl)) (fun _ _ _ _ _ => pts_nil) (fun _ _ _ _ _ => pi_list (pe_fld (pv 4) (by rfl))) (fun _ _ _ _ _ => pg_name (i := 5) scRi0.nd rfl (.inl rfl)) (fun _ _ _ _ _ => pts_nil) (fun _ _ _ _ _ => pv 5)) rfl)
      (pss_one (ps_fld (pv 0) (pe_lc2 (own := [("rule", 4), ("lengths", 6)]) (g := gName 4) (tt := tYes) (g1 := gName 6) (tt1 := tYes) (te := tVar 6) (wi1 := (iList K (tFld K (tVar 4) "sets"))) (vs1 := [6]) (by rfl) scRi0.nd (pi_list (pv 2)) (blkOk_by (own := [("rule", 4), ("lengths", 6)]) (N := nRi0) (sc := defScope sRi0) (by decide +kernel)) (by decide) (fun _ _ _ _ _ => pg_name (i := 4) scRi0.nd rfl (.inl rfl)) (fun _ _ _ _ _ => pts_nil) (fun _ _ _ _ _ => pi_list (pe_fld (pv 4) (by rfl))) (fun _ _ _ _ _ => pg_name (i := 6) scRi0.nd rfl (.inl rfl)) (fun _ _ _ _ _ => pts_nil) (fun _ _ _ _ _ => pv 6)) rfl)))))), ?_⟩
    and_intros
    refine q_lc (q_iL ?_)
    and_intros
    refine ⟨_, rfl, ⟨_, SqL.of hi⟩, fun D hD => lc_nil hi hD ?_ _⟩
    have bt : But a H (upd H D (.lst [])) := but_alc (But.refl a H) hD
    have eD : upd H D (.lst []) D = some (.lst []) := upd_same
    have ea : upd H D (.lst []) a = some (.ins C dx []) := by rw [upd_ne (ne_of_none ha hD)]; exact ha
    have nw : ws ≠ a := fun z => by rw [z, ha] at hw; cases hw
    have ni : inn ≠ a := fun z => by rw [z, ha] at hi; cases hi
    generalize upd H D (.lst []) = H1 at bt eD ea
    and_intros
    refine ⟨D, [], rfl, SqL.of eD, ?_⟩
    and_intros
    rw [show decide ((30 : Int) < 1 + ([] : List Int).sum) = false from rfl]
    and_intros
    refine q_fldS (q_m1 ?_)
    refine ⟨⟨_, rfl⟩, ?_⟩
    and_intros
    refine ⟨_, rfl, a, C, dx, [], .str wd, u, rfl, ea, c.ck.cl, cu, rfl, ?_⟩
    refine q_star ?_
    and_intros
    refine ⟨ws, _, rfl, .inr (SqL.of (bt _ _ nw hw)), ?_⟩
    and_intros
    refine ⟨by show 2 ≤ sizeLine; rw [sizeLine_eq]; decide, fun l hl => ?_⟩
    have bt := but_alc (o := .lst (V.str wd :: ([V.str t] ++ []))) bt hl
    have el : upd H1 l (.lst (V.str wd :: ([V.str t] ++ []))) l = some (.lst (([wd, t] : List Str).map V.str)) := upd_same
    have ea : upd H1 l (.lst (V.str wd :: ([V.str t] ++ []))) a = some (.ins C dx []) := by rw [upd_ne (ne_of_none ea hl)]; exact ea
    generalize upd H1 l (.lst (V.str wd :: ([V.str t] ++ []))) = H2 at bt el ea
    refine ⟨_, l, [wd, t], rfl, rfl, .inl (SqL.of el), ?_, ?_⟩
    · show wd.length + (t.length + 0) + 2 * 1 ≤ 16777216
      omega
    refine q_var rfl ⟨a, C, dx, [], rfl, ea, c.ck.cl, c.na "text", by decide, ?_⟩
    have bt := but_put (o := .ins C dx [("text", .str (rTxt wd t))]) bt
    have ea : upd H2 a (.ins C dx [("text", .str (rTxt wd t))]) a = some (.ins C dx [("text", .str (rTxt wd t))]) := upd_same
    show tSeq _ _ _ _ (upd H2 a (.ins C dx [("text", .str (rTxt wd t))]))
    generalize upd H2 a (.ins C dx [("text", .str (rTxt wd t))]) = H3 at bt ea
    refine q_fldS (q_var rfl (q_var rfl ⟨a, C, dx, _, rfl, ea, c.ck.cl, c.na "own_size", by simp, ?_⟩))
    have bt := but_put (o := .ins C dx [("text", .str (rTxt wd t)), ("own_size", .int 1)]) bt
    have ea : upd H3 a (.ins C dx [("text", .str (rTxt wd t)), ("own_size", .int 1)]) a = some (.ins C dx [("text", .str (rTxt wd t)), ("own_size", .int 1)]) := upd_same
    show tSeq _ _ _ _ (upd H3 a (.ins C dx [("text", .str (rTxt wd t)), ("own_size", .int 1)]))
    generalize upd H3 a (.ins C dx [("text", .str (rTxt wd t)), ("own_size", .int 1)]) = H4 at bt ea
    refine q_fldS ?_
    try delta tLc2
    refine q_iL (q_var rfl ⟨_, rfl, ⟨_, SqL.of (bt _ _ ni hi)⟩, fun D2 hD2 => lc_nil (bt _ _ ni hi) hD2 ?_ _⟩)
    have h2 := but_none bt (fun z => by rw [z, ea] at hD2; cases hD2) hD2
    have bt := but_alc (o := .lst []) bt hD2
    have eD2 : upd H4 D2 (.lst []) D2 = some (.lst []) := upd_same
    have ea : upd H4 D2 (.lst []) a = some (.ins C dx [("text", .str (rTxt wd t)), ("own_size", .int 1)]) := by rw [upd_ne (ne_of_none ea hD2)]; exact ea
    generalize upd H4 D2 (.lst []) = H5 at bt eD2 ea
    refine q_var rfl ⟨a, C, dx, _, rfl, ea, c.ck.cl, c.na "periods", by simp, ?_⟩
    have n2 : D2 ≠ a := fun z => by rw [z, ea] at eD2; cases eD2
    have eD2 : upd H5 a (.ins C dx [("text", .str (rTxt wd t)), ("own_size", .int 1), ("periods", .ref D2)]) D2 = some (.lst []) := by rw [upd_ne n2]; exact eD2
    have bt := but_put (o := .ins C dx [("text", .str (rTxt wd t)), ("own_size", .int 1), ("periods", .ref D2)]) bt
    have ea : upd H5 a (.ins C dx [("text", .str (rTxt wd t)), ("own_size", .int 1), ("periods", .ref D2)]) a = some (.ins C dx [("text", .str (rTxt wd t)), ("own_size", .int 1), ("periods", .ref D2)]) := upd_same
    show sFld _ _ _ _ _ _ (upd H5 a (.ins C dx [("text", .str (rTxt wd t)), ("own_size", .int 1), ("periods", .ref D2)]))
    generalize upd H5 a (.ins C dx [("text", .str (rTxt wd t)), ("own_size", .int 1), ("periods", .ref D2)]) = H6 at bt ea eD2
    refine q_fld1 ?_
    try delta tLc2
    refine q_iL (q_var rfl ⟨_, rfl, ⟨_, SqL.of (bt _ _ ni hi)⟩, fun D3 hD3 => lc_nil (bt _ _ ni hi) hD3 ?_ _⟩)
    have h3 := but_none bt (fun z => by rw [z, ea] at hD3; cases hD3) hD3
    have bt := but_alc (o := .lst []) bt hD3
    have n23 : D2 ≠ D3 := fun z => by rw [z, hD3] at eD2; cases eD2
    have eD2 : upd H6 D3 (.lst []) D2 = some (.lst []) := by rw [upd_ne n23]; exact eD2
    have eD3 : upd H6 D3 (.lst []) D3 = some (.lst []) := upd_same
    have ea : upd H6 D3 (.lst []) a = some (.ins C dx [("text", .str (rTxt wd t)), ("own_size", .int 1), ("periods", .ref D2)]) := by rw [upd_ne (ne_of_none ea hD3)]; exact ea
    generalize upd H6 D3 (.lst []) = H7 at bt eD2 eD3 ea
    refine q_var rfl ⟨a, C, dx, _, rfl, ea, c.ck.cl, c.na "sets", by simp, ?_⟩
    have n3 : D3 ≠ a := fun z => by rw [z, ea] at eD3; cases eD3
    refine k _ D2 D3 (but_put bt) h2 h3 n23 upd_same (by rw [upd_ne n2]; exact eD2) (by rw [upd_ne n3]; exact eD3)
end
end NB
namespace NB
open PySem L2 ClX
local macro_rules
  | `(tactic| and_intros) => `(tactic| repeat (first
    | with_reducible refine q_cons ?_ | with_reducible refine q_c ?_ | ((with_reducible apply q_var); exact rfl) | with_reducible refine q_nil ?_ | with_reducible refine q_call ?_ | with_reducible refine q_op ?_
    | with_reducible refine q_sa ?_ | with_reducible refine ra_lst ?_ | with_reducible refine ra_tup ?_ | with_reducible refine q_i0 ?_ | with_reducible refine q_cb ?_ | with_reducible refine q_test ?_ | with_reducible refine q_b ?_ | with_reducible refine q_bl ?_ | with_reducible refine q_iT ?_ | with_reducible refine q_iF ?_ | with_reducible refine q_nT ?_ | with_reducible refine q_nF ?_
    | with_reducible refine q_sif0 ?_ | with_reducible refine q_if0 ?_ | with_reducible refine q_sif ?_ | with_reducible refine q_if ?_ | with_reducible refine q_sdrop ?_ | with_reducible refine q_drop ?_ | with_reducible refine q_asg ?_ | with_reducible refine q_ret ?_ | with_reducible refine q_un ?_ | with_reducible refine q_u ?_ | with_reducible refine q_ifE ?_ | with_reducible refine q_or ?_ | with_reducible refine q_and ?_ | with_reducible refine q_not ?_ | with_reducible refine q_andV ?_ | with_reducible refine q_orV ?_ | with_reducible refine q_notV ?_ | with_reducible refine q_isN ?_ | with_reducible refine q_notN ?_ | with_reducible refine q_make ?_ | with_reducible refine q_meth ?_ | with_reducible refine q_sp ?_ | with_reducible refine q_par ?_ | with_reducible refine q_two ?_ | with_reducible refine q_in ?_ | with_reducible refine q_sl ?_ | with_reducible refine q_part ?_ | with_reducible refine q_nopart ?_ | with_reducible refine q_fmt ?_ | with_reducible refine q_dnew ?_ | with_reducible refine q_chain ?_ | with_reducible refine q_yes ?_ | with_reducible refine q_mkO ?_ | with_reducible refine q_int1' ?_ | with_reducible refine q_iR1 ?_ | with_reducible refine q_iR2 ?_ | with_reducible refine q_iRA ?_ | with_reducible refine q_iL ?_ | with_reducible refine q_iT2 ?_ | with_reducible refine q_rA ?_ | with_reducible refine q_sfor ?_ | with_reducible refine q_for ?_
    | ((with_reducible refine q_eq ?_ ?_); exact rfl) | ((with_reducible refine q_ne ?_ ?_); exact rfl) | ((with_reducible refine q_pow ?_ ?_); exact ⟨by decide, by decide, by decide⟩)))
section
variable {P : Program} {w : World} {K : PySem.W.Frag} {mg : Str → Option Value} {base : Heap} {B Bm Bs Bd R Cd Cl Cs C D fRI : Addr} {wd : Str}
abbrev sDri : Stmt := inClass (top 60) 0
abbrev nDri : List Str := ["self", "days", "__class__"]
theorem scDri : NdefX.NScope nDri ["self", "days"] ["__class__"] (defScope sDri) := NdefX.nscope_by (by decide +kernel)
theorem ok_Dri {f : Addr} {fd : FuncData} {F : NdefX.NF} (Fs : FunS K P "__init__" "DayRule.__init__" sDri D f F fd) (Tb : Bi mg) (mSup : mg "super" = none) (hta : PySem.W.nsIn K cStatics "thirdparty.any" = some none) (ci : ∃ cd, PySem.W.clsIn K D = some cd) (c : RCl K R C wd) (w20 : wd.length ≤ 20) (SK : SupK K C D "__init__" fRI)
    (F2 : FnR P w K mg base (CX P w) 4 fRI (spRI0 K R)) (fi : PySem.W.fnIn K fRI = true) (ty : PySem.W.typeIn K (.ref fRI) = some (.type "function")) (Dn : ∃ (f : Addr) (fd : FuncData), FnOk P w K mg base (CX P w) 3 f fd ["part", "is_right"] (spNp B) ∧ mg "need_part" = some (.ref f) ∧ PySem.W.keepIn K (.ref f) = true ∧ Binds K fd ["part", "is_right"] []) (Dd : DyD P w K mg base Bd Cd) (Dst : OwnMP P w K mg base CX0 1 Cd "__str__" (spStr Cd)) (Pr : ∃ (p g : Addr) (fd : FuncData), PropOf K Cd "period" p g ∧ FnOk P w K mg base CX0 1 g fd ["self"] (spPer Cd) ∧ Binds K fd ["self"] []) :
    FnOk P w K mg base (CX P w) 5 f fd ["self", "days"] (spDRI K B R Cd C wd) := by
  obtain ⟨p1_, f1_, fd1_, P1, F1, B1⟩ := Pr
  obtain ⟨fNp, fdNp, FNp, mNp, kNp, bNp⟩ := Dn
  obtain ⟨n0, q0, p0, b0, s0, cl0, c0⟩ := F
  obtain rfl : q0 = _ := Fs.nm
  obtain rfl : p0 = _ := Fs.pa
  obtain rfl : b0 = _ := Fs.bo
  obtain rfl : s0 = _ := Fs.sc
  refine Fs.okX scDri (fun vs H Q E h => ?_) (fun A outer s H vs Q E hr h => ?_)
  · obtain ⟨a, dx, v, rfl, _⟩ := h
    rfl
  · obtain ⟨a, dx, v, rfl, ha, h⟩ := h
    have r2 := hr.mono (show 2 ≤ 4 by decide)
    have r3 := hr.mono (show 3 ≤ 4 by decide)
    refine ⟨_, psa_cons (ps_expr (pe_call FNp r3 rfl mNp kNp bNp .nil (passes_call (takes_of rfl rfl rfl rfl) fun _ _ _ _ h => h) (pa_cons pe_str (pa_cons (pe_callB call_isi (by rfl) Tb.isinstance (by decide +kernel) (pa_cons (pv 1) (pa_cons (pe_glob (v := .ref Cd) (by rfl) Dd.mgC rfl) pa_nil))) pa_nil))))
      (psa_sup (f2 := fRI) Fs mSup hta ci F2 fi ty hr (passes_call (takes_of rfl rfl rfl rfl) fun _ _ _ _ h => h) (pa_cons (pe_lst (pa_cons (pe_callTy (call_strO Dst.at_ r3 pass0) (by rfl) Tb.str (by decide +kernel) (pa_cons (pv 1) pa_nil)) pa_nil)) (pa_cons (pe_lst pa_nil) pa_nil))
      (psa_of (pss_cons (ps_fld (pv 0) (pv 1) rfl) (pss_one (ps_fld (pv 0) (pe_lst (pa_cons (pe_prop (pv 1) Dd.cls.cl P1 F1 r2 B1 .nil pass0 rfl) pa_nil)) rfl)))) (by rfl) rfl (by rfl) (by rfl) (by rfl) (by rfl) (by rfl) (by rfl) (by rfl) (by rfl)), ?_⟩
    and_intros
    rcases h with ⟨d, bs, rfl, hd, k⟩ | ⟨ty, ht, hk, ke⟩
    · refine ⟨_, _, _, _, true, rfl, .own Cd, Dd.ty hd, Dd.kc, ?_⟩
      and_intros
      refine ⟨_, true, rfl, fun _ => ?_, fun z => nomatch z⟩
      refine ⟨a, C, dx, [], rfl, ha, SK, ?_⟩
      and_intros
      refine rd_strD hd fun H1 s1 => ?_
      and_intros
      refine ⟨by show 1 ≤ sizeLine; rw [sizeLine_eq]; decide, fun ws hw => ?_⟩
      have s2 := same_new (o := .lst [.str (daysTxt bs)]) s1 hw
      have ew : upd H1 ws (.lst [.str (daysTxt bs)]) ws = some (.lst [.str (daysTxt bs)]) := upd_same
      show tCons _ _ _ (upd H1 ws (.lst [.str (daysTxt bs)])) _
      generalize upd H1 ws (.lst [.str (daysTxt bs)]) = H2 at s2 ew
      and_intros
      refine ⟨Nat.zero_le _, fun inn hi => ?_⟩
      have s3 := same_new (o := .lst []) s2 hi
      have ew : upd H2 inn (.lst []) ws = some (.lst [.str (daysTxt bs)]) := by rw [upd_ne (ne_of_none ew hi)]; exact ew
      have ei : upd H2 inn (.lst []) inn = some (.lst []) := upd_same
      show tNil _ (upd H2 inn (.lst [])) _
      generalize upd H2 inn (.lst []) = H3 at s3 ew ei
      and_intros
      refine ⟨a, ws, inn, C, dx, wd, daysTxt bs, rfl, s3 _ _ ha, c, w20, days_short hd.ln, ew, ei, fun H4 pl sl bt n1 n2 n3 ea ep es => ?_⟩
      have b4 : But a H H4 := fun x o n e => bt x o n (s3 _ _ e)
      have ns : sl ≠ a := fun z => by rw [z, ea] at es; cases es
      show tSeq _ _ _ _ H4
      refine q_fldS (q_var rfl (q_var rfl ⟨a, C, dx, _, rfl, ea, c.ck.cl, c.na "days", by simp, ?_⟩))
      have b5 := but_put (o := .ins C dx [("text", .str (rTxt wd (daysTxt bs))), ("own_size", .int 1), ("periods", .ref pl), ("sets", .ref sl), ("days", .ref d)]) b4
      have ea : upd H4 a (.ins C dx [("text", .str (rTxt wd (daysTxt bs))), ("own_size", .int 1), ("periods", .ref pl), ("sets", .ref sl), ("days", .ref d)]) a = some (.ins C dx [("text", .str (rTxt wd (daysTxt bs))), ("own_size", .int 1), ("periods", .ref pl), ("sets", .ref sl), ("days", .ref d)]) := upd_same
      have es : upd H4 a (.ins C dx [("text", .str (rTxt wd (daysTxt bs))), ("own_size", .int 1), ("periods", .ref pl), ("sets", .ref sl), ("days", .ref d)]) sl = some (.lst []) := by rw [upd_ne ns]; exact es
      show sFld _ _ _ _ _ _ (upd H4 a (.ins C dx [("text", .str (rTxt wd (daysTxt bs))), ("own_size", .int 1), ("periods", .ref pl), ("sets", .ref sl), ("days", .ref d)]))
      generalize upd H4 a (.ins C dx [("text", .str (rTxt wd (daysTxt bs))), ("own_size", .int 1), ("periods", .ref pl), ("sets", .ref sl), ("days", .ref d)]) = H5 at b5 ea es
      have hd5 := but_days hd ha b5
      refine q_fld1 ?_
      and_intros
      refine rd_perV rfl hd5 ?_
      and_intros
      refine ⟨by show 1 ≤ sizeLine; rw [sizeLine_eq]; decide, fun l hl => ?_⟩
      have b6 := but_alc (o := .lst [.int (lpG bs)]) b5 hl
      have el : upd H5 l (.lst [.int (lpG bs)]) l = some (.lst [.int (lpG bs)]) := upd_same
      have nl : l ≠ a := fun z => by rw [z, ea] at hl; cases hl
      have nls : sl ≠ l := fun z => by rw [z, hl] at es; cases es
      have ea : upd H5 l (.lst [.int (lpG bs)]) a = some (.ins C dx [("text", .str (rTxt wd (daysTxt bs))), ("own_size", .int 1), ("periods", .ref pl), ("sets", .ref sl), ("days", .ref d)]) := by rw [upd_ne nl.symm]; exact ea
      have es : upd H5 l (.lst [.int (lpG bs)]) sl = some (.lst []) := by rw [upd_ne nls]; exact es
      generalize upd H5 l (.lst [.int (lpG bs)]) = H6 at b6 el ea es
      refine q_var rfl ⟨a, C, dx, _, rfl, ea, c.ck.cl, c.na "periods", by simp, ?_⟩
      have b7 := but_put (o := .ins C dx [("text", .str (rTxt wd (daysTxt bs))), ("own_size", .int 1), ("periods", .ref l), ("sets", .ref sl), ("days", .ref d)]) b6
      exact k _ b7 ⟨dx, d, l, sl, upd_same, but_days hd ha b7, by rw [upd_ne nl]; exact el, by rw [upd_ne ns]; exact es⟩
    · refine ⟨_, _, _, _, false, rfl, .own Cd, ht, hk, ?_⟩
      and_intros
      exact ⟨_, false, rfl, (fun z => nomatch z), fun _ => ke⟩
end
section
variable {P : Program} {w : World} {K : PySem.W.Frag} {mg : Str → Option Value} {base : Heap} {B Bm Bs Bd R Cd Cl Cs C D fRI : Addr} {wd : Str}
abbrev sLri : Stmt := inClass (top 62) 0
abbrev nLri : List Str := ["self", "lengths", "__class__"]
theorem scLri : NdefX.NScope nLri ["self", "lengths"] ["__class__"] (defScope sLri) := NdefX.nscope_by (by decide +kernel)
theorem ok_Lri {f : Addr} {fd : FuncData} {F : NdefX.NF} (Fs : FunS K P "__init__" "LengthRule.__init__" sLri D f F fd) (Tb : Bi mg) (mSup : mg "super" = none) (hta : PySem.W.nsIn K cStatics "thirdparty.any" = some none) (ci : ∃ cd, PySem.W.clsIn K D = some cd) (c : RCl K R C wd) (w20 : wd.length ≤ 20) (SK : SupK K C D "__init__" fRI)
    (F2 : FnR P w K mg base (CX P w) 4 fRI (spRI0 K R)) (fi : PySem.W.fnIn K fRI = true) (ty : PySem.W.typeIn K (.ref fRI) = some (.type "function")) (Dn : ∃ (f : Addr) (fd : FuncData), FnOk P w K mg base (CX P w) 3 f fd ["part", "is_right"] (spNp B) ∧ mg "need_part" = some (.ref f) ∧ PySem.W.keepIn K (.ref f) = true ∧ Binds K fd ["part", "is_right"] []) (Dd : LnD P w K mg base Bd Bm Cl) (Dst : OwnMP P w K mg base CX0 1 Cl "__str__" (spStrL Cl)) :
    FnOk P w K mg base (CX P w) 5 f fd ["self", "lengths"] (spLRI K B R Cl C wd) := by
  obtain ⟨fNp, fdNp, FNp, mNp, kNp, bNp⟩ := Dn
  obtain ⟨n0, q0, p0, b0, s0, cl0, c0⟩ := F
  obtain rfl : q0 = _ := Fs.nm
  obtain rfl : p0 = _ := Fs.pa
  obtain rfl : b0 = _ := Fs.bo
  obtain rfl : s0 = _ := Fs.sc
  refine Fs.okX scLri (fun vs H Q E h => ?_) (fun A outer s H vs Q E hr h => ?_)
  · obtain ⟨a, dx, v, rfl, _⟩ := h
    rfl
  · obtain ⟨a, dx, v, rfl, ha, h⟩ := h
    have r2 := hr.mono (show 2 ≤ 4 by decide)
    have r3 := hr.mono (show 3 ≤ 4 by decide)
    refine ⟨_, psa_cons (ps_expr (pe_call FNp r3 rfl mNp kNp bNp .nil (passes_call (takes_of rfl rfl rfl rfl) fun _ _ _ _ h => h) (pa_cons pe_str (pa_cons (pe_callB call_isi (by rfl) Tb.isinstance (by decide +kernel) (pa_cons (pv 1) (pa_cons (pe_glob (v := .ref Cl) (by rfl) Dd.mgC rfl) pa_nil))) pa_nil))))
      (psa_sup (f2 := fRI) Fs mSup hta ci F2 fi ty hr (passes_call (takes_of rfl rfl rfl rfl) fun _ _ _ _ h => h) (pa_cons (pe_lst (pa_cons (pe_callTy (call_strO Dst.at_ r3 pass0) (by rfl) Tb.str (by decide +kernel) (pa_cons (pv 1) pa_nil)) pa_nil)) (pa_cons (pe_lst pa_nil) pa_nil))
      (psa_of (pss_cons (ps_fld (pv 0) (pv 1) rfl) (pss_one (ps_fld (pv 0) (pe_lst (pa_cons (pv 1) pa_nil)) rfl)))) (by rfl) rfl (by rfl) (by rfl) (by rfl) (by rfl) (by rfl) (by rfl) (by rfl) (by rfl)), ?_⟩
    and_intros
    rcases h with ⟨d, g, rfl, hd, k⟩ | ⟨ty, ht, hk, ke⟩
    · refine ⟨_, _, _, _, true, rfl, .own Cl, Dd.ty hd, Dd.kc, ?_⟩
      and_intros
      refine ⟨_, true, rfl, fun _ => ?_, fun z => nomatch z⟩
      refine ⟨a, C, dx, [], rfl, ha, SK, ?_⟩
      and_intros
      obtain ⟨dq, fq, eq_⟩ := hd.ob
      refine ⟨d, dq, fq, rfl, eq_, d, g, rfl, hd, fun s0 p0 H1 L lb s1 => ⟨_, rfl, ?_⟩⟩
      generalize ht : lenTxt g s0 p0 = tx
      have tl : tx.length ≤ 20000 := by rw [← ht]; exact Nat.le_trans (lenTxt_len lb) (by decide)
      and_intros
      refine ⟨by show 1 ≤ sizeLine; rw [sizeLine_eq]; decide, fun ws hw => ?_⟩
      have s2 := same_new (o := .lst [.str tx]) s1 hw
      have ew : upd H1 ws (.lst [.str tx]) ws = some (.lst [.str tx]) := upd_same
      show tCons _ _ _ (upd H1 ws (.lst [.str tx])) _
      generalize upd H1 ws (.lst [.str tx]) = H2 at s2 ew
      and_intros
      refine ⟨Nat.zero_le _, fun inn hi => ?_⟩
      have s3 := same_new (o := .lst []) s2 hi
      have ew : upd H2 inn (.lst []) ws = some (.lst [.str tx]) := by rw [upd_ne (ne_of_none ew hi)]; exact ew
      have ei : upd H2 inn (.lst []) inn = some (.lst []) := upd_same
      show tNil _ (upd H2 inn (.lst [])) _
      generalize upd H2 inn (.lst []) = H3 at s3 ew ei
      and_intros
      refine ⟨a, ws, inn, C, dx, wd, tx, rfl, s3 _ _ ha, c, w20, tl, ew, ei, fun H4 pl sl bt n1 n2 n3 ea ep es => ?_⟩
      have b4 : But a H H4 := fun x o n e => bt x o n (s3 _ _ e)
      have np : pl ≠ a := fun z => by rw [z, ea] at ep; cases ep
      show tSeq _ _ _ _ H4
      refine q_fldS (q_var rfl (q_var rfl ⟨a, C, dx, _, rfl, ea, c.ck.cl, c.na "lengths", by simp, ?_⟩))
      have b5 := but_put (o := .ins C dx [("text", .str (rTxt wd tx)), ("own_size", .int 1), ("periods", .ref pl), ("sets", .ref sl), ("lengths", .ref d)]) b4
      have ea : upd H4 a (.ins C dx [("text", .str (rTxt wd tx)), ("own_size", .int 1), ("periods", .ref pl), ("sets", .ref sl), ("lengths", .ref d)]) a = some (.ins C dx [("text", .str (rTxt wd tx)), ("own_size", .int 1), ("periods", .ref pl), ("sets", .ref sl), ("lengths", .ref d)]) := upd_same
      have ep : upd H4 a (.ins C dx [("text", .str (rTxt wd tx)), ("own_size", .int 1), ("periods", .ref pl), ("sets", .ref sl), ("lengths", .ref d)]) pl = some (.lst []) := by rw [upd_ne np]; exact ep
      show sFld _ _ _ _ _ _ (upd H4 a (.ins C dx [("text", .str (rTxt wd tx)), ("own_size", .int 1), ("periods", .ref pl), ("sets", .ref sl), ("lengths", .ref d)]))
      generalize upd H4 a (.ins C dx [("text", .str (rTxt wd tx)), ("own_size", .int 1), ("periods", .ref pl), ("sets", .ref sl), ("lengths", .ref d)]) = H5 at b5 ea ep
      refine q_fld1 ?_
      and_intros
      refine ⟨by show 1 ≤ sizeLine; rw [sizeLine_eq]; decide, fun l hl => ?_⟩
      have b6 := but_alc (o := .lst [.ref d]) b5 hl
      have el : upd H5 l (.lst [.ref d]) l = some (.lst [.ref d]) := upd_same
      have nl : l ≠ a := fun z => by rw [z, ea] at hl; cases hl
      have nlp : pl ≠ l := fun z => by rw [z, hl] at ep; cases ep
      have ea : upd H5 l (.lst [.ref d]) a = some (.ins C dx [("text", .str (rTxt wd tx)), ("own_size", .int 1), ("periods", .ref pl), ("sets", .ref sl), ("lengths", .ref d)]) := by rw [upd_ne nl.symm]; exact ea
      have ep : upd H5 l (.lst [.ref d]) pl = some (.lst []) := by rw [upd_ne nlp]; exact ep
      show tVar 0 _ (upd H5 l (.lst [.ref d])) _
      generalize upd H5 l (.lst [.ref d]) = H6 at b6 el ea ep
      refine q_var rfl ⟨a, C, dx, _, rfl, ea, c.ck.cl, c.na "sets", by simp, ?_⟩
      have b7 := but_put (o := .ins C dx [("text", .str (rTxt wd tx)), ("own_size", .int 1), ("periods", .ref pl), ("sets", .ref l), ("lengths", .ref d)]) b6
      exact k _ b7 ⟨dx, d, pl, l, s0, p0, L, lb, by rw [ht]; exact upd_same, but_len hd ha b7, by rw [upd_ne np]; exact ep, by rw [upd_ne nl]; exact el⟩
    · refine ⟨_, _, _, _, false, rfl, .own Cl, ht, hk, ?_⟩
      and_intros
      exact ⟨_, false, rfl, (fun z => nomatch z), fun _ => ke⟩
end
end NB
namespace NB
open PySem L2 ClX
local macro_rules
  | `(tactic| and_intros) => `(tactic| repeat (first
    | with_reducible refine q_cons ?_ | with_reducible refine q_c ?_ | ((with_reducible apply q_var); exact rfl) | with_reducible refine q_nil ?_ | with_reducible refine q_call ?_ | with_reducible refine q_op ?_
    | with_reducible refine q_sa ?_ | with_reducible refine ra_lst ?_ | with_reducible refine ra_tup ?_ | with_reducible refine q_i0 ?_ | with_reducible refine q_cb ?_ | with_reducible refine q_test ?_ | with_reducible refine q_b ?_ | with_reducible refine q_bl ?_ | with_reducible refine q_iT ?_ | with_reducible refine q_iF ?_ | with_reducible refine q_nT ?_ | with_reducible refine q_nF ?_
    | with_reducible refine q_sif0 ?_ | with_reducible refine q_if0 ?_ | with_reducible refine q_sif ?_ | with_reducible refine q_if ?_ | with_reducible refine q_sdrop ?_ | with_reducible refine q_drop ?_ | with_reducible refine q_asg ?_ | with_reducible refine q_ret ?_ | with_reducible refine q_un ?_ | with_reducible refine q_u ?_ | with_reducible refine q_ifE ?_ | with_reducible refine q_or ?_ | with_reducible refine q_and ?_ | with_reducible refine q_not ?_ | with_reducible refine q_andV ?_ | with_reducible refine q_orV ?_ | with_reducible refine q_notV ?_ | with_reducible refine q_isN ?_ | with_reducible refine q_notN ?_ | with_reducible refine q_make ?_ | with_reducible refine q_meth ?_ | with_reducible refine q_sp ?_ | with_reducible refine q_par ?_ | with_reducible refine q_two ?_ | with_reducible refine q_in ?_ | with_reducible refine q_sl ?_ | with_reducible refine q_part ?_ | with_reducible refine q_nopart ?_ | with_reducible refine q_fmt ?_ | with_reducible refine q_dnew ?_ | with_reducible refine q_chain ?_ | with_reducible refine q_yes ?_ | with_reducible refine q_mkO ?_ | with_reducible refine q_int1' ?_ | with_reducible refine q_iR1 ?_ | with_reducible refine q_iR2 ?_ | with_reducible refine q_iRA ?_ | with_reducible refine q_iL ?_ | with_reducible refine q_iT2 ?_ | with_reducible refine q_rA ?_ | with_reducible refine q_sfor ?_ | with_reducible refine q_for ?_
    | ((with_reducible refine q_eq ?_ ?_); exact rfl) | ((with_reducible refine q_ne ?_ ?_); exact rfl) | ((with_reducible refine q_pow ?_ ?_); exact ⟨by decide, by decide, by decide⟩)))
section
variable {P : Program} {w : World} {K : PySem.W.Frag} {mg : Str → Option Value} {base : Heap} {B C : Addr}
abbrev nDI : List Str := ["self", "period", "rests", "truths", "least", "d"]
theorem scDI : FnScope nDI ["self", "period", "rests"] (defScope (sDays 1)) := ⟨rfl, rfl, rfl, by decide +kernel, rfl, by decide +kernel, by decide +kernel⟩
theorem ok_di {f : Addr} {fd : FuncData} {t : Tok} (F : Fun K "__init__" "Days.__init__" (sDays 1) f fd) (T : Bi mg) (mN : mg "BOUND_days" = some (.int 7 t)) (S : DyC K C) (Bd : BadC P w K mg base "BadDays" "part" B)
    (Db : DefOf P w K mg base "is_between" 2 ["value", "low", "high"] (spBetw K)) (Da : DefOf P w K mg base "are_between" 3 ["values", "low", "high"] (spAre K))
    (Ds : DefOf P w K mg base "ascending" 1 ["numbers"] (spAsc K)) (Dl : DefOf P w K mg base "least_period" 1 ["truths"] (spLp K)) :
    FnOk P w K mg base (CX P w) 5 f fd ["self", "period", "rests"] (spDI K B C) := by
  obtain ⟨fB, fdB, FB, mB, kB, bB⟩ := Db.ex
  obtain ⟨fA, fdA, FA, mA, kA, bA⟩ := Da.ex
  obtain ⟨fS, fdS, FS, mS, kS, bS⟩ := Ds.ex
  obtain ⟨fL, fdL, FL, mL, kL, bL⟩ := Dl.ex
  refine F.okX scDI (fun vs H Q E h => ?_) (fun cdv A outer s H vs Q E hr h => ?_)
  · obtain ⟨a, dx, v, u, r, rfl, _⟩ := h
    rfl
  · obtain ⟨a, dx, v, u, r, rfl, ha, h, ke, k⟩ := h
    have r1 := hr.mono (show 1 ≤ 4 by decide)
    have r2 := hr.mono (show 2 ≤ 4 by decide)
    have r3 := hr.mono (show 3 ≤ 4 by decide)
    refine ⟨_, pss_cons (ps_if (pt_not (pt_val (pe_call FB r2 rfl mB kB bB .nil pass0 (pa_cons (pv 1) (pa_cons pe_int (pa_cons (pe_glob (v := .int 7) (by rfl) mN ⟨_, rfl⟩) pa_nil)))))) (pss_one (ps_badS Bd r2 rfl rfl (takes_of rfl rfl rfl rfl))) pss_nil)
      (pss_cons (ps_if (pt_not (pt_val (pe_call FA r3 rfl mA kA bA .nil pass0 (pa_cons (pv 2) (pa_cons pe_int (pa_cons (pe_op op_sub (pv 1) pe_int) pa_nil)))))) (pss_one (ps_badS Bd r2 rfl rfl (takes_of rfl rfl rfl rfl))) pss_nil)
      (pss_cons (ps_set (i := 3) scDI.nd rfl (.inr rfl) (pe_lc (own := [("d", 5)]) (g := gName 5) (tt := tYes) (te := tOp (rIn K false) (tVar 5) (tVar 2)) (by rfl) scDI.nd (pi_range1 (by rfl) T.range (pa_cons (pv 1) pa_nil)) (blkOk_by (own := [("d", 5)]) (N := nDI) (sc := defScope (sDays 1)) (by decide +kernel))
            (fun _ _ _ _ _ => pg_name (i := 5) scDI.nd rfl (.inl rfl)) (fun _ _ _ _ _ => pts_nil) (fun _ _ _ _ _ => pe_cmpR op_in_seq (pv 5) (pv 2) rfl)))
      (pss_cons (ps_set (i := 4) scDI.nd rfl (.inl rfl) (pe_call FL r1 rfl mL kL bL .nil pass0 (pa_cons (pv 3) pa_nil)))
      (pss_one (ps_fld (pv 0) (pe_tup (pa_cons (pv 4) (pa_cons (pe_callTy call_tuple_of (by rfl) T.tuple (by decide +kernel) (pa_cons (pe_call FS r1 rfl mS kS bS .nil pass0 (pa_cons
        (pe_lc (own := [("d", 5)]) (g := gName 5) (tt := tB (tOp (rIxL K) (tVar 3) (tVar 5))) (te := tVar 5) (by rfl) scDI.nd (pi_range1 (by rfl) T.range (pa_cons (pv 4) pa_nil)) (blkOk_by (own := [("d", 5)]) (N := nDI) (sc := defScope (sDays 1)) (by decide +kernel))
            (fun _ _ _ _ _ => pg_name (i := 5) scDI.nd rfl (.inl rfl)) (fun _ _ _ _ _ => pts_one (pt_val (pe_ix ix_list (pv 3) (pv 5) (fun _ _ => rfl)))) (fun _ _ _ _ _ => pv 5)) pa_nil)) pa_nil)) pa_nil))) rfl))))), ?_⟩
    rcases h with ⟨p, l, ns, rfl, p1, p2, rfl, hl, hn, hb, rfl⟩ | ⟨hv, rfl⟩ | ⟨p, rfl, p1, p2, hu, rfl⟩
    · have bp : BtwV K H 1 7 (.int (p : Int)) true := .inl ⟨p, rfl, by rw [decide_eq_true (show (1 : Int) ≤ p by omega), decide_eq_true (show (p : Int) ≤ 7 by omega)]; rfl⟩
      have av : AreV K H 0 ((p : Int) - 1) (.ref l) true := by
        refine .inl ⟨l, ns.map V.int, fun x => match x with | .int n => decide (0 ≤ n) && decide (n ≤ (p : Int) - 1) | _ => false, rfl, hl, by rw [List.length_map, sizeLine_eq]; omega, fun x hx => ?_, ?_⟩
        · obtain ⟨n, _, rfl⟩ := List.mem_map.mp hx
          exact .inl ⟨n, rfl, rfl⟩
        · symm
          rw [List.all_map, List.all_eq_true]
          intro n hn
          have := hb n hn
          show (decide (0 ≤ n) && decide (n ≤ (p : Int) - 1)) = true
          rw [decide_eq_true this.1, decide_eq_true (show n ≤ (p : Int) - 1 by omega)]
          rfl
      refine rd_sif0 (rd_not (rd_b (rd_call (rd_cons (rd_var rfl (rd_cons (rd_c (rd_cons (rd_c (rd_nil (bp.sp ⟨_, rfl, iteF ?_⟩)))))))))))
      refine rd_sif0 (rd_not (rd_b (rd_call (rd_cons (rd_var rfl (rd_cons (rd_c (rd_cons (rd_op (rd_var rfl (rd_c ⟨_, _, rfl, rfl, rd_nil ⟨_, _, _, true, rfl, av, fun H1 s1 => ⟨_, rfl, iteF ?_⟩⟩⟩)))))))))))
      have hl1 : H1 l = some (.lst (ns.map V.int)) ∨ H1 l = some (.tup (ns.map V.int)) := hl.imp (fun h => s1 _ _ h) (fun h => s1 _ _ h)
      refine rd_sa (rd_lcR (n := p) (fun _ => true) (fun d => .bl (decide (d ∈ ns))) rfl (by omega) (fun _ => rfl) (fun k _ H' Q _ q => q) (fun k hk _ H' Q s' q => rd_op (rd_var rfl (rd_var rfl (rd_inI (hl1.imp (fun h => s' _ _ h) (fun h => s' _ _ h)) q)))) fun D1 H2 s2 e1 => ?_)
      have ef : ((rgN 0 p).filter fun _ => true).map (fun d => V.bl (decide (d ∈ ns))) = (truB p ns).map V.bl := by
        rw [List.filter_eq_self.mpr (fun _ _ => rfl)]
        unfold truB
        exact (List.map_map (f := fun d => decide (d ∈ ns)) (g := V.bl) (l := rgN 0 p)).symm
      rw [ef] at e1
      obtain ⟨bs, hbs⟩ : ∃ bs, bs = truB p ns := ⟨_, rfl⟩
      have bl : bs.length = p := by rw [hbs]; exact truB_len _ _
      rw [← hbs] at k e1
      refine rd_sa (rd_call (rd_cons (rd_var rfl (rd_nil ⟨D1, bs, rfl, e1, by omega, by omega, fun H3 s3 => ?_⟩))))
      obtain ⟨f1, f2, _, _, _⟩ := lp_facts (bs := bs) (by omega) (by omega)
      have e3 := s3 _ _ e1
      refine rd_tup (rd_cons (rd_var rfl (rd_cons (rd_cb (rd_cons (rd_call (rd_cons (rd_lcR (n := lpG bs) (atB bs) V.int rfl (by omega) (fun _ => rfl) (fun k hk H' Q s' q => ?_) (fun k hk _ H' Q s' q => rd_var rfl q) fun D2 H4 s4 e4 => ?_))))))))
      · have := mem_rgN.mp hk
        exact rd_b (rd_op (rd_var rfl (rd_var rfl ⟨D1, _, k, _, rfl, rfl, SqL.of (s' _ _ e3), atI_bools (by omega) (by omega), _, rfl, q⟩)))
      · refine rd_nil ⟨D2, restsB bs (lpG bs), rfl, e4, Nat.le_trans (rests_len _ _) (by omega), fun H5 L ms s5 eL hs hm => ?_⟩
        obtain rfl : ms = restsB bs (lpG bs) := asc_uniq hs (rests_sorted _ _) hm
        refine rd_nil ⟨L, _, rfl, .inl ⟨SqL.of eL, fun r hr => rd_nil ⟨by show 2 ≤ sizeLine; decide, fun q hq => ?_⟩⟩⟩
        have sA := ((s1.trans s2).trans s3).trans (s4.trans s5)
        have s6 := same_new (o := .tup ((restsB bs (lpG bs)).map V.int)) sA hr
        have s7 := same_new (o := .tup [.int (lpG bs), .ref r]) s6 hq
        refine ⟨_, rfl, a, C, dx, _, rfl, s7 _ _ ha, S.cl, S.n1, by show 0 < 1000; decide, ?_⟩
        have na : a ≠ r := ne_of_none (sA _ _ ha) hr
        have nq : a ≠ q := ne_of_none (s6 _ _ ha) hq
        refine k _ rfl _ (fun x o n e => by rw [upd_ne n]; exact s7 _ _ e) ⟨⟨dx, q, r, upd_same, by rw [upd_ne nq.symm]; exact upd_same, ?_⟩, by omega, by omega⟩
        rw [upd_ne na.symm, upd_ne (fresh_upd hq).1.symm]
        exact upd_same
    · refine rd_sif0 (rd_not (rd_b (rd_call (rd_cons (rd_var rfl (rd_cons (rd_c (rd_cons (rd_c (rd_nil (hv.sp ⟨_, rfl, iteT ?_⟩)))))))))))
      exact ke _ rfl
    · have bp : BtwV K H 1 7 (.int (p : Int)) true := .inl ⟨p, rfl, by rw [decide_eq_true (show (1 : Int) ≤ p by omega), decide_eq_true (show (p : Int) ≤ 7 by omega)]; rfl⟩
      refine rd_sif0 (rd_not (rd_b (rd_call (rd_cons (rd_var rfl (rd_cons (rd_c (rd_cons (rd_c (rd_nil (bp.sp ⟨_, rfl, iteF ?_⟩)))))))))))
      refine rd_sif0 (rd_not (rd_b (rd_call (rd_cons (rd_var rfl (rd_cons (rd_c (rd_cons (rd_op (rd_var rfl (rd_c ⟨_, _, rfl, rfl, rd_nil ⟨_, _, _, false, rfl, hu, fun H1 s1 => ⟨_, rfl, iteT ?_⟩⟩⟩)))))))))))
      exact (ke _ rfl).keep s1
end
section
variable {P : Program} {w : World} {K : PySem.W.Frag} {mg : Str → Option Value} {base : Heap} {B Bc C : Addr}
theorem scD6 : FnScope ["self"] ["self"] (defScope (sDays 6)) := ⟨rfl, rfl, rfl, by decide +kernel, rfl, by decide +kernel, by decide +kernel⟩
theorem ok_per {f : Addr} {fd : FuncData} (F : Fun K "period" "Days.period" (sDays 6) f fd) (S : DyC K C) : FnOk P w K mg base CX0 1 f fd ["self"] (spPer C) := by
  refine F.ok scD6 (fun vs H Q E h => ?_) (fun cdv A outer s H vs Q E hr h => ?_)
  · obtain ⟨a, bs, rfl, _⟩ := h
    rfl
  · obtain ⟨a, bs, rfl, ha, q⟩ := h
    refine ⟨_, pss_one (ps_ret (pe_ix ix_tup (pe_fld (pv 0) rfl) pe_int (fun _ _ => rfl))), ?_⟩
    exact rd_ret (rd_form0 S rfl ha q)
end
section
variable {P : Program} {w : World} {K : PySem.W.Frag} {mg : Str → Option Value} {base : Heap} {B Bc C : Addr}
theorem scD9 : FnScope ["self", "d"] ["self", "d"] (defScope (sDays 9)) := ⟨rfl, rfl, rfl, by decide +kernel, rfl, by decide +kernel, by decide +kernel⟩
theorem ok_in {f : Addr} {fd : FuncData} (F : Fun K "__contains__" "Days.__contains__" (sDays 9) f fd) (S : DyC K C) (D : DefOf P w K mg base "is_integer" 1 ["value"] (spIsInt K)) : FnOk P w K mg base CX0 2 f fd ["self", "d"] (spIn K C) := by
  obtain ⟨fI, fdI, FI, mI, kI, bI⟩ := D.ex
  refine F.ok scD9 (fun vs H Q E h => ?_) (fun cdv A outer s H vs Q E hr h => ?_)
  · obtain ⟨a, bs, v, rfl, _⟩ := h
    rfl
  · obtain ⟨a, bs, v, rfl, ha, h⟩ := h
    refine ⟨_, pss_one (ps_ret (pe_and (pe_call FI hr rfl mI kI bI .nil pass0 (pa_cons (pv 1) pa_nil)) (pe_one (pe_cmpR op_in_seq (pe_op op_mod (pv 1) (pe_ix ix_tup (pe_fld (pv 0) rfl) pe_int (fun _ _ => rfl))) (pe_ix ix_tup (pe_fld (pv 0) rfl) pe_int (fun _ _ => rfl)) rfl)))), ?_⟩
    obtain ⟨f1, f2, _, _, _⟩ := lp_facts ha.lo ha.hi
    rcases h with ⟨d, rfl, q⟩ | ⟨ni, k⟩
    · refine rd_ret (rd_andV (rd_call (rd_cons (rd_var rfl (rd_nil ⟨_, rfl, .inl ⟨d, rfl, true, rfl, iteT ?_⟩⟩)))))
      refine rd_op (rd_op (rd_var rfl (rd_form0 S rfl ha ⟨_, _, rfl, rfl, by show (0 : Int) < lpG bs; omega, rd_form1 S rfl ha fun r hr => rd_inI (.inr hr) ?_⟩)))
      rw [dinB_mod ha.lo ha.hi]
      exact q
    · exact rd_ret (rd_andV (rd_call (rd_cons (rd_var rfl (rd_nil ⟨_, rfl, .inr ⟨ni, false, rfl, iteF k⟩⟩)))))
end
section
variable {P : Program} {w : World} {K : PySem.W.Frag} {mg : Str → Option Value} {base : Heap} {B Bc C : Addr}
theorem scD20 : FnScope ["self", "other"] ["self", "other"] (defScope (sDays 20)) := ⟨rfl, rfl, rfl, by decide +kernel, rfl, by decide +kernel, by decide +kernel⟩
theorem ok_eq {f : Addr} {fd : FuncData} (F : Fun K "__eq__" "Days.__eq__" (sDays 20) f fd) (T : Bi mg) (S : DyD P w K mg base B C) : FnOk P w K mg base CX0 1 f fd ["self", "other"] (spEq K C) := by
  refine F.ok scD20 (fun vs H Q E h => ?_) (fun cdv A outer s H vs Q E hr h => ?_)
  · obtain ⟨a, bs, v, r, rfl, _⟩ := h
    rfl
  · obtain ⟨a, bs, v, r, rfl, ha, e, q⟩ := h
    refine ⟨_, pss_one (ps_ret (pe_and (pe_callB call_isi (by rfl) T.isinstance (by decide +kernel) (pa_cons (pv 1) (pa_cons (pe_glob (v := .ref C) (by rfl) S.mgC rfl) pa_nil)))
      (pe_one (pe_cmpR (op_eqD hr.units) (pe_fld (pv 0) rfl) (pe_fld (pv 1) rfl) (nomark _))))), ?_⟩
    rcases e with ⟨b, cs, rfl, hb, rfl⟩ | ⟨ty, ht, kk, rfl⟩
    · refine rd_ret (rd_andV (rd_cb (rd_cons (rd_var rfl (rd_cons (rd_c (rd_nil ⟨_, _, _, _, true, rfl, .own C, S.ty hb, S.kc, _, rfl, iteT ?_⟩)))))))
      refine rd_op (rd_form S.cls rfl ha fun f1 r1 e1 e2 => rd_form S.cls rfl hb fun f2 r2 e3 e4 => ?_)
      refine ⟨formD bs, formD cs, .tup (.inl (.inl e1)) (.cons (.int _) (.cons (.tup (.inl (.inl e2)) (dp_ints _)) .nil)), .tup (.inl (.inl e3)) (.cons (.int _) (.cons (.tup (.inl (.inl e4)) (dp_ints _)) .nil)), shaped_form bs, shaped_form cs, ?_⟩
      rw [eqv_form]
      exact q
    · exact rd_ret (rd_andV (rd_cb (rd_cons (rd_var rfl (rd_cons (rd_c (rd_nil ⟨_, _, _, _, false, rfl, .own C, ht, kk, _, rfl, iteF q⟩)))))))
end
section
variable {P : Program} {w : World} {K : PySem.W.Frag} {mg : Str → Option Value} {base : Heap} {B Bc C : Addr}
abbrev nD22 : List Str := ["self", "period", "rests", "rest"]
theorem scD22 : FnScope nD22 ["self"] (defScope (sDays 22)) := ⟨rfl, rfl, rfl, by decide +kernel, rfl, by decide +kernel, by decide +kernel⟩
theorem ok_str {f : Addr} {fd : FuncData} (F : Fun K "__str__" "Days.__str__" (sDays 22) f fd) (T : Bi mg) (S : DyC K C) : FnOk P w K mg base CX0 1 f fd ["self"] (spStr C) := by
  refine F.ok scD22 (fun vs H Q E h => ?_) (fun cdv A outer s H vs Q E hr h => ?_)
  · obtain ⟨a, bs, rfl, _⟩ := h
    rfl
  · obtain ⟨a, bs, rfl, ha, k⟩ := h
    refine ⟨_, pss_cons (ps_asg (pe_fld (pv 0) rfl) (pg_tup rfl (pgs_cons (pg_name (i := 1) scD22.nd rfl (.inl rfl)) (pgs_cons (pg_name (i := 2) scD22.nd rfl (.inl rfl)) pgs_nil))))
      (pss_cons (ps_if (pt_cmpR op_eq (pe_callB call_len_seq (by rfl) T.len PySem.boot_len (pa_cons (pv 2) pa_nil)) pe_int (nomark _)) (pss_one (ps_ret pe_str)) pss_nil)
      (pss_cons (ps_if (pt_cmpR op_eq (pe_callB call_len_seq (by rfl) T.len PySem.boot_len (pa_cons (pv 2) pa_nil)) (pv 1) (nomark _)) (pss_one (ps_ret pe_str)) pss_nil)
      (pss_one (ps_ret (pe_join pe_str (pe_lst (pa_cons pe_str (pa_cons (pe_fs1 (pe_fmt (pv 1))) (pa_cons pe_str (StX.pa_star
        (pe_lc (own := [("rest", 3)]) (g := gName 3) (tt := tYes) (te := tFmt (tVar 3)) (by rfl) scD22.nd (pi_tup (pv 2)) (blkOk_by (own := [("rest", 3)]) (N := nD22) (sc := defScope (sDays 22)) (by decide +kernel))
            (fun _ _ _ _ _ => pg_name (i := 3) scD22.nd rfl (.inl rfl)) (fun _ _ _ _ _ => pts_nil) (fun _ _ _ _ _ => pe_fs1 (pe_fmt (pv 3)))) pa_nil)))))))))), ?_⟩
    obtain ⟨f1, f2, _, _, _⟩ := lp_facts ha.lo ha.hi
    have rl := rests_len bs (lpG bs)
    have hi := ha.hi
    have ll : (((restsB bs (lpG bs)).map V.int).length : Int) = ((restsB bs (lpG bs)).length : Int) := by rw [List.length_map]
    refine rd_sag (rd_form S rfl ha fun fo r e1 e2 => ⟨fo, _, rfl, .inl (.inl e1), rfl, _, _, rfl, _, _, rfl, rfl, ?_⟩)
    refine rd_sif0 (rd_test (rd_op (rd_cb (rd_cons (rd_var rfl (rd_nil ⟨r, _, rfl, .inr (.inl (.inl e2)), rd_c ⟨rfl, _, rfl, ?_⟩⟩))))))
    rw [dec_v, ll]
    refine ite2 (fun c => rd_ret (rd_c ?_)) (fun c1 => ?_)
    · have c := of_decide_eq_true c
      have e : restsB bs (lpG bs) = [] := List.length_eq_zero_iff.mp (by omega)
      have z := k H (Same.refl H)
      unfold daysTxt at z
      rw [if_pos e] at z
      exact z
    have n1 : ¬ restsB bs (lpG bs) = [] := fun e => c1 (by rw [e]; rfl)
    refine rd_sif0 (rd_test (rd_op (rd_cb (rd_cons (rd_var rfl (rd_nil ⟨r, _, rfl, .inr (.inl (.inl e2)), rd_var rfl ⟨rfl, _, rfl, ?_⟩⟩))))))
    rw [dec_v, ll]
    refine ite2 (fun c => rd_ret (rd_c ?_)) (fun c2 => ?_)
    · have c := of_decide_eq_true c
      have z := k H (Same.refl H)
      unfold daysTxt at z
      rw [if_neg n1, if_pos (by omega)] at z
      exact z
    have n2 : ¬ (restsB bs (lpG bs)).length = lpG bs := fun e => c2 (by rw [e]; exact decide_eq_true rfl)
    have bk : ∀ n ∈ restsB bs (lpG bs), n.natAbs < 10 ^ 13 := fun n hn => by
      have := (mem_restsB.mp hn).1
      exact Nat.lt_of_le_of_lt (show n.natAbs ≤ 7 by omega) (by decide)
    have bp : ((lpG bs : Nat) : Int).natAbs < 10 ^ 13 := Nat.lt_of_le_of_lt (show ((lpG bs : Nat) : Int).natAbs ≤ 7 by omega) (by decide)
    refine rd_ret (rd_c ⟨⟨_, rfl⟩, rd_lst (rd_cons (rd_c (rd_cons (rd_fmt (rd_var rfl (.inr ⟨_, rfl, log_lt bp, rd_cons (rd_c ?_)⟩))))))⟩)
    refine ⟨_, rfl, r, rfl, ⟨_, .inl (.inl e2)⟩, fun D1 hD1 => lc_mapT (K := K) (a := r) (fun x => match x with | .int n => .str (Str.ofString (toString n)) | _ => .non) hD1 e2 (by rw [List.length_map, sizeLine_eq]; omega) (fun _ => rfl) (fun x hx H' Q s' q => ?_) ?_⟩
    · obtain ⟨n, hn, rfl⟩ := List.mem_map.mp hx
      exact rd_fmt (rd_var rfl (.inr ⟨n, rfl, log_lt (bk n hn), q⟩))
    have em : (((restsB bs (lpG bs)).map V.int).map fun x => match x with | .int n => V.str (Str.ofString (toString n)) | _ => .non) = (((restsB bs (lpG bs)).map fun (n : Int) => Str.ofString (toString n)).map V.str) := by
      rw [List.map_map, List.map_map]
      rfl
    rw [em]
    have s1 := same_new (o := .lst (((restsB bs (lpG bs)).map fun (n : Int) => Str.ofString (toString n)).map V.str)) (Same.refl H) hD1
    refine ⟨D1, _, rfl, .inr (SqL.of upd_same), rd_nil ⟨?_, fun l2 hl2 => ?_⟩⟩
    · simp only [List.length_cons, List.length_append, List.length_map, List.length_nil, sizeLine_eq]
      omega
    · have s2 := same_new (o := .lst (V.str "by" :: V.str (toString ((lpG bs : Nat) : Int)) :: V.str "at" :: ((((restsB bs (lpG bs)).map fun (n : Int) => Str.ofString (toString n)).map V.str) ++ []))) s1 hl2
      refine ⟨" ", l2, ([Str.ofString "by", Str.ofString (toString (lpG bs : Int)), Str.ofString "at"] : List Str) ++ (restsB bs (lpG bs)).map fun (k : Int) => Str.ofString (toString k), rfl, rfl, .inl (SqL.of ?_), ?_, ?_⟩
      · rw [upd_same, List.append_nil, List.map_append]
        rfl
      · have b1 : ∀ x ∈ (([Str.ofString "by", Str.ofString (toString (lpG bs : Int)), Str.ofString "at"] : List Str) ++ (restsB bs (lpG bs)).map fun (k : Int) => Str.ofString (toString k)).map (·.length), x ≤ 14 := by
          intro x hx
          obtain ⟨y, hy, rfl⟩ := List.mem_map.mp hx
          rcases List.mem_append.mp hy with hy | hy
          · simp only [List.mem_cons, List.not_mem_nil, or_false] at hy
            rcases hy with rfl | rfl | rfl
            · decide
            · exact txt_le bp
            · decide
          · obtain ⟨n, hn, rfl⟩ := List.mem_map.mp hy
            exact txt_le (bk n hn)
        have b2 := sum_le _ _ b1
        have b3 : (([Str.ofString "by", Str.ofString (toString (lpG bs : Int)), Str.ofString "at"] : List Str) ++ (restsB bs (lpG bs)).map fun (k : Int) => Str.ofString (toString k)).length ≤ 10 := by
          simp only [List.length_append, List.length_cons, List.length_nil, List.length_map]
          omega
        have b4 : (Str.ofString " ").length = 1 := rfl
        rw [List.length_map] at b2
        rw [b4]
        omega
      · have z := k _ s2
        unfold daysTxt at z
        rw [if_neg n1, if_neg n2] at z
        exact z
end
end NB
namespace NB
open PySem L2 ClX
local macro_rules
  | `(tactic| and_intros) => `(tactic| repeat (first
    | with_reducible refine q_cons ?_ | with_reducible refine q_c ?_ | ((with_reducible apply q_var); exact rfl) | with_reducible refine q_nil ?_ | with_reducible refine q_call ?_ | with_reducible refine q_op ?_
    | with_reducible refine q_sa ?_ | with_reducible refine ra_lst ?_ | with_reducible refine ra_tup ?_ | with_reducible refine q_i0 ?_ | with_reducible refine q_cb ?_ | with_reducible refine q_test ?_ | with_reducible refine q_b ?_ | with_reducible refine q_bl ?_ | with_reducible refine q_iT ?_ | with_reducible refine q_iF ?_ | with_reducible refine q_nT ?_ | with_reducible refine q_nF ?_
    | with_reducible refine q_sif0 ?_ | with_reducible refine q_if0 ?_ | with_reducible refine q_sif ?_ | with_reducible refine q_if ?_ | with_reducible refine q_sdrop ?_ | with_reducible refine q_drop ?_ | with_reducible refine q_asg ?_ | with_reducible refine q_ret ?_ | with_reducible refine q_un ?_ | with_reducible refine q_u ?_ | with_reducible refine q_ifE ?_ | with_reducible refine q_or ?_ | with_reducible refine q_and ?_ | with_reducible refine q_not ?_ | with_reducible refine q_andV ?_ | with_reducible refine q_orV ?_ | with_reducible refine q_notV ?_ | with_reducible refine q_isN ?_ | with_reducible refine q_notN ?_ | with_reducible refine q_make ?_ | with_reducible refine q_meth ?_ | with_reducible refine q_sp ?_ | with_reducible refine q_par ?_ | with_reducible refine q_two ?_ | with_reducible refine q_in ?_ | with_reducible refine q_sl ?_ | with_reducible refine q_part ?_ | with_reducible refine q_nopart ?_ | with_reducible refine q_fmt ?_ | with_reducible refine q_dnew ?_ | with_reducible refine q_chain ?_ | with_reducible refine q_yes ?_ | with_reducible refine q_mkO ?_ | with_reducible refine q_int1' ?_ | with_reducible refine q_iR1 ?_ | with_reducible refine q_iR2 ?_ | with_reducible refine q_iRA ?_ | with_reducible refine q_iL ?_ | with_reducible refine q_iT2 ?_ | with_reducible refine q_rA ?_ | with_reducible refine q_iR3 ?_ | with_reducible refine q_sfor ?_ | with_reducible refine q_for ?_
    | ((with_reducible refine q_eq ?_ ?_); exact rfl) | ((with_reducible refine q_ne ?_ ?_); exact rfl) | ((with_reducible refine q_pow ?_ ?_); exact ⟨by decide, by decide, by decide⟩)))
section
variable {P : Program} {w : World} {K : PySem.W.Frag} {mg : Str → Option Value} {base : Heap} {B Bm Bc Bt C : Addr}
abbrev sLI : Stmt := inClass (top 40) 1
abbrev nLI : List Str := ["self", "start", "low", "period", "rests", "truths", "form", "n"]
theorem scLI : FnScope nLI ["self", "start", "low", "period", "rests"] (defScope sLI) := ⟨rfl, rfl, rfl, by decide +kernel, rfl, by decide +kernel, by decide +kernel⟩
theorem ok_LI {f : Addr} {fd : FuncData} {dvs : List V} (F : FunD K "__init__" "Lengths.__init__" (defArgs sLI) (defBody sLI) (defScope sLI) dvs [] f fd) {tN : Tok} (Tb : Bi mg) (mN : mg "BOUND_lengths" = some (.int 400 tN)) (S : LnC K C) (Bd : BadN P w K mg base "BadLengths" ["part"] B) (Bm_ : BadN P w K mg base "TooMany" ["what", "most"] Bm) (Db : DefOf P w K mg base "is_between" 2 ["value", "low", "high"] (spBetw K)) (Da : DefOf P w K mg base "are_between" 3 ["values", "low", "high"] (spAreL K)) (Df : DefOf P w K mg base "form_of" 2 ["truths", "start"] spFo) : FnOk P w K mg base (CX P w) 4 f fd ["self", "start", "low", "period", "rests"] (spLI K B Bm C) := by
  obtain ⟨fBt, fdB, FB, mB, kB, bB⟩ := Db.ex
  obtain ⟨fA, fdA, FA, mA, kA, bA⟩ := Da.ex
  obtain ⟨fF, fdF, FF, mF, kF, bF⟩ := Df.ex
  refine F.ok scLI (fun vs H Q E h => ?_) (fun cdv A outer s H vs Q E hr h => ?_)
  · obtain ⟨a, dx, v1, v2, v3, v4, r, rfl, _⟩ := h
    rfl
  · obtain ⟨a, dx, v1, v2, v3, v4, r, rfl, ha, h, ke, k⟩ := h
    have r2 := hr.mono (show 2 ≤ 3 by decide)
    have r3 := hr.mono (show 3 ≤ 3 by decide)
    refine ⟨_, pss_cons (ps_if (pt_not (pt_val (pe_call FB r2 rfl mB kB bB .nil pass0 (pa_cons (pv 1) (pa_cons pe_int (pa_cons (pe_glob (v := .int 400) (by rfl) mN ⟨_, rfl⟩) pa_nil)))))) (pss_one (ps_badN Bd r2 rfl rfl (takes_of rfl rfl rfl rfl) (pa_cons pe_str pa_nil))) pss_nil)
      (pss_cons (ps_if (pt_not (pt_val (pe_call FA r3 rfl mA kA bA .nil pass0 (pa_cons (pv 2) (pa_cons pe_int (pa_cons (pe_op op_sub (pv 1) pe_int) pa_nil)))))) (pss_one (ps_badN Bd r2 rfl rfl (takes_of rfl rfl rfl rfl) (pa_cons pe_str pa_nil))) pss_nil)
      (pss_cons (ps_if (pt_not (pt_val (pe_call FB r2 rfl mB kB bB .nil pass0 (pa_cons (pv 3) (pa_cons pe_int (pa_cons (pe_glob (v := .int 400) (by rfl) mN ⟨_, rfl⟩) pa_nil)))))) (pss_one (ps_badN Bd r2 rfl rfl (takes_of rfl rfl rfl rfl) (pa_cons pe_str pa_nil))) pss_nil)
      (pss_cons (ps_if (pt_not (pt_val (pe_call FA r3 rfl mA kA bA .nil pass0 (pa_cons (pv 4) (pa_cons pe_int (pa_cons (pe_op op_sub (pv 3) pe_int) pa_nil)))))) (pss_one (ps_badN Bd r2 rfl rfl (takes_of rfl rfl rfl rfl) (pa_cons pe_str pa_nil))) pss_nil)
      (pss_cons (ps_setLc (i := 5) (own := [("n", 7)]) (g := (gName 7)) (tt := tYes) (te := (tIf (tTest (tOp (rI0 fun i j => .bl (decide (i < j))) (tVar 7) (tVar 1))) (tOp (rIn K false) (tVar 7) (tVar 2)) (tOp (rIn K false) (tOp (rI (fun _ j => 0 < j) fun i j => .int (i % j)) (tVar 7) (tVar 3)) (tVar 4)))) (by rfl) scLI.nd rfl rfl (sw_true rfl rfl rfl (by decide +kernel)) (pi_range1 (by rfl) Tb.range (pa_cons (pe_op op_add (pv 1) (pv 3)) pa_nil)) (blkOk_by (own := [("n", 7)]) (N := nLI) (sc := defScope sLI) (by decide +kernel)) (fun _ _ _ _ _ => pg_name (i := 7) scLI.nd rfl (.inl rfl)) (fun _ _ _ _ _ => pts_nil) (fun _ _ _ _ _ => pe_ifExp (pt_cmpR op_lt (pv 7) (pv 1) (nomark _)) (pe_cmpR op_in_seq (pv 7) (pv 2) rfl) (pe_cmpR op_in_seq (pe_op op_mod (pv 7) (pv 3)) (pv 4) rfl)))
      (pss_cons (ps_set (i := 6) scLI.nd rfl (.inl rfl) (pe_call FF r2 rfl mF kF bF .nil pass0 (pa_cons (pv 5) (pa_cons (pv 1) pa_nil))))
      (pss_cons (ps_if (pt_cmpR op_gt (pe_op op_add (pe_ix ix_tup (pv 6) pe_int (fun _ _ => rfl)) (pe_ix ix_tup (pv 6) pe_int (fun _ _ => rfl))) (pe_glob (v := .int 400) (by rfl) mN ⟨_, rfl⟩) (nomark _)) (pss_one (ps_badN Bm_ r2 rfl rfl (takes_of rfl rfl rfl rfl) (pa_cons pe_str (pa_cons (pe_glob (v := .int 400) (by rfl) mN ⟨_, rfl⟩) pa_nil)))) pss_nil)
      (pss_one (ps_fld (pv 0) (pv 6) rfl)))))))), ?_⟩
    and_intros
    rcases h with ⟨hv, rfl⟩ | ⟨s0, rfl, l1, h⟩
    · refine hv.sp ?_
      and_intros
      exact mk_raw (ke _ rfl)
    refine (btw_of (by omega) (by omega)).sp ?_
    and_intros
    rcases h with ⟨hv, rfl⟩ | ⟨ns, n1, n2, h⟩
    · refine ⟨_, _, _, false, rfl, hv, fun H1 s1 => ?_⟩
      and_intros
      exact mk_raw ((ke _ rfl).keep s1)
    refine ⟨_, _, _, true, rfl, n1.are (fun n hn => by have := n2 n hn; omega), fun H1 s1 => ?_⟩
    and_intros
    rcases h with ⟨hv, rfl⟩ | ⟨p0, rfl, l2, l3, h⟩
    · refine (hv.keep s1).sp ?_
      and_intros
      exact mk_raw ((ke _ rfl).keep s1)
    refine (btw_of (by omega) (by omega)).sp ?_
    and_intros
    rcases h with ⟨hv, rfl⟩ | ⟨ms, m1, m2, rfl⟩
    · refine ⟨_, _, _, false, rfl, hv.keep s1, fun H2 s2 => ?_⟩
      and_intros
      exact mk_raw ((ke _ rfl).keep (s1.trans s2))
    refine ⟨_, _, _, true, rfl, (m1.keep s1).are (fun n hn => by have := m2 n hn; omega), fun H2 s2 => ?_⟩
    have s3 := s1.trans s2
    and_intros
    refine q_lc (q_iR1 ?_)
    and_intros
    refine ⟨_, rfl, by omega, by omega, fun D1 hD1 => ?_⟩
    rw [show ((s0 : Int) + p0).toNat = s0 + p0 by omega]
    refine lc_filR (fun _ => true) (fun d => .bl (telF s0 p0 ns ms d.toNat)) hD1 (by rw [sizeLine_eq]; omega) (fun _ => rfl) (fun d hd H' Q s' q => q) (fun d hd _ H' Q s' q => ?_) ?_
    · obtain ⟨j, rfl⟩ := int_nat (mem_rgN.mp hd).1
      rw [Int.toNat_natCast] at q
      and_intros
      refine ite2 (fun c => ?_) (fun c => ?_)
      · have c : j < s0 := by have := of_decide_eq_true c; omega
        and_intros
        refine (n1.keep (s3.trans s')).inI ?_
        rw [telF, if_pos c] at q
        exact q
      · have c : ¬ j < s0 := fun z => c (decide_eq_true (by omega))
        and_intros
        refine ⟨_, _, rfl, rfl, by show (0 : Int) < p0; omega, ?_⟩
        and_intros
        refine (m1.keep (s3.trans s')).inI ?_
        rw [telF, if_neg c] at q
        exact q
    rw [tru_map]
    have s4 := same_new (o := .lst (((List.range (s0 + p0)).map (telF s0 p0 ns ms)).map V.bl)) s3 hD1
    have e4 : (upd H2 D1 (.lst (((List.range (s0 + p0)).map (telF s0 p0 ns ms)).map V.bl))) D1 = some (.lst (((List.range (s0 + p0)).map (telF s0 p0 ns ms)).map V.bl)) := upd_same
    generalize upd H2 D1 (.lst (((List.range (s0 + p0)).map (telF s0 p0 ns ms)).map V.bl)) = H4 at s4 e4
    have ef : fB ((List.range (s0 + p0)).map (telF s0 p0 ns ms)) s0 = telF s0 p0 ns ms := funext fun n => fB_of l2 (telF_per s0 p0 ns ms) n
    and_intros
    refine ⟨D1, _, s0, rfl, e4, by rw [List.length_map, List.length_range]; omega, by rw [List.length_map, List.length_range]; omega, fun H5 t sv pv s5 L _ _ Fm => ?_⟩
    rw [ef] at L Fm
    have s6 := s4.trans s5
    change tSeq _ _ _ _ _
    and_intros
    refine q_g0 Fm ?_
    and_intros
    refine q_g2 Fm ?_
    and_intros
    refine ite2 (fun c => ?_) (fun c => ?_)
    · have c := of_decide_eq_true c
      and_intros
      exact mk_raw (((k _ rfl).1 sv pv L (by omega)).keep s6)
    have c : sv + pv ≤ 400 := by
      rcases Nat.lt_or_ge 400 (sv + pv) with z | z
      · exact absurd (decide_eq_true (show (400 : Int) < (sv : Int) + pv by omega)) c
      · exact z
    refine ⟨_, rfl, _, rfl, a, C, dx, _, rfl, s6 _ _ ha, S.cl, S.n1, by show 0 < 1000; decide, ?_⟩
    have nt : a ≠ t := fun z => by
      obtain ⟨lo, re, e1, _⟩ := Fm
      rw [← z, s6 _ _ ha] at e1
      cases e1
    refine (k _ rfl).2 _ (fun x o n e => by rw [upd_ne n]; exact s6 _ _ e) ⟨sv, pv, t, dx, L, c, ?_, upd_same⟩
    obtain ⟨lo, re, e1, e2, e3⟩ := Fm
    exact ⟨lo, re, by rw [upd_ne nt.symm]; exact e1, by rw [upd_ne (fun z => by rw [z, s6 _ _ ha] at e2; cases e2)]; exact e2, by rw [upd_ne (fun z => by rw [z, s6 _ _ ha] at e3; cases e3)]; exact e3⟩
end
section
variable {P : Program} {w : World} {K : PySem.W.Frag} {mg : Str → Option Value} {base : Heap} {B Bm Bc Bt C : Addr}
abbrev sLIn : Stmt := inClass (top 40) 18
abbrev nLIn : List Str := ["self", "n"]
theorem scLIn : FnScope nLIn ["self", "n"] (defScope sLIn) := ⟨rfl, rfl, rfl, by decide +kernel, rfl, by decide +kernel, by decide +kernel⟩
theorem ok_LIn {f : Addr} {fd : FuncData} (F : Fun K "__contains__" "Lengths.__contains__" sLIn f fd) (S : LnC K C) (Di : DefOf P w K mg base "is_integer" 1 ["value"] (spIsInt K)) (Dh : DefOf P w K mg base "has" 1 ["form", "n"] spHas) : FnOk P w K mg base CX0 2 f fd ["self", "n"] (spInL K C) := by
  obtain ⟨fI, fdI, FI, mI, kI, bI⟩ := Di.ex
  obtain ⟨fH, fdH, FH, mH, kH, bH⟩ := Dh.ex
  refine F.ok scLIn (fun vs H Q E h => ?_) (fun cdv A outer s H vs Q E hr h => ?_)
  · obtain ⟨a, f, v, rfl, _⟩ := h
    rfl
  · obtain ⟨a, f, v, rfl, ha, q⟩ := h
    have r1 := hr
    refine ⟨_, pss_one (ps_ret (pe_and (pe_call FI r1 rfl mI kI bI .nil pass0 (pa_cons (pv 1) pa_nil)) (pe_and (pe_cmpR op_ge (pv 1) pe_int (nomark _)) (pe_one (pe_call FH r1 rfl mH kH bH .nil pass0 (pa_cons (pe_fld (pv 0) rfl) (pa_cons (pv 1) pa_nil))))))), ?_⟩
    and_intros
    rcases q with ⟨d, rfl, q⟩ | ⟨ni, q⟩
    · refine ⟨_, rfl, .inl ⟨d, rfl, true, rfl, iteT ?_⟩⟩
      and_intros
      by_cases c : 0 ≤ d
      · rw [decide_eq_true (show d ≥ 0 from c)]
        rw [decide_eq_true c, Bool.true_and] at q
        and_intros
        obtain ⟨n, rfl⟩ := int_nat c
        refine rd_formL S rfl ha fun t s p L l Fm => ?_
        and_intros
        exact ⟨t, f, s, p, n, rfl, Fm, L, q⟩
      · rw [decide_eq_false (show ¬ d ≥ 0 from c)]
        rw [decide_eq_false c, Bool.false_and] at q
        and_intros
        exact q
    · exact ⟨_, rfl, .inr ⟨ni, false, rfl, iteF q⟩⟩
end
section
variable {P : Program} {w : World} {K : PySem.W.Frag} {mg : Str → Option Value} {base : Heap} {B Bm Bc Bt C : Addr}
abbrev sLEq : Stmt := inClass (top 40) 27
abbrev nLEq : List Str := ["self", "other"]
theorem scLEq : FnScope nLEq ["self", "other"] (defScope sLEq) := ⟨rfl, rfl, rfl, by decide +kernel, rfl, by decide +kernel, by decide +kernel⟩
theorem ok_LEq {f : Addr} {fd : FuncData} (F : Fun K "__eq__" "Lengths.__eq__" sLEq f fd) (Tb : Bi mg) (S : LnD P w K mg base B Bm C) : FnOk P w K mg base CX0 1 f fd ["self", "other"] (spEqL K C) := by
  refine F.ok scLEq (fun vs H Q E h => ?_) (fun cdv A outer s H vs Q E hr h => ?_)
  · obtain ⟨a, f, v, r, rfl, _⟩ := h
    rfl
  · obtain ⟨a, f, v, r, rfl, ha, e, q⟩ := h
    refine ⟨_, pss_one (ps_ret (pe_and (pe_callB call_isi (by rfl) Tb.isinstance (by decide +kernel) (pa_cons (pv 1) (pa_cons (pe_glob (v := .ref C) (by rfl) S.mgC rfl) pa_nil))) (pe_one (pe_cmpR (op_eqD hr.units) (pe_fld (pv 0) rfl) (pe_fld (pv 1) rfl) (nomark _))))), ?_⟩
    and_intros
    rcases e with ⟨b, g, rfl, hb, rfl⟩ | ⟨ty, ht, kk, rfl⟩
    · refine ⟨_, _, _, _, true, rfl, .own C, S.ty hb, S.kc, _, rfl, iteT ?_⟩
      and_intros
      refine rd_formL S.cls rfl ha fun t s p L l Fm => ?_
      and_intros
      refine rd_formL S.cls rfl hb fun t2 s2 p2 L2 l2 Fm2 => ?_
      refine q_eqD Fm.dp Fm2.dp (shaped_formL _ _ _) (shaped_formL _ _ _) ?_
      have e : PyData.eqv (formLD f s p) (formLD g s2 p2) = eqF f g := eqv_sets L L2
      rw [e]
      exact q
    · exact ⟨_, _, _, _, false, rfl, .own C, ht, kk, _, rfl, iteF q⟩
end
section
variable {P : Program} {w : World} {K : PySem.W.Frag} {mg : Str → Option Value} {base : Heap} {B Bm Bc Bt C : Addr}
abbrev sLStr : Stmt := inClass (top 40) 29
abbrev nLStr : List Str := ["self", "start", "low", "period", "rests", "words", "n", "rest"]
theorem scLStr : FnScope nLStr ["self"] (defScope sLStr) := ⟨rfl, rfl, rfl, by decide +kernel, rfl, by decide +kernel, by decide +kernel⟩
theorem ok_LStr {f : Addr} {fd : FuncData} (F : Fun K "__str__" "Lengths.__str__" sLStr f fd) (Tb : Bi mg) (S : LnC K C) : FnOk P w K mg base CX0 1 f fd ["self"] (spStrL C) := by
  refine F.ok scLStr (fun vs H Q E h => ?_) (fun cdv A outer s H vs Q E hr h => ?_)
  · obtain ⟨a, f, rfl, _⟩ := h
    rfl
  · obtain ⟨a, f, rfl, ha, k⟩ := h
    refine ⟨_, pss_cons (ps_asg (pe_fld (pv 0) rfl) (pg_tup rfl (pgs_cons (pg_name (i := 1) scLStr.nd rfl (.inl rfl)) (pgs_cons (pg_name (i := 2) scLStr.nd rfl (.inl rfl)) (pgs_cons (pg_name (i := 3) scLStr.nd rfl (.inl rfl)) (pgs_cons (pg_name (i := 4) scLStr.nd rfl (.inl rfl)) pgs_nil))))))
      (pss_cons (ps_setLc (i := 5) (own := [("n", 6)]) (g := (gName 6)) (tt := tYes) (te := (tFmt (tVar 6))) (by rfl) scLStr.nd rfl rfl (sw_true rfl rfl rfl (by decide +kernel)) (pi_tup (pv 2)) (blkOk_by (own := [("n", 6)]) (N := nLStr) (sc := defScope sLStr) (by decide +kernel)) (fun _ _ _ _ _ => pg_name (i := 6) scLStr.nd rfl (.inl rfl)) (fun _ _ _ _ _ => pts_nil) (fun _ _ _ _ _ => pe_fs1 (pe_fmt (pv 6))))
      (pss_cons (ps_if (pt_cmpR (op_neD hr.units) (pv 4) (pe_tup pa_nil) (nomark _)) (pss_one (ps_set (i := 5) scLStr.nd rfl (.inl rfl) (pe_lst (StX.pa_star (pv 5) (pa_cons pe_str (pa_cons (pe_fs1 (pe_fmt (pv 1))) (pa_cons pe_str (pa_cons (pe_fs1 (pe_fmt (pv 3))) (pa_cons pe_str (StX.pa_star (pe_lc (own := [("rest", 7)]) (g := (gName 7)) (tt := tYes) (te := (tFmt (tVar 7))) (by rfl) scLStr.nd (pi_tup (pv 4)) (blkOk_by (own := [("rest", 7)]) (N := nLStr) (sc := defScope sLStr) (by decide +kernel)) (fun _ _ _ _ _ => pg_name (i := 7) scLStr.nd rfl (.inl rfl)) (fun _ _ _ _ _ => pts_nil) (fun _ _ _ _ _ => pe_fs1 (pe_fmt (pv 7)))) pa_nil)))))))))) pss_nil)
      (pss_cons (ps_if (pt_cmpR (op_eqD hr.units) (pv 5) (pe_lst pa_nil) (nomark _)) (pss_one (ps_ret pe_str)) pss_nil)
      (pss_one (ps_ret (pe_join pe_str (pv 5))))))), ?_⟩
    refine q_sag ?_
    refine rd_formL S rfl ha fun t s p L l Fm => ?_
    refine q_form4 Fm rfl fun lo re e2 e3 => ?_
    have b1 := lowI_len f s
    have b2 := restI_len f s p
    have bk1 : ∀ n ∈ lowI f s, n.natAbs < 10 ^ 13 := fun n hn => by
      have := (mem_lowI.mp hn).1
      exact Nat.lt_of_le_of_lt (show n.natAbs ≤ 400 by omega) (by decide)
    have bk2 : ∀ n ∈ restI f s p, n.natAbs < 10 ^ 13 := fun n hn => by
      have := (mem_restI.mp hn).1
      exact Nat.lt_of_le_of_lt (show n.natAbs ≤ 400 by omega) (by decide)
    have bs : ((s : Nat) : Int).natAbs < 10 ^ 13 := Nat.lt_of_le_of_lt (show ((s : Nat) : Int).natAbs ≤ 400 by omega) (by decide)
    have bp : ((p : Nat) : Int).natAbs < 10 ^ 13 := Nat.lt_of_le_of_lt (show ((p : Nat) : Int).natAbs ≤ 400 by omega) (by decide)
    have em : ∀ ns : List Int, ((ns.map V.int).map fun x => match x with | .int n => V.str (Str.ofString (toString n)) | _ => .non) = ((ns.map fun (n : Int) => Str.ofString (toString n)).map V.str) := fun ns => by
      rw [List.map_map, List.map_map]
      rfl
    try dsimp only
    and_intros
    refine q_lc (q_iT2 ?_)
    and_intros
    refine ⟨lo, rfl, ⟨_, SqT.of e2⟩, fun D1 hD1 => lc_mapT (K := K) (a := lo) (fun x => match x with | .int n => .str (Str.ofString (toString n)) | _ => .non) hD1 e2 (by rw [List.length_map, sizeLine_eq]; omega) (fun _ => rfl) (fun x hx H' Q s' q => ?_) ?_⟩
    · obtain ⟨n, hn, rfl⟩ := List.mem_map.mp hx
      exact rd_fmt (rd_var rfl (.inr ⟨n, rfl, log_lt (bk1 n hn), q⟩))
    rw [em]
    have W : Kw H H [(re, .tup ((restI f s p).map V.int))] := Kw.fst.know e3
    have W := W.new (o := .lst (((lowI f s).map fun (n : Int) => Str.ofString (toString n)).map V.str)) hD1
    generalize upd H D1 (.lst (((lowI f s).map fun (n : Int) => Str.ofString (toString n)).map V.str)) = H1 at W
    and_intros
    refine W.al fun tt H2 W => ?_
    refine q_neD (d := .tuple ((restI f s p).map PyData.int)) (e := .tuple (([] : List Int).map PyData.int)) (.tup (.inl (.inl W.at)) (dp_ints _)) (.tup (.inl (.inl W.at)) (dp_ints [])) (shaped_intT _) (shaped_intT []) ?_
    rw [eqv_intT]
    and_intros
    have ik : ∀ (ns : List Int), (∀ n ∈ ns, n.natAbs < 10 ^ 13) → ∀ x ∈ (ns.map fun (n : Int) => Str.ofString (toString n)).map (·.length), x ≤ 14 := fun ns hb x hx => by
      obtain ⟨y, hy, rfl⟩ := List.mem_map.mp hx
      obtain ⟨n, hn, rfl⟩ := List.mem_map.mp hy
      exact txt_le (hb n hn)
    refine ite2 (fun c => ?_) (fun c => ?_)
    · have c : ¬ restI f s p = [] := fun y => by
        rw [y] at c
        cases c
      and_intros
      refine q_star ?_
      and_intros
      refine ⟨D1, _, rfl, .inr (SqL.of W.at), ?_⟩
      and_intros
      refine .inr ⟨_, rfl, log_lt bs, ?_⟩
      and_intros
      refine .inr ⟨_, rfl, log_lt bp, ?_⟩
      and_intros
      refine q_star ?_
      refine q_lc (q_iT2 ?_)
      and_intros
      refine ⟨re, rfl, ⟨_, SqT.of W.at⟩, fun D2 hD2 => lc_mapT (K := K) (a := re) (fun x => match x with | .int n => .str (Str.ofString (toString n)) | _ => .non) hD2 W.at (by rw [List.length_map, sizeLine_eq]; omega) (fun _ => rfl) (fun x hx H' Q s' q => ?_) ?_⟩
      · obtain ⟨n, hn, rfl⟩ := List.mem_map.mp hx
        exact rd_fmt (rd_var rfl (.inr ⟨n, rfl, log_lt (bk2 n hn), q⟩))
      rw [em]
      have W := W.new (o := .lst (((restI f s p).map fun (n : Int) => Str.ofString (toString n)).map V.str)) hD2
      generalize upd H2 D2 (.lst (((restI f s p).map fun (n : Int) => Str.ofString (toString n)).map V.str)) = H3 at W
      refine ⟨D2, _, rfl, .inr (SqL.of W.at), ?_⟩
      and_intros
      have ew : ((lowI f s).map fun (n : Int) => Str.ofString (toString n)).map V.str ++ (V.str "from" :: V.str (toString ((s : Nat) : Int)) :: V.str "by" :: V.str (toString ((p : Nat) : Int)) :: V.str "at" :: ((((restI f s p).map fun (n : Int) => Str.ofString (toString n)).map V.str) ++ [])) = (lenWords f s p).map V.str := by
        unfold lenWords
        rw [if_neg c, List.append_nil, List.map_append, List.map_append]
        rfl
      have mem : ∀ w ∈ lenWords f s p, (∃ n ∈ lowI f s, w = Str.ofString (toString n)) ∨ w ∈ ([Str.ofString "from", Str.ofString (toString (s : Int)), Str.ofString "by", Str.ofString (toString (p : Int)), Str.ofString "at"] : List Str) ∨ ∃ n ∈ restI f s p, w = Str.ofString (toString n) := fun w hw => by
        unfold lenWords at hw
        rw [if_neg c] at hw
        rcases List.mem_append.mp hw with hw | hw
        · obtain ⟨n, hn, rfl⟩ := List.mem_map.mp hw
          exact .inl ⟨n, hn, rfl⟩
        · rcases List.mem_append.mp hw with hw | hw
          · exact .inr (.inl hw)
          · obtain ⟨n, hn, rfl⟩ := List.mem_map.mp hw
            exact .inr (.inr ⟨n, hn, rfl⟩)
      have ok1 : ∀ w ∈ lenWords f s p, PyData.strOk w = true := fun w hw => by
        rcases mem w hw with ⟨n, _, rfl⟩ | hw | ⟨n, _, rfl⟩
        · exact strOk_of _
        · simp only [List.mem_cons, List.not_mem_nil, or_false] at hw
          rcases hw with rfl | rfl | rfl | rfl | rfl <;> exact strOk_of _
        · exact strOk_of _
      have k1 : ∀ x ∈ (lenWords f s p).map (·.length), x ≤ 14 := fun x hx => by
        obtain ⟨w, hw, rfl⟩ := List.mem_map.mp hx
        rcases mem w hw with ⟨n, hn, rfl⟩ | hw | ⟨n, hn, rfl⟩
        · exact txt_le (bk1 n hn)
        · simp only [List.mem_cons, List.not_mem_nil, or_false] at hw
          rcases hw with rfl | rfl | rfl | rfl | rfl
          · decide
          · exact txt_le bs
          · decide
          · exact txt_le bp
          · decide
        · exact txt_le (bk2 n hn)
      have l1 : (lenWords f s p).length ≤ 900 := by
        unfold lenWords
        rw [if_neg c]
        simp only [List.length_append, List.length_cons, List.length_nil, List.length_map]
        omega
      rw [ew]
      refine W.al (fun l2 H4 W => ?_) (by rw [List.length_map, sizeLine_eq]; omega)
      try dsimp only
      and_intros
      refine W.al fun t2 H4 W => ?_
      refine q_eqD (d := .list ((lenWords f s p).map .str)) (e := .list (([] : List Str).map .str)) (.lst (SqL.of W.at) (dp_strs _)) (.lst (SqL.of W.at) (dp_strs [])) (shaped_strs ok1) (by decide +kernel) ?_
      rw [eqv_strL]
      and_intros
      refine ite2 (fun c2 => ?_) (fun c2 => ?_)
      · have c2 := of_decide_eq_true c2
        and_intros
        have z := k s p _ L l W.sm
        unfold lenTxt at z
        rw [if_pos c2] at z
        exact z
      · have c2 : ¬ (lenWords f s p) = [] := fun y => c2 (decide_eq_true y)
        try dsimp only
        and_intros
        refine rd_c ⟨⟨_, rfl⟩, ?_⟩
        and_intros
        refine ⟨" ", l2, lenWords f s p, rfl, rfl, .inl (SqL.of W.at), ?_, ?_⟩
        · have b1 := sum_le _ _ k1
          have b3 := l1
          have b4 : (Str.ofString " ").length = 1 := rfl
          rw [List.length_map] at b1
          rw [b4]
          omega
        · have z := k s p _ L l W.sm
          unfold lenTxt at z
          rw [if_neg c2] at z
          exact z
    · have c : restI f s p = [] := by
        cases e : restI f s p with
        | nil => rfl
        | cons x xs => rw [e] at c; exact absurd rfl c
      have ew0 : lenWords f s p = (lowI f s).map fun (n : Int) => Str.ofString (toString n) := by
        unfold lenWords
        rw [if_pos c, List.append_nil]
      have k1 := ik _ bk1
      and_intros
      refine W.al fun t2 H4 W => ?_
      refine q_eqD (d := .list (((lowI f s).map fun (n : Int) => Str.ofString (toString n)).map .str)) (e := .list (([] : List Str).map .str)) (.lst (SqL.of W.at) (dp_strs _)) (.lst (SqL.of W.at) (dp_strs [])) (shaped_strs (fun w hw => by obtain ⟨n, _, rfl⟩ := List.mem_map.mp hw; exact strOk_of _)) (by decide +kernel) ?_
      rw [eqv_strL]
      and_intros
      refine ite2 (fun c2 => ?_) (fun c2 => ?_)
      · have c2 := of_decide_eq_true c2
        and_intros
        have z := k s p _ L l W.sm
        unfold lenTxt at z
        rw [if_pos (ew0.trans c2)] at z
        exact z
      · have c2 : ¬ ((lowI f s).map fun (n : Int) => Str.ofString (toString n)) = [] := fun y => c2 (decide_eq_true y)
        try dsimp only
        and_intros
        refine rd_c ⟨⟨_, rfl⟩, ?_⟩
        and_intros
        refine ⟨" ", D1, (lowI f s).map fun (n : Int) => Str.ofString (toString n), rfl, rfl, .inl (SqL.of W.at), ?_, ?_⟩
        · have b1 := sum_le _ _ k1
          have b3 := (show ((lowI f s).map fun (n : Int) => Str.ofString (toString n)).length ≤ 400 by rw [List.length_map]; omega)
          have b4 : (Str.ofString " ").length = 1 := rfl
          rw [List.length_map] at b1
          rw [b4]
          omega
        · have z := k s p _ L l W.sm
          unfold lenTxt at z
          rw [ew0, if_neg c2] at z
          exact z
end
end NB
/-! NWg: what a def gave is known, also while a list is being written; comprehensions whose objects are known one by one. -/
namespace NB
open PySem L2 ClX
section
variable {T : List (Addr × Str)} {p c : Addr} {ns : List Int} {H0 H H' : Hp} {b b' : Int} {ps ps' : List SP} {ms : List (Addr × List V)} {l l0 l' : List (Addr × HO)}
theorem Wd.gotM (W : Wd T p c ns H0 H b ps ms l) (U : Wd T p c ns H H' b' ps' [] l') (d : ∀ q ∈ l', ∀ m ∈ ms, q.1 ≠ m.1) : Wd T p c ns H0 H' b' (ps' ++ ps) ms (l' ++ l) := by
  have W1 := W.back U
  refine ⟨W1.bt, W1.pen, W1.tb, fun s hs => ?_, fun q hq => ?_, fun m hm => ?_, W1.dj⟩
  · rcases List.mem_append.mp hs with h | h
    · exact U.im s h
    · exact W1.im s h
  · rcases List.mem_append.mp hq with h | h
    · exact U.kn q h
    · exact W1.kn q h
  · obtain ⟨h1, h2, h3, h4, h5⟩ := W1.mu m hm
    refine ⟨h1, h2, h3, h4, fun q hq => ?_⟩
    rcases List.mem_append.mp hq with h | h
    · exact d q h m hm
    · exact h5 q h
/-- what was made since is none of the lists that are being written -/
theorem Wd.apart {L : Addr} (W : Wd T p c ns H0 H b ps ms l) (h : ∀ o, H L = some o → ¬ nTb o) : ∀ m ∈ ms, L ≠ m.1 := fun m hm z => by
  obtain ⟨h1, h2, h3, h4, h5⟩ := W.mu m hm
  rw [z] at h
  exact h _ h4 (fun _ z => nomatch z)
theorem Wd.tupApart {t : Addr} {xs : List V} (W : Wd T p c ns H0 H b ps ms l) (h : H t = some (.tup xs)) : ∀ m ∈ ms, t ≠ m.1 := fun m hm z => by
  obtain ⟨h1, h2, h3, h4, h5⟩ := W.mu m hm
  rw [z, h4] at h
  cases h
theorem Wd.newM1 {L : Addr} {xs : List V} (W : Wd T p c ns H0 H b ps ((L, xs) :: ms) l) : ∀ o, H0 L = some o → ¬ nTb o := (W.mu _ (List.mem_cons_self ..)).2.2.1
end
section
variable {T : List (Addr × Str)} {p c : Addr} {ns : List Int} {H0 H : Hp} {b : Int} {ps : List SP} {ms : List (Addr × List V)} {l : List (Addr × HO)} {Qd : Addr → Hp → Prop} {σ : SV} {vs : List Nat} {j : Nat} {tt : TT} {te : TE}
/-- [e for x in range(..)], each e known with what it is made of -/
theorem Wd.lcRG {lo : Int} {n : Nat} (W : Wd T p c ns H0 H b ps ms l) (k : Int) (Φ : Nat → List V → List (Addr × HO) → Prop) (h0 : Φ 0 [] []) (hn : n ≤ 1000) (hw : ∀ x, wipe ((wipe σ vs).set j (some x)) vs = wipe σ vs)
    (step : ∀ (i : Nat), i < n → ∀ D acc l1 H', Wd T p c ns H0 H' (b + (i : Int) * k) ps ((D, acc) :: ms) (l1 ++ l) → Φ i acc l1 → acc.length ≤ i → ∀ (Qe : VK) (Qn : Hp → Prop), (∀ y H4 l2, Wd T p c ns H0 H4 (b + ((i : Int) + 1) * k) ps ((D, acc) :: ms) (l2 ++ l) → Φ (i + 1) (acc ++ [y]) l2 → Qe y H4) →
      tt ((wipe σ vs).set j (some (.int (lo + (i : Int))))) H' fun bb H3 => if bb = true then te ((wipe σ vs).set j (some (.int (lo + (i : Int))))) H3 Qe else Qn H3)
    (done : ∀ D acc l1 H', Wd T p c ns H0 H' (b + ((n : Nat) : Int) * k) ps ((D, acc) :: ms) (l1 ++ l) → Φ n acc l1 → Qd D H') : ∀ D, H D = none → ∃ W : Nat → Nat → Hp → Prop, (∃ m, W 0 m (upd H D (.lst []))) ∧ ∀ i m H, W i m H →
      ((Itr lo n).stop i H ∧ Qd D H) ∨ ((Itr lo n).go i H ∧ ∃ Nx : Hp → Prop, (∀ H', Nx H' → ∃ m', m' < m ∧ W (i + 1) m' H') ∧ ∀ x H', (Itr lo n).yld i H x H' → gName j x (wipe σ vs) H' fun σ2 H2 => wipe σ2 vs = wipe σ vs ∧ tt σ2 H2 fun b H3 =>
        if b = true then te σ2 H3 fun y H4 => ∃ acc, H4 D = some (.lst acc) ∧ acc.length < sizeLine ∧ Nx (upd H4 D (.lst (acc ++ [y]))) else Nx H3) := by
  intro D hD
  refine lc_range (lo := lo) (n := n) (fun i H' => ∃ acc l1, Wd T p c ns H0 H' (b + (i : Int) * k) ps ((D, acc) :: ms) (l1 ++ l) ∧ Φ i acc l1 ∧ acc.length ≤ i) ⟨[], [], by rw [show b + ((0 : Nat) : Int) * k = b by simp]; exact W.newM hD, h0, Nat.le_refl _⟩ ?_ ?_
  · rintro i H' hi ⟨acc, l1, W1, f1, la⟩
    refine ⟨hw _, step i hi D acc l1 H' W1 f1 la _ _ (fun y H4 l2 W4 f4 => ⟨acc, W4.mat, by rw [sizeLine_eq]; omega, acc ++ [y], l2, by
      have z : b + ((i + 1 : Nat) : Int) * k = b + ((i : Int) + 1) * k := by rw [Int.natCast_add]; rfl
      rw [z]
      exact W4.put, f4, by rw [List.length_append]; show acc.length + 1 ≤ i + 1; omega⟩)⟩
  · rintro H' ⟨acc, l1, W1, f1, la⟩
    exact done D acc l1 H' W1 f1
end
end NB
/-! NLt: how many members are below a number. -/
namespace NB
open PySem L2 ClX
def cnF (f : Nat → Bool) (n : Nat) : Nat := (List.range n).countP f
theorem cnF_succ (f : Nat → Bool) (n : Nat) : cnF f (n + 1) = cnF f n + (f n).toNat := by
  unfold cnF
  rw [List.range_succ, List.countP_append, List.countP_singleton]
  cases f n <;> rfl
theorem cnF_zero (f : Nat → Bool) : cnF f 0 = 0 := rfl
theorem cnF_le (f : Nat → Bool) {m n : Nat} (h : m ≤ n) : cnF f m ≤ cnF f n := by
  induction n with
  | zero => rw [Nat.le_zero.mp h]; exact Nat.le_refl _
  | succ n ih =>
    rcases Nat.eq_or_lt_of_le h with e | e
    · rw [e]; exact Nat.le_refl _
    · rw [cnF_succ]
      exact Nat.le_trans (ih (by omega)) (Nat.le_add_right _ _)
theorem cnF_or (f g : Nat → Bool) (n : Nat) : cnF (fun k => f k || g k) n + cnF (fun k => f k && g k) n = cnF f n + cnF g n := by
  induction n with
  | zero => rfl
  | succ n ih =>
    rw [cnF_succ, cnF_succ, cnF_succ, cnF_succ]
    cases f n <;> cases g n <;> simp <;> omega
theorem cnF_sub (f g : Nat → Bool) (n : Nat) : cnF (fun k => f k && !g k) n + cnF (fun k => f k && g k) n = cnF f n := by
  induction n with
  | zero => rfl
  | succ n ih =>
    rw [cnF_succ, cnF_succ, cnF_succ]
    cases f n <;> cases g n <;> simp <;> omega
theorem cnF_not (f : Nat → Bool) (n : Nat) : cnF f n + cnF (fun k => !f k) n = n := by
  induction n with
  | zero => rfl
  | succ n ih =>
    rw [cnF_succ, cnF_succ]
    cases f n <;> simp <;> omega
theorem cnF_same {f : Nat → Bool} {m n : Nat} (h : m ≤ n) (e : ∀ k, m ≤ k → k < n → f k = false) : cnF f m = cnF f n := by
  induction n with
  | zero => rw [Nat.le_zero.mp h]
  | succ n ih =>
    rcases Nat.eq_or_lt_of_le h with q | q
    · rw [q]
    · rw [cnF_succ, ih (by omega) (fun k a b => e k a (by omega)), e n (by omega) (by omega)]
      rfl
theorem div_step {n r p : Int} (p1 : 0 < p) (r0 : 0 ≤ r) (r1 : r < p) : (n + 1 - 1 - r) / p = (n - 1 - r) / p + (if n % p = r then 1 else 0) := by
  have e := Int.mul_ediv_add_emod n p
  have m0 := Int.emod_nonneg n (show p ≠ 0 by omega)
  have m1 := Int.emod_lt_of_pos n p1
  have neg : ∀ x : Int, -p ≤ x → x < 0 → x / p = -1 := fun x h1 h2 => by
    have a := Int.add_mul_ediv_right x 1 (show p ≠ 0 by omega)
    rw [Int.one_mul, Int.ediv_eq_zero_of_lt (by omega) (by omega)] at a
    omega
  have k : ∀ y : Int, (p * (n / p) + y) / p = n / p + y / p := fun y => by
    rw [Int.add_comm, Int.add_mul_ediv_left _ _ (show p ≠ 0 by omega), Int.add_comm]
  generalize n % p = m at e m0 m1
  generalize n / p = q at e k
  rw [show n + 1 - 1 - r = p * q + (m - r) by omega, show n - 1 - r = p * q + (m - r - 1) by omega, k, k]
  by_cases c : m = r
  · rw [if_pos c, Int.ediv_eq_zero_of_lt (by omega) (by omega), neg (m - r - 1) (by omega) (by omega)]
    omega
  · rw [if_neg c]
    by_cases d : r < m
    · rw [Int.ediv_eq_zero_of_lt (by omega) (by omega), Int.ediv_eq_zero_of_lt (by omega) (by omega)]
      omega
    · rw [neg (m - r) (by omega) (by omega), neg (m - r - 1) (by omega) (by omega)]
      omega
theorem fil1 (q : Int → Bool) (x : Int) : [x].filter q = if q x then [x] else [] := by
  cases h : q x <;> simp [h]
/-- the members below n among those ahead of the start -/
theorem low_cnt (f : Nat → Bool) (s n : Nat) : ((lowI f s).filter fun k => decide (k < (n : Int))).length = cnF f (min s n) := by
  induction s with
  | zero =>
    rw [Nat.zero_min]
    rfl
  | succ s ih =>
    have e : lowI f (s + 1) = lowI f s ++ (if f s then [(s : Int)] else []) := by
      unfold lowI
      rw [rgN_succ, List.filter_append, Int.zero_add]
      congr 1
      rw [fil1, Int.toNat_natCast]
    rw [e, List.filter_append, List.length_append, ih]
    by_cases c : s < n
    · rw [Nat.min_eq_left (by omega), Nat.min_eq_left (by omega), cnF_succ]
      congr 1
      cases f s with
      | false => rfl
      | true =>
        rw [if_pos rfl, fil1, decide_eq_true (show (s : Int) < n by omega)]
        rfl
    · rw [Nat.min_eq_right (by omega), Nat.min_eq_right (by omega)]
      cases f s with
      | false => rfl
      | true =>
        rw [if_pos rfl, fil1, decide_eq_false (show ¬ (s : Int) < n by omega)]
        rfl
theorem sum_at {xs : List Int} (h : xs.Pairwise (· < ·)) (m : Int) : (xs.map fun r => if m = r then (1 : Int) else 0).sum = if m ∈ xs then 1 else 0 := by
  induction xs with
  | nil => rfl
  | cons x xs ih =>
    rw [List.pairwise_cons] at h
    rw [List.map_cons, List.sum_cons, ih h.2]
    by_cases c : m = x
    · rw [if_pos c, if_neg (fun z => by have := h.1 m z; omega), if_pos (by rw [c]; exact List.mem_cons_self)]
      rfl
    · rw [if_neg c, Int.zero_add]
      by_cases d : m ∈ xs
      · rw [if_pos d, if_pos (List.mem_cons_of_mem _ d)]
      · rw [if_neg d, if_neg (fun z => (List.mem_cons.mp z).elim c d)]
theorem sum_add (xs : List Int) (a b : Int → Int) : (xs.map fun r => a r + b r).sum = (xs.map a).sum + (xs.map b).sum := by
  induction xs with
  | nil => rfl
  | cons x xs ih =>
    rw [List.map_cons, List.map_cons, List.map_cons, List.sum_cons, List.sum_cons, List.sum_cons, ih]
    omega
theorem sum_zero (xs : List Int) : (xs.map fun _ => (0 : Int)).sum = 0 := by
  induction xs with
  | nil => rfl
  | cons x xs ih => rw [List.map_cons, List.sum_cons, ih]; rfl
/-- the members from the start on below n -/
theorem rest_cnt {f : Nat → Bool} {s p : Nat} (L : LF f s p) (i : Nat) : ((restI f s p).map fun r => (((s + i : Nat) : Int) - 1 - r) / (p : Int) - ((s : Int) - 1 - r) / (p : Int)).sum + (cnF f s : Int) = (cnF f (s + i) : Int) := by
  have p1 := L.pos
  induction i with
  | zero =>
    rw [Nat.add_zero, show (fun r : Int => ((s : Int) - 1 - r) / (p : Int) - ((s : Int) - 1 - r) / (p : Int)) = fun _ => 0 from funext fun r => Int.sub_self _, sum_zero, Int.zero_add]
  | succ i ih =>
    have e : (restI f s p).map (fun r => (((s + (i + 1) : Nat) : Int) - 1 - r) / (p : Int) - ((s : Int) - 1 - r) / (p : Int)) = (restI f s p).map (fun r => ((((s + i : Nat) : Int) - 1 - r) / (p : Int) - ((s : Int) - 1 - r) / (p : Int)) + (if ((s + i : Nat) : Int) % (p : Int) = r then 1 else 0)) := by
      refine List.map_congr_left fun r hr => ?_
      have := (mem_restI.mp hr).1
      have z := div_step (n := ((s + i : Nat) : Int)) (r := r) (p := p) (by omega) this.1 this.2
      rw [show ((s + (i + 1) : Nat) : Int) = ((s + i : Nat) : Int) + 1 by omega, z]
      omega
    rw [e, sum_add, sum_at (restI_sorted _ _ _), show s + (i + 1) = s + i + 1 by omega, cnF_succ, Int.natCast_add (cnF f (s + i)), ← ih]
    have m : (((s + i : Nat) : Int) % (p : Int)) ∈ restI f s p ↔ f (s + i) = true := by
      rw [mem_restI]
      have em : (((s + i : Nat) : Int) % (p : Int)) = (((s + i) % p : Nat) : Int) := (Int.natCast_emod _ _).symm
      rw [em, Int.toNat_natCast]
      have lt := Nat.mod_lt (s + i) p1
      have key : f ((s + i) % p + p * s) = f (s + i) := by
        have dm := Nat.div_add_mod (s + i) p
        have l := Nat.le_mul_of_pos_left s p1
        rcases Nat.le_total s ((s + i) / p) with c | c
        · obtain ⟨k, hk⟩ := Nat.exists_eq_add_of_le c
          have ee : s + i = (s + i) % p + p * s + p * k := by
            rw [hk, Nat.mul_add] at dm
            omega
          conv => rhs; rw [ee]
          exact (L.per.mul _ _ (by omega)).symm
        · obtain ⟨k, hk⟩ := Nat.exists_eq_add_of_le c
          have ee : (s + i) % p + p * s = s + i + p * k := by
            have : p * s = p * ((s + i) / p) + p * k := by rw [← Nat.mul_add, ← hk]
            omega
          rw [ee]
          exact L.per.mul _ _ (by omega)
      rw [key]
      exact ⟨fun z => z.2, fun z => ⟨⟨by omega, by omega⟩, z⟩⟩
    by_cases c : f (s + i) = true
    · rw [if_pos (m.mpr c), c]
      show _ + 1 + _ = _ + _ + ((true.toNat : Nat) : Int)
      have : ((true.toNat : Nat) : Int) = 1 := rfl
      omega
    · rw [if_neg (fun z => c (m.mp z)), Bool.eq_false_iff.mpr c]
      have : ((false.toNat : Nat) : Int) = 0 := rfl
      omega
/-- the members below n, by what the form tells -/
theorem below_cnt {f : Nat → Bool} {s p : Nat} (L : LF f s p) (n : Nat) : ((((lowI f s).filter fun k => decide (k < (n : Int))).length : Nat) : Int) + (if (s : Int) < n then ((restI f s p).map fun r => ((n : Int) - 1 - r) / (p : Int) - ((s : Int) - 1 - r) / (p : Int)).sum else 0) = (cnF f n : Int) := by
  rw [low_cnt]
  by_cases c : (s : Int) < n
  · rw [if_pos c, Nat.min_eq_left (by omega)]
    obtain ⟨i, rfl⟩ := Nat.exists_eq_add_of_le (show s ≤ n by omega)
    have := rest_cnt L i
    omega
  · rw [if_neg c, Nat.min_eq_right (by omega), Int.add_zero]
section
variable {K : PySem.W.Frag} {a D : Addr} {xs : List V} {tt : TT} {te : TE} {vs : List Nat} {σ : SV} {H1 : Hp} {Qd : Hp → Prop} {j : Nat}
/-- [e for x in a tuple if t] -/
theorem lc_filT (q : V → Bool) (F : V → V) (hD : H1 D = none) (hsq : H1 a = some (.tup xs)) (hn : xs.length < sizeLine) (hw : ∀ x, wipe ((wipe σ vs).set j (some x)) vs = wipe σ vs)
    (htt : ∀ x ∈ xs, ∀ (H' : Hp) (Q : Bool → Hp → Prop), Same H1 H' → (∀ H'', Same H' H'' → Q (q x) H'') → tt ((wipe σ vs).set j (some x)) H' Q)
    (hel : ∀ x ∈ xs, q x = true → ∀ (H' : Hp) (Q : VK), Same H1 H' → (∀ H'', Same H' H'' → Q (F x) H'') → te ((wipe σ vs).set j (some x)) H' Q) (hd : ∀ H', Same H1 H' → H' D = some (.lst ((xs.filter q).map F)) → Qd H') :
    ∃ W : Nat → Nat → Hp → Prop, (∃ m, W 0 m (upd H1 D (.lst []))) ∧ ∀ i m H, W i m H →
      ((Itt K a).stop i H ∧ Qd H) ∨ ((Itt K a).go i H ∧ ∃ Nx : Hp → Prop, (∀ H', Nx H' → ∃ m', m' < m ∧ W (i + 1) m' H') ∧ ∀ x H', (Itt K a).yld i H x H' → gName j x (wipe σ vs) H' fun σ2 H2 => wipe σ2 vs = wipe σ vs ∧ tt σ2 H2 fun b H3 =>
        if b = true then te σ2 H3 fun y H4 => ∃ acc, H4 D = some (.lst acc) ∧ acc.length < sizeLine ∧ Nx (upd H4 D (.lst (acc ++ [y]))) else Nx H3) := by
  refine lc_tup (K := K) (a := a) (xs := xs) (fun i H' => Same H1 H' ∧ H' D = some (.lst (((xs.take i).filter q).map F))) ⟨same_new (Same.refl _) hD, upd_same⟩ ?_ ?_ ?_
  · rintro i H' _ ⟨s', _⟩
    exact .inl (.inl (s' _ _ hsq))
  · rintro i x H' hx ⟨s', eD⟩
    have mem := List.mem_of_getElem? hx
    refine ⟨hw x, htt x mem _ _ s' fun H2 s2 => ?_⟩
    refine ite2 (fun b => hel x mem b _ _ (s'.trans s2) fun H3 s3 => ⟨_, s3 _ _ (s2 _ _ eD), ?_, ?_, ?_⟩) (fun b => ⟨s'.trans s2, ?_⟩)
    · rw [List.length_map]
      have := List.length_filter_le q (xs.take i)
      rw [List.length_take] at this
      omega
    · exact fun b o e => by
        rw [upd_ne (ne_of_none e hD)]
        exact s3 _ _ (s2 _ _ (s' _ _ e))
    · rw [upd_same, take_next hx, List.filter_append, List.map_append, List.filter_cons_of_pos (p := q) (a := x) (l := []) b]
      rfl
    · rw [s2 _ _ eD, take_next hx, List.filter_append, List.filter_cons_of_neg (p := q) (a := x) (l := []) b, List.filter_nil, List.append_nil]
  · rintro H' ⟨s', eD⟩
    rw [List.take_length] at eD
    exact hd H' s' eD
end
def spBlw (C : Addr) : Sp := fun vs H Q _ => ∃ (a : Addr) (f : Nat → Bool) (n : Nat), vs = [.ref a, .int n] ∧ IsLen H C a f ∧ ∀ H', Same H H' → Q (.int (cnF f n)) H'
def spAtl (C : Addr) : Sp := fun vs H Q _ => ∃ (a : Addr) (f : Nat → Bool) (n : Int), vs = [.ref a, .int n] ∧ IsLen H C a f ∧ 0 ≤ n ∧ ∀ H', Same H H' → MemF f n Q H'
end NB
/-! NLh: what the top leaves: methods with defaults, tuples of the module. -/
namespace NB
open PySem L2 ClX
/-- a method with defaults -/
structure MethDK (K : PySem.W.Frag) (C : Addr) (m qual : Str) (st : Stmt) (dvs : List V) (f : Addr) (fd : FuncData) : Prop where
  at_ : PySem.W.findIn K (.ref C) m = some (some (.ref f))
  fn : PySem.W.isFn K (.ref f) = true
  F : FunD K m qual (defArgs st) (defBody st) (defScope st) dvs [] f fd
theorem methD_mk {K : PySem.W.Frag} {C : Addr} {m qual : Str} {st : Stmt} {dvs : List V} {f T : Addr} {oc oc2 kV doc pm cdv ct : Value} {od od2 an : Option Addr} {osl osl2 : Array (Option Value)} {its : Array Value} {n : Nat} (a : PySem.W.findIn K (.ref C) m = some (some (.ref f)))
    (l : K.lookup f = some ⟨oc, od, .func (PySem.W.fnOf m qual (defArgs st) (defBody st) (defScope st) (.ref T) kV doc pm an cdv ct), osl⟩) (c : PySem.W.codeIn K cdv qual = true) (k : PySem.W.keepIn K (.ref f) = true) (nn : PySem.W.isFn K (.ref f) = true)
    (lT : K.lookup T = some ⟨oc2, od2, .seq its n, osl2⟩) (v : Vals dvs its.toList) (ne : dvs ≠ []) :
    MethDK K C m qual st dvs f (PySem.W.fnOf m qual (defArgs st) (defBody st) (defScope st) (.ref T) kV doc pm an cdv ct) :=
  ⟨a, nn, ⟨⟨oc, od, .ref T, kV, doc, pm, an, cdv, ct, osl, rfl, l, c, .inr ⟨ne, T, _, its.toList, n, rfl, lT, by simp, v⟩, .inl rfl⟩, k⟩⟩
theorem fz_mk {K : PySem.W.Frag} {a : Addr} {xs : List V} {oc : Value} {od : Option Addr} {its : Array Value} {n : Nat} {osl : Array (Option Value)} (l : K.lookup a = some ⟨oc, od, .seq its n, osl⟩) (c : oc = .type "tuple") (z : its.size ≤ sizeLine) (v : Vals xs its.toList) : FzT K a xs := ⟨_, its, n, l, c, rfl, z, v⟩
end NB
/-! NLu: small sets of lengths, carried with all that is made of them. -/
namespace NB
open PySem L2 ClX
/-- from 64 on it comes round by 12 -/
abbrev Sm (f : Nat → Bool) : Prop := PerN f 64 12
/-- from 32 on it comes round by 12: the sets that are drawn -/
abbrev Sm3 (f : Nat → Bool) : Prop := PerN f 32 12
theorem Sm3.up {f : Nat → Bool} (h : Sm3 f) : Sm f := PerN.le h (by decide)
theorem Sm3.is {f : Nat → Bool} (h : Sm3 f) {s p : Nat} (L : LF f s p) : s ≤ 32 ∧ p ∣ 12 := L.least (by decide) h
theorem Sm3.bin {f g : Nat → Bool} (t : Bool → Bool → Bool) (hf : Sm3 f) (hg : Sm3 g) : Sm3 (fun n => t (f n) (g n)) := fun n hn => by
  show t (f (n + 12)) (g (n + 12)) = t (f n) (g n)
  rw [hf n hn, hg n hn]
theorem Sm.is {f : Nat → Bool} (h : Sm f) {s p : Nat} (L : LF f s p) : s ≤ 64 ∧ p ∣ 12 := L.least (by decide) h
theorem Sm.le {f : Nat → Bool} (h : Sm f) {s p : Nat} (L : LF f s p) : s ≤ 64 ∧ p ≤ 12 := ⟨(h.is L).1, Nat.le_of_dvd (by decide) (h.is L).2⟩
theorem Sm.bin {f g : Nat → Bool} (t : Bool → Bool → Bool) (hf : Sm f) (hg : Sm g) : Sm (fun n => t (f n) (g n)) := fun n hn => by
  show t (f (n + 12)) (g (n + 12)) = t (f n) (g n)
  rw [hf n hn, hg n hn]
theorem Sm.not {f : Nat → Bool} (hf : Sm f) : Sm (fun n => !f n) := per_not hf
theorem Sm.con (b : Bool) : Sm (fun _ => b) := fun _ _ => rfl
theorem Sm.mem {zs : List Int} (h : ∀ z ∈ zs, z < 64) : Sm (memF zs) := (memF_per (S := 64) fun n hn => by have := h n hn; omega).up (Nat.le_refl _) ⟨12, rfl⟩
theorem Sm.since {m : Nat} (h : m ≤ 64) : Sm (fun n => decide (m ≤ n)) := fun n hn => by
  show decide (m ≤ n + 12) = decide (m ≤ n)
  rw [decide_eq_true (by omega), decide_eq_true (by omega)]
theorem Sm.step {n b : Nat} (h : n ≤ 64) (hb : b ∣ 12) : Sm (stepF n b) := fun m hm => by
  unfold stepF
  obtain ⟨c, hc⟩ := hb
  rw [decide_eq_true (show n ≤ m + 12 by omega), decide_eq_true (show n ≤ m by omega), show m + 12 - n = m - n + b * c by omega, Nat.add_mul_mod_self_left]
theorem Sm.fit {f g : Nat → Bool} (hf : Sm f) (hg : Sm g) : ∀ s p s' p', LF f s p → LF g s' p' → max s s' + Nat.lcm p p' ≤ 400 := fun s p s' p' L L' => by
  obtain ⟨a, b⟩ := hf.is L
  obtain ⟨c, d⟩ := hg.is L'
  have := Nat.le_of_dvd (by decide) (Nat.lcm_dvd b d)
  omega
theorem Sm3.mem {zs : List Int} (h : ∀ z ∈ zs, z < 32) : Sm3 (memF zs) := (memF_per (S := 32) fun n hn => by have := h n hn; omega).up (Nat.le_refl _) ⟨12, rfl⟩
theorem Sm3.since {m : Nat} (h : m ≤ 32) : Sm3 (fun n => decide (m ≤ n)) := fun n hn => by
  show decide (m ≤ n + 12) = decide (m ≤ n)
  rw [decide_eq_true (by omega), decide_eq_true (by omega)]
theorem Sm3.step {n b : Nat} (h : n ≤ 32) (hb : b ∣ 12) : Sm3 (stepF n b) := fun m hm => by
  unfold stepF
  obtain ⟨c, hc⟩ := hb
  rw [decide_eq_true (show n ≤ m + 12 by omega), decide_eq_true (show n ≤ m by omega), show m + 12 - n = m - n + b * c by omega, Nat.add_mul_mod_self_left]
/-- sets that are carried -/
structure Lk (C : Addr) (H0 H : Hp) (l : List (Addr × (Nat → Bool))) : Prop where
  sm : Same H0 H
  ln : ∀ q ∈ l, IsLen H C q.1 q.2 ∧ Sm q.2
section
variable {P : Program} {w : World} {K : PySem.W.Frag} {mg : Str → Option Value} {base : Heap} {B Bm Bc C : Addr} {H0 H H' : Hp} {l : List (Addr × (Nat → Bool))} {f g : Nat → Bool} {a a2 : Addr} {Q : VK} {E : XK}
theorem Lk.fst : Lk C H H [] := ⟨Same.refl _, fun _ h => nomatch h⟩
theorem Lk.same (W : Lk C H0 H l) (s : Same H H') : Lk C H0 H' l := ⟨W.sm.trans s, fun q hq => ⟨(W.ln q hq).1.keep s, (W.ln q hq).2⟩⟩
theorem Lk.add (W : Lk C H0 H l) (h : IsLen H C a f) (hs : Sm f) : Lk C H0 H ((a, f) :: l) := ⟨W.sm, fun q hq => by
  rcases List.mem_cons.mp hq with rfl | hq
  · exact ⟨h, hs⟩
  · exact W.ln q hq⟩
theorem Lk.at (W : Lk C H0 H l) (h : (a, f) ∈ l := by repeat (first | exact List.Mem.head _ | apply List.Mem.tail)) : IsLen H C a f := (W.ln _ h).1
theorem Lk.is (W : Lk C H0 H l) (h : (a, f) ∈ l := by repeat (first | exact List.Mem.head _ | apply List.Mem.tail)) : Sm f := (W.ln _ h).2
theorem Lk.bin {t : Bool → Bool → Bool} (W : Lk C H0 H l) (k : ∀ x H', Lk C H0 H' ((x, fun n => t (f n) (g n)) :: l) → Q (.ref x) H') (h1 : (a, f) ∈ l := by repeat (first | exact List.Mem.head _ | apply List.Mem.tail)) (h2 : (a2, g) ∈ l := by repeat (first | exact List.Mem.head _ | apply List.Mem.tail)) : rBinS K C (spOpL Bm C t) E (.ref a) (.ref a2) H Q := by
  obtain ⟨ha, sf⟩ := W.ln _ h1
  obtain ⟨hb, sg⟩ := W.ln _ h2
  obtain ⟨dx, fs, e1⟩ := ha.ob
  obtain ⟨dy, gs, e2⟩ := hb.ob
  exact ⟨a, dx, a2, dy, fs, gs, rfl, e1, rfl, e2, a, a2, f, g, rfl, ha, hb, fun s p s' p' L L' z => absurd (sf.fit sg s p s' p' L L') (by omega), fun _ H' x s' h => k x H' ((W.same s').add h (sf.bin t sg))⟩
theorem Lk.inv (W : Lk C H0 H l) (k : ∀ x H', Lk C H0 H' ((x, fun n => !f n) :: l) → Q (.ref x) H') (h1 : (a, f) ∈ l := by repeat (first | exact List.Mem.head _ | apply List.Mem.tail)) : rInvO C (spInvL C) E (.ref a) H Q := by
  obtain ⟨ha, sf⟩ := W.ln _ h1
  obtain ⟨dx, fs, e1⟩ := ha.ob
  exact ⟨a, dx, fs, rfl, e1, a, f, rfl, ha, fun H' x s' h => k x H' ((W.same s').add h sf.not)⟩
theorem Lk.co {b : Bool} (W : Lk C H0 H l) (k : ∀ x H', Lk C H0 H' ((x, fun _ => b) :: l) → Q (.ref x) H') : spCo C (fun _ => b) [] H Q E := ⟨rfl, fun H' x s' h => k x H' ((W.same s').add h (Sm.con b))⟩
theorem Lk.eqq (W : Lk C H0 H l) (D : LnD P w K mg base B Bm C) (nf : PySem.W.notFirst K C (.ref C) = true) (q : Q (.bl (eqF f g)) H) (h1 : (a, f) ∈ l := by repeat (first | exact List.Mem.head _ | apply List.Mem.tail)) (h2 : (a2, g) ∈ l := by repeat (first | exact List.Mem.head _ | apply List.Mem.tail)) : rEqO K C (spEqL K C) E (.ref a) (.ref a2) H Q :=
  q_eqL D nf (W.ln _ h1).1 (W.ln _ h2).1 q
theorem Lk.neq (W : Lk C H0 H l) (D : LnD P w K mg base B Bm C) (nf : PySem.W.notFirst K C (.ref C) = true) (q : Q (.bl (!eqF f g)) H) (h1 : (a, f) ∈ l := by repeat (first | exact List.Mem.head _ | apply List.Mem.tail)) (h2 : (a2, g) ∈ l := by repeat (first | exact List.Mem.head _ | apply List.Mem.tail)) : rNeO K C (spEqL K C) E (.ref a) (.ref a2) H Q :=
  q_neL D nf (W.ln _ h1).1 (W.ln _ h2).1 q
theorem Lk.neqT (W : Lk C H0 H l) (D : LnD P w K mg base B Bm C) (nf : PySem.W.notFirst K C (.ref C) = true) (e : f = g) (q : Q (.bl false) H) (h1 : (a, f) ∈ l := by repeat (first | exact List.Mem.head _ | apply List.Mem.tail)) (h2 : (a2, g) ∈ l := by repeat (first | exact List.Mem.head _ | apply List.Mem.tail)) : rNeO K C (spEqL K C) E (.ref a) (.ref a2) H Q :=
  W.neq D nf (by rw [eqF_true e]; exact q) h1 h2
theorem Lk.cmp {r : (Nat → Bool) → (Nat → Bool) → Bool} (W : Lk C H0 H l) (D : LnD P w K mg base B Bm C) (nf : PySem.W.notFirst K C (.ref C) = true) (k : ∀ H', Lk C H0 H' l → Q (.bl (r f g)) H') (h1 : (a, f) ∈ l := by repeat (first | exact List.Mem.head _ | apply List.Mem.tail)) (h2 : (a2, g) ∈ l := by repeat (first | exact List.Mem.head _ | apply List.Mem.tail)) : rEqO K C (spCmpL C r) E (.ref a) (.ref a2) H Q := by
  obtain ⟨ha, sf⟩ := W.ln _ h1
  obtain ⟨hb, sg⟩ := W.ln _ h2
  obtain ⟨dx, fs, e1⟩ := ha.ob
  exact ⟨a, dx, fs, .ref C, rfl, e1, D.ty hb, nf, a, a2, f, g, rfl, ha, hb, fun H' s' => ⟨_, rfl, k H' (W.same s')⟩⟩
end
open Classical in
theorem eqF_iff {f g : Nat → Bool} : eqF f g = true ↔ f = g := by
  unfold eqF
  exact decide_eq_true_iff
theorem leF_and (f g : Nat → Bool) : eqF (fun n => tAnd2 (f n) (g n)) f = leF f g := by
  rw [Bool.eq_iff_iff, eqF_iff, leF_iff]
  constructor
  · intro e n h
    have z := congrFun e n
    rw [h] at z
    revert z
    cases g n <;> simp [tAnd2]
  · intro h
    funext n
    have z := h n
    revert z
    cases f n <;> cases g n <;> simp [tAnd2]
theorem leF_less (f g : Nat → Bool) : eqF (fun n => tLess (f n) (g n)) (fun _ => false) = leF f g := by
  rw [Bool.eq_iff_iff, eqF_iff, leF_iff]
  constructor
  · intro e n h
    have z := congrFun e n
    rw [h] at z
    revert z
    cases g n <;> simp [tLess]
  · intro h
    funext n
    have z := h n
    revert z
    cases f n <;> cases g n <;> simp [tLess]
theorem leF_not (f g : Nat → Bool) : leF (fun n => !g n) (fun n => !f n) = leF f g := by
  rw [Bool.eq_iff_iff, leF_iff, leF_iff]
  constructor
  · intro e n
    have z := e n
    revert z
    cases f n <;> cases g n <;> simp
  · intro e n
    have z := e n
    revert z
    cases f n <;> cases g n <;> simp
theorem leF_trans {f g h : Nat → Bool} (a : leF f g = true) (b : leF g h = true) : leF f h = true := leF_iff.mpr fun n z => leF_iff.mp b n (leF_iff.mp a n z)
/-- whether there is a member -/
theorem bo_F {f : Nat → Bool} {s p : Nat} (L : LF f s p) : decide (lowI f s ≠ [] ∨ restI f s p ≠ []) = !eqF f (fun _ => false) := by
  cases e : eqF f (fun _ => false) with
  | true =>
    have e := eqF_iff.mp e
    refine decide_eq_false ?_
    have z1 : lowI f s = [] := List.eq_nil_iff_forall_not_mem.mpr fun k hk => by
      have := (mem_lowI.mp hk).2
      rw [e] at this
      cases this
    have z2 : restI f s p = [] := List.eq_nil_iff_forall_not_mem.mpr fun k hk => by
      have := (mem_restI.mp hk).2
      rw [e] at this
      cases this
    rw [z1, z2]
    simp
  | false =>
    refine decide_eq_true ?_
    refine Classical.byContradiction fun h => ?_
    have h1 : lowI f s = [] := Classical.byContradiction fun z => h (.inl z)
    have h2 : restI f s p = [] := Classical.byContradiction fun z => h (.inr z)
    have : f = fun _ => false := funext fun n => by
      rcases Nat.lt_or_ge n s with c | c
      · rw [← lowI_at (f := f) c, h1]
        rfl
      · rw [← restI_at L c, h2]
        rfl
    rw [eqF_iff.mpr this] at e
    cases e
section
variable {C : Addr} {H0 H H' : Hp} {l l0 : List (Addr × (Nat → Bool))} {f g : Nat → Bool} {a a2 : Addr} {Q : VK} {E : XK}
theorem Lk.fg (W : Lk C H0 H l) (h : ∀ q ∈ l0, q ∈ l) : Lk C H0 H l0 := ⟨W.sm, fun q hq => W.ln q (h q hq)⟩
/-- bool(o) -/
theorem Lk.boo (W : Lk C H0 H l) (k : ∀ H', Lk C H0 H' l → Q (.bl (!eqF f (fun _ => false))) H') (h1 : (a, f) ∈ l := by repeat (first | exact List.Mem.head _ | apply List.Mem.tail)) : rBoolO C (spPrL C vBo) E [.ref a] H Q := by
  obtain ⟨ha, sf⟩ := W.ln _ h1
  obtain ⟨dx, fs, e1⟩ := ha.ob
  exact ⟨a, dx, fs, rfl, e1, a, f, rfl, ha, fun s p H' L l s' => ⟨_, rfl, by rw [bo_F L]; exact k H' (W.same s')⟩⟩
end
/-- a and b as a value -/
theorem q_valA {c d : Bool} {t : TE} {σ : SV} {H : Hp} {Q : VK} (R : Hp → Prop) (k : ∀ H', R H' → Q (.bl d) H') (h1 : c = true → ∀ Q' : VK, (∀ H', R H' → Q' (.bl d) H') → t σ H Q') (h2 : c = false → d = false ∧ R H) : ∃ c1, V.bl c = .bl c1 ∧ if c1 = true then t σ H Q else Q (.bl false) H := by
  refine ⟨c, rfl, ?_⟩
  cases c with
  | true => exact h1 rfl Q k
  | false =>
    obtain ⟨rfl, r⟩ := h2 rfl
    exact k H r
end NB
/-! NRd: simple rules of all five kinds in the laws: plans, sets, rules; operators by the class of an object. -/
namespace NB
open PySem L2 ClX NumText TL
/-! ### operators by the class -/
def rEqV (Y : Addr → Sp → Prop) (K : PySem.W.Frag) (E : XK) : R2 := fun x y H Q => ∃ (C : Addr) (sp : Sp), Y C sp ∧ rEqO K C sp E x y H Q
def NeC (K : PySem.W.Frag) (C : Addr) : Prop := PySem.W.findIn K (.ref C) "__ne__" = some (some (.builtin "object.__ne__")) ∧ PySem.W.mroIn K C (.type "object") = some true
def rNeV (Y : Addr → Sp → Prop) (K : PySem.W.Frag) (E : XK) : R2 := fun x y H Q => ∃ (C : Addr) (sp : Sp), Y C sp ∧ NeC K C ∧ rNeO K C sp E x y H Q
def rStrV (Y : Addr → Sp → Prop) (E : XK) : List V → Hp → VK → Prop := fun xs H Q => ∃ (C : Addr) (sp : Sp), Y C sp ∧ rStrO C sp E xs H Q
section
variable {X : Cx} {CX : CXT} {k : Nat} {E : XK}
theorem op_eqV (hr : Room k X.A) (hx : Passes CX X E) : OpR X (compareOp .Eq) (rEqV (OwnMP X.prog X.w X.K X.mg X.base CX k · "__eq__" ·) X.K E) := by
  intro pins s σ H x y u v Q I rx ry ⟨C, sp, M, h⟩
  exact op_eqO M.at_ hr hx pins s σ H x y u v Q I rx ry h
theorem op_neV (hr : Room (k + 1) X.A) (hx : Passes CX X E) : OpR X (compareOp .NotEq) (rNeV (OwnMP X.prog X.w X.K X.mg X.base CX k · "__eq__" ·) X.K E) := by
  intro pins s σ H x y u v Q I rx ry ⟨C, sp, M, n, h⟩
  exact op_neO M.at_ hr hx n.1 n.2 pins s σ H x y u v Q I rx ry h
theorem call_strV (hr : Room (k + 2) X.A) (hx : Passes CX X E) : CallR X (.type "str") (rStrV (OwnMP X.prog X.w X.K X.mg X.base CX k · "__str__" ·) E) := by
  intro pins s σ H xs us Q I r ⟨C, sp, M, h⟩
  exact call_strO M.at_ hr hx pins s σ H xs us Q I r h
end
/-! ### plans -/
def koWd : Option RK → Str
  | some k => k.word
  | none => "lasts"
theorem koWd_eq (o o' : Option RK) : decide (koWd o = koWd o') = decide (o = o') := by
  rcases o with _ | o <;> rcases o' with _ | o' <;> first | rfl | (cases o <;> first | decide +kernel | (cases o' <;> decide +kernel)) | (cases o' <;> decide +kernel)
inductive PD | day (k : RK) (bs : List Bool) | len (s q : Nat) (ns ms : List Int)
def PD.ko : PD → Option RK
  | .day k _ => some k
  | .len .. => none
structure LnOk (s q : Nat) (ns ms : List Int) : Prop where
  hs : s ≤ 9
  q1 : 1 ≤ q
  q2 : q ≤ 11
  hn : ∀ n ∈ ns, 0 ≤ n ∧ n < s
  hm : ∀ n ∈ ms, 0 ≤ n ∧ n < q
  ln : ns.length ≤ 9
  lm : ms.length ≤ 11
def PD.ok : PD → Prop
  | .day _ bs => Ln bs
  | .len s q ns ms => LnOk s q ns ms
/-- the set that is told, at u -/
def PlE0 (u : Addr) (l : List (Addr × HO)) : PD → Prop
  | .day _ bs => ∃ L, (u, HO.tup [.int bs.length, .ref L]) ∈ l ∧ (L, HO.lst ((restsB bs bs.length).map V.int)) ∈ l
  | .len s q ns ms => ∃ L M, (u, HO.tup [.int s, .ref L, .int q, .ref M]) ∈ l ∧ (L, HO.lst (ns.map V.int)) ∈ l ∧ (M, HO.lst (ms.map V.int)) ∈ l
/-- the plan at t, known -/
def PlE (t : Addr) (l : List (Addr × HO)) (d : PD) : Prop := ∃ u, (t, HO.tup [.str (koWd d.ko), .ref u]) ∈ l ∧ PlE0 u l d
def IsPl0 (H : Hp) (u : Addr) : PD → Prop
  | .day _ bs => ∃ L, H u = some (HO.tup [.int bs.length, .ref L]) ∧ H L = some (HO.lst ((restsB bs bs.length).map V.int))
  | .len s q ns ms => ∃ L M, H u = some (HO.tup [.int s, .ref L, .int q, .ref M]) ∧ H L = some (HO.lst (ns.map V.int)) ∧ H M = some (HO.lst (ms.map V.int))
def IsPl (H : Hp) (t : Addr) (d : PD) : Prop := ∃ u, H t = some (HO.tup [.str (koWd d.ko), .ref u]) ∧ IsPl0 H u d
def IsSt (Cd Cl : Addr) (H : Hp) (a : Addr) : PD → Prop
  | .day _ bs => IsDays H Cd a bs
  | .len s q ns ms => IsLen H Cl a (telF s q ns ms)
def IsRu (Cd Cl : Addr) (cl : Option RK → Addr) (H : Hp) (a : Addr) : PD → Prop
  | .day k bs => IsDR Cd H (cl (some k)) a k.word bs
  | .len s q ns ms => IsLR Cl H (cl none) a "lasts" (telF s q ns ms)
/-- a stay of n nights from day x is let -/
def PD.lets : PD → Int → Int → Bool
  | .day k bs, x, n => k.lets (dinB bs) x n
  | .len s q ns ms, _, n => telF s q ns ms n.toNat
/-- equal sets -/
noncomputable def PD.eqs : PD → PD → Bool
  | .day _ bs, .day _ cs => decide (formB bs = formB cs)
  | .len s q ns ms, .len s' q' ns' ms' => eqF (telF s q ns ms) (telF s' q' ns' ms')
  | _, _ => false
/-- equal rules -/
noncomputable def PD.eqr (d e : PD) : Bool := decide (d.ko = e.ko) && d.eqs e
def PD.isTxt : PD → Str → Prop
  | .day k bs, t => t = rTxt k.word (daysTxt bs)
  | .len s q ns ms, t => ∃ s' p', LF (telF s q ns ms) s' p' ∧ s' + p' ≤ 400 ∧ t = rTxt "lasts" (lenTxt (telF s q ns ms) s' p')
theorem daysTxt_of {bs cs : List Bool} (e : formB bs = formB cs) : daysTxt bs = daysTxt cs := by
  unfold formB at e
  have l : (lpG bs : Int) = lpG cs := congrArg Prod.fst e
  have l : lpG bs = lpG cs := by omega
  have r : restsB bs (lpG bs) = restsB cs (lpG cs) := congrArg Prod.snd e
  unfold daysTxt
  rw [r, l]
theorem daysTxt_inj {bs cs : List Bool} (h1 : Ln bs) (h2 : Ln cs) (e : daysTxt bs = daysTxt cs) : formB bs = formB cs := by
  have z : ∀ bs : List Bool, Ln bs → (match toldS (Txt.split (daysTxt bs) " ") with | some (p, rs) => decide (formB (truB p.toNat rs) = formB bs) | none => false) = true := fun bs h =>
    all7 (p := fun bs => match toldS (Txt.split (daysTxt bs) " ") with | some (p, rs) => decide (formB (truB p.toNat rs) = formB bs) | none => false) (by decide +kernel) h.lo h.hi
  have a := z bs h1
  have b := z cs h2
  rw [e] at a
  cases c : toldS (Txt.split (daysTxt cs) " ") with
  | none =>
    rw [c] at a
    cases a
  | some q =>
    obtain ⟨p, rs⟩ := q
    rw [c] at a b
    exact (of_decide_eq_true a).symm.trans (of_decide_eq_true b)
theorem tl_rTxt (w t : Str) : tl (rTxt w t) = tl w ++ 32 :: tl t := by
  unfold rTxt
  rw [join_is]
  rfl
theorem rTxt_inj {w t u : Str} (e : rTxt w t = rTxt w u) : t = u := by
  have z := congrArg tl e
  rw [tl_rTxt, tl_rTxt] at z
  have z := List.append_cancel_left z
  exact ext_tl (List.cons.inj z).2
theorem rTxt_ne {o o' : Option RK} {t u : Str} (h : o ≠ o') : rTxt (koWd o) t ≠ rTxt (koWd o') u := fun e => by
  have z := congrArg (fun s => (tl s).head?) e
  have z : (tl (rTxt (koWd o) t)).head? = (tl (rTxt (koWd o') u)).head? := z
  rw [tl_rTxt, tl_rTxt] at z
  have k : ∀ (x y : Option RK), x ≠ y → ∀ r r' : List Nat, (tl (koWd x) ++ r).head? ≠ (tl (koWd y) ++ r').head? := by
    intro x y n r r' z
    have g : ∀ x : Option RK, ∃ c l, tl (koWd x) = c :: l ∧ c = (match x with | some .comes => 99 | some .goes => 103 | some .holds => 104 | some .within => 119 | none => 108) := by
      intro x
      rcases x with _ | x
      · exact ⟨_, _, rfl, by decide +kernel⟩
      · cases x <;> exact ⟨_, _, rfl, by decide +kernel⟩
    obtain ⟨c, l, e1, e2⟩ := g x
    obtain ⟨c', l', e3, e4⟩ := g y
    rw [e1, e3] at z
    have z : c = c' := Option.some.inj z
    rw [e2, e4] at z
    apply n
    rcases x with _ | x <;> rcases y with _ | y <;> first | rfl | (cases x <;> first | (exact absurd z (by decide)) | (cases y <;> first | rfl | exact absurd z (by decide))) | (cases y <;> exact absurd z (by decide))
  exact k o o' h _ _ z
theorem PD.isTxt_ko {d : PD} {t : Str} (h : d.isTxt t) : ∃ u, t = rTxt (koWd d.ko) u := by
  cases d with
  | day k bs => exact ⟨_, h⟩
  | len s q ns ms =>
    obtain ⟨s', p', _, _, e⟩ := h
    exact ⟨_, e⟩
theorem txt_eqr {d e : PD} {t u : Str} (hd : d.ok) (he : e.ok) (h1 : d.isTxt t) (h2 : e.isTxt u) : decide (t = u) = d.eqr e := by
  unfold PD.eqr
  by_cases c : d.ko = e.ko
  · rw [decide_eq_true c, Bool.true_and]
    cases d with
    | day k bs =>
      cases e with
      | day j cs =>
        obtain rfl : k = j := Option.some.inj c
        rw [show t = _ from h1, show u = _ from h2]
        show _ = decide (formB bs = formB cs)
        rw [Bool.eq_iff_iff, decide_eq_true_iff, decide_eq_true_iff]
        exact ⟨fun z => daysTxt_inj hd he (rTxt_inj z), fun z => by rw [daysTxt_of z]⟩
      | len => cases c
    | len s q ns ms =>
      cases e with
      | day => cases c
      | len s' q' ns' ms' =>
        obtain ⟨a, b, L1, l1, rfl⟩ := h1
        obtain ⟨a', b', L2, l2, rfl⟩ := h2
        show _ = eqF (telF s q ns ms) (telF s' q' ns' ms')
        rw [Bool.eq_iff_iff, decide_eq_true_iff, eqF_iff]
        refine ⟨fun z => lenTxt_inj L1 l1 L2 l2 (rTxt_inj z), fun z => ?_⟩
        rw [z] at L1 ⊢
        obtain ⟨rfl, rfl⟩ := L1.uniq L2
        rfl
  · rw [decide_eq_false c, Bool.false_and]
    obtain ⟨x, e1⟩ := PD.isTxt_ko h1
    obtain ⟨y, e2⟩ := PD.isTxt_ko h2
    refine decide_eq_false fun z => ?_
    rw [e1, e2] at z
    exact rTxt_ne c z
end NB
/-! NRe: simple rules in the laws: what stands of the five classes; readings. -/
namespace NB
open PySem L2 ClX NumText TL
/-- what stands of a class of simple rules -/
structure RuC (P : Program) (w : World) (K : PySem.W.Frag) (mg : Str → Option Value) (base : Heap) (B R Cd Cl Cs : Addr) (o : Option RK) (C : Addr) : Prop where
  c : RCl K R C (koWd o)
  eqm : OwnMP P w K mg base CX0 1 C "__eq__" (spREq K R)
  ne : NeC K C
  str : OwnMP P w K mg base CX0 1 C "__str__" (spRStr K R)
  cal : VM P w K mg base (CX P w) 5 C "__call__" ["self", "stay"] (spRC P w K mg base 4 B Cs)
  calk : VMK P w K mg base (CX P w) 5 C "__call__" ["self", "stay"] ["stay"] (fun us ws => us ++ ws.reverse) (fun vs zs => vs ++ zs.reverse) (spRC P w K mg base 4 B Cs)
  siz : VP P w K mg base CX0 1 C "size" (spRSz K R)
  lts : VM P w K mg base CX0 4 C "lets_nights" ["self", "first", "nights"] (match o with | some k => spLnD Cd C k.word k | none => spLnL Cl C "lasts")
def isNt : Option RK → Bool
  | some .holds => true
  | some .within => true
  | _ => false
abbrev oTs : List String := ["NoneType", "bool", "int", "str", "tuple", "list", "dict"]
/-- .. of all five -/
structure R18 (P : Program) (w : World) (K : PySem.W.Frag) (mg : Str → Option Value) (base : Heap) (B R Cd Cl Cs : Addr) (cl : Option RK → Addr) : Prop where
  ru : ∀ o, RuC P w K mg base B R Cd Cl Cs o (cl o)
  nf : ∀ o o', PySem.W.notFirst K (cl o) (.ref (cl o')) = true
  nfT : ∀ o, ∀ t ∈ oTs, PySem.W.notFirst K (cl o) (.type t) = true
  nfd : ∀ o, PySem.W.notFirst K (cl o) (.ref Cd) = true
  nfl : ∀ o, PySem.W.notFirst K (cl o) (.ref Cl) = true
  kT : ∀ t ∈ oTs, PySem.W.kitOne K (.type t) (.ref R) = some false
  kd : PySem.W.kitOne K (.ref Cd) (.ref R) = some false
  kl : PySem.W.kitOne K (.ref Cl) (.ref R) = some false
/-- a class of simple rules is called -/
structure RuI (P : Program) (w : World) (K : PySem.W.Frag) (mg : Str → Option Value) (base : Heap) (nm fld : Str) (C : Addr) (sp : Sp) : Prop where
  mgC : mg nm = some (.ref C)
  ini : ∃ (fI : Addr) (fd : FuncData), Mk K C fI ∧ FnOk P w K mg base (CX P w) 5 fI fd ["self", fld] sp ∧ Binds K fd ["self", fld] [] ∧ KBn K fd ["self", fld] 1 [fld] (fun us ws => us ++ ws.reverse) (fun vs zs => vs ++ zs.reverse)
theorem ButN.kp {p : Addr} {H H' : Hp} {xs : List V} (u : ButN p H H') (e : H p = some (.lst xs)) : Kp H H' := fun x o h n t => u x o (fun z => by rw [z, e] at h; exact n _ (Option.some.inj h).symm) h t
section
variable {p c : Addr} {i r : Int} {H H' : Hp} {Cd Cl C a t u : Addr} {wd : Str} {bs : List Bool} {f : Nat → Bool} {cl : Option RK → Addr} {d e : PD}
theorem ButN.lst1 {ys : List V} (b : ButN p H H') (e : H p = some (.lst [.ref c, .int i, .int r])) (h : H a = some (.lst ys)) (n : ys.length < 3) : H' a = some (.lst ys) := by
  refine b a _ (fun z => ?_) h fun _ z => nomatch z
  rw [z, e] at h
  have h := HO.lst.inj (Option.some.inj h)
  rw [← h] at n
  exact absurd n (Nat.lt_irrefl 3)
theorem ButN.lstI {zs : List Int} (b : ButN p H H') (e : H p = some (.lst [.ref c, .int i, .int r])) (h : H a = some (.lst (zs.map V.int))) : H' a = some (.lst (zs.map V.int)) := by
  refine b a _ (fun z => ?_) h fun _ z => nomatch z
  rw [z, e] at h
  have h := HO.lst.inj (Option.some.inj h)
  cases zs with
  | nil => cases h
  | cons x zs => cases h
theorem ButN.tup {ys : List V} (b : ButN p H H') (e : H p = some (.lst [.ref c, .int i, .int r])) (h : H a = some (.tup ys)) : H' a = some (.tup ys) := b.kp e _ _ h (fun _ z => nomatch z) (fun _ z => nomatch z)
theorem IsDR.keepN (h : IsDR Cd H C a wd bs) (b : ButN p H H') (e : H p = some (.lst [.ref c, .int i, .int r])) : IsDR Cd H' C a wd bs := by
  obtain ⟨dx, d, pl, sl, e1, e2, e3, e4⟩ := h.ex
  have kp := b.kp e
  exact ⟨dx, d, pl, sl, kp _ _ e1 (fun _ z => nomatch z) (fun _ z => nomatch z), e2.nl kp, b.lst1 e e3 (by simp), b.lst1 e e4 (by simp)⟩
theorem IsLR.keepN (h : IsLR Cl H C a wd f) (b : ButN p H H') (e : H p = some (.lst [.ref c, .int i, .int r])) : IsLR Cl H' C a wd f := by
  obtain ⟨dx, d, pl, sl, s, q, L, l, e1, e2, e3, e4⟩ := h.ex
  have kp := b.kp e
  exact ⟨dx, d, pl, sl, s, q, L, l, kp _ _ e1 (fun _ z => nomatch z) (fun _ z => nomatch z), e2.kp kp, b.lst1 e e3 (by simp), b.lst1 e e4 (by simp)⟩
theorem IsRu.keep (h : IsRu Cd Cl cl H a d) (s : Same H H') : IsRu Cd Cl cl H' a d := by
  cases d with
  | day k bs => exact IsDR.keep h s
  | len => exact IsLR.keep h s
theorem IsRu.keepN (h : IsRu Cd Cl cl H a d) (b : ButN p H H') (e : H p = some (.lst [.ref c, .int i, .int r])) : IsRu Cd Cl cl H' a d := by
  cases d with
  | day k bs => exact IsDR.keepN h b e
  | len => exact IsLR.keepN h b e
theorem IsSt.keep (h : IsSt Cd Cl H a d) (s : Same H H') : IsSt Cd Cl H' a d := by
  cases d with
  | day k bs => exact IsDays.keep h s
  | len => exact IsLen.keep h s
theorem IsPl.keepN (h : IsPl H t d) (b : ButN p H H') (e : H p = some (.lst [.ref c, .int i, .int r])) : IsPl H' t d := by
  obtain ⟨u, e1, h⟩ := h
  refine ⟨u, b.tup e e1, ?_⟩
  cases d with
  | day k bs =>
    obtain ⟨L, e2, e3⟩ := h
    exact ⟨L, b.tup e e2, b.lstI e e3⟩
  | len s q ns ms =>
    obtain ⟨L, M, e2, e3, e4⟩ := h
    exact ⟨L, M, b.tup e e2, b.lstI e e3, b.lstI e e4⟩
theorem IsPl.keep (h : IsPl H t d) (s : Same H H') : IsPl H' t d := by
  obtain ⟨u, e1, h⟩ := h
  refine ⟨u, s _ _ e1, ?_⟩
  cases d with
  | day k bs =>
    obtain ⟨L, e2, e3⟩ := h
    exact ⟨L, s _ _ e2, s _ _ e3⟩
  | len s' q ns ms =>
    obtain ⟨L, M, e2, e3, e4⟩ := h
    exact ⟨L, M, s _ _ e2, s _ _ e3, s _ _ e4⟩
theorem PlE.is {l : List (Addr × HO)} (h : PlE t l d) (k : KnL l H) : IsPl H t d := by
  obtain ⟨u, e1, h⟩ := h
  refine ⟨u, k _ e1, ?_⟩
  cases d with
  | day k' bs =>
    obtain ⟨L, e2, e3⟩ := h
    exact ⟨L, k _ e2, k _ e3⟩
  | len s' q ns ms =>
    obtain ⟨L, M, e2, e3, e4⟩ := h
    exact ⟨L, M, k _ e2, k _ e3, k _ e4⟩
theorem PlE.mono {l l' : List (Addr × HO)} (h : PlE t l d) (s : ∀ q ∈ l, q ∈ l') : PlE t l' d := by
  obtain ⟨u, e1, h⟩ := h
  refine ⟨u, s _ e1, ?_⟩
  cases d with
  | day k' bs =>
    obtain ⟨L, e2, e3⟩ := h
    exact ⟨L, s _ e2, s _ e3⟩
  | len s' q ns ms =>
    obtain ⟨L, M, e2, e3, e4⟩ := h
    exact ⟨L, M, s _ e2, s _ e3, s _ e4⟩
end
section
variable {P : Program} {w : World} {K : PySem.W.Frag} {mg : Str → Option Value} {base : Heap} {B R Cd Cl Cs a b st : Addr} {cl : Option RK → Addr} {H H' : Hp} {d e : PD} {Q : VK} {E : XK}
/-- the object of a rule -/
theorem IsRu.ob (h : IsRu Cd Cl cl H a d) : ∃ dx fs t, H a = some (.ins (cl d.ko) dx fs) ∧ fs.lookup ("text" : Str) = some (.str t) ∧ d.isTxt t ∧ fs.lookup ("own_size" : Str) = some (.int 1) ∧ fs.lookup ("lets_nights" : Str) = none := by
  cases d with
  | day k bs =>
    obtain ⟨dx, d, pl, sl, e1, _⟩ := IsDR.ex h
    exact ⟨dx, _, _, e1, rfl, rfl, rfl, rfl⟩
  | len s q ns ms =>
    obtain ⟨dx, d, pl, sl, s, p, L, l, e1, _⟩ := IsLR.ex h
    exact ⟨dx, _, _, e1, rfl, ⟨s, p, L, l, rfl⟩, rfl, rfl⟩
theorem IsRu.tx (S : R18 P w K mg base B R Cd Cl Cs cl) (h : IsRu Cd Cl cl H a d) : ∃ t, RTx K R H a t ∧ d.isTxt t := by
  obtain ⟨dx, fs, t, e1, e2, e3, _⟩ := h.ob
  exact ⟨t, ⟨_, dx, fs, _, e1, e2, (S.ru d.ko).c⟩, e3⟩
theorem IsRu.ty (S : R18 P w K mg base B R Cd Cl Cs cl) (h : IsRu Cd Cl cl H a d) : TyX K H (.ref a) (.ref (cl d.ko)) := by
  obtain ⟨dx, fs, t, e1, _⟩ := h.ob
  exact (S.ru d.ko).c.ty e1
/-- one == other -/
theorem rd_eqR (S : R18 P w K mg base B R Cd Cl Cs cl) (ha : IsRu Cd Cl cl H a d) (hb : IsRu Cd Cl cl H b e) (o1 : d.ok) (o2 : e.ok) (q : Q (.bl (d.eqr e)) H) : rEqV (OwnMP P w K mg base CX0 1 · "__eq__" ·) K E (.ref a) (.ref b) H Q := by
  obtain ⟨dx, fs, _, e1, _⟩ := ha.ob
  obtain ⟨t, r1, t1⟩ := ha.tx S
  obtain ⟨u, r2, t2⟩ := hb.tx S
  exact ⟨_, _, (S.ru d.ko).eqm, a, dx, fs, _, rfl, e1, hb.ty S, S.nf _ _, a, t, .ref b, _, rfl, r1, .inl ⟨b, u, rfl, r2, rfl⟩, _, rfl, by rw [txt_eqr o1 o2 t1 t2]; exact q⟩
theorem rd_neR (S : R18 P w K mg base B R Cd Cl Cs cl) (ha : IsRu Cd Cl cl H a d) (hb : IsRu Cd Cl cl H b e) (o1 : d.ok) (o2 : e.ok) (q : Q (.bl (!(d.eqr e))) H) : rNeV (OwnMP P w K mg base CX0 1 · "__eq__" ·) K E (.ref a) (.ref b) H Q := by
  obtain ⟨dx, fs, _, e1, _⟩ := ha.ob
  obtain ⟨t, r1, t1⟩ := ha.tx S
  obtain ⟨u, r2, t2⟩ := hb.tx S
  exact ⟨_, _, (S.ru d.ko).eqm, (S.ru d.ko).ne, a, dx, fs, _, rfl, e1, hb.ty S, S.nf _ _, a, t, .ref b, _, rfl, r1, .inl ⟨b, u, rfl, r2, rfl⟩, _, rfl, by rw [txt_eqr o1 o2 t1 t2]; exact q⟩
/-- no rule -/
def NoR (K : PySem.W.Frag) (R : Addr) (cl : Option RK → Addr) (H : Hp) (v : V) : Prop := ∃ ty, TyX K H v ty ∧ PySem.W.kitOne K ty (.ref R) = some false ∧ ∀ o, PySem.W.notFirst K (cl o) ty = true
theorem rd_eqO (S : R18 P w K mg base B R Cd Cl Cs cl) (ha : IsRu Cd Cl cl H a d) {v : V} (n : NoR K R cl H v) (q : Q (.bl false) H) : rEqV (OwnMP P w K mg base CX0 1 · "__eq__" ·) K E (.ref a) v H Q := by
  obtain ⟨dx, fs, _, e1, _⟩ := ha.ob
  obtain ⟨t, r1, t1⟩ := ha.tx S
  obtain ⟨ty, h1, h2, h3⟩ := n
  exact ⟨_, _, (S.ru d.ko).eqm, a, dx, fs, _, rfl, e1, h1, h3 _, a, t, v, false, rfl, r1, .inr ⟨ty, h1, h2, rfl⟩, _, rfl, q⟩
theorem rd_neO (S : R18 P w K mg base B R Cd Cl Cs cl) (ha : IsRu Cd Cl cl H a d) {v : V} (n : NoR K R cl H v) (q : Q (.bl true) H) : rNeV (OwnMP P w K mg base CX0 1 · "__eq__" ·) K E (.ref a) v H Q := by
  obtain ⟨dx, fs, _, e1, _⟩ := ha.ob
  obtain ⟨t, r1, t1⟩ := ha.tx S
  obtain ⟨ty, h1, h2, h3⟩ := n
  exact ⟨_, _, (S.ru d.ko).eqm, (S.ru d.ko).ne, a, dx, fs, _, rfl, e1, h1, h3 _, a, t, v, false, rfl, r1, .inr ⟨ty, h1, h2, rfl⟩, _, rfl, q⟩
theorem NoR.ty (S : R18 P w K mg base B R Cd Cl Cs cl) {v : V} {t : String} (h : TyX K H v (.type t)) (m : t ∈ oTs := by simp [oTs]) : NoR K R cl H v := ⟨_, h, S.kT t m, fun o => S.nfT o t m⟩
/-- str(one) -/
theorem rd_strR (S : R18 P w K mg base B R Cd Cl Cs cl) (ha : IsRu Cd Cl cl H a d) (q : ∀ t, d.isTxt t → Q (.str t) H) : rStrV (OwnMP P w K mg base CX0 1 · "__str__" ·) E [.ref a] H Q := by
  obtain ⟨dx, fs, _, e1, _⟩ := ha.ob
  obtain ⟨t, r1, t1⟩ := ha.tx S
  exact ⟨_, _, (S.ru d.ko).str, a, dx, fs, rfl, e1, a, t, rfl, r1, t, rfl, q t t1⟩
/-- a stay is let -/
theorem IsRu.lets (S : R18 P w K mg base B R Cd Cl Cs cl) (h : IsRu Cd Cl cl H a d) : LetsAt P w K mg base 4 H a d.lets := by
  obtain ⟨dx, fs, t, e1, e2, _, _, e3⟩ := h.ob
  refine ⟨_, dx, fs, _, e1, e3, (S.ru d.ko).lts, fun x n H1 Q E s1 hn q => ?_⟩
  cases d with
  | day k bs => exact ⟨a, x, n, bs, rfl, IsDR.keep h s1, hn, q⟩
  | len s q' ns ms => exact ⟨a, x, n, _, rfl, IsLR.keep h s1, hn, q⟩
theorem rd_callR (S : R18 P w K mg base B R Cd Cl Cs cl) {σ : SV} {i : Nat} {t : TA} (h0 : σ[i]? = some (some (.ref a))) (ha : IsRu Cd Cl cl H a d) {f u : Int} (k : ∀ (Q' : List V → Hp → Prop), (∀ H1 st, Same H H1 → IsStay H1 Cs st f u → Q' [.ref st] H1) → t σ H Q') (q : ∀ H', Same H H' → Q (.bl (d.lets f (u - f))) H') :
    tCallI (VM P w K mg base (CX P w) 5 · "__call__" ["self", "stay"] ·) E (tVar i) t σ H Q := by
  obtain ⟨dx, fs, _, e1, _⟩ := ha.ob
  refine ⟨_, h0, a, _, dx, fs, _, rfl, e1, (S.ru d.ko).cal, k _ fun H1 st s1 hs => ⟨⟨fs, s1 _ _ e1⟩, a, .ref st, rfl, .inl ⟨st, f, u, _, rfl, hs, (ha.keep s1).lets S, fun H' s' => q H' (s1.trans s')⟩⟩⟩
theorem rd_callRK (S : R18 P w K mg base B R Cd Cl Cs cl) {σ : SV} {i : Nat} {t : TA} (h0 : σ[i]? = some (some (.ref a))) (ha : IsRu Cd Cl cl H a d) {f u : Int} (k : ∀ (Q' : List V → Hp → Prop), (∀ H1 st, Same H H1 → IsStay H1 Cs st f u → Q' [.ref st] H1) → t σ H Q') (q : ∀ H', Same H H' → Q (.bl (d.lets f (u - f))) H') :
    tCallIK (VMK P w K mg base (CX P w) 5 · "__call__" ["self", "stay"] ["stay"] (fun us ws => us ++ ws.reverse) (fun vs zs => vs ++ zs.reverse) ·) 1 (fun vs zs => vs ++ zs.reverse) E (tVar i) t σ H Q := by
  obtain ⟨dx, fs, _, e1, _⟩ := ha.ob
  refine ⟨_, h0, a, _, dx, fs, _, rfl, e1, (S.ru d.ko).calk, k _ fun H1 st s1 hs => ⟨⟨fs, s1 _ _ e1⟩, rfl, a, .ref st, rfl, .inl ⟨st, f, u, _, rfl, hs, (ha.keep s1).lets S, fun H' s' => q H' (s1.trans s')⟩⟩⟩
/-- o.size -/
theorem rd_sizR (S : R18 P w K mg base B R Cd Cl Cs cl) {σ : SV} {i : Nat} (h0 : σ[i]? = some (some (.ref a))) (ha : IsRu Cd Cl cl H a d) (q : Q (.int 1) H) : tPropV (VP P w K mg base CX0 1 · "size" ·) E (tVar i) σ H Q := by
  obtain ⟨dx, fs, _, e1, _, _, e2, _⟩ := ha.ob
  exact ⟨_, h0, a, _, dx, fs, _, rfl, e1, (S.ru d.ko).siz, a, _, dx, fs, _, 1, rfl, e1, e2, (S.ru d.ko).c, q⟩
end
end NB
namespace NB
open PySem L2 ClX NumText TL
local macro_rules
  | `(tactic| and_intros) => `(tactic| repeat (first
    | with_reducible refine q_cons ?_ | with_reducible refine q_c ?_ | ((with_reducible apply q_var); exact rfl) | with_reducible refine q_nil ?_ | with_reducible refine q_call ?_ | with_reducible refine q_op ?_
    | with_reducible refine q_sa ?_ | with_reducible refine ra_lst ?_ | with_reducible refine ra_tup ?_ | with_reducible refine q_i0 ?_ | with_reducible refine q_cb ?_ | with_reducible refine q_test ?_ | with_reducible refine q_b ?_ | with_reducible refine q_bl ?_ | with_reducible refine q_iT ?_ | with_reducible refine q_iF ?_ | with_reducible refine q_nT ?_ | with_reducible refine q_nF ?_
    | with_reducible refine q_sif0 ?_ | with_reducible refine q_if0 ?_ | with_reducible refine q_sif ?_ | with_reducible refine q_if ?_ | with_reducible refine q_sdrop ?_ | with_reducible refine q_drop ?_ | with_reducible refine q_asg ?_ | with_reducible refine q_ret ?_ | with_reducible refine q_un ?_ | with_reducible refine q_u ?_ | with_reducible refine q_ifE ?_ | with_reducible refine q_or ?_ | with_reducible refine q_and ?_ | with_reducible refine q_not ?_ | with_reducible refine q_andV ?_ | with_reducible refine q_orV ?_ | with_reducible refine q_notV ?_ | with_reducible refine q_isN ?_ | with_reducible refine q_notN ?_ | with_reducible refine q_make ?_ | with_reducible refine q_meth ?_ | with_reducible refine q_sp ?_ | with_reducible refine q_par ?_ | with_reducible refine q_two ?_ | with_reducible refine q_in ?_ | with_reducible refine q_sl ?_ | with_reducible refine q_part ?_ | with_reducible refine q_nopart ?_ | with_reducible refine q_fmt ?_ | with_reducible refine q_dnew ?_ | with_reducible refine q_chain ?_ | with_reducible refine q_yes ?_ | with_reducible refine q_lstM ?_ | with_reducible refine q_smC ?_ | with_reducible refine q_mkO ?_ | with_reducible refine q_int1' ?_ | with_reducible refine q_iR1 ?_ | with_reducible refine q_iR2 ?_ | with_reducible refine q_iRA ?_ | with_reducible refine q_iL ?_ | with_reducible refine q_iT2 ?_ | with_reducible refine q_rA ?_ | with_reducible refine q_iR3 ?_ | with_reducible refine q_sfor ?_ | with_reducible refine q_for ?_
    | ((with_reducible refine q_eq ?_ ?_); exact rfl) | ((with_reducible refine q_ne ?_ ?_); exact rfl) | ((with_reducible refine q_pow ?_ ?_); exact ⟨by decide, by decide, by decide⟩)))
/-- new lists: none of those that stood -/
def Fr (H : Hp) (l : List (Addr × HO)) : Prop := ∀ q ∈ l, (∃ xs, q.2 = .tup xs) ∨ ∀ o, H q.1 = some o → ¬ nTb o
def spLt : Sp := fun vs H Q _ => ∃ (t : Addr) (x n : Int) (d : PD), vs = [.ref t, .int x, .int n] ∧ IsPl H t d ∧ d.ok ∧ 1 ≤ n ∧ n ≤ 1000 ∧ ∀ H', Same H H' → Q (.bl (d.lets x n)) H'
def spSe (Cd Cl : Addr) : Sp := fun vs H Q _ => ∃ (t : Addr) (d : PD), vs = [.ref t] ∧ IsPl H t d ∧ d.ok ∧ ∀ H' a, Same H H' → IsSt Cd Cl H' a d → Q (.ref a) H'
theorem wd_is {o o' : Option RK} {s : Str} (h : s = koWd o') : decide (V.str (koWd o) = V.str s) = decide (o = o') := by
  rw [h, ← koWd_eq o o', Bool.eq_iff_iff, decide_eq_true_iff, decide_eq_true_iff]
  exact ⟨fun e => V.str.inj e, fun e => by rw [e]⟩
theorem Fr.back {T : List (Addr × Str)} {p c : Addr} {ns : List Int} {H0 H H' : Hp} {b b' : Int} {ps ps' : List SP} {ms : List (Addr × List V)} {l l' : List (Addr × HO)} (W : Wd T p c ns H0 H b ps ms l) (U : Wd T p c ns H H' b' ps' [] l') (f : Fr H l') : Fr H0 l' := fun q hq => (f q hq).imp id fun h o z t => h o (W.bt _ _ (U.kn q hq).1 z t) t
theorem flat_bls (bs : List Bool) : (bs.map V.bl).all flatV = true := List.all_eq_true.mpr fun x hx => by
  obtain ⟨b, _, rfl⟩ := List.mem_map.mp hx
  rfl
theorem in_true : ∀ bs : List Bool, inV (.bl true) (bs.map V.bl) = bs.any id
  | [] => rfl
  | b :: bs => by
    have := in_true bs
    unfold inV at this ⊢
    rw [List.map_cons, List.any_cons, List.any_cons, this]
    cases b <;> rfl
theorem in_false : ∀ bs : List Bool, (!inV (.bl false) (bs.map V.bl)) = bs.all id
  | [] => rfl
  | b :: bs => by
    have := in_false bs
    unfold inV at this ⊢
    rw [List.map_cons, List.any_cons, List.all_cons, ← this]
    cases b <;> rfl
theorem rd_inB {K : PySem.W.Frag} {H : Hp} {l : Addr} {b : Bool} {bs : List Bool} {Q : VK} (h : H l = some (.lst (bs.map V.bl))) (q : Q (.bl (inV (.bl b) (bs.map V.bl))) H) : rIn K false (.bl b) (.ref l) H Q := ⟨l, _, rfl, .inl (SqL.of h), rfl, flat_bls bs, q⟩
theorem rd_niB {K : PySem.W.Frag} {H : Hp} {l : Addr} {b : Bool} {bs : List Bool} {Q : VK} (h : H l = some (.lst (bs.map V.bl))) (q : Q (.bl (!inV (.bl b) (bs.map V.bl))) H) : rIn K true (.bl b) (.ref l) H Q := ⟨l, _, rfl, .inl (SqL.of h), rfl, flat_bls bs, q⟩
theorem PlE0.mono {u : Addr} {d : PD} {l l' : List (Addr × HO)} (h : PlE0 u l d) (s : ∀ q ∈ l, q ∈ l') : PlE0 u l' d := by
  cases d with
  | day k' bs =>
    obtain ⟨L, e2, e3⟩ := h
    exact ⟨L, s _ e2, s _ e3⟩
  | len s' q ns ms =>
    obtain ⟨L, M, e2, e3, e4⟩ := h
    exact ⟨L, M, s _ e2, s _ e3, s _ e4⟩
def spYd (T : List (Addr × Str)) : Sp := fun vs H Q _ => ∃ (p c : Addr) (ns : List Int) (b : Int), vs = [.ref p] ∧ Wd T p c ns H H b [] [] [] ∧ b ≤ 9000 ∧
  ∀ H' u bs l', Wd T p c ns H H' (b + 8) [] [] l' → (∀ k, PlE0 u l' (.day k bs)) → Ln bs → Fr H l' → Q (.ref u) H'
def spYl (T : List (Addr × Str)) : Sp := fun vs H Q _ => ∃ (p c : Addr) (ns : List Int) (b : Int), vs = [.ref p] ∧ Wd T p c ns H H b [] [] [] ∧ b ≤ 9000 ∧
  ∀ H' u s q zs ys l', Wd T p c ns H H' (b + 24) [] [] l' → PlE0 u l' (.len s q zs ys) → LnOk s q zs ys → Fr H l' → Q (.ref u) H'
def spPl (T : List (Addr × Str)) : Sp := fun vs H Q _ => ∃ (p c : Addr) (ns : List Int) (b : Int), vs = [.ref p] ∧ Wd T p c ns H H b [] [] [] ∧ b ≤ 8900 ∧
  ∀ H' t d l', Wd T p c ns H H' (b + 25) [] [] l' → PlE t l' d → d.ok → Fr H l' → Q (.ref t) H'
section
variable {P : Program} {w : World} {K : PySem.W.Frag} {mg : Str → Option Value} {base : Heap} {B Bm Bc Bt Bd Bs Br C R Cd Cl Cs KD KN KL : Addr} {cl : Option RK → Addr} {T : List (Addr × Str)}
abbrev sYd : Stmt := top 76
abbrev nYd : List Str := ["_law_pen_here", "_law_size", "_law_rest"]
theorem scYd : FnScope nYd ["_law_pen_here"] (defScope sYd) := ⟨rfl, rfl, rfl, by decide +kernel, rfl, by decide +kernel, by decide +kernel⟩
theorem ok_Yd {fa : Addr} {fd : FuncData} (F : Fun K "_law_days" "_law_days" sYd fa fd) (Tb : Bi mg) (Dd : DefOf P w K mg base "_law_draw" 1 ["_law_pen_here", "_law_many"] spDraw) (Dp : DefOf P w K mg base "_law_pick" 2 ["_law_pen_here", "_law_some"] spPick) : FnOk P w K mg base CX0 3 fa fd ["_law_pen_here"] (spYd T) := by
  obtain ⟨fD, fdD, FD, mD, kD, bD⟩ := Dd.ex
  obtain ⟨fP, fdP, FP, mP, kP, bP⟩ := Dp.ex
  refine F.ok scYd (fun vs H Q E h => ?_) (fun cdv A outer s H vs Q E hr h => ?_)
  · obtain ⟨p, c, ns, b, rfl, _⟩ := h
    rfl
  · obtain ⟨p, c, ns, b, rfl, W, hb, k⟩ := h
    have r1 := hr.mono (show 1 ≤ 2 by decide)
    have r2 := hr.mono (show 2 ≤ 2 by decide)
    refine ⟨_, pss_cons (ps_set (i := 1) scYd.nd rfl (.inl rfl) (pe_call FP r2 rfl mP kP bP .nil pass0 (pa_cons (pv 0) (pa_cons (pe_lst (pa_cons pe_int (pa_cons pe_int (pa_cons pe_int (pa_cons pe_int (pa_cons pe_int (pa_cons pe_int (pa_cons pe_int (pa_cons pe_int (pa_cons pe_int pa_nil)))))))))) pa_nil))))
      (pss_one (ps_ret (pe_tup (pa_cons (pv 1) (pa_cons (pe_lc (own := [("_law_rest", 2)]) (g := (gName 2)) (tt := (tTest (tOp rEq (tCall spDraw [] E0 (tCons (tVar 0) (tCons (tC (.int 2)) tNil))) (tC (.int 0))))) (te := (tVar 2)) (by rfl) scYd.nd (pi_range1 (by rfl) Tb.range (pa_cons (pv 1) pa_nil)) (blkOk_by (own := [("_law_rest", 2)]) (N := nYd) (sc := defScope sYd) (by decide +kernel)) (fun _ _ _ _ _ => pg_name (i := 2) scYd.nd rfl (.inl rfl)) (fun _ _ _ _ _ => pts_one (pt_cmpR op_eq (pe_call FD r1 rfl mD kD bD .nil pass0 (pa_cons (pv 0) (pa_cons pe_int pa_nil))) pe_int (nomark _))) (fun _ _ _ _ _ => pv 2)) pa_nil))))), ?_⟩
    and_intros
    refine W.al fun L H1 W => ?_
    and_intros
    refine W.pick fun v H1 W hv => ?_
    obtain ⟨i, rfl, i1, i2⟩ : ∃ i : Int, v = .int i ∧ 1 ≤ i ∧ i ≤ 7 := by
      simp only [List.mem_cons, List.not_mem_nil, or_false] at hv
      rcases hv with rfl | rfl | rfl | rfl | rfl | rfl | rfl | rfl | rfl <;> exact ⟨_, rfl, by decide, by decide⟩
    obtain ⟨n, rfl⟩ : ∃ n : Nat, i = (n : Int) := ⟨i.toNat, by omega⟩
    have W := W.fg (l0 := [])
    and_intros
    refine q_lc (q_iR1 ?_)
    and_intros
    refine ⟨_, rfl, by omega, by omega, ?_⟩
    rw [Int.toNat_natCast]
    refine W.lcR (lo := 0) (n := n) 1 (fun i acc _ => ∃ bs : List Bool, bs.length = i ∧ acc = (restsB bs i).map V.int) (fun _ _ _ _ _ h => h) (fun _ => ⟨[], rfl, rfl⟩) (by omega) (fun _ => rfl) (fun i hi D acc H2 W f la Qe Qn ke kn => ?_) (fun D acc H2 W f => ?_)
    · obtain ⟨bs, rfl, rfl⟩ := f
      and_intros
      refine W.draw fun d H3 W d1 d2 => ?_
      and_intros
      rw [dec_v]
      refine ite2 (fun c => ?_) (fun c => ?_)
      · and_intros
        refine ke _ _ W.le ⟨bs ++ [true], by simp, ?_⟩
        rw [restsB_snoc, if_pos rfl, List.map_append, Int.zero_add]
        rfl
      · refine kn _ W.le ⟨bs ++ [false], by simp, ?_⟩
        rw [restsB_snoc, if_neg (by decide), List.append_nil]
    · obtain ⟨bs, hl, rfl⟩ := f
      subst hl
      have fr := W.newM1
      have W := W.frz.le (b' := b + 8)
      and_intros
      refine W.al fun u H3 W => ?_
      refine k H3 u bs _ W (fun k => ⟨D, ?_, ?_⟩) ⟨by omega, by omega⟩ ?_
      · exact List.mem_cons_self ..
      · exact List.mem_cons_of_mem _ (List.mem_cons_self ..)
      · intro q hq
        rcases List.mem_cons.mp hq with rfl | hq
        · exact .inl ⟨_, rfl⟩
        · rw [List.mem_singleton.mp hq]
          exact .inr fr
abbrev sYl : Stmt := top 77
abbrev nYl : List Str := ["_law_pen_here", "_law_head", "_law_size", "_law_few", "_law_n", "_law_rest"]
theorem scYl : FnScope nYl ["_law_pen_here"] (defScope sYl) := ⟨rfl, rfl, rfl, by decide +kernel, rfl, by decide +kernel, by decide +kernel⟩
theorem ok_Yl {fa : Addr} {fd : FuncData} (F : Fun K "_law_lengths" "_law_lengths" sYl fa fd) (Tb : Bi mg) (Dd : DefOf P w K mg base "_law_draw" 1 ["_law_pen_here", "_law_many"] spDraw) (Dp : DefOf P w K mg base "_law_pick" 2 ["_law_pen_here", "_law_some"] spPick) : FnOk P w K mg base CX0 3 fa fd ["_law_pen_here"] (spYl T) := by
  obtain ⟨fD, fdD, FD, mD, kD, bD⟩ := Dd.ex
  obtain ⟨fP, fdP, FP, mP, kP, bP⟩ := Dp.ex
  refine F.ok scYl (fun vs H Q E h => ?_) (fun cdv A outer s H vs Q E hr h => ?_)
  · obtain ⟨p, c, ns, b, rfl, _⟩ := h
    rfl
  · obtain ⟨p, c, zn, b, rfl, W, hb, k⟩ := h
    have r1 := hr.mono (show 1 ≤ 2 by decide)
    have r2 := hr.mono (show 2 ≤ 2 by decide)
    refine ⟨_, pss_cons (ps_par (i := 1) (j := 2) rfl scYl.nd rfl rfl (by decide) rfl rfl (pa_cons (pe_call FD r1 rfl mD kD bD .nil pass0 (pa_cons (pv 0) (pa_cons (pe_call FP r2 rfl mP kP bP .nil pass0 (pa_cons (pv 0) (pa_cons (pe_lst (pa_cons pe_int (pa_cons pe_int (pa_cons pe_int pa_nil)))) pa_nil))) pa_nil))) (pa_cons (pe_call FP r2 rfl mP kP bP .nil pass0 (pa_cons (pv 0) (pa_cons (pe_lst (pa_cons pe_int (pa_cons pe_int (pa_cons pe_int (pa_cons pe_int (pa_cons pe_int (pa_cons pe_int pa_nil))))))) pa_nil))) pa_nil)) (by rfl))
      (pss_cons (ps_setLc (i := 3) (own := [("_law_n", 4)]) (g := (gName 4)) (tt := (tTest (tOp rEq (tCall spDraw [] E0 (tCons (tVar 0) (tCons (tC (.int 2)) tNil))) (tC (.int 0))))) (te := (tVar 4)) (by rfl) scYl.nd rfl rfl (sw_true rfl rfl rfl (by decide +kernel)) (pi_range1 (by rfl) Tb.range (pa_cons (pv 1) pa_nil)) (blkOk_by (own := [("_law_n", 4)]) (N := nYl) (sc := defScope sYl) (by decide +kernel)) (fun _ _ _ _ _ => pg_name (i := 4) scYl.nd rfl (.inl rfl)) (fun _ _ _ _ _ => pts_one (pt_cmpR op_eq (pe_call FD r1 rfl mD kD bD .nil pass0 (pa_cons (pv 0) (pa_cons pe_int pa_nil))) pe_int (nomark _))) (fun _ _ _ _ _ => pv 4))
      (pss_one (ps_ret (pe_tup (pa_cons (pv 1) (pa_cons (pv 3) (pa_cons (pv 2) (pa_cons (pe_lc (own := [("_law_rest", 5)]) (g := (gName 5)) (tt := (tTest (tOp rEq (tCall spDraw [] E0 (tCons (tVar 0) (tCons (tC (.int 2)) tNil))) (tC (.int 0))))) (te := (tVar 5)) (by rfl) scYl.nd (pi_range1 (by rfl) Tb.range (pa_cons (pv 2) pa_nil)) (blkOk_by (own := [("_law_rest", 5)]) (N := nYl) (sc := defScope sYl) (by decide +kernel)) (fun _ _ _ _ _ => pg_name (i := 5) scYl.nd rfl (.inl rfl)) (fun _ _ _ _ _ => pts_one (pt_cmpR op_eq (pe_call FD r1 rfl mD kD bD .nil pass0 (pa_cons (pv 0) (pa_cons pe_int pa_nil))) pe_int (nomark _))) (fun _ _ _ _ _ => pv 5)) pa_nil)))))))), ?_⟩
    and_intros
    refine W.al fun L H1 W => ?_
    and_intros
    refine W.pick fun v H1 W hv => ?_
    obtain ⟨i, rfl, i1, i2⟩ : ∃ i : Int, v = .int i ∧ 1 ≤ i ∧ i ≤ 9 := by
      simp only [List.mem_cons, List.not_mem_nil, or_false] at hv
      rcases hv with rfl | rfl | rfl <;> exact ⟨_, rfl, by decide, by decide⟩
    obtain ⟨m, rfl⟩ : ∃ n : Nat, i = (n : Int) := ⟨i.toNat, by omega⟩
    and_intros
    refine W.draw fun n H3 W n1 n2 => ?_
    obtain ⟨n, rfl⟩ := int_nat n1
    have W := W.fg (l0 := [])
    and_intros
    refine W.al fun l2 H4 W => ?_
    and_intros
    refine W.pick fun v H5 W hv => ?_
    obtain ⟨i, rfl, j1, j2⟩ : ∃ i : Int, v = .int i ∧ 1 ≤ i ∧ i ≤ 11 := by
      simp only [List.mem_cons, List.not_mem_nil, or_false] at hv
      rcases hv with rfl | rfl | rfl | rfl | rfl | rfl <;> exact ⟨_, rfl, by decide, by decide⟩
    obtain ⟨q, rfl⟩ : ∃ n : Nat, i = (n : Int) := ⟨i.toNat, by omega⟩
    have W := W.fg (l0 := [])
    and_intros
    refine q_lc (q_iR1 ?_)
    and_intros
    refine ⟨_, rfl, by omega, by omega, ?_⟩
    rw [Int.toNat_natCast]
    refine W.lcR 1 (fun i acc _ => ∃ zs : List Int, acc = zs.map V.int ∧ zs.length ≤ i ∧ ∀ z ∈ zs, 0 ≤ z ∧ z < i) (fun _ _ _ _ _ h => h) (fun _ => ⟨[], rfl, Nat.zero_le _, fun _ h => nomatch h⟩) (by omega) (fun _ => rfl) (fun i hi D acc H2 W f la Qe Qn ke kn => ?_) (fun fw acc H6 W f => ?_)
    · obtain ⟨zs, rfl, hz⟩ := f
      and_intros
      refine W.draw fun d H3 W d1 d2 => ?_
      and_intros
      rw [dec_v]
      refine ite2 (fun _ => ?_) (fun _ => ?_)
      · and_intros
        refine ke _ _ W.le ⟨zs ++ [0 + (i : Int)], by rw [List.map_append]; rfl, by rw [List.length_append, List.length_singleton]; omega, fun z hz' => ?_⟩
        rcases List.mem_append.mp hz' with y | y
        · have := hz.2 z y
          omega
        · rw [List.mem_singleton.mp y]
          omega
      · exact kn _ W.le ⟨zs, rfl, by omega, fun z hz' => by have := hz.2 z hz'; omega⟩
    obtain ⟨xs, rfl, xl, hx⟩ := f
    have fr1 := W.newM1
    have W := W.frz.le (b' := b + 11)
    try dsimp only
    and_intros
    refine q_lc (q_iR1 ?_)
    and_intros
    refine ⟨_, rfl, by omega, by omega, ?_⟩
    rw [Int.toNat_natCast]
    refine W.lcR 1 (fun i acc _ => ∃ zs : List Int, acc = zs.map V.int ∧ zs.length ≤ i ∧ ∀ z ∈ zs, 0 ≤ z ∧ z < i) (fun _ _ _ _ _ h => h) (fun _ => ⟨[], rfl, Nat.zero_le _, fun _ h => nomatch h⟩) (by omega) (fun _ => rfl) (fun i hi D acc H2 W f la Qe Qn ke kn => ?_) (fun ov acc H7 W f => ?_)
    · obtain ⟨zs, rfl, hz⟩ := f
      and_intros
      refine W.draw fun d H3 W d1 d2 => ?_
      and_intros
      rw [dec_v]
      refine ite2 (fun _ => ?_) (fun _ => ?_)
      · and_intros
        refine ke _ _ W.le ⟨zs ++ [0 + (i : Int)], by rw [List.map_append]; rfl, by rw [List.length_append, List.length_singleton]; omega, fun z hz' => ?_⟩
        rcases List.mem_append.mp hz' with y | y
        · have := hz.2 z y
          omega
        · rw [List.mem_singleton.mp y]
          omega
      · exact kn _ W.le ⟨zs, rfl, by omega, fun z hz' => by have := hz.2 z hz'; omega⟩
    obtain ⟨ys, rfl, yl, hy⟩ := f
    have fr2 := W.newM1
    have W := W.frz.le (b' := b + 24)
    and_intros
    refine W.al fun t H8 W => ?_
    refine k H8 t n q xs ys _ W ⟨fw, ov, ?_, ?_, ?_⟩ ⟨by omega, by omega, by omega, hx, hy, by omega, by omega⟩ ?_
    · exact List.mem_cons_self ..
    · exact List.mem_cons_of_mem _ (List.mem_cons_of_mem _ (List.mem_cons_self ..))
    · exact List.mem_cons_of_mem _ (List.mem_cons_self ..)
    · intro q hq
      simp only [List.mem_cons, List.not_mem_nil, or_false] at hq
      rcases hq with rfl | rfl | rfl
      · exact .inl ⟨_, rfl⟩
      · exact .inr fr2
      · exact .inr fr1
abbrev sPl : Stmt := top 78
abbrev nPl : List Str := ["_law_pen_here", "_law_word"]
theorem scPl : FnScope nPl ["_law_pen_here"] (defScope sPl) := ⟨rfl, rfl, rfl, by decide +kernel, rfl, by decide +kernel, by decide +kernel⟩
theorem ok_Pl {fa : Addr} {fd : FuncData} (F : Fun K "_law_plan" "_law_plan" sPl fa fd) (Tb : Bi mg) (Dy : DefOf P w K mg base "_law_days" 3 ["_law_pen_here"] (spYd T)) (Dl : DefOf P w K mg base "_law_lengths" 3 ["_law_pen_here"] (spYl T)) (Dp : DefOf P w K mg base "_law_pick" 2 ["_law_pen_here", "_law_some"] spPick) : FnOk P w K mg base CX0 4 fa fd ["_law_pen_here"] (spPl T) := by
  obtain ⟨fY, fdY, FY, mY, kY, bY⟩ := Dy.ex
  obtain ⟨fL, fdL, FL, mL, kL, bL⟩ := Dl.ex
  obtain ⟨fP, fdP, FP, mP, kP, bP⟩ := Dp.ex
  refine F.ok scPl (fun vs H Q E h => ?_) (fun cdv A outer s H vs Q E hr h => ?_)
  · obtain ⟨p, c, ns, b, rfl, _⟩ := h
    rfl
  · obtain ⟨p, c, ns, b, rfl, W, hb, k⟩ := h
    have r1 := hr.mono (show 1 ≤ 3 by decide)
    have r2 := hr.mono (show 2 ≤ 3 by decide)
    have r3 := hr.mono (show 3 ≤ 3 by decide)
    refine ⟨_, pss_cons (ps_set (i := 1) scPl.nd rfl (.inl rfl) (pe_call FP r2 rfl mP kP bP .nil pass0 (pa_cons (pv 0) (pa_cons (pe_lst (pa_cons pe_str (pa_cons pe_str (pa_cons pe_str (pa_cons pe_str (pa_cons pe_str pa_nil)))))) pa_nil))))
      (pss_one (ps_ret (pe_tup (pa_cons (pv 1) (pa_cons (pe_ifExp (pt_cmpR op_eq (pv 1) pe_str (nomark _)) (pe_call FL r3 rfl mL kL bL .nil pass0 (pa_cons (pv 0) pa_nil)) (pe_call FY r3 rfl mY kY bY .nil pass0 (pa_cons (pv 0) pa_nil))) pa_nil))))), ?_⟩
    and_intros
    refine W.al fun L H1 W => ?_
    and_intros
    refine W.pick fun v H1 W hv => ?_
    obtain ⟨o, rfl⟩ : ∃ o : Option RK, v = .str (koWd o) := by
      simp only [List.mem_cons, List.not_mem_nil, or_false] at hv
      rcases hv with rfl | rfl | rfl | rfl | rfl
      · exact ⟨some .comes, rfl⟩
      · exact ⟨some .goes, rfl⟩
      · exact ⟨some .holds, rfl⟩
      · exact ⟨some .within, rfl⟩
      · exact ⟨none, rfl⟩
    have W := W.fg (l0 := [])
    and_intros
    rw [wd_is (s := "lasts") (o' := none) rfl]
    refine ite2 (fun e => ?_) (fun e => ?_)
    · obtain rfl := of_decide_eq_true e
      and_intros
      refine ⟨p, c, ns, _, rfl, W.sub, by omega, fun H2 u s q zs ys l' U e0 ok fr => ?_⟩
      have f2 := Fr.back W U fr
      have W := W.got U
      and_intros
      refine W.al fun t H3 W => ?_
      refine k H3 t (.len s q zs ys) _ W.le ?_ ok ?_
      · exact ⟨u, List.mem_cons_self .., e0.mono fun q hq => List.mem_cons_of_mem _ (List.mem_append_left _ hq)⟩
      · intro q hq
        rcases List.mem_cons.mp hq with rfl | hq
        · exact .inl ⟨_, rfl⟩
        · rcases List.mem_append.mp hq with hq | hq
          · exact f2 q hq
          · cases hq
    · obtain ⟨kk, rfl⟩ : ∃ kk, o = some kk := by
        cases o with
        | none => exact absurd (decide_eq_true rfl) e
        | some kk => exact ⟨kk, rfl⟩
      and_intros
      refine ⟨p, c, ns, _, rfl, W.sub, by omega, fun H2 u bs l' U e0 ln fr => ?_⟩
      have f2 := Fr.back W U fr
      have W := W.got U
      and_intros
      refine W.al fun t H3 W => ?_
      refine k H3 t (.day kk bs) _ W.le ?_ ln ?_
      · exact ⟨u, List.mem_cons_self .., (e0 kk).mono fun q hq => List.mem_cons_of_mem _ (List.mem_append_left _ hq)⟩
      · intro q hq
        rcases List.mem_cons.mp hq with rfl | hq
        · exact .inl ⟨_, rfl⟩
        · rcases List.mem_append.mp hq with hq | hq
          · exact f2 q hq
          · cases hq
abbrev sLt : Stmt := top 79
abbrev nLt : List Str := ["_law_plan_here", "_law_first", "_law_nights", "_law_word", "_law_told", "_law_seen", "_law_night"]
theorem scLt : FnScope nLt ["_law_plan_here", "_law_first", "_law_nights"] (defScope sLt) := ⟨rfl, rfl, rfl, by decide +kernel, rfl, by decide +kernel, by decide +kernel⟩
theorem ok_Lt {fa : Addr} {fd : FuncData} (F : Fun K "_law_lets" "_law_lets" sLt fa fd) (Tb : Bi mg) : FnOk P w K mg base CX0 1 fa fd ["_law_plan_here", "_law_first", "_law_nights"] spLt := by
  refine F.ok scLt (fun vs H Q E h => ?_) (fun cdv A outer s H vs Q E hr h => ?_)
  · obtain ⟨t, x, n, d, rfl, _⟩ := h
    rfl
  · obtain ⟨t, x, n, d, rfl, ⟨u, e1, e2⟩, ok, n1, n2, k⟩ := h
    refine ⟨_, pss_cons (ps_asg (pv 0) (pg_tup rfl (pgs_cons (pg_name (i := 3) scLt.nd rfl (.inl rfl)) (pgs_cons (pg_name (i := 4) scLt.nd rfl (.inr rfl)) pgs_nil))))
      (pss_cons (ps_if (pt_cmpR op_eq (pv 3) pe_str (nomark _)) (pss_one (ps_ret (pe_ifExp (pt_cmpR op_lt (pv 2) (pe_ix ix_tup (pv 4) pe_int (fun _ _ => rfl)) (nomark _)) (pe_cmpR op_in_seq (pv 2) (pe_ix ix_tup (pv 4) pe_int (fun _ _ => rfl)) rfl) (pe_cmpR op_in_seq (pe_op op_mod (pe_callTy call_int1 (by rfl) Tb.int (by decide +kernel) (pa_cons (pv 2) pa_nil)) (pe_ix ix_tup (pv 4) pe_int (fun _ _ => rfl))) (pe_ix ix_tup (pv 4) pe_int (fun _ _ => rfl)) rfl)))) pss_nil)
      (pss_cons (ps_if (PW.pt (pw_or (pt_cmpR op_eq (pv 3) pe_str (nomark _)) (pw_or1 (pt_cmpR op_eq (pv 3) pe_str (nomark _))))) (pss_one (ps_ret (pe_cmpR op_in_seq (pe_op op_mod (pe_callTy call_int1 (by rfl) Tb.int (by decide +kernel) (pa_cons (pe_op op_add (pv 1) (pe_op op_mul (pv 2) (pe_callTy call_int1 (by rfl) Tb.int (by decide +kernel) (pa_cons (pe_cmpR op_eq (pv 3) pe_str (nomark _)) pa_nil)))) pa_nil)) (pe_ix ix_tup (pv 4) pe_int (fun _ _ => rfl))) (pe_ix ix_tup (pv 4) pe_int (fun _ _ => rfl)) rfl))) pss_nil)
      (pss_cons (ps_setLc (i := 5) (own := [("_law_night", 6)]) (g := (gName 6)) (tt := tYes) (te := (tOp (rIn K false) (tOp (rI (fun _ j => 0 < j) fun i j => .int (i % j)) (tCB rInt1 (tCons (tVar 6) tNil)) (tOp (rIxT K) (tVar 4) (tC (.int 0)))) (tOp (rIxT K) (tVar 4) (tC (.int 1))))) (by rfl) scLt.nd rfl rfl (sw_true rfl rfl rfl (by decide +kernel)) (pi_rangeA (by rfl) Tb.range (pa_cons (pv 1) (pa_cons (pe_op op_add (pv 1) (pv 2)) pa_nil))) (blkOk_by (own := [("_law_night", 6)]) (N := nLt) (sc := defScope sLt) (by decide +kernel)) (fun _ _ _ _ _ => pg_name (i := 6) scLt.nd rfl (.inl rfl)) (fun _ _ _ _ _ => pts_nil) (fun _ _ _ _ _ => pe_cmpR op_in_seq (pe_op op_mod (pe_callTy call_int1 (by rfl) Tb.int (by decide +kernel) (pa_cons (pv 6) pa_nil)) (pe_ix ix_tup (pv 4) pe_int (fun _ _ => rfl))) (pe_ix ix_tup (pv 4) pe_int (fun _ _ => rfl)) rfl))
      (pss_one (ps_ret (pe_ifExp (pt_cmpR op_eq (pv 3) pe_str (nomark _)) (pe_cmpR op_in_seq pe_bl (pv 5) rfl) (pe_cmpR op_notIn_seq pe_bl (pv 5) rfl))))))), ?_⟩
    refine q_sag ?_
    and_intros
    refine ⟨t, _, rfl, .inl (.inl e1), rfl, _, _, rfl, _, _, rfl, rfl, ?_⟩
    try dsimp only
    and_intros
    rw [wd_is (s := "lasts") (o' := none) rfl]
    refine ite2 (fun e => ?_) (fun e => ?_)
    · have e : d.ko = none := of_decide_eq_true e
      cases d with
      | day => cases e
      | len s q zs ys =>
        obtain ⟨fw, ov, e2, e3, e4⟩ := e2
        obtain ⟨n, rfl⟩ := int_nat (show 0 ≤ n by omega)
        have p1 : 1 ≤ q := ok.q1
        have k := k _ (Same.refl _)
        rw [show PD.lets (.len s q zs ys) x n = telF s q zs ys n by show telF s q zs ys (n : Int).toNat = _; rw [Int.toNat_natCast]] at k
        and_intros
        refine q_ixT e2 (v := .int s) rfl ?_
        and_intros
        refine ite2 (fun c => ?_) (fun c => ?_)
        · have c : n < s := by have := of_decide_eq_true c; omega
          and_intros
          refine q_ixT e2 (v := .ref fw) rfl ?_
          refine rd_inI (.inl e3) ?_
          rw [telF, if_pos c] at k
          exact k
        · have c : ¬ n < s := fun z => c (decide_eq_true (by omega))
          and_intros
          refine q_ixT e2 (v := .int q) rfl ?_
          refine ⟨_, _, rfl, rfl, by show (0 : Int) < q; omega, ?_⟩
          and_intros
          refine q_ixT e2 (v := .ref ov) rfl ?_
          refine rd_inI (.inl e4) ?_
          rw [telF, if_neg c] at k
          exact k
    · cases d with
      | len => exact absurd (decide_eq_true rfl) e
      | day kk bs =>
        obtain ⟨L, e2, e3⟩ := e2
        and_intros
        rw [wd_is (s := "comes") (o' := some .comes) rfl]
        refine ite2 (fun e => ?_) (fun e => ?_)
        · obtain rfl : kk = .comes := Option.some.inj (of_decide_eq_true e)
          refine (if_pos rfl).mpr ?_
          and_intros
          refine .inr ⟨_, rfl, ?_⟩
          refine ⟨_, _, rfl, rfl, .inl ⟨by omega, by omega⟩, ?_⟩
          and_intros
          refine q_ixT e2 (v := .int bs.length) rfl ?_
          refine ⟨_, _, rfl, rfl, by show (0 : Int) < bs.length; have := ok.lo; omega, ?_⟩
          and_intros
          refine q_ixT e2 (v := .ref L) rfl ?_
          refine rd_inI (.inl e3) ?_
          rw [dinB_all ok.lo]
          have e0 : (if decide (V.str (koWd (PD.day RK.comes bs).ko) = V.str "goes") = true then (1 : Int) else 0) = 0 := by rw [wd_is (s := "goes") (o' := some .goes) rfl]; rfl
          rw [e0, Int.mul_zero, Int.add_zero]
          exact k _ (Same.refl _)
        and_intros
        rw [wd_is (s := "goes") (o' := some .goes) rfl]
        refine ite2 (fun e' => ?_) (fun e' => ?_)
        · obtain rfl : kk = .goes := Option.some.inj (of_decide_eq_true e')
          and_intros
          refine .inr ⟨_, rfl, ?_⟩
          refine ⟨_, _, rfl, rfl, .inl ⟨by omega, by omega⟩, ?_⟩
          and_intros
          refine q_ixT e2 (v := .int bs.length) rfl ?_
          refine ⟨_, _, rfl, rfl, by show (0 : Int) < bs.length; have := ok.lo; omega, ?_⟩
          and_intros
          refine q_ixT e2 (v := .ref L) rfl ?_
          refine rd_inI (.inl e3) ?_
          rw [dinB_all ok.lo]
          have e0 : (if decide (V.str (koWd (PD.day RK.goes bs).ko) = V.str "goes") = true then (1 : Int) else 0) = 1 := by rw [wd_is (s := "goes") (o' := some .goes) rfl]; rfl
          rw [e0, Int.mul_one]
          exact k _ (Same.refl _)
        and_intros
        refine q_lc ?_
        and_intros
        refine ⟨_, _, rfl, ?_⟩
        rw [show (x + n - x).toNat = n.toNat by omega]
        intro D hD
        refine lc_filR (fun _ => true) (fun k => .bl (dinB bs k)) hD (by rw [sizeLine_eq]; omega) (fun _ => rfl) (fun k hk H' Q s1 q => by and_intros; exact q) (fun k hk _ H' Q s1 q => ?_) ?_
        · and_intros
          refine q_ixT (s1 _ _ e2) (v := .int bs.length) rfl ?_
          refine ⟨_, _, rfl, rfl, by show (0 : Int) < bs.length; have := ok.lo; omega, ?_⟩
          and_intros
          refine q_ixT (s1 _ _ e2) (v := .ref L) rfl ?_
          refine rd_inI (.inl (s1 _ _ e3)) ?_
          rw [dinB_all ok.lo]
          exact q
        rw [List.filter_eq_self.mpr (fun _ _ => rfl), show (rgN x n.toNat).map (fun k => V.bl (dinB bs k)) = ((rgN x n.toNat).map (dinB bs)).map V.bl from (List.map_map ..).symm]
        have s1 := same_new (o := .lst (((rgN x n.toNat).map (dinB bs)).map V.bl)) (Same.refl H) hD
        have eD : upd H D (.lst (((rgN x n.toNat).map (dinB bs)).map V.bl)) D = some (.lst (((rgN x n.toNat).map (dinB bs)).map V.bl)) := upd_same
        generalize upd H D (.lst (((rgN x n.toNat).map (dinB bs)).map V.bl)) = H1 at s1 eD
        have ex : x + n - x = n := by omega
        have k := k H1 s1
        try dsimp only
        and_intros
        rw [wd_is (s := "holds") (o' := some .holds) rfl]
        refine ite2 (fun e2 => ?_) (fun e2 => ?_)
        · obtain rfl : kk = .holds := Option.some.inj (of_decide_eq_true e2)
          and_intros
          refine rd_inB eD ?_
          rw [in_true, List.any_map]
          rw [show PD.lets (.day .holds bs) x n = (nights x (x + n)).any (dinB bs) from rfl, nights, ex] at k
          exact k
        · obtain rfl : kk = .within := by
            cases kk with
            | comes => exact absurd rfl e
            | goes => exact absurd rfl e'
            | holds => exact absurd rfl e2
            | within => rfl
          and_intros
          refine rd_niB eD ?_
          rw [in_false, List.all_map]
          rw [show PD.lets (.day .within bs) x n = (nights x (x + n)).all (dinB bs) from rfl, nights, ex] at k
          exact k
abbrev sSe : Stmt := top 80
abbrev nSe : List Str := ["_law_plan_here", "_law_word", "_law_told"]
theorem scSe : FnScope nSe ["_law_plan_here"] (defScope sSe) := ⟨rfl, rfl, rfl, by decide +kernel, rfl, by decide +kernel, by decide +kernel⟩
theorem ok_Se {fa : Addr} {fd : FuncData} (F : Fun K "_law_set" "_law_set" sSe fa fd) (Dr : DyD P w K mg base Bd Cd) (Lr : LnD P w K mg base B Bm Cl) : FnOk P w K mg base CX0 7 fa fd ["_law_plan_here"] (spSe Cd Cl) := by
  obtain ⟨fDi, fdDi, MD_, FDi, bDi⟩ := Dr.ini
  obtain ⟨fLi, fdLi, ex1, ex2, dv1, dv2, ML_, FLi, bLi, _⟩ := Lr.ini
  refine F.ok scSe (fun vs H Q E h => ?_) (fun cdv A outer s H vs Q E hr h => ?_)
  · obtain ⟨t, d, rfl, _⟩ := h
    rfl
  · obtain ⟨t, d, rfl, ⟨u, e1, e2⟩, ok, k⟩ := h
    have r5 := hr.mono (show 5 ≤ 6 by decide)
    have r6 := hr.mono (show 6 ≤ 6 by decide)
    refine ⟨_, pss_cons (ps_asg (pv 0) (pg_tup rfl (pgs_cons (pg_name (i := 1) scSe.nd rfl (.inl rfl)) (pgs_cons (pg_name (i := 2) scSe.nd rfl (.inl rfl)) pgs_nil))))
      (pss_one (ps_ret (pe_ifExp (pt_cmpR op_eq (pv 1) pe_str (nomark _)) (pe_make ML_ FLi r5 rfl Lr.mgC bLi .nil passL (pa_cons (pe_ix ix_tup (pv 2) pe_int (fun _ _ => rfl)) (pa_cons (pe_ix ix_tup (pv 2) pe_int (fun _ _ => rfl)) (pa_cons (pe_ix ix_tup (pv 2) pe_int (fun _ _ => rfl)) (pa_cons (pe_ix ix_tup (pv 2) pe_int (fun _ _ => rfl)) pa_nil))))) (pe_make MD_ FDi r6 rfl Dr.mgC bDi .nil passL (pa_cons (pe_ix ix_tup (pv 2) pe_int (fun _ _ => rfl)) (pa_cons (pe_ix ix_tup (pv 2) pe_int (fun _ _ => rfl)) pa_nil)))))), ?_⟩
    refine q_sag ?_
    and_intros
    refine ⟨t, _, rfl, .inl (.inl e1), rfl, _, _, rfl, _, _, rfl, rfl, ?_⟩
    try dsimp only
    and_intros
    rw [wd_is (s := "lasts") (o' := none) rfl]
    refine ite2 (fun e => ?_) (fun e => ?_)
    · have e : d.ko = none := of_decide_eq_true e
      cases d with
      | day => cases e
      | len s q zs ys =>
        obtain ⟨fw, ov, e2, e3, e4⟩ := e2
        have p1 : 1 ≤ q := ok.q1
        have q2 := ok.q2
        have hs := ok.hs
        have l1 := ok.ln
        have l2 := ok.lm
        and_intros
        refine q_ixT e2 (v := .int s) rfl ?_
        and_intros
        refine q_ixT e2 (v := .ref fw) rfl ?_
        and_intros
        refine q_ixT e2 (v := .int q) rfl ?_
        and_intros
        refine q_ixT e2 (v := .ref ov) rfl ?_
        and_intros
        refine mk_len (LenV.ok (by omega) (SeqI.lst e3 (by omega)) ok.hn p1 (by omega) (SeqI.lst e4 (by omega)) ok.hm) (fun g e => ?_) (fun _ e => nomatch e)
        cases e
        refine ⟨fun s1 p1 L l => ?_, fun H' x s' hx => k H' x s' hx⟩
        have := telF_top ok.q1 L
        omega
    · cases d with
      | len => exact absurd (decide_eq_true rfl) e
      | day kk bs =>
        obtain ⟨L, e2, e3⟩ := e2
        and_intros
        refine q_ixT e2 (v := .int bs.length) rfl ?_
        and_intros
        refine q_ixT e2 (v := .ref L) rfl ?_
        and_intros
        exact mk_days (days_of e3 ok) (fun bs' e H' a s' h => by cases e; exact k H' a s' h) (fun _ e => nomatch e)
end
end NB
namespace NB
open PySem L2 ClX NumText TL
local macro_rules
  | `(tactic| and_intros) => `(tactic| repeat (first
    | with_reducible refine q_cons ?_ | with_reducible refine q_c ?_ | ((with_reducible apply q_var); exact rfl) | with_reducible refine q_nil ?_ | with_reducible refine q_call ?_ | with_reducible refine q_op ?_
    | with_reducible refine q_sa ?_ | with_reducible refine ra_lst ?_ | with_reducible refine ra_tup ?_ | with_reducible refine q_i0 ?_ | with_reducible refine q_cb ?_ | with_reducible refine q_test ?_ | with_reducible refine q_b ?_ | with_reducible refine q_bl ?_ | with_reducible refine q_iT ?_ | with_reducible refine q_iF ?_ | with_reducible refine q_nT ?_ | with_reducible refine q_nF ?_
    | with_reducible refine q_sif0 ?_ | with_reducible refine q_if0 ?_ | with_reducible refine q_sif ?_ | with_reducible refine q_if ?_ | with_reducible refine q_sdrop ?_ | with_reducible refine q_drop ?_ | with_reducible refine q_asg ?_ | with_reducible refine q_ret ?_ | with_reducible refine q_un ?_ | with_reducible refine q_u ?_ | with_reducible refine q_ifE ?_ | with_reducible refine q_or ?_ | with_reducible refine q_and ?_ | with_reducible refine q_not ?_ | with_reducible refine q_andV ?_ | with_reducible refine q_orV ?_ | with_reducible refine q_notV ?_ | with_reducible refine q_isN ?_ | with_reducible refine q_notN ?_ | with_reducible refine q_make ?_ | with_reducible refine q_meth ?_ | with_reducible refine q_sp ?_ | with_reducible refine q_par ?_ | with_reducible refine q_two ?_ | with_reducible refine q_in ?_ | with_reducible refine q_sl ?_ | with_reducible refine q_part ?_ | with_reducible refine q_nopart ?_ | with_reducible refine q_fmt ?_ | with_reducible refine q_dnew ?_ | with_reducible refine q_chain ?_ | with_reducible refine q_yes ?_ | with_reducible refine q_lstM ?_ | with_reducible refine q_smC ?_ | with_reducible refine q_mkO ?_ | with_reducible refine q_int1' ?_ | with_reducible refine q_iR1 ?_ | with_reducible refine q_iR2 ?_ | with_reducible refine q_iRA ?_ | with_reducible refine q_iL ?_ | with_reducible refine q_iT2 ?_ | with_reducible refine q_rA ?_ | with_reducible refine q_iR3 ?_ | with_reducible refine q_sfor ?_ | with_reducible refine q_for ?_
    | ((with_reducible refine q_eq ?_ ?_); exact rfl) | ((with_reducible refine q_ne ?_ ?_); exact rfl) | ((with_reducible refine q_pow ?_ ?_); exact ⟨by decide, by decide, by decide⟩)))
def spMa (Cd Cl : Addr) (cl : Option RK → Addr) : Sp := fun vs H Q _ => ∃ (t : Addr) (b : Bool) (d : PD), vs = [.ref t, .bl b] ∧ IsPl H t d ∧ d.ok ∧ ∀ H' a, Same H H' → IsRu Cd Cl cl H' a d → Q (.ref a) H'
/-- the classes of a rule, as the law lists them -/
def kindsB (o : Option RK) : List Bool := [decide (o = some .comes), decide (o = some .goes), decide (o = some .holds), decide (o = some .within), decide (o = none), o.isSome, isNt o, o.isNone, true]
def spKi (Cd Cl : Addr) (cl : Option RK → Addr) : Sp := fun vs H Q _ => ∃ (a : Addr) (d : PD), vs = [.ref a] ∧ IsRu Cd Cl cl H a d ∧ ∀ H' L, Same H H' → L ≠ sysModules → H' L = some (.lst ((kindsB d.ko).map V.bl)) → Q (.ref L) H'
def spKd : Sp := fun vs H Q _ => ∃ (o : Option RK), vs = [.str (koWd o)] ∧ ∀ H' L, Same H H' → L ≠ sysModules → H' L = some (.lst ((kindsB o).map V.bl)) → Q (.ref L) H'
/-- the names of the classes, and which class lies in which -/
structure G18 (K : PySem.W.Frag) (mg : Str → Option Value) (R KD KN KL : Addr) (cl : Option RK → Addr) : Prop where
  Co : mg "Comes" = some (.ref (cl (some .comes)))
  Go : mg "Goes" = some (.ref (cl (some .goes)))
  Ho : mg "Holds" = some (.ref (cl (some .holds)))
  Wi : mg "Within" = some (.ref (cl (some .within)))
  La : mg "Lasts" = some (.ref (cl none))
  gKD : mg "DayRule" = some (.ref KD)
  gKN : mg "NightRule" = some (.ref KN)
  gKL : mg "LengthRule" = some (.ref KL)
  gR : mg "Rule" = some (.ref R)
  kk : ∀ o o', PySem.W.kitOne K (.ref (cl o)) (.ref (cl o')) = some (decide (o = o'))
  kD : ∀ o, PySem.W.kitOne K (.ref (cl o)) (.ref KD) = some o.isSome
  kN : ∀ o, PySem.W.kitOne K (.ref (cl o)) (.ref KN) = some (isNt o)
  kL : ∀ o, PySem.W.kitOne K (.ref (cl o)) (.ref KL) = some o.isNone
theorem mk_dr {K : PySem.W.Frag} {B R Cd C d : Addr} {wd : Str} {bs : List Bool} {H : Hp} {Q : Addr → Hp → Prop} {E : XK} (h : IsDays H Cd d bs) (k : ∀ H' a, Same H H' → IsDR Cd H' C a wd bs → Q a H') :
    ∀ x dx, H x = none → H dx = none → dx ≠ x → spDRI K B R Cd C wd [.ref x, .ref d] (upd (upd H dx (.own x)) x (.ins C dx [])) (fun v H2 => v = .non ∧ Q x H2) E := by
  intro x dx hx hdx ne
  have s1 : Same H (upd (upd H dx (.own x)) x (.ins C dx [])) := fun b o e => by
    rw [upd_ne (ne_of_none e hx), upd_ne (ne_of_none e hdx)]
    exact e
  exact ⟨x, dx, _, rfl, upd_same, .inl ⟨d, bs, rfl, h.keep s1, fun H' b r => ⟨rfl, k H' x (fun y o q => b y o (ne_of_none q hx) (s1 y o q)) r⟩⟩⟩
theorem mk_lr {K : PySem.W.Frag} {B R Cl C d : Addr} {wd : Str} {f : Nat → Bool} {H : Hp} {Q : Addr → Hp → Prop} {E : XK} (h : IsLen H Cl d f) (k : ∀ H' a, Same H H' → IsLR Cl H' C a wd f → Q a H') :
    ∀ x dx, H x = none → H dx = none → dx ≠ x → spLRI K B R Cl C wd [.ref x, .ref d] (upd (upd H dx (.own x)) x (.ins C dx [])) (fun v H2 => v = .non ∧ Q x H2) E := by
  intro x dx hx hdx ne
  have s1 : Same H (upd (upd H dx (.own x)) x (.ins C dx [])) := fun b o e => by
    rw [upd_ne (ne_of_none e hx), upd_ne (ne_of_none e hdx)]
    exact e
  exact ⟨x, dx, _, rfl, upd_same, .inl ⟨d, f, rfl, h.keep s1, fun H' b r => ⟨rfl, k H' x (fun y o q => b y o (ne_of_none q hx) (s1 y o q)) r⟩⟩⟩
theorem dr_blN {K : PySem.W.Frag} {H : Hp} : ∀ bs : List Bool, DRs K H (bs.map V.bl) (bs.map PyData.bool)
  | [] => .nil
  | b :: bs => .cons (.bl b) (dr_blN bs)
theorem bools_smallN (bs : List Bool) (h : bs.length ≤ 10) : (PyData.list (bs.map PyData.bool)).showable = true ∧ (PyData.list (bs.map PyData.bool)).depth ≤ 60 ∧ (PyData.list (bs.map PyData.bool)).shown.length ≤ sizeLine := by
  refine small_list (fun d hd => ?_) (by rw [List.length_map]; omega)
  obtain ⟨b, _, rfl⟩ := List.mem_map.mp hd
  cases b
  · exact ⟨rfl, by decide +kernel, by decide +kernel⟩
  · exact ⟨rfl, by decide +kernel, by decide +kernel⟩
theorem Al.i {n : Nat} {o : HO} {H : Hp} {k : Addr → Hp → Prop} (h : ∀ a H', Same H H' → H' a = some o → k a H') (hz : n ≤ sizeLine := by exact Nat.le_of_ble_eq_true rfl) : Al n o H k := ⟨hz, fun a e => h a _ (same_new (Same.refl H) e) upd_same⟩
theorem AlM.i {n : Nat} {o : HO} {H : Hp} {k : Addr → Hp → Prop} (h : ∀ a H', Same H H' → a ≠ sysModules → H' a = some o → k a H') (hz : n ≤ sizeLine := by exact Nat.le_of_ble_eq_true rfl) : AlM n o H k := ⟨hz, fun a e na => h a _ (same_new (Same.refl H) e) na upd_same⟩
theorem rd_isR {K : PySem.W.Frag} {H : Hp} {v : V} {T : Value} {X : Addr} {b : Bool} {Q : VK} (ty : TyX K H v T) (kc : PySem.W.kitOne K T (.ref X) = some b) (q : Q (.bl b) H) : rIsi K [v, .ref X] H Q := ⟨_, _, _, _, b, rfl, .own X, ty, kc, q⟩
theorem q_reprBN {K : PySem.W.Frag} {H : Hp} {Q : VK} {a : Addr} {bs : List Bool} (h : H a = some (.lst (bs.map V.bl))) (na : a ≠ sysModules) (hz : bs.length ≤ 10) (q : Q (.str (PyData.list (bs.map PyData.bool)).shown) H) : rRepr K [.ref a] H Q :=
  q_repr (.lst na (SqL.of h) (dr_blN bs)) (bools_smallN bs hz) q
section
variable {P : Program} {w : World} {K : PySem.W.Frag} {mg : Str → Option Value} {base : Heap} {B Bm Bc Bt Bd Bs Br C R Cd Cl Cs KD KN KL : Addr} {cl : Option RK → Addr} {T : List (Addr × Str)}
abbrev sMa : Stmt := top 81
abbrev nMa : List Str := ["_law_plan_here", "_law_is_named", "_law_word", "_law_given"]
theorem scMa : FnScope nMa ["_law_plan_here", "_law_is_named"] (defScope sMa) := ⟨rfl, rfl, rfl, by decide +kernel, rfl, by decide +kernel, by decide +kernel⟩
theorem ok_Ma {fa : Addr} {fd : FuncData} (F : Fun K "_law_made" "_law_made" sMa fa fd) (Dse : DefOf P w K mg base "_law_set" 7 ["_law_plan_here"] (spSe Cd Cl)) (ICo : RuI P w K mg base "Comes" "days" (cl (some .comes)) (spDRI K Br R Cd (cl (some .comes)) (RK.word .comes))) (IGo : RuI P w K mg base "Goes" "days" (cl (some .goes)) (spDRI K Br R Cd (cl (some .goes)) (RK.word .goes))) (IHo : RuI P w K mg base "Holds" "days" (cl (some .holds)) (spDRI K Br R Cd (cl (some .holds)) (RK.word .holds))) (IWi : RuI P w K mg base "Within" "days" (cl (some .within)) (spDRI K Br R Cd (cl (some .within)) (RK.word .within))) (ILa : RuI P w K mg base "Lasts" "lengths" (cl none) (spLRI K Br R Cl (cl none) "lasts")) : FnOk P w K mg base CX0 8 fa fd ["_law_plan_here", "_law_is_named"] (spMa Cd Cl cl) := by
  obtain ⟨fS, fdS, FS, mS, kS, bS⟩ := Dse.ex
  obtain ⟨fCo, fdCo, MCo, FCo, bCo, wCo⟩ := ICo.ini
  obtain ⟨fGo, fdGo, MGo, FGo, bGo, wGo⟩ := IGo.ini
  obtain ⟨fHo, fdHo, MHo, FHo, bHo, wHo⟩ := IHo.ini
  obtain ⟨fWi, fdWi, MWi, FWi, bWi, wWi⟩ := IWi.ini
  obtain ⟨fLa, fdLa, MLa, FLa, bLa, wLa⟩ := ILa.ini
  refine F.ok scMa (fun vs H Q E h => ?_) (fun cdv A outer s H vs Q E hr h => ?_)
  · obtain ⟨t, b, d, rfl, _⟩ := h
    rfl
  · obtain ⟨t, b, d, rfl, hp, ok, k⟩ := h
    obtain ⟨u, e1, e2⟩ := id hp
    have r6 := hr.mono (show 6 ≤ 7 by decide)
    have r7 := hr.mono (show 7 ≤ 7 by decide)
    refine ⟨_, pss_cons (ps_par (i := 2) (j := 3) rfl scMa.nd rfl rfl (by decide) rfl rfl (pa_cons (pe_ix ix_tup (pv 0) pe_int (fun _ _ => rfl)) (pa_cons (pe_call FS r7 rfl mS kS bS .nil pass0 (pa_cons (pv 0) pa_nil)) pa_nil)) (by rfl))
      (pss_cons (ps_if (pt_cmpR op_eq (pv 2) pe_str (nomark _)) (pss_one (ps_ret (pe_ifExp (pt_val (pv 1)) (pe_makeK0 MLa FLa r6 (by rfl) ILa.mgC wLa passL (pk_cons (pv 3) pk_nil)) (pe_make MLa FLa r6 rfl ILa.mgC bLa .nil passL (pa_cons (pv 3) pa_nil))))) pss_nil)
      (pss_cons (ps_if (pt_cmpR op_eq (pv 2) pe_str (nomark _)) (pss_one (ps_ret (pe_ifExp (pt_val (pv 1)) (pe_makeK0 MCo FCo r6 (by rfl) ICo.mgC wCo passL (pk_cons (pv 3) pk_nil)) (pe_make MCo FCo r6 rfl ICo.mgC bCo .nil passL (pa_cons (pv 3) pa_nil))))) pss_nil)
      (pss_cons (ps_if (pt_cmpR op_eq (pv 2) pe_str (nomark _)) (pss_one (ps_ret (pe_ifExp (pt_val (pv 1)) (pe_makeK0 MGo FGo r6 (by rfl) IGo.mgC wGo passL (pk_cons (pv 3) pk_nil)) (pe_make MGo FGo r6 rfl IGo.mgC bGo .nil passL (pa_cons (pv 3) pa_nil))))) pss_nil)
      (pss_cons (ps_if (pt_cmpR op_eq (pv 2) pe_str (nomark _)) (pss_one (ps_ret (pe_ifExp (pt_val (pv 1)) (pe_makeK0 MHo FHo r6 (by rfl) IHo.mgC wHo passL (pk_cons (pv 3) pk_nil)) (pe_make MHo FHo r6 rfl IHo.mgC bHo .nil passL (pa_cons (pv 3) pa_nil))))) pss_nil)
      (pss_one (ps_ret (pe_ifExp (pt_val (pv 1)) (pe_makeK0 MWi FWi r6 (by rfl) IWi.mgC wWi passL (pk_cons (pv 3) pk_nil)) (pe_make MWi FWi r6 rfl IWi.mgC bWi .nil passL (pa_cons (pv 3) pa_nil))))))))), ?_⟩
    and_intros
    refine q_ixT e1 (v := .str (koWd d.ko)) rfl ?_
    and_intros
    refine ⟨t, d, rfl, hp, ok, fun H1 g s1 hs => ?_⟩
    try dsimp only
    and_intros
    rw [wd_is (s := "lasts") (o' := none) rfl]
    refine ite2 (fun e => ?_) (fun e => ?_)
    · have e : d.ko = none := of_decide_eq_true e
      cases d with
      | day => cases e
      | len s q zs ys =>
        have hs : IsLen H1 Cl g (telF s q zs ys) := hs
        and_intros
        cases b
        · refine iteF ?_
          and_intros
          exact mk_lr hs fun H' a s2 h2 => k H' a (s1.trans s2) h2
        · refine iteT ?_
          refine q_mkK ?_
          and_intros
          exact ⟨rfl, rfl, mk_lr hs fun H' a s2 h2 => k H' a (s1.trans s2) h2⟩
    · cases d with
      | len => exact absurd (decide_eq_true rfl) e
      | day kk bs =>
        have hs : IsDays H1 Cd g bs := hs
        and_intros
        rw [wd_is (s := "comes") (o' := some .comes) rfl]
        refine ite2 (fun ec => ?_) (fun ec => ?_)
        · obtain rfl : kk = .comes := Option.some.inj (of_decide_eq_true ec)
          and_intros
          cases b
          · refine iteF ?_
            and_intros
            exact mk_dr hs fun H' a s2 h2 => k H' a (s1.trans s2) h2
          · refine iteT ?_
            refine q_mkK ?_
            and_intros
            exact ⟨rfl, rfl, mk_dr hs fun H' a s2 h2 => k H' a (s1.trans s2) h2⟩
        and_intros
        rw [wd_is (s := "goes") (o' := some .goes) rfl]
        refine ite2 (fun eg => ?_) (fun eg => ?_)
        · obtain rfl : kk = .goes := Option.some.inj (of_decide_eq_true eg)
          and_intros
          cases b
          · refine iteF ?_
            and_intros
            exact mk_dr hs fun H' a s2 h2 => k H' a (s1.trans s2) h2
          · refine iteT ?_
            refine q_mkK ?_
            and_intros
            exact ⟨rfl, rfl, mk_dr hs fun H' a s2 h2 => k H' a (s1.trans s2) h2⟩
        and_intros
        rw [wd_is (s := "holds") (o' := some .holds) rfl]
        refine ite2 (fun eh => ?_) (fun eh => ?_)
        · obtain rfl : kk = .holds := Option.some.inj (of_decide_eq_true eh)
          and_intros
          cases b
          · refine iteF ?_
            and_intros
            exact mk_dr hs fun H' a s2 h2 => k H' a (s1.trans s2) h2
          · refine iteT ?_
            refine q_mkK ?_
            and_intros
            exact ⟨rfl, rfl, mk_dr hs fun H' a s2 h2 => k H' a (s1.trans s2) h2⟩
        and_intros
        obtain rfl : kk = .within := by
          cases kk with
          | comes => exact absurd rfl ec
          | goes => exact absurd rfl eg
          | holds => exact absurd rfl eh
          | within => rfl
        cases b
        · refine iteF ?_
          and_intros
          exact mk_dr hs fun H' a s2 h2 => k H' a (s1.trans s2) h2
        · refine iteT ?_
          refine q_mkK ?_
          and_intros
          exact ⟨rfl, rfl, mk_dr hs fun H' a s2 h2 => k H' a (s1.trans s2) h2⟩
abbrev sKi : Stmt := top 82
abbrev nKi : List Str := ["_law_thing", "_law_found"]
theorem scKi : FnScope nKi ["_law_thing"] (defScope sKi) := ⟨rfl, rfl, rfl, by decide +kernel, rfl, by decide +kernel, by decide +kernel⟩
theorem ok_Ki {fa : Addr} {fd : FuncData} (F : Fun K "_law_kinds" "_law_kinds" sKi fa fd) (Tb : Bi mg) (S : R18 P w K mg base Bs R Cd Cl Cs cl) (G : G18 K mg R KD KN KL cl) : FnOk P w K mg base CX0 1 fa fd ["_law_thing"] (spKi Cd Cl cl) := by
  refine F.ok scKi (fun vs H Q E h => ?_) (fun cdv A outer s H vs Q E hr h => ?_)
  · obtain ⟨a, d, rfl, _⟩ := h
    rfl
  · obtain ⟨a, d, rfl, hr_, k⟩ := h
    refine ⟨_, pss_cons (ps_set (i := 1) scKi.nd rfl (.inl rfl) (pe_lst (pa_cons (pe_callB call_isi (by rfl) Tb.isinstance (by decide +kernel) (pa_cons (pv 0) (pa_cons (pe_glob (v := .ref (cl (some .comes))) (by rfl) G.Co rfl) pa_nil))) (pa_cons (pe_callB call_isi (by rfl) Tb.isinstance (by decide +kernel) (pa_cons (pv 0) (pa_cons (pe_glob (v := .ref (cl (some .goes))) (by rfl) G.Go rfl) pa_nil))) (pa_cons (pe_callB call_isi (by rfl) Tb.isinstance (by decide +kernel) (pa_cons (pv 0) (pa_cons (pe_glob (v := .ref (cl (some .holds))) (by rfl) G.Ho rfl) pa_nil))) (pa_cons (pe_callB call_isi (by rfl) Tb.isinstance (by decide +kernel) (pa_cons (pv 0) (pa_cons (pe_glob (v := .ref (cl (some .within))) (by rfl) G.Wi rfl) pa_nil))) pa_nil))))))
      (pss_cons (ps_set (i := 1) scKi.nd rfl (.inl rfl) (pe_op op_cat (pv 1) (pe_lst (pa_cons (pe_callB call_isi (by rfl) Tb.isinstance (by decide +kernel) (pa_cons (pv 0) (pa_cons (pe_glob (v := .ref (cl none)) (by rfl) G.La rfl) pa_nil))) (pa_cons (pe_callB call_isi (by rfl) Tb.isinstance (by decide +kernel) (pa_cons (pv 0) (pa_cons (pe_glob (v := .ref KD) (by rfl) G.gKD rfl) pa_nil))) (pa_cons (pe_callB call_isi (by rfl) Tb.isinstance (by decide +kernel) (pa_cons (pv 0) (pa_cons (pe_glob (v := .ref KN) (by rfl) G.gKN rfl) pa_nil))) pa_nil))))))
      (pss_one (ps_ret (pe_op op_catM (pv 1) (pe_lst (pa_cons (pe_callB call_isi (by rfl) Tb.isinstance (by decide +kernel) (pa_cons (pv 0) (pa_cons (pe_glob (v := .ref KL) (by rfl) G.gKL rfl) pa_nil))) (pa_cons (pe_callB call_isi (by rfl) Tb.isinstance (by decide +kernel) (pa_cons (pv 0) (pa_cons (pe_glob (v := .ref R) (by rfl) G.gR rfl) pa_nil))) pa_nil))))))), ?_⟩
    and_intros
    refine rd_isR (hr_.ty S) (G.kk _ _) ?_
    and_intros
    refine rd_isR (hr_.ty S) (G.kk _ _) ?_
    and_intros
    refine rd_isR (hr_.ty S) (G.kk _ _) ?_
    and_intros
    refine rd_isR (hr_.ty S) (G.kk _ _) ?_
    and_intros
    refine Al.i fun L1 H1 s1 e1 => ?_
    have hr_ := hr_.keep s1
    and_intros
    refine rd_isR (hr_.ty S) (G.kk _ _) ?_
    and_intros
    refine rd_isR (hr_.ty S) (G.kD _) ?_
    and_intros
    refine rd_isR (hr_.ty S) (G.kN _) ?_
    and_intros
    refine Al.i fun L2 H2 s2 e2 => ?_
    have hr_ := hr_.keep s2
    have e1 := s2 _ _ e1
    and_intros
    refine q_cat e1 e2 ?_
    refine Al.i fun L3 H3 s3 e3 => ?_
    have hr_ := hr_.keep s3
    and_intros
    refine rd_isR (hr_.ty S) (G.kL _) ?_
    and_intros
    refine rd_isR (hr_.ty S) ((S.ru d.ko).c.kr) ?_
    and_intros
    refine Al.i fun L4 H4 s4 e4 => ?_
    have e3 := s4 _ _ e3
    and_intros
    refine q_catM e3 e4 ?_
    refine AlM.i fun L5 H5 s5 n5 e5 => ?_
    exact k H5 L5 ((((s1.trans s2).trans s3).trans s4).trans s5) n5 e5
abbrev sKd : Stmt := top 83
abbrev nKd : List Str := ["_law_word", "_law_words", "_law_is_night", "_law_other"]
theorem scKd : FnScope nKd ["_law_word"] (defScope sKd) := ⟨rfl, rfl, rfl, by decide +kernel, rfl, by decide +kernel, by decide +kernel⟩
theorem wd_in {o : Option RK} : inV (.str (koWd o)) [.str "holds", .str "within"] = isNt o := by
  have e : ∀ s : Str, eqV (.str s) (.str (koWd o)) = decide (V.str (koWd o) = V.str s) := fun s => by
    rw [Bool.eq_iff_iff]
    show (s == koWd o) = true ↔ _
    rw [beq_iff_eq, decide_eq_true_iff]
    exact ⟨fun z => by rw [z], fun z => (V.str.inj z).symm⟩
  unfold inV
  rw [List.any_cons, List.any_cons, e, e, wd_is (s := "holds") (o' := some .holds) rfl, wd_is (s := "within") (o' := some .within) rfl]
  rcases o with _ | o
  · rfl
  · cases o <;> rfl
theorem kinds_map (o : Option RK) : ([.str "comes", .str "goes", .str "holds", .str "within", .str "lasts"] : List V).map (fun v => V.bl (decide (v = .str (koWd o)))) = ([decide (o = some .comes), decide (o = some .goes), decide (o = some .holds), decide (o = some .within), decide (o = none)] : List Bool).map V.bl := by
  have e : ∀ (o' : Option RK) (s : Str), s = koWd o' → decide (V.str s = V.str (koWd o)) = decide (o = o') := fun o' s h => by
    rw [← wd_is h, Bool.eq_iff_iff, decide_eq_true_iff, decide_eq_true_iff]
    exact eq_comm
  simp only [List.map_cons, List.map_nil]
  rw [e (some .comes) "comes" rfl, e (some .goes) "goes" rfl, e (some .holds) "holds" rfl, e (some .within) "within" rfl, e none "lasts" rfl]
theorem ok_Kd {fa : Addr} {fd : FuncData} (F : Fun K "_law_kinds_due" "_law_kinds_due" sKd fa fd) (Tb : Bi mg) : FnOk P w K mg base CX0 1 fa fd ["_law_word"] spKd := by
  refine F.ok scKd (fun vs H Q E h => ?_) (fun cdv A outer s H vs Q E hr h => ?_)
  · obtain ⟨o, rfl, _⟩ := h
    rfl
  · obtain ⟨o, rfl, k⟩ := h
    refine ⟨_, pss_cons (ps_set (i := 1) scKd.nd rfl (.inl rfl) (pe_lst (pa_cons pe_str (pa_cons pe_str (pa_cons pe_str (pa_cons pe_str (pa_cons pe_str pa_nil)))))))
      (pss_cons (ps_set (i := 2) scKd.nd rfl (.inl rfl) (pe_cmpR op_in_seq (pv 0) (pe_lst (pa_cons pe_str (pa_cons pe_str pa_nil))) rfl))
      (pss_one (ps_ret (pe_op op_catM (pe_lc (own := [("_law_other", 3)]) (g := (gName 3)) (tt := tYes) (te := (tOp rEq (tVar 3) (tVar 0))) (by rfl) scKd.nd (pi_list (pv 1)) (blkOk_by (own := [("_law_other", 3)]) (N := nKd) (sc := defScope sKd) (by decide +kernel)) (fun _ _ _ _ _ => pg_name (i := 3) scKd.nd rfl (.inl rfl)) (fun _ _ _ _ _ => pts_nil) (fun _ _ _ _ _ => pe_cmpR op_eq (pv 3) (pv 0) (nomark _))) (pe_lst (pa_cons (pe_cmpR op_ne (pv 0) pe_str (nomark _)) (pa_cons (pv 2) (pa_cons (pe_cmpR op_eq (pv 0) pe_str (nomark _)) (pa_cons pe_bl pa_nil))))))))), ?_⟩
    and_intros
    refine Al.i fun L1 H1 s1 e1 => ?_
    and_intros
    refine Al.i fun L2 H2 s2 e2 => ?_
    have e1 := s2 _ _ e1
    and_intros
    refine ⟨L2, _, rfl, .inl (SqL.of e2), rfl, rfl, ?_⟩
    try dsimp only
    rw [if_neg (by decide), wd_in]
    and_intros
    refine q_lc (q_iL ?_)
    and_intros
    refine ⟨L1, rfl, ⟨_, SqL.of e1⟩, fun D hD => ?_⟩
    refine lc_mapXL (fun v => V.bl (decide (v = .str (koWd o)))) hD e1 (by rw [sizeLine_eq]; exact Nat.le_of_ble_eq_true rfl) (fun _ => rfl) (fun x hx H' Q s1 q => ?_) (fun H3 s3 e3 => ?_)
    · have fx : flatV x = true := by
        simp only [List.mem_cons, List.not_mem_nil, or_false] at hx
        rcases hx with rfl | rfl | rfl | rfl | rfl <;> rfl
      obtain ⟨z, rfl⟩ : ∃ z, x = .str z := by
        simp only [List.mem_cons, List.not_mem_nil, or_false] at hx
        rcases hx with rfl | rfl | rfl | rfl | rfl <;> exact ⟨_, rfl⟩
      and_intros
      exact q _ (Same.refl _)
    rw [kinds_map] at e3
    try dsimp only
    and_intros
    refine Al.i fun L4 H4 s4 e4 => ?_
    have e3 := s4 _ _ e3
    refine q_catM e3 e4 ?_
    refine AlM.i (fun L5 H5 s5 n5 e5 => ?_) (by rw [List.length_map]; exact Nat.le_of_ble_eq_true rfl)
    refine k H5 L5 ((((s1.trans s2).trans s3).trans s4).trans s5) n5 ?_
    rw [e5, wd_is (s := "lasts") (o' := none) rfl]
    cases o <;> rfl
end
end NB
namespace NB
open PySem L2 ClX NumText TL
local macro_rules
  | `(tactic| and_intros) => `(tactic| repeat (first
    | with_reducible refine q_cons ?_ | with_reducible refine q_c ?_ | ((with_reducible apply q_var); exact rfl) | with_reducible refine q_nil ?_ | with_reducible refine q_call ?_ | with_reducible refine q_op ?_
    | with_reducible refine q_sa ?_ | with_reducible refine ra_lst ?_ | with_reducible refine ra_tup ?_ | with_reducible refine q_i0 ?_ | with_reducible refine q_cb ?_ | with_reducible refine q_test ?_ | with_reducible refine q_b ?_ | with_reducible refine q_bl ?_ | with_reducible refine q_iT ?_ | with_reducible refine q_iF ?_ | with_reducible refine q_nT ?_ | with_reducible refine q_nF ?_
    | with_reducible refine q_sif0 ?_ | with_reducible refine q_if0 ?_ | with_reducible refine q_sif ?_ | with_reducible refine q_if ?_ | with_reducible refine q_sdrop ?_ | with_reducible refine q_drop ?_ | with_reducible refine q_asg ?_ | with_reducible refine q_ret ?_ | with_reducible refine q_un ?_ | with_reducible refine q_u ?_ | with_reducible refine q_ifE ?_ | with_reducible refine q_or ?_ | with_reducible refine q_and ?_ | with_reducible refine q_not ?_ | with_reducible refine q_andV ?_ | with_reducible refine q_orV ?_ | with_reducible refine q_notV ?_ | with_reducible refine q_isN ?_ | with_reducible refine q_notN ?_ | with_reducible refine q_make ?_ | with_reducible refine q_meth ?_ | with_reducible refine q_sp ?_ | with_reducible refine q_par ?_ | with_reducible refine q_two ?_ | with_reducible refine q_in ?_ | with_reducible refine q_sl ?_ | with_reducible refine q_part ?_ | with_reducible refine q_nopart ?_ | with_reducible refine q_fmt ?_ | with_reducible refine q_dnew ?_ | with_reducible refine q_chain ?_ | with_reducible refine q_yes ?_ | with_reducible refine q_lstM ?_ | with_reducible refine q_smC ?_ | with_reducible refine q_mkO ?_ | with_reducible refine q_int1' ?_ | with_reducible refine q_iR1 ?_ | with_reducible refine q_iR2 ?_ | with_reducible refine q_iRA ?_ | with_reducible refine q_iL ?_ | with_reducible refine q_iT2 ?_ | with_reducible refine q_rA ?_ | with_reducible refine q_iR3 ?_ | with_reducible refine q_sfor ?_ | with_reducible refine q_for ?_
    | ((with_reducible refine q_eq ?_ ?_); exact rfl) | ((with_reducible refine q_ne ?_ ?_); exact rfl) | ((with_reducible refine q_pow ?_ ?_); exact ⟨by decide, by decide, by decide⟩)))
structure DyE (P : Program) (w : World) (K : PySem.W.Frag) (mg : Str → Option Value) (base : Heap) (B C : Addr) : Prop extends DyD P w K mg base B C where
  eqm : OwnMP P w K mg base CX0 1 C "__eq__" (spEq K C)
  ne : NeC K C
  nf : PySem.W.notFirst K C (.ref C) = true
structure LnE (P : Program) (w : World) (K : PySem.W.Frag) (mg : Str → Option Value) (base : Heap) (B Bm C : Addr) : Prop extends LnD P w K mg base B Bm C where
  eqm : OwnMP P w K mg base CX0 1 C "__eq__" (spEqL K C)
  ne : NeC K C
  nf : PySem.W.notFirst K C (.ref C) = true
theorem Wd.syN {T : List (Addr × Str)} {p c : Addr} {ns : List Int} {H0 H : Hp} {b : Int} {ps : List SP} {ms : List (Addr × List V)} {l : List (Addr × HO)} {C a : Addr} {f t : Int} (W : Wd T p c ns H0 H b ps ms l) (h : stS C a f t ∈ ps := by repeat (first | exact List.Mem.head _ | apply List.Mem.tail)) : IsStay H C a f t := W.im _ h
theorem Wd.mkSN {T : List (Addr × Str)} {p c : Addr} {ns : List Int} {H0 H : Hp} {ps : List SP} {l : List (Addr × HO)} {K : PySem.W.Frag} {B C : Addr} {b f t : Int} {Q : Addr → Hp → Prop} {E : XK} (W : Wd T p c ns H0 H b ps [] l) (ok : StayOk f t) (k : ∀ a H', Wd T p c ns H0 H' b (stS C a f t :: ps) [] l → Q a H') :
    ∀ x dx, H x = none → H dx = none → dx ≠ x → spSInit K B C [.ref x, .int f, .int t] (upd (upd H dx (.own x)) x (.ins C dx [])) (fun v H2 => v = .non ∧ Q x H2) E :=
  mk_stay (fun _ H' a s' h => k a H' ((W.same s').add (stS C a f t) h)) (fun p e => by rw [stayBad_none ok] at e; cases e)
theorem stay_okN {f t : Int} (h1 : -(10 ^ 11) ≤ f) (h2 : f ≤ 10 ^ 11 + 100) (h3 : f < t) (h4 : t ≤ f + 400) : StayOk f t := by
  refine ⟨?_, ?_, h3, by omega⟩
  · rw [Bool.and_eq_true, decide_eq_true_iff, decide_eq_true_iff]
    show -999999999999 ≤ f ∧ f ≤ 999999999999
    omega
  · rw [Bool.and_eq_true, decide_eq_true_iff, decide_eq_true_iff]
    show -999999999999 ≤ t ∧ t ≤ 999999999999
    omega
theorem rd_neSt {P : Program} {w : World} {K : PySem.W.Frag} {mg : Str → Option Value} {base : Heap} {Bd B Bm Cd Cl a b : Addr} {H : Hp} {d : PD} {Q : VK} {E : XK} (D : DyE P w K mg base Bd Cd) (L : LnE P w K mg base B Bm Cl) (ha : IsSt Cd Cl H a d) (hb : IsSt Cd Cl H b d) (q : Q (.bl false) H) : rNeV (OwnMP P w K mg base CX0 1 · "__eq__" ·) K E (.ref a) (.ref b) H Q := by
  cases d with
  | day k bs =>
    have ha : IsDays H Cd a bs := ha
    have hb : IsDays H Cd b bs := hb
    obtain ⟨dx, fs, e1⟩ := ha.ob
    exact ⟨Cd, _, D.eqm, D.ne, a, dx, fs, .ref Cd, rfl, e1, D.ty hb, D.nf, a, bs, .ref b, true, rfl, ha, .inl ⟨b, bs, rfl, hb, (decide_eq_true rfl).symm⟩, _, rfl, q⟩
  | len s p zs ys =>
    have ha : IsLen H Cl a (telF s p zs ys) := ha
    have hb : IsLen H Cl b (telF s p zs ys) := hb
    obtain ⟨dx, fs, e1⟩ := ha.ob
    exact ⟨Cl, _, L.eqm, L.ne, a, dx, fs, .ref Cl, rfl, e1, L.ty hb, L.nf, a, _, .ref b, true, rfl, ha, .inl ⟨b, _, rfl, hb, (eqF_refl _).symm⟩, _, rfl, q⟩
theorem rd_eqSt {P : Program} {w : World} {K : PySem.W.Frag} {mg : Str → Option Value} {base : Heap} {Bd B Bm Cd Cl a b : Addr} {H : Hp} {d e : PD} {Q : VK} {E : XK} (D : DyE P w K mg base Bd Cd) (L : LnE P w K mg base B Bm Cl) (ha : IsSt Cd Cl H a d) (hb : IsSt Cd Cl H b e) (h : d.ko.isSome = e.ko.isSome) (q : Q (.bl (d.eqs e)) H) : rEqV (OwnMP P w K mg base CX0 1 · "__eq__" ·) K E (.ref a) (.ref b) H Q := by
  cases d with
  | day k bs =>
    cases e with
    | len => cases h
    | day j cs =>
      have ha : IsDays H Cd a bs := ha
      have hb : IsDays H Cd b cs := hb
      obtain ⟨dx, fs, e1⟩ := ha.ob
      exact ⟨Cd, _, D.eqm, a, dx, fs, .ref Cd, rfl, e1, D.ty hb, D.nf, a, bs, .ref b, _, rfl, ha, .inl ⟨b, cs, rfl, hb, rfl⟩, _, rfl, q⟩
  | len s p zs ys =>
    cases e with
    | day => cases h
    | len s' p' zs' ys' =>
      have ha : IsLen H Cl a (telF s p zs ys) := ha
      have hb : IsLen H Cl b (telF s' p' zs' ys') := hb
      obtain ⟨dx, fs, e1⟩ := ha.ob
      exact ⟨Cl, _, L.eqm, a, dx, fs, .ref Cl, rfl, e1, L.ty hb, L.nf, a, _, .ref b, _, rfl, ha, .inl ⟨b, _, rfl, hb, rfl⟩, _, rfl, q⟩
theorem eqr_refl (d : PD) : d.eqr d = true := by
  cases d with
  | day k bs => 
    show (decide (some k = some k) && decide (formB bs = formB bs)) = true
    rw [decide_eq_true rfl, decide_eq_true rfl]
    rfl
  | len s q zs ys =>
    show (decide ((none : Option RK) = none) && eqF (telF s q zs ys) (telF s q zs ys)) = true
    rw [decide_eq_true rfl, eqF_refl]
    rfl
def spRi (T : List (Addr × Str)) : Sp := fun vs H Q _ => ∃ (p c : Addr) (ns : List Int) (b : Int) (t : Addr) (d : PD), vs = [.ref p, .ref t] ∧ Wd T p c ns H H b [] [] [] ∧ b ≤ 9000 ∧ IsPl H t d ∧ d.ok ∧ ∀ H', Wd T p c ns H H' (b + 48) [] [] [] → Q (.bl true) H'
section
variable {P : Program} {w : World} {K : PySem.W.Frag} {mg : Str → Option Value} {base : Heap} {B Bm Bc Bt Bd Bs Br C R Cd Cl Cs KD KN KL : Addr} {cl : Option RK → Addr} {T : List (Addr × Str)}
abbrev sRi : Stmt := top 84
abbrev nRi : List Str := ["_law_pen_here", "_law_plan_here", "_law_made_here", "_law_named", "_law_turn", "_law_first", "_law_nights", "_law_stay_so", "_law_due", "_law_kept"]
theorem scRi : FnScope nRi ["_law_pen_here", "_law_plan_here"] (defScope sRi) := ⟨rfl, rfl, rfl, by decide +kernel, rfl, by decide +kernel, by decide +kernel⟩
theorem ok_Ri {fa : Addr} {fd : FuncData} (F : Fun K "_law_right" "_law_right" sRi fa fd) (Tb : Bi mg) (S : R18 P w K mg base Bs R Cd Cl Cs cl) (Dy : DyE P w K mg base Bd Cd) (Ln_ : LnE P w K mg base B Bm Cl) (Ss : StD P w K mg base Bs Cs) (Dd : DefOf P w K mg base "_law_draw" 1 ["_law_pen_here", "_law_many"] spDraw) (Dp : DefOf P w K mg base "_law_pick" 2 ["_law_pen_here", "_law_some"] spPick) (Dlt : DefOf P w K mg base "_law_lets" 1 ["_law_plan_here", "_law_first", "_law_nights"] spLt) (Dse : DefOf P w K mg base "_law_set" 7 ["_law_plan_here"] (spSe Cd Cl)) (Dma : DefOf P w K mg base "_law_made" 8 ["_law_plan_here", "_law_is_named"] (spMa Cd Cl cl)) (Dki : DefOf P w K mg base "_law_kinds" 1 ["_law_thing"] (spKi Cd Cl cl)) (Dkd : DefOf P w K mg base "_law_kinds_due" 1 ["_law_word"] spKd) : FnG P w K mg base CX0 9 fa fd ["_law_pen_here", "_law_plan_here"] (spRi T) := by
  obtain ⟨fD, fdD, FD, mD, kD, bD⟩ := Dd.ex
  obtain ⟨fP, fdP, FP, mP, kP, bP⟩ := Dp.ex
  obtain ⟨fT, fdT, FT, mT, kT, bT⟩ := Dlt.ex
  obtain ⟨fS, fdS, FS, mS, kS, bS⟩ := Dse.ex
  obtain ⟨fM, fdM, FM, mM, kM, bM⟩ := Dma.ex
  obtain ⟨fK, fdK, FK, mK, kK, bK⟩ := Dki.ex
  obtain ⟨fU, fdU, FU, mU, kU, bU⟩ := Dkd.ex
  obtain ⟨fSi, fdSi, MS_, FSi, bSi⟩ := Ss.ini
  refine okG F scRi (fun vs H Q E h => ?_) (fun cdv A outer s H vs Q E hr gd h => ?_)
  · obtain ⟨p, c, ns, b, t, d, rfl, _⟩ := h
    rfl
  · obtain ⟨p, c, ns, b, t, d, rfl, W, hb, hp, ok, k⟩ := h
    have r1 := hr.mono (show 1 ≤ 8 by decide)
    have r2 := hr.mono (show 2 ≤ 8 by decide)
    have r5 := hr.mono (show 5 ≤ 8 by decide)
    have r7 := hr.mono (show 7 ≤ 8 by decide)
    have r8 := hr.mono (show 8 ≤ 8 by decide)
    refine ⟨_, pss_cons (ps_par (i := 2) (j := 3) rfl scRi.nd rfl rfl (by decide) rfl rfl (pa_cons (pe_call FM r8 rfl mM kM bM .nil pass0 (pa_cons (pv 1) (pa_cons pe_bl pa_nil))) (pa_cons (pe_call FM r8 rfl mM kM bM .nil pass0 (pa_cons (pv 1) (pa_cons pe_bl pa_nil))) pa_nil)) (by rfl))
      (pss_cons (ps_for PassesOwn.never rfl (pi_range1 (by rfl) Tb.range (pa_cons pe_int pa_nil)) (pg_name (i := 4) scRi.nd rfl (.inl rfl))
        (pss_cons (ps_set (i := 5) scRi.nd rfl (.inl rfl) (pe_op op_add (pe_call FP r2 rfl mP kP bP .nil pass0 (pa_cons (pv 0) (pa_cons (pe_lst (pa_cons pe_int (pa_cons (pe_un un_neg pe_int) (pa_cons (pe_op op_pow pe_int pe_int) (pa_cons (pe_un un_neg (pe_op op_pow pe_int pe_int)) (pa_cons pe_int pa_nil)))))) pa_nil))) (pe_call FD r1 rfl mD kD bD .nil pass0 (pa_cons (pv 0) (pa_cons pe_int pa_nil)))))
        (pss_cons (ps_set (i := 6) scRi.nd rfl (.inl rfl) (pe_call FP r2 rfl mP kP bP .nil pass0 (pa_cons (pv 0) (pa_cons (pe_lst (pa_cons pe_int (pa_cons pe_int (pa_cons pe_int (pa_cons (pe_op op_add pe_int (pe_call FD r1 rfl mD kD bD .nil pass0 (pa_cons (pv 0) (pa_cons pe_int pa_nil)))) (pa_cons (pe_op op_add pe_int (pe_call FD r1 rfl mD kD bD .nil pass0 (pa_cons (pv 0) (pa_cons pe_int pa_nil)))) (pa_cons pe_int pa_nil))))))) pa_nil))))
        (pss_cons (ps_par (i := 7) (j := 8) rfl scRi.nd rfl rfl (by decide) rfl rfl (pa_cons (pe_make MS_ FSi r5 rfl Ss.mgC bSi .nil passL (pa_cons (pv 5) (pa_cons (pe_op op_add (pv 5) (pv 6)) pa_nil))) (pa_cons (pe_call FT r1 rfl mT kT bT .nil pass0 (pa_cons (pv 1) (pa_cons (pv 5) (pa_cons (pv 6) pa_nil)))) pa_nil)) (by rfl))
        (pss_one (ps_if (pt_cmpR op_ne (pe_callB (call_repr hr gd) (by rfl) Tb.repr (by decide +kernel) (pa_cons (pe_lstM (pa_cons (pe_calli (ps := ["self", "stay"]) (pv 2) r5 passL (pa_cons (pv 7) pa_nil)) (pa_cons (pe_callik (ps := ["self", "stay"]) (g := fun us ws => us ++ ws.reverse) (gV := fun vs zs => vs ++ zs.reverse) (pv 3) r5 passL (pk_cons (pv 7) pk_nil)) pa_nil))) pa_nil)) (pe_callB (call_repr hr gd) (by rfl) Tb.repr (by decide +kernel) (pa_cons (pe_lstM (pa_cons (pv 8) (pa_cons (pv 8) pa_nil))) pa_nil)) (nomark _)) (pss_one (ps_ret pe_bl)) pss_nil))))))
      (pss_cons (ps_set (i := 9) scRi.nd rfl (.inl rfl) (pe_ifExp (pt_cmpR op_eq (pe_ix ix_tup (pv 1) pe_int (fun _ _ => rfl)) pe_str (nomark _)) (pe_fld (pv 2) rfl) (pe_fld (pv 2) rfl)))
      (pss_cons (ps_if (PW.pt (pw_or (pt_cmpR (op_neV r2 pass0) (pv 9) (pe_call FS r7 rfl mS kS bS .nil pass0 (pa_cons (pv 1) pa_nil)) (nomark _)) (pw_or (pt_cmpR op_ne (pe_callB (call_repr hr gd) (by rfl) Tb.repr (by decide +kernel) (pa_cons (pe_propV (pv 2) r2 pass0 rfl) pa_nil)) pe_str (nomark _)) (pw_or (pt_not (pt_cmpR (op_eqV r1 pass0) (pv 2) (pv 3) (nomark _))) (pw_or1 (pt_cmpR (op_neV r2 pass0) (pv 2) (pv 3) (nomark _))))))) (pss_one (ps_ret pe_bl)) pss_nil)
      (pss_one (ps_ret (pe_cmpR op_eq (pe_callB (call_repr hr gd) (by rfl) Tb.repr (by decide +kernel) (pa_cons (pe_call FK r1 rfl mK kK bK .nil pass0 (pa_cons (pv 2) pa_nil)) pa_nil)) (pe_callB (call_repr hr gd) (by rfl) Tb.repr (by decide +kernel) (pa_cons (pe_call FU r1 rfl mU kU bU .nil pass0 (pa_cons (pe_ix ix_tup (pv 1) pe_int (fun _ _ => rfl)) pa_nil)) pa_nil)) (nomark _))))))), ?_⟩
    and_intros
    refine ⟨t, false, d, rfl, hp, ok, fun H1 a1 s1 r1_ => ?_⟩
    have W := W.same s1
    and_intros
    refine ⟨t, true, d, rfl, hp.keep s1, ok, fun H2 a2 s2 r2_ => ?_⟩
    have W := W.same s2
    have r1_ := r1_.keep s2
    have hp := (hp.keep s1).keep s2
    refine ⟨_, _, rfl, ?_⟩
    try dsimp only
    obtain ⟨pi, pr, pn, _⟩ := id W.pen
    have W0 := W
    and_intros
    refine ⟨8, rfl, by decide, by decide, for_range (n := 8) (fun j σ H' => ∃ x4 x5 x6 x7 x8 x9, σ = [some (.ref p), some (.ref t), some (.ref a1), some (.ref a2), x4, x5, x6, x7, x8, x9] ∧ Wd T p c ns H2 H' (b + (j : Int) * 5) [] [] []) ⟨_, _, _, _, _, _, rfl, W.sub.le⟩ ?_ ?_⟩
    · rintro j σ H3 hj ⟨x4, x5, x6, x7, x8, x9, rfl, W⟩
      show tSeq _ _ _ _ _
      and_intros
      refine W.al fun g1 H3 W => ?_
      and_intros
      refine W.pick fun v H3 W hv => ?_
      obtain ⟨f0, rfl, f1, f2⟩ : ∃ f : Int, v = .int f ∧ -(10 ^ 11) ≤ f ∧ f ≤ 10 ^ 11 := by
        simp only [List.mem_cons, List.not_mem_nil, or_false] at hv
        rcases hv with rfl | rfl | rfl | rfl | rfl <;> exact ⟨_, rfl, by decide, by decide⟩
      have W := W.fg (l0 := [])
      and_intros
      refine W.draw fun y1 H3 W a1_ a2_ => ?_
      and_intros
      refine W.draw fun y2 H3 W b1 b2 => ?_
      and_intros
      refine W.draw fun y3 H3 W c1 c2 => ?_
      and_intros
      refine W.al fun g2 H3 W => ?_
      and_intros
      refine W.pick fun v H3 W hv => ?_
      obtain ⟨n, rfl, n1, n2⟩ : ∃ n : Int, v = .int n ∧ 1 ≤ n ∧ n ≤ 400 := by
        simp only [List.mem_cons, List.not_mem_nil, or_false] at hv
        rcases hv with rfl | rfl | rfl | rfl | rfl | rfl <;> exact ⟨_, rfl, by omega, by omega⟩
      have W := W.fg (l0 := [])
      and_intros
      have ok2 : StayOk (f0 + y1) (f0 + y1 + n) := stay_okN (by omega) (by omega) (by omega) (by omega)
      refine W.mkSN ok2 fun st H3 W => ?_
      and_intros
      refine ⟨t, _, n, d, rfl, hp.keepN W.bt pn.pen, ok, n1, by omega, fun H4 s4 => ?_⟩
      have W := W.same s4
      refine ⟨_, _, rfl, ?_⟩
      try dsimp only
      and_intros
      refine rd_callR S rfl (r1_.keepN W.bt pn.pen) (fun Q' q => by and_intros; exact q _ st (Same.refl _) W.syN) fun H5 s5 => ?_
      have W := W.same s5
      and_intros
      refine rd_callRK S rfl (r2_.keepN W.bt pn.pen) (fun Q' q => by and_intros; exact q _ st (Same.refl _) W.syN) fun H6 s6 => ?_
      have W := W.same s6
      and_intros
      rw [show f0 + y1 + n - (f0 + y1) = n by omega]
      refine W.alR fun q1 H6 nq W => ?_
      and_intros
      refine q_reprBN (bs := [d.lets (f0 + y1) n, d.lets (f0 + y1) n]) W.at nq (by simp) ?_
      and_intros
      refine W.alR fun q2 H6 nq W => ?_
      and_intros
      refine q_reprBN (bs := [d.lets (f0 + y1) n, d.lets (f0 + y1) n]) W.at nq (by simp) ?_
      and_intros
      refine ite2 (fun z => ?_) (fun _ => ?_)
      · rw [decide_eq_true rfl] at z
        cases z
      and_intros
      exact ⟨_, _, _, _, _, _, rfl, W.sub'.le⟩
    · rintro σ H3 ⟨x4, x5, x6, x7, x8, x9, rfl, W⟩
      dsimp only
      have hp := hp.keepN W.bt pn.pen
      have r1_ := r1_.keepN W.bt pn.pen
      have r2_ := r2_.keepN W.bt pn.pen
      obtain ⟨u, e1, e2⟩ := id hp
      and_intros
      refine q_ixT e1 (v := .str (koWd d.ko)) rfl ?_
      and_intros
      rw [wd_is (s := "lasts") (o' := none) rfl]
      refine ite2 (fun e => ?_) (fun e => ?_)
      · have e : d.ko = none := of_decide_eq_true e
        cases d with
        | day => cases e
        | len s q zs ys =>
          obtain ⟨dx, g, pl, sl, s', p', L, l, e3, e4, _⟩ := IsLR.ex r1_
          and_intros
          refine ⟨_, rfl, a1, _, dx, _, _, rfl, e3, (S.ru none).c.ck.cl, (S.ru none).c.na "lengths", rfl, ?_⟩
          have hk : IsSt Cd Cl H3 g (.len s q zs ys) := e4
          clear e3 e4
          generalize hd : (PD.len s q zs ys) = d at *
          and_intros
          refine ⟨t, d, rfl, hp, ok, fun H4 g2 s4 hg => ?_⟩
          have W := W.same s4
          have hk := hk.keep s4
          have r1_ := r1_.keep s4
          have r2_ := r2_.keep s4
          have e1 := s4 _ _ e1
          refine rd_neSt Dy Ln_ hk hg ?_
          and_intros
          refine rd_sizR S rfl r1_ ?_
          and_intros
          refine q_repr (d := .int 1) (.int 1) ⟨rfl, by decide +kernel, by decide +kernel⟩ ?_
          and_intros
          refine ite2 (fun z => absurd z (by decide +kernel)) (fun _ => ?_)
          and_intros
          refine rd_eqR S r1_ r2_ ok ok ?_
          rw [eqr_refl]
          and_intros
          refine rd_neR S r1_ r2_ ok ok ?_
          rw [eqr_refl]
          and_intros
          refine ⟨a1, d, rfl, r1_, fun H5 L5 s5 n5 e5 => ?_⟩
          have W := W.same s5
          and_intros
          refine q_reprBN e5 n5 (by simp [kindsB]) ?_
          and_intros
          refine q_ixT (s5 _ _ e1) (v := .str (koWd d.ko)) rfl ?_
          and_intros
          refine ⟨d.ko, rfl, fun H6 L6 s6 n6 e6 => ?_⟩
          have W := W.same s6
          and_intros
          refine q_reprBN e6 n6 (by simp [kindsB]) ?_
          and_intros
          rw [decide_eq_true rfl]
          exact k _ (W0.back W).le
      · cases d with
        | len => exact absurd (decide_eq_true rfl) e
        | day kk bs =>
          obtain ⟨dx, g, pl, sl, e3, e4, _⟩ := IsDR.ex r1_
          and_intros
          refine ⟨_, rfl, a1, _, dx, _, _, rfl, e3, (S.ru (some kk)).c.ck.cl, (S.ru (some kk)).c.na "days", rfl, ?_⟩
          have hk : IsSt Cd Cl H3 g (.day kk bs) := e4
          clear e3 e4
          generalize hd : (PD.day kk bs) = d at *
          and_intros
          refine ⟨t, d, rfl, hp, ok, fun H4 g2 s4 hg => ?_⟩
          have W := W.same s4
          have hk := hk.keep s4
          have r1_ := r1_.keep s4
          have r2_ := r2_.keep s4
          have e1 := s4 _ _ e1
          refine rd_neSt Dy Ln_ hk hg ?_
          and_intros
          refine rd_sizR S rfl r1_ ?_
          and_intros
          refine q_repr (d := .int 1) (.int 1) ⟨rfl, by decide +kernel, by decide +kernel⟩ ?_
          and_intros
          refine ite2 (fun z => absurd z (by decide +kernel)) (fun _ => ?_)
          and_intros
          refine rd_eqR S r1_ r2_ ok ok ?_
          rw [eqr_refl]
          and_intros
          refine rd_neR S r1_ r2_ ok ok ?_
          rw [eqr_refl]
          and_intros
          refine ⟨a1, d, rfl, r1_, fun H5 L5 s5 n5 e5 => ?_⟩
          have W := W.same s5
          and_intros
          refine q_reprBN e5 n5 (by simp [kindsB]) ?_
          and_intros
          refine q_ixT (s5 _ _ e1) (v := .str (koWd d.ko)) rfl ?_
          and_intros
          refine ⟨d.ko, rfl, fun H6 L6 s6 n6 e6 => ?_⟩
          have W := W.same s6
          and_intros
          refine q_reprBN e6 n6 (by simp [kindsB]) ?_
          and_intros
          rw [decide_eq_true rfl]
          exact k _ (W0.back W).le
end
end NB
namespace NB
open PySem L2 ClX NumText TL
local macro_rules
  | `(tactic| and_intros) => `(tactic| repeat (first
    | with_reducible refine q_cons ?_ | with_reducible refine q_c ?_ | ((with_reducible apply q_var); exact rfl) | with_reducible refine q_nil ?_ | with_reducible refine q_call ?_ | with_reducible refine q_op ?_
    | with_reducible refine q_sa ?_ | with_reducible refine ra_lst ?_ | with_reducible refine ra_tup ?_ | with_reducible refine q_i0 ?_ | with_reducible refine q_cb ?_ | with_reducible refine q_test ?_ | with_reducible refine q_b ?_ | with_reducible refine q_bl ?_ | with_reducible refine q_iT ?_ | with_reducible refine q_iF ?_ | with_reducible refine q_nT ?_ | with_reducible refine q_nF ?_
    | with_reducible refine q_sif0 ?_ | with_reducible refine q_if0 ?_ | with_reducible refine q_sif ?_ | with_reducible refine q_if ?_ | with_reducible refine q_sdrop ?_ | with_reducible refine q_drop ?_ | with_reducible refine q_asg ?_ | with_reducible refine q_ret ?_ | with_reducible refine q_un ?_ | with_reducible refine q_u ?_ | with_reducible refine q_ifE ?_ | with_reducible refine q_or ?_ | with_reducible refine q_and ?_ | with_reducible refine q_not ?_ | with_reducible refine q_andV ?_ | with_reducible refine q_orV ?_ | with_reducible refine q_notV ?_ | with_reducible refine q_isN ?_ | with_reducible refine q_notN ?_ | with_reducible refine q_make ?_ | with_reducible refine q_meth ?_ | with_reducible refine q_sp ?_ | with_reducible refine q_par ?_ | with_reducible refine q_two ?_ | with_reducible refine q_in ?_ | with_reducible refine q_sl ?_ | with_reducible refine q_part ?_ | with_reducible refine q_nopart ?_ | with_reducible refine q_fmt ?_ | with_reducible refine q_dnew ?_ | with_reducible refine q_chain ?_ | with_reducible refine q_yes ?_ | with_reducible refine q_lstM ?_ | with_reducible refine q_smC ?_ | with_reducible refine q_mkO ?_ | with_reducible refine q_int1' ?_ | with_reducible refine q_iR1 ?_ | with_reducible refine q_iR2 ?_ | with_reducible refine q_iRA ?_ | with_reducible refine q_iL ?_ | with_reducible refine q_iT2 ?_ | with_reducible refine q_rA ?_ | with_reducible refine q_iR3 ?_ | with_reducible refine q_sfor ?_ | with_reducible refine q_for ?_
    | ((with_reducible refine q_eq ?_ ?_); exact rfl) | ((with_reducible refine q_ne ?_ ?_); exact rfl) | ((with_reducible refine q_pow ?_ ?_); exact ⟨by decide, by decide, by decide⟩)))
def stP (Cd Cl a : Addr) (d : PD) : SP := ⟨fun H => IsSt Cd Cl H a d, fun H H' k h => by
  cases d with
  | day => exact IsDays.nl h k
  | len => exact IsLen.kp h k⟩
theorem Wd.noP {T : List (Addr × Str)} {p c : Addr} {ns : List Int} {H0 H : Hp} {b : Int} {ps : List SP} {ms : List (Addr × List V)} {l : List (Addr × HO)} (W : Wd T p c ns H0 H b ps ms l) : Wd T p c ns H0 H b [] ms l := { W with im := fun _ h => nomatch h }
section
variable {P : Program} {w : World} {K : PySem.W.Frag} {mg : Str → Option Value} {base : Heap} {B Bd Bm Bs R Cd Cl Cs a : Addr} {cl : Option RK → Addr} {H H' : Hp} {d : PD}
theorem NoR.st (S : R18 P w K mg base Bs R Cd Cl Cs cl) (D : DyD P w K mg base Bd Cd) (L : LnD P w K mg base B Bm Cl) (h : IsSt Cd Cl H a d) : NoR K R cl H (.ref a) := by
  cases d with
  | day => exact ⟨_, D.ty h, S.kd, S.nfd⟩
  | len => exact ⟨_, L.ty h, S.kl, S.nfl⟩
theorem NoR.keep {v : V} (h : NoR K R cl H v) (s : Same H H') : NoR K R cl H' v := by
  obtain ⟨ty, h1, h2, h3⟩ := h
  exact ⟨ty, TyX.keep h1 s, h2, h3⟩
end
def spLaw (T : List (Addr × Str)) (K : PySem.W.Frag) : Sp := fun vs H Q _ => ∃ (a : Addr) (ns : List Int), vs = [.ref a] ∧ SqL K H a (ns.map V.int) ∧ ns.length ≤ 63 ∧ LamX.Tabs T H ∧ ∀ H', Q (.bl true) H'
section
variable {P : Program} {w : World} {K : PySem.W.Frag} {mg : Str → Option Value} {base : Heap} {B Bm Bc Bt Bd Bs Br C R Cd Cl Cs KD KN KL : Addr} {cl : Option RK → Addr} {T : List (Addr × Str)}
abbrev sLaw : Stmt := top 85
abbrev nLaw : List Str := ["_law_script", "_law_pen_here", "_law_plans", "_law_plan_here", "_law_other", "_law_is_like", "_law_odd", "_law_turn"]
theorem scLaw : FnScope nLaw ["_law_script"] (defScope sLaw) := ⟨rfl, rfl, rfl, by decide +kernel, rfl, by decide +kernel, by decide +kernel⟩
theorem ok_Law {fa : Addr} {fd : FuncData} (F : Fun K "law" "law" sLaw fa fd) (Tb : Bi mg) (S : R18 P w K mg base Bs R Cd Cl Cs cl) (Dy : DyE P w K mg base Bd Cd) (Ln_ : LnE P w K mg base B Bm Cl) (Ss : StD P w K mg base Bs Cs) (G : G18 K mg R KD KN KL cl) (Mo : ∃ mc u, CRead K R mc ∧ CVal K R mc "MOST" (.int 30) u) (De : DefOf P w K mg base "_law_pen" 1 ["_law_script"] (spPen K)) (Dd : DefOf P w K mg base "_law_draw" 1 ["_law_pen_here", "_law_many"] spDraw) (Dp : DefOf P w K mg base "_law_pick" 2 ["_law_pen_here", "_law_some"] spPick) (Dpl : DefOf P w K mg base "_law_plan" 4 ["_law_pen_here"] (spPl T)) (Dse : DefOf P w K mg base "_law_set" 7 ["_law_plan_here"] (spSe Cd Cl)) (Dma : DefOf P w K mg base "_law_made" 8 ["_law_plan_here", "_law_is_named"] (spMa Cd Cl cl)) (Dri : DefG P w K mg base "_law_right" 9 ["_law_pen_here", "_law_plan_here"] (spRi T)) : FnG P w K mg base CX0 10 fa fd ["_law_script"] (spLaw T K) := by
  obtain ⟨fE, fdE, FE, mE, kE, bE⟩ := De.ex
  obtain ⟨fD, fdD, FD, mD, kD, bD⟩ := Dd.ex
  obtain ⟨fP, fdP, FP, mP, kP, bP⟩ := Dp.ex
  obtain ⟨fN, fdN, FN, mN, kN, bN⟩ := Dpl.ex
  obtain ⟨fS, fdS, FS, mS, kS, bS⟩ := Dse.ex
  obtain ⟨fM, fdM, FM, mM, kM, bM⟩ := Dma.ex
  obtain ⟨fR, fdR, FR, mR, kR, bR⟩ := Dri.ex
  refine okG F scLaw (fun vs H Q E h => ?_) (fun cdv A outer s H vs Q E hr gd h => ?_)
  · obtain ⟨a, ns, rfl, _⟩ := h
    rfl
  · obtain ⟨a, ns, rfl, hS, hlen, tabs, k⟩ := h
    have r1 := hr.mono (show 1 ≤ 9 by decide)
    have r2 := hr.mono (show 2 ≤ 9 by decide)
    have r3 := hr.mono (show 3 ≤ 9 by decide)
    have r4 := hr.mono (show 4 ≤ 9 by decide)
    have r7 := hr.mono (show 7 ≤ 9 by decide)
    have r8 := hr.mono (show 8 ≤ 9 by decide)
    have r9 := hr.mono (show 9 ≤ 9 by decide)
    refine ⟨_, pss_cons (ps_set (i := 1) scLaw.nd rfl (.inr rfl) (pe_call FE r1 rfl mE kE bE .nil pass0 (pa_cons (pv 0) pa_nil)))
      (pss_cons (ps_setLc (i := 2) (own := [("_law_turn", 7)]) (g := (gName 7)) (tt := tYes) (te := (tCall (spPl T) [] E0 (tCons (tVar 1) tNil))) (by rfl) scLaw.nd rfl rfl (sw_true rfl rfl rfl (by decide +kernel)) (pi_range1 (by rfl) Tb.range (pa_cons pe_int pa_nil)) (blkOk_by (own := [("_law_turn", 7)]) (N := nLaw) (sc := defScope sLaw) (by decide +kernel)) (fun _ _ _ _ _ => pg_name (i := 7) scLaw.nd rfl (.inl rfl)) (fun _ _ _ _ _ => pts_nil) (fun _ _ _ _ _ => pe_call FN r4 rfl mN kN bN .nil pass0 (pa_cons (pv 1) pa_nil)))
      (pss_cons (ps_for PassesOwn.never rfl (pi_list (pv 2)) (pg_name (i := 3) scLaw.nd rfl (.inl rfl))
        (pss_cons (ps_if (pt_not (pt_val (pe_callG FR r9 gd (by rfl) mR kR bR .nil pass0 (pa_cons (pv 1) (pa_cons (pv 3) pa_nil))))) (pss_one (ps_ret pe_bl)) pss_nil)
        (pss_cons (ps_for PassesOwn.never rfl (pi_list (pv 2)) (pg_name (i := 4) scLaw.nd rfl (.inl rfl))
          (pss_cons (ps_set (i := 5) scLaw.nd rfl (.inl rfl) (pe_and (pe_cmpR op_eq (pe_ix ix_tup (pv 3) pe_int (fun _ _ => rfl)) (pe_ix ix_tup (pv 4) pe_int (fun _ _ => rfl)) (nomark _)) (pe_one (pe_cmpR (op_eqV r1 pass0) (pe_call FS r7 rfl mS kS bS .nil pass0 (pa_cons (pv 3) pa_nil)) (pe_call FS r7 rfl mS kS bS .nil pass0 (pa_cons (pv 4) pa_nil)) (nomark _)))))
          (pss_one (ps_if (pt_cmpR op_ne (pe_cmpR (op_eqV r1 pass0) (pe_call FM r8 rfl mM kM bM .nil pass0 (pa_cons (pv 3) (pa_cons pe_bl pa_nil))) (pe_call FM r8 rfl mM kM bM .nil pass0 (pa_cons (pv 4) (pa_cons pe_bl pa_nil))) (nomark _)) (pv 5) (nomark _)) (pss_one (ps_ret pe_bl)) pss_nil))))
        (pss_cons (ps_set (i := 6) scLaw.nd rfl (.inl rfl) (pe_call FP r2 rfl mP kP bP .nil pass0 (pa_cons (pv 1) (pa_cons (pe_lst (pa_cons pe_non (pa_cons pe_int (pa_cons pe_bl (pa_cons (pe_ix ix_tup (pv 3) pe_int (fun _ _ => rfl)) (pa_cons (pe_tup pa_nil) (pa_cons (pe_lst pa_nil) (pa_cons pe_dnewK (pa_cons (pe_call FS r7 rfl mS kS bS .nil pass0 (pa_cons (pv 3) pa_nil)) (pa_cons (pe_callTy (call_strV r3 pass0) (by rfl) Tb.str (by decide +kernel) (pa_cons (pe_call FM r8 rfl mM kM bM .nil pass0 (pa_cons (pv 3) (pa_cons pe_bl pa_nil))) pa_nil)) pa_nil)))))))))) pa_nil))))
        (pss_one (ps_if (PW.pt (pw_or (pt_cmpR (op_eqV r1 pass0) (pe_call FM r8 rfl mM kM bM .nil pass0 (pa_cons (pv 3) (pa_cons pe_bl pa_nil))) (pv 6) (nomark _)) (pw_or1 (pt_not (pt_cmpR (op_neV r2 pass0) (pe_call FM r8 rfl mM kM bM .nil pass0 (pa_cons (pv 3) (pa_cons pe_bl pa_nil))) (pv 6) (nomark _)))))) (pss_one (ps_ret pe_bl)) pss_nil))))))
      (pss_one (ps_ret (pe_cmpR op_eq (pe_callB (call_repr hr gd) (by rfl) Tb.repr (by decide +kernel) (pa_cons (pe_cval (pe_glob (v := .ref R) (by rfl) G.gR rfl)) pa_nil)) pe_str (nomark _)))))), ?_⟩
    and_intros
    refine ⟨a, ns, rfl, hS, hlen, fun H1 p c ms s1 _ pen1 => ?_⟩
    have W := Wd.fst (b := 0) pen1 (tabs.ext s1) (Int.le_refl _)
    and_intros
    refine q_lc (q_iR1 ?_)
    and_intros
    refine ⟨9, rfl, by decide, by decide, ?_⟩
    refine W.lcRG (lo := 0) (n := 9) 25 (fun i acc l1 => ∃ ts : List (Addr × PD), ts.length = i ∧ acc = ts.map (fun q => V.ref q.1) ∧ ∀ x ∈ ts, PlE x.1 l1 x.2 ∧ x.2.ok) ⟨[], rfl, rfl, fun _ h => nomatch h⟩ (by decide) (fun _ => rfl) (fun i hi D acc l1 H2 W f la Qe Qn ke => ?_) (fun D acc l1 H2 W f => ?_)
    · obtain ⟨ts, rfl, rfl, ht⟩ := f
      and_intros
      refine ⟨p, c, ms, _, rfl, W.sub, by omega, fun H3 t d l' U e0 ok fr => ?_⟩
      have dj : ∀ q ∈ l', ∀ m ∈ [(D, ts.map fun q => V.ref q.1)], q.1 ≠ m.1 := fun q hq => by
        rcases fr q hq with ⟨xs, e⟩ | h
        · exact (W.back U).tupApart (xs := xs) (by have z := (U.kn q hq).2.2; rw [e] at z; exact z)
        · exact W.apart h
      have W := W.gotM U dj
      refine ke _ H3 (l' ++ l1) (by rw [List.append_assoc]; exact W.le) ⟨ts ++ [(t, d)], by simp, by simp, fun x hx => ?_⟩
      rcases List.mem_append.mp hx with hx | hx
      · exact ⟨(ht x hx).1.mono fun q hq => List.mem_append_right _ hq, (ht x hx).2⟩
      · rw [List.mem_singleton.mp hx]
        exact ⟨e0.mono fun q hq => List.mem_append_left _ hq, ok⟩
    obtain ⟨ts, t9, rfl, ht⟩ := f
    have W := W.frz
    generalize hL : ((D, HO.lst (ts.map fun q => V.ref q.1)) :: (l1 ++ [])) = L0 at W
    have hD : (D, HO.lst (ts.map fun q => V.ref q.1)) ∈ L0 := by
      rw [← hL]
      exact List.mem_cons_self ..
    have ht : ∀ x ∈ ts, PlE x.1 L0 x.2 ∧ x.2.ok := fun x hx => ⟨(ht x hx).1.mono fun q hq => by rw [← hL]; exact List.mem_cons_of_mem _ (List.mem_append_left _ hq), (ht x hx).2⟩
    try dsimp only
    and_intros
    refine ⟨D, rfl, ⟨_, SqL.of (W.at hD)⟩, ?_⟩
    refine for_list (xs := ts.map fun q => V.ref q.1) (fun i σ H' => ∃ x3 x4 x5 x6 x7, σ = [some (.ref a), some (.ref p), some (.ref D), x3, x4, x5, x6, x7] ∧ Wd T p c ms H1 H' (225 + (i : Int) * 49) [] [] L0) ⟨_, _, _, _, _, rfl, W.le⟩ (fun i σ H' _ h => ?_) (fun i x σ H' hi h => ?_) (fun σ H' h => ?_)
    · obtain ⟨_, _, _, _, _, _, W⟩ := h
      exact SqL.of (W.at hD)
    · obtain ⟨x3, x4, x5, x6, x7, rfl, W⟩ := h
      rw [List.getElem?_map] at hi
      obtain ⟨⟨t, d⟩, hq, rfl⟩ := Option.map_eq_some_iff.mp hi
      have hm := List.mem_of_getElem? hq
      have i9 : i < 9 := by
        rw [← t9]
        exact (List.getElem?_eq_some_iff.mp hq).1
      obtain ⟨pe, ok⟩ := ht _ hm
      have pe : PlE t L0 d := pe
      have ok : d.ok := ok
      show tSeq _ _ _ _ _
      and_intros
      refine ⟨p, c, ms, _, t, d, rfl, W.sub, by omega, pe.is (W.kl fun _ h => h), ok, fun H3 U => ?_⟩
      have W := W.back U
      and_intros
      refine ⟨D, rfl, ⟨_, SqL.of (W.at hD)⟩, ?_⟩
      refine for_list (xs := ts.map fun q => V.ref q.1) (D := { nx := _, rt := Q }) (fun j σ H' => ∃ x4 x5 x6 x7, σ = [some (.ref a), some (.ref p), some (.ref D), some (.ref t), x4, x5, x6, x7] ∧ Wd T p c ms H1 H' (225 + (i : Int) * 49 + 48) [] [] L0) ⟨_, _, _, _, rfl, W⟩ (fun j σ H' _ h => ?_) (fun j x σ H' hj h => ?_) (fun σ H' h => ?_)
      · obtain ⟨_, _, _, _, _, W⟩ := h
        exact SqL.of (W.at hD)
      · obtain ⟨x4, x5, x6, x7, rfl, W⟩ := h
        rw [List.getElem?_map] at hj
        obtain ⟨⟨t2, d2⟩, hq2, rfl⟩ := Option.map_eq_some_iff.mp hj
        have hm2 := List.mem_of_getElem? hq2
        obtain ⟨pe2, ok2⟩ := ht _ hm2
        have pe2 : PlE t2 L0 d2 := pe2
        have ok2 : d2.ok := ok2
        obtain ⟨u, e1, _⟩ := id pe
        obtain ⟨u2, e2, _⟩ := id pe2
        show tSeq _ _ _ _ _
        and_intros
        refine q_ixT (W.at e1) (v := .str (koWd d.ko)) rfl ?_
        and_intros
        refine q_ixT (W.at e2) (v := .str (koWd d2.ko)) rfl ?_
        and_intros
        rw [wd_is (o' := d2.ko) rfl]
        refine ite2 (fun e => ?_) (fun e => ?_)
        · have e : d.ko = d2.ko := of_decide_eq_true e
          have er : d.eqr d2 = d.eqs d2 := by
            unfold PD.eqr
            rw [decide_eq_true e, Bool.true_and]
          and_intros
          refine ⟨t, d, rfl, pe.is (W.kl fun _ h => h), ok, fun H3 g1 s1 h1 => ?_⟩
          have W := W.same s1
          and_intros
          refine ⟨t2, d2, rfl, pe2.is (W.kl fun _ h => h), ok2, fun H3 g2 s2 h2 => ?_⟩
          have W := W.same s2
          refine rd_eqSt Dy Ln_ (h1.keep s2) h2 (by rw [e]) ?_
          and_intros
          refine ⟨t, false, d, rfl, pe.is (W.kl fun _ h => h), ok, fun H3 g3 s3 h3 => ?_⟩
          have W := W.same s3
          and_intros
          refine ⟨t2, false, d2, rfl, pe2.is (W.kl fun _ h => h), ok2, fun H3 g4 s4 h4 => ?_⟩
          have W := W.same s4
          refine rd_eqR S (h3.keep s4) h4 ok ok2 ?_
          rw [er]
          and_intros
          refine ite2 (fun z => ?_) (fun _ => ?_)
          · rw [decide_eq_true rfl] at z
            cases z
          and_intros
          exact ⟨_, _, _, _, rfl, W⟩
        · have er : d.eqr d2 = false := by
            unfold PD.eqr
            rw [decide_eq_false (fun z => e (decide_eq_true z)), Bool.false_and]
          and_intros
          refine ⟨t, false, d, rfl, pe.is (W.kl fun _ h => h), ok, fun H3 g3 s3 h3 => ?_⟩
          have W := W.same s3
          and_intros
          refine ⟨t2, false, d2, rfl, pe2.is (W.kl fun _ h => h), ok2, fun H3 g4 s4 h4 => ?_⟩
          have W := W.same s4
          refine rd_eqR S (h3.keep s4) h4 ok ok2 ?_
          rw [er]
          and_intros
          refine ite2 (fun z => ?_) (fun _ => ?_)
          · rw [decide_eq_true rfl] at z
            cases z
          and_intros
          exact ⟨_, _, _, _, rfl, W⟩
      · obtain ⟨x4, x5, x6, x7, rfl, W⟩ := h
        try dsimp only
        obtain ⟨u, e1, _⟩ := id pe
        and_intros
        refine q_ixT (W.at e1) (v := .str (koWd d.ko)) rfl ?_
        and_intros
        refine W.al fun o1 H3 W => ?_
        have pe1 := pe.mono fun q hq => List.mem_cons_of_mem (o1, HO.tup []) hq
        and_intros
        refine W.al fun o2 H3 W => ?_
        have pe1 := pe1.mono fun q hq => List.mem_cons_of_mem (o2, HO.lst []) hq
        and_intros
        refine W.al fun o3 H3 W => ?_
        have pe1 := pe1.mono fun q hq => List.mem_cons_of_mem (o3, HO.dK []) hq
        and_intros
        refine ⟨t, d, rfl, pe1.is (W.kl fun _ h => h), ok, fun H3 g s3 hg => ?_⟩
        have W := (W.same s3).add (stP Cd Cl g d) hg
        and_intros
        refine ⟨t, false, d, rfl, pe1.is (W.kl fun _ h => h), ok, fun H3 g2 s4 hg2 => ?_⟩
        have W := W.same s4
        and_intros
        refine rd_strR S hg2 fun z hz => ?_
        and_intros
        refine W.al fun o4 H3 W => ?_
        and_intros
        refine W.pick fun v H3 W hv => ?_
        have nr : NoR K R cl H3 v := by
          simp only [List.mem_cons, List.not_mem_nil, or_false] at hv
          rcases hv with rfl | rfl | rfl | rfl | rfl | rfl | rfl | rfl | rfl
          · exact NoR.ty S (.base .non)
          · exact NoR.ty S (.base (.int 0))
          · exact NoR.ty S (.base (.bl true))
          · exact NoR.ty S (.base (.str _))
          · exact NoR.ty S (.base (.tup (W.at (a := o1))))
          · exact NoR.ty S (.base (.lst (W.at (a := o2))))
          · exact NoR.ty S (.base (.dK (W.at (a := o3))))
          · exact NoR.st S Dy.toDyD Ln_.toLnD (W.im (stP Cd Cl g d) (List.mem_cons_self ..))
          · exact NoR.ty S (.base (.str _))
        have W := (W.fg (l0 := L0) (fun q hq => List.mem_cons_of_mem _ (List.mem_cons_of_mem _ (List.mem_cons_of_mem _ (List.mem_cons_of_mem _ hq))))).noP
        and_intros
        refine ⟨t, false, d, rfl, pe.is (W.kl fun _ h => h), ok, fun H3 g3 s5 h5 => ?_⟩
        have W := W.same s5
        have nr := nr.keep s5
        and_intros
        refine rd_eqO S h5 nr ?_
        and_intros
        refine ⟨t, true, d, rfl, pe.is (W.kl fun _ h => h), ok, fun H3 g4 s6 h6 => ?_⟩
        have W := W.same s6
        and_intros
        refine rd_neO S h6 (nr.keep s6) ?_
        and_intros
        exact ⟨_, _, _, _, _, rfl, W.le⟩
    · obtain ⟨x3, x4, x5, x6, x7, rfl, W⟩ := h
      try dsimp only
      and_intros
      obtain ⟨mc, mu, m1, m2⟩ := Mo
      refine ⟨R, mc, _, mu, rfl, m1, m2, ?_⟩
      and_intros
      refine q_repr (d := .int 30) (.int 30) ⟨rfl, by decide +kernel, by decide +kernel⟩ ?_
      and_intros
      rw [show decide (V.str (PyData.int 30).shown = V.str "30") = true by decide +kernel]
      exact k _
end
end NB
/-! NSh: a def that stands under another name than its own. -/
namespace NB
open PySem L2
structure DefKA (K : PySem.W.Frag) (x q : Str) (st : Stmt) (f : Addr) (fd : FuncData) : Prop where
  ns : PySem.W.nsIn K mainGlobals x = some (some (.ref f))
  F : Fun K q q st f fd
theorem defA_mk {K : PySem.W.Frag} {x q : Str} {st : Stmt} {f : Addr} {oc kV doc pm cdv ct : Value} {od an : Option Addr} {osl : Array (Option Value)} (a : PySem.W.nsIn K mainGlobals x = some (some (.ref f)))
    (l : K.lookup f = some ⟨oc, od, .func (PySem.W.fnOf q q (defArgs st) (defBody st) (defScope st) .none kV doc pm an cdv ct), osl⟩) (c : PySem.W.codeIn K cdv q = true) (k : PySem.W.keepIn K (.ref f) = true) :
    DefKA K x q st f (PySem.W.fnOf q q (defArgs st) (defBody st) (defScope st) .none kV doc pm an cdv ct) := ⟨a, fun_mk l c k⟩
theorem DefKA.of {P : Program} {w : World} {K : PySem.W.Frag} {mg : Str → Option Value} {base h : Heap} {x q : Str} {st : Stmt} {f : Addr} {fd : FuncData} {k : Nat} {ps : List Str} {sp : Sp} (E : DefKA K x q st f fd) (X : K.In h) (G : h.Ns mainGlobals mg)
    (ok : FnOk P w K mg base CX0 k f fd ps sp) (b : Binds K fd ps []) : DefOf P w K mg base x k ps sp := ⟨f, fd, ok, PySem.W.mg_of X G E.ns, E.F.kp, b⟩
end NB
/-! NHk: what the facts give. -/
namespace NB
open PySem L2 ClX
section
variable {K : PySem.W.Frag} {f : Addr} {x q : Str} {st : Stmt}
theorem fun_of (e : fnT K f = valT x q st) (b : fnB K f q = true) : ∃ fd, Fun K x q st f fd := by
  unfold fnB at b
  unfold fnT valT at e
  obtain ⟨b, kp⟩ := Bool.and_eq_true_iff.mp b
  cases z : K.lookup f with
  | none => rw [z] at b; exact nomatch b
  | some o =>
    obtain ⟨oc, od, dt, osl⟩ := o
    rw [z] at b e
    cases dt with
    | func fd =>
      obtain ⟨n1, n2, n3, n4, n5, n6, n7, n8, n9, n10, n11, n12, n13, n14, n15⟩ := fd
      dsimp only at b e
      simp only [Option.some.injEq, Prod.mk.injEq] at e
      obtain ⟨rfl, rfl, rfl, rfl, rfl, rfl, rfl⟩ := e
      obtain ⟨b1, b⟩ := Bool.and_eq_true_iff.mp b
      obtain ⟨b2, b3⟩ := Bool.and_eq_true_iff.mp b
      cases n7 with
      | cons _ _ => exact nomatch b2
      | nil =>
        cases n8 with
        | none => exact ⟨_, ⟨⟨oc, od, _, _, _, _, _, _, osl, rfl, z, b1⟩, kp⟩⟩
        | _ => exact nomatch b3
    | _ => exact nomatch b
end
section
variable {K : PySem.W.Frag} {f : Addr} {x q : Str} {st : Stmt}
theorem funD_of {dvs : List V} (e : fnT K f = valT x q st) (b : fnDB K f q dvs = true) : ∃ fd, FunD K x q (defArgs st) (defBody st) (defScope st) dvs [] f fd := by
  unfold fnDB at b
  unfold fnT valT at e
  obtain ⟨b, kp⟩ := Bool.and_eq_true_iff.mp b
  obtain ⟨kp, nn⟩ := Bool.and_eq_true_iff.mp kp
  have ne : dvs ≠ [] := fun z => by rw [z] at nn; exact nomatch nn
  cases z : K.lookup f with
  | none => rw [z] at b; exact nomatch b
  | some o =>
    obtain ⟨oc, od, dt, osl⟩ := o
    rw [z] at b e
    cases dt with
    | func fd =>
      obtain ⟨n1, n2, n3, n4, n5, n6, n7, n8, n9, n10, n11, n12, n13, n14, n15⟩ := fd
      dsimp only at b e
      simp only [Option.some.injEq, Prod.mk.injEq] at e
      obtain ⟨rfl, rfl, rfl, rfl, rfl, rfl, rfl⟩ := e
      obtain ⟨b1, b⟩ := Bool.and_eq_true_iff.mp b
      obtain ⟨b2, b3⟩ := Bool.and_eq_true_iff.mp b
      cases n7 with
      | cons _ _ => exact nomatch b2
      | nil =>
        cases n8 with
        | ref T =>
          cases y : K.lookup T with
          | none => dsimp only at b3; rw [y] at b3; exact nomatch b3
          | some o =>
            obtain ⟨oc2, od2, dt2, osl2⟩ := o
            dsimp only at b3
            rw [y] at b3
            cases dt2 with
            | seq its n => exact ⟨_, ⟨⟨oc, od, _, _, _, _, _, _, _, osl, rfl, z, b1, .inr ⟨ne, T, _, its.toList, n, rfl, y, by simp, vsB_ok b3⟩, .inl rfl⟩, kp⟩⟩
            | _ => exact nomatch b3
        | _ => exact nomatch b3
    | _ => exact nomatch b
end
theorem tupB_ok {K : PySem.W.Frag} {a : Addr} {xs : List V} (h : tupB K a xs = true) : FzT K a xs := by
  unfold tupB at h
  split at h
  · rename_i T od its n osl z
    simp only [Bool.and_eq_true, decide_eq_true_eq] at h
    obtain ⟨rfl, h1, h2⟩ := h
    exact ⟨_, its, n, z, rfl, rfl, Nat.le_trans h1 (by rw [sizeLine_eq]; decide), vsB_ok h2⟩
  · cases h
theorem prop_of {K : PySem.W.Frag} {C p : Addr} {m q : Str} {st : Stmt} (b : propB K C m p = true) (e : fnT K (rf K p "property") = valT m q st) (c : fnB K (rf K p "property") q = true) : ∃ fd, PropK K C m q st p (rf K p "property") fd := by
  unfold propB at b
  simp only [Bool.and_eq_true, decide_eq_true_eq] at b
  obtain ⟨b1, b2, b3, b4⟩ := b
  obtain ⟨rest, hr⟩ := recB_ok b4
  obtain ⟨fd, F⟩ := fun_of e c
  exact ⟨fd, ⟨fiB_ok b1, b2, b3, rest, hr⟩, F⟩
theorem sm_of {K : PySem.W.Frag} {C p : Addr} {m q : Str} {st : Stmt} (b : smB K C m p = true) (e : fnT K (rf K p "staticmethod") = valT m q st) (c : fnB K (rf K p "staticmethod") q = true) : ∃ fd, SmK K C m q st p (rf K p "staticmethod") fd := by
  unfold smB at b
  simp only [Bool.and_eq_true] at b
  obtain ⟨rest, hr⟩ := recB_ok b.1
  obtain ⟨fd, F⟩ := fun_of e c
  exact ⟨fd, ⟨gotB_ok b.2, ⟨rest, hr⟩, F.kp⟩, F⟩
theorem cm_of {K : PySem.W.Frag} {C p : Addr} {m q : Str} {st : Stmt} (b : cmB K C m p = true) (e : fnT K (rf K p "classmethod") = valT m q st) (c : fnB K (rf K p "classmethod") q = true) : ∃ fd, CmK K C m q st p (rf K p "classmethod") fd := by
  unfold cmB at b
  simp only [Bool.and_eq_true] at b
  obtain ⟨rest, hr⟩ := recB_ok b.1
  obtain ⟨fd, F⟩ := fun_of e c
  exact ⟨fd, ⟨gotB_ok b.2.1, ⟨rest, hr⟩, b.2.2⟩, F⟩
theorem meth_of {K : PySem.W.Frag} {C f : Addr} {m q : Str} {st : Stmt} (b : methB K C m f = true) (e : fnT K f = valT m q st) (c : fnB K f q = true) : ∃ fd, MethK K C m q st f fd := by
  obtain ⟨b1, b2⟩ := Bool.and_eq_true_iff.mp b
  obtain ⟨fd, F⟩ := fun_of e c
  exact ⟨fd, fiB_ok b1, b2, F⟩
theorem methD_of {K : PySem.W.Frag} {C f : Addr} {m q : Str} {st : Stmt} {dvs : List V} (b : methB K C m f = true) (e : fnT K f = valT m q st) (c : fnDB K f q dvs = true) : ∃ fd, MethDK K C m q st dvs f fd := by
  obtain ⟨b1, b2⟩ := Bool.and_eq_true_iff.mp b
  obtain ⟨fd, F⟩ := funD_of e c
  exact ⟨fd, fiB_ok b1, b2, F⟩
theorem def_of {K : PySem.W.Frag} {f : Addr} {x : Str} {st : Stmt} (a : nsB K x f = true) (e : fnT K f = valT x x st) (c : fnB K f x = true) : ∃ fd, DefK K x st f fd := by
  obtain ⟨fd, F⟩ := fun_of e c
  exact ⟨fd, nsB_ok a, F⟩
theorem defA_of {K : PySem.W.Frag} {f : Addr} {x q : Str} {st : Stmt} (a : nsB K x f = true) (e : fnT K f = valT q q st) (c : fnB K f q = true) : ∃ fd, DefKA K x q st f fd := by
  obtain ⟨fd, F⟩ := fun_of e c
  exact ⟨fd, nsB_ok a, F⟩
theorem err_of {K : PySem.W.Frag} {x q : Str} {st : Stmt} {fl : List Str} {C f : Addr} (b : erB K x fl C f = true) (e : fnT K f = valT "__init__" q st) (c : fnB K f q = true) : ∃ fd, ErrK K x q st fl C f fd := by
  unfold erB errB at b
  simp only [Bool.and_eq_true, decide_eq_true_eq, List.all_eq_true] at b
  obtain ⟨a1, a2, a3, a4, b1, b2, b3, b4, b5, b6, b7⟩ := b
  obtain ⟨fd, F⟩ := fun_of e c
  exact ⟨fd, nsB_ok a1, ⟨excSB_ok a2, b1, b2, b3, b4⟩, xfB_ok b5, excB_ok b6, b7, fiB_ok a3, a4, F⟩
end NB
/-! NHs: the end by facts: methods that close over __class__. -/
namespace NB
open PySem L2 ClX NdefX
/-- a method that calls super() -/
structure MethS (K : PySem.W.Frag) (P : Program) (C : Addr) (m q : Str) (st : Stmt) (D f : Addr) (F : NF) (fd : FuncData) : Prop where
  at_ : PySem.W.findIn K (.ref C) m = some (some (.ref f))
  fn : PySem.W.isFn K (.ref f) = true
  F : FunS K P m q st D f F fd
theorem funS_of {K : PySem.W.Frag} {P : Program} {D f : Addr} {x q : Str} {st : Stmt} (e : fnT K f = valT x q st) (b : fnSB K P f q D = true) : ∃ F fd, FunS K P x q st D f F fd := by
  unfold fnSB at b
  unfold fnT valT at e
  obtain ⟨b, kp⟩ := Bool.and_eq_true_iff.mp b
  obtain ⟨kp, su⟩ := Bool.and_eq_true_iff.mp kp
  have su : (P.main.scope.names.lookup ("super" : Str)).isSome = false := by
    revert su
    cases (P.main.scope.names.lookup ("super" : Str)).isSome <;> simp
  cases z : K.lookup f with
  | none => rw [z] at b; exact nomatch b
  | some o =>
    obtain ⟨oc, od, dt, osl⟩ := o
    rw [z] at b e
    cases dt with
    | func fd =>
      obtain ⟨n1, n2, n3, n4, n5, n6, n7, n8, n9, n10, n11, n12, n13, n14, n15⟩ := fd
      dsimp only at b e
      simp only [Option.some.injEq, Prod.mk.injEq] at e
      obtain ⟨rfl, rfl, rfl, rfl, rfl, rfl, rfl⟩ := e
      obtain ⟨b1, b⟩ := Bool.and_eq_true_iff.mp b
      obtain ⟨b2, b⟩ := Bool.and_eq_true_iff.mp b
      obtain ⟨b3, b4⟩ := Bool.and_eq_true_iff.mp b
      cases n8 with
      | none =>
        match n7, b3 with
        | [(n, cc)], b3 =>
          obtain ⟨b5, b6⟩ := Bool.and_eq_true_iff.mp b3
          obtain rfl := of_decide_eq_true b5
          cases n13 with
          | ref c =>
            cases y : K.lookup cc with
            | none => rw [y] at b6; exact nomatch b6
            | some ob =>
              obtain ⟨cl, cld, d1, csl⟩ := ob
              rw [y] at b6
              cases d1 with
              | cell v =>
                match v, b6 with
                | some (.ref D'), b6 =>
                  obtain rfl := of_decide_eq_true b6
                  dsimp only at b4
                  cases y2 : K.lookup c with
                  | none => rw [y2] at b4; exact nomatch b4
                  | some ob =>
                    obtain ⟨ccl, cdd, d2, ccs⟩ := ob
                    rw [y2] at b4
                    cases d2 with
                    | fields vs =>
                      dsimp only at b4
                      cases ev : (vs[2]? : Option Value) with
                      | none => rw [ev] at b4; exact nomatch b4
                      | some fv =>
                        rw [ev] at b4
                        cases fv with
                        | str file tf => exact ⟨⟨n1, n2, defArgs st, defBody st, defScope st, [(("__class__" : Str), cc)], c⟩, _, kp, su, rfl, rfl, rfl, rfl, oc, _, _, _, _, cl, ccl, od, _, cld, cdd, osl, csl, ccs, cc, vs, file, tf, rfl, rfl, z, b1, y, y2, ev, b4⟩
                        | _ => exact nomatch b4
                    | _ => exact nomatch b4
              | _ => exact nomatch b6
          | _ => exact nomatch b4
      | _ => exact nomatch b2
    | _ => exact nomatch b
theorem methS_of {K : PySem.W.Frag} {P : Program} {C D f : Addr} {m q : Str} {st : Stmt} (b : methB K C m f = true) (e : fnT K f = valT m q st) (c : fnSB K P f q D = true) : ∃ F fd, MethS K P C m q st D f F fd := by
  obtain ⟨b1, b2⟩ := Bool.and_eq_true_iff.mp b
  obtain ⟨F, fd, h⟩ := funS_of e c
  exact ⟨F, fd, fiB_ok b1, b2, h⟩
theorem supB_ok {K : PySem.W.Frag} {C D f : Addr} {m : Str} (h : supB K C D m f = true) : SupK K C D m f := by
  unfold supB at h
  simp only [Bool.and_eq_true, decide_eq_true_eq] at h
  exact ⟨h.1, h.2⟩
end NB
/-! NRf: what the facts about the classes of rules give. -/
namespace NB
open PySem L2 ClX NdefX
def cl5 (a b c d e : Addr) : Option RK → Addr
  | some .comes => a
  | some .goes => b
  | some .holds => c
  | some .within => d
  | none => e
structure Rul18 (K : PySem.W.Frag) (R KD KN KL Cd Cl : Addr) (cl : Option RK → Addr) : Prop where
  nf : ∀ o o', PySem.W.notFirst K (cl o) (.ref (cl o')) = true
  nfT : ∀ o, ∀ t ∈ oTs, PySem.W.notFirst K (cl o) (.type t) = true
  nfd : ∀ o, PySem.W.notFirst K (cl o) (.ref Cd) = true
  nfl : ∀ o, PySem.W.notFirst K (cl o) (.ref Cl) = true
  kT : ∀ t ∈ oTs, PySem.W.kitOne K (.type t) (.ref R) = some false
  kd : PySem.W.kitOne K (.ref Cd) (.ref R) = some false
  kl : PySem.W.kitOne K (.ref Cl) (.ref R) = some false
  kk : ∀ o o', PySem.W.kitOne K (.ref (cl o)) (.ref (cl o')) = some (decide (o = o'))
  kD : ∀ o, PySem.W.kitOne K (.ref (cl o)) (.ref KD) = some o.isSome
  kN : ∀ o, PySem.W.kitOne K (.ref (cl o)) (.ref KN) = some (isNt o)
  kL : ∀ o, PySem.W.kitOne K (.ref (cl o)) (.ref KL) = some o.isNone
def noR : Option RK → Nat
  | some .comes => 0
  | some .goes => 1
  | some .holds => 2
  | some .within => 3
  | none => 4
theorem noR_eq (o o' : Option RK) : decide (noR o = noR o') = decide (o = o') := by
  rcases o with _ | o <;> rcases o' with _ | o' <;> first | rfl | (cases o <;> first | rfl | (cases o' <;> rfl)) | (cases o' <;> rfl)
theorem rul18_ok {K : PySem.W.Frag} {R KD KN KL Cd Cl a b c d e : Addr} (h : rulB18 K R KD KN KL Cd Cl [(a, 0), (b, 1), (c, 2), (d, 3), (e, 4)] = true) : Rul18 K R KD KN KL Cd Cl (cl5 a b c d e) := by
  unfold rulB18 at h
  obtain ⟨h1, h⟩ := Bool.and_eq_true_iff.mp h
  obtain ⟨h2, h3⟩ := Bool.and_eq_true_iff.mp h
  obtain ⟨h3, h4⟩ := Bool.and_eq_true_iff.mp h3
  have m : ∀ o, (cl5 a b c d e o, noR o) ∈ [(a, 0), (b, 1), (c, 2), (d, 3), (e, 4)] := by
    intro o
    rcases o with _ | o
    · simp [cl5, noR]
    · cases o <;> simp [cl5, noR]
  have g := fun o => Bool.and_eq_true_iff.mp (List.all_eq_true.mp h1 _ (m o))
  have g1 := fun o o' => Bool.and_eq_true_iff.mp (List.all_eq_true.mp (g o).1 _ (m o'))
  have g2 := fun o => Bool.and_eq_true_iff.mp (g o).2
  have g3 := fun o => Bool.and_eq_true_iff.mp (g2 o).2
  have g4 := fun o => Bool.and_eq_true_iff.mp (g3 o).2
  have g5 := fun o => Bool.and_eq_true_iff.mp (g4 o).2
  have g6 := fun o => Bool.and_eq_true_iff.mp (g5 o).2
  refine ⟨fun o o' => (g1 o o').1, fun o t ht => List.all_eq_true.mp (g2 o).1 t ht, fun o => (g3 o).1, fun o => (g4 o).1, fun t ht => of_decide_eq_true (List.all_eq_true.mp h2 t ht), of_decide_eq_true h3, of_decide_eq_true h4, fun o o' => ?_, fun o => ?_, fun o => ?_, fun o => ?_⟩
  · have z := of_decide_eq_true (g1 o o').2
    rw [z, noR_eq]
  · have z := of_decide_eq_true (g5 o).1
    rw [z]
    rcases o with _ | o
    · rfl
    · cases o <;> rfl
  · have z := of_decide_eq_true (g6 o).1
    rw [z]
    rcases o with _ | o
    · rfl
    · cases o <;> rfl
  · have z := of_decide_eq_true (g6 o).2
    rw [z]
    rcases o with _ | o
    · rfl
    · cases o <;> rfl
theorem rcl_of {K : PySem.W.Frag} {R C : Addr} {wd : Str} (c : ClsK K C rFl) (h : wordB K R C wd = true) : RCl K R C wd := by
  unfold wordB at h
  simp only [Bool.and_eq_true, decide_eq_true_eq] at h
  obtain ⟨h2, h3⟩ := h
  refine ⟨c, h2, ?_⟩
  split at h3
  · rename_i z t e
    simp only [Bool.and_eq_true, decide_eq_true_eq] at h3
    obtain ⟨rfl, h4⟩ := h3
    exact ⟨_, e, ⟨t, rfl⟩, h4, by decide⟩
  · cases h3
theorem neB_ok {K : PySem.W.Frag} {C : Addr} (h : neB K C = true) (m : PySem.W.mroIn K C (.type "object") = some true) : NeC K C := ⟨of_decide_eq_true h, m⟩
theorem cvIB_ok {K : PySem.W.Frag} {C : Addr} {m : Str} {i : Int} (h : cvIB K C m i = true) : ∃ u, CVal K C (.type "type") m (.int i) u := by
  unfold cvIB at h
  split at h
  · rename_i j t e
    obtain rfl := of_decide_eq_true h
    exact ⟨_, e, t, rfl⟩
  · cases h
theorem isSome_ex {α : Type} {o : Option α} (h : o.isSome = true) : ∃ x, o = some x := by
  cases o with
  | none => cases h
  | some x => exact ⟨x, rfl⟩
section
variable {K : PySem.W.Frag} {P : Program} {x q : Str} {st : Stmt} {D f : Addr} {F : NF} {fd : FuncData}
theorem FunS.bindsW {ps : List Str} (Fs : FunS K P x q st D f F fd)
    (h : ∀ (cc : Addr) (kV doc pm c ct : Value) (an : Option Addr) (us : List Value), us.length = ps.length → bindArgs (PySem.W.fnX x q (defArgs st) (defBody st) (defScope st) [("__class__", cc)] .none kV doc pm an c ct) ⟨us, []⟩ = pure (ps.zip us)) : Binds K fd ps [] := by
  obtain ⟨n0, q0, p0, b0, s0, cl0, c0⟩ := F
  obtain rfl : q0 = _ := Fs.nm
  obtain rfl : p0 = _ := Fs.pa
  obtain rfl : b0 = _ := Fs.bo
  obtain rfl : s0 = _ := Fs.sc
  obtain ⟨oc, kV, doc, pm, ct, cl, ccl, od, an, cld, cdd, osl, csl, ccs, cc, vs, file, tf, e1, rfl, _⟩ := Fs.ex
  exact .all (h cc kV doc pm _ ct an)
theorem FunS.kw1 {y : Str} (Fs : FunS K P x q st D f F fd)
    (h : ∀ (cc : Addr) (kV doc pm c ct : Value) (an : Option Addr) (u v : Value), bindArgs (PySem.W.fnX x q (defArgs st) (defBody st) (defScope st) [("__class__", cc)] .none kV doc pm an c ct) ⟨[u], [(y, v)]⟩ = pure ((("self" : Str) :: [y]).zip [u, v])) : KwB fd [y] := by
  obtain ⟨n0, q0, p0, b0, s0, cl0, c0⟩ := F
  obtain rfl : q0 = _ := Fs.nm
  obtain rfl : p0 = _ := Fs.pa
  obtain rfl : b0 = _ := Fs.bo
  obtain rfl : s0 = _ := Fs.sc
  obtain ⟨oc, kV, doc, pm, ct, cl, ccl, od, an, cld, cdd, osl, csl, ccs, cc, vs, file, tf, e1, rfl, _⟩ := Fs.ex
  intro s u ws hl
  match ws, hl with
  | [v], _ => exact .of_eq (h cc kV doc pm _ ct an u v)
end
end NB
namespace NB
open PySem L2 ClX
section
variable {l : PySem.W.OpenLaw} {w : World} {K : PySem.W.Frag} {h : Heap} {mg : Str → Option Value} {fa B f_B Bc f_Bc Bm f_Bm Bd f_Bd Bs f_Bs Br f_Br R KD KN KL C Cd Cs C1 C2 C3 C4 C5 f_m1 f_m27 f_m28 f_m29 f_y1 f_y6 p_y6 f_y9 f_y20 f_y22 f_s1 f_s4 f_rI f_ri1 f_re1 f_rt1 f_rc1 f_rz1 p_rz1 f_rl1 f_ri2 f_re2 f_rt2 f_rc2 f_rz2 p_rz2 f_rl2 f_ri3 f_re3 f_rt3 f_rc3 f_rz3 p_rz3 f_rl3 f_rm3 f_ri4 f_re4 f_rt4 f_rc4 f_rz4 p_rz4 f_rl4 f_rm4 f_ri5 f_re5 f_rt5 f_rc5 f_rz5 p_rz5 f_rl5 f_dI f_dB f_dA f_dS f_dL f_dLs f_dFo f_dY f_dH f_dNp f_dP f_dW f_dK f_dYd f_dYl f_dPl f_dLt f_dSe f_dMa f_dKi f_dKd f_dRi f_dZ z1 z2 : Addr} {fd_B fd_Bc fd_Bm fd_Bd fd_Bs fd_Br fd_m1 fd_m27 fd_m28 fd_m29 fd_y1 fd_y6 fd_y9 fd_y20 fd_y22 fd_s1 fd_s4 fd_rI fd_ri1 fd_re1 fd_rt1 fd_rc1 fd_rz1 fd_rl1 fd_ri2 fd_re2 fd_rt2 fd_rc2 fd_rz2 fd_rl2 fd_ri3 fd_re3 fd_rt3 fd_rc3 fd_rz3 fd_rl3 fd_rm3 fd_ri4 fd_re4 fd_rt4 fd_rc4 fd_rz4 fd_rl4 fd_rm4 fd_ri5 fd_re5 fd_rt5 fd_rc5 fd_rz5 fd_rl5 fd_dI fd_dB fd_dA fd_dS fd_dL fd_dLs fd_dFo fd_dY fd_dH fd_dNp fd_dP fd_dW fd_dK fd_dYd fd_dYl fd_dPl fd_dLt fd_dSe fd_dMa fd_dKi fd_dKd fd_dRi fd_dZ : FuncData} {t_mN t_mNd t_mNn t_mMd t_mNr : Tok} {F_ri1 F_ri2 F_ri3 F_ri4 F_ri5 : NdefX.NF}
theorem all18 (X : K.In h) (G : h.Ns mainGlobals mg) (hmg : mg "law" = some (.ref fa))
    (eB : ErrK K "BadLengths" "BadLengths.__init__" sIBadLengths ["part"] B f_B fd_B)
    (eBc : ErrK K "BadCount" "BadCount.__init__" sIBadCount ["value"] Bc f_Bc fd_Bc)
    (eBm : ErrK K "TooMany" "TooMany.__init__" sITooMany ["what", "most"] Bm f_Bm fd_Bm)
    (eBd : ErrK K "BadDays" "BadDays.__init__" sIBadDays ["part"] Bd f_Bd fd_Bd)
    (eBs : ErrK K "BadStay" "BadStay.__init__" sIBadStay ["part"] Bs f_Bs fd_Bs)
    (eBr : ErrK K "BadRule" "BadRule.__init__" sIBadRule ["part"] Br f_Br fd_Br)
    (nR : PySem.W.nsIn K mainGlobals "Rule" = some (some (.ref R)))
    (nKD : PySem.W.nsIn K mainGlobals "DayRule" = some (some (.ref KD)))
    (nKN : PySem.W.nsIn K mainGlobals "NightRule" = some (some (.ref KN)))
    (nKL : PySem.W.nsIn K mainGlobals "LengthRule" = some (some (.ref KL)))
    (nC : PySem.W.nsIn K mainGlobals "Lengths" = some (some (.ref C)))
    (cC : clsB K C ["form"] = true)
    (nCd : PySem.W.nsIn K mainGlobals "Days" = some (some (.ref Cd)))
    (cCd : clsB K Cd ["form"] = true)
    (nCs : PySem.W.nsIn K mainGlobals "Stay" = some (some (.ref Cs)))
    (cCs : clsB K Cs ["first", "after", "nights"] = true)
    (nC1 : PySem.W.nsIn K mainGlobals "Comes" = some (some (.ref C1)))
    (cC1 : clsB K C1 ["text", "own_size", "periods", "sets", "days", "lengths", "one", "other", "rule"] = true)
    (nC2 : PySem.W.nsIn K mainGlobals "Goes" = some (some (.ref C2)))
    (cC2 : clsB K C2 ["text", "own_size", "periods", "sets", "days", "lengths", "one", "other", "rule"] = true)
    (nC3 : PySem.W.nsIn K mainGlobals "Holds" = some (some (.ref C3)))
    (cC3 : clsB K C3 ["text", "own_size", "periods", "sets", "days", "lengths", "one", "other", "rule"] = true)
    (nC4 : PySem.W.nsIn K mainGlobals "Within" = some (some (.ref C4)))
    (cC4 : clsB K C4 ["text", "own_size", "periods", "sets", "days", "lengths", "one", "other", "rule"] = true)
    (nC5 : PySem.W.nsIn K mainGlobals "Lasts" = some (some (.ref C5)))
    (cC5 : clsB K C5 ["text", "own_size", "periods", "sets", "days", "lengths", "one", "other", "rule"] = true)
    (m1 : MethDK K C "__init__" "Lengths.__init__" sLI [.ref z1, .int 1, .ref z2] f_m1 fd_m1)
    (m27 : MethK K C "__eq__" "Lengths.__eq__" sLEq f_m27 fd_m27)
    (m28 : MethK K C "__contains__" "Lengths.__contains__" sLIn f_m28 fd_m28)
    (m29 : MethK K C "__str__" "Lengths.__str__" sLStr f_m29 fd_m29)
    (y1 : MethK K Cd "__init__" "Days.__init__" (sDays 1) f_y1 fd_y1)
    (y6 : PropK K Cd "period" "Days.period" (sDays 6) p_y6 f_y6 fd_y6)
    (y9 : MethK K Cd "__contains__" "Days.__contains__" (sDays 9) f_y9 fd_y9)
    (y20 : MethK K Cd "__eq__" "Days.__eq__" (sDays 20) f_y20 fd_y20)
    (y22 : MethK K Cd "__str__" "Days.__str__" (sDays 22) f_y22 fd_y22)
    (s1 : MethK K Cs "__init__" "Stay.__init__" (sStay 1) f_s1 fd_s1)
    (s4 : MethK K Cs "__len__" "Stay.__len__" (sStay 4) f_s4 fd_s4)
    (rI : MethK K R "__init__" "Rule.__init__" sRi0 f_rI fd_rI)
    (ri1 : MethS K l.prog C1 "__init__" "DayRule.__init__" sDri KD f_ri1 F_ri1 fd_ri1)
    (re1 : MethK K C1 "__eq__" "Rule.__eq__" sReq f_re1 fd_re1)
    (rt1 : MethK K C1 "__str__" "Rule.__str__" sRst f_rt1 fd_rt1)
    (rc1 : MethK K C1 "__call__" "Rule.__call__" sRca f_rc1 fd_rc1)
    (rz1 : PropK K C1 "size" "Rule.size" sRsz p_rz1 f_rz1 fd_rz1)
    (rl1 : MethK K C1 "lets_nights" "Comes.lets_nights" sLco f_rl1 fd_rl1)
    (ri2 : MethS K l.prog C2 "__init__" "DayRule.__init__" sDri KD f_ri2 F_ri2 fd_ri2)
    (re2 : MethK K C2 "__eq__" "Rule.__eq__" sReq f_re2 fd_re2)
    (rt2 : MethK K C2 "__str__" "Rule.__str__" sRst f_rt2 fd_rt2)
    (rc2 : MethK K C2 "__call__" "Rule.__call__" sRca f_rc2 fd_rc2)
    (rz2 : PropK K C2 "size" "Rule.size" sRsz p_rz2 f_rz2 fd_rz2)
    (rl2 : MethK K C2 "lets_nights" "Goes.lets_nights" sLgo f_rl2 fd_rl2)
    (ri3 : MethS K l.prog C3 "__init__" "DayRule.__init__" sDri KD f_ri3 F_ri3 fd_ri3)
    (re3 : MethK K C3 "__eq__" "Rule.__eq__" sReq f_re3 fd_re3)
    (rt3 : MethK K C3 "__str__" "Rule.__str__" sRst f_rt3 fd_rt3)
    (rc3 : MethK K C3 "__call__" "Rule.__call__" sRca f_rc3 fd_rc3)
    (rz3 : PropK K C3 "size" "Rule.size" sRsz p_rz3 f_rz3 fd_rz3)
    (rl3 : MethK K C3 "lets_nights" "Holds.lets_nights" sLho f_rl3 fd_rl3)
    (rm3 : MethK K C3 "marks" "NightRule.marks" sMk2 f_rm3 fd_rm3)
    (ri4 : MethS K l.prog C4 "__init__" "DayRule.__init__" sDri KD f_ri4 F_ri4 fd_ri4)
    (re4 : MethK K C4 "__eq__" "Rule.__eq__" sReq f_re4 fd_re4)
    (rt4 : MethK K C4 "__str__" "Rule.__str__" sRst f_rt4 fd_rt4)
    (rc4 : MethK K C4 "__call__" "Rule.__call__" sRca f_rc4 fd_rc4)
    (rz4 : PropK K C4 "size" "Rule.size" sRsz p_rz4 f_rz4 fd_rz4)
    (rl4 : MethK K C4 "lets_nights" "Within.lets_nights" sLwi f_rl4 fd_rl4)
    (rm4 : MethK K C4 "marks" "NightRule.marks" sMk2 f_rm4 fd_rm4)
    (ri5 : MethS K l.prog C5 "__init__" "LengthRule.__init__" sLri KL f_ri5 F_ri5 fd_ri5)
    (re5 : MethK K C5 "__eq__" "Rule.__eq__" sReq f_re5 fd_re5)
    (rt5 : MethK K C5 "__str__" "Rule.__str__" sRst f_rt5 fd_rt5)
    (rc5 : MethK K C5 "__call__" "Rule.__call__" sRca f_rc5 fd_rc5)
    (rz5 : PropK K C5 "size" "Rule.size" sRsz p_rz5 f_rz5 fd_rz5)
    (rl5 : MethK K C5 "lets_nights" "Lasts.lets_nights" sLla f_rl5 fd_rl5)
    (dI : DefK K "is_integer" sIsInt f_dI fd_dI)
    (dB : DefK K "is_between" sBetw f_dB fd_dB)
    (dA : DefK K "are_between" sAreL f_dA fd_dA)
    (dS : DefK K "ascending" sAscL f_dS fd_dS)
    (dL : DefK K "least_period" sLp f_dL fd_dL)
    (dLs : DefK K "least_start" sLs f_dLs fd_dLs)
    (dFo : DefK K "form_of" sFo f_dFo fd_dFo)
    (dY : DefK K "is_day" sDay f_dY fd_dY)
    (dH : DefK K "has" sHas f_dH fd_dH)
    (dNp : DefK K "need_part" sNp f_dNp fd_dNp)
    (dP : DefK K "_law_pen" sPen f_dP fd_dP)
    (dW : DefK K "_law_draw" sDraw f_dW fd_dW)
    (dK : DefK K "_law_pick" sPick f_dK fd_dK)
    (dYd : DefK K "_law_days" sYd f_dYd fd_dYd)
    (dYl : DefK K "_law_lengths" sYl f_dYl fd_dYl)
    (dPl : DefK K "_law_plan" sPl f_dPl fd_dPl)
    (dLt : DefK K "_law_lets" sLt f_dLt fd_dLt)
    (dSe : DefK K "_law_set" sSe f_dSe fd_dSe)
    (dMa : DefK K "_law_made" sMa f_dMa fd_dMa)
    (dKi : DefK K "_law_kinds" sKi f_dKi fd_dKi)
    (dKd : DefK K "_law_kinds_due" sKd f_dKd fd_dKd)
    (dRi : DefK K "_law_right" sRi f_dRi fd_dRi)
    (dZ : DefK K "law" sLaw f_dZ fd_dZ)
    (rBR : crB K R = true)
    (ox : rulB18 K R KD KN KL Cd C [(C1, 0), (C2, 1), (C3, 2), (C4, 3), (C5, 4)] = true)
    (mox : cvIB K R "MOST" 30 = true)
    (rB : crB K C = true)
    (fi : PySem.W.fnIn K f_rI = true)
    (ty : PySem.W.typeIn K (.ref f_rI) = some (.type "function"))
    (ta : PySem.W.nsIn K cStatics "thirdparty.any" = some none)
    (cD : (PySem.W.clsIn K KD).isSome = true)
    (cL : (PySem.W.clsIn K KL).isSome = true)
    (nfL : PySem.W.notFirst K C (.ref C) = true)
    (nfD : PySem.W.notFirst K Cd (.ref Cd) = true)
    (neL : neB K C = true)
    (neD : neB K Cd = true)
    (w1 : wordB K R C1 "comes" = true)
    (su1 : supB K C1 KD "__init__" f_rI = true)
    (ne1 : neB K C1 = true)
    (fc1 : PySem.W.fnIn K f_rc1 = true)
    (fl1 : PySem.W.fnIn K f_rl1 = true)
    (w2 : wordB K R C2 "goes" = true)
    (su2 : supB K C2 KD "__init__" f_rI = true)
    (ne2 : neB K C2 = true)
    (fc2 : PySem.W.fnIn K f_rc2 = true)
    (fl2 : PySem.W.fnIn K f_rl2 = true)
    (w3 : wordB K R C3 "holds" = true)
    (su3 : supB K C3 KD "__init__" f_rI = true)
    (ne3 : neB K C3 = true)
    (fc3 : PySem.W.fnIn K f_rc3 = true)
    (fl3 : PySem.W.fnIn K f_rl3 = true)
    (w4 : wordB K R C4 "within" = true)
    (su4 : supB K C4 KD "__init__" f_rI = true)
    (ne4 : neB K C4 = true)
    (fc4 : PySem.W.fnIn K f_rc4 = true)
    (fl4 : PySem.W.fnIn K f_rl4 = true)
    (w5 : wordB K R C5 "lasts" = true)
    (su5 : supB K C5 KL "__init__" f_rI = true)
    (ne5 : neB K C5 = true)
    (fc5 : PySem.W.fnIn K f_rc5 = true)
    (fl5 : PySem.W.fnIn K f_rl5 = true)
    (mN : mg "BOUND_lengths" = some (.int 400 t_mN))
    (mNd : mg "BOUND_days" = some (.int 7 t_mNd))
    (mNn : mg "MOST_NIGHTS" = some (.int 400 t_mNn))
    (mMd : mg "MOST_DAY" = some (.int MD t_mMd))
    (mNr : mg "MOST_RULES" = some (.int 30 t_mNr))
    (hz1 : FzT K z1 [])
    (hz2 : FzT K z2 [])
    (bB : biB K ["all", "any", "sorted", "set", "max", "sum", "super"] = true) :
    LawAtG l w K 10 63 "_law_script" mg fa h := by
  have Tb := biB_ok X G bB
  have m_all : mg "all" = none := biB_at X G bB _ (by simp)
  have m_any : mg "any" = none := biB_at X G bB _ (by simp)
  have m_sorted : mg "sorted" = none := biB_at X G bB _ (by simp)
  have m_set : mg "set" = none := biB_at X G bB _ (by simp)
  have m_max : mg "max" = none := biB_at X G bB _ (by simp)
  have m_sum : mg "sum" = none := biB_at X G bB _ (by simp)
  have m_super : mg "super" = none := biB_at X G bB _ (by simp)
  have efa : fa = f_dZ := by
    have z := PySem.W.mg_of X G dZ.ns
    rw [hmg] at z
    injection (Option.some.inj z)
  subst efa
  have ck_C := clsB_ok cC
  have ck_Cd := clsB_ok cCd
  have ck_Cs := clsB_ok cCs
  have ck_C1 := clsB_ok cC1
  have ck_C2 := clsB_ok cC2
  have ck_C3 := clsB_ok cC3
  have ck_C4 := clsB_ok cC4
  have ck_C5 := clsB_ok cC5

  have cr0 := crB_ok rB
  have lnc : LnC K C := ⟨ck_C.cl, ck_C.nf _ (by decide)⟩
  have bI : Binds K fd_m1 psL [] := by
    obtain ⟨ds, v, b⟩ := m1.F.binds1 (ps := psL) 5 3 (fun z => nomatch z) rfl (fun T kV doc pm an cdv ct us its h1 h2 => by
      match us, h1, its, h2 with
      | [_, _, _, _, _], _, [_, _, _], _ => exact ⟨_, rfl, rfl⟩)
    cases v
    exact b
  obtain ⟨d1, v1, bI1⟩ := m1.F.binds1 (ps := psL) 2 0 (fun z => nomatch z) rfl (fun T kV doc pm an cdv ct us its h1 h2 => by
    match us, h1, its, h2 with
    | [_, _], _, [_, _, _], _ => exact ⟨_, rfl, rfl⟩)
  obtain ⟨d2, v2, bI2⟩ := m1.F.binds1 (ps := psL) 3 1 (fun z => nomatch z) rfl (fun T kV doc pm an cdv ct us its h1 h2 => by
    match us, h1, its, h2 with
    | [_, _, _], _, [_, _, _], _ => exact ⟨_, rfl, rfl⟩)

  have rq := rul18_ok ox
  have dyc : DyC K Cd := ⟨ck_Cd.cl, ck_Cd.nf _ (by decide)⟩
  have stc : StC K Cs := ⟨ck_Cs.cl, ck_Cs.nf _ (by decide), ck_Cs.nf _ (by decide), ck_Cs.nf _ (by decide)⟩
  have kw1 : KwB fd_y1 ["period", "rests"] := by
    obtain ⟨oc, od, kV, doc, pm, an, cdv, ct, osl, rfl, _, _⟩ := y1.F.ex
    intro s u ws hl
    match ws, hl with
    | [_, _], _ => exact .of_eq rfl
  refine ⟨fd_dZ, [], spLaw [] K, ?_, ?_, ?_, ?_, ?_, ?_⟩
  · intro p hp
    cases hp
  · intro p hp
    cases hp
  · intro p hp
    cases hp
  · obtain ⟨oc, od, kV, doc, pm, an, cdv, ct, osl, rfl, _, _⟩ := dZ.F.ex
    exact fun s u => .of_eq rfl
  · intro H a ns hl hT hS
    refine ⟨a, ns, rfl, hS, hl, fun p hp => ?_, fun _ => rfl⟩
    cases hp
  · intro base KB GB TB
    have DdI : DefOf l.prog w K mg base "is_integer" 1 ["value"] (spIsInt K) := dI.of X G (ok_isint dI.F Tb) (dI.F.binds (fun _ _ _ _ _ _ us hl => match us, hl with | [_], _ => rfl))
    have DdB : DefOf l.prog w K mg base "is_between" 2 ["value", "low", "high"] (spBetw K) := dB.of X G (ok_betw dB.F DdI) (dB.F.binds (fun _ _ _ _ _ _ us hl => match us, hl with | [_, _, _], _ => rfl))
    have DdY : DefOf l.prog w K mg base "is_day" 3 ["value"] (spDay K) := dY.of X G (ok_day dY.F mMd DdB) (dY.F.binds (fun _ _ _ _ _ _ us hl => match us, hl with | [_], _ => rfl))
    have DdA : DefOf l.prog w K mg base "are_between" 3 ["values", "low", "high"] (spAreL K) := dA.of X G (ok_AreL dA.F Tb m_all Tb.tuple DdB) (dA.F.binds (fun _ _ _ _ _ _ us hl => match us, hl with | [_, _, _], _ => rfl))
    have DdS : DefOf l.prog w K mg base "ascending" 1 ["numbers"] (spAscL K) := dS.of X G (ok_AscL dS.F Tb m_sorted m_set) (dS.F.binds (fun _ _ _ _ _ _ us hl => match us, hl with | [_], _ => rfl))
    have DdL : DefOf l.prog w K mg base "least_period" 1 ["truths"] (spLp K) := dL.of X G (ok_lp dL.F Tb) (dL.F.binds (fun _ _ _ _ _ _ us hl => match us, hl with | [_], _ => rfl))
    have DdLs : DefOf l.prog w K mg base "least_start" 1 ["truths", "start", "period"] spLs := dLs.of X G (ok_Ls dLs.F Tb) (dLs.F.binds (fun _ _ _ _ _ _ us hl => match us, hl with | [_, _, _], _ => rfl))
    have DdFo : DefOf l.prog w K mg base "form_of" 2 ["truths", "start"] spFo := dFo.of X G (ok_Fo dFo.F Tb DdL DdLs DdS) (dFo.F.binds (fun _ _ _ _ _ _ us hl => match us, hl with | [_, _], _ => rfl))
    have okB := okIBadLengths (P := l.prog) (w := w) (mg := mg) (base := base) eB.F eB.oex (eB.nf _ (by decide))
    have BdB : BadN l.prog w K mg base "BadLengths" ["part"] B := ⟨PySem.W.mg_of X G eB.ns, eB.oex, f_B, fd_B, eB.iC, eB.tI, okB.1, okB.2⟩
    have okBc := okIBadCount (P := l.prog) (w := w) (mg := mg) (base := base) eBc.F eBc.oex (eBc.nf _ (by decide))
    have BdBc : BadN l.prog w K mg base "BadCount" ["value"] Bc := ⟨PySem.W.mg_of X G eBc.ns, eBc.oex, f_Bc, fd_Bc, eBc.iC, eBc.tI, okBc.1, okBc.2⟩
    have okBm := okITooMany (P := l.prog) (w := w) (mg := mg) (base := base) eBm.F eBm.oex (eBm.nf _ (by decide)) (eBm.nf _ (by decide))
    have BdBm : BadN l.prog w K mg base "TooMany" ["what", "most"] Bm := ⟨PySem.W.mg_of X G eBm.ns, eBm.oex, f_Bm, fd_Bm, eBm.iC, eBm.tI, okBm.1, okBm.2⟩
    have ini : FnOk l.prog w K mg base (CX l.prog w) 4 f_m1 fd_m1 psL (spLI K B Bm C) := ok_LI m1.F Tb mN lnc BdB BdBm DdB DdA DdFo
    have lnd : LnD l.prog w K mg base B Bm C := ⟨lnc, PySem.W.mg_of X G nC, ⟨f_m1, fd_m1, z1, z2, d1, d2, ⟨ck_C.mk_, m1.at_, m1.fn, ck_C.kp⟩, ini, bI, v1, bI1, v2, bI2, hz1, hz2⟩, ck_C.ca, ck_C.cn, ck_C.ct, ck_C.cm, ck_C.kc⟩
    have DdA2 : DefOf l.prog w K mg base "are_between" 3 ["values", "low", "high"] (spAre K) := dA.of X G (ok_are dA.F Tb m_all Tb.tuple DdB) (dA.F.binds (fun _ _ _ _ _ _ us hl => match us, hl with | [_, _, _], _ => rfl))
    have DdS2 : DefOf l.prog w K mg base "ascending" 1 ["numbers"] (spAsc K) := dS.of X G (ok_asc dS.F Tb m_sorted m_set) (dS.F.binds (fun _ _ _ _ _ _ us hl => match us, hl with | [_], _ => rfl))
    have DdH : DefOf l.prog w K mg base "has" 1 ["form", "n"] spHas := dH.of X G (ok_Has dH.F) (dH.F.binds (fun _ _ _ _ _ _ us hl => match us, hl with | [_, _], _ => rfl))
    have okBd := okIBadDays (P := l.prog) (w := w) (mg := mg) (base := base) eBd.F eBd.oex (eBd.nf _ (by decide))
    have BdBd : BadC l.prog w K mg base "BadDays" "part" Bd := ⟨PySem.W.mg_of X G eBd.ns, eBd.oex, eBd.nf _ (by decide), f_Bd, fd_Bd, eBd.iC, eBd.tI, okBd.1, okBd.2⟩
    have okBs := okIBadStay (P := l.prog) (w := w) (mg := mg) (base := base) eBs.F eBs.oex (eBs.nf _ (by decide))
    have BdBs : BadC l.prog w K mg base "BadStay" "part" Bs := ⟨PySem.W.mg_of X G eBs.ns, eBs.oex, eBs.nf _ (by decide), f_Bs, fd_Bs, eBs.iC, eBs.tI, okBs.1, okBs.2⟩
    have okBr := okIBadRule (P := l.prog) (w := w) (mg := mg) (base := base) eBr.F eBr.oex (eBr.nf _ (by decide))
    have BdBr : BadC l.prog w K mg base "BadRule" "part" Br := ⟨PySem.W.mg_of X G eBr.ns, eBr.oex, eBr.nf _ (by decide), f_Br, fd_Br, eBr.iC, eBr.tI, okBr.1, okBr.2⟩

    have lne : LnE l.prog w K mg base B Bm C := { lnd with
      eqm := ⟨f_m27, fd_m27, ["self", "other"], ok_LEq m27.F Tb lnd, m27.F.binds (fun _ _ _ _ _ _ us hl => match us, hl with | [_, _], _ => rfl), m27.at_, m27.fn⟩
      ne := neB_ok neL ck_C.cm
      nf := nfL }
    have dini : FnOk l.prog w K mg base (CX l.prog w) 5 f_y1 fd_y1 ["self", "period", "rests"] (spDI K Bd Cd) := ok_di y1.F Tb mNd dyc BdBd DdB DdA2 DdS2 DdL
    have dyd : DyD l.prog w K mg base Bd Cd := ⟨dyc, PySem.W.mg_of X G nCd, ⟨f_y1, fd_y1, ⟨ck_Cd.mk_, y1.at_, y1.fn, ck_Cd.kp⟩, dini, y1.F.binds (fun _ _ _ _ _ _ us hl => match us, hl with | [_, _, _], _ => rfl)⟩, ⟨f_y1, fd_y1, ⟨ck_Cd.mk_, y1.at_, y1.fn, ck_Cd.kp⟩, dini, kw1⟩, ck_Cd.ca, ck_Cd.cn, ck_Cd.ct, ck_Cd.cm, ck_Cd.kc⟩
    have dye : DyE l.prog w K mg base Bd Cd := { dyd with
      eqm := ⟨f_y20, fd_y20, ["self", "other"], ok_eq y20.F Tb dyd, y20.F.binds (fun _ _ _ _ _ _ us hl => match us, hl with | [_, _], _ => rfl), y20.at_, y20.fn⟩
      ne := neB_ok neD ck_Cd.cm
      nf := nfD }
    have std : StD l.prog w K mg base Bs Cs := ⟨stc, PySem.W.mg_of X G nCs, ⟨f_s1, fd_s1, ⟨ck_Cs.mk_, s1.at_, s1.fn, ck_Cs.kp⟩, ok_sinit s1.F Tb mNn stc BdBs DdY, s1.F.binds (fun _ _ _ _ _ _ us hl => match us, hl with | [_, _, _], _ => rfl)⟩, ck_Cs.ca, ck_Cs.cn, ck_Cs.ct, ck_Cs.cm, ck_Cs.kc⟩
    have perD : ∃ (p g : Addr) (fd : FuncData), PropOf K Cd "period" p g ∧ FnOk l.prog w K mg base CX0 1 g fd ["self"] (spPer Cd) ∧ Binds K fd ["self"] [] := ⟨p_y6, f_y6, fd_y6, y6.pr, ok_per y6.F dyc, y6.F.binds (fun _ _ _ _ _ _ us hl => match us, hl with | [_], _ => rfl)⟩
    have contD : OwnMP l.prog w K mg base CX0 2 Cd "__contains__" (spIn K Cd) := ⟨f_y9, fd_y9, ["self", "d"], ok_in y9.F dyc DdI, y9.F.binds (fun _ _ _ _ _ _ us hl => match us, hl with | [_, _], _ => rfl), y9.at_, y9.fn⟩
    have strD : OwnMP l.prog w K mg base CX0 1 Cd "__str__" (spStr Cd) := ⟨f_y22, fd_y22, ["self"], ok_str y22.F Tb dyc, y22.F.binds (fun _ _ _ _ _ _ us hl => match us, hl with | [_], _ => rfl), y22.at_, y22.fn⟩
    have strL : OwnMP l.prog w K mg base CX0 1 C "__str__" (spStrL C) := ⟨f_m29, fd_m29, ["self"], ok_LStr m29.F Tb lnc, m29.F.binds (fun _ _ _ _ _ _ us hl => match us, hl with | [_], _ => rfl), m29.at_, m29.fn⟩
    have contL : OwnMP l.prog w K mg base CX0 2 C "__contains__" (spInL K C) := ⟨f_m28, fd_m28, ["self", "n"], ok_LIn m28.F lnc DdI DdH, m28.F.binds (fun _ _ _ _ _ _ us hl => match us, hl with | [_, _], _ => rfl), m28.at_, m28.fn⟩
    have slen : OwnMP l.prog w K mg base CX0 1 Cs "__len__" (spSLen Cs) := ⟨f_s4, fd_s4, ["self"], ok_slen s4.F Tb stc, s4.F.binds (fun _ _ _ _ _ _ us hl => match us, hl with | [_], _ => rfl), s4.at_, s4.fn⟩
    have Dnp : ∃ (f : Addr) (fd : FuncData), FnOk l.prog w K mg base (CX l.prog w) 3 f fd ["part", "is_right"] (spNp Br) ∧ mg "need_part" = some (.ref f) ∧ PySem.W.keepIn K (.ref f) = true ∧ Binds K fd ["part", "is_right"] [] := ⟨f_dNp, fd_dNp, ok_Np dNp.F BdBr, PySem.W.mg_of X G dNp.ns, dNp.F.kp, dNp.F.binds (fun _ _ _ _ _ _ us hl => match us, hl with | [_, _], _ => rfl)⟩
    have fri : FnR l.prog w K mg base (CX l.prog w) 4 f_rI (spRI0 K R) := raw0 (ok_Ri0 rI.F Tb m_sum mNr BdBm) (rI.F.binds (fun _ _ _ _ _ _ us hl => match us, hl with | [_, _, _], _ => rfl))
    have kw_rc1 : KwB fd_rc1 ["stay"] := by
      obtain ⟨oc, od, kV, doc, pm, an, cdv, ct, osl, rfl, _, _⟩ := rc1.F.ex
      intro s u ws hl
      match ws, hl with
      | [_], _ => exact .of_eq rfl
    have rk1 : RCl K R C1 (koWd (some .comes)) := rcl_of ck_C1 w1
    have ini1 : FnOk l.prog w K mg base (CX l.prog w) 5 f_ri1 fd_ri1 ["self", "days"] (spDRI K Br R Cd C1 (RK.word .comes)) := ok_Dri ri1.F Tb m_super ta (isSome_ex cD) rk1 (by decide) (supB_ok su1) fri fi ty Dnp dyd strD perD
    have bi1 : Binds K fd_ri1 ["self", "days"] [] := FunS.bindsW ri1.F (fun _ _ _ _ _ _ _ us hl => match us, hl with | [_, _], _ => rfl)
    have kb1 : KwB fd_ri1 ["days"] := FunS.kw1 ri1.F (fun _ _ _ _ _ _ _ _ _ => rfl)
    have ri_1 : RuI l.prog w K mg base "Comes" "days" C1 (spDRI K Br R Cd C1 (RK.word .comes)) := ⟨PySem.W.mg_of X G nC1, f_ri1, fd_ri1, ⟨ck_C1.mk_, ri1.at_, ri1.fn, ck_C1.kp⟩, ini1, bi1, kbn_of kb1⟩
    have okc1 : FnOk l.prog w K mg base (CX l.prog w) 5 f_rc1 fd_rc1 ["self", "stay"] (spRC l.prog w K mg base 4 Bs Cs) := ok_Rca rc1.F (k := 4) (by decide) Tb std slen BdBs
    have rr1 : RuC l.prog w K mg base Bs R Cd C Cs (some .comes) C1 := { c := rk1, eqm := ⟨f_re1, fd_re1, ["self", "other"], ok_Req re1.F Tb (PySem.W.mg_of X G nR), re1.F.binds (fun _ _ _ _ _ _ us hl => match us, hl with | [_, _], _ => rfl), re1.at_, re1.fn⟩, ne := neB_ok ne1 ck_C1.cm, str := ⟨f_rt1, fd_rt1, ["self"], ok_Rst rt1.F Tb, rt1.F.binds (fun _ _ _ _ _ _ us hl => match us, hl with | [_], _ => rfl), rt1.at_, rt1.fn⟩, cal := ⟨ck_C1.cl, f_rc1, fd_rc1, ⟨rc1.at_, rc1.fn, rc1.F.kp⟩, fc1, okc1, rc1.F.binds (fun _ _ _ _ _ _ us hl => match us, hl with | [_, _], _ => rfl)⟩, calk := ⟨ck_C1.cl, f_rc1, fd_rc1, ⟨rc1.at_, rc1.fn, rc1.F.kp⟩, fc1, okc1, kbn_of kw_rc1⟩, siz := ⟨ck_C1.cl, p_rz1, f_rz1, fd_rz1, rz1.pr, ok_Rsz rz1.F, rz1.F.binds (fun _ _ _ _ _ _ us hl => match us, hl with | [_], _ => rfl)⟩, lts := ⟨ck_C1.cl, f_rl1, fd_rl1, ⟨rl1.at_, rl1.fn, rl1.F.kp⟩, fl1, ok_Lco rl1.F rk1 contD, rl1.F.binds (fun _ _ _ _ _ _ us hl => match us, hl with | [_, _, _], _ => rfl)⟩ }
    have kw_rc2 : KwB fd_rc2 ["stay"] := by
      obtain ⟨oc, od, kV, doc, pm, an, cdv, ct, osl, rfl, _, _⟩ := rc2.F.ex
      intro s u ws hl
      match ws, hl with
      | [_], _ => exact .of_eq rfl
    have rk2 : RCl K R C2 (koWd (some .goes)) := rcl_of ck_C2 w2
    have ini2 : FnOk l.prog w K mg base (CX l.prog w) 5 f_ri2 fd_ri2 ["self", "days"] (spDRI K Br R Cd C2 (RK.word .goes)) := ok_Dri ri2.F Tb m_super ta (isSome_ex cD) rk2 (by decide) (supB_ok su2) fri fi ty Dnp dyd strD perD
    have bi2 : Binds K fd_ri2 ["self", "days"] [] := FunS.bindsW ri2.F (fun _ _ _ _ _ _ _ us hl => match us, hl with | [_, _], _ => rfl)
    have kb2 : KwB fd_ri2 ["days"] := FunS.kw1 ri2.F (fun _ _ _ _ _ _ _ _ _ => rfl)
    have ri_2 : RuI l.prog w K mg base "Goes" "days" C2 (spDRI K Br R Cd C2 (RK.word .goes)) := ⟨PySem.W.mg_of X G nC2, f_ri2, fd_ri2, ⟨ck_C2.mk_, ri2.at_, ri2.fn, ck_C2.kp⟩, ini2, bi2, kbn_of kb2⟩
    have okc2 : FnOk l.prog w K mg base (CX l.prog w) 5 f_rc2 fd_rc2 ["self", "stay"] (spRC l.prog w K mg base 4 Bs Cs) := ok_Rca rc2.F (k := 4) (by decide) Tb std slen BdBs
    have rr2 : RuC l.prog w K mg base Bs R Cd C Cs (some .goes) C2 := { c := rk2, eqm := ⟨f_re2, fd_re2, ["self", "other"], ok_Req re2.F Tb (PySem.W.mg_of X G nR), re2.F.binds (fun _ _ _ _ _ _ us hl => match us, hl with | [_, _], _ => rfl), re2.at_, re2.fn⟩, ne := neB_ok ne2 ck_C2.cm, str := ⟨f_rt2, fd_rt2, ["self"], ok_Rst rt2.F Tb, rt2.F.binds (fun _ _ _ _ _ _ us hl => match us, hl with | [_], _ => rfl), rt2.at_, rt2.fn⟩, cal := ⟨ck_C2.cl, f_rc2, fd_rc2, ⟨rc2.at_, rc2.fn, rc2.F.kp⟩, fc2, okc2, rc2.F.binds (fun _ _ _ _ _ _ us hl => match us, hl with | [_, _], _ => rfl)⟩, calk := ⟨ck_C2.cl, f_rc2, fd_rc2, ⟨rc2.at_, rc2.fn, rc2.F.kp⟩, fc2, okc2, kbn_of kw_rc2⟩, siz := ⟨ck_C2.cl, p_rz2, f_rz2, fd_rz2, rz2.pr, ok_Rsz rz2.F, rz2.F.binds (fun _ _ _ _ _ _ us hl => match us, hl with | [_], _ => rfl)⟩, lts := ⟨ck_C2.cl, f_rl2, fd_rl2, ⟨rl2.at_, rl2.fn, rl2.F.kp⟩, fl2, ok_Lgo rl2.F rk2 contD, rl2.F.binds (fun _ _ _ _ _ _ us hl => match us, hl with | [_, _, _], _ => rfl)⟩ }
    have kw_rc3 : KwB fd_rc3 ["stay"] := by
      obtain ⟨oc, od, kV, doc, pm, an, cdv, ct, osl, rfl, _, _⟩ := rc3.F.ex
      intro s u ws hl
      match ws, hl with
      | [_], _ => exact .of_eq rfl
    have rk3 : RCl K R C3 (koWd (some .holds)) := rcl_of ck_C3 w3
    have ini3 : FnOk l.prog w K mg base (CX l.prog w) 5 f_ri3 fd_ri3 ["self", "days"] (spDRI K Br R Cd C3 (RK.word .holds)) := ok_Dri ri3.F Tb m_super ta (isSome_ex cD) rk3 (by decide) (supB_ok su3) fri fi ty Dnp dyd strD perD
    have bi3 : Binds K fd_ri3 ["self", "days"] [] := FunS.bindsW ri3.F (fun _ _ _ _ _ _ _ us hl => match us, hl with | [_, _], _ => rfl)
    have kb3 : KwB fd_ri3 ["days"] := FunS.kw1 ri3.F (fun _ _ _ _ _ _ _ _ _ => rfl)
    have ri_3 : RuI l.prog w K mg base "Holds" "days" C3 (spDRI K Br R Cd C3 (RK.word .holds)) := ⟨PySem.W.mg_of X G nC3, f_ri3, fd_ri3, ⟨ck_C3.mk_, ri3.at_, ri3.fn, ck_C3.kp⟩, ini3, bi3, kbn_of kb3⟩
    have okc3 : FnOk l.prog w K mg base (CX l.prog w) 5 f_rc3 fd_rc3 ["self", "stay"] (spRC l.prog w K mg base 4 Bs Cs) := ok_Rca rc3.F (k := 4) (by decide) Tb std slen BdBs
    have rr3 : RuC l.prog w K mg base Bs R Cd C Cs (some .holds) C3 := { c := rk3, eqm := ⟨f_re3, fd_re3, ["self", "other"], ok_Req re3.F Tb (PySem.W.mg_of X G nR), re3.F.binds (fun _ _ _ _ _ _ us hl => match us, hl with | [_, _], _ => rfl), re3.at_, re3.fn⟩, ne := neB_ok ne3 ck_C3.cm, str := ⟨f_rt3, fd_rt3, ["self"], ok_Rst rt3.F Tb, rt3.F.binds (fun _ _ _ _ _ _ us hl => match us, hl with | [_], _ => rfl), rt3.at_, rt3.fn⟩, cal := ⟨ck_C3.cl, f_rc3, fd_rc3, ⟨rc3.at_, rc3.fn, rc3.F.kp⟩, fc3, okc3, rc3.F.binds (fun _ _ _ _ _ _ us hl => match us, hl with | [_, _], _ => rfl)⟩, calk := ⟨ck_C3.cl, f_rc3, fd_rc3, ⟨rc3.at_, rc3.fn, rc3.F.kp⟩, fc3, okc3, kbn_of kw_rc3⟩, siz := ⟨ck_C3.cl, p_rz3, f_rz3, fd_rz3, rz3.pr, ok_Rsz rz3.F, rz3.F.binds (fun _ _ _ _ _ _ us hl => match us, hl with | [_], _ => rfl)⟩, lts := ⟨ck_C3.cl, f_rl3, fd_rl3, ⟨rl3.at_, rl3.fn, rl3.F.kp⟩, fl3, ok_Lho rl3.F Tb m_any rk3 ⟨f_rm3, fd_rm3, ⟨rm3.at_, rm3.fn, rm3.F.kp⟩, ok_Mk2 rm3.F Tb contD perD dyc.cl, rm3.F.binds (fun _ _ _ _ _ _ us hl => match us, hl with | [_, _, _, _], _ => rfl)⟩, rl3.F.binds (fun _ _ _ _ _ _ us hl => match us, hl with | [_, _, _], _ => rfl)⟩ }
    have kw_rc4 : KwB fd_rc4 ["stay"] := by
      obtain ⟨oc, od, kV, doc, pm, an, cdv, ct, osl, rfl, _, _⟩ := rc4.F.ex
      intro s u ws hl
      match ws, hl with
      | [_], _ => exact .of_eq rfl
    have rk4 : RCl K R C4 (koWd (some .within)) := rcl_of ck_C4 w4
    have ini4 : FnOk l.prog w K mg base (CX l.prog w) 5 f_ri4 fd_ri4 ["self", "days"] (spDRI K Br R Cd C4 (RK.word .within)) := ok_Dri ri4.F Tb m_super ta (isSome_ex cD) rk4 (by decide) (supB_ok su4) fri fi ty Dnp dyd strD perD
    have bi4 : Binds K fd_ri4 ["self", "days"] [] := FunS.bindsW ri4.F (fun _ _ _ _ _ _ _ us hl => match us, hl with | [_, _], _ => rfl)
    have kb4 : KwB fd_ri4 ["days"] := FunS.kw1 ri4.F (fun _ _ _ _ _ _ _ _ _ => rfl)
    have ri_4 : RuI l.prog w K mg base "Within" "days" C4 (spDRI K Br R Cd C4 (RK.word .within)) := ⟨PySem.W.mg_of X G nC4, f_ri4, fd_ri4, ⟨ck_C4.mk_, ri4.at_, ri4.fn, ck_C4.kp⟩, ini4, bi4, kbn_of kb4⟩
    have okc4 : FnOk l.prog w K mg base (CX l.prog w) 5 f_rc4 fd_rc4 ["self", "stay"] (spRC l.prog w K mg base 4 Bs Cs) := ok_Rca rc4.F (k := 4) (by decide) Tb std slen BdBs
    have rr4 : RuC l.prog w K mg base Bs R Cd C Cs (some .within) C4 := { c := rk4, eqm := ⟨f_re4, fd_re4, ["self", "other"], ok_Req re4.F Tb (PySem.W.mg_of X G nR), re4.F.binds (fun _ _ _ _ _ _ us hl => match us, hl with | [_, _], _ => rfl), re4.at_, re4.fn⟩, ne := neB_ok ne4 ck_C4.cm, str := ⟨f_rt4, fd_rt4, ["self"], ok_Rst rt4.F Tb, rt4.F.binds (fun _ _ _ _ _ _ us hl => match us, hl with | [_], _ => rfl), rt4.at_, rt4.fn⟩, cal := ⟨ck_C4.cl, f_rc4, fd_rc4, ⟨rc4.at_, rc4.fn, rc4.F.kp⟩, fc4, okc4, rc4.F.binds (fun _ _ _ _ _ _ us hl => match us, hl with | [_, _], _ => rfl)⟩, calk := ⟨ck_C4.cl, f_rc4, fd_rc4, ⟨rc4.at_, rc4.fn, rc4.F.kp⟩, fc4, okc4, kbn_of kw_rc4⟩, siz := ⟨ck_C4.cl, p_rz4, f_rz4, fd_rz4, rz4.pr, ok_Rsz rz4.F, rz4.F.binds (fun _ _ _ _ _ _ us hl => match us, hl with | [_], _ => rfl)⟩, lts := ⟨ck_C4.cl, f_rl4, fd_rl4, ⟨rl4.at_, rl4.fn, rl4.F.kp⟩, fl4, ok_Lwi rl4.F Tb m_all rk4 ⟨f_rm4, fd_rm4, ⟨rm4.at_, rm4.fn, rm4.F.kp⟩, ok_Mk2 rm4.F Tb contD perD dyc.cl, rm4.F.binds (fun _ _ _ _ _ _ us hl => match us, hl with | [_, _, _, _], _ => rfl)⟩, rl4.F.binds (fun _ _ _ _ _ _ us hl => match us, hl with | [_, _, _], _ => rfl)⟩ }
    have kw_rc5 : KwB fd_rc5 ["stay"] := by
      obtain ⟨oc, od, kV, doc, pm, an, cdv, ct, osl, rfl, _, _⟩ := rc5.F.ex
      intro s u ws hl
      match ws, hl with
      | [_], _ => exact .of_eq rfl
    have rk5 : RCl K R C5 (koWd none) := rcl_of ck_C5 w5
    have ini5 : FnOk l.prog w K mg base (CX l.prog w) 5 f_ri5 fd_ri5 ["self", "lengths"] (spLRI K Br R C C5 "lasts") := ok_Lri ri5.F Tb m_super ta (isSome_ex cL) rk5 (by decide) (supB_ok su5) fri fi ty Dnp lnd strL
    have bi5 : Binds K fd_ri5 ["self", "lengths"] [] := FunS.bindsW ri5.F (fun _ _ _ _ _ _ _ us hl => match us, hl with | [_, _], _ => rfl)
    have kb5 : KwB fd_ri5 ["lengths"] := FunS.kw1 ri5.F (fun _ _ _ _ _ _ _ _ _ => rfl)
    have ri_5 : RuI l.prog w K mg base "Lasts" "lengths" C5 (spLRI K Br R C C5 "lasts") := ⟨PySem.W.mg_of X G nC5, f_ri5, fd_ri5, ⟨ck_C5.mk_, ri5.at_, ri5.fn, ck_C5.kp⟩, ini5, bi5, kbn_of kb5⟩
    have okc5 : FnOk l.prog w K mg base (CX l.prog w) 5 f_rc5 fd_rc5 ["self", "stay"] (spRC l.prog w K mg base 4 Bs Cs) := ok_Rca rc5.F (k := 4) (by decide) Tb std slen BdBs
    have rr5 : RuC l.prog w K mg base Bs R Cd C Cs none C5 := { c := rk5, eqm := ⟨f_re5, fd_re5, ["self", "other"], ok_Req re5.F Tb (PySem.W.mg_of X G nR), re5.F.binds (fun _ _ _ _ _ _ us hl => match us, hl with | [_, _], _ => rfl), re5.at_, re5.fn⟩, ne := neB_ok ne5 ck_C5.cm, str := ⟨f_rt5, fd_rt5, ["self"], ok_Rst rt5.F Tb, rt5.F.binds (fun _ _ _ _ _ _ us hl => match us, hl with | [_], _ => rfl), rt5.at_, rt5.fn⟩, cal := ⟨ck_C5.cl, f_rc5, fd_rc5, ⟨rc5.at_, rc5.fn, rc5.F.kp⟩, fc5, okc5, rc5.F.binds (fun _ _ _ _ _ _ us hl => match us, hl with | [_, _], _ => rfl)⟩, calk := ⟨ck_C5.cl, f_rc5, fd_rc5, ⟨rc5.at_, rc5.fn, rc5.F.kp⟩, fc5, okc5, kbn_of kw_rc5⟩, siz := ⟨ck_C5.cl, p_rz5, f_rz5, fd_rz5, rz5.pr, ok_Rsz rz5.F, rz5.F.binds (fun _ _ _ _ _ _ us hl => match us, hl with | [_], _ => rfl)⟩, lts := ⟨ck_C5.cl, f_rl5, fd_rl5, ⟨rl5.at_, rl5.fn, rl5.F.kp⟩, fl5, ok_Lla rl5.F rk5 contL, rl5.F.binds (fun _ _ _ _ _ _ us hl => match us, hl with | [_, _, _], _ => rfl)⟩ }
    have rs : R18 l.prog w K mg base Bs R Cd C Cs (cl5 C1 C2 C3 C4 C5) := { ru := fun o => (match o with | some .comes => rr1 | some .goes => rr2 | some .holds => rr3 | some .within => rr4 | none => rr5), nf := rq.nf, nfT := rq.nfT, nfd := rq.nfd, nfl := rq.nfl, kT := rq.kT, kd := rq.kd, kl := rq.kl }
    have gg : G18 K mg R KD KN KL (cl5 C1 C2 C3 C4 C5) := { Co := PySem.W.mg_of X G nC1, Go := PySem.W.mg_of X G nC2, Ho := PySem.W.mg_of X G nC3, Wi := PySem.W.mg_of X G nC4, La := PySem.W.mg_of X G nC5, gKD := PySem.W.mg_of X G nKD, gKN := PySem.W.mg_of X G nKN, gKL := PySem.W.mg_of X G nKL, gR := PySem.W.mg_of X G nR, kk := rq.kk, kD := rq.kD, kN := rq.kN, kL := rq.kL }

    obtain ⟨mu, mu2⟩ := cvIB_ok mox
    have mo : ∃ mc u, CRead K R mc ∧ CVal K R mc "MOST" (.int 30) u := ⟨_, mu, crB_ok rBR, mu2⟩
    have DdP : DefOf l.prog w K mg base "_law_pen" 1 ["_law_script"] (spPen K) := dP.of X G (ok_pen dP.F Tb) (dP.F.binds (fun _ _ _ _ _ _ us hl => match us, hl with | [_], _ => rfl))
    have DdW : DefOf l.prog w K mg base "_law_draw" 1 ["_law_pen_here", "_law_many"] spDraw := dW.of X G (ok_draw dW.F Tb) (dW.F.binds (fun _ _ _ _ _ _ us hl => match us, hl with | [_, _], _ => rfl))
    have DdK : DefOf l.prog w K mg base "_law_pick" 2 ["_law_pen_here", "_law_some"] spPick := dK.of X G (ok_pick dK.F Tb DdW) (dK.F.binds (fun _ _ _ _ _ _ us hl => match us, hl with | [_, _], _ => rfl))
    have DdYd : DefOf l.prog w K mg base "_law_days" 3 ["_law_pen_here"] (spYd []) := dYd.of X G (ok_Yd dYd.F Tb DdW DdK) (dYd.F.binds (fun _ _ _ _ _ _ us hl => match us, hl with | [_], _ => rfl))
    have DdYl : DefOf l.prog w K mg base "_law_lengths" 3 ["_law_pen_here"] (spYl []) := dYl.of X G (ok_Yl dYl.F Tb DdW DdK) (dYl.F.binds (fun _ _ _ _ _ _ us hl => match us, hl with | [_], _ => rfl))
    have DdPl : DefOf l.prog w K mg base "_law_plan" 4 ["_law_pen_here"] (spPl []) := dPl.of X G (ok_Pl dPl.F Tb DdYd DdYl DdK) (dPl.F.binds (fun _ _ _ _ _ _ us hl => match us, hl with | [_], _ => rfl))
    have DdLt : DefOf l.prog w K mg base "_law_lets" 1 ["_law_plan_here", "_law_first", "_law_nights"] spLt := dLt.of X G (ok_Lt dLt.F Tb) (dLt.F.binds (fun _ _ _ _ _ _ us hl => match us, hl with | [_, _, _], _ => rfl))
    have DdSe : DefOf l.prog w K mg base "_law_set" 7 ["_law_plan_here"] (spSe Cd C) := dSe.of X G (ok_Se dSe.F dyd lnd) (dSe.F.binds (fun _ _ _ _ _ _ us hl => match us, hl with | [_], _ => rfl))
    have DdMa : DefOf l.prog w K mg base "_law_made" 8 ["_law_plan_here", "_law_is_named"] (spMa Cd C (cl5 C1 C2 C3 C4 C5)) := dMa.of X G (ok_Ma (cl := cl5 C1 C2 C3 C4 C5) dMa.F DdSe ri_1 ri_2 ri_3 ri_4 ri_5) (dMa.F.binds (fun _ _ _ _ _ _ us hl => match us, hl with | [_, _], _ => rfl))
    have DdKi : DefOf l.prog w K mg base "_law_kinds" 1 ["_law_thing"] (spKi Cd C (cl5 C1 C2 C3 C4 C5)) := dKi.of X G (ok_Ki dKi.F Tb rs gg) (dKi.F.binds (fun _ _ _ _ _ _ us hl => match us, hl with | [_], _ => rfl))
    have DdKd : DefOf l.prog w K mg base "_law_kinds_due" 1 ["_law_word"] spKd := dKd.of X G (ok_Kd dKd.F Tb) (dKd.F.binds (fun _ _ _ _ _ _ us hl => match us, hl with | [_], _ => rfl))
    have DdRi : DefG l.prog w K mg base "_law_right" 9 ["_law_pen_here", "_law_plan_here"] (spRi []) := ⟨f_dRi, fd_dRi, ok_Ri dRi.F Tb rs dye lne std DdW DdK DdLt DdSe DdMa DdKi DdKd, PySem.W.mg_of X G dRi.ns, dRi.F.kp, (dRi.F.binds (fun _ _ _ _ _ _ us hl => match us, hl with | [_, _], _ => rfl))⟩
    exact ok_Law dZ.F Tb rs dye lne std gg mo DdP DdW DdK DdPl DdSe DdMa DdRi
end
end NB
/-! from the facts the law -/
namespace NB
open PySem L2 ClX
theorem of18 {w : World} {K : PySem.W.Frag} {h : Heap} {mg : Str → Option Value} {fa : Addr} (X : K.In h) (G : h.Ns mainGlobals mg) (hmg : mg "law" = some (.ref fa)) (c : SaysB (((((fs18_0 ++ fs18_1) ++ fs18_2) ++ fs18_3) ++ fs18_4) ++ fs18_5) (((((fn18_0 ++ fn18_1) ++ fn18_2) ++ fn18_3) ++ fn18_4) ++ fn18_5) (((((vs18_0 ++ vs18_1) ++ vs18_2) ++ vs18_3) ++ vs18_4) ++ vs18_5) K) : LawAtG PySem.Challenge.rw_nodeadnight_k18_simple_rules_called w K 10 63 "_law_script" mg fa h := by
  have c1 : (erB K "BadLengths" ["part"] (He.ga K "BadLengths") (He.ma K (He.ga K "BadLengths") "__init__")) = true := c.fact 0 rfl
  have c2 : fnT K ((He.ma K (He.ga K "BadLengths") "__init__")) = valT "__init__" "BadLengths.__init__" sIBadLengths := c.fn 0 rfl rfl
  have c3 : (fnB K (He.ma K (He.ga K "BadLengths") "__init__") "BadLengths.__init__") = true := c.fact 1 rfl
  obtain ⟨fd_B, eB⟩ := err_of c1 c2 c3
  have c4 : (erB K "BadCount" ["value"] (He.ga K "BadCount") (He.ma K (He.ga K "BadCount") "__init__")) = true := c.fact 2 rfl
  have c5 : fnT K ((He.ma K (He.ga K "BadCount") "__init__")) = valT "__init__" "BadCount.__init__" sIBadCount := c.fn 1 rfl rfl
  have c6 : (fnB K (He.ma K (He.ga K "BadCount") "__init__") "BadCount.__init__") = true := c.fact 3 rfl
  obtain ⟨fd_Bc, eBc⟩ := err_of c4 c5 c6
  have c7 : (erB K "TooMany" ["what", "most"] (He.ga K "TooMany") (He.ma K (He.ga K "TooMany") "__init__")) = true := c.fact 4 rfl
  have c8 : fnT K ((He.ma K (He.ga K "TooMany") "__init__")) = valT "__init__" "TooMany.__init__" sITooMany := c.fn 2 rfl rfl
  have c9 : (fnB K (He.ma K (He.ga K "TooMany") "__init__") "TooMany.__init__") = true := c.fact 5 rfl
  obtain ⟨fd_Bm, eBm⟩ := err_of c7 c8 c9
  have c10 : (erB K "BadDays" ["part"] (He.ga K "BadDays") (He.ma K (He.ga K "BadDays") "__init__")) = true := c.fact 6 rfl
  have c11 : fnT K ((He.ma K (He.ga K "BadDays") "__init__")) = valT "__init__" "BadDays.__init__" sIBadDays := c.fn 3 rfl rfl
  have c12 : (fnB K (He.ma K (He.ga K "BadDays") "__init__") "BadDays.__init__") = true := c.fact 7 rfl
  obtain ⟨fd_Bd, eBd⟩ := err_of c10 c11 c12
  have c13 : (erB K "BadStay" ["part"] (He.ga K "BadStay") (He.ma K (He.ga K "BadStay") "__init__")) = true := c.fact 8 rfl
  have c14 : fnT K ((He.ma K (He.ga K "BadStay") "__init__")) = valT "__init__" "BadStay.__init__" sIBadStay := c.fn 4 rfl rfl
  have c15 : (fnB K (He.ma K (He.ga K "BadStay") "__init__") "BadStay.__init__") = true := c.fact 9 rfl
  obtain ⟨fd_Bs, eBs⟩ := err_of c13 c14 c15
  have c16 : (erB K "BadRule" ["part"] (He.ga K "BadRule") (He.ma K (He.ga K "BadRule") "__init__")) = true := c.fact 10 rfl
  have c17 : fnT K ((He.ma K (He.ga K "BadRule") "__init__")) = valT "__init__" "BadRule.__init__" sIBadRule := c.fn 5 rfl rfl
  have c18 : (fnB K (He.ma K (He.ga K "BadRule") "__init__") "BadRule.__init__") = true := c.fact 11 rfl
  obtain ⟨fd_Br, eBr⟩ := err_of c16 c17 c18
  have c19 : (nsB K "Rule" (He.ga K "Rule")) = true := c.fact 12 rfl
  have c20 : (nsB K "DayRule" (He.ga K "DayRule")) = true := c.fact 13 rfl
  have c21 : (nsB K "NightRule" (He.ga K "NightRule")) = true := c.fact 14 rfl
  have c22 : (nsB K "LengthRule" (He.ga K "LengthRule")) = true := c.fact 15 rfl
  have c23 : (nsB K "Lengths" (He.ga K "Lengths")) = true := c.fact 16 rfl
  have c24 : (clsB K (He.ga K "Lengths") ["form"]) = true := c.fact 17 rfl
  have c25 : (nsB K "Days" (He.ga K "Days")) = true := c.fact 18 rfl
  have c26 : (clsB K (He.ga K "Days") ["form"]) = true := c.fact 19 rfl
  have c27 : (nsB K "Stay" (He.ga K "Stay")) = true := c.fact 20 rfl
  have c28 : (clsB K (He.ga K "Stay") ["first", "after", "nights"]) = true := c.fact 21 rfl
  have c29 : (nsB K "Comes" (He.ga K "Comes")) = true := c.fact 22 rfl
  have c30 : (clsB K (He.ga K "Comes") ["text", "own_size", "periods", "sets", "days", "lengths", "one", "other", "rule"]) = true := c.fact 23 rfl
  have c31 : (nsB K "Goes" (He.ga K "Goes")) = true := c.fact 24 rfl
  have c32 : (clsB K (He.ga K "Goes") ["text", "own_size", "periods", "sets", "days", "lengths", "one", "other", "rule"]) = true := c.fact 25 rfl
  have c33 : (nsB K "Holds" (He.ga K "Holds")) = true := c.fact 26 rfl
  have c34 : (clsB K (He.ga K "Holds") ["text", "own_size", "periods", "sets", "days", "lengths", "one", "other", "rule"]) = true := c.fact 27 rfl
  have c35 : (nsB K "Within" (He.ga K "Within")) = true := c.fact 28 rfl
  have c36 : (clsB K (He.ga K "Within") ["text", "own_size", "periods", "sets", "days", "lengths", "one", "other", "rule"]) = true := c.fact 29 rfl
  have c37 : (nsB K "Lasts" (He.ga K "Lasts")) = true := c.fact 30 rfl
  have c38 : (clsB K (He.ga K "Lasts") ["text", "own_size", "periods", "sets", "days", "lengths", "one", "other", "rule"]) = true := c.fact 31 rfl
  have c39 : (methB K (He.ga K "Lengths") "__init__" (He.ma K (He.ga K "Lengths") "__init__")) = true := c.fact 32 rfl
  have c40 : fnT K ((He.ma K (He.ga K "Lengths") "__init__")) = valT "__init__" "Lengths.__init__" sLI := c.fn 6 rfl rfl
  have c41 : (fnDB K (He.ma K (He.ga K "Lengths") "__init__") "Lengths.__init__" [.ref (dfA K (He.ma K (He.ga K "Lengths") "__init__") 0), .int 1, .ref (dfA K (He.ma K (He.ga K "Lengths") "__init__") 2)]) = true := c.fact 33 rfl
  obtain ⟨fd_m1, m1⟩ := methD_of c39 c40 c41
  have c42 : (methB K (He.ga K "Lengths") "__eq__" (He.ma K (He.ga K "Lengths") "__eq__")) = true := c.fact 34 rfl
  have c43 : fnT K ((He.ma K (He.ga K "Lengths") "__eq__")) = valT "__eq__" "Lengths.__eq__" sLEq := c.fn 7 rfl rfl
  have c44 : (fnB K (He.ma K (He.ga K "Lengths") "__eq__") "Lengths.__eq__") = true := c.fact 35 rfl
  obtain ⟨fd_m27, m27⟩ := meth_of c42 c43 c44
  have c45 : (methB K (He.ga K "Lengths") "__contains__" (He.ma K (He.ga K "Lengths") "__contains__")) = true := c.fact 36 rfl
  have c46 : fnT K ((He.ma K (He.ga K "Lengths") "__contains__")) = valT "__contains__" "Lengths.__contains__" sLIn := c.fn 8 rfl rfl
  have c47 : (fnB K (He.ma K (He.ga K "Lengths") "__contains__") "Lengths.__contains__") = true := c.fact 37 rfl
  obtain ⟨fd_m28, m28⟩ := meth_of c45 c46 c47
  have c48 : (methB K (He.ga K "Lengths") "__str__" (He.ma K (He.ga K "Lengths") "__str__")) = true := c.fact 38 rfl
  have c49 : fnT K ((He.ma K (He.ga K "Lengths") "__str__")) = valT "__str__" "Lengths.__str__" sLStr := c.fn 9 rfl rfl
  have c50 : (fnB K (He.ma K (He.ga K "Lengths") "__str__") "Lengths.__str__") = true := c.fact 39 rfl
  obtain ⟨fd_m29, m29⟩ := meth_of c48 c49 c50
  have c51 : (methB K (He.ga K "Days") "__init__" (He.ma K (He.ga K "Days") "__init__")) = true := c.fact 40 rfl
  have c52 : fnT K ((He.ma K (He.ga K "Days") "__init__")) = valT "__init__" "Days.__init__" (sDays 1) := c.fn 10 rfl rfl
  have c53 : (fnB K (He.ma K (He.ga K "Days") "__init__") "Days.__init__") = true := c.fact 41 rfl
  obtain ⟨fd_y1, y1⟩ := meth_of c51 c52 c53
  have c54 : (propB K (He.ga K "Days") "period" (He.ma K (He.ga K "Days") "period")) = true := c.fact 42 rfl
  have c55 : fnT K ((rf K (He.ma K (He.ga K "Days") "period") "property")) = valT "period" "Days.period" (sDays 6) := c.fn 11 rfl rfl
  have c56 : (fnB K (rf K (He.ma K (He.ga K "Days") "period") "property") "Days.period") = true := c.fact 43 rfl
  obtain ⟨fd_y6, y6⟩ := prop_of c54 c55 c56
  have c57 : (methB K (He.ga K "Days") "__contains__" (He.ma K (He.ga K "Days") "__contains__")) = true := c.fact 44 rfl
  have c58 : fnT K ((He.ma K (He.ga K "Days") "__contains__")) = valT "__contains__" "Days.__contains__" (sDays 9) := c.fn 12 rfl rfl
  have c59 : (fnB K (He.ma K (He.ga K "Days") "__contains__") "Days.__contains__") = true := c.fact 45 rfl
  obtain ⟨fd_y9, y9⟩ := meth_of c57 c58 c59
  have c60 : (methB K (He.ga K "Days") "__eq__" (He.ma K (He.ga K "Days") "__eq__")) = true := c.fact 46 rfl
  have c61 : fnT K ((He.ma K (He.ga K "Days") "__eq__")) = valT "__eq__" "Days.__eq__" (sDays 20) := c.fn 13 rfl rfl
  have c62 : (fnB K (He.ma K (He.ga K "Days") "__eq__") "Days.__eq__") = true := c.fact 47 rfl
  obtain ⟨fd_y20, y20⟩ := meth_of c60 c61 c62
  have c63 : (methB K (He.ga K "Days") "__str__" (He.ma K (He.ga K "Days") "__str__")) = true := c.fact 48 rfl
  have c64 : fnT K ((He.ma K (He.ga K "Days") "__str__")) = valT "__str__" "Days.__str__" (sDays 22) := c.fn 14 rfl rfl
  have c65 : (fnB K (He.ma K (He.ga K "Days") "__str__") "Days.__str__") = true := c.fact 49 rfl
  obtain ⟨fd_y22, y22⟩ := meth_of c63 c64 c65
  have c66 : (methB K (He.ga K "Stay") "__init__" (He.ma K (He.ga K "Stay") "__init__")) = true := c.fact 50 rfl
  have c67 : fnT K ((He.ma K (He.ga K "Stay") "__init__")) = valT "__init__" "Stay.__init__" (sStay 1) := c.fn 15 rfl rfl
  have c68 : (fnB K (He.ma K (He.ga K "Stay") "__init__") "Stay.__init__") = true := c.fact 51 rfl
  obtain ⟨fd_s1, s1⟩ := meth_of c66 c67 c68
  have c69 : (methB K (He.ga K "Stay") "__len__" (He.ma K (He.ga K "Stay") "__len__")) = true := c.fact 52 rfl
  have c70 : fnT K ((He.ma K (He.ga K "Stay") "__len__")) = valT "__len__" "Stay.__len__" (sStay 4) := c.fn 16 rfl rfl
  have c71 : (fnB K (He.ma K (He.ga K "Stay") "__len__") "Stay.__len__") = true := c.fact 53 rfl
  obtain ⟨fd_s4, s4⟩ := meth_of c69 c70 c71
  have c72 : (methB K (He.ga K "Rule") "__init__" (He.ma K (He.ga K "Rule") "__init__")) = true := c.fact 54 rfl
  have c73 : fnT K ((He.ma K (He.ga K "Rule") "__init__")) = valT "__init__" "Rule.__init__" sRi0 := c.fn 17 rfl rfl
  have c74 : (fnB K (He.ma K (He.ga K "Rule") "__init__") "Rule.__init__") = true := c.fact 55 rfl
  obtain ⟨fd_rI, rI⟩ := meth_of c72 c73 c74
  have c75 : (methB K (He.ga K "Comes") "__init__" (He.ma K (He.ga K "Comes") "__init__")) = true := c.fact 56 rfl
  have c76 : fnT K ((He.ma K (He.ga K "Comes") "__init__")) = valT "__init__" "DayRule.__init__" sDri := c.fn 18 rfl rfl
  have c77 : (fnSB K (PySem.W.OpenLaw.row PySem.Challenge.rw_nodeadnight_k18_simple_rules_called).prog (He.ma K (He.ga K "Comes") "__init__") "DayRule.__init__" (He.ga K "DayRule")) = true := c.fact 57 rfl
  obtain ⟨F_ri1, fd_ri1, ri1⟩ := methS_of c75 c76 c77
  have c78 : (methB K (He.ga K "Comes") "__eq__" (He.ma K (He.ga K "Comes") "__eq__")) = true := c.fact 58 rfl
  have c79 : fnT K ((He.ma K (He.ga K "Comes") "__eq__")) = valT "__eq__" "Rule.__eq__" sReq := c.fn 19 rfl rfl
  have c80 : (fnB K (He.ma K (He.ga K "Comes") "__eq__") "Rule.__eq__") = true := c.fact 59 rfl
  obtain ⟨fd_re1, re1⟩ := meth_of c78 c79 c80
  have c81 : (methB K (He.ga K "Comes") "__str__" (He.ma K (He.ga K "Comes") "__str__")) = true := c.fact 60 rfl
  have c82 : fnT K ((He.ma K (He.ga K "Comes") "__str__")) = valT "__str__" "Rule.__str__" sRst := c.fn 20 rfl rfl
  have c83 : (fnB K (He.ma K (He.ga K "Comes") "__str__") "Rule.__str__") = true := c.fact 61 rfl
  obtain ⟨fd_rt1, rt1⟩ := meth_of c81 c82 c83
  have c84 : (methB K (He.ga K "Comes") "__call__" (He.ma K (He.ga K "Comes") "__call__")) = true := c.fact 62 rfl
  have c85 : fnT K ((He.ma K (He.ga K "Comes") "__call__")) = valT "__call__" "Rule.__call__" sRca := c.fn 21 rfl rfl
  have c86 : (fnB K (He.ma K (He.ga K "Comes") "__call__") "Rule.__call__") = true := c.fact 63 rfl
  obtain ⟨fd_rc1, rc1⟩ := meth_of c84 c85 c86
  have c87 : (propB K (He.ga K "Comes") "size" (He.ma K (He.ga K "Comes") "size")) = true := c.fact 64 rfl
  have c88 : fnT K ((rf K (He.ma K (He.ga K "Comes") "size") "property")) = valT "size" "Rule.size" sRsz := c.fn 22 rfl rfl
  have c89 : (fnB K (rf K (He.ma K (He.ga K "Comes") "size") "property") "Rule.size") = true := c.fact 65 rfl
  obtain ⟨fd_rz1, rz1⟩ := prop_of c87 c88 c89
  have c90 : (methB K (He.ga K "Comes") "lets_nights" (He.ma K (He.ga K "Comes") "lets_nights")) = true := c.fact 66 rfl
  have c91 : fnT K ((He.ma K (He.ga K "Comes") "lets_nights")) = valT "lets_nights" "Comes.lets_nights" sLco := c.fn 23 rfl rfl
  have c92 : (fnB K (He.ma K (He.ga K "Comes") "lets_nights") "Comes.lets_nights") = true := c.fact 67 rfl
  obtain ⟨fd_rl1, rl1⟩ := meth_of c90 c91 c92
  have c93 : (methB K (He.ga K "Goes") "__init__" (He.ma K (He.ga K "Goes") "__init__")) = true := c.fact 68 rfl
  have c94 : fnT K ((He.ma K (He.ga K "Goes") "__init__")) = valT "__init__" "DayRule.__init__" sDri := c.fn 24 rfl rfl
  have c95 : (fnSB K (PySem.W.OpenLaw.row PySem.Challenge.rw_nodeadnight_k18_simple_rules_called).prog (He.ma K (He.ga K "Goes") "__init__") "DayRule.__init__" (He.ga K "DayRule")) = true := c.fact 69 rfl
  obtain ⟨F_ri2, fd_ri2, ri2⟩ := methS_of c93 c94 c95
  have c96 : (methB K (He.ga K "Goes") "__eq__" (He.ma K (He.ga K "Goes") "__eq__")) = true := c.fact 70 rfl
  have c97 : fnT K ((He.ma K (He.ga K "Goes") "__eq__")) = valT "__eq__" "Rule.__eq__" sReq := c.fn 25 rfl rfl
  have c98 : (fnB K (He.ma K (He.ga K "Goes") "__eq__") "Rule.__eq__") = true := c.fact 71 rfl
  obtain ⟨fd_re2, re2⟩ := meth_of c96 c97 c98
  have c99 : (methB K (He.ga K "Goes") "__str__" (He.ma K (He.ga K "Goes") "__str__")) = true := c.fact 72 rfl
  have c100 : fnT K ((He.ma K (He.ga K "Goes") "__str__")) = valT "__str__" "Rule.__str__" sRst := c.fn 26 rfl rfl
  have c101 : (fnB K (He.ma K (He.ga K "Goes") "__str__") "Rule.__str__") = true := c.fact 73 rfl
  obtain ⟨fd_rt2, rt2⟩ := meth_of c99 c100 c101
  have c102 : (methB K (He.ga K "Goes") "__call__" (He.ma K (He.ga K "Goes") "__call__")) = true := c.fact 74 rfl
  have c103 : fnT K ((He.ma K (He.ga K "Goes") "__call__")) = valT "__call__" "Rule.__call__" sRca := c.fn 27 rfl rfl
  have c104 : (fnB K (He.ma K (He.ga K "Goes") "__call__") "Rule.__call__") = true := c.fact 75 rfl
  obtain ⟨fd_rc2, rc2⟩ := meth_of c102 c103 c104
  have c105 : (propB K (He.ga K "Goes") "size" (He.ma K (He.ga K "Goes") "size")) = true := c.fact 76 rfl
  have c106 : fnT K ((rf K (He.ma K (He.ga K "Goes") "size") "property")) = valT "size" "Rule.size" sRsz := c.fn 28 rfl rfl
  have c107 : (fnB K (rf K (He.ma K (He.ga K "Goes") "size") "property") "Rule.size") = true := c.fact 77 rfl
  obtain ⟨fd_rz2, rz2⟩ := prop_of c105 c106 c107
  have c108 : (methB K (He.ga K "Goes") "lets_nights" (He.ma K (He.ga K "Goes") "lets_nights")) = true := c.fact 78 rfl
  have c109 : fnT K ((He.ma K (He.ga K "Goes") "lets_nights")) = valT "lets_nights" "Goes.lets_nights" sLgo := c.fn 29 rfl rfl
  have c110 : (fnB K (He.ma K (He.ga K "Goes") "lets_nights") "Goes.lets_nights") = true := c.fact 79 rfl
  obtain ⟨fd_rl2, rl2⟩ := meth_of c108 c109 c110
  have c111 : (methB K (He.ga K "Holds") "__init__" (He.ma K (He.ga K "Holds") "__init__")) = true := c.fact 80 rfl
  have c112 : fnT K ((He.ma K (He.ga K "Holds") "__init__")) = valT "__init__" "DayRule.__init__" sDri := c.fn 30 rfl rfl
  have c113 : (fnSB K (PySem.W.OpenLaw.row PySem.Challenge.rw_nodeadnight_k18_simple_rules_called).prog (He.ma K (He.ga K "Holds") "__init__") "DayRule.__init__" (He.ga K "DayRule")) = true := c.fact 81 rfl
  obtain ⟨F_ri3, fd_ri3, ri3⟩ := methS_of c111 c112 c113
  have c114 : (methB K (He.ga K "Holds") "__eq__" (He.ma K (He.ga K "Holds") "__eq__")) = true := c.fact 82 rfl
  have c115 : fnT K ((He.ma K (He.ga K "Holds") "__eq__")) = valT "__eq__" "Rule.__eq__" sReq := c.fn 31 rfl rfl
  have c116 : (fnB K (He.ma K (He.ga K "Holds") "__eq__") "Rule.__eq__") = true := c.fact 83 rfl
  obtain ⟨fd_re3, re3⟩ := meth_of c114 c115 c116
  have c117 : (methB K (He.ga K "Holds") "__str__" (He.ma K (He.ga K "Holds") "__str__")) = true := c.fact 84 rfl
  have c118 : fnT K ((He.ma K (He.ga K "Holds") "__str__")) = valT "__str__" "Rule.__str__" sRst := c.fn 32 rfl rfl
  have c119 : (fnB K (He.ma K (He.ga K "Holds") "__str__") "Rule.__str__") = true := c.fact 85 rfl
  obtain ⟨fd_rt3, rt3⟩ := meth_of c117 c118 c119
  have c120 : (methB K (He.ga K "Holds") "__call__" (He.ma K (He.ga K "Holds") "__call__")) = true := c.fact 86 rfl
  have c121 : fnT K ((He.ma K (He.ga K "Holds") "__call__")) = valT "__call__" "Rule.__call__" sRca := c.fn 33 rfl rfl
  have c122 : (fnB K (He.ma K (He.ga K "Holds") "__call__") "Rule.__call__") = true := c.fact 87 rfl
  obtain ⟨fd_rc3, rc3⟩ := meth_of c120 c121 c122
  have c123 : (propB K (He.ga K "Holds") "size" (He.ma K (He.ga K "Holds") "size")) = true := c.fact 88 rfl
  have c124 : fnT K ((rf K (He.ma K (He.ga K "Holds") "size") "property")) = valT "size" "Rule.size" sRsz := c.fn 34 rfl rfl
  have c125 : (fnB K (rf K (He.ma K (He.ga K "Holds") "size") "property") "Rule.size") = true := c.fact 89 rfl
  obtain ⟨fd_rz3, rz3⟩ := prop_of c123 c124 c125
  have c126 : (methB K (He.ga K "Holds") "lets_nights" (He.ma K (He.ga K "Holds") "lets_nights")) = true := c.fact 90 rfl
  have c127 : fnT K ((He.ma K (He.ga K "Holds") "lets_nights")) = valT "lets_nights" "Holds.lets_nights" sLho := c.fn 35 rfl rfl
  have c128 : (fnB K (He.ma K (He.ga K "Holds") "lets_nights") "Holds.lets_nights") = true := c.fact 91 rfl
  obtain ⟨fd_rl3, rl3⟩ := meth_of c126 c127 c128
  have c129 : (methB K (He.ga K "Holds") "marks" (He.ma K (He.ga K "Holds") "marks")) = true := c.fact 92 rfl
  have c130 : fnT K ((He.ma K (He.ga K "Holds") "marks")) = valT "marks" "NightRule.marks" sMk2 := c.fn 36 rfl rfl
  have c131 : (fnB K (He.ma K (He.ga K "Holds") "marks") "NightRule.marks") = true := c.fact 93 rfl
  obtain ⟨fd_rm3, rm3⟩ := meth_of c129 c130 c131
  have c132 : (methB K (He.ga K "Within") "__init__" (He.ma K (He.ga K "Within") "__init__")) = true := c.fact 94 rfl
  have c133 : fnT K ((He.ma K (He.ga K "Within") "__init__")) = valT "__init__" "DayRule.__init__" sDri := c.fn 37 rfl rfl
  have c134 : (fnSB K (PySem.W.OpenLaw.row PySem.Challenge.rw_nodeadnight_k18_simple_rules_called).prog (He.ma K (He.ga K "Within") "__init__") "DayRule.__init__" (He.ga K "DayRule")) = true := c.fact 95 rfl
  obtain ⟨F_ri4, fd_ri4, ri4⟩ := methS_of c132 c133 c134
  have c135 : (methB K (He.ga K "Within") "__eq__" (He.ma K (He.ga K "Within") "__eq__")) = true := c.fact 96 rfl
  have c136 : fnT K ((He.ma K (He.ga K "Within") "__eq__")) = valT "__eq__" "Rule.__eq__" sReq := c.fn 38 rfl rfl
  have c137 : (fnB K (He.ma K (He.ga K "Within") "__eq__") "Rule.__eq__") = true := c.fact 97 rfl
  obtain ⟨fd_re4, re4⟩ := meth_of c135 c136 c137
  have c138 : (methB K (He.ga K "Within") "__str__" (He.ma K (He.ga K "Within") "__str__")) = true := c.fact 98 rfl
  have c139 : fnT K ((He.ma K (He.ga K "Within") "__str__")) = valT "__str__" "Rule.__str__" sRst := c.fn 39 rfl rfl
  have c140 : (fnB K (He.ma K (He.ga K "Within") "__str__") "Rule.__str__") = true := c.fact 99 rfl
  obtain ⟨fd_rt4, rt4⟩ := meth_of c138 c139 c140
  have c141 : (methB K (He.ga K "Within") "__call__" (He.ma K (He.ga K "Within") "__call__")) = true := c.fact 100 rfl
  have c142 : fnT K ((He.ma K (He.ga K "Within") "__call__")) = valT "__call__" "Rule.__call__" sRca := c.fn 40 rfl rfl
  have c143 : (fnB K (He.ma K (He.ga K "Within") "__call__") "Rule.__call__") = true := c.fact 101 rfl
  obtain ⟨fd_rc4, rc4⟩ := meth_of c141 c142 c143
  have c144 : (propB K (He.ga K "Within") "size" (He.ma K (He.ga K "Within") "size")) = true := c.fact 102 rfl
  have c145 : fnT K ((rf K (He.ma K (He.ga K "Within") "size") "property")) = valT "size" "Rule.size" sRsz := c.fn 41 rfl rfl
  have c146 : (fnB K (rf K (He.ma K (He.ga K "Within") "size") "property") "Rule.size") = true := c.fact 103 rfl
  obtain ⟨fd_rz4, rz4⟩ := prop_of c144 c145 c146
  have c147 : (methB K (He.ga K "Within") "lets_nights" (He.ma K (He.ga K "Within") "lets_nights")) = true := c.fact 104 rfl
  have c148 : fnT K ((He.ma K (He.ga K "Within") "lets_nights")) = valT "lets_nights" "Within.lets_nights" sLwi := c.fn 42 rfl rfl
  have c149 : (fnB K (He.ma K (He.ga K "Within") "lets_nights") "Within.lets_nights") = true := c.fact 105 rfl
  obtain ⟨fd_rl4, rl4⟩ := meth_of c147 c148 c149
  have c150 : (methB K (He.ga K "Within") "marks" (He.ma K (He.ga K "Within") "marks")) = true := c.fact 106 rfl
  have c151 : fnT K ((He.ma K (He.ga K "Within") "marks")) = valT "marks" "NightRule.marks" sMk2 := c.fn 43 rfl rfl
  have c152 : (fnB K (He.ma K (He.ga K "Within") "marks") "NightRule.marks") = true := c.fact 107 rfl
  obtain ⟨fd_rm4, rm4⟩ := meth_of c150 c151 c152
  have c153 : (methB K (He.ga K "Lasts") "__init__" (He.ma K (He.ga K "Lasts") "__init__")) = true := c.fact 108 rfl
  have c154 : fnT K ((He.ma K (He.ga K "Lasts") "__init__")) = valT "__init__" "LengthRule.__init__" sLri := c.fn 44 rfl rfl
  have c155 : (fnSB K (PySem.W.OpenLaw.row PySem.Challenge.rw_nodeadnight_k18_simple_rules_called).prog (He.ma K (He.ga K "Lasts") "__init__") "LengthRule.__init__" (He.ga K "LengthRule")) = true := c.fact 109 rfl
  obtain ⟨F_ri5, fd_ri5, ri5⟩ := methS_of c153 c154 c155
  have c156 : (methB K (He.ga K "Lasts") "__eq__" (He.ma K (He.ga K "Lasts") "__eq__")) = true := c.fact 110 rfl
  have c157 : fnT K ((He.ma K (He.ga K "Lasts") "__eq__")) = valT "__eq__" "Rule.__eq__" sReq := c.fn 45 rfl rfl
  have c158 : (fnB K (He.ma K (He.ga K "Lasts") "__eq__") "Rule.__eq__") = true := c.fact 111 rfl
  obtain ⟨fd_re5, re5⟩ := meth_of c156 c157 c158
  have c159 : (methB K (He.ga K "Lasts") "__str__" (He.ma K (He.ga K "Lasts") "__str__")) = true := c.fact 112 rfl
  have c160 : fnT K ((He.ma K (He.ga K "Lasts") "__str__")) = valT "__str__" "Rule.__str__" sRst := c.fn 46 rfl rfl
  have c161 : (fnB K (He.ma K (He.ga K "Lasts") "__str__") "Rule.__str__") = true := c.fact 113 rfl
  obtain ⟨fd_rt5, rt5⟩ := meth_of c159 c160 c161
  have c162 : (methB K (He.ga K "Lasts") "__call__" (He.ma K (He.ga K "Lasts") "__call__")) = true := c.fact 114 rfl
  have c163 : fnT K ((He.ma K (He.ga K "Lasts") "__call__")) = valT "__call__" "Rule.__call__" sRca := c.fn 47 rfl rfl
  have c164 : (fnB K (He.ma K (He.ga K "Lasts") "__call__") "Rule.__call__") = true := c.fact 115 rfl
  obtain ⟨fd_rc5, rc5⟩ := meth_of c162 c163 c164
  have c165 : (propB K (He.ga K "Lasts") "size" (He.ma K (He.ga K "Lasts") "size")) = true := c.fact 116 rfl
  have c166 : fnT K ((rf K (He.ma K (He.ga K "Lasts") "size") "property")) = valT "size" "Rule.size" sRsz := c.fn 48 rfl rfl
  have c167 : (fnB K (rf K (He.ma K (He.ga K "Lasts") "size") "property") "Rule.size") = true := c.fact 117 rfl
  obtain ⟨fd_rz5, rz5⟩ := prop_of c165 c166 c167
  have c168 : (methB K (He.ga K "Lasts") "lets_nights" (He.ma K (He.ga K "Lasts") "lets_nights")) = true := c.fact 118 rfl
  have c169 : fnT K ((He.ma K (He.ga K "Lasts") "lets_nights")) = valT "lets_nights" "Lasts.lets_nights" sLla := c.fn 49 rfl rfl
  have c170 : (fnB K (He.ma K (He.ga K "Lasts") "lets_nights") "Lasts.lets_nights") = true := c.fact 119 rfl
  obtain ⟨fd_rl5, rl5⟩ := meth_of c168 c169 c170
  have c171 : (nsB K "is_integer" (He.ga K "is_integer")) = true := c.fact 120 rfl
  have c172 : fnT K ((He.ga K "is_integer")) = valT "is_integer" "is_integer" sIsInt := c.fn 50 rfl rfl
  have c173 : (fnB K (He.ga K "is_integer") "is_integer") = true := c.fact 121 rfl
  obtain ⟨fd_dI, dI⟩ := def_of c171 c172 c173
  have c174 : (nsB K "is_between" (He.ga K "is_between")) = true := c.fact 122 rfl
  have c175 : fnT K ((He.ga K "is_between")) = valT "is_between" "is_between" sBetw := c.fn 51 rfl rfl
  have c176 : (fnB K (He.ga K "is_between") "is_between") = true := c.fact 123 rfl
  obtain ⟨fd_dB, dB⟩ := def_of c174 c175 c176
  have c177 : (nsB K "are_between" (He.ga K "are_between")) = true := c.fact 124 rfl
  have c178 : fnT K ((He.ga K "are_between")) = valT "are_between" "are_between" sAreL := c.fn 52 rfl rfl
  have c179 : (fnB K (He.ga K "are_between") "are_between") = true := c.fact 125 rfl
  obtain ⟨fd_dA, dA⟩ := def_of c177 c178 c179
  have c180 : (nsB K "ascending" (He.ga K "ascending")) = true := c.fact 126 rfl
  have c181 : fnT K ((He.ga K "ascending")) = valT "ascending" "ascending" sAscL := c.fn 53 rfl rfl
  have c182 : (fnB K (He.ga K "ascending") "ascending") = true := c.fact 127 rfl
  obtain ⟨fd_dS, dS⟩ := def_of c180 c181 c182
  have c183 : (nsB K "least_period" (He.ga K "least_period")) = true := c.fact 128 rfl
  have c184 : fnT K ((He.ga K "least_period")) = valT "least_period" "least_period" sLp := c.fn 54 rfl rfl
  have c185 : (fnB K (He.ga K "least_period") "least_period") = true := c.fact 129 rfl
  obtain ⟨fd_dL, dL⟩ := def_of c183 c184 c185
  have c186 : (nsB K "least_start" (He.ga K "least_start")) = true := c.fact 130 rfl
  have c187 : fnT K ((He.ga K "least_start")) = valT "least_start" "least_start" sLs := c.fn 55 rfl rfl
  have c188 : (fnB K (He.ga K "least_start") "least_start") = true := c.fact 131 rfl
  obtain ⟨fd_dLs, dLs⟩ := def_of c186 c187 c188
  have c189 : (nsB K "form_of" (He.ga K "form_of")) = true := c.fact 132 rfl
  have c190 : fnT K ((He.ga K "form_of")) = valT "form_of" "form_of" sFo := c.fn 56 rfl rfl
  have c191 : (fnB K (He.ga K "form_of") "form_of") = true := c.fact 133 rfl
  obtain ⟨fd_dFo, dFo⟩ := def_of c189 c190 c191
  have c192 : (nsB K "is_day" (He.ga K "is_day")) = true := c.fact 134 rfl
  have c193 : fnT K ((He.ga K "is_day")) = valT "is_day" "is_day" sDay := c.fn 57 rfl rfl
  have c194 : (fnB K (He.ga K "is_day") "is_day") = true := c.fact 135 rfl
  obtain ⟨fd_dY, dY⟩ := def_of c192 c193 c194
  have c195 : (nsB K "has" (He.ga K "has")) = true := c.fact 136 rfl
  have c196 : fnT K ((He.ga K "has")) = valT "has" "has" sHas := c.fn 58 rfl rfl
  have c197 : (fnB K (He.ga K "has") "has") = true := c.fact 137 rfl
  obtain ⟨fd_dH, dH⟩ := def_of c195 c196 c197
  have c198 : (nsB K "need_part" (He.ga K "need_part")) = true := c.fact 138 rfl
  have c199 : fnT K ((He.ga K "need_part")) = valT "need_part" "need_part" sNp := c.fn 59 rfl rfl
  have c200 : (fnB K (He.ga K "need_part") "need_part") = true := c.fact 139 rfl
  obtain ⟨fd_dNp, dNp⟩ := def_of c198 c199 c200
  have c201 : (nsB K "_law_pen" (He.ga K "_law_pen")) = true := c.fact 140 rfl
  have c202 : fnT K ((He.ga K "_law_pen")) = valT "_law_pen" "_law_pen" sPen := c.fn 60 rfl rfl
  have c203 : (fnB K (He.ga K "_law_pen") "_law_pen") = true := c.fact 141 rfl
  obtain ⟨fd_dP, dP⟩ := def_of c201 c202 c203
  have c204 : (nsB K "_law_draw" (He.ga K "_law_draw")) = true := c.fact 142 rfl
  have c205 : fnT K ((He.ga K "_law_draw")) = valT "_law_draw" "_law_draw" sDraw := c.fn 61 rfl rfl
  have c206 : (fnB K (He.ga K "_law_draw") "_law_draw") = true := c.fact 143 rfl
  obtain ⟨fd_dW, dW⟩ := def_of c204 c205 c206
  have c207 : (nsB K "_law_pick" (He.ga K "_law_pick")) = true := c.fact 144 rfl
  have c208 : fnT K ((He.ga K "_law_pick")) = valT "_law_pick" "_law_pick" sPick := c.fn 62 rfl rfl
  have c209 : (fnB K (He.ga K "_law_pick") "_law_pick") = true := c.fact 145 rfl
  obtain ⟨fd_dK, dK⟩ := def_of c207 c208 c209
  have c210 : (nsB K "_law_days" (He.ga K "_law_days")) = true := c.fact 146 rfl
  have c211 : fnT K ((He.ga K "_law_days")) = valT "_law_days" "_law_days" sYd := c.fn 63 rfl rfl
  have c212 : (fnB K (He.ga K "_law_days") "_law_days") = true := c.fact 147 rfl
  obtain ⟨fd_dYd, dYd⟩ := def_of c210 c211 c212
  have c213 : (nsB K "_law_lengths" (He.ga K "_law_lengths")) = true := c.fact 148 rfl
  have c214 : fnT K ((He.ga K "_law_lengths")) = valT "_law_lengths" "_law_lengths" sYl := c.fn 64 rfl rfl
  have c215 : (fnB K (He.ga K "_law_lengths") "_law_lengths") = true := c.fact 149 rfl
  obtain ⟨fd_dYl, dYl⟩ := def_of c213 c214 c215
  have c216 : (nsB K "_law_plan" (He.ga K "_law_plan")) = true := c.fact 150 rfl
  have c217 : fnT K ((He.ga K "_law_plan")) = valT "_law_plan" "_law_plan" sPl := c.fn 65 rfl rfl
  have c218 : (fnB K (He.ga K "_law_plan") "_law_plan") = true := c.fact 151 rfl
  obtain ⟨fd_dPl, dPl⟩ := def_of c216 c217 c218
  have c219 : (nsB K "_law_lets" (He.ga K "_law_lets")) = true := c.fact 152 rfl
  have c220 : fnT K ((He.ga K "_law_lets")) = valT "_law_lets" "_law_lets" sLt := c.fn 66 rfl rfl
  have c221 : (fnB K (He.ga K "_law_lets") "_law_lets") = true := c.fact 153 rfl
  obtain ⟨fd_dLt, dLt⟩ := def_of c219 c220 c221
  have c222 : (nsB K "_law_set" (He.ga K "_law_set")) = true := c.fact 154 rfl
  have c223 : fnT K ((He.ga K "_law_set")) = valT "_law_set" "_law_set" sSe := c.fn 67 rfl rfl
  have c224 : (fnB K (He.ga K "_law_set") "_law_set") = true := c.fact 155 rfl
  obtain ⟨fd_dSe, dSe⟩ := def_of c222 c223 c224
  have c225 : (nsB K "_law_made" (He.ga K "_law_made")) = true := c.fact 156 rfl
  have c226 : fnT K ((He.ga K "_law_made")) = valT "_law_made" "_law_made" sMa := c.fn 68 rfl rfl
  have c227 : (fnB K (He.ga K "_law_made") "_law_made") = true := c.fact 157 rfl
  obtain ⟨fd_dMa, dMa⟩ := def_of c225 c226 c227
  have c228 : (nsB K "_law_kinds" (He.ga K "_law_kinds")) = true := c.fact 158 rfl
  have c229 : fnT K ((He.ga K "_law_kinds")) = valT "_law_kinds" "_law_kinds" sKi := c.fn 69 rfl rfl
  have c230 : (fnB K (He.ga K "_law_kinds") "_law_kinds") = true := c.fact 159 rfl
  obtain ⟨fd_dKi, dKi⟩ := def_of c228 c229 c230
  have c231 : (nsB K "_law_kinds_due" (He.ga K "_law_kinds_due")) = true := c.fact 160 rfl
  have c232 : fnT K ((He.ga K "_law_kinds_due")) = valT "_law_kinds_due" "_law_kinds_due" sKd := c.fn 70 rfl rfl
  have c233 : (fnB K (He.ga K "_law_kinds_due") "_law_kinds_due") = true := c.fact 161 rfl
  obtain ⟨fd_dKd, dKd⟩ := def_of c231 c232 c233
  have c234 : (nsB K "_law_right" (He.ga K "_law_right")) = true := c.fact 162 rfl
  have c235 : fnT K ((He.ga K "_law_right")) = valT "_law_right" "_law_right" sRi := c.fn 71 rfl rfl
  have c236 : (fnB K (He.ga K "_law_right") "_law_right") = true := c.fact 163 rfl
  obtain ⟨fd_dRi, dRi⟩ := def_of c234 c235 c236
  have c237 : (nsB K "law" (He.ga K "law")) = true := c.fact 164 rfl
  have c238 : fnT K ((He.ga K "law")) = valT "law" "law" sLaw := c.fn 72 rfl rfl
  have c239 : (fnB K (He.ga K "law") "law") = true := c.fact 165 rfl
  obtain ⟨fd_dZ, dZ⟩ := def_of c237 c238 c239
  have c240 : (crB K (He.ga K "Rule")) = true := c.fact 166 rfl
  have c241 : (rulB18 K (He.ga K "Rule") (He.ga K "DayRule") (He.ga K "NightRule") (He.ga K "LengthRule") (He.ga K "Days") (He.ga K "Lengths") [((He.ga K "Comes"), 0), ((He.ga K "Goes"), 1), ((He.ga K "Holds"), 2), ((He.ga K "Within"), 3), ((He.ga K "Lasts"), 4)]) = true := c.fact 167 rfl
  have c242 : (cvIB K (He.ga K "Rule") "MOST" 30) = true := c.fact 168 rfl
  have c243 : (crB K (He.ga K "Lengths")) = true := c.fact 169 rfl
  have c244 : (decide (PySem.W.fnIn K (He.ma K (He.ga K "Rule") "__init__") = true)) = true := c.fact 170 rfl
  have c245 : (decide (PySem.W.typeIn K (.ref (He.ma K (He.ga K "Rule") "__init__")) = some (.type "function"))) = true := c.fact 171 rfl
  have c246 : (decide (PySem.W.nsIn K cStatics "thirdparty.any" = some none)) = true := c.fact 172 rfl
  have c247 : ((PySem.W.clsIn K (He.ga K "DayRule")).isSome) = true := c.fact 173 rfl
  have c248 : ((PySem.W.clsIn K (He.ga K "LengthRule")).isSome) = true := c.fact 174 rfl
  have c249 : (decide (PySem.W.notFirst K (He.ga K "Lengths") (.ref (He.ga K "Lengths")) = true)) = true := c.fact 175 rfl
  have c250 : (decide (PySem.W.notFirst K (He.ga K "Days") (.ref (He.ga K "Days")) = true)) = true := c.fact 176 rfl
  have c251 : (neB K (He.ga K "Lengths")) = true := c.fact 177 rfl
  have c252 : (neB K (He.ga K "Days")) = true := c.fact 178 rfl
  have c253 : (wordB K (He.ga K "Rule") (He.ga K "Comes") "comes") = true := c.fact 179 rfl
  have c254 : (supB K (He.ga K "Comes") (He.ga K "DayRule") "__init__" (He.ma K (He.ga K "Rule") "__init__")) = true := c.fact 180 rfl
  have c255 : (neB K (He.ga K "Comes")) = true := c.fact 181 rfl
  have c256 : (decide (PySem.W.fnIn K (He.ma K (He.ga K "Comes") "__call__") = true)) = true := c.fact 182 rfl
  have c257 : (decide (PySem.W.fnIn K (He.ma K (He.ga K "Comes") "lets_nights") = true)) = true := c.fact 183 rfl
  have c258 : (wordB K (He.ga K "Rule") (He.ga K "Goes") "goes") = true := c.fact 184 rfl
  have c259 : (supB K (He.ga K "Goes") (He.ga K "DayRule") "__init__" (He.ma K (He.ga K "Rule") "__init__")) = true := c.fact 185 rfl
  have c260 : (neB K (He.ga K "Goes")) = true := c.fact 186 rfl
  have c261 : (decide (PySem.W.fnIn K (He.ma K (He.ga K "Goes") "__call__") = true)) = true := c.fact 187 rfl
  have c262 : (decide (PySem.W.fnIn K (He.ma K (He.ga K "Goes") "lets_nights") = true)) = true := c.fact 188 rfl
  have c263 : (wordB K (He.ga K "Rule") (He.ga K "Holds") "holds") = true := c.fact 189 rfl
  have c264 : (supB K (He.ga K "Holds") (He.ga K "DayRule") "__init__" (He.ma K (He.ga K "Rule") "__init__")) = true := c.fact 190 rfl
  have c265 : (neB K (He.ga K "Holds")) = true := c.fact 191 rfl
  have c266 : (decide (PySem.W.fnIn K (He.ma K (He.ga K "Holds") "__call__") = true)) = true := c.fact 192 rfl
  have c267 : (decide (PySem.W.fnIn K (He.ma K (He.ga K "Holds") "lets_nights") = true)) = true := c.fact 193 rfl
  have c268 : (wordB K (He.ga K "Rule") (He.ga K "Within") "within") = true := c.fact 194 rfl
  have c269 : (supB K (He.ga K "Within") (He.ga K "DayRule") "__init__" (He.ma K (He.ga K "Rule") "__init__")) = true := c.fact 195 rfl
  have c270 : (neB K (He.ga K "Within")) = true := c.fact 196 rfl
  have c271 : (decide (PySem.W.fnIn K (He.ma K (He.ga K "Within") "__call__") = true)) = true := c.fact 197 rfl
  have c272 : (decide (PySem.W.fnIn K (He.ma K (He.ga K "Within") "lets_nights") = true)) = true := c.fact 198 rfl
  have c273 : (wordB K (He.ga K "Rule") (He.ga K "Lasts") "lasts") = true := c.fact 199 rfl
  have c274 : (supB K (He.ga K "Lasts") (He.ga K "LengthRule") "__init__" (He.ma K (He.ga K "Rule") "__init__")) = true := c.fact 200 rfl
  have c275 : (neB K (He.ga K "Lasts")) = true := c.fact 201 rfl
  have c276 : (decide (PySem.W.fnIn K (He.ma K (He.ga K "Lasts") "__call__") = true)) = true := c.fact 202 rfl
  have c277 : (decide (PySem.W.fnIn K (He.ma K (He.ga K "Lasts") "lets_nights") = true)) = true := c.fact 203 rfl
  have c278 : (intB K "BOUND_lengths" 400) = true := c.fact 204 rfl
  obtain ⟨t_mN, mN⟩ := intB_ok X G c278
  have c279 : (intB K "BOUND_days" 7) = true := c.fact 205 rfl
  obtain ⟨t_mNd, mNd⟩ := intB_ok X G c279
  have c280 : (intB K "MOST_NIGHTS" 400) = true := c.fact 206 rfl
  obtain ⟨t_mNn, mNn⟩ := intB_ok X G c280
  have c281 : (intB K "MOST_DAY" MD) = true := c.fact 207 rfl
  obtain ⟨t_mMd, mMd⟩ := intB_ok X G c281
  have c282 : (intB K "MOST_RULES" 30) = true := c.fact 208 rfl
  obtain ⟨t_mNr, mNr⟩ := intB_ok X G c282
  have c283 : (tupB K (dfA K (He.ma K (He.ga K "Lengths") "__init__") 0) []) = true := c.fact 209 rfl
  have c284 : (tupB K (dfA K (He.ma K (He.ga K "Lengths") "__init__") 2) []) = true := c.fact 210 rfl
  have c285 : (biB K ["all", "any", "sorted", "set", "max", "sum", "super"]) = true := c.fact 211 rfl
  exact all18 X G hmg eB eBc eBm eBd eBs eBr (nsB_ok c19) (nsB_ok c20) (nsB_ok c21) (nsB_ok c22) (nsB_ok c23) c24 (nsB_ok c25) c26 (nsB_ok c27) c28 (nsB_ok c29) c30 (nsB_ok c31) c32 (nsB_ok c33) c34 (nsB_ok c35) c36 (nsB_ok c37) c38 m1 m27 m28 m29 y1 y6 y9 y20 y22 s1 s4 rI ri1 re1 rt1 rc1 rz1 rl1 ri2 re2 rt2 rc2 rz2 rl2 ri3 re3 rt3 rc3 rz3 rl3 rm3 ri4 re4 rt4 rc4 rz4 rl4 rm4 ri5 re5 rt5 rc5 rz5 rl5 dI dB dA dS dL dLs dFo dY dH dNp dP dW dK dYd dYl dPl dLt dSe dMa dKi dKd dRi dZ c240 c241 c242 c243 (of_decide_eq_true c244) (of_decide_eq_true c245) (of_decide_eq_true c246) c247 c248 (of_decide_eq_true c249) (of_decide_eq_true c250) c251 c252 c253 c254 c255 (of_decide_eq_true c256) (of_decide_eq_true c257) c258 c259 c260 (of_decide_eq_true c261) (of_decide_eq_true c262) c263 c264 c265 (of_decide_eq_true c266) (of_decide_eq_true c267) c268 c269 c270 (of_decide_eq_true c271) (of_decide_eq_true c272) c273 c274 c275 (of_decide_eq_true c276) (of_decide_eq_true c277) mN mNd mNn mMd mNr (tupB_ok c283) (tupB_ok c284) c285
end NB
open PySem PySem.W PyProof.Rows in
set_option maxRecDepth 100000 in
set_option maxHeartbeats 0 in
theorem PySem.Challenge.cw_nodeadnight_k18_simple_rules_called_holds : PySem.Challenge.rw_nodeadnight_k18_simple_rules_called.Holds := by
  w_on; o_law
  refine HandSHeadRun.head_any (r := OpenLaw.row PySem.Challenge.rw_nodeadnight_k18_simple_rules_called) (q := view (OpenLaw.row PySem.Challenge.rw_nodeadnight_k18_simple_rules_called).prog [85]) (H := NB.hookB NB.as18 (((((NB.fs18_0 ++ NB.fs18_1) ++ NB.fs18_2) ++ NB.fs18_3) ++ NB.fs18_4) ++ NB.fs18_5) (((((NB.fn18_0 ++ NB.fn18_1) ++ NB.fn18_2) ++ NB.fn18_3) ++ NB.fn18_4) ++ NB.fn18_5) (((((NB.vs18_0 ++ NB.vs18_1) ++ NB.vs18_2) ++ NB.vs18_3) ++ NB.vs18_4) ++ NB.vs18_5)) (ob := fun s => NB.obsBG NB.as18 (((((NB.fs18_0 ++ NB.fs18_1) ++ NB.fs18_2) ++ NB.fs18_3) ++ NB.fs18_4) ++ NB.fs18_5) (((((NB.fn18_0 ++ NB.fn18_1) ++ NB.fn18_2) ++ NB.fn18_3) ++ NB.fn18_4) ++ NB.fn18_5) (HandSHeadRun.getT s)) (M := 14000) (loose := NB.lo18) (d := HandSHeadRun.topDef (OpenLaw.row PySem.Challenge.rw_nodeadnight_k18_simple_rules_called).prog 85) (kwd := []) NB.obsBG_eq
    (by kernel_rfl) (fun s => by kernel_rfl) NB.run18 (by kernel_rfl) (by kernel_rfl) (by kernel_rfl) (by rfl) (by first | assumption | decide +kernel) (by decide +kernel) ⟨rfl, rfl, rfl, rfl, rfl, by decide +kernel⟩ ?hw ?hc
  case hw => w_witness2
  case hc =>
    refine NB.walk_ofGE (l := PySem.Challenge.rw_nodeadnight_k18_simple_rules_called) (n := 63) (k := 10) (x := "_law_script") rfl (by decide) (by kernel_rfl) ⟨rfl, by decide, by decide⟩ ?F
    intro w mg fa h Y G hmg0
    obtain ⟨K, KX, c⟩ := Y
    have hmg : mg ("law" : PySem.Str) = some (.ref fa) := by
      have e : (HandSHeadRun.topDef (OpenLaw.row PySem.Challenge.rw_nodeadnight_k18_simple_rules_called).prog 85).name = ("law" : PySem.Str) := by kernel_rfl
      rw [← e]
      exact hmg0
    exact ⟨K, KX, NB.of18 KX G hmg c⟩
#print axioms PySem.Challenge.cw_nodeadnight_k18_simple_rules_called_holds
