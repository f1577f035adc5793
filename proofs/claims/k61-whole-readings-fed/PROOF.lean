import PyProof.Rows.All
import Wide.All
import OpenK.AllK
import Wide.FinOn
import KE.KFmtOwn
import KE.GoesEnum
import HandS.ForMost
import HandS.ForExc
import HandS.TryOnly
import HandS.TryMany
import HandS.Codes
import HandS.Conv
import HandS.TupAny
import HandS.Star
import HandS.FStr
import HandS.IsInst
import HandS.ExcIs
import HandS.Lambda
import HandS.Small
import HandS.Evl
import HandS.OwnEq
import HandS.Defaults
import HandS.Walk
import HandS.DictSub
import HandS.Head0
import HandS.Head1
import HandS.Head2
import HandS.HeadEnd
import HandS.HeadHook1
import HandS.HeadHook2
import HandS.HeadHook3
import HandS.HeadHook4
import HandS.HeadWalk
import KE.KStateDown
import Lean
import PySem.Challenge.RW_lastshort_k61_whole_readings_fed
set_option Elab.async false
set_option linter.all false
set_option maxRecDepth 100000
-- text R1
section
set_option maxHeartbeats 4000000
/-! Rules that the hand layer lacks: rpartition; X() raised; len, repr, bool of an own instance. -/
namespace LS
open PySem PySem.Spec PyProof.Rows L2

/-! ### str.rpartition -/
section
variable {X : Cx} {o e : Expr} {to te : TE}
def rRpart : V → List V → Hp → VK → Prop := fun x xs H Q => ∃ a b, x = .str a ∧ xs = [.str b] ∧ (b.length == 0) = false ∧ a.length ≤ sizeLine ∧
    ∀ p, H p = none → Q (.ref p) (upd H p (.tup [.str (PySem.Txt.rpartition a b).1, .str (PySem.Txt.rpartition a b).2.1, .str (PySem.Txt.rpartition a b).2.2]))
theorem mt_rpart : MtR X "str.rpartition" rRpart := by
  intro pins s σ H x xs v us Q I rx rs h
  obtain ⟨a, b, rfl, rfl, hb, hz, h⟩ := h
  obtain ⟨t, rfl⟩ := rx
  cases rs with
  | cons r1 rs =>
    cases rs
    obtain ⟨u, rfl⟩ := r1
    refine call_meets F.slot_str_rpartition (typeIs_str _ _ _) F.entry_str_rpartition (F.args_str_rpartition_2 _ _) (meets_str_rpartition a b t u hb hz) ?_
    unfold PySem.Txt.rpartition at h
    revert h
    cases Builtin.Str.lastOccurrence a b 0 a.length with
    | none => intro h; exact laid_parts I h
    | some i => intro h; exact laid_parts I h
theorem pe_rpart {apos pos : Pos} (ho : PE X o to) (he : PE X e te) (hs : starEach [e] X.env = [(false, eval e X.env)] := by rfl) (hbase : attributeBase o "rpartition" X.env (eval o X.env) = eval o X.env := by rfl) (hline : (apos.endLine == pos.line) = true := by rfl) :
    PE X (.Call (.Attribute o "rpartition" apos) [e] [] pos) (tM1 rRpart to te) :=
  pe_m1 F.slot_str_rpartition F.type_str_rpartition mt_rpart ho he hs hbase hline
end

/-! ### raise X() of an own class without __init__ -/
section
variable {X : Cx} {C : Addr} {bmB : List Value} {B newId initId : String} {x : Str} {p pos : Pos}
theorem pmk_own0 (F : ExcBaseFacts B newId initId bmB) (q : PySem.W.excIn X.K C bmB newId = true) (gC : X.mg x = some (.ref C)) (kC : PySem.W.keepIn X.K (.ref C) = true) (r : Raises X (.ref C)) (hg : Gl X x)
    (hdb : (x == ("__debug__" : Str)) = false := by decide) : PMk X (.Call (.Name x p) [] [] pos) (fun _ H Q => Q (.ref C) none H) := by
  intro pins s σ H Q I h
  refine wpAny_Call_Name_kw (ld_glob I hg gC ?_ hdb)
  refine PySem.W.callWith_K0 I.kIn kC ?_
  show wpAny _ _ (call (.ref C) []) _ _ _
  obtain ⟨bm, N, nm, qn, bs, hdct, sn, sub, ab, col, dd, k0, k1, k2, k3, k5, mN, hC, hN, hni, T⟩ := exc_obj I.kIn q
  refine wpAny_call_exc_subT F T hC hN hni (fun h' e hm => ?_) (by show 0 ≤ sizeLine; exact Nat.zero_le _)
  exact mk_of I hm r h (I.hok.gone hm.new)
end

/-! ### len, repr, bool of an own instance -/
section
variable {X : Cx} {C f : Addr} {fd : FuncData} {ps : List Str} {sp : Sp} {CX : CXT} {E : XK} {n : Nat}
/-- an own def called in a builtin, A: somewhere within -/
theorem run_within {A : Around} {pins : List (Addr × Obj)} {σ : L2.St} {H : Hp} {s : Shared} {Q : VK} {us : List Value} {vs : List V} (F : FnOk X.prog X.w X.K X.mg X.base CX n f fd ps sp) (hr : Room n A) (hf : A.frames = X.A.frames) (hb : Binds X.K fd ps []) (hx : Passes CX X E)
    (I : Inv X pins σ H s) (r : Vals vs us) (h : sp vs H Q E) : wpAny (model X.prog X.w) A (call (.ref f) us) (EP X pins σ Q) X.xe s := by
  have e0 : Env0 X.prog X.w X.K X.mg X.base A X.stack s H := by
    have e := I.env0
    exact ⟨by rw [hf]; exact e.frames, e.mod, e.bs, e.bsz, e.funs, e.frf, e.hok, e.bare⟩
  have hl := F.len _ _ _ _ h
  refine wpAny_call (codeAny_mono (F.run A X.stack s H ⟨us, []⟩ us vs Q E hr e0 (by
    have := hb s us I.kIn (by rw [List.append_nil, ← r.length]; exact hl)
    simpa using this) r h) fun r s' hq => ?_)
  cases r with
  | error e => exact hx pins σ H s e s' I hq
  | ok fl =>
    cases fl with
    | ret u => exact I.after hq
    | next => exact False.elim hq
    | brk => exact False.elim hq
    | cont => exact False.elim hq
def rLenOwn (C : Addr) (sp : Sp) (E : XK) : List V → Hp → VK → Prop := fun xs H Q => ∃ a dx fs, xs = [.ref a] ∧ H a = some (.ins C dx fs) ∧ sp [.ref a] H (fun v H' => ∃ k : Int, v = .int k ∧ 0 ≤ k ∧ k < 2 ^ 63 ∧ Q (.int k) H') E
theorem call_lenOwn (F : FnOk X.prog X.w X.K X.mg X.base CX n f fd ps sp) (hr : Room (n + 1) X.A) (hs : PySem.W.findIn X.K (.ref C) "__len__" = some (some (.ref f))) (hf : PySem.W.isFn X.K (.ref f) = true) (hb : Binds X.K fd ps []) (hx : Passes CX X E) :
    CallR X (.builtin "len") (rLenOwn C sp E) := by
  intro pins s σ H xs us Q I r h
  obtain ⟨a, dx, fs, rfl, ha, hsp⟩ := h
  obtain rfl := Vals.ref1 r
  obtain ⟨mA, J, _⟩ := ins_get I.hok ha
  obtain ⟨od, J, _⟩ := J.look
  obtain ⟨m, hF⟩ := I.fr
  refine PySem.W.len_K hF I.ok.mod.kin J hs hf (wpAny_mono (run_within (A := X.A.in1) F hr.in1 rfl hb hx I r hsp) (fun u s' hq => ?_) fun _ _ z => z)
  obtain ⟨v, H', I', rv, k, rfl, h0, h1, q⟩ := hq
  obtain ⟨t, rfl⟩ := rv
  exact ⟨⟨h0, h1⟩, .int k, H', I'.tok _, ⟨_, rfl⟩, q⟩
def rReprOwn (C : Addr) (sp : Sp) (E : XK) : List V → Hp → VK → Prop := fun xs H Q => ∃ a dx fs, xs = [.ref a] ∧ H a = some (.ins C dx fs) ∧ sp [.ref a] H (fun v H' => ∃ z : Str, v = .str z ∧ Q (.str z) H') E
theorem call_reprOwn (F : FnOk X.prog X.w X.K X.mg X.base CX n f fd ps sp) (hr : Room (n + 1) X.A) (hs : PySem.W.findIn X.K (.ref C) "__repr__" = some (some (.ref f))) (hf : PySem.W.isFn X.K (.ref f) = true) (hb : Binds X.K fd ps []) (hx : Passes CX X E) :
    CallR X (.builtin "repr") (rReprOwn C sp E) := by
  intro pins s σ H xs us Q I r h
  obtain ⟨a, dx, fs, rfl, ha, hsp⟩ := h
  obtain rfl := Vals.ref1 r
  obtain ⟨mA, J, _⟩ := ins_get I.hok ha
  obtain ⟨od, J, _⟩ := J.look
  obtain ⟨m, hF⟩ := I.fr
  refine PySem.W.repr_K hr.in1.units0 hF I.ok.mod.kin J hs hf (wpAny_mono (run_within (A := X.A.in1) F hr.in1 rfl hb hx I r hsp) (fun u s' hq => ?_) fun _ _ z => z)
  obtain ⟨v, H', I', rv, z, rfl, q⟩ := hq
  obtain ⟨t, rfl⟩ := rv
  exact ⟨.str z, H', I', ⟨_, rfl⟩, q⟩
def TrueBack (Q : Bool → Shared → Prop) (v : Value) (s' : Shared) : Prop := ∃ (k : Int) (t : Tok), v = .int k t ∧ 0 ≤ k ∧ k < 2 ^ 63 ∧ ∀ tk, Q (k != 0) { s' with toks := tk }
theorem truthy_len {prog : Program} {w : World} {A : Around} {E : Value → Shared → Prop} {s : Shared} {K : PySem.W.Frag} {x C f : Addr} {ox : Obj} {od : Option Obj} {Q : Bool → Shared → Prop} (X : K.In s.heap) (I : PySem.W.InstAt s.heap x ox C od)
    (hb : PySem.W.findIn K (.ref C) "__bool__" = some none) (hs : PySem.W.findIn K (.ref C) "__len__" = some (some (.ref f))) (hf : PySem.W.isFn K (.ref f) = true)
    (h : wpAny (model prog w) A.in1 (call (.ref f) [.ref x]) (TrueBack Q) E s) : wpAny (model prog w) A (truthy (.ref x)) Q E s := by
  have body : wpAny (model prog w) A.in1 (Builtin.«len» ⟨[.ref x], []⟩) (fun fin s' => ∃ r, fin = .done (.ret r) ∧ (∃ k t, r = Value.int k t ∧ Q (k != 0) s')) E s := by
    unfold Builtin.«len»
    refine wpAny_bind (m := oneArg "len" _) (wpAny_pure ?_)
    refine wpAny_bind (m := callSpecial? (.ref x) (Str.ofString "__len__")) (PySem.W.special_fn X I hs (beq_iff_eq.mp hf) (wpAny_mono h (fun r s' hr => ?_) fun _ _ y => y))
    obtain ⟨k, t, rfl, h0, h1, hq⟩ := hr
    refine wpAny_bind (wpAny_holding (wpAny_pure ?_))
    refine wpAny_bind (wpAny_letGo ?_)
    show wpAny _ _ (if k < 0 then _ else _) _ _ _
    rw [if_neg (by omega)]
    show wpAny _ _ (if k ≥ 2 ^ 63 then _ else _) _ _ _
    rw [if_neg (by omega)]
    exact wpAny_bind (wpAny_mkInt (wpAny_pure ⟨_, rfl, k, _, rfl, hq _⟩))
  have key : wpAny (model prog w) A (runValue (.builtin "len" ⟨[.ref x], []⟩)) (fun r s' => ∃ k t, r = Value.int k t ∧ Q (k != 0) s') E s := by
    refine wpAny_runValue (codeAny_builtin entry_len ?_)
    rw [Around.under_plainId plain_len _]
    exact wpAny_mono body (fun fin s' h' => by obtain ⟨r, rfl, hq⟩ := h'; exact hq) fun _ _ e => e
  have hsp : ∀ {Q' : Option Value → Shared → Prop}, Q' (some (.ref f)) s → wpAny (model prog w) A (specialOf (.ref x) "__len__") Q' E s := fun q => by
    unfold specialOf
    exact wpAny_bind (I.type.here ((PySem.W.looks_findIn X hs).here q))
  unfold truthy
  first
    | refine wpAny_bind (DSub.special_no (name := Str.ofString "__bool__") X I hb ?_)
    | refine wpAny_bind (wpAny_pure (wpAny_bind (DSub.special_no (name := Str.ofString "__bool__") X I hb ?_)))
  first
    | refine wpAny_bind (hsp ?_)
    | refine wpAny_bind (wpAny_pure (wpAny_bind (hsp ?_)))
  first
    | exact wpAny_bind (wpAny_mono key (fun r s' h' => by obtain ⟨k, t, rfl, hq⟩ := h'; exact wpAny_pure hq) fun _ _ e => e)
    | exact wpAny_bind (wpAny_pure (wpAny_bind (wpAny_mono key (fun r s' h' => by obtain ⟨k, t, rfl, hq⟩ := h'; exact wpAny_pure hq) fun _ _ e => e)))
open Builtin in
theorem call_bool_codes {prog : Program} {w : World} {A : Around} {E : Value → Shared → Prop} {s : Shared} {x : Value} {Q : Value → Shared → Prop}
    (h : wpAny (model prog w) A.in1.in1 (truthy x) (fun b s' => Q (.bool b) s') E s) : wpAny (model prog w) A (call (.type "bool") [x]) Q E s := by
  refine callType_codes (T := "bool") (Bi := Builtin.«object.__init__») (Q₁ := fun r s₁ => ∃ b, r = .bool b ∧ Q r s₁) PySem.F.called_bool (PySem.F.typeCall_bool_1 _) PySem.F.entry_object_init ?_ ?_
  · refine codeAny_of_tree ?_
    show wpAny _ A.in1.in1 (do checkBuiltinCall "bool.__new__" ⟨[.type "bool", x], []⟩; again (.builtin "bool.__new__" ⟨[.type "bool", x], []⟩)) _ _ s
    refine wpAny_bind (wpAny_of_eq (PySem.F.newCall_bool_1 _) (wpAny_pure ⟨plainId_quiet (by decide +kernel) _, codeAny_builtin PySem.F.entry_bool_new ?_⟩))
    rw [Around.under_plainId (by decide +kernel) _]
    have f1 := PySem.F.conv_sub_bool
    have key : wpAny (model prog w) A.in1.in1 (truthy x) (fun b s' => ∃ b', Value.bool b = .bool b' ∧ Q (.bool b) s') E s := wpAny_mono h (fun b s' q => ⟨b, rfl, q⟩) fun _ _ z => z
    unfold Builtin.«bool.__new__»
    repeat (any_goals (first | assumption | (with_reducible refine wpAny_bind (m := truthy _) (wpAny_mono key (fun r s' hr => ?_) fun _ _ y => y)) | wp_step))
  · rintro obj s₁ ⟨b, rfl, hq⟩
    exact ⟨PySem.typeIs_bool _ _, PySem.F.args_object_init_2 _ _, object_init_meets PySem.F.called_bool.init.lookup PySem.F.called_bool.made (by decide) prog w A.in1 _ s₁ ⟨PySem.typeIs_bool _ _, rfl, hq⟩⟩
def rBoolOwn (C : Addr) (sp : Sp) (E : XK) : List V → Hp → VK → Prop := fun xs H Q => ∃ a dx fs, xs = [.ref a] ∧ H a = some (.ins C dx fs) ∧ sp [.ref a] H (fun v H' => ∃ k : Int, v = .int k ∧ 0 ≤ k ∧ k < 2 ^ 63 ∧ Q (.bl (k != 0)) H') E
theorem call_boolOwn (F : FnOk X.prog X.w X.K X.mg X.base CX n f fd ps sp) (hr : Room (n + 3) X.A) (h0 : PySem.W.findIn X.K (.ref C) "__bool__" = some none) (hs : PySem.W.findIn X.K (.ref C) "__len__" = some (some (.ref f))) (hf : PySem.W.isFn X.K (.ref f) = true)
    (hb : Binds X.K fd ps []) (hx : Passes CX X E) : CallR X (.type "bool") (rBoolOwn C sp E) := by
  intro pins s σ H xs us Q I r h
  obtain ⟨a, dx, fs, rfl, ha, hsp⟩ := h
  obtain rfl := Vals.ref1 r
  obtain ⟨mA, J, _⟩ := ins_get I.hok ha
  obtain ⟨od, J, _⟩ := J.look
  refine call_bool_codes (truthy_len I.kIn J h0 hs hf (wpAny_mono (run_within (A := X.A.in1.in1.in1) F hr.in1.in1.in1 rfl hb hx I r hsp) (fun u s' hq => ?_) fun _ _ z => z))
  obtain ⟨v, H', I', rv, k, rfl, h0, h1, q⟩ := hq
  obtain ⟨t, rfl⟩ := rv
  exact ⟨k, t, rfl, h0, h1, fun tk => ⟨.bl (k != 0), H', I'.tok _, rfl, q⟩⟩
end
end LS
end
-- text R2
section
set_option maxHeartbeats 4000000
/-! Rules that the hand layer lacks: != by an own ==; ==, != of instances without one. -/
namespace LS
open PySem PySem.Spec PyProof.Rows L2
section
variable {M : Model} {prog : Program} {w : World} {A : Around} {E : Value → Shared → Prop} {s : Shared} {K : PySem.W.Frag} {x y C f : Addr} {ox oy : Obj} {od oe : Option Obj}
theorem ifBound_B {name : Str} {id : String} {args : List Value} {Q : Option Value → Shared → Prop} (X : K.In s.heap) (I : PySem.W.InstAt s.heap x ox C od) (hs : PySem.W.findIn K (.ref C) name = some (some (.builtin id)))
    (hb : ∀ self, bindSpecial (.builtin id) self = pure (.builtin id, [self])) (h : wpAny M A (call (.builtin id) (.ref x :: args)) (fun v => Q (some v)) E s) : wpAny M A (callSpecialIfBound? (.ref x) name args) Q E s := by
  simp only [callSpecialIfBound?, bindSpecialIfBound?]
  refine wpAny_holding (wpAny_bind (wpAny_bind (wpAny_bind (I.type.here ((PySem.W.looks_findIn X hs).here ?_)))))
  refine wpAny_bind (wpAny_askSetting (wpAny_ite ?_))
  have fin : wpAny M A (call (.builtin id) ([.ref x] ++ args) >>= fun v => pure (some v)) Q E s := wpAny_bind (wpAny_mono h (fun v s' h' => wpAny_pure h') fun _ _ h' => h')
  split
  · exact wpAny_bind ((PySem.W.Looks.of_pure (hb _)).here (wpAny_pure (by exact fin)))
  · exact wpAny_tryCatch (wpAny_bind ((PySem.W.Looks.of_pure (hb _)).here (wpAny_pure (by exact fin))))
/-- x.__ne__(b) of object, x with an own __eq__ -/
theorem call_objNe {b : Value} {Q : Value → Shared → Prop} (hu : A.in1.units < cLine) (X : K.In s.heap) (I : PySem.W.InstAt s.heap x ox C od) (hm : PySem.W.mroIn K C (.type "object") = some true)
    (h : wpAny (model prog w) A.in1 (callSpecialIfBound? (.ref x) "__eq__" [b]) (fun r s' => ∃ v, r = some v ∧ ((v = .notImplemented ∧ Q .notImplemented s') ∨ ∃ k, v = .bool k ∧ Q (.bool (!k)) s')) E s) :
    wpAny (model prog w) A (call (.builtin "object.__ne__") [.ref x, b]) Q E s := by
  refine wpAny_call (codeAny_call_builtin PySem.F.slot_object_ne.plain PySem.F.entry_object_ne (PySem.W.check_slot (i := "object.__ne__") (owner := "object") (n := "__ne__") (by decide +kernel) (by decide +kernel) (I.type.andThen (PySem.W.looks_mroIn X hm)) (PySem.F.args_object_ne_2 _ _) ?_))
  unfold Builtin.«object.__ne__»
  refine wpAny_bind (m := slotArgs "__ne__" 1 _) (wpAny_pure ?_)
  refine wpAny_bind (m := cRoomFor _ _) (wpAny_cRoomFor hu ?_)
  refine wpAny_bind (m := callSpecialIfBound? (.ref x) (Str.ofString "__eq__") _) (wpAny_mono h (fun r s' hr => ?_) fun _ _ z => z)
  obtain ⟨v, rfl, hr⟩ := hr
  rcases hr with ⟨rfl, hq⟩ | ⟨k, rfl, hq⟩
  · exact wpAny_pure hq
  · exact wpAny_bind (m := truthy (.bool k)) (wpAny_truthy_bool (wpAny_pure hq))
theorem call_objEq {Q : Value → Shared → Prop} (X : K.In s.heap) (I : PySem.W.InstAt s.heap x ox C od) (hm : PySem.W.mroIn K C (.type "object") = some true) (hy : s.heap.get? y = some oy)
    (h1 : x = y → Q (.bool true) s) (h2 : x ≠ y → Q .notImplemented s) : wpAny (model prog w) A (call (.builtin "object.__eq__") [.ref x, .ref y]) Q E s := by
  refine wpAny_call (codeAny_call_builtin PySem.F.slot_object_eq.plain PySem.F.cmpEntry_eq (PySem.W.check_slot (i := "object.__eq__") (owner := "object") (n := "__eq__") (by decide +kernel) (by decide +kernel) (I.type.andThen (PySem.W.looks_mroIn X hm)) (PySem.F.cmpArgs_eq _ _) ?_))
  by_cases e : x = y
  · subst e
    exact objEq_entry_same (h1 rfl)
  · exact objEq_entry_other e I.at_ hy (by rw [I.cls]; intro z; cases z) (h2 e)
/-- a comparison of two instances of one class, by what each try gives -/
theorem rich_same {op : CmpOp} {Q : Value → Shared → Prop} (hu : A.units < cLine) (I : PySem.W.InstAt s.heap x ox C od) (J : PySem.W.InstAt s.heap y oy C oe)
    (h : wpAny (model prog w) A (tryCompare (.ref x) (cmpInfo op).2.1 (.ref y)) (fun r s' => ∃ v, r = some v ∧ Q v s') E s) : wpAny (model prog w) A (richCompare op (.ref x) (.ref y)) Q E s := by
  unfold richCompare
  simp only [oneThing_ref]
  refine wpAny_holding (wpAny_bind (wpAny_cRoomFor hu ?_))
  refine wpAny_bind (I.type.here (wpAny_bind (J.type.here ?_)))
  rw [show (Value.ref C != Value.ref C) = false from by simp]
  simp only [Bool.false_eq_true, if_false]
  refine wpAny_bind (wpAny_pure ?_)
  simp only [Bool.false_eq_true, if_false]
  refine wpAny_bind (wpAny_mono h (fun r s' z => ?_) fun _ _ e => e)
  obtain ⟨v, rfl, hq⟩ := z
  exact wpAny_pure hq
/-- what two default comparisons ask of the class -/
structure NoCmp (K : PySem.W.Frag) (C : Addr) : Prop where
  eq : PySem.W.findIn K (.ref C) "__eq__" = some (some (.builtin "object.__eq__"))
  ne : PySem.W.findIn K (.ref C) "__ne__" = some (some (.builtin "object.__ne__"))
  mr : PySem.W.mroIn K C (.type "object") = some true
theorem try_ne_none {Q : Option Value → Shared → Prop} (c : NoCmp K C) (hu : A.in1.units < cLine) (X : K.In s.heap) (I : PySem.W.InstAt s.heap x ox C od) (hy : s.heap.get? y = some oy) (hxy : x ≠ y) (h : Q none s) :
    wpAny (model prog w) A (tryCompare (.ref x) (cmpInfo .NotEq).2.1 (.ref y)) Q E s := by
  unfold tryCompare
  refine wpAny_bind (ifBound_B X I c.ne PySem.F.slot_object_ne.bind (call_objNe hu X I c.mr (ifBound_B X I c.eq PySem.F.slot_object_eq.bind (call_objEq X I c.mr hy (fun e => absurd e hxy) fun _ => ⟨_, rfl, .inl ⟨rfl, ?_⟩⟩))))
  exact wpAny_pure h
theorem rich_ne_other {Q : Value → Shared → Prop} (c : NoCmp K C) (hu : A.in1.units < cLine) (hu0 : A.units < cLine) (X : K.In s.heap) (I : PySem.W.InstAt s.heap x ox C od) (J : PySem.W.InstAt s.heap y oy C oe) (hxy : x ≠ y) (h : Q (.bool true) s) :
    wpAny (model prog w) A (richCompare .NotEq (.ref x) (.ref y)) Q E s := by
  unfold richCompare
  simp only [oneThing_ref]
  refine wpAny_holding (wpAny_bind (wpAny_cRoomFor hu0 ?_))
  refine wpAny_bind (I.type.here (wpAny_bind (J.type.here ?_)))
  rw [show (Value.ref C != Value.ref C) = false from by simp]
  simp only [Bool.false_eq_true, if_false]
  refine wpAny_bind (wpAny_pure ?_)
  simp only [Bool.false_eq_true, if_false]
  refine wpAny_bind (try_ne_none c hu X I J.at_ hxy ?_)
  simp only [Bool.not_false, if_true]
  refine wpAny_bind (try_ne_none c hu X J I.at_ (Ne.symm hxy) ?_)
  refine wpAny_bind (wpAny_rule ?_)
  exact wpAny_bind (wpAny_isSame_ref_other hxy I.at_ J.at_ (by rw [I.cls]; intro z; cases z) (wpAny_pure h))
theorem rich_eq_self {Q : Value → Shared → Prop} (c : NoCmp K C) (hu0 : A.units < cLine) (X : K.In s.heap) (I : PySem.W.InstAt s.heap x ox C od) (h : Q (.bool true) s) :
    wpAny (model prog w) A (richCompare .Eq (.ref x) (.ref x)) Q E s := by
  refine rich_same hu0 I I ?_
  unfold tryCompare
  refine wpAny_bind (ifBound_B X I c.eq PySem.F.slot_object_eq.bind (call_objEq X I c.mr I.at_ (fun _ => ?_) fun e => absurd rfl e))
  exact wpAny_pure ⟨_, rfl, h⟩
end
section
variable {X : Cx} {C f : Addr} {fd : FuncData} {ps : List Str} {sp : Sp} {CX : CXT} {E : XK} {n : Nat}
/-- a == a, of an instance without own == -/
def rEqSelf (C : Addr) : R2 := fun x y H Q => ∃ a dx fs, x = .ref a ∧ y = .ref a ∧ H a = some (.ins C dx fs) ∧ Q (.bl true) H
theorem op_eqSelf (c : NoCmp X.K C) (hr : Room n X.A) : OpR X (compareOp .Eq) (rEqSelf C) := by
  intro pins s σ H x y v u Q I rx ry hq
  obtain ⟨a, dx, fs, rfl, rfl, ha, q⟩ := hq
  cases rx
  cases ry
  obtain ⟨mA, J, _⟩ := ins_get I.hok ha
  obtain ⟨od, J, _⟩ := J.look
  show wpAny (model X.prog X.w) X.A (richCompare .Eq (.ref a) (.ref a)) (EP X pins σ Q) X.xe s
  exact rich_eq_self c hr.units0 I.kIn J ⟨.bl true, H, I, rfl, q⟩
/-- a != b, two of these -/
def rNeOther (C : Addr) : R2 := fun x y H Q => ∃ a b dx dy fs gs, x = .ref a ∧ y = .ref b ∧ a ≠ b ∧ H a = some (.ins C dx fs) ∧ H b = some (.ins C dy gs) ∧ Q (.bl true) H
theorem op_neOther (c : NoCmp X.K C) (hr : Room (n + 1) X.A) : OpR X (compareOp .NotEq) (rNeOther C) := by
  intro pins s σ H x y v u Q I rx ry hq
  obtain ⟨a, b, dx, dy, fs, gs, rfl, rfl, hab, ha, hb, q⟩ := hq
  cases rx
  cases ry
  obtain ⟨mA, J, _⟩ := ins_get I.hok ha
  obtain ⟨od, J, _⟩ := J.look
  obtain ⟨mB, J', _⟩ := ins_get I.hok hb
  obtain ⟨od', J', _⟩ := J'.look
  show wpAny (model X.prog X.w) X.A (richCompare .NotEq (.ref a) (.ref b)) (EP X pins σ Q) X.xe s
  exact rich_ne_other c hr.in1.units0 hr.units0 I.kIn J J' hab ⟨.bl true, H, I, rfl, q⟩
/-- a != b by the own == -/
def rNeOwn (C : Addr) (sp : Sp) (E : XK) : R2 := fun x y H Q => ∃ a b dx dy fs gs, x = .ref a ∧ y = .ref b ∧ H a = some (.ins C dx fs) ∧ H b = some (.ins C dy gs) ∧ sp [.ref a, .ref b] H (fun v H' => ∃ k, v = .bl k ∧ Q (.bl (!k)) H') E
theorem op_neOwn (F : FnOk X.prog X.w X.K X.mg X.base CX n f fd ps sp) (hr : Room (n + 2) X.A) (hs : PySem.W.findIn X.K (.ref C) "__eq__" = some (some (.ref f))) (hf : PySem.W.isFn X.K (.ref f) = true) (hn : PySem.W.findIn X.K (.ref C) "__ne__" = some (some (.builtin "object.__ne__")))
    (hm : PySem.W.mroIn X.K C (.type "object") = some true) (hb : Binds X.K fd ps []) (hx : Passes CX X E) : OpR X (compareOp .NotEq) (rNeOwn C sp E) := by
  intro pins s σ H x y v u Q I rx ry hq
  obtain ⟨a, b, dx, dy, fs, gs, rfl, rfl, ha, hb', hsp⟩ := hq
  cases rx
  cases ry
  obtain ⟨mA, J, _⟩ := ins_get I.hok ha
  obtain ⟨od, J, _⟩ := J.look
  obtain ⟨mB, J', _⟩ := ins_get I.hok hb'
  obtain ⟨od', J', _⟩ := J'.look
  show wpAny (model X.prog X.w) X.A (richCompare .NotEq (.ref a) (.ref b)) (EP X pins σ Q) X.xe s
  refine rich_same hr.units0 J J' ?_
  unfold tryCompare
  have r : Vals [V.ref a, V.ref b] [Value.ref a, Value.ref b] := .cons rfl (.cons rfl .nil)
  refine wpAny_bind (ifBound_B I.kIn J hn PySem.F.slot_object_ne.bind (call_objNe hr.in1.units0 I.kIn J hm (PySem.W.ifBound_K I.kIn J hs hf (wpAny_mono (run_within (A := X.A.in1) F (hr.in1.mono (Nat.le_succ n)) rfl hb hx I r hsp) (fun u s' hq => ?_) fun _ _ z => z))))
  obtain ⟨v, H', I', rv, k, rfl, q⟩ := hq
  cases rv
  exact ⟨_, rfl, .inr ⟨k, rfl, wpAny_pure ⟨_, rfl, .bl (!k), H', I', rfl, q⟩⟩⟩
end
end LS
end
-- text R3
section
set_option maxHeartbeats 4000000
/-! Rules that the hand layer lacks: enumerate(a tuple); several `except X as e` clauses. -/
namespace LS
open PySem PySem.Spec PyProof.Rows L2
/-- the tuple at a, each item in a new pair -/
def IteT (K : PySem.W.Frag) (a : Addr) : It :=
  ⟨fun i H => ∃ (xs : List V) (x : V), SqT K H a xs ∧ xs[i]? = some x, fun i H v H' => ∃ T x, v = .ref T ∧ H T = none ∧ H' = upd H T (.tup [.int (i : Nat), x]) ∧ ∀ xs, SqT K H a xs → xs[i]? = some x, fun i H => ∃ xs : List V, SqT K H a xs ∧ xs.length = i⟩
theorem turn_enumT {P : Program} {w : World} {K : PySem.W.Frag} {elts : List Expr} {kk : Nat} {tpos : Pos} (a e it : Addr) (hai : a ≠ it) (hae : a ≠ e) :
    Turn P w K (.Tuple elts kk tpos) (IteT K a) [e, it] e (fun i h => (∃ old, IsEnum h e it ((i : Nat) : Int) old) ∧ h.IsTupleIter it a i ∧ e ≠ it) where
  mem := by simp
  obj := fun i h st b hb => by
    obtain ⟨⟨old, he⟩, ⟨o, ho, hc, hd⟩, _⟩ := st
    have e' : b = e ∨ b = it := by simpa using hb
    rcases e' with z | z
    · rw [z]; exact ⟨_, he, fun v q => nomatch q⟩
    · rw [z]; exact ⟨o, ho, fun v q => by rw [hd] at q; cases q⟩
  keep := fun i h h' st k => let ⟨⟨old, he⟩, hi, hne⟩ := st; ⟨⟨old, k e (by simp) _ he⟩, hi.at fun o q => k it (by simp) o q, hne⟩
  item := by
    intro X hP hw hK hc i pins s σ H E I hf st hg
    subst hP hw hK
    obtain ⟨⟨old, he⟩, hit, hne⟩ := st
    obtain ⟨xs, x, hq, hx⟩ := hg
    obtain ⟨its, rv, p, hz⟩ := I.tuple hq
    obtain ⟨u, hu, ru⟩ := rv.get hx
    have hel : e < s.heap.objs.size := Heap.lt_size he
    have hil : it < s.heap.objs.size := by obtain ⟨_, q, _⟩ := hit; exact Heap.lt_size q
    have hlt : i < its.toArray.size := by
      have := (List.getElem?_eq_some_iff.mp hu).1
      simpa using this
    refine wpAny_pyNext_enum_itemC (D := Draws.tuple (A := X.A.in1) (I.ok.hd hc) it a hai its.toArray) he ⟨hit, p⟩ hlt hne (by simp only [List.mem_cons, List.not_mem_nil, or_false]; intro z; rcases z with z | z; exact hne z; exact hae z.symm) fun x' h' tk hP ho hit' hT hsz hk => ?_
    have ex' : x' = u := by
      have : its.toArray[i]? = some x' := hP
      rw [List.getElem?_toArray, hu] at this
      exact (Option.some.inj this).symm
    subst ex'
    refine ⟨_, rfl, wpAny_letOwnedTupleGo_enum (s := { s with heap := h', toks := tk + 1 }) ho fun h'' he' sb => ?_⟩
    have hT2 : h''.get? s.heap.objs.size = some { cls := .type "tuple", data := .seq #[.int i tk, x'] } := (sb.2 _ (Nat.ne_of_gt hel)).trans hT
    have new : ObjOk X.prog X.w (upd H s.heap.objs.size (.tup [.int (i : Nat), x])) h'' s.heap.objs.size (.tup [.int (i : Nat), x]) :=
      ⟨by show 2 ≤ sizeLine; decide, [.int i tk, x'], .cons ⟨_, rfl⟩ (.cons ru .nil), ⟨_, hT2, rfl, _, rfl⟩⟩
    have I1 : Inv X pins σ (upd H s.heap.objs.size (.tup [.int (i : Nat), x])) { s with heap := h'', toks := tk + 1 } :=
      I.turnedNew (ch := [e, it]) (fun b ob hb q => (sb.2 b (fun z => hb (by simp [z]))).trans (hk b ob (fun z => hb (by simp [z])) (fun z => hb (by simp [z])) q)) hf (Nat.le_refl _) new
    refine ⟨.ref s.heap.objs.size, _, I1, rfl, ⟨_, x, rfl, I.hok.fresh (Nat.le_refl _), rfl, fun ys hy => by rw [I.tuple_inj hy hq]; exact hx⟩, ⟨⟨x', ?_⟩, hit'.1.at fun o q => (sb.2 it (Ne.symm hne)).trans q, hne⟩, fun b hb => ?_⟩
    · have e1 : ((i + 1 : Nat) : Int) = (i : Int) + 1 := by omega
      rw [e1]; exact he'
    · have hb' : b < s.heap.objs.size := by
        have e' : b = e ∨ b = it := by simpa using hb
        rcases e' with z | z
        · rw [z]; exact hel
        · rw [z]; exact hil
      rw [upd_ne (Nat.ne_of_lt hb')]
      exact (hf b hb).1
  done := by
    intro X hP hw hK hc i pins s σ H E I hf st hg
    subst hP hw hK
    obtain ⟨⟨old, he⟩, hit, hne⟩ := st
    obtain ⟨xs, hq, hx⟩ := hg
    obtain ⟨its, rv, p, hz⟩ := I.tuple hq
    obtain ⟨f0, f1, f2, f3, f4, f5⟩ := hf it (by simp)
    have hl : its.toArray.size = i := by rw [List.size_toArray, ← rv.length, hx]
    subst hl
    exact wpAny_pyNext_enum_endD (Draws.tuple (A := X.A.in1) (I.ok.hd hc) it a hai its.toArray) he ⟨hit, p⟩ fun h' eb => ⟨rfl, I.turned (t' := s.toks) (fun b o hb q => eb b o hb q) f0 f1 f3 f4 f5⟩
  self := fun A i s Q E st h => let ⟨⟨_, he⟩, _⟩ := st; wpAny_pyIter_enum he h
set_option maxHeartbeats 8000000 in
theorem meets_enumerate_newT (t : Addr) (items : Array Value) :
    Meets (Builtin.«enumerate.__new__» ⟨[.type "enumerate", .ref t], []⟩) (fun _ R s => s.heap.IsTuple t items ∧
      R (.ok (.ret (.ref (s.heap.push { cls := .type "tuple_iterator", data := .fields #[.ref t, .int 0 0] }).objs.size)))
        { s with heap := (s.heap.push { cls := .type "tuple_iterator", data := .fields #[.ref t, .int 0 0] }).push { cls := .type "enumerate", data := .fields #[.none, .bool false, .ref s.heap.objs.size, rawInt 0, .none, .none] } }) :=
  .of_wp fun prog w A R s h => by
    obtain ⟨hp, g, d, tk, os⟩ := s; obtain ⟨hl, h⟩ := h
    have hsub := sub_enumerate
    have q1 : ∀ {A' : Around} {E : Value → Shared → Prop} {Q : Value → Shared → Prop}, Q (.ref hp.objs.size) ⟨hp.push { cls := .type "tuple_iterator", data := .fields #[.ref t, .int 0 0] }, g, d, tk, os⟩ → wpAny (model prog w) A' (pyIter (.ref t)) Q E ⟨hp, g, d, tk, os⟩ :=
      fun q => (begins_tuple t items).iter prog w _ _ ⟨hp, g, d, tk, os⟩ _ hl q
    wp_walk using q1
    refine wpAny_stack_any fun st => wpAny_pure ?_
    split
    · rename_i c _ _ _ _ _
      cases (c == Value.type "enumerate")
      · wp_walk using q1
        exact ⟨_, rfl, h⟩
      · wp_walk using q1
        exact ⟨_, rfl, h⟩
    · wp_walk using q1
      exact ⟨_, rfl, h⟩
theorem call_enumerate_tup {prog : Program} {w : World} {A : Around} {E : Value → Shared → Prop} {s : Shared} {t : Addr} {items : Array Value} {Q : Value → Shared → Prop} (hL : s.heap.IsTuple t items)
    (h : ∀ h', IsEnum h' (s.heap.objs.size + 1) s.heap.objs.size 0 .none → h'.IsTupleIter s.heap.objs.size t 0 → h'.objs.size = s.heap.objs.size + 2 →
      (∀ b o, s.heap.get? b = some o → h'.get? b = some o) → Q (.ref (s.heap.objs.size + 1)) { s with heap := h' }) :
    wpAny (model prog w) A (call (.type "enumerate") [.ref t]) Q E s := by
  refine callType_new F.called_enumerate (by decide) (F.typeCall_enumerate_1 _) (F.newCall_enumerate_1 _) (fun obj => F.args_object_init_2 obj _) F.entry_enumerate_new
    (meets_enumerate_newT t items) ⟨hL, ?_⟩
  have hz : (s.heap.push { cls := .type "tuple_iterator", data := .fields #[.ref t, .int 0 0] }).objs.size = s.heap.objs.size + 1 := Heap.size_push ..
  show _ ∧ _
  rw [hz]
  have he : IsEnum ((s.heap.push { cls := .type "tuple_iterator", data := .fields #[.ref t, .int 0 0] }).push
      { cls := .type "enumerate", data := .fields #[.none, .bool false, .ref s.heap.objs.size, rawInt 0, .none, .none] }) (s.heap.objs.size + 1) s.heap.objs.size 0 .none := by
    have := Heap.get?_push_size (s.heap.push { cls := .type "tuple_iterator", data := .fields #[.ref t, .int 0 0] })
      (o := { cls := .type "enumerate", data := .fields #[.none, .bool false, .ref s.heap.objs.size, rawInt 0, .none, .none] }) rfl
    rw [hz] at this; exact this
  refine ⟨⟨_, he, rfl⟩, h _ he ⟨_, Heap.get?_push_of_some _ (Heap.get?_push_size _ rfl), rfl, rfl⟩ (by rw [Heap.size_push, hz]) fun b o x => Heap.get?_push_of_some _ (Heap.get?_push_of_some _ x)⟩
def iEnumT (K : PySem.W.Frag) (ta : TA) : TI := fun σ H R => ta σ H fun vs H1 => ∃ a xs, vs = [.ref a] ∧ SqT K H1 a xs ∧ R (IteT K a) H1
theorem pi_enumT {X : Cx} {e : Expr} {ta : TA} {p pos tpos : Pos} {elts : List Expr} {kk : Nat} (hg : Gl X "enumerate") (hm : X.mg "enumerate" = none) (ha : PA X [e] ta) (hs : starEach [e] X.env = [(false, eval e X.env)] := by rfl) :
    PI X (.Tuple elts kk tpos) (.Call (.Name "enumerate" p) [e] [] pos) (iEnumT X.K ta) := by
  refine ⟨fun pins s σ H R I h => ?_⟩
  refine Call_ (ld_blt I hg hm boot_enumerate (PyProof.Rows.callWith_type1 (thn (ha.run pos pins s σ H _ I h) fun us s1 ⟨vs, H1, I1, r1, q1⟩ => ?_) hs rfl))
  obtain ⟨a, xs, ex, hq, q⟩ := q1
  subst ex
  cases r1 with
  | cons r rr =>
    cases rr
    cases r
    obtain ⟨its, rv, p', hz⟩ := I1.tuple hq
    have hal : a < s1.heap.objs.size := p'.lt
    refine call_enumerate_tup p' fun h' he hit hsz hk => wpAny_pyIter_enum he ?_
    have I2 : Inv X pins σ H1 { s1 with heap := h' } := I1.kept (t' := s1.toks) hk
    refine ⟨s1.heap.objs.size + 1, [s1.heap.objs.size + 1, s1.heap.objs.size], _, _, H1, rfl, I2, turn_enumT a (s1.heap.objs.size + 1) s1.heap.objs.size (Nat.ne_of_lt hal) (Nat.ne_of_lt (Nat.lt_succ_of_lt hal)), ⟨⟨.none, he⟩, hit, Nat.succ_ne_self _⟩, fun b hb => ?_, q⟩
    have e' : b = s1.heap.objs.size + 1 ∨ b = s1.heap.objs.size := by simpa using hb
    have hle : s1.heap.objs.size ≤ b := by
      rcases e' with z | z
      · rw [z]; exact Nat.le_add_right _ _
      · rw [z]; exact Nat.le_refl _
    exact I1.fpOk hle (I1.hok.fresh hle)
theorem walk_enumT {K : PySem.W.Frag} {a : Addr} {xs : List V} : Walk (IteT K a) xs.length (fun H => SqT K H a xs) (YPair (fun i => some (.int (i : Nat))) (fun i => xs[i]?)) :=
  ⟨fun i H hi h => ⟨xs, _, h, List.getElem?_eq_getElem hi⟩, fun H h => ⟨xs, h, rfl⟩, fun i H v H' hi h y => by
    obtain ⟨T, x, ev, hT, hH, hx⟩ := y
    exact ⟨T, _, x, ev, hT, hH, rfl, hx xs h⟩⟩
end LS
end
-- text R4
section
set_option maxHeartbeats 4000000
/-! Rules that the hand layer lacks: several `except X as e` clauses. -/
namespace LS
open PySem PySem.Spec PyProof.Rows L2
abbrev ClA := Value × Nat × (Addr → Value → Option Addr → TS)
/-- what the clauses wish of an exception of the body, one after the other; each stores it in its slot -/
def wManyA (K : PySem.W.Frag) (Wout : WX) (D : Ends) : List ClA → WX
  | [] => Wout
  | (c, i, ts) :: r => fun cls d σ H => ∃ b, PySem.W.exmOne K cls c = some b ∧
      (b = true → ∀ a, H a = none → ts a cls d { nx := fun σ' H' => D.nx (σ'.set i none) H', rt := D.rt, bk := fun σ' H' => D.bk (σ'.set i none) H', ct := fun σ' H' => D.ct (σ'.set i none) H' } (σ.set i (some (.ref a))) H) ∧ (b = false → wManyA K Wout D r cls d σ H)
inductive HdsA (X : Cx) : List ExceptHandler → List ClA → Prop
  | nil : HdsA X [] []
  | cons {x n : Str} {c : Value} {i : Nat} {ts : Addr → Value → Option Addr → TS} {b₀ : Stmt} {suite : List Stmt} {np pos' : Pos} {hds : List ExceptHandler} {l : List ClA} (hi : X.N[i]? = some n) (hln : X.env.kindOf n = some .local) (hc : Names X x c)
      (hsu : ∀ (a : Addr) (oe : Obj) (cls : Value) (d : Option Addr) (pn : List (Addr × Obj)), Zc cls d oe → (∃ vs, oe.data = .fields vs) → PSs (X.suite a ((a, oe) :: pn)) (b₀ :: suite) (ts a cls d)) (r : HdsA X hds l) :
      HdsA X (.ExceptHandler (some (.Name x np)) (some n) (b₀ :: suite) pos' :: hds) ((c, i, ts) :: l)
section
variable {X : Cx} {body : List Stmt} {h₀ : ExceptHandler} {hds : List ExceptHandler} {l : List ClA} {pos : Pos} {tb : WX → TS} {Wout : WX}
theorem ps_try_manyA (hs : X.stack = X.env :: X.outer) (hf : X.env.frame = some X.env.locals) (hN : X.N.Nodup) (tk : Takes X Wout)
    (hb : ∀ (W : WX) (pn : List (Addr × Obj)) (xe : Value → Shared → Prop), Takes (X.tr pn xe) W → PassesOwn (model X.prog X.w) X.A X.env xe → PSs (X.tr pn xe) body (tb W))
    (hh : HdsA X (h₀ :: hds) l) : PS X (.Try body (h₀ :: hds) [] [] pos) (fun D σ H => tb (wManyA X.K Wout D l) D σ H) := by
  refine ⟨fun pins s σ H D I h => ?_⟩
  have ok := I.ok
  have hfr : X.A.frames = some (X.env :: X.outer) := by rw [ok.frames, hs]
  refine wpAny_Try_except ?_
  refine wpAny_mono ((hb (wManyA X.K Wout D l) (X.pn ++ pins) (fun e s₁ => wpAny (model X.prog X.w) X.A (noteFrame e X.env) (fun _ s₂ => wpAny (model X.prog X.w) X.A (setFlight e none) (fun _ s₃ =>
    wpAny (model X.prog X.w) X.A (handleBy e X.env (h₀ :: hds)) (SP X pins D) X.xe s₃) X.xe s₂) X.xe s₁) (fun u s' xx => ?_) PassesOwn.looking).run [] s σ H D (I.toTry _) h) (fun f s1 hsp => ?_) (fun e s1 he => he)
  · -- the catch
    obtain ⟨a, B, sI, pins', σ', H', cls, d, rfl, J', nb, up, sky, na, os, ag, w⟩ := xx
    have J : Inv X pins σ' H' sI := J'.ofTry ok
    have sky' : Sky B (X.env :: X.outer) a (Zc cls d) X.env.locals s'.heap := by rw [← hs]; exact sky
    show wpAny (model X.prog X.w) X.A (noteFrame (.ref a) X.env) _ _ _
    refine Sky.land Zc.steady hfr hf sky' fun h3 fl3 up3 => ?_
    have J3 : Inv X pins σ' H' { s' with heap := h3 } := J.landed nb fl3.1 (up.trans up3) os ag
    obtain ⟨oe3, vs3, he3, hz3, hd3⟩ := fl3.there
    have notFr : ∀ {h : Heap} {o : Obj} {vs : Array Value}, h.FunFrames B (X.env :: X.outer) → h.get? a = some o → o.data = .fields vs → a ∉ frs (X.env :: X.outer) := fun {h o vs} ff e dd hm => by
      obtain ⟨_, o', e', hnf⟩ := ff.mem hm
      rw [e] at e'; cases e'
      exact hnf _ dd
    have nfr := notFr fl3.2.2.1 he3 hd3
    have nL : a ≠ X.env.locals := fun z => nfr (List.mem_filterMap.mpr ⟨X.env, List.mem_cons_self, by rw [hf, z]⟩)
    have nF : a ∉ X.fs := fun hm => by
      obtain ⟨e, he, q⟩ := List.mem_filterMap.mp hm
      exact nfr (List.mem_filterMap.mpr ⟨e, List.mem_cons_of_mem _ he, q⟩)
    have S3 := J3.suite he3 hd3 na nL nF
    have go : ∀ {hds' : List ExceptHandler} {l' : List ClA}, HdsA X hds' l' → wManyA X.K Wout D l' cls d σ' H' →
        wpAny (model X.prog X.w) X.A (handleBy (.ref a) X.env hds') (SP X pins D) X.xe { s' with heap := h3 } := by
      intro hds' l' hk
      induction hk with
      | nil =>
        intro w
        refine wpAny_handleBy_nil ?_
        obtain ⟨k1, k2, k3, oe, vs, T, oT, ts', he, hz, hd, h1, hr⟩ := id fl3
        unfold PySem.passOn
        refine wpAny_bind (wpAny_field he hd h1 ?_)
        rw [if_neg (show ¬ ((Value.ref T == Value.none) = true) from by simp)]
        have fin : wpAny (model X.prog X.w) X.A (setFlight (.ref a) X.env.frame) (fun _ s4 => wpAny (model X.prog X.w) X.A (throw (.ref a) : Sem Flow) (SP X pins D) X.xe s4) X.xe { s' with heap := h3 } := by
          rw [hf]
          refine HandSPX.setFlight_upZ fl3 fun h4 hh4 up4 => wpAny_throw (tk _ _ ?_)
          exact ⟨a, B, sI, pins, σ', H', cls, d, rfl, J, nb, (up.trans up3).trans up4, .inr (.inr (by rw [hs]; exact hh4)), na, os, ag, w⟩
        first
          | exact wpAny_bind (wpAny_pure (wpAny_bind fin))
          | exact wpAny_bind fin
      | @cons x n c i ts b₀ suite np pos' hds2 l2 hi hln hc hsu r ih =>
        intro w
        obtain ⟨b, hb1, hyes, hno⟩ := w
        refine wpAny_handleBy_cons (codeAny_handlers_test ?_) (by intro q; cases q)
        have LT : PySem.W.Looks (model X.prog X.w) h3 (typeOf (.ref a)) cls := fun A Q E s k q => wpAny_typeOf_ref (k _ _ he3) (by rw [hz3.1]; exact q)
        have LM := PySem.W.exm_one (M := model X.prog X.w) (J3.kIn) LT hb1
        have test : ∀ {Q : Value → Shared → Prop} {E : Value → Shared → Prop}, Q c { s' with heap := h3 } → wpAny (model X.prog X.w) (X.A.mark (some (.ref a))) (eval (.Name x np) X.env) Q E { s' with heap := h3 } := fun {Q E} q => by
          obtain ⟨hg, hdbg, hm | ⟨hm, hv, hnn⟩⟩ := hc
          · exact ld_glob (X := X.suite a ((a, oe3) :: (X.pn ++ pins))) S3 hg hm q hdbg
          · exact ld_blt (X := X.suite a ((a, oe3) :: (X.pn ++ pins))) S3 hg hm hv q hnn hdbg
        refine test (LM.here ?_)
        cases b with
        | true =>
          refine codeAny_handlers_suite_as ?_
          refine HandSPX.lands_againZ fl3 fun h4 fl4 up4 => ?_
          have J4 : Inv X pins σ' H' { s' with heap := h4 } := J.landed nb fl4.1 ((up.trans up3).trans up4) os ag
          obtain ⟨oe4, vs4, he4, hz4, hd4⟩ := fl4.there
          have S4 := J4.suite he4 hd4 na nL nF
          refine store_ok (X := X.suite a ((a, oe4) :: (X.pn ++ pins))) (v := .ref a) S4 hN hi (.inl hln) rfl (fun s5 S5 => ?_) (.inr hln)
          refine wpAny_mono ((hsu a oe4 cls d (X.pn ++ pins) hz4 ⟨_, hd4⟩).run [] s5 _ H' _ S5 (hyes rfl a na)) (fun f s6 hsp => ?_) (fun _ _ z => False.elim z)
          have end_ : ∀ {σ6 : L2.St} {H6 : Hp} {Q : Shared → Prop}, Inv (X.suite a ((a, oe4) :: (X.pn ++ pins))) [] σ6 H6 s6 → (∀ s7, Inv X pins (σ6.set i none) H6 s7 → Q s7) →
              wpAny (model X.prog X.w) X.A (do bindName X.env n .none; unbindBehindTheSuite X.env n pos') (fun _ s7 => Q s7) X.xe s6 := fun {σ6 H6 Q} S6 hq => gone_ok (S6.unsuite ok) hN hi hln hq
          cases f with
          | next =>
            obtain ⟨σ6, H6, S6, q6⟩ := hsp
            exact end_ S6 fun s7 J7 => ⟨_, _, J7, q6⟩
          | brk =>
            obtain ⟨σ6, H6, S6, q6⟩ := hsp
            exact end_ S6 fun s7 J7 => ⟨_, _, J7, q6⟩
          | cont =>
            obtain ⟨σ6, H6, S6, q6⟩ := hsp
            exact end_ S6 fun s7 J7 => ⟨_, _, J7, q6⟩
          | ret u =>
            obtain ⟨v6, σ6, H6, S6, r6, q6⟩ := hsp
            exact end_ S6 fun s7 J7 => ⟨_, _, _, J7, r6, q6⟩
        | false =>
          show wpAny _ X.A (handleBy (.ref a) X.env hds2) _ _ _
          exact ih (hno rfl)
    exact go hh w
  · cases f with
    | next =>
      obtain ⟨σ', H', J', q⟩ := hsp
      exact wpAny_execs_nil ⟨σ', H', J'.ofTry ok, q⟩
    | brk =>
      obtain ⟨σ', H', J', q⟩ := hsp
      exact ⟨σ', H', J'.ofTry ok, q⟩
    | cont =>
      obtain ⟨σ', H', J', q⟩ := hsp
      exact ⟨σ', H', J'.ofTry ok, q⟩
    | ret u =>
      obtain ⟨v, σ', H', J', r, q⟩ := hsp
      exact ⟨v, σ', H', J'.ofTry ok, r, q⟩
end
end LS
end
-- text Tx
section
set_option maxHeartbeats 4000000
/-! The text by places; what the walk asks of the top. Printed by mktx.py. -/
namespace LS
open PySem PySem.Spec PyProof.Rows L2
def top (i : Nat) : Stmt := PySem.Challenge.pw_lastshort_k61_whole_readings_fed.main.body.getD i (.Pass ⟨0, 0, 0, 0⟩)
abbrev FnP (K : PySem.W.Frag) (x q : Str) (st : Stmt) (f : Addr) (fd : FuncData) : Prop := FunD K x q (defArgs st) (defBody st) (defScope st) [] [] f fd
def dF (i : Nat) (x : Str) : He.DefD := ⟨(x, none), x, x, defArgs (top i), defBody (top i), defScope (top i), [], []⟩
def dM (i j : Nat) (C m q : Str) : He.DefD := ⟨(C, some m), m, q, defArgs (inClass (top i) j), defBody (inClass (top i) j), defScope (inClass (top i) j), [], []⟩
theorem intv {mg : Str → Option Value} {x : Str} {i : Int} (h : ∃ t, mg x = some (.int i t)) : ∃ u, mg x = some u ∧ RelV (.int i) u := let ⟨t, e⟩ := h; ⟨_, e, t, rfl⟩
def leBase : List Value := [.type "LookupError", .type "Exception", .type "BaseException", .type "object"]
/-- an own exception class over LookupError: raised without an argument, caught, asked by isinstance -/
structure ExcF (K : PySem.W.Frag) (C : Addr) : Prop where
  e : PySem.W.excIn K C leBase "LookupError.__new__" = true
  k : PySem.W.keepIn K (.ref C) = true
  b : PySem.W.subIn K (.ref C) (.type "BaseException") = some true
  t : PySem.W.typeIn K (.ref C) = some (.type "type")
  x : ExcC K C
def classB (K : PySem.W.Frag) (C : Addr) : Bool := He.eqO (PySem.W.findIn K (.ref C) "__class__") (some (some (.builtin "object.__class__"))) && (He.eqO (PySem.W.specialIn K (.builtin "object.__class__") "__get__") (some (some (.builtin "getset_descriptor.__get__"))) && (decide (PySem.W.takesIn K (.builtin "object.__class__") = some true) && decide (PySem.W.mroIn K C (.type "object") = some true)))
theorem classB_ok {K : PySem.W.Frag} {C : Addr} (h : classB K C = true) : PySem.W.findIn K (.ref C) "__class__" = some (some (.builtin "object.__class__")) ∧ PySem.W.specialIn K (.builtin "object.__class__") "__get__" = some (some (.builtin "getset_descriptor.__get__")) ∧
    PySem.W.takesIn K (.builtin "object.__class__") = some true ∧ PySem.W.mroIn K C (.type "object") = some true := by
  obtain ⟨h1, h⟩ := He.ba h
  obtain ⟨h2, h⟩ := He.ba h
  obtain ⟨h3, h4⟩ := He.ba h
  exact ⟨He.eqO_ok h1, He.eqO_ok h2, of_decide_eq_true h3, of_decide_eq_true h4⟩
def insB (K : PySem.W.Frag) (x : Str) : Bool := classB K (He.ga K x) && decide (PySem.W.kitOne K (.ref (He.ga K x)) (.ref (He.ga K x)) = some true)
theorem insB_ok {K : PySem.W.Frag} {x : Str} (c : Cls K (He.ga K x)) (h : insB K x = true) : C8.InsC K (He.ga K x) := by
  obtain ⟨h1, h2⟩ := He.ba h
  obtain ⟨a, b, d, e⟩ := classB_ok h1
  exact ⟨c, a, b, d, e, of_decide_eq_true h2⟩
def noCmpB (K : PySem.W.Frag) (x : Str) : Bool := He.eqO (PySem.W.findIn K (.ref (He.ga K x)) "__eq__") (some (some (.builtin "object.__eq__"))) && (He.eqO (PySem.W.findIn K (.ref (He.ga K x)) "__ne__") (some (some (.builtin "object.__ne__"))) && decide (PySem.W.mroIn K (He.ga K x) (.type "object") = some true))
theorem noCmpB_ok {K : PySem.W.Frag} {x : Str} (h : noCmpB K x = true) : NoCmp K (He.ga K x) := by
  obtain ⟨h1, h⟩ := He.ba h
  obtain ⟨h2, h3⟩ := He.ba h
  exact ⟨He.eqO_ok h1, He.eqO_ok h2, of_decide_eq_true h3⟩
def excB (K : PySem.W.Frag) (x : Str) : Bool := classB K (He.ga K x) && (PySem.W.excIn K (He.ga K x) leBase "LookupError.__new__" && (PySem.W.keepIn K (.ref (He.ga K x)) && (decide (PySem.W.subIn K (.ref (He.ga K x)) (.type "BaseException") = some true) && (decide (PySem.W.typeIn K (.ref (He.ga K x)) = some (.type "type")) &&
  (He.eqO (PySem.W.findIn K (.ref (He.ga K x)) "__getattribute__") (some (some (.builtin "BaseException.__getattribute__"))) && (He.eqO (PySem.W.findIn K (.ref (He.ga K x)) "__getattr__") (some none) && PySem.W.hasDictIn K (He.ga K x)))))))
theorem excB_ok {K : PySem.W.Frag} {x : Str} (h : excB K x = true) : ExcF K (He.ga K x) := by
  obtain ⟨h1, h⟩ := He.ba h
  obtain ⟨h2, h⟩ := He.ba h
  obtain ⟨h3, h⟩ := He.ba h
  obtain ⟨h4, h⟩ := He.ba h
  obtain ⟨h5, h⟩ := He.ba h
  obtain ⟨h6, h⟩ := He.ba h
  obtain ⟨h7, h8⟩ := He.ba h
  obtain ⟨a, b, d, e⟩ := classB_ok h1
  exact ⟨h2, h3, of_decide_eq_true h4, of_decide_eq_true h5, ⟨He.eqO_ok h6, He.eqO_ok h7, of_decide_eq_true h4, h8, a, b, d, e⟩⟩
/-- what the walk asks of the top -/
structure Tx (K : PySem.W.Frag) (mg : Str → Option Value) : Prop where
  f_len : mg "len" = none
  f_range : mg "range" = none
  f_int : mg "int" = none
  f_abs : mg "abs" = none
  f_divmod : mg "divmod" = none
  f_tuple : mg "tuple" = none
  f_list : mg "list" = none
  f_all : mg "all" = none
  f_min : mg "min" = none
  f_max : mg "max" = none
  f_isinstance : mg "isinstance" = none
  f_enumerate : mg "enumerate" = none
  f_repr : mg "repr" = none
  f_bool : mg "bool" = none
  f_str : mg "str" = none
  f_LookupError : mg "LookupError" = none
  i_MOST_ROUND : ∃ u, mg "MOST_ROUND" = some u ∧ RelV (.int 12) u
  i_MOST_ENDING : ∃ u, mg "MOST_ENDING" = some u ∧ RelV (.int 6) u
  i_MOST_REPLIES : ∃ u, mg "MOST_REPLIES" = some u ∧ RelV (.int 100) u
  i_MOST_ITEMS : ∃ u, mg "MOST_ITEMS" = some u ∧ RelV (.int 1000) u
  g_TESTS : mg "TESTS" = some (.ref (He.ga K "TESTS"))
  t_TESTS : ∀ H, SqT K H (He.ga K "TESTS") [V.str "empty", V.str "some", V.str "short", V.str "full", V.str "told", V.str "open", V.str "rest", V.str "bare"]
  g_ROUND_STEPS : mg "ROUND_STEPS" = some (.ref (He.ga K "ROUND_STEPS"))
  t_ROUND_STEPS : ∀ H, SqT K H (He.ga K "ROUND_STEPS") [V.str "add", V.str "hand", V.str "cut", V.str "flush", V.str "stop", V.str "again"]
  g_ENDING_STEPS : mg "ENDING_STEPS" = some (.ref (He.ga K "ENDING_STEPS"))
  t_ENDING_STEPS : ∀ H, SqT K H (He.ga K "ENDING_STEPS") [V.str "hand", V.str "cut", V.str "flush"]
  g_is_integer : mg "is_integer" = some (.ref (He.ga K "is_integer"))
  g_check_size : mg "check_size" = some (.ref (He.ga K "check_size"))
  g_is_reply : mg "is_reply" = some (.ref (He.ga K "is_reply"))
  g_check_replies : mg "check_replies" = some (.ref (He.ga K "check_replies"))
  g_is_word : mg "is_word" = some (.ref (He.ga K "is_word"))
  g_words_in : mg "words_in" = some (.ref (He.ga K "words_in"))
  g_check_loop : mg "check_loop" = some (.ref (He.ga K "check_loop"))
  g_l_jar : mg "_law_jar" = some (.ref (He.ga K "_law_jar"))
  g_l_sip : mg "_law_sip" = some (.ref (He.ga K "_law_sip"))
  g_l_from : mg "_law_from" = some (.ref (He.ga K "_law_from"))
  g_l_words : mg "_law_words" = some (.ref (He.ga K "_law_words"))
  g_l_loop : mg "_law_loop" = some (.ref (He.ga K "_law_loop"))
  g_l_line : mg "_law_line" = some (.ref (He.ga K "_law_line"))
  g_l_passed : mg "_law_passed" = some (.ref (He.ga K "_law_passed"))
  g_l_sliced : mg "_law_sliced" = some (.ref (He.ga K "_law_sliced"))
  g_l_done : mg "_law_done" = some (.ref (He.ga K "_law_done"))
  g_l_fed : mg "_law_fed" = some (.ref (He.ga K "_law_fed"))
  g_l_box : mg "_law_box" = some (.ref (He.ga K "_law_box"))
  g_l_tale : mg "_law_tale" = some (.ref (He.ga K "_law_tale"))
  g_l_is_at : mg "_law_is_at" = some (.ref (He.ga K "_law_is_at"))
  g_l_came : mg "_law_came" = some (.ref (He.ga K "_law_came"))
  g_l_right : mg "_law_right" = some (.ref (He.ga K "_law_right"))
  g_law : mg "law" = some (.ref (He.ga K "law"))
  g_Machine : mg "Machine" = some (.ref (He.ga K "Machine"))
  g_Loop : mg "Loop" = some (.ref (He.ga K "Loop"))
  g_Moment : mg "Moment" = some (.ref (He.ga K "Moment"))
  g_Reading : mg "Reading" = some (.ref (He.ga K "Reading"))
  g_Stopped : mg "Stopped" = some (.ref (He.ga K "Stopped"))
  g_NothingToUndo : mg "NothingToUndo" = some (.ref (He.ga K "NothingToUndo"))
  g_StateError : mg "StateError" = some (.ref (He.ga K "StateError"))
  cM : Cls K (He.ga K "Machine")
  mkM : Mk K (He.ga K "Machine") (He.ma K (He.ga K "Machine") "__init__")
  nM_loop : NoAttr K (He.ga K "Machine") "loop"
  nM_size : NoAttr K (He.ga K "Machine") "size"
  nM_came : NoAttr K (He.ga K "Machine") "came"
  nM_carried : NoAttr K (He.ga K "Machine") "carried"
  nM_said : NoAttr K (He.ga K "Machine") "said"
  nM_got : NoAttr K (He.ga K "Machine") "got"
  nM_handed : NoAttr K (He.ga K "Machine") "handed"
  nM_over : NoAttr K (He.ga K "Machine") "over"
  mM_copy : Meth K (He.ga K "Machine") "copy" (He.ma K (He.ga K "Machine") "copy")
  mM_passes : Meth K (He.ga K "Machine") "passes" (He.ma K (He.ga K "Machine") "passes")
  mM_hand_on : Meth K (He.ga K "Machine") "hand_on" (He.ma K (He.ga K "Machine") "hand_on")
  mM_do_step : Meth K (He.ga K "Machine") "do_step" (He.ma K (He.ga K "Machine") "do_step")
  mM_step_of : Meth K (He.ga K "Machine") "step_of" (He.ma K (He.ga K "Machine") "step_of")
  mM_do_words : Meth K (He.ga K "Machine") "do_words" (He.ma K (He.ga K "Machine") "do_words")
  mM_feed : Meth K (He.ga K "Machine") "feed" (He.ma K (He.ga K "Machine") "feed")
  cP : Cls K (He.ga K "Loop")
  mkP : Mk K (He.ga K "Loop") (He.ma K (He.ga K "Loop") "__init__")
  nP_text : NoAttr K (He.ga K "Loop") "text"
  nP_round : NoAttr K (He.ga K "Loop") "round"
  nP_ending : NoAttr K (He.ga K "Loop") "ending"
  mP_run : Meth K (He.ga K "Loop") "run" (He.ma K (He.ga K "Loop") "run")
  mP_eq : Meth K (He.ga K "Loop") "__eq__" (He.ma K (He.ga K "Loop") "__eq__")
  cO : Cls K (He.ga K "Moment")
  mkO : Mk K (He.ga K "Moment") (He.ma K (He.ga K "Moment") "__init__")
  nO_replies : NoAttr K (He.ga K "Moment") "replies"
  nO_machine : NoAttr K (He.ga K "Moment") "machine"
  nO_before : NoAttr K (He.ga K "Moment") "before"
  cR : Cls K (He.ga K "Reading")
  mkR : Mk K (He.ga K "Reading") (He.ma K (He.ga K "Reading") "__init__")
  nR_loop : NoAttr K (He.ga K "Reading") "loop"
  nR_size : NoAttr K (He.ga K "Reading") "size"
  nR_busy : NoAttr K (He.ga K "Reading") "busy"
  nR_last : NoAttr K (He.ga K "Reading") "last"
  nR_replies : NoAttr K (He.ga K "Reading") "replies"
  nR_pieces : NoAttr K (He.ga K "Reading") "pieces"
  nR_rest : NoAttr K (He.ga K "Reading") "rest"
  nR_stopped : NoAttr K (He.ga K "Reading") "stopped"
  mR_go_to : Meth K (He.ga K "Reading") "go_to" (He.ma K (He.ga K "Reading") "go_to")
  mR_check_free : Meth K (He.ga K "Reading") "check_free" (He.ma K (He.ga K "Reading") "check_free")
  mR_take : Meth K (He.ga K "Reading") "take" (He.ma K (He.ga K "Reading") "take")
  mR_feed : Meth K (He.ga K "Reading") "feed" (He.ma K (He.ga K "Reading") "feed")
  mR_undo : Meth K (He.ga K "Reading") "undo" (He.ma K (He.ga K "Reading") "undo")
  mR_len : Meth K (He.ga K "Reading") "__len__" (He.ma K (He.ga K "Reading") "__len__")
  mR_repr : Meth K (He.ga K "Reading") "__repr__" (He.ma K (He.ga K "Reading") "__repr__")
  isP : C8.InsC K (He.ga K "Loop")
  neP : PySem.W.findIn K (.ref (He.ga K "Loop")) "__ne__" = some (some (.builtin "object.__ne__"))
  moP : PySem.W.mroIn K (He.ga K "Loop") (.type "object") = some true
  ncR : NoCmp K (He.ga K "Reading")
  noR_bool : PySem.W.findIn K (.ref (He.ga K "Reading")) "__bool__" = some none
  xStopped : ExcF K (He.ga K "Stopped")
  xm_Stopped_Stopped : PySem.W.exmOne K (.ref (He.ga K "Stopped")) (.ref (He.ga K "Stopped")) = some true
  xm_Stopped_NothingToUndo : PySem.W.exmOne K (.ref (He.ga K "Stopped")) (.ref (He.ga K "NothingToUndo")) = some false
  ks_Stopped : PySem.W.kitOne K (.ref (He.ga K "Stopped")) (.ref (He.ga K "StateError")) = some true
  kl_Stopped : PySem.W.kitOne K (.ref (He.ga K "Stopped")) (.type "LookupError") = some true
  xNothingToUndo : ExcF K (He.ga K "NothingToUndo")
  xm_NothingToUndo_Stopped : PySem.W.exmOne K (.ref (He.ga K "NothingToUndo")) (.ref (He.ga K "Stopped")) = some false
  xm_NothingToUndo_NothingToUndo : PySem.W.exmOne K (.ref (He.ga K "NothingToUndo")) (.ref (He.ga K "NothingToUndo")) = some true
  ks_NothingToUndo : PySem.W.kitOne K (.ref (He.ga K "NothingToUndo")) (.ref (He.ga K "StateError")) = some true
  kl_NothingToUndo : PySem.W.kitOne K (.ref (He.ga K "NothingToUndo")) (.type "LookupError") = some true
  d_is_integer : ∃ fd, FnP K "is_integer" "is_integer" (top 23) (He.ga K "is_integer") fd
  d_check_size : ∃ fd, FnP K "check_size" "check_size" (top 24) (He.ga K "check_size") fd
  d_is_reply : ∃ fd, FnP K "is_reply" "is_reply" (top 25) (He.ga K "is_reply") fd
  d_check_replies : ∃ fd, FnP K "check_replies" "check_replies" (top 26) (He.ga K "check_replies") fd
  d_is_word : ∃ fd, FnP K "is_word" "is_word" (top 31) (He.ga K "is_word") fd
  d_words_in : ∃ fd, FnP K "words_in" "words_in" (top 32) (He.ga K "words_in") fd
  d_check_loop : ∃ fd, FnP K "check_loop" "check_loop" (top 34) (He.ga K "check_loop") fd
  d_l_jar : ∃ fd, FnP K "_law_jar" "_law_jar" (top 40) (He.ga K "_law_jar") fd
  d_l_sip : ∃ fd, FnP K "_law_sip" "_law_sip" (top 41) (He.ga K "_law_sip") fd
  d_l_from : ∃ fd, FnP K "_law_from" "_law_from" (top 42) (He.ga K "_law_from") fd
  d_l_words : ∃ fd, FnP K "_law_words" "_law_words" (top 43) (He.ga K "_law_words") fd
  d_l_loop : ∃ fd, FnP K "_law_loop" "_law_loop" (top 44) (He.ga K "_law_loop") fd
  d_l_line : ∃ fd, FnP K "_law_line" "_law_line" (top 45) (He.ga K "_law_line") fd
  d_l_passed : ∃ fd, FnP K "_law_passed" "_law_passed" (top 47) (He.ga K "_law_passed") fd
  d_l_sliced : ∃ fd, FnP K "_law_sliced" "_law_sliced" (top 48) (He.ga K "_law_sliced") fd
  d_l_done : ∃ fd, FnP K "_law_done" "_law_done" (top 49) (He.ga K "_law_done") fd
  d_l_fed : ∃ fd, FnP K "_law_fed" "_law_fed" (top 50) (He.ga K "_law_fed") fd
  d_l_box : ∃ fd, FnP K "_law_box" "_law_box" (top 51) (He.ga K "_law_box") fd
  d_l_tale : ∃ fd, FnP K "_law_tale" "_law_tale" (top 52) (He.ga K "_law_tale") fd
  d_l_is_at : ∃ fd, FnP K "_law_is_at" "_law_is_at" (top 54) (He.ga K "_law_is_at") fd
  d_l_came : ∃ fd, FnP K "_law_came" "_law_came" (top 55) (He.ga K "_law_came") fd
  d_l_right : ∃ fd, FnP K "_law_right" "_law_right" (top 56) (He.ga K "_law_right") fd
  d_law : ∃ fd, FnP K "law" "law" (top 57) (He.ga K "law") fd
  dM_init : ∃ fd, FnP K "__init__" "Machine.__init__" (inClass (top 21) 0) (He.ma K (He.ga K "Machine") "__init__") fd
  dM_copy : ∃ fd, FnP K "copy" "Machine.copy" (inClass (top 21) 1) (He.ma K (He.ga K "Machine") "copy") fd
  dM_passes : ∃ fd, FnP K "passes" "Machine.passes" (inClass (top 21) 2) (He.ma K (He.ga K "Machine") "passes") fd
  dM_hand_on : ∃ fd, FnP K "hand_on" "Machine.hand_on" (inClass (top 21) 3) (He.ma K (He.ga K "Machine") "hand_on") fd
  dM_do_step : ∃ fd, FnP K "do_step" "Machine.do_step" (inClass (top 21) 4) (He.ma K (He.ga K "Machine") "do_step") fd
  dM_step_of : ∃ fd, FnP K "step_of" "Machine.step_of" (inClass (top 21) 5) (He.ma K (He.ga K "Machine") "step_of") fd
  dM_do_words : ∃ fd, FnP K "do_words" "Machine.do_words" (inClass (top 21) 6) (He.ma K (He.ga K "Machine") "do_words") fd
  dM_feed : ∃ fd, FnP K "feed" "Machine.feed" (inClass (top 21) 7) (He.ma K (He.ga K "Machine") "feed") fd
  dP_init : ∃ fd, FnP K "__init__" "Loop.__init__" (inClass (top 33) 0) (He.ma K (He.ga K "Loop") "__init__") fd
  dP_run : ∃ fd, FnP K "run" "Loop.run" (inClass (top 33) 2) (He.ma K (He.ga K "Loop") "run") fd
  dP_eq : ∃ fd, FnP K "__eq__" "Loop.__eq__" (inClass (top 33) 4) (He.ma K (He.ga K "Loop") "__eq__") fd
  dO_init : ∃ fd, FnP K "__init__" "Moment.__init__" (inClass (top 36) 0) (He.ma K (He.ga K "Moment") "__init__") fd
  dR_init : ∃ fd, FnP K "__init__" "Reading.__init__" (inClass (top 37) 0) (He.ma K (He.ga K "Reading") "__init__") fd
  dR_go_to : ∃ fd, FnP K "go_to" "Reading.go_to" (inClass (top 37) 1) (He.ma K (He.ga K "Reading") "go_to") fd
  dR_check_free : ∃ fd, FnP K "check_free" "Reading.check_free" (inClass (top 37) 2) (He.ma K (He.ga K "Reading") "check_free") fd
  dR_take : ∃ fd, FnP K "take" "Reading.take" (inClass (top 37) 3) (He.ma K (He.ga K "Reading") "take") fd
  dR_feed : ∃ fd, FnP K "feed" "Reading.feed" (inClass (top 37) 4) (He.ma K (He.ga K "Reading") "feed") fd
  dR_undo : ∃ fd, FnP K "undo" "Reading.undo" (inClass (top 37) 6) (He.ma K (He.ga K "Reading") "undo") fd
  dR_len : ∃ fd, FnP K "__len__" "Reading.__len__" (inClass (top 37) 8) (He.ma K (He.ga K "Reading") "__len__") fd
  dR_repr : ∃ fd, FnP K "__repr__" "Reading.__repr__" (inClass (top 37) 9) (He.ma K (He.ga K "Reading") "__repr__") fd
def fa0 : List He.Fa := [.free "len", .free "range", .free "int", .free "abs", .free "divmod", .free "tuple", .free "list", .free "all", .free "min", .free "max", .free "isinstance", .free "enumerate", .free "repr", .free "bool", .free "str", .free "LookupError", .int "MOST_ROUND" 12, .int "MOST_ENDING" 6, .int "MOST_REPLIES" 100, .int "MOST_ITEMS" 1000, .glo "TESTS", .glo "ROUND_STEPS", .glo "ENDING_STEPS", .glo "is_integer", .glo "check_size", .glo "is_reply", .glo "check_replies", .glo "is_word", .glo "words_in", .glo "check_loop"]
def fa1 : List He.Fa := [.glo "_law_jar", .glo "_law_sip", .glo "_law_from", .glo "_law_words", .glo "_law_loop", .glo "_law_line", .glo "_law_passed", .glo "_law_sliced", .glo "_law_done", .glo "_law_fed", .glo "_law_box", .glo "_law_tale", .glo "_law_is_at", .glo "_law_came", .glo "_law_right", .glo "law", .glo "Machine", .glo "Loop", .glo "Moment", .glo "Reading", .glo "Stopped", .glo "NothingToUndo", .glo "StateError", .cls "Machine", .mkr "Machine", .noat "Machine" "loop", .noat "Machine" "size", .noat "Machine" "came", .noat "Machine" "carried", .noat "Machine" "said"]
def fa2 : List He.Fa := [.noat "Machine" "got", .noat "Machine" "handed", .noat "Machine" "over", .meth "Machine" "copy", .meth "Machine" "passes", .meth "Machine" "hand_on", .meth "Machine" "do_step", .meth "Machine" "step_of", .meth "Machine" "do_words", .meth "Machine" "feed", .cls "Loop", .mkr "Loop", .noat "Loop" "text", .noat "Loop" "round", .noat "Loop" "ending", .meth "Loop" "run", .meth "Loop" "__eq__", .cls "Moment", .mkr "Moment", .noat "Moment" "replies", .noat "Moment" "machine", .noat "Moment" "before", .cls "Reading", .mkr "Reading", .noat "Reading" "loop", .noat "Reading" "size", .noat "Reading" "busy", .noat "Reading" "last", .noat "Reading" "replies", .noat "Reading" "pieces"]
def fa3 : List He.Fa := [.noat "Reading" "rest", .noat "Reading" "stopped", .meth "Reading" "go_to", .meth "Reading" "check_free", .meth "Reading" "take", .meth "Reading" "feed", .meth "Reading" "undo", .meth "Reading" "__len__", .meth "Reading" "__repr__", .exm "Stopped" "Stopped" true, .exm "Stopped" "NothingToUndo" false, .exm "NothingToUndo" "Stopped" false, .exm "NothingToUndo" "NothingToUndo" true]
def fa : List He.Fa := fa0 ++ (fa1 ++ (fa2 ++ (fa3)))
def fn0 : List He.DefD := [dF 23 "is_integer", dF 24 "check_size", dF 25 "is_reply", dF 26 "check_replies", dF 31 "is_word", dF 32 "words_in", dF 34 "check_loop", dF 40 "_law_jar", dF 41 "_law_sip", dF 42 "_law_from", dF 43 "_law_words", dF 44 "_law_loop", dF 45 "_law_line", dF 47 "_law_passed", dF 48 "_law_sliced", dF 49 "_law_done", dF 50 "_law_fed", dF 51 "_law_box", dF 52 "_law_tale", dF 54 "_law_is_at", dF 55 "_law_came", dF 56 "_law_right", dF 57 "law", dM 21 0 "Machine" "__init__" "Machine.__init__", dM 21 1 "Machine" "copy" "Machine.copy", dM 21 2 "Machine" "passes" "Machine.passes", dM 21 3 "Machine" "hand_on" "Machine.hand_on", dM 21 4 "Machine" "do_step" "Machine.do_step", dM 21 5 "Machine" "step_of" "Machine.step_of", dM 21 6 "Machine" "do_words" "Machine.do_words"]
def fn1 : List He.DefD := [dM 21 7 "Machine" "feed" "Machine.feed", dM 33 0 "Loop" "__init__" "Loop.__init__", dM 33 2 "Loop" "run" "Loop.run", dM 33 4 "Loop" "__eq__" "Loop.__eq__", dM 36 0 "Moment" "__init__" "Moment.__init__", dM 37 0 "Reading" "__init__" "Reading.__init__", dM 37 1 "Reading" "go_to" "Reading.go_to", dM 37 2 "Reading" "check_free" "Reading.check_free", dM 37 3 "Reading" "take" "Reading.take", dM 37 4 "Reading" "feed" "Reading.feed", dM 37 6 "Reading" "undo" "Reading.undo", dM 37 8 "Reading" "__len__" "Reading.__len__", dM 37 9 "Reading" "__repr__" "Reading.__repr__"]
def fn : List He.DefD := fn0 ++ (fn1)
def exL0 : List (PySem.W.Frag → Bool) := [fun K => He.tupB K "TESTS" [.str "empty", .str "some", .str "short", .str "full", .str "told", .str "open", .str "rest", .str "bare"], fun K => He.tupB K "ROUND_STEPS" [.str "add", .str "hand", .str "cut", .str "flush", .str "stop", .str "again"], fun K => He.tupB K "ENDING_STEPS" [.str "hand", .str "cut", .str "flush"], fun K => insB K "Loop", fun K => He.eqO (PySem.W.findIn K (.ref (He.ga K "Loop")) "__ne__") (some (some (.builtin "object.__ne__"))), fun K => decide (PySem.W.mroIn K (He.ga K "Loop") (.type "object") = some true), fun K => noCmpB K "Reading", fun K => He.eqO (PySem.W.findIn K (.ref (He.ga K "Reading")) "__bool__") (some none), fun K => excB K "Stopped", fun K => decide (PySem.W.kitOne K (.ref (He.ga K "Stopped")) (.ref (He.ga K "StateError")) = some true), fun K => decide (PySem.W.kitOne K (.ref (He.ga K "Stopped")) (.type "LookupError") = some true), fun K => excB K "NothingToUndo", fun K => decide (PySem.W.kitOne K (.ref (He.ga K "NothingToUndo")) (.ref (He.ga K "StateError")) = some true), fun K => decide (PySem.W.kitOne K (.ref (He.ga K "NothingToUndo")) (.type "LookupError") = some true)]
def exL : List (PySem.W.Frag → Bool) := exL0
def names0 : List PySem.Str := ["_wall", "InputError", "StateError", "SizeError", "NotALoop", "InvalidText", "InvalidSize", "InvalidCount", "InvalidTold", "InvalidReplies", "InvalidDeeds", "Stopped", "NothingToUndo", "Busy", "TooManyReplies", "MOST_ROUND", "MOST_ENDING", "MOST_REPLIES", "MOST_ITEMS", "Machine", "is_integer", "check_size", "is_reply", "check_replies", "TESTS", "ROUND_STEPS", "ENDING_STEPS", "is_word", "words_in", "Loop"]
def names1 : List PySem.Str := ["check_loop", "Moment", "Reading", "is_deed", "_law_jar", "_law_sip", "_law_from", "_law_words", "_law_loop", "_law_line", "_law_kind", "_law_passed", "_law_sliced", "_law_done", "_law_fed", "_law_box", "_law_tale", "_law_boxes", "_law_is_at", "_law_came", "_law_right"]
def names : List PySem.Str := names0 ++ (names1)
def tf : List He.Defn := [("_law_right", none)]
def ex (K : PySem.W.Frag) : Bool := exL.all fun f => f K
section
variable {K : PySem.W.Frag} {mg : Str → Option Value} {w : World} {h : Heap}
theorem ex_at (c : He.SaysX fa fn [] tf ex w h K) (i : Nat) {f : PySem.W.Frag → Bool} (e : exL[i]? = some f) : f K = true := List.all_eq_true.mp c.more f (List.mem_of_getElem? e)
set_option maxHeartbeats 40000000 in
theorem tx_of (X : K.In h) (G : h.Ns mainGlobals mg) (c : He.SaysX fa fn [] tf ex w h K) : Tx K mg := by
  have cP : Cls K (He.ga K "Loop") := He.cls_ok (c.t.d.fact 70 rfl)
  exact {
    f_len := He.free_ok X G (c.t.d.fact 0 rfl)
    f_range := He.free_ok X G (c.t.d.fact 1 rfl)
    f_int := He.free_ok X G (c.t.d.fact 2 rfl)
    f_abs := He.free_ok X G (c.t.d.fact 3 rfl)
    f_divmod := He.free_ok X G (c.t.d.fact 4 rfl)
    f_tuple := He.free_ok X G (c.t.d.fact 5 rfl)
    f_list := He.free_ok X G (c.t.d.fact 6 rfl)
    f_all := He.free_ok X G (c.t.d.fact 7 rfl)
    f_min := He.free_ok X G (c.t.d.fact 8 rfl)
    f_max := He.free_ok X G (c.t.d.fact 9 rfl)
    f_isinstance := He.free_ok X G (c.t.d.fact 10 rfl)
    f_enumerate := He.free_ok X G (c.t.d.fact 11 rfl)
    f_repr := He.free_ok X G (c.t.d.fact 12 rfl)
    f_bool := He.free_ok X G (c.t.d.fact 13 rfl)
    f_str := He.free_ok X G (c.t.d.fact 14 rfl)
    f_LookupError := He.free_ok X G (c.t.d.fact 15 rfl)
    i_MOST_ROUND := intv (He.int_ok X G (c.t.d.fact 16 rfl))
    i_MOST_ENDING := intv (He.int_ok X G (c.t.d.fact 17 rfl))
    i_MOST_REPLIES := intv (He.int_ok X G (c.t.d.fact 18 rfl))
    i_MOST_ITEMS := intv (He.int_ok X G (c.t.d.fact 19 rfl))
    g_TESTS := He.glo_ok X G (c.t.d.fact 20 rfl)
    t_TESTS := fun H => He.tupB_ok (ex_at c 0 rfl) H
    g_ROUND_STEPS := He.glo_ok X G (c.t.d.fact 21 rfl)
    t_ROUND_STEPS := fun H => He.tupB_ok (ex_at c 1 rfl) H
    g_ENDING_STEPS := He.glo_ok X G (c.t.d.fact 22 rfl)
    t_ENDING_STEPS := fun H => He.tupB_ok (ex_at c 2 rfl) H
    g_is_integer := He.glo_ok X G (c.t.d.fact 23 rfl)
    g_check_size := He.glo_ok X G (c.t.d.fact 24 rfl)
    g_is_reply := He.glo_ok X G (c.t.d.fact 25 rfl)
    g_check_replies := He.glo_ok X G (c.t.d.fact 26 rfl)
    g_is_word := He.glo_ok X G (c.t.d.fact 27 rfl)
    g_words_in := He.glo_ok X G (c.t.d.fact 28 rfl)
    g_check_loop := He.glo_ok X G (c.t.d.fact 29 rfl)
    g_l_jar := He.glo_ok X G (c.t.d.fact 30 rfl)
    g_l_sip := He.glo_ok X G (c.t.d.fact 31 rfl)
    g_l_from := He.glo_ok X G (c.t.d.fact 32 rfl)
    g_l_words := He.glo_ok X G (c.t.d.fact 33 rfl)
    g_l_loop := He.glo_ok X G (c.t.d.fact 34 rfl)
    g_l_line := He.glo_ok X G (c.t.d.fact 35 rfl)
    g_l_passed := He.glo_ok X G (c.t.d.fact 36 rfl)
    g_l_sliced := He.glo_ok X G (c.t.d.fact 37 rfl)
    g_l_done := He.glo_ok X G (c.t.d.fact 38 rfl)
    g_l_fed := He.glo_ok X G (c.t.d.fact 39 rfl)
    g_l_box := He.glo_ok X G (c.t.d.fact 40 rfl)
    g_l_tale := He.glo_ok X G (c.t.d.fact 41 rfl)
    g_l_is_at := He.glo_ok X G (c.t.d.fact 42 rfl)
    g_l_came := He.glo_ok X G (c.t.d.fact 43 rfl)
    g_l_right := He.glo_ok X G (c.t.d.fact 44 rfl)
    g_law := He.glo_ok X G (c.t.d.fact 45 rfl)
    g_Machine := He.glo_ok X G (c.t.d.fact 46 rfl)
    g_Loop := He.glo_ok X G (c.t.d.fact 47 rfl)
    g_Moment := He.glo_ok X G (c.t.d.fact 48 rfl)
    g_Reading := He.glo_ok X G (c.t.d.fact 49 rfl)
    g_Stopped := He.glo_ok X G (c.t.d.fact 50 rfl)
    g_NothingToUndo := He.glo_ok X G (c.t.d.fact 51 rfl)
    g_StateError := He.glo_ok X G (c.t.d.fact 52 rfl)
    cM := He.cls_ok (c.t.d.fact 53 rfl)
    mkM := He.mkr_ok (c.t.d.fact 54 rfl)
    nM_loop := He.noat_ok (c.t.d.fact 55 rfl)
    nM_size := He.noat_ok (c.t.d.fact 56 rfl)
    nM_came := He.noat_ok (c.t.d.fact 57 rfl)
    nM_carried := He.noat_ok (c.t.d.fact 58 rfl)
    nM_said := He.noat_ok (c.t.d.fact 59 rfl)
    nM_got := He.noat_ok (c.t.d.fact 60 rfl)
    nM_handed := He.noat_ok (c.t.d.fact 61 rfl)
    nM_over := He.noat_ok (c.t.d.fact 62 rfl)
    mM_copy := He.meth_ok (c.t.d.fact 63 rfl)
    mM_passes := He.meth_ok (c.t.d.fact 64 rfl)
    mM_hand_on := He.meth_ok (c.t.d.fact 65 rfl)
    mM_do_step := He.meth_ok (c.t.d.fact 66 rfl)
    mM_step_of := He.meth_ok (c.t.d.fact 67 rfl)
    mM_do_words := He.meth_ok (c.t.d.fact 68 rfl)
    mM_feed := He.meth_ok (c.t.d.fact 69 rfl)
    cP := He.cls_ok (c.t.d.fact 70 rfl)
    mkP := He.mkr_ok (c.t.d.fact 71 rfl)
    nP_text := He.noat_ok (c.t.d.fact 72 rfl)
    nP_round := He.noat_ok (c.t.d.fact 73 rfl)
    nP_ending := He.noat_ok (c.t.d.fact 74 rfl)
    mP_run := He.meth_ok (c.t.d.fact 75 rfl)
    mP_eq := He.meth_ok (c.t.d.fact 76 rfl)
    cO := He.cls_ok (c.t.d.fact 77 rfl)
    mkO := He.mkr_ok (c.t.d.fact 78 rfl)
    nO_replies := He.noat_ok (c.t.d.fact 79 rfl)
    nO_machine := He.noat_ok (c.t.d.fact 80 rfl)
    nO_before := He.noat_ok (c.t.d.fact 81 rfl)
    cR := He.cls_ok (c.t.d.fact 82 rfl)
    mkR := He.mkr_ok (c.t.d.fact 83 rfl)
    nR_loop := He.noat_ok (c.t.d.fact 84 rfl)
    nR_size := He.noat_ok (c.t.d.fact 85 rfl)
    nR_busy := He.noat_ok (c.t.d.fact 86 rfl)
    nR_last := He.noat_ok (c.t.d.fact 87 rfl)
    nR_replies := He.noat_ok (c.t.d.fact 88 rfl)
    nR_pieces := He.noat_ok (c.t.d.fact 89 rfl)
    nR_rest := He.noat_ok (c.t.d.fact 90 rfl)
    nR_stopped := He.noat_ok (c.t.d.fact 91 rfl)
    mR_go_to := He.meth_ok (c.t.d.fact 92 rfl)
    mR_check_free := He.meth_ok (c.t.d.fact 93 rfl)
    mR_take := He.meth_ok (c.t.d.fact 94 rfl)
    mR_feed := He.meth_ok (c.t.d.fact 95 rfl)
    mR_undo := He.meth_ok (c.t.d.fact 96 rfl)
    mR_len := He.meth_ok (c.t.d.fact 97 rfl)
    mR_repr := He.meth_ok (c.t.d.fact 98 rfl)
    isP := insB_ok cP (ex_at c 3 rfl)
    neP := He.eqO_ok (ex_at c 4 rfl)
    moP := of_decide_eq_true (ex_at c 5 rfl)
    ncR := noCmpB_ok (ex_at c 6 rfl)
    noR_bool := He.eqO_ok (ex_at c 7 rfl)
    xStopped := excB_ok (ex_at c 8 rfl)
    xm_Stopped_Stopped := He.exm_ok (c.t.d.fact 99 rfl)
    xm_Stopped_NothingToUndo := He.exm_ok (c.t.d.fact 100 rfl)
    ks_Stopped := of_decide_eq_true (ex_at c 9 rfl)
    kl_Stopped := of_decide_eq_true (ex_at c 10 rfl)
    xNothingToUndo := excB_ok (ex_at c 11 rfl)
    xm_NothingToUndo_Stopped := He.exm_ok (c.t.d.fact 101 rfl)
    xm_NothingToUndo_NothingToUndo := He.exm_ok (c.t.d.fact 102 rfl)
    ks_NothingToUndo := of_decide_eq_true (ex_at c 12 rfl)
    kl_NothingToUndo := of_decide_eq_true (ex_at c 13 rfl)
    d_is_integer := c.t.d.def_ 0 rfl
    d_check_size := c.t.d.def_ 1 rfl
    d_is_reply := c.t.d.def_ 2 rfl
    d_check_replies := c.t.d.def_ 3 rfl
    d_is_word := c.t.d.def_ 4 rfl
    d_words_in := c.t.d.def_ 5 rfl
    d_check_loop := c.t.d.def_ 6 rfl
    d_l_jar := c.t.d.def_ 7 rfl
    d_l_sip := c.t.d.def_ 8 rfl
    d_l_from := c.t.d.def_ 9 rfl
    d_l_words := c.t.d.def_ 10 rfl
    d_l_loop := c.t.d.def_ 11 rfl
    d_l_line := c.t.d.def_ 12 rfl
    d_l_passed := c.t.d.def_ 13 rfl
    d_l_sliced := c.t.d.def_ 14 rfl
    d_l_done := c.t.d.def_ 15 rfl
    d_l_fed := c.t.d.def_ 16 rfl
    d_l_box := c.t.d.def_ 17 rfl
    d_l_tale := c.t.d.def_ 18 rfl
    d_l_is_at := c.t.d.def_ 19 rfl
    d_l_came := c.t.d.def_ 20 rfl
    d_l_right := c.t.d.def_ 21 rfl
    d_law := c.t.d.def_ 22 rfl
    dM_init := c.t.d.def_ 23 rfl
    dM_copy := c.t.d.def_ 24 rfl
    dM_passes := c.t.d.def_ 25 rfl
    dM_hand_on := c.t.d.def_ 26 rfl
    dM_do_step := c.t.d.def_ 27 rfl
    dM_step_of := c.t.d.def_ 28 rfl
    dM_do_words := c.t.d.def_ 29 rfl
    dM_feed := c.t.d.def_ 30 rfl
    dP_init := c.t.d.def_ 31 rfl
    dP_run := c.t.d.def_ 32 rfl
    dP_eq := c.t.d.def_ 33 rfl
    dO_init := c.t.d.def_ 34 rfl
    dR_init := c.t.d.def_ 35 rfl
    dR_go_to := c.t.d.def_ 36 rfl
    dR_check_free := c.t.d.def_ 37 rfl
    dR_take := c.t.d.def_ 38 rfl
    dR_feed := c.t.d.def_ 39 rfl
    dR_undo := c.t.d.def_ 40 rfl
    dR_len := c.t.d.def_ 41 rfl
    dR_repr := c.t.d.def_ 42 rfl
  }
end
end LS
end
-- text Hd
section
set_option maxHeartbeats 0
namespace LS
open PySem PySem.Spec PyProof.Rows L2
abbrev RR : PySem.W.OpenRow := PySem.W.OpenLaw.row PySem.Challenge.rw_lastshort_k61_whole_readings_fed
abbrev hk : PySem.W.Hook := He.hookX 4 fa fn [] tf ex
def ob (s : PySem.W.SharedT) : He.AlX := He.obsX 4 fa fn [] tf ex (HandSHeadRun.getT s)
theorem ob_eq (s : PySem.W.SharedT) : ob s = hk.obs s.abs := He.obsX_eq (HandSHeadRun.getT_eq s)
theorem run (w : World) : HandSHeadRun.RunEq RR (PySem.W.view RR.prog [57]) hk ob 20000 names w := by
  intro os
  kernel_rfl
end LS
end
-- text Mi
section
set_option maxHeartbeats 4000000
/-! The plain machine; how it lies in the heap; frames. -/
namespace LS
open PySem PySem.Spec PyProof.Rows L2
/-! ### words -/
inductive Tst | empty | some_ | short | full | told | open_ | rest | bare
  deriving DecidableEq
inductive Stp | add | hand | cut | flush | stop | again
  deriving DecidableEq
def Tst.str : Tst → Str
  | .empty => "empty" | .some_ => "some" | .short => "short" | .full => "full" | .told => "told" | .open_ => "open" | .rest => "rest" | .bare => "bare"
def Stp.str : Stp → Str
  | .add => "add" | .hand => "hand" | .cut => "cut" | .flush => "flush" | .stop => "stop" | .again => "again"
structure Wd where
  t : Option Tst
  s : Stp
  deriving DecidableEq
def Wd.str (w : Wd) : Str := match w.t with
  | none => w.s.str
  | some t => t.str ++ (":" : Str) ++ w.s.str
abbrev Wd.v (w : Wd) : V := .str w.str
/-! ### the machine -/
structure Mst where
  came : List Int
  rest : List Int
  said : Bool
  got : Int
  out : List (List Int)
  over : Bool
def cutPs (n : Nat) (l : List Int) : List (List Int) := (List.range (l.length / n)).map fun k => (l.drop (k * n)).take n
namespace Mst
def passes (n : Nat) (m : Mst) : Tst → Bool
  | .empty => decide (m.came.length = 0)
  | .some_ => !decide (m.came.length = 0)
  | .short => decide (m.came.length < n)
  | .full => !decide (m.came.length < n)
  | .told => m.said
  | .open_ => !m.said
  | .rest => !decide (m.rest.length = 0)
  | .bare => decide (m.rest.length = 0)
def step (n : Nat) (m : Mst) : Stp → Mst
  | .add => { m with rest := m.rest ++ m.came }
  | .hand => { m with out := m.out ++ [m.came] }
  | .cut => { m with out := m.out ++ cutPs n m.rest, rest := m.rest.drop (m.rest.length / n * n) }
  | .flush => { m with out := m.out ++ [m.rest], rest := [] }
  | .stop => m
  | .again => m
def stepOf (n : Nat) (m : Mst) (w : Wd) : Option Stp := match w.t with
  | none => some w.s
  | some t => if m.passes n t then some w.s else none
def doWords (n : Nat) : List Wd → Mst → Mst × Option Bool
  | [], m => (m, none)
  | w :: ws, m => match m.stepOf n w with
    | none => doWords n ws m
    | some .stop => (m, some true)
    | some .again => (m, some false)
    | some .add => doWords n ws (m.step n .add)
    | some .hand => doWords n ws (m.step n .hand)
    | some .cut => doWords n ws (m.step n .cut)
    | some .flush => doWords n ws (m.step n .flush)
def irg (a : Int) (c : Nat) : List Int := (List.range c).map fun i => a + (i : Nat)
def fed (n : Nat) (ws es : List Wd) (m : Mst) (c : Nat) (t : Bool) : Mst :=
  let r := doWords n ws { m with came := irg m.got c, got := m.got + c, said := t }
  match r.2 with
  | some true => { (doWords n es r.1).1 with over := true }
  | _ => r.1
def start : Mst := ⟨[], [], false, 0, [], false⟩
/-- how large it is -/
def sz (m : Mst) : Nat := m.rest.length + m.out.length
theorem cutPs_len (n : Nat) (l : List Int) : (cutPs n l).length = l.length / n := by
  unfold cutPs; rw [List.length_map, List.length_range]
theorem sz_step (n : Nat) (hn : 1 ≤ n) (m : Mst) (s : Stp) : (m.step n s).sz ≤ m.sz + (m.came.length + 1) ∧ (m.step n s).came = m.came ∧ (m.step n s).got = m.got ∧ (m.step n s).said = m.said ∧ (m.step n s).over = m.over := by
  cases s with
  | cut =>
    refine ⟨?_, rfl, rfl, rfl, rfl⟩
    show (m.rest.drop (m.rest.length / n * n)).length + (m.out ++ cutPs n m.rest).length ≤ m.rest.length + m.out.length + (m.came.length + 1)
    rw [List.length_drop, List.length_append, cutPs_len]
    have h1 : m.rest.length / n ≤ m.rest.length / n * n := Nat.le_mul_of_pos_right _ hn
    have h2 : m.rest.length / n * n ≤ m.rest.length := Nat.div_mul_le_self _ _
    omega
  | add => exact ⟨by simp only [step, sz, List.length_append]; omega, rfl, rfl, rfl, rfl⟩
  | hand => exact ⟨by simp only [step, sz, List.length_append, List.length_cons, List.length_nil]; omega, rfl, rfl, rfl, rfl⟩
  | flush => exact ⟨by simp only [step, sz, List.length_append, List.length_cons, List.length_nil]; omega, rfl, rfl, rfl, rfl⟩
  | stop => exact ⟨by simp only [step, sz]; omega, rfl, rfl, rfl, rfl⟩
  | again => exact ⟨by simp only [step, sz]; omega, rfl, rfl, rfl, rfl⟩
theorem sz_words (n : Nat) (hn : 1 ≤ n) : ∀ (ws : List Wd) (m : Mst), (doWords n ws m).1.sz ≤ m.sz + ws.length * (m.came.length + 1) ∧ (doWords n ws m).1.came = m.came ∧ (doWords n ws m).1.got = m.got ∧ (doWords n ws m).1.said = m.said ∧ (doWords n ws m).1.over = m.over
  | [], m => ⟨by simp [doWords], rfl, rfl, rfl, rfl⟩
  | w :: ws, m => by
    have ih0 := sz_words n hn ws m
    have go : ∀ s, (doWords n ws (m.step n s)).1.sz ≤ m.sz + (w :: ws).length * (m.came.length + 1) ∧ (doWords n ws (m.step n s)).1.came = m.came ∧ (doWords n ws (m.step n s)).1.got = m.got ∧ (doWords n ws (m.step n s)).1.said = m.said ∧ (doWords n ws (m.step n s)).1.over = m.over := fun s => by
      obtain ⟨h1, h2, h3, h4, h5⟩ := sz_step n hn m s
      obtain ⟨i1, i2, i3, i4, i5⟩ := sz_words n hn ws (m.step n s)
      rw [h2] at i1
      refine ⟨?_, i2.trans h2, i3.trans h3, i4.trans h4, i5.trans h5⟩
      rw [List.length_cons, Nat.succ_mul]
      omega
    unfold doWords
    cases e : m.stepOf n w with
    | none =>
      refine ⟨?_, ih0.2⟩
      have := ih0.1
      rw [List.length_cons, Nat.succ_mul]
      show (doWords n ws m).1.sz ≤ _
      omega
    | some s =>
      cases s with
      | add => exact go .add
      | hand => exact go .hand
      | cut => exact go .cut
      | flush => exact go .flush
      | stop => exact ⟨by show m.sz ≤ _; omega, rfl, rfl, rfl, rfl⟩
      | again => exact ⟨by show m.sz ≤ _; omega, rfl, rfl, rfl, rfl⟩
theorem irg_len (a : Int) (c : Nat) : (irg a c).length = c := by unfold irg; rw [List.length_map, List.length_range]
theorem sz_fed (n : Nat) (hn : 1 ≤ n) (ws es : List Wd) (m : Mst) (c : Nat) (t : Bool) : (m.fed n ws es c t).sz ≤ m.sz + (ws.length + es.length) * (c + 1) ∧ (m.fed n ws es c t).got = m.got + c := by
  obtain ⟨h1, h2, h3, _, _⟩ := sz_words n hn ws { m with came := irg m.got c, got := m.got + c, said := t }
  have h1' : (doWords n ws { m with came := irg m.got c, got := m.got + c, said := t }).1.sz ≤ m.sz + ws.length * (c + 1) := by
    have e : (irg m.got c).length = c := irg_len _ _
    have : ({ m with came := irg m.got c, got := m.got + c, said := t } : Mst).sz = m.sz := rfl
    rw [this] at h1
    have h1 : _ ≤ m.sz + ws.length * ((irg m.got c).length + 1) := h1
    rw [e] at h1
    exact h1
  obtain ⟨k1, k2, k3, _, _⟩ := sz_words n hn es (doWords n ws { m with came := irg m.got c, got := m.got + c, said := t }).1
  have k1' : (doWords n es (doWords n ws { m with came := irg m.got c, got := m.got + c, said := t }).1).1.sz ≤ m.sz + (ws.length + es.length) * (c + 1) := by
    rw [h2] at k1
    have e : (irg m.got c).length = c := irg_len _ _
    have k1 : _ ≤ _ + es.length * ((irg m.got c).length + 1) := k1
    rw [e] at k1
    rw [Nat.add_mul]
    omega
  unfold fed
  dsimp only
  split
  · exact ⟨k1', by show (doWords n es _).1.got = _; rw [k3]; exact h3⟩
  · refine ⟨?_, h3⟩
    rw [Nat.add_mul]
    omega
end Mst
def lvStr : Option Bool → Str
  | some true => "stop"
  | some false => "again"
  | none => ""
def soStr : Option Stp → Str
  | some s => s.str
  | none => ""
/-! ### in the heap -/
def TI (H : Hp) (a : Addr) (ns : List Int) : Prop := H a = some (.tup (ns.map V.int))
def LI (H : Hp) (a : Addr) (ns : List Int) : Prop := H a = some (.lst (ns.map V.int))
def IsP (H : Hp) (v : V) (ns : List Int) : Prop := ∃ a, v = .ref a ∧ TI H a ns
def PsT (H : Hp) (a : Addr) (pss : List (List Int)) : Prop := ∃ vs, H a = some (.tup vs) ∧ Paired (IsP H) vs pss
def PsL (H : Hp) (a : Addr) (pss : List (List Int)) : Prop := ∃ vs, H a = some (.lst vs) ∧ Paired (IsP H) vs pss
/-- what may change: the objects at S; tuples never -/
structure Frm (S : List Addr) (H H' : Hp) : Prop where
  tup : ∀ b xs, H b = some (.tup xs) → H' b = some (.tup xs)
  keep : ∀ b o, H b = some o → b ∉ S → H' b = some o
  dom : ∀ b o, H b = some o → ∃ o', H' b = some o'
section
variable {S S' : List Addr} {H H1 H2 : Hp} {a p : Addr} {o o' : HO} {ns : List Int} {pss : List (List Int)} {v : V} {vs : List V}
theorem Frm.refl (S : List Addr) (H : Hp) : Frm S H H := ⟨fun _ _ h => h, fun _ _ h _ => h, fun _ _ h => ⟨_, h⟩⟩
theorem Frm.trans (a : Frm S H H1) (b : Frm S H1 H2) : Frm S H H2 := ⟨fun c xs h => b.tup c xs (a.tup c xs h), fun c o h n => b.keep c o (a.keep c o h n) n, fun c o h => let ⟨_, e⟩ := a.dom c o h; b.dom c _ e⟩
theorem Frm.mono (a : Frm S H H1) (h : ∀ b ∈ S, b ∈ S') : Frm S' H H1 := ⟨a.tup, fun c o e n => a.keep c o e fun z => n (h c z), a.dom⟩
theorem Frm.ex (e : Evl.Ex H H1) : Frm S H H1 := ⟨fun c xs h => e c _ h, fun c o h _ => e c o h, fun c o h => ⟨o, e c o h⟩⟩
theorem Frm.toEx (a : Frm [] H H1) : Evl.Ex H H1 := fun c o h => a.keep c o h (by simp)
theorem Frm.free (a : Frm S H H1) (h : H1 p = none) : H p = none := by
  cases e : H p with
  | none => rfl
  | some o =>
    obtain ⟨o', e'⟩ := a.dom p o e
    rw [h] at e'; cases e'
/-- a store at one of them -/
theorem Frm.put (h : H a = some o) (hm : a ∈ S) (ht : ∀ xs, o ≠ .tup xs) (o' : HO) : Frm S H (upd H a o') :=
  ⟨fun c xs e => by
    by_cases hc : c = a
    · subst hc; rw [h] at e; exact absurd (Option.some.inj e) (ht xs)
    · rw [upd_ne hc]; exact e,
   fun c u e n => by rw [upd_ne (fun z => n (by rw [z]; exact hm))]; exact e,
   fun c u e => by
    by_cases hc : c = a
    · subst hc; exact ⟨o', upd_same⟩
    · exact ⟨u, by rw [upd_ne hc]; exact e⟩⟩
theorem Frm.new (h : H p = none) (o' : HO) : Frm S H (upd H p o') := Frm.ex (Evl.Ex.new h)
/-- what was made since may be changed at will -/
theorem Frm.late (a : Frm S H H1) (h : H p = none) (o' : HO) : Frm S H (upd H1 p o') :=
  ⟨fun c xs e => by rw [upd_ne (ne_of_none e h)]; exact a.tup c xs e, fun c u e n => by rw [upd_ne (ne_of_none e h)]; exact a.keep c u e n,
   fun c u e => by rw [upd_ne (ne_of_none e h)]; exact a.dom c u e⟩
/-- .. by a call that changes only what was made since -/
theorem Frm.lateF (a : Frm S H H1) (h : ∀ b ∈ S', H b = none ∨ b ∈ S) (b : Frm S' H1 H2) : Frm S H H2 :=
  ⟨fun c xs e => b.tup c xs (a.tup c xs e), fun c u e n => b.keep c u (a.keep c u e n) (fun z => (h c z).elim (fun q => by rw [q] at e; cases e) n), fun c u e => let ⟨_, z⟩ := a.dom c u e; b.dom c _ z⟩
theorem TI.mono (h : TI H a ns) (e : Frm S H H1) : TI H1 a ns := e.tup _ _ h
theorem IsP.mono (h : IsP H v ns) (e : Frm S H H1) : IsP H1 v ns := let ⟨a, x, y⟩ := h; ⟨a, x, y.mono e⟩
theorem Paired.imp2 {α β : Type} {F G : α → β → Prop} (f : ∀ a b, F a b → G a b) : ∀ {l : List α} {m : List β}, Paired F l m → Paired G l m
  | _, _, .nil => .nil
  | _, _, .cons r t => .cons (f _ _ r) (Paired.imp2 f t)
theorem Paired.app {α β : Type} {F : α → β → Prop} : ∀ {l l' : List α} {m m' : List β}, Paired F l m → Paired F l' m' → Paired F (l ++ l') (m ++ m')
  | _, _, _, _, .nil, h => h
  | _, _, _, _, .cons r t, h => .cons r (Paired.app t h)
theorem Paired.len {α β : Type} {F : α → β → Prop} : ∀ {l : List α} {m : List β}, Paired F l m → l.length = m.length
  | _, _, .nil => rfl
  | _, _, .cons _ t => by rw [List.length_cons, List.length_cons, Paired.len t]
theorem ps_mono (h : Paired (IsP H) vs pss) (e : Frm S H H1) : Paired (IsP H1) vs pss := Paired.imp2 (fun _ _ z => z.mono e) h
theorem PsT.mono (h : PsT H a pss) (e : Frm S H H1) : PsT H1 a pss := let ⟨vs, x, y⟩ := h; ⟨vs, e.tup _ _ x, ps_mono y e⟩
end
/-! ### the attributes of the objects -/
section
variable {f g : Str} {v u : V} {r : List (Str × V)}
theorem putF_hit : putF f v ((f, u) :: r) = (f, v) :: r := if_pos rfl
theorem putF_skip (h : ¬ g = f) : putF f v ((g, u) :: r) = (g, u) :: putF f v r := if_neg h
theorem putF_nil : putF f v [] = [(f, v)] := rfl
theorem lk_hit : ((f, u) :: r).lookup f = some u := by simp [List.lookup]
theorem lk_skip (h : ¬ g = f) : ((g, u) :: r).lookup f = r.lookup f := by
  have : (f == g) = false := beq_eq_false_iff_ne.mpr fun z => h z.symm
  simp [List.lookup, this]
end
def mfl (l : Addr) (n : Nat) (ca cr : Addr) (sd : Bool) (g : Int) (hd : Addr) (ov : Bool) : List (Str × V) :=
  [("loop", .ref l), ("size", .int n), ("came", .ref ca), ("carried", .ref cr), ("said", .bl sd), ("got", .int g), ("handed", .ref hd), ("over", .bl ov)]
/-- the machine stands at m, in the state st; its loop at l, its size n -/
structure MAt (C : Addr) (H : Hp) (m l : Addr) (n : Nat) (st : Mst) : Prop where
  ex : ∃ dx ca cr hd, H m = some (.ins C dx (mfl l n ca cr st.said st.got hd st.over)) ∧ TI H ca st.came ∧ TI H cr st.rest ∧ PsT H hd st.out
section
variable {C H H1 m l n st} {S : List Addr}
theorem MAt.mono {C : Addr} {H H1 : Hp} {m l : Addr} {n : Nat} {st : Mst} {S : List Addr} (h : MAt C H m l n st) (e : Frm S H H1) (hm : m ∉ S) : MAt C H1 m l n st := by
  obtain ⟨dx, ca, cr, hd, h1, h2, h3, h4⟩ := h.ex
  exact ⟨dx, ca, cr, hd, e.keep _ _ h1 hm, h2.mono e, h3.mono e, h4.mono e⟩
end
end LS
end
-- text Wk
section
set_option maxHeartbeats 4000000
/-! Short words for the walk. -/
namespace LS
open PySem PySem.Spec PyProof.Rows L2 Evl
section
variable {P : Program} {w : World} {K : PySem.W.Frag} {mg : Str → Option Value} {base : Heap}
abbrev BindOk (x q : Str) (st : Stmt) (ps : List Str) : Prop := ∀ (kV doc pm : Value) (an : Option Addr) (cdv ct : Value) (us : List Value), us.length = ps.length → bindArgs (PySem.W.fnOf x q (defArgs st) (defBody st) (defScope st) .none kV doc pm an cdv ct) ⟨us, []⟩ = pure (ps.zip us)
abbrev BodyOk (P : Program) (w : World) (K : PySem.W.Frag) (mg : Str → Option Value) (base : Heap) (q : Str) (st : Stmt) (N : List Str) (f : Addr) (k : Nat) (sp : Sp) : Prop :=
  ∀ (cdv : Value) (A : Around) (outer : List Env) (s : Shared) (H : Hp) (vs : List V) (Q : VK) (E : XK), Room k (A.deeper (envOfC q (defScope st) s.heap.objs.size f cdv)) → sp vs H Q E →
      ∃ t, PSs (cxOf CX0 P w K mg base N q (defScope st) f cdv A outer s H E).nox (defBody st) t ∧ t { nx := fun _ H' => Q .non H', rt := Q } (L2.start N vs) H
theorem fnOk_mk {x q : Str} {st : Stmt} {f : Addr} {fd : FuncData} {N ps : List Str} {k : Nat} {sp : Sp} (F : FnP K x q st f fd) (S : FnScope N ps (defScope st)) (len : ∀ vs H Q E, sp vs H Q E → vs.length = ps.length)
    (hbody : BodyOk P w K mg base q st N f k sp) : FnOk P w K mg base CX0 (k + 1) f fd ps sp :=
  F.ok S len fun cdv A outer s H vs Q E hr h => let ⟨t, a, b⟩ := hbody cdv A outer s H vs Q E hr h; ⟨t, a.nox, b⟩
theorem mkCal {x : Str} {st : Stmt} {f : Addr} {N ps : List Str} {k : Nat} {sp : Sp} (F : ∃ fd, FnP K x x st f fd) (g : mg x = some (.ref f)) (S : FnScope N ps (defScope st)) (b : BindOk x x st ps) (len : ∀ vs H Q E, sp vs H Q E → vs.length = ps.length)
    (hbody : BodyOk P w K mg base x st N f k sp) : C8.Cal P w K mg base (k + 1) x sp [] := by
  obtain ⟨fd, F⟩ := F
  exact ⟨f, fd, ps, [], fnOk_mk F S len hbody, g, F.kp, F.bindsN b, .nil⟩
theorem mkMet {m q : Str} {C f : Addr} {st : Stmt} {N ps : List Str} {k : Nat} {sp : Sp} (F : ∃ fd, FnP K m q st f fd) (c : Cls K C) (me : Meth K C m f) (S : FnScope N ps (defScope st)) (b : BindOk m q st ps) (len : ∀ vs H Q E, sp vs H Q E → vs.length = ps.length)
    (hbody : BodyOk P w K mg base q st N f k sp) : C8.Met P w K mg base (k + 1) C m sp [] := by
  obtain ⟨fd, F⟩ := F
  exact ⟨f, fd, ps, [], c, me, fnOk_mk F S len hbody, F.bindsN b, .nil⟩
theorem mkMak {x q : Str} {C f : Addr} {st : Stmt} {N ps : List Str} {k : Nat} {sp : Sp} (F : ∃ fd, FnP K "__init__" q st f fd) (M : Mk K C f) (g : mg x = some (.ref C)) (S : FnScope N ps (defScope st)) (b : BindOk "__init__" q st ps) (len : ∀ vs H Q E, sp vs H Q E → vs.length = ps.length)
    (hbody : BodyOk P w K mg base q st N f k sp) : C8.Mak P w K mg base (k + 1) x C sp [] := by
  obtain ⟨fd, F⟩ := F
  exact ⟨f, fd, ps, [], M, fnOk_mk F S len hbody, g, F.bindsN b, .nil⟩
end
section
variable {X : Cx} {k j : Nat} {x : Str} {sp : Sp} {dvs : List V} {p pos : Pos}
theorem pe_c0 (c : C8.Cal X.prog X.w X.K X.mg X.base k x sp dvs) (hr : Room j X.A) (hk : k ≤ j) (hg : Gl X x) (hdb : (x == ("__debug__" : Str)) = false := by decide) :
    PE X (.Call (.Name x p) [] [] pos) (tCall sp dvs E0 tNil) := by
  obtain ⟨f, fd, ps, ds, F, hm, kp, b, d⟩ := c.ex
  exact pe_call0 F (hr.mono hk) hg hm kp b d pass0 hdb
end
/-! ### what evaluates to what, further -/
section
variable {K : PySem.W.Frag} {σ : L2.St} {H H' : Hp} {ta tb te tc : TE} {t u : TT} {x y z v : V} {r : R2} {a C dx p : Addr} {fs : List (Str × V)} {f : Str} {xs : List V} {b : Bool} {D : Ends} {tu tw tz : TS}
theorem ev_fld (h : Ev ta σ H (.ref a)) (ho : H a = some (.ins C dx fs)) (c : Cls K C) (n : NoAttr K C f) (l : fs.lookup f = some v) : Ev (tFld K ta f) σ H v := fun H1 e Q q =>
  h H1 e _ fun H2 e2 => ⟨a, C, dx, fs, v, rfl, (e.trans e2) _ _ ho, c, n, l, q H2 e2⟩
theorem ev_lenT (h : Ev ta σ H (.ref p)) (hx : SqT K H p xs) : Ev (tCB (rLenS K) (tCons ta tNil)) σ H (.int (xs.length : Int)) := fun H1 e Q q =>
  h H1 e _ fun H2 e2 => ⟨p, xs, rfl, Or.inr (ex_t (e.trans e2) hx), q H2 e2⟩
theorem ev_I0 {g : Int → Int → V} {i j : Int} (ha : Ev ta σ H (.int i)) (hb : Ev tb σ H (.int j)) : Ev (tOp (rI0 g) ta tb) σ H (g i j) := ev_op ha hb rv_I0
theorem ev_I {Cc : Int → Int → Prop} {g : Int → Int → V} {i j : Int} (ha : Ev ta σ H (.int i)) (hb : Ev tb σ H (.int j)) (hc : Cc i j) : Ev (tOp (rI Cc g) ta tb) σ H (g i j) := ev_op ha hb (rv_I hc)
theorem ev_eq (ha : Ev ta σ H x) (hb : Ev tb σ H y) (h : scal x y = true) : Ev (tOp rEq ta tb) σ H (.bl (decide (x = y))) := ev_op ha hb (rv_eq h)
theorem ev_ne (ha : Ev ta σ H x) (hb : Ev tb σ H y) (h : scal x y = true) : Ev (tOp rNe ta tb) σ H (.bl (!decide (x = y))) := ev_op ha hb (rv_ne h)
theorem ev_inU2 {ta' : TA} {xs : List V} (ha : Ev ta σ H x) (hb : EvA ta' σ H xs) (hl : xs.length ≤ 100000) (hx : flatV x = true) (hf : xs.all flatV = true) : Ev (tOp (rIn K false) ta (tTup ta')) σ H (.bl (inV x xs)) := ev_inU ha (eu_tup hb hl) hx hf
theorem ev_inL2 {ta' : TA} {xs : List V} (ha : Ev ta σ H x) (hb : EvA ta' σ H xs) (hl : xs.length ≤ 100000) (hx : flatV x = true) (hf : xs.all flatV = true) : Ev (tOp (rIn K false) ta (tLst ta')) σ H (.bl (inV x xs)) :=
  ev_opL ha (el_lst hb hl) fun _ _ h _ => rv_isL (sq_of h) hx hf
theorem ev_inT (ha : Ev ta σ H x) (hb : Ev tb σ H (.ref p)) (hp : SqT K H p xs) (hx : flatV x = true) (hf : xs.all flatV = true) : Ev (tOp (rIn K false) ta tb) σ H (.bl (inV x xs)) := ev_op ha hb (rv_isT hp hx hf)
theorem ev_niT (ha : Ev ta σ H x) (hb : Ev tb σ H (.ref p)) (hp : SqT K H p xs) (hx : flatV x = true) (hf : xs.all flatV = true) : Ev (tOp (rIn K true) ta tb) σ H (.bl (!inV x xs)) := ev_op ha hb (LS_niT hp hx hf)
  where LS_niT {H : Hp} {x : V} {p : Addr} {xs : List V} (h : SqT K H p xs) (hx : flatV x = true) (hf : xs.all flatV = true) : RV (rIn K true) x (.ref p) H (.bl (!inV x xs)) := rv_niT h hx hf
theorem ev_ixT {i : Int} (ha : Ev ta σ H (.ref p)) (hb : Ev tb σ H (.int i)) (hp : SqT K H p xs) (hi : atI xs i = some v) : Ev (tOp (rIxT K) ta tb) σ H v := ev_op ha hb (rv_ixT hp hi)
theorem ev_ixL {i : Int} (ha : Ev ta σ H (.ref p)) (hb : Ev tb σ H (.int i)) (hp : SqL K H p xs) (hi : atI xs i = some v) : Ev (tOp (rIxL K) ta tb) σ H v := ev_op ha hb (rv_ixL hp hi)
/-- tests whose outcome is known -/
theorem q_yes (h : EvT t σ H true) (h1 : ∀ H1, Ex H H1 → tu { D with nx := tz D } σ H1) : tSeq (tIfS t tu tw) tz D σ H := q_if h (fun _ => h1) fun z => by cases z
theorem q_no (h : EvT t σ H false) (h2 : ∀ H1, Ex H H1 → tw { D with nx := tz D } σ H1) : tSeq (tIfS t tu tw) tz D σ H := q_if h (fun z => by cases z) fun _ => h2
theorem s_yes (h : EvT t σ H true) (h1 : ∀ H1, Ex H H1 → tu D σ H1) : tIfS t tu tw D σ H := s_if h (fun _ => h1) fun z => by cases z
theorem s_no (h : EvT t σ H false) (h2 : ∀ H1, Ex H H1 → tw D σ H1) : tIfS t tu tw D σ H := s_if h (fun z => by cases z) fun _ => h2
theorem et_ev (h : Ev te σ H (.bl b)) (e : b = true) : EvT (tTest te) σ H true := et_is (et_test h) e
theorem et_ev0 (h : Ev te σ H (.bl b)) (e : b = false) : EvT (tTest te) σ H false := et_is (et_test h) e
/-- a pure call: its promise says that it gives z -/
theorem spV_of {sp : Sp} {vs : List V} {H : Hp} {z : V} (h : ∀ H1, Ex H H1 → ∀ (Q : VK) (E : XK), (∀ H2, Ex H1 H2 → Q z H2) → sp vs H1 Q E) : SpV sp vs H z := fun H1 e Q q E => h H1 e Q E q
/-- a method called, its promise pure -/
theorem ev_meth0 {m : Str} {sp : Sp} {E : XK} (h : Ev ta σ H (.ref a)) (ho : H a = some (.ins C dx fs)) (hl : fs.lookup m = none) (hs : SpV sp [.ref a] H z) : Ev (tMeth C m sp [] E ta tNil) σ H z := fun H1 e Q q =>
  h H1 e _ fun H2 e2 => ⟨a, dx, fs, rfl, (e.trans e2) _ _ ho, hl, hs H2 (e.trans e2) Q (fun H3 e3 => q H3 (e2.trans e3)) E⟩
theorem ev_meth {m : Str} {sp : Sp} {E : XK} {tt : TA} {vs : List V} (h : Ev ta σ H (.ref a)) (ho : H a = some (.ins C dx fs)) (hl : fs.lookup m = none) (hv : EvA tt σ H vs) (hs : SpV sp (.ref a :: (vs ++ [])) H z) : Ev (tMeth C m sp [] E ta tt) σ H z := fun H1 e Q q =>
  h H1 e _ fun H2 e2 => ⟨a, dx, fs, rfl, (e.trans e2) _ _ ho, hl, hv H2 (e.trans e2) _ fun H3 e3 => hs H3 ((e.trans e2).trans e3) Q (fun H4 e4 => q H4 ((e2.trans e3).trans e4)) E⟩
end
/-! ### tuples, new or old -/
def EvW (te : TE) (σ : L2.St) (H : Hp) (xs : List V) : Prop := ∀ H1, Ex H H1 → ∀ Q : VK, (∀ p H2, Ex H1 H2 → H2 p = some (.tup xs) → Q (.ref p) H2) → te σ H1 Q
section
variable {K : PySem.W.Frag} {σ : L2.St} {H H' : Hp} {ta tb te tc tv : TE} {t u : TT} {x y z v : V} {r : R2} {a C dx p : Addr} {fs : List (Str × V)} {f : Str} {xs ys vs : List V} {b : Bool} {D : Ends} {tu tw tz : TS} {tt : TA} {tl th : TO} {lo hi : Option Int} {Q : VK} {E : XK} {sp : Sp} {m : Str}
theorem ew_u (h : EvU te σ H xs) : EvW te σ H xs := fun H1 e Q q => h H1 e Q fun p H2 _ e2 h2 => q p H2 e2 h2
theorem ew_ev (h : Ev te σ H (.ref a)) (ha : H a = some (.tup xs)) : EvW te σ H xs := fun H1 e Q q => h H1 e Q fun H2 e2 => q a H2 e2 ((e.trans e2) _ _ ha)
theorem EvW.mono (e : Ex H H') (h : EvW te σ H xs) : EvW te σ H' xs := fun H1 a Q q => h H1 (e.trans a) Q q
theorem ew_cat {b : Addr} (ha : Ev ta σ H (.ref a)) (hb : Ev tb σ H (.ref b)) (h1 : H a = some (.tup xs)) (h2 : H b = some (.tup ys)) (hl : xs.length + ys.length ≤ 100000) : EvW (tOp (rCatA K) ta tb) σ H (xs ++ ys) := fun H1 e Q q =>
  ha H1 e _ fun H2 e2 => hb H2 (e.trans e2) _ fun H3 e3 => by
    have k1 := ((e.trans e2).trans e3) _ _ h1
    have k2 := ((e.trans e2).trans e3) _ _ h2
    refine ⟨a, b, xs, ys, rfl, rfl, st_of k1, st_of k2, sz_of hl, fun z => ?_, fun _ z => ?_, fun _ _ p hp => ?_⟩
    · subst z; exact q b H3 (e2.trans e3) k2
    · subst z; rw [List.append_nil] at q; exact q a H3 (e2.trans e3) k1
    · exact q p _ ((e2.trans e3).trans (Ex.new hp)) upd_same
theorem ew_sl (h : Ev te σ H (.ref a)) (h1 : EvO tl σ H lo) (h2 : EvO th σ H hi) (hs : H a = some (.tup xs)) : EvW (tSl (rSlA K) te tl th) σ H (cutV xs lo hi) := fun H1 e Q q =>
  h H1 e _ fun H2 e2 => h1 H2 (e.trans e2) _ fun H3 e3 => h2 H3 ((e.trans e2).trans e3) _ fun H4 e4 => by
    have k := (((e.trans e2).trans e3).trans e4) _ _ hs
    refine ⟨a, xs, rfl, st_of k, fun z => ?_, fun _ p hp => ?_⟩
    · have ec : cutV xs lo hi = xs := by
        unfold cutV
        rw [z.1, z.2, Nat.sub_zero, List.drop_zero, List.take_length]
      rw [ec] at q
      exact q a H4 ((e2.trans e3).trans e4) k
    · exact q p _ (((e2.trans e3).trans e4).trans (Ex.new hp)) upd_same
theorem ea_star (h : Ev te σ H (.ref p)) (hx : H p = some (.tup xs)) (hr : EvA tt σ H ys) : EvA (StX.tStar K te tt) σ H (xs ++ ys) := fun H1 e Q q =>
  h H1 e _ fun H2 e2 => ⟨p, xs, rfl, Or.inl (st_of ((e.trans e2) _ _ hx)), hr H2 (e.trans e2) _ fun H3 e3 => q H3 (e2.trans e3)⟩
/-! ### stores into an instance -/
theorem s_fld (hv : Ev tv σ H y) (ha : Ev ta σ H (.ref a)) (ho : H a = some (.ins C dx fs)) (c : Cls K C) (n : NoAttr K C f) (hl : fs.length < 1000) (k : ∀ H1, Ex H H1 → D.nx σ (upd H1 a (.ins C dx (putF f y fs)))) : sFld K ta tv f D σ H :=
  hv H (Ex.refl H) _ fun H1 e1 => ha H1 e1 _ fun H2 e2 => ⟨a, C, dx, fs, rfl, (e1.trans e2) _ _ ho, c, n, hl, k H2 (e1.trans e2)⟩
theorem s_fldW (hv : EvW tv σ H xs) (ha : Ev ta σ H (.ref a)) (ho : H a = some (.ins C dx fs)) (c : Cls K C) (n : NoAttr K C f) (hl : fs.length < 1000) (k : ∀ p H1, Ex H H1 → H1 p = some (.tup xs) → D.nx σ (upd H1 a (.ins C dx (putF f (.ref p) fs)))) : sFld K ta tv f D σ H :=
  hv H (Ex.refl H) _ fun p H1 e1 h1 => ha H1 e1 _ fun H2 e2 => ⟨a, C, dx, fs, rfl, (e1.trans e2) _ _ ho, c, n, hl, k p H2 (e1.trans e2) (e2 _ _ h1)⟩
theorem q_fld (hv : Ev tv σ H y) (ha : Ev ta σ H (.ref a)) (ho : H a = some (.ins C dx fs)) (c : Cls K C) (n : NoAttr K C f) (hl : fs.length < 1000) (k : ∀ H1, Ex H H1 → tz D σ (upd H1 a (.ins C dx (putF f y fs)))) : tSeq (sFld K ta tv f) tz D σ H := s_fld (D := { D with nx := tz D }) hv ha ho c n hl k
theorem q_fldW (hv : EvW tv σ H xs) (ha : Ev ta σ H (.ref a)) (ho : H a = some (.ins C dx fs)) (c : Cls K C) (n : NoAttr K C f) (hl : fs.length < 1000) (k : ∀ p H1, Ex H H1 → H1 p = some (.tup xs) → tz D σ (upd H1 a (.ins C dx (putF f (.ref p) fs)))) : tSeq (sFld K ta tv f) tz D σ H := s_fldW (D := { D with nx := tz D }) hv ha ho c n hl k
/-! ### calls that change -/
theorem k_meth (h : Ev ta σ H (.ref a)) (ho : H a = some (.ins C dx fs)) (hl : fs.lookup m = none) (hv : EvA tt σ H vs) (k : ∀ H1, Ex H H1 → sp (.ref a :: (vs ++ [])) H1 Q E) : tMeth C m sp [] E ta tt σ H Q :=
  h H (Ex.refl H) _ fun H1 e1 => ⟨a, dx, fs, rfl, e1 _ _ ho, hl, hv H1 e1 _ fun H2 e2 => k H2 (e1.trans e2)⟩
theorem k_methW (h : Ev ta σ H (.ref a)) (ho : H a = some (.ins C dx fs)) (hl : fs.lookup m = none) (hv : EvW te σ H xs) (k : ∀ p H1, Ex H H1 → H1 p = some (.tup xs) → sp [.ref a, .ref p] H1 Q E) : tMeth C m sp [] E ta (tCons te tNil) σ H Q :=
  h H (Ex.refl H) _ fun H1 e1 => ⟨a, dx, fs, rfl, e1 _ _ ho, hl, hv H1 e1 _ fun p H2 e2 h2 => k p H2 (e1.trans e2) h2⟩
theorem k_meth0 (h : Ev ta σ H (.ref a)) (ho : H a = some (.ins C dx fs)) (hl : fs.lookup m = none) (k : ∀ H1, Ex H H1 → sp [.ref a] H1 Q E) : tMeth C m sp [] E ta tNil σ H Q :=
  h H (Ex.refl H) _ fun H1 e1 => ⟨a, dx, fs, rfl, e1 _ _ ho, hl, k H1 e1⟩
theorem k_call (hv : EvA tt σ H vs) (k : ∀ H1, Ex H H1 → sp (vs ++ []) H1 Q E) : tCall sp [] E tt σ H Q := hv H (Ex.refl H) _ k
theorem s_asgW {i : Nat} (h : EvW te σ H xs) (k : ∀ p H1, Ex H H1 → H1 p = some (.tup xs) → D.nx (σ.set i (some (.ref p))) H1) : tAsg te (gName i) D σ H := h H (Ex.refl H) _ fun p H1 e h1 => k p H1 e h1
theorem q_asgW {i : Nat} (h : EvW te σ H xs) (k : ∀ p H1, Ex H H1 → H1 p = some (.tup xs) → tz D (σ.set i (some (.ref p))) H1) : tSeq (tAsg te (gName i)) tz D σ H := s_asgW (D := { D with nx := tz D }) h k
theorem s_retW (h : EvW te σ H xs) (k : ∀ p H1, Ex H H1 → H1 p = some (.tup xs) → D.rt (.ref p) H1) : tRet te D σ H := h H (Ex.refl H) _ fun p H1 e h1 => k p H1 e h1
end
/-- an instance stored into: the machine's state behind -/
theorem ex_put {H H1 : Hp} {a C dx : Addr} {fs fs' : List (Str × V)} {S : List Addr} (e : Ex H H1) (ho : H a = some (.ins C dx fs)) (hm : a ∈ S) : Frm S H (upd H1 a (.ins C dx fs')) :=
  (Frm.ex e).trans (Frm.put (e _ _ ho) hm (fun _ z => by cases z) _)
/-! ### making, further -/
section
variable {K : PySem.W.Frag} {σ : L2.St} {H H1 H2 : Hp} {ta tb te tv : TE} {a C dx x : Addr} {fs : List (Str × V)} {f : Str} {vs : List V} {D : Ends} {tz : TS} {tt : TA} {Q : VK} {E : XK} {sp : Sp} {i j : Int}
theorem ex_frm (e : Ex H H1) (f : Frm [x] H1 H2) (hx : H x = none) : Ex H H2 := fun b o h => f.keep b o (e b o h) (by
  simp only [List.mem_cons, List.not_mem_nil, or_false]
  exact ne_of_none h hx)
theorem k_make (hv : EvA tt σ H vs) (k : ∀ x dx H1, H x = none → Ex H H1 → H1 x = some (.ins C dx []) → sp (.ref x :: (vs ++ [])) H1 (fun v H2 => v = .non ∧ Q (.ref x) H2) E) : tMake C sp [] E tt σ H Q :=
  hv H (Ex.refl H) _ fun H0 e0 x dx nx ndx hne => k x dx _ (fresh_back e0 nx) (e0.trans ((Ex.new ndx).trans (Ex.new (by rw [upd_ne (Ne.symm hne)]; exact nx)))) upd_same
theorem eu_tupRg (ha : Ev ta σ H (.int i)) (hb : Ev tb σ H (.int j)) (ok : RgOk i j) : EvU (tTupRg (tRg2 ta tb)) σ H (rgV i j) := fun H1 e Q q =>
  ha H1 e _ fun H2 e2 => hb H2 (e.trans e2) _ fun H3 e3 => ⟨i, j, rfl, rfl, ok, fun p hp => q p _ (fresh_back (e2.trans e3) hp) ((e2.trans e3).trans (Ex.new hp)) upd_same⟩
theorem el_lstRg (ha : Ev ta σ H (.int i)) (hb : Ev tb σ H (.int j)) (ok : RgOk i j) : EvL (tLstRg (tRg2 ta tb)) σ H (rgV i j) := fun H1 e Q q =>
  ha H1 e _ fun H2 e2 => hb H2 (e.trans e2) _ fun H3 e3 => ⟨i, j, rfl, rfl, ok, fun p hp => q p _ (fresh_back (e2.trans e3) hp) ((e2.trans e3).trans (Ex.new hp)) upd_same⟩
theorem q_fldAug (ha : Ev ta σ H (.ref a)) (ho : H a = some (.ins C dx fs)) (c : Cls K C) (n : NoAttr K C f) (l : fs.lookup f = some (.int i)) (hv : Ev tv σ H (.int j)) (hl : fs.length < 1000) (k : ∀ H1, Ex H H1 → tz D σ (upd H1 a (.ins C dx (putF f (.int (i + j)) fs)))) : tSeq (sFldAug K ta tv rAdd f) tz D σ H :=
  ha H (Ex.refl H) _ fun H1 e1 => ⟨a, C, dx, fs, _, rfl, e1 _ _ ho, c, n, l, hv H1 e1 _ fun H2 e2 => ⟨i, j, rfl, rfl, dx, fs, (e1.trans e2) _ _ ho, hl, k H2 (e1.trans e2)⟩⟩
end
theorem rgV_irg (a : Int) (c : Nat) : rgV a (a + c) = (Mst.irg a c).map V.int := by
  unfold rgV Mst.irg
  rw [List.map_map, show (a + (c : Int) - a).toNat = c by omega]
  rfl
/-! ### loops in the heap -/
def pfl (tx : Str) (r e : Addr) : List (Str × V) := [("text", .str tx), ("round", .ref r), ("ending", .ref e)]
structure LAt (C : Addr) (H : Hp) (l : Addr) (tx : Str) (ws es : List Wd) : Prop where
  ex : ∃ dx r e, H l = some (.ins C dx (pfl tx r e)) ∧ H r = some (.tup (.str "ask" :: ws.map Wd.v)) ∧ H e = some (.tup (es.map Wd.v))
theorem LAt.mono {C : Addr} {H H1 : Hp} {l : Addr} {tx : Str} {ws es : List Wd} {S : List Addr} (h : LAt C H l tx ws es) (f : Frm S H H1) (hl : l ∉ S) : LAt C H1 l tx ws es := by
  obtain ⟨dx, r, e, h1, h2, h3⟩ := h.ex
  exact ⟨dx, r, e, f.keep _ _ h1 hl, f.tup _ _ h2, f.tup _ _ h3⟩
theorem pk_text {tx : Str} {r e : Addr} : (pfl tx r e).lookup ("text" : Str) = some (.str tx) := by unfold pfl; rw [lk_hit]
theorem pk_round {tx : Str} {r e : Addr} : (pfl tx r e).lookup ("round" : Str) = some (.ref r) := by unfold pfl; rw [lk_skip (by decide +kernel), lk_hit]
theorem pk_ending {tx : Str} {r e : Addr} : (pfl tx r e).lookup ("ending" : Str) = some (.ref e) := by unfold pfl; rw [lk_skip (by decide +kernel), lk_skip (by decide +kernel), lk_hit]
theorem pk_no {tx : Str} {r e : Addr} {f : Str} (h1 : ¬ ("text" : Str) = f) (h2 : ¬ ("round" : Str) = f) (h3 : ¬ ("ending" : Str) = f) : (pfl tx r e).lookup f = none := by unfold pfl; rw [lk_skip h1, lk_skip h2, lk_skip h3]; rfl
theorem ne_ML {C C' : Addr} {H : Hp} {m l l' : Addr} {n : Nat} {st : Mst} {tx : Str} {ws es : List Wd} (M : MAt C H m l n st) (L : LAt C' H l' tx ws es) : l' ≠ m := by
  obtain ⟨dx, ca, cr, hd, h1, _⟩ := M.ex
  obtain ⟨dy, r, e, g1, _⟩ := L.ex
  refine ne_of g1 h1 fun z => ?_
  injection z with _ _ z3
  unfold pfl mfl at z3
  injection z3 with z4
  exact absurd (Prod.mk.inj z4).1 (by decide +kernel)
theorem pl0 : ([] : List (Str × V)).length ≤ 0 := Nat.le_refl _
theorem pls {f : Str} {v : V} {fs : List (Str × V)} {k : Nat} (h : fs.length ≤ k) : (putF f v fs).length ≤ k + 1 := Nat.le_trans (length_putF f v fs) (Nat.succ_le_succ h)
theorem lt1000 {fs : List (Str × V)} {k : Nat} (h : fs.length ≤ k) (hk : k < 1000 := by decide) : fs.length < 1000 := Nat.lt_of_le_of_lt h hk
section
variable {K : PySem.W.Frag} {σ : L2.St} {H : Hp} {ta tv : TE} {y : V} {a C dx : Addr} {fs : List (Str × V)} {f : Str} {xs : List V} {D : Ends} {tz : TS} {i j : Int}
/-- stores, the heap behind them a letter -/
theorem y_fld (hv : Ev tv σ H y) (ha : Ev ta σ H (.ref a)) (ho : H a = some (.ins C dx fs)) (c : Cls K C) (n : NoAttr K C f) (hl : fs.length < 1000) (k : ∀ H', Frm [a] H H' → H' a = some (.ins C dx (putF f y fs)) → D.nx σ H') : sFld K ta tv f D σ H :=
  s_fld hv ha ho c n hl fun H1 e => k _ (ex_put e ho (by simp)) upd_same
theorem y_fldW (hv : EvW tv σ H xs) (ha : Ev ta σ H (.ref a)) (ho : H a = some (.ins C dx fs)) (c : Cls K C) (n : NoAttr K C f) (hl : fs.length < 1000) (k : ∀ p H', Frm [a] H H' → H' p = some (.tup xs) → H' a = some (.ins C dx (putF f (.ref p) fs)) → D.nx σ H') : sFld K ta tv f D σ H :=
  s_fldW hv ha ho c n hl fun p H1 e hp => k p _ (ex_put e ho (by simp)) ((Frm.put (e _ _ ho) (List.mem_singleton.mpr rfl) (fun _ z => by cases z) _).tup _ _ hp) upd_same
theorem x_fld (hv : Ev tv σ H y) (ha : Ev ta σ H (.ref a)) (ho : H a = some (.ins C dx fs)) (c : Cls K C) (n : NoAttr K C f) (hl : fs.length < 1000) (k : ∀ H', Frm [a] H H' → H' a = some (.ins C dx (putF f y fs)) → tz D σ H') : tSeq (sFld K ta tv f) tz D σ H := y_fld (D := { D with nx := tz D }) hv ha ho c n hl k
theorem x_fldW (hv : EvW tv σ H xs) (ha : Ev ta σ H (.ref a)) (ho : H a = some (.ins C dx fs)) (c : Cls K C) (n : NoAttr K C f) (hl : fs.length < 1000) (k : ∀ p H', Frm [a] H H' → H' p = some (.tup xs) → H' a = some (.ins C dx (putF f (.ref p) fs)) → tz D σ H') : tSeq (sFld K ta tv f) tz D σ H := y_fldW (D := { D with nx := tz D }) hv ha ho c n hl k
theorem frm_ex {x : Addr} {H1 : Hp} (f : Frm [x] H H1) (hx : H x = none) : Ex H H1 := fun b o h => f.keep b o h (by
  simp only [List.mem_cons, List.not_mem_nil, or_false]
  exact ne_of_none h hx)
end
theorem q_setV {σ : L2.St} {H : Hp} {te : TE} {i : Nat} {tz : TS} {D : Ends} (h : te σ H (fun v H1 => tz D (σ.set i (some v)) H1)) : tSeq (tAsg te (gName i)) tz D σ H := h
theorem q_exprV {σ : L2.St} {H : Hp} {te : TE} {tz : TS} {D : Ends} (h : te σ H (fun _ H1 => tz D σ H1)) : tSeq (tDrop te) tz D σ H := h
theorem s_setV {σ : L2.St} {H : Hp} {te : TE} {i : Nat} {D : Ends} (h : te σ H (fun v H1 => D.nx (σ.set i (some v)) H1)) : tAsg te (gName i) D σ H := h
theorem s_exprV {σ : L2.St} {H : Hp} {te : TE} {D : Ends} (h : te σ H (fun _ H1 => D.nx σ H1)) : tDrop te D σ H := h
theorem s_retV {σ : L2.St} {H : Hp} {te : TE} {D : Ends} (h : te σ H D.rt) : tRet te D σ H := h
/-- the ends: a value given, all kept -/
def SpRet (v : V) (H : Hp) (Q : VK) : Prop := ∀ H1, Ex H H1 → Q v H1
/-! ### slots -/
theorem tcmp {x : V} {y : V} : decide (x = y) = true ↔ x = y := decide_eq_true_iff
end LS
end
-- text W1
section
set_option maxHeartbeats 4000000
/-! Machine's methods. -/
namespace LS
open PySem PySem.Spec PyProof.Rows L2 Evl
theorem dbl_t {a : Bool} : decide (V.bl a = V.bl true) = a := by cases a <;> rfl
theorem dbl_f {a : Bool} : decide (V.bl a = V.bl false) = !a := by cases a <;> rfl
theorem dint {i j : Int} : decide (V.int i = V.int j) = decide (i = j) := by
  by_cases h : i = j
  · subst h; simp
  · rw [decide_eq_false h, decide_eq_false fun z => h (by injection z)]
theorem Q_eq {Q : VK} {u v : V} {H : Hp} (q : Q v H) (e : u = v) : Q u H := by rw [e]; exact q
abbrev sc_Machine_passes_N : List Str := ["self", "test"]
theorem sc_Machine_passes : FnScope sc_Machine_passes_N ["self", "test"] (defScope (inClass (top 21) 2)) := ⟨rfl, rfl, rfl, by decide +kernel, rfl, by decide +kernel, by decide +kernel⟩
def sp_passes (K : PySem.W.Frag) : Sp := fun vs H Q _ => ∃ m l n st t, vs = [.ref m, .str (Tst.str t)] ∧ MAt (He.ga K "Machine") H m l n st ∧ SpRet (.bl (st.passes n t)) H Q
section
variable {P : Program} {w : World} {K : PySem.W.Frag} {mg : Str → Option Value} {base : Heap}
theorem m_Machine_passes (T : Tx K mg) : C8.Met P w K mg base 1 (He.ga K "Machine") "passes" (sp_passes K) [] := by
  refine mkMet T.dM_passes T.cM T.mM_passes sc_Machine_passes (fun _ _ _ _ _ _ us hl => match us, hl with | [_, _], _ => rfl) (fun vs H Q E h => ?_) (fun cdv A outer s H vs Q E hr h => ?_)
  · obtain ⟨m, l, n, st, t, rfl, _⟩ := h
    rfl
  · obtain ⟨m, l, n, st, t, rfl, hM, hQ⟩ := h
    obtain ⟨dx, ca, cr, hd, h1, h2, h3, h4⟩ := hM.ex
    refine ⟨_, (pss_cons (ps_if (pt_cmpR op_in_seq (pv 1) (pe_tup (pa_cons pe_str (pa_cons pe_str pa_nil))) (by rfl))
        (pss_one (ps_ret (pe_cmpR op_eq (pe_cmpR op_eq (pe_callB call_len_seq (by rfl) T.f_len (by decide +kernel) (pa_cons (pe_fld (pv 0) rfl) pa_nil)) pe_int (nomark _)) (pe_cmpR op_eq (pv 1) pe_str (nomark _)) (nomark _))))
        pss_nil)
      (pss_cons (ps_if (pt_cmpR op_in_seq (pv 1) (pe_tup (pa_cons pe_str (pa_cons pe_str pa_nil))) (by rfl))
        (pss_one (ps_ret (pe_cmpR op_eq (pe_cmpR op_lt (pe_callB call_len_seq (by rfl) T.f_len (by decide +kernel) (pa_cons (pe_fld (pv 0) rfl) pa_nil)) (pe_fld (pv 0) rfl) (nomark _)) (pe_cmpR op_eq (pv 1) pe_str (nomark _)) (nomark _))))
        pss_nil)
      (pss_cons (ps_if (pt_cmpR op_in_seq (pv 1) (pe_tup (pa_cons pe_str (pa_cons pe_str pa_nil))) (by rfl))
        (pss_one (ps_ret (pe_cmpR op_eq (pe_fld (pv 0) rfl) (pe_cmpR op_eq (pv 1) pe_str (nomark _)) (nomark _))))
        pss_nil)
      (pss_one (ps_ret (pe_cmpR op_eq (pe_cmpR op_gt (pe_callB call_len_seq (by rfl) T.f_len (by decide +kernel) (pa_cons (pe_fld (pv 0) rfl) pa_nil)) pe_int (nomark _)) (pe_cmpR op_eq (pv 1) pe_str (nomark _)) (nomark _))))))), ?_⟩
    have hcame : ∀ {H1}, Ex H H1 → Ev (tCB (rLenS K) (tCons (tFld K (tVar 0) "came") tNil)) (L2.start sc_Machine_passes_N [V.ref m, V.str (Tst.str t)]) H1 (.int (((st.came.map V.int).length : Nat) : Int)) := fun e =>
      ev_lenT (ev_fld (ev_var rfl) (e _ _ h1) T.cM T.nM_came (by unfold mfl; rw [lk_skip (by decide +kernel), lk_skip (by decide +kernel), lk_hit])) (st_of (e _ _ h2))
    have hrest : ∀ {H1}, Ex H H1 → Ev (tCB (rLenS K) (tCons (tFld K (tVar 0) "carried") tNil)) (L2.start sc_Machine_passes_N [V.ref m, V.str (Tst.str t)]) H1 (.int (((st.rest.map V.int).length : Nat) : Int)) := fun e =>
      ev_lenT (ev_fld (ev_var rfl) (e _ _ h1) T.cM T.nM_carried (by unfold mfl; rw [lk_skip (by decide +kernel), lk_skip (by decide +kernel), lk_skip (by decide +kernel), lk_hit])) (st_of (e _ _ h3))
    have hsize : ∀ {H1}, Ex H H1 → Ev (tFld K (tVar 0) "size") (L2.start sc_Machine_passes_N [V.ref m, V.str (Tst.str t)]) H1 (.int (n : Int)) := fun e =>
      ev_fld (ev_var rfl) (e _ _ h1) T.cM T.nM_size (by unfold mfl; rw [lk_skip (by decide +kernel), lk_hit])
    have hsaid : ∀ {H1}, Ex H H1 → Ev (tFld K (tVar 0) "said") (L2.start sc_Machine_passes_N [V.ref m, V.str (Tst.str t)]) H1 (.bl st.said) := fun e =>
      ev_fld (ev_var rfl) (e _ _ h1) T.cM T.nM_said (by unfold mfl; rw [lk_skip (by decide +kernel), lk_skip (by decide +kernel), lk_skip (by decide +kernel), lk_skip (by decide +kernel), lk_hit])
    have tin : ∀ {H1 : Hp} {a b : Str}, Ev (tOp (rIn K false) (tVar 1) (tTup (tCons (tC (.str a)) (tCons (tC (.str b)) tNil)))) (L2.start sc_Machine_passes_N [V.ref m, V.str (Tst.str t)]) H1 (.bl (inV (.str t.str) [.str a, .str b])) := fun {H1 a b} =>
      ev_inU2 (ev_var rfl) (ea_cons ev_c (ea_cons ev_c ea_nil)) (by show 2 ≤ 100000; decide) rfl rfl
    have tst : ∀ {H1 : Hp} {a : Str}, Ev (tOp rEq (tVar 1) (tC (.str a))) (L2.start sc_Machine_passes_N [V.ref m, V.str (Tst.str t)]) H1 (.bl (decide (V.str t.str = .str a))) := fun {H1 a} => ev_eq (ev_var rfl) ev_c rfl
    have z0 : ∀ k : Nat, decide ((k : Int) = 0) = decide (k = 0) := fun k => by simp
    have z1 : ∀ k : Nat, decide ((0 : Int) < (k : Int)) = !decide (k = 0) := fun k => by
      cases k with
      | zero => rfl
      | succ k => simp
    have z2 : ∀ k : Nat, decide ((k : Int) < (n : Int)) = decide (k < n) := fun k => by simp
    cases t with
    | empty =>
      refine q_yes (et_ev tin (by decide +kernel)) fun H1 e1 => s_ret (ev_eq (ev_eq (hcame e1) ev_c rfl) tst rfl) fun H2 e2 => Q_eq (hQ H2 (e1.trans e2)) ?_
      rw [dint, List.length_map, show decide (V.str (Tst.str .empty) = V.str "empty") = true from by decide +kernel, dbl_t, z0] <;> rfl
    | some_ =>
      refine q_yes (et_ev tin (by decide +kernel)) fun H1 e1 => s_ret (ev_eq (ev_eq (hcame e1) ev_c rfl) tst rfl) fun H2 e2 => Q_eq (hQ H2 (e1.trans e2)) ?_
      rw [dint, List.length_map, show decide (V.str (Tst.str .some_) = V.str "empty") = false from by decide +kernel, dbl_f, z0] <;> rfl
    | short =>
      refine q_no (et_ev0 tin (by decide +kernel)) fun H1 e1 => q_yes (et_ev tin (by decide +kernel)) fun H2 e2 => s_ret (ev_eq (ev_I0 (hcame (e1.trans e2)) (hsize (e1.trans e2))) tst rfl) fun H3 e3 => Q_eq (hQ H3 ((e1.trans e2).trans e3)) ?_
      rw [List.length_map, show decide (V.str (Tst.str .short) = V.str "short") = true from by decide +kernel, dbl_t, z2] <;> rfl
    | full =>
      refine q_no (et_ev0 tin (by decide +kernel)) fun H1 e1 => q_yes (et_ev tin (by decide +kernel)) fun H2 e2 => s_ret (ev_eq (ev_I0 (hcame (e1.trans e2)) (hsize (e1.trans e2))) tst rfl) fun H3 e3 => Q_eq (hQ H3 ((e1.trans e2).trans e3)) ?_
      rw [List.length_map, show decide (V.str (Tst.str .full) = V.str "short") = false from by decide +kernel, dbl_f, z2] <;> rfl
    | told =>
      refine q_no (et_ev0 tin (by decide +kernel)) fun H1 e1 => q_no (et_ev0 tin (by decide +kernel)) fun H2 e2 => q_yes (et_ev tin (by decide +kernel)) fun H3 e3 => s_ret (ev_eq (hsaid ((e1.trans e2).trans e3)) tst rfl) fun H4 e4 => Q_eq (hQ H4 (((e1.trans e2).trans e3).trans e4)) ?_
      rw [show decide (V.str (Tst.str .told) = V.str "told") = true from by decide +kernel, dbl_t] <;> rfl
    | open_ =>
      refine q_no (et_ev0 tin (by decide +kernel)) fun H1 e1 => q_no (et_ev0 tin (by decide +kernel)) fun H2 e2 => q_yes (et_ev tin (by decide +kernel)) fun H3 e3 => s_ret (ev_eq (hsaid ((e1.trans e2).trans e3)) tst rfl) fun H4 e4 => Q_eq (hQ H4 (((e1.trans e2).trans e3).trans e4)) ?_
      rw [show decide (V.str (Tst.str .open_) = V.str "told") = false from by decide +kernel, dbl_f] <;> rfl
    | rest =>
      refine q_no (et_ev0 tin (by decide +kernel)) fun H1 e1 => q_no (et_ev0 tin (by decide +kernel)) fun H2 e2 => q_no (et_ev0 tin (by decide +kernel)) fun H3 e3 => s_ret (ev_eq (ev_I0 (hrest ((e1.trans e2).trans e3)) ev_c) tst rfl) fun H4 e4 => Q_eq (hQ H4 (((e1.trans e2).trans e3).trans e4)) ?_
      rw [List.length_map, show decide (V.str (Tst.str .rest) = V.str "rest") = true from by decide +kernel, dbl_t, z1] <;> rfl
    | bare =>
      refine q_no (et_ev0 tin (by decide +kernel)) fun H1 e1 => q_no (et_ev0 tin (by decide +kernel)) fun H2 e2 => q_no (et_ev0 tin (by decide +kernel)) fun H3 e3 => s_ret (ev_eq (ev_I0 (hrest ((e1.trans e2).trans e3)) ev_c) tst rfl) fun H4 e4 => Q_eq (hQ H4 (((e1.trans e2).trans e3).trans e4)) ?_
      rw [List.length_map, show decide (V.str (Tst.str .bare) = V.str "rest") = false from by decide +kernel, dbl_f, z1, Bool.not_not] <;> rfl
end
/-! lookups in a machine's attributes -/
section
variable {l : Addr} {n : Nat} {ca cr : Addr} {sd : Bool} {g : Int} {hd : Addr} {ov : Bool}
theorem mk_loop : (mfl l n ca cr sd g hd ov).lookup ("loop" : Str) = some (.ref l) := by unfold mfl; rw [lk_hit]
theorem mk_size : (mfl l n ca cr sd g hd ov).lookup ("size" : Str) = some (.int n) := by unfold mfl; rw [lk_skip (by decide +kernel), lk_hit]
theorem mk_came : (mfl l n ca cr sd g hd ov).lookup ("came" : Str) = some (.ref ca) := by unfold mfl; rw [lk_skip (by decide +kernel), lk_skip (by decide +kernel), lk_hit]
theorem mk_carried : (mfl l n ca cr sd g hd ov).lookup ("carried" : Str) = some (.ref cr) := by unfold mfl; rw [lk_skip (by decide +kernel), lk_skip (by decide +kernel), lk_skip (by decide +kernel), lk_hit]
theorem mk_said : (mfl l n ca cr sd g hd ov).lookup ("said" : Str) = some (.bl sd) := by unfold mfl; rw [lk_skip (by decide +kernel), lk_skip (by decide +kernel), lk_skip (by decide +kernel), lk_skip (by decide +kernel), lk_hit]
theorem mk_got : (mfl l n ca cr sd g hd ov).lookup ("got" : Str) = some (.int g) := by unfold mfl; rw [lk_skip (by decide +kernel), lk_skip (by decide +kernel), lk_skip (by decide +kernel), lk_skip (by decide +kernel), lk_skip (by decide +kernel), lk_hit]
theorem mk_handed : (mfl l n ca cr sd g hd ov).lookup ("handed" : Str) = some (.ref hd) := by unfold mfl; rw [lk_skip (by decide +kernel), lk_skip (by decide +kernel), lk_skip (by decide +kernel), lk_skip (by decide +kernel), lk_skip (by decide +kernel), lk_skip (by decide +kernel), lk_hit]
theorem mk_over : (mfl l n ca cr sd g hd ov).lookup ("over" : Str) = some (.bl ov) := by unfold mfl; rw [lk_skip (by decide +kernel), lk_skip (by decide +kernel), lk_skip (by decide +kernel), lk_skip (by decide +kernel), lk_skip (by decide +kernel), lk_skip (by decide +kernel), lk_skip (by decide +kernel), lk_hit]
theorem mk_no {f : Str} (h : (["loop", "size", "came", "carried", "said", "got", "handed", "over"] : List Str).all (fun g : Str => decide (g ≠ f)) = true) : (mfl l n ca cr sd g hd ov).lookup f = none := by
  simp only [List.all_cons, List.all_nil, Bool.and_true, Bool.and_eq_true, decide_eq_true_eq] at h
  obtain ⟨h1, h2, h3, h4, h5, h6, h7, h8⟩ := h
  unfold mfl
  rw [lk_skip h1, lk_skip h2, lk_skip h3, lk_skip h4, lk_skip h5, lk_skip h6, lk_skip h7, lk_skip h8]
  rfl
theorem mp_came {z : Addr} : putF "came" (.ref z) (mfl l n ca cr sd g hd ov) = mfl l n z cr sd g hd ov := by unfold mfl; rw [putF_skip (by decide +kernel), putF_skip (by decide +kernel), putF_hit]
theorem mp_carried {z : Addr} : putF "carried" (.ref z) (mfl l n ca cr sd g hd ov) = mfl l n ca z sd g hd ov := by unfold mfl; rw [putF_skip (by decide +kernel), putF_skip (by decide +kernel), putF_skip (by decide +kernel), putF_hit]
theorem mp_said {z : Bool} : putF "said" (.bl z) (mfl l n ca cr sd g hd ov) = mfl l n ca cr z g hd ov := by unfold mfl; rw [putF_skip (by decide +kernel), putF_skip (by decide +kernel), putF_skip (by decide +kernel), putF_skip (by decide +kernel), putF_hit]
theorem mp_got {z : Int} : putF "got" (.int z) (mfl l n ca cr sd g hd ov) = mfl l n ca cr sd z hd ov := by unfold mfl; rw [putF_skip (by decide +kernel), putF_skip (by decide +kernel), putF_skip (by decide +kernel), putF_skip (by decide +kernel), putF_skip (by decide +kernel), putF_hit]
theorem mp_handed {z : Addr} : putF "handed" (.ref z) (mfl l n ca cr sd g hd ov) = mfl l n ca cr sd g z ov := by unfold mfl; rw [putF_skip (by decide +kernel), putF_skip (by decide +kernel), putF_skip (by decide +kernel), putF_skip (by decide +kernel), putF_skip (by decide +kernel), putF_skip (by decide +kernel), putF_hit]
theorem mp_over {z : Bool} : putF "over" (.bl z) (mfl l n ca cr sd g hd ov) = mfl l n ca cr sd g hd z := by unfold mfl; rw [putF_skip (by decide +kernel), putF_skip (by decide +kernel), putF_skip (by decide +kernel), putF_skip (by decide +kernel), putF_skip (by decide +kernel), putF_skip (by decide +kernel), putF_skip (by decide +kernel), putF_hit]
theorem mfl_len : (mfl l n ca cr sd g hd ov).length < 1000 := by show 8 < 1000; decide
end
/-- a machine stored into -/
theorem mat_put {C : Addr} {H1 : Hp} {m l dx ca cr hd : Addr} {n : Nat} (st' : Mst) {fs : List (Str × V)} {sd : Bool} {g : Int} {ov : Bool} (h1 : H1 m = some (.ins C dx fs)) (h2 : TI H1 ca st'.came) (h3 : TI H1 cr st'.rest) (h4 : PsT H1 hd st'.out) (es : sd = st'.said) (eg : g = st'.got) (eo : ov = st'.over) :
    MAt C (upd H1 m (.ins C dx (mfl l n ca cr sd g hd ov))) m l n st' := by
  have F : Frm [m] H1 (upd H1 m (.ins C dx (mfl l n ca cr sd g hd ov))) := Frm.put h1 (by simp) (fun _ z => by cases z) _
  subst es eg eo
  exact ⟨dx, ca, cr, hd, upd_same, h2.mono F, h3.mono F, h4.mono F⟩
abbrev sc_Machine_hand_on_N : List Str := ["self", "items"]
theorem sc_Machine_hand_on : FnScope sc_Machine_hand_on_N ["self", "items"] (defScope (inClass (top 21) 3)) := ⟨rfl, rfl, rfl, by decide +kernel, rfl, by decide +kernel, by decide +kernel⟩
def sp_hand_on (K : PySem.W.Frag) : Sp := fun vs H Q _ => ∃ m l n st v ns, vs = [.ref m, v] ∧ MAt (He.ga K "Machine") H m l n st ∧ IsP H v ns ∧ st.out.length < 90000 ∧
  ∀ H', Frm [m] H H' → MAt (He.ga K "Machine") H' m l n { st with out := st.out ++ [ns] } → Q .non H'
section
variable {P : Program} {w : World} {K : PySem.W.Frag} {mg : Str → Option Value} {base : Heap}
theorem m_Machine_hand_on (T : Tx K mg) : C8.Met P w K mg base 1 (He.ga K "Machine") "hand_on" (sp_hand_on K) [] := by
  refine mkMet T.dM_hand_on T.cM T.mM_hand_on sc_Machine_hand_on (fun _ _ _ _ _ _ us hl => match us, hl with | [_, _], _ => rfl) (fun vs H Q E h => ?_) (fun cdv A outer s H vs Q E hr h => ?_)
  · obtain ⟨m, l, n, st, v, ns, rfl, _⟩ := h
    rfl
  · obtain ⟨m, l, n, st, v, ns, rfl, hM, hv, hz, hQ⟩ := h
    obtain ⟨dx, ca, cr, hd, h1, h2, h3, hs, h4, h5⟩ := hM.ex
    refine ⟨_, (pss_one (ps_fld (pv 0) (pe_tup (StX.pa_star (pe_fld (pv 0) rfl) (pa_cons (pv 1) pa_nil))) rfl)), ?_⟩
    refine s_fldW (ew_u (eu_tup (ea_star (ev_fld (ev_var rfl) h1 T.cM T.nM_handed mk_handed) h4 (ea_cons (ev_var rfl) ea_nil)) (by rw [List.length_append]; have := h5.length; simp only [List.length_cons, List.length_nil]; omega))) (ev_var rfl) h1 T.cM T.nM_handed mfl_len fun p H1 e1 hp => ?_
    rw [mp_handed]
    refine hQ _ (ex_put e1 h1 (by simp)) (mat_put { st with out := st.out ++ [ns] } (e1 _ _ h1) (h2.mono (Frm.ex (S := []) e1)) (h3.mono (Frm.ex (S := []) e1)) ⟨_, hp, Paired.app (ps_mono h5 (Frm.ex (S := []) e1)) (.cons (hv.mono (Frm.ex (S := []) e1)) .nil)⟩ rfl rfl rfl)
end
end LS
end
-- text W2
section
set_option maxHeartbeats 4000000
/-! Machine's do_step. -/
namespace LS
open PySem PySem.Spec PyProof.Rows L2 Evl
theorem cutV_to {xs : List V} (k : Nat) : cutV xs none (some (k : Int)) = xs.take k := by
  unfold cutV
  rw [HT.sIx_none, HT.sIx_nat, List.drop_zero, Nat.sub_zero]
  by_cases h : k ≤ xs.length
  · rw [Nat.min_eq_left h]
  · rw [Nat.min_eq_right (by omega), List.take_length, List.take_of_length_le (by omega)]
theorem cutV_from {xs : List V} (k : Nat) : cutV xs (some (k : Int)) none = xs.drop k := by
  unfold cutV
  rw [HT.sIx_none, HT.sIx_nat]
  by_cases h : k ≤ xs.length
  · rw [Nat.min_eq_left h]
    exact List.take_of_length_le (by rw [List.length_drop]; omega)
  · rw [Nat.min_eq_right (by omega), Nat.sub_self, List.take_zero, List.drop_of_length_le (by omega)]
/-- the machine behind i pieces cut -/
def Mst.cutI (n : Nat) (m : Mst) (i : Nat) : Mst := { m with out := m.out ++ (List.range i).map (fun k => (m.rest.drop (k * n)).take n), rest := m.rest.drop (i * n) }
theorem Mst.cutI0 (n : Nat) (m : Mst) : m.cutI n 0 = m := by
  unfold cutI
  simp
theorem Mst.cutI_last (n : Nat) (m : Mst) : m.cutI n (m.rest.length / n) = m.step n .cut := rfl
abbrev sc_Machine_do_step_N : List Str := ["self", "step"]
theorem sc_Machine_do_step : FnScope sc_Machine_do_step_N ["self", "step"] (defScope (inClass (top 21) 4)) := ⟨rfl, rfl, rfl, by decide +kernel, rfl, by decide +kernel, by decide +kernel⟩
def sp_do_step (K : PySem.W.Frag) : Sp := fun vs H Q _ => ∃ m l n st s, vs = [.ref m, .str (Stp.str s)] ∧ s ≠ .stop ∧ s ≠ .again ∧ MAt (He.ga K "Machine") H m l n st ∧ 1 ≤ n ∧ st.sz + st.came.length < 50000 ∧
  ∀ H', Frm [m] H H' → MAt (He.ga K "Machine") H' m l n (st.step n s) → Q .non H'
section
variable {P : Program} {w : World} {K : PySem.W.Frag} {mg : Str → Option Value} {base : Heap}
theorem m_Machine_do_step (T : Tx K mg) : C8.Met P w K mg base 2 (He.ga K "Machine") "do_step" (sp_do_step K) [] := by
  refine mkMet T.dM_do_step T.cM T.mM_do_step sc_Machine_do_step (fun _ _ _ _ _ _ us hl => match us, hl with | [_, _], _ => rfl) (fun vs H Q E h => ?_) (fun cdv A outer s H vs Q E hr h => ?_)
  · obtain ⟨m, l, n, st, s, rfl, _⟩ := h
    rfl
  · obtain ⟨m, l, n, st, sp, rfl, hn1, hn2, hM, hn, hz, hQ⟩ := h
    obtain ⟨dx, ca, cr, hd, h1, h2, h3, h4⟩ := hM.ex
    have hz1 : st.rest.length + st.out.length + st.came.length < 50000 := hz
    refine ⟨_, (pss_one (ps_if (pt_cmpR op_eq (pv 1) pe_str (nomark _))
        (pss_one (ps_fld (pv 0) (pe_op op_catA (pe_fld (pv 0) rfl) (pe_fld (pv 0) rfl)) rfl))
        (pss_one (ps_if (pt_cmpR op_eq (pv 1) pe_str (nomark _))
          (pss_one (ps_expr (C8.pe_mt (m_Machine_hand_on T) hr (by decide) (pv 0) (pa_cons (pe_fld (pv 0) rfl) pa_nil))))
          (pss_one (ps_if (pt_cmpR op_eq (pv 1) pe_str (nomark _))
            (pss_one (ps_while PassesOwn.never (pt_cmpR op_ge (pe_callB call_len_seq (by rfl) T.f_len (by decide +kernel) (pa_cons (pe_fld (pv 0) rfl) pa_nil)) (pe_fld (pv 0) rfl) (nomark _))
              (pss_cons (ps_expr (C8.pe_mt (m_Machine_hand_on T) hr (by decide) (pv 0) (pa_cons (pe_slice sl_tupA (pe_fld (pv 0) rfl) po_none (po_some (pe_fld (pv 0) rfl))) pa_nil)))
              (pss_one (ps_fld (pv 0) (pe_slice sl_tupA (pe_fld (pv 0) rfl) (po_some (pe_fld (pv 0) rfl)) po_none) rfl)))))
            (pss_cons (ps_expr (C8.pe_mt (m_Machine_hand_on T) hr (by decide) (pv 0) (pa_cons (pe_fld (pv 0) rfl) pa_nil)))
            (pss_one (ps_fld (pv 0) (pe_tup pa_nil) rfl))))))))), ?_⟩
    have fl : ∀ {H1 : Hp} {dx : Addr} {fs : List (Str × V)} {f : Str} {v : V}, H1 m = some (.ins (He.ga K "Machine") dx fs) → NoAttr K (He.ga K "Machine") f → fs.lookup f = some v → Ev (tFld K (tVar 0) f) (L2.start sc_Machine_do_step_N [V.ref m, V.str (Stp.str sp)]) H1 v := fun a b c => ev_fld (ev_var rfl) a T.cM b c
    have F0 : ∀ {S : List Addr} {H1 : Hp}, Ex H H1 → Frm S H H1 := fun e => Frm.ex e
    cases sp with
    | stop => exact absurd rfl hn1
    | again => exact absurd rfl hn2
    | add =>
      refine s_yes (et_ev (ev_eq (ev_var rfl) ev_c rfl) (by decide +kernel)) fun H1 e1 => ?_
      refine s_fldW (ew_cat (fl (e1 _ _ h1) T.nM_carried mk_carried) (fl (e1 _ _ h1) T.nM_came mk_came) (e1 _ _ h3) (e1 _ _ h2) (by rw [List.length_map, List.length_map]; omega)) (ev_var rfl) (e1 _ _ h1) T.cM T.nM_carried mfl_len fun p H2 e2 hp => ?_
      rw [mp_carried]
      have e := e1.trans e2
      refine hQ _ (ex_put e h1 (by simp)) (mat_put (st.step n .add) (e _ _ h1) (h2.mono (S := []) (F0 e)) (show TI H2 p (st.rest ++ st.came) from by unfold TI; rw [List.map_append]; exact hp) (h4.mono (S := []) (F0 e)) rfl rfl rfl)
    | hand =>
      refine s_no (et_ev0 (ev_eq (ev_var rfl) ev_c rfl) (by decide +kernel)) fun H1 e1 => s_yes (et_ev (ev_eq (ev_var rfl) ev_c rfl) (by decide +kernel)) fun H2 e2 => ?_
      have e := e1.trans e2
      refine k_meth (ev_var rfl) (e _ _ h1) (mk_no (by decide +kernel)) (ea_cons (fl (e _ _ h1) T.nM_came mk_came) ea_nil) fun H3 e3 => ?_
      have e := e.trans e3
      exact ⟨m, l, n, st, _, st.came, rfl, hM.mono (S := []) (F0 e) (by simp), ⟨ca, rfl, h2.mono (S := []) (F0 e)⟩, by omega, fun H4 f4 M4 => hQ _ ((F0 e).trans f4) M4⟩
    | flush =>
      refine s_no (et_ev0 (ev_eq (ev_var rfl) ev_c rfl) (by decide +kernel)) fun H1 e1 => s_no (et_ev0 (ev_eq (ev_var rfl) ev_c rfl) (by decide +kernel)) fun H2 e2 => s_no (et_ev0 (ev_eq (ev_var rfl) ev_c rfl) (by decide +kernel)) fun H3 e3 => ?_
      have e := (e1.trans e2).trans e3
      refine k_meth (ev_var rfl) (e _ _ h1) (mk_no (by decide +kernel)) (ea_cons (fl (e _ _ h1) T.nM_carried mk_carried) ea_nil) fun H4 e4 => ?_
      have e := e.trans e4
      refine ⟨m, l, n, st, _, st.rest, rfl, hM.mono (S := []) (F0 e) (by simp), ⟨cr, rfl, h3.mono (S := []) (F0 e)⟩, by omega, fun H5 f5 M5 => ?_⟩
      obtain ⟨dy, ca5, cr5, hd5, g1, g2, g3, g4⟩ := M5.ex
      refine s_fldW (ew_u (eu_tup ea_nil (by decide))) (ev_var rfl) g1 T.cM T.nM_carried mfl_len fun p H6 e6 hp => ?_
      rw [mp_carried]
      exact hQ _ (((F0 e).trans f5).trans (ex_put e6 g1 (by simp))) (mat_put (st.step n .flush) (e6 _ _ g1) (g2.mono (S := []) (Frm.ex e6)) hp (g4.mono (S := []) (Frm.ex e6)) rfl rfl rfl)
    | cut =>
      refine s_no (et_ev0 (ev_eq (ev_var rfl) ev_c rfl) (by decide +kernel)) fun H1 e1 => s_no (et_ev0 (ev_eq (ev_var rfl) ev_c rfl) (by decide +kernel)) fun H2 e2 => s_yes (et_ev (ev_eq (ev_var rfl) ev_c rfl) (by decide +kernel)) fun H3 e3 => ?_
      have e := (e1.trans e2).trans e3
      refine s_while (fun j σ' H' => σ' = L2.start sc_Machine_do_step_N [V.ref m, V.str (Stp.str .cut)] ∧ Frm [m] H H' ∧ ∃ i, MAt (He.ga K "Machine") H' m l n (st.cutI n i) ∧ i * n ≤ st.rest.length ∧ j = st.rest.length - i * n) st.rest.length
        ⟨rfl, F0 e, 0, by rw [Mst.cutI0]; exact hM.mono (S := []) (F0 e) (by simp), by omega, by omega⟩ ?_
      rintro j σ' H' ⟨rfl, f, i, Mi, hi, rfl⟩
      obtain ⟨dy, ca', cr', hd', g1, g2, g3, g4⟩ := Mi.ex
      have hlen : (st.cutI n i).rest.length = st.rest.length - i * n := by show (st.rest.drop (i * n)).length = _; rw [List.length_drop]
      refine ⟨decide ((n : Int) ≤ ((((st.cutI n i).rest.map V.int).length : Nat) : Int)), et_test (ev_I0 (ev_lenT (fl g1 T.nM_carried mk_carried) (st_of g3)) (fl g1 T.nM_size mk_size)), fun hb H5 e5 => ?_, fun hb H5 e5 => ?_⟩
      · rw [List.length_map, hlen, decide_eq_true_eq] at hb
        have hi2 : (i + 1) * n ≤ st.rest.length := by rw [Nat.succ_mul]; omega
        refine ⟨fun σ2 H2 => σ2 = L2.start sc_Machine_do_step_N [V.ref m, V.str (Stp.str .cut)] ∧ Frm [m] H H2 ∧ MAt (He.ga K "Machine") H2 m l n (st.cutI n (i + 1)), ?_, ?_⟩
        · rintro σ2 H2 ⟨rfl, f2, M2⟩
          refine ⟨st.rest.length - (i + 1) * n, ?_, rfl, f2, i + 1, M2, hi2, rfl⟩
          rw [Nat.succ_mul] at hi2 ⊢
          omega
        · refine k_methW (ev_var rfl) (e5 _ _ g1) (mk_no (by decide +kernel)) (ew_sl (fl (e5 _ _ g1) T.nM_carried mk_carried) eo_none (eo_some (fl (e5 _ _ g1) T.nM_size mk_size)) (e5 _ _ g3)) fun p H6 e6 hp => ?_
          have e56 := e5.trans e6
          rw [cutV_to, ← List.map_take] at hp
          have hol : (st.cutI n i).out.length = st.out.length + i := by
            show (st.out ++ (List.range i).map _).length = _
            rw [List.length_append, List.length_map, List.length_range]
          have hin : i ≤ i * n := Nat.le_mul_of_pos_right _ hn
          refine ⟨m, l, n, st.cutI n i, _, _, rfl, Mi.mono (S := []) (Frm.ex e56) (by simp), ⟨p, rfl, hp⟩, by omega, fun H7 f7 M7 => ?_⟩
          obtain ⟨dz, ca7, cr7, hd7, k1, k2, k3, k4⟩ := M7.ex
          refine s_fldW (ew_sl (fl k1 T.nM_carried mk_carried) (eo_some (fl k1 T.nM_size mk_size)) eo_none k3) (ev_var rfl) k1 T.cM T.nM_carried mfl_len fun q H8 e8 hq => ?_
          rw [mp_carried]
          rw [cutV_from, ← List.map_drop] at hq
          refine ⟨rfl, ((f.trans (Frm.ex e56)).trans f7).trans (ex_put e8 k1 (by simp)), mat_put (st.cutI n (i + 1)) (e8 _ _ k1) (k2.mono (S := []) (Frm.ex e8)) (show TI H8 q (st.rest.drop ((i + 1) * n)) from by
            have : (st.cutI n i).rest.drop n = st.rest.drop ((i + 1) * n) := by show (st.rest.drop (i * n)).drop n = _; rw [List.drop_drop, Nat.succ_mul]
            rw [← this]; exact hq) (show PsT H8 hd7 (st.out ++ (List.range (i + 1)).map (fun k => (st.rest.drop (k * n)).take n)) from by
            have : st.out ++ (List.range (i + 1)).map (fun k => (st.rest.drop (k * n)).take n) = (st.cutI n i).out ++ [(st.cutI n i).rest.take n] := by
              rw [List.range_succ, List.map_append, ← List.append_assoc]; rfl
            rw [this]; exact k4.mono (S := []) (Frm.ex e8)) rfl rfl rfl⟩
      · rw [List.length_map, hlen, decide_eq_false_iff_not] at hb
        have ei : i = st.rest.length / n := by
          have h1 : st.rest.length < (i + 1) * n := by rw [Nat.succ_mul]; omega
          have := (Nat.div_eq_iff (by omega)).mpr ⟨hi, by omega⟩
          exact this.symm
        refine hQ _ (f.trans (Frm.ex e5)) ?_
        rw [← Mst.cutI_last, ← ei]
        exact Mi.mono (S := []) (Frm.ex e5) (by simp)
end
end LS
end
-- text W3
section
set_option maxHeartbeats 4000000
/-! Machine's step_of, do_words. -/
namespace LS
open PySem PySem.Spec PyProof.Rows L2 Evl
theorem rpart_wd : ∀ w : Wd, PySem.Txt.rpartition w.str ":" = (match w.t with | none => ("", "", w.s.str) | some t => (t.str, ":", w.s.str)) := by
  rintro ⟨t, s⟩
  rcases t with _ | t
  · cases s <;> decide +kernel
  · cases t <;> cases s <;> decide +kernel
theorem wd_len : ∀ w : Wd, 2 ≤ w.str.length ∧ w.str.length ≤ 20 := by
  rintro ⟨t, s⟩
  rcases t with _ | t
  · cases s <;> decide +kernel
  · cases t <;> cases s <;> decide +kernel
theorem tst_ne : ∀ t : Tst, decide (V.str t.str = V.str "") = false := by intro t; cases t <;> decide +kernel
theorem et_or1 {t u : TT} {σ : L2.St} {H : Hp} (h1 : EvT t σ H true) : EvT (tOr t u) σ H true := et_or (b := true) h1 fun z => by cases z
theorem et_or0 {t u : TT} {σ : L2.St} {H : Hp} {b : Bool} (h1 : EvT t σ H false) (h2 : EvT u σ H b) : EvT (tOr t u) σ H b := et_or h1 fun _ => h2
theorem q_forT' {K : PySem.W.Frag} {σ : L2.St} {H : Hp} {tu tz : TS} {D : Ends} {g : TG} {a : Addr} {xs : List V} {tl : TE} (h : Ev tl σ H (.ref a)) (hx : SqT K H a xs) (Pv : Nat → L2.St → Hp → Prop) (h0 : ∀ H1, Ex H H1 → Pv 0 σ H1) (hl : ∀ i σ' H', i ≤ xs.length → Pv i σ' H' → SqT K H' a xs)
    (hs : ∀ i x σ' H', xs[i]? = some x → Pv i σ' H' → g x σ' H' fun σ2 H2 => tu { D with nx := Pv (i + 1), ct := Pv (i + 1), bk := tz D } σ2 H2) (hd : ∀ σ' H', Pv xs.length σ' H' → tz D σ' H') : tSeq (tFor (iTup K tl) g tu) tz D σ H := s_forT (D := { D with nx := tz D }) h hx Pv h0 hl hs hd
abbrev sc_Machine_step_of_N : List Str := ["self", "word", "test", "colon", "step"]
theorem sc_Machine_step_of : FnScope sc_Machine_step_of_N ["self", "word"] (defScope (inClass (top 21) 5)) := ⟨rfl, rfl, rfl, by decide +kernel, rfl, by decide +kernel, by decide +kernel⟩
def sp_step_of (K : PySem.W.Frag) : Sp := fun vs H Q _ => ∃ m l n st w, vs = [.ref m, Wd.v w] ∧ MAt (He.ga K "Machine") H m l n st ∧ SpRet (.str (soStr (st.stepOf n w))) H Q
section
variable {P : Program} {w : World} {K : PySem.W.Frag} {mg : Str → Option Value} {base : Heap}
theorem m_Machine_step_of (T : Tx K mg) : C8.Met P w K mg base 2 (He.ga K "Machine") "step_of" (sp_step_of K) [] := by
  refine mkMet T.dM_step_of T.cM T.mM_step_of sc_Machine_step_of (fun _ _ _ _ _ _ us hl => match us, hl with | [_, _], _ => rfl) (fun vs H Q E h => ?_) (fun cdv A outer s H vs Q E hr h => ?_)
  · obtain ⟨m, l, n, st, w, rfl, _⟩ := h
    rfl
  · obtain ⟨m, l, n, st, wd, rfl, hM, hQ⟩ := h
    refine ⟨_, (pss_cons (ps_asg (pe_rpart (pv 1) pe_str) (pg_tup rfl (pgs_cons (pg_name (i := 2) sc_Machine_step_of.nd rfl (Or.inl rfl)) (pgs_cons (pg_name (i := 3) sc_Machine_step_of.nd rfl (Or.inl rfl)) (pgs_cons (pg_name (i := 4) sc_Machine_step_of.nd rfl (Or.inl rfl)) pgs_nil)))))
      (pss_one (ps_ret (pe_ifExp (PW.pt (pw_or (pt_cmpR op_eq (pv 2) pe_str (nomark _)) (pw_or1 (pt_val (C8.pe_mt (m_Machine_passes T) hr (by decide) (pv 0) (pa_cons (pv 2) pa_nil)))))) (pv 4) pe_str)))), ?_⟩
    refine ⟨_, rfl, ⟨_, rfl⟩, _, _, rfl, rfl, by decide +kernel, sz_of (Nat.le_trans (wd_len wd).2 (by decide)), fun p hp => ?_⟩
    rw [rpart_wd]
    have e0 : Ex H (upd H p (.tup [.str (match wd.t with | none => (("", "", wd.s.str) : Str × Str × Str) | some t => (t.str, ":", wd.s.str)).1, .str (match wd.t with | none => (("", "", wd.s.str) : Str × Str × Str) | some t => (t.str, ":", wd.s.str)).2.1, .str (match wd.t with | none => (("", "", wd.s.str) : Str × Str × Str) | some t => (t.str, ":", wd.s.str)).2.2])) := Ex.new hp
    refine ⟨p, _, rfl, st_of upd_same, rfl, _, _, rfl, _, _, rfl, _, _, rfl, rfl, ?_⟩
    have hM1 := hM.mono (S := []) (Frm.ex e0) (by simp)
    revert e0 hM1
    generalize upd H p _ = H0
    intro e0 hM1
    obtain ⟨dx, ca, cr, hd, h1, h2, h3, h4⟩ := hM1.ex
    obtain ⟨t, s⟩ := wd
    cases t with
    | none => exact s_ret (ev_if (b := true) (et_or1 (et_ev (ev_eq (ev_var rfl) ev_c rfl) (show decide (V.str "" = V.str "") = true from by decide +kernel))) (fun _ => ev_var rfl) (fun z => by cases z)) fun H1 e1 => hQ H1 (e0.trans e1)
    | some t =>
      refine s_ret (v := .str (soStr (st.stepOf n ⟨some t, s⟩))) (ev_if (b := st.passes n t) (et_or0 (et_ev0 (ev_eq (ev_var rfl) ev_c rfl) (tst_ne t)) (et_B (ev_meth (ev_var rfl) h1 (mk_no (by decide +kernel)) (ea_cons (ev_var rfl) ea_nil)
        (spV_of fun H1 e1 Q E q => ⟨m, l, n, st, t, rfl, hM1.mono (S := []) (Frm.ex e1) (by simp), q⟩)))) (fun hb => ?_) (fun hb => ?_)) fun H1 e1 => hQ H1 (e0.trans e1)
      · have : st.stepOf n ⟨some t, s⟩ = some s := if_pos hb
        rw [this]
        exact ev_var rfl
      · have : st.stepOf n ⟨some t, s⟩ = none := if_neg (by rw [hb]; exact Bool.false_ne_true)
        rw [this]
        exact ev_c
end
theorem doWords_cons (n : Nat) (w : Wd) (ws : List Wd) (m : Mst) : Mst.doWords n (w :: ws) m = (match m.stepOf n w with
    | none => Mst.doWords n ws m
    | some .stop => (m, some true)
    | some .again => (m, some false)
    | some .add => Mst.doWords n ws (m.step n .add)
    | some .hand => Mst.doWords n ws (m.step n .hand)
    | some .cut => Mst.doWords n ws (m.step n .cut)
    | some .flush => Mst.doWords n ws (m.step n .flush)) := rfl
abbrev sc_Machine_do_words_N : List Str := ["self", "words", "word", "step"]
theorem sc_Machine_do_words : FnScope sc_Machine_do_words_N ["self", "words"] (defScope (inClass (top 21) 6)) := ⟨rfl, rfl, rfl, by decide +kernel, rfl, by decide +kernel, by decide +kernel⟩
def sp_do_words (K : PySem.W.Frag) : Sp := fun vs H Q _ => ∃ m l n st a ws, vs = [.ref m, .ref a] ∧ H a = some (.tup (ws.map Wd.v)) ∧ MAt (He.ga K "Machine") H m l n st ∧ 1 ≤ n ∧ st.sz + (ws.length + 1) * (st.came.length + 1) < 50000 ∧
  ∀ H', Frm [m] H H' → MAt (He.ga K "Machine") H' m l n (Mst.doWords n ws st).1 → Q (.str (lvStr (Mst.doWords n ws st).2)) H'
section
variable {P : Program} {w : World} {K : PySem.W.Frag} {mg : Str → Option Value} {base : Heap}
theorem m_Machine_do_words (T : Tx K mg) : C8.Met P w K mg base 3 (He.ga K "Machine") "do_words" (sp_do_words K) [] := by
  refine mkMet T.dM_do_words T.cM T.mM_do_words sc_Machine_do_words (fun _ _ _ _ _ _ us hl => match us, hl with | [_, _], _ => rfl) (fun vs H Q E h => ?_) (fun cdv A outer s H vs Q E hr h => ?_)
  · obtain ⟨m, l, n, st, a, ws, rfl, _⟩ := h
    rfl
  · obtain ⟨m, l, n, st, a, ws, rfl, ha, hM, hn, hz, hQ⟩ := h
    refine ⟨_, (pss_cons (ps_for PassesOwn.never rfl (pi_tup (pv 1)) (pg_name (i := 2) sc_Machine_do_words.nd rfl (Or.inl rfl))
        (pss_cons (ps_set (i := 3) sc_Machine_do_words.nd rfl (Or.inl rfl) (C8.pe_mt (m_Machine_step_of T) hr (by decide) (pv 0) (pa_cons (pv 2) pa_nil)))
        (pss_cons (ps_if (pt_cmpR op_in_seq (pv 3) (pe_tup (pa_cons pe_str (pa_cons pe_str pa_nil))) (by rfl))
          (pss_one (ps_ret (pv 3)))
          pss_nil)
        (pss_one (ps_if (pt_cmpR op_ne (pv 3) pe_str (nomark _))
          (pss_one (ps_expr (C8.pe_mt (m_Machine_do_step T) hr (by decide) (pv 0) (pa_cons (pv 3) pa_nil))))
          pss_nil)))))
      (pss_one (ps_ret pe_str))), ?_⟩
    refine q_forT' (xs := ws.map Wd.v) (ev_var rfl) (st_of ha) (fun i σ' H' => (∃ v2 v3, σ' = [some (.ref m), some (.ref a), v2, v3]) ∧ Frm [m] H H' ∧ ∃ st', MAt (He.ga K "Machine") H' m l n st' ∧ Mst.doWords n (ws.drop i) st' = Mst.doWords n ws st ∧ st'.came = st.came ∧ st'.sz ≤ st.sz + i * (st.came.length + 1))
      (fun H1 e1 => ⟨⟨none, none, rfl⟩, Frm.ex e1, st, hM.mono (S := []) (Frm.ex e1) (by simp), rfl, rfl, by omega⟩) (fun i σ' H' _ p => st_of (p.2.1.tup _ _ ha)) ?_ ?_
    · rintro i x σ' H' hx ⟨⟨v2, v3, rfl⟩, f, st', M, hd, hc, hs⟩
      rw [List.getElem?_map] at hx
      obtain ⟨wd, hwd, rfl⟩ := Option.map_eq_some_iff.mp hx
      have hil : i < ws.length := (List.getElem?_eq_some_iff.mp hwd).1
      have hcons : ws.drop i = wd :: ws.drop (i + 1) := by
        rw [List.drop_eq_getElem_cons hil, (List.getElem?_eq_some_iff.mp hwd).2]
      rw [hcons] at hd
      have hb1 : (i + 1) * (st.came.length + 1) ≤ ws.length * (st.came.length + 1) := Nat.mul_le_mul_right _ hil
      rw [Nat.succ_mul] at hb1 hz
      obtain ⟨dx, ca, cr, hd', h1, h2, h3, h4⟩ := M.ex
      show tSeq _ _ _ [some (.ref m), some (.ref a), some (Wd.v wd), v3] H'
      refine q_asg (v := .str (soStr (st'.stepOf n wd))) (ev_meth (ev_var rfl) h1 (mk_no (by decide +kernel)) (ea_cons (ev_var rfl) ea_nil) (spV_of fun H1 e1 Q E q => ⟨m, l, n, st', wd, rfl, M.mono (S := []) (Frm.ex e1) (by simp), q⟩)) fun H1 e1 => ?_
      show tSeq _ _ _ [some (.ref m), some (.ref a), some (Wd.v wd), some (.str (soStr (st'.stepOf n wd)))] H1
      rw [doWords_cons] at hd
      have stepG : ∀ s : Stp, s ≠ .stop → s ≠ .again → st'.stepOf n wd = some s → Mst.doWords n (ws.drop (i + 1)) (st'.step n s) = Mst.doWords n ws st → inV (.str s.str) [.str "stop", .str "again"] = false → (!decide (V.str s.str = .str "")) = true →
          tSeq (tIfS (tTest (tOp (rIn K false) (tVar 3) (tTup (tCons (tC (V.str "stop")) (tCons (tC (V.str "again")) tNil))))) (tRet (tVar 3)) tNext) (tIfS (tTest (tOp rNe (tVar 3) (tC (V.str "")))) (tDrop (tMeth (He.ga K "Machine") "do_step" (sp_do_step K) [] E0 (tVar 0) (tCons (tVar 3) tNil))) tNext)
            { nx := fun σ' H' => (∃ v2 v3, σ' = [some (.ref m), some (.ref a), v2, v3]) ∧ Frm [m] H H' ∧ ∃ st', MAt (He.ga K "Machine") H' m l n st' ∧ Mst.doWords n (ws.drop (i + 1)) st' = Mst.doWords n ws st ∧ st'.came = st.came ∧ st'.sz ≤ st.sz + (i + 1) * (st.came.length + 1), rt := Q,
              bk := fun σ' H' => tRet (tC (V.str "")) { nx := fun _ H' => Q .non H', rt := Q } σ' H', ct := fun σ' H' => (∃ v2 v3, σ' = [some (.ref m), some (.ref a), v2, v3]) ∧ Frm [m] H H' ∧ ∃ st', MAt (He.ga K "Machine") H' m l n st' ∧ Mst.doWords n (ws.drop (i + 1)) st' = Mst.doWords n ws st ∧ st'.came = st.came ∧ st'.sz ≤ st.sz + (i + 1) * (st.came.length + 1) }
            [some (.ref m), some (.ref a), some (Wd.v wd), some (.str (soStr (st'.stepOf n wd)))] H1 := by
        intro s hs1 hs2 es hds i1 i2
        rw [es]
        refine q_no (et_ev0 (ev_inU2 (ev_var rfl) (ea_cons ev_c (ea_cons ev_c ea_nil)) (by show 2 ≤ 100000; decide) rfl rfl) i1) fun H2 e2 => s_yes (et_ev (ev_ne (ev_var rfl) ev_c rfl) i2) fun H3 e3 => ?_
        have e := (e1.trans e2).trans e3
        refine k_meth (ev_var rfl) (e _ _ h1) (mk_no (by decide +kernel)) (ea_cons (ev_var rfl) ea_nil) fun H4 e4 => ?_
        have e := e.trans e4
        obtain ⟨z1, z2, _⟩ := Mst.sz_step n hn st' s
        refine ⟨m, l, n, st', s, rfl, hs1, hs2, M.mono (S := []) (Frm.ex e) (by simp), hn, by rw [hc]; omega, fun H5 f5 M5 => ?_⟩
        refine ⟨⟨_, _, rfl⟩, (f.trans (Frm.ex e)).trans f5, _, M5, hds, z2.trans hc, ?_⟩
        rw [Nat.succ_mul]
        rw [hc] at z1
        omega
      cases es : st'.stepOf n wd with
      | none =>
        rw [es] at hd
        refine q_no (et_ev0 (ev_inU2 (ev_var rfl) (ea_cons ev_c (ea_cons ev_c ea_nil)) (by show 2 ≤ 100000; decide) rfl rfl) (by decide +kernel)) fun H2 e2 => s_no (et_ev0 (ev_ne (ev_var rfl) ev_c rfl) (by decide +kernel)) fun H3 e3 => ?_
        have e := (e1.trans e2).trans e3
        exact ⟨⟨_, _, rfl⟩, f.trans (Frm.ex e), st', M.mono (S := []) (Frm.ex e) (by simp), hd, hc, by rw [Nat.succ_mul]; omega⟩
      | some s =>
        rw [es] at hd
        cases s with
        | stop =>
          refine q_yes (et_ev (ev_inU2 (ev_var rfl) (ea_cons ev_c (ea_cons ev_c ea_nil)) (by show 2 ≤ 100000; decide) rfl rfl) (by decide +kernel)) fun H2 e2 => s_ret (ev_var rfl) fun H3 e3 => ?_
          have e := (e1.trans e2).trans e3
          have q := hQ H3 (f.trans (Frm.ex e)) (by rw [← hd]; exact M.mono (S := []) (Frm.ex e) (by simp))
          rw [← hd] at q
          exact q
        | again =>
          refine q_yes (et_ev (ev_inU2 (ev_var rfl) (ea_cons ev_c (ea_cons ev_c ea_nil)) (by show 2 ≤ 100000; decide) rfl rfl) (by decide +kernel)) fun H2 e2 => s_ret (ev_var rfl) fun H3 e3 => ?_
          have e := (e1.trans e2).trans e3
          have q := hQ H3 (f.trans (Frm.ex e)) (by rw [← hd]; exact M.mono (S := []) (Frm.ex e) (by simp))
          rw [← hd] at q
          exact q
        | add => have z := stepG .add (by simp) (by simp) es hd (by decide +kernel) (by decide +kernel); rw [es] at z; exact z
        | hand => have z := stepG .hand (by simp) (by simp) es hd (by decide +kernel) (by decide +kernel); rw [es] at z; exact z
        | cut => have z := stepG .cut (by simp) (by simp) es hd (by decide +kernel) (by decide +kernel); rw [es] at z; exact z
        | flush => have z := stepG .flush (by simp) (by simp) es hd (by decide +kernel) (by decide +kernel); rw [es] at z; exact z
    · rintro σ' H' ⟨⟨v2, v3, rfl⟩, f, st', M, hd, hc, hs⟩
      rw [List.length_map, List.drop_length] at hd
      refine s_ret ev_c fun H1 e1 => ?_
      have q := hQ H1 (f.trans (Frm.ex e1)) (by rw [← hd]; exact M.mono (S := []) (Frm.ex e1) (by simp))
      rw [← hd] at q
      exact q
end
end LS
end
-- text W4
section
set_option maxHeartbeats 4000000
/-! Machine's feed, copy, __init__. -/
namespace LS
open PySem PySem.Spec PyProof.Rows L2 Evl
abbrev sc_Machine_feed_N : List Str := ["self", "count", "told"]
theorem sc_Machine_feed : FnScope sc_Machine_feed_N ["self", "count", "told"] (defScope (inClass (top 21) 7)) := ⟨rfl, rfl, rfl, by decide +kernel, rfl, by decide +kernel, by decide +kernel⟩
def sp_Mfeed (K : PySem.W.Frag) : Sp := fun vs H Q _ => ∃ m l n st tx ws es, ∃ c : Nat, ∃ t, vs = [.ref m, .int c, .bl t] ∧ MAt (He.ga K "Machine") H m l n st ∧ LAt (He.ga K "Loop") H l tx ws es ∧ 1 ≤ n ∧ 0 ≤ st.got ∧ st.got + c < 100000 ∧ st.sz + (ws.length + es.length + 2) * (c + 1) < 50000 ∧
  ∀ H', Frm [m] H H' → MAt (He.ga K "Machine") H' m l n (st.fed n ws es c t) → Q .non H'
section
variable {P : Program} {w : World} {K : PySem.W.Frag} {mg : Str → Option Value} {base : Heap}
theorem m_Machine_feed (T : Tx K mg) : C8.Met P w K mg base 4 (He.ga K "Machine") "feed" (sp_Mfeed K) [] := by
  refine mkMet T.dM_feed T.cM T.mM_feed sc_Machine_feed (fun _ _ _ _ _ _ us hl => match us, hl with | [_, _, _], _ => rfl) (fun vs H Q E h => ?_) (fun cdv A outer s H vs Q E hr h => ?_)
  · obtain ⟨m, l, n, st, tx, ws, es, c, t, rfl, _⟩ := h
    rfl
  · obtain ⟨m, l, n, st, tx, ws, es, c, t, rfl, hM, hL, hn, hg0, hg1, hz, hQ⟩ := h
    obtain ⟨dx, ca, cr, hd, h1, h2, h3, h4⟩ := hM.ex
    have hlm := ne_ML hM hL
    refine ⟨_, (pss_cons (ps_fld (pv 0) (pe_tupRg rfl (by rfl) T.f_tuple (prg_2 (by rfl) T.f_range (pe_fld (pv 0) rfl) (pe_op op_add (pe_fld (pv 0) rfl) (pv 1)))) rfl)
      (pss_cons (ps_fldaug (pv 0) (pv 1) in_add)
      (pss_cons (ps_fld (pv 0) (pv 2) rfl)
      (pss_one (ps_if (pt_cmpR op_eq (C8.pe_mt (m_Machine_do_words T) hr (by decide) (pv 0) (pa_cons (pe_slice sl_tupA (pe_fld (pe_fld (pv 0) rfl) rfl) (po_some pe_int) po_none) pa_nil)) pe_str (nomark _))
        (pss_cons (ps_expr (C8.pe_mt (m_Machine_do_words T) hr (by decide) (pv 0) (pa_cons (pe_fld (pe_fld (pv 0) rfl) rfl) pa_nil)))
        (pss_one (ps_fld (pv 0) pe_bl rfl)))
        pss_nil))))), ?_⟩
    refine q_fldW (ew_u (eu_tupRg (ev_fld (ev_var rfl) h1 T.cM T.nM_got mk_got) (ev_I0 (ev_fld (ev_var rfl) h1 T.cM T.nM_got mk_got) (ev_var rfl)) (RgOk.of_le hg0 (by omega) (by omega) (by omega)))) (ev_var rfl) h1 T.cM T.nM_came mfl_len fun p H1 e1 hp => ?_
    rw [mp_came]
    rw [rgV_irg] at hp
    refine q_fldAug (ev_var rfl) upd_same T.cM T.nM_got mk_got (ev_var rfl) mfl_len fun H2 e2 => ?_
    rw [mp_got]
    refine q_fld (ev_var rfl) (ev_var rfl) upd_same T.cM T.nM_said mfl_len fun H3 e3 => ?_
    rw [mp_said]
    generalize est : ({ st with came := Mst.irg st.got c, got := st.got + c, said := t } : Mst) = st1
    have Fa : Frm [m] H (upd H3 m (.ins (He.ga K "Machine") dx (mfl l n p cr t (st.got + c) hd st.over))) :=
      ((ex_put e1 h1 (by simp)).trans (ex_put e2 upd_same (by simp))).trans (ex_put e3 upd_same (by simp))
    have hM3 : MAt (He.ga K "Machine") (upd H3 m (.ins (He.ga K "Machine") dx (mfl l n p cr t (st.got + c) hd st.over))) m l n st1 := by
      subst est
      have Fp : Frm [m] H1 (upd H3 m (.ins (He.ga K "Machine") dx (mfl l n p cr t (st.got + c) hd st.over))) := ((ex_put (Ex.refl H1) (e1 _ _ h1) (by simp)).trans (ex_put e2 upd_same (by simp))).trans (ex_put e3 upd_same (by simp))
      exact ⟨dx, p, cr, hd, upd_same, Fp.tup _ _ hp, h3.mono Fa, h4.mono Fa⟩
    revert Fa hM3
    generalize upd H3 m _ = H4
    intro Fa M4
    have L4 := hL.mono Fa (by simpa using hlm)
    obtain ⟨dz, ca4, cr4, hd4, g1, g2, g3, g4⟩ := M4.ex
    obtain ⟨dl, r, e, k1, k2, k3⟩ := L4.ex
    have sz1 : st1.sz = st.sz := by subst est; rfl
    have cm1 : st1.came.length = c := by subst est; exact Mst.irg_len _ _
    have bd : (ws.length + es.length + 2) * (c + 1) = ws.length * (c + 1) + es.length * (c + 1) + 2 * (c + 1) := by rw [Nat.add_mul, Nat.add_mul]
    have bw : (ws.length + 1) * (c + 1) = ws.length * (c + 1) + (c + 1) := Nat.succ_mul _ _
    have be : (es.length + 1) * (c + 1) = es.length * (c + 1) + (c + 1) := Nat.succ_mul _ _
    refine k_methW (ev_var rfl) g1 (mk_no (by decide +kernel)) (ew_sl (lo := some 1) (ev_fld (ev_fld (ev_var rfl) g1 T.cM T.nM_loop mk_loop) k1 T.cP T.nP_round pk_round) (eo_some ev_c) eo_none k2) fun q H5 e5 hq => ?_
    rw [show (some (1 : Int)) = some ((1 : Nat) : Int) from rfl, cutV_from] at hq
    refine ⟨m, l, n, st1, q, ws, rfl, hq, M4.mono (S := []) (Frm.ex e5) (by simp), hn, by rw [sz1, cm1]; omega, fun H6 f6 M6 => ?_⟩
    have Fb : Frm [m] H H6 := (Fa.trans (Frm.ex e5)).trans f6
    have L6 := L4.mono ((Frm.ex e5).trans f6) (by simpa using hlm)
    obtain ⟨i1, i2, i3, _, _⟩ := Mst.sz_words n hn ws st1
    have efed : st.fed n ws es c t = (match (Mst.doWords n ws st1).2 with | some true => { (Mst.doWords n es (Mst.doWords n ws st1).1).1 with over := true } | _ => (Mst.doWords n ws st1).1) := by subst est; rfl
    refine ⟨rfl, _, rfl, ?_⟩
    cases er : (Mst.doWords n ws st1).2 with
    | none =>
      rw [show decide (V.str (lvStr none) = V.str "stop") = false from by decide +kernel]
      refine iteF ?_
      rw [er] at efed
      exact hQ H6 Fb (by rw [efed]; exact M6)
    | some b =>
      cases b with
      | false =>
        rw [show decide (V.str (lvStr (some false)) = V.str "stop") = false from by decide +kernel]
        refine iteF ?_
        rw [er] at efed
        exact hQ H6 Fb (by rw [efed]; exact M6)
      | true =>
        rw [show decide (V.str (lvStr (some true)) = V.str "stop") = true from by decide +kernel]
        refine iteT ?_
        rw [er] at efed
        obtain ⟨dz6, ca6, cr6, hd6, p1, p2, p3, p4⟩ := M6.ex
        obtain ⟨dl6, r6, e6', l1, l2, l3⟩ := L6.ex
        refine k_meth (ev_var rfl) p1 (mk_no (by decide +kernel)) (ea_cons (ev_fld (ev_fld (ev_var rfl) p1 T.cM T.nM_loop mk_loop) l1 T.cP T.nP_ending pk_ending) ea_nil) fun H7 e7 => ?_
        refine ⟨m, l, n, _, e6', es, rfl, e7 _ _ l3, M6.mono (S := []) (Frm.ex e7) (by simp), hn, by rw [i2, cm1]; rw [cm1, sz1] at i1; omega, fun H8 f8 M8 => ?_⟩
        obtain ⟨dz8, ca8, cr8, hd8, q1, q2, q3, q4⟩ := M8.ex
        refine s_fld ev_c (ev_var rfl) q1 T.cM T.nM_over mfl_len fun H9 e9 => ?_
        rw [mp_over]
        refine hQ _ (((Fb.trans (Frm.ex e7)).trans f8).trans (ex_put e9 q1 (by simp))) ?_
        rw [efed]
        exact mat_put _ (e9 _ _ q1) (q2.mono (S := []) (Frm.ex e9)) (q3.mono (S := []) (Frm.ex e9)) (q4.mono (S := []) (Frm.ex e9)) rfl rfl rfl
end
abbrev sc_Machine_init_N : List Str := ["self", "loop", "size"]
theorem sc_Machine_init : FnScope sc_Machine_init_N ["self", "loop", "size"] (defScope (inClass (top 21) 0)) := ⟨rfl, rfl, rfl, by decide +kernel, rfl, by decide +kernel, by decide +kernel⟩
def sp_Minit (K : PySem.W.Frag) : Sp := fun vs H Q _ => ∃ x dx l, ∃ n : Nat, vs = [.ref x, .ref l, .int n] ∧ H x = some (.ins (He.ga K "Machine") dx []) ∧ ∀ H', Frm [x] H H' → MAt (He.ga K "Machine") H' x l n Mst.start → Q .non H'
section
variable {P : Program} {w : World} {K : PySem.W.Frag} {mg : Str → Option Value} {base : Heap}
theorem mfl_mk {l : Addr} {n : Nat} {ca cr hd : Addr} : putF "over" (.bl false) (putF "handed" (.ref hd) (putF "got" (.int 0) (putF "said" (.bl false) (putF "carried" (.ref cr) (putF "came" (.ref ca) (putF "size" (.int n) (putF "loop" (.ref l) []))))))) = mfl l n ca cr false 0 hd false := by
  kernel_rfl
theorem k_Machine (T : Tx K mg) : C8.Mak P w K mg base 1 "Machine" (He.ga K "Machine") (sp_Minit K) [] := by
  refine mkMak T.dM_init T.mkM T.g_Machine sc_Machine_init (fun _ _ _ _ _ _ us hl => match us, hl with | [_, _, _], _ => rfl) (fun vs H Q E h => ?_) (fun cdv A outer s H vs Q E hr h => ?_)
  · obtain ⟨x, dx, l, n, rfl, _⟩ := h
    rfl
  · obtain ⟨x, dx, l, n, rfl, hx, hQ⟩ := h
    refine ⟨_, (pss_cons (ps_fld (pv 0) (pv 1) rfl)
      (pss_cons (ps_fld (pv 0) (pv 2) rfl)
      (pss_cons (ps_fld (pv 0) (pe_tup pa_nil) rfl)
      (pss_cons (ps_fld (pv 0) (pe_tup pa_nil) rfl)
      (pss_cons (ps_fld (pv 0) pe_bl rfl)
      (pss_cons (ps_fld (pv 0) pe_int rfl)
      (pss_cons (ps_fld (pv 0) (pe_tup pa_nil) rfl)
      (pss_one (ps_fld (pv 0) pe_bl rfl))))))))), ?_⟩
    refine x_fld (ev_var rfl) (ev_var rfl) hx T.cM T.nM_loop (lt1000 pl0) fun H1 f1 g1 => x_fld (ev_var rfl) (ev_var rfl) g1 T.cM T.nM_size (lt1000 (pls pl0)) fun H2 f2 g2 => ?_
    refine x_fldW (ew_u (eu_tup ea_nil (by decide))) (ev_var rfl) g2 T.cM T.nM_came (lt1000 (pls (pls pl0))) fun p H3 f3 hp g3 => x_fldW (ew_u (eu_tup ea_nil (by decide))) (ev_var rfl) g3 T.cM T.nM_carried (lt1000 (pls (pls (pls pl0)))) fun q H4 f4 hq g4 => ?_
    refine x_fld ev_c (ev_var rfl) g4 T.cM T.nM_said (lt1000 (pls (pls (pls (pls pl0))))) fun H5 f5 g5 => x_fld ev_c (ev_var rfl) g5 T.cM T.nM_got (lt1000 (pls (pls (pls (pls (pls pl0)))))) fun H6 f6 g6 => ?_
    refine x_fldW (ew_u (eu_tup ea_nil (by decide))) (ev_var rfl) g6 T.cM T.nM_handed (lt1000 (pls (pls (pls (pls (pls (pls pl0))))))) fun r H7 f7 hr g7 => y_fld ev_c (ev_var rfl) g7 T.cM T.nM_over (lt1000 (pls (pls (pls (pls (pls (pls (pls pl0)))))))) fun H8 f8 g8 => ?_
    rw [mfl_mk] at g8
    have f58 := ((f5.trans f6).trans f7).trans f8
    exact hQ H8 ((((f1.trans f2).trans f3).trans f4).trans f58) ⟨dx, p, q, r, g8, (f4.trans f58).tup _ _ hp, f58.tup _ _ hq, ⟨[], f8.tup _ _ hr, .nil⟩⟩
end
abbrev sc_Machine_copy_N : List Str := ["self", "other"]
theorem sc_Machine_copy : FnScope sc_Machine_copy_N ["self"] (defScope (inClass (top 21) 1)) := ⟨rfl, rfl, rfl, by decide +kernel, rfl, by decide +kernel, by decide +kernel⟩
def sp_copy (K : PySem.W.Frag) : Sp := fun vs H Q _ => ∃ m l n st, vs = [.ref m] ∧ MAt (He.ga K "Machine") H m l n st ∧ ∀ p H', H p = none → Ex H H' → MAt (He.ga K "Machine") H' p l n st → Q (.ref p) H'
section
variable {P : Program} {w : World} {K : PySem.W.Frag} {mg : Str → Option Value} {base : Heap}
theorem m_Machine_copy (T : Tx K mg) : C8.Met P w K mg base 3 (He.ga K "Machine") "copy" (sp_copy K) [] := by
  refine mkMet T.dM_copy T.cM T.mM_copy sc_Machine_copy (fun _ _ _ _ _ _ us hl => match us, hl with | [_], _ => rfl) (fun vs H Q E h => ?_) (fun cdv A outer s H vs Q E hr h => ?_)
  · obtain ⟨m, l, n, st, rfl, _⟩ := h
    rfl
  · obtain ⟨m, l, n, st, rfl, hM, hQ⟩ := h
    obtain ⟨dx, ca, cr, hd, h1, h2, h3, h4⟩ := hM.ex
    refine ⟨_, (pss_cons (ps_set (i := 1) sc_Machine_copy.nd rfl (Or.inl rfl) (C8.pe_mk (k_Machine T) hr (by decide) rfl (pa_cons (pe_fld (pv 0) rfl) (pa_cons (pe_fld (pv 0) rfl) pa_nil))))
      (pss_cons (ps_fld (pv 1) (pe_fld (pv 0) rfl) rfl)
      (pss_cons (ps_fld (pv 1) (pe_fld (pv 0) rfl) rfl)
      (pss_cons (ps_fld (pv 1) (pe_fld (pv 0) rfl) rfl)
      (pss_cons (ps_fld (pv 1) (pe_fld (pv 0) rfl) rfl)
      (pss_cons (ps_fld (pv 1) (pe_fld (pv 0) rfl) rfl)
      (pss_cons (ps_fld (pv 1) (pe_fld (pv 0) rfl) rfl)
      (pss_one (ps_ret (pv 1)))))))))), ?_⟩
    refine q_setV (k_make (ea_cons (ev_fld (ev_var rfl) h1 T.cM T.nM_loop mk_loop) (ea_cons (ev_fld (ev_var rfl) h1 T.cM T.nM_size mk_size) ea_nil)) fun x dy H1 nx e1 hx => ⟨x, dy, l, n, rfl, hx, fun H2 f2 M2 => ⟨rfl, ?_⟩⟩)
    obtain ⟨dz, ca2, cr2, hd2, g1, g2, g3, g4⟩ := M2.ex
    have e2 := ex_frm e1 f2 nx
    have mx : m ∉ [x] := by simpa using ne_of_none h1 nx
    refine x_fld (ev_fld (ev_var rfl) (e2 _ _ h1) T.cM T.nM_came mk_came) (ev_var rfl) g1 T.cM T.nM_came mfl_len fun H3 f3 q3 => ?_
    rw [mp_came] at q3
    refine x_fld (ev_fld (ev_var rfl) (f3.keep _ _ (e2 _ _ h1) mx) T.cM T.nM_carried mk_carried) (ev_var rfl) q3 T.cM T.nM_carried mfl_len fun H4 f4 q4 => ?_
    rw [mp_carried] at q4
    have f34 := f3.trans f4
    refine x_fld (ev_fld (ev_var rfl) (f34.keep _ _ (e2 _ _ h1) mx) T.cM T.nM_said mk_said) (ev_var rfl) q4 T.cM T.nM_said mfl_len fun H5 f5 q5 => ?_
    rw [mp_said] at q5
    have f35 := f34.trans f5
    refine x_fld (ev_fld (ev_var rfl) (f35.keep _ _ (e2 _ _ h1) mx) T.cM T.nM_got mk_got) (ev_var rfl) q5 T.cM T.nM_got mfl_len fun H6 f6 q6 => ?_
    rw [mp_got] at q6
    have f36 := f35.trans f6
    refine x_fld (ev_fld (ev_var rfl) (f36.keep _ _ (e2 _ _ h1) mx) T.cM T.nM_handed mk_handed) (ev_var rfl) q6 T.cM T.nM_handed mfl_len fun H7 f7 q7 => ?_
    rw [mp_handed] at q7
    have f37 := f36.trans f7
    refine x_fld (ev_fld (ev_var rfl) (f37.keep _ _ (e2 _ _ h1) mx) T.cM T.nM_over mk_over) (ev_var rfl) q7 T.cM T.nM_over mfl_len fun H8 f8 q8 => ?_
    rw [mp_over] at q8
    have f38 := f37.trans f8
    refine s_ret (ev_var rfl) fun H9 e9 => ?_
    have e8 : Ex H H8 := ex_frm e2 f38 nx
    have e09 := e8.trans e9
    exact hQ x H9 nx e09 ⟨dz, ca, cr, hd, e9 _ _ q8, h2.mono (S := []) (Frm.ex e09), h3.mono (S := []) (Frm.ex e09), h4.mono (S := []) (Frm.ex e09)⟩
end
end LS
end
-- text Tt
section
set_option maxHeartbeats 4000000
/-! The texts of the loops: joined, split. -/
namespace LS
open PySem PySem.Spec PyProof.Rows L2 Evl
def wsStr (ws : List Wd) : List Str := ws.map Wd.str
def begStr (ws : List Wd) : List Str := ("ask" : Str) :: wsStr ws
def txtOf (ws es : List Wd) : Str := Txt.join " " (begStr ws ++ (if es = [] then [] else ("|" : Str) :: wsStr es))
theorem sp_tl : TL.tl (" " : Str) = [32] := by decide +kernel
theorem bar_tl : TL.tl (" | " : Str) = [32, 124, 32] := by decide +kernel
theorem b_tl : TL.tl ("|" : Str) = [124] := by decide +kernel
theorem sp_k : (" " : Str).cps.all (· < 256) = true := by decide +kernel
theorem bar_k : (" | " : Str).cps.all (· < 256) = true := by decide +kernel
theorem wd_no : ∀ w : Wd, 32 ∉ TL.tl w.str ∧ 124 ∉ TL.tl w.str := by
  rintro ⟨t, s⟩
  rcases t with _ | t
  · cases s <;> decide +kernel
  · cases t <;> cases s <;> decide +kernel
theorem ask_no : 32 ∉ TL.tl ("ask" : Str) ∧ 124 ∉ TL.tl ("ask" : Str) := by decide +kernel
theorem beg_no (ws : List Wd) : ∀ p ∈ begStr ws, 32 ∉ TL.tl p ∧ 124 ∉ TL.tl p := by
  intro p h
  rcases List.mem_cons.mp h with rfl | h
  · exact ask_no
  · obtain ⟨w, _, rfl⟩ := List.mem_map.mp h
    exact wd_no w
theorem ws_no (ws : List Wd) : ∀ p ∈ wsStr ws, 32 ∉ TL.tl p ∧ 124 ∉ TL.tl p := by
  intro p h
  obtain ⟨w, _, rfl⟩ := List.mem_map.mp h
  exact wd_no w
theorem split_beg (ws : List Wd) : Txt.split (Txt.join " " (begStr ws)) " " = begStr ws := TL.split_join sp_tl sp_k (List.cons_ne_nil _ _) fun p h => (beg_no ws p h).1
theorem split_ws {ws : List Wd} (hn : ws ≠ []) : Txt.split (Txt.join " " (wsStr ws)) " " = wsStr ws := TL.split_join sp_tl sp_k (fun e => hn (List.map_eq_nil_iff.mp e)) fun p h => (ws_no ws p h).1
theorem joinL_no {c : Nat} {S : List Nat} (hS : c ∉ S) : ∀ {l : List (List Nat)}, (∀ p ∈ l, c ∉ p) → c ∉ TL.joinL S l
  | [], _ => List.not_mem_nil
  | [p], h => h p (List.mem_singleton.mpr rfl)
  | p :: q :: r, h => by
    show c ∉ p ++ (S ++ TL.joinL S (q :: r))
    rw [List.mem_append, List.mem_append]
    rintro (h1 | h1 | h1)
    · exact h p (List.mem_cons_self ..) h1
    · exact hS h1
    · exact joinL_no hS (fun p hp => h p (List.mem_cons_of_mem _ hp)) h1
theorem joinL_app {S : List Nat} : ∀ {l m : List (List Nat)}, l ≠ [] → m ≠ [] → TL.joinL S (l ++ m) = TL.joinL S l ++ (S ++ TL.joinL S m)
  | [], _, h, _ => absurd rfl h
  | [p], [], _, h => absurd rfl h
  | [p], q :: r, _, _ => rfl
  | p :: q :: r, m, _, hm => by
    show p ++ (S ++ TL.joinL S (q :: r ++ m)) = p ++ (S ++ TL.joinL S (q :: r)) ++ (S ++ TL.joinL S m)
    rw [joinL_app (List.cons_ne_nil _ _) hm, List.append_assoc, List.append_assoc]
theorem free_bar : ∀ {p : List Nat}, 124 ∉ p → SX.free [32, 124, 32] p = true
  | [], _ => rfl
  | c :: r, h => by
    show (!(TL.pre [32, 124, 32] (c :: (r ++ [32, 124, 32]))) && SX.free [32, 124, 32] r) = true
    rw [Bool.and_eq_true, Bool.not_eq_true']
    refine ⟨?_, free_bar fun hm => h (List.mem_cons_of_mem _ hm)⟩
    cases e : TL.pre [32, 124, 32] (c :: (r ++ [32, 124, 32])) with
    | false => rfl
    | true =>
      exfalso
      have e1 : (c :: (r ++ [32, 124, 32])).take 3 = [32, 124, 32] := eq_of_beq e
      cases r with
      | nil => simp at e1
      | cons d r =>
        simp at e1
        exact h (by rw [e1.2.1]; simp)
theorem pre_no {p : List Nat} (h : 124 ∉ p) (i : Nat) : TL.pre [32, 124, 32] (p.drop i) = false := by
  cases e : TL.pre [32, 124, 32] (p.drop i) with
  | false => rfl
  | true =>
    exfalso
    have e1 : (p.drop i).take 3 = [32, 124, 32] := eq_of_beq e
    have : 124 ∈ (p.drop i).take 3 := by rw [e1]; simp
    exact h (List.mem_of_mem_drop (List.mem_of_mem_take this))
theorem join_tl (l : List Str) : TL.tl (Txt.join " " l) = TL.joinL [32] (l.map TL.tl) := by rw [TL.join_eq, TL.tl_join, sp_tl]
theorem beg_bar (ws : List Wd) : 124 ∉ TL.tl (Txt.join " " (begStr ws)) := by
  rw [join_tl]
  refine joinL_no (by decide) fun p h => ?_
  obtain ⟨z, hz, rfl⟩ := List.mem_map.mp h
  exact (beg_no ws z hz).2
theorem ws_bar (ws : List Wd) : 124 ∉ TL.tl (Txt.join " " (wsStr ws)) := by
  rw [join_tl]
  refine joinL_no (by decide) fun p h => ?_
  obtain ⟨z, hz, rfl⟩ := List.mem_map.mp h
  exact (ws_no ws z hz).2
theorem split_txt (ws es : List Wd) : Txt.split (txtOf ws es) " | " = (if es = [] then [Txt.join " " (begStr ws)] else [Txt.join " " (begStr ws), Txt.join " " (wsStr es)]) := by
  refine TL.map_tl_inj ?_
  rw [TL.split_spl _ _ (by rw [bar_tl]; simp) (TL.kind_ok bar_k), bar_tl]
  unfold txtOf
  by_cases he : es = []
  · rw [if_pos he, if_pos he, List.append_nil]
    rw [TL.spl_last fun i _ => pre_no (beg_bar ws) i, List.nil_append]
    rfl
  · rw [if_neg he, if_neg he, join_tl, List.map_append, joinL_app (by unfold begStr; simp) (by simp), ← join_tl, List.map_cons, b_tl]
    have e2 : TL.joinL [32] ([124] :: (wsStr es).map TL.tl) = [124, 32] ++ TL.tl (Txt.join " " (wsStr es)) := by
      rw [join_tl]
      cases es with
      | nil => exact absurd rfl he
      | cons w es => rfl
    rw [e2]
    show TL.spl [32, 124, 32] 0 [] (TL.tl (Txt.join " " (begStr ws)) ++ ([32, 124, 32] ++ TL.tl (Txt.join " " (wsStr es)))) = _
    rw [SX.spl_free _ (by simp) (free_bar (beg_bar ws)), TL.spl_last fun i _ => pre_no (ws_bar es) i, List.nil_append]
    rfl
/-! how long -/
theorem joinL_len {S : List Nat} {k : Nat} : ∀ {l : List (List Nat)}, (∀ p ∈ l, p.length ≤ k) → (TL.joinL S l).length ≤ l.length * (k + S.length)
  | [], _ => Nat.zero_le _
  | [p], h => by
    have := h p (List.mem_singleton.mpr rfl)
    show p.length ≤ 1 * (k + S.length)
    omega
  | p :: q :: r, h => by
    have h1 := h p (List.mem_cons_self ..)
    have h2 := joinL_len (S := S) (l := q :: r) fun p hp => h p (List.mem_cons_of_mem _ hp)
    show (p ++ (S ++ TL.joinL S (q :: r))).length ≤ (q :: r).length.succ * (k + S.length)
    rw [List.length_append, List.length_append, Nat.succ_mul]
    omega
theorem tl_len (x : Str) : x.length = (TL.tl x).length := by unfold TL.tl Str.length; simp
theorem join_len {l : List Str} (h : ∀ p ∈ l, p.length ≤ 20) : (Txt.join " " l).length ≤ l.length * 21 := by
  rw [tl_len, join_tl]
  refine Nat.le_trans (joinL_len (k := 20) fun p hp => ?_) (by rw [List.length_map]; exact Nat.le_refl _)
  obtain ⟨z, hz, rfl⟩ := List.mem_map.mp hp
  rw [← tl_len]
  exact h z hz
theorem len_sum {k : Nat} : ∀ {l : List Str}, (∀ p ∈ l, p.length ≤ k) → (l.map (·.length)).sum ≤ l.length * k
  | [], _ => Nat.zero_le _
  | p :: l, h => by
    have h1 := h p (List.mem_cons_self ..)
    have h2 := len_sum (l := l) fun p hp => h p (List.mem_cons_of_mem _ hp)
    rw [List.map_cons, List.sum_cons, List.length_cons, Nat.succ_mul]
    omega
theorem beg20 (ws : List Wd) : ∀ p ∈ begStr ws, p.length ≤ 20 := by
  intro p h
  rcases List.mem_cons.mp h with rfl | h
  · decide +kernel
  · obtain ⟨w, _, rfl⟩ := List.mem_map.mp h
    exact (wd_len w).2
theorem ws20 (ws : List Wd) : ∀ p ∈ wsStr ws, p.length ≤ 20 := by
  intro p h
  obtain ⟨w, _, rfl⟩ := List.mem_map.mp h
  exact (wd_len w).2
theorem all20 (ws es : List Wd) : ∀ p ∈ begStr ws ++ (if es = [] then [] else ("|" : Str) :: wsStr es), p.length ≤ 20 := by
  intro p h
  rcases List.mem_append.mp h with h | h
  · exact beg20 ws p h
  · by_cases he : es = []
    · rw [if_pos he] at h; exact absurd h List.not_mem_nil
    · rw [if_neg he] at h
      rcases List.mem_cons.mp h with rfl | h
      · decide +kernel
      · exact ws20 es p h
theorem all_len (ws es : List Wd) : (begStr ws ++ (if es = [] then [] else ("|" : Str) :: wsStr es)).length ≤ ws.length + es.length + 2 := by
  by_cases he : es = []
  · rw [if_pos he, List.append_nil]; unfold begStr wsStr; simp; omega
  · rw [if_neg he]; unfold begStr wsStr; simp; omega
theorem txt_len (ws es : List Wd) : (txtOf ws es).length ≤ (ws.length + es.length + 2) * 21 := Nat.le_trans (join_len (all20 ws es)) (Nat.mul_le_mul_right _ (all_len ws es))
/-- the loops that the law makes -/
structure LOk (ws es : List Wd) : Prop where
  l1 : ws.length ≤ 8
  l2 : es.length ≤ 2
  en : ∀ w ∈ es, w.s = .hand ∨ w.s = .cut ∨ w.s = .flush
  ad : (ws.filter fun w => decide (w.s = .add)).length ≤ 1
end LS
end
-- text W5
section
set_option maxHeartbeats 4000000
/-! The checks; Loop's making. -/
namespace LS
open PySem PySem.Spec PyProof.Rows L2 Evl
section
variable {K : PySem.W.Frag} {σ : L2.St} {H : Hp} {ta tb tc te tl : TE} {x y z c v : V} {t u : Value} {b : Bool} {xs : List V} {a : Addr} {tt : TT} {r1 r2 : R2} {Q : VK} {tu tz : TS} {D : Ends} {g : TG}
theorem ev_isi (ha : Ev ta σ H x) (hb : Ev tb σ H c) (k : ClsV c u) (ty : ∀ H1, Ex H H1 → TyX K H1 x t) (e : PySem.W.kitOne K t u = some b) : Ev (tCB (rIsi K) (tCons ta (tCons tb tNil))) σ H (.bl b) := fun H1 e1 Q q =>
  ha H1 e1 _ fun H2 e2 => hb H2 (e1.trans e2) _ fun H3 e3 => ⟨x, c, t, u, b, rfl, k, ty H3 ((e1.trans e2).trans e3), e, q H3 (e2.trans e3)⟩
theorem ev_isC {C dx : Addr} {fs : List (Str × V)} (ha : Ev ta σ H (.ref a)) (hb : Ev tb σ H (.ref C)) (ho : H a = some (.ins C dx fs)) : Ev (tCB (fun xs H Q => ∃ a dx fs, xs = [.ref a, .ref C] ∧ H a = some (.ins C dx fs) ∧ Q (.bl true) H) (tCons ta (tCons tb tNil))) σ H (.bl true) := fun H1 e1 Q q =>
  ha H1 e1 _ fun H2 e2 => hb H2 (e1.trans e2) _ fun H3 e3 => ⟨a, dx, fs, rfl, ((e1.trans e2).trans e3) _ _ ho, q H3 (e2.trans e3)⟩
theorem ev_chainT (ha : Ev ta σ H x) (hb : Ev tb σ H y) (hc : Ev tc σ H z) (h1 : RV r1 x y H (.bl true)) (h2 : RV r2 y z H v) : Ev (tChain r1 r2 ta tb tc) σ H v := fun H1 e1 Q q =>
  ha H1 e1 _ fun H2 e2 => hb H2 (e1.trans e2) _ fun H3 e3 => h1 H3 ((e1.trans e2).trans e3) _ fun H4 e4 => ⟨true, rfl, iteT (hc H4 (((e1.trans e2).trans e3).trans e4) _ fun H5 e5 => h2 H5 ((((e1.trans e2).trans e3).trans e4).trans e5) Q fun H6 e6 => q H6 ((((e2.trans e3).trans e4).trans e5).trans e6))⟩
theorem rv_le {i j : Int} (h : i ≤ j) : RV (rI0 fun i j => .bl (decide (i ≤ j))) (.int i) (.int j) H (.bl true) := by
  have := rv_I0 (g := fun i j => V.bl (decide (i ≤ j))) (i := i) (j := j) (H := H)
  rw [decide_eq_true h] at this
  exact this
theorem ev_leC {i j k : Int} (ha : Ev ta σ H (.int i)) (hb : Ev tb σ H (.int j)) (hc : Ev tc σ H (.int k)) (h1 : i ≤ j) (h2 : j ≤ k) : Ev (tChain (rI0 fun i j => .bl (decide (i ≤ j))) (rI0 fun i j => .bl (decide (i ≤ j))) ta tb tc) σ H (.bl true) := ev_chainT ha hb hc (rv_le h1) (rv_le h2)
theorem ev_isN (ha : Ev ta σ H x) : Ev (tOp (fun x y H Q => y = .non ∧ Q (.bl (decide (x = .non))) H) ta (tC .non)) σ H (.bl (decide (x = .non))) := ev_op ha ev_c fun H1 _ Q q => ⟨rfl, q H1 (Ex.refl H1)⟩
theorem k_ifY (h : EvT tt σ H true) (k : ∀ H1, Ex H H1 → ta σ H1 Q) : tIf tt ta tb σ H Q := h H (Ex.refl H) _ fun H1 e => iteT (k H1 e)
theorem el_split {a b : Str} (h : Ev te σ H (.str a)) (hb : (b.length == 0) = false) (hz : a.length + 2 ≤ 100000) : EvL (tM1 (fun x xs H Q => ∃ a b, x = .str a ∧ xs = [.str b] ∧ (b.length == 0) = false ∧ a.length + 2 ≤ sizeLine ∧ rNewStrs (Txt.split a b) H Q) te (tC (.str b))) σ H ((Txt.split a b).map V.str) := fun H1 e1 Q q =>
  h H1 e1 _ fun H2 e2 => ⟨⟨_, rfl⟩, a, b, rfl, rfl, hb, sz_of hz, fun p hp => q p _ (fresh_back e2 hp) (e2.trans (Ex.new hp)) upd_same⟩
theorem eu_rpart {a b : Str} (h : Ev te σ H (.str a)) (hb : (b.length == 0) = false) (hz : a.length ≤ 100000) : EvU (tM1 rRpart te (tC (.str b))) σ H [.str (Txt.rpartition a b).1, .str (Txt.rpartition a b).2.1, .str (Txt.rpartition a b).2.2] := fun H1 e1 Q q =>
  h H1 e1 _ fun H2 e2 => ⟨⟨_, rfl⟩, a, b, rfl, rfl, hb, sz_of hz, fun p hp => q p _ (fresh_back e2 hp) (e2.trans (Ex.new hp)) upd_same⟩
theorem ev_ixU {i : Int} (ha : EvU ta σ H xs) (hi : atI xs i = some v) : Ev (tOp (rIxT K) ta (tC (.int i))) σ H v := fun H1 e1 Q q =>
  ha H1 e1 _ fun p H2 _ e2 h2 => ⟨p, xs, i, v, rfl, rfl, st_of h2, hi, q H2 e2⟩
theorem eu_tupL (h : EvL te σ H xs) : EvU (tCB (fun xs H Q => ∃ p ys, xs = [.ref p] ∧ ((SqL K H p ys ∧ ∀ l, H l = none → Q (.ref l) (upd H l (.tup ys))) ∨ (SqT K H p ys ∧ Q (.ref p) H))) (tCons te tNil)) σ H xs := fun H1 e1 Q q =>
  h H1 e1 _ fun p H2 _ e2 h2 => ⟨p, xs, rfl, Or.inl ⟨sq_of h2, fun l hl => q l _ (fresh_back e2 hl) (e2.trans (Ex.new hl)) upd_same⟩⟩
theorem eu_tupE {p : Addr} (h : Ev te σ H (.ref p)) (hp : SqL K H p xs) : EvU (tCB (fun xs H Q => ∃ p ys, xs = [.ref p] ∧ ((SqL K H p ys ∧ ∀ l, H l = none → Q (.ref l) (upd H l (.tup ys))) ∨ (SqT K H p ys ∧ Q (.ref p) H))) (tCons te tNil)) σ H xs := fun H1 e1 Q q =>
  h H1 e1 _ fun H2 e2 => ⟨p, xs, rfl, Or.inl ⟨ex_l (e1.trans e2) hp, fun l hl => q l _ (fresh_back e2 hl) (e2.trans (Ex.new hl)) upd_same⟩⟩
theorem ev_all {bs : List Bool} (h : EvL te σ H (bs.map V.bl)) : Ev (tCB (rAll K) (tCons te tNil)) σ H (.bl (bs.all id)) := fun H1 e1 Q q =>
  h H1 e1 _ fun p H2 _ e2 h2 => ⟨p, bs, rfl, sq_of h2, q H2 e2⟩
theorem el_lcW {j : Nat} {vs : List Nat} (f : Nat → Bool) (v : Nat → V) (h : EvW tl σ H xs) (hz : xs.length ≤ 40000) (hw : ∀ x, wipe ((wipe σ vs).set j (some x)) vs = wipe σ vs)
    (ht : ∀ (i : Nat) (x : V) H1, Ex H H1 → xs[i]? = some x → EvT tt ((wipe σ vs).set j (some x)) H1 (f i)) (he : ∀ (i : Nat) (x : V) H1, Ex H H1 → xs[i]? = some x → f i = true → Ev te ((wipe σ vs).set j (some x)) H1 (v i)) :
    EvL (tLc (iTup K tl) (gName j) tt te vs) σ H (given xs.length f v) := fun H0 e Q q => h H0 e _ fun a H1 e1 hx => ⟨a, rfl, ⟨xs, st_of hx⟩, fun Dl hD =>
  lc_tup (xs := xs) (Cw H1 f v Dl) ⟨hD, Ex.new hD, upd_same⟩ (fun i H' _ p => st_of (p.2.1 _ _ hx)) (fun i x H' hi p => ⟨hw x, cw_turn p (by have := (List.getElem?_eq_some_iff.mp hi).1; omega) (ht i x H1 (e.trans e1) hi) (fun hf => he i x H1 (e.trans e1) hi hf)⟩)
    (fun H' p => q Dl H' (fresh_back e1 p.1) (e1.trans p.2.1) p.2.2)⟩
theorem s_forE (h : Ev tl σ H (.ref a)) (hx : SqT K H a xs) (Pv : Nat → L2.St → Hp → Prop) (h0 : ∀ H1, Ex H H1 → Pv 0 σ H1) (hl : ∀ i σ' H', i ≤ xs.length → Pv i σ' H' → SqT K H' a xs)
    (hs : ∀ i x σ' H' T, xs[i]? = some x → Pv i σ' H' → H' T = none → g (.ref T) σ' (upd H' T (.tup [.int (i : Nat), x])) fun σ2 H2 => tu { D with nx := Pv (i + 1), ct := Pv (i + 1), bk := D.nx } σ2 H2) (hd : ∀ σ' H', Pv xs.length σ' H' → D.nx σ' H') : tFor (iEnumT K (tCons tl tNil)) g tu D σ H :=
  h H (Ex.refl H) _ fun H1 e => ⟨a, xs, rfl, ex_t e hx, for_it walk_enumT Pv (h0 H1 e) hl (fun i x σ H H' hi p y => by
    obtain ⟨T, y1, y2, rfl, hT, rfl, e1, e2⟩ := y
    injection e1 with e1
    subst e1
    exact hs i y2 σ H T e2 p hT) hd⟩
end
theorem given_tt (n : Nat) (v : Nat → V) : given n (fun _ => true) v = (List.range n).map v := by unfold given; rw [List.filter_eq_self.mpr (fun _ _ => rfl)]
theorem given_tr (n : Nat) : given n (fun _ => true) (fun _ => V.bl true) = (List.replicate n true).map V.bl := by
  rw [given_tt, List.map_replicate]
  refine List.ext_getElem (by simp) fun i h1 h2 => by simp
theorem all_rep (n : Nat) : (List.replicate n true).all id = true := by simp
abbrev sc_is_integer_N : List Str := ["value"]
theorem sc_is_integer : FnScope sc_is_integer_N ["value"] (defScope (top 23)) := ⟨rfl, rfl, rfl, by decide +kernel, rfl, by decide +kernel, by decide +kernel⟩
def sp_is_integer : Sp := fun vs H Q _ => ∃ i : Int, vs = [.int i] ∧ SpRet (.bl true) H Q
section
variable {P : Program} {w : World} {K : PySem.W.Frag} {mg : Str → Option Value} {base : Heap}
theorem c_is_integer (T : Tx K mg) : C8.Cal P w K mg base 1 "is_integer" sp_is_integer [] := by
  refine mkCal T.d_is_integer T.g_is_integer sc_is_integer (fun _ _ _ _ _ _ us hl => match us, hl with | [_], _ => rfl) (fun vs H Q E h => ?_) (fun cdv A outer s H vs Q E hr h => ?_)
  · obtain ⟨i, rfl, _⟩ := h
    rfl
  · obtain ⟨i, rfl, hQ⟩ := h
    refine ⟨_, (pss_one (ps_ret (pe_and (pe_callB call_isi (by rfl) T.f_isinstance (by decide +kernel) (pa_cons (pv 0) (pa_cons (pe_bltn (v := .ty "int") (by rfl) T.f_int (by decide +kernel) rfl) pa_nil))) (pe_one (pe_not (pe_callB call_isi (by rfl) T.f_isinstance (by decide +kernel) (pa_cons (pv 0) (pa_cons (pe_bltn (v := .ty "bool") (by rfl) T.f_bool (by decide +kernel) rfl) pa_nil)))))))), ?_⟩
    exact s_ret (ev_andV (a := true) (b := true) (ev_isi (ev_var rfl) ev_c (.ty _) (fun _ _ => .base (.int _)) rfl) fun _ => ev_notV (a := false) (ev_isi (ev_var rfl) ev_c (.ty _) (fun _ _ => .base (.int _)) rfl)) fun H1 e1 => hQ H1 e1
end
abbrev sc_check_size_N : List Str := ["value"]
theorem sc_check_size : FnScope sc_check_size_N ["value"] (defScope (top 24)) := ⟨rfl, rfl, rfl, by decide +kernel, rfl, by decide +kernel, by decide +kernel⟩
def sp_check_size : Sp := fun vs H Q _ => ∃ n : Int, vs = [.int n] ∧ 1 ≤ n ∧ n ≤ 1000 ∧ SpRet .non H Q
section
variable {P : Program} {w : World} {K : PySem.W.Frag} {mg : Str → Option Value} {base : Heap}
theorem c_check_size (T : Tx K mg) : C8.Cal P w K mg base 2 "check_size" sp_check_size [] := by
  refine mkCal T.d_check_size T.g_check_size sc_check_size (fun _ _ _ _ _ _ us hl => match us, hl with | [_], _ => rfl) (fun vs H Q E h => ?_) (fun cdv A outer s H vs Q E hr h => ?_)
  · obtain ⟨i, rfl, _⟩ := h
    rfl
  · obtain ⟨i, rfl, h1, h2, hQ⟩ := h
    refine ⟨_, (pss_one (ps_if (PW.pt (pw_or (pt_not (pt_val (C8.pe_c (c_is_integer T) hr (by decide) rfl (pa_cons (pv 0) pa_nil)))) (pw_or1 (pt_not (pt_chain op_le op_le pe_int (pv 0) (C8.pe_gc rfl T.i_MOST_ITEMS))))))
        (pss_one ps_never)
        pss_nil)), ?_⟩
    refine s_no (et_or0 (et_not (a := true) (et_test (ev_call (ea_cons (ev_var rfl) ea_nil) (spV_of fun H1 e1 Q E q => ⟨i, rfl, q⟩)))) (et_not (a := true) (et_test (ev_leC ev_c (ev_var rfl) ev_c h1 h2)))) fun H1 e1 => hQ H1 e1
end
/-! replies -/
def RpV (H : Hp) (v : V) (r : Nat × Bool) : Prop := ∃ a, v = .ref a ∧ H a = some (.tup [.int r.1, .bl r.2])
def RpT (H : Hp) (a : Addr) (rs : List (Nat × Bool)) : Prop := ∃ vs, H a = some (.tup vs) ∧ Paired (RpV H) vs rs
theorem RpV.mono {H H1 : Hp} {S : List Addr} {v : V} {r : Nat × Bool} (h : RpV H v r) (f : Frm S H H1) : RpV H1 v r := let ⟨a, x, y⟩ := h; ⟨a, x, f.tup _ _ y⟩
theorem RpT.mono {H H1 : Hp} {S : List Addr} {a : Addr} {rs : List (Nat × Bool)} (h : RpT H a rs) (f : Frm S H H1) : RpT H1 a rs := let ⟨vs, x, y⟩ := h; ⟨vs, f.tup _ _ x, Paired.imp2 (fun _ _ z => z.mono f) y⟩
theorem Paired.at {α β : Type} {F : α → β → Prop} : ∀ {l : List α} {m : List β} {i : Nat} {x : α}, Paired F l m → l[i]? = some x → ∃ y, m[i]? = some y ∧ F x y
  | _, _, 0, _, .cons r t, h => by injection h with h; subst h; exact ⟨_, rfl, r⟩
  | _, _, i + 1, _, .cons r t, h => Paired.at (i := i) t h
abbrev sc_is_reply_N : List Str := ["value", "most"]
theorem sc_is_reply : FnScope sc_is_reply_N ["value", "most"] (defScope (top 25)) := ⟨rfl, rfl, rfl, by decide +kernel, rfl, by decide +kernel, by decide +kernel⟩
def sp_is_reply : Sp := fun vs H Q _ => ∃ a r, ∃ n : Nat, vs = [.ref a, .int n] ∧ RpV H (.ref a) r ∧ r.1 ≤ n ∧ SpRet (.bl true) H Q
section
variable {P : Program} {w : World} {K : PySem.W.Frag} {mg : Str → Option Value} {base : Heap}
theorem c_is_reply (T : Tx K mg) : C8.Cal P w K mg base 2 "is_reply" sp_is_reply [] := by
  refine mkCal T.d_is_reply T.g_is_reply sc_is_reply (fun _ _ _ _ _ _ us hl => match us, hl with | [_, _], _ => rfl) (fun vs H Q E h => ?_) (fun cdv A outer s H vs Q E hr h => ?_)
  · obtain ⟨a, r, n, rfl, _⟩ := h
    rfl
  · obtain ⟨a, ⟨c, t⟩, n, rfl, ⟨_, e, h1⟩, h2, hQ⟩ := h
    injection e with e
    subst e
    refine ⟨_, (pss_cons (ps_if (PW.pt (pw_or (pt_not (pt_val (pe_callB call_isi (by rfl) T.f_isinstance (by decide +kernel) (pa_cons (pv 0) (pa_cons (pe_bltn (v := .ty "tuple") (by rfl) T.f_tuple (by decide +kernel) rfl) pa_nil))))) (pw_or1 (pt_cmpR op_ne (pe_callB call_len_seq (by rfl) T.f_len (by decide +kernel) (pa_cons (pv 0) pa_nil)) pe_int (nomark _)))))
        (pss_one (ps_ret pe_bl))
        pss_nil)
      (pss_one (ps_ret (pe_and (C8.pe_c (c_is_integer T) hr (by decide) rfl (pa_cons (pe_ix ix_tup (pv 0) pe_int (fun _ _ => rfl)) pa_nil)) (pe_and (pe_chain op_le op_le pe_int (pe_ix ix_tup (pv 0) pe_int (fun _ _ => rfl)) (pv 1)) (pe_one (pe_callB call_isi (by rfl) T.f_isinstance (by decide +kernel) (pa_cons (pe_ix ix_tup (pv 0) pe_int (fun _ _ => rfl)) (pa_cons (pe_bltn (v := .ty "bool") (by rfl) T.f_bool (by decide +kernel) rfl) pa_nil))))))))), ?_⟩
    refine q_no (et_or0 (et_not (a := true) (et_test (ev_isi (ev_var rfl) ev_c (.ty _) (fun _ e => .base (.tup (e _ _ h1))) rfl))) (et_is (et_test (ev_ne (ev_lenT (ev_var rfl) (st_of h1)) ev_c rfl)) (by show (!decide (V.int 2 = V.int 2)) = false; decide))) fun H1 e1 => ?_
    have h1 := e1 _ _ h1
    have x0 : ∀ {H2}, Ex H1 H2 → Ev (tOp (rIxT K) (tVar 0) (tC (.int 0))) (L2.start sc_is_reply_N [V.ref a, V.int n]) H2 (.int (c : Int)) := fun e => ev_ixT (ev_var rfl) ev_c (st_of (e _ _ h1)) rfl
    have x1 : ∀ {H2}, Ex H1 H2 → Ev (tOp (rIxT K) (tVar 0) (tC (.int 1))) (L2.start sc_is_reply_N [V.ref a, V.int n]) H2 (.bl t) := fun e => ev_ixT (ev_var rfl) ev_c (st_of (e _ _ h1)) rfl
    exact s_ret (ev_andV (a := true) (b := true) (ev_call (ea_cons (x0 (Ex.refl _)) ea_nil) (spV_of fun H1 e1 Q E q => ⟨_, rfl, q⟩)) fun _ => ev_andV (a := true) (b := true) (ev_leC ev_c (x0 (Ex.refl _)) (ev_var rfl) (by omega) (by have : c ≤ n := h2; omega)) fun _ =>
      ev_isi (x1 (Ex.refl _)) ev_c (.ty _) (fun _ _ => .base (.bl _)) rfl) fun H2 e2 => hQ H2 (e1.trans e2)
end
abbrev sc_check_replies_N : List Str := ["value", "most", "index", "reply"]
theorem sc_check_replies : FnScope sc_check_replies_N ["value", "most"] (defScope (top 26)) := ⟨rfl, rfl, rfl, by decide +kernel, rfl, by decide +kernel, by decide +kernel⟩
def sp_check_replies : Sp := fun vs H Q _ => ∃ a rs, ∃ n : Nat, vs = [.ref a, .int n] ∧ RpT H a rs ∧ (∀ r ∈ rs, r.1 ≤ n) ∧ rs.length ≤ 100 ∧ SpRet .non H Q
section
variable {P : Program} {w : World} {K : PySem.W.Frag} {mg : Str → Option Value} {base : Heap}
theorem c_check_replies (T : Tx K mg) : C8.Cal P w K mg base 3 "check_replies" sp_check_replies [] := by
  refine mkCal T.d_check_replies T.g_check_replies sc_check_replies (fun _ _ _ _ _ _ us hl => match us, hl with | [_, _], _ => rfl) (fun vs H Q E h => ?_) (fun cdv A outer s H vs Q E hr h => ?_)
  · obtain ⟨a, r, n, rfl, _⟩ := h
    rfl
  · obtain ⟨a, rs, n, rfl, ⟨vs, h1, hp⟩, h2, h3, hQ⟩ := h
    have hl := Paired.len hp
    refine ⟨_, (pss_cons (ps_if (PW.pt (pw_or (pt_not (pt_val (pe_callB call_isi (by rfl) T.f_isinstance (by decide +kernel) (pa_cons (pv 0) (pa_cons (pe_bltn (v := .ty "tuple") (by rfl) T.f_tuple (by decide +kernel) rfl) pa_nil))))) (pw_or1 (pt_cmpR op_gt (pe_callB call_len_seq (by rfl) T.f_len (by decide +kernel) (pa_cons (pv 0) pa_nil)) (C8.pe_gc rfl T.i_MOST_REPLIES) (nomark _)))))
        (pss_one ps_never)
        pss_nil)
      (pss_one (ps_for PassesOwn.never rfl (pi_enumT (by rfl) T.f_enumerate (pa_cons (pv 0) pa_nil)) (pg_tup rfl (pgs_cons (pg_name (i := 2) sc_check_replies.nd rfl (Or.inl rfl)) (pgs_cons (pg_name (i := 3) sc_check_replies.nd rfl (Or.inl rfl)) pgs_nil)))
        (pss_one (ps_if (pt_not (pt_val (C8.pe_c (c_is_reply T) hr (by decide) rfl (pa_cons (pv 3) (pa_cons (pv 1) pa_nil)))))
          (pss_one ps_never)
          pss_nil))))), ?_⟩
    refine q_no (et_or0 (et_not (a := true) (et_test (ev_isi (ev_var rfl) ev_c (.ty _) (fun _ e => .base (.tup (e _ _ h1))) rfl))) (et_is (et_test (ev_I0 (ev_lenT (ev_var rfl) (st_of h1)) ev_c)) (by rw [hl]; simp; omega))) fun H1 e1 => ?_
    have h1' := e1 _ _ h1
    refine s_forE (xs := vs) (ev_var rfl) (st_of h1') (fun i σ' H' => (∃ v2 v3, σ' = [some (.ref a), some (.int n), v2, v3]) ∧ Ex H H') (fun H2 e2 => ⟨⟨none, none, rfl⟩, e1.trans e2⟩) (fun i σ' H' _ p => st_of (p.2 _ _ h1)) ?_ ?_
    · rintro i x σ' H' T' hx ⟨⟨v2, v3, rfl⟩, e⟩ hT
      obtain ⟨r, hr, hx⟩ := Paired.at hp hx
      refine ⟨_, _, rfl, st_of upd_same, rfl, _, _, rfl, _, _, rfl, rfl, ?_⟩
      have e := e.trans (Ex.new (o := .tup [.int (i : Nat), x]) hT)
      revert e
      generalize upd H' T' _ = H2
      intro e
      show tIfS _ _ _ _ [some (.ref a), some (.int n), some (.int (i : Nat)), some x] H2
      obtain ⟨b, rfl, hb⟩ := hx
      refine s_no (et_not (a := true) (et_test (ev_call (ea_cons (ev_var rfl) (ea_cons (ev_var rfl) ea_nil)) (spV_of fun H1 e1 Q E q => ⟨b, r, n, rfl, ⟨b, rfl, (e.trans e1) _ _ hb⟩, h2 r (List.mem_of_getElem? hr), q⟩)))) fun H3 e3 => ⟨⟨_, _, rfl⟩, e.trans e3⟩
    · rintro σ' H' ⟨_, e⟩
      exact hQ H' e
end
abbrev sc_is_word_N : List Str := ["text", "steps", "test", "colon", "step"]
theorem sc_is_word : FnScope sc_is_word_N ["text", "steps"] (defScope (top 31)) := ⟨rfl, rfl, rfl, by decide +kernel, rfl, by decide +kernel, by decide +kernel⟩
def sp_is_word (K : PySem.W.Frag) : Sp := fun vs H Q _ => ∃ w a, vs = [Wd.v w, .ref a] ∧ (a = He.ga K "ROUND_STEPS" ∨ (a = He.ga K "ENDING_STEPS" ∧ (w.s = .hand ∨ w.s = .cut ∨ w.s = .flush))) ∧ SpRet (.bl true) H Q
section
variable {P : Program} {w : World} {K : PySem.W.Frag} {mg : Str → Option Value} {base : Heap}
theorem c_is_word (T : Tx K mg) : C8.Cal P w K mg base 1 "is_word" (sp_is_word K) [] := by
  refine mkCal T.d_is_word T.g_is_word sc_is_word (fun _ _ _ _ _ _ us hl => match us, hl with | [_, _], _ => rfl) (fun vs H Q E h => ?_) (fun cdv A outer s H vs Q E hr h => ?_)
  · obtain ⟨w, a, rfl, _⟩ := h
    rfl
  · obtain ⟨⟨t, s⟩, a, rfl, ha, hQ⟩ := h
    have hst : ∃ st, (∀ H, SqT K H a st) ∧ st.all flatV = true ∧ inV (.str s.str) st = true := by
      rcases ha with rfl | ⟨rfl, h⟩
      · exact ⟨_, T.t_ROUND_STEPS, rfl, by cases s <;> decide +kernel⟩
      · refine ⟨_, T.t_ENDING_STEPS, rfl, ?_⟩
        have h : s = .hand ∨ s = .cut ∨ s = .flush := h
        rcases h with rfl | rfl | rfl <;> decide +kernel
    obtain ⟨st, q1, q2, q3⟩ := hst
    refine ⟨_, (pss_cons (ps_asg (pe_rpart (pv 0) pe_str) (pg_tup rfl (pgs_cons (pg_name (i := 2) sc_is_word.nd rfl (Or.inl rfl)) (pgs_cons (pg_name (i := 3) sc_is_word.nd rfl (Or.inl rfl)) (pgs_cons (pg_name (i := 4) sc_is_word.nd rfl (Or.inl rfl)) pgs_nil)))))
      (pss_cons (ps_if (pt_cmpR op_notIn_seq (pv 4) (pv 1) (by rfl))
        (pss_one (ps_ret pe_bl))
        pss_nil)
      (pss_one (ps_ret (pe_or (pe_cmpR op_eq (pv 3) pe_str (nomark _)) (pe_one (pe_cmpR op_in_seq (pv 2) (pe_glob (v := .ref _) rfl T.g_TESTS rfl) (by rfl)))))))), ?_⟩
    refine ⟨_, rfl, ⟨_, rfl⟩, _, _, rfl, rfl, by decide +kernel, sz_of (Nat.le_trans (wd_len ⟨t, s⟩).2 (by decide)), fun p hp => ?_⟩
    rw [rpart_wd]
    refine ⟨p, _, rfl, st_of upd_same, rfl, _, _, rfl, _, _, rfl, _, _, rfl, rfl, ?_⟩
    generalize hH0 : upd H p _ = H0
    have e0 : Ex H H0 := hH0 ▸ Ex.new hp
    clear hH0
    cases t with
    | none =>
      refine q_no (et_ev0 (ev_niT (ev_var rfl) (ev_var rfl) (q1 _) rfl q2) (by rw [q3]; rfl)) fun H1 e1 => s_ret (ev_orV (a := true) (b := false) (ev_is (ev_eq (ev_var rfl) ev_c rfl) (congrArg V.bl (show decide (V.str "" = V.str "") = true from by decide +kernel))) fun z => by cases z) fun H2 e2 => hQ H2 ((e0.trans e1).trans e2)
    | some t =>
      refine q_no (et_ev0 (ev_niT (ev_var rfl) (ev_var rfl) (q1 _) rfl q2) (by rw [q3]; rfl)) fun H1 e1 => s_ret (ev_orV (a := false) (b := true) (ev_is (ev_eq (ev_var rfl) ev_c rfl) (congrArg V.bl (show decide (V.str ":" = V.str "") = false from by decide +kernel))) fun _ => ev_is (ev_inT (ev_var rfl) ev_c (T.t_TESTS _) rfl rfl) (congrArg V.bl (show inV (.str t.str) _ = true from by cases t <;> decide +kernel))) fun H2 e2 => hQ H2 ((e0.trans e1).trans e2)
end
end LS
end
-- text W6
section
set_option maxHeartbeats 4000000
/-! words_in, Loop. -/
namespace LS
open PySem PySem.Spec PyProof.Rows L2 Evl
theorem begV (ws : List Wd) : (begStr ws).map V.str = .str "ask" :: ws.map Wd.v := by
  unfold begStr wsStr
  rw [List.map_cons, List.map_map]
  rfl
theorem wsV (ws : List Wd) : (wsStr ws).map V.str = ws.map Wd.v := by
  unfold wsStr
  rw [List.map_map]
  rfl
theorem atI_0 {x : V} {xs : List V} : atI (x :: xs) 0 = some x := by
  unfold atI ixN
  rw [if_pos (by decide), if_pos (by rw [List.length_cons]; omega)]
  rfl
theorem atI_nat {xs : List V} {i : Nat} {x : V} (h : xs[i]? = some x) : atI xs (i : Int) = some x := by
  unfold atI
  rw [ixN_nat (List.getElem?_eq_some_iff.mp h).1]
  exact h
def isAdd (x : Str) : Bool := decide (V.str (Txt.rpartition x ":").2.2 = V.str "add")
theorem isAdd_wd : ∀ w : Wd, isAdd w.str = decide (w.s = .add) := by
  intro w
  unfold isAdd
  rw [rpart_wd]
  obtain ⟨t, s⟩ := w
  rcases t with _ | t
  · cases s <;> decide +kernel
  · cases t <;> cases s <;> decide +kernel
theorem isAdd_ask : isAdd "ask" = false := by decide +kernel
theorem filt_idx {α : Type} (d : α) (l : List α) (p : α → Bool) : ((List.range l.length).filter fun i => p (l.getD i d)).length = (l.filter p).length := by
  have e : (List.range l.length).map (fun i => l.getD i d) = l := List.ext_getElem (by simp) fun i h1 h2 => by simp [List.getD_eq_getElem?_getD, h2]
  have e2 : l.filter p = ((List.range l.length).map (fun i => l.getD i d)).filter p := by rw [e]
  rw [e2, List.filter_map, List.length_map]
  rfl
theorem adds_len (ws : List Wd) : ((List.range (begStr ws).length).filter fun i => isAdd ((begStr ws).getD i "")).length = (ws.filter fun w => decide (w.s = .add)).length := by
  rw [filt_idx]
  unfold begStr wsStr
  rw [List.filter_cons, isAdd_ask, if_neg Bool.false_ne_true, List.filter_map, List.length_map]
  have : isAdd ∘ Wd.str = fun w => decide (w.s = .add) := funext fun w => isAdd_wd w
  rw [this]
abbrev sc_words_in_N : List Str := ["text", "parts", "found", "ending", "word", "adds"]
theorem sc_words_in : FnScope sc_words_in_N ["text"] (defScope (top 32)) := ⟨rfl, rfl, rfl, by decide +kernel, rfl, by decide +kernel, by decide +kernel⟩
def sp_words_in : Sp := fun vs H Q _ => ∃ ws es, vs = [.str (txtOf ws es)] ∧ LOk ws es ∧ ∀ p r e H', Ex H H' → H' p = some (.tup [.ref r, .ref e]) → H' r = some (.tup (.str "ask" :: ws.map Wd.v)) → H' e = some (.tup (es.map Wd.v)) → Q (.ref p) H'
section
variable {P : Program} {w : World} {K : PySem.W.Frag} {mg : Str → Option Value} {base : Heap}
theorem c_words_in (T : Tx K mg) : C8.Cal P w K mg base 2 "words_in" sp_words_in [] := by
  refine mkCal T.d_words_in T.g_words_in sc_words_in (fun _ _ _ _ _ _ us hl => match us, hl with | [_], _ => rfl) (fun vs H Q E h => ?_) (fun cdv A outer s H vs Q E hr h => ?_)
  · obtain ⟨ws, es, rfl, _⟩ := h
    rfl
  · obtain ⟨ws, es, rfl, ok, hQ⟩ := h
    have l1 := ok.l1
    have l2 := ok.l2
    have tlen : (txtOf ws es).length + 2 ≤ 100000 := by
      have := txt_len ws es
      have : (ws.length + es.length + 2) * 21 ≤ 12 * 21 := Nat.mul_le_mul_right _ (by omega)
      omega
    have blen : (Txt.join " " (begStr ws)).length + 2 ≤ 100000 := by
      have := join_len (beg20 ws)
      have hb : (begStr ws).length = ws.length + 1 := by unfold begStr wsStr; simp
      have : (begStr ws).length * 21 ≤ 9 * 21 := Nat.mul_le_mul_right _ (by omega)
      omega
    have elen : (Txt.join " " (wsStr es)).length + 2 ≤ 100000 := by
      have := join_len (ws20 es)
      have hb : (wsStr es).length = es.length := by unfold wsStr; simp
      have : (wsStr es).length * 21 ≤ 2 * 21 := Nat.mul_le_mul_right _ (by omega)
      omega
    have rl : ∀ xs : List Wd, (xs.map Wd.v).length = xs.length := fun xs => List.length_map ..
    refine ⟨_, (pss_cons (ps_set (i := 1) sc_words_in.nd rfl (Or.inl rfl) (pe_split (pv 0) pe_str))
      (pss_cons (ps_if (pt_cmpR op_gt (pe_callB call_len_seq (by rfl) T.f_len (by decide +kernel) (pa_cons (pv 1) pa_nil)) pe_int (nomark _))
        (pss_one (ps_ret pe_non))
        pss_nil)
      (pss_cons (ps_set (i := 2) sc_words_in.nd rfl (Or.inl rfl) (pe_callTy call_tuple_of (by rfl) T.f_tuple (by decide +kernel) (pa_cons (pe_split (pe_ix ix_list (pv 1) pe_int (fun _ _ => rfl)) pe_str) pa_nil)))
      (pss_cons (ps_set (i := 3) sc_words_in.nd rfl (Or.inl rfl) (pe_ifExp (pt_cmpR op_eq (pe_callB call_len_seq (by rfl) T.f_len (by decide +kernel) (pa_cons (pv 1) pa_nil)) pe_int (nomark _)) (pe_callTy call_tuple_of (by rfl) T.f_tuple (by decide +kernel) (pa_cons (pe_split (pe_ix ix_list (pv 1) pe_int (fun _ _ => rfl)) pe_str) pa_nil)) (pe_tup pa_nil)))
      (pss_cons (ps_if (PW.pt (pw_or (pt_cmpR op_ne (pe_ix ix_tup (pv 2) pe_int (fun _ _ => rfl)) pe_str (nomark _)) (pw_or (pt_cmpR op_gt (pe_callB call_len_seq (by rfl) T.f_len (by decide +kernel) (pa_cons (pv 2) pa_nil)) (C8.pe_gc rfl T.i_MOST_ROUND) (nomark _)) (pw_or1 (pt_cmpR op_gt (pe_callB call_len_seq (by rfl) T.f_len (by decide +kernel) (pa_cons (pv 3) pa_nil)) (C8.pe_gc rfl T.i_MOST_ENDING) (nomark _))))))
        (pss_one (ps_ret pe_non))
        pss_nil)
      (pss_cons (ps_if (pt_not (pt_val (pe_callB (cr_all rfl) (by rfl) T.f_all (by decide +kernel) (pa_cons (pe_lc (own := [("word", 4)]) (g := gName 4) (tt := tYes) rfl sc_words_in.nd (pi_tup (pe_slice sl_tupA (pv 2) (po_some pe_int) po_none)) (blkOk_by (own := [("word", 4)]) (N := sc_words_in_N) (sc := defScope (top 32)) (by decide +kernel)) (fun _ _ _ _ _ => pg_name (i := 4) sc_words_in.nd rfl (Or.inl rfl)) (fun _ _ _ _ _ => pts_nil) (fun _ _ _ _ _ => (C8.pe_c (c_is_word T) hr (by decide) rfl (pa_cons (pv 4) (pa_cons (pe_glob (v := .ref _) rfl T.g_ROUND_STEPS rfl) pa_nil))))) pa_nil))))
        (pss_one (ps_ret pe_non))
        pss_nil)
      (pss_cons (ps_if (pt_not (pt_val (pe_callB (cr_all rfl) (by rfl) T.f_all (by decide +kernel) (pa_cons (pe_lc (own := [("word", 4)]) (g := gName 4) (tt := tYes) rfl sc_words_in.nd (pi_tup (pv 3)) (blkOk_by (own := [("word", 4)]) (N := sc_words_in_N) (sc := defScope (top 32)) (by decide +kernel)) (fun _ _ _ _ _ => pg_name (i := 4) sc_words_in.nd rfl (Or.inl rfl)) (fun _ _ _ _ _ => pts_nil) (fun _ _ _ _ _ => (C8.pe_c (c_is_word T) hr (by decide) rfl (pa_cons (pv 4) (pa_cons (pe_glob (v := .ref _) rfl T.g_ENDING_STEPS rfl) pa_nil))))) pa_nil))))
        (pss_one (ps_ret pe_non))
        pss_nil)
      (pss_cons (ps_setLc (i := 5) (own := [("word", 4)]) (g := gName 4)  rfl sc_words_in.nd rfl rfl (sw_true rfl rfl rfl (by decide +kernel)) (pi_tup (pv 2)) (blkOk_by (own := [("word", 4)]) (N := sc_words_in_N) (sc := defScope (top 32)) (by decide +kernel)) (fun _ _ _ _ _ => pg_name (i := 4) sc_words_in.nd rfl (Or.inl rfl)) (fun _ _ _ _ _ => pts_one (pt_cmpR op_eq (pe_ix (show IxR _ (rIxT K) from ix_tup) (pe_rpart (pv 4) pe_str) pe_int (fun _ _ => rfl)) pe_str (nomark _))) (fun _ _ _ _ _ => (pv 4)))
      (pss_one (ps_ret (pe_ifExp (pt_cmpR op_lt (pe_callB call_len_seq (by rfl) T.f_len (by decide +kernel) (pa_cons (pv 5) pa_nil)) pe_int (nomark _)) (pe_tup (pa_cons (pv 2) (pa_cons (pv 3) pa_nil))) pe_non))))))))))), ?_⟩
    refine q_asgL (el_split (ev_var rfl) (by decide +kernel) tlen) fun p H1 np e1 h1 => ?_
    rw [split_txt] at h1
    have parts : ∃ ps : List Str, H1 p = some (.lst (ps.map V.str)) ∧ ps.length = (if es = [] then 1 else 2) ∧ atI (ps.map V.str) 0 = some (.str (Txt.join " " (begStr ws))) ∧ (es ≠ [] → atI (ps.map V.str) 1 = some (.str (Txt.join " " (wsStr es)))) := by
      refine ⟨_, h1, ?_, ?_, ?_⟩
      · by_cases he : es = []
        · rw [if_pos he, if_pos he]; rfl
        · rw [if_neg he, if_neg he]; rfl
      · by_cases he : es = []
        · rw [if_pos he]; rfl
        · rw [if_neg he]; rfl
      · intro he; rw [if_neg he]; rfl
    obtain ⟨ps, h1, p1, p2, p3⟩ := parts
    refine q_no (et_is (et_test (ev_I0 (ev_len (ev_var rfl) (sq_of h1)) ev_c)) (by rw [List.length_map, p1]; by_cases he : es = [] <;> simp [he])) fun H2 e2 => ?_
    refine q_asgU (xs := .str "ask" :: ws.map Wd.v) (by
      have := eu_tupL (K := K) (el_split (te := tOp (rIxL K) (tVar 1) (tC (.int 0))) (σ := (L2.start sc_words_in_N [.str (txtOf ws es)]).set 1 (some (.ref p))) (ev_ixL (ev_var rfl) ev_c (sq_of (e2 _ _ h1)) p2) (b := " ") (by decide +kernel) blen)
      rw [split_beg, begV] at this
      exact this) fun f H3 nf e3 h3 => ?_
    have hf : EvU (tIf (tTest (tOp rEq (tCB (rLenS K) (tCons (tVar 1) tNil)) (tC (.int 2)))) (tCB (fun xs H Q => ∃ p ys, xs = [.ref p] ∧ ((SqL K H p ys ∧ ∀ l, H l = none → Q (.ref l) (upd H l (.tup ys))) ∨ (SqT K H p ys ∧ Q (.ref p) H))) (tCons (tM1 (fun x xs H Q => ∃ a b, x = .str a ∧ xs = [.str b] ∧ (b.length == 0) = false ∧ a.length + 2 ≤ sizeLine ∧ rNewStrs (Txt.split a b) H Q) (tOp (rIxL K) (tVar 1) (tC (.int 1))) (tC (.str " "))) tNil)) (tTup tNil)) [some (.str (txtOf ws es)), some (.ref p), some (.ref f), none, none, none] H3 (es.map Wd.v) := by
      intro H4 e4 Q' q
      have hb : EvT (tTest (tOp rEq (tCB (rLenS K) (tCons (tVar 1) tNil)) (tC (.int 2)))) [some (.str (txtOf ws es)), some (.ref p), some (.ref f), none, none, none] H3 (decide (es ≠ [])) := by
        refine et_is (et_test (ev_eq (ev_len (ev_var rfl) (sq_of ((e2.trans e3) _ _ h1))) ev_c rfl)) ?_
        rw [List.length_map, p1]
        by_cases he : es = []
        · simp [he]
        · simp [he]
      refine hb H4 e4 _ fun H5 e5 => ?_
      by_cases he : es = []
      · rw [decide_eq_false (by simpa using he)]
        refine iteF ?_
        rw [he] at q
        exact eu_tup ea_nil (by decide) H5 (e4.trans e5) Q' fun p H6 np e6 h6 => q p H6 (fresh_back e5 np) (e5.trans e6) h6
      · rw [decide_eq_true he]
        refine iteT ?_
        have := eu_tupL (K := K) (el_split (te := tOp (rIxL K) (tVar 1) (tC (.int 1))) (σ := [some (.str (txtOf ws es)), some (.ref p), some (.ref f), none, none, none]) (ev_ixL (ev_var rfl) ev_c (sq_of ((e2.trans e3) _ _ h1)) (p3 he)) (b := " ") (by decide +kernel) elen)
        rw [split_ws he, wsV] at this
        exact this H5 (e4.trans e5) Q' fun p H6 np e6 h6 => q p H6 (fresh_back e5 np) (e5.trans e6) h6
    refine q_asgU hf fun g H4 ng e4 h4 => ?_
    have h3 := e4 _ _ h3
    refine q_no (et_or0 (et_is (et_test (ev_ne (ev_ixT (ev_var rfl) ev_c (st_of h3) atI_0) ev_c rfl)) (show (!decide (V.str "ask" = V.str "ask")) = false from by decide +kernel)) (et_or0 (et_is (et_test (ev_I0 (ev_lenT (ev_var rfl) (st_of h3)) ev_c)) (by rw [List.length_cons, rl]; simp; omega)) (et_is (et_test (ev_I0 (ev_lenT (ev_var rfl) (st_of h4)) ev_c)) (by rw [rl]; simp; omega)))) fun H5 e5 => ?_
    have h3 := e5 _ _ h3
    have h4 := e5 _ _ h4
    refine q_no (et_not (a := true) (et_test (ev_is (ev_all (bs := List.replicate ws.length true) (by
      have := el_lcW (K := K) (σ := [some (.str (txtOf ws es)), some (.ref p), some (.ref f), some (.ref g), none, none]) (H := H5) (j := 4) (vs := [4]) (tt := tYes) (te := tCall (sp_is_word K) [] E0 (tCons (tVar 4) (tCons (tC (.ref (He.ga K "ROUND_STEPS"))) tNil))) (fun _ => true) (fun _ => V.bl true) (ew_sl (K := K) (lo := some 1) (te := tVar 2) (xs := .str "ask" :: ws.map Wd.v) (ev_var rfl) (eo_some ev_c) eo_none h3)
        (by rw [show (some (1 : Int)) = some ((1 : Nat) : Int) from rfl, cutV_from]; show (ws.map Wd.v).length ≤ 40000; rw [rl]; omega) (fun _ => rfl) (fun i x H1 _ _ H2 _ Q q => q H2 (Ex.refl H2)) (fun i x H1 _ hx _ => by
          rw [show (some (1 : Int)) = some ((1 : Nat) : Int) from rfl, cutV_from] at hx
          have hx : (ws.map Wd.v)[i]? = some x := hx
          rw [List.getElem?_map] at hx
          obtain ⟨wd, hwd, rfl⟩ := Option.map_eq_some_iff.mp hx
          exact ev_call (ea_cons (ev_var rfl) (ea_cons ev_c ea_nil)) (spV_of fun H1 e1 Q E q => ⟨wd, _, rfl, .inl rfl, q⟩))
      rw [show (some (1 : Int)) = some ((1 : Nat) : Int) from rfl, cutV_from, given_tr, show ((V.str "ask" :: ws.map Wd.v).drop 1).length = ws.length from rl ws] at this
      exact this)) (congrArg V.bl (all_rep _))))) fun H6 e6 => ?_
    have h3 := e6 _ _ h3
    have h4 := e6 _ _ h4
    refine q_no (et_not (a := true) (et_test (ev_is (ev_all (bs := List.replicate es.length true) (by
      have := el_lcW (K := K) (σ := [some (.str (txtOf ws es)), some (.ref p), some (.ref f), some (.ref g), none, none]) (H := H6) (j := 4) (vs := [4]) (tt := tYes) (te := tCall (sp_is_word K) [] E0 (tCons (tVar 4) (tCons (tC (.ref (He.ga K "ENDING_STEPS"))) tNil))) (fun _ => true) (fun _ => V.bl true) (ew_ev (te := tVar 3) (xs := es.map Wd.v) (ev_var rfl) h4)
        (by rw [rl]; omega) (fun _ => rfl) (fun i x H1 _ _ H2 _ Q q => q H2 (Ex.refl H2)) (fun i x H1 _ hx _ => by
          rw [List.getElem?_map] at hx
          obtain ⟨wd, hwd, rfl⟩ := Option.map_eq_some_iff.mp hx
          exact ev_call (ea_cons (ev_var rfl) (ea_cons ev_c ea_nil)) (spV_of fun H1 e1 Q E q => ⟨wd, _, rfl, .inr ⟨rfl, ok.en wd (List.mem_of_getElem? hwd)⟩, q⟩))
      rw [given_tr, rl] at this
      exact this)) (congrArg V.bl (all_rep _))))) fun H7 e7 => ?_
    have h3 := e7 _ _ h3
    have h4 := e7 _ _ h4
    refine q_asgL (xs := given (begStr ws).length (fun i => isAdd ((begStr ws).getD i "")) (fun i => V.str ((begStr ws).getD i ""))) (by
      have := el_lcW (K := K) (σ := [some (.str (txtOf ws es)), some (.ref p), some (.ref f), some (.ref g), none, none]) (H := H7) (j := 4) (vs := [4]) (tt := tTest (tOp rEq (tOp (rIxT K) (tM1 rRpart (tVar 4) (tC (.str ":"))) (tC (.int 2))) (tC (.str "add")))) (te := tVar 4) (fun i => isAdd ((begStr ws).getD i "")) (fun i => V.str ((begStr ws).getD i "")) (ew_ev (te := tVar 2) (xs := (begStr ws).map V.str) (ev_var rfl) (by rw [begV]; exact h3))
        (by rw [begV, List.length_cons, rl]; omega) (fun _ => rfl) (fun i x H1 _ hx => ?_) (fun i x H1 _ hx _ => ?_)
      rw [List.length_map] at this
      exact this
      · rw [List.getElem?_map] at hx
        obtain ⟨z, hz, rfl⟩ := Option.map_eq_some_iff.mp hx
        have ez : (begStr ws).getD i "" = z := by rw [List.getD_eq_getElem?_getD, hz]; rfl
        rw [ez]
        exact et_is (et_test (ev_eq (ev_ixU (eu_rpart (ev_var rfl) (by decide +kernel) (Nat.le_trans (beg20 ws z (List.mem_of_getElem? hz)) (by decide))) rfl) ev_c rfl)) rfl
      · rw [List.getElem?_map] at hx
        obtain ⟨z, hz, rfl⟩ := Option.map_eq_some_iff.mp hx
        have ez : (begStr ws).getD i "" = z := by rw [List.getD_eq_getElem?_getD, hz]; rfl
        rw [ez]
        exact ev_var rfl) fun q H8 nq e8 h8 => ?_
    have h3 := e8 _ _ h3
    have h4 := e8 _ _ h4
    have al : (given (begStr ws).length (fun i => isAdd ((begStr ws).getD i "")) (fun i => V.str ((begStr ws).getD i ""))).length ≤ 1 := by
      unfold given
      rw [List.length_map, adds_len]
      exact ok.ad
    refine s_retV (k_ifY (et_is (et_test (ev_I0 (ev_len (ev_var rfl) (sq_of h8)) ev_c)) (by rw [decide_eq_true]; omega)) fun H9 e9 => ?_)
    refine eu_tup (ea_cons (ev_var rfl) (ea_cons (ev_var rfl) ea_nil)) (by show 2 ≤ 100000; decide) H9 (Ex.refl _) _ fun z H10 nz e10 hz => ?_
    have ee := (((((((e1.trans e2).trans e3).trans e4).trans e5).trans e6).trans e7).trans e8).trans (e9.trans e10)
    exact hQ z f g H10 ee hz ((e9.trans e10) _ _ h3) ((e9.trans e10) _ _ h4)
end
end LS
end
-- text W7
section
set_option maxHeartbeats 4000000
/-! Loop. -/
namespace LS
open PySem PySem.Spec PyProof.Rows L2 Evl
theorem q_par {σ : L2.St} {H : Hp} {i j : Nat} {ta : TA} {tz : TS} {D : Ends} (h : ta σ H fun vs H1 => ∃ v w, vs = [v, w] ∧ tz D ((σ.set i (some v)).set j (some w)) H1) : tSeq (tPar i j ta) tz D σ H := h
theorem s_par {σ : L2.St} {H : Hp} {i j : Nat} {ta : TA} {D : Ends} (h : ta σ H fun vs H1 => ∃ v w, vs = [v, w] ∧ D.nx ((σ.set i (some v)).set j (some w)) H1) : tPar i j ta D σ H := h
theorem k_cons {σ : L2.St} {H : Hp} {te : TE} {tr : TA} {Q : List V → Hp → Prop} (h : te σ H fun v H1 => tr σ H1 fun vs H2 => Q (v :: vs) H2) : tCons te tr σ H Q := h
abbrev sc_Loop_init_N : List Str := ["self", "text", "found"]
theorem sc_Loop_init : FnScope sc_Loop_init_N ["self", "text"] (defScope (inClass (top 33) 0)) := ⟨rfl, rfl, rfl, by decide +kernel, rfl, by decide +kernel, by decide +kernel⟩
def sp_Pinit (K : PySem.W.Frag) : Sp := fun vs H Q _ => ∃ x dx ws es, vs = [.ref x, .str (txtOf ws es)] ∧ H x = some (.ins (He.ga K "Loop") dx []) ∧ LOk ws es ∧ ∀ H', Frm [x] H H' → LAt (He.ga K "Loop") H' x (txtOf ws es) ws es → Q .non H'
section
variable {P : Program} {w : World} {K : PySem.W.Frag} {mg : Str → Option Value} {base : Heap}
theorem pfl_mk {tx : Str} {r e : Addr} : putF "ending" (.ref e) (putF "round" (.ref r) (putF "text" (.str tx) [])) = pfl tx r e := by
  kernel_rfl
theorem k_Loop (T : Tx K mg) : C8.Mak P w K mg base 3 "Loop" (He.ga K "Loop") (sp_Pinit K) [] := by
  refine mkMak T.dP_init T.mkP T.g_Loop sc_Loop_init (fun _ _ _ _ _ _ us hl => match us, hl with | [_, _], _ => rfl) (fun vs H Q E h => ?_) (fun cdv A outer s H vs Q E hr h => ?_)
  · obtain ⟨x, dx, ws, es, rfl, _⟩ := h
    rfl
  · obtain ⟨x, dx, ws, es, rfl, hx, ok, hQ⟩ := h
    refine ⟨_, (pss_cons (ps_set (i := 2) sc_Loop_init.nd rfl (Or.inl rfl) (pe_ifExp (pt_val (pe_callB call_isi (by rfl) T.f_isinstance (by decide +kernel) (pa_cons (pv 1) (pa_cons (pe_bltn (v := .ty "str") (by rfl) T.f_str (by decide +kernel) rfl) pa_nil)))) (C8.pe_c (c_words_in T) hr (by decide) rfl (pa_cons (pv 1) pa_nil)) pe_non))
      (pss_cons (ps_if (pt_cmpR op_isN (pv 2) pe_non (nomark _))
        (pss_one ps_never)
        pss_nil)
      (pss_cons (ps_fld (pv 0) (pv 1) rfl)
      (pss_cons (ps_fld (pv 0) (pe_ix ix_tup (pv 2) pe_int (fun _ _ => rfl)) rfl)
      (pss_one (ps_fld (pv 0) (pe_ix ix_tup (pv 2) pe_int (fun _ _ => rfl)) rfl)))))), ?_⟩
    refine q_setV (k_ifY (et_test (ev_isi (ev_var rfl) ev_c (.ty _) (fun _ _ => .base (.str _)) rfl)) fun H1 e1 => k_call (ea_cons (ev_var rfl) ea_nil) fun H2 e2 => ⟨ws, es, rfl, ok, fun p r e H3 e3 hp hr he => ?_⟩)
    have e13 := (e1.trans e2).trans e3
    refine q_no (et_is (et_test (ev_isN (ev_var rfl))) (by simp)) fun H4 e4 => ?_
    have e14 := e13.trans e4
    refine x_fld (ev_var rfl) (ev_var rfl) (e14 _ _ hx) T.cP T.nP_text (lt1000 pl0) fun H5 f5 g5 => x_fld (ev_ixT (ev_var rfl) ev_c (st_of (f5.tup _ _ (e4 _ _ hp))) rfl) (ev_var rfl) g5 T.cP T.nP_round (lt1000 (pls pl0)) fun H6 f6 g6 => ?_
    have f56 := (Frm.ex (S := [x]) e4).trans (f5.trans f6)
    refine y_fld (ev_ixT (ev_var rfl) ev_c (st_of (f56.tup _ _ hp)) rfl) (ev_var rfl) g6 T.cP T.nP_ending (lt1000 (pls (pls pl0))) fun H7 f7 g7 => ?_
    rw [pfl_mk] at g7
    exact hQ H7 (((Frm.ex e13).trans f56).trans f7) ⟨dx, r, e, g7, (f56.trans f7).tup _ _ hr, (f56.trans f7).tup _ _ he⟩
end
abbrev sc_Loop_eq_N : List Str := ["self", "other"]
theorem sc_Loop_eq : FnScope sc_Loop_eq_N ["self", "other"] (defScope (inClass (top 33) 4)) := ⟨rfl, rfl, rfl, by decide +kernel, rfl, by decide +kernel, by decide +kernel⟩
def sp_Peq (K : PySem.W.Frag) : Sp := fun vs H Q _ => ∃ l tx ws es, vs = [.ref l, .ref l] ∧ LAt (He.ga K "Loop") H l tx ws es ∧ SpRet (.bl true) H Q
section
variable {P : Program} {w : World} {K : PySem.W.Frag} {mg : Str → Option Value} {base : Heap}
theorem f_Loop_eq (T : Tx K mg) : ∃ fd, FnOk P w K mg base CX0 1 (He.ma K (He.ga K "Loop") "__eq__") fd ["self", "other"] (sp_Peq K) ∧ Binds K fd ["self", "other"] [] := by
  obtain ⟨fd, F⟩ := T.dP_eq
  refine ⟨fd, fnOk_mk F sc_Loop_eq (fun vs H Q E h => ?_) (fun cdv A outer s H vs Q E hr h => ?_), F.bindsN (fun _ _ _ _ _ _ us hl => match us, hl with | [_, _], _ => rfl)⟩
  · obtain ⟨l, tx, ws, es, rfl, _⟩ := h
    rfl
  · obtain ⟨l, tx, ws, es, rfl, hL, hQ⟩ := h
    obtain ⟨dx, r, e, h1, h2, h3⟩ := hL.ex
    refine ⟨_, (pss_one (ps_ret (pe_and (pe_callB (C8.call_isC T.isP) (by rfl) T.f_isinstance (by decide +kernel) (pa_cons (pv 1) (pa_cons (pe_glob (v := .ref _) rfl T.g_Loop rfl) pa_nil))) (pe_one (pe_cmpR op_eq (pe_fld (pv 0) rfl) (pe_fld (pv 1) rfl) (nomark _)))))), ?_⟩
    exact s_ret (ev_andV (a := true) (b := true) (ev_isC (ev_var rfl) ev_c h1) fun _ => ev_is (ev_eq (ev_fld (ev_var rfl) h1 T.cP T.nP_text pk_text) (ev_fld (ev_var rfl) h1 T.cP T.nP_text pk_text) rfl) (congrArg V.bl (decide_eq_true rfl))) fun H1 e1 => hQ H1 e1
end
abbrev sc_check_loop_N : List Str := ["value"]
theorem sc_check_loop : FnScope sc_check_loop_N ["value"] (defScope (top 34)) := ⟨rfl, rfl, rfl, by decide +kernel, rfl, by decide +kernel, by decide +kernel⟩
def sp_check_loop (K : PySem.W.Frag) : Sp := fun vs H Q _ => ∃ l tx ws es, vs = [.ref l] ∧ LAt (He.ga K "Loop") H l tx ws es ∧ SpRet .non H Q
section
variable {P : Program} {w : World} {K : PySem.W.Frag} {mg : Str → Option Value} {base : Heap}
theorem c_check_loop (T : Tx K mg) : C8.Cal P w K mg base 1 "check_loop" (sp_check_loop K) [] := by
  refine mkCal T.d_check_loop T.g_check_loop sc_check_loop (fun _ _ _ _ _ _ us hl => match us, hl with | [_], _ => rfl) (fun vs H Q E h => ?_) (fun cdv A outer s H vs Q E hr h => ?_)
  · obtain ⟨l, tx, ws, es, rfl, _⟩ := h
    rfl
  · obtain ⟨l, tx, ws, es, rfl, hL, hQ⟩ := h
    obtain ⟨dx, r, e, h1, h2, h3⟩ := hL.ex
    refine ⟨_, (pss_one (ps_if (pt_not (pt_val (pe_callB (C8.call_isC T.isP) (by rfl) T.f_isinstance (by decide +kernel) (pa_cons (pv 0) (pa_cons (pe_glob (v := .ref _) rfl T.g_Loop rfl) pa_nil)))))
        (pss_one ps_never)
        pss_nil)), ?_⟩
    exact s_no (et_not (a := true) (et_test (ev_isC (ev_var rfl) ev_c h1))) fun H1 e1 => hQ H1 e1
end
/-! all the replies -/
namespace Mst
def foldF (n : Nat) (ws es : List Wd) (st : Mst) (rs : List (Nat × Bool)) : Mst := rs.foldl (fun st r => st.fed n ws es r.1 r.2) st
abbrev fold (n : Nat) (ws es : List Wd) (rs : List (Nat × Bool)) : Mst := foldF n ws es start rs
theorem fold_snoc {n : Nat} {ws es : List Wd} {rs : List (Nat × Bool)} {r : Nat × Bool} : fold n ws es (rs ++ [r]) = (fold n ws es rs).fed n ws es r.1 r.2 := by
  unfold fold foldF
  rw [List.foldl_append]
  rfl
theorem fold_take {n : Nat} {ws es : List Wd} {rs : List (Nat × Bool)} {r : Nat × Bool} {i : Nat} (h : rs[i]? = some r) : fold n ws es (rs.take (i + 1)) = (fold n ws es (rs.take i)).fed n ws es r.1 r.2 := by
  rw [List.take_add_one, h, ← fold_snoc]
  rfl
theorem fold_sz {n : Nat} {ws es : List Wd} (hn : 1 ≤ n) (ok : LOk ws es) : ∀ {rs : List (Nat × Bool)} {st : Mst}, (∀ r ∈ rs, r.1 ≤ 8) → 0 ≤ st.got → (foldF n ws es st rs).sz ≤ st.sz + 90 * rs.length ∧ 0 ≤ (foldF n ws es st rs).got ∧ (foldF n ws es st rs).got ≤ st.got + 8 * rs.length
  | [], st, _, h0 => ⟨by simp [foldF], h0, by simp [foldF]⟩
  | r :: rs, st, h, h0 => by
    have h1 := h r (List.mem_cons_self ..)
    obtain ⟨s1, s2⟩ := sz_fed n hn ws es st r.1 r.2
    obtain ⟨i1, i2, i3⟩ := fold_sz hn ok (rs := rs) (st := st.fed n ws es r.1 r.2) (fun x hx => h x (List.mem_cons_of_mem _ hx)) (by rw [s2]; omega)
    have e : foldF n ws es st (r :: rs) = foldF n ws es (st.fed n ws es r.1 r.2) rs := rfl
    have b1 := ok.l1
    have b2 := ok.l2
    have b : (ws.length + es.length) * (r.1 + 1) ≤ 10 * 9 := Nat.mul_le_mul (by omega) (by omega)
    rw [e, List.length_cons]
    rw [s2] at i3
    refine ⟨by omega, i2, by omega⟩
end Mst
def Good (n : Nat) (ws es : List Wd) (rs : List (Nat × Bool)) : Prop := ∀ i, i < rs.length → (Mst.fold n ws es (rs.take i)).over = false
/-- what is asked of a tale -/
structure ROk (n : Nat) (ws es : List Wd) (rs : List (Nat × Bool)) : Prop where
  len : rs.length ≤ 16
  few : ∀ r ∈ rs, r.1 ≤ n
  good : Good n ws es rs
theorem ROk.take {n : Nat} {ws es : List Wd} {rs : List (Nat × Bool)} (h : ROk n ws es rs) (k : Nat) : ROk n ws es (rs.take k) :=
  ⟨Nat.le_trans (by rw [List.length_take]; omega) h.len, fun r hr => h.few r (List.mem_of_mem_take hr), fun i hi => by
    rw [List.length_take] at hi
    rw [List.take_take, show min i k = i by omega]
    exact h.good i (by omega)⟩
theorem ROk.sz {n : Nat} {ws es : List Wd} {rs : List (Nat × Bool)} (h : ROk n ws es rs) (hn : 1 ≤ n) (h8 : n ≤ 8) (ok : LOk ws es) : (Mst.fold n ws es rs).sz ≤ 1440 ∧ 0 ≤ (Mst.fold n ws es rs).got ∧ (Mst.fold n ws es rs).got ≤ 128 := by
  obtain ⟨a, b, c⟩ := Mst.fold_sz hn ok (rs := rs) (st := Mst.start) (fun r hr => Nat.le_trans (h.few r hr) h8) (Int.le_refl _)
  have l := h.len
  have e1 : Mst.start.sz = 0 := rfl
  have e2 : Mst.start.got = 0 := rfl
  rw [e1] at a
  rw [e2] at c
  exact ⟨by show (Mst.foldF ..).sz ≤ _; omega, b, by show (Mst.foldF ..).got ≤ _; omega⟩
abbrev sc_Loop_run_N : List Str := ["self", "size", "replies", "machine", "used"]
theorem sc_Loop_run : FnScope sc_Loop_run_N ["self", "size", "replies"] (defScope (inClass (top 33) 2)) := ⟨rfl, rfl, rfl, by decide +kernel, rfl, by decide +kernel, by decide +kernel⟩
def sp_run (K : PySem.W.Frag) : Sp := fun vs H Q _ => ∃ l tx ws es, ∃ n : Nat, ∃ a rs, vs = [.ref l, .int n, .ref a] ∧ LAt (He.ga K "Loop") H l tx ws es ∧ LOk ws es ∧ 1 ≤ n ∧ n ≤ 8 ∧ RpT H a rs ∧ ROk n ws es rs ∧
  ∀ p d H', Ex H H' → H' p = some (.tup [.ref d, .int (rs.length : Nat), .bl (Mst.fold n ws es rs).over]) → PsT H' d (Mst.fold n ws es rs).out → Q (.ref p) H'
section
variable {P : Program} {w : World} {K : PySem.W.Frag} {mg : Str → Option Value} {base : Heap}
theorem m_Loop_run (T : Tx K mg) : C8.Met P w K mg base 5 (He.ga K "Loop") "run" (sp_run K) [] := by
  refine mkMet T.dP_run T.cP T.mP_run sc_Loop_run (fun _ _ _ _ _ _ us hl => match us, hl with | [_, _, _], _ => rfl) (fun vs H Q E h => ?_) (fun cdv A outer s H vs Q E hr h => ?_)
  · obtain ⟨l, tx, ws, es, n, a, rs, rfl, _⟩ := h
    rfl
  · obtain ⟨l, tx, ws, es, n, a, rs, rfl, hL, ok, hn, h8, hR, rk, hQ⟩ := h
    refine ⟨_, (pss_cons (ps_expr (C8.pe_c (c_check_size T) hr (by decide) rfl (pa_cons (pv 1) pa_nil)))
      (pss_cons (ps_expr (C8.pe_c (c_check_replies T) hr (by decide) rfl (pa_cons (pv 2) (pa_cons (pv 1) pa_nil))))
      (pss_cons (ps_par (i := 3) (j := 4) rfl sc_Loop_run.nd rfl rfl (by decide) rfl rfl (pa_cons (C8.pe_mk (k_Machine T) hr (by decide) rfl (pa_cons (pv 0) (pa_cons (pv 1) pa_nil))) (pa_cons pe_int pa_nil)) (by rfl))
      (pss_cons (ps_while PassesOwn.never (PW.pt (pw_and (pt_cmpR op_lt (pv 4) (pe_callB call_len_seq (by rfl) T.f_len (by decide +kernel) (pa_cons (pv 2) pa_nil)) (nomark _)) (pw_and1 (pt_not (pt_val (pe_fld (pv 3) rfl))))))
        (pss_cons (ps_expr (C8.pe_mt (m_Machine_feed T) hr (by decide) (pv 3) (pa_cons (pe_ix ix_tup (pe_ix ix_tup (pv 2) (pv 4) (fun _ _ => rfl)) pe_int (fun _ _ => rfl)) (pa_cons (pe_ix ix_tup (pe_ix ix_tup (pv 2) (pv 4) (fun _ _ => rfl)) pe_int (fun _ _ => rfl)) pa_nil))))
        (pss_one (ps_aug (i := 4) sc_Loop_run.nd rfl (Or.inl rfl) pe_int ip_add))))
      (pss_one (ps_ret (pe_tup (pa_cons (pe_fld (pv 3) rfl) (pa_cons (pv 4) (pa_cons (pe_fld (pv 3) rfl) pa_nil)))))))))), ?_⟩
    refine q_exprV (k_call (ea_cons (ev_var rfl) ea_nil) fun H1 e1 => ⟨n, rfl, by omega, by omega, fun H2 e2 => ?_⟩)
    refine q_exprV (k_call (ea_cons (ev_var rfl) (ea_cons (ev_var rfl) ea_nil)) fun H3 e3 => ⟨a, rs, n, rfl, hR.mono (S := []) (Frm.ex ((e1.trans e2).trans e3)), rk.few, Nat.le_trans rk.len (by decide), fun H4 e4 => ?_⟩)
    have e14 := ((e1.trans e2).trans e3).trans e4
    refine q_par (k_cons (k_make (ea_cons (ev_var rfl) (ea_cons (ev_var rfl) ea_nil)) fun m dm H5 nm e5 hm => ⟨m, dm, l, n, rfl, hm, fun H6 f6 M6 => ⟨rfl, _, _, rfl, ?_⟩⟩))
    have e6 := ex_frm e5 f6 nm
    have e16 := e14.trans e6
    have nmH : H m = none := fresh_back e14 nm
    have hm' : ∀ {Hx : Hp} {b o}, Hx b = some o → Hx m = none → b ≠ m := fun h1 h2 => ne_of_none h1 h2
    obtain ⟨vs, q1, q2⟩ := hR
    have hlen := Paired.len q2
    refine q_while (fun k σ' H' => ∃ i, i ≤ rs.length ∧ k = rs.length - i ∧ σ' = [some (.ref l), some (.int n), some (.ref a), some (.ref m), some (.int (i : Nat))] ∧ Ex H H' ∧ MAt (He.ga K "Machine") H' m l n (Mst.fold n ws es (rs.take i))) rs.length ⟨0, Nat.zero_le _, rfl, rfl, e16, M6⟩ ?_
    rintro k σ' H' ⟨i, hi, rfl, rfl, e, M⟩
    obtain ⟨dz, ca, cr, hd, g1, g2, g3, g4⟩ := M.ex
    refine ⟨decide (i < rs.length), ?_, fun hb H7 e7 => ?_, fun hb H7 e7 => ?_⟩
    · by_cases h : i < rs.length
      · rw [decide_eq_true h]
        refine et_and (a := true) (b := true) (et_is (et_test (ev_I0 (ev_var rfl) (ev_lenT (ev_var rfl) (st_of (e _ _ q1))))) (by rw [hlen]; simp; omega)) fun _ => et_not (a := false) (et_is (et_test (ev_fld (ev_var rfl) g1 T.cM T.nM_over mk_over)) (rk.good i h))
      · rw [decide_eq_false h]
        refine et_is (b := false) (et_and (a := false) (b := false) (et_is (et_test (ev_I0 (ev_var rfl) (ev_lenT (ev_var rfl) (st_of (e _ _ q1))))) (by rw [hlen]; simp; omega)) fun z => by cases z) rfl
    · have h : i < rs.length := of_decide_eq_true hb
      have ee := e.trans e7
      have M7 := M.mono (S := []) (Frm.ex e7) (by simp)
      have hvi : vs[i]? = some (vs[i]'(by omega)) := List.getElem?_eq_getElem _
      obtain ⟨⟨c, t⟩, hr, b, hb', hc⟩ := Paired.at q2 hvi
      have kc : c ≤ n := rk.few _ (List.mem_of_getElem? hr)
      obtain ⟨z1, z2, z3⟩ := (rk.take i).sz hn h8 ok
      have ixr : ∀ {H8}, Ex H7 H8 → Ev (tOp (rIxT K) (tVar 2) (tVar 4)) [some (.ref l), some (.int n), some (.ref a), some (.ref m), some (.int (i : Nat))] H8 (.ref b) := fun e8 => ev_ixT (ev_var rfl) (ev_var rfl) (st_of ((ee.trans e8) _ _ q1)) (atI_nat (by rw [hvi, hb']))
      refine ⟨fun σ2 H2 => ∃ j, j ≤ rs.length ∧ i < j ∧ σ2 = [some (.ref l), some (.int n), some (.ref a), some (.ref m), some (.int (j : Nat))] ∧ Ex H H2 ∧ MAt (He.ga K "Machine") H2 m l n (Mst.fold n ws es (rs.take j)), fun σ2 H2 ⟨j, j1, j2, j3, j4, j5⟩ => ⟨rs.length - j, by omega, j, j1, rfl, j3, j4, j5⟩, ?_⟩
      refine q_exprV (k_meth (ev_var rfl) (e7 _ _ g1) (mk_no (by decide +kernel)) (ea_cons (ev_ixT (ixr (Ex.refl _)) ev_c (st_of (ee _ _ hc)) rfl) (ea_cons (ev_ixT (ixr (Ex.refl _)) ev_c (st_of (ee _ _ hc)) rfl) ea_nil)) fun H8 e8 => ?_)
      have b1 := ok.l1
      have b2 := ok.l2
      have bb : (ws.length + es.length + 2) * (c + 1) ≤ 12 * 9 := Nat.mul_le_mul (by omega) (by omega)
      refine ⟨m, l, n, _, tx, ws, es, c, t, rfl, M7.mono (S := []) (Frm.ex e8) (by simp), hL.mono (S := []) (Frm.ex (ee.trans e8)) (by simp), hn, z2, by omega, by omega, fun H9 f9 M9 => ?_⟩
      refine s_aug rfl ev_c fun H10 e10 => ⟨i + 1, h, Nat.lt_succ_self _, rfl, ((ex_frm (ee.trans e8) f9 nmH)).trans e10, ?_⟩
      rw [Mst.fold_take hr]
      exact M9.mono (S := []) (Frm.ex e10) (by simp)
    · have h : i = rs.length := by have := of_decide_eq_false hb; omega
      subst h
      rw [List.take_length] at M g1 g4
      have g1 := e7 _ _ g1
      refine s_retV (eu_tup (ea_cons (ev_fld (ev_var rfl) g1 T.cM T.nM_handed mk_handed) (ea_cons (ev_var rfl) (ea_cons (ev_fld (ev_var rfl) g1 T.cM T.nM_over mk_over) ea_nil))) (by show 3 ≤ 100000; decide) H7 (Ex.refl _) _ fun p H8 np e8 hp => ?_)
      exact hQ p hd H8 ((e.trans e7).trans e8) hp (g4.mono (S := []) (Frm.ex (e7.trans e8)))
end
end LS
end
-- text W8
section
set_option maxHeartbeats 4000000
/-! Moment; Reading's making, go_to, len, repr. -/
namespace LS
open PySem PySem.Spec PyProof.Rows L2 Evl
/-! ### what no frame of the walk holds -/
def kept : HO → Bool
  | .ins _ _ fs => (fs.lookup ("came" : Str)).isSome || ((fs.lookup ("before" : Str)).isSome || (fs.lookup ("ending" : Str)).isSome)
  | .tup _ => true
  | .tbl _ => true
  | .ext _ => true
  | _ => false
def ofl (a m : Addr) (bv : V) : List (Str × V) := [("replies", .ref a), ("machine", .ref m), ("before", bv)]
def rdl (l : Addr) (n : Nat) (o a hd cr : Addr) (ov : Bool) : List (Str × V) := [("loop", .ref l), ("size", .int n), ("busy", .bl false), ("last", .ref o), ("replies", .ref a), ("pieces", .ref hd), ("rest", .ref cr), ("stopped", .bl ov)]
section
variable {a m l o hd cr : Addr} {n : Nat} {bv : V} {ov : Bool}
theorem ok_replies : (ofl a m bv).lookup ("replies" : Str) = some (.ref a) := by unfold ofl; rw [lk_hit]
theorem ok_machine : (ofl a m bv).lookup ("machine" : Str) = some (.ref m) := by unfold ofl; rw [lk_skip (by decide +kernel), lk_hit]
theorem ok_before : (ofl a m bv).lookup ("before" : Str) = some bv := by unfold ofl; rw [lk_skip (by decide +kernel), lk_skip (by decide +kernel), lk_hit]
theorem rk_loop : (rdl l n o a hd cr ov).lookup ("loop" : Str) = some (.ref l) := by unfold rdl; rw [lk_hit]
theorem rk_size : (rdl l n o a hd cr ov).lookup ("size" : Str) = some (.int n) := by unfold rdl; rw [lk_skip (by decide +kernel), lk_hit]
theorem rk_busy : (rdl l n o a hd cr ov).lookup ("busy" : Str) = some (.bl false) := by unfold rdl; rw [lk_skip (by decide +kernel), lk_skip (by decide +kernel), lk_hit]
theorem rk_last : (rdl l n o a hd cr ov).lookup ("last" : Str) = some (.ref o) := by unfold rdl; rw [lk_skip (by decide +kernel), lk_skip (by decide +kernel), lk_skip (by decide +kernel), lk_hit]
theorem rk_replies : (rdl l n o a hd cr ov).lookup ("replies" : Str) = some (.ref a) := by unfold rdl; rw [lk_skip (by decide +kernel), lk_skip (by decide +kernel), lk_skip (by decide +kernel), lk_skip (by decide +kernel), lk_hit]
theorem rk_pieces : (rdl l n o a hd cr ov).lookup ("pieces" : Str) = some (.ref hd) := by unfold rdl; rw [lk_skip (by decide +kernel), lk_skip (by decide +kernel), lk_skip (by decide +kernel), lk_skip (by decide +kernel), lk_skip (by decide +kernel), lk_hit]
theorem rk_rest : (rdl l n o a hd cr ov).lookup ("rest" : Str) = some (.ref cr) := by unfold rdl; rw [lk_skip (by decide +kernel), lk_skip (by decide +kernel), lk_skip (by decide +kernel), lk_skip (by decide +kernel), lk_skip (by decide +kernel), lk_skip (by decide +kernel), lk_hit]
theorem rk_stopped : (rdl l n o a hd cr ov).lookup ("stopped" : Str) = some (.bl ov) := by unfold rdl; rw [lk_skip (by decide +kernel), lk_skip (by decide +kernel), lk_skip (by decide +kernel), lk_skip (by decide +kernel), lk_skip (by decide +kernel), lk_skip (by decide +kernel), lk_skip (by decide +kernel), lk_hit]
theorem rk_no {f : Str} (h0 : ¬ ("loop" : Str) = f) (h1 : ¬ ("size" : Str) = f) (h2 : ¬ ("busy" : Str) = f) (h3 : ¬ ("last" : Str) = f) (h4 : ¬ ("replies" : Str) = f) (h5 : ¬ ("pieces" : Str) = f) (h6 : ¬ ("rest" : Str) = f) (h7 : ¬ ("stopped" : Str) = f) : (rdl l n o a hd cr ov).lookup f = none := by
  unfold rdl; rw [lk_skip h0, lk_skip h1, lk_skip h2, lk_skip h3, lk_skip h4, lk_skip h5, lk_skip h6, lk_skip h7]; rfl
theorem kept_1 {C dx : Addr} {fs : List (Str × V)} {v : V} (h : fs.lookup ("came" : Str) = some v) : kept (.ins C dx fs) = true := by unfold kept; dsimp only; rw [h]; rfl
theorem kept_2 {C dx : Addr} {fs : List (Str × V)} {v : V} (h : fs.lookup ("before" : Str) = some v) : kept (.ins C dx fs) = true := by unfold kept; dsimp only; rw [h]; simp
theorem kept_3 {C dx : Addr} {fs : List (Str × V)} {v : V} (h : fs.lookup ("ending" : Str) = some v) : kept (.ins C dx fs) = true := by unfold kept; dsimp only; rw [h]; simp
theorem kp_M {C dx ca : Addr} {sd : Bool} {g : Int} : kept (.ins C dx (mfl l n ca cr sd g hd ov)) = true := kept_1 mk_came
theorem kp_O {C dx : Addr} : kept (.ins C dx (ofl a m bv)) = true := kept_2 ok_before
theorem kp_P {C dx : Addr} {tx : Str} {r e : Addr} : kept (.ins C dx (pfl tx r e)) = true := kept_3 pk_ending
theorem kp_R {C dx : Addr} : kept (.ins C dx (rdl l n o a hd cr ov)) = false := by
  show (((rdl l n o a hd cr ov).lookup ("came" : Str)).isSome || (((rdl l n o a hd cr ov).lookup ("before" : Str)).isSome || ((rdl l n o a hd cr ov).lookup ("ending" : Str)).isSome)) = false
  rw [rk_no (by decide +kernel) (by decide +kernel) (by decide +kernel) (by decide +kernel) (by decide +kernel) (by decide +kernel) (by decide +kernel) (by decide +kernel), rk_no (by decide +kernel) (by decide +kernel) (by decide +kernel) (by decide +kernel) (by decide +kernel) (by decide +kernel) (by decide +kernel) (by decide +kernel), rk_no (by decide +kernel) (by decide +kernel) (by decide +kernel) (by decide +kernel) (by decide +kernel) (by decide +kernel) (by decide +kernel) (by decide +kernel)]
  rfl
end
/-- what may change is no machine, moment, loop, tuple -/
def Saf (H : Hp) (S : List Addr) : Prop := ∀ b ∈ S, ∀ o, H b = some o → kept o = false
theorem Saf.nil {H : Hp} : Saf H [] := fun b h => by cases h
theorem Saf.one {H : Hp} {x : Addr} {o : HO} (h : H x = some o) (k : kept o = false) : Saf H [x] := fun b hb o' h' => by
  rw [List.mem_singleton.mp hb, h] at h'
  injection h' with h'
  rw [← h']; exact k
theorem Saf.no {H : Hp} {S : List Addr} {b : Addr} {o : HO} (s : Saf H S) (h : H b = some o) (k : kept o = true) : b ∉ S := fun hb => by
  have := s b hb o h
  rw [k] at this; cases this
section
variable {C H H1 m l n st} {S : List Addr}
theorem MAt.saf {C : Addr} {H H1 : Hp} {m l : Addr} {n : Nat} {st : Mst} (h : MAt C H m l n st) (e : Frm S H H1) (s : Saf H S) : MAt C H1 m l n st := by
  obtain ⟨dx, ca, cr, hd, h1, _⟩ := h.ex
  exact h.mono e (s.no h1 kp_M)
theorem LAt.saf {C : Addr} {H H1 : Hp} {l : Addr} {tx : Str} {ws es : List Wd} (h : LAt C H l tx ws es) (e : Frm S H H1) (s : Saf H S) : LAt C H1 l tx ws es := by
  obtain ⟨dx, r, ee, h1, _⟩ := h.ex
  exact h.mono e (s.no h1 kp_P)
end
/-! ### the chain of moments -/
def OAt (K : PySem.W.Frag) (H : Hp) (o l : Addr) (n : Nat) (ws es : List Wd) (rs : List (Nat × Bool)) (bv : V) : Prop :=
  ∃ dx a m, H o = some (.ins (He.ga K "Moment") dx (ofl a m bv)) ∧ RpT H a rs ∧ MAt (He.ga K "Machine") H m l n (Mst.fold n ws es rs)
/-- the moments of the replies, the last first -/
def Ch (K : PySem.W.Frag) (H : Hp) (l : Addr) (n : Nat) (ws es : List Wd) : List (Nat × Bool) → Addr → Prop
  | [], o => OAt K H o l n ws es [] .non
  | r :: rr, o => ∃ o', OAt K H o l n ws es (rr.reverse ++ [r]) (.ref o') ∧ Ch K H l n ws es rr o'
section
variable {K : PySem.W.Frag} {H H1 : Hp} {o l : Addr} {n : Nat} {ws es : List Wd} {rs rr : List (Nat × Bool)} {bv : V} {S : List Addr}
theorem OAt.saf (h : OAt K H o l n ws es rs bv) (e : Frm S H H1) (s : Saf H S) : OAt K H1 o l n ws es rs bv := by
  obtain ⟨dx, a, m, h1, h2, h3⟩ := h
  exact ⟨dx, a, m, e.keep _ _ h1 (s.no h1 kp_O), h2.mono e, h3.saf e s⟩
theorem Ch.saf (e : Frm S H H1) (s : Saf H S) : ∀ {rr : List (Nat × Bool)} {o : Addr}, Ch K H l n ws es rr o → Ch K H1 l n ws es rr o
  | [], _, h => OAt.saf h e s
  | _ :: _, _, h => let ⟨o', h1, h2⟩ := h; ⟨o', h1.saf e s, Ch.saf e s h2⟩
theorem Ch.top : ∀ {rr : List (Nat × Bool)} {o : Addr}, Ch K H l n ws es rr o → ∃ bv, OAt K H o l n ws es rr.reverse bv ∧ ((rr = [] ∧ bv = .non) ∨ ∃ r r2 o', rr = r :: r2 ∧ bv = .ref o' ∧ Ch K H l n ws es r2 o')
  | [], _, h => ⟨.non, h, .inl ⟨rfl, rfl⟩⟩
  | r :: rr, _, h => let ⟨o', h1, h2⟩ := h; ⟨.ref o', by rw [List.reverse_cons]; exact h1, .inr ⟨r, rr, o', rfl, rfl, h2⟩⟩
end
/-- the reading stands at x -/
structure RAt (K : PySem.W.Frag) (H : Hp) (x l : Addr) (n : Nat) (ws es : List Wd) (rs : List (Nat × Bool)) : Prop where
  ex : ∃ dx o a hd cr, H x = some (.ins (He.ga K "Reading") dx (rdl l n o a hd cr (Mst.fold n ws es rs).over)) ∧ Ch K H l n ws es rs.reverse o ∧ RpT H a rs ∧ PsT H hd (Mst.fold n ws es rs).out ∧ TI H cr (Mst.fold n ws es rs).rest
theorem RAt.saf {K : PySem.W.Frag} {H H1 : Hp} {x l : Addr} {n : Nat} {ws es : List Wd} {rs : List (Nat × Bool)} {S : List Addr} (h : RAt K H x l n ws es rs) (e : Frm S H H1) (s : Saf H S) (hx : x ∉ S) : RAt K H1 x l n ws es rs := by
  obtain ⟨dx, o, a, hd, cr, h1, h2, h3, h4, h5⟩ := h.ex
  exact ⟨dx, o, a, hd, cr, e.keep _ _ h1 hx, h2.saf e s, h3.mono e, h4.mono e, h5.mono e⟩
abbrev sc_Moment_init_N : List Str := ["self", "replies", "machine", "before"]
theorem sc_Moment_init : FnScope sc_Moment_init_N ["self", "replies", "machine", "before"] (defScope (inClass (top 36) 0)) := ⟨rfl, rfl, rfl, by decide +kernel, rfl, by decide +kernel, by decide +kernel⟩
def sp_Oinit (K : PySem.W.Frag) : Sp := fun vs H Q _ => ∃ x dx a m bv, vs = [.ref x, .ref a, .ref m, bv] ∧ H x = some (.ins (He.ga K "Moment") dx []) ∧ ∀ H', Frm [x] H H' → H' x = some (.ins (He.ga K "Moment") dx (ofl a m bv)) → Q .non H'
section
variable {P : Program} {w : World} {K : PySem.W.Frag} {mg : Str → Option Value} {base : Heap}
theorem ofl_mk {a m : Addr} {bv : V} : putF "before" bv (putF "machine" (.ref m) (putF "replies" (.ref a) [])) = ofl a m bv := by
  kernel_rfl
theorem k_Moment (T : Tx K mg) : C8.Mak P w K mg base 1 "Moment" (He.ga K "Moment") (sp_Oinit K) [] := by
  refine mkMak T.dO_init T.mkO T.g_Moment sc_Moment_init (fun _ _ _ _ _ _ us hl => match us, hl with | [_, _, _, _], _ => rfl) (fun vs H Q E h => ?_) (fun cdv A outer s H vs Q E hr h => ?_)
  · obtain ⟨x, dx, a, m, bv, rfl, _⟩ := h
    rfl
  · obtain ⟨x, dx, a, m, bv, rfl, hx, hQ⟩ := h
    refine ⟨_, (pss_cons (ps_fld (pv 0) (pv 1) rfl)
      (pss_cons (ps_fld (pv 0) (pv 2) rfl)
      (pss_one (ps_fld (pv 0) (pv 3) rfl)))), ?_⟩
    refine x_fld (ev_var rfl) (ev_var rfl) hx T.cO T.nO_replies (lt1000 pl0) fun H1 f1 g1 => x_fld (ev_var rfl) (ev_var rfl) g1 T.cO T.nO_machine (lt1000 (pls pl0)) fun H2 f2 g2 => y_fld (ev_var rfl) (ev_var rfl) g2 T.cO T.nO_before (lt1000 (pls (pls pl0))) fun H3 f3 g3 => ?_
    rw [ofl_mk] at g3
    exact hQ H3 ((f1.trans f2).trans f3) g3
end
abbrev sc_Reading_go_to_N : List Str := ["self", "moment"]
theorem sc_Reading_go_to : FnScope sc_Reading_go_to_N ["self", "moment"] (defScope (inClass (top 37) 1)) := ⟨rfl, rfl, rfl, by decide +kernel, rfl, by decide +kernel, by decide +kernel⟩
def GoPut (l : Addr) (n : Nat) (fs : List (Str × V)) : Prop := fs.length ≤ 8 ∧ ∀ o a hd cr ov, putF "stopped" (.bl ov) (putF "rest" (.ref cr) (putF "pieces" (.ref hd) (putF "replies" (.ref a) (putF "last" (.ref o) fs)))) = rdl l n o a hd cr ov
def sp_go_to (K : PySem.W.Frag) : Sp := fun vs H Q _ => ∃ x dx fs l n ws es o rr, vs = [.ref x, .ref o] ∧ H x = some (.ins (He.ga K "Reading") dx fs) ∧ kept (.ins (He.ga K "Reading") dx fs) = false ∧ GoPut l n fs ∧ Ch K H l n ws es rr o ∧ ∀ H', Frm [x] H H' → RAt K H' x l n ws es rr.reverse → Q .non H'
section
variable {P : Program} {w : World} {K : PySem.W.Frag} {mg : Str → Option Value} {base : Heap}
theorem m_Reading_go_to (T : Tx K mg) : C8.Met P w K mg base 1 (He.ga K "Reading") "go_to" (sp_go_to K) [] := by
  refine mkMet T.dR_go_to T.cR T.mR_go_to sc_Reading_go_to (fun _ _ _ _ _ _ us hl => match us, hl with | [_, _], _ => rfl) (fun vs H Q E h => ?_) (fun cdv A outer s H vs Q E hr h => ?_)
  · obtain ⟨x, dx, fs, l, n, ws, es, o, rr, rfl, _⟩ := h
    rfl
  · obtain ⟨x, dx, fs, l, n, ws, es, o, rr, rfl, hx, hk, ⟨z1, z2⟩, hC, hQ⟩ := h
    obtain ⟨bv, ⟨dy, a, m, ho, hR, hM⟩, _⟩ := hC.top
    obtain ⟨dm, ca, cr, hd, m1, m2, m3, m4⟩ := hM.ex
    have sx := Saf.one hx hk
    have ox := sx.no ho kp_O
    have mx := sx.no m1 kp_M
    refine ⟨_, (pss_cons (ps_fld (pv 0) (pv 1) rfl)
      (pss_cons (ps_fld (pv 0) (pe_fld (pv 1) rfl) rfl)
      (pss_cons (ps_fld (pv 0) (pe_fld (pe_fld (pv 1) rfl) rfl) rfl)
      (pss_cons (ps_fld (pv 0) (pe_fld (pe_fld (pv 1) rfl) rfl) rfl)
      (pss_one (ps_fld (pv 0) (pe_fld (pe_fld (pv 1) rfl) rfl) rfl)))))), ?_⟩
    refine x_fld (ev_var rfl) (ev_var rfl) hx T.cR T.nR_last (lt1000 z1) fun H1 f1 g1 => ?_
    refine x_fld (ev_fld (ev_var rfl) (f1.keep _ _ ho ox) T.cO T.nO_replies ok_replies) (ev_var rfl) g1 T.cR T.nR_replies (lt1000 (pls z1)) fun H2 f2 g2 => ?_
    have f2 := f1.trans f2
    refine x_fld (ev_fld (ev_fld (ev_var rfl) (f2.keep _ _ ho ox) T.cO T.nO_machine ok_machine) (f2.keep _ _ m1 mx) T.cM T.nM_handed mk_handed) (ev_var rfl) g2 T.cR T.nR_pieces (lt1000 (pls (pls z1))) fun H3 f3 g3 => ?_
    have f3 := f2.trans f3
    refine x_fld (ev_fld (ev_fld (ev_var rfl) (f3.keep _ _ ho ox) T.cO T.nO_machine ok_machine) (f3.keep _ _ m1 mx) T.cM T.nM_carried mk_carried) (ev_var rfl) g3 T.cR T.nR_rest (lt1000 (pls (pls (pls z1)))) fun H4 f4 g4 => ?_
    have f4 := f3.trans f4
    refine y_fld (ev_fld (ev_fld (ev_var rfl) (f4.keep _ _ ho ox) T.cO T.nO_machine ok_machine) (f4.keep _ _ m1 mx) T.cM T.nM_over mk_over) (ev_var rfl) g4 T.cR T.nR_stopped (lt1000 (pls (pls (pls (pls z1))))) fun H5 f5 g5 => ?_
    have f5 := f4.trans f5
    rw [z2] at g5
    exact hQ H5 f5 ⟨dx, o, a, hd, cr, g5, by rw [List.reverse_reverse]; exact hC.saf f5 sx, hR.mono f5, m4.mono f5, m3.mono f5⟩
end
theorem k_methQ {σ : L2.St} {H : Hp} {ta : TE} {tt : TA} {a C dx : Addr} {fs : List (Str × V)} {m : Str} {sp : Sp} {E : XK} {Q : VK} (h : Ev ta σ H (.ref a)) (ho : H a = some (.ins C dx fs)) (hl : fs.lookup m = none) (k : ∀ H1, Ex H H1 → tt σ H1 fun vs H2 => sp (.ref a :: (vs ++ [])) H2 Q E) : tMeth C m sp [] E ta tt σ H Q :=
  h H (Ex.refl H) _ fun H1 e1 => ⟨a, dx, fs, rfl, e1 _ _ ho, hl, k H1 e1⟩
/-- an instance made, its arguments first -/
theorem k_makeQ {σ : L2.St} {H : Hp} {tt : TA} {C : Addr} {sp : Sp} {E : XK} {Q : VK} (k : tt σ H fun vs H0 => ∀ x dx H1, H0 x = none → Ex H0 H1 → H1 x = some (.ins C dx []) → sp (.ref x :: (vs ++ [])) H1 (fun v H2 => v = .non ∧ Q (.ref x) H2) E)
    (mono : ∀ A B : List V → Hp → Prop, (∀ vs H, A vs H → B vs H) → tt σ H A → tt σ H B) : tMake C sp [] E tt σ H Q :=
  mono _ _ (fun vs H0 h x dx nx ndx hne => h x dx _ nx ((Ex.new ndx).trans (Ex.new (by rw [upd_ne (Ne.symm hne)]; exact nx))) upd_same) k
theorem k_mk {σ : L2.St} {H : Hp} {tt : TA} {C : Addr} {sp : Sp} {E : XK} {Q : VK} (k : tt σ H fun vs H1 => ∀ x dx, H1 x = none → H1 dx = none → dx ≠ x → sp (.ref x :: (vs ++ [])) (upd (upd H1 dx (.own x)) x (.ins C dx [])) (fun v H2 => v = .non ∧ Q (.ref x) H2) E) : tMake C sp [] E tt σ H Q := k
theorem mk_ex {H : Hp} {x dx : Addr} {C : Addr} (nx : H x = none) (ndx : H dx = none) (hne : dx ≠ x) : Ex H (upd (upd H dx (.own x)) x (.ins C dx [])) := (Ex.new ndx).trans (Ex.new (by rw [upd_ne (Ne.symm hne)]; exact nx))
abbrev sc_Reading_init_N : List Str := ["self", "loop", "size"]
theorem sc_Reading_init : FnScope sc_Reading_init_N ["self", "loop", "size"] (defScope (inClass (top 37) 0)) := ⟨rfl, rfl, rfl, by decide +kernel, rfl, by decide +kernel, by decide +kernel⟩
def sp_Rinit (K : PySem.W.Frag) : Sp := fun vs H Q _ => ∃ x dx l tx ws es, ∃ n : Nat, vs = [.ref x, .ref l, .int n] ∧ H x = some (.ins (He.ga K "Reading") dx []) ∧ LAt (He.ga K "Loop") H l tx ws es ∧ 1 ≤ n ∧ n ≤ 8 ∧ ∀ H', Frm [x] H H' → RAt K H' x l n ws es [] → Q .non H'
section
variable {P : Program} {w : World} {K : PySem.W.Frag} {mg : Str → Option Value} {base : Heap}
theorem rdl_mk {l : Addr} {n : Nat} : GoPut l n (putF "busy" (.bl false) (putF "size" (.int n) (putF "loop" (.ref l) []))) := ⟨pls (Nat.le_trans (pls (Nat.le_trans (pls pl0) (by decide : 1 ≤ 6))) (by decide : 7 ≤ 7)), fun o a hd cr ov => by
  kernel_rfl⟩
theorem kp_R0 {C dx l : Addr} {n : Nat} : kept (.ins C dx (putF "busy" (.bl false) (putF "size" (.int n) (putF "loop" (.ref l) [])))) = false := by
  have e : (putF "busy" (V.bl false) (putF "size" (V.int n) (putF "loop" (V.ref l) [])) : List (Str × V)) = [(("loop" : Str), V.ref l), (("size" : Str), V.int n), (("busy" : Str), V.bl false)] := by
    kernel_rfl
  rw [e]
  show ((List.lookup ("came" : Str) [(("loop" : Str), V.ref l), ("size", .int n), ("busy", .bl false)]).isSome || ((List.lookup ("before" : Str) [(("loop" : Str), V.ref l), ("size", .int n), ("busy", .bl false)]).isSome || (List.lookup ("ending" : Str) [(("loop" : Str), V.ref l), ("size", .int n), ("busy", .bl false)]).isSome)) = false
  rw [lk_skip (by decide +kernel), lk_skip (by decide +kernel), lk_skip (by decide +kernel), lk_skip (by decide +kernel), lk_skip (by decide +kernel), lk_skip (by decide +kernel), lk_skip (by decide +kernel), lk_skip (by decide +kernel), lk_skip (by decide +kernel)]
  rfl
theorem k_Reading (T : Tx K mg) : C8.Mak P w K mg base 3 "Reading" (He.ga K "Reading") (sp_Rinit K) [] := by
  refine mkMak T.dR_init T.mkR T.g_Reading sc_Reading_init (fun _ _ _ _ _ _ us hl => match us, hl with | [_, _, _], _ => rfl) (fun vs H Q E h => ?_) (fun cdv A outer s H vs Q E hr h => ?_)
  · obtain ⟨x, dx, l, tx, ws, es, n, rfl, _⟩ := h
    rfl
  · obtain ⟨x, dx, l, tx, ws, es, n, rfl, hx, hL, hn, h8, hQ⟩ := h
    refine ⟨_, (pss_cons (ps_expr (C8.pe_c (c_check_loop T) hr (by decide) rfl (pa_cons (pv 1) pa_nil)))
      (pss_cons (ps_expr (C8.pe_c (c_check_size T) hr (by decide) rfl (pa_cons (pv 2) pa_nil)))
      (pss_cons (ps_fld (pv 0) (pv 1) rfl)
      (pss_cons (ps_fld (pv 0) (pv 2) rfl)
      (pss_cons (ps_fld (pv 0) pe_bl rfl)
      (pss_one (ps_expr (C8.pe_mt (m_Reading_go_to T) hr (by decide) (pv 0) (pa_cons (C8.pe_mk (k_Moment T) hr (by decide) rfl (pa_cons (pe_tup pa_nil) (pa_cons (C8.pe_mk (k_Machine T) hr (by decide) rfl (pa_cons (pv 1) (pa_cons (pv 2) pa_nil))) (pa_cons pe_non pa_nil)))) pa_nil))))))))), ?_⟩
    refine q_exprV (k_call (ea_cons (ev_var rfl) ea_nil) fun H1 e1 => ⟨l, tx, ws, es, rfl, hL.mono (S := []) (Frm.ex e1) (by simp), fun H2 e2 => ?_⟩)
    refine q_exprV (k_call (ea_cons (ev_var rfl) ea_nil) fun H3 e3 => ⟨n, rfl, by omega, by omega, fun H4 e4 => ?_⟩)
    have e14 := ((e1.trans e2).trans e3).trans e4
    refine x_fld (ev_var rfl) (ev_var rfl) (e14 _ _ hx) T.cR T.nR_loop (lt1000 pl0) fun H5 f5 g5 => x_fld (ev_var rfl) (ev_var rfl) g5 T.cR T.nR_size (lt1000 (pls pl0)) fun H6 f6 g6 => x_fld ev_c (ev_var rfl) g6 T.cR T.nR_busy (lt1000 (pls (pls pl0))) fun H7 f7 g7 => ?_
    have f17 := (Frm.ex (S := [x]) e14).trans ((f5.trans f6).trans f7)
    refine s_exprV (k_methQ (ev_var rfl) g7 (by kernel_rfl) fun H8 e8 => ?_)
    refine k_cons (k_mk (k_cons (eu_tup ea_nil (by decide) H8 (Ex.refl _) _ fun a H9 na e9 ha => ?_)))
    refine k_cons (k_make (ea_cons (ev_var rfl) (ea_cons (ev_var rfl) ea_nil)) fun m dm H10 nm e10 hm => ⟨m, dm, l, n, rfl, hm, fun H11 f11 M11 => ⟨rfl, ?_⟩⟩)
    intro o do_ no ndo hne
    generalize hH : upd (upd H11 do_ (.own o)) o _ = H12
    have e12 : Ex H11 H12 := by rw [← hH]; exact mk_ex no ndo hne
    have ho : H12 o = some (.ins (He.ga K "Moment") do_ []) := by rw [← hH]; exact upd_same
    clear hH
    refine ⟨o, do_, a, m, _, rfl, ho, fun H13 f13 h13 => ⟨rfl, ?_⟩⟩
    have e11 := ex_frm e10 f11 nm
    have e13 := ex_frm e12 f13 no
    have e813 := ((e8.trans e9).trans e11).trans e13
    refine ⟨x, dx, _, l, n, ws, es, o, [], rfl, e813 _ _ g7, kp_R0, rdl_mk, ⟨do_, a, m, h13, ⟨[], (e11.trans e13) _ _ ha, .nil⟩, M11.mono (S := []) (Frm.ex e13) (by simp)⟩, fun H14 f14 R14 => ?_⟩
    exact hQ H14 ((f17.trans (Frm.ex e813)).trans f14) R14
end
abbrev sc_Reading_check_free_N : List Str := ["self"]
theorem sc_Reading_check_free : FnScope sc_Reading_check_free_N ["self"] (defScope (inClass (top 37) 2)) := ⟨rfl, rfl, rfl, by decide +kernel, rfl, by decide +kernel, by decide +kernel⟩
def sp_check_free (K : PySem.W.Frag) : Sp := fun vs H Q _ => ∃ x l n ws es rs, vs = [.ref x] ∧ RAt K H x l n ws es rs ∧ SpRet .non H Q
section
variable {P : Program} {w : World} {K : PySem.W.Frag} {mg : Str → Option Value} {base : Heap}
theorem m_Reading_check_free (T : Tx K mg) : C8.Met P w K mg base 1 (He.ga K "Reading") "check_free" (sp_check_free K) [] := by
  refine mkMet T.dR_check_free T.cR T.mR_check_free sc_Reading_check_free (fun _ _ _ _ _ _ us hl => match us, hl with | [_], _ => rfl) (fun vs H Q E h => ?_) (fun cdv A outer s H vs Q E hr h => ?_)
  · obtain ⟨x, l, n, ws, es, rs, rfl, _⟩ := h
    rfl
  · obtain ⟨x, l, n, ws, es, rs, rfl, hR, hQ⟩ := h
    obtain ⟨dx, o, a, hd, cr, h1, _⟩ := hR.ex
    refine ⟨_, (pss_one (ps_if (pt_val (pe_fld (pv 0) rfl))
        (pss_one ps_never)
        pss_nil)), ?_⟩
    exact s_no (et_test (ev_fld (ev_var rfl) h1 T.cR T.nR_busy rk_busy)) fun H1 e1 => hQ H1 e1
end
abbrev sc_Reading_len_N : List Str := ["self"]
theorem sc_Reading_len : FnScope sc_Reading_len_N ["self"] (defScope (inClass (top 37) 8)) := ⟨rfl, rfl, rfl, by decide +kernel, rfl, by decide +kernel, by decide +kernel⟩
def sp_Rlen (K : PySem.W.Frag) : Sp := fun vs H Q _ => ∃ x l n ws es rs, vs = [.ref x] ∧ RAt K H x l n ws es rs ∧ SpRet (.int (rs.length : Nat)) H Q
section
variable {P : Program} {w : World} {K : PySem.W.Frag} {mg : Str → Option Value} {base : Heap}
theorem f_Reading_len (T : Tx K mg) : ∃ fd, FnOk P w K mg base CX0 1 (He.ma K (He.ga K "Reading") "__len__") fd ["self"] (sp_Rlen K) ∧ Binds K fd ["self"] [] := by
  obtain ⟨fd, F⟩ := T.dR_len
  refine ⟨fd, fnOk_mk F sc_Reading_len (fun vs H Q E h => ?_) (fun cdv A outer s H vs Q E hr h => ?_), F.bindsN (fun _ _ _ _ _ _ us hl => match us, hl with | [_], _ => rfl)⟩
  · obtain ⟨x, l, n, ws, es, rs, rfl, _⟩ := h
    rfl
  · obtain ⟨x, l, n, ws, es, rs, rfl, hR, hQ⟩ := h
    obtain ⟨dx, o, a, hd, cr, h1, _, ⟨vs, h2, h3⟩, _⟩ := hR.ex
    refine ⟨_, (pss_one (ps_ret (pe_callB call_len_seq (by rfl) T.f_len (by decide +kernel) (pa_cons (pe_fld (pv 0) rfl) pa_nil)))), ?_⟩
    exact s_ret (ev_lenT (ev_fld (ev_var rfl) h1 T.cR T.nR_replies rk_replies) (st_of h2)) fun H1 e1 => by rw [Paired.len h3]; exact hQ H1 e1
end
def rpStr (k : Nat) : Str := ("Reading(" : Str) ++ toString (k : Int) ++ (" replies)" : Str)
theorem rp_ok : ∀ k : Fin 17, ((Str.empty ++ ("Reading(" : Str)).length ≤ sizeLine ∧ ((k.val : Int)).natAbs.log2 < 1920) ∧ (Str.empty ++ ("Reading(" : Str) ++ (toString (k.val : Int) : Str)).length ≤ sizeLine ∧ (Str.empty ++ ("Reading(" : Str) ++ (toString (k.val : Int) : Str) ++ (" replies)" : Str)).length ≤ sizeLine ∧ Str.empty ++ ("Reading(" : Str) ++ (toString (k.val : Int) : Str) ++ (" replies)" : Str) = rpStr k.val := by decide +kernel
theorem k_fmtI {σ : L2.St} {H : Hp} {te : TE} {ts : List TE} {acc : Str} {i : Int} {Q : Str → Hp → Prop} (h : Ev te σ H (.int i)) (hz : i.natAbs.log2 < 1920) (k : ∀ H1, Ex H H1 → (acc ++ (toString i : Str)).length ≤ sizeLine ∧ tJs ts (acc ++ (toString i : Str)) σ H1 Q) : tJs (tFmt te :: ts) acc σ H Q :=
  h H (Ex.refl H) _ fun H1 e => .inr ⟨i, rfl, hz, _, rfl, (k H1 e).1, (k H1 e).2⟩
abbrev sc_Reading_repr_N : List Str := ["self"]
theorem sc_Reading_repr : FnScope sc_Reading_repr_N ["self"] (defScope (inClass (top 37) 9)) := ⟨rfl, rfl, rfl, by decide +kernel, rfl, by decide +kernel, by decide +kernel⟩
def sp_Rrepr (K : PySem.W.Frag) : Sp := fun vs H Q _ => ∃ x l n ws es rs, vs = [.ref x] ∧ RAt K H x l n ws es rs ∧ rs.length ≤ 16 ∧ SpRet (.str (rpStr rs.length)) H Q
section
variable {P : Program} {w : World} {K : PySem.W.Frag} {mg : Str → Option Value} {base : Heap}
theorem f_Reading_repr (T : Tx K mg) : ∃ fd, FnOk P w K mg base CX0 1 (He.ma K (He.ga K "Reading") "__repr__") fd ["self"] (sp_Rrepr K) ∧ Binds K fd ["self"] [] := by
  obtain ⟨fd, F⟩ := T.dR_repr
  refine ⟨fd, fnOk_mk F sc_Reading_repr (fun vs H Q E h => ?_) (fun cdv A outer s H vs Q E hr h => ?_), F.bindsN (fun _ _ _ _ _ _ us hl => match us, hl with | [_], _ => rfl)⟩
  · obtain ⟨x, l, n, ws, es, rs, rfl, _⟩ := h
    rfl
  · obtain ⟨x, l, n, ws, es, rs, rfl, hR, hl, hQ⟩ := h
    obtain ⟨dx, o, a, hd, cr, h1, _, ⟨vs, h2, h3⟩, _⟩ := hR.ex
    refine ⟨_, (pss_one (ps_ret (pe_joined (.cons pe_str (.cons (pe_fmt (pe_callB call_len_seq (by rfl) T.f_len (by decide +kernel) (pa_cons (pe_fld (pv 0) rfl) pa_nil))) (.cons pe_str .nil)))))), ?_⟩
    obtain ⟨⟨r1, r2⟩, r3, r4, r5⟩ := rp_ok ⟨rs.length, by omega⟩
    have r1 : (Str.empty ++ ("Reading(" : Str)).length ≤ sizeLine := r1
    refine ⟨_, rfl, r1, ?_⟩
    have lv := Paired.len h3
    refine k_fmtI (i := (rs.length : Nat)) (by rw [← lv]; exact ev_lenT (ev_fld (ev_var rfl) h1 T.cR T.nR_replies rk_replies) (st_of h2)) r2 fun H1 e1 => ⟨r3, _, rfl, r4, ?_⟩
    exact Q_eq (hQ H1 e1) (congrArg V.str r5)
end
end LS
end
-- text W9
section
set_option maxHeartbeats 4000000
/-! Reading's take, feed, undo. -/
namespace LS
open PySem PySem.Spec PyProof.Rows L2 Evl
theorem q_skip {σ : L2.St} {H : Hp} {t : TT} {tu tz : TS} {D : Ends} (h : EvT t σ H false) (h2 : ∀ H1, Ex H H1 → tz D σ H1) : tSeq (tIfS t tu tNext) tz D σ H := q_when h (fun z => by cases z) fun _ => h2
theorem Paired.drp {α β : Type} {F : α → β → Prop} : ∀ {l : List α} {m : List β} (k : Nat), Paired F l m → Paired F (l.drop k) (m.drop k)
  | _, _, 0, h => h
  | _, _, k + 1, .nil => .nil
  | _, _, k + 1, .cons _ t => Paired.drp k t
theorem rdl_put {l o0 a0 hd0 cr0 : Addr} {n : Nat} {ov0 : Bool} : GoPut l n (rdl l n o0 a0 hd0 cr0 ov0) := ⟨Nat.le_refl 8, fun o a hd cr ov => by
  kernel_rfl⟩
theorem k_tupStar {K : PySem.W.Frag} {σ : L2.St} {H : Hp} {te : TE} {tb : TA} {a : Addr} {xs ys : List V} {Q : VK} (h : Ev te σ H (.ref a)) (ha : H a = some (.tup xs)) (hb : EvA tb σ H ys) (h1 : xs.length + 1 ≤ 100000) (h2 : ys.length ≤ 100000)
    (k : ∀ p q H1, Ex H H1 → H1 q = some (.tup ys) → H1 p = some (.tup (xs ++ [.ref q])) → Q (.ref p) H1) : tTup (StX.tStar K te (tCons (tTup tb) tNil)) σ H Q :=
  h H (Ex.refl H) _ fun H1 e1 => ⟨a, xs, rfl, Or.inl (st_of (e1 _ _ ha)), eu_tup hb h2 H1 e1 _ fun q H2 nq e2 hq => ⟨sz_of (by rw [List.length_append]; exact h1), fun p hp => k p q _ ((e1.trans e2).trans (Ex.new hp)) (Ex.new hp _ _ hq) upd_same⟩⟩
theorem rs_snoc {rs : List (Nat × Bool)} {r : Nat × Bool} {n : Nat} {ws es : List Wd} (h : ROk n ws es rs) (hl : rs.length < 16) (hr : r.1 ≤ n) (ho : (Mst.fold n ws es rs).over = false) : ROk n ws es (rs ++ [r]) :=
  ⟨by rw [List.length_append]; exact hl, fun x hx => (List.mem_append.mp hx).elim (h.few x) fun z => by rw [List.mem_singleton.mp z]; exact hr, fun i hi => by
    rw [List.length_append] at hi
    have hi : i < rs.length + 1 := hi
    rw [List.take_append_of_le_length (by omega)]
    rcases Nat.lt_or_eq_of_le (Nat.le_of_lt_succ hi) with h1 | h1
    · exact h.good i h1
    · rw [h1, List.take_length]; exact ho⟩
theorem rs_last {rs : List (Nat × Bool)} {r : Nat × Bool} {n : Nat} {ws es : List Wd} (h : ROk n ws es (rs ++ [r])) : ROk n ws es rs := by
  have := h.take rs.length
  rw [List.take_left] at this
  exact this
abbrev sc_Reading_take_N : List Str := ["self", "count", "told", "machine", "known"]
theorem sc_Reading_take : FnScope sc_Reading_take_N ["self", "count", "told"] (defScope (inClass (top 37) 3)) := ⟨rfl, rfl, rfl, by decide +kernel, rfl, by decide +kernel, by decide +kernel⟩
def sp_take (K : PySem.W.Frag) : Sp := fun vs H Q E => ∃ x l, ∃ n : Nat, ∃ tx ws es rs, ∃ c : Nat, ∃ t, vs = [.ref x, .int c, .bl t] ∧ RAt K H x l n ws es rs ∧ LAt (He.ga K "Loop") H l tx ws es ∧ LOk ws es ∧ 1 ≤ n ∧ n ≤ 8 ∧ c ≤ n ∧ rs.length < 16 ∧ ROk n ws es rs ∧
  ((Mst.fold n ws es rs).over = true → ∀ H', Ex H H' → E (.ref (He.ga K "Stopped")) none H') ∧
  ((Mst.fold n ws es rs).over = false → ∀ p H', Frm [x] H H' → RAt K H' x l n ws es (rs ++ [(c, t)]) → PsT H' p ((Mst.fold n ws es (rs ++ [(c, t)])).out.drop (Mst.fold n ws es rs).out.length) → Q (.ref p) H')
section
variable {P : Program} {w : World} {K : PySem.W.Frag} {mg : Str → Option Value} {base : Heap}
theorem f_Reading_take (T : Tx K mg) : ∃ fd, FnOk P w K mg base (L2.CX P w) 5 (He.ma K (He.ga K "Reading") "take") fd ["self", "count", "told"] (sp_take K) ∧ Binds K fd ["self", "count", "told"] [] := by
  obtain ⟨fd, F⟩ := T.dR_take
  refine ⟨fd, F.ok sc_Reading_take (fun vs H Q E h => ?_) (fun cdv A outer s H vs Q E hr h => ?_), F.bindsN (fun _ _ _ _ _ _ us hl => match us, hl with | [_, _, _], _ => rfl)⟩
  · obtain ⟨x, l, n, tx, ws, es, rs, c, t, rfl, _⟩ := h
    rfl
  · obtain ⟨x, l, n, tx, ws, es, rs, c, t, rfl, hR, hL, ok, hn, h8, hc, hl, rk, hE, hQ⟩ := h
    obtain ⟨dx, o, a, hd, cr, h1, h2, h3, h4, h5⟩ := hR.ex
    obtain ⟨bv, ⟨dy, a2, m, ho, hR2, hM⟩, _⟩ := h2.top
    rw [List.reverse_reverse] at hM hR2
    obtain ⟨dm, ca, cr2, hd2, m1, m2, m3, m4⟩ := hM.ex
    refine ⟨_, (pss_cons (ps_if (PW.pt (pw_or (pt_not (pt_val (C8.pe_c (c_is_integer T) hr (by decide) rfl (pa_cons (pv 1) pa_nil)))) (pw_or1 (pt_not (pt_chain op_le op_le pe_int (pv 1) (pe_fld (pv 0) rfl))))))
        (pss_one ps_never)
        pss_nil)
      (pss_cons (ps_if (pt_not (pt_val (pe_callB call_isi (by rfl) T.f_isinstance (by decide +kernel) (pa_cons (pv 2) (pa_cons (pe_bltn (v := .ty "bool") (by rfl) T.f_bool (by decide +kernel) rfl) pa_nil)))))
        (pss_one ps_never)
        pss_nil)
      (pss_cons (ps_if (pt_val (pe_fld (pv 0) rfl))
        (pss_one (ps_raise rfl (takes_of rfl rfl rfl rfl) (pmk_own0 PySem.F.excBase_LookupError T.xStopped.e T.g_Stopped T.xStopped.k (raises_own T.xStopped.b T.xStopped.t) rfl)))
        pss_nil)
      (pss_cons (ps_if (pt_cmpR op_ge (pe_callB call_len_seq (by rfl) T.f_len (by decide +kernel) (pa_cons (pe_fld (pv 0) rfl) pa_nil)) (C8.pe_gc rfl T.i_MOST_REPLIES) (nomark _))
        (pss_one ps_never)
        pss_nil)
      (pss_cons (ps_par (i := 3) (j := 4) rfl sc_Reading_take.nd rfl rfl (by decide) rfl rfl (pa_cons (C8.pe_mt0 (m_Machine_copy T) hr (by decide) (pe_fld (pe_fld (pv 0) rfl) rfl)) (pa_cons (pe_callB call_len_seq (by rfl) T.f_len (by decide +kernel) (pa_cons (pe_fld (pv 0) rfl) pa_nil)) pa_nil)) (by rfl))
      (pss_cons (ps_expr (C8.pe_mt (m_Machine_feed T) hr (by decide) (pv 3) (pa_cons (pv 1) (pa_cons (pv 2) pa_nil))))
      (pss_cons (ps_expr (C8.pe_mt (m_Reading_go_to T) hr (by decide) (pv 0) (pa_cons (C8.pe_mk (k_Moment T) hr (by decide) rfl (pa_cons (pe_tup (StX.pa_star (pe_fld (pv 0) rfl) (pa_cons (pe_tup (pa_cons (pv 1) (pa_cons (pv 2) pa_nil))) pa_nil))) (pa_cons (pv 3) (pa_cons (pe_fld (pv 0) rfl) pa_nil)))) pa_nil)))
      (pss_one (ps_ret (pe_slice sl_tupA (pe_fld (pv 0) rfl) (po_some (pv 4)) po_none)))))))))), ?_⟩
    refine q_skip (et_or0 (et_not (a := true) (et_test (ev_call (ea_cons (ev_var rfl) ea_nil) (spV_of fun H1 e1 Q E q => ⟨_, rfl, q⟩)))) (et_not (a := true) (et_test (ev_leC ev_c (ev_var rfl) (ev_fld (ev_var rfl) h1 T.cR T.nR_size rk_size) (by omega) (by omega))))) fun H1 e1 => ?_
    refine q_skip (et_not (a := true) (et_test (ev_isi (ev_var rfl) ev_c (.ty _) (fun _ _ => .base (.bl _)) rfl))) fun H2 e2 => ?_
    have e2 := e1.trans e2
    cases hov : (Mst.fold n ws es rs).over with
    | true => exact q_yes (et_is (et_B (ev_fld (ev_var rfl) (e2 _ _ h1) T.cR T.nR_stopped rk_stopped)) hov) fun H3 e3 => hE hov H3 (e2.trans e3)
    | false =>
      have hQ := hQ hov
      refine q_skip (et_is (et_B (ev_fld (ev_var rfl) (e2 _ _ h1) T.cR T.nR_stopped rk_stopped)) hov) fun H3 e3 => ?_
      have e3 := e2.trans e3
      obtain ⟨rv, r1, r2⟩ := h3
      have rl := Paired.len r2
      refine q_skip (et_is (et_test (ev_I0 (ev_lenT (ev_fld (ev_var rfl) (e3 _ _ h1) T.cR T.nR_replies rk_replies) (st_of (e3 _ _ r1))) ev_c)) (by rw [rl]; simp; omega)) fun H4 e4 => ?_
      have e4 := e3.trans e4
      obtain ⟨ps, p1, p2⟩ := h4
      refine q_par (k_cons (k_meth0 (ev_fld (ev_fld (ev_var rfl) (e4 _ _ h1) T.cR T.nR_last rk_last) (e4 _ _ ho) T.cO T.nO_machine ok_machine) (e4 _ _ m1) (mk_no (by decide +kernel)) fun H5 e5 => ⟨m, l, n, _, rfl, hM.mono (S := []) (Frm.ex (e4.trans e5)) (by simp), fun p H6 np e6 M6 => ?_⟩))
      have e6 := (e4.trans e5).trans e6
      have npH : H p = none := fresh_back (e4.trans e5) np
      refine k_cons (ev_lenT (ev_fld (ev_var rfl) (e6 _ _ h1) T.cR T.nR_pieces rk_pieces) (st_of (e6 _ _ p1)) H6 (Ex.refl _) _ fun H7 e7 => ⟨_, _, rfl, ?_⟩)
      have e7' := e6.trans e7
      have M7 := M6.mono (S := []) (Frm.ex e7) (by simp)
      obtain ⟨dz, ca7, cr7, hd7, g1, _⟩ := M7.ex
      obtain ⟨z1, z2, z3⟩ := rk.sz hn h8 ok
      have b1 := ok.l1
      have b2 := ok.l2
      have bb : (ws.length + es.length + 2) * (c + 1) ≤ 12 * 9 := Nat.mul_le_mul (by omega) (by omega)
      refine q_exprV (k_meth (ev_var rfl) g1 (mk_no (by decide +kernel)) (ea_cons (ev_var rfl) (ea_cons (ev_var rfl) ea_nil)) fun H8 e8 => ⟨p, l, n, _, tx, ws, es, c, t, rfl, M7.mono (S := []) (Frm.ex e8) (by simp), hL.mono (S := []) (Frm.ex (e7'.trans e8)) (by simp), hn, z2, by omega, by omega, fun H9 f9 M9 => ?_⟩)
      have e9 := ex_frm (e7'.trans e8) f9 npH
      have M9 : MAt (He.ga K "Machine") H9 p l n (Mst.fold n ws es (rs ++ [(c, t)])) := by rw [Mst.fold_snoc]; exact M9
      refine q_exprV (k_methQ (ev_var rfl) (e9 _ _ h1) (rk_no (by decide +kernel) (by decide +kernel) (by decide +kernel) (by decide +kernel) (by decide +kernel) (by decide +kernel) (by decide +kernel) (by decide +kernel)) fun H10 e10 => ?_)
      have e10' := e9.trans e10
      refine k_cons (k_mk (k_cons (k_tupStar (ev_fld (ev_var rfl) (e10' _ _ h1) T.cR T.nR_replies rk_replies) (e10' _ _ r1) (ea_cons (ev_var rfl) (ea_cons (ev_var rfl) ea_nil)) (by omega) (by show 2 ≤ 100000; decide) fun a3 q H11 e11 hq ha3 => ?_)))
      have e11' := e10'.trans e11
      refine (ea_cons (ev_var rfl) (ea_cons (ev_fld (ev_var rfl) (e11' _ _ h1) T.cR T.nR_last rk_last) ea_nil)) H11 (Ex.refl _) _ fun H12 e12 => ?_
      intro o3 do_ no ndo hne
      generalize hH : upd (upd H12 do_ (.own o3)) o3 _ = H13
      have e13 : Ex H12 H13 := by rw [← hH]; exact mk_ex no ndo hne
      have ho3 : H13 o3 = some (.ins (He.ga K "Moment") do_ []) := by rw [← hH]; exact upd_same
      clear hH
      refine ⟨o3, do_, a3, p, _, rfl, ho3, fun H14 f14 h14 => ⟨rfl, ?_⟩⟩
      have e14 := ex_frm e13 f14 no
      have e9_14 := ((e10.trans e11).trans e12).trans e14
      have e14' := (e11'.trans e12).trans e14
      have hR3 : RpT H14 a3 (rs ++ [(c, t)]) := ⟨rv ++ [.ref q], (e12.trans e14) _ _ ha3, LS.Paired.app (Paired.imp2 (fun _ _ z => z.mono (S := []) (Frm.ex e14')) r2) (.cons ⟨q, rfl, (e12.trans e14) _ _ hq⟩ .nil)⟩
      refine ⟨x, dx, _, l, n, ws, es, o3, (c, t) :: rs.reverse, rfl, e14' _ _ h1, kp_R, rdl_put, ⟨o, ⟨do_, a3, p, h14, by rw [List.reverse_reverse]; exact hR3, by rw [List.reverse_reverse]; exact M9.mono (S := []) (Frm.ex e9_14) (by simp)⟩, h2.saf (S := []) (Frm.ex e14') Saf.nil⟩, fun H15 f15 R15 => ?_⟩
      rw [List.reverse_cons, List.reverse_reverse] at R15
      obtain ⟨dw, o5, a5, hd5, cr5, w1, w2, w3, ⟨pv, w4, w5⟩, w6⟩ := R15.ex
      refine s_retW (xs := pv.drop ps.length) (by
        have := ew_sl (K := K) (te := tFld K (tVar 0) "pieces") (tl := tPart (tVar 4)) (th := tNoPart) (σ := [some (.ref x), some (.int c), some (.bl t), some (.ref p), some (.int (ps.length : Nat))]) (H := H15) (lo := some ((ps.length : Nat) : Int)) (hi := none) (xs := pv) (ev_fld (ev_var rfl) w1 T.cR T.nR_pieces rk_pieces) (eo_some (ev_var rfl)) eo_none w4
        rw [cutV_from] at this
        exact this) fun z H16 e16 hz => ?_
      have f16 : Frm [x] H H16 := ((Frm.ex e14').trans f15).trans (Frm.ex e16)
      refine hQ z H16 f16 (R15.saf (S := []) (Frm.ex e16) Saf.nil (by simp)) ⟨_, hz, ?_⟩
      rw [Paired.len p2]
      exact ps_mono (Paired.drp _ w5) (S := []) (Frm.ex e16)
end
abbrev sc_Reading_feed_N : List Str := ["self", "count", "told"]
theorem sc_Reading_feed : FnScope sc_Reading_feed_N ["self", "count", "told"] (defScope (inClass (top 37) 4)) := ⟨rfl, rfl, rfl, by decide +kernel, rfl, by decide +kernel, by decide +kernel⟩
section
variable {P : Program} {w : World} {K : PySem.W.Frag} {mg : Str → Option Value} {base : Heap}
theorem f_Reading_feed (T : Tx K mg) : ∃ fd, FnOk P w K mg base (L2.CX P w) 6 (He.ma K (He.ga K "Reading") "feed") fd ["self", "count", "told"] (sp_take K) ∧ Binds K fd ["self", "count", "told"] [] := by
  obtain ⟨fd, F⟩ := T.dR_feed
  refine ⟨fd, F.ok sc_Reading_feed (fun vs H Q E h => ?_) (fun cdv A outer s H vs Q E hr h => ?_), F.bindsN (fun _ _ _ _ _ _ us hl => match us, hl with | [_, _, _], _ => rfl)⟩
  · obtain ⟨x, l, n, tx, ws, es, rs, c, t, rfl, _⟩ := h
    rfl
  · obtain ⟨x, l, n, tx, ws, es, rs, c, t, rfl, hR, hL, ok, hn, h8, hc, hl, rk, hE, hQ⟩ := h
    obtain ⟨dx, o, a, hd, cr, h1, h2, h3, h4, h5⟩ := hR.ex
    obtain ⟨ft, F1, B1⟩ := f_Reading_take (P := P) (w := w) (base := base) T
    have hx : Passes (L2.CX P w) (cxOf (L2.CX P w) P w K mg base sc_Reading_feed_N "Reading.feed" (defScope (inClass (top 37) 4)) (He.ma K (He.ga K "Reading") "feed") cdv A outer s H E) E := passes_call (takes_of rfl rfl rfl rfl) (fun _ _ _ _ h => h)
    refine ⟨_, (pss_cons (ps_expr (C8.pe_mt0 (m_Reading_check_free T) hr (by decide) (pv 0)))
      (pss_one (ps_ret (pe_meth (pv 0) T.cR T.mR_take F1 hr B1 .nil hx (pa_cons (pv 1) (pa_cons (pv 2) pa_nil)))))), ?_⟩
    have no : ∀ f : Str, f = "check_free" ∨ f = "take" → (rdl l n o a hd cr (Mst.fold n ws es rs).over).lookup f = none := by
      rintro f (rfl | rfl) <;> exact rk_no (by decide +kernel) (by decide +kernel) (by decide +kernel) (by decide +kernel) (by decide +kernel) (by decide +kernel) (by decide +kernel) (by decide +kernel)
    refine q_exprV (k_meth0 (ev_var rfl) h1 (no _ (.inl rfl)) fun H1 e1 => ⟨x, l, n, ws, es, rs, rfl, hR.saf (S := []) (Frm.ex e1) Saf.nil (by simp), fun H2 e2 => ?_⟩)
    have e2 := e1.trans e2
    refine s_retV (k_meth (ev_var rfl) (e2 _ _ h1) (no _ (.inr rfl)) (ea_cons (ev_var rfl) (ea_cons (ev_var rfl) ea_nil)) fun H3 e3 => ?_)
    have e3 := e2.trans e3
    exact ⟨x, l, n, tx, ws, es, rs, c, t, rfl, hR.saf (S := []) (Frm.ex e3) Saf.nil (by simp), hL.mono (S := []) (Frm.ex e3) (by simp), ok, hn, h8, hc, hl, rk, fun z H4 e4 => hE z H4 (e3.trans e4), fun z p H4 f4 r4 p4 => hQ z p H4 ((Frm.ex e3).trans f4) r4 p4⟩
end
abbrev sc_Reading_undo_N : List Str := ["self"]
theorem sc_Reading_undo : FnScope sc_Reading_undo_N ["self"] (defScope (inClass (top 37) 6)) := ⟨rfl, rfl, rfl, by decide +kernel, rfl, by decide +kernel, by decide +kernel⟩
def sp_undo (K : PySem.W.Frag) : Sp := fun vs H Q E => ∃ x l n ws es rs, vs = [.ref x] ∧ RAt K H x l n ws es rs ∧
  (rs = [] → ∀ H', Ex H H' → E (.ref (He.ga K "NothingToUndo")) none H') ∧ (rs ≠ [] → ∀ H', Frm [x] H H' → RAt K H' x l n ws es rs.dropLast → Q .non H')
section
variable {P : Program} {w : World} {K : PySem.W.Frag} {mg : Str → Option Value} {base : Heap}
theorem f_Reading_undo (T : Tx K mg) : ∃ fd, FnOk P w K mg base (L2.CX P w) 2 (He.ma K (He.ga K "Reading") "undo") fd ["self"] (sp_undo K) ∧ Binds K fd ["self"] [] := by
  obtain ⟨fd, F⟩ := T.dR_undo
  refine ⟨fd, F.ok sc_Reading_undo (fun vs H Q E h => ?_) (fun cdv A outer s H vs Q E hr h => ?_), F.bindsN (fun _ _ _ _ _ _ us hl => match us, hl with | [_], _ => rfl)⟩
  · obtain ⟨x, l, n, ws, es, rs, rfl, _⟩ := h
    rfl
  · obtain ⟨x, l, n, ws, es, rs, rfl, hR, hE, hQ⟩ := h
    obtain ⟨dx, o, a, hd, cr, h1, h2, h3, h4, h5⟩ := hR.ex
    refine ⟨_, (pss_cons (ps_expr (C8.pe_mt0 (m_Reading_check_free T) hr (by decide) (pv 0)))
      (pss_cons (ps_if (pt_cmpR op_isN (pe_fld (pe_fld (pv 0) rfl) rfl) pe_non (nomark _))
        (pss_one (ps_raise rfl (takes_of rfl rfl rfl rfl) (pmk_own0 PySem.F.excBase_LookupError T.xNothingToUndo.e T.g_NothingToUndo T.xNothingToUndo.k (raises_own T.xNothingToUndo.b T.xNothingToUndo.t) rfl)))
        pss_nil)
      (pss_one (ps_expr (C8.pe_mt (m_Reading_go_to T) hr (by decide) (pv 0) (pa_cons (pe_fld (pe_fld (pv 0) rfl) rfl) pa_nil)))))), ?_⟩
    have no : ∀ f : Str, f = "check_free" ∨ f = "go_to" → (rdl l n o a hd cr (Mst.fold n ws es rs).over).lookup f = none := by
      rintro f (rfl | rfl) <;> exact rk_no (by decide +kernel) (by decide +kernel) (by decide +kernel) (by decide +kernel) (by decide +kernel) (by decide +kernel) (by decide +kernel) (by decide +kernel)
    refine q_exprV (k_meth0 (ev_var rfl) h1 (no _ (.inl rfl)) fun H1 e1 => ⟨x, l, n, ws, es, rs, rfl, hR.saf (S := []) (Frm.ex e1) Saf.nil (by simp), fun H2 e2 => ?_⟩)
    have e2 := e1.trans e2
    obtain ⟨bv, ⟨dy, a2, m, ho, hR2, hM⟩, hb⟩ := h2.top
    rcases hb with ⟨hrs, rfl⟩ | ⟨r, r2, o', hrs, rfl, hC⟩
    · have hrs : rs = [] := by have := congrArg List.reverse hrs; rw [List.reverse_reverse] at this; exact this
      exact q_yes (et_is (et_test (ev_isN (ev_fld (ev_fld (ev_var rfl) (e2 _ _ h1) T.cR T.nR_last rk_last) (e2 _ _ ho) T.cO T.nO_before ok_before))) (decide_eq_true rfl)) fun H3 e3 => hE hrs H3 (e2.trans e3)
    · have hrs : rs = r2.reverse ++ [r] := by have := congrArg List.reverse hrs; rw [List.reverse_reverse, List.reverse_cons] at this; exact this
      refine q_skip (et_is (et_test (ev_isN (ev_fld (ev_fld (ev_var rfl) (e2 _ _ h1) T.cR T.nR_last rk_last) (e2 _ _ ho) T.cO T.nO_before ok_before))) (by simp)) fun H3 e3 => ?_
      have e3 := e2.trans e3
      refine s_exprV (k_meth (ev_var rfl) (e3 _ _ h1) (no _ (.inr rfl)) (ea_cons (ev_fld (ev_fld (ev_var rfl) (e3 _ _ h1) T.cR T.nR_last rk_last) (e3 _ _ ho) T.cO T.nO_before ok_before) ea_nil) fun H4 e4 => ?_)
      have e4 := e3.trans e4
      refine ⟨x, dx, _, l, n, ws, es, o', r2, rfl, e4 _ _ h1, kp_R, rdl_put, hC.saf (S := []) (Frm.ex e4) Saf.nil, fun H5 f5 R5 => ?_⟩
      refine hQ (by rw [hrs]; simp) H5 ((Frm.ex e4).trans f5) ?_
      rw [hrs, List.dropLast_concat]
      exact R5
end
end LS
end
-- text L1
section
set_option maxHeartbeats 4000000
/-! The law's own drawing: jar, sip, from, words. -/
namespace LS
open PySem PySem.Spec PyProof.Rows L2 Evl
/-- a jar: three ints -/
def JAt (H : Hp) (j : Addr) : Prop := ∃ a b c : Int, H j = some (.lst [.int a, .int b, .int c])
theorem JAt.ex {H H1 : Hp} {j : Addr} (h : JAt H j) (e : Ex H H1) : JAt H1 j := let ⟨a, b, c, h⟩ := h; ⟨a, b, c, e _ _ h⟩
theorem JAt.ne {H : Hp} {j p : Addr} (h : JAt H j) (hp : H p = none) : j ≠ p := let ⟨_, _, _, h⟩ := h; ne_of_none h hp
theorem JAt.upd {H : Hp} {j p : Addr} {o : HO} (h : JAt H j) (hp : j ≠ p) : JAt (upd H p o) j := let ⟨a, b, c, h⟩ := h; ⟨a, b, c, by rw [upd_ne hp]; exact h⟩
theorem JAt.saf {H : Hp} {j : Addr} (h : JAt H j) : Saf H [j] := let ⟨_, _, _, h⟩ := h; Saf.one h rfl
section
variable {K : PySem.W.Frag} {σ : L2.St} {H : Hp} {ta tb te : TE} {tt : TT} {tu tw tz : TS} {D : Ends} {Q : VK} {x y z v : V} {r : R2}
theorem k_ev (h : Ev te σ H v) (k : ∀ H1, Ex H H1 → Q v H1) : te σ H Q := h H (Ex.refl H) Q k
theorem k_op (h : ta σ H fun x H1 => tb σ H1 fun y H2 => r x y H2 Q) : tOp r ta tb σ H Q := h
theorem k_opE (ha : Ev ta σ H x) (h : ∀ H1, Ex H H1 → tb σ H1 fun y H2 => r x y H2 Q) : tOp r ta tb σ H Q := ha H (Ex.refl H) _ h
theorem q_asgG {g : TG} (h : te σ H fun x H1 => g x σ H1 fun σ2 H2 => tz D σ2 H2) : tSeq (tAsg te g) tz D σ H := h
theorem k_cbE {r : List V → Hp → VK → Prop} {ta : TA} {vs : List V} (h : EvA ta σ H vs) (k : ∀ H1, Ex H H1 → r vs H1 Q) : tCB r ta σ H Q := h H (Ex.refl H) _ k
theorem ev_int1 {i : Int} (ha : Ev ta σ H (.int i)) : Ev (tCB (fun xs H Q => (∃ i, xs = [.int i] ∧ Q (.int i) H) ∨ ∃ k, xs = [.bl k] ∧ Q (.int (if k then 1 else 0)) H) (tCons ta tNil)) σ H (.int i) := fun H1 e1 Q q =>
  ha H1 e1 _ fun H2 e2 => .inl ⟨i, rfl, q H2 e2⟩
theorem ev_abs {i : Int} (ha : Ev ta σ H (.int i)) : Ev (tCB (fun xs H Q => ∃ i, xs = [.int i] ∧ Q (.int (if i < 0 then -i else i)) H) (tCons ta tNil)) σ H (.int (if i < 0 then -i else i)) := fun H1 e1 Q q =>
  ha H1 e1 _ fun H2 e2 => ⟨i, rfl, q H2 e2⟩
/-- a test of unknown outcome, after which R holds of the heap -/
def EvN (tt : TT) (σ : L2.St) (H : Hp) (R : Hp → Prop) : Prop := ∀ Q : Bool → Hp → Prop, (∀ b H1, R H1 → Q b H1) → tt σ H Q
theorem q_ifN {R : Hp → Prop} (h : EvN tt σ H R) (h1 : ∀ H1, R H1 → tu { D with nx := tz D } σ H1) (h2 : ∀ H1, R H1 → tw { D with nx := tz D } σ H1) : tSeq (tIfS tt tu tw) tz D σ H :=
  h _ fun b H1 r => by
    cases b with
    | true => exact iteT (h1 H1 r)
    | false => exact iteF (h2 H1 r)
theorem en_or {tv : TT} {R1 R2 : Hp → Prop} (h1 : EvN tt σ H R1) (h12 : ∀ H1, R1 H1 → R2 H1) (h2 : ∀ H1, R1 H1 → EvN tv σ H1 R2) : EvN (tOr tt tv) σ H R2 := fun Q q => h1 _ fun b H1 r => by
  cases b with
  | true => exact iteT (q _ _ (h12 _ r))
  | false => exact iteF (h2 H1 r Q q)
theorem en_and {tv : TT} {R1 R2 : Hp → Prop} (h1 : EvN tt σ H R1) (h12 : ∀ H1, R1 H1 → R2 H1) (h2 : ∀ H1, R1 H1 → EvN tv σ H1 R2) : EvN (tAnd tt tv) σ H R2 := fun Q q => h1 _ fun b H1 r => by
  cases b with
  | true => exact iteT (h2 H1 r Q q)
  | false => exact iteF (q _ _ (h12 _ r))
theorem en_t {b : Bool} (h : EvT tt σ H b) : EvN tt σ H (Ex H) := fun Q q => h H (Ex.refl H) Q fun H1 e => q b H1 e
end
/-- what a draw leaves -/
def JR (j : Addr) (H H1 : Hp) : Prop := Frm [j] H H1 ∧ JAt H1 j
theorem JR.refl {j : Addr} {H : Hp} (h : JAt H j) : JR j H H := ⟨Frm.refl _ _, h⟩
theorem JR.trans {j : Addr} {H H1 H2 : Hp} (a : JR j H H1) (b : JR j H1 H2) : JR j H H2 := ⟨a.1.trans b.1, b.2⟩
theorem JR.ex {j : Addr} {H H1 H2 : Hp} (a : JR j H H1) (b : Ex H1 H2) : JR j H H2 := ⟨a.1.trans (Frm.ex b), a.2.ex b⟩
theorem JR.late {j p : Addr} {H H1 : Hp} {o : HO} (a : JR j H H1) (hp : H p = none) (hj : j ≠ p) : JR j H (upd H1 p o) := ⟨a.1.late hp o, a.2.upd hj⟩
theorem JR.lst {j p : Addr} {H H1 : Hp} {xs : List V} (a : JR j H H1) (hp : H p = some (.lst xs)) (hj : p ≠ j) : H1 p = some (.lst xs) := a.1.keep _ _ hp (by simpa using hj)
abbrev sc__law_jar_N : List Str := ["_law_script", "_law_k", "_law_own", "_law_mixed", "_law_entry"]
theorem sc__law_jar : FnScope sc__law_jar_N ["_law_script", "_law_k"] (defScope (top 40)) := ⟨rfl, rfl, rfl, by decide +kernel, rfl, by decide +kernel, by decide +kernel⟩
def sp_l_jar (K : PySem.W.Frag) : Sp := fun vs H Q _ => ∃ a, ∃ k : Nat, ∃ ns : List Int, vs = [.ref a, .int k] ∧ SqL K H a (ns.map V.int) ∧ k ≤ 5 ∧ ∀ j H', H j = none → Ex H H' → JAt H' j → Q (.ref j) H'
theorem cmul_r {i : Int} {j : Int} (h : -(2 ^ 64) < j ∧ j < 2 ^ 64) : CMul i j := .inr h
section
variable {P : Program} {w : World} {K : PySem.W.Frag} {mg : Str → Option Value} {base : Heap}
theorem c_l_jar (T : Tx K mg) : C8.Cal P w K mg base 1 "_law_jar" (sp_l_jar K) [] := by
  refine mkCal T.d_l_jar T.g_l_jar sc__law_jar (fun _ _ _ _ _ _ us hl => match us, hl with | [_, _], _ => rfl) (fun vs H Q E h => ?_) (fun cdv A outer s H vs Q E hr h => ?_)
  · obtain ⟨a, k, ns, rfl, _⟩ := h
    rfl
  · obtain ⟨a, k, ns, rfl, ha, hk, hQ⟩ := h
    refine ⟨_, (pss_cons (ps_set (i := 2) sc__law_jar.nd rfl (Or.inl rfl) (pe_ifExp (pt_cmpR op_lt (pv 1) (pe_callB call_len_seq (by rfl) T.f_len (by decide +kernel) (pa_cons (pv 0) pa_nil)) (nomark _)) (pe_callTy call_int1 (by rfl) T.f_int (by decide +kernel) (pa_cons (pe_ix ix_list (pv 0) (pv 1) (fun _ _ => rfl)) pa_nil)) (pe_op op_add (pe_op op_mul pe_int (pv 1)) pe_int)))
      (pss_cons (ps_set (i := 3) sc__law_jar.nd rfl (Or.inl rfl) (pe_op op_add pe_int (pe_op op_mul pe_int (pv 1))))
      (pss_cons (ps_for PassesOwn.never rfl (pi_list (pe_slice sl_list (pv 0) po_none (po_some pe_int))) (pg_name (i := 4) sc__law_jar.nd rfl (Or.inl rfl))
        (pss_one (ps_set (i := 3) sc__law_jar.nd rfl (Or.inl rfl) (pe_op op_mod (pe_callTy call_int1 (by rfl) T.f_int (by decide +kernel) (pa_cons (pe_op op_add (pe_op op_mul (pv 3) pe_int) (pe_op op_mod (pe_callTy call_int1 (by rfl) T.f_int (by decide +kernel) (pa_cons (pv 4) pa_nil)) pe_int)) pa_nil)) pe_int))))
      (pss_one (ps_ret (pe_lst (pa_cons (pe_ifExp (PW.pt (pw_or (pt_cmpR op_lt (pv 2) pe_int (nomark _)) (pw_or1 (pt_cmpR op_ge (pv 2) (pe_op op_pow pe_int pe_int) (nomark _))))) (pe_callB call_abs (by rfl) T.f_abs (by decide +kernel) (pa_cons (pv 2) pa_nil)) pe_int) (pa_cons (pe_op op_mod (pe_callTy call_int1 (by rfl) T.f_int (by decide +kernel) (pa_cons (pe_op op_add (pe_op op_mul (pv 3) pe_int) (pe_op op_mod (pv 2) pe_int)) pa_nil)) pe_int) (pa_cons pe_int pa_nil))))))))), ?_⟩
    have hown : ∃ own : Int, Ev (tIf (tTest (tOp (rI0 fun i j => V.bl (decide (i < j))) (tVar 1) (tCB (rLenS K) (tCons (tVar 0) tNil)))) (tCB (fun xs H Q => (∃ i, xs = [V.int i] ∧ Q (V.int i) H) ∨ ∃ k, xs = [V.bl k] ∧ Q (V.int (if k then 1 else 0)) H) (tCons (tOp (rIxL K) (tVar 0) (tVar 1)) tNil)) (tOp (rI0 fun i j => V.int (i + j)) (tOp (rI CMul fun i j => V.int (i * j)) (tC (V.int 29)) (tVar 1)) (tC (V.int 11)))) (L2.start sc__law_jar_N [.ref a, .int k]) H (.int own) := by
      by_cases h : k < ns.length
      · refine ⟨ns[k], ev_if (b := true) (et_is (et_test (ev_I0 (ev_var rfl) (ev_len (ev_var rfl) ha))) (by rw [List.length_map]; simpa using h)) (fun _ => ev_int1 (ev_ixL (ev_var rfl) (ev_var rfl) ha (atI_nat (by rw [List.getElem?_map, List.getElem?_eq_getElem h]; rfl)))) (fun z => by cases z)⟩
      · refine ⟨29 * (k : Int) + 11, ev_if (b := false) (et_is (et_test (ev_I0 (ev_var rfl) (ev_len (ev_var rfl) ha))) (by rw [List.length_map]; simpa using h)) (fun z => by cases z) (fun _ => ev_I0 (ev_I ev_c (ev_var rfl) (cmul_r (by omega))) ev_c)⟩
    obtain ⟨own, hown⟩ := hown
    refine q_asg hown fun H1 e1 => ?_
    refine q_asg (ev_I0 ev_c (ev_I ev_c (ev_var rfl) (cmul_r (by omega)))) fun H2 e2 => ?_
    have e2 := e1.trans e2
    refine q_forNL (K := K) (el_sl (lo := none) (hi := some 13) (ev_var rfl) eo_none (eo_some ev_c) (ex_l e2 ha)) (fun p i σ' H' => (∃ m v, σ' = [some (.ref a), some (.int k), some (.int own), some (.int m), v]) ∧ Ex H H' ∧ H' p = some (.lst (cutV (ns.map V.int) none (some 13))))
      (fun p H3 np e3 hp => ⟨⟨_, none, rfl⟩, e2.trans e3, hp⟩) (fun p i σ' H' _ q => sq_of q.2.2) ?_ ?_
    · rintro p i x σ' H' hx ⟨⟨m, v, rfl⟩, e, hp⟩
      have hx : x ∈ ns.map V.int := by
        have := List.mem_of_getElem? hx
        unfold cutV at this
        exact List.mem_of_mem_drop (List.mem_of_mem_take this)
      obtain ⟨i0, _, rfl⟩ := List.mem_map.mp hx
      refine s_asg (σ := [some (.ref a), some (.int k), some (.int own), some (.int m), some (.int i0)]) (ev_I (ev_int1 (ev_I0 (ev_I (ev_var rfl) ev_c (cmul_r (by decide))) (ev_I (ev_int1 (ev_var rfl)) ev_c (by decide)))) ev_c (by decide)) fun H3 e3 => ⟨⟨_, _, rfl⟩, e.trans e3, e3 _ _ hp⟩
    · rintro p σ' H' ⟨⟨m, v, rfl⟩, e, hp⟩
      have hfirst : ∃ f : Int, Ev (tIf (tOr (tTest (tOp (rI0 fun i j => V.bl (decide (i < j))) (tVar 2) (tC (V.int 0)))) (tTest (tOp (rI0 fun i j => V.bl (decide (j ≤ i))) (tVar 2) (tOp (rI CPow fun i j => V.int (i ^ j.toNat)) (tC (V.int 10)) (tC (V.int 14)))))) (tCB (fun xs H Q => ∃ i, xs = [V.int i] ∧ Q (V.int (if i < 0 then -i else i)) H) (tCons (tVar 2) tNil)) (tC (V.int 0))) [some (.ref a), some (.int k), some (.int own), some (.int m), v] H' (.int f) := by
        have ht : EvT (tOr (tTest (tOp (rI0 fun i j => V.bl (decide (i < j))) (tVar 2) (tC (V.int 0)))) (tTest (tOp (rI0 fun i j => V.bl (decide (j ≤ i))) (tVar 2) (tOp (rI CPow fun i j => V.int (i ^ j.toNat)) (tC (V.int 10)) (tC (V.int 14)))))) [some (.ref a), some (.int k), some (.int own), some (.int m), v] H' _ := et_or (et_test (ev_I0 (ev_var rfl) ev_c)) fun _ => et_test (ev_I0 (ev_var rfl) (ev_I ev_c ev_c ⟨by decide, by decide, by decide⟩))
        generalize (decide (own < 0) || decide ((10 : Int) ^ ((14 : Int).toNat) ≤ own)) = b at ht
        cases b with
        | true => exact ⟨_, ev_if ht (fun _ => ev_abs (ev_var rfl)) (fun z => by cases z)⟩
        | false => exact ⟨_, ev_if ht (fun z => by cases z) (fun _ => ev_c)⟩
      obtain ⟨f, hf⟩ := hfirst
      refine s_retL (el_lst (ea_cons hf (ea_cons (ev_I (ev_int1 (ev_I0 (ev_I (ev_var rfl) ev_c (cmul_r (by decide))) (ev_I (ev_var rfl) ev_c (by decide)))) ev_c (by decide)) (ea_cons ev_c ea_nil))) (by show 3 ≤ 100000; decide)) fun j H4 nj e4 hj => hQ j H4 (fresh_back e nj) (e.trans e4) ⟨_, _, _, hj⟩
end
abbrev sc__law_sip_N : List Str := ["_law_jar_here", "_law_many", "_law_digit"]
theorem sc__law_sip : FnScope sc__law_sip_N ["_law_jar_here", "_law_many"] (defScope (top 41)) := ⟨rfl, rfl, rfl, by decide +kernel, rfl, by decide +kernel, by decide +kernel⟩
def sp_l_sip : Sp := fun vs H Q _ => ∃ j, ∃ m : Int, vs = [.ref j, .int m] ∧ JAt H j ∧ 0 < m ∧ m < 1073741824 ∧ ∀ (d : Nat) H', (d : Int) < m → JR j H H' → Q (.int d) H'
theorem frm_put {H H1 : Hp} {j : Addr} {xs ys : List V} (e : Ex H H1) (h : H j = some (.lst xs)) : Frm [j] H (upd H1 j (.lst ys)) := (Frm.ex e).trans (Frm.put (e _ _ h) (List.mem_singleton.mpr rfl) (fun _ z => by cases z) _)
section
variable {P : Program} {w : World} {K : PySem.W.Frag} {mg : Str → Option Value} {base : Heap}
theorem c_l_sip (T : Tx K mg) : C8.Cal P w K mg base 1 "_law_sip" sp_l_sip [] := by
  refine mkCal T.d_l_sip T.g_l_sip sc__law_sip (fun _ _ _ _ _ _ us hl => match us, hl with | [_, _], _ => rfl) (fun vs H Q E h => ?_) (fun cdv A outer s H vs Q E hr h => ?_)
  · obtain ⟨j, m, rfl, _⟩ := h
    rfl
  · obtain ⟨j, m, rfl, ⟨a, b, c, hj⟩, h0, h1, hQ⟩ := h
    refine ⟨_, (pss_cons (ps_asg (pe_op op_add (pe_ix ix_list (pv 0) pe_int (fun _ _ => rfl)) pe_int) (pg_sub (pv 0) pe_int set_list))
      (pss_cons (ps_if (pt_cmpR op_gt (pe_ix ix_list (pv 0) pe_int (fun _ _ => rfl)) pe_int (nomark _))
        (pss_cons (ps_asg (pe_callB call_divmod (by rfl) T.f_divmod (by decide +kernel) (pa_cons (pe_callTy call_int1 (by rfl) T.f_int (by decide +kernel) (pa_cons (pe_ix ix_list (pv 0) pe_int (fun _ _ => rfl)) pa_nil)) (pa_cons (pv 1) pa_nil))) (pg_tup rfl (pgs_cons (pg_sub (pv 0) pe_int set_list) (pgs_cons (pg_name (i := 2) sc__law_sip.nd rfl (Or.inl rfl)) pgs_nil))))
        (pss_one (ps_ret (pv 2))))
        pss_nil)
      (pss_cons (ps_asg (pe_op op_mod (pe_callTy call_int1 (by rfl) T.f_int (by decide +kernel) (pa_cons (pe_op op_add (pe_op op_add (pe_op op_mul (pe_ix ix_list (pv 0) pe_int (fun _ _ => rfl)) pe_int) (pe_op op_mul (pe_ix ix_list (pv 0) pe_int (fun _ _ => rfl)) pe_int)) (pe_op op_mul (pe_op op_fdiv (pe_ix ix_list (pv 0) pe_int (fun _ _ => rfl)) pe_int) pe_int)) pa_nil)) pe_int) (pg_sub (pv 0) pe_int set_list))
      (pss_one (ps_ret (pe_op op_mod (pe_callTy call_int1 (by rfl) T.f_int (by decide +kernel) (pa_cons (pe_op op_fdiv (pe_ix ix_list (pv 0) pe_int (fun _ _ => rfl)) pe_int) pa_nil)) (pv 1))))))), ?_⟩
    refine q_setL (j := 2) hj (ev_I0 (ev_ixL (ev_var rfl) ev_c (sq_of hj) rfl) ev_c) (ev_var rfl) ev_c (by show 2 < 3; decide) fun H1 e1 => ?_
    have f1 : Frm [j] H (upd H1 j (.lst [.int a, .int b, .int (c + 1)])) := frm_put e1 hj
    have g1 : (upd H1 j (.lst [.int a, .int b, .int (c + 1)])) j = some (.lst [.int a, .int b, .int (c + 1)]) := upd_same
    show tSeq _ _ _ _ (upd H1 j (.lst [.int a, .int b, .int (c + 1)]))
    revert f1 g1
    generalize upd H1 j _ = H2
    intro f1 g1
    by_cases hp : 0 < a
    · refine q_yes (et_is (et_test (ev_I0 (ev_ixL (ev_var rfl) ev_c (sq_of g1) rfl) ev_c)) (by simpa using hp)) fun H3 e3 => ?_
      have g3 := e3 _ _ g1
      refine q_asgG (k_cbE (ea_cons (ev_int1 (ev_ixL (ev_var rfl) ev_c (sq_of g3) rfl)) (ea_cons (ev_var rfl) ea_nil)) fun H4 e4 => ⟨a, m, rfl, ⟨h0, h1⟩, fun p np => ?_⟩)
      have e5 : Ex H4 (upd H4 p (.tup [.int (a / m), .int (a % m)])) := Ex.new np
      refine ⟨p, _, rfl, st_of upd_same, rfl, _, _, rfl, ?_⟩
      refine ⟨_, rfl, ⟨j, [.int a, .int b, .int (c + 1)], 0, 0, rfl, rfl, e5 _ _ (e4 _ _ g3), rfl, ?_⟩⟩
      have f6 : Frm [j] H (upd (upd H4 p (.tup [.int (a / m), .int (a % m)])) j (.lst [.int (a / m), .int b, .int (c + 1)])) := (f1.trans (Frm.ex e3)).trans (frm_put (e4.trans e5) g3)
      refine ⟨_, _, rfl, ?_⟩
      refine ⟨rfl, ?_⟩
      have hd : 0 ≤ a % m := Int.emod_nonneg _ (by omega)
      have hd2 : a % m < m := Int.emod_lt_of_pos _ h0
      refine s_ret (v := .int ((a % m).toNat : Nat)) (ev_is (ev_var rfl) (congrArg V.int (by omega))) fun H7 e7 => hQ _ H7 (by omega) ⟨f6.trans (Frm.ex e7), ⟨_, _, _, e7 _ _ upd_same⟩⟩
    · refine q_skip (et_is (et_test (ev_I0 (ev_ixL (ev_var rfl) ev_c (sq_of g1) rfl) ev_c)) (by simpa using hp)) fun H3 e3 => ?_
      have g3 := e3 _ _ g1
      refine q_setL (j := 1) g3 (ev_I (ev_int1 (ev_I0 (ev_I0 (ev_I (ev_ixL (ev_var rfl) ev_c (sq_of g3) rfl) ev_c (cmul_r (by decide))) (ev_I (ev_ixL (ev_var rfl) ev_c (sq_of g3) rfl) ev_c (cmul_r (by decide)))) (ev_I (ev_I (ev_ixL (ev_var rfl) ev_c (sq_of g3) rfl) ev_c ⟨by decide, by decide⟩) ev_c (cmul_r (by decide))))) ev_c (by decide)) (ev_var rfl) ev_c (by show 1 < 3; decide) fun H4 e4 => ?_
      generalize hb : ((b * 44221 + (c + 1) * 70007 + b / 6007 * 19) % 1999999927 : Int) = b'
      have f4 : Frm [j] H (upd H4 j (.lst [.int a, .int b', .int (c + 1)])) := (f1.trans (Frm.ex e3)).trans (frm_put e4 g3)
      have g4 : (upd H4 j (.lst [.int a, .int b', .int (c + 1)])) j = some (.lst [.int a, .int b', .int (c + 1)]) := upd_same
      show tRet _ _ _ (upd H4 j (.lst [.int a, .int b', .int (c + 1)]))
      revert f4 g4
      generalize upd H4 j _ = H5
      intro f4 g4
      have hd : 0 ≤ b' / 157 % m := Int.emod_nonneg _ (by omega)
      have hd2 : b' / 157 % m < m := Int.emod_lt_of_pos _ h0
      refine s_ret (v := .int ((b' / 157 % m).toNat : Nat)) (ev_is (ev_I (ev_int1 (ev_I (ev_ixL (ev_var rfl) ev_c (sq_of g4) rfl) ev_c ⟨by decide, by decide⟩)) (ev_var rfl) h0) (congrArg V.int (by omega))) fun H7 e7 => hQ _ H7 (by omega) ⟨f4.trans (Frm.ex e7), ⟨_, _, _, e7 _ _ g4⟩⟩
end
end LS
end
-- text Lb
section
set_option maxHeartbeats 4000000
/-! The law's from, words, loop, line. -/
namespace LS
open PySem PySem.Spec PyProof.Rows L2 Evl
abbrev sc__law_from_N : List Str := ["_law_jar_here", "_law_things"]
theorem sc__law_from : FnScope sc__law_from_N ["_law_jar_here", "_law_things"] (defScope (top 42)) := ⟨rfl, rfl, rfl, by decide +kernel, rfl, by decide +kernel, by decide +kernel⟩
def sp_l_from : Sp := fun vs H Q _ => ∃ j a, ∃ xs : List V, vs = [.ref j, .ref a] ∧ JAt H j ∧ a ≠ j ∧ H a = some (.lst xs) ∧ xs ≠ [] ∧ xs.length < 1000 ∧ ∀ x H', x ∈ xs → JR j H H' → Q x H'
section
variable {P : Program} {w : World} {K : PySem.W.Frag} {mg : Str → Option Value} {base : Heap}
theorem c_l_from (T : Tx K mg) : C8.Cal P w K mg base 2 "_law_from" sp_l_from [] := by
  refine mkCal T.d_l_from T.g_l_from sc__law_from (fun _ _ _ _ _ _ us hl => match us, hl with | [_, _], _ => rfl) (fun vs H Q E h => ?_) (fun cdv A outer s H vs Q E hr h => ?_)
  · obtain ⟨j, a, xs, rfl, _⟩ := h
    rfl
  · obtain ⟨j, a, xs, rfl, hj, hne, ha, hx, hl, hQ⟩ := h
    have hlen : 0 < xs.length := List.length_pos_iff.mpr hx
    refine ⟨_, (pss_one (ps_ret (pe_ix ix_list (pv 1) (C8.pe_c (c_l_sip T) hr (by decide) rfl (pa_cons (pv 0) (pa_cons (pe_callB call_len_seq (by rfl) T.f_len (by decide +kernel) (pa_cons (pv 1) pa_nil)) pa_nil))) (fun _ _ => rfl)))), ?_⟩
    refine s_retV (k_opE (ev_var rfl) fun H1 e1 => k_call (ea_cons (ev_var rfl) (ea_cons (ev_len (ev_var rfl) (sq_of (e1 _ _ ha))) ea_nil)) fun H2 e2 => ⟨j, _, rfl, (hj.ex e1).ex e2, by omega, by omega, fun d H3 hd r3 => ?_⟩)
    have hd : d < xs.length := by omega
    exact ⟨a, xs, (d : Nat), xs[d], rfl, rfl, sq_of (r3.lst ((e1.trans e2) _ _ ha) hne), atI_nat (List.getElem?_eq_getElem hd), hQ _ _ (List.getElem_mem hd) (((JR.refl hj).ex (e1.trans e2)).trans r3)⟩
end
abbrev sc__law_words_N : List Str := ["_law_jar_here", "_law_steps", "_law_many", "_law_tests", "_law_found", "_law_turn", "_law_word_here"]
theorem sc__law_words : FnScope sc__law_words_N ["_law_jar_here", "_law_steps", "_law_many"] (defScope (top 43)) := ⟨rfl, rfl, rfl, by decide +kernel, rfl, by decide +kernel, by decide +kernel⟩
def stpV (ss : List Stp) : List V := ss.map fun s => .str s.str
def sp_l_words : Sp := fun vs H Q _ => ∃ j a, ∃ ss : List Stp, ∃ m : Nat, vs = [.ref j, .ref a, .int m] ∧ JAt H j ∧ a ≠ j ∧ H a = some (.lst (stpV ss)) ∧ ss ≠ [] ∧ ss.length < 100 ∧ m ≤ 20 ∧
  ∀ p (ws : List Wd) H', H p = none → JR j H H' → H' p = some (.lst (ws.map Wd.v)) → ws.length = m → (∀ w ∈ ws, w.s ∈ ss) → Q (.ref p) H'
def allTst : List Tst := [.empty, .some_, .short, .full, .told, .open_, .rest, .bare]
theorem allTst_v : [V.str "empty", V.str "some", V.str "short", V.str "full", V.str "told", V.str "open", V.str "rest", V.str "bare"] = allTst.map fun t => .str t.str := rfl
section
variable {K : PySem.W.Frag} {σ : L2.St} {H : Hp} {ta tb te : TE} {r : R2}
theorem en_sip {j : Addr} {m : Int} {i : Nat} {v : V} (hr : ∀ (d : Nat) H1 (Q : VK), (∀ b, Q (.bl b) H1) → r (.int d) v H1 Q) (hi : σ[i]? = some (some (.ref j))) (hj : JAt H j) (h0 : 0 < m) (h1 : m < 1073741824) : EvN (tTest (tOp r (tCall sp_l_sip [] E0 (tCons (tVar i) (tCons (tC (.int m)) tNil))) (tC v))) σ H (JR j H) := fun Q q =>
  k_op (k_call (ea_cons (ev_var hi) (ea_cons ev_c ea_nil)) fun H1 e1 => ⟨j, m, rfl, hj.ex e1, h0, h1, fun d H2 _ r2 => hr d H2 _ fun b => ⟨b, rfl, q b H2 (((JR.refl hj).ex e1).trans r2)⟩⟩)
end
theorem hr_gt {v : Int} (d : Nat) (H1 : Hp) (Q : VK) (q : ∀ b, Q (.bl b) H1) : (rI0 fun i j => V.bl (decide (j < i))) (.int d) (.int v) H1 Q := ⟨_, _, rfl, rfl, q _⟩
theorem hr_eq {v : Int} (d : Nat) (H1 : Hp) (Q : VK) (q : ∀ b, Q (.bl b) H1) : rEq (.int d) (.int v) H1 Q := ⟨rfl, q _⟩
section
variable {P : Program} {w : World} {K : PySem.W.Frag} {mg : Str → Option Value} {base : Heap}
theorem c_l_words (T : Tx K mg) : C8.Cal P w K mg base 3 "_law_words" sp_l_words [] := by
  refine mkCal T.d_l_words T.g_l_words sc__law_words (fun _ _ _ _ _ _ us hl => match us, hl with | [_, _, _], _ => rfl) (fun vs H Q E h => ?_) (fun cdv A outer s H vs Q E hr h => ?_)
  · obtain ⟨j, a, ss, m, rfl, _⟩ := h
    rfl
  · obtain ⟨j, a, ss, m, rfl, hj, hne, ha, hss, hsl, hm, hQ⟩ := h
    refine ⟨_, (pss_cons (ps_set (i := 3) sc__law_words.nd rfl (Or.inl rfl) (pe_lst (pa_cons pe_str (pa_cons pe_str (pa_cons pe_str (pa_cons pe_str (pa_cons pe_str (pa_cons pe_str (pa_cons pe_str (pa_cons pe_str pa_nil))))))))))
      (pss_cons (ps_set (i := 4) sc__law_words.nd rfl (Or.inl rfl) (pe_lst pa_nil))
      (pss_cons (ps_for PassesOwn.never rfl (pi_range1 (by rfl) T.f_range (pa_cons (pv 2) pa_nil)) (pg_name (i := 5) sc__law_words.nd rfl (Or.inl rfl))
        (pss_cons (ps_set (i := 6) sc__law_words.nd rfl (Or.inl rfl) (C8.pe_c (c_l_from T) hr (by decide) rfl (pa_cons (pv 0) (pa_cons (pv 1) pa_nil))))
        (pss_cons (ps_if (PW.pt (pw_or (PW.pt (pw_and (pt_cmpR op_in_seq (pv 6) (pe_lst (pa_cons pe_str (pa_cons pe_str pa_nil))) (by rfl)) (pw_and1 (pt_cmpR op_gt (C8.pe_c (c_l_sip T) hr (by decide) rfl (pa_cons (pv 0) (pa_cons pe_int pa_nil))) pe_int (nomark _))))) (pw_or1 (pt_cmpR op_eq (C8.pe_c (c_l_sip T) hr (by decide) rfl (pa_cons (pv 0) (pa_cons pe_int pa_nil))) pe_int (nomark _)))))
          (pss_one (ps_set (i := 6) sc__law_words.nd rfl (Or.inl rfl) (pe_op op_add_str (pe_op op_add_str (C8.pe_c (c_l_from T) hr (by decide) rfl (pa_cons (pv 0) (pa_cons (pv 3) pa_nil))) pe_str) (pv 6))))
          pss_nil)
        (pss_one (ps_expr (pe_bm PySem.F.plainAttrs_list PySem.F.slot_list_append PySem.F.type_list_append mt_append (pv 4) (pa_cons (pv 6) pa_nil)))))))
      (pss_one (ps_ret (pv 4)))))), ?_⟩
    refine q_asgL (el_lst (ea_cons ev_c (ea_cons ev_c (ea_cons ev_c (ea_cons ev_c (ea_cons ev_c (ea_cons ev_c (ea_cons ev_c (ea_cons ev_c ea_nil)))))))) (by show 8 ≤ 100000; decide)) fun t H1 nt e1 h1 => ?_
    refine q_asgL (el_lst ea_nil (by decide)) fun p H2 np e2 h2 => ?_
    have npH : H p = none := fresh_back e1 np
    have hjt := hj.ne nt
    have hjp := hj.ne npH
    have htp : t ≠ p := ne_of_none h1 np
    have h1 := e2 _ _ h1
    have e2 := e1.trans e2
    refine q_forR1 (n := (m : Int)) (ea_cons (ev_var rfl) ea_nil) ⟨by omega, by omega⟩ (fun i σ' H' => (∃ v5 v6, σ' = [some (.ref j), some (.ref a), some (.int m), some (.ref t), some (.ref p), v5, v6]) ∧ JR j H H' ∧ H' t = some (.lst (allTst.map fun t => .str t.str)) ∧ ∃ ws : List Wd, H' p = some (.lst (ws.map Wd.v)) ∧ ws.length = i ∧ ∀ w ∈ ws, w.s ∈ ss)
      (fun H3 e3 => ⟨⟨none, none, rfl⟩, (JR.refl hj).ex (e2.trans e3), e3 _ _ h1, [], e3 _ _ h2, rfl, fun w hw => by cases hw⟩) ?_ ?_
    · rintro i σ' H' hi ⟨⟨v5, v6, rfl⟩, J, ht, ws, hp, hw, hs⟩
      show tSeq _ _ _ [some (.ref j), some (.ref a), some (.int m), some (.ref t), some (.ref p), some (.int (i : Int)), v6] H'
      have htj : t ≠ j := Ne.symm hjt
      have hpj : p ≠ j := Ne.symm hjp
      refine q_setV (k_call (ea_cons (ev_var rfl) (ea_cons (ev_var rfl) ea_nil)) fun H3 e3 => ⟨j, a, _, rfl, J.2.ex e3, hne, e3 _ _ (J.lst ha hne), by unfold stpV; simpa using hss, by unfold stpV; rw [List.length_map]; omega, fun x H4 hx r4 => ?_⟩)
      obtain ⟨s, hsm, rfl⟩ := List.mem_map.mp hx
      have J4 := (J.ex e3).trans r4
      have ht4 := r4.lst (e3 _ _ ht) htj
      have hp4 := r4.lst (e3 _ _ hp) hpj
      show tSeq _ _ _ [some (.ref j), some (.ref a), some (.int m), some (.ref t), some (.ref p), some (.int (i : Int)), some (.str s.str)] H4
      have app : ∀ (wd : Wd) H5, wd.s = s → JR j H4 H5 → tDrop (tBM K "list" rAppend (tVar 4) (tCons (tVar 6) tNil))
          { nx := fun σ' H' => (∃ v5 v6, σ' = [some (.ref j), some (.ref a), some (.int m), some (.ref t), some (.ref p), v5, v6]) ∧ JR j H H' ∧ H' t = some (.lst (allTst.map fun t => .str t.str)) ∧ ∃ ws : List Wd, H' p = some (.lst (ws.map Wd.v)) ∧ ws.length = i + 1 ∧ ∀ w ∈ ws, w.s ∈ ss, rt := Q,
            bk := fun σ' H' => tRet (tVar 4) { nx := fun _ H' => Q .non H', rt := Q } σ' H', ct := fun σ' H' => (∃ v5 v6, σ' = [some (.ref j), some (.ref a), some (.int m), some (.ref t), some (.ref p), v5, v6]) ∧ JR j H H' ∧ H' t = some (.lst (allTst.map fun t => .str t.str)) ∧ ∃ ws : List Wd, H' p = some (.lst (ws.map Wd.v)) ∧ ws.length = i + 1 ∧ ∀ w ∈ ws, w.s ∈ ss }
          [some (.ref j), some (.ref a), some (.int m), some (.ref t), some (.ref p), some (.int (i : Int)), some (Wd.v wd)] H5 := by
        intro wd H5 hwd J5
        have hp5 := J5.lst hp4 hpj
        have ht5 := J5.lst ht4 htj
        refine s_app hp5 (ev_var rfl) (ev_var rfl) (by rw [List.length_map]; omega) fun H6 e6 => ⟨⟨_, _, rfl⟩, ((J4.trans J5).ex e6).late npH hjp, by rw [upd_ne htp]; exact e6 _ _ ht5, ws ++ [wd], by rw [List.map_append]; exact upd_same, by rw [List.length_append, hw]; rfl, fun w hw => ?_⟩
        rcases List.mem_append.mp hw with h | h
        · exact hs w h
        · rw [List.mem_singleton.mp h, hwd]; exact hsm
      refine q_ifN (R := JR j H4) (en_or (R1 := JR j H4) (en_and (R1 := Ex H4) (en_t (et_test (ev_inL2 (ev_var rfl) (ea_cons ev_c (ea_cons ev_c ea_nil)) (by show 2 ≤ 100000; decide) rfl rfl))) (fun H5 e5 => (JR.refl J4.2).ex e5) (fun H5 e5 Q q => en_sip (hr_gt (v := 0)) rfl (J4.2.ex e5) (by decide) (by decide) Q fun b H6 r6 => q b H6 (((JR.refl J4.2).ex e5).trans r6)))
        (fun _ h => h) (fun H5 r5 Q q => en_sip (hr_eq (v := 0)) rfl r5.2 (by decide) (by decide) Q fun b H6 r6 => q b H6 (r5.trans r6))) (fun H5 r5 => ?_) (fun H5 r5 => ?_)
      · refine s_setV (k_op (k_op (k_call (ea_cons (ev_var rfl) (ea_cons (ev_var rfl) ea_nil)) fun H6 e6 => ⟨j, t, _, rfl, r5.2.ex e6, htj, e6 _ _ (r5.lst ht4 htj), by unfold allTst; simp, by decide, fun x H7 hx r7 => ?_⟩)))
        obtain ⟨tt, _, rfl⟩ := List.mem_map.mp hx
        refine ⟨_, _, rfl, rfl, ?_, _, rfl, _, _, rfl, rfl, ?_, ?_⟩
        · cases tt <;> decide +kernel
        · cases tt <;> cases s <;> decide +kernel
        · exact app ⟨some tt, s⟩ _ rfl ((r5.ex e6).trans r7)
      · exact app ⟨none, s⟩ _ rfl r5
    · rintro σ' H' ⟨⟨v5, v6, rfl⟩, J, ht, ws, hp, hw, hs⟩
      refine s_ret (ev_var rfl) fun H3 e3 => hQ p ws H3 npH (J.ex e3) (e3 _ _ hp) (by rw [hw]; simp) hs
end
end LS
end
-- text Lc
section
set_option maxHeartbeats 4000000
/-! The law's loop, line; data. -/
namespace LS
open PySem PySem.Spec PyProof.Rows L2 Evl
/-! ### data -/
def Fd (k : Nat) (d : PyData) : Prop := d.canLay0 = true ∧ d.depth ≤ k
theorem Fd.mono {k m : Nat} {d : PyData} (h : Fd k d) (l : k ≤ m) : Fd m d := ⟨h.1, Nat.le_trans h.2 l⟩
theorem Fd.sh {k : Nat} {d : PyData} (h : Fd k d) (l : k ≤ 64 := by decide) : SeqAt.shaped d = true := by
  unfold SeqAt.shaped
  rw [h.1, decide_eq_true (Nat.le_trans h.2 l)]; rfl
theorem fd_all {k : Nat} : ∀ {ds : List PyData}, (∀ d ∈ ds, Fd k d) → PyData.canLayAll0 ds = true ∧ PyData.depthAll ds ≤ k
  | [], _ => ⟨by simp [PyData.canLayAll0], by simp [PyData.depthAll]⟩
  | d :: ds, h => by
    obtain ⟨a, b⟩ := h d (List.mem_cons_self ..)
    obtain ⟨c, e⟩ := fd_all (ds := ds) fun x hx => h x (List.mem_cons_of_mem _ hx)
    refine ⟨?_, ?_⟩
    · rw [PyData.canLayAll0, a, c]; rfl
    · rw [PyData.depthAll]; omega
theorem fd_list {k : Nat} {ds : List PyData} (h : ∀ d ∈ ds, Fd k d) : Fd (k + 1) (.list ds) := ⟨by rw [PyData.canLay0]; exact (fd_all h).1, by rw [PyData.depth]; have := (fd_all h).2; omega⟩
theorem fd_tup {k : Nat} {ds : List PyData} (h : ∀ d ∈ ds, Fd k d) : Fd (k + 1) (.tuple ds) := ⟨by rw [PyData.canLay0]; exact (fd_all h).1, by rw [PyData.depth]; have := (fd_all h).2; omega⟩
theorem fd_int {i : Int} : Fd 0 (.int i) := ⟨by rw [PyData.canLay0], by rw [PyData.depth]; exact Nat.le_refl _⟩
theorem fd_bool {b : Bool} : Fd 0 (.bool b) := ⟨by rw [PyData.canLay0], by rw [PyData.depth]; exact Nat.le_refl _⟩
theorem fd_non : Fd 0 .none := ⟨by rw [PyData.canLay0], by rw [PyData.depth]; exact Nat.le_refl _⟩
theorem fd_str {s : Str} (h : PyData.strOk s = true) : Fd 0 (.str s) := ⟨by rw [PyData.canLay0]; exact h, by rw [PyData.depth]; exact Nat.le_refl _⟩
theorem wd_sok : ∀ w : Wd, PyData.strOk w.str = true := by
  rintro ⟨t, s⟩
  rcases t with _ | t
  · cases s <;> decide +kernel
  · cases t <;> cases s <;> decide +kernel
def wsD (ws : List Wd) : PyData := .list (ws.map fun w => .str w.str)
theorem wsD_fd (ws : List Wd) : Fd 1 (wsD ws) := fd_list fun d h => by
  obtain ⟨w, _, rfl⟩ := List.mem_map.mp h
  exact fd_str (wd_sok w)
theorem nil_fd : Fd 1 (.list []) := fd_list fun d h => by cases h
section
variable {K : PySem.W.Frag} {H : Hp}
theorem dpA_map {α : Type} {f : α → V} {g : α → PyData} (h : ∀ x, Dp K H (f x) (g x)) : ∀ l : List α, DpAll K H (l.map f) (l.map g)
  | [] => .nil
  | x :: l => .cons (h x) (dpA_map h l)
theorem dp_ws {a : Addr} {ws : List Wd} (h : H a = some (.lst (ws.map Wd.v))) : Dp K H (.ref a) (wsD ws) := .lst (sq_of h) (dpA_map (fun w => .str w.str) ws)
theorem eqv_nil {ds : List PyData} : PyData.eqv (.list ds) (.list []) = decide (ds = []) := by
  cases ds with
  | nil => simp [PyData.eqv, PyData.eqvAll]
  | cons d ds => simp [PyData.eqv, PyData.eqvAll]
theorem ev_neNil {σ : L2.St} {ta : TE} {a : Addr} {xs : List V} {ds : List PyData} {k : Nat} (ha : Ev ta σ H (.ref a)) (hx : H a = some (.lst xs)) (hd : ∀ H1, Ex H H1 → DpAll K H1 xs ds) (hf : Fd k (.list ds)) (hk : k ≤ 64 := by decide) : Ev (tOp (rNeD K) ta (tLst tNil)) σ H (.bl (!decide (xs = []))) :=
  ev_opL ha (el_lst ea_nil (by decide)) fun p H1 hp e1 H2 e2 Q q => by
    have hl : decide (ds = []) = decide (xs = []) := by
      have := hd H2 (e1.trans e2)
      cases this with
      | nil => simp
      | cons _ _ => simp
    refine ⟨.list ds, .list [], .lst (sq_of ((e1.trans e2) _ _ hx)) (hd _ (e1.trans e2)), .lst (sq_of (e2 _ _ hp)) .nil, hf.sh hk, nil_fd.sh, ?_⟩
    rw [eqv_nil, hl]
    exact q H2 (Ex.refl H2)
theorem ev_eqNil {σ : L2.St} {ta : TE} {a : Addr} {xs : List V} {ds : List PyData} {k : Nat} (ha : Ev ta σ H (.ref a)) (hx : H a = some (.lst xs)) (hd : ∀ H1, Ex H H1 → DpAll K H1 xs ds) (hf : Fd k (.list ds)) (hk : k ≤ 64 := by decide) : Ev (tOp (rEqD K) ta (tLst tNil)) σ H (.bl (decide (xs = []))) :=
  ev_opL ha (el_lst ea_nil (by decide)) fun p H1 hp e1 H2 e2 Q q => by
    have hl : decide (ds = []) = decide (xs = []) := by
      have := hd H2 (e1.trans e2)
      cases this with
      | nil => simp
      | cons _ _ => simp
    refine ⟨.list ds, .list [], .lst (sq_of ((e1.trans e2) _ _ hx)) (hd _ (e1.trans e2)), .lst (sq_of (e2 _ _ hp)) .nil, hf.sh hk, nil_fd.sh, ?_⟩
    rw [eqv_nil, hl]
    exact q H2 (Ex.refl H2)
theorem el_cat {σ : L2.St} {ta tb : TE} {a : Addr} {xs ys : List V} (ha : Ev ta σ H (.ref a)) (hx : H a = some (.lst xs)) (hb : EvL tb σ H ys) (hl : xs.length + ys.length ≤ 100000) : EvL (tOp rCat ta tb) σ H (xs ++ ys) := fun H1 e1 Q q =>
  ha H1 e1 _ fun H2 e2 => hb H2 (e1.trans e2) _ fun p H3 np e3 hp => ⟨a, p, xs, ys, rfl, rfl, ((e1.trans e2).trans e3) _ _ hx, hp, sz_of hl, fun z hz => q z _ (fresh_back (e2.trans e3) hz) ((e2.trans e3).trans (Ex.new hz)) upd_same⟩
theorem el_catE {σ : L2.St} {ta tb : TE} {a b : Addr} {xs ys : List V} (ha : Ev ta σ H (.ref a)) (hx : H a = some (.lst xs)) (hb : Ev tb σ H (.ref b)) (hy : H b = some (.lst ys)) (hl : xs.length + ys.length ≤ 100000) : EvL (tOp rCat ta tb) σ H (xs ++ ys) := fun H1 e1 Q q =>
  ha H1 e1 _ fun H2 e2 => hb H2 (e1.trans e2) _ fun H3 e3 => ⟨a, b, xs, ys, rfl, rfl, ((e1.trans e2).trans e3) _ _ hx, ((e1.trans e2).trans e3) _ _ hy, sz_of hl, fun z hz => q z _ (fresh_back (e2.trans e3) hz) ((e2.trans e3).trans (Ex.new hz)) upd_same⟩
theorem el_catLL {σ : L2.St} {ta tb : TE} {xs ys : List V} (ha : EvL ta σ H xs) (hb : EvL tb σ H ys) (hl : xs.length + ys.length ≤ 100000) : EvL (tOp rCat ta tb) σ H (xs ++ ys) := fun H1 e1 Q q =>
  ha H1 e1 _ fun a H2 na e2 hx => hb H2 (e1.trans e2) _ fun p H3 np e3 hp => ⟨a, p, xs, ys, rfl, rfl, e3 _ _ hx, hp, sz_of hl, fun z hz => q z _ (fresh_back (e2.trans e3) hz) ((e2.trans e3).trans (Ex.new hz)) upd_same⟩
theorem el_catLE {σ : L2.St} {ta tb : TE} {b : Addr} {xs ys : List V} (ha : EvL ta σ H xs) (hb : Ev tb σ H (.ref b)) (hy : H b = some (.lst ys)) (hl : xs.length + ys.length ≤ 100000) : EvL (tOp rCat ta tb) σ H (xs ++ ys) := fun H1 e1 Q q =>
  ha H1 e1 _ fun a H2 na e2 hx => hb H2 (e1.trans e2) _ fun H3 e3 => ⟨a, b, xs, ys, rfl, rfl, e3 _ _ hx, ((e1.trans e2).trans e3) _ _ hy, sz_of hl, fun z hz => q z _ (fresh_back (e2.trans e3) hz) ((e2.trans e3).trans (Ex.new hz)) upd_same⟩
theorem ev_join {σ : L2.St} {te : TE} {z : Str} {ys : List Str} (h : EvL te σ H (ys.map V.str)) (hl : (ys.map (·.length)).sum + ys.length * z.length ≤ 16777216) : Ev (tM1 (fun x xs H Q => ∃ a p, ∃ ys : List Str, x = .str a ∧ xs = [.ref p] ∧ (SqL K H p (ys.map V.str) ∨ SqT K H p (ys.map V.str)) ∧ (ys.map (·.length)).sum + ys.length * a.length ≤ 16777216 ∧ Q (.str (Txt.join a ys)) H) (tC (.str z)) te) σ H (.str (Txt.join z ys)) := fun H1 e1 Q q =>
  ⟨⟨_, rfl⟩, h H1 e1 _ fun p H2 _ e2 hp => ⟨z, p, ys, rfl, rfl, .inl (sq_of hp), hl, q H2 e2⟩⟩
theorem ev_joinE {σ : L2.St} {te : TE} {z : Str} {ys : List Str} {b : Addr} (h : Ev te σ H (.ref b)) (hb : H b = some (.lst (ys.map V.str))) (hl : (ys.map (·.length)).sum + ys.length * z.length ≤ 16777216) : Ev (tM1 (fun x xs H Q => ∃ a p, ∃ ys : List Str, x = .str a ∧ xs = [.ref p] ∧ (SqL K H p (ys.map V.str) ∨ SqT K H p (ys.map V.str)) ∧ (ys.map (·.length)).sum + ys.length * a.length ≤ 16777216 ∧ Q (.str (Txt.join a ys)) H) (tC (.str z)) te) σ H (.str (Txt.join z ys)) := fun H1 e1 Q q =>
  ⟨⟨_, rfl⟩, h H1 e1 _ fun H2 e2 => ⟨z, b, ys, rfl, rfl, .inl (sq_of ((e1.trans e2) _ _ hb)), hl, q H2 e2⟩⟩
end
abbrev sc__law_line_N : List Str := ["_law_begun", "_law_ended"]
theorem sc__law_line : FnScope sc__law_line_N ["_law_begun", "_law_ended"] (defScope (top 45)) := ⟨rfl, rfl, rfl, by decide +kernel, rfl, by decide +kernel, by decide +kernel⟩
def sp_l_line : Sp := fun vs H Q _ => ∃ b e ws es, vs = [.ref b, .ref e] ∧ LOk ws es ∧ H b = some (.lst (.str "ask" :: ws.map Wd.v)) ∧ H e = some (.lst (es.map Wd.v)) ∧ SpRet (.str (txtOf ws es)) H Q
section
variable {P : Program} {w : World} {K : PySem.W.Frag} {mg : Str → Option Value} {base : Heap}
theorem c_l_line (T : Tx K mg) : C8.Cal P w K mg base 1 "_law_line" sp_l_line [] := by
  refine mkCal T.d_l_line T.g_l_line sc__law_line (fun _ _ _ _ _ _ us hl => match us, hl with | [_, _], _ => rfl) (fun vs H Q E h => ?_) (fun cdv A outer s H vs Q E hr h => ?_)
  · obtain ⟨b, e, ws, es, rfl, _⟩ := h
    rfl
  · obtain ⟨b, e, ws, es, rfl, ok, hb, he, hQ⟩ := h
    have l1 := ok.l1
    have l2 := ok.l2
    have hb : H b = some (.lst ((begStr ws).map V.str)) := by rw [begV]; exact hb
    refine ⟨_, (pss_one (ps_ret (pe_ifExp (pt_cmpR (op_neD hr.units) (pv 1) (pe_lst pa_nil) (nomark _)) (pe_join pe_str (pe_op op_cat (pe_op op_cat (pv 0) (pe_lst (pa_cons pe_str pa_nil))) (pv 1))) (pe_join pe_str (pv 0))))), ?_⟩
    have ht : EvT (tTest (tOp (rNeD K) (tVar 1) (tLst tNil))) (L2.start sc__law_line_N [.ref b, .ref e]) H (!decide (es = [])) := et_is (et_test (ev_neNil (ev_var rfl) he (fun H1 _ => dpA_map (fun w => .str w.str) es) (wsD_fd es))) (by simp)
    have hbl : (begStr ws).length ≤ 9 := by unfold begStr wsStr; simp; omega
    have sm : ∀ l : List Str, l.length ≤ 12 → (∀ p ∈ l, p.length ≤ 20) → (l.map (·.length)).sum + l.length * (" " : Str).length ≤ 16777216 := fun l h1 h2 => by
      have := len_sum h2
      have e1 : (" " : Str).length = 1 := by decide +kernel
      rw [e1]
      omega
    by_cases hes : es = []
    · subst hes
      refine s_ret (ev_if (b := false) (et_is ht rfl) (fun z => by cases z) (fun _ => ev_joinE (ev_var rfl) hb (sm _ (by omega) (beg20 ws)))) fun H1 e1 => Q_eq (hQ H1 e1) ?_
      unfold txtOf
      rw [if_pos rfl, List.append_nil]
    · refine s_ret (v := .str (txtOf ws es)) (ev_if (b := true) (et_is ht (by rw [decide_eq_false hes]; rfl)) (fun _ => ?_) (fun z => by cases z)) fun H1 e1 => hQ H1 e1
      unfold txtOf
      rw [if_neg hes]
      refine ev_join ?_ (sm _ (by have := all_len ws es; rw [if_neg hes] at this; omega) (by have := all20 ws es; rw [if_neg hes] at this; exact this))
      have := el_catLE (σ := L2.start sc__law_line_N [.ref b, .ref e]) (ta := tOp rCat (tVar 0) (tLst (tCons (tC (.str "|")) tNil))) (tb := tVar 1) (el_cat (ev_var rfl) hb (el_lst (ea_cons ev_c ea_nil) (by show 1 ≤ 100000; decide)) (by rw [List.length_map]; show _ + 1 ≤ _; omega)) (ev_var rfl) he (by rw [List.length_append, List.length_map, List.length_map]; show _ + 1 + _ ≤ _; omega)
      rw [List.map_append, List.map_cons, wsV]
      rw [List.append_assoc] at this
      exact this
end
end LS
end
-- text Ld
section
set_option maxHeartbeats 4000000
/-! The law's loop. -/
namespace LS
open PySem PySem.Spec PyProof.Rows L2 Evl
abbrev rSplitS : V → List V → Hp → VK → Prop := fun x xs H Q => ∃ a b, x = .str a ∧ xs = [.str b] ∧ (b.length == 0) = false ∧ a.length + 2 ≤ sizeLine ∧ rNewStrs (Txt.split a b) H Q
section
variable {K : PySem.W.Frag} {σ : L2.St} {H : Hp} {to te : TE} {tz : TS} {D : Ends} {Q : VK} {r : V → List V → Hp → VK → Prop}
theorem k_m1 (h : to σ H fun x H1 => (∃ a, x = .str a) ∧ te σ H1 fun y H2 => r x [y] H2 Q) : tM1 r to te σ H Q := h
end
theorem stp_len (s : Stp) : s.str.length ≤ 5 := by cases s <;> decide +kernel
theorem k_tup {σ : L2.St} {H : Hp} {ta : TA} {Q : VK} (h : ta σ H fun vs H1 => vs.length ≤ sizeLine ∧ ∀ p, H1 p = none → Q (.ref p) (upd H1 p (.tup vs))) : tTup ta σ H Q := h
theorem q_ifM {σ : L2.St} {H : Hp} {tt : TT} {tu tz : TS} {D : Ends} {R : Hp → Prop} (h : EvN tt σ H R) (h1 : ∀ H1, R H1 → tu { D with nx := tz D } σ H1) (h2 : ∀ H1, R H1 → tz D σ H1) : tSeq (tIfS tt tu tNext) tz D σ H := q_ifN h h1 h2
def insW (d : Nat) (w : Wd) (ws : List Wd) : List Wd := ws.take d ++ w :: ws.drop d
theorem insW_len {d : Nat} {w : Wd} {ws : List Wd} (h : d ≤ ws.length) : (insW d w ws).length = ws.length + 1 := by
  unfold insW
  rw [List.length_append, List.length_take, List.length_cons, List.length_drop]
  omega
theorem insW_ad {d : Nat} {w : Wd} {ws : List Wd} : ((insW d w ws).filter fun w => decide (w.s = .add)).length = (ws.filter fun w => decide (w.s = .add)).length + (if w.s = .add then 1 else 0) := by
  unfold insW
  have e : ws.filter (fun w => decide (w.s = .add)) = (ws.take d).filter (fun w => decide (w.s = .add)) ++ (ws.drop d).filter (fun w => decide (w.s = .add)) := by rw [← List.filter_append, List.take_append_drop]
  rw [e, List.filter_append, List.filter_cons]
  by_cases h : w.s = .add
  · rw [if_pos (decide_eq_true h), if_pos h]; simp; omega
  · rw [if_neg (by simpa using h), if_neg h]; simp
section
variable {K : PySem.W.Frag} {σ : L2.St} {H : Hp} {D : Ends} {ts : TE} {ss : List Stp} {j b : Addr} {v1 v2 v3 v5 v6 : Option V} {ws : List Wd}
theorem k_insert (hj : JAt H j) (hb : H b = some (.lst (.str "ask" :: ws.map Wd.v))) (hbj : b ≠ j) (hl : ws.length ≤ 20) (hts : ∀ σ H, EvL ts σ H (stpV ss)) (hss : ss ≠ []) (hsl : ss.length < 100)
    (k : ∀ d w b' v6' H', d ≤ ws.length → w.s ∈ ss → H b' = none → JR j H H' → H' b' = some (.lst (.str "ask" :: (insW d w ws).map Wd.v)) → D.nx [some (.ref j), v1, v2, v3, some (.ref b'), v5, v6'] H') :
    tSeq (tAsg (tOp (rI0 fun i j => V.int (i + j)) (tC (.int 1)) (tCall sp_l_sip [] E0 (tCons (tVar 0) (tCons (tCB (rLenS K) (tCons (tVar 4) tNil)) tNil)))) (gName 6))
      (tAsg (tOp rCat (tOp rCat (tSl (rSlL K) (tVar 4) tNoPart (tPart (tVar 6))) (tCall sp_l_words [] E0 (tCons (tVar 0) (tCons ts (tCons (tC (.int 1)) tNil))))) (tSl (rSlL K) (tVar 4) (tPart (tVar 6)) tNoPart)) (gName 4)) D [some (.ref j), v1, v2, v3, some (.ref b), v5, v6] H := by
  refine q_setV (k_opE ev_c fun H1 e1 => k_call (ea_cons (ev_var rfl) (ea_cons (ev_len (ev_var rfl) (sq_of (e1 _ _ hb))) ea_nil)) fun H2 e2 => ⟨j, _, rfl, (hj.ex e1).ex e2, by rw [List.length_cons, List.length_map]; omega, by rw [List.length_cons, List.length_map]; omega, fun d H3 hd r3 => ⟨_, _, rfl, rfl, ?_⟩⟩)
  rw [List.length_cons, List.length_map] at hd
  have hd : d ≤ ws.length := by omega
  have J3 := ((JR.refl hj).ex (e1.trans e2)).trans r3
  have hb3 := J3.lst hb hbj
  show tAsg _ _ D [some (.ref j), v1, v2, v3, some (.ref b), v5, some (.int (1 + (d : Int)))] H3
  have hat : (1 + (d : Int)) = ((d + 1 : Nat) : Int) := by omega
  rw [hat]
  have pre : EvL (tSl (rSlL K) (tVar 4) tNoPart (tPart (tVar 6))) [some (.ref j), v1, v2, v3, some (.ref b), v5, some (.int ((d + 1 : Nat) : Int))] H3 (.str "ask" :: (ws.take d).map Wd.v) := by
    have := el_sl (K := K) (te := tVar 4) (tl := tNoPart) (th := tPart (tVar 6)) (σ := [some (.ref j), v1, v2, v3, some (.ref b), v5, some (.int ((d + 1 : Nat) : Int))]) (H := H3) (lo := none) (hi := some ((d + 1 : Nat) : Int)) (ev_var rfl) eo_none (eo_some (ev_var rfl)) (sq_of hb3)
    rw [cutV_to, List.take_succ_cons, ← List.map_take] at this
    exact this
  refine s_setV (k_op (k_op (pre H3 (Ex.refl _) _ fun q H4 nq e4 hq => k_cons (k_ev (ev_var rfl) fun H5 e5 => k_cons (hts _ _ H5 (Ex.refl _) _ fun s H6 ns e6 hs => k_cons (k_ev ev_c fun H7 e7 => ?_)))))) 
  have J7 := J3.ex (((e4.trans e5).trans e6).trans e7)
  have hsj : s ≠ j := Ne.symm (((J3.ex (e4.trans e5)).2).ne ns)
  have hqj : q ≠ j := Ne.symm ((J3.2).ne nq)
  refine ⟨j, s, ss, 1, rfl, J7.2, hsj, e7 _ _ hs, hss, hsl, by decide, fun p wz H8 np r8 hp hw hws => ?_⟩
  obtain ⟨w, rfl⟩ : ∃ w, wz = [w] := by
    match wz, hw with
    | [w], _ => exact ⟨w, rfl⟩
  have J8 := J7.trans r8
  have hq8 := r8.lst (((e5.trans e6).trans e7) _ _ hq) hqj
  refine ⟨q, p, _, _, rfl, rfl, hq8, hp, sz_of (by rw [List.length_cons, List.length_map, List.length_take]; simp; omega), fun z nz => ?_⟩
  have e9 : Ex H8 (upd H8 z (.lst (.str "ask" :: (ws.take d).map Wd.v ++ [w].map Wd.v))) := Ex.new nz
  have hz : (upd H8 z (.lst (.str "ask" :: (ws.take d).map Wd.v ++ [w].map Wd.v))) z = some (.lst (.str "ask" :: (ws.take d).map Wd.v ++ [w].map Wd.v)) := upd_same
  revert e9 hz
  generalize upd H8 z _ = H9
  intro e9 hz
  have hb9 := (J8.ex e9).lst hb hbj
  have post : EvL (tSl (rSlL K) (tVar 4) (tPart (tVar 6)) tNoPart) [some (.ref j), v1, v2, v3, some (.ref b), v5, some (.int ((d + 1 : Nat) : Int))] H9 ((ws.drop d).map Wd.v) := by
    have := el_sl (K := K) (te := tVar 4) (tl := tPart (tVar 6)) (th := tNoPart) (σ := [some (.ref j), v1, v2, v3, some (.ref b), v5, some (.int ((d + 1 : Nat) : Int))]) (H := H9) (lo := some ((d + 1 : Nat) : Int)) (hi := none) (ev_var rfl) (eo_some (ev_var rfl)) eo_none (sq_of hb9)
    rw [cutV_from, List.drop_succ_cons, ← List.map_drop] at this
    exact this
  refine post H9 (Ex.refl _) _ fun y H10 ny e10 hy => ⟨z, y, _, _, rfl, rfl, e10 _ _ hz, hy, sz_of (by rw [List.length_append, List.length_cons, List.length_map, List.length_map, List.length_map, List.length_take, List.length_drop]; simp; omega), fun x nx => ?_⟩
  have J10 := (J8.ex e9).ex e10
  have nxH : H x = none := J10.1.free nx
  refine k d w x _ _ hd (hws w (List.mem_singleton.mpr rfl)) nxH (J10.late nxH (hj.ne nxH)) ?_
  rw [upd_same]
  unfold insW
  simp [List.map_append]
end
/-! ### the sample loops -/
def wd0 (s : Stp) : Wd := ⟨none, s⟩
def wd1 (t : Tst) (s : Stp) : Wd := ⟨some t, s⟩
def smp : List (List Wd × List Wd) :=
  [([wd1 .empty .stop, wd0 .hand], []), ([wd0 .hand, wd1 .short .stop], []), ([wd0 .add, wd0 .cut, wd1 .told .stop], [wd1 .rest .flush]), ([wd1 .told .stop, wd0 .hand], []),
   ([wd0 .add, wd1 .empty .stop], [wd1 .rest .flush]), ([wd0 .add, wd0 .cut, wd1 .empty .stop], [wd0 .flush]), ([wd1 .some_ .hand, wd1 .told .stop], []),
   ([wd1 .empty .stop, wd0 .add, wd0 .cut], [wd1 .rest .flush]), ([wd1 .empty .again, wd0 .hand, wd1 .told .stop], []), ([wd0 .add, wd1 .full .flush, wd1 .told .stop], [])]
theorem smp_v : [V.str "ask empty:stop hand", .str "ask hand short:stop", .str "ask add cut told:stop | rest:flush", .str "ask told:stop hand", .str "ask add empty:stop | rest:flush", .str "ask add cut empty:stop | flush", .str "ask some:hand told:stop", .str "ask empty:stop add cut | rest:flush", .str "ask empty:again hand told:stop", .str "ask add full:flush told:stop"] = smp.map fun p => V.str (txtOf p.1 p.2) := by
  decide +kernel
theorem smp_ok : ∀ p ∈ smp, p.1.length ≤ 3 ∧ p.2.length ≤ 1 ∧ (∀ w ∈ p.2, w.s = .hand ∨ w.s = .cut ∨ w.s = .flush) ∧ (p.1.filter fun w => decide (w.s = .add)).length ≤ 1 := by decide
abbrev sc__law_loop_N : List Str := ["_law_jar_here", "_law_most", "_law_some", "_law_parts", "_law_begun", "_law_ended", "_law_at"]
theorem sc__law_loop : FnScope sc__law_loop_N ["_law_jar_here", "_law_most"] (defScope (top 44)) := ⟨rfl, rfl, rfl, by decide +kernel, rfl, by decide +kernel, by decide +kernel⟩
def sp_l_loop : Sp := fun vs H Q _ => ∃ j, vs = [.ref j, .int 8] ∧ JAt H j ∧ ∀ p b e ws es H', LOk ws es → H b = none → H e = none → JR j H H' → H' p = some (.tup [.ref b, .ref e]) → H' b = some (.lst (.str "ask" :: ws.map Wd.v)) → H' e = some (.lst (es.map Wd.v)) → Q (.ref p) H'
section
variable {P : Program} {w : World} {K : PySem.W.Frag} {mg : Str → Option Value} {base : Heap}
theorem c_l_loop (T : Tx K mg) : C8.Cal P w K mg base 4 "_law_loop" sp_l_loop [] := by
  refine mkCal T.d_l_loop T.g_l_loop sc__law_loop (fun _ _ _ _ _ _ us hl => match us, hl with | [_, _], _ => rfl) (fun vs H Q E h => ?_) (fun cdv A outer s H vs Q E hr h => ?_)
  · obtain ⟨j, rfl, _⟩ := h
    rfl
  · obtain ⟨j, rfl, hj, hQ⟩ := h
    refine ⟨_, (pss_cons (ps_set (i := 2) sc__law_loop.nd rfl (Or.inl rfl) (pe_lst (pa_cons pe_str (pa_cons pe_str (pa_cons pe_str (pa_cons pe_str pa_nil))))))
      (pss_cons (ps_set (i := 2) sc__law_loop.nd rfl (Or.inl rfl) (pe_op op_cat (pv 2) (pe_lst (pa_cons pe_str (pa_cons pe_str (pa_cons pe_str pa_nil))))))
      (pss_cons (ps_set (i := 2) sc__law_loop.nd rfl (Or.inl rfl) (pe_op op_cat (pv 2) (pe_lst (pa_cons pe_str (pa_cons pe_str pa_nil)))))
      (pss_cons (ps_expr (pe_bm PySem.F.plainAttrs_list PySem.F.slot_list_append PySem.F.type_list_append mt_append (pv 2) (pa_cons pe_str pa_nil)))
      (pss_cons (ps_if (pt_cmpR op_eq (C8.pe_c (c_l_sip T) hr (by decide) rfl (pa_cons (pv 0) (pa_cons pe_int pa_nil))) pe_int (nomark _))
        (pss_cons (ps_set (i := 3) sc__law_loop.nd rfl (Or.inl rfl) (pe_split (C8.pe_c (c_l_from T) hr (by decide) rfl (pa_cons (pv 0) (pa_cons (pv 2) pa_nil))) pe_str))
        (pss_cons (ps_par (i := 4) (j := 5) rfl sc__law_loop.nd rfl rfl (by decide) rfl rfl (pa_cons (pe_split (pe_ix ix_list (pv 3) pe_int (fun _ _ => rfl)) pe_str) (pa_cons (pe_lst pa_nil) pa_nil)) (by rfl))
        (pss_cons (ps_if (pt_cmpR op_gt (pe_callB call_len_seq (by rfl) T.f_len (by decide +kernel) (pa_cons (pv 3) pa_nil)) pe_int (nomark _))
          (pss_one (ps_set (i := 5) sc__law_loop.nd rfl (Or.inl rfl) (pe_split (pe_ix ix_list (pv 3) pe_int (fun _ _ => rfl)) pe_str)))
          pss_nil)
        (pss_cons (ps_if (pt_cmpR op_eq (C8.pe_c (c_l_sip T) hr (by decide) rfl (pa_cons (pv 0) (pa_cons pe_int pa_nil))) pe_int (nomark _))
          (pss_cons (ps_set (i := 6) sc__law_loop.nd rfl (Or.inl rfl) (pe_op op_add pe_int (C8.pe_c (c_l_sip T) hr (by decide) rfl (pa_cons (pv 0) (pa_cons (pe_callB call_len_seq (by rfl) T.f_len (by decide +kernel) (pa_cons (pv 4) pa_nil)) pa_nil)))))
          (pss_one (ps_set (i := 4) sc__law_loop.nd rfl (Or.inl rfl) (pe_op op_cat (pe_op op_cat (pe_slice sl_list (pv 4) po_none (po_some (pv 6))) (C8.pe_c (c_l_words T) hr (by decide) rfl (pa_cons (pv 0) (pa_cons (pe_lst (pa_cons pe_str (pa_cons pe_str (pa_cons pe_str (pa_cons pe_str (pa_cons pe_str pa_nil)))))) (pa_cons pe_int pa_nil))))) (pe_slice sl_list (pv 4) (po_some (pv 6)) po_none)))))
          pss_nil)
        (pss_one (ps_ret (pe_tup (pa_cons (pv 4) (pa_cons (pv 5) pa_nil)))))))))
        pss_nil)
      (pss_cons (ps_set (i := 4) sc__law_loop.nd rfl (Or.inl rfl) (pe_op op_cat (pe_lst (pa_cons pe_str pa_nil)) (C8.pe_c (c_l_words T) hr (by decide) rfl (pa_cons (pv 0) (pa_cons (pe_lst (pa_cons pe_str (pa_cons pe_str (pa_cons pe_str (pa_cons pe_str (pa_cons pe_str (pa_cons pe_str pa_nil))))))) (pa_cons (C8.pe_c (c_l_sip T) hr (by decide) rfl (pa_cons (pv 0) (pa_cons (pv 1) pa_nil))) pa_nil))))))
      (pss_cons (ps_if (pt_cmpR op_eq (C8.pe_c (c_l_sip T) hr (by decide) rfl (pa_cons (pv 0) (pa_cons pe_int pa_nil))) pe_int (nomark _))
        (pss_cons (ps_set (i := 6) sc__law_loop.nd rfl (Or.inl rfl) (pe_op op_add pe_int (C8.pe_c (c_l_sip T) hr (by decide) rfl (pa_cons (pv 0) (pa_cons (pe_callB call_len_seq (by rfl) T.f_len (by decide +kernel) (pa_cons (pv 4) pa_nil)) pa_nil)))))
        (pss_one (ps_set (i := 4) sc__law_loop.nd rfl (Or.inl rfl) (pe_op op_cat (pe_op op_cat (pe_slice sl_list (pv 4) po_none (po_some (pv 6))) (C8.pe_c (c_l_words T) hr (by decide) rfl (pa_cons (pv 0) (pa_cons (pe_lst (pa_cons pe_str pa_nil)) (pa_cons pe_int pa_nil))))) (pe_slice sl_list (pv 4) (po_some (pv 6)) po_none)))))
        pss_nil)
      (pss_one (ps_ret (pe_tup (pa_cons (pv 4) (pa_cons (C8.pe_c (c_l_words T) hr (by decide) rfl (pa_cons (pv 0) (pa_cons (pe_lst (pa_cons pe_str (pa_cons pe_str (pa_cons pe_str pa_nil)))) (pa_cons (C8.pe_c (c_l_sip T) hr (by decide) rfl (pa_cons (pv 0) (pa_cons pe_int pa_nil))) pa_nil)))) pa_nil)))))))))))), ?_⟩
    refine q_asgL (el_lst (ea_cons ev_c (ea_cons ev_c (ea_cons ev_c (ea_cons ev_c ea_nil)))) (by show 4 ≤ 100000; decide)) fun s1 H1 n1 e1 h1 => ?_
    refine q_asgL (el_cat (ev_var rfl) h1 (el_lst (ea_cons ev_c (ea_cons ev_c (ea_cons ev_c ea_nil))) (by show 3 ≤ 100000; decide)) (by show 4 + 3 ≤ 100000; decide)) fun s2 H2 n2 e2 h2 => ?_
    refine q_asgL (el_cat (ev_var rfl) h2 (el_lst (ea_cons ev_c (ea_cons ev_c ea_nil)) (by show 2 ≤ 100000; decide)) (by show 7 + 2 ≤ 100000; decide)) fun s H3 n3 e3 h3 => ?_
    have e12 := e1.trans e2
    have nsH : H s = none := fresh_back e12 n3
    have hsj : s ≠ j := Ne.symm (hj.ne nsH)
    refine q_app h3 (ev_var rfl) ev_c (by show 9 < 100000; decide) fun H4 e4 => ?_
    have J4 : JR j H (upd H4 s (.lst ([V.str "ask empty:stop hand", .str "ask hand short:stop", .str "ask add cut told:stop | rest:flush", .str "ask told:stop hand"] ++ [.str "ask add empty:stop | rest:flush", .str "ask add cut empty:stop | flush", .str "ask some:hand told:stop"] ++ [.str "ask empty:stop add cut | rest:flush", .str "ask empty:again hand told:stop"] ++ [V.str "ask add full:flush told:stop"]))) := ((JR.refl hj).ex ((e12.trans e3).trans e4)).late nsH (hj.ne nsH)
    have h4 : (upd H4 s (.lst ([V.str "ask empty:stop hand", .str "ask hand short:stop", .str "ask add cut told:stop | rest:flush", .str "ask told:stop hand"] ++ [.str "ask add empty:stop | rest:flush", .str "ask add cut empty:stop | flush", .str "ask some:hand told:stop"] ++ [.str "ask empty:stop add cut | rest:flush", .str "ask empty:again hand told:stop"] ++ [V.str "ask add full:flush told:stop"]))) s = some (.lst (smp.map fun p => V.str (txtOf p.1 p.2))) := by rw [← smp_v]; exact upd_same
    show tSeq _ _ _ [some (.ref j), some (.int 8), some (.ref s), none, none, none, none] (upd H4 s (.lst ([V.str "ask empty:stop hand", .str "ask hand short:stop", .str "ask add cut told:stop | rest:flush", .str "ask told:stop hand"] ++ [.str "ask add empty:stop | rest:flush", .str "ask add cut empty:stop | flush", .str "ask some:hand told:stop"] ++ [.str "ask empty:stop add cut | rest:flush", .str "ask empty:again hand told:stop"] ++ [V.str "ask add full:flush told:stop"])))
    revert J4 h4
    generalize upd H4 s _ = H5
    intro J5 h5
    refine q_ifM (R := JR j H5) (en_sip hr_eq rfl J5.2 (by decide) (by decide)) (fun H6 r6 => ?_) (fun H6 r6 => ?_)
    · have J6 := J5.trans r6
      refine q_setV (k_m1 (k_call (ea_cons (ev_var rfl) (ea_cons (ev_var rfl) ea_nil)) fun H7 e7 => ⟨j, s, _, rfl, J6.2.ex e7, hsj, e7 _ _ (r6.lst h5 hsj), by decide, by decide, fun x H8 hx r8 => ?_⟩))
      obtain ⟨⟨ws, es⟩, hm, rfl⟩ := List.mem_map.mp hx
      obtain ⟨o1, o2, o3, o4⟩ := smp_ok _ hm
      have o1 : ws.length ≤ 3 := o1
      have o2 : es.length ≤ 1 := o2
      have J8 := (J6.ex e7).trans r8
      have tl := txt_len ws es
      have tb : (ws.length + es.length + 2) * 21 ≤ 6 * 21 := Nat.mul_le_mul_right _ (by omega)
      have blen : (Txt.join " " (begStr ws)).length + 2 ≤ 100000 := by
        have := join_len (beg20 ws)
        have hb : (begStr ws).length = ws.length + 1 := by unfold begStr wsStr; simp
        have : (begStr ws).length * 21 ≤ 9 * 21 := Nat.mul_le_mul_right _ (by omega)
        omega
      have elen : (Txt.join " " (wsStr es)).length + 2 ≤ 100000 := by
        have := join_len (ws20 es)
        have hb : (wsStr es).length = es.length := by unfold wsStr; simp
        have : (wsStr es).length * 21 ≤ 2 * 21 := Nat.mul_le_mul_right _ (by omega)
        omega
      refine ⟨⟨_, rfl⟩, _, _, rfl, rfl, by decide +kernel, sz_of (by show (txtOf ws es).length + 2 ≤ _; omega), fun p np => ?_⟩
      have e9 : Ex H8 (upd H8 p (.lst ((Txt.split (txtOf ws es) " | ").map V.str))) := Ex.new np
      have h9 : (upd H8 p (.lst ((Txt.split (txtOf ws es) " | ").map V.str))) p = some (.lst ((if es = [] then [Txt.join " " (begStr ws)] else [Txt.join " " (begStr ws), Txt.join " " (wsStr es)]).map V.str)) := by rw [← split_txt]; exact upd_same
      show tSeq _ _ _ [some (.ref j), some (.int 8), some (.ref s), some (.ref p), none, none, none] (upd H8 p (.lst ((Txt.split (txtOf ws es) " | ").map V.str)))
      revert e9 h9
      generalize upd H8 p _ = H9
      intro e9 h9
      have parts : ∃ ps : List Str, H9 p = some (.lst (ps.map V.str)) ∧ ps.length = (if es = [] then 1 else 2) ∧ atI (ps.map V.str) 0 = some (.str (Txt.join " " (begStr ws))) ∧ (es ≠ [] → atI (ps.map V.str) 1 = some (.str (Txt.join " " (wsStr es)))) := by
        refine ⟨_, h9, ?_, ?_, ?_⟩
        · by_cases he : es = []
          · rw [if_pos he, if_pos he]; rfl
          · rw [if_neg he, if_neg he]; rfl
        · by_cases he : es = []
          · rw [if_pos he]; rfl
          · rw [if_neg he]; rfl
        · intro he; rw [if_neg he]; rfl
      obtain ⟨ps, p1, p2, p3, p4⟩ := parts
      have J9 := J8.ex e9
      refine q_par (k_cons (el_split (ev_ixL (ev_var rfl) ev_c (sq_of p1) p3) (by decide +kernel) blen H9 (Ex.refl _) _ fun b H10 nb e10 hb => k_cons (el_lst ea_nil (by decide) H10 (Ex.refl _) _ fun e H11 ne e11 he => ⟨_, _, rfl, ?_⟩)))
      rw [split_beg, begV] at hb
      show tSeq _ _ _ [some (.ref j), some (.int 8), some (.ref s), some (.ref p), some (.ref b), some (.ref e), none] H11
      have nbH : H b = none := J9.1.free nb
      have neH : H e = none := (J9.ex e10).1.free ne
      have J11 := (J9.ex e10).ex e11
      have hb := e11 _ _ hb
      have hp11 := (e10.trans e11) _ _ p1
      -- what follows from here on
      have rest : ∀ e' H12, H e' = none → JR j H H12 → H12 b = some (.lst (.str "ask" :: ws.map Wd.v)) → H12 e' = some (.lst (es.map Wd.v)) →
          (tSeq (tIfS (tTest (tOp rEq (tCall sp_l_sip [] E0 (tCons (tVar 0) (tCons (tC (V.int 2)) tNil))) (tC (V.int 0))))
            (tSeq (tAsg (tOp (rI0 fun i j => V.int (i + j)) (tC (.int 1)) (tCall sp_l_sip [] E0 (tCons (tVar 0) (tCons (tCB (rLenS K) (tCons (tVar 4) tNil)) tNil)))) (gName 6))
              (tAsg (tOp rCat (tOp rCat (tSl (rSlL K) (tVar 4) tNoPart (tPart (tVar 6))) (tCall sp_l_words [] E0 (tCons (tVar 0) (tCons (tLst (tCons (tC (.str "hand")) (tCons (tC (.str "cut")) (tCons (tC (.str "flush")) (tCons (tC (.str "stop")) (tCons (tC (.str "again")) tNil)))))) (tCons (tC (.int 1)) tNil))))) (tSl (rSlL K) (tVar 4) (tPart (tVar 6)) tNoPart)) (gName 4))) tNext)
            (tRet (tTup (tCons (tVar 4) (tCons (tVar 5) tNil))))) { nx := fun _ H' => Q .non H', rt := Q } [some (.ref j), some (.int 8), some (.ref s), some (.ref p), some (.ref b), some (.ref e'), none] H12 := by
        intro e' H12 ne' J12 hb12 he12
        have hbj : b ≠ j := Ne.symm (hj.ne nbH)
        have hej : e' ≠ j := Ne.symm (hj.ne ne')
        refine q_ifN (R := JR j H12) (en_sip hr_eq rfl J12.2 (by decide) (by decide)) (fun H13 r13 => ?_) (fun H13 r13 => ?_)
        · refine k_insert (ss := [.hand, .cut, .flush, .stop, .again]) (J12.trans r13).2 (r13.lst hb12 hbj) hbj (by omega) (fun σ H => el_lst (ea_cons ev_c (ea_cons ev_c (ea_cons ev_c (ea_cons ev_c (ea_cons ev_c ea_nil))))) (by show 5 ≤ 100000; decide)) (by simp) (by decide) fun d wd b' v6' H14 hd hw nb' r14 hb14 => ?_
          have J14 := (J12.trans r13).trans r14
          have nb'H : H b' = none := (J12.trans r13).1.free nb'
          refine s_retV (eu_tup (ea_cons (ev_var rfl) (ea_cons (ev_var rfl) ea_nil)) (by show 2 ≤ 100000; decide) H14 (Ex.refl _) _ fun z H15 nz e15 hz => ?_)
          refine hQ z b' e' (insW d wd ws) es H15 ⟨by rw [insW_len hd]; omega, by omega, o3, ?_⟩ nb'H ne' (J14.ex e15) hz (e15 _ _ hb14) (e15 _ _ (r14.lst (r13.lst he12 hej) hej))
          rw [insW_ad, if_neg (by intro h; rw [h] at hw; simp at hw)]
          exact o4
        · refine s_retV (eu_tup (ea_cons (ev_var rfl) (ea_cons (ev_var rfl) ea_nil)) (by show 2 ≤ 100000; decide) H13 (Ex.refl _) _ fun z H15 nz e15 hz => ?_)
          exact hQ z b e' ws es H15 ⟨by omega, by omega, o3, o4⟩ nbH ne' ((J12.trans r13).ex e15) hz (e15 _ _ (r13.lst hb12 hbj)) (e15 _ _ (r13.lst he12 hej))
      have hb' : EvT (tTest (tOp (rI0 fun i j => V.bl (decide (j < i))) (tCB (rLenS K) (tCons (tVar 3) tNil)) (tC (.int 1)))) [some (.ref j), some (.int 8), some (.ref s), some (.ref p), some (.ref b), some (.ref e), none] H11 (decide (es ≠ [])) := by
        refine et_is (et_test (ev_I0 (ev_len (ev_var rfl) (sq_of hp11)) ev_c)) ?_
        rw [List.length_map, p2]
        by_cases he : es = []
        · simp [he]
        · simp [he]
      refine q_if hb' (fun hd H12 e12 => ?_) (fun hd H12 e12 => ?_)
      · have hes : es ≠ [] := of_decide_eq_true hd
        refine s_asgL (el_split (ev_ixL (ev_var rfl) ev_c (sq_of (e12 _ _ hp11)) (p4 hes)) (by decide +kernel) elen) fun e' H13 ne' e13 he' => ?_
        rw [split_ws hes, wsV] at he'
        exact rest e' H13 ((J11.ex e12).1.free ne') ((J11.ex e12).ex e13) ((e12.trans e13) _ _ hb) he'
      · have hes : es = [] := by simpa using of_decide_eq_false hd
        exact rest e H12 neH (J11.ex e12) (e12 _ _ hb) (by rw [hes]; exact e12 _ _ he)
    · have J6 := J5.trans r6
      refine q_setV (k_op ?_)
      refine el_lst (ea_cons ev_c ea_nil) (by show 1 ≤ 100000; decide) H6 (Ex.refl _) _ fun a H7 na e7 ha => ?_
      refine k_cons (k_ev (ev_var rfl) fun H8 e8 => k_cons (el_lst (ea_cons ev_c (ea_cons ev_c (ea_cons ev_c (ea_cons ev_c (ea_cons ev_c (ea_cons ev_c ea_nil)))))) (by show 6 ≤ 100000; decide) H8 (Ex.refl _) _ fun st H9 nst e9 hst => k_cons (k_call (ea_cons (ev_var rfl) (ea_cons (ev_var rfl) ea_nil)) fun H10 e10 => ⟨j, 8, rfl, ?_, by decide, by decide, fun m H11 hm r11 => ?_⟩)))
      · exact J6.2.ex (((e7.trans e8).trans e9).trans e10)
      have J10 := J6.ex (((e7.trans e8).trans e9).trans e10)
      have J11 := J10.trans r11
      have hstj : st ≠ j := Ne.symm ((J6.2.ex (e7.trans e8)).ne nst)
      have haj : a ≠ j := Ne.symm (J6.2.ne na)
      refine ⟨j, st, [.hand, .cut, .flush, .stop, .again, .stop], m, rfl, J11.2, hstj, r11.lst (e10 _ _ hst) hstj, by simp, by decide, by omega, fun p ws H12 np r12 hp hw hws => ?_⟩
      have J12 := J11.trans r12
      have ha12 := (r11.trans r12).lst (((e8.trans e9).trans e10) _ _ ha) haj
      refine ⟨a, p, _, _, rfl, rfl, ha12, hp, sz_of (by rw [List.length_map]; show 1 + _ ≤ _; omega), fun b nb => ?_⟩
      have nbH : H b = none := J12.1.free nb
      have hbj : b ≠ j := Ne.symm (hj.ne nbH)
      have e13 : Ex H12 (upd H12 b (.lst ([V.str "ask"] ++ ws.map Wd.v))) := Ex.new nb
      have hb : (upd H12 b (.lst ([V.str "ask"] ++ ws.map Wd.v))) b = some (.lst (.str "ask" :: ws.map Wd.v)) := upd_same
      show tSeq _ _ _ [some (.ref j), some (.int 8), some (.ref s), none, some (.ref b), none, none] (upd H12 b (.lst ([V.str "ask"] ++ ws.map Wd.v)))
      revert e13 hb
      generalize upd H12 b _ = H13
      intro e13 hb
      have J13 := J12.ex e13
      have hl : ws.length ≤ 7 := by omega
      have noad : (ws.filter fun w => decide (w.s = .add)).length = 0 := by
        rw [List.length_eq_zero_iff, List.filter_eq_nil_iff]
        intro w hw' h
        have := hws w hw'
        rw [of_decide_eq_true h] at this
        simp at this
      have rest : ∀ b' (ws' : List Wd) v6 H14, ws'.length ≤ 8 → (ws'.filter fun w => decide (w.s = .add)).length ≤ 1 → H b' = none → JR j H H14 → H14 b' = some (.lst (.str "ask" :: ws'.map Wd.v)) →
          tRet (tTup (tCons (tVar 4) (tCons (tCall sp_l_words [] E0 (tCons (tVar 0) (tCons (tLst (tCons (tC (.str "hand")) (tCons (tC (.str "cut")) (tCons (tC (.str "flush")) tNil)))) (tCons (tCall sp_l_sip [] E0 (tCons (tVar 0) (tCons (tC (.int 3)) tNil))) tNil)))) tNil))) { nx := fun _ H' => Q .non H', rt := Q } [some (.ref j), some (.int 8), some (.ref s), none, some (.ref b'), none, v6] H14 := by
        intro b' ws' v6 H14 h8 had nb' J14 hb'
        have hb'j : b' ≠ j := Ne.symm (hj.ne nb')
        refine s_retV ?_
        refine k_tup (k_cons (k_ev (ev_var rfl) fun H15 e15 => k_cons (k_cons (k_ev (ev_var rfl) fun H16 e16 => k_cons (el_lst (ea_cons ev_c (ea_cons ev_c (ea_cons ev_c ea_nil))) (by show 3 ≤ 100000; decide) H16 (Ex.refl _) _ fun q H17 nq e17 hq => k_cons (k_call (ea_cons (ev_var rfl) (ea_cons ev_c ea_nil)) fun H18 e18 => ⟨j, 3, rfl, ?_, by decide, by decide, fun m H19 hm r19 => ?_⟩))))))
        · exact J14.2.ex (((e15.trans e16).trans e17).trans e18)
        have J19 := (J14.ex (((e15.trans e16).trans e17).trans e18)).trans r19
        have hqj : q ≠ j := Ne.symm ((J14.2.ex (e15.trans e16)).ne nq)
        refine ⟨j, q, [.hand, .cut, .flush], m, rfl, J19.2, hqj, r19.lst (e18 _ _ hq) hqj, by simp, by decide, by omega, fun e es H20 ne r20 he hel hes => ?_⟩
        have J20 := J19.trans r20
        have neH : H e = none := J19.1.free ne
        refine ⟨sz_of (by show 2 ≤ 100000; decide), fun z nz => ?_⟩
        have hb20 := (r19.trans r20).lst ((((e15.trans e16).trans e17).trans e18) _ _ hb') hb'j
        have e21 := Ex.new (o := .tup [.ref b', .ref e]) nz
        refine hQ z b' e ws' es _ ⟨h8, by omega, fun w hw => ?_, had⟩ nb' neH (J20.ex e21) upd_same (e21 _ _ hb20) (e21 _ _ he)
        have := hes w hw
        simpa using this
      refine q_ifN (R := JR j H13) (en_sip hr_eq rfl J13.2 (by decide) (by decide)) (fun H14 r14 => ?_) (fun H14 r14 => ?_)
      · refine k_insert (ss := [.add]) (J13.trans r14).2 (r14.lst hb hbj) hbj (by omega) (fun σ H => el_lst (ea_cons ev_c ea_nil) (by show 1 ≤ 100000; decide)) (by simp) (by decide) fun d wd b' v6' H15 hd hw nb' r15 hb15 => ?_
        refine rest b' (insW d wd ws) v6' H15 (by rw [insW_len hd]; omega) ?_ ((J13.trans r14).1.free nb') ((J13.trans r14).trans r15) hb15
        rw [insW_ad, noad]
        split <;> omega
      · exact rest b ws none H14 (by omega) (by omega) nbH (J13.trans r14) (r14.lst hb hbj)
end
end LS
end
-- text Le
section
set_option maxHeartbeats 4000000
/-! The law's boxes: box, passed, sliced, done. -/
namespace LS
open PySem PySem.Spec PyProof.Rows L2 Evl
abbrev ky (s : Str) : Key := Sum.inr s
def bfl (r o : Addr) (g : Int) (ov : Bool) : List (Key × V) := [(ky "rest", .ref r), (ky "out", .ref o), (ky "got", .int g), (ky "over", .bl ov)]
section
variable {r o r' : Addr} {g : Int} {ov ov' : Bool}
theorem bv_rest : valV (bfl r o g ov) (ky "rest") = some (.ref r) := by kernel_rfl
theorem bv_out : valV (bfl r o g ov) (ky "out") = some (.ref o) := by kernel_rfl
theorem bv_got : valV (bfl r o g ov) (ky "got") = some (.int g) := by kernel_rfl
theorem bv_over : valV (bfl r o g ov) (ky "over") = some (.bl ov) := by kernel_rfl
theorem bp_rest : putK (bfl r o g ov) (ky "rest") (.ref r') = bfl r' o g ov := by kernel_rfl
theorem bp_out : putK (bfl r o g ov) (ky "out") (.ref r') = bfl r r' g ov := by kernel_rfl
theorem bp_over : putK (bfl r o g ov) (ky "over") (.bl ov') = bfl r o g ov' := by kernel_rfl
theorem b_mk : mergeK [] (bfl r o g ov) = bfl r o g ov := by kernel_rfl
end
/-- a box, as it is read -/
def BW (H : Hp) (b : Addr) (st : Mst) : Prop := ∃ r o, H b = some (.dK (bfl r o st.got st.over)) ∧ LI H r st.rest ∧ PsL H o st.out
/-- .. made since H0 -/
def BN (H0 H : Hp) (b : Addr) (st : Mst) : Prop := ∃ r o, H0 b = none ∧ H0 r = none ∧ H0 o = none ∧ H b = some (.dK (bfl r o st.got st.over)) ∧ LI H r st.rest ∧ PsL H o st.out
theorem BN.bw {H0 H : Hp} {b : Addr} {st : Mst} (h : BN H0 H b st) : BW H b st := let ⟨r, o, _, _, _, h1, h2, h3⟩ := h; ⟨r, o, h1, h2, h3⟩
theorem PsL.ex {H H1 : Hp} {a : Addr} {pss : List (List Int)} (h : PsL H a pss) (e : Ex H H1) : PsL H1 a pss := let ⟨vs, x, y⟩ := h; ⟨vs, e _ _ x, ps_mono (S := []) y (Frm.ex e)⟩
theorem BW.ex {H H1 : Hp} {b : Addr} {st : Mst} (h : BW H b st) (e : Ex H H1) : BW H1 b st := let ⟨r, o, h1, h2, h3⟩ := h; ⟨r, o, e _ _ h1, e _ _ h2, h3.ex e⟩
theorem BN.ex {H0 H H1 : Hp} {b : Addr} {st : Mst} (h : BN H0 H b st) (e : Ex H H1) : BN H0 H1 b st := let ⟨r, o, n1, n2, n3, h1, h2, h3⟩ := h; ⟨r, o, n1, n2, n3, e _ _ h1, e _ _ h2, h3.ex e⟩
section
variable {σ : L2.St} {H : Hp} {td tv : TE} {a : Addr} {kvs : List (Key × V)} {s : Str} {v : V} {D : Ends} {tz : TS} {xs : List V}
theorem ev_dg (h : Ev td σ H (.ref a)) (ha : H a = some (.dK kvs)) (hv : valV kvs (ky s) = some v) : Ev (tDGet td (tC (.str s))) σ H v := fun H1 e1 Q q =>
  h H1 e1 _ fun H2 e2 => ⟨a, v, rfl, by rw [← hv]; exact DGet.k (k := ky s) ((e1.trans e2) _ _ ha), q H2 e2⟩
theorem s_dp (hv : Ev tv σ H v) (h : Ev td σ H (.ref a)) (ha : H a = some (.dK kvs)) (hl : kvs.length < 1000) (k : ∀ H1, Ex H H1 → D.nx σ (upd H1 a (.dK (putK kvs (ky s) v)))) : sDPut td (tC (.str s)) tv D σ H :=
  hv H (Ex.refl H) _ fun H1 e1 => h H1 e1 _ fun H2 e2 => ⟨a, _, rfl, DPut.k (k := ky s) ((e1.trans e2) _ _ ha) (small1000 (Nat.le_of_lt hl)), k H2 (e1.trans e2)⟩
theorem s_dpL (hv : EvL tv σ H xs) (h : Ev td σ H (.ref a)) (ha : H a = some (.dK kvs)) (hl : kvs.length < 1000) (k : ∀ p H1, H p = none → Ex H H1 → H1 p = some (.lst xs) → D.nx σ (upd H1 a (.dK (putK kvs (ky s) (.ref p))))) : sDPut td (tC (.str s)) tv D σ H :=
  hv H (Ex.refl H) _ fun p H1 np e1 hp => h H1 e1 _ fun H2 e2 => ⟨a, _, rfl, DPut.k (k := ky s) ((e1.trans e2) _ _ ha) (small1000 (Nat.le_of_lt hl)), k p H2 np (e1.trans e2) (e2 _ _ hp)⟩
theorem q_dpV (k : tv σ H fun v H1 => td σ H1 fun x H2 => ∃ a H4, x = .ref a ∧ DPut H2 a (.str s) v H4 ∧ tz D σ H4) : tSeq (sDPut td (tC (.str s)) tv) tz D σ H := k
theorem q_dp (hv : Ev tv σ H v) (h : Ev td σ H (.ref a)) (ha : H a = some (.dK kvs)) (hl : kvs.length < 1000) (k : ∀ H1, Ex H H1 → tz D σ (upd H1 a (.dK (putK kvs (ky s) v)))) : tSeq (sDPut td (tC (.str s)) tv) tz D σ H := s_dp (D := { D with nx := tz D }) hv h ha hl k
end
theorem frm_dput {H H1 : Hp} {a : Addr} {kvs : List (Key × V)} {o : HO} (e : Ex H H1) (h : H a = some (.dK kvs)) : Frm [a] H (upd H1 a o) := (Frm.ex e).trans (Frm.put (e _ _ h) (List.mem_singleton.mpr rfl) (fun _ z => by cases z) _)
abbrev sc__law_box_N : List Str := []
theorem sc__law_box : FnScope sc__law_box_N [] (defScope (top 51)) := ⟨rfl, rfl, rfl, by decide +kernel, rfl, by decide +kernel, by decide +kernel⟩
def sp_l_box : Sp := fun vs H Q _ => vs = [] ∧ ∀ p H', Ex H H' → BN H H' p Mst.start → Q (.ref p) H'
section
variable {P : Program} {w : World} {K : PySem.W.Frag} {mg : Str → Option Value} {base : Heap}
theorem c_l_box (T : Tx K mg) : C8.Cal P w K mg base 1 "_law_box" sp_l_box [] := by
  refine mkCal T.d_l_box T.g_l_box sc__law_box (fun _ _ _ _ _ _ us hl => match us, hl with | [], _ => rfl) (fun vs H Q E h => ?_) (fun cdv A outer s H vs Q E hr h => ?_)
  · obtain ⟨rfl, _⟩ := h
    rfl
  · obtain ⟨rfl, hQ⟩ := h
    refine ⟨_, (pss_one (ps_ret (pe_disp (pps_cons pe_str (pe_lst pa_nil) (pps_cons pe_str (pe_lst pa_nil) (pps_cons pe_str pe_int (pps_cons pe_str pe_bl pps_nil)))) (by rfl) (by rfl) (fun z => by cases z) (by decide)))), ?_⟩
    refine s_retV (fun p np => ?_)
    have e0 : Ex H (upd H p (.dK [])) := Ex.new np
    have hp : (upd H p (.dK [])) p = some (.dK []) := upd_same
    revert e0 hp
    generalize upd H p (.dK []) = H0
    intro e0 hp
    refine k_ev ev_c fun H1 e1 => el_lst ea_nil (by decide) H1 (Ex.refl _) _ fun r H2 nr e2 hr' => k_ev ev_c fun H3 e3 => el_lst ea_nil (by decide) H3 (Ex.refl _) _ fun o H4 no e4 ho => k_ev ev_c fun H5 e5 => k_ev ev_c fun H6 e6 => k_ev ev_c fun H7 e7 => k_ev ev_c fun H8 e8 => ?_
    have e14 := ((e1.trans e2).trans e3).trans e4
    have e58 := ((e5.trans e6).trans e7).trans e8
    have hp8 := (e14.trans e58) _ _ hp
    refine ⟨hp8, bfl r o 0 false, rfl, by show 4 ≤ 15; decide, ?_⟩
    rw [b_mk]
    have f9 : Ex H (upd H8 p (.dK (bfl r o 0 false))) := ((e0.trans e14).trans e58).mut np
    have nrH : H r = none := fresh_back (e0.trans e1) nr
    have noH : H o = none := fresh_back (((e0.trans e1).trans e2).trans e3) no
    have hrp : r ≠ p := fun z => by rw [z] at nr; rw [e1 _ _ hp] at nr; cases nr
    have hop : o ≠ p := fun z => by rw [z] at no; rw [((e1.trans e2).trans e3) _ _ hp] at no; cases no
    refine hQ p _ f9 ⟨r, o, np, nrH, noH, upd_same, ?_, [], ?_, .nil⟩
    · show (upd H8 p _) r = _
      rw [upd_ne hrp]
      exact ((e3.trans e4).trans e58) _ _ hr'
    · rw [upd_ne hop]
      exact e58 _ _ ho
end
theorem ints_fd (ns : List Int) : Fd 1 (.list (ns.map PyData.int)) := fd_list fun d h => by
  obtain ⟨i, _, rfl⟩ := List.mem_map.mp h
  exact fd_int
abbrev sc__law_passed_N : List Str := ["_law_test", "_law_got", "_law_box_here", "_law_said", "_law_wide"]
theorem sc__law_passed : FnScope sc__law_passed_N ["_law_test", "_law_got", "_law_box_here", "_law_said", "_law_wide"] (defScope (top 47)) := ⟨rfl, rfl, rfl, by decide +kernel, rfl, by decide +kernel, by decide +kernel⟩
def sp_l_passed : Sp := fun vs H Q _ => ∃ t g b st, ∃ n : Nat, vs = [.str (Tst.str t), .ref g, .ref b, .bl st.said, .int n] ∧ LI H g st.came ∧ BW H b st ∧ SpRet (.bl (st.passes n t)) H Q
section
variable {P : Program} {w : World} {K : PySem.W.Frag} {mg : Str → Option Value} {base : Heap}
theorem c_l_passed (T : Tx K mg) : C8.Cal P w K mg base 1 "_law_passed" sp_l_passed [] := by
  refine mkCal T.d_l_passed T.g_l_passed sc__law_passed (fun _ _ _ _ _ _ us hl => match us, hl with | [_, _, _, _, _], _ => rfl) (fun vs H Q E h => ?_) (fun cdv A outer s H vs Q E hr h => ?_)
  · obtain ⟨t, g, b, st, n, rfl, _⟩ := h
    rfl
  · obtain ⟨t, g, b, st, n, rfl, hg, ⟨r, o, hb, h2, h3⟩, hQ⟩ := h
    have hu := hu_of hr
    refine ⟨_, (pss_cons (ps_if (pt_cmpR op_in_seq (pv 0) (pe_lst (pa_cons pe_str (pa_cons pe_str pa_nil))) (by rfl))
        (pss_one (ps_ret (pe_cmpR op_eq (pe_cmpR (op_eqD hr.units) (pv 1) (pe_lst pa_nil) (nomark _)) (pe_cmpR op_eq (pv 0) pe_str (nomark _)) (nomark _))))
        pss_nil)
      (pss_cons (ps_if (pt_cmpR op_in_seq (pv 0) (pe_lst (pa_cons pe_str (pa_cons pe_str pa_nil))) (by rfl))
        (pss_one (ps_ret (pe_cmpR op_eq (pe_cmpR op_lt (pe_callB call_len_seq (by rfl) T.f_len (by decide +kernel) (pa_cons (pv 1) pa_nil)) (pv 4) (nomark _)) (pe_cmpR op_eq (pv 0) pe_str (nomark _)) (nomark _))))
        pss_nil)
      (pss_cons (ps_if (pt_cmpR op_in_seq (pv 0) (pe_lst (pa_cons pe_str (pa_cons pe_str pa_nil))) (by rfl))
        (pss_one (ps_ret (pe_cmpR op_eq (pv 3) (pe_cmpR op_eq (pv 0) pe_str (nomark _)) (nomark _))))
        pss_nil)
      (pss_one (ps_ret (pe_cmpR op_eq (pe_cmpR (op_neD hr.units) (pe_dget hu (pv 2) pe_str (fun _ _ => rfl)) (pe_lst pa_nil) (nomark _)) (pe_cmpR op_eq (pv 0) pe_str (nomark _)) (nomark _))))))), ?_⟩
    have tin : ∀ {H1 : Hp} {a b' : Str}, Ev (tOp (rIn K false) (tVar 0) (tLst (tCons (tC (.str a)) (tCons (tC (.str b')) tNil)))) (L2.start sc__law_passed_N [.str (Tst.str t), .ref g, .ref b, .bl st.said, .int n]) H1 (.bl (inV (.str t.str) [.str a, .str b'])) := fun {H1 a b'} =>
      ev_inL2 (ev_var rfl) (ea_cons ev_c (ea_cons ev_c ea_nil)) (by show 2 ≤ 100000; decide) rfl rfl
    have tst : ∀ {H1 : Hp} {a : Str}, Ev (tOp rEq (tVar 0) (tC (.str a))) (L2.start sc__law_passed_N [.str (Tst.str t), .ref g, .ref b, .bl st.said, .int n]) H1 (.bl (decide (V.str t.str = .str a))) := fun {H1 a} => ev_eq (ev_var rfl) ev_c rfl
    have hcame : ∀ {H1}, Ex H H1 → Ev (tOp (rEqD K) (tVar 1) (tLst tNil)) (L2.start sc__law_passed_N [.str (Tst.str t), .ref g, .ref b, .bl st.said, .int n]) H1 (.bl (decide (st.came.length = 0))) := fun e =>
      ev_is (ev_eqNil (ev_var rfl) (e _ _ hg) (fun _ _ => dpA_map (fun i => .int i) st.came) (ints_fd _)) (congrArg V.bl (by simp))
    have hlen : ∀ {H1}, Ex H H1 → Ev (tCB (rLenS K) (tCons (tVar 1) tNil)) (L2.start sc__law_passed_N [.str (Tst.str t), .ref g, .ref b, .bl st.said, .int n]) H1 (.int (st.came.length : Nat)) := fun e => by
      have := ev_len (K := K) (ta := tVar 1) (σ := L2.start sc__law_passed_N [.str (Tst.str t), .ref g, .ref b, .bl st.said, .int n]) (ev_var rfl) (sq_of (e _ _ hg))
      rw [List.length_map] at this
      exact this
    have hrest : ∀ {H1}, Ex H H1 → Ev (tOp (rNeD K) (tDGet (tVar 2) (tC (.str "rest"))) (tLst tNil)) (L2.start sc__law_passed_N [.str (Tst.str t), .ref g, .ref b, .bl st.said, .int n]) H1 (.bl (!decide (st.rest.length = 0))) := fun e =>
      ev_is (ev_neNil (ev_dg (ev_var rfl) (e _ _ hb) bv_rest) (e _ _ h2) (fun _ _ => dpA_map (fun i => .int i) st.rest) (ints_fd _)) (congrArg V.bl (by simp))
    cases t with
    | empty =>
      refine q_yes (et_ev tin (by decide +kernel)) fun H1 e1 => s_ret (ev_eq (hcame e1) tst rfl) fun H2 e2 => Q_eq (hQ H2 (e1.trans e2)) ?_
      rw [show decide (V.str (Tst.str .empty) = V.str "empty") = true from by decide +kernel, dbl_t] <;> rfl
    | some_ =>
      refine q_yes (et_ev tin (by decide +kernel)) fun H1 e1 => s_ret (ev_eq (hcame e1) tst rfl) fun H2 e2 => Q_eq (hQ H2 (e1.trans e2)) ?_
      rw [show decide (V.str (Tst.str .some_) = V.str "empty") = false from by decide +kernel, dbl_f] <;> rfl
    | short =>
      refine q_skip (et_ev0 tin (by decide +kernel)) fun H1 e1 => q_yes (et_ev tin (by decide +kernel)) fun H2 e2 => s_ret (ev_eq (ev_I0 (hlen (e1.trans e2)) (ev_var rfl)) tst rfl) fun H3 e3 => Q_eq (hQ H3 ((e1.trans e2).trans e3)) ?_
      rw [show decide (V.str (Tst.str .short) = V.str "short") = true from by decide +kernel, dbl_t]
      simp [Mst.passes]
    | full =>
      refine q_skip (et_ev0 tin (by decide +kernel)) fun H1 e1 => q_yes (et_ev tin (by decide +kernel)) fun H2 e2 => s_ret (ev_eq (ev_I0 (hlen (e1.trans e2)) (ev_var rfl)) tst rfl) fun H3 e3 => Q_eq (hQ H3 ((e1.trans e2).trans e3)) ?_
      rw [show decide (V.str (Tst.str .full) = V.str "short") = false from by decide +kernel, dbl_f]
      simp [Mst.passes]
    | told =>
      refine q_skip (et_ev0 tin (by decide +kernel)) fun H1 e1 => q_skip (et_ev0 tin (by decide +kernel)) fun H2 e2 => q_yes (et_ev tin (by decide +kernel)) fun H3 e3 => s_ret (ev_eq (ev_var rfl) tst rfl) fun H4 e4 => Q_eq (hQ H4 (((e1.trans e2).trans e3).trans e4)) ?_
      rw [show decide (V.str (Tst.str .told) = V.str "told") = true from by decide +kernel, dbl_t] <;> rfl
    | open_ =>
      refine q_skip (et_ev0 tin (by decide +kernel)) fun H1 e1 => q_skip (et_ev0 tin (by decide +kernel)) fun H2 e2 => q_yes (et_ev tin (by decide +kernel)) fun H3 e3 => s_ret (ev_eq (ev_var rfl) tst rfl) fun H4 e4 => Q_eq (hQ H4 (((e1.trans e2).trans e3).trans e4)) ?_
      rw [show decide (V.str (Tst.str .open_) = V.str "told") = false from by decide +kernel, dbl_f] <;> rfl
    | rest =>
      refine q_skip (et_ev0 tin (by decide +kernel)) fun H1 e1 => q_skip (et_ev0 tin (by decide +kernel)) fun H2 e2 => q_skip (et_ev0 tin (by decide +kernel)) fun H3 e3 => s_ret (ev_eq (hrest ((e1.trans e2).trans e3)) tst rfl) fun H4 e4 => Q_eq (hQ H4 (((e1.trans e2).trans e3).trans e4)) ?_
      rw [show decide (V.str (Tst.str .rest) = V.str "rest") = true from by decide +kernel, dbl_t] <;> rfl
    | bare =>
      refine q_skip (et_ev0 tin (by decide +kernel)) fun H1 e1 => q_skip (et_ev0 tin (by decide +kernel)) fun H2 e2 => q_skip (et_ev0 tin (by decide +kernel)) fun H3 e3 => s_ret (ev_eq (hrest ((e1.trans e2).trans e3)) tst rfl) fun H4 e4 => Q_eq (hQ H4 (((e1.trans e2).trans e3).trans e4)) ?_
      rw [show decide (V.str (Tst.str .bare) = V.str "rest") = false from by decide +kernel, dbl_f, Bool.not_not] <;> rfl
end
section
variable {σ : L2.St} {H : Hp} {ta : TA} {te : TE} {j : Nat} {vs : List Nat} {n : Int} {Q : VK}
theorem k_lcR1 (h : EvA ta σ H [.int n]) (hn : 0 ≤ n ∧ n ≤ 40000) (hw : ∀ x, wipe ((wipe σ vs).set j (some x)) vs = wipe σ vs) (Pv : Addr → Nat → Hp → Prop) (h0 : ∀ Dl H1, Ex H H1 → H1 Dl = none → Pv Dl 0 (upd H1 Dl (.lst [])))
    (hs : ∀ Dl (i : Nat) H', (i : Int) < n → Pv Dl i H' → te ((wipe σ vs).set j (some (.int (i : Int)))) H' fun y H4 => ∃ acc, H4 Dl = some (.lst acc) ∧ acc.length < sizeLine ∧ Pv Dl (i + 1) (upd H4 Dl (.lst (acc ++ [y])))) (hd : ∀ Dl H', Pv Dl n.toNat H' → Q (.ref Dl) H') :
    tLc (iRng1 ta) (gName j) tYes te vs σ H Q := h H (Ex.refl H) _ fun H1 e1 => ⟨n, rfl, by omega, by omega, fun Dl hD =>
  lc_range (lo := 0) (n := n.toNat) (Pv Dl) (h0 Dl H1 e1 hD) (fun i H' hi p => by
    have e0 : (0 : Int) + (i : Int) = (i : Int) := Int.zero_add _
    show wipe ((wipe σ vs).set j (some (.int ((0 : Int) + (i : Int))))) vs = wipe σ vs ∧ (if true = true then te ((wipe σ vs).set j (some (.int ((0 : Int) + (i : Int))))) H' fun y H4 => ∃ acc, H4 Dl = some (.lst acc) ∧ acc.length < sizeLine ∧ Pv Dl (i + 1) (upd H4 Dl (.lst (acc ++ [y]))) else Pv Dl (i + 1) H')
    rw [e0]
    exact ⟨hw _, iteT (hs Dl i H' (by omega) p)⟩) (fun H' p => hd Dl H' p)⟩
end
theorem small1000' {n : Nat} (h : n < 100000) : n < sizeLine := sz_lt h
abbrev sc__law_sliced_N : List Str := ["_law_row_here", "_law_wide", "_law_many", "_law_k"]
theorem sc__law_sliced : FnScope sc__law_sliced_N ["_law_row_here", "_law_wide", "_law_many"] (defScope (top 48)) := ⟨rfl, rfl, rfl, by decide +kernel, rfl, by decide +kernel, by decide +kernel⟩
def sp_l_sliced : Sp := fun vs H Q _ => ∃ r, ∃ n : Nat, ∃ xs : List Int, vs = [.ref r, .int n, .int (xs.length / n : Nat)] ∧ LI H r xs ∧ 1 ≤ n ∧ n ≤ 8 ∧ xs.length ≤ 30000 ∧ ∀ p H', H p = none → Ex H H' → PsL H' p (cutPs n xs) → Q (.ref p) H'
theorem cutV_mid {xs : List V} {i n : Nat} : cutV xs (some (i : Int)) (some ((i + n : Nat) : Int)) = (xs.drop i).take n := by
  unfold cutV
  have h1 : ∀ (m : Nat) (k d : Nat), HT.sIx m d (some (k : Int)) = min k m := by
    intro m k d
    unfold HT.sIx
    simp
    omega
  rw [h1, h1]
  by_cases h : i ≤ xs.length
  · rw [Nat.min_eq_left h]
    by_cases h2 : i + n ≤ xs.length
    · rw [Nat.min_eq_left h2, show i + n - i = n by omega]
    · rw [Nat.min_eq_right (by omega)]
      rw [List.take_of_length_le (by rw [List.length_drop]; omega), List.take_of_length_le (by rw [List.length_drop]; omega)]
  · rw [Nat.min_eq_right (by omega : xs.length ≤ i), List.drop_eq_nil_of_le (Nat.le_refl _), List.drop_eq_nil_of_le (by omega : xs.length ≤ i)]
    simp
section
variable {P : Program} {w : World} {K : PySem.W.Frag} {mg : Str → Option Value} {base : Heap}
theorem c_l_sliced (T : Tx K mg) : C8.Cal P w K mg base 1 "_law_sliced" sp_l_sliced [] := by
  refine mkCal T.d_l_sliced T.g_l_sliced sc__law_sliced (fun _ _ _ _ _ _ us hl => match us, hl with | [_, _, _], _ => rfl) (fun vs H Q E h => ?_) (fun cdv A outer s H vs Q E hr h => ?_)
  · obtain ⟨r, n, xs, rfl, _⟩ := h
    rfl
  · obtain ⟨r, n, xs, rfl, hr', hn, h8, hl, hQ⟩ := h
    have hq : xs.length / n ≤ xs.length := Nat.div_le_self _ _
    have hq0 : (0 : Int) ≤ ((xs.length / n : Nat) : Int) := Int.natCast_nonneg _
    have hq1 : ((xs.length / n : Nat) : Int) ≤ ((30000 : Nat) : Int) := Int.ofNat_le.mpr (Nat.le_trans hq hl)
    refine ⟨_, (pss_one (ps_ret (pe_lc (own := [("_law_k", 3)]) (g := gName 3) (tt := tYes) rfl sc__law_sliced.nd (pi_range1 (by rfl) T.f_range (pa_cons (pv 2) pa_nil)) (blkOk_by (own := [("_law_k", 3)]) (N := sc__law_sliced_N) (sc := defScope (top 48)) (by decide +kernel)) (fun _ _ _ _ _ => pg_name (i := 3) sc__law_sliced.nd rfl (Or.inl rfl)) (fun _ _ _ _ _ => pts_nil) (fun _ _ _ _ _ => (pe_callTy (show CallR _ _ (fun xs H Q => ∃ p ys, xs = [V.ref p] ∧ ((SqL K H p ys ∧ ∀ l, H l = none → Q (V.ref l) (upd H l (HO.tup ys))) ∨ (SqT K H p ys ∧ Q (V.ref p) H))) from call_tuple_of) (by rfl) T.f_tuple (by decide +kernel) (pa_cons (pe_slice (show SlR _ (rSlL K) from sl_list) (pv 0) (po_some (pe_op op_mul (pv 3) (pv 1))) (po_some (pe_op op_add (pe_op op_mul (pv 3) (pv 1)) (pv 1)))) pa_nil)))))), ?_⟩
    refine s_retV (k_lcR1 (n := ((xs.length / n : Nat) : Int)) (ea_cons (ev_var rfl) ea_nil) ⟨hq0, Int.le_trans hq1 (by decide)⟩ (fun _ => rfl) (fun Dl i H' => H Dl = none ∧ Ex H H' ∧ ∃ vs, H' Dl = some (.lst vs) ∧ Paired (IsP H') vs ((List.range i).map fun k => (xs.drop (k * n)).take n))
      (fun Dl H1 e1 nd => ⟨fresh_back e1 nd, e1.trans (Ex.new nd), [], upd_same, .nil⟩) ?_ ?_)
    · rintro Dl i H' hi ⟨nd, e, vs, hv, hp⟩
      refine eu_tupL (xs := ((xs.drop (i * n)).take n).map V.int) (by
        have := el_sl (K := K) (te := tVar 0) (tl := tPart (tOp (rI CMul fun i j => V.int (i * j)) (tVar 3) (tVar 1))) (th := tPart (tOp (rI0 fun i j => V.int (i + j)) (tOp (rI CMul fun i j => V.int (i * j)) (tVar 3) (tVar 1)) (tVar 1))) (σ := [some (.ref r), some (.int n), some (.int (xs.length / n : Nat)), some (.int (i : Int))]) (H := H') (lo := some ((i * n : Nat) : Int)) (hi := some ((i * n + n : Nat) : Int)) (xs := xs.map V.int) (ev_var rfl)
          (eo_some (ev_is (ev_I (ev_var rfl) (ev_var rfl) (cmul_r (by omega))) (congrArg V.int (by simp)))) (eo_some (ev_is (ev_I0 (ev_I (ev_var rfl) (ev_var rfl) (cmul_r (by omega))) (ev_var rfl)) (congrArg V.int (by simp)))) (sq_of (e _ _ hr'))
        rw [cutV_mid, ← List.map_drop, ← List.map_take] at this
        exact this) H' (Ex.refl _) _ fun p H2 np e2 h2 => ⟨vs, e2 _ _ hv, small1000' ?_, nd, (e.trans e2).mut nd, vs ++ [.ref p], upd_same, ?_⟩
      · rw [Paired.len hp, List.length_map, List.length_range]
        have := Int.lt_of_lt_of_le hi hq1
        omega
      · rw [List.range_succ, List.map_append]
        have hne : p ≠ Dl := fun z => by rw [z, hv] at np; cases np
        have f : Frm [] H' (upd H2 Dl (.lst (vs ++ [.ref p]))) → True := fun _ => trivial
        have pm : Frm [Dl] H' (upd H2 Dl (.lst (vs ++ [.ref p]))) := (Frm.ex e2).trans (Frm.put (e2 _ _ hv) (List.mem_singleton.mpr rfl) (fun _ z => by cases z) _)
        exact LS.Paired.app (ps_mono hp pm) (.cons ⟨p, rfl, by show (upd H2 Dl _) p = _; rw [upd_ne hne]; exact h2⟩ .nil)
    · rintro Dl H' ⟨nd, e, vs, hv, hp⟩
      exact hQ Dl H' nd e ⟨vs, hv, by rw [Int.toNat_natCast] at hp; exact hp⟩
end
end LS
end
-- text Lf
section
set_option maxHeartbeats 4000000
/-! The law's done. -/
namespace LS
open PySem PySem.Spec PyProof.Rows L2 Evl
def psOf (w : Wd) : List Str := match w.t with | none => [w.s.str] | some t => [t.str, w.s.str]
theorem split_wd : ∀ w : Wd, Txt.split w.str ":" = psOf w := by
  rintro ⟨t, s⟩
  rcases t with _ | t
  · cases s <;> decide +kernel
  · cases t <;> cases s <;> decide +kernel
theorem psOf_last (w : Wd) : atI ((psOf w).map V.str) (-1) = some (.str w.s.str) := by
  obtain ⟨t, s⟩ := w
  cases t <;> rfl
section
variable {K : PySem.W.Frag} {σ : L2.St} {H : Hp} {ta tb te td tv : TE} {D : Ends} {Q : VK} {s : Str} {o : Addr} {xs ys : List V} {g : TG}
theorem s_dpV (k : tv σ H fun v H1 => td σ H1 fun x H2 => ∃ a H4, x = .ref a ∧ DPut H2 a (.str s) v H4 ∧ D.nx σ H4) : sDPut td (tC (.str s)) tv D σ H := k
theorem s_asgG (h : te σ H fun x H1 => g x σ H1 D.nx) : tAsg te g D σ H := h
theorem k_catTup (h1 : Ev ta σ H (.ref o)) (ho : H o = some (.lst xs)) (h2 : ∀ H1, Ex H H1 → EvU tb σ H1 ys) (hl : xs.length + 1 ≤ 100000) (k : ∀ z q H1, H z = none → Ex H H1 → H1 q = some (.tup ys) → H1 z = some (.lst (xs ++ [.ref q])) → Q (.ref z) H1) :
    tOp rCat ta (tLst (tCons tb tNil)) σ H Q :=
  h1 H (Ex.refl H) _ fun H1 e1 => h2 H1 e1 H1 (Ex.refl _) _ fun q H2 nq e2 hq => ⟨sz_of (by show 1 ≤ 100000; decide), fun l nl => ⟨o, l, xs, _, rfl, rfl, (Ex.new nl) _ _ ((e1.trans e2) _ _ ho), upd_same, sz_of hl, fun z nz =>
    k z q _ (fresh_back ((e1.trans e2).trans (Ex.new nl)) nz) (((e1.trans e2).trans (Ex.new nl)).trans (Ex.new nz)) (((Ex.new nl).trans (Ex.new nz)) _ _ hq) upd_same⟩⟩
end
def streq (s : Stp) (z : Str) : Bool := decide (V.str s.str = V.str z)
abbrev sc__law_done_N : List Str := ["_law_words_here", "_law_got", "_law_box_here", "_law_said", "_law_wide", "_law_word_here", "_law_parts", "_law_many"]
theorem sc__law_done : FnScope sc__law_done_N ["_law_words_here", "_law_got", "_law_box_here", "_law_said", "_law_wide"] (defScope (top 49)) := ⟨rfl, rfl, rfl, by decide +kernel, rfl, by decide +kernel, by decide +kernel⟩
def sp_l_done : Sp := fun vs H Q _ => ∃ H0 a g b, ∃ ws : List Wd, ∃ st : Mst, ∃ n : Nat, vs = [.ref a, .ref g, .ref b, .bl st.said, .int n] ∧ (∀ x, H x = none → H0 x = none) ∧ H a = some (.lst (ws.map Wd.v)) ∧ LI H g st.came ∧ BN H0 H b st ∧ 1 ≤ n ∧ n ≤ 8 ∧ st.sz + (ws.length + 1) * (st.came.length + 1) < 20000 ∧
  ∀ H', Frm [b] H H' → BN H0 H' b (Mst.doWords n ws st).1 → Q (.str (lvStr (Mst.doWords n ws st).2)) H'
section
variable {P : Program} {w : World} {K : PySem.W.Frag} {mg : Str → Option Value} {base : Heap}
theorem c_l_done (T : Tx K mg) : C8.Cal P w K mg base 2 "_law_done" sp_l_done [] := by
  refine mkCal T.d_l_done T.g_l_done sc__law_done (fun _ _ _ _ _ _ us hl => match us, hl with | [_, _, _, _, _], _ => rfl) (fun vs H Q E h => ?_) (fun cdv A outer s H vs Q E hr h => ?_)
  · obtain ⟨H0, a, g, b, ws, st, n, rfl, _⟩ := h
    rfl
  · obtain ⟨H0, a, g, b, ws, st, n, rfl, hdom, ha, hg, hB, hn, h8, hz, hQ⟩ := h
    have hu := hu_of hr
    have hab : a ≠ b := by obtain ⟨_, _, _, _, _, hb, _⟩ := hB; exact ne_of ha hb fun z => by cases z
    have hgb : g ≠ b := by obtain ⟨_, _, _, _, _, hb, _⟩ := hB; exact ne_of hg hb fun z => by cases z
    refine ⟨_, (pss_cons (ps_for PassesOwn.never rfl (pi_list (pv 0)) (pg_name (i := 5) sc__law_done.nd rfl (Or.inl rfl))
        (pss_cons (ps_set (i := 6) sc__law_done.nd rfl (Or.inl rfl) (pe_split (pv 5) pe_str))
        (pss_cons (ps_if (PW.pt (pw_and (pt_cmpR op_eq (pe_callB call_len_seq (by rfl) T.f_len (by decide +kernel) (pa_cons (pv 6) pa_nil)) pe_int (nomark _)) (pw_and1 (pt_not (pt_val (C8.pe_c (c_l_passed T) hr (by decide) rfl (pa_cons (pe_ix ix_list (pv 6) pe_int (fun _ _ => rfl)) (pa_cons (pv 1) (pa_cons (pv 2) (pa_cons (pv 3) (pa_cons (pv 4) pa_nil)))))))))))
          (pss_one ps_continue)
          pss_nil)
        (pss_cons (ps_if (pt_cmpR op_in_seq (pe_ix ix_list (pv 6) (pe_un un_neg pe_int) (fun _ _ => rfl)) (pe_lst (pa_cons pe_str (pa_cons pe_str pa_nil))) (by rfl))
          (pss_one (ps_ret (pe_ix ix_list (pv 6) (pe_un un_neg pe_int) (fun _ _ => rfl))))
          pss_nil)
        (pss_one (ps_if (pt_cmpR op_eq (pe_ix ix_list (pv 6) (pe_un un_neg pe_int) (fun _ _ => rfl)) pe_str (nomark _))
          (pss_one (ps_dput hu (pv 2) pe_str (pe_op op_cat (pe_dget hu (pv 2) pe_str (fun _ _ => rfl)) (pv 1)) rfl))
          (pss_one (ps_if (pt_cmpR op_eq (pe_ix ix_list (pv 6) (pe_un un_neg pe_int) (fun _ _ => rfl)) pe_str (nomark _))
            (pss_one (ps_dput hu (pv 2) pe_str (pe_op op_cat (pe_dget hu (pv 2) pe_str (fun _ _ => rfl)) (pe_lst (pa_cons (pe_callTy call_tuple_of (by rfl) T.f_tuple (by decide +kernel) (pa_cons (pv 1) pa_nil)) pa_nil))) rfl))
            (pss_one (ps_if (pt_cmpR op_eq (pe_ix ix_list (pv 6) (pe_un un_neg pe_int) (fun _ _ => rfl)) pe_str (nomark _))
              (pss_one (ps_asg (pe_tup (pa_cons (pe_op op_cat (pe_dget hu (pv 2) pe_str (fun _ _ => rfl)) (pe_lst (pa_cons (pe_callTy call_tuple_of (by rfl) T.f_tuple (by decide +kernel) (pa_cons (pe_dget hu (pv 2) pe_str (fun _ _ => rfl)) pa_nil)) pa_nil))) (pa_cons (pe_lst pa_nil) pa_nil))) (pg_tup rfl (pgs_cons (pg_sub (pv 2) pe_str (set_dict hu)) (pgs_cons (pg_sub (pv 2) pe_str (set_dict hu)) pgs_nil)))))
              (pss_cons (ps_set (i := 7) sc__law_done.nd rfl (Or.inl rfl) (pe_op op_fdiv (pe_callB call_len_seq (by rfl) T.f_len (by decide +kernel) (pa_cons (pe_dget hu (pv 2) pe_str (fun _ _ => rfl)) pa_nil)) (pv 4)))
              (pss_cons (ps_dput hu (pv 2) pe_str (pe_op op_cat (pe_dget hu (pv 2) pe_str (fun _ _ => rfl)) (C8.pe_c (c_l_sliced T) hr (by decide) rfl (pa_cons (pe_dget hu (pv 2) pe_str (fun _ _ => rfl)) (pa_cons (pv 4) (pa_cons (pv 7) pa_nil))))) rfl)
              (pss_one (ps_dput hu (pv 2) pe_str (pe_slice sl_list (pe_dget hu (pv 2) pe_str (fun _ _ => rfl)) (po_some (pe_op op_mul (pv 7) (pv 4))) po_none) rfl))))))))))))))
      (pss_one (ps_ret pe_str))), ?_⟩
    refine q_forL (xs := ws.map Wd.v) (ev_var rfl) (sq_of ha) (fun i σ' H' => (∃ v5 v6 v7, σ' = [some (.ref a), some (.ref g), some (.ref b), some (.bl st.said), some (.int n), v5, v6, v7]) ∧ Frm [b] H H' ∧ ∃ st' : Mst, BN H0 H' b st' ∧ Mst.doWords n (ws.drop i) st' = Mst.doWords n ws st ∧ st'.came = st.came ∧ st'.said = st.said ∧ st'.sz ≤ st.sz + i * (st.came.length + 1))
      (fun H1 e1 => ⟨⟨none, none, none, rfl⟩, Frm.ex e1, st, hB.ex e1, rfl, rfl, rfl, by omega⟩) (fun i σ' H' _ p => sq_of (p.2.1.keep _ _ ha (by simpa using hab))) ?_ ?_
    · rintro i x σ' H' hx ⟨⟨v5, v6, v7, rfl⟩, f, st', B, hd, hc, hsd, hs⟩
      rw [List.getElem?_map] at hx
      obtain ⟨wd, hwd, rfl⟩ := Option.map_eq_some_iff.mp hx
      have hil : i < ws.length := (List.getElem?_eq_some_iff.mp hwd).1
      have hcons : ws.drop i = wd :: ws.drop (i + 1) := by
        rw [List.drop_eq_getElem_cons hil, (List.getElem?_eq_some_iff.mp hwd).2]
      rw [hcons, doWords_cons] at hd
      have hb1 : (i + 1) * (st.came.length + 1) ≤ ws.length * (st.came.length + 1) := Nat.mul_le_mul_right _ hil
      rw [Nat.succ_mul] at hb1
      have hz2 : (ws.length + 1) * (st.came.length + 1) = ws.length * (st.came.length + 1) + (st.came.length + 1) := Nat.succ_mul _ _
      have szb : st'.sz < 20000 := by omega
      have hrl : st'.rest.length < 20000 := by have : st'.sz = st'.rest.length + st'.out.length := rfl; omega
      have hol : st'.out.length < 20000 := by have : st'.sz = st'.rest.length + st'.out.length := rfl; omega
      show tSeq _ _ _ [some (.ref a), some (.ref g), some (.ref b), some (.bl st.said), some (.int n), some (Wd.v wd), v6, v7] H'
      refine q_asgL (el_split (ev_var rfl) (by decide +kernel) (by have := (wd_len wd).2; omega)) fun p H1 np e1 hp => ?_
      rw [split_wd] at hp
      show tSeq _ _ _ [some (.ref a), some (.ref g), some (.ref b), some (.bl st.said), some (.int n), some (Wd.v wd), some (.ref p), v7] H1
      have hg1 : LI H1 g st'.came := by rw [hc]; exact e1 _ _ (f.keep _ _ hg (by simpa using hgb))
      have B1 := B.ex e1
      have f1 := f.trans (Frm.ex e1)
      have htest : EvT (tAnd (tTest (tOp rEq (tCB (rLenS K) (tCons (tVar 6) tNil)) (tC (.int 2)))) (tNot (tTest (tCall sp_l_passed [] E0 (tCons (tOp (rIxL K) (tVar 6) (tC (.int 0))) (tCons (tVar 1) (tCons (tVar 2) (tCons (tVar 3) (tCons (tVar 4) tNil)))))))))
          [some (.ref a), some (.ref g), some (.ref b), some (.bl st.said), some (.int n), some (Wd.v wd), some (.ref p), v7] H1 (st'.stepOf n wd).isNone := by
        obtain ⟨t, s⟩ := wd
        cases t with
        | none => exact et_is (et_and (a := false) (b := false) (et_is (et_test (ev_eq (ev_len (ev_var rfl) (sq_of hp)) ev_c rfl)) (by show decide (V.int 1 = V.int 2) = false; decide)) (fun z => by cases z)) rfl
        | some t =>
          refine et_is (et_and (a := true) (b := !st'.passes n t) (et_is (et_test (ev_eq (ev_len (ev_var rfl) (sq_of hp)) ev_c rfl)) (by show decide (V.int 2 = V.int 2) = true; decide)) (fun _ => et_not (et_test (ev_call (ea_cons (ev_ixL (ev_var rfl) ev_c (sq_of hp) rfl) (ea_cons (ev_var rfl) (ea_cons (ev_var rfl) (ea_cons (ev_var rfl) (ea_cons (ev_var rfl) ea_nil)))))
            (spV_of fun H2 e2 Q E q => ⟨t, g, b, st', n, by rw [hsd]; rfl, e2 _ _ hg1, (B1.ex e2).bw, q⟩))))) ?_
          show (true && !st'.passes n t) = (if st'.passes n t then some s else none).isNone
          cases st'.passes n t <;> rfl
      have nxt : ∀ (σ2 : L2.St) (H2 : Hp) (st2 : Mst), (∃ v5 v6 v7, σ2 = [some (.ref a), some (.ref g), some (.ref b), some (.bl st.said), some (.int n), v5, v6, v7]) → Frm [b] H H2 → BN H0 H2 b st2 → Mst.doWords n (ws.drop (i + 1)) st2 = Mst.doWords n ws st → st2.came = st'.came → st2.said = st'.said → st2.sz ≤ st'.sz + (st.came.length + 1) →
          (∃ v5 v6 v7, σ2 = [some (.ref a), some (.ref g), some (.ref b), some (.bl st.said), some (.int n), v5, v6, v7]) ∧ Frm [b] H H2 ∧ ∃ st' : Mst, BN H0 H2 b st' ∧ Mst.doWords n (ws.drop (i + 1)) st' = Mst.doWords n ws st ∧ st'.came = st.came ∧ st'.said = st.said ∧ st'.sz ≤ st.sz + (i + 1) * (st.came.length + 1) := fun σ2 H2 st2 h1 h2 h3 h4 h5 h6 h7 =>
        ⟨h1, h2, st2, h3, h4, h5.trans hc, h6.trans hsd, by rw [Nat.succ_mul]; omega⟩
      refine q_if htest (fun hz1 H2 e2 => ?_) (fun hz1 H2 e2 => ?_)
      · have es : st'.stepOf n wd = none := by simpa using hz1
        rw [es] at hd
        exact nxt _ H2 st' ⟨_, _, _, rfl⟩ (f1.trans (Frm.ex e2)) (B1.ex e2) hd rfl rfl (by omega)
      · have es : st'.stepOf n wd = some wd.s := by
          obtain ⟨t, s⟩ := wd
          cases t with
          | none => rfl
          | some t =>
            have hz1 : (if st'.passes n t then some s else none).isNone = false := hz1
            show (if st'.passes n t then some s else none) = some s
            cases hh : st'.passes n t with
            | true => rfl
            | false => rw [hh] at hz1; cases hz1
        rw [es] at hd
        have B2 := B1.ex e2
        have f2 := f1.trans (Frm.ex e2)
        have hg2 : LI H2 g st'.came := e2 _ _ hg1
        have hp2 := e2 _ _ hp
        have hdom2 : ∀ x, H2 x = none → H0 x = none := fun x hx => hdom x (f2.free hx)
        obtain ⟨_, _, z3, z4, _⟩ := Mst.sz_step n hn st' wd.s
        have zs := (Mst.sz_step n hn st' wd.s).1
        rw [hc] at zs
        have hlast : ∀ {H3}, Ex H2 H3 → Ev (tOp (rIxL K) (tVar 6) (tUn (rU fun i => .int (-i)) (tC (.int 1)))) [some (.ref a), some (.ref g), some (.ref b), some (.bl st.said), some (.int n), some (Wd.v wd), some (.ref p), v7] H3 (.str wd.s.str) := fun e3 =>
          ev_ixL (ev_var rfl) (ev_un ev_c ru_neg) (sq_of (e3 _ _ hp2)) (psOf_last wd)
        have hin : ∀ {H3}, Ex H2 H3 → Ev (tOp (rIn K false) (tOp (rIxL K) (tVar 6) (tUn (rU fun i => .int (-i)) (tC (.int 1)))) (tLst (tCons (tC (.str "stop")) (tCons (tC (.str "again")) tNil)))) [some (.ref a), some (.ref g), some (.ref b), some (.bl st.said), some (.int n), some (Wd.v wd), some (.ref p), v7] H3 (.bl (inV (.str wd.s.str) [.str "stop", .str "again"])) := fun e3 =>
          ev_inL2 (hlast e3) (ea_cons ev_c (ea_cons ev_c ea_nil)) (by show 2 ≤ 100000; decide) rfl rfl
        have heq : ∀ {H3} {z : Str}, Ex H2 H3 → Ev (tOp rEq (tOp (rIxL K) (tVar 6) (tUn (rU fun i => .int (-i)) (tC (.int 1)))) (tC (.str z))) [some (.ref a), some (.ref g), some (.ref b), some (.bl st.said), some (.int n), some (Wd.v wd), some (.ref p), v7] H3 (.bl (streq wd.s z)) := fun e3 => ev_eq (hlast e3) ev_c rfl
        have hB3 : ∀ {H3}, Ex H2 H3 → BN H0 H3 b st' := fun e3 => B2.ex e3
        obtain ⟨t, s⟩ := wd
        cases s with
        | stop =>
          refine q_yes (et_ev (hin (Ex.refl _)) (by dsimp only; decide +kernel)) fun H3 e3 => s_ret (hlast e3) fun H4 e4 => ?_
          have q := hQ H4 (f2.trans (Frm.ex (e3.trans e4))) (by rw [← hd]; exact B2.ex (e3.trans e4))
          rw [← hd] at q
          exact q
        | again =>
          refine q_yes (et_ev (hin (Ex.refl _)) (by dsimp only; decide +kernel)) fun H3 e3 => s_ret (hlast e3) fun H4 e4 => ?_
          have q := hQ H4 (f2.trans (Frm.ex (e3.trans e4))) (by rw [← hd]; exact B2.ex (e3.trans e4))
          rw [← hd] at q
          exact q
        | add =>
          refine q_skip (et_ev0 (hin (Ex.refl _)) (by dsimp only; decide +kernel)) fun H3 e3 => s_yes (et_ev (heq e3) (by dsimp only; decide +kernel)) fun H4 e4 => ?_
          have e4 := e3.trans e4
          obtain ⟨r, o, n1, n2, n3, b1, b2, b3⟩ := hB3 e4
          refine s_dpL (el_catE (ev_dg (ev_var rfl) b1 bv_rest) b2 (ev_var rfl) (e4 _ _ hg2) (by rw [List.length_map, List.length_map, hc]; omega)) (ev_var rfl) b1 (by show 4 < 1000; decide) fun q H5 nq e5 hq => ?_
          rw [bp_rest]
          have f6 : Frm [b] H4 (upd H5 b (.dK (bfl q o st'.got st'.over))) := frm_dput e5 b1
          have hqb : q ≠ b := fun z => by rw [z, b1] at nq; cases nq
          have hob : o ≠ b := by obtain ⟨vs, hv, _⟩ := b3; exact ne_of hv b1 fun z => by cases z
          refine nxt _ _ (st'.step n .add) ⟨_, _, _, rfl⟩ ((f2.trans (Frm.ex e4)).trans f6) ⟨q, o, n1, hdom2 _ (fresh_back e4 nq), n3, upd_same, ?_, ?_⟩ hd rfl rfl zs
          · show (upd H5 b _) q = _
            rw [upd_ne hqb, hq]
            show some (HO.lst (st'.rest.map V.int ++ st'.came.map V.int)) = some (HO.lst ((st'.rest ++ st'.came).map V.int))
            rw [List.map_append]
          · obtain ⟨vs, hv, hp'⟩ := b3
            exact ⟨vs, f6.keep _ _ hv (by simpa using hob), ps_mono hp' f6⟩
        | hand =>
          refine q_skip (et_ev0 (hin (Ex.refl _)) (by dsimp only; decide +kernel)) fun H3 e3 => s_no (et_ev0 (heq e3) (by dsimp only; decide +kernel)) fun H4 e4 => s_yes (et_ev (heq (e3.trans e4)) (by dsimp only; decide +kernel)) fun H5 e5 => ?_
          have e5 := (e3.trans e4).trans e5
          obtain ⟨r, o, n1, n2, n3, b1, b2, vs, b3, b4⟩ := hB3 e5
          refine s_dpV (k_catTup (ys := st'.came.map V.int) (ev_dg (ev_var rfl) b1 bv_out) b3 (fun H6 e6 => eu_tupE (ev_var rfl) (sq_of ((e5.trans e6) _ _ hg2))) (by rw [Paired.len b4]; omega) fun z q H6 nz e6 hq hz => k_ev (ev_var rfl) fun H7 e7 => ⟨b, _, rfl, DPut.k (k := ky "out") ((e6.trans e7) _ _ b1) (small1000 (by show 4 ≤ 1000; decide)), ?_⟩)
          rw [bp_out]
          have f6 : Frm [b] H5 (upd H7 b (.dK (bfl r z st'.got st'.over))) := frm_dput (e6.trans e7) b1
          have hzb : z ≠ b := fun y => by rw [y, b1] at nz; cases nz
          have hrb : r ≠ b := ne_of b2 b1 fun z => by cases z
          have hqb : q ≠ b := fun y => by rw [y, (e6 _ _ b1)] at hq; cases hq
          refine nxt _ _ (st'.step n .hand) ⟨_, _, _, rfl⟩ ((f2.trans (Frm.ex e5)).trans f6) ⟨r, z, n1, n2, hdom2 _ (fresh_back e5 nz), upd_same, f6.keep _ _ b2 (by simpa using hrb), vs ++ [.ref q], by rw [upd_ne hzb]; exact e7 _ _ hz, ?_⟩ hd rfl rfl zs
          exact LS.Paired.app (ps_mono b4 f6) (.cons ⟨q, rfl, by show (upd H7 b _) q = _; rw [upd_ne hqb]; exact e7 _ _ hq⟩ .nil)
        | flush =>
          refine q_skip (et_ev0 (hin (Ex.refl _)) (by dsimp only; decide +kernel)) fun H3 e3 => s_no (et_ev0 (heq e3) (by dsimp only; decide +kernel)) fun H4 e4 => s_no (et_ev0 (heq (e3.trans e4)) (by dsimp only; decide +kernel)) fun H5 e5 => s_yes (et_ev (heq ((e3.trans e4).trans e5)) (by dsimp only; decide +kernel)) fun H6 e6 => ?_
          have e6 := ((e3.trans e4).trans e5).trans e6
          obtain ⟨r, o, n1, n2, n3, b1, b2, vs, b3, b4⟩ := hB3 e6
          refine s_asgG (k_tup (k_cons (k_catTup (ys := st'.rest.map V.int) (ev_dg (ev_var rfl) b1 bv_out) b3 (fun H7 e7 => eu_tupE (ev_dg (ev_var rfl) (e7 _ _ b1) bv_rest) (sq_of (e7 _ _ b2))) (by rw [Paired.len b4]; omega) fun z q H7 nz e7 hq hz => k_cons (el_lst ea_nil (by decide) H7 (Ex.refl _) _ fun r' H8 nr e8 hr' => ⟨sz_of (by show 2 ≤ 100000; decide), fun u nu => ?_⟩))))
          have e9 := e8.trans (Ex.new (o := .tup [.ref z, .ref r']) nu)
          have e79 := e7.trans e9
          refine ⟨u, _, rfl, st_of upd_same, rfl, _, _, rfl, .ref b, rfl, b, _, rfl, DPut.k (k := ky "out") (e79 _ _ b1) (small1000 (by show 4 ≤ 1000; decide)), ?_⟩
          rw [bp_out]
          have g9 : Frm [b] H6 (upd (upd H8 u (.tup [.ref z, .ref r'])) b (.dK (bfl r z st'.got st'.over))) := frm_dput e79 b1
          refine ⟨_, _, rfl, .ref b, rfl, b, _, rfl, DPut.k (k := ky "rest") upd_same (small1000 (by show 4 ≤ 1000; decide)), rfl, ?_⟩
          rw [bp_rest]
          have g10 : Frm [b] H6 (upd (upd (upd H8 u (.tup [.ref z, .ref r'])) b (.dK (bfl r z st'.got st'.over))) b (.dK (bfl r' z st'.got st'.over))) := g9.trans (frm_dput (Ex.refl _) upd_same)
          have hzb : z ≠ b := fun y => by rw [y, b1] at nz; cases nz
          have hrb : r' ≠ b := fun y => by rw [y, (e7 _ _ b1)] at nr; cases nr
          have hqb : q ≠ b := fun y => by rw [y, (e7 _ _ b1)] at hq; cases hq
          refine nxt _ _ (st'.step n .flush) ⟨_, _, _, rfl⟩ ((f2.trans (Frm.ex e6)).trans g10) ⟨r', z, n1, hdom2 _ (fresh_back (e6.trans e7) nr), hdom2 _ (fresh_back e6 nz), upd_same, ?_, vs ++ [.ref q], by rw [upd_ne hzb, upd_ne hzb]; exact e9 _ _ hz, ?_⟩ hd rfl rfl zs
          · show (upd (upd _ b _) b _) r' = _
            rw [upd_ne hrb, upd_ne hrb]
            exact (Ex.new nu) _ _ hr'
          · exact LS.Paired.app (ps_mono b4 g10) (.cons ⟨q, rfl, by show (upd (upd _ b _) b _) q = _; rw [upd_ne hqb, upd_ne hqb]; exact e9 _ _ hq⟩ .nil)
        | cut =>
          refine q_skip (et_ev0 (hin (Ex.refl _)) (by dsimp only; decide +kernel)) fun H3 e3 => s_no (et_ev0 (heq e3) (by dsimp only; decide +kernel)) fun H4 e4 => s_no (et_ev0 (heq (e3.trans e4)) (by dsimp only; decide +kernel)) fun H5 e5 => s_no (et_ev0 (heq ((e3.trans e4).trans e5)) (by dsimp only; decide +kernel)) fun H6 e6 => ?_
          have e6 := ((e3.trans e4).trans e5).trans e6
          obtain ⟨r, o, n1, n2, n3, b1, b2, vs, b3, b4⟩ := hB3 e6
          refine q_asg (v := .int (st'.rest.length / n : Nat)) (ev_is (ev_I (ev_len (ev_dg (ev_var rfl) b1 bv_rest) (sq_of b2)) (ev_var rfl) ⟨by omega, by omega⟩) (congrArg V.int (by rw [List.length_map]; simp))) fun H7 e7 => ?_
          show tSeq _ _ _ [some (.ref a), some (.ref g), some (.ref b), some (.bl st.said), some (.int n), some (Wd.v ⟨t, .cut⟩), some (.ref p), some (.int (st'.rest.length / n : Nat))] H7
          have hql : (cutPs n st'.rest).length ≤ st'.rest.length := by rw [Mst.cutPs_len]; exact Nat.div_le_self _ _
          refine q_dpV (k_op (k_ev (ev_dg (ev_var rfl) (e7 _ _ b1) bv_out) fun H8 e8 => k_call (ea_cons (ev_dg (ev_var rfl) ((e7.trans e8) _ _ b1) bv_rest) (ea_cons (ev_var rfl) (ea_cons (ev_var rfl) ea_nil))) fun H9 e9 => ⟨r, n, st'.rest, rfl, ((e7.trans e8).trans e9) _ _ b2, hn, h8, by omega, fun y H10 ny e10 hy => ?_⟩))
          obtain ⟨cs, c1, c2⟩ := hy
          have e610 := ((e7.trans e8).trans e9).trans e10
          refine ⟨o, y, vs, cs, rfl, rfl, e610 _ _ b3, c1, sz_of (by rw [Paired.len b4, Paired.len c2]; omega), fun z nz => ?_⟩
          have e11 := e610.trans (Ex.new (o := .lst (vs ++ cs)) nz)
          refine k_ev (ev_var rfl) fun H12 e12 => ⟨b, _, rfl, DPut.k (k := ky "out") ((e11.trans e12) _ _ b1) (small1000 (by show 4 ≤ 1000; decide)), ?_⟩
          rw [bp_out]
          have hzo : H12 z = some (.lst (vs ++ cs)) := e12 _ _ upd_same
          have nzH : H6 z = none := fresh_back e610 nz
          have hzb : z ≠ b := fun y => by rw [y, b1] at nzH; cases nzH
          have hrb : r ≠ b := ne_of b2 b1 fun z => by cases z
          have ec : Ex H10 H12 := (Ex.new nz).trans e12
          have g12 : Frm [b] H6 (upd H12 b (.dK (bfl r z st'.got st'.over))) := frm_dput (e11.trans e12) b1
          have hcs : Paired (IsP (upd H12 b (.dK (bfl r z st'.got st'.over)))) cs (cutPs n st'.rest) := ps_mono c2 (frm_dput (H := H10) (kvs := bfl r o st'.got st'.over) ec (e610 _ _ b1))
          have hzo' : (upd H12 b (.dK (bfl r z st'.got st'.over))) z = some (.lst (vs ++ cs)) := by rw [upd_ne hzb]; exact hzo
          have hb12 : (upd H12 b (.dK (bfl r z st'.got st'.over))) b = some (.dK (bfl r z st'.got st'.over)) := upd_same
          revert g12 hcs hzo' hb12
          generalize upd H12 b _ = H13
          intro g12 hcs hzo' hb12
          have hr13 := g12.keep _ _ b2 (by simpa using hrb)
          refine s_dpL (xs := (st'.rest.drop (st'.rest.length / n * n)).map V.int) (by
            have := el_sl (K := K) (te := tDGet (tVar 2) (tC (.str "rest"))) (tl := tPart (tOp (rI CMul fun i j => V.int (i * j)) (tVar 7) (tVar 4))) (th := tNoPart) (σ := [some (.ref a), some (.ref g), some (.ref b), some (.bl st.said), some (.int n), some (Wd.v ⟨t, .cut⟩), some (.ref p), some (.int (st'.rest.length / n : Nat))]) (H := H13) (lo := some ((st'.rest.length / n * n : Nat) : Int)) (hi := none) (xs := st'.rest.map V.int) (ev_dg (ev_var rfl) hb12 bv_rest) (eo_some (ev_is (ev_I (ev_var rfl) (ev_var rfl) (cmul_r (by omega))) (congrArg V.int (by simp)))) eo_none (sq_of hr13)
            rw [cutV_from, ← List.map_drop] at this
            exact this) (ev_var rfl) hb12 (by show 4 < 1000; decide) fun q H14 nq e14 hq => ?_
          rw [bp_rest]
          have g14 : Frm [b] H13 (upd H14 b (.dK (bfl q z st'.got st'.over))) := frm_dput e14 hb12
          have hqb : q ≠ b := fun y => by rw [y, hb12] at nq; cases nq
          refine nxt _ _ (st'.step n .cut) ⟨_, _, _, rfl⟩ (((f2.trans (Frm.ex e6)).trans g12).trans g14) ⟨q, z, n1, hdom2 _ (fresh_back e6 (g12.free nq)), hdom2 _ (fresh_back e6 nzH), upd_same, by show (upd H14 b _) q = _; rw [upd_ne hqb]; exact hq, vs ++ cs, by rw [upd_ne hzb]; exact e14 _ _ hzo', ?_⟩ hd rfl rfl zs
          exact LS.Paired.app (ps_mono b4 (g12.trans g14)) (ps_mono hcs g14)
    · rintro σ' H' ⟨⟨v5, v6, v7, rfl⟩, f, st', B, hd, hc, hsd, hs⟩
      rw [List.length_map, List.drop_length] at hd
      refine s_ret ev_c fun H1 e1 => ?_
      have q := hQ H1 (f.trans (Frm.ex e1)) (by rw [← hd]; exact B.ex e1)
      rw [← hd] at q
      exact q
end
end LS
end
-- text Lg
section
set_option maxHeartbeats 4000000
/-! The law's fed, tale. -/
namespace LS
open PySem PySem.Spec PyProof.Rows L2 Evl
theorem k_lst {σ : L2.St} {H : Hp} {ta : TA} {Q : VK} (h : ta σ H fun vs H1 => vs.length ≤ sizeLine ∧ ∀ p, H1 p = none → Q (.ref p) (upd H1 p (.lst vs))) : tLst ta σ H Q := h
theorem nx_go {σ : L2.St} {H : Hp} {tz : TS} {D : Ends} (h : tz D σ H) : tNext { D with nx := tz D } σ H := h
abbrev sc__law_fed_N : List Str := ["_law_made", "_law_box_here", "_law_many", "_law_said", "_law_wide", "_law_begun", "_law_ended", "_law_after", "_law_got"]
theorem sc__law_fed : FnScope sc__law_fed_N ["_law_made", "_law_box_here", "_law_many", "_law_said", "_law_wide"] (defScope (top 50)) := ⟨rfl, rfl, rfl, by decide +kernel, rfl, by decide +kernel, by decide +kernel⟩
def sp_l_fed : Sp := fun vs H Q _ => ∃ md bg en b, ∃ ws es : List Wd, ∃ st : Mst, ∃ c : Nat, ∃ t, ∃ n : Nat, vs = [.ref md, .ref b, .int c, .bl t, .int n] ∧ H md = some (.tup [.ref bg, .ref en]) ∧ H bg = some (.lst (.str "ask" :: ws.map Wd.v)) ∧ H en = some (.lst (es.map Wd.v)) ∧ BW H b st ∧ st.over = false ∧
  0 ≤ st.got ∧ st.got + c < 50000 ∧ 1 ≤ n ∧ n ≤ 8 ∧ st.sz + (ws.length + es.length + 2) * (c + 1) < 20000 ∧ ∀ p H', Ex H H' → BN H H' p (st.fed n ws es c t) → Q (.ref p) H'
section
variable {P : Program} {w : World} {K : PySem.W.Frag} {mg : Str → Option Value} {base : Heap}
theorem c_l_fed (T : Tx K mg) : C8.Cal P w K mg base 3 "_law_fed" sp_l_fed [] := by
  refine mkCal T.d_l_fed T.g_l_fed sc__law_fed (fun _ _ _ _ _ _ us hl => match us, hl with | [_, _, _, _, _], _ => rfl) (fun vs H Q E h => ?_) (fun cdv A outer s H vs Q E hr h => ?_)
  · obtain ⟨md, bg, en, b, ws, es, st, c, t, n, rfl, _⟩ := h
    rfl
  · obtain ⟨md, bg, en, b, ws, es, st, c, t, n, rfl, h1, h2, h3, ⟨r, o, b1, b2, vs, b3, b4⟩, hov, hg0, hg1, hn, h8, hz, hQ⟩ := h
    have hu := hu_of hr
    have szd : st.sz = st.rest.length + st.out.length := rfl
    refine ⟨_, (pss_cons (ps_asg (pv 0) (pg_tup rfl (pgs_cons (pg_name (i := 5) sc__law_fed.nd rfl (Or.inl rfl)) (pgs_cons (pg_name (i := 6) sc__law_fed.nd rfl (Or.inl rfl)) pgs_nil))))
      (pss_cons (ps_set (i := 7) sc__law_fed.nd rfl (Or.inl rfl) (pe_disp (pps_cons pe_str (pe_callTy call_list_of (by rfl) T.f_list (by decide +kernel) (pa_cons (pe_dget hu (pv 1) pe_str (fun _ _ => rfl)) pa_nil)) (pps_cons pe_str (pe_callTy call_list_of (by rfl) T.f_list (by decide +kernel) (pa_cons (pe_dget hu (pv 1) pe_str (fun _ _ => rfl)) pa_nil)) (pps_cons pe_str (pe_op op_add (pe_dget hu (pv 1) pe_str (fun _ _ => rfl)) (pv 2)) (pps_cons pe_str pe_bl pps_nil)))) (by rfl) (by rfl) (fun z => by cases z) (by decide)))
      (pss_cons (ps_set (i := 8) sc__law_fed.nd rfl (Or.inl rfl) (pe_listRg rfl (by rfl) T.f_list (prg_2 (by rfl) T.f_range (pe_dget hu (pv 1) pe_str (fun _ _ => rfl)) (pe_op op_add (pe_dget hu (pv 1) pe_str (fun _ _ => rfl)) (pv 2)))))
      (pss_cons (ps_if (pt_cmpR op_eq (C8.pe_c (c_l_done T) hr (by decide) rfl (pa_cons (pe_slice sl_list (pv 5) (po_some pe_int) po_none) (pa_cons (pv 8) (pa_cons (pv 7) (pa_cons (pv 3) (pa_cons (pv 4) pa_nil)))))) pe_str (nomark _))
        (pss_cons (ps_expr (C8.pe_c (c_l_done T) hr (by decide) rfl (pa_cons (pv 6) (pa_cons (pv 8) (pa_cons (pv 7) (pa_cons (pv 3) (pa_cons (pv 4) pa_nil)))))))
        (pss_one (ps_dput hu (pv 7) pe_str pe_bl rfl)))
        pss_nil)
      (pss_one (ps_ret (pv 7))))))), ?_⟩
    refine q_asgG (k_ev (ev_var rfl) fun H1 e1 => ⟨md, _, rfl, st_of (e1 _ _ h1), rfl, _, _, rfl, _, _, rfl, rfl, ?_⟩)
    refine q_setV (fun p np => ?_)
    have npH : H p = none := fresh_back e1 np
    have e2 : Ex H (upd H1 p (.dK [])) := e1.trans (Ex.new np)
    have hp : (upd H1 p (.dK [])) p = some (.dK []) := upd_same
    revert e2 hp
    generalize upd H1 p (.dK []) = H2
    intro e2 hp
    refine k_ev ev_c fun H3 e3 => el_list (ev_dg (ev_var rfl) ((e2.trans e3) _ _ b1) bv_rest) (sq_of ((e2.trans e3) _ _ b2)) H3 (Ex.refl _) _ fun r' H4 nr e4 hr' => k_ev ev_c fun H5 e5 => el_list (ev_dg (ev_var rfl) ((((e2.trans e3).trans e4).trans e5) _ _ b1) bv_out) (sq_of ((((e2.trans e3).trans e4).trans e5) _ _ b3)) H5 (Ex.refl _) _ fun o' H6 no e6 ho' => k_ev ev_c fun H7 e7 => ?_
    have e27 := (((e3.trans e4).trans e5).trans e6).trans e7
    have e07 := e2.trans e27
    refine k_ev (ev_I0 (ev_dg (ev_var rfl) (e07 _ _ b1) bv_got) (ev_var rfl)) fun H8 e8 => k_ev ev_c fun H9 e9 => k_ev ev_c fun H10 e10 => ?_
    have e2_10 := ((e27.trans e8).trans e9).trans e10
    have e10' := e2.trans e2_10
    refine ⟨e2_10 _ _ hp, bfl r' o' (st.got + c) false, rfl, by show 4 ≤ 15; decide, ?_⟩
    rw [b_mk]
    have nrH : H r' = none := fresh_back (e2.trans e3) nr
    have noH : H o' = none := fresh_back (((e2.trans e3).trans e4).trans e5) no
    have hrp : r' ≠ p := fun z => by rw [z, e3 _ _ hp] at nr; cases nr
    have hop : o' ≠ p := fun z => by rw [z, ((e3.trans e4).trans e5) _ _ hp] at no; cases no
    have e11 : Ex H (upd H10 p (.dK (bfl r' o' (st.got + c) false))) := e10'.mut npH
    have hr11 : (upd H10 p (.dK (bfl r' o' (st.got + c) false))) r' = some (.lst (st.rest.map V.int)) := by rw [upd_ne hrp]; exact (((((e5.trans e6).trans e7).trans e8).trans e9).trans e10) _ _ hr'
    have ho11 : (upd H10 p (.dK (bfl r' o' (st.got + c) false))) o' = some (.lst vs) := by rw [upd_ne hop]; exact (((e7.trans e8).trans e9).trans e10) _ _ ho'
    have hp11 : (upd H10 p (.dK (bfl r' o' (st.got + c) false))) p = some (.dK (bfl r' o' (st.got + c) false)) := upd_same
    show tSeq _ _ _ [some (.ref md), some (.ref b), some (.int c), some (.bl t), some (.int n), some (.ref bg), some (.ref en), some (.ref p), none] (upd H10 p (.dK (bfl r' o' (st.got + c) false)))
    revert e11 hr11 ho11 hp11
    generalize upd H10 p _ = H11
    intro e11 hr11 ho11 hp11
    refine q_asgL (el_lstRg (ev_dg (ev_var rfl) (e11 _ _ b1) bv_got) (ev_I0 (ev_dg (ev_var rfl) (e11 _ _ b1) bv_got) (ev_var rfl)) (RgOk.of_le hg0 (by omega) (by omega) (by omega))) fun g H12 ng e12 hg => ?_
    rw [rgV_irg] at hg
    have e12' := e11.trans e12
    generalize est : ({ st with came := Mst.irg st.got c, got := st.got + c, said := t } : Mst) = st1
    have B1 : BN H H12 p st1 := by
      subst est
      refine ⟨r', o', npH, nrH, noH, ?_, e12 _ _ hr11, vs, e12 _ _ ho11, ps_mono (S := []) b4 (Frm.ex e12')⟩
      show H12 p = some (.dK (bfl r' o' (st.got + c) st.over))
      rw [hov]
      exact e12 _ _ hp11
    have sz1 : st1.sz = st.sz := by subst est; rfl
    have cm1 : st1.came.length = c := by subst est; exact Mst.irg_len _ _
    have sd1 : st1.said = t := by subst est; rfl
    have hg' : LI H12 g st1.came := by subst est; exact hg
    have bd : (ws.length + es.length + 2) * (c + 1) = ws.length * (c + 1) + es.length * (c + 1) + 2 * (c + 1) := by rw [Nat.add_mul, Nat.add_mul]
    have bw : (ws.length + 1) * (c + 1) = ws.length * (c + 1) + (c + 1) := Nat.succ_mul _ _
    have be : (es.length + 1) * (c + 1) = es.length * (c + 1) + (c + 1) := Nat.succ_mul _ _
    show tSeq _ _ _ [some (.ref md), some (.ref b), some (.int c), some (.bl t), some (.int n), some (.ref bg), some (.ref en), some (.ref p), some (.ref g)] H12
    have efed : st.fed n ws es c t = (match (Mst.doWords n ws st1).2 with | some true => { (Mst.doWords n es (Mst.doWords n ws st1).1).1 with over := true } | _ => (Mst.doWords n ws st1).1) := by subst est; rfl
    obtain ⟨i1, i2, i3, i4, i5⟩ := Mst.sz_words n hn ws st1
    refine (?_ : (tTest (tOp rEq (tCall sp_l_done [] E0 _) (tC (.str "stop")))) _ _ _)
    refine (el_sl (K := K) (te := tVar 5) (tl := tPart (tC (.int 1))) (th := tNoPart) (lo := some 1) (ev_var rfl) (eo_some ev_c) eo_none (sq_of (e12' _ _ h2))) H12 (Ex.refl _) _ fun q H13 nq e13 hq => ?_
    rw [show (some (1 : Int)) = some ((1 : Nat) : Int) from rfl, cutV_from] at hq
    refine k_ev (ev_var rfl) fun H14 e14 => k_ev (ev_var rfl) fun H15 e15 => k_ev (ev_var rfl) fun H16 e16 => k_ev (ev_var rfl) fun H17 e17 => ?_
    have e1317 := ((e14.trans e15).trans e16).trans e17
    have e1217 := e13.trans e1317
    have e017 := e12'.trans e1217
    refine ⟨H, q, g, p, ws, st1, n, by rw [sd1]; rfl, fun x hx => fresh_back e017 hx, e1317 _ _ hq, e1217 _ _ hg', B1.ex e1217, hn, h8, by rw [sz1, cm1]; omega, fun H18 f18 B18 => ?_⟩
    have e018 : Ex H H18 := ex_frm e017 f18 npH
    refine ⟨rfl, _, rfl, ?_⟩
    have fin : ∀ H19, Ex H H19 → BN H H19 p (st.fed n ws es c t) → tRet (tVar 7) { nx := fun _ H' => Q .non H', rt := Q } [some (.ref md), some (.ref b), some (.int c), some (.bl t), some (.int n), some (.ref bg), some (.ref en), some (.ref p), some (.ref g)] H19 := fun H19 e19 B19 =>
      s_ret (ev_var rfl) fun H20 e20 => hQ p H20 (e19.trans e20) (B19.ex e20)
    cases er : (Mst.doWords n ws st1).2 with
    | none =>
      rw [show decide (V.str (lvStr none) = V.str "stop") = false from by decide +kernel]
      rw [er] at efed
      exact iteF (nx_go (fin H18 e018 (by rw [efed]; exact B18)))
    | some bb =>
      cases bb with
      | false =>
        rw [show decide (V.str (lvStr (some false)) = V.str "stop") = false from by decide +kernel]
        rw [er] at efed
        exact iteF (nx_go (fin H18 e018 (by rw [efed]; exact B18)))
      | true =>
        rw [show decide (V.str (lvStr (some true)) = V.str "stop") = true from by decide +kernel]
        rw [er] at efed
        refine iteT ?_
        have hgp : g ≠ p := ne_of hg (B1.bw).choose_spec.choose_spec.1 fun z => by cases z
        refine q_exprV (k_call (ea_cons (ev_var rfl) (ea_cons (ev_var rfl) (ea_cons (ev_var rfl) (ea_cons (ev_var rfl) (ea_cons (ev_var rfl) ea_nil))))) fun H19 e19 => ?_)
        refine ⟨H, en, g, p, es, _, n, by rw [i4, sd1]; rfl, fun x hx => fresh_back (e018.trans e19) hx, (e018.trans e19) _ _ h3, ?_, B18.ex e19, hn, h8, by rw [i2, cm1]; rw [cm1, sz1] at i1; omega, fun H20 f20 B20 => ?_⟩
        · rw [i2]
          exact e19 _ _ (f18.keep _ _ (e1217 _ _ hg') (by simpa using hgp))
        · have e020 : Ex H H20 := ex_frm (e018.trans e19) f20 npH
          obtain ⟨r2, o2, n1, n2, n3, c1, c2, cv, c3, c4⟩ := B20
          refine s_dp ev_c (ev_var rfl) c1 (by show 4 < 1000; decide) fun H21 e21 => ?_
          rw [bp_over]
          have hrb : r2 ≠ p := ne_of c2 c1 fun z => by cases z
          have hob : o2 ≠ p := ne_of c3 c1 fun z => by cases z
          have f21 := frm_dput (o := .dK (bfl r2 o2 (Mst.doWords n es (Mst.doWords n ws st1).1).1.got true)) e21 c1
          refine fin _ (ex_frm e020 f21 npH) ?_
          rw [efed]
          exact ⟨r2, o2, n1, n2, n3, upd_same, f21.keep _ _ c2 (by simpa using hrb), cv, f21.keep _ _ c3 (by simpa using hob), ps_mono c4 f21⟩
end
abbrev sc__law_tale_N : List Str := ["_law_jar_here", "_law_wide", "_law_many", "_law_k"]
theorem sc__law_tale : FnScope sc__law_tale_N ["_law_jar_here", "_law_wide", "_law_many"] (defScope (top 52)) := ⟨rfl, rfl, rfl, by decide +kernel, rfl, by decide +kernel, by decide +kernel⟩
def sp_l_tale : Sp := fun vs H Q _ => ∃ j, ∃ n : Nat, vs = [.ref j, .int n, .int 1] ∧ JAt H j ∧ 1 ≤ n ∧ n ≤ 8 ∧ ∀ p q (c : Nat) t H', JR j H H' → H' p = some (.lst [.ref q]) → H' q = some (.tup [.int c, .bl t]) → c ≤ n → Q (.ref p) H'
section
variable {P : Program} {w : World} {K : PySem.W.Frag} {mg : Str → Option Value} {base : Heap}
theorem c_l_tale (T : Tx K mg) : C8.Cal P w K mg base 3 "_law_tale" sp_l_tale [] := by
  refine mkCal T.d_l_tale T.g_l_tale sc__law_tale (fun _ _ _ _ _ _ us hl => match us, hl with | [_, _, _], _ => rfl) (fun vs H Q E h => ?_) (fun cdv A outer s H vs Q E hr h => ?_)
  · obtain ⟨j, n, rfl, _⟩ := h
    rfl
  · obtain ⟨j, n, rfl, hj, hn, h8, hQ⟩ := h
    refine ⟨_, (pss_one (ps_ret (pe_lc (own := [("_law_k", 3)]) (g := gName 3) (tt := tYes) rfl sc__law_tale.nd (pi_range1 (by rfl) T.f_range (pa_cons (pv 2) pa_nil)) (blkOk_by (own := [("_law_k", 3)]) (N := sc__law_tale_N) (sc := defScope (top 52)) (by decide +kernel)) (fun _ _ _ _ _ => pg_name (i := 3) sc__law_tale.nd rfl (Or.inl rfl)) (fun _ _ _ _ _ => pts_nil) (fun _ _ _ _ _ => (pe_tup (pa_cons (C8.pe_c (c_l_from T) hr (by decide) rfl (pa_cons (pv 0) (pa_cons (pe_lst (pa_cons pe_int (pa_cons (pv 1) (pa_cons (C8.pe_c (c_l_sip T) hr (by decide) rfl (pa_cons (pv 0) (pa_cons (pe_op op_add (pv 1) pe_int) pa_nil))) pa_nil)))) pa_nil))) (pa_cons (pe_cmpR op_eq (C8.pe_c (c_l_sip T) hr (by decide) rfl (pa_cons (pv 0) (pa_cons pe_int pa_nil))) pe_int (nomark _)) pa_nil))))))), ?_⟩
    refine s_retV (k_lcR1 (n := 1) (ea_cons (ev_var rfl) ea_nil) ⟨by decide, by decide⟩ (fun _ => rfl) (fun Dl i H' => H Dl = none ∧ JR j H H' ∧ (i = 0 → H' Dl = some (.lst [])) ∧ (i = 1 → ∃ q, ∃ c : Nat, ∃ t, H' Dl = some (.lst [.ref q]) ∧ H' q = some (.tup [.int c, .bl t]) ∧ c ≤ n))
      (fun Dl H1 e1 nd => ⟨fresh_back e1 nd, (JR.refl hj).ex (e1.trans (Ex.new nd)), fun _ => upd_same, fun z => by cases z⟩) ?_ ?_)
    · rintro Dl i H' hi ⟨nd, J, h0, _⟩
      have hi0 : i = 0 := by omega
      subst hi0
      have h0 := h0 rfl
      have hdj : Dl ≠ j := Ne.symm (hj.ne nd)
      refine k_tup (k_cons (k_cons (k_ev (ev_var rfl) fun H1 e1 => k_cons (k_lst (k_cons (k_ev ev_c fun H2 e2 => k_cons (k_ev (ev_var rfl) fun H3 e3 => k_cons (k_call (ea_cons (ev_var rfl) (ea_cons (ev_I0 (ev_var rfl) ev_c) ea_nil)) fun H4 e4 => ⟨j, _, rfl, J.2.ex (((e1.trans e2).trans e3).trans e4), by omega, by omega, fun d H5 hd r5 => ⟨sz_of (by show 3 ≤ 100000; decide), fun l nl => ?_⟩⟩))))))))
      have J5 := (J.ex (((e1.trans e2).trans e3).trans e4)).trans r5
      have hl5 : (upd H5 l (.lst [.int 0, .int n, .int d])) l = some (.lst [.int 0, .int n, .int d]) := upd_same
      have J6 := J5.ex (Ex.new (o := .lst [.int 0, .int n, .int d]) nl)
      have hlj : l ≠ j := Ne.symm (J5.2.ne nl)
      have hd6 : (upd H5 l (.lst [.int 0, .int n, .int d])) Dl = some (.lst []) := (Ex.new nl) _ _ (r5.lst ((((e1.trans e2).trans e3).trans e4) _ _ h0) hdj)
      generalize hH6 : upd H5 l _ = H6
      have hl6 : H6 l = some (.lst [.int 0, .int n, .int d]) := by rw [← hH6]; exact hl5
      have J6 : JR j H H6 := by rw [← hH6]; exact J6
      have hd6 : H6 Dl = some (.lst []) := by rw [← hH6]; exact hd6
      clear hH6
      refine ⟨j, l, _, rfl, J6.2, hlj, hl6, by simp, by show 3 < 1000; decide, fun x H7 hx r7 => ?_⟩
      obtain ⟨c, rfl, hc⟩ : ∃ c : Nat, x = .int c ∧ c ≤ n := by
        have hd : d ≤ n := by omega
        simp only [List.mem_cons, List.not_mem_nil, or_false] at hx
        rcases hx with rfl | rfl | rfl
        · exact ⟨0, rfl, Nat.zero_le _⟩
        · exact ⟨n, rfl, Nat.le_refl _⟩
        · exact ⟨d, rfl, hd⟩
      refine k_cons (k_op (k_call (ea_cons (ev_var rfl) (ea_cons ev_c ea_nil)) fun H8 e8 => ⟨j, 4, rfl, (J6.trans r7).2.ex e8, by decide, by decide, fun d2 H9 _ r9 => ⟨rfl, sz_of (by show 2 ≤ 100000; decide), fun q nq => ?_⟩⟩))
      have J9 := ((J6.trans r7).ex e8).trans r9
      have hd9 := r9.lst (e8 _ _ (r7.lst hd6 hdj)) hdj
      have hqd : q ≠ Dl := fun z => by rw [z, hd9] at nq; cases nq
      have J10 := J9.ex (Ex.new (o := .tup [.int c, .bl (decide (V.int (d2 : Int) = V.int 0))]) nq)
      refine ⟨[], (Ex.new nq) _ _ hd9, by decide, nd, J10.late nd (hj.ne nd), fun z => (by cases z), fun _ => ⟨q, c, decide (V.int (d2 : Int) = V.int 0), upd_same, ?_, hc⟩⟩
      rw [upd_ne hqd]
      exact upd_same
    · rintro Dl H' ⟨nd, J, _, h1⟩
      obtain ⟨q, c, t, z1, z2, z3⟩ := h1 rfl
      exact hQ Dl q c t H' J z1 z2 z3
end
end LS
end
-- text Lh
section
set_option maxHeartbeats 4000000
/-! The law's came, is_at. -/
namespace LS
open PySem PySem.Spec PyProof.Rows L2 Evl
abbrev sc__law_came_N : List Str := ["_law_ask", "_law_given", "e"]
theorem sc__law_came : FnScope sc__law_came_N ["_law_ask"] (defScope (top 55)) := ⟨rfl, rfl, rfl, by decide +kernel, rfl, by decide +kernel, by decide +kernel⟩
/-- what came makes of the lambda that it is given -/
def TTcame (K : PySem.W.Frag) : (XK → Hp → VK → Prop) → Hp → VK → Prop := fun tl H Q =>
  tl (fun cls d H' => (cls = .ref (He.ga K "NothingToUndo") ∧ d = none ∧ ∀ p H2, Ex H' H2 → H2 p = some (.lst [.str "NothingToUndo", .bl true]) → Q (.ref p) H2) ∨ (cls = .ref (He.ga K "Stopped") ∧ d = none ∧ ∀ p H2, Ex H' H2 → H2 p = some (.lst [.str "Stopped", .bl true]) → Q (.ref p) H2)) H
    (fun v H' => ∃ v', (some (some v) : Option (Option V)) = some (some v') ∧ [V.str "given", v'].length ≤ sizeLine ∧ ∀ p, H' p = none → Q (.ref p) (upd H' p (.lst [.str "given", v'])))
theorem takes_len {X : Cx} {W : WX} (t : Takes X W) : Takes X (fun cls d σ H => σ.length = X.N.length → W cls d σ H) := fun u s' ⟨a, B, sI, pins, σ, H, cls, d, e, I, nb, up, sky, na, os, ag, w⟩ =>
  t u s' ⟨a, B, sI, pins, σ, H, cls, d, e, I, nb, up, sky, na, os, ag, w I.len⟩
def tIsTwo (K : PySem.W.Frag) (C a : Addr) (z : Str) : TS := tRet (tLst (tCons (tC (.str z)) (tCons (tAndV (tCB (rIsE K C a) (tCons (tVar 2) (tCons (tC (.ref (He.ga K "StateError"))) tNil))) (tCB (rIsE K C a) (tCons (tVar 2) (tCons (tC (.ty "LookupError")) tNil)))) tNil)))
theorem two_ok {K : PySem.W.Frag} {C a : Addr} {z : Str} {D : Ends} {H : Hp} {v0 v : Option V} (h1 : PySem.W.kitOne K (.ref C) (.ref (He.ga K "StateError")) = some true) (h2 : PySem.W.kitOne K (.ref C) (.type "LookupError") = some true)
    (k : ∀ p H2, Ex H H2 → H2 p = some (.lst [.str z, .bl true]) → D.rt (.ref p) H2) : tIsTwo K C a z D [v0, v, some (.ref a)] H := by
  refine s_retL (el_lst (vs := [.str z, .bl (true && true)]) (ea_cons ev_c (ea_cons (ev_andV (a := true) (b := true) (ev_cb (ea_cons (ev_var rfl) (ea_cons ev_c ea_nil)) fun H1 _ Q q => ⟨_, _, _, rfl, fun u h => h, h1, q H1 (Ex.refl _)⟩) fun _ => ev_cb (ea_cons (ev_var rfl) (ea_cons ev_c ea_nil)) fun H1 _ Q q => ⟨_, _, _, rfl, fun u h => h, h2, q H1 (Ex.refl _)⟩) ea_nil)) (by show 2 ≤ 100000; decide)) fun p H1 _ e1 hp => k p H1 e1 hp
theorem came_gives {X : Cx} (T : Tx X.K X.mg) {g : Addr} {cdg : Value} {q : Str} : LamX.GivesTo X sc__law_came_N "_law_came" (defScope (top 55)) g cdg (defBody (top 55)) "_law_ask" q (TTcame X.K) := by
  intro f c' s H Q tl act hc h
  refine ⟨_, pss_cons (ps_try_manyA (X := (cxOf C8.CX0 X.prog X.w X.K X.mg X.base sc__law_came_N "_law_came" (defScope (top 55)) g cdg X.A X.stack s H C8.E0).nox)
      (tb := fun W D σ H => ∃ Ech : XK, (∀ cls d (σ' : L2.St) H', Ech cls d H' → σ'.length = 3 → W cls d σ' H') ∧ σ[0]? = some (some (.ref f)) ∧ H c' = some (LamX.CodeO c' q) ∧ tl Ech H (fun v H' => D.nx (σ.set 1 (some v)) H'))
      rfl rfl sc__law_came.nd LamX.takes0 (fun W pn xe tk _ => ?_)
      (.cons (c := .ref (He.ga X.K "NothingToUndo")) (i := 2) (ts := fun a cls d D σ H => cls = .ref (He.ga X.K "NothingToUndo") ∧ d = none ∧ tIsTwo X.K (He.ga X.K "NothingToUndo") a "NothingToUndo" D σ H) rfl rfl ⟨rfl, by decide, .inl T.g_NothingToUndo⟩ (fun a oe cls d pn hz hf => ?_)
        (.cons (c := .ref (He.ga X.K "Stopped")) (i := 2) (ts := fun a cls d D σ H => cls = .ref (He.ga X.K "Stopped") ∧ d = none ∧ tIsTwo X.K (He.ga X.K "Stopped") a "Stopped" D σ H) rfl rfl ⟨rfl, by decide, .inl T.g_Stopped⟩ (fun a oe cls d pn hz hf => ?_) .nil)))
      (pss_one (ps_ret (pe_lst (pa_cons pe_str (pa_cons (pv 1) pa_nil))))), ?_⟩
  · refine ⟨fun pins s' σ H' D I h' => ?_⟩
    obtain ⟨Ech, hW, h1, h2, h3⟩ := h'
    have hp := fun p1 p2 => act (fun cls d σ H => σ.length = 3 → W cls d σ H) pn xe Ech p1 p2 (takes_len tk) hW
    exact PSs.run (pss_one (ps_set (i := 1) sc__law_came.nd rfl (Or.inl rfl) (hp _ _))) pins s' σ H' D I ⟨h1, h2, h3⟩
  · refine ⟨fun pins s' σ H' D I h' => ?_⟩
    obtain ⟨rfl, rfl, h'⟩ := h'
    exact PSs.run (pss_one (ps_ret (pe_lst (pa_cons pe_str (pa_cons (pe_and (pe_callB (call_isE (X := (cxOf C8.CX0 X.prog X.w X.K X.mg X.base sc__law_came_N "_law_came" (defScope (top 55)) g cdg X.A X.stack s H C8.E0).nox) T.xNothingToUndo.x hz hf) (by rfl) T.f_isinstance (by decide +kernel) (pa_cons (pv 2) (pa_cons (pe_glob (v := .ref _) (by rfl) T.g_StateError rfl) pa_nil)))
      (pe_one (pe_callB (call_isE (X := (cxOf C8.CX0 X.prog X.w X.K X.mg X.base sc__law_came_N "_law_came" (defScope (top 55)) g cdg X.A X.stack s H C8.E0).nox) T.xNothingToUndo.x hz hf) (by rfl) T.f_isinstance (by decide +kernel) (pa_cons (pv 2) (pa_cons (pe_bltn (v := .ty "LookupError") (by rfl) T.f_LookupError (by decide +kernel) rfl) pa_nil))))) pa_nil))))) pins s' σ H' D I h'
  · refine ⟨fun pins s' σ H' D I h' => ?_⟩
    obtain ⟨rfl, rfl, h'⟩ := h'
    exact PSs.run (pss_one (ps_ret (pe_lst (pa_cons pe_str (pa_cons (pe_and (pe_callB (call_isE (X := (cxOf C8.CX0 X.prog X.w X.K X.mg X.base sc__law_came_N "_law_came" (defScope (top 55)) g cdg X.A X.stack s H C8.E0).nox) T.xStopped.x hz hf) (by rfl) T.f_isinstance (by decide +kernel) (pa_cons (pv 2) (pa_cons (pe_glob (v := .ref _) (by rfl) T.g_StateError rfl) pa_nil)))
      (pe_one (pe_callB (call_isE (X := (cxOf C8.CX0 X.prog X.w X.K X.mg X.base sc__law_came_N "_law_came" (defScope (top 55)) g cdg X.A X.stack s H C8.E0).nox) T.xStopped.x hz hf) (by rfl) T.f_isinstance (by decide +kernel) (pa_cons (pv 2) (pa_cons (pe_bltn (v := .ty "LookupError") (by rfl) T.f_LookupError (by decide +kernel) rfl) pa_nil))))) pa_nil))))) pins s' σ H' D I h'
  · refine ⟨_, fun cls d σ' H' hE hl => ?_, rfl, hc, h⟩
    obtain ⟨v0, v1, v2, rfl⟩ : ∃ v0 v1 v2, σ' = [v0, v1, v2] := match σ', hl with | [v0, v1, v2], _ => ⟨v0, v1, v2, rfl⟩
    rcases hE with ⟨rfl, rfl, hE⟩ | ⟨rfl, rfl, hE⟩
    · exact ⟨true, T.xm_NothingToUndo_NothingToUndo, fun _ a na => ⟨rfl, rfl, two_ok T.ks_NothingToUndo T.kl_NothingToUndo fun p H2 e hp => hE p H2 e hp⟩, fun z => by cases z⟩
    · exact ⟨false, T.xm_Stopped_NothingToUndo, fun z => (by cases z), fun _ => ⟨true, T.xm_Stopped_Stopped, fun _ a na => ⟨rfl, rfl, two_ok T.ks_Stopped T.kl_Stopped fun p H2 e hp => hE p H2 e hp⟩, fun z => by cases z⟩⟩
end LS
end
-- text Li
section
set_option maxHeartbeats 4000000
/-! The law's is_at. -/
namespace LS
open PySem PySem.Spec PyProof.Rows L2 Evl
def rD (r : Nat × Bool) : PyData := .tuple [.int r.1, .bool r.2]
def iD (ns : List Int) : PyData := .tuple (ns.map PyData.int)
theorem rD_fd (r : Nat × Bool) : Fd 1 (rD r) := fd_tup fun d h => by
  simp only [List.mem_cons, List.not_mem_nil, or_false] at h
  rcases h with rfl | rfl
  · exact fd_int
  · exact fd_bool
theorem iD_fd (ns : List Int) : Fd 1 (iD ns) := fd_tup fun d h => by
  obtain ⟨i, _, rfl⟩ := List.mem_map.mp h
  exact fd_int
theorem rs_fd (rs : List (Nat × Bool)) : Fd 2 (.tuple (rs.map rD)) := fd_tup fun d h => by
  obtain ⟨r, _, rfl⟩ := List.mem_map.mp h
  exact rD_fd r
theorem rsl_fd (rs : List (Nat × Bool)) : Fd 2 (.list (rs.map rD)) := fd_list fun d h => by
  obtain ⟨r, _, rfl⟩ := List.mem_map.mp h
  exact rD_fd r
theorem ps_fd (pss : List (List Int)) : Fd 2 (.tuple (pss.map iD)) := fd_tup fun d h => by
  obtain ⟨r, _, rfl⟩ := List.mem_map.mp h
  exact iD_fd r
section
variable {K : PySem.W.Frag} {H : Hp}
theorem dp_rs : ∀ {vs : List V} {rs : List (Nat × Bool)}, Paired (RpV H) vs rs → DpAll K H vs (rs.map rD)
  | _, _, .nil => .nil
  | _, _, .cons ⟨a, e, h⟩ t => by
    subst e
    exact .cons (.tup (st_of h) (.cons (.int _) (.cons (.bl _) .nil))) (dp_rs t)
theorem dp_ps : ∀ {vs : List V} {pss : List (List Int)}, Paired (IsP H) vs pss → DpAll K H vs (pss.map iD)
  | _, _, .nil => .nil
  | _, _, .cons ⟨a, e, h⟩ t => by
    subst e
    exact .cons (.tup (st_of h) (dpA_map (fun i => .int i) _)) (dp_ps t)
end
section
variable {σ : L2.St} {H : Hp} {ta : TE} {a C dx : Addr} {fs : List (Str × V)} {sp : Sp} {E : XK} {k : Int} {z : Str}
theorem ev_lenOwn (h : Ev ta σ H (.ref a)) (ho : H a = some (.ins C dx fs)) (hs : SpV sp [.ref a] H (.int k)) (h0 : 0 ≤ k) (h1 : k < 2 ^ 63) : Ev (tCB (rLenOwn C sp E) (tCons ta tNil)) σ H (.int k) := fun H1 e1 Q q =>
  h H1 e1 _ fun H2 e2 => ⟨a, dx, fs, rfl, (e1.trans e2) _ _ ho, hs H2 (e1.trans e2) _ (fun H3 e3 => ⟨k, rfl, h0, h1, q H3 (e2.trans e3)⟩) E⟩
theorem ev_boolOwn (h : Ev ta σ H (.ref a)) (ho : H a = some (.ins C dx fs)) (hs : SpV sp [.ref a] H (.int k)) (h0 : 0 ≤ k) (h1 : k < 2 ^ 63) : Ev (tCB (rBoolOwn C sp E) (tCons ta tNil)) σ H (.bl (k != 0)) := fun H1 e1 Q q =>
  h H1 e1 _ fun H2 e2 => ⟨a, dx, fs, rfl, (e1.trans e2) _ _ ho, hs H2 (e1.trans e2) _ (fun H3 e3 => ⟨k, rfl, h0, h1, q H3 (e2.trans e3)⟩) E⟩
theorem ev_reprOwn (h : Ev ta σ H (.ref a)) (ho : H a = some (.ins C dx fs)) (hs : SpV sp [.ref a] H (.str z)) : Ev (tCB (rReprOwn C sp E) (tCons ta tNil)) σ H (.str z) := fun H1 e1 Q q =>
  h H1 e1 _ fun H2 e2 => ⟨a, dx, fs, rfl, (e1.trans e2) _ _ ho, hs H2 (e1.trans e2) _ (fun H3 e3 => ⟨z, rfl, q H3 (e2.trans e3)⟩) E⟩
theorem ev_strI {i : Int} (h : Ev ta σ H (.int i)) (hz : i.natAbs.log2 < 1920) : Ev (tCB (fun xs H Q => ∃ i, xs = [.int i] ∧ i.natAbs.log2 < 1920 ∧ Q (.str (toString i)) H) (tCons ta tNil)) σ H (.str (toString i)) := fun H1 e1 Q q =>
  h H1 e1 _ fun H2 e2 => ⟨i, rfl, hz, q H2 e2⟩
theorem ev_addS {tb : TE} {x y : Str} (ha : Ev ta σ H (.str x)) (hb : Ev tb σ H (.str y)) (hl : x.length + y.length ≤ sizeLine) : Ev (tOp (fun x y H Q => ∃ i j, x = .str i ∧ y = .str j ∧ i.length + j.length ≤ sizeLine ∧ Q (.str (i ++ j)) H) ta tb) σ H (.str (x ++ y)) := ev_op ha hb fun H1 _ Q q => ⟨x, y, rfl, rfl, hl, q H1 (Ex.refl _)⟩
end
theorem rp_ok2 : ∀ k : Fin 17, ((k.val : Int)).natAbs.log2 < 1920 ∧ ("Reading(" : Str).length + (toString (k.val : Int) : Str).length ≤ sizeLine ∧ (("Reading(" : Str) ++ (toString (k.val : Int) : Str)).length + (" replies)" : Str).length ≤ sizeLine ∧ PyData.strOk (rpStr k.val) = true := by decide +kernel
abbrev sc__law_is_at_N : List Str := ["_law_live", "_law_wide", "_law_tale_here", "_law_box_here", "_law_seen", "_law_due"]
theorem sc__law_is_at : FnScope sc__law_is_at_N ["_law_live", "_law_wide", "_law_tale_here", "_law_box_here"] (defScope (top 54)) := ⟨rfl, rfl, rfl, by decide +kernel, rfl, by decide +kernel, by decide +kernel⟩
def sp_l_is_at (K : PySem.W.Frag) : Sp := fun vs H Q _ => ∃ x l n ws es rs tl b tv, vs = [.ref x, .int (n : Nat), .ref tl, .ref b] ∧ RAt K H x l n ws es rs ∧ rs.length ≤ 16 ∧ H tl = some (.lst tv) ∧ Paired (RpV H) tv rs ∧ BW H b (Mst.fold n ws es rs) ∧ SpRet (.bl true) H Q
section
variable {P : Program} {w : World} {K : PySem.W.Frag} {mg : Str → Option Value} {base : Heap}
theorem c_l_is_at (T : Tx K mg) : C8.Cal P w K mg base 5 "_law_is_at" (sp_l_is_at K) [] := by
  refine mkCal T.d_l_is_at T.g_l_is_at sc__law_is_at (fun _ _ _ _ _ _ us hl => match us, hl with | [_, _, _, _], _ => rfl) (fun vs H Q E h => ?_) (fun cdv A outer s H vs Q E hr h => ?_)
  · obtain ⟨x, l, n, ws, es, rs, tl, b, tv, rfl, _⟩ := h
    rfl
  · obtain ⟨x, l, n, ws, es, rs, tl, b, tv, rfl, hR, hl, ht, hp, ⟨r, o, b1, b2, ov, b3, b4⟩, hQ⟩ := h
    have hu := hu_of hr
    obtain ⟨fl, Fl, Bl⟩ := f_Reading_len (P := P) (w := w) (base := base) T
    obtain ⟨fr, Fr, Br⟩ := f_Reading_repr (P := P) (w := w) (base := base) T
    obtain ⟨dx, om, a, hd, cr, h1, h2, ⟨rv, h3, h3p⟩, ⟨pvs, h4, h4p⟩, h5⟩ := hR.ex
    obtain ⟨z1, z2, z3, z4⟩ := rp_ok2 ⟨rs.length, by omega⟩
    have z1 : ((rs.length : Nat) : Int).natAbs.log2 < 1920 := z1
    have rvl := Paired.len h3p
    have tvl := Paired.len hp
    refine ⟨_, (pss_cons (ps_set (i := 4) sc__law_is_at.nd rfl (Or.inl rfl) (pe_lst (pa_cons (pe_fld (pv 0) rfl) (pa_cons (pe_fld (pv 0) rfl) (pa_cons (pe_fld (pv 0) rfl) (pa_cons (pe_fld (pv 0) rfl) (pa_cons (pe_fld (pv 0) rfl) (pa_cons (pe_fld (pv 0) rfl) (pa_cons (pe_callB (call_lenOwn Fl (hr.mono (by decide)) T.mR_len.at_ T.mR_len.fn Bl pass0) (by rfl) T.f_len (by decide +kernel) (pa_cons (pv 0) pa_nil)) (pa_cons (pe_callB (call_reprOwn Fr (hr.mono (by decide)) T.mR_repr.at_ T.mR_repr.fn Br pass0) (by rfl) T.f_repr (by decide +kernel) (pa_cons (pv 0) pa_nil)) (pa_cons (pe_callTy (call_boolOwn Fl (hr.mono (by decide)) T.noR_bool T.mR_len.at_ T.mR_len.fn Bl pass0) (by rfl) T.f_bool (by decide +kernel) (pa_cons (pv 0) pa_nil)) pa_nil)))))))))))
      (pss_cons (ps_set (i := 5) sc__law_is_at.nd rfl (Or.inl rfl) (pe_lst (pa_cons (pe_callTy call_tuple_of (by rfl) T.f_tuple (by decide +kernel) (pa_cons (pv 2) pa_nil)) (pa_cons (pe_callTy call_tuple_of (by rfl) T.f_tuple (by decide +kernel) (pa_cons (pe_dget hu (pv 3) pe_str (fun _ _ => rfl)) pa_nil)) (pa_cons (pe_callTy call_tuple_of (by rfl) T.f_tuple (by decide +kernel) (pa_cons (pe_dget hu (pv 3) pe_str (fun _ _ => rfl)) pa_nil)) (pa_cons (pe_dget hu (pv 3) pe_str (fun _ _ => rfl)) (pa_cons (pv 1) (pa_cons pe_bl (pa_cons (pe_callB call_len_seq (by rfl) T.f_len (by decide +kernel) (pa_cons (pv 2) pa_nil)) pa_nil)))))))))
      (pss_one (ps_ret (pe_cmpR (op_eqD hr.units) (pv 4) (pe_op op_cat (pv 5) (pe_lst (pa_cons (pe_op op_add_str (pe_op op_add_str pe_str (pe_callTy call_str_int (by rfl) T.f_str (by decide +kernel) (pa_cons (pe_callB call_len_seq (by rfl) T.f_len (by decide +kernel) (pa_cons (pv 2) pa_nil)) pa_nil))) pe_str) (pa_cons (pe_cmpR (op_neD hr.units) (pv 2) (pe_lst pa_nil) (nomark _)) pa_nil)))) (nomark _)))))), ?_⟩
    have rl : ∀ {H1}, Ex H H1 → SpV (sp_Rlen K) [.ref x] H1 (.int (rs.length : Nat)) := fun e => spV_of fun H2 e2 Q E q => ⟨x, l, n, ws, es, rs, rfl, hR.saf (S := []) (Frm.ex (e.trans e2)) Saf.nil (by simp), q⟩
    have rr : ∀ {H1}, Ex H H1 → SpV (sp_Rrepr K) [.ref x] H1 (.str (rpStr rs.length)) := fun e => spV_of fun H2 e2 Q E q => ⟨x, l, n, ws, es, rs, rfl, hR.saf (S := []) (Frm.ex (e.trans e2)) Saf.nil (by simp), hl, q⟩
    refine q_asgL (el_lst (vs := [.ref a, .ref hd, .ref cr, .bl (Mst.fold n ws es rs).over, .int n, .bl false, .int (rs.length : Nat), .str (rpStr rs.length), .bl (((rs.length : Nat) : Int) != 0)]) (ea_cons (ev_fld (ev_var rfl) h1 T.cR T.nR_replies rk_replies) (ea_cons (ev_fld (ev_var rfl) h1 T.cR T.nR_pieces rk_pieces) (ea_cons (ev_fld (ev_var rfl) h1 T.cR T.nR_rest rk_rest) (ea_cons (ev_fld (ev_var rfl) h1 T.cR T.nR_stopped rk_stopped) (ea_cons (ev_fld (ev_var rfl) h1 T.cR T.nR_size rk_size) (ea_cons (ev_fld (ev_var rfl) h1 T.cR T.nR_busy rk_busy)
      (ea_cons (ev_lenOwn (ev_var rfl) h1 (rl (Ex.refl _)) (by omega) (by omega)) (ea_cons (ev_reprOwn (ev_var rfl) h1 (rr (Ex.refl _))) (ea_cons (ev_boolOwn (ev_var rfl) h1 (rl (Ex.refl _)) (by omega) (by omega)) ea_nil))))))))) (by show 9 ≤ 100000; decide)) fun sn H1 n1 e1 hs => ?_
    refine q_setV (k_lst (k_cons (eu_tupE (ev_var rfl) (sq_of (e1 _ _ ht)) H1 (Ex.refl _) _ fun t1 H2 m2 e2 ht1 => k_cons (eu_tupE (ev_dg (ev_var rfl) ((e1.trans e2) _ _ b1) bv_out) (sq_of ((e1.trans e2) _ _ b3)) H2 (Ex.refl _) _ fun t2 H3 m3 e3 ht2 => k_cons (eu_tupE (ev_dg (ev_var rfl) (((e1.trans e2).trans e3) _ _ b1) bv_rest) (sq_of (((e1.trans e2).trans e3) _ _ b2)) H3 (Ex.refl _) _ fun t3 H4 m4 e4 ht3 => ?_)))))
    have e14 := ((e1.trans e2).trans e3).trans e4
    refine (ea_cons (ev_dg (ev_var rfl) (e14 _ _ b1) bv_over) (ea_cons (ev_var rfl) (ea_cons ev_c (ea_cons (ev_is (ev_len (ev_var rfl) (sq_of (e14 _ _ ht))) (congrArg (fun z : Nat => V.int z) tvl)) ea_nil)))) H4 (Ex.refl _) _ fun H5 e5 => ⟨sz_of (by show 7 ≤ 100000; decide), fun du nd => ?_⟩
    have e6 : Ex H5 (upd H5 du (.lst [.ref t1, .ref t2, .ref t3, .bl (Mst.fold n ws es rs).over, .int n, .bl false, .int (rs.length : Nat)])) := Ex.new nd
    have hdu : (upd H5 du (.lst [.ref t1, .ref t2, .ref t3, .bl (Mst.fold n ws es rs).over, .int n, .bl false, .int (rs.length : Nat)])) du = some (.lst [.ref t1, .ref t2, .ref t3, .bl (Mst.fold n ws es rs).over, .int n, .bl false, .int (rs.length : Nat)]) := upd_same
    show tRet _ _ [some (.ref x), some (.int n), some (.ref tl), some (.ref b), some (.ref sn), some (.ref du)] (upd H5 du (.lst [.ref t1, .ref t2, .ref t3, .bl (Mst.fold n ws es rs).over, .int n, .bl false, .int (rs.length : Nat)]))
    revert e6 hdu
    generalize upd H5 du _ = H6
    intro e6 hdu
    have e56 := e5.trans e6
    have eA : Ex H H6 := e14.trans e56
    have q1 := ((e3.trans e4).trans e56) _ _ ht1
    have q2 := (e4.trans e56) _ _ ht2
    have q3 := e56 _ _ ht3
    have hsn := (((e2.trans e3).trans e4).trans e56) _ _ hs
    let dd : PyData := .list [.tuple (rs.map rD), .tuple ((Mst.fold n ws es rs).out.map iD), iD (Mst.fold n ws es rs).rest, .bool (Mst.fold n ws es rs).over, .int n, .bool false, .int (rs.length : Nat), .str (rpStr rs.length), .bool (((rs.length : Nat) : Int) != 0)]
    have fdd : Fd 3 dd := fd_list fun d h => by
      simp only [List.mem_cons, List.not_mem_nil, or_false] at h
      rcases h with rfl | rfl | rfl | rfl | rfl | rfl | rfl | rfl | rfl
      · exact rs_fd rs
      · exact ps_fd _
      · exact (iD_fd _).mono (by decide)
      · exact fd_bool.mono (by decide)
      · exact fd_int.mono (by decide)
      · exact fd_bool.mono (by decide)
      · exact fd_int.mono (by decide)
      · exact (fd_str z4).mono (by decide)
      · exact fd_bool.mono (by decide)
    have tz : (!decide (tv = [])) = (((rs.length : Nat) : Int) != 0) := by
      rw [← tvl]
      cases tv with
      | nil => rfl
      | cons v tv => rw [List.length_cons, decide_eq_false (by simp)]; simp; omega
    refine s_ret (v := .bl true) (ev_opL (ev_var rfl) (el_cat (ev_var rfl) hdu (el_lst (ea_cons (ev_addS (ev_addS ev_c (ev_strI (ev_is (ev_len (ev_var rfl) (sq_of (eA _ _ ht))) (congrArg (fun z : Nat => V.int z) tvl)) z1) z2) ev_c z3) (ea_cons (ev_is (ev_neNil (ev_var rfl) (eA _ _ ht) (fun H7 e7 => dp_rs (Paired.imp2 (fun _ _ z => z.mono (S := []) (Frm.ex (eA.trans e7))) hp)) (rsl_fd rs)) (congrArg V.bl tz)) ea_nil)) (by show 2 ≤ 100000; decide)) (by show 7 + 2 ≤ 100000; decide)) fun p H7 hp7 e7 H8 e8 Q q => ?_) fun H9 e9 => hQ H9 (eA.trans e9)
    have e68 := e7.trans e8
    have eB := eA.trans e68
    refine ⟨dd, dd, .lst (sq_of (e68 _ _ hsn)) (.cons (.tup (st_of (eB _ _ h3)) (dp_rs (Paired.imp2 (fun _ _ z => z.mono (S := []) (Frm.ex eB)) h3p))) (.cons (.tup (st_of (eB _ _ h4)) (dp_ps (ps_mono (S := []) h4p (Frm.ex eB)))) (.cons (.tup (st_of (eB _ _ h5)) (dpA_map (fun i => .int i) _)) (.cons (.bl _) (.cons (.int _) (.cons (.bl _) (.cons (.int _) (.cons (.str _) (.cons (.bl _) .nil))))))))),
      .lst (sq_of (e8 _ _ hp7)) (.cons (.tup (st_of (e68 _ _ q1)) (dp_rs (Paired.imp2 (fun _ _ z => z.mono (S := []) (Frm.ex eB)) hp))) (.cons (.tup (st_of (e68 _ _ q2)) (dp_ps (ps_mono (S := []) b4 (Frm.ex eB)))) (.cons (.tup (st_of (e68 _ _ q3)) (dpA_map (fun i => .int i) _)) (.cons (.bl _) (.cons (.int _) (.cons (.bl _) (.cons (.int _) (.cons (.str _) (.cons (.bl _) .nil))))))))), fdd.sh, fdd.sh, ?_⟩
    rw [SeqAt.eqv_refl dd fdd.1]
    exact q H8 (Ex.refl _)
end
end LS
end
-- text Lj
section
set_option maxHeartbeats 4000000
/-! What a turn of the law keeps. -/
namespace LS
open PySem PySem.Spec PyProof.Rows L2 Evl
/-- all but the tables and what stands at S is kept -/
def Kp (S : List Addr) (H H1 : Hp) : Prop := ∀ b o, H b = some o → (∀ ps, o ≠ .tbl ps) → b ∉ S → H1 b = some o
section
variable {S S' : List Addr} {H H1 H2 : Hp} {a b x j : Addr} {o : HO} {xs : List V} {K : PySem.W.Frag}
theorem Kp.frm (f : Frm S H H1) : Kp S H H1 := fun b o h _ n => f.keep b o h n
theorem Kp.ex (e : Ex H H1) : Kp S H H1 := fun b o h _ _ => e b o h
theorem Kp.ext (e : LamX.ExtN H H1) : Kp S H H1 := fun b o h n _ => e b o h n
theorem Kp.trans (a : Kp S H H1) (b : Kp S H1 H2) : Kp S H H2 := fun c o h n m => b c o (a c o h n m) n m
theorem Kp.mono (a : Kp S H H1) (h : ∀ b ∈ S, b ∈ S') : Kp S' H H1 := fun c o e n m => a c o e n fun z => m (h c z)
/-- a change of what was made since -/
theorem Kp.late (a : Kp S H H1) (f : Kp (x :: S) H1 H2) (h : H x = none) : Kp S H H2 := fun c o e n m => f c o (a c o e n m) n (by
  simp only [List.mem_cons, not_or]
  exact ⟨fun z => (by rw [z, h] at e; cases e), m⟩)
theorem Kp.tup (k : Kp S H H1) (s : Saf H S) (h : H b = some (.tup xs)) : H1 b = some (.tup xs) := k b _ h (fun _ z => by cases z) (s.no h rfl)
theorem Kp.lst (k : Kp S H H1) (h : H b = some (.lst xs)) (hb : b ∉ S) : H1 b = some (.lst xs) := k b _ h (fun _ z => by cases z) hb
theorem RpV.kp {v : V} {r : Nat × Bool} (h : RpV H v r) (k : Kp S H H1) (s : Saf H S) : RpV H1 v r := let ⟨a, e, x⟩ := h; ⟨a, e, k.tup s x⟩
theorem RpT.kp {rs : List (Nat × Bool)} (h : RpT H a rs) (k : Kp S H H1) (s : Saf H S) : RpT H1 a rs := let ⟨vs, x, y⟩ := h; ⟨vs, k.tup s x, Paired.imp2 (fun _ _ z => z.kp k s) y⟩
theorem TI.kp {ns : List Int} (h : TI H a ns) (k : Kp S H H1) (s : Saf H S) : TI H1 a ns := k.tup s h
theorem ps_kp {vs : List V} {pss : List (List Int)} (h : Paired (IsP H) vs pss) (k : Kp S H H1) (s : Saf H S) : Paired (IsP H1) vs pss := Paired.imp2 (fun _ _ ⟨a, e, z⟩ => ⟨a, e, k.tup s z⟩) h
theorem PsT.kp {pss : List (List Int)} (h : PsT H a pss) (k : Kp S H H1) (s : Saf H S) : PsT H1 a pss := let ⟨vs, x, y⟩ := h; ⟨vs, k.tup s x, ps_kp y k s⟩
theorem kp_ins {C dx : Addr} {fs : List (Str × V)} (k : Kp S H H1) (h : H b = some (.ins C dx fs)) (hb : b ∉ S) : H1 b = some (.ins C dx fs) := k b _ h (fun _ z => by cases z) hb
theorem MAt.kp {C m l : Addr} {n : Nat} {st : Mst} (h : MAt C H m l n st) (k : Kp S H H1) (s : Saf H S) : MAt C H1 m l n st := by
  obtain ⟨dx, ca, cr, hd, h1, h2, h3, h4⟩ := h.ex
  exact ⟨dx, ca, cr, hd, kp_ins k h1 (s.no h1 kp_M), h2.kp k s, h3.kp k s, h4.kp k s⟩
theorem LAt.kp {C l : Addr} {tx : Str} {ws es : List Wd} (h : LAt C H l tx ws es) (k : Kp S H H1) (s : Saf H S) : LAt C H1 l tx ws es := by
  obtain ⟨dx, r, e, h1, h2, h3⟩ := h.ex
  exact ⟨dx, r, e, kp_ins k h1 (s.no h1 kp_P), k.tup s h2, k.tup s h3⟩
theorem OAt.kp {o l : Addr} {n : Nat} {ws es : List Wd} {rs : List (Nat × Bool)} {bv : V} (h : OAt K H o l n ws es rs bv) (k : Kp S H H1) (s : Saf H S) : OAt K H1 o l n ws es rs bv := by
  obtain ⟨dx, a, m, h1, h2, h3⟩ := h
  exact ⟨dx, a, m, kp_ins k h1 (s.no h1 kp_O), h2.kp k s, h3.kp k s⟩
theorem Ch.kp {l : Addr} {n : Nat} {ws es : List Wd} (k : Kp S H H1) (s : Saf H S) : ∀ {rr : List (Nat × Bool)} {o : Addr}, Ch K H l n ws es rr o → Ch K H1 l n ws es rr o
  | [], _, h => OAt.kp h k s
  | _ :: _, _, h => let ⟨o', h1, h2⟩ := h; ⟨o', h1.kp k s, Ch.kp k s h2⟩
theorem RAt.kp {l : Addr} {n : Nat} {ws es : List Wd} {rs : List (Nat × Bool)} (h : RAt K H x l n ws es rs) (k : Kp S H H1) (s : Saf H S) (hx : x ∉ S) : RAt K H1 x l n ws es rs := by
  obtain ⟨dx, o, a, hd, cr, h1, h2, h3, h4, h5⟩ := h.ex
  exact ⟨dx, o, a, hd, cr, kp_ins k h1 hx, h2.kp k s, h3.kp k s, h4.kp k s, h5.kp k s⟩
theorem RAt.sx {l : Addr} {n : Nat} {ws es : List Wd} {rs : List (Nat × Bool)} (h : RAt K H x l n ws es rs) : Saf H [x] := by
  obtain ⟨dx, o, a, hd, cr, h1, _⟩ := h.ex
  exact Saf.one h1 kp_R
theorem RAt.ne {l : Addr} {n : Nat} {ws es : List Wd} {rs : List (Nat × Bool)} {u : HO} (h : RAt K H x l n ws es rs) (hb : H b = some u) (hu : ∀ C dx fs, u ≠ .ins C dx fs) : b ≠ x := by
  obtain ⟨dx, o, a, hd, cr, h1, _⟩ := h.ex
  exact ne_of hb h1 (hu _ _ _)
theorem Saf.two (h1 : Saf H [a]) (h2 : Saf H [b]) : Saf H [a, b] := fun c hc o h => by
  rcases List.mem_cons.mp hc with rfl | hc
  · exact h1 c (by simp) o h
  · exact h2 c hc o h
theorem TabS.frm {P : Addr} {q : Str} (h : LamX.TabS H P q) (f : Frm S H H1) (s : Saf H S) : LamX.TabS H1 P q := by
  obtain ⟨ps, h1, h2, h3⟩ := h
  refine ⟨ps, f.keep _ _ h1 (s.no h1 rfl), h2, fun pos cv hc => ?_⟩
  obtain ⟨c, e1, e2⟩ := h3 pos cv hc
  exact ⟨c, e1, f.keep _ _ e2 (s.no e2 rfl)⟩
theorem TabS.ex {P : Addr} {q : Str} (h : LamX.TabS H P q) (e : Ex H H1) : LamX.TabS H1 P q := h.ext e
end
/-- a box of the law, away from the jar -/
def BJ (j : Addr) (H : Hp) (b : Addr) (st : Mst) : Prop := ∃ r o, b ≠ j ∧ r ≠ j ∧ o ≠ j ∧ H b = some (.dK (bfl r o st.got st.over)) ∧ LI H r st.rest ∧ PsL H o st.out
theorem BJ.bw {j : Addr} {H : Hp} {b : Addr} {st : Mst} (h : BJ j H b st) : BW H b st := let ⟨r, o, _, _, _, h1, h2, h3⟩ := h; ⟨r, o, h1, h2, h3⟩
theorem BN.bj {j : Addr} {H0 H : Hp} {b : Addr} {st : Mst} (h : BN H0 H b st) (hj : JAt H0 j) : BJ j H b st := let ⟨r, o, n1, n2, n3, h1, h2, h3⟩ := h; ⟨r, o, Ne.symm (hj.ne n1), Ne.symm (hj.ne n2), Ne.symm (hj.ne n3), h1, h2, h3⟩
theorem BJ.kp {j x : Addr} {H H1 : Hp} {b : Addr} {st : Mst} (h : BJ j H b st) (k : Kp [j, x] H H1) (s : Saf H [j, x]) (hx : ∃ C dx fs, H x = some (.ins C dx fs)) : BJ j H1 b st := by
  obtain ⟨r, o, n1, n2, n3, h1, h2, vs, h3, h4⟩ := h
  obtain ⟨C, dx, fs, hx⟩ := hx
  have ne : ∀ {c u}, H c = some u → (∀ C dx fs, u ≠ .ins C dx fs) → c ≠ j → c ∉ [j, x] := fun hc hu hj => by
    simp only [List.mem_cons, List.not_mem_nil, or_false, not_or]
    exact ⟨hj, ne_of hc hx (hu _ _ _)⟩
  exact ⟨r, o, n1, n2, n3, k _ _ h1 (fun _ z => by cases z) (ne h1 (fun _ _ _ z => by cases z) n1), k.lst h2 (ne h2 (fun _ _ _ z => by cases z) n2), vs, k.lst h3 (ne h3 (fun _ _ _ z => by cases z) n3), ps_kp h4 k s⟩
/-- what stands through all the turns -/
structure RB (K : PySem.W.Frag) (H0 : Hp) (P : Addr) (q : Str) (j md l x bg en : Addr) (ws es : List Wd) (H : Hp) : Prop where
  kp : Kp [j] H0 H
  fx : H0 x = none
  ja : JAt H j
  tb : LamX.TabS H P q
  hmd : H md = some (.tup [.ref bg, .ref en])
  hbg : H bg = some (.lst (.str "ask" :: ws.map Wd.v))
  bgj : bg ≠ j
  hen : H en = some (.lst (es.map Wd.v))
  enj : en ≠ j
  lp : LAt (He.ga K "Loop") H l (txtOf ws es) ws es
/-- the law's own lists -/
structure LB (j : Addr) (n : Nat) (ws es : List Wd) (H : Hp) (rs : List (Nat × Bool)) (tl bx : Addr) : Prop where
  tlj : tl ≠ j
  htl : ∃ tv, H tl = some (.lst tv) ∧ Paired (RpV H) tv rs
  bxj : bx ≠ j
  hbx : ∃ bv, H bx = some (.lst bv) ∧ bv.length = rs.length + 1 ∧ ∀ i, i ≤ rs.length → ∃ b, bv[i]? = some (.ref b) ∧ BJ j H b (Mst.fold n ws es (rs.take i))
section
variable {K : PySem.W.Frag} {H0 H H1 : Hp} {P j md l x bg en tl bx : Addr} {q : Str} {n : Nat} {ws es : List Wd} {rs rs' : List (Nat × Bool)}
theorem RB.step (B : RB K H0 P q j md l x bg en ws es H) (R : RAt K H x l n ws es rs) (k : Kp [j, x] H H1) (ja : JAt H1 j) (tb : LamX.TabS H1 P q) : RB K H0 P q j md l x bg en ws es H1 := by
  have s : Saf H [j, x] := B.ja.saf.two R.sx
  have ne : ∀ {c : Addr} {u : HO}, H c = some u → (∀ C dx fs, u ≠ .ins C dx fs) → c ≠ j → c ∉ [j, x] := fun hc hu hj => by
    simp only [List.mem_cons, List.not_mem_nil, or_false, not_or]
    exact ⟨hj, R.ne hc hu⟩
  exact ⟨B.kp.late (k.mono fun b hb => by simp only [List.mem_cons, List.not_mem_nil, or_false] at hb ⊢; exact hb.symm) B.fx, B.fx, ja, tb, k.tup s B.hmd, k.lst B.hbg (ne B.hbg (fun _ _ _ z => by cases z) B.bgj), B.bgj, k.lst B.hen (ne B.hen (fun _ _ _ z => by cases z) B.enj), B.enj, B.lp.kp k s⟩
theorem LB.step (L : LB j n ws es H rs tl bx) (ja : JAt H j) (R : RAt K H x l n ws es rs') (k : Kp [j, x] H H1) : LB j n ws es H1 rs tl bx := by
  have s : Saf H [j, x] := ja.saf.two R.sx
  obtain ⟨tv, t1, t2⟩ := L.htl
  obtain ⟨bv, b1, b2, b3⟩ := L.hbx
  have ne : ∀ {c : Addr} {u : HO}, H c = some u → (∀ C dx fs, u ≠ .ins C dx fs) → c ≠ j → c ∉ [j, x] := fun hc hu hj => by
    simp only [List.mem_cons, List.not_mem_nil, or_false, not_or]
    exact ⟨hj, R.ne hc hu⟩
  refine ⟨L.tlj, ⟨tv, k.lst t1 (ne t1 (fun _ _ _ z => by cases z) L.tlj), Paired.imp2 (fun _ _ z => z.kp k s) t2⟩, L.bxj, bv, k.lst b1 (ne b1 (fun _ _ _ z => by cases z) L.bxj), b2, fun i hi => ?_⟩
  obtain ⟨b, e, h⟩ := b3 i hi
  obtain ⟨dx, o, a, hd, cr, h1, _⟩ := R.ex
  exact ⟨b, e, h.kp k s ⟨_, _, _, h1⟩⟩
/-- all three, the reading where the lists are -/
structure RA (K : PySem.W.Frag) (H0 : Hp) (P : Addr) (q : Str) (j md l x bg en : Addr) (n : Nat) (ws es : List Wd) (rs : List (Nat × Bool)) (tl bx : Addr) (H : Hp) : Prop where
  b : RB K H0 P q j md l x bg en ws es H
  r : RAt K H x l n ws es rs
  s : LB j n ws es H rs tl bx
theorem RAt.nj (R : RAt K H x l n ws es rs) (ja : JAt H j) : x ∉ [j] := by
  obtain ⟨a, b, c, hj⟩ := ja
  have := R.ne hj fun _ _ _ z => by cases z
  simpa using Ne.symm this
theorem RA.step (A : RA K H0 P q j md l x bg en n ws es rs tl bx H) (k : Kp [j] H H1) (ja : JAt H1 j) (tb : LamX.TabS H1 P q) : RA K H0 P q j md l x bg en n ws es rs tl bx H1 :=
  have k2 : Kp [j, x] H H1 := k.mono fun b hb => by simp only [List.mem_cons, List.not_mem_nil, or_false] at hb ⊢; exact .inl hb
  ⟨A.b.step A.r k2 ja tb, A.r.kp k A.b.ja.saf (A.r.nj A.b.ja), A.s.step A.b.ja A.r k2⟩
theorem RA.ex (A : RA K H0 P q j md l x bg en n ws es rs tl bx H) (e : Ex H H1) : RA K H0 P q j md l x bg en n ws es rs tl bx H1 := A.step (.ex e) (A.b.ja.ex e) (TabS.ex A.b.tb e)
theorem RA.jr (A : RA K H0 P q j md l x bg en n ws es rs tl bx H) (r : JR j H H1) : RA K H0 P q j md l x bg en n ws es rs tl bx H1 := A.step (.frm r.1) r.2 (TabS.frm A.b.tb r.1 A.b.ja.saf)
theorem RA.ext (A : RA K H0 P q j md l x bg en n ws es rs tl bx H) (e : LamX.ExtN H H1) (tb : LamX.TabS H1 P q) : RA K H0 P q j md l x bg en n ws es rs tl bx H1 :=
  A.step (.ext e) (let ⟨a, b, c, h⟩ := A.b.ja; ⟨a, b, c, e _ _ h fun _ z => by cases z⟩) tb
/-- the reading has changed -/
theorem RA.rd (A : RA K H0 P q j md l x bg en n ws es rs tl bx H) (f : Frm [x] H H1) (R1 : RAt K H1 x l n ws es rs') : RB K H0 P q j md l x bg en ws es H1 ∧ LB j n ws es H1 rs tl bx := by
  have k2 : Kp [j, x] H H1 := (Kp.frm f).mono fun b hb => by simp only [List.mem_cons, List.not_mem_nil, or_false] at hb ⊢; exact .inr hb
  have xj : j ∉ [x] := by
    have := A.r.nj A.b.ja
    simp only [List.mem_cons, List.not_mem_nil, or_false] at this ⊢
    exact Ne.symm this
  have ja : JAt H1 j := let ⟨a, b, c, h⟩ := A.b.ja; ⟨a, b, c, f.keep _ _ h xj⟩
  exact ⟨A.b.step A.r k2 ja (TabS.frm A.b.tb f A.r.sx), A.s.step A.b.ja A.r k2⟩
end
theorem atI_m1 {xs : List V} {v : V} (h : xs[xs.length - 1]? = some v) : atI xs (-1) = some v := by
  have hl : xs.length - 1 < xs.length := (List.getElem?_eq_some_iff.mp h).1
  unfold atI ixN
  rw [if_neg (by decide), if_pos (by omega)]
  show xs[((-1 : Int) + (xs.length : Int)).toNat]? = some v
  rw [show ((-1 : Int) + (xs.length : Int)).toNat = xs.length - 1 by omega]
  exact h
theorem cutV_m1 {xs : List V} : cutV xs none (some (-1)) = xs.dropLast := by
  unfold cutV
  have h1 : HT.sIx xs.length 0 none = 0 := rfl
  have h2 : HT.sIx xs.length xs.length (some (-1)) = xs.length - 1 := by
    show (if (-1 : Int) < 0 then ((-1 : Int) + (xs.length : Int)).toNat else min (-1 : Int).toNat xs.length) = _
    rw [if_pos (by decide)]
    omega
  rw [h1, h2, List.drop_zero, Nat.sub_zero, List.dropLast_eq_take]
theorem Paired.tk {α β : Type} {F : α → β → Prop} : ∀ {l : List α} {m : List β} (k : Nat), Paired F l m → Paired F (l.take k) (m.take k)
  | _, _, 0, _ => by rw [List.take_zero, List.take_zero]; exact .nil
  | _, _, k + 1, .nil => .nil
  | _, _, k + 1, .cons r t => .cons r (Paired.tk k t)
theorem Paired.dl {α β : Type} {F : α → β → Prop} {l : List α} {m : List β} (h : Paired F l m) : Paired F l.dropLast m.dropLast := by
  rw [List.dropLast_eq_take, List.dropLast_eq_take, Paired.len h]
  exact Paired.tk _ h
end LS
end
-- text Lm
section
set_option maxHeartbeats 4000000
/-! The law's right: a turn's pieces. -/
namespace LS
open PySem PySem.Spec PyProof.Rows L2 Evl
def qLam : Str := (envOfC "_law_right" (defScope (top 56)) 0 0 .none).qual ++ "<lambda>"
abbrev sg (j md : Addr) (n : Nat) (l x tl bx : Addr) (v7 v8 v9 v10 v11 : Option V) : L2.St := [some (.ref j), some (.ref md), some (.int n), some (.ref l), some (.ref x), some (.ref tl), some (.ref bx), v7, v8, v9, v10, v11]
section
variable {K : PySem.W.Frag} {σ : L2.St} {H : Hp} {ta tb : TE} {tt : TT} {tu tz : TS} {D : Ends} {Q : VK} {xs : List V}
theorem el_if {b : Bool} (h : EvT tt σ H b) (h1 : b = true → EvL ta σ H xs) (h2 : b = false → EvL tb σ H xs) : EvL (tIf tt ta tb) σ H xs := fun H1 e1 Q q => h H1 e1 _ fun H2 e2 => by
  cases b with
  | true => exact iteT (h1 rfl H2 (e1.trans e2) Q fun p H3 np e3 hp => q p H3 (fresh_back e2 np) (e2.trans e3) hp)
  | false => exact iteF (h2 rfl H2 (e1.trans e2) Q fun p H3 np e3 hp => q p H3 (fresh_back e2 np) (e2.trans e3) hp)
theorem q_ifR (h : tt σ H fun b H1 => if b = true then tu { D with nx := tz D } σ H1 else tz D σ H1) : tSeq (tIfS tt tu tNext) tz D σ H := h
theorem s_ifR (h : tt σ H fun b H1 => if b = true then tu D σ H1 else D.nx σ H1) : tIfS tt tu tNext D σ H := h
theorem t_test (h : ta σ H fun x H1 => ∃ k, x = .bl k ∧ (if k = true then tu { D with nx := tz D } σ H1 else tz D σ H1)) : tTest ta σ H (fun b H1 => if b = true then tu { D with nx := tz D } σ H1 else tz D σ H1) := h
theorem ne_fin {v u : V} {d : PyData} {k : Nat} {W Z : Hp → Prop} (h1 : Dp K H v d) (h2 : Dp K H u d) (hf : Fd k d) (h : Z H) (hk : k ≤ 64 := by decide) : rNeD K v u H fun z H3 => ∃ b, z = .bl b ∧ (if b = true then W H3 else Z H3) :=
  ⟨d, d, h1, h2, hf.sh hk, hf.sh hk, false, by rw [SeqAt.eqv_refl d hf.1]; rfl, iteF h⟩
end
abbrev CEch (K : PySem.W.Frag) (Q : VK) : XK := fun cls d H' => (cls = .ref (He.ga K "NothingToUndo") ∧ d = none ∧ ∀ p H2, Ex H' H2 → H2 p = some (.lst [.str "NothingToUndo", .bl true]) → Q (.ref p) H2) ∨ (cls = .ref (He.ga K "Stopped") ∧ d = none ∧ ∀ p H2, Ex H' H2 → H2 p = some (.lst [.str "Stopped", .bl true]) → Q (.ref p) H2)
abbrev CCont (Q : VK) : VK := fun v H' => ∃ v', (some (some v) : Option (Option V)) = some (some v') ∧ [V.str "given", v'].length ≤ sizeLine ∧ ∀ p, H' p = none → Q (.ref p) (upd H' p (.lst [.str "given", v']))
theorem came_go {K : PySem.W.Frag} {tl : XK → Hp → VK → Prop} {H : Hp} {Q : VK} (h : tl (CEch K Q) H (CCont Q)) : TTcame K tl H Q := h
theorem ccont {Q : VK} {v : V} {H : Hp} (h : ∀ p H2, Ex H H2 → H2 p = some (.lst [.str "given", v]) → Q (.ref p) H2) : CCont Q v H := ⟨v, rfl, sz_of (by show 2 ≤ 100000; decide), fun p np => h p _ (Ex.new np) upd_same⟩
abbrev tLamU (K : PySem.W.Frag) (PT : Addr) : TE := LamX.tLam [(PT, qLam)] (TTcame K) fun E2 => tMeth (He.ga K "Reading") "undo" (sp_undo K) [] E2 (tVar 4) tNil
abbrev tLamF (K : PySem.W.Frag) (PT : Addr) : TE := LamX.tLam [(PT, qLam)] (TTcame K) fun E2 => tMeth (He.ga K "Reading") "feed" (sp_take K) [] E2 (tVar 4) (tCons (tVar 9) (tCons (tVar 10) tNil))
abbrev tDueU (K : PySem.W.Frag) : TE := tIf (tTest (tOp (rNeD K) (tVar 5) (tLst tNil))) (tLst (tCons (tC (.str "given")) (tCons (tC .non) tNil))) (tLst (tCons (tC (.str "NothingToUndo")) (tCons (tC (.bl true)) tNil)))
abbrev tM1 : TE := tUn (rU fun i => .int (-i)) (tC (.int 1))
abbrev tU (K : PySem.W.Frag) (PT : Addr) : TS := tSeq (tAsg (tDueU K) (gName 8)) (tSeq (tIfS (tTest (tOp (rNeD K) (tLamU K PT) (tVar 8))) (tRet (tC (.bl false))) tNext)
  (tPar 5 6 (tCons (tSl (rSlL K) (tVar 5) tNoPart (tPart tM1)) (tCons (tSl (rSlL K) (tVar 6) tNoPart (tPart (tCB rMax2 (tCons (tC (.int 1)) (tCons (tOp (rI0 fun i j => .int (i - j)) (tCB (rLenS K) (tCons (tVar 6) tNil)) (tC (.int 1))) tNil))))) tNil))))
section
variable {P : Program} {w : World} {K : PySem.W.Frag} {mg : Str → Option Value} {base : Heap} {H0 H : Hp} {PT j md l x bg en tl bx : Addr} {n : Nat} {ws es : List Wd} {rs : List (Nat × Bool)} {v7 v8 v9 v10 v11 : Option V} {D : Ends}
theorem tabs1 (h : LamX.TabS H PT qLam) : LamX.Tabs [(PT, qLam)] H := fun p hp => by rw [List.mem_singleton.mp hp]; exact h
theorem of_tabs1 (h : LamX.Tabs [(PT, qLam)] H) : LamX.TabS H PT qLam := h _ (List.mem_singleton.mpr rfl)
theorem rno {o a hd cr : Addr} {ov : Bool} {f : Str} (h : f = "undo" ∨ f = "feed") : (rdl l n o a hd cr ov).lookup f = none := by
  rcases h with rfl | rfl <;> exact rk_no (by decide +kernel) (by decide +kernel) (by decide +kernel) (by decide +kernel) (by decide +kernel) (by decide +kernel) (by decide +kernel) (by decide +kernel)
theorem two_fd {s : Str} {d : PyData} {k : Nat} (hs : PyData.strOk s = true) (hd : Fd k d) : Fd (k + 1) (.list [.str s, d]) := fd_list fun e h => by
  simp only [List.mem_cons, List.not_mem_nil, or_false] at h
  rcases h with rfl | rfl
  · exact (fd_str hs).mono (Nat.zero_le _)
  · exact hd
theorem dp_two {a : Addr} {s : Str} {v : V} {d : PyData} (h : H a = some (.lst [.str s, v])) (hd : Dp K H v d) : Dp K H (.ref a) (.list [.str s, d]) := .lst (sq_of h) (.cons (.str s) (.cons hd .nil))
theorem right_undo (T : Tx K mg) (A : RA K H0 PT qLam j md l x bg en n ws es rs tl bx H) (ok : ROk n ws es rs)
    (k : ∀ rs' tl' bx' v8' H', rs'.length ≤ rs.length → ROk n ws es rs' → RA K H0 PT qLam j md l x bg en n ws es rs' tl' bx' H' → D.nx (sg j md n l x tl' bx' v7 v8' v9 v10 v11) H') : tU K PT D (sg j md n l x tl bx v7 v8 v9 v10 v11) H := by
  obtain ⟨tv, t1, t2⟩ := A.s.htl
  have tvl := Paired.len t2
  -- the lists after
  have fin : ∀ v8' H5, RB K H0 PT qLam j md l x bg en ws es H5 → RAt K H5 x l n ws es rs.dropLast → LB j n ws es H5 rs tl bx → tPar 5 6 (tCons (tSl (rSlL K) (tVar 5) tNoPart (tPart tM1)) (tCons (tSl (rSlL K) (tVar 6) tNoPart (tPart (tCB rMax2 (tCons (tC (.int 1)) (tCons (tOp (rI0 fun i j => .int (i - j)) (tCB (rLenS K) (tCons (tVar 6) tNil)) (tC (.int 1))) tNil))))) tNil)) D (sg j md n l x tl bx v7 v8' v9 v10 v11) H5 := by
    intro v8' H5 B R L
    obtain ⟨tv, t1, t2⟩ := L.htl
    obtain ⟨bv, b1, b2, b3⟩ := L.hbx
    refine s_par (k_cons (el_sl (ev_var rfl) eo_none (eo_some (ev_un ev_c ru_neg)) (sq_of t1) H5 (Ex.refl _) _ fun tl' H6 n6 e6 h6 => k_cons (el_sl (ev_var rfl) eo_none (eo_some (ev_max2 ev_c (ev_I0 (ev_len (ev_var rfl) (sq_of (e6 _ _ b1))) ev_c))) (sq_of (e6 _ _ b1)) H6 (Ex.refl _) _ fun bx' H7 n7 e7 h7 => ⟨_, _, rfl, ?_⟩)))
    have h6 : H6 tl' = some (.lst tv.dropLast) := by rw [h6]; exact congrArg (fun z => some (HO.lst z)) cutV_m1
    obtain ⟨m, hm, hm1, hm2⟩ : ∃ m : Nat, (if ((bv.length : Nat) : Int) - 1 > 1 then ((bv.length : Nat) : Int) - 1 else 1) = (m : Int) ∧ m = rs.dropLast.length + 1 ∧ m ≤ bv.length := by
      rw [List.length_dropLast]
      by_cases h : ((bv.length : Nat) : Int) - 1 > 1
      · exact ⟨rs.length, by rw [if_pos h]; omega, by omega, by omega⟩
      · exact ⟨1, by rw [if_neg h]; rfl, by omega, by omega⟩
    rw [hm, cutV_to] at h7
    have e57 := e6.trans e7
    refine k rs.dropLast tl' bx' v8' H7 (by rw [List.length_dropLast]; omega) (by rw [List.dropLast_eq_take]; exact ok.take _) ⟨B.step R (Kp.ex e57) (B.ja.ex e57) (TabS.ex B.tb e57), R.kp (S := []) (Kp.ex e57) Saf.nil (by simp), ?_⟩
    refine ⟨Ne.symm (B.ja.ne n6), ⟨_, e7 _ _ h6, LS.Paired.dl (Paired.imp2 (fun _ _ z => z.mono (S := []) (Frm.ex e57)) t2)⟩, Ne.symm ((B.ja.ex e6).ne n7), _, h7, by rw [List.length_take]; omega, fun i hi => ?_⟩
    have hi2 : i ≤ rs.length := by rw [List.length_dropLast] at hi; omega
    obtain ⟨b, hb, hB⟩ := b3 i hi2
    refine ⟨b, by rw [List.getElem?_take_of_lt (by omega)]; exact hb, ?_⟩
    have et : rs.dropLast.take i = rs.take i := by
      rw [List.length_dropLast] at hi
      rw [List.dropLast_eq_take, List.take_take, Nat.min_eq_left (by omega)]
    rw [et]
    obtain ⟨dx, o, a, hd, cr, hx, _⟩ := R.ex
    exact hB.kp (Kp.ex e57) (B.ja.saf.two R.sx) ⟨_, _, _, hx⟩
  by_cases hrs : rs = []
  · refine q_asgL (el_if (b := false) (et_is (et_test (ev_neNil (ev_var rfl) t1 (fun H1 e1 => dp_rs (Paired.imp2 (fun _ _ z => z.mono (S := []) (Frm.ex e1)) t2)) (rsl_fd rs))) (by rw [hrs] at tvl; rw [List.length_eq_zero_iff.mp tvl]; rfl)) (fun z => by cases z) (fun _ => el_lst (ea_cons ev_c (ea_cons ev_c ea_nil)) (by show 2 ≤ 100000; decide))) fun du H1 nd e1 hd => ?_
    have A1 := A.ex e1
    refine q_ifR (t_test (k_op ⟨tabs1 A1.b.tb, fun H2 eN T2 => came_go ?_⟩))
    have A2 := A1.ext eN (of_tabs1 T2)
    have hd2 := eN _ _ hd fun _ z => by cases z
    obtain ⟨dx, o, a, hdd, cr, hx, _⟩ := A2.r.ex
    refine k_meth0 (ev_var rfl) hx (rno (.inl rfl)) fun H3 e3 => ⟨x, l, n, ws, es, rs, rfl, (A2.ex e3).r, fun _ H4 e4 => .inl ⟨rfl, rfl, fun p H5 e5 hp => ⟨_, rfl, ?_⟩⟩, fun z => absurd hrs z⟩
    have e25 := (e3.trans e4).trans e5
    have A5 := A2.ex e25
    refine ne_fin (dp_two hp (.bl true)) (dp_two (e25 _ _ hd2) (.bl true)) (two_fd (by decide +kernel) fd_bool) (fin _ H5 A5.b ?_ A5.s)
    rw [hrs]
    have := A5.r
    rw [hrs] at this
    exact this
  · refine q_asgL (el_if (b := true) (et_is (et_test (ev_neNil (ev_var rfl) t1 (fun H1 e1 => dp_rs (Paired.imp2 (fun _ _ z => z.mono (S := []) (Frm.ex e1)) t2)) (rsl_fd rs))) (by rw [decide_eq_false fun z => hrs (List.length_eq_zero_iff.mp (by rw [← tvl, z]; rfl))]; rfl)) (fun _ => el_lst (ea_cons ev_c (ea_cons ev_c ea_nil)) (by show 2 ≤ 100000; decide)) (fun z => by cases z)) fun du H1 nd e1 hd => ?_
    have A1 := A.ex e1
    refine q_ifR (t_test (k_op ⟨tabs1 A1.b.tb, fun H2 eN T2 => came_go ?_⟩))
    have A2 := A1.ext eN (of_tabs1 T2)
    have hd2 := eN _ _ hd fun _ z => by cases z
    obtain ⟨dx, o, a, hdd, cr, hx, _⟩ := A2.r.ex
    refine k_meth0 (ev_var rfl) hx (rno (.inl rfl)) fun H3 e3 => ⟨x, l, n, ws, es, rs, rfl, (A2.ex e3).r, fun z => absurd z hrs, fun _ H4 f4 R4 => ccont fun p H5 e5 hp => ⟨_, rfl, ?_⟩⟩
    have A3 := A2.ex e3
    obtain ⟨B4, L4⟩ := A3.rd f4 R4
    have hd3 := e3 _ _ hd2
    have hdx : du ≠ x := A3.r.ne hd3 fun _ _ _ z => by cases z
    have hd4 := f4.keep _ _ hd3 (by simpa using hdx)
    refine ne_fin (dp_two hp .non) (dp_two (e5 _ _ hd4) .non) (two_fd (by decide +kernel) fd_non) (fin _ H5 (B4.step R4 (Kp.ex e5) (B4.ja.ex e5) (TabS.ex B4.tb e5)) (R4.kp (S := []) (Kp.ex e5) Saf.nil (by simp)) (L4.step B4.ja R4 (Kp.ex e5)))
end
end LS
end
-- text Ln
section
set_option maxHeartbeats 4000000
/-! The law's right: a turn that feeds; the look at the end of a turn. -/
namespace LS
open PySem PySem.Spec PyProof.Rows L2 Evl
theorem t_testS {σ : L2.St} {H : Hp} {ta : TE} {tu : TS} {D : Ends} (h : ta σ H fun x H1 => ∃ k, x = .bl k ∧ (if k = true then tu D σ H1 else D.nx σ H1)) : tTest ta σ H (fun b H1 => if b = true then tu D σ H1 else D.nx σ H1) := h
abbrev tBx (K : PySem.W.Frag) : TE := tOp (rIxL K) (tVar 6) tM1
abbrev rTup (K : PySem.W.Frag) : List V → Hp → VK → Prop := fun xs H Q => ∃ p ys, xs = [.ref p] ∧ ((SqL K H p ys ∧ ∀ l, H l = none → Q (.ref l) (upd H l (.tup ys))) ∨ (SqT K H p ys ∧ Q (.ref p) H))
abbrev tF (K : PySem.W.Frag) (PT : Addr) : TS := tSeq (tAsg (tOp (rIxL K) (tCall sp_l_tale [] E0 (tCons (tVar 0) (tCons (tVar 2) (tCons (tC (.int 1)) tNil)))) (tC (.int 0))) (gTup K 2 (gCons (gName 9) (gCons (gName 10) gNil))))
  (tSeq (tAsg (tLst (tCons (tC (.str "Stopped")) (tCons (tC (.bl true)) tNil))) (gName 8))
  (tSeq (tIfS (tNot (tB (tDGet (tBx K) (tC (.str "over")))))
    (tSeq (tAsg (tCall sp_l_fed [] E0 (tCons (tVar 1) (tCons (tBx K) (tCons (tVar 9) (tCons (tVar 10) (tCons (tVar 2) tNil)))))) (gName 11))
    (tSeq (tAsg (tLst (tCons (tC (.str "given")) (tCons (tCB (rTup K) (tCons (tSl (rSlL K) (tDGet (tVar 11) (tC (.str "out"))) (tPart (tCB (rLenS K) (tCons (tDGet (tBx K) (tC (.str "out"))) tNil))) tNoPart) tNil)) tNil))) (gName 8))
      (tPar 5 6 (tCons (tOp rCat (tVar 5) (tLst (tCons (tTup (tCons (tVar 9) (tCons (tVar 10) tNil))) tNil))) (tCons (tOp rCat (tVar 6) (tLst (tCons (tVar 11) tNil))) tNil))))) tNext)
  (tIfS (tTest (tOp (rNeD K) (tLamF K PT) (tVar 8))) (tRet (tC (.bl false))) tNext)))
section
variable {K : PySem.W.Frag} {mg : Str → Option Value} {H0 H : Hp} {PT j md l x bg en tl bx : Addr} {n : Nat} {ws es : List Wd} {rs : List (Nat × Bool)} {v7 v8 v9 v10 v11 : Option V} {D : Ends}
theorem bx_last (L : LB j n ws es H rs tl bx) : ∃ bv b, H bx = some (.lst bv) ∧ bv.length = rs.length + 1 ∧ atI bv (-1) = some (.ref b) ∧ BJ j H b (Mst.fold n ws es rs) ∧ (∀ i, i ≤ rs.length → ∃ b, bv[i]? = some (.ref b) ∧ BJ j H b (Mst.fold n ws es (rs.take i))) := by
  obtain ⟨bv, b1, b2, b3⟩ := L.hbx
  obtain ⟨b, hb, hB⟩ := b3 rs.length (Nat.le_refl _)
  rw [List.take_length] at hB
  exact ⟨bv, b, b1, b2, atI_m1 (by rw [b2]; exact hb), hB, b3⟩
theorem right_feed (T : Tx K mg) (A : RA K H0 PT qLam j md l x bg en n ws es rs tl bx H) (ok : ROk n ws es rs) (hl : rs.length < 16) (lok : LOk ws es) (hn : 1 ≤ n) (h8 : n ≤ 8)
    (k : ∀ rs' tl' bx' v8' v9' v10' v11' H', rs'.length ≤ rs.length + 1 → ROk n ws es rs' → RA K H0 PT qLam j md l x bg en n ws es rs' tl' bx' H' → D.nx (sg j md n l x tl' bx' v7 v8' v9' v10' v11') H') : tF K PT D (sg j md n l x tl bx v7 v8 v9 v10 v11) H := by
  refine q_asgG (k_op (k_call (ea_cons (ev_var rfl) (ea_cons (ev_var rfl) (ea_cons ev_c ea_nil))) fun H1 e1 => ⟨j, n, rfl, A.b.ja.ex e1, hn, h8, fun p q c t H2 r2 hp hq hc => k_ev ev_c fun H3 e3 => ⟨p, _, 0, .ref q, rfl, rfl, sq_of (e3 _ _ hp), rfl, q, _, rfl, st_of (e3 _ _ hq), rfl, _, _, rfl, _, _, rfl, rfl, ?_⟩⟩))
  have A3 := ((A.ex e1).jr r2).ex e3
  show tSeq _ _ D (sg j md n l x tl bx v7 v8 (some (.int c)) (some (.bl t)) v11) H3
  refine q_asgL (el_lst (ea_cons ev_c (ea_cons ev_c ea_nil)) (by show 2 ≤ 100000; decide)) fun du H4 nd e4 hd => ?_
  have A4 := A3.ex e4
  obtain ⟨bv, b, b1, b2, b3, hB, b5⟩ := bx_last A4.s
  obtain ⟨r0, o0, _, _, _, q1, q2, ov, q3, q4⟩ := hB
  have hbx : ∀ {σ : L2.St} {H5}, σ[6]? = some (some (.ref bx)) → Ex H4 H5 → Ev (tBx K) σ H5 (.ref b) := fun hs e => ev_ixL (ev_var hs) (ev_un ev_c ru_neg) (sq_of (e _ _ b1)) b3
  cases hov : (Mst.fold n ws es rs).over with
  | true =>
    refine q_skip (et_is (et_not (et_B (ev_dg (hbx rfl (Ex.refl _)) q1 bv_over))) (by rw [hov]; rfl)) fun H5 e5 => ?_
    have A5 := A4.ex e5
    refine s_ifR (t_testS (k_op ⟨tabs1 A5.b.tb, fun H6 eN T2 => came_go ?_⟩))
    have A6 := A5.ext eN (of_tabs1 T2)
    have hd6 := eN _ _ (e5 _ _ hd) fun _ z => by cases z
    obtain ⟨dx, o, a, hdd, cr, hx, _⟩ := A6.r.ex
    refine k_meth (ev_var rfl) hx (rno (.inr rfl)) (ea_cons (ev_var rfl) (ea_cons (ev_var rfl) ea_nil)) fun H7 e7 => ⟨x, l, n, txtOf ws es, ws, es, rs, c, t, rfl, (A6.ex e7).r, (A6.ex e7).b.lp, lok, hn, h8, hc, hl, ok, fun _ H8 e8 => .inr ⟨rfl, rfl, fun p H9 e9 hp => ⟨_, rfl, ?_⟩⟩, fun z => by rw [hov] at z; cases z⟩
    have e69 := (e7.trans e8).trans e9
    exact ne_fin (dp_two hp (.bl true)) (dp_two (e69 _ _ hd6) (.bl true)) (two_fd (by decide +kernel) fd_bool) (k rs tl bx _ _ _ _ H9 (by omega) ok (A6.ex e69))
  | false =>
    refine q_yes (et_is (et_not (et_B (ev_dg (hbx rfl (Ex.refl _)) q1 bv_over))) (by rw [hov]; rfl)) fun H5 e5 => ?_
    have A5 := A4.ex e5
    obtain ⟨z1, z2, z3⟩ := ok.sz hn h8 lok
    have l1 := lok.l1
    have l2 := lok.l2
    have bb : (ws.length + es.length + 2) * (c + 1) ≤ 12 * 9 := Nat.mul_le_mul (by omega) (by omega)
    have hB4 : BW H4 b (Mst.fold n ws es rs) := ⟨r0, o0, q1, q2, ov, q3, q4⟩
    refine q_setV (k_call (ea_cons (ev_var rfl) (ea_cons (hbx rfl e5) (ea_cons (ev_var rfl) (ea_cons (ev_var rfl) (ea_cons (ev_var rfl) ea_nil))))) fun H6 e6 => ⟨md, bg, en, b, ws, es, _, c, t, n, rfl, (A5.ex e6).b.hmd, (A5.ex e6).b.hbg, (A5.ex e6).b.hen, hB4.ex (e5.trans e6), hov, z2, by omega, hn, h8, by omega, fun af H7 e7 Baf => ?_⟩)
    rw [← Mst.fold_snoc (r := (c, t))] at Baf
    have A7 := (A5.ex e6).ex e7
    have e47 := (e5.trans e6).trans e7
    have Bj := Baf.bj (A5.ex e6).b.ja
    obtain ⟨r1, o1, m1, m2, m3, y1, y2, ov1, y3, y4⟩ := Bj
    show tSeq _ _ _ (sg j md n l x tl bx v7 (some (.ref du)) (some (.int c)) (some (.bl t)) (some (.ref af))) H7
    refine q_setV (k_lst (k_cons (k_ev ev_c fun H8 e8 => k_cons (eu_tupL (xs := ov1.drop ov.length) (by
      have := el_sl (K := K) (te := tDGet (tVar 11) (tC (.str "out"))) (tl := tPart (tCB (rLenS K) (tCons (tDGet (tBx K) (tC (.str "out"))) tNil))) (th := tNoPart) (σ := sg j md n l x tl bx v7 (some (.ref du)) (some (.int c)) (some (.bl t)) (some (.ref af))) (H := H8) (lo := some ((ov.length : Nat) : Int)) (hi := none) (xs := ov1)
        (ev_dg (ev_var rfl) (e8 _ _ y1) bv_out) (eo_some (ev_len (ev_dg (hbx rfl (e47.trans e8)) ((e47.trans e8) _ _ q1) bv_out) (sq_of ((e47.trans e8) _ _ q3)))) eo_none (sq_of (e8 _ _ y3))
      rw [cutV_from] at this
      exact this) H8 (Ex.refl _) _ fun pt H9 np e9 hpt => ⟨sz_of (by show 2 ≤ 100000; decide), fun du2 nd2 => ?_⟩))))
    have e79 := e8.trans e9
    have hdu2 : (upd H9 du2 (.lst [.str "given", .ref pt])) du2 = some (.lst [.str "given", .ref pt]) := upd_same
    have e10 : Ex H9 (upd H9 du2 (.lst [.str "given", .ref pt])) := Ex.new nd2
    show tPar _ _ _ _ (sg j md n l x tl bx v7 (some (.ref du2)) (some (.int c)) (some (.bl t)) (some (.ref af))) (upd H9 du2 (.lst [.str "given", .ref pt]))
    revert e10 hdu2
    generalize upd H9 du2 _ = H10
    intro hdu2 e10
    have e7_10 := e79.trans e10
    have A10 := A7.ex e7_10
    obtain ⟨tv, t1, t2⟩ := A10.s.htl
    have tvl := Paired.len t2
    have e4_10 := e47.trans e7_10
    refine s_par (k_cons (k_catTup (ev_var rfl) t1 (fun H11 e11 => eu_tup (ea_cons (ev_var rfl) (ea_cons (ev_var rfl) ea_nil)) (by show 2 ≤ 100000; decide)) (by omega) fun tl' rp H11 n11 e11 hrp htl' => k_cons (el_cat (ev_var rfl) (e11 _ _ (e4_10 _ _ b1)) (el_lst (ea_cons (ev_var rfl) ea_nil) (by show 1 ≤ 100000; decide)) (by rw [b2]; show _ + 1 ≤ _; omega) H11 (Ex.refl _) _ fun bx' H12 n12 e12 hbx' => ⟨_, _, rfl, ?_⟩)))
    have e10_12 := e11.trans e12
    have e4_12 := e4_10.trans e10_12
    have rok' : ROk n ws es (rs ++ [(c, t)]) := rs_snoc ok hl hc hov
    obtain ⟨dx4, ox4, ax4, hdx4, crx4, hx4, _⟩ := A4.r.ex
    have L12 : LB j n ws es H12 (rs ++ [(c, t)]) tl' bx' := by
      refine ⟨Ne.symm (A10.b.ja.ne n11), ⟨_, e12 _ _ htl', LS.Paired.app (Paired.imp2 (fun _ _ z => z.mono (S := []) (Frm.ex e10_12)) t2) (.cons ⟨rp, rfl, e12 _ _ hrp⟩ .nil)⟩, Ne.symm ((A10.b.ja.ex e11).ne n12), _, hbx', by rw [List.length_append, List.length_append, b2]; rfl, fun i hi => ?_⟩
      rw [List.length_append] at hi
      have hi : i ≤ rs.length + 1 := hi
      rcases Nat.lt_or_eq_of_le hi with h | h
      · obtain ⟨b', hb', hB'⟩ := b5 i (by omega)
        refine ⟨b', by rw [List.getElem?_append_left (by omega)]; exact hb', ?_⟩
        rw [List.take_append_of_le_length (by omega)]
        exact hB'.kp (Kp.ex e4_12) (A4.b.ja.saf.two A4.r.sx) ⟨_, _, _, hx4⟩
      · refine ⟨af, by rw [h, List.getElem?_append_right (by omega), b2, Nat.sub_self]; rfl, ?_⟩
        rw [h, List.take_of_length_le (by rw [List.length_append]; exact Nat.le_refl _)]
        have e7_12 := e7_10.trans e10_12
        obtain ⟨dx7, ox7, ax7, hdx7, crx7, hx7, _⟩ := A7.r.ex
        exact BJ.kp ⟨r1, o1, m1, m2, m3, y1, y2, ov1, y3, y4⟩ (Kp.ex e7_12) (A7.b.ja.saf.two A7.r.sx) ⟨_, _, _, hx7⟩
    have A12 := A10.ex e10_12
    have hdu12 := e10_12 _ _ hdu2
    have hpt12 := (e10.trans e10_12) _ _ hpt
    have y4' : Paired (IsP H12) (ov1.drop ov.length) ((Mst.fold n ws es (rs ++ [(c, t)])).out.drop (Mst.fold n ws es rs).out.length) := by
      rw [← Paired.len q4]
      exact ps_mono (S := []) (Paired.drp _ y4) (Frm.ex (e7_10.trans e10_12))
    -- came
    show tIfS (tTest (tOp (rNeD K) (tLamF K PT) (tVar 8))) (tRet (tC (.bl false))) tNext D (sg j md n l x tl' bx' v7 (some (.ref du2)) (some (.int c)) (some (.bl t)) (some (.ref af))) H12
    refine s_ifR (t_testS (k_op ⟨tabs1 A12.b.tb, fun H13 eN T2 => came_go ?_⟩))
    have A13 := A12.ext eN (of_tabs1 T2)
    have K13 : Kp [] H12 H13 := Kp.ext eN
    obtain ⟨dx, o, a, hdd, cr, hx, _⟩ := A13.r.ex
    have L13 : LB j n ws es H13 (rs ++ [(c, t)]) tl' bx' := L12.step A12.b.ja A12.r (Kp.ext eN)
    have hd13 := eN _ _ hdu12 fun _ z => by cases z
    have hpt13 := eN _ _ hpt12 fun _ z => by cases z
    have y13 := ps_kp y4' K13 Saf.nil
    refine k_meth (ev_var rfl) hx (rno (.inr rfl)) (ea_cons (ev_var rfl) (ea_cons (ev_var rfl) ea_nil)) fun H14 e14 => ⟨x, l, n, txtOf ws es, ws, es, rs, c, t, rfl, (A13.ex e14).r, (A13.ex e14).b.lp, lok, hn, h8, hc, hl, ok, fun z => (by rw [hov] at z; cases z), fun _ p H15 f15 R15 hp15 => ccont fun pl H16 e16 hpl => ⟨_, rfl, ?_⟩⟩
    have A14 := A13.ex e14
    have L14 : LB j n ws es H14 (rs ++ [(c, t)]) tl' bx' := L13.step A13.b.ja A13.r (Kp.ex e14)
    obtain ⟨B15, _⟩ := A14.rd f15 R15
    have L15 : LB j n ws es H15 (rs ++ [(c, t)]) tl' bx' := L14.step A14.b.ja A14.r ((Kp.frm f15).mono fun b hb => by simp only [List.mem_cons, List.not_mem_nil, or_false] at hb ⊢; exact .inr hb)
    have hd14 := e14 _ _ hd13
    have hdx : du2 ≠ x := A14.r.ne hd14 fun _ _ _ z => by cases z
    have hd15 := f15.keep _ _ hd14 (by simpa using hdx)
    have hpt15 := f15.tup _ _ (e14 _ _ hpt13)
    have y15 : Paired (IsP H15) _ _ := ps_mono y13 ((Frm.ex e14).trans f15)
    obtain ⟨pv', w1, w2⟩ := hp15
    have A16 : RA K H0 PT qLam j md l x bg en n ws es (rs ++ [(c, t)]) tl' bx' H16 := RA.ex ⟨B15, R15, L15⟩ e16
    refine ne_fin (d := .list [.str "given", .tuple (((Mst.fold n ws es (rs ++ [(c, t)])).out.drop (Mst.fold n ws es rs).out.length).map iD)]) (dp_two hpl (.tup (st_of (e16 _ _ w1)) (dp_ps (ps_mono (S := []) w2 (Frm.ex e16))))) (dp_two (e16 _ _ hd15) (.tup (st_of (e16 _ _ hpt15)) (dp_ps (ps_mono (S := []) y15 (Frm.ex e16))))) (two_fd (by decide +kernel) (ps_fd _)) (k _ tl' bx' _ _ _ _ H16 (by rw [List.length_append]; exact Nat.le_refl _) rok' A16)
/-- the look at the end of a turn -/
abbrev tChk (K : PySem.W.Frag) : TS := tSeq (tIfS (tOr (tNot (tB (tCall (sp_l_is_at K) [] E0 (tCons (tVar 4) (tCons (tVar 2) (tCons (tVar 5) (tCons (tBx K) tNil))))))) (tTest (tOp (rNeOwn (He.ga K "Loop") (sp_Peq K) E0) (tFld K (tVar 4) "loop") (tVar 3)))) (tRet (tC (.bl false))) tNext)
  (tIfS (tTest (tOp (rNeD K) (tMeth (He.ga K "Loop") "run" (sp_run K) [] E0 (tVar 3) (tCons (tVar 2) (tCons (tCB (rTup K) (tCons (tVar 5) tNil)) tNil))) (tTup (tCons (tFld K (tVar 4) "pieces") (tCons (tCB (rLenS K) (tCons (tVar 5) tNil)) (tCons (tFld K (tVar 4) "stopped") tNil)))))) (tRet (tC (.bl false))) tNext)
theorem three_fd {d1 d2 d3 : PyData} {k : Nat} (h1 : Fd k d1) (h2 : Fd k d2) (h3 : Fd k d3) : Fd (k + 1) (.tuple [d1, d2, d3]) := fd_tup fun e h => by
  simp only [List.mem_cons, List.not_mem_nil, or_false] at h
  rcases h with rfl | rfl | rfl
  · exact h1
  · exact h2
  · exact h3
theorem right_check (T : Tx K mg) (A : RA K H0 PT qLam j md l x bg en n ws es rs tl bx H) (ok : ROk n ws es rs) (lok : LOk ws es) (hn : 1 ≤ n) (h8 : n ≤ 8)
    (k : ∀ H', RA K H0 PT qLam j md l x bg en n ws es rs tl bx H' → D.nx (sg j md n l x tl bx v7 v8 v9 v10 v11) H') : tChk K D (sg j md n l x tl bx v7 v8 v9 v10 v11) H := by
  obtain ⟨tv, t1, t2⟩ := A.s.htl
  have tvl := Paired.len t2
  obtain ⟨bv, b, b1, b2, b3, hB, b5⟩ := bx_last A.s
  obtain ⟨dx, o, a, hdd, cr, hx, _, _, ⟨pvs, p1, p2⟩, _⟩ := A.r.ex
  obtain ⟨dl, lr, le, hl1, _⟩ := A.b.lp.ex
  have hat : EvT (tB (tCall (sp_l_is_at K) [] E0 (tCons (tVar 4) (tCons (tVar 2) (tCons (tVar 5) (tCons (tBx K) tNil)))))) (sg j md n l x tl bx v7 v8 v9 v10 v11) H true :=
    et_B (ev_call (ea_cons (ev_var rfl) (ea_cons (ev_var rfl) (ea_cons (ev_var rfl) (ea_cons (ev_ixL (ev_var rfl) (ev_un ev_c ru_neg) (sq_of b1) b3) ea_nil)))) (spV_of fun H1 e1 Q E q => ⟨x, l, n, ws, es, rs, tl, b, tv, rfl, (A.ex e1).r, ok.len, e1 _ _ t1, Paired.imp2 (fun _ _ z => z.mono (S := []) (Frm.ex e1)) t2, hB.bw.ex e1, q⟩))
  have hne : EvT (tTest (tOp (rNeOwn (He.ga K "Loop") (sp_Peq K) E0) (tFld K (tVar 4) "loop") (tVar 3))) (sg j md n l x tl bx v7 v8 v9 v10 v11) H false := by
    refine et_test (ev_op (ev_fld (ev_var rfl) hx T.cR T.nR_loop rk_loop) (ev_var rfl) fun H1 e1 Q q => ?_)
    exact ⟨l, l, dl, dl, _, _, rfl, rfl, e1 _ _ hl1, e1 _ _ hl1, l, txtOf ws es, ws, es, rfl, (A.ex e1).b.lp, fun H2 e2 => ⟨true, rfl, q H2 e2⟩⟩
  refine q_skip (et_or0 (et_not (a := true) hat) hne) fun H1 e1 => ?_
  have A1 := A.ex e1
  refine s_ifR (t_testS (k_op (k_methQ (ev_var rfl) (e1 _ _ hl1) (pk_no (by decide +kernel) (by decide +kernel) (by decide +kernel)) fun H2 e2 => k_cons (k_ev (ev_var rfl) fun H3 e3 => k_cons (eu_tupE (ev_var rfl) (sq_of (((e1.trans e2).trans e3) _ _ t1)) H3 (Ex.refl _) _ fun tp H4 n4 e4 h4 => ?_)))))
  have e14 := ((e1.trans e2).trans e3).trans e4
  have A4 := A.ex e14
  refine ⟨l, txtOf ws es, ws, es, n, tp, rs, rfl, A4.b.lp, lok, hn, h8, ⟨tv, h4, Paired.imp2 (fun _ _ z => z.mono (S := []) (Frm.ex e14)) t2⟩, ok, fun p d H5 e5 hp hd => ?_⟩
  have e15 := e14.trans e5
  refine eu_tup (ea_cons (ev_fld (ev_var rfl) (e15 _ _ hx) T.cR T.nR_pieces rk_pieces) (ea_cons (ev_len (ev_var rfl) (sq_of (e15 _ _ t1))) (ea_cons (ev_fld (ev_var rfl) (e15 _ _ hx) T.cR T.nR_stopped rk_stopped) ea_nil))) (by show 3 ≤ 100000; decide) H5 (Ex.refl _) _ fun p2' H6 n6 e6 h6 => ?_
  have e16 := e15.trans e6
  obtain ⟨dv, w1, w2⟩ := hd
  rw [tvl] at h6
  exact ne_fin (d := .tuple [.tuple ((Mst.fold n ws es rs).out.map iD), .int (rs.length : Nat), .bool (Mst.fold n ws es rs).over])
    (.tup (st_of (e6 _ _ hp)) (.cons (.tup (st_of (e6 _ _ w1)) (dp_ps (ps_mono (S := []) w2 (Frm.ex e6)))) (.cons (.int _) (.cons (.bl _) .nil))))
    (.tup (st_of h6) (.cons (.tup (st_of (e16 _ _ p1)) (dp_ps (ps_mono (S := []) p2 (Frm.ex e16)))) (.cons (.int _) (.cons (.bl _) .nil))))
    (three_fd (ps_fd _) (fd_int.mono (by decide)) (fd_bool.mono (by decide))) (k H6 (A.ex e16))
end
end LS
end
-- text Lk
section
set_option maxHeartbeats 4000000
/-! The law's right. -/
namespace LS
open PySem PySem.Spec PyProof.Rows L2 Evl
theorem s_ifN {σ : L2.St} {H : Hp} {tt : TT} {tu tw : TS} {D : Ends} {R : Hp → Prop} (h : EvN tt σ H R) (h1 : ∀ H1, R H1 → tu D σ H1) (h2 : ∀ H1, R H1 → tw D σ H1) : tIfS tt tu tw D σ H :=
  h _ fun b H1 r => by
    cases b with
    | true => exact iteT (h1 H1 r)
    | false => exact iteF (h2 H1 r)
section
variable {X : Cx}
theorem lam_pass {A : Around} {outer : List Env} {s : Shared} {H : Hp} {E : XK} {scope : Scope} {f c' : Addr} : Passes (L2.CX X.prog X.w) (LamX.lamCx X A outer s H E scope f c') E :=
  passes_call (X := LamX.lamCx X A outer s H E scope f c') (takes_of rfl rfl rfl rfl) (fun _ _ _ _ h => h)
theorem pe_came (T : Tx X.K X.mg) {c P : Addr} {k : Nat} {params : Arguments} {body : Expr} {scope : Scope} {t : XK → TE} {p lpos pos : Pos} (TB : LamX.TabB X.base X.mg c P) (hcode : X.env.code = .ref c) (hg : Gl X "_law_came") (hr : Room (k + 2) X.A) (L : LamX.LamS X.env.scope scope) (hdef : defaultsOf params X.env = ([], []))
    (hbind : ∀ (q : Str) (cl : List (Str × Addr)) (pm cv ctv : Value), bindArgs (PySem.W.kla_fn "<lambda>" q params body scope cl pm cv ctv) ⟨[], []⟩ = pure [])
    (hbody : ∀ (A : Around) (outer : List Env) (s : Shared) (H : Hp) (E : XK) (f c' : Addr), Room k (A.deeper (LamX.lamEnv X scope s.heap.objs.size f c')) → PE (LamX.lamCx X A outer s H E scope f c') body (t E)) :
    PE X (.Call (.Name "_law_came" p) [.Lambda params body scope lpos] [] pos) (LamX.tLam [(P, X.env.qual ++ "<lambda>")] (TTcame X.K) t) := by
  obtain ⟨fd, F⟩ := T.d_l_came
  have b := F.bindsN (ps := ["_law_ask"]) (fun _ _ _ _ _ _ us hl => match us, hl with | [_], _ => rfl)
  obtain ⟨oc, od, dV, kV, doc, pm, an, cdv, ct, osl, rfl, lk, hcd, _, _⟩ := F.ex
  exact LamX.pe_lamcall hg T.g_l_came F.kp lk hcd b sc__law_came rfl (Or.inl rfl) (came_gives T) TB hcode (List.mem_singleton.mpr rfl) (fun p hp _ => by rw [List.mem_singleton.mp hp]) hr L hdef hbind hbody
end
abbrev sc__law_right_N : List Str := ["_law_jar_here", "_law_made", "_law_wide", "_law_mine", "_law_live", "_law_tale_here", "_law_boxes_here", "_law_turn", "_law_due", "_law_many", "_law_said", "_law_after"]
theorem sc__law_right : FnScope sc__law_right_N ["_law_jar_here"] (defScope (top 56)) := ⟨rfl, rfl, rfl, by decide +kernel, rfl, by decide +kernel, by decide +kernel⟩
def sp_l_right (P : Addr) : Sp := fun vs H Q _ => ∃ j, vs = [.ref j] ∧ JAt H j ∧ LamX.TabS H P qLam ∧ ∀ H', Kp [j] H H' → LamX.TabS H' P qLam → Q (.bl true) H'
section
variable {P : Program} {w : World} {K : PySem.W.Frag} {mg : Str → Option Value} {base : Heap}
theorem c_l_right (T : Tx K mg) (TB0 : LamX.TabB base mg (He.cT K ("_law_right", none)).1 (He.cT K ("_law_right", none)).2) : C8.Cal P w K mg base 9 "_law_right" (sp_l_right (He.cT K ("_law_right", none)).2) [] := by
  obtain ⟨fd, F⟩ := T.d_l_right
  have bnd := F.bindsN (ps := ["_law_jar_here"]) (fun _ _ _ _ _ _ us hl => match us, hl with | [_], _ => rfl)
  have kp := F.kp
  obtain ⟨oc, od, dV, kV, doc, pm, an, cdv, ct, osl, rfl, lk, hcd, _, _⟩ := F.ex
  obtain ⟨cc, rfl⟩ := He.codeIn_ref hcd
  have ecc : (He.cT K ("_law_right", none)).1 = cc := He.codeOf_eq lk rfl
  revert TB0
  generalize (He.cT K ("_law_right", none)).2 = PT
  intro TB0
  rw [ecc] at TB0
  refine ⟨_, _, ["_law_jar_here"], [], fn_of lk hcd sc__law_right (fun vs H Q E h => ?_) (fun A outer s H vs Q E hr h => ?_), T.g_l_right, kp, bnd, .nil⟩
  · obtain ⟨j, rfl, _⟩ := h
    rfl
  · obtain ⟨j, rfl, hj, hT, hQ⟩ := h
    have hu := hu_of hr
    have TB : LamX.TabB (cxOf CX0 P w K mg base sc__law_right_N "_law_right" (defScope (top 56)) (He.ga K "_law_right") (.ref cc) A outer s H E).nox.base (cxOf CX0 P w K mg base sc__law_right_N "_law_right" (defScope (top 56)) (He.ga K "_law_right") (.ref cc) A outer s H E).nox.mg cc PT := TB0
    have hcode : (cxOf CX0 P w K mg base sc__law_right_N "_law_right" (defScope (top 56)) (He.ga K "_law_right") (.ref cc) A outer s H E).nox.env.code = .ref cc := rfl
    obtain ⟨fu, Fu, Bu⟩ := f_Reading_undo (P := P) (w := w) (base := base) T
    obtain ⟨ff, Ff, Bf⟩ := f_Reading_feed (P := P) (w := w) (base := base) T
    obtain ⟨fe, Fe, Be⟩ := f_Loop_eq (P := P) (w := w) (base := base) T
    suffices h : ∃ t, PSs (cxOf CX0 P w K mg base sc__law_right_N "_law_right" (defScope (top 56)) (He.ga K "_law_right") (.ref cc) A outer s H E).nox (defBody (top 56)) t ∧ t { nx := fun _ H' => Q .non H', rt := Q } (L2.start sc__law_right_N [.ref j]) H from let ⟨t, a, b⟩ := h; ⟨t, a.nox, b⟩
    refine ⟨_, (pss_cons (ps_par (i := 1) (j := 2) rfl sc__law_right.nd rfl rfl (by decide) rfl rfl (pa_cons (C8.pe_c (c_l_loop T) hr (by decide) rfl (pa_cons (pv 0) (pa_cons pe_int pa_nil))) (pa_cons (pe_op op_add pe_int (C8.pe_c (c_l_sip T) hr (by decide) rfl (pa_cons (pv 0) (pa_cons pe_int pa_nil)))) pa_nil)) (by rfl))
      (pss_cons (ps_set (i := 3) sc__law_right.nd rfl (Or.inl rfl) (C8.pe_mk (k_Loop T) hr (by decide) rfl (pa_cons (C8.pe_c (c_l_line T) hr (by decide) rfl (pa_cons (pe_ix ix_tup (pv 1) pe_int (fun _ _ => rfl)) (pa_cons (pe_ix ix_tup (pv 1) pe_int (fun _ _ => rfl)) pa_nil))) pa_nil)))
      (pss_cons (ps_asg (pe_tup (pa_cons (C8.pe_mk (k_Reading T) hr (by decide) rfl (pa_cons (pv 3) (pa_cons (pv 2) pa_nil))) (pa_cons (pe_lst pa_nil) (pa_cons (pe_lst (pa_cons (pe_c0 (c_l_box T) hr (by decide) rfl) pa_nil)) pa_nil)))) (pg_tup rfl (pgs_cons (pg_name (i := 4) sc__law_right.nd rfl (Or.inr rfl)) (pgs_cons (pg_name (i := 5) sc__law_right.nd rfl (Or.inl rfl)) (pgs_cons (pg_name (i := 6) sc__law_right.nd rfl (Or.inl rfl)) pgs_nil)))))
      (pss_cons (ps_for PassesOwn.never rfl (pi_range1 (by rfl) T.f_range (pa_cons pe_int pa_nil)) (pg_name (i := 7) sc__law_right.nd rfl (Or.inl rfl))
        (pss_cut (ps_if (pt_cmpR op_eq (C8.pe_c (c_l_sip T) hr (by decide) rfl (pa_cons (pv 0) (pa_cons pe_int pa_nil))) pe_int (nomark _))
          (pss_cons (ps_set (i := 8) sc__law_right.nd rfl (Or.inl rfl) (pe_ifExp (pt_cmpR (op_neD hr.units) (pv 5) (pe_lst pa_nil) (nomark _)) (pe_lst (pa_cons pe_str (pa_cons pe_non pa_nil))) (pe_lst (pa_cons pe_str (pa_cons pe_bl pa_nil)))))
          (pss_cons (ps_if (pt_cmpR (op_neD hr.units) (pe_came (k := 2) T TB hcode rfl (hr.mono (by decide)) (LamX.lamS_by (by show LamX.lamSB (defScope (top 56)) _ = true; decide +kernel)) rfl (fun _ _ _ _ _ => rfl) (fun A2 outer2 s2 H2 E2 f2 c2 hr2 => (pe_meth0 (pv 4) T.cR T.mR_undo Fu hr2 Bu .nil lam_pass))) (pv 8) (nomark _))
            (pss_one (ps_ret pe_bl))
            pss_nil)
          (pss_one (ps_par (i := 5) (j := 6) rfl sc__law_right.nd rfl rfl (by decide) rfl rfl (pa_cons (pe_slice sl_list (pv 5) po_none (po_some (pe_un un_neg pe_int))) (pa_cons (pe_slice sl_list (pv 6) po_none (po_some (pe_callB (call_max2 rfl) (by rfl) T.f_max (by decide +kernel) (pa_cons pe_int (pa_cons (pe_op op_sub (pe_callB call_len_seq (by rfl) T.f_len (by decide +kernel) (pa_cons (pv 6) pa_nil)) pe_int) pa_nil))))) pa_nil)) (by rfl)))))
          (pss_cons (ps_asg (pe_ix ix_list (C8.pe_c (c_l_tale T) hr (by decide) rfl (pa_cons (pv 0) (pa_cons (pv 2) (pa_cons pe_int pa_nil)))) pe_int (fun _ _ => rfl)) (pg_tup rfl (pgs_cons (pg_name (i := 9) sc__law_right.nd rfl (Or.inr rfl)) (pgs_cons (pg_name (i := 10) sc__law_right.nd rfl (Or.inr rfl)) pgs_nil))))
          (pss_cons (ps_set (i := 8) sc__law_right.nd rfl (Or.inl rfl) (pe_lst (pa_cons pe_str (pa_cons pe_bl pa_nil))))
          (pss_cons (ps_if (pt_not (pt_val (pe_dget hu (pe_ix ix_list (pv 6) (pe_un un_neg pe_int) (fun _ _ => rfl)) pe_str (fun _ _ => rfl))))
            (pss_cons (ps_set (i := 11) sc__law_right.nd rfl (Or.inl rfl) (C8.pe_c (c_l_fed T) hr (by decide) rfl (pa_cons (pv 1) (pa_cons (pe_ix ix_list (pv 6) (pe_un un_neg pe_int) (fun _ _ => rfl)) (pa_cons (pv 9) (pa_cons (pv 10) (pa_cons (pv 2) pa_nil)))))))
            (pss_cons (ps_set (i := 8) sc__law_right.nd rfl (Or.inl rfl) (pe_lst (pa_cons pe_str (pa_cons (pe_callTy call_tuple_of (by rfl) T.f_tuple (by decide +kernel) (pa_cons (pe_slice sl_list (pe_dget hu (pv 11) pe_str (fun _ _ => rfl)) (po_some (pe_callB call_len_seq (by rfl) T.f_len (by decide +kernel) (pa_cons (pe_dget hu (pe_ix ix_list (pv 6) (pe_un un_neg pe_int) (fun _ _ => rfl)) pe_str (fun _ _ => rfl)) pa_nil))) po_none) pa_nil)) pa_nil))))
            (pss_one (ps_par (i := 5) (j := 6) rfl sc__law_right.nd rfl rfl (by decide) rfl rfl (pa_cons (pe_op op_cat (pv 5) (pe_lst (pa_cons (pe_tup (pa_cons (pv 9) (pa_cons (pv 10) pa_nil))) pa_nil))) (pa_cons (pe_op op_cat (pv 6) (pe_lst (pa_cons (pv 11) pa_nil))) pa_nil)) (by rfl)))))
            pss_nil)
          (pss_one (ps_if (pt_cmpR (op_neD hr.units) (pe_came (k := 6) T TB hcode rfl (hr.mono (by decide)) (LamX.lamS_by (by show LamX.lamSB (defScope (top 56)) _ = true; decide +kernel)) rfl (fun _ _ _ _ _ => rfl) (fun A2 outer2 s2 H2 E2 f2 c2 hr2 => (pe_meth (pv 4) T.cR T.mR_feed Ff hr2 Bf .nil lam_pass (pa_cons (pv 9) (pa_cons (pv 10) pa_nil))))) (pv 8) (nomark _))
            (pss_one (ps_ret pe_bl))
            pss_nil))))))
        (pss_cons (ps_if (PW.pt (pw_or (pt_not (pt_val (C8.pe_c (c_l_is_at T) hr (by decide) rfl (pa_cons (pv 4) (pa_cons (pv 2) (pa_cons (pv 5) (pa_cons (pe_ix ix_list (pv 6) (pe_un un_neg pe_int) (fun _ _ => rfl)) pa_nil))))))) (pw_or1 (pt_cmpR (op_neOwn Fe (hr.mono (by decide)) T.mP_eq.at_ T.mP_eq.fn T.neP T.moP Be pass0) (pe_fld (pv 4) rfl) (pv 3) (nomark _)))))
          (pss_one (ps_ret pe_bl))
          pss_nil)
        (pss_one (ps_if (pt_cmpR (op_neD hr.units) (C8.pe_mt (m_Loop_run T) hr (by decide) (pv 3) (pa_cons (pv 2) (pa_cons (pe_callTy call_tuple_of (by rfl) T.f_tuple (by decide +kernel) (pa_cons (pv 5) pa_nil)) pa_nil))) (pe_tup (pa_cons (pe_fld (pv 4) rfl) (pa_cons (pe_callB call_len_seq (by rfl) T.f_len (by decide +kernel) (pa_cons (pv 5) pa_nil)) (pa_cons (pe_fld (pv 4) rfl) pa_nil)))) (nomark _))
          (pss_one (ps_ret pe_bl))
          pss_nil)))))
      (pss_one (ps_ret (pe_and (pe_cmpR (op_neOther T.ncR (hr.mono (by decide) : Room 1 _)) (pv 4) (C8.pe_mk (k_Reading T) hr (by decide) rfl (pa_cons (pv 3) (pa_cons (pv 2) pa_nil))) (nomark _)) (pe_one (pe_cmpR (op_eqSelf T.ncR hr) (pv 4) (pv 4) (nomark _)))))))))), ?_⟩
    refine q_par (k_cons (k_call (ea_cons (ev_var rfl) (ea_cons ev_c ea_nil)) fun H1 e1 => ⟨j, rfl, hj.ex e1, fun md bg en ws es H2 lok nbg nen r2 hmd hbg hen => k_cons (k_opE ev_c fun H3 e3 => k_call (ea_cons (ev_var rfl) (ea_cons ev_c ea_nil)) fun H4 e4 => ⟨j, 8, rfl, r2.2.ex (e3.trans e4), by decide, by decide, fun d H5 hd r5 => ⟨_, _, rfl, rfl, _, _, rfl, ?_⟩⟩)⟩))
    have J5 : JR j H H5 := ((((JR.refl hj).ex e1).trans r2).ex (e3.trans e4)).trans r5
    have r25 : JR j H2 H5 := ((JR.refl r2.2).ex (e3.trans e4)).trans r5
    obtain ⟨n, hn1, hn, h8⟩ : ∃ n : Nat, (1 + (d : Int)) = (n : Int) ∧ 1 ≤ n ∧ n ≤ 8 := ⟨d + 1, by omega, by omega, by omega⟩
    show tSeq _ _ _ [some (.ref j), some (.ref md), some (.int (1 + (d : Int))), none, none, none, none, none, none, none, none, none] H5
    rw [hn1]
    have bgj : bg ≠ j := Ne.symm ((hj.ex e1).ne nbg)
    have enj : en ≠ j := Ne.symm ((hj.ex e1).ne nen)
    have hmd5 := r25.1.tup _ _ hmd
    have hbg5 := r25.lst hbg bgj
    have hen5 := r25.lst hen enj
    refine q_setV (k_make (ea_cons (ev_call (ea_cons (ev_ixT (ev_var rfl) ev_c (st_of hmd5) rfl) (ea_cons (ev_ixT (ev_var rfl) ev_c (st_of hmd5) rfl) ea_nil)) (spV_of fun H6 e6 Q E q => ⟨bg, en, ws, es, rfl, lok, e6 _ _ hbg5, e6 _ _ hen5, q⟩)) ea_nil) fun l dl H6 nl e6 hl => ⟨l, dl, ws, es, rfl, hl, lok, fun H7 f7 L7 => ⟨rfl, ?_⟩⟩)
    have e57 : Ex H5 H7 := ex_frm e6 f7 nl
    refine q_asgG (k_tup (k_cons (k_make (ea_cons (ev_var rfl) (ea_cons (ev_var rfl) ea_nil)) fun x dx H8 nx e8 hx => ⟨x, dx, l, txtOf ws es, ws, es, n, rfl, hx, L7.mono (S := []) (Frm.ex e8) (by simp), hn, h8, fun H9 f9 R9 => ⟨rfl, k_cons (el_lst ea_nil (by decide) H9 (Ex.refl _) _ fun tl H10 ntl e10 htl => k_cons (k_lst (k_cons (k_call ea_nil fun H11 e11 => ⟨rfl, fun b H12 e12 B12 => ⟨sz_of (by show 1 ≤ 100000; decide), fun bx nbx => ⟨sz_of (by show 3 ≤ 100000; decide), fun tp ntp => ⟨tp, _, rfl, st_of upd_same, rfl, _, _, rfl, _, _, rfl, _, _, rfl, rfl, ?_⟩⟩⟩⟩))))⟩⟩)))
    have e79 : Ex H7 H9 := ex_frm e8 f9 nx
    have e13 : Ex H12 (upd (upd H12 bx (.lst [.ref b])) tp (.tup [.ref x, .ref tl, .ref bx])) := (Ex.new nbx).trans (Ex.new ntp)
    have hbx : (upd (upd H12 bx (.lst [.ref b])) tp (.tup [.ref x, .ref tl, .ref bx])) bx = some (.lst [.ref b]) := (Ex.new ntp) _ _ upd_same
    show tSeq _ _ _ (sg j md n l x tl bx none none none none none) (upd (upd H12 bx (.lst [.ref b])) tp (.tup [.ref x, .ref tl, .ref bx]))
    revert e13 hbx
    generalize upd (upd H12 bx (.lst [.ref b])) tp _ = H13
    intro e13 hbx
    have e913 := ((e10.trans e11).trans e12).trans e13
    have e513 := (e57.trans e79).trans e913
    have J13 := J5.ex e513
    have R13 : RAt K H13 x l n ws es [] := R9.saf (S := []) (Frm.ex e913) Saf.nil (by simp)
    have R12 : RAt K H12 x l n ws es [] := R9.saf (S := []) (Frm.ex ((e10.trans e11).trans e12)) Saf.nil (by simp)
    have j9 : JAt H9 j := J5.2.ex (e57.trans e79)
    have j11 : JAt H11 j := j9.ex (e10.trans e11)
    have j12 : JAt H12 j := j11.ex e12
    have A0 : RA K H PT qLam j md l x bg en n ws es [] tl bx H13 := by
      refine ⟨⟨Kp.frm J13.1, J5.1.free (fresh_back e57 nx), J13.2, TabS.frm hT J13.1 hj.saf, e513 _ _ hmd5, e513 _ _ hbg5, bgj, e513 _ _ hen5, enj, L7.mono (S := []) (Frm.ex (e79.trans e913)) (by simp)⟩, R13, ⟨Ne.symm (j9.ne ntl), ⟨[], ((e11.trans e12).trans e13) _ _ htl, .nil⟩, Ne.symm (j12.ne nbx), [.ref b], hbx, rfl, fun i hi => ?_⟩⟩
      have hi : i = 0 := Nat.le_zero.mp hi
      subst hi
      obtain ⟨dx, o, a, hdd, cr, hx, _⟩ := R12.ex
      exact ⟨b, rfl, (B12.bj j11).kp (Kp.ex e13) (j12.saf.two R12.sx) ⟨_, _, _, hx⟩⟩
    refine q_forR1 (n := 16) (ea_cons ev_c ea_nil) ⟨by decide, by decide⟩ (fun i σ' H' => ∃ rs tl bx v7 v8 v9 v10 v11, σ' = sg j md n l x tl bx v7 v8 v9 v10 v11 ∧ rs.length ≤ i ∧ ROk n ws es rs ∧ RA K H PT qLam j md l x bg en n ws es rs tl bx H')
      (fun H' e => ⟨[], tl, bx, none, none, none, none, none, rfl, Nat.le_refl _, ⟨Nat.zero_le _, fun r hr => (by cases hr), fun i hi => absurd hi (Nat.not_lt_zero _)⟩, A0.ex e⟩) ?_ ?_
    · rintro i σ' H' hi ⟨rs, tl, bx, v7, v8, v9, v10, v11, rfl, hlen, rok, A⟩
      show tCut _ _ _ (sg j md n l x tl bx (some (.int (i : Int))) v8 v9 v10 v11) H'
      refine q_cut (M := fun σ' H' => ∃ rs tl bx v8 v9 v10 v11, σ' = sg j md n l x tl bx (some (.int (i : Int))) v8 v9 v10 v11 ∧ rs.length ≤ i + 1 ∧ ROk n ws es rs ∧ RA K H PT qLam j md l x bg en n ws es rs tl bx H') ?_ ?_
      · refine s_ifN (en_sip hr_eq rfl A.b.ja (by decide) (by decide)) (fun H1 r1 => ?_) (fun H1 r1 => ?_)
        · exact right_undo T (A.jr r1) rok fun rs' tl' bx' v8' H' hl' rok' A' => ⟨rs', tl', bx', v8', _, _, _, rfl, by omega, rok', A'⟩
        · exact right_feed T (A.jr r1) rok (by omega) lok hn h8 fun rs' tl' bx' v8' v9' v10' v11' H' hl' rok' A' => ⟨rs', tl', bx', v8', v9', v10', v11', rfl, by omega, rok', A'⟩
      · rintro σ2 H2 ⟨rs, tl, bx, v8, v9, v10, v11, rfl, hlen, rok, A⟩
        exact right_check T A rok lok hn h8 fun H' A' => ⟨rs, tl, bx, _, _, _, _, _, rfl, hlen, rok, A'⟩
    · rintro σ' H' ⟨rs, tl, bx, v7, v8, v9, v10, v11, rfl, hlen, rok, A⟩
      refine s_retV (k_op (k_ev (ev_var rfl) fun H1 e1 => k_make (ea_cons (ev_var rfl) (ea_cons (ev_var rfl) ea_nil)) fun y dy H2 ny e2 hy => ⟨y, dy, l, txtOf ws es, ws, es, n, rfl, hy, (A.ex (e1.trans e2)).b.lp, hn, h8, fun H3 f3 R3 => ⟨rfl, ?_⟩⟩))
      have e13 : Ex H' H3 := e1.trans (ex_frm e2 f3 ny)
      obtain ⟨dx1, o1, a1, hd1, cr1, hx1, _⟩ := A.r.ex
      obtain ⟨dx2, o2, a2, hd2, cr2, hx2, _⟩ := R3.ex
      have hxy : x ≠ y := ne_of_none (e1 _ _ hx1) ny
      refine ⟨x, y, dx1, dx2, _, _, rfl, rfl, hxy, e13 _ _ hx1, hx2, true, rfl, iteT ?_⟩
      refine k_op (k_ev (ev_var rfl) fun H4 e4 => k_ev (ev_var rfl) fun H5 e5 => ⟨x, dx1, _, rfl, rfl, ((e13.trans e4).trans e5) _ _ hx1, ?_⟩)
      have A5 := A.ex ((e13.trans e4).trans e5)
      exact hQ H5 A5.b.kp A5.b.tb
end
end LS
end
-- text En
section
set_option maxHeartbeats 4000000
/-! The law. -/
namespace LS
open PySem PySem.Spec PyProof.Rows L2 Evl
theorem k_cb {σ : L2.St} {H : Hp} {ta : TA} {r : List V → Hp → VK → Prop} {Q : VK} (h : ta σ H fun vs H1 => r vs H1 Q) : tCB r ta σ H Q := h
theorem ev_min2 {σ : L2.St} {H : Hp} {ta tb : TE} {i j : Int} (ha : Ev ta σ H (.int i)) (hb : Ev tb σ H (.int j)) : Ev (tCB (fun xs H Q => ∃ i j, xs = [.int i, .int j] ∧ Q (.int (if j < i then j else i)) H) (tCons ta (tCons tb tNil))) σ H (.int (if j < i then j else i)) := fun H1 e Q q =>
  ha H1 e _ fun H2 e2 => hb H2 (e.trans e2) _ fun H3 e3 => ⟨i, j, rfl, q H3 (e2.trans e3)⟩
theorem sql_kp {K : PySem.W.Frag} {H H' : Hp} {a : Addr} {xs : List V} (h : SqL K H a xs) (k : ∀ o, H a = some o → (∀ ps, o ≠ .tbl ps) → H' a = some o) : SqL K H' a xs := by
  rcases h with (h | ⟨o, h⟩) | h
  · exact .inl (.inl (k _ h fun _ z => by cases z))
  · exact .inl (.inr ⟨o, k _ h fun _ z => by cases z⟩)
  · exact .inr h
abbrev sc_law_N : List Str := ["_law_script", "_law_k"]
theorem sc_law : FnScope sc_law_N ["_law_script"] (defScope (top 57)) := ⟨rfl, rfl, rfl, by decide +kernel, rfl, by decide +kernel, by decide +kernel⟩
def sp_law (K : PySem.W.Frag) (PT : Addr) : Sp := fun vs H Q _ => ∃ a, ∃ ns : List Int, vs = [.ref a] ∧ SqL K H a (ns.map V.int) ∧ LamX.TabS H PT qLam ∧ ∀ H', Q (.bl true) H'
section
variable {P : Program} {w : World} {K : PySem.W.Frag} {mg : Str → Option Value} {base : Heap}
theorem f_law (T : Tx K mg) (TB0 : LamX.TabB base mg (He.cT K ("_law_right", none)).1 (He.cT K ("_law_right", none)).2) {fd : FuncData} (F : FnP K "law" "law" (top 57) (He.ga K "law") fd) : FnOk P w K mg base CX0 10 (He.ga K "law") fd ["_law_script"] (sp_law K (He.cT K ("_law_right", none)).2) := by
  refine fnOk_mk F sc_law (fun vs H Q E h => ?_) (fun cdv A outer s H vs Q E hr h => ?_)
  · obtain ⟨a, ns, rfl, _⟩ := h
    rfl
  · obtain ⟨a, ns, rfl, ha, hT, hQ⟩ := h
    refine ⟨_, (pss_one (ps_ret (pe_callB (cr_all rfl) (by rfl) T.f_all (by decide +kernel) (pa_cons (pe_lc (own := [("_law_k", 1)]) (g := gName 1) (tt := tYes) rfl sc_law.nd (pi_range1 (by rfl) T.f_range (pa_cons (pe_callB (call_max2 rfl) (by rfl) T.f_max (by decide +kernel) (pa_cons pe_int (pa_cons (pe_callB (call_min2 rfl) (by rfl) T.f_min (by decide +kernel) (pa_cons (pe_callB call_len_seq (by rfl) T.f_len (by decide +kernel) (pa_cons (pv 0) pa_nil)) (pa_cons pe_int pa_nil))) pa_nil))) pa_nil)) (blkOk_by (own := [("_law_k", 1)]) (N := sc_law_N) (sc := defScope (top 57)) (by decide +kernel)) (fun _ _ _ _ _ => pg_name (i := 1) sc_law.nd rfl (Or.inl rfl)) (fun _ _ _ _ _ => pts_nil) (fun _ _ _ _ _ => (C8.pe_c (c_l_right T TB0) hr (by decide) rfl (pa_cons (C8.pe_c (c_l_jar T) hr (by decide) rfl (pa_cons (pv 0) (pa_cons (pv 1) pa_nil))) pa_nil)))) pa_nil)))), ?_⟩
    obtain ⟨m, hm, hm5⟩ : ∃ m : Nat, (if (if (5 : Int) < (((ns.map V.int).length : Nat) : Int) then (5 : Int) else (((ns.map V.int).length : Nat) : Int)) > 2 then (if (5 : Int) < (((ns.map V.int).length : Nat) : Int) then (5 : Int) else (((ns.map V.int).length : Nat) : Int)) else 2) = (m : Int) ∧ m ≤ 5 := by
      by_cases h1 : (5 : Int) < (((ns.map V.int).length : Nat) : Int)
      · exact ⟨5, by rw [if_pos h1, if_pos (by decide)]; rfl, by decide⟩
      · rw [if_neg h1]
        by_cases h2 : (((ns.map V.int).length : Nat) : Int) > 2
        · exact ⟨(ns.map V.int).length, by rw [if_pos h2], by omega⟩
        · exact ⟨2, by rw [if_neg h2]; rfl, by decide⟩
    refine s_retV (k_cb (k_cons (k_lcR1 (n := (m : Int)) (ea_cons (ev_is (ev_max2 ev_c (ev_min2 (ev_len (ev_var rfl) ha) ev_c)) (congrArg V.int hm)) ea_nil) ⟨by omega, by omega⟩ (fun _ => rfl)
      (fun Dl i H' => H Dl = none ∧ LamX.TabS H' (He.cT K ("_law_right", none)).2 qLam ∧ (∀ o, H a = some o → (∀ ps, o ≠ .tbl ps) → H' a = some o) ∧ H' Dl = some (.lst ((List.replicate i true).map V.bl)))
      (fun Dl H1 e1 nd => ⟨fresh_back e1 nd, TabS.ex hT (e1.trans (Ex.new nd)), fun o ho _ => (e1.trans (Ex.new nd)) _ _ ho, upd_same⟩) (fun Dl i H' hi ⟨nd, tb, ka, hd⟩ => ?_) (fun Dl H' ⟨nd, tb, ka, hd⟩ => ?_))))
    · refine k_cons (k_call (ea_cons (ev_var rfl) (ea_cons (ev_var rfl) ea_nil)) fun H1 e1 => ⟨a, i, ns, rfl, ex_l e1 (sql_kp ha ka), by omega, fun j H2 nj e2 J2 => ?_⟩)
      refine ⟨j, rfl, J2, TabS.ex tb (e1.trans e2), fun H3 k3 T3 => ?_⟩
      have njH : H' j = none := fresh_back e1 nj
      have hdj : Dl ≠ j := ne_of_none hd njH
      have hd3 : H3 Dl = some (.lst ((List.replicate i true).map V.bl)) := k3.lst ((e1.trans e2) _ _ hd) (by simpa using hdj)
      have fp : Frm [Dl] H3 (upd H3 Dl (.lst ((List.replicate i true).map V.bl ++ [.bl true]))) := Frm.put hd3 (List.mem_singleton.mpr rfl) (fun _ z => by cases z) _
      refine ⟨_, hd3, sz_lt (by rw [List.length_map, List.length_replicate]; omega), nd, TabS.frm T3 fp (Saf.one hd3 rfl), fun o ho hn => ?_, ?_⟩
      · have h1 := ka o ho hn
        have haj : a ≠ j := ne_of_none h1 njH
        have had : a ≠ Dl := ne_of_none ho nd
        rw [upd_ne had]
        exact k3 _ _ ((e1.trans e2) _ _ h1) hn (by simpa using haj)
      · rw [List.replicate_succ', List.map_append]
        exact upd_same
    · rw [Int.toNat_natCast] at hd
      refine ⟨Dl, List.replicate m true, rfl, sq_of hd, ?_⟩
      rw [all_rep]
      exact hQ H'
end
theorem law_at {w : World} {K : PySem.W.Frag} {mg : Str → Option Value} {fa' : Addr} {h : Heap} (X : K.In h) (G : h.Ns mainGlobals mg) (c : He.SaysX fa fn [] tf ex w h K) (hmg : mg ("law" : Str) = some (.ref fa')) :
    LamX.LawAtS PySem.Challenge.rw_lastshort_k61_whole_readings_fed w K CX0 10 63 "_law_script" mg fa' h := by
  have T : Tx K mg := tx_of X G c
  have e := T.g_law.symm.trans hmg
  cases e
  obtain ⟨fd, F⟩ := T.d_law
  have b := F.bindsN (ps := ["_law_script"]) (fun _ _ _ _ _ _ us hl => match us, hl with | [_], _ => rfl)
  have ba := FunD.bindsA (ps := ["_law_script"]) F (fun _ _ _ _ _ _ us hl => match us, hl with | [_], _ => rfl)
  have hm : (("_law_right", none) : He.Defn) ∈ tf := List.mem_singleton.mpr rfl
  refine ⟨fd, [He.cT K ("_law_right", none)], sp_law K (He.cT K ("_law_right", none)).2, fun p hp => ?_, fun p hp => ?_, fun p hp => ?_, fun s v => ba s [v] rfl, fun H a ns _ _ hH hS => ⟨a, ns, rfl, hS, LamX.TabS.nil (hH _ (List.mem_singleton.mpr rfl)), fun _ => rfl⟩, fun base _ _ hTB => f_law T (hTB _ (List.mem_singleton.mpr rfl)) F⟩
  · rw [List.mem_singleton.mp hp]; exact c.empty _ hm
  · rw [List.mem_singleton.mp hp]; exact c.out _ hm
  · rw [List.mem_singleton.mp hp]; exact PySem.W.codeHd_of_K X (c.hd _ hm)
end LS
end
-- text Fin
section
set_option maxHeartbeats 0
open PySem PySem.W PySem.Calls PyProof.Rows
theorem PySem.Challenge.cw_lastshort_k61_whole_readings_fed_holds : PySem.Challenge.rw_lastshort_k61_whole_readings_fed.Holds := by
  w_on; o_law
  refine HandSHeadRun.head_any (r := OpenLaw.row PySem.Challenge.rw_lastshort_k61_whole_readings_fed) (q := view (OpenLaw.row PySem.Challenge.rw_lastshort_k61_whole_readings_fed).prog [57]) (H := LS.hk) (ob := LS.ob) (M := 20000) (loose := LS.names) (d := HandSHeadRun.topDef (OpenLaw.row PySem.Challenge.rw_lastshort_k61_whole_readings_fed).prog 57) (kwd := []) LS.ob_eq
    (by kernel_rfl) (fun s => by kernel_rfl) LS.run (by kernel_rfl) (by kernel_rfl) (by kernel_rfl) (by rfl) (by first | assumption | decide +kernel) (by decide +kernel) ⟨rfl, rfl, rfl, rfl, rfl, by decide +kernel⟩ ?hw ?hc
  case hw => w_witness2
  case hc =>
    refine LamX.walk_ofTsE (l := PySem.Challenge.rw_lastshort_k61_whole_readings_fed) (n := 63) (k := 10) (x := "_law_script") (CX := fun _ => L2.CX0) rfl (by decide) (by kernel_rfl) ⟨rfl, by decide, by decide⟩ ?F (fun _ _ _ _ _ z => z)
    intro w mg fa h Y G hmg0
    obtain ⟨K, KX, c⟩ := Y
    have hmg : mg ("law" : PySem.Str) = some (.ref fa) := by
      have e : (HandSHeadRun.topDef (OpenLaw.row PySem.Challenge.rw_lastshort_k61_whole_readings_fed).prog 57).name = ("law" : PySem.Str) := by kernel_rfl
      rw [← e]
      exact hmg0
    exact ⟨K, KX, LS.law_at KX G c hmg⟩
end
