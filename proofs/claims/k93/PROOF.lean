import PyProof.Rows.All
import Wide.All
import OpenK.AllK
import Wide.FinOn
import HandS.ForMost
import HandS.Defaults
import HandS.IsInst
import HandS.Walk
import HandS.Zip
import HandS.Star
import HandS.ClsMeth
import HandS.Property
import HandS.Slots
import HandS.SlotsOwn
import HandS.FStr
import HandS.Style
import HandS.NoneIn
import HandS.Codes
import HandS.GenList
import KE.KOpsOwn
import OpenK.KMeth
import PyProof.InstNe
import PyProof.RulesMatch
import PyProof.ZipIter
import HandS.Zip0
import KE.GoesEnumKw
import PyProof.Rows.CallKwBuiltin
import KE.GoesEnum
import PyProof.WalkInts
import HandS.SetFor
import HandS.Strs
import HandS.Evl
import HandS.TupAny
import HandS.Base
import HandS.Call
import HandS.Ends
import HandS.More
import HandS.Words
import HandS.WordsExc
import HandS.Head0
import HandS.Head1
import HandS.Head2
import HandS.HeadEnd
import HandS.HeadHook1
import HandS.HeadHook2
import HandS.HeadNt
import PySem.Challenge.RW_surecounts_k93_whole_questions_as_texts
set_option Elab.async false
set_option linter.all false
set_option maxRecDepth 100000
set_option maxHeartbeats 4000000
/-! ## The base: the text by places, what a caller needs of a def, data in the heap -/
namespace Q
open PySem PySem.Spec PyProof.Rows L2
def topS (i : Nat) : Stmt := PySem.Challenge.pw_surecounts_k93_whole_questions_as_texts.main.body.getD i (.Pass ⟨0, 0, 0, 0⟩)
/-- a def of the module's top, as it stands -/
abbrev Dm (K : PySem.W.Frag) (x : Str) (st : Stmt) (f : Addr) (fd : FuncData) : Prop := FunD K x x (defArgs st) (defBody st) (defScope st) [] [] f fd
/-- what a caller needs of a def of the top -/
structure Cl (P : Program) (w : World) (K : PySem.W.Frag) (mg : Str → Option Value) (base : Heap) (k : Nat) (x : Str) (sp : Sp) : Prop where
  ex : ∃ (f : Addr) (fd : FuncData) (ps : List Str), FnOk P w K mg base CX0 k f fd ps sp ∧ mg x = some (.ref f) ∧ PySem.W.keepIn K (.ref f) = true ∧ Binds K fd ps []
section
variable {X : Cx} {k j : Nat} {x : Str} {sp : Sp} {p pos : Pos} {e : Expr} {es : List Expr} {t : TA}
/-- f(e, ..) -/
theorem pc (c : Cl X.prog X.w X.K X.mg X.base k x sp) (hr : Room j X.A) (ha : PA X (e :: es) t) (hk : k ≤ j := by decide) (hg : Gl X x := by rfl)
    (hdb : (x == ("__debug__" : Str)) = false := by decide) (he : starEach (e :: es) X.env = (false, eval e X.env) :: starEach es X.env := by rfl) (hpl : (backTo pos (starEach es X.env)).any (·.1) = false := by rfl) :
    PE X (.Call (.Name x p) (e :: es) [] pos) (tCall sp [] E0 t) := by
  obtain ⟨f, fd, ps, F, hm, kp, b⟩ := c.ex
  exact pe_call F (hr.mono hk) hg hm kp b .nil pass0 ha hdb he hpl
/-- a module's constant -/
theorem pgc {v : V} (h : ∃ u, X.mg x = some u ∧ RelV v u) (hg : Gl X x := by rfl) (hd : (x == ("__debug__" : Str)) = false := by decide) : PE X (.Name x pos) (tC v) := by
  obtain ⟨u, hm, r⟩ := h
  exact pe_glob hg hm r hd
end
/-- the module's names that the defs read -/
structure Tx (K : PySem.W.Frag) (mg : Str → Option Value) : Prop where
  isinstance : mg "isinstance" = none
  int : mg "int" = none
  bool : mg "bool" = none
  str : mg "str" = none
  tuple : mg "tuple" = none
  list : mg "list" = none
  set : mg "set" = none
  len : mg "len" = none
  all : mg "all" = none
  min : mg "min" = none
  max : mg "max" = none
  sum : mg "sum" = none
  abs : mg "abs" = none
  range : mg "range" = none
  zip : mg "zip" = none
  enumerate : mg "enumerate" = none
  sorted : mg "sorted" = none
  digits : ∃ u, mg "DIGITS" = some u ∧ RelV (.str "0123456789") u
  most_size : ∃ u, mg "MOST_SIZE" = some u ∧ RelV (.int 8) u
  most_values : ∃ u, mg "MOST_VALUES" = some u ∧ RelV (.int 8) u
  plus : ∃ u, mg "PLUS" = some u ∧ RelV (.str "+") u
  minus : ∃ u, mg "MINUS" = some u ∧ RelV (.str "-") u
  times : ∃ u, mg "TIMES" = some u ∧ RelV (.str "*") u
theorem bt_int : bootBuiltins "int" = some (.type "int") := by decide +kernel
theorem bt_bool : bootBuiltins "bool" = some (.type "bool") := by decide +kernel
theorem bt_str : bootBuiltins "str" = some (.type "str") := by decide +kernel
theorem bt_tuple : bootBuiltins "tuple" = some (.type "tuple") := by decide +kernel
theorem bt_list : bootBuiltins "list" = some (.type "list") := by decide +kernel
theorem bt_set : bootBuiltins "set" = some (.type "set") := by decide +kernel
theorem bt_isinstance : bootBuiltins "isinstance" = some (.builtin "isinstance") := by decide +kernel
theorem bt_len : bootBuiltins "len" = some (.builtin "len") := by decide +kernel
theorem bt_all : bootBuiltins "all" = some (.builtin "all") := by decide +kernel
theorem bt_min : bootBuiltins "min" = some (.builtin "min") := by decide +kernel
theorem bt_max : bootBuiltins "max" = some (.builtin "max") := by decide +kernel
theorem bt_sum : bootBuiltins "sum" = some (.builtin "sum") := by decide +kernel
theorem bt_abs : bootBuiltins "abs" = some (.builtin "abs") := by decide +kernel
theorem bt_sorted : bootBuiltins "sorted" = some (.builtin "sorted") := by decide +kernel
section
variable {K : PySem.W.Frag}
theorem kit_ii : PySem.W.kitOne K (.type "int") (.type "int") = some true := kit_ty (by decide +kernel)
theorem kit_ib : PySem.W.kitOne K (.type "int") (.type "bool") = some false := kit_ty (by decide +kernel)
theorem kit_tt : PySem.W.kitOne K (.type "tuple") (.type "tuple") = some true := kit_ty (by decide +kernel)
theorem kit_ss : PySem.W.kitOne K (.type "str") (.type "str") = some true := kit_ty (by decide +kernel)
theorem kit_ni : PySem.W.kitOne K (.type "NoneType") (.type "tuple") = some false := kit_ty (by decide +kernel)
end
/-- isinstance(e, T), T a built-in class -/
def tIsi (K : PySem.W.Frag) (n : String) (te : TE) : TE := tCB (rIsi K) (tCons te (tCons (tC (.ty n)) tNil))
section
variable {X : Cx} {e : Expr} {te : TE} {p pos q : Pos}
theorem p_isi {x : Str} {n : String} (hm : X.mg "isinstance" = none) (hx : X.mg x = none) (hb : bootBuiltins x = some (.type n)) (he : PE X e te) (hg : Gl X "isinstance" := by rfl) (hgx : Gl X x := by rfl) (hn : x ≠ "__name__" := by decide) (hd : (x == ("__debug__" : Str)) = false := by decide)
    (hs : starEach [e, .Name x q] X.env = (false, eval e X.env) :: starEach [.Name x q] X.env := by rfl) (hpl : (backTo pos (starEach [.Name x q] X.env)).any (·.1) = false := by rfl) : PE X (.Call (.Name "isinstance" p) [e, .Name x q] [] pos) (tIsi X.K n te) :=
  pe_callB call_isi hg hm bt_isinstance (pa_cons he (pa_cons (pe_bltn hgx hx hb rfl hn hd) pa_nil) hs) (he := hs) (hpl := hpl)
end
abbrev s_is_integer : Stmt := topS 12
section
variable {P : Program} {w : World} {K : PySem.W.Frag} {mg : Str → Option Value} {base : Heap} {f : Addr} {fd : FuncData}
/-! ### is_integer -/
/-- an int is handed in -/
def sp_is_integer : Sp := fun vs H Q _ => ∃ n : Int, vs = [.int n] ∧ Q (.bl true) H
theorem sc_is_integer : FnScope ["value"] ["value"] (defScope s_is_integer) := ⟨rfl, rfl, rfl, by decide +kernel, rfl, by decide +kernel, by decide +kernel⟩
theorem ok_is_integer (F : Dm K "is_integer" s_is_integer f fd) (T : Tx K mg) : FnOk P w K mg base CX0 1 f fd ["value"] sp_is_integer := by
  refine F.ok sc_is_integer (fun vs H Q E h => ?_) (fun cdv A outer s H vs Q E hr h => ?_)
  · obtain ⟨n, rfl, _⟩ := h
    rfl
  · obtain ⟨n, rfl, q⟩ := h
    refine ⟨_, PSs.nox (pss_one (ps_ret (pe_and (p_isi T.isinstance T.int bt_int (pv 0)) (pe_one (pe_not (p_isi T.isinstance T.bool bt_bool (pv 0))))))), ?_⟩
    refine ⟨_, rfl, _, _, _, _, true, rfl, .ty "int", .base (.int n), kit_ii, true, rfl, iteT ?_⟩
    exact ⟨_, rfl, _, _, _, _, false, rfl, .ty "bool", .base (.int n), kit_ib, false, rfl, q⟩
end
end Q
set_option Elab.async false
set_option linter.all false
set_option maxRecDepth 100000
set_option maxHeartbeats 4000000
/-! ## Rules: operators of one's own, a class by a local name -/
namespace Q
open PySem PySem.Spec PyProof.Rows L2
theorem back_of {P : Value → Shared → Prop} {z : V} {v : Value} {s' : Shared} (r : RelV z v) (h : P v s') : PySem.W.CmpBack P v s' := SlX.cmpback r h
section
variable {X : Cx} {pins : List (Addr × Obj)} {σ : L2.St} {H : Hp} {s : Shared} {a C dx : Addr} {fs : List (Str × V)}
/-- an instance, as OpenK's rules want it -/
theorem inst_of (I : Inv X pins σ H s) (h : H a = some (.ins C dx fs)) : ∃ ox od, PySem.W.InstAt s.heap a ox C (some od) := by
  obtain ⟨mA, O, _⟩ := ins_get I.hok h
  obtain ⟨od, J, _⟩ := O.look
  exact ⟨_, _, J⟩
/-- .. with a dict or with slots -/
theorem inst_any (I : Inv X pins σ H s) (h : StX.InsC X H a C) : ∃ ox od, PySem.W.InstAt s.heap a ox C od := by
  obtain ⟨ox, od, J, _⟩ := StX.insC_at I h
  exact ⟨ox, od, J⟩
end
section
variable {X : Cx} {k : Nat} {C g : Addr} {sp : Sp}
/-- the class's def for an operator: x op y of two instances -/
def rBin2 (X : Cx) (C : Addr) (sp : Sp) : R2 := fun x y H Q => ∃ a b, x = .ref a ∧ y = .ref b ∧ StX.InsC X H a C ∧ StX.InsC X H b C ∧ sp [x, y] H Q E0
theorem op_bin2 {op : Operator} (hc : PySem.W.selfFirst X.K C = true) (hs : PySem.W.findIn X.K (.ref C) (PySem.dunder op.info.2) = some (some (.ref g))) (hf : PySem.W.isFn X.K (.ref g) = true)
    (F : FnR X.prog X.w X.K X.mg X.base CX0 k g sp) (hr : Room k X.A) : OpR X (binaryOp op) (rBin2 X C sp) := by
  intro pins s σ H x y v u Q I rx ry h
  obtain ⟨a, b, rfl, rfl, ha, hb, q⟩ := h
  cases (show v = Value.ref a from rx)
  cases (show u = Value.ref b from ry)
  obtain ⟨ox, od, J⟩ := inst_any I ha
  obtain ⟨oy, oe, J'⟩ := inst_any I hb
  obtain ⟨m, hF⟩ := I.fr
  refine PySem.W.binop_K hF I.ok.mod.kin J J'.type hc hs hf ?_
  refine wpAny_mono (wpAny_call (run_fnR (us := [.ref a, .ref b]) (vs := [.ref a, .ref b]) F hr pass0 I (.cons rfl (.cons rfl .nil)) q)) (fun w s' z => ?_) fun _ _ x => x
  obtain ⟨z', H', I', rz, qz⟩ := z
  exact back_of rz ⟨z', H', I', rz, qz⟩
/-- x op n, n an int -/
def rBinI (X : Cx) (C : Addr) (sp : Sp) : R2 := fun x y H Q => ∃ a n, x = .ref a ∧ y = .int n ∧ StX.InsC X H a C ∧ sp [x, y] H Q E0
theorem op_binI {op : Operator} {fo ro rc : Option Value} (hc : PySem.W.selfFirst X.K C = true) (hs : PySem.W.findIn X.K (.ref C) (PySem.dunder op.info.2) = some (some (.ref g))) (hf : PySem.W.isFn X.K (.ref g) = true)
    (hr' : PySem.W.findIn X.K (.ref C) (dunderR op.info.2) = some rc) (hp : rc = none ∨ ∃ g : Addr, rc = some (.ref g)) (h1 : PySem.W.findIn X.K (.type "int") (PySem.dunder op.info.2) = some fo) (h2 : PySem.W.findIn X.K (.type "int") (dunderR op.info.2) = some ro)
    (hsub : PySem.W.subIn X.K (.type "int") (.ref C) = some false) (F : FnR X.prog X.w X.K X.mg X.base CX0 k g sp) (hr : Room k X.A) : OpR X (binaryOp op) (rBinI X C sp) := by
  intro pins s σ H x y v u Q I rx ry h
  obtain ⟨a, n, rfl, rfl, ha, q⟩ := h
  cases (show v = Value.ref a from rx)
  obtain ⟨t, rfl⟩ := ry
  obtain ⟨ox, od, J⟩ := inst_any I ha
  obtain ⟨m, hF⟩ := I.fr
  refine PySem.W.ksp_binT (T := "int") hF I.ok.mod.kin J rfl hc hs hf hr' hp h1 h2 hsub ?_
  refine wpAny_mono (wpAny_call (run_fnR (us := [.ref a, .int n t]) (vs := [.ref a, .int n]) F hr pass0 I (.cons rfl (.cons ⟨t, rfl⟩ .nil)) q)) (fun w s' z => ?_) fun _ _ x => x
  obtain ⟨z', H', I', rz, qz⟩ := z
  exact back_of rz ⟨z', H', I', rz, qz⟩
/-- -x -/
def rNeg (X : Cx) (C : Addr) (sp : Sp) : V → Hp → VK → Prop := fun x H Q => ∃ a, x = .ref a ∧ StX.InsC X H a C ∧ sp [x] H Q E0
theorem un_negO (hs : PySem.W.findIn X.K (.ref C) "__neg__" = some (some (.ref g))) (hf : PySem.W.isFn X.K (.ref g) = true) (F : FnR X.prog X.w X.K X.mg X.base CX0 k g sp) (hr : Room k X.A) : UnR X (unaryOp .USub) (rNeg X C sp) := by
  intro pins s σ H x v Q I rx h
  obtain ⟨a, rfl, ha, q⟩ := h
  cases (show v = Value.ref a from rx)
  obtain ⟨ox, od, J⟩ := inst_any I ha
  obtain ⟨m, hF⟩ := I.fr
  refine PySem.W.ksp_neg hF I.ok.mod.kin J hs hf ?_
  exact wpAny_call (run_fnR (us := [.ref a]) (vs := [.ref a]) F hr pass0 I (.cons rfl .nil) q)
/-- x != y by the class's own == -/
def rNeO (X : Cx) (C : Addr) (sp : Sp) : R2 := fun x y H Q => ∃ a b, x = .ref a ∧ y = .ref b ∧ StX.InsC X H a C ∧ StX.InsC X H b C ∧ sp [x, y] H (fun v H' => ∃ k, v = .bl k ∧ Q (.bl (!k)) H') E0
theorem op_neO (hn : PySem.W.findIn X.K (.ref C) "__ne__" = some (some (.builtin "object.__ne__"))) (hs : PySem.W.findIn X.K (.ref C) "__eq__" = some (some (.ref g))) (hf : PySem.W.isFn X.K (.ref g) = true) (hm : PySem.W.mroIn X.K C (.type "object") = some true)
    (F : FnR X.prog X.w X.K X.mg X.base CX0 k g sp) (hr : Room (k + 1) X.A) : OpR X (compareOp .NotEq) (rNeO X C sp) := by
  intro pins s σ H x y v u Q I rx ry h
  obtain ⟨a, b, rfl, rfl, ha, hb, q⟩ := h
  cases (show v = Value.ref a from rx)
  cases (show u = Value.ref b from ry)
  obtain ⟨ox, od, J⟩ := inst_any I ha
  obtain ⟨oy, oe, J'⟩ := inst_any I hb
  have hu : X.A.units < cLine := hr.units0
  have hu1 : X.A.in1.units < cLine := (Room.in1 hr).units0
  have K1 := I.kIn
  show wpAny (model X.prog X.w) X.A (richCompare .NotEq (.ref a) (.ref b)) (EP X pins σ Q) X.xe s
  have run : wpAny (model X.prog X.w) X.A.in1 (call (.ref g) [.ref a, .ref b]) (fun v s' => ∃ c, v = Value.bool c ∧ EP X pins σ Q (.bool (!c)) s') X.xe s := by
    refine wpAny_mono (wpAny_call (SlX.run_at (us := [.ref a, .ref b]) (ws := [.ref a, .ref b]) F (Room.in1 hr) I.env0.in1 pass0 I (.cons rfl (.cons rfl .nil)) q)) (fun w s' z => ?_) fun _ _ x => x
    obtain ⟨z', H', I', rz, c, ez, qz⟩ := z
    subst ez
    cases rz
    exact ⟨c, rfl, .bl (!c), H', I', rfl, qz⟩
  unfold richCompare
  simp only [oneThing_ref]
  refine wpAny_holding ?_
  refine wpAny_bind (wpAny_cRoomFor hu ?_)
  rw [cmpInfo_NotEq]
  dsimp only
  refine wpAny_bind (J.type.here (wpAny_bind (J'.type.here ?_)))
  rw [show (Value.ref C != Value.ref C) = false from by simp]
  simp only [Bool.false_eq_true, if_false]
  refine wpAny_bind (wpAny_pure ?_)
  simp only [Bool.false_eq_true, if_false]
  refine wpAny_bind (m := tryCompare (.ref a) "__ne__" (.ref b)) ?_
  unfold tryCompare
  refine wpAny_bind (m := callSpecialIfBound? (.ref a) "__ne__" [.ref b]) ?_
  simp only [callSpecialIfBound?, bindSpecialIfBound?]
  refine wpAny_holding (wpAny_bind (wpAny_bind (wpAny_bind (J.type.here ((PySem.W.looks_findIn K1 hn).here ?_)))))
  have bnd : bindSpecial (.builtin "object.__ne__") (.ref a) = pure (.builtin "object.__ne__", [.ref a]) := PySem.F.cmp_object.ne.bind (.ref a)
  have fin : wpAny (model X.prog X.w) X.A (call (.builtin "object.__ne__") [.ref a, .ref b]) (fun v s' => ∃ c : Bool, v = .bool c ∧ EP X pins σ Q (.bool c) s') X.xe s := by
    refine wpAny_call (codeAny_call_builtin PySem.F.cmp_object.ne.plain PySem.F.cmpEntry_ne (PySem.W.check_slot (i := "object.__ne__") (owner := "object") (n := "__ne__") PySem.F.cmpKind_ne PySem.F.cmpSplit_ne (J.type.andThen (PySem.W.looks_mroIn K1 hm)) (PySem.F.cmpArgs_ne _ _) ?_))
    unfold Builtin.«object.__ne__»
    refine wpAny_bind (m := slotArgs "__ne__" 1 _) (wpAny_pure ?_)
    refine wpAny_bind (m := cRoomFor _ _) (wpAny_cRoomFor hu1 ?_)
    refine wpAny_bind (m := callSpecialIfBound? (.ref a) (Str.ofString "__eq__") _) (PySem.W.ifBound_K K1 J hs hf (wpAny_mono run (fun r s' hq => ?_) fun _ _ y => y))
    obtain ⟨c, rfl, hq⟩ := hq
    dsimp only
    refine wpAny_bind (m := truthy (.bool c)) (wpAny_truthy_bool ?_)
    exact wpAny_pure ⟨_, rfl, hq⟩
  refine wpAny_bind (wpAny_askSetting (wpAny_ite ?_))
  split
  · rw [bnd]
    refine wpAny_bind (wpAny_pure (wpAny_pure ?_))
    refine wpAny_bind (wpAny_mono fin (fun v s' h' => wpAny_pure ?_) fun _ _ h' => h')
    obtain ⟨c, rfl, hq⟩ := h'
    exact wpAny_pure (wpAny_pure hq)
  · rw [bnd]
    refine wpAny_tryCatch (wpAny_bind (wpAny_pure (wpAny_pure ?_)))
    refine wpAny_bind (wpAny_mono fin (fun v s' h' => wpAny_pure ?_) fun _ _ h' => h')
    obtain ⟨c, rfl, hq⟩ := h'
    exact wpAny_pure (wpAny_pure hq)
end
section
variable {X : Cx} {CX : CXT} {k : Nat} {f C : Addr} {fd : FuncData} {ps : List Str} {sp : Sp} {dvs : List V} {ds : List Value} {E : XK} {x : Str} {i : Nat} {p pos : Pos} {e : Expr} {es : List Expr} {t : TA}
/-- cls(e, ..), the class at C in a local name -/
def tMakeV (i : Nat) (C : Addr) (sp : Sp) (dvs : List V) (E : XK) (t : TA) : TE := fun σ H Q => σ[i]? = some (some (.ref C)) ∧ tMake C sp dvs E t σ H Q
theorem pe_makeV (M : Mk X.K C f) (F : FnOk X.prog X.w X.K X.mg X.base CX k f fd ps sp) (hr : Room (k + 1) X.A) (hN : X.N[i]? = some x) (hv : Vis X.env.scope x) (hb : Binds X.K fd ps ds) (hd : Vals dvs ds) (hx : Passes CX X E)
    (ha : PA X (e :: es) t) (hdb : (x == ("__debug__" : Str)) = false := by decide) (hcd : (x == ("__classdict__" : Str)) = false := by decide) (he : starEach (e :: es) X.env = (false, eval e X.env) :: starEach es X.env := by rfl) (hpl : (backTo pos (starEach es X.env)).any (·.1) = false := by rfl) :
    PE X (.Call (.Name x p) (e :: es) [] pos) (tMakeV i C sp dvs E t) := by
  refine ⟨fun pins s σ H Q I h => ?_⟩
  obtain ⟨hσ, h⟩ := h
  refine wpAny_Call_Name_kw (thn ((pe_var (pos := p) hN hv hdb hcd).run pins s σ H (fun v H' => v = .ref C ∧ H' = H) I ⟨_, hσ, rfl, rfl⟩) fun u s0 ⟨v, H0, I0, rv, ev, eH⟩ => ?_)
  subst ev eH
  obtain rfl : u = Value.ref C := rv
  refine PySem.W.callWith_K (h₀ := X.base) I.ok.mod.kin M.kp (thn (ha.run pos pins s0 σ H0 _ I0 h) fun us s1 ⟨vs, H1, I1, r, q⟩ => ⟨I1.kIn, ?_⟩) he hpl
  exact run_make M F hr hb hd hx I1 r q
end
end Q
set_option Elab.async false
set_option linter.all false
set_option maxRecDepth 100000
set_option maxHeartbeats 4000000
/-! ## Rules: match over written texts -/
namespace Q
open PySem PySem.Spec PyProof.Rows L2
abbrev TCs := V → TS
structure PCs (X : Cx) (cs : List MatchCase) (t : TCs) : Prop where
  run : ∀ (first : Bool) (pins : List (Addr × Obj)) (s : Shared) (σ : L2.St) (H : Hp) (D : Ends) (x : V) (v : Value), Inv X pins σ H s → RelV x v → t x D σ H → wpAny (model X.prog X.w) X.A (matchCases cs X.env v first) (SP X pins D) X.xe s
def tMatch (te : TE) (tm : TCs) : TS := fun D σ H => te σ H fun x H1 => tm x D σ H1
def mNil : TCs := fun _ D σ H => D.nx σ H
def mStr (z : Str) (tb : TS) (r : TCs) : TCs := fun x D σ H => ∃ y, x = .str y ∧ if decide (y = z) = true then tb D σ H else r x D σ H
def mAny (tb : TS) : TCs := fun _ D σ H => tb D σ H
section
variable {X : Cx} {e : Expr} {cs : List MatchCase} {body : List Stmt} {te : TE} {tm r : TCs} {tb : TS} {pos pos' pos'' : Pos} {z : Str} {j : Nat}
theorem ps_match (he : PE X e te) (hm : PCs X cs tm) : PS X (.Match e cs pos) (tMatch te tm) := by
  refine ⟨fun pins s σ H D I h => ?_⟩
  refine wpAny_Match (thn (he.run pins s σ H _ I h) fun v s1 ⟨x, H1, I1, rx, q⟩ => ?_)
  exact hm.run true pins s1 σ H1 D x v I1 rx q
theorem pm_nil : PCs X [] mNil := ⟨fun first pins s σ H D x v I rx h => wpAny_matchCases_nil ⟨σ, H, I, h⟩⟩
theorem pm_any (hb : PSs X body tb) : PCs X (⟨.MatchAs none none pos, none, body⟩ :: cs) (mAny tb) := by
  refine ⟨fun first pins s σ H D x v I rx h => ?_⟩
  refine wpAny_matchCases_cons (wpAny_matchPattern_Capture ?_)
  exact wpAny_assignInOrder_none (hb.run pins s σ H D I h)
theorem pm_str (hb : PSs X body tb) (hr : PCs X cs r) : PCs X (⟨.MatchValue (.Constant (.str z) j pos) pos', none, body⟩ :: cs) (mStr z tb r) := by
  refine ⟨fun first pins s σ H D x v I rx h => ?_⟩
  obtain ⟨y, rfl, h⟩ := h
  refine wpAny_matchCases_cons (wpAny_matchPattern_Value ?_)
  refine thn ((pe_str (x := z) (j := j) (pos := pos)).run pins s σ H (fun w H' => w = .str z ∧ H' = H) I ⟨rfl, rfl⟩) fun u s1 ⟨w, H1, I1, rw', ew, eH⟩ => ?_
  subst ew eH
  refine thn (op_eq pins s1 σ H1 (.str y) (.str z) v u (fun w H' => w = .bl (decide (V.str y = V.str z)) ∧ H' = H1) I1 rx rw' ⟨rfl, rfl, rfl⟩) fun c s2 ⟨w, H2, I2, rc, ew, eH⟩ => ?_
  subst ew eH
  obtain rfl : c = Value.bool (decide (V.str y = V.str z)) := rc
  refine wpAny_truthy_bool ?_
  by_cases hyz : y = z
  · rw [if_pos (decide_eq_true hyz)] at h
    rw [if_pos (decide_eq_true (congrArg V.str hyz))]
    exact wpAny_assignInOrder_none (hb.run pins s2 σ H2 D I2 h)
  · have hn : ¬ V.str y = V.str z := fun q => hyz (V.str.inj q)
    rw [if_neg (by rw [decide_eq_false hyz]; exact Bool.false_ne_true)] at h
    rw [if_neg (by rw [decide_eq_false hn]; exact Bool.false_ne_true)]
    exact hr.run false pins s2 σ H2 D (.str y) v I2 rx h
end
end Q
set_option Elab.async false
set_option linter.all false
set_option maxRecDepth 100000
set_option maxHeartbeats 4000000
/-! ## Rules: zip(a, b, strict=True) of two tuples of one length -/
namespace Q
open PySem PySem.Spec PyProof.Rows L2
section
variable {M : Model} {A : Around} {E : Value → Shared → Prop} {s : Shared} {env : Env}
theorem callWith_tyKw {pos : Pos} {T : String} {e : Expr} {rest : List Expr} {kws : List Keyword} {Q : Value → Shared → Prop}
    (h : wpAny M A (spliced (backTo pos (starEach (e :: rest) env))) (fun vs s₁ => wpAny M A (evalAll ((backToKw pos (keywordEach kws env)).map (·.2)))
      (fun ks s₂ => wpAny M A (call (.type T) vs (((backToKw pos (keywordEach kws env)).filterMap (·.1)).zip ks)) Q E s₂) E s₁) E s)
    (he : backTo pos (starEach (e :: rest) env) = (false, eval e env) :: backTo pos (starEach rest env)) (hp : (backTo pos (starEach (e :: rest) env)).any (·.1) = false)
    (ha : (backToKw pos (keywordEach kws env)).all (·.1.isSome) = true) (hn : (backToKw pos (keywordEach kws env)).any (·.1.isNone) = false) :
    wpAny M A (callWith pos (.type T) [] (backTo pos (starEach (e :: rest) env)) (backToKw pos (keywordEach kws env))) Q E s := by
  have h2 : wpAny M A (evalArgs (.type T) true (backTo pos (starEach (e :: rest) env)) (backToKw pos (keywordEach kws env))) (fun a s₁ => wpAny M A (call (.type T) ([] ++ a.pos) a.kw) Q E s₁) E s := by
    rw [he] at h ⊢
    exact evalArgs_kwB ha h
  unfold callWith
  refine wpAny_bind (wpAny_holding (wpAny_mono h2 (fun a s1 h1 => wpAny_bind (wpAny_standAt ?_)) fun _ _ x => x))
  simp only [hp, hn, Bool.or_false]
  refine wpAny_bind (wpAny_pure ?_)
  exact wpAny_bind (wpAny_mono h1 (fun r s2 hr => wpAny_bind (wpAny_holding (wpAny_point (wpAny_pure hr)))) fun _ _ x => x)
end
/-- the record of such a zip -/
abbrev ZipS (h : Heap) (z TI TO : Addr) (f0 : Value) : Prop :=
  h.get? z = some { cls := .type "zip", dict := none, data := .fields #[f0, .bool false, .bool true, .ref TI, .ref TO], slots := #[] }
theorem typeCall_zipS (a b c : Value) : checkTypeCall "zip" ⟨[a, b], [("strict", c)]⟩ = pure () := by kernel_rfl
theorem newCall_zipS (a b c : Value) : checkBuiltinCall "zip.__new__" ⟨[.type "zip", a, b], [("strict", c)]⟩ = pure () := by kernel_rfl
theorem args_initS (o a b c : Value) : argsOk "object.__init__" ⟨[o, a, b], [("strict", c)]⟩ := by unfold argsOk; kernel_rfl
abbrev zS1 (h : Heap) (l1 : Addr) : Heap := h.push { cls := .type "tuple_iterator", data := .fields #[.ref l1, .int 0 0] }
abbrev zS2 (h : Heap) (l1 l2 : Addr) : Heap := (zS1 h l1).push { cls := .type "tuple_iterator", data := .fields #[.ref l2, .int 0 0] }
abbrev zS3 (h : Heap) (l1 l2 : Addr) : Heap := (zS2 h l1 l2).push { cls := .type "tuple", data := .seq #[.ref h.objs.size, .ref (zS1 h l1).objs.size] }
abbrev zS4 (h : Heap) (l1 l2 : Addr) : Heap := (zS3 h l1 l2).push { cls := .type "tuple", data := .seq #[.none, .none] }
abbrev zS5 (h : Heap) (l1 l2 : Addr) : Heap := (zS4 h l1 l2).push { cls := .type "zip", data := .fields #[.none, .bool false, .bool true, .ref (zS2 h l1 l2).objs.size, .ref (zS3 h l1 l2).objs.size] }
theorem meets_zipS (l1 l2 : Addr) (xs ys : Array Value) : Meets (Builtin.«zip.__new__» ⟨[.type "zip", .ref l1, .ref l2], [("strict", .bool true)]⟩) (fun _ R s => s.heap.IsTuple l1 xs ∧ s.heap.IsTuple l2 ys ∧
      R (.ok (.ret (.ref (zS4 s.heap l1 l2).objs.size))) { s with heap := zS5 s.heap l1 l2 }) :=
  .of_wp fun prog w A R s h => by
    obtain ⟨hp, g, d, tk, os⟩ := s
    obtain ⟨hl1, hl2, h⟩ := h
    have hsub := sub_zip
    have hA : Heap.IsTuple (Shared.heap ⟨hp, g, d, tk, os⟩) l1 xs := hl1
    have hB : Heap.IsTuple (Shared.heap ⟨hp.push { cls := .type "tuple_iterator", data := .fields #[.ref l1, .int 0 0] }, g, d, tk, os⟩) l2 ys := Heap.IsTuple.push hl2 _
    have e2 : (("strict" : Str) != ("strict" : Str)) = false := by decide +kernel
    wp_walk using wpAny_pyIter_tuple hA, wpAny_pyIter_tuple hB
    exact ⟨_, rfl, h⟩
section
variable {prog : Program} {w : World} {A : Around} {E : Value → Shared → Prop} {s : Shared}
theorem call_zipS {l1 l2 : Addr} {xs ys : Array Value} {Q : Value → Shared → Prop} (hl1 : s.heap.IsTuple l1 xs) (hl2 : s.heap.IsTuple l2 ys)
    (h : ∀ h', ZipS h' (s.heap.objs.size + 4) (s.heap.objs.size + 2) (s.heap.objs.size + 3) .none → IsPair h' (s.heap.objs.size + 2) (.ref s.heap.objs.size) (.ref (s.heap.objs.size + 1)) →
      IsPair h' (s.heap.objs.size + 3) .none .none → h'.IsTupleIter s.heap.objs.size l1 0 → h'.IsTupleIter (s.heap.objs.size + 1) l2 0 →
      (∀ c o, s.heap.get? c = some o → h'.get? c = some o) → Q (.ref (s.heap.objs.size + 4)) { s with heap := h' }) :
    wpAny (model prog w) A (call (.type "zip") [.ref l1, .ref l2] [("strict", .bool true)]) Q E s := by
  refine callType_newKw PySem.F.called_zip (by decide) (typeCall_zipS _ _ _) (newCall_zipS _ _ _) (fun obj => args_initS obj _ _ _) PySem.F.entry_zip_new (meets_zipS l1 l2 xs ys) ⟨hl1, hl2, ?_⟩
  have z1 : (zS1 s.heap l1).objs.size = s.heap.objs.size + 1 := Heap.size_push ..
  have z2 : (zS2 s.heap l1 l2).objs.size = s.heap.objs.size + 2 := by rw [Heap.size_push, z1]
  have z3 : (zS3 s.heap l1 l2).objs.size = s.heap.objs.size + 3 := by rw [Heap.size_push, z2]
  have z4 : (zS4 s.heap l1 l2).objs.size = s.heap.objs.size + 4 := by rw [Heap.size_push, z3]
  have up1 : ∀ {h : Heap} {o : Obj} {c : Addr} {u : Obj}, h.get? c = some u → (h.push o).get? c = some u := fun e => Heap.get?_push_of_some _ e
  have g5 : (zS5 s.heap l1 l2).get? (zS4 s.heap l1 l2).objs.size = some _ := Heap.get?_push_size _ rfl
  have g4 : (zS5 s.heap l1 l2).get? (zS3 s.heap l1 l2).objs.size = some _ := up1 (Heap.get?_push_size _ rfl)
  have g3 : (zS5 s.heap l1 l2).get? (zS2 s.heap l1 l2).objs.size = some _ := up1 (up1 (Heap.get?_push_size _ rfl))
  have g2 : (zS5 s.heap l1 l2).get? (zS1 s.heap l1).objs.size = some _ := up1 (up1 (up1 (Heap.get?_push_size _ rfl)))
  have g1 : (zS5 s.heap l1 l2).get? s.heap.objs.size = some _ := up1 (up1 (up1 (up1 (Heap.get?_push_size _ rfl))))
  show _ ∧ _
  rw [z2, z3, z4] at g5
  rw [z1, z2] at g3
  rw [z3] at g4
  rw [z1] at g2
  rw [z4]
  exact ⟨⟨_, g5, rfl⟩, h _ g5 g3 g4 ⟨_, g1, rfl, rfl⟩ ⟨_, g2, rfl, rfl⟩ fun c o x => up1 (up1 (up1 (up1 (up1 x))))⟩
/-- one draw -/
theorem end_item {it l : Addr} {i : Nat} {items} {x : Value} {Q : Option Value → Shared → Prop} (hit : s.heap.IsTupleIter it l i) (hl : s.heap.IsTuple l items) (hx : items[i]? = some x)
    (hQ : ∀ h', h'.IsTupleIter it l (i + 1) → Heap.SameBut it s.heap h' → Q (some x) { s with heap := h' }) : wpAny (model prog w) A (Builtin.SmallTypes.nextOrEnd (.ref it)) Q E s := by
  unfold Builtin.SmallTypes.nextOrEnd
  refine wpAny_bind (wpAny_attempt (RZ.nextOf_tuple_item hit hl hx fun h' a b => ?_))
  exact wpAny_pure (hQ h' a b)
theorem end_end {it l : Addr} {i : Nat} {items} {Q : Option Value → Shared → Prop} (hh : A.handled = none) (hit : s.heap.IsTupleIter it l i) (hl : s.heap.IsTuple l items) (hx : items[i]? = none)
    (hQ : ∀ h', Heap.ExtBut it s.heap h' → Q none { s with heap := h' }) : wpAny (model prog w) A (Builtin.SmallTypes.nextOrEnd (.ref it)) Q E s := by
  unfold Builtin.SmallTypes.nextOrEnd
  refine wpAny_bind (wpAny_attempt (RZ.nextOf_tuple_end hh hit hl hx fun h' e a b => ?_))
  obtain ⟨o, ho, hc⟩ := b
  refine wpAny_bind (wpAny_isInstance (T := "StopIteration") (b := true) ⟨o, ho, hc⟩ isSubtype_stop ?_)
  rw [if_pos rfl]
  exact wpAny_pure (hQ h' a)
end
end Q
set_option Elab.async false
set_option linter.all false
set_option maxRecDepth 100000
set_option maxHeartbeats 4000000
namespace Q
open PySem PySem.Spec PyProof.Rows L2
section
variable {prog : Program} {w : World} {A : Around} {E : Value → Shared → Prop} {s : Shared}
theorem zipS_item {z TI TO i1 i2 l1 l2 : Addr} {k1 k2 : Nat} {xs ys : Array Value} {x y a b : Value} {Q : Value → Shared → Prop} (D : ZipApart z TI TO i1 i2 l1 l2)
    (hz : ZipS s.heap z TI TO .none) (hTI : IsPair s.heap TI (.ref i1) (.ref i2)) (hTO : IsPair s.heap TO a b) (h1 : s.heap.IsTupleIter i1 l1 k1) (h2 : s.heap.IsTupleIter i2 l2 k2)
    (hl1 : s.heap.IsTuple l1 xs) (hl2 : s.heap.IsTuple l2 ys) (hx : xs[k1]? = some x) (hy : ys[k2]? = some y)
    (hQ : ∀ h', ZipS h' z TI TO (rawInt s.heap.objs.size) → IsPair h' TO x y → h'.IsTupleIter i1 l1 (k1 + 1) → h'.IsTupleIter i2 l2 (k2 + 1) → IsPair h' s.heap.objs.size x y →
      (∀ c o, c ≠ z → c ≠ TO → c ≠ i1 → c ≠ i2 → s.heap.get? c = some o → h'.get? c = some o) → Q (.ref s.heap.objs.size) { s with heap := h' }) :
    wpAny (model prog w) A (Builtin.«zip.__next__» ⟨[.ref z], []⟩) (fun fin s' => ∃ v, fin = .done (.ret v) ∧ Q v s') E s := by
  show wpAny _ _ (field (.ref z) 2 >>= _) _ _ _
  refine wpAny_bind (wpAny_field hz rfl (x := .bool true) rfl ?_)
  show wpAny _ _ (field (.ref z) 3 >>= _) _ _ _
  refine wpAny_bind (wpAny_field hz rfl (x := .ref TI) rfl (wpAny_bind (wpAny_seqItems hTI rfl ?_)))
  show wpAny _ _ (Builtin.SmallTypes.ownedTupleIsFree (.ref z) >>= _) _ _ _
  refine wpAny_bind ?_
  unfold Builtin.SmallTypes.ownedTupleIsFree
  refine wpAny_bind (wpAny_field hz rfl (x := .none) rfl (wpAny_pure ?_))
  simp only [if_true]
  refine wpAny_bind (wpAny_rule (wpAny_bind (wpAny_field hz rfl (x := .ref TO) rfl (wpAny_bind (wpAny_setField_rec hz (by simp) fun g1 z1 b1 => ?_)))))
  replace z1 : ZipS g1 z TI TO .ellipsis := z1
  refine wpAny_bind ?_
  simp only [List.zipIdx_cons, List.zipIdx_nil, List.forIn_cons, List.forIn_nil]
  refine wpAny_bind (wpAny_bind (wpAny_onRaise ?_))
  show wpAny _ _ (Builtin.SmallTypes.nextOrEnd (.ref i1)) _ _ _
  refine end_item (h1.extBut b1.extBut D.i1z) (hl1.extBut b1.extBut D.l1z) hx fun g2 q1 b2 => ?_
  have t2 : IsPair g2 TO a b := b2.extBut _ _ D.TOi1 (b1.extBut _ _ D.TOz hTO)
  refine wpAny_bind (wpAny_seqItems t2 rfl (wpAny_bind (wpAny_updateSeq_pair t2 fun g3 t3 b3 => wpAny_bind (wpAny_letGo (wpAny_pure ?_)))))
  replace t3 : IsPair g3 TO x b := t3
  refine wpAny_bind (wpAny_bind (wpAny_onRaise ?_))
  show wpAny _ _ (Builtin.SmallTypes.nextOrEnd (.ref i2)) _ _ _
  refine end_item (((h2.extBut b1.extBut D.i2z).extBut b2.extBut D.i12.symm).extBut b3.extBut D.TOi2.symm) (((hl2.extBut b1.extBut D.l2z).extBut b2.extBut D.l2i1).extBut b3.extBut D.l2TO) hy fun g4 q2 b4 => ?_
  have t4 : IsPair g4 TO x b := b4.extBut _ _ D.TOi2 t3
  refine wpAny_bind (wpAny_seqItems t4 rfl (wpAny_bind (wpAny_updateSeq_pair t4 fun g5 t5 b5 => wpAny_bind (wpAny_letGo (wpAny_pure (wpAny_pure ?_))))))
  replace t5 : IsPair g5 TO x y := t5
  refine wpAny_bind (wpAny_seqItems t5 rfl (wpAny_bind (wpAny_newTuple ?_)))
  have sz : g5.objs.size = s.heap.objs.size := by rw [b5.1, b4.1, b3.1, b2.1, b1.1]
  have z5 : ZipS g5 z TI TO .ellipsis := b5.extBut _ _ D.TOz.symm (b4.extBut _ _ D.i2z.symm (b3.extBut _ _ D.TOz.symm (b2.extBut _ _ D.i1z.symm z1)))
  have k5 : ∀ c o, c ≠ z → c ≠ TO → c ≠ i1 → c ≠ i2 → s.heap.get? c = some o → g5.get? c = some o := fun c o c1 c2 c3 c4 e => b5.extBut _ _ c2 (b4.extBut _ _ c4 (b3.extBut _ _ c2 (b2.extBut _ _ c3 (b1.extBut _ _ c1 e))))
  have q15 : g5.IsTupleIter i1 l1 (k1 + 1) := ((q1.extBut b3.extBut D.TOi1.symm).extBut b4.extBut D.i12).extBut b5.extBut D.TOi1.symm
  have q25 : g5.IsTupleIter i2 l2 (k2 + 1) := q2.extBut b5.extBut D.TOi2.symm
  show wpAny _ _ (Builtin.SmallTypes.ownedTupleHandOut (.ref z) (.ref g5.objs.size) >>= _) _ _ _
  refine wpAny_bind ?_
  unfold Builtin.SmallTypes.ownedTupleHandOut
  have z6 : ZipS (g5.push { cls := .type "tuple", data := .seq #[x, y] }) z TI TO .ellipsis := Heap.get?_push_of_some _ z5
  refine wpAny_bind (wpAny_setField_rec z6 (by simp) fun g7 z7 b7 => ?_)
  replace z7 : ZipS g7 z TI TO (rawInt g5.objs.size) := z7
  refine wpAny_setField_rec z7 (by simp) fun g8 z8 b8 => ?_
  replace z8 : ZipS g8 z TI TO (rawInt g5.objs.size) := z8
  have up : ∀ c o, c ≠ z → g5.get? c = some o → g8.get? c = some o := fun c o c1 e => b8.extBut _ _ c1 (b7.extBut _ _ c1 (Heap.get?_push_of_some _ e))
  have T8 : IsPair g8 g5.objs.size x y := b8.extBut _ _ (Nat.ne_of_gt (Heap.lt_size z5)) (b7.extBut _ _ (Nat.ne_of_gt (Heap.lt_size z5)) (Heap.get?_push_size _ rfl))
  rw [sz] at z8 T8
  refine wpAny_pure ⟨_, rfl, ?_⟩
  show Q (.ref g5.objs.size) _
  rw [sz]
  exact hQ g8 z8 (up _ _ D.TOz t5) (q15.at fun o e => up _ o D.i1z e) (q25.at fun o e => up _ o D.i2z e) T8 fun c o c1 c2 c3 c4 e => up c o c1 (k5 c o c1 c2 c3 c4 e)
theorem stop_raises {α : Type} {Q : α → Shared → Prop} (hh : A.handled = none) (hE : ∀ h' e, (∀ c o, s.heap.get? c = some o → h'.get? c = some o) → (∃ o, h'.get? e = some o ∧ o.cls = .type "StopIteration") → E (.ref e) { s with heap := h' }) :
    wpAny (model prog w) A (Builtin.SmallTypes.stopIteration : Sem α) Q E s := by
  show wpAny _ _ (newExc (.type "StopIteration") [] >>= _) _ _ _
  refine wpAny_bind ?_
  simp only [newExc, newTuple]
  refine wpAny_bind (wpAny_newObj_type ?_ (by size_fits))
  refine wpAny_bind (m := firstArgMember _ _) (wpAny_of_eq (a := Value.none) (by first | rfl | (simp only [firstArgMember]; rfl)) (wpAny_newObj_type ?_ (by size_fits)))
  simp only [raiseNew]
  refine wpAny_bind (wpAny_handled ?_)
  rw [hh]
  refine wpAny_bind (wpAny_pure (wpAny_throw ?_))
  exact hE _ _ (fun c o x => Heap.get?_push_of_some _ (Heap.get?_push_of_some _ x)) ⟨_, Heap.get?_push_size _ rfl, rfl⟩
theorem zipS_end {z TI TO i1 i2 l1 l2 : Addr} {k : Nat} {xs ys : Array Value} {Q : PySem.Fin → Shared → Prop} (hh : A.handled = none) (D : ZipApart z TI TO i1 i2 l1 l2)
    (hz : ZipS s.heap z TI TO .none) (hTI : IsPair s.heap TI (.ref i1) (.ref i2)) (h1 : s.heap.IsTupleIter i1 l1 k) (h2 : s.heap.IsTupleIter i2 l2 k)
    (hl1 : s.heap.IsTuple l1 xs) (hl2 : s.heap.IsTuple l2 ys) (hx : xs[k]? = none) (hy : ys[k]? = none)
    (hE : ∀ h' e, (∀ c o, c ≠ z → c ≠ TO → c ≠ i1 → c ≠ i2 → s.heap.get? c = some o → h'.get? c = some o) → (∃ o, h'.get? e = some o ∧ o.cls = .type "StopIteration") → E (.ref e) { s with heap := h' }) :
    wpAny (model prog w) A (Builtin.«zip.__next__» ⟨[.ref z], []⟩) Q E s := by
  show wpAny _ _ (field (.ref z) 2 >>= _) _ _ _
  refine wpAny_bind (wpAny_field hz rfl (x := .bool true) rfl ?_)
  show wpAny _ _ (field (.ref z) 3 >>= _) _ _ _
  refine wpAny_bind (wpAny_field hz rfl (x := .ref TI) rfl (wpAny_bind (wpAny_seqItems hTI rfl ?_)))
  show wpAny _ _ (Builtin.SmallTypes.ownedTupleIsFree (.ref z) >>= _) _ _ _
  refine wpAny_bind ?_
  unfold Builtin.SmallTypes.ownedTupleIsFree
  refine wpAny_bind (wpAny_field hz rfl (x := .none) rfl (wpAny_pure ?_))
  simp only [if_true]
  refine wpAny_bind (wpAny_rule (wpAny_bind (wpAny_field hz rfl (x := .ref TO) rfl (wpAny_bind (wpAny_setField_rec hz (by simp) fun g1 z1 b1 => ?_)))))
  replace z1 : ZipS g1 z TI TO .ellipsis := z1
  refine wpAny_bind ?_
  simp only [List.zipIdx_cons, List.zipIdx_nil, List.forIn_cons, List.forIn_nil]
  refine wpAny_bind (wpAny_bind (wpAny_onRaise ?_))
  show wpAny _ _ (Builtin.SmallTypes.nextOrEnd (.ref i1)) _ _ _
  refine end_end hh (h1.extBut b1.extBut D.i1z) (hl1.extBut b1.extBut D.l1z) hx fun g2 b2 => ?_
  have z2 : ZipS g2 z TI TO .ellipsis := b2 _ _ D.i1z.symm z1
  refine wpAny_bind (wpAny_setField_rec z2 (by simp) fun g3 _ b3 => ?_)
  refine wpAny_bind (wpAny_bind ?_)
  show wpAny _ _ (forIn ([(Value.ref i2, 1)] : List (Value × Nat)) PUnit.unit _) _ _ _
  rw [List.forIn_cons]
  have r2 : Heap.IsTupleIter g3 i2 l2 k := ((h2.extBut b1.extBut D.i2z).at fun o e => b2 _ _ D.i12.symm e).extBut b3.extBut D.i2z
  have L2 : Heap.IsTuple g3 l2 ys := ((hl2.extBut b1.extBut D.l2z).at fun o e => b2 _ _ D.l2i1 e).extBut b3.extBut D.l2z
  refine wpAny_bind ?_
  show wpAny _ _ (Builtin.SmallTypes.nextOrEnd (.ref i2) >>= _) _ _ _
  refine wpAny_bind (end_end hh r2 L2 hy fun g4 b4 => ?_)
  rw [if_neg (by simp)]
  refine wpAny_pure (wpAny_pure (wpAny_bind (wpAny_rule (stop_raises hh fun h' e a he => ?_))))
  exact hE h' e (fun c o c1 c2 c3 c4 x => a _ _ (b4 _ _ c4 (b3.extBut _ _ c1 (b2 _ _ c3 (b1.extBut _ _ c1 x))))) he
end
end Q
set_option Elab.async false
set_option linter.all false
set_option maxRecDepth 100000
set_option maxHeartbeats 4000000
namespace Q
open PySem PySem.Spec PyProof.Rows L2
section
variable {prog : Program} {w : World} {A : Around} {E : Value → Shared → Prop} {s : Shared}
theorem next_zipS_item {z TI TO i1 i2 l1 l2 : Addr} {k1 k2 : Nat} {xs ys : Array Value} {x y a b : Value} {Q : Option Value → Shared → Prop} (D : ZipApart z TI TO i1 i2 l1 l2)
    (hz : ZipS s.heap z TI TO .none) (hTI : IsPair s.heap TI (.ref i1) (.ref i2)) (hTO : IsPair s.heap TO a b) (h1 : s.heap.IsTupleIter i1 l1 k1) (h2 : s.heap.IsTupleIter i2 l2 k2)
    (hl1 : s.heap.IsTuple l1 xs) (hl2 : s.heap.IsTuple l2 ys) (hx : xs[k1]? = some x) (hy : ys[k2]? = some y)
    (hQ : ∀ h', ZipS h' z TI TO (rawInt s.heap.objs.size) → IsPair h' TO x y → h'.IsTupleIter i1 l1 (k1 + 1) → h'.IsTupleIter i2 l2 (k2 + 1) → IsPair h' s.heap.objs.size x y →
      (∀ c o, c ≠ z → c ≠ TO → c ≠ i1 → c ≠ i2 → s.heap.get? c = some o → h'.get? c = some o) → Q (some (.ref s.heap.objs.size)) { s with heap := h' }) :
    wpAny (model prog w) A (pyNext (.ref z)) Q E s := by
  have ty : s.TypeIs (.ref z) "zip" := ⟨_, hz, rfl⟩
  unfold pyNext
  exact wpAny_bind (wpAny_attempt (wpAny_callSpecial?_slot (name := Str.ofString "__next__") ty PySem.F.slot_zip_next (wpAny_call_entry PySem.F.slot_zip_next ty PySem.F.entry_zip_next
    (zipS_item D hz hTI hTO h1 h2 hl1 hl2 hx hy fun h' a1 a2 a3 a4 a5 a6 => wpAny_pure (hQ h' a1 a2 a3 a4 a5 a6)) (PySem.F.args_zip_next_1 _))))
theorem next_zipS_end {z TI TO i1 i2 l1 l2 : Addr} {k : Nat} {xs ys : Array Value} {Q : Option Value → Shared → Prop} (hh : A.handled = none) (D : ZipApart z TI TO i1 i2 l1 l2)
    (hz : ZipS s.heap z TI TO .none) (hTI : IsPair s.heap TI (.ref i1) (.ref i2)) (h1 : s.heap.IsTupleIter i1 l1 k) (h2 : s.heap.IsTupleIter i2 l2 k)
    (hl1 : s.heap.IsTuple l1 xs) (hl2 : s.heap.IsTuple l2 ys) (hx : xs[k]? = none) (hy : ys[k]? = none)
    (hQ : ∀ h', (∀ c o, c ≠ z → c ≠ TO → c ≠ i1 → c ≠ i2 → s.heap.get? c = some o → h'.get? c = some o) → Q none { s with heap := h' }) : wpAny (model prog w) A (pyNext (.ref z)) Q E s := by
  have ty : s.TypeIs (.ref z) "zip" := ⟨_, hz, rfl⟩
  unfold pyNext
  refine wpAny_bind (wpAny_attempt (wpAny_callSpecial?_slot (name := Str.ofString "__next__") ty PySem.F.slot_zip_next (wpAny_call_entry PySem.F.slot_zip_next ty PySem.F.entry_zip_next
    (zipS_end hh D hz hTI h1 h2 hl1 hl2 hx hy fun h' e hk he => ?_) (PySem.F.args_zip_next_1 _))))
  obtain ⟨o, ho, hc⟩ := he
  exact wpAny_bind (wpAny_isInstance (T := "StopIteration") (b := true) ⟨o, ho, hc⟩ isSubtype_stop (wpAny_pure (hQ _ hk)))
theorem go_zipS {elts : List Expr} {x1} {pos : Pos} {z TI TO T : Addr} {Q : Unit → Shared → Prop} (hz : ZipS s.heap z TI TO (rawInt T)) (hQ : ∀ h', ZipS h' z TI TO .none → Heap.SameBut z s.heap h' → Q () { s with heap := h' }) :
    wpAny (model prog w) A (letOwnedTupleGo (.Tuple elts x1 pos) (.ref z) (.ref T)) Q E s := by
  unfold letOwnedTupleGo
  refine wpAny_bind (wpAny_load hz ?_)
  show wpAny _ _ (if (["enumerate", "zip", "dict_itemiterator", "dict_reverseitemiterator", "odict_iterator", "itertools.zip_longest", "itertools.pairwise"].contains "zip" && (#[rawInt T, .bool false, .bool true, .ref TI, .ref TO] : Array Value)[0]? == some (rawInt T)) = true then _ else _) Q E s
  rw [if_pos (by simp)]
  refine wpAny_bind (wpAny_rule ?_)
  show wpAny _ _ (setField (.ref z) 0 .none) Q E s
  exact wpAny_setField_rec hz (by simp) fun h' hz' hs' => hQ h' hz' hs'
theorem iter_zipS {z TI TO : Addr} {f0 : Value} {Q : Value → Shared → Prop} (hz : ZipS s.heap z TI TO f0) (h : Q (.ref z) s) : wpAny (model prog w) A (pyIter (.ref z)) Q E s := by
  have ty : s.TypeIs (.ref z) "zip" := ⟨_, hz, rfl⟩
  refine wpAny_pyIter_slot ty PySem.F.slot_zip_iter (wpAny_call_entry PySem.F.slot_zip_iter ty PySem.F.entry_zip_iter ?_ (PySem.F.args_zip_iter_1 _))
  show wpAny _ _ (ret (.ref z)) _ _ s
  exact wpAny_pure ⟨_, rfl, "zip", _, ty, PySem.F.slot_zip_next.lookup, h⟩
end
/-- the tuples at a and b, of one length -/
def ItzS (K : PySem.W.Frag) (a b : Addr) : It :=
  ⟨fun i H => ∃ (xs ys : List V) (x y : V), SqT K H a xs ∧ SqT K H b ys ∧ xs[i]? = some x ∧ ys[i]? = some y,
    fun i H v H' => ∃ T x y, v = .ref T ∧ H T = none ∧ H' = upd H T (.tup [x, y]) ∧ (∀ xs, SqT K H a xs → xs[i]? = some x) ∧ ∀ ys, SqT K H b ys → ys[i]? = some y,
    fun i H => ∃ xs ys : List V, SqT K H a xs ∧ SqT K H b ys ∧ xs.length ≤ i ∧ ys.length ≤ i⟩
def TnZ (a b z TI TO i1 i2 : Addr) (i : Nat) (h : Heap) : Prop := ZipS h z TI TO .none ∧ IsPair h TI (.ref i1) (.ref i2) ∧ (∃ x y, IsPair h TO x y) ∧ h.IsTupleIter i1 a i ∧ h.IsTupleIter i2 b i
theorem five {z TI TO i1 i2 c : Addr} (h : c ∈ [z, TI, TO, i1, i2]) : c = z ∨ c = TI ∨ c = TO ∨ c = i1 ∨ c = i2 := by simpa using h
theorem turn_zipS {P : Program} {w : World} {K : PySem.W.Frag} {elts : List Expr} {kk : Nat} {tpos : Pos} {a b z TI TO i1 i2 : Addr} (D : ZipApart z TI TO i1 i2 a b) :
    Turn P w K (.Tuple elts kk tpos) (ItzS K a b) [z, TI, TO, i1, i2] z (TnZ a b z TI TO i1 i2) where
  mem := List.mem_cons_self
  obj := fun i h st c hc => by
    obtain ⟨hz, hTI, ⟨x, y, hTO⟩, ⟨o1, e1, _, d1⟩, ⟨o2, e2, _, d2⟩⟩ := st
    rcases five hc with q | q | q | q | q <;> rw [q]
    · exact ⟨_, hz, fun v q => nomatch q⟩
    · exact ⟨_, hTI, fun v q => nomatch q⟩
    · exact ⟨_, hTO, fun v q => nomatch q⟩
    · exact ⟨o1, e1, fun v q => by rw [d1] at q; cases q⟩
    · exact ⟨o2, e2, fun v q => by rw [d2] at q; cases q⟩
  keep := fun i h h' st k => by
    obtain ⟨hz, hTI, ⟨x, y, hTO⟩, h1, h2⟩ := st
    exact ⟨k z (by simp) _ hz, k TI (by simp) _ hTI, ⟨x, y, k TO (by simp) _ hTO⟩, h1.at fun o q => k i1 (by simp) o q, h2.at fun o q => k i2 (by simp) o q⟩
  item := by
    intro X hP hw hK hc i pins s σ H E I hf st hg
    subst hP hw hK
    obtain ⟨hz, hTI, ⟨x0, y0, hTO⟩, h1, h2⟩ := st
    obtain ⟨xs, ys, x, y, hqx, hqy, hx, hy⟩ := hg
    obtain ⟨its, rv, p, _⟩ := I.tuple hqx
    obtain ⟨its2, rv2, p2, _⟩ := I.tuple hqy
    obtain ⟨u, hu, ru⟩ := rv.get hx
    obtain ⟨u2, hu2, ru2⟩ := rv2.get hy
    refine next_zipS_item D hz hTI hTO h1 h2 p p2 (x := u) (y := u2) (by simpa using hu) (by simpa using hu2) fun h' z' TO' h1' h2' hT hk => ?_
    refine ⟨_, rfl, go_zipS (s := { s with heap := h' }) z' fun g z'' sb => ?_⟩
    have hT2 : g.get? s.heap.objs.size = some { cls := .type "tuple", data := .seq #[u, u2] } := (sb.2 _ (Nat.ne_of_gt (Heap.lt_size hz))).trans hT
    have new : ObjOk X.prog X.w (upd H s.heap.objs.size (.tup [x, y])) g s.heap.objs.size (.tup [x, y]) := ⟨by show 2 ≤ sizeLine; decide, [u, u2], .cons ru (.cons ru2 .nil), ⟨_, hT2, rfl, _, rfl⟩⟩
    have nm : ∀ {c : Addr}, c ∉ [z, TI, TO, i1, i2] → c ≠ z ∧ c ≠ TI ∧ c ≠ TO ∧ c ≠ i1 ∧ c ≠ i2 := fun hb => by
      simp only [List.mem_cons, List.not_mem_nil, or_false, not_or] at hb
      exact hb
    have I1 : Inv X pins σ (upd H s.heap.objs.size (.tup [x, y])) { s with heap := g } :=
      I.turnedNew (t' := s.toks) (ch := [z, TI, TO, i1, i2]) (fun c o hb q => (sb.2 c (nm hb).1).trans (hk c o (nm hb).1 (nm hb).2.2.1 (nm hb).2.2.2.1 (nm hb).2.2.2.2 q)) hf (Nat.le_refl _) new
    refine ⟨.ref s.heap.objs.size, _, I1, rfl, ⟨_, x, y, rfl, I.hok.fresh (Nat.le_refl _), rfl, fun l hl => by rw [I.tuple_inj hl hqx]; exact hx, fun l hl => by rw [I.tuple_inj hl hqy]; exact hy⟩, ⟨z'', ?_, ⟨u, u2, (sb.2 _ D.TOz).trans TO'⟩, h1'.at fun o q => (sb.2 _ D.i1z).trans q, h2'.at fun o q => (sb.2 _ D.i2z).trans q⟩, fun c hcm => ?_⟩
    · exact (sb.2 _ D.TIz).trans (hk _ _ D.TIz D.TITO D.TIi1 D.TIi2 hTI)
    · have hlt : c < s.heap.objs.size := by
        obtain ⟨_, e1, _⟩ := h1
        obtain ⟨_, e2, _⟩ := h2
        rcases five hcm with q | q | q | q | q <;> rw [q]
        · exact Heap.lt_size hz
        · exact Heap.lt_size hTI
        · exact Heap.lt_size hTO
        · exact Heap.lt_size e1
        · exact Heap.lt_size e2
      rw [upd_ne (Nat.ne_of_lt hlt)]
      exact (hf c hcm).1
  done := by
    intro X hP hw hK hc i pins s σ H E I hf st hg
    subst hP hw hK
    obtain ⟨hz, hTI, ⟨x0, y0, hTO⟩, h1, h2⟩ := st
    obtain ⟨xs, ys, hqx, hqy, e1, e2⟩ := hg
    obtain ⟨its, rv, p, _⟩ := I.tuple hqx
    obtain ⟨its2, rv2, p2, _⟩ := I.tuple hqy
    have l1 := rv.length
    have l2 := rv2.length
    refine next_zipS_end (I.ok.hd hc) D hz hTI h1 h2 p p2 (by simp; omega) (by simp; omega) fun h' hk => ⟨rfl, I.turnedL (t' := s.toks) (ch := [z, TI, TO, i1, i2]) (fun c o hb q => ?_) hf⟩
    simp only [List.mem_cons, List.not_mem_nil, or_false, not_or] at hb
    exact hk c o hb.1 hb.2.2.1 hb.2.2.2.1 hb.2.2.2.2 q
  self := fun A i s Q E st h => iter_zipS st.1 h
def iZipS (K : PySem.W.Frag) (ta : TA) : TI := fun σ H R => ta σ H fun vs H1 => ∃ a b xs ys, vs = [.ref a, .ref b] ∧ SqT K H1 a xs ∧ SqT K H1 b ys ∧ R (ItzS K a b) H1
theorem pi_zipS {X : Cx} {e e2 : Expr} {ta : TA} {p pos tpos kp cp : Pos} {elts : List Expr} {kk j : Nat} (hm : X.mg "zip" = none) (ha : PA X [e, e2] ta) (hg : Gl X "zip" := by rfl)
    (hs : backTo pos (starEach [e, e2] X.env) = (false, eval e X.env) :: backTo pos (starEach [e2] X.env) := by rfl) (hpl : (backTo pos (starEach [e, e2] X.env)).any (·.1) = false := by rfl)
    (hall : (backToKw pos (keywordEach [⟨some "strict", .Constant (.bool true) j cp, kp⟩] X.env)).all (·.1.isSome) = true := by rfl) (hnone : (backToKw pos (keywordEach [⟨some "strict", .Constant (.bool true) j cp, kp⟩] X.env)).any (·.1.isNone) = false := by rfl)
    (hks : (backToKw pos (keywordEach [⟨some "strict", .Constant (.bool true) j cp, kp⟩] X.env)).filterMap (·.1) = [("strict" : Str)] := by rfl) :
    PI X (.Tuple elts kk tpos) (.Call (.Name "zip" p) [e, e2] [⟨some "strict", .Constant (.bool true) j cp, kp⟩] pos) (iZipS X.K ta) := by
  refine ⟨fun pins s σ H R I h => ?_⟩
  refine wpAny_Call_Name_kw (ld_blt I hg hm PyProof.Rows.boot_zip ?_)
  refine callWith_tyKw (thn (ha.run pos pins s σ H _ I h) fun us s1 ⟨vs, H1, I1, r1, q1⟩ => ?_) hs hpl hall hnone
  refine thn ((pk_cons (nm := some "strict") (kpos := kp) (pe_bl (b := true) (j := j) (pos := cp)) pk_nil).run pos pins s1 σ H1 (fun ks H' => ks = [V.bl true] ∧ H' = H1) I1 ⟨rfl, rfl⟩) fun ws s2 ⟨zs, H2, I2, r2, ez, eH⟩ => ?_
  subst ez eH
  rw [hks]
  obtain ⟨a, b, xs, ys, ex, hqx, hqy, q⟩ := q1
  subst ex
  obtain ⟨u1, u2, rfl, e1, e2⟩ := vals2 r1
  cases e1
  cases e2
  obtain ⟨u3, rfl, e3⟩ := vals1 r2
  cases e3
  obtain ⟨its, rv, p1, _⟩ := I2.tuple hqx
  obtain ⟨its2, rv2, p2, _⟩ := I2.tuple hqy
  obtain ⟨o1, ho1, _⟩ := id p1
  obtain ⟨o2, ho2, _⟩ := id p2
  show wpAny _ _ (call (.type "zip") [.ref a, .ref b] [("strict", .bool true)]) _ _ _
  refine call_zipS (show s2.heap.IsTuple a its.toArray from p1) (show s2.heap.IsTuple b its2.toArray from p2) fun h' hz hTI hTO h1 h2 hk => iter_zipS hz ?_
  have I3 : Inv X pins σ H2 { s2 with heap := h' } := I2.kept (t' := s2.toks) hk
  refine ⟨s2.heap.objs.size + 4, [s2.heap.objs.size + 4, s2.heap.objs.size + 2, s2.heap.objs.size + 3, s2.heap.objs.size, s2.heap.objs.size + 1], _, _, H2, rfl, I3, turn_zipS (PySem.W.ktu_apart s2.heap.objs.size a b (Heap.lt_size ho1) (Heap.lt_size ho2)), ⟨hz, hTI, ⟨_, _, hTO⟩, h1, h2⟩, fun c hcm => ?_, q⟩
  have hle : s2.heap.objs.size ≤ c := by
    rcases five hcm with z | z | z | z | z <;> rw [z]
    · exact Nat.le_add_right _ _
    · exact Nat.le_add_right _ _
    · exact Nat.le_add_right _ _
    · exact Nat.le_refl _
    · exact Nat.le_add_right _ _
  exact I2.fpOk hle (I2.hok.fresh hle)
end Q
set_option Elab.async false
set_option linter.all false
set_option maxRecDepth 100000
set_option maxHeartbeats 4000000
/-! ## Rules: enumerate of a tuple -/
namespace Q
open PySem PySem.Spec PyProof.Rows L2
theorem meets_enumT (l : Addr) (items : Array Value) : Meets (Builtin.«enumerate.__new__» ⟨[.type "enumerate", .ref l], []⟩) (fun _ R s => s.heap.IsTuple l items ∧
      R (.ok (.ret (.ref (s.heap.push { cls := .type "tuple_iterator", data := .fields #[.ref l, .int 0 0] }).objs.size)))
        { s with heap := (s.heap.push { cls := .type "tuple_iterator", data := .fields #[.ref l, .int 0 0] }).push { cls := .type "enumerate", data := .fields #[.none, .bool false, .ref s.heap.objs.size, rawInt 0, .none, .none] } }) :=
  .of_wp fun prog w A R s h => by
    obtain ⟨hp, g, d, tk, os⟩ := s
    obtain ⟨hl, h⟩ := h
    have hsub := sub_enumerate
    have q1 : ∀ {A' : Around} {E : Value → Shared → Prop} {Q : Value → Shared → Prop}, Q (.ref hp.objs.size) ⟨hp.push { cls := .type "tuple_iterator", data := .fields #[.ref l, .int 0 0] }, g, d, tk, os⟩ → wpAny (model prog w) A' (pyIter (.ref l)) Q E ⟨hp, g, d, tk, os⟩ :=
      fun q => wpAny_pyIter_tuple (s := ⟨hp, g, d, tk, os⟩) hl q
    wp_walk using q1
    refine wpAny_stack_any fun st => wpAny_pure ?_
    split
    · rename_i c _ _ _ _ _
      cases (c == Value.type "enumerate")
      · wp_walk using q1
        exact ⟨_, rfl, h⟩
      · wp_walk using q1
        exact ⟨_, rfl, h⟩
    · wp_walk using q1
      exact ⟨_, rfl, h⟩
section
variable {prog : Program} {w : World} {A : Around} {E : Value → Shared → Prop} {s : Shared}
theorem call_enumT {l : Addr} {items : Array Value} {Q : Value → Shared → Prop} (hL : s.heap.IsTuple l items)
    (h : ∀ h', IsEnum h' (s.heap.objs.size + 1) s.heap.objs.size 0 .none → h'.IsTupleIter s.heap.objs.size l 0 → (∀ b o, s.heap.get? b = some o → h'.get? b = some o) → Q (.ref (s.heap.objs.size + 1)) { s with heap := h' }) :
    wpAny (model prog w) A (call (.type "enumerate") [.ref l]) Q E s := by
  refine callType_new PySem.F.called_enumerate (by decide) (PySem.F.typeCall_enumerate_1 _) (PySem.F.newCall_enumerate_1 _) (fun obj => PySem.F.args_object_init_2 obj _) PySem.F.entry_enumerate_new (meets_enumT l items) ⟨hL, ?_⟩
  have hz : (s.heap.push { cls := .type "tuple_iterator", data := .fields #[.ref l, .int 0 0] }).objs.size = s.heap.objs.size + 1 := Heap.size_push ..
  show _ ∧ _
  rw [hz]
  have he : IsEnum ((s.heap.push { cls := .type "tuple_iterator", data := .fields #[.ref l, .int 0 0] }).push { cls := .type "enumerate", data := .fields #[.none, .bool false, .ref s.heap.objs.size, rawInt 0, .none, .none] }) (s.heap.objs.size + 1) s.heap.objs.size 0 .none := by
    have q := Heap.get?_push_size (s.heap.push { cls := .type "tuple_iterator", data := .fields #[.ref l, .int 0 0] }) (o := { cls := .type "enumerate", data := .fields #[.none, .bool false, .ref s.heap.objs.size, rawInt 0, .none, .none] }) rfl
    rw [hz] at q
    exact q
  exact ⟨⟨_, he, rfl⟩, h _ he ⟨_, Heap.get?_push_of_some _ (Heap.get?_push_size _ rfl), rfl, rfl⟩ fun b o x => Heap.get?_push_of_some _ (Heap.get?_push_of_some _ x)⟩
end
/-- the tuple at a, each item in a new pair -/
def IteT (K : PySem.W.Frag) (a : Addr) : It :=
  ⟨fun i H => ∃ (xs : List V) (x : V), SqT K H a xs ∧ xs[i]? = some x, fun i H v H' => ∃ T x, v = .ref T ∧ H T = none ∧ H' = upd H T (.tup [.int (i : Nat), x]) ∧ ∀ xs, SqT K H a xs → xs[i]? = some x, fun i H => ∃ xs : List V, SqT K H a xs ∧ xs.length = i⟩
def TnE (a e it : Addr) (i : Nat) (h : Heap) : Prop := (∃ old, IsEnum h e it ((i : Nat) : Int) old) ∧ h.IsTupleIter it a i ∧ e ≠ it ∧ a ≠ it ∧ a ≠ e
theorem two {e it b : Addr} (h : b ∈ [e, it]) : b = e ∨ b = it := by simpa using h
theorem turn_enumT {P : Program} {w : World} {K : PySem.W.Frag} {elts : List Expr} {kk : Nat} {tpos : Pos} (a e it : Addr) : Turn P w K (.Tuple elts kk tpos) (IteT K a) [e, it] e (TnE a e it) where
  mem := List.mem_cons_self
  obj := fun i h st b hb => by
    obtain ⟨⟨old, he⟩, ⟨o, ho, hc, hd⟩, _⟩ := st
    rcases two hb with z | z <;> rw [z]
    · exact ⟨_, he, fun v q => nomatch q⟩
    · exact ⟨o, ho, fun v q => by rw [hd] at q; cases q⟩
  keep := fun i h h' st k => by
    obtain ⟨⟨old, he⟩, hi, r⟩ := st
    exact ⟨⟨old, k e (by simp) _ he⟩, hi.at fun o q => k it (by simp) o q, r⟩
  item := by
    intro X hP hw hK hc i pins s σ H E I hf st hg
    subst hP hw hK
    obtain ⟨⟨old, he⟩, hit, hne, n1, n2⟩ := st
    obtain ⟨xs, x, hq, hx⟩ := hg
    obtain ⟨its, rv, p, hz⟩ := I.tuple hq
    obtain ⟨u, hu, ru⟩ := rv.get hx
    have hel : e < s.heap.objs.size := Heap.lt_size he
    have hil : it < s.heap.objs.size := by
      obtain ⟨_, q, _⟩ := hit
      exact Heap.lt_size q
    have hlt : i < its.toArray.size := by
      have l1 := rv.length
      have l2 := (List.getElem?_eq_some_iff.mp hx).1
      simp
      omega
    refine wpAny_pyNext_enum_itemC (Draws.tuple (show X.A.in1.handled = none from I.ok.hd hc) it a n1 its.toArray) he ⟨hit, p⟩ hlt hne (by simp only [List.mem_cons, List.not_mem_nil, or_false, not_or]; exact ⟨hne, Ne.symm n2⟩) fun u' h' tk hu' ho hit' hT hsz hk => ?_
    have eu : u' = u := by
      have z : some u' = some u := hu'.symm.trans (by simpa using hu)
      exact Option.some.inj z
    subst eu
    refine ⟨_, rfl, wpAny_letOwnedTupleGo_enum (s := { s with heap := h', toks := tk + 1 }) ho fun g he' sb => ?_⟩
    have hT2 : g.get? s.heap.objs.size = some { cls := .type "tuple", data := .seq #[.int i tk, u'] } := (sb.2 _ (Nat.ne_of_gt hel)).trans hT
    have new : ObjOk X.prog X.w (upd H s.heap.objs.size (.tup [.int (i : Nat), x])) g s.heap.objs.size (.tup [.int (i : Nat), x]) := ⟨by show 2 ≤ sizeLine; decide, [.int i tk, u'], .cons ⟨_, rfl⟩ (.cons ru .nil), ⟨_, hT2, rfl, _, rfl⟩⟩
    have nm : ∀ {b : Addr}, b ∉ [e, it] → b ≠ e ∧ b ≠ it := fun hb => by
      simp only [List.mem_cons, List.not_mem_nil, or_false, not_or] at hb
      exact hb
    have I1 : Inv X pins σ (upd H s.heap.objs.size (.tup [.int (i : Nat), x])) { s with heap := g, toks := tk + 1 } :=
      I.turnedNew (ch := [e, it]) (fun b ob hb q => (sb.2 b (nm hb).1).trans (hk b ob (nm hb).1 (nm hb).2 q)) hf (Nat.le_refl _) new
    refine ⟨.ref s.heap.objs.size, _, I1, rfl, ⟨_, x, rfl, I.hok.fresh (Nat.le_refl _), rfl, fun ys hy => by rw [I.tuple_inj hy hq]; exact hx⟩, ⟨⟨u', ?_⟩, hit'.1.at fun o q => (sb.2 it (Ne.symm hne)).trans q, hne, n1, n2⟩, fun b hb => ?_⟩
    · rw [show ((i + 1 : Nat) : Int) = (i : Int) + 1 by omega]
      exact he'
    · have hb' : b < s.heap.objs.size := by
        rcases two hb with z | z <;> rw [z]
        · exact hel
        · exact hil
      rw [upd_ne (Nat.ne_of_lt hb')]
      exact (hf b hb).1
  done := by
    intro X hP hw hK hc i pins s σ H E I hf st hg
    subst hP hw hK
    obtain ⟨⟨old, he⟩, hit, hne, n1, n2⟩ := st
    obtain ⟨xs, hq, hx⟩ := hg
    obtain ⟨its, rv, p, hz⟩ := I.tuple hq
    obtain ⟨f0, f1, f2, f3, f4, f5⟩ := hf it (by simp)
    have hl := rv.length
    have hh : X.A.in1.handled = none := I.ok.hd hc
    have ei : its.toArray.size = i := by
      rw [← hx, hl]
      simp
    have hit2 : s.heap.IsTupleIter it a its.toArray.size := by
      rw [ei]
      exact hit
    have D := Draws.tuple (prog := X.prog) (w := X.w) hh it a n1 its.toArray
    exact wpAny_pyNext_enum_endD D he ⟨hit2, p⟩ fun h' eb => ⟨rfl, I.turned (t' := s.toks) (fun b o hb q => eb b o hb q) f0 f1 f3 f4 f5⟩
  self := fun A i s Q E st h => let ⟨⟨_, he⟩, _⟩ := st; wpAny_pyIter_enum he h
def iEnumT (K : PySem.W.Frag) (ta : TA) : TI := fun σ H R => ta σ H fun vs H1 => ∃ a xs, vs = [.ref a] ∧ SqT K H1 a xs ∧ R (IteT K a) H1
theorem pi_enumT {X : Cx} {e : Expr} {ta : TA} {p pos tpos : Pos} {elts : List Expr} {kk : Nat} (hm : X.mg "enumerate" = none) (ha : PA X [e] ta) (hg : Gl X "enumerate" := by rfl) (hs : starEach [e] X.env = [(false, eval e X.env)] := by rfl) :
    PI X (.Tuple elts kk tpos) (.Call (.Name "enumerate" p) [e] [] pos) (iEnumT X.K ta) := by
  refine ⟨fun pins s σ H R I h => ?_⟩
  refine Call_ (ld_blt I hg hm boot_enumerate (PyProof.Rows.callWith_type1 (thn (ha.run pos pins s σ H _ I h) fun us s1 ⟨vs, H1, I1, r1, q1⟩ => ?_) hs rfl))
  obtain ⟨a, xs, ex, hq, q⟩ := q1
  subst ex
  obtain ⟨u, rfl, eu⟩ := vals1 r1
  cases eu
  obtain ⟨its, rv, p', hz⟩ := I1.tuple hq
  obtain ⟨oa, hoa, _⟩ := id p'
  have la := Heap.lt_size hoa
  refine call_enumT (show s1.heap.IsTuple a its.toArray from p') fun h' he hit hk => wpAny_pyIter_enum he ?_
  have I2 : Inv X pins σ H1 { s1 with heap := h' } := I1.kept (t' := s1.toks) hk
  refine ⟨s1.heap.objs.size + 1, [s1.heap.objs.size + 1, s1.heap.objs.size], _, _, H1, rfl, I2, turn_enumT a (s1.heap.objs.size + 1) s1.heap.objs.size, ⟨⟨.none, he⟩, hit, Nat.succ_ne_self _, Nat.ne_of_lt la, Nat.ne_of_lt (Nat.lt_succ_of_lt la)⟩, fun b hb => ?_, q⟩
  have hle : s1.heap.objs.size ≤ b := by
    rcases two hb with z | z <;> rw [z]
    · exact Nat.le_add_right _ _
    · exact Nat.le_refl _
  exact I1.fpOk hle (I1.hok.fresh hle)
/-! ### what the walks give -/
theorem walk_enumT {K : PySem.W.Frag} {a : Addr} {xs : List V} : Walk (IteT K a) xs.length (fun H => SqT K H a xs) (YPair (fun i => some (.int (i : Nat))) (fun i => xs[i]?)) := by
  refine ⟨fun i _ hi q => ⟨xs, xs[i], q, List.getElem?_eq_getElem hi⟩, fun _ q => ⟨xs, q, rfl⟩, fun i H v H' _ q y => ?_⟩
  obtain ⟨T, x, h1, h2, h3, h4⟩ := y
  exact ⟨T, .int (i : Nat), x, h1, h2, h3, rfl, h4 xs q⟩
theorem walk_zipS {K : PySem.W.Frag} {a b : Addr} {xs ys : List V} (hn : ys.length = xs.length) : Walk (ItzS K a b) xs.length (fun H => SqT K H a xs ∧ SqT K H b ys) (YPair (fun i => xs[i]?) (fun i => ys[i]?)) := by
  refine ⟨fun i _ hi q => ⟨xs, ys, xs[i], ys[i], q.1, q.2, List.getElem?_eq_getElem hi, List.getElem?_eq_getElem _⟩, fun _ q => ⟨xs, ys, q.1, q.2, Nat.le_refl _, Nat.le_of_eq hn⟩, fun i H v H' _ q y => ?_⟩
  obtain ⟨T, x, z, h1, h2, h3, h4, h5⟩ := y
  exact ⟨T, x, z, h1, h2, h3, h4 xs q.1, h5 ys q.2⟩
theorem walk_zipT {K : PySem.W.Frag} {a b : Addr} {xs ys : List V} (hn : ys.length = xs.length) : Walk (RZ.ItzT K a b) xs.length (fun H => SqT K H a xs ∧ SqT K H b ys) (YPair (fun i => xs[i]?) (fun i => ys[i]?)) := by
  refine ⟨fun i _ hi q => ⟨xs, ys, xs[i], ys[i], q.1, q.2, List.getElem?_eq_getElem hi, List.getElem?_eq_getElem _⟩, fun _ q => ⟨xs, ys, q.1, q.2, .inl (Nat.le_refl _)⟩, fun i H v H' _ q y => ?_⟩
  obtain ⟨T, x, z, h1, h2, h3, h4, h5⟩ := y
  exact ⟨T, x, z, h1, h2, h3, h4 xs q.1, h5 ys q.2⟩
end Q
set_option Elab.async false
set_option linter.all false
set_option maxRecDepth 100000
set_option maxHeartbeats 4000000
/-! ## Rules: min of a tuple of ints -/
namespace Q
open PySem PySem.Spec PyProof.Rows L2
section
variable {prog : Program} {w : World} {A : Around} {E : Value → Shared → Prop} {s : Shared}
theorem min_tupI {l : Addr} {xs : Array (Int × Tok)} {Q : Value → Shared → Prop} (hh : A.handled = none) (hl : s.heap.IsTuple l (intItems xs)) (hne : 0 < xs.size)
    (h : ∀ v h' tk, (intItems xs)[argBest (fun i j => decide (numAt xs i < numAt xs j)) (xs.size - 1)]? = some v → (∀ b o, s.heap.get? b = some o → h'.get? b = some o) → Q v { s with heap := h', toks := tk }) :
    wpAny (model prog w) A (call (.builtin "min") [.ref l]) Q E s := by
  have hlt : l < s.heap.objs.size := by
    obtain ⟨_, e, _⟩ := hl
    exact Heap.lt_size e
  refine call_min_walk (wpAny_pyIter_tuple hl ?_)
  refine ⟨_, [s.heap.objs.size, l], [s.heap.objs.size], _, _, _, _, rfl, Walks.tuple (A := A.in1) hh _ l (Nat.ne_of_lt hlt) (intItems xs), ⟨⟨_, Heap.get?_push_size _ rfl, rfl, rfl⟩, hl.push _⟩, fun c hc => ?_, by simpa [intItems] using hne, CmpOf.ints_lt (numAt xs) (fun _ _ => intItems_at), fun v h' tk hP hk => ?_⟩
  · show c < (s.heap.push _).objs.size
    rw [Heap.size_push]
    rcases two hc with z | z <;> rw [z]
    · exact Nat.lt_succ_self _
    · exact Nat.lt_succ_of_lt hlt
  · refine h v h' tk (by simpa [intItems] using hP) fun b o e => hk b o (fun hm => ?_) (Heap.get?_push_of_some _ e)
    rw [List.mem_singleton.mp hm] at e
    exact absurd (Heap.lt_size e) (Nat.lt_irrefl _)
end
/-- min(t), t a tuple of ints -/
def rMinT (K : PySem.W.Frag) : List V → Hp → VK → Prop := fun vs H Q => ∃ (a : Addr) (ns : List Int), vs = [V.ref a] ∧ SqT K H a (ns.map V.int) ∧ 0 < ns.length ∧ ∀ m, m ∈ ns → Q (.int m) H
theorem cr_minT {X : Cx} (hc : X.calm = true) : CallR X (.builtin "min") (rMinT X.K) := by
  intro pins s σ H vs us Q I r h
  obtain ⟨a, ns, rfl, hs, hne, q⟩ := h
  obtain ⟨its, rv, hl, _⟩ := I.tuple hs
  rw [Vals.ref1 r]
  have hi := rv.ints
  obtain ⟨xs, e⟩ := hi.allInts.items
  have hl' : s.heap.IsTuple a its.toArray := hl
  have hn : numsOf (intItems xs).toList = ns := by rw [← e]; exact hi.numsOf
  rw [nums_intItems] at hn
  subst hn
  rw [e] at hl'
  have hsz : 0 < xs.size := by simpa using hne
  refine min_tupI (I.ok.hd hc) hl' hsz fun v h' tk hv hk => ?_
  obtain ⟨t, rfl⟩ := intItems_at hv
  obtain ⟨h1, _⟩ := argBest_lt (numAt xs) (xs.size - 1)
  refine ⟨.int _, H, I.kept hk, ⟨_, rfl⟩, q _ ?_⟩
  rw [numAt_eq]
  exact PySem.getD_mem (by rw [List.length_map, Array.length_toList]; omega)
end Q
set_option Elab.async false
set_option linter.all false
set_option maxRecDepth 100000
set_option maxHeartbeats 4000000
/-! ## Rules: set(t) of a tuple of ints; two slots stored at once; a generator's for -/
namespace Q
open PySem PySem.Spec PyProof.Rows L2
def rSetT (K : PySem.W.Frag) (w : World) : List V → Hp → VK → Prop := fun vs H Q => ∃ (a : Addr) (ns : List Int), vs = [V.ref a] ∧ SqT K H a (ns.map V.int) ∧ ns.length ≤ 1000 ∧
  ∀ (p : Addr) (c : Nat), c ≤ ns.length → H p = none → Q (.ref p) (upd H p (SetO w p (fun j => decide (j ∈ ns)) c))
theorem cr_setT {X : Cx} (hc : X.calm = true) : CallR X (.type "set") (rSetT X.K X.w) := by
  intro pins s σ H vs us Q I r h
  obtain ⟨a, ns, rfl, hq, hl, q⟩ := h
  obtain ⟨its, rv, pt, hz⟩ := I.tuple hq
  rw [Vals.ref1 r]
  have hi : IntsAre its.toArray.toList ns := ints_of_vals rv
  refine call_set_tupI ns (I.ok.hd hc) (show s.heap.IsTuple a its.toArray from pt) hi (by unfold scanBound; omega) fun h' tk c R hcn k => ?_
  have hn : H s.heap.objs.size = none := I.hok.fresh (Nat.le_refl _)
  exact ⟨.ref _, _, I.laid (t' := tk) k (Nat.le_refl _) (setO_new R), rfl, q _ c hcn hn⟩
/-- o.f = .. as a target, f a slot -/
def gSl (K : PySem.W.Frag) (to : TE) (f : Str) : TG := fun y σ H Q => to σ H fun x H1 => ∃ a C dx p vs i, x = .ref a ∧ SlX.Slt H1 a C dx vs ∧ SlX.SCls K C ∧ SlX.Slot1 K C f p i ∧ Q σ (SlX.slH H1 a C dx (SlX.putS i y vs))
theorem pg_sl {X : Cx} {o : Expr} {to : TE} {f : Str} {pos : Pos} (ho : PE X o to) : PG X (.Attribute o f pos) (gSl X.K to f) := by
  refine ⟨fun pins s σ H v u Q I r h => ?_⟩
  rw [PySem.assign_Attribute]
  refine wpAny_bind (wpAny_holding (thn (ho.run pins s σ H _ I h) fun ov s1 ⟨x, H1, I1, rx, a, C, dx, p, vs, i, ex, hs, c, t, q⟩ => ?_))
  subst ex
  obtain rfl : ov = Value.ref a := rx
  refine wpAny_bind (wpAny_standAt (wpAny_bind (wpAny_holding (SlX.setslot_ok I1 hs c t r fun s2 I2 => ?_))))
  exact wpAny_release ⟨σ, _, I2, q⟩
end Q
set_option Elab.async false
set_option linter.all false
set_option maxRecDepth 100000
set_option maxHeartbeats 4000000
/-! ## Rules: a generator's for; a generator method of an instance with slots -/
namespace Q
open PySem PySem.Spec PyProof.Rows L2 GenW
section
variable {M : Model} {A : Around} {R : GenEnd} {Y : Protocol} {n : Nat} {s₀ : Shared} {c : Code} {fs : List Frame} {s : Shared} {env : Env}
  {K : Flow → Sem PySem.Fin} {J : Value → Sem PySem.Fin} {gd : Bool → Bool} {lv : List Value → List Value}
theorem segq_For {tg iter : Expr} {body orelse : List Stmt} {pos : Pos}
    (h : wpAny M (A.over c fs) (eval iter env) (fun x s1 => wpAny M (A.over c fs) (pyIter x) (fun it s2 => ∀ p, Seg M A R Y n s₀ (.forLoop tg it body orelse env) (M.den (.forLoop tg it body orelse env))
      (.ret (fun r => ((match r with | .ok f => (.pure f : Sem Flow) | .error e => .raise e).onRaise (cameBack env)).wrap K J gd lv) none (gd false) (lv []) c p [] :: fs) s2)
      (fun x s' => Seg M A R Y n s₀ c (J x) fs s') s1) (fun x s' => Seg M A R Y n s₀ c (J x) fs s') s)
    (hs : ∀ x, foldedSetIterable iter env x = pure x) : Seg M A R Y n s₀ c ((exec (.For tg iter body orelse pos) env).wrap K J gd lv) fs s := by
  rw [exec_For]
  show Seg M A R Y n s₀ c (.at pos fun _ => ((eval iter env >>= fun v => foldedSetIterable iter env v >>= fun x => standAt iter.pos >>= fun _ => holding [x] (pyIter x) >>= fun it =>
    runOwn (.forLoop tg it body orelse env) env).wrap K J gd lv)) fs s
  refine seg_at ?_
  rw [Sem.bind_eq_wrap', Sem.wrap_wrap]
  refine seg_wrap (wpAny_mono h (fun x s1 h1 => ?_) fun _ _ h => h)
  rw [hs x]
  show Seg M A R Y n s₀ c (.at iter.pos fun _ => ((holding [x] (pyIter x) >>= fun it => runOwn (.forLoop tg it body orelse env) env).wrap K J gd lv)) fs s1
  refine seg_at ?_
  rw [Sem.bind_eq_wrap', Sem.wrap_wrap]
  refine seg_wrap (wpAny_holding (wpAny_mono h1 (fun it s2 h2 => ?_) fun _ _ h => h))
  exact seg_call h2
end
/-- an exception in a loop's code: noted, on its way -/
def noted (env : Env) (e : Value) : Sem PySem.Fin := (do noteFrame e env; theTreesLotGoes e : Sem Unit).wrap (fun _ => .raise e) .raise id id
section
variable {prog : Program} {w : World} {A : Around} {R : GenEnd} {Y : Protocol} {n : Nat} {s₀ : Shared} {fs : List Frame} {s : Shared} {env : Env}
theorem segq_block {b : List Stmt}
    (h : Seg (model prog w) A R Y n s₀ (.block b env) ((execs b env).wrap (fun f => .pure (.done f)) (noted env) id id) fs s) :
    Seg (model prog w) A R Y n s₀ (.block b env) ((model prog w).den (.block b env)) fs s := by
  show Seg _ A R Y n s₀ _ (((execs b env).onRaise (fun x => do noteFrame x env; theTreesLotGoes x)) >>= fun f => (.pure (.done f) : Sem PySem.Fin)) fs s
  rw [Sem.onRaise_eq_wrap, Sem.bind_eq_wrap', Sem.wrap_wrap]
  refine Eq.mpr (congrArg (fun t => Seg (model prog w) A R Y n s₀ (.block b env) t fs s) (Sem.wrap_congr (execs b env) _ _ (fun f => ?_) (fun e => ?_))) h
  · rfl
  · unfold noted; rw [Sem.bind_eq_wrap, Sem.wrap_wrap]; rfl
theorem segq_forLoop {tg : Expr} {it : Value} {body orelse : List Stmt}
    (h : wpAny (model prog w) (A.over (.forLoop tg it body orelse env) fs) (pyNext it) (fun r s1 => match r with
        | none => Seg (model prog w) A R Y n s₀ (.block orelse env) ((model prog w).den (.block orelse env)) fs s1
        | some v => wpAny (model prog w) (A.over (.forLoop tg it body orelse env) fs) (letOwnedTupleGo tg it v) (fun _ s2 =>
            wpAny (model prog w) (A.over (.forLoop tg it body orelse env) fs) (assign tg env v) (fun _ s3 =>
              Seg (model prog w) A R Y n s₀ (.forLoop tg it body orelse env) ((execs body env).wrap (fun f => match f with
                | .next | .cont => .pure (.again (.forLoop tg it body orelse env))
                | .brk => .pure (.done .next)
                | .ret v => .pure (.done (.ret v))) (noted env) id id) fs s3)
              (fun x s' => Seg (model prog w) A R Y n s₀ (.forLoop tg it body orelse env) (noted env x) fs s') s2)
            (fun x s' => Seg (model prog w) A R Y n s₀ (.forLoop tg it body orelse env) (noted env x) fs s') s1)
      (fun x s' => Seg (model prog w) A R Y n s₀ (.forLoop tg it body orelse env) (noted env x) fs s') s) :
    Seg (model prog w) A R Y n s₀ (.forLoop tg it body orelse env) ((model prog w).den (.forLoop tg it body orelse env)) fs s := by
  show Seg _ A R Y n s₀ _ ((forTurn tg it body orelse env).onRaise (fun x => do noteFrame x env; theTreesLotGoes x)) fs s
  have nt : (fun e => ((do noteFrame e env; theTreesLotGoes e : Sem Unit)).bind fun _ => (.raise e : Sem PySem.Fin)) = noted env := by
    funext e; unfold noted; rw [Sem.bind_eq_wrap]
  rw [Sem.onRaise_eq_wrap, nt]
  unfold forTurn
  rw [Sem.bind_eq_wrap', Sem.wrap_wrap]
  refine seg_wrap (wpAny_standAt ?_)
  rw [Sem.bind_eq_wrap', Sem.wrap_wrap]
  refine seg_wrap (wpAny_onRaise (wpAny_mono h (fun r s1 h1 => ?_) fun x s' h' => wpAny_standAt h'))
  cases r with
  | none => exact seg_again rfl h1
  | some v =>
    dsimp only
    rw [Sem.bind_eq_wrap', Sem.wrap_wrap]
    refine seg_wrap (wpAny_mono h1 (fun _ s2 h2 => ?_) fun x s' h' => h')
    rw [Sem.bind_eq_wrap', Sem.wrap_wrap]
    refine seg_wrap (wpAny_mono h2 (fun _ s3 h3 => ?_) fun x s' h' => h')
    rw [Sem.bind_eq_wrap', Sem.wrap_wrap]
    refine Eq.mpr (congrArg (fun t => Seg (model prog w) A R Y n s₀ (.forLoop tg it body orelse env) t fs s3) (Sem.wrap_congr (execs body env) _ _ (fun f => ?_) (fun e => ?_))) h3
    · cases f <;> rfl
    · rfl
end
section
variable {X : Cx}
/-- for, in a generator: W by the turn, a measure and what is out -/
def tGFor (wi : TI) (g : TG) (tb : TGn) : TGn := fun D ys σ H => wi σ H fun J H1 => ∃ W : Nat → Nat → List V → L2.St → Hp → Prop, (∃ m, W 0 m ys σ H1) ∧ ∀ i m ys σ H, W i m ys σ H →
  (J.stop i H ∧ D.nx ys σ H) ∨ (J.go i H ∧ ∃ N : List V → L2.St → Hp → Prop, (∀ ys' σ' H', N ys' σ' H' → ∃ m', m' < m ∧ W (i + 1) m' ys' σ' H') ∧
    ∀ x H', J.yld i H x H' → g x σ H' fun σ2 H2 => tb { D with nx := N, ct := N, bk := D.nx } ys σ2 H2)
theorem gs_for {tg iter : Expr} {body : List Stmt} {wi : TI} {tgt : TG} {tb : TGn} {pos : Pos} (hp : PassesOwn (model X.prog X.w) X.A X.env X.xe) (hc : X.calm = true) (hi : PI X tg iter wi) (hg : PG X tg tgt) (hb : GSs X body tb)
    (hs : ∀ x, foldedSetIterable iter X.env x = pure x := by intro _; rfl) : GS X (.For tg iter body [] pos) (tGFor wi tgt tb) := by
  refine ⟨fun A S ip R n ys s₀ c fs K J gd lv s σ H D g hn k hI ht => ?_⟩
  obtain ⟨acc, cc, r, I⟩ := hI
  refine segq_For ?_ hs
  rw [g.over]
  refine wpAny_mono (hi.run _ s σ H _ I ht) (fun v s1 h1 => ?_) fun x s' hx => k.exc n s₀ x s' hx
  refine wpAny_mono h1 (fun itv s2 h2 p => ?_) fun x s' hx => k.exc n s₀ x s' hx
  obtain ⟨it, fp, tn, Ji, H2, e, I2, T, st2, f2, W, ⟨m0, w0⟩, turn⟩ := h2
  subst e
  have gl := fun (kk : Result → Sem PySem.Fin) => gc_loop (k := kk) (c' := .forLoop tg (.ref it) body [] X.env) (l := lv []) (kp := []) (p := p) g rfl rfl
  have gb := fun (kk : Result → Sem PySem.Fin) => gc_loop (k := kk) (c' := .block [] X.env) (l := lv []) (kp := []) (p := p) g rfl rfl
  have stat : ∀ {H' : Hp} {acc' : Array Value} {c' : Nat}, (∀ b ∈ fp, H' b = none) → ∀ b ∈ fp, FpOk X ((S, lstObj acc' c') :: ip) H' b := fun {H' acc' c'} hn b hb => by
    obtain ⟨q0, q1, q2, q3, q4, q5⟩ := f2 b hb
    refine ⟨hn b hb, q1, q2, q3, q4, fun p hp => ?_⟩
    rcases List.mem_append.mp hp with hp | hp
    · exact q5 p (List.mem_append_left _ hp)
    · rcases List.mem_cons.mp hp with hp | hp
      · rw [hp]; exact q5 (S, lstObj acc cc) (List.mem_append_right _ List.mem_cons_self)
      · exact q5 p (List.mem_append_right _ (List.mem_cons_of_mem _ hp))
  have fpS : ∀ b ∈ fp, b ≠ S := fun b hb z => by
    obtain ⟨q0, q1, q2, q3, q4, q5⟩ := f2 b hb
    exact q5 (S, lstObj acc cc) (List.mem_append_right _ List.mem_cons_self) z.symm
  have ee : ∀ (n : Nat) (s₀ : Shared) (x : Value) (s' : Shared), X.xe x s' → Seg (model X.prog X.w) A R (GY X S) n s₀ (.forLoop tg (.ref it) body [] X.env) (noted X.env x)
      (.ret (fun r => ((match r with | .ok f => (.pure f : Sem Flow) | .error e => .raise e).onRaise (cameBack X.env)).wrap K J gd lv) none (gd false) (lv []) c p [] :: fs) s' := fun n s₀ x s' hx => by
    refine seg_wrap ?_
    rw [(gl _).over]
    refine wpAny_bind (wpAny_mono (hp x s' hx) (fun _ s'' hcb => wpAny_theTreesLotGoes ?_) fun y s'' hcb => ?_)
    · exact seg_leaf (.error x) (seg_cameBack g k hcb)
    · exact seg_leaf (.error y) (seg_cameBack g k hcb)
  have loop : ∀ (m n : Nat) (ys : List V) (s₀ s : Shared) (i : Nat) (σ : L2.St) (H : Hp), n + ys.length = sizeLine → W i m ys σ H → tn i s.heap → (∀ b ∈ fp, H b = none) → GI X S ip ys σ H s →
      Seg (model X.prog X.w) A R (GY X S) n s₀ (.forLoop tg (.ref it) body [] X.env) ((model X.prog X.w).den (.forLoop tg (.ref it) body [] X.env))
        (.ret (fun r => ((match r with | .ok f => (.pure f : Sem Flow) | .error e => .raise e).onRaise (cameBack X.env)).wrap K J gd lv) none (gd false) (lv []) c p [] :: fs) s := by
    intro m
    induction m using Nat.strongRecOn with
    | ind m ih =>
      intro n ys s₀ s i σ H hn w st fr hI
      obtain ⟨acc3, cc3, r3, I3⟩ := hI
      refine segq_forLoop ?_
      rw [(gl _).over]
      rcases turn i m ys σ H w with ⟨stop, qn⟩ | ⟨go, N, hN, step⟩
      · refine wpAny_mono (T.done X rfl rfl rfl hc i _ s σ H X.xe I3 (stat fr) st stop) (fun r s4 h4 => ?_) fun x s' hx => ee n s₀ x s' hx
        obtain ⟨hr, I4⟩ := h4
        subst hr
        dsimp only
        refine segq_block ?_
        refine seg_execs_nil ?_
        exact seg_leaf (.ok .next) (k.ok n ys s₀ s4 .next hn ⟨σ, H, ⟨acc3, cc3, r3, I4⟩, qn⟩)
      · refine wpAny_mono (T.item X rfl rfl rfl hc i _ s σ H X.xe I3 (stat fr) st go) (fun r s4 h4 => ?_) fun x s' hx => ee n s₀ x s' hx
        obtain ⟨u, hr, h4⟩ := h4
        subst hr
        dsimp only
        refine wpAny_mono h4 (fun _ s5 h5 => ?_) fun x s' hx => ee n s₀ x s' hx
        obtain ⟨x, H5, I5, r5, y5, st5, fr5⟩ := h5
        have I5' := I5.pinned (stat fr5) (T.obj _ _ st5)
        refine wpAny_mono (hg.run _ s5 σ H5 x u _ I5' r5 (step x H5 y5)) (fun _ s6 h6 => ?_) fun x s' hx => ee n s₀ x s' hx
        obtain ⟨σ6, H6, I6, q6⟩ := h6
        have gc := gl fun r => ((match r with | .ok f => (.pure f : Sem Flow) | .error e => .raise e).onRaise (cameBack X.env)).wrap K J gd lv
        have ipS : ∀ p ∈ ip ++ pinsAt fp s5.heap, p.1 ≠ S := fun p hp => by
          rcases List.mem_append.mp hp with hp | hp
          · exact g.ip p hp
          · exact fpS p.1 (of_pinsAt hp).1
        have back : ∀ {ys' : List V} {σ' : L2.St} {H' : Hp} {s' : Shared}, GI X S (ip ++ pinsAt fp s5.heap) ys' σ' H' s' → GI X S ip ys' σ' H' s' := fun {ys' σ' H' s'} h => by
          obtain ⟨ac, c', r', I'⟩ := h
          exact ⟨ac, c', r', Inv.unpinned (pins := (S, lstObj ac c') :: ip) (pl := pinsAt fp s5.heap) I'⟩
        have again : ∀ {n' : Nat} {ys' : List V} {s₀' s' : Shared} {σ' : L2.St} {H' : Hp}, n' + ys'.length = sizeLine → GI X S (ip ++ pinsAt fp s5.heap) ys' σ' H' s' → N ys' σ' H' →
            Seg (model X.prog X.w) A R (GY X S) n' s₀' (.forLoop tg (.ref it) body [] X.env) (.pure (.again (.forLoop tg (.ref it) body [] X.env)))
              (.ret (fun r => ((match r with | .ok f => (.pure f : Sem Flow) | .error e => .raise e).onRaise (cameBack X.env)).wrap K J gd lv) none (gd false) (lv []) c p [] :: fs) s' := fun {n' ys' s₀' s' σ' H'} hn' G' n7 => by
          obtain ⟨m', hm, w7⟩ := hN ys' σ' H' n7
          have pinned : ∀ b ∈ fp, ∀ o, s5.heap.get? b = some o → s'.heap.get? b = some o ∧ H' b = none := fun b hb o e => by
            obtain ⟨ac, c', r', I'⟩ := G'
            have z := I'.pin (b, o) (List.mem_append_right _ (List.mem_cons_of_mem _ (List.mem_append_right _ (mem_pinsAt hb e))))
            exact ⟨z.1, z.2.1⟩
          refine seg_again rfl (ih m' hm n' ys' s₀' s' (i + 1) σ' H' hn' w7 (T.keep _ _ _ st5 fun b hb o e => (pinned b hb o e).1) (fun b hb => ?_) (back G'))
          obtain ⟨o, e, d⟩ := T.obj _ _ st5 b hb
          exact (pinned b hb o e).2
        refine hb.run A S (ip ++ pinsAt fp s5.heap) R n ys s₀ _ _ _ _ id id s6 σ6 H6 { D with nx := N, ct := N, bk := D.nx } ⟨gc.pn, ipS, gc.apart, gc.over, gc.split, gc.guard, gc.gd⟩ hn ⟨fun n' ys' s₀' s7 f hn' hs => ?_, fun n' s₀' x s7 hx => ee n' s₀' x s7 hx⟩ ⟨acc3, cc3, r3, I6⟩ q6
        cases f with
        | next =>
          obtain ⟨σ7, H7, I7, n7⟩ := hs
          exact again hn' I7 n7
        | cont =>
          obtain ⟨σ7, H7, I7, n7⟩ := hs
          exact again hn' I7 n7
        | brk =>
          obtain ⟨σ7, H7, I7, n7⟩ := hs
          exact seg_leaf (.ok .next) (k.ok n' ys' s₀' s7 .next hn' ⟨σ7, H7, back I7, n7⟩)
        | ret v =>
          obtain ⟨x7, σ7, H7, I7, r7, n7⟩ := hs
          exact seg_leaf (.ok (.ret v)) (k.ok n' ys' s₀' s7 (.ret v) hn' ⟨x7, σ7, H7, back I7, r7, n7⟩)
  exact loop m0 n ys s₀ s2 0 σ H2 hn w0 st2 (fun b hb => (f2 b hb).1) ⟨acc, cc, r, I2⟩
end
section
variable {X : Cx} {k : Nat} {f C : Addr} {fd : FuncData} {ps : List Str} {sp : SpG} {dvs : List V} {ds : List Value} {m : Str} {p pos' apos : Pos} {o : Expr} {ta : TE}
def tMethGS (C : Addr) (sp : SpG) (dvs : List V) (E : XK) (ta : TE) (t : TA) : TGen := fun σ H cont => ta σ H fun x H1 => ∃ a dx vs, x = .ref a ∧ SlX.Slt H1 a C dx vs ∧
  t σ H1 fun ws H2 => sp (x :: (ws ++ dvs)) H2 cont E
/-- o.m() of a generator method, o an instance with slots -/
theorem pgen_methS {E : XK} {pl : Sem Bool} (he : PE X o ta) (c : SlX.SCls X.K C) (hm : Meth X.K C m f) (F : GFn X.prog X.w X.K X.mg X.base k f fd ps sp) (hr : Room k X.A) (hb : Binds X.K fd ps ds) (hd : Vals dvs ds)
    (ht : eval (.Call (.Attribute o m apos) [] [] pos') X.env = (do
      let ov ← eval o X.env
      standAt apos.atName
      let (f, first) ← holding [ov] (getMethod ov m pl)
      callWith pos' f first (backTo pos' (starEach [] X.env)) (backToKw pos' (keywordEach [] X.env))) := by rfl) :
    PGen X k (.Call (.Attribute o m apos) [] [] pos') (tMethGS C sp dvs E ta tNil) E := by
  refine ⟨fun pins s σ H cont I h => ?_⟩
  refine PySem.W.methodCall_KW (pl := pl) (thn (he.run pins s σ H _ I h) fun u s1 ⟨x, H1, I1, rx, a, dx, vs, ex, hsl, q⟩ => ?_) ht
  subst ex
  obtain rfl : u = Value.ref a := rx
  refine SlX.getmethsl_ok I1 hsl c hm ?_
  exact PySem.W.callWith_K0 (first := [.ref a]) I1.kIn hm.kp (run_gfn (us := [.ref a]) (vs := [.ref a]) F hr hb hd I1 (.cons rfl .nil) q)
end
end Q
set_option Elab.async false
set_option linter.all false
set_option maxRecDepth 100000
set_option maxHeartbeats 4000000
/-! ## Data in the heap; what an expression comes to, told by what it leaves -/
namespace Q
open PySem PySem.Spec PyProof.Rows L2
open Evl (Ex)
def lstB : HO → Bool
  | .lst _ => true
  | _ => false
/-- what is no list stays -/
def Im (H H' : Hp) : Prop := ∀ a o, lstB o = false → H a = some o → H' a = some o
theorem Im.refl (H : Hp) : Im H H := fun _ _ _ h => h
theorem Im.trans {H H1 H2 : Hp} (a : Im H H1) (b : Im H1 H2) : Im H H2 := fun x o l h => b x o l (a x o l h)
theorem im_ex {H H' : Hp} (e : Ex H H') : Im H H' := fun a o _ h => e a o h
theorem im_put {H : Hp} {p : Addr} {xs ys : List V} (h : H p = some (.lst xs)) : Im H (upd H p (.lst ys)) := fun a o l e => by
  have n : a ≠ p := fun z => by rw [z, h] at e; cases e; cases l
  rw [upd_ne n]; exact e
/-- a row of ints; a grid, a tuple of rows; a question; a table -/
def Rw (H : Hp) (p : Addr) (r : Nat) (f : Nat → Int) : Prop := H p = some (.tup ((List.range r).map fun j => V.int (f j)))
def Gr (H : Hp) (a : Addr) (l r : Nat) (f : Nat → Nat → Int) : Prop := ∃ xs, H a = some (.tup xs) ∧ xs.length = l ∧ ∀ (i : Nat) v, xs[i]? = some v → ∃ p, v = .ref p ∧ Rw H p r (f i)
def Qn (C : Addr) (H : Hp) (q : Addr) (l r : Nat) (f : Nat → Nat → Int) : Prop := ∃ dx a, H q = some (.ins C dx [("own_weights", .ref a)]) ∧ Gr H a l r f
def Tb (C : Addr) (H : Hp) (t : Addr) (l r : Nat) (f : Nat → Nat → Int) : Prop := ∃ dx a, SlX.Slt H t C dx [some (.ref a), some (.int (l : Nat)), some (.int (r : Nat))] ∧ Gr H a l r f
section
variable {H H' : Hp} {p a q t C dx : Addr} {l r : Nat} {h h' : Nat → Int} {f f' : Nat → Nat → Int}
theorem Rw.im (w : Rw H p r h) (e : Im H H') : Rw H' p r h := e _ _ rfl w
theorem Gr.im (g : Gr H a l r f) (e : Im H H') : Gr H' a l r f := let ⟨xs, h1, h2, h3⟩ := g; ⟨xs, e _ _ rfl h1, h2, fun i v hv => let ⟨p, hp, w⟩ := h3 i v hv; ⟨p, hp, w.im e⟩⟩
theorem Qn.im (g : Qn C H q l r f) (e : Im H H') : Qn C H' q l r f := let ⟨dx, a, h1, h2⟩ := g; ⟨dx, a, e _ _ rfl h1, h2.im e⟩
theorem slt_im {vs : List (Option V)} (s : SlX.Slt H t C dx vs) (e : Im H H') : SlX.Slt H' t C dx vs := by
  rcases s with ⟨h1, h2⟩ | ⟨h1, h2⟩
  · exact .inl ⟨e _ _ rfl h1, h2⟩
  · exact .inr ⟨e _ _ rfl h1, e _ _ rfl h2⟩
theorem Tb.im (g : Tb C H t l r f) (e : Im H H') : Tb C H' t l r f := let ⟨dx, a, h1, h2⟩ := g; ⟨dx, a, slt_im h1 e, h2.im e⟩
theorem Rw.ex (w : Rw H p r h) (e : Ex H H') : Rw H' p r h := w.im (im_ex e)
theorem Gr.ex (w : Gr H a l r f) (e : Ex H H') : Gr H' a l r f := w.im (im_ex e)
theorem Qn.ex (w : Qn C H q l r f) (e : Ex H H') : Qn C H' q l r f := w.im (im_ex e)
theorem Tb.ex (w : Tb C H t l r f) (e : Ex H H') : Tb C H' t l r f := w.im (im_ex e)
theorem Rw.congr (w : Rw H p r h) (e : ∀ j, j < r → h j = h' j) : Rw H p r h' := by
  unfold Rw at *
  rw [w]
  exact congrArg (fun x => some (HO.tup x)) (List.map_congr_left fun j hj => by rw [e j (List.mem_range.mp hj)])
theorem Gr.congr (w : Gr H a l r f) (e : ∀ i j, i < l → j < r → f i j = f' i j) : Gr H a l r f' :=
  let ⟨xs, h1, h2, h3⟩ := w
  ⟨xs, h1, h2, fun i v hv => let ⟨p, hp, w⟩ := h3 i v hv; ⟨p, hp, w.congr fun j hj => e i j (by have := (List.getElem?_eq_some_iff.mp hv).1; omega) hj⟩⟩
theorem Qn.congr (w : Qn C H q l r f) (e : ∀ i j, i < l → j < r → f i j = f' i j) : Qn C H q l r f' := let ⟨dx, a, h1, h2⟩ := w; ⟨dx, a, h1, h2.congr e⟩
theorem Tb.congr (w : Tb C H t l r f) (e : ∀ i j, i < l → j < r → f i j = f' i j) : Tb C H t l r f' := let ⟨dx, a, h1, h2⟩ := w; ⟨dx, a, h1, h2.congr e⟩
theorem row_len {r : Nat} {h : Nat → Int} : ((List.range r).map fun j => V.int (h j)).length = r := by rw [List.length_map, List.length_range]
theorem row_at {r j : Nat} {h : Nat → Int} (hj : j < r) : ((List.range r).map fun j => V.int (h j))[j]? = some (.int (h j)) := by
  rw [List.getElem?_map, List.getElem?_range hj]; rfl
theorem row_at' {r j : Nat} {h : Nat → Int} {v : V} (hv : ((List.range r).map fun j => V.int (h j))[j]? = some v) : j < r ∧ v = .int (h j) := by
  have hj : j < r := by have := (List.getElem?_eq_some_iff.mp hv).1; rwa [row_len] at this
  rw [row_at hj] at hv; cases hv; exact ⟨hj, rfl⟩
theorem row_ints {r : Nat} {h : Nat → Int} : ((List.range r).map fun j => V.int (h j)) = ((List.range r).map h).map V.int := by rw [List.map_map]; rfl
theorem list_of {xs : List V} {n : Nat} {h : Nat → V} (hl : xs.length = n) (he : ∀ (i : Nat) v, xs[i]? = some v → v = h i) : xs = (List.range n).map h := by
  apply List.ext_getElem?
  intro i
  by_cases hi : i < n
  · have e1 : xs[i]? = some (xs[i]'(by omega)) := List.getElem?_eq_getElem (by omega)
    rw [e1, he i _ e1, List.getElem?_map, List.getElem?_range hi]; rfl
  · rw [List.getElem?_eq_none_iff.mpr (by omega), List.getElem?_eq_none_iff.mpr (by rw [List.length_map, List.length_range]; omega)]
/-- the row of a grid -/
theorem Gr.row (g : Gr H a l r f) {i : Nat} (hi : i < l) : ∃ xs p, H a = some (.tup xs) ∧ xs.length = l ∧ xs[i]? = some (.ref p) ∧ Rw H p r (f i) := by
  obtain ⟨xs, h1, h2, h3⟩ := g
  have e1 : xs[i]? = some (xs[i]'(by omega)) := List.getElem?_eq_getElem (by omega)
  obtain ⟨p, hp, w⟩ := h3 i _ e1
  exact ⟨xs, p, h1, h2, by rw [e1, hp], w⟩
end
/-! ### what may come between: new objects; or more -/
structure RelOk (R : Hp → Hp → Prop) (G : Hp → Prop) : Prop where
  ex : ∀ {H H'}, Ex H H' → R H H'
  tr : ∀ {H H1 H2}, R H H1 → R H1 H2 → R H H2
  mt : ∀ {H H' : Hp} {p : Addr} {o : HO}, G H → R H H' → H p = none → R H (upd H' p o)
  back : ∀ {H H' : Hp} {p : Addr}, R H H' → H' p = none → H p = none
  im : ∀ {H H'}, R H H' → Im H H'
  good : ∀ {H H'}, G H → R H H' → G H'
  keep : ∀ {H H1 H2 : Hp} {p : Addr} {o : HO}, G H → H p = none → R H H1 → R H1 H2 → H1 p = some o → H2 p = some o
theorem RelOk.rf {R : Hp → Hp → Prop} {G : Hp → Prop} (k : RelOk R G) (H : Hp) : R H H := k.ex (Ex.refl H)
theorem exOk : RelOk Ex (fun _ => True) := ⟨fun h => h, fun {_ _ _} a b => Ex.trans a b, fun _ e h => Ex.mut e h, fun e h => Evl.fresh_back e h, im_ex, fun _ _ => trivial, fun _ _ _ e h => e _ _ h⟩
def EvR (R : Hp → Hp → Prop) (te : TE) (σ : L2.St) (H : Hp) (Φ : Hp → V → Hp → Prop) : Prop := ∀ H1, R H H1 → ∀ Q : VK, (∀ v H2, R H1 H2 → Φ H1 v H2 → Q v H2) → te σ H1 Q
def EvT' (R : Hp → Hp → Prop) (tt : TT) (σ : L2.St) (H : Hp) (b : Bool) : Prop := ∀ H1, R H H1 → ∀ Q : Bool → Hp → Prop, (∀ H2, R H1 H2 → Q b H2) → tt σ H1 Q
def EvI (R : Hp → Hp → Prop) (ti : TI) (σ : L2.St) (H : Hp) (n : Nat) (Y : Nat → Hp → V → Hp → Prop) : Prop :=
  ∀ H1, R H H1 → ∀ k : It → Hp → Prop, (∀ J H2 G, R H1 H2 → Walk J n G Y → (∀ H3, R H2 H3 → G H3) → k J H2) → ti σ H1 k
def LstOf (n : Nat) (Φ : Nat → V → Hp → Prop) : Hp → V → Hp → Prop := fun H1 y H2 => ∃ p xs, y = .ref p ∧ H1 p = none ∧ H2 p = some (.lst xs) ∧ xs.length = n ∧ ∀ (i : Nat) v, xs[i]? = some v → Φ i v H2
def TupOf (n : Nat) (Φ : Nat → V → Hp → Prop) : Hp → V → Hp → Prop := fun H1 y H2 => ∃ p xs, y = .ref p ∧ H1 p = none ∧ H2 p = some (.tup xs) ∧ xs.length = n ∧ ∀ (i : Nat) v, xs[i]? = some v → Φ i v H2
/-- exactly this value -/
abbrev IsV (v : V) : Hp → V → Hp → Prop := fun _ w _ => w = v
section
variable {R : Hp → Hp → Prop} {G : Hp → Prop} {te ta tb : TE} {σ : L2.St} {H H' : Hp} {n : Nat} {Y : Nat → Hp → V → Hp → Prop} {ti : TI} {g : TG} {vs : List Nat} {Φ : Nat → V → Hp → Prop} {Ψ Ψ' : Hp → V → Hp → Prop}
theorem EvR.mono (k : RelOk R G) (e : R H H') (h : EvR R te σ H Ψ) : EvR R te σ H' Ψ := fun H1 e1 Q q => h H1 (k.tr e e1) Q q
theorem EvR.imp (h : EvR R te σ H Ψ) (hi : ∀ H1 v H2, R H H1 → R H1 H2 → Ψ H1 v H2 → Ψ' H1 v H2) : EvR R te σ H Ψ' := fun H1 e1 Q q => h H1 e1 Q fun v H2 e2 w => q v H2 e2 (hi H1 v H2 e1 e2 w)
theorem evr_lc (k : RelOk R G) (Φ : Nat → V → Hp → Prop) (hm : ∀ i v H H', Im H H' → Φ i v H → Φ i v H') (gH : G H) (hi : EvI R ti σ H n Y) (hn : n ≤ 100000) (hY : ∀ i H x H', i < n → Y i H x H' → Ex H H')
    (st : ∀ i x H1 H2, i < n → R H H1 → Y i H1 x H2 → R H H2 → ∃ σ2, (∀ K, K σ2 H2 → g x (wipe σ vs) H2 K) ∧ wipe σ2 vs = wipe σ vs ∧ EvR R te σ2 H2 (fun _ v H' => Φ i v H')) :
    EvR R (tLc ti g tYes te vs) σ H (LstOf n Φ) := by
  intro H1 e1 Q q
  refine hi H1 e1 _ fun J H2 G' e2 w hG D hD => ?_
  have hD1 : H1 D = none := k.back e2 hD
  refine lc_it w (fun i H' => R H2 H' ∧ ∃ acc, H' D = some (.lst acc) ∧ acc.length = i ∧ ∀ (j : Nat) v, acc[j]? = some v → Φ j v H')
    ⟨k.mt (k.good gH (k.tr e1 e2)) (k.rf _) hD, [], upd_same, rfl, fun j v h => by simp at h⟩ (fun i H' _ p => hG H' p.1) (fun i x H3 H4 hi p y => ?_) (fun H' p => ?_)
  · obtain ⟨e3, acc, ha, hl, hΦ⟩ := p
    have e34 := hY i H3 x H4 hi y
    have e4 : R H2 H4 := k.tr e3 (k.ex e34)
    have eH4 : R H H4 := k.tr e1 (k.tr e2 e4)
    obtain ⟨σ2, hg, hw, hev⟩ := st i x H3 H4 hi (k.tr e1 (k.tr e2 e3)) y eH4
    refine hg _ ⟨hw, ?_⟩
    show te σ2 H4 _
    refine hev H4 (k.rf _) _ fun v H5 e5 hv => ?_
    have g2 : G H2 := k.good gH (k.tr e1 e2)
    have hD5 : H5 D = some (.lst acc) := k.keep g2 hD e4 e5 (e34 D _ ha)
    refine ⟨acc, hD5, by unfold sizeLine; omega, k.mt g2 (k.tr e4 e5) hD, acc ++ [v], upd_same, by rw [List.length_append, hl]; rfl, fun j u hu => ?_⟩
    have hp : Im H5 (upd H5 D (.lst (acc ++ [v]))) := im_put hD5
    by_cases hj : j < acc.length
    · rw [List.getElem?_append_left hj] at hu
      exact hm j u _ _ hp (hm j u _ _ (k.im e5) (hm j u _ _ (im_ex e34) (hΦ j u hu)))
    · have hj' : j = i := by
        have := (List.getElem?_eq_some_iff.mp hu).1
        rw [List.length_append] at this
        have : j < acc.length + 1 := this
        omega
      subst hj'
      rw [List.getElem?_append_right (by omega), hl, Nat.sub_self] at hu
      cases hu
      exact hm _ _ _ _ hp hv
  · obtain ⟨e3, acc, ha, hl, hΦ⟩ := p
    exact q _ H' (k.tr e2 e3) ⟨D, acc, rfl, hD1, ha, hl, hΦ⟩
def rTupOf (K : PySem.W.Frag) : List V → Hp → VK → Prop := fun xs H Q => ∃ p ys, xs = [.ref p] ∧ ((SqL K H p ys ∧ ∀ l, H l = none → Q (.ref l) (upd H l (.tup ys))) ∨ (SqT K H p ys ∧ Q (.ref p) H))
theorem evr_tup {K : PySem.W.Frag} (k : RelOk R G) (gH : G H) (hm : ∀ i v H H', Im H H' → Φ i v H → Φ i v H') (h : EvR R te σ H (LstOf n Φ)) : EvR R (tCB (rTupOf K) (tCons te tNil)) σ H (TupOf n Φ) := by
  intro H1 e1 Q q
  refine h H1 e1 _ fun v H2 e2 ⟨p, xs, hv, hp, ha, hl, hΦ⟩ => ?_
  subst hv
  refine ⟨p, xs, rfl, .inl ⟨Evl.sq_of ha, fun t ht => ?_⟩⟩
  refine q _ _ (k.mt (k.good gH e1) e2 (k.back e2 ht)) ⟨t, xs, rfl, k.back e2 ht, upd_same, hl, fun i v hv => hm i v _ _ (im_ex (Ex.new ht)) (hΦ i v hv)⟩
theorem evr_v {v : V} {i : Nat} (k : RelOk R G) (h : σ[i]? = some (some v)) : EvR R (tVar i) σ H (IsV v) := fun H1 _ _ q => ⟨v, h, q _ _ (k.rf _) rfl⟩
theorem evi_tup {K : PySem.W.Frag} {a : Addr} {xs : List V} (k : RelOk R G) (h : EvR R te σ H (IsV (.ref a))) (ha : H a = some (.tup xs)) : EvI R (iTup K te) σ H xs.length (YAt xs) := by
  intro H1 e1 q hq
  refine h H1 e1 _ fun v H2 e2 hv => ?_
  obtain rfl : v = .ref a := hv
  have h2 := k.im (k.tr e1 e2) _ _ rfl ha
  exact ⟨a, rfl, ⟨xs, Evl.st_of h2⟩, hq _ _ _ e2 walk_tup fun H3 e3 => Evl.st_of (k.im e3 _ _ rfl h2)⟩
theorem evi_rng {m : Nat} (k : RelOk R G) (h : EvR R te σ H (IsV (.int (m : Nat)))) (hm : m ≤ 100000) : EvI R (iRng1 (tCons te tNil)) σ H m (YFn fun i => .int ((0 : Int) + (i : Nat))) := by
  intro H1 e1 q hq
  refine h H1 e1 _ fun v H2 e2 hv => ?_
  obtain rfl : v = .int (m : Nat) := hv
  refine ⟨(m : Nat), rfl, by omega, by omega, ?_⟩
  rw [Int.toNat_natCast]
  exact hq _ _ (fun _ => True) e2 walk_range fun _ _ => trivial
theorem evi_zipS {K : PySem.W.Frag} {a b : Addr} {xs ys : List V} (k : RelOk R G) (h1 : EvR R ta σ H (IsV (.ref a))) (h2 : EvR R tb σ H (IsV (.ref b))) (ha : H a = some (.tup xs)) (hb : H b = some (.tup ys)) (hn : ys.length = xs.length) :
    EvI R (iZipS K (tCons ta (tCons tb tNil))) σ H xs.length (YPair (fun i => xs[i]?) (fun i => ys[i]?)) := by
  intro H1 e1 q hq
  refine h1 H1 e1 _ fun v H2 e2 hv => ?_
  obtain rfl : v = .ref a := hv
  refine h2 H2 (k.tr e1 e2) _ fun u H3 e3 hu => ?_
  obtain rfl : u = .ref b := hu
  have e := k.tr e1 (k.tr e2 e3)
  have qa := k.im e _ _ rfl ha
  have qb := k.im e _ _ rfl hb
  exact ⟨a, b, xs, ys, rfl, Evl.st_of qa, Evl.st_of qb, hq _ _ _ (k.tr e2 e3) (walk_zipS hn) fun H4 e4 => ⟨Evl.st_of (k.im e4 _ _ rfl qa), Evl.st_of (k.im e4 _ _ rfl qb)⟩⟩
theorem evi_enumT {K : PySem.W.Frag} {a : Addr} {xs : List V} (k : RelOk R G) (h : EvR R te σ H (IsV (.ref a))) (ha : H a = some (.tup xs)) : EvI R (iEnumT K (tCons te tNil)) σ H xs.length (YPair (fun i => some (.int (i : Nat))) (fun i => xs[i]?)) := by
  intro H1 e1 q hq
  refine h H1 e1 _ fun v H2 e2 hv => ?_
  obtain rfl : v = .ref a := hv
  have h2 := k.im (k.tr e1 e2) _ _ rfl ha
  exact ⟨a, xs, rfl, Evl.st_of h2, hq _ _ _ e2 walk_enumT fun H3 e3 => Evl.st_of (k.im e3 _ _ rfl h2)⟩
theorem yat_ex {xs : List V} : ∀ i H x H', YAt xs i H x H' → Ex H H' := fun i H x H' y => by rw [y.1]; exact Ex.refl H
theorem yfn_ex {f : Nat → V} : ∀ i H x H', YFn f i H x H' → Ex H H' := fun i H x H' y => by rw [y.1]; exact Ex.refl H
theorem ypair_ex {f g : Nat → Option V} : ∀ i H x H', YPair f g i H x H' → Ex H H' := fun i H x H' ⟨T, _, _, _, hT, e, _⟩ => by rw [e]; exact Ex.new hT
/-- a pair, unpacked into two names -/
theorem g_pair {K : PySem.W.Frag} {i j : Nat} {T : Addr} {x y : V} {H : Hp} (h : H T = some (.tup [x, y])) {Q : L2.St → Hp → Prop} (q : Q ((σ.set i (some x)).set j (some y)) H) : gTup K 2 (gCons (gName i) (gCons (gName j) gNil)) (.ref T) σ H Q :=
  ⟨T, [x, y], rfl, Evl.st_of h, rfl, x, _, rfl, y, _, rfl, rfl, q⟩
/-- a row of a comprehension of ints -/
theorem tup_row {r : Nat} {h : Nat → Int} {H1 H2 : Hp} {y : V} (t : TupOf r (fun j v _ => v = .int (h j)) H1 y H2) : ∃ p, y = .ref p ∧ H1 p = none ∧ Rw H2 p r h := by
  obtain ⟨p, xs, e, hp, ha, hl, hΦ⟩ := t
  exact ⟨p, e, hp, by unfold Rw; rw [ha, list_of hl hΦ]⟩
theorem tup_gr {l r : Nat} {f : Nat → Nat → Int} {H1 H2 : Hp} {y : V} (t : TupOf l (fun i v H => ∃ p, v = .ref p ∧ Rw H p r (f i)) H1 y H2) : ∃ p, y = .ref p ∧ H1 p = none ∧ Gr H2 p l r f := by
  obtain ⟨p, xs, e, hp, ha, hl, hΦ⟩ := t
  exact ⟨p, e, hp, xs, ha, hl, hΦ⟩
theorem lst_ints {n : Nat} {h : Nat → Int} {H1 H2 : Hp} {y : V} (t : LstOf n (fun j v _ => v = .int (h j)) H1 y H2) : ∃ p, y = .ref p ∧ H1 p = none ∧ H2 p = some (.lst ((List.range n).map fun j => V.int (h j))) := by
  obtain ⟨p, xs, e, hp, ha, hl, hΦ⟩ := t
  exact ⟨p, e, hp, by rw [ha, list_of hl hΦ]⟩
theorem mono_row {r : Nat} {f : Nat → Nat → Int} : ∀ (i : Nat) (v : V) H H', Im H H' → (∃ p, v = .ref p ∧ Rw H p r (f i)) → ∃ p, v = .ref p ∧ Rw H' p r (f i) := fun i v H H' e ⟨p, hp, w⟩ => ⟨p, hp, w.im e⟩
theorem mono_int {h : Nat → Int} : ∀ (i : Nat) (v : V) (H H' : Hp), Im H H' → v = .int (h i) → v = .int (h i) := fun _ _ _ _ _ e => e
end
end Q
set_option Elab.async false
set_option linter.all false
set_option maxRecDepth 100000
set_option maxHeartbeats 4000000
/-! ## More of what evaluates to what -/
namespace Q
open PySem PySem.Spec PyProof.Rows L2
open Evl
section
variable {K : PySem.W.Frag} {σ : L2.St} {H H' : Hp} {ta tb tc te tx : TE} {t u : TT} {x y z v : V} {r : R2} {Φ : Hp → V → Hp → Prop} {D : Ends} {tu tw tz : TS} {g : TG}
theorem ev_r (h : EvR Ex te σ H (IsV v)) : Ev te σ H v := fun H1 e Q q => h H1 e Q fun w H2 e2 hw => by rw [hw]; exact q H2 e2
theorem r_ev (h : Ev te σ H v) : EvR Ex te σ H (IsV v) := fun H1 e Q q => h H1 e Q fun H2 e2 => q _ H2 e2 rfl
theorem ev_isi {n : String} {b : Bool} {tt : Value} (h : Ev te σ H x) (ty : ∀ H1, Ex H H1 → TyX K H1 x tt) (k : PySem.W.kitOne K tt (.type n) = some b) : Ev (tIsi K n te) σ H (.bl b) := fun H1 e Q q =>
  h H1 e _ fun H2 e2 => ⟨x, .ty n, tt, .type n, b, rfl, .ty n, ty H2 (e.trans e2), k, q H2 e2⟩
theorem ev_isiT {a : Addr} {xs : List V} (h : Ev te σ H (.ref a)) (ha : H a = some (.tup xs)) : Ev (tIsi K "tuple" te) σ H (.bl true) := ev_isi h (fun H1 e => .base (.tup (e a _ ha))) kit_tt
theorem ev_isiS {s : Str} (h : Ev te σ H (.str s)) : Ev (tIsi K "str" te) σ H (.bl true) := ev_isi h (fun H1 e => .base (.str s)) kit_ss
theorem ev_chainLe {i j k : Int} (ha : Ev ta σ H (.int i)) (hb : Ev tb σ H (.int j)) (hc : Ev tc σ H (.int k)) :
    Ev (tChain (rI0 fun i j => .bl (decide (i ≤ j))) (rI0 fun i j => .bl (decide (i ≤ j))) ta tb tc) σ H (.bl (decide (i ≤ j) && decide (j ≤ k))) := fun H1 e Q q =>
  ha H1 e _ fun H2 e2 => hb H2 (e.trans e2) _ fun H3 e3 => ⟨i, j, rfl, rfl, decide (i ≤ j), rfl, by
    cases hd : decide (i ≤ j) with
    | true => exact iteT (hc H3 ((e.trans e2).trans e3) _ fun H4 e4 => ⟨j, k, rfl, rfl, by
        have := q H4 ((e2.trans e3).trans e4); rw [hd] at this; exact this⟩)
    | false => exact iteF (by have := q H3 (e2.trans e3); rw [hd] at this; exact this)⟩
theorem ev_lenT {a : Addr} {xs : List V} (ha : Ev ta σ H (.ref a)) (h : H a = some (.tup xs)) : Ev (tCB (rLenS K) (tCons ta tNil)) σ H (.int (xs.length : Int)) := fun H1 e Q q =>
  ha H1 e _ fun H2 e2 => ⟨a, xs, rfl, Or.inr (ex_t (e.trans e2) (st_of h)), q H2 e2⟩
theorem ev_ixTn {a : Addr} {xs : List V} {i : Nat} (ha : Ev ta σ H (.ref a)) (hb : Ev tb σ H (.int (i : Nat))) (h : H a = some (.tup xs)) (hi : xs[i]? = some v) : Ev (tOp (rIxT K) ta tb) σ H v :=
  ev_op ha hb (rv_ixT (st_of h) (atI_nat hi))
theorem ev_ixLn {a : Addr} {xs : List V} {i : Nat} (ha : Ev ta σ H (.ref a)) (hb : Ev tb σ H (.int (i : Nat))) (h : H a = some (.lst xs)) (hi : xs[i]? = some v) : Ev (tOp (rIxL K) ta tb) σ H v :=
  ev_op ha hb (rv_ixL (sq_of h) (atI_nat hi))
theorem ev_eqI {i j : Int} (ha : Ev ta σ H (.int i)) (hb : Ev tb σ H (.int j)) : Ev (tOp rEq ta tb) σ H (.bl (decide (i = j))) := by
  refine ev_is (ev_op ha hb (rv_eq rfl)) ?_
  simp
theorem ev_neI {i j : Int} (ha : Ev ta σ H (.int i)) (hb : Ev tb σ H (.int j)) : Ev (tOp rNe ta tb) σ H (.bl (!decide (i = j))) := by
  refine ev_is (ev_op ha hb (rv_ne rfl)) ?_
  simp
theorem ev_eqS {i j : Str} (ha : Ev ta σ H (.str i)) (hb : Ev tb σ H (.str j)) : Ev (tOp rEq ta tb) σ H (.bl (decide (i = j))) := by
  refine ev_is (ev_op ha hb (rv_eq rfl)) ?_
  simp
theorem ev_neS {i j : Str} (ha : Ev ta σ H (.str i)) (hb : Ev tb σ H (.str j)) : Ev (tOp rNe ta tb) σ H (.bl (!decide (i = j))) := by
  refine ev_is (ev_op ha hb (rv_ne rfl)) ?_
  simp
/-- all([..]), every one True -/
theorem ev_all {n : Nat} (h : EvR Ex te σ H (LstOf n fun _ v _ => v = .bl true)) : Ev (tCB (rAll K) (tCons te tNil)) σ H (.bl true) := fun H1 e Q q =>
  h H1 e _ fun v H2 e2 ⟨p, xs, hv, _, hp, hl, hx⟩ => by
    subst hv
    refine ⟨p, List.replicate n true, rfl, sq_of ?_, ?_⟩
    · rw [hp, list_of (h := fun _ => V.bl true) hl hx]
      congr 2
      apply List.ext_getElem
      · simp
      · intro i h1 h2; simp
    · have : (List.replicate n true).all id = true := by simp
      rw [this]; exact q H2 e2
theorem ev_sum {n : Nat} {f : Nat → Int} (h : EvR Ex te σ H (LstOf n fun i v _ => v = .int (f i))) : Ev (tCB (rSum K) (tCons te tNil)) σ H (.int ((List.range n).map f).sum) := fun H1 e Q q =>
  h H1 e _ fun v H2 e2 ⟨p, xs, hv, _, hp, hl, hx⟩ => by
    subst hv
    exact ⟨p, (List.range n).map f, rfl, sq_of (by rw [hp, list_of hl hx, List.map_map]; rfl), q H2 e2⟩
/-- a test whose answer is known, a way that isn't gone -/
theorem q_no (h : EvT t σ H false) (k : ∀ H1, Ex H H1 → tz D σ H1) : tSeq (tIfS t tu tNext) tz D σ H := q_when h (fun z => (nomatch z)) fun _ => k
theorem s_no (h : EvT t σ H false) (k : ∀ H1, Ex H H1 → tw D σ H1) : tIfS t tu tw D σ H := s_if h (fun z => (nomatch z)) fun _ => k
theorem s_yes (h : EvT t σ H true) (k : ∀ H1, Ex H H1 → tu D σ H1) : tIfS t tu tw D σ H := s_if h (fun _ => k) fun z => (nomatch z)
theorem et_orF (h1 : EvT t σ H false) (h2 : EvT u σ H false) : EvT (tOr t u) σ H false := et_or (a := false) (b := false) h1 fun _ => h2
theorem et_andT (h1 : EvT t σ H true) (h2 : EvT u σ H true) : EvT (tAnd t u) σ H true := et_and (a := true) (b := true) h1 fun _ => h2
theorem et_notT (h1 : EvT t σ H true) : EvT (tNot t) σ H false := et_not (a := true) h1
theorem et_notF (h1 : EvT t σ H false) : EvT (tNot t) σ H true := et_not (a := false) h1
/-- assignment of what is told by Φ -/
theorem qr_asg {i : Nat} (h : EvR Ex te σ H Φ) (k : ∀ v H1, Ex H H1 → Φ H v H1 → tz D (σ.set i (some v)) H1) : tSeq (tAsg te (gName i)) tz D σ H := h H (Ex.refl H) _ fun v H1 e => k v H1 e
theorem sr_ret (h : EvR Ex te σ H Φ) (k : ∀ v H1, Ex H H1 → Φ H v H1 → D.rt v H1) : tRet te D σ H := h H (Ex.refl H) _ k
/-- a call by a promise that tells what it leaves -/
theorem er_call {sp : Sp} {dvs vs : List V} {E : XK} {ta : TA} (h : EvA ta σ H vs) (hs : ∀ H1, Ex H H1 → ∀ Q : VK, (∀ v H2, Ex H1 H2 → Φ H1 v H2 → Q v H2) → sp (vs ++ dvs) H1 Q E) (hΦ : ∀ H1 H2 v H3, Ex H1 H2 → Ex H2 H3 → Φ H2 v H3 → Φ H1 v H3) : EvR Ex (tCall sp dvs E ta) σ H Φ := fun H1 e Q q =>
  h H1 e _ fun H2 e2 => hs H2 (e.trans e2) Q fun v H3 e3 w => q v H3 (e2.trans e3) (hΦ _ _ _ _ e2 e3 w)
end
end Q
set_option Elab.async false
set_option linter.all false
set_option maxRecDepth 100000
set_option maxHeartbeats 4000000
namespace Q
open PySem PySem.Spec PyProof.Rows L2
open Evl
section
variable {P : Program} {w : World} {K : PySem.W.Frag} {mg : Str → Option Value} {base : Heap} {f : Addr} {fd : FuncData}
/-! ### is_count, is_between -/
theorem bl_cases {b : Bool} {P : Bool → Prop} (h1 : b = true → P true) (h2 : b = false → P false) : P b := by cases b; exact h2 rfl; exact h1 rfl
abbrev s_is_count : Stmt := topS 13
def sp_is_count : Sp := fun vs H Q _ => ∃ n m : Int, vs = [.int n, .int m] ∧ Q (.bl (decide (n ≥ m))) H
theorem sc_is_count : FnScope ["value", "least"] ["value", "least"] (defScope s_is_count) := ⟨rfl, rfl, rfl, by decide +kernel, rfl, by decide +kernel, by decide +kernel⟩
theorem ok_is_count {dvs : List V} (F : FunD K "is_count" "is_count" (defArgs s_is_count) (defBody s_is_count) (defScope s_is_count) dvs [] f fd) (c1 : Cl P w K mg base 1 "is_integer" sp_is_integer) : FnOk P w K mg base CX0 2 f fd ["value", "least"] sp_is_count := by
  refine F.ok sc_is_count (fun vs H Q E h => ?_) (fun cdv A outer s H vs Q E hr h => ?_)
  · obtain ⟨n, m, rfl, _⟩ := h
    rfl
  · obtain ⟨n, m, rfl, q⟩ := h
    refine ⟨_, PSs.nox (pss_one (ps_ret (pe_and (pc c1 hr (pa_cons (pv 0) pa_nil)) (pe_one (pe_cmpR op_ge (pv 0) (pv 1) (nomark _)))))), ?_⟩
    exact ⟨_, rfl, n, rfl, true, rfl, iteT ⟨_, rfl, _, rfl, n, m, rfl, rfl, q⟩⟩
abbrev s_is_between : Stmt := topS 14
def sp_is_between : Sp := fun vs H Q _ => ∃ n lo hi : Int, vs = [.int n, .int lo, .int hi] ∧ Q (.bl (decide (lo ≤ n) && decide (n ≤ hi))) H
theorem sc_is_between : FnScope ["value", "low", "high"] ["value", "low", "high"] (defScope s_is_between) := ⟨rfl, rfl, rfl, by decide +kernel, rfl, by decide +kernel, by decide +kernel⟩
theorem ok_is_between (F : Dm K "is_between" s_is_between f fd) (c1 : Cl P w K mg base 1 "is_integer" sp_is_integer) : FnOk P w K mg base CX0 2 f fd ["value", "low", "high"] sp_is_between := by
  refine F.ok sc_is_between (fun vs H Q E h => ?_) (fun cdv A outer s H vs Q E hr h => ?_)
  · obtain ⟨n, lo, hi, rfl, _⟩ := h
    rfl
  · obtain ⟨n, lo, hi, rfl, q⟩ := h
    refine ⟨_, PSs.nox (pss_one (ps_ret (pe_and (pc c1 hr (pa_cons (pv 0) pa_nil)) (pe_one (pe_chain op_le op_le (pv 1) (pv 0) (pv 2)))))), ?_⟩
    refine ⟨_, rfl, n, rfl, true, rfl, iteT ⟨_, rfl, _, rfl, lo, n, rfl, rfl, decide (lo ≤ n), rfl, ?_⟩⟩
    refine bl_cases (P := fun b => if b = true then _ else _) (fun h => iteT ⟨_, rfl, n, hi, rfl, rfl, ?_⟩) (fun h => iteF ?_)
    · rw [h] at q; exact q
    · rw [h] at q; exact q
/-! ### is_grid -/
abbrev s_is_grid : Stmt := topS 16
def Good (l r : Nat) : Prop := (1 ≤ l ∧ l ≤ 8) ∧ 1 ≤ r ∧ r ≤ 8
def sp_is_grid : Sp := fun vs H Q _ => ∃ a l r f, vs = [.ref a] ∧ Gr H a l r f ∧ Good l r ∧ ∀ H2, Ex H H2 → Q (.bl true) H2
theorem sc_is_grid : FnScope ["value", "row", "number"] ["value"] (defScope s_is_grid) := ⟨rfl, rfl, rfl, by decide +kernel, rfl, by decide +kernel, by decide +kernel⟩
theorem ok_is_grid (F : Dm K "is_grid" s_is_grid f fd) (T : Tx K mg) (c1 : Cl P w K mg base 1 "is_integer" sp_is_integer) : FnOk P w K mg base CX0 2 f fd ["value"] sp_is_grid := by
  refine F.ok sc_is_grid (fun vs H Q E h => ?_) (fun cdv A outer s H vs Q E hr h => ?_)
  · obtain ⟨a, l, r, f, rfl, _⟩ := h
    rfl
  · obtain ⟨a, l, r, g, rfl, hg, hgd, q⟩ := h
    have nd := sc_is_grid.nd
    refine ⟨_, PSs.nox (pss_cons (ps_if (PW.pt (pw_or (pt_not (pt_val (p_isi T.isinstance T.tuple bt_tuple (pv 0)))) (pw_or1 (pt_not (pt_chain op_le op_le pe_int (pe_callB call_len_seq (by rfl) T.len bt_len (pa_cons (pv 0) pa_nil)) (pgc T.most_size))))))
        (pss_one (ps_ret pe_bl)) pss_nil)
      (pss_cons (ps_for PassesOwn.never rfl (pi_tup (pv 0)) (pg_name (i := 1) nd rfl (Or.inl rfl))
        (pss_cons (ps_if (PW.pt (pw_or (pt_not (pt_val (p_isi T.isinstance T.tuple bt_tuple (pv 1)))) (pw_or (pt_not (pt_chain op_le op_le pe_int (pe_callB call_len_seq (by rfl) T.len bt_len (pa_cons (pv 1) pa_nil)) (pgc T.most_size)))
            (pw_or1 (pt_cmpR op_ne (pe_callB call_len_seq (by rfl) T.len bt_len (pa_cons (pv 1) pa_nil)) (pe_callB call_len_seq (by rfl) T.len bt_len (pa_cons (pe_ix ix_tup (pv 0) pe_int (fun _ _ => rfl)) pa_nil)) (nomark _))))))
            (pss_one (ps_ret pe_bl)) pss_nil)
          (pss_one (ps_if (pt_not (pt_val (pe_callB (cr_all rfl) (by rfl) T.all bt_all (pa_cons (pe_lc (own := [("number", 2)]) (g := gName 2) (tt := tYes) rfl nd (pi_tup (pv 1)) (blkOk_by (N := ["value", "row", "number"]) (sc := defScope s_is_grid) (by decide +kernel))
              (fun _ _ _ _ _ => pg_name (i := 2) nd rfl (Or.inl rfl)) (fun _ _ _ _ _ => pts_nil) (fun _ _ _ _ _ => pc c1 hr (pa_cons (pv 2) pa_nil))) pa_nil))))
            (pss_one (ps_ret pe_bl)) pss_nil))))
        (pss_one (ps_ret pe_bl)))), ?_⟩
    have hl : 1 ≤ l ∧ l ≤ 8 := hgd.1
    have hrr : 1 ≤ r ∧ r ≤ 8 := hgd.2
    obtain ⟨xs, hxs, hxl, hxr⟩ := hg
    have rows : ∀ (i : Nat) v, xs[i]? = some v → ∃ p, v = .ref p ∧ Rw H p r (g i) := hxr
    have row0 : ∃ p, xs[0]? = some (V.ref p) ∧ Rw H p r (g 0) := by
      have e : xs[0]? = some (xs[0]'(by omega)) := List.getElem?_eq_getElem (by omega)
      obtain ⟨p, hp, w⟩ := rows 0 _ e
      exact ⟨p, by rw [e, hp], w⟩
    refine q_no (et_orF (et_notT (et_B (ev_isiT (ev_var rfl) hxs))) (et_notT (et_test (ev_is (ev_chainLe ev_c (ev_lenT (ev_var rfl) hxs) ev_c) ?_)))) fun H1 e1 => ?_
    · rw [hxl]
      congr 1
      rw [Bool.and_eq_true, decide_eq_true_eq, decide_eq_true_eq]; omega
    refine q_forT (a := a) (xs := xs) (ev_var rfl) (st_of (e1 _ _ hxs)) (fun i σ' H' => Ex H H' ∧ ∃ y z, σ' = [some (.ref a), y, z]) (fun H2 e2 => ⟨e1.trans e2, none, none, rfl⟩)
      (fun i σ' H' _ p => st_of (p.1 _ _ hxs)) (fun i x σ' H' hi p => ?_) fun σ' H' p => ?_
    · obtain ⟨e, y, z, rfl⟩ := p
      obtain ⟨p, rfl, hp⟩ := rows i x hi
      have hp' := e _ _ hp
      obtain ⟨p0, h00, hp0⟩ := row0
      refine q_no (et_orF (et_notT (et_B (ev_isiT (ev_var rfl) hp'))) (et_orF (et_notT (et_test (ev_is (ev_chainLe ev_c (ev_lenT (ev_var rfl) hp') ev_c) ?_)))
        (et_test (ev_is (ev_neI (ev_lenT (ev_var rfl) hp') (ev_cb (ea_cons (ev_ixTn (i := 0) (ev_var rfl) ev_c (e _ _ hxs) h00) ea_nil) (z := .int r) fun H1 e1 Q q => ⟨p0, _, rfl, .inr (st_of (e1 _ _ (e _ _ hp0))), ?_⟩)) ?_)))) fun H2 e2 => ?_
      · rw [row_len]
        congr 1
        rw [Bool.and_eq_true, decide_eq_true_eq, decide_eq_true_eq]; omega
      · rw [row_len]; exact q _ (Ex.refl _)
      · rw [row_len]; simp
      refine s_no (et_notT (et_B (ev_all (n := r) ?_))) fun H3 e3 => ⟨(e.trans e2).trans e3, _, _, rfl⟩
      have k := evr_lc (te := tCall sp_is_integer [] E0 (tCons (tVar 2) tNil)) (g := gName 2) (vs := [2]) exOk (fun _ v _ => v = V.bl true) (fun _ _ _ _ _ h => h) trivial (evi_tup (K := K) (te := tVar 1) (σ := [some (.ref a), some (.ref p), z]) exOk (r_ev (ev_var rfl)) (e2 _ _ hp')) (by rw [row_len]; omega) (fun i H x H' _ => yat_ex i H x H') (fun j x H4 H5 hj e4 y e5 => ?_)
      · rw [row_len] at k; exact k
      · obtain ⟨rfl, hy⟩ := y
        obtain ⟨hj', rfl⟩ := row_at' hy
        exact ⟨_, fun _ k => k, rfl, fun H6 e6 Q q => ⟨_, rfl, g i j, rfl, q _ _ (Ex.refl _) rfl⟩⟩
    · obtain ⟨e, y, z, rfl⟩ := p
      exact s_ret ev_c fun H2 e2 => q H2 (e.trans e2)
end
end Q
set_option Elab.async false
set_option linter.all false
set_option maxRecDepth 100000
set_option maxHeartbeats 4000000
namespace Q
open PySem PySem.Spec PyProof.Rows L2
open Evl SX TL
/-! ### more readings: texts -/
section
variable {K : PySem.W.Frag} {σ : L2.St} {H H' : Hp} {ta tb tc te tx : TE} {R : Hp → Hp → Prop} {G : Hp → Prop}
theorem evi_str {z : Str} (k : RelOk R G) (h : EvR R te σ H (IsV (.str z))) : EvI R (iStr te) σ H z.cps.size (fun i H v H' => H' = H ∧ ∃ c, z.cps[i]? = some c ∧ v = .str ⟨#[c]⟩) := by
  intro H1 e1 q hq
  refine h H1 e1 _ fun v H2 e2 hv => ?_
  exact ⟨z, hv, hq _ _ (fun _ => True) e2 walk_str fun _ _ => trivial⟩
theorem ev_sign {c : Nat} {z : Str} (ha : Ev ta σ H (.str ⟨#[c]⟩)) (hb : Ev tb σ H (.str z)) : Ev (tOp (fun x y H Q => ∃ (c : Nat) (z : Str), x = V.str ⟨#[c]⟩ ∧ y = .str z ∧ Q (.bl (decide (c ∈ z.cps.toList))) H) ta tb) σ H (.bl (decide (c ∈ z.cps.toList))) :=
  ev_op ha hb fun H1 _ Q q => ⟨c, z, rfl, rfl, q _ (Ex.refl _)⟩
theorem ev_lenS {z : Str} (ha : Ev ta σ H (.str z)) (hz : z.length ≤ 100000) : Ev (tCB (fun xs H Q => ∃ z, xs = [V.str z] ∧ z.length ≤ sizeLine ∧ Q (.int z.length) H) (tCons ta tNil)) σ H (.int z.length) := fun H1 e Q q =>
  ha H1 e _ fun H2 e2 => ⟨z, rfl, sz_of hz, q H2 e2⟩
theorem ev_intS {z : Str} {n : Int} (ha : Ev ta σ H (.str z)) (hn : PySem.intText? z = some n) (hz : z.length ≤ 640) : Ev (tCB (fun xs H Q => ∃ a n, xs = [V.str a] ∧ PySem.intText? a = some n ∧ a.length ≤ 640 ∧ Q (.int n) H) (tCons ta tNil)) σ H (.int n) := fun H1 e Q q =>
  ha H1 e _ fun H2 e2 => ⟨z, n, rfl, hn, hz, q H2 e2⟩
theorem ev_ixSn {w : List Nat} {c : Nat} {i : Nat} (ha : Ev ta σ H (.str (S w))) (hb : Ev tb σ H (.int (i : Nat))) (hz : w.length ≤ 100000) (hi : w[i]? = some c) : Ev (tOp rIxS ta tb) σ H (.str (S [c])) :=
  ev_op ha hb (rv_ixS (by rw [S_len]; exact hz) (atI_nat (by simpa using hi)))
end
/-! ### numerals -/
theorem num_head {n : Nat} (h : 1 ≤ n) : ∃ c, (numL n)[0]? = some c ∧ c ≠ 48 := by
  induction n using Nat.strongRecOn with
  | ind n ih =>
    by_cases h10 : n < 10
    · rw [numL_lt h10]; exact ⟨48 + n, rfl, by omega⟩
    · rw [numL_step (by omega)]
      obtain ⟨c, hc, hn⟩ := ih (n / 10) (by omega) (by omega)
      refine ⟨c, ?_, hn⟩
      rw [List.getElem?_append_left (List.getElem?_eq_some_iff.mp hc).1]; exact hc
/-- an int of few digits, as a text -/
def Few (n : Nat) : Prop := (numL n).length ≤ 600
section
variable {P : Program} {w : World} {K : PySem.W.Frag} {mg : Str → Option Value} {base : Heap} {f : Addr} {fd : FuncData}
abbrev s_check_size : Stmt := topS 17
def sp_check_size : Sp := fun vs H Q _ => ∃ n : Int, vs = [.int n] ∧ 1 ≤ n ∧ n ≤ 8 ∧ Q .non H
theorem sc_check_size : FnScope ["value"] ["value"] (defScope s_check_size) := ⟨rfl, rfl, rfl, by decide +kernel, rfl, by decide +kernel, by decide +kernel⟩
theorem ok_check_size (F : Dm K "check_size" s_check_size f fd) (T : Tx K mg) (c2 : Cl P w K mg base 2 "is_count" sp_is_count) : FnOk P w K mg base CX0 3 f fd ["value"] sp_check_size := by
  refine F.ok sc_check_size (fun vs H Q E h => ?_) (fun cdv A outer s H vs Q E hr h => ?_)
  · obtain ⟨n, rfl, _⟩ := h
    rfl
  · obtain ⟨n, rfl, h1, h2, q⟩ := h
    refine ⟨_, PSs.nox (pss_one (ps_if (PW.pt (pw_or (pt_not (pt_val (pc c2 hr (pa_cons (pv 0) (pa_cons pe_int pa_nil))))) (pw_or1 (pt_cmpR op_gt (pv 0) (pgc T.most_size) (nomark _))))) (pss_one ps_never) pss_nil)), ?_⟩
    refine ⟨_, rfl, n, 1, rfl, true, ?_, ?_⟩
    · rw [decide_eq_true h1]
    · refine iteF ⟨_, rfl, n, 8, rfl, rfl, false, ?_, iteF q⟩
      show V.bl (decide ((8 : Int) < n)) = _
      rw [decide_eq_false (by omega)]
abbrev s_integer_in : Stmt := topS 19
def sp_integer_in : Sp := fun vs H Q _ => ∃ n : Nat, vs = [.str (S (numL n))] ∧ Few n ∧ ∀ H2, Ex H H2 → Q (.int (n : Nat)) H2
theorem sc_integer_in : FnScope ["word", "letter"] ["word"] (defScope s_integer_in) := ⟨rfl, rfl, rfl, by decide +kernel, rfl, by decide +kernel, by decide +kernel⟩
theorem ok_integer_in (F : Dm K "integer_in" s_integer_in f fd) (T : Tx K mg) : FnOk P w K mg base CX0 1 f fd ["word"] sp_integer_in := by
  refine F.ok sc_integer_in (fun vs H Q E h => ?_) (fun cdv A outer s H vs Q E hr h => ?_)
  · obtain ⟨n, rfl, _⟩ := h
    rfl
  · obtain ⟨n, rfl, hf, q⟩ := h
    have nd := sc_integer_in.nd
    refine ⟨_, PSs.nox (pss_cons (ps_if (PW.pt (pw_or (pt_cmpR op_eq (pv 0) pe_str (nomark _)) (pw_or1 (pt_not (pt_val (pe_callB (cr_all rfl) (by rfl) T.all bt_all (pa_cons
        (pe_lc (own := [("letter", 1)]) (g := gName 1) (tt := tYes) rfl nd (pi_str (pv 0)) (blkOk_by (N := ["word", "letter"]) (sc := defScope s_integer_in) (by decide +kernel))
              (fun _ _ _ _ _ => pg_name (i := 1) nd rfl (Or.inl rfl)) (fun _ _ _ _ _ => pts_nil) (fun _ _ _ _ _ => pe_cmpR op_in_sign (pv 1) (pgc T.digits) (by rfl))) pa_nil)))))))
        (pss_one (ps_ret pe_non)) pss_nil)
      (pss_one (ps_ret (pe_ifExp (PW.pt (pw_or (pt_cmpR op_ne (pe_ix ix_str (pv 0) pe_int (fun _ _ => rfl)) pe_str (nomark _)) (pw_or1 (pt_cmpR op_eq (pe_callB call_len_str (by rfl) T.len bt_len (pa_cons (pv 0) pa_nil)) pe_int (nomark _)))))
        (pe_callTy call_int_str (by rfl) T.int bt_int (pa_cons (pv 0) pa_nil)) pe_non)))), ?_⟩
    unfold Few at hf
    have hne := numL_ne n
    refine q_no (et_orF (et_test (ev_is (ev_eqS (ev_var rfl) ev_c) ?_)) (et_notT (et_B (ev_all (n := (numL n).length) ?_)))) fun H1 e1 => ?_
    · rw [decide_eq_false]
      intro h
      exact hne (congrArg (fun x : Str => x.cps.toList) h)
    · have k := evr_lc (te := tOp (fun x y H Q => ∃ (c : Nat) (z : Str), x = V.str ⟨#[c]⟩ ∧ y = .str z ∧ Q (.bl (decide (c ∈ z.cps.toList))) H) (tVar 1) (tC (.str "0123456789"))) (g := gName 1) (vs := [1]) exOk (fun _ v _ => v = V.bl true) (fun _ _ _ _ _ h => h) trivial (evi_str (te := tVar 0) (σ := [some (.str (S (numL n))), none]) (H := H) exOk (r_ev (ev_var rfl))) (by simpa using (by omega)) (fun i H x H' _ y => by rw [y.1]; exact Ex.refl _) (fun j x H4 H5 hj e4 y e5 => ?_)
      · have e : (S (numL n)).cps.size = (numL n).length := by simp
        rw [e] at k; exact k
      · obtain ⟨rfl, c, hc, rfl⟩ := y
        refine ⟨_, fun _ k => k, rfl, r_ev (ev_is (ev_sign (ev_var rfl) ev_c) ?_)⟩
        have hm : c ∈ numL n := by
          have := List.mem_of_getElem? (l := numL n) (i := j) (a := c) (by simpa using hc)
          exact this
        have hd := numL_digits n c hm
        rw [decide_eq_true]
        have e : ("0123456789" : Str).cps.toList = [48,49,50,51,52,53,54,55,56,57] := by rfl
        rw [e]
        simp only [List.mem_cons, List.not_mem_nil, or_false]
        omega
    · refine s_ret (ev_if (b := true) (et_is (et_or (et_test (ev_neS (ev_ixSn (w := numL n) (i := 0) (c := (numL n)[0]'(by have := List.length_pos_iff.mpr hne; omega)) (ev_var rfl) ev_c (by omega) (List.getElem?_eq_getElem _)) ev_c)) fun _ => et_test (ev_eqI (ev_lenS (ev_var rfl) (by rw [S_len]; omega)) ev_c)) ?_)
        (fun _ => ev_intS (n := (n : Int)) (ev_var rfl) ?_ (by rw [S_len]; omega)) fun z => (nomatch z)) fun H2 e2 => q H2 (e1.trans e2)
      · rw [Bool.or_eq_true, S_len]
        by_cases h10 : n < 10
        · right; rw [decide_eq_true_eq, numL_lt h10]; rfl
        · left
          obtain ⟨c, hc, hn⟩ := num_head (n := n) (by omega)
          have : (numL n)[0]'(by have := List.length_pos_iff.mpr hne; omega) = c := (List.getElem?_eq_some_iff.mp hc).2
          rw [this, Bool.not_eq_true', decide_eq_false_iff_not]
          intro h
          have := congrArg (fun x : Str => x.cps.toList) h
          have : [c] = [48] := this
          cases this
          exact hn rfl
      · rw [← num_S]; exact int_num (by omega)
end
end Q
set_option Elab.async false
set_option linter.all false
set_option maxRecDepth 100000
set_option maxHeartbeats 4000000
namespace Q
open PySem PySem.Spec PyProof.Rows L2
open Evl SX TL
/-- numerals with commas between -/
def commas (ns : List Nat) : List Nat := joinL [44] (ns.map numL)
abbrev rSplitQ : V → List V → Hp → VK → Prop := fun x xs H Q => ∃ a b, x = .str a ∧ xs = [.str b] ∧ (b.length == 0) = false ∧ a.length + 2 ≤ sizeLine ∧ rNewStrs (Txt.split a b) H Q
section
variable {K : PySem.W.Frag} {σ : L2.St} {H H' : Hp} {ta tb tc te tx : TE} {v : V}
theorem el_split {z : Nat} {s : Str} {parts : List (List Nat)} (ha : Ev ta σ H (.str (S (joinL [z] parts)))) (hb : Ev tb σ H (.str s)) (hs : s = S [z]) (hz : z < 256) (hne : parts ≠ []) (hp : ∀ p ∈ parts, z ∉ p) (hl : (joinL [z] parts).length ≤ 100000) :
    EvL (tM1 rSplitQ ta tb) σ H (parts.map fun w => V.str (S w)) := fun H1 e Q q =>
  ha H1 e _ fun H2 e2 => ⟨⟨_, rfl⟩, hb H2 (e.trans e2) _ fun H3 e3 => ⟨_, s, rfl, rfl, by rw [hs]; rfl, by rw [S_len]; unfold sizeLine; omega, fun p hn => by
    rw [hs, split_S (by simp) (by simpa using hz), SX.spl_join hne hp, List.map_map]
    exact q p _ (fresh_back (e2.trans e3) hn) ((e2.trans e3).trans (Ex.new hn)) upd_same⟩⟩
theorem evi_listN {xs : List V} (h : EvL te σ H xs) : EvI Ex (iList K te) σ H xs.length (YAt xs) := fun H1 e1 q hq =>
  h H1 e1 _ fun p H2 _ e2 h2 => ⟨p, rfl, ⟨xs, sq_of h2⟩, hq _ _ _ e2 walk_list fun H3 e3 => sq_of (e3 _ _ h2)⟩
theorem evi_list {xs : List V} {a : Addr} (h : Ev te σ H (.ref a)) (ha : H a = some (.lst xs)) : EvI Ex (iList K te) σ H xs.length (YAt xs) := fun H1 e1 q hq =>
  h H1 e1 _ fun H2 e2 => ⟨a, rfl, ⟨xs, sq_of (e2 _ _ (e1 _ _ ha))⟩, hq _ _ _ e2 walk_list fun H3 e3 => sq_of (e3 _ _ (e2 _ _ (e1 _ _ ha)))⟩
/-- a comprehension over a list or tuple's items with a name as its target: each item's value by f -/
theorem er_lcV {ti : TI} {xs : List V} {j : Nat} {vs : List Nat} (f : Nat → V) (hi : EvI Ex ti σ H xs.length (YAt xs)) (hn : xs.length ≤ 100000) (hw : ∀ x, wipe ((wipe σ vs).set j (some x)) vs = wipe σ vs)
    (he : ∀ (i : Nat) (x : V) H1, Ex H H1 → xs[i]? = some x → Ev te ((wipe σ vs).set j (some x)) H1 (f i)) : EvR Ex (tLc ti (gName j) tYes te vs) σ H (LstOf xs.length fun i v _ => v = f i) :=
  evr_lc exOk (fun i v _ => v = f i) (fun _ _ _ _ _ h => h) trivial hi hn (fun i H x H' _ => yat_ex i H x H') fun i x H1 H2 _ _ y e2 => ⟨_, fun _ k => k, hw x, r_ev (he i x H2 e2 (by rw [← y.2]))⟩
theorem evl_lc {n : Nat} {f : Nat → V} (h : EvR Ex te σ H (LstOf n fun i v _ => v = f i)) : EvL te σ H ((List.range n).map f) := fun H1 e Q q =>
  h H1 e _ fun v H2 e2 ⟨p, xs, hv, hn, hp, hl, hx⟩ => by rw [hv]; exact q p H2 hn e2 (by rw [hp, list_of hl hx])
theorem evu_tup {xs : List V} (h : EvL te σ H xs) : EvU (tCB (rTupOf K) (tCons te tNil)) σ H xs := fun H1 e Q q =>
  h H1 e _ fun p H2 hn e2 hp => ⟨p, xs, rfl, .inl ⟨sq_of hp, fun t ht => q t _ (fresh_back e2 ht) (e2.trans (Ex.new ht)) upd_same⟩⟩
theorem map_range_get {α : Type} {xs : List α} {g : Nat → V} {h : α → V} (he : ∀ (i : Nat) x, xs[i]? = some x → g i = h x) : (List.range xs.length).map g = xs.map h := by
  apply List.ext_getElem
  · simp
  · intro i h1 h2
    have hi : i < xs.length := by simpa using h2
    simp only [List.getElem_map, List.getElem_range]
    exact he i _ (List.getElem?_eq_getElem hi)
theorem ints_flat (ns : List Int) : (ns.map V.int).all flatV = true := by
  rw [List.all_map]; exact List.all_eq_true.mpr fun _ _ => rfl
theorem inV_none (ns : List Int) : inV .non (ns.map V.int) = false := by
  unfold inV
  rw [List.any_map]; exact List.any_eq_false.mpr fun x _ => by show ¬ (eqV (.int x) .non = true); exact Bool.false_ne_true
end
theorem commas_free {z : Nat} (hz : z ≠ 44) (hd : z < 48 ∨ 57 < z) : ∀ ns, z ∉ commas ns
  | [] => by simp [commas, joinL]
  | [n] => by
    show z ∉ numL n
    exact numL_free hd
  | n :: m :: r => by
    have ih := commas_free hz hd (m :: r)
    intro h
    have h : z ∈ numL n ++ ([44] ++ commas (m :: r)) := by
      first
      | exact h
      | (simp only [commas, List.map_cons, joinL] at h ⊢; simpa using h)
    simp only [List.mem_append, List.mem_singleton] at h
    rcases h with h | h | h
    · exact numL_free hd h
    · exact hz h
    · exact ih h
section
variable {P : Program} {w : World} {K : PySem.W.Frag} {mg : Str → Option Value} {base : Heap} {f : Addr} {fd : FuncData}
abbrev s_integers_in : Stmt := topS 20
def sp_integers_in : Sp := fun vs H Q _ => ∃ ns : List Nat, vs = [.str (S (commas ns))] ∧ ns ≠ [] ∧ (∀ n ∈ ns, Few n) ∧ (commas ns).length ≤ 10000 ∧ ns.length ≤ 1000 ∧ ∀ p H2, H p = none → Ex H H2 → H2 p = some (.tup (ns.map fun n => V.int (n : Nat))) → Q (.ref p) H2
theorem sc_integers_in : FnScope ["word", "found", "one"] ["word"] (defScope s_integers_in) := ⟨rfl, rfl, rfl, by decide +kernel, rfl, by decide +kernel, by decide +kernel⟩
theorem ok_integers_in (F : Dm K "integers_in" s_integers_in f fd) (T : Tx K mg) (c1 : Cl P w K mg base 1 "integer_in" sp_integer_in) : FnOk P w K mg base CX0 2 f fd ["word"] sp_integers_in := by
  refine F.ok sc_integers_in (fun vs H Q E h => ?_) (fun cdv A outer s H vs Q E hr h => ?_)
  · obtain ⟨n, rfl, _⟩ := h
    rfl
  · obtain ⟨ns, rfl, hne, hf, hl, hnl, q⟩ := h
    have nd := sc_integers_in.nd
    refine ⟨_, PSs.nox (pss_cons (ps_set (i := 1) nd rfl (.inl rfl) (pe_callTy call_tuple_of (by rfl) T.tuple bt_tuple (pa_cons
        (pe_lc (own := [("one", 2)]) (g := gName 2) (tt := tYes) rfl nd (pi_list (pe_split (pv 0) pe_str)) (blkOk_by (N := ["word", "found", "one"]) (sc := defScope s_integers_in) (by decide +kernel))
              (fun _ _ _ _ _ => pg_name (i := 2) nd rfl (Or.inl rfl)) (fun _ _ _ _ _ => pts_nil) (fun _ _ _ _ _ => pc c1 hr (pa_cons (pv 2) pa_nil))) pa_nil)))
      (pss_one (ps_ret (pe_ifExp (pt_cmpR op_in_seq pe_non (pv 1) (by rfl)) pe_non (pv 1))))), ?_⟩
    have e0 : ns.length = (ns.map fun n => V.int (n : Nat)).length := by simp
    refine q_asgU (xs := ns.map fun n => V.int (n : Nat)) ?_ fun p H1 hpn e1 hp => ?_
    · refine evu_tup ?_
      have hsp := el_split (σ := [some (.str (S (commas ns))), none, none]) (H := H) (ta := tVar 0) (tb := tC (.str ",")) (s := ",") (parts := ns.map numL) (ev_var rfl) ev_c (by rfl) (by decide) (by simpa using hne) (fun p hp => by
        obtain ⟨n, _, rfl⟩ := List.mem_map.mp hp
        exact numL_free (by omega)) (by show (commas ns).length ≤ _; omega)
      have k := evl_lc (er_lcV (j := 2) (vs := [2]) (te := tCall sp_integer_in [] E0 (tCons (tVar 2) tNil)) (fun i => V.int ((ns.getD i 0 : Nat))) (evi_listN (K := K) hsp) (by simp; omega) (fun x => rfl) fun i x H1 e1 hx => ?_)
      · have e : (List.range ((ns.map numL).map fun w => V.str (S w)).length).map (fun i => V.int ((ns.getD i 0 : Nat))) = ns.map fun n => V.int (n : Nat) := by
          rw [List.length_map, List.length_map]
          exact map_range_get fun i x hx => by rw [List.getD_eq_getElem?_getD, hx]; rfl
        rw [e] at k
        exact k
      · rw [List.map_map, List.getElem?_map] at hx
        cases hni : ns[i]? with
        | none => rw [hni] at hx; cases hx
        | some n =>
          rw [hni] at hx
          cases hx
          have e : ns.getD i 0 = n := by rw [List.getD_eq_getElem?_getD, hni]; rfl
          rw [e]
          exact ev_call (ea_cons (ev_var rfl) ea_nil) fun H2 e2 Q q E => ⟨n, rfl, hf n (List.mem_of_getElem? hni), q⟩
    · have ei : (ns.map fun n => V.int (n : Nat)) = (ns.map (fun n : Nat => (n : Int))).map V.int := by rw [List.map_map]; rfl
      refine s_ret (ev_if (b := false) (et_test (ev_is (ev_op ev_c (ev_var rfl) (rv_isT (st_of hp) rfl (by rw [ei]; exact ints_flat _))) ?_)) (fun z => (nomatch z)) fun _ => ev_var rfl) fun H2 e2 => q p H2 hpn (e1.trans e2) (e2 _ _ hp)
      rw [ei, inV_none]
end
end Q
set_option Elab.async false
set_option linter.all false
set_option maxRecDepth 100000
set_option maxHeartbeats 4000000
/-! ## Classes: what the callers need; making, methods, properties; rows and grids by comprehensions -/
namespace Q
open PySem PySem.Spec PyProof.Rows L2
open Evl
/-- a promise by positional values -/
theorem fnr_of {P : Program} {w : World} {K : PySem.W.Frag} {mg : Str → Option Value} {base : Heap} {k : Nat} {f : Addr} {fd : FuncData} {ps : List Str} {sp : Sp} (F : FnOk P w K mg base CX0 k f fd ps sp) (hb : Binds K fd ps []) : FnR P w K mg base CX0 k f sp :=
  (F.raw hb .nil).imp fun vs H Q E h => by rw [List.append_nil]; exact h
structure MkC (P : Program) (w : World) (K : PySem.W.Frag) (mg : Str → Option Value) (base : Heap) (k : Nat) (C : Addr) (x : Str) (sp : Sp) : Prop where
  ex : ∃ g, Mk K C g ∧ FnR P w K mg base CX0 k g sp
  gl : mg x = some (.ref C)
structure MtC (P : Program) (w : World) (K : PySem.W.Frag) (mg : Str → Option Value) (base : Heap) (k : Nat) (C : Addr) (m : Str) (sp : Sp) : Prop where
  ex : ∃ g, Meth K C m g ∧ FnR P w K mg base CX0 k g sp
/-- a property -/
structure PrC (P : Program) (w : World) (K : PySem.W.Frag) (mg : Str → Option Value) (base : Heap) (k : Nat) (C : Addr) (m : Str) (sp : Sp) : Prop where
  ex : ∃ p g fd ps, PropOf K C m p g ∧ FnOk P w K mg base CX0 k g fd ps sp ∧ Binds K fd ps []
/-- an own operator: the class's def for it -/
structure OwC (P : Program) (w : World) (K : PySem.W.Frag) (mg : Str → Option Value) (base : Heap) (k : Nat) (C : Addr) (m : Str) (sp : Sp) : Prop where
  ex : ∃ g, PySem.W.findIn K (.ref C) m = some (some (.ref g)) ∧ PySem.W.isFn K (.ref g) = true ∧ FnR P w K mg base CX0 k g sp
structure TabC (K : PySem.W.Frag) (C : Addr) : Prop where
  sc : SlX.SCls K C
  si : SlX.SIsi K C
  s0 : ∃ p, SlX.Slot1 K C "own_counts" p 0
  s1 : ∃ p, SlX.Slot1 K C "own_left" p 1
  s2 : ∃ p, SlX.Slot1 K C "own_right" p 2
  kit : PySem.W.kitOne K (.ref C) (.ref C) = some true
  sf : PySem.W.selfFirst K C = true
structure QueC (K : PySem.W.Frag) (C : Addr) : Prop where
  cl : Cls K C
  na : NoAttr K C "own_weights"
  si : SlX.SIsi K C
  kit : PySem.W.kitOne K (.ref C) (.ref C) = some true
  sf : PySem.W.selfFirst K C = true
  ne : PySem.W.findIn K (.ref C) "__ne__" = some (some (.builtin "object.__ne__"))
section
variable {X : Cx} {k j : Nat} {C : Addr} {x m : Str} {sp : Sp} {p pos apos : Pos} {e o : Expr} {es : List Expr} {t : TA} {ta : TE}
/-- C(e, ..) -/
theorem pmk (c : MkC X.prog X.w X.K X.mg X.base k C x sp) (hr : Room j X.A) (ha : PA X (e :: es) t) (hk : k + 1 ≤ j := by decide) (hg : Gl X x := by rfl) (hdb : (x == ("__debug__" : Str)) = false := by decide)
    (he : starEach (e :: es) X.env = (false, eval e X.env) :: starEach es X.env := by rfl) (hpl : (backTo pos (starEach es X.env)).any (·.1) = false := by rfl) : PE X (.Call (.Name x p) (e :: es) [] pos) (StX.tMakeR C sp E0 t) := by
  obtain ⟨g, M, F⟩ := c.ex
  exact StX.pe_makeR M F (hr.mono hk) hg c.gl pass0 ha hdb he hpl
/-- o.m(e, ..), o with slots -/
theorem pmtS {pl : Sem Bool} (c : MtC X.prog X.w X.K X.mg X.base k C m sp) (cl : SlX.SCls X.K C) (hr : Room j X.A) (ho : PE X o ta) (ha : PA X (e :: es) t) (hk : k ≤ j := by decide)
    (hst : starEach (e :: es) X.env = (false, eval e X.env) :: starEach es X.env := by rfl) (hpl : (backTo pos (starEach es X.env)).any (·.1) = false := by rfl)
    (ht : eval (.Call (.Attribute o m apos) (e :: es) [] pos) X.env = (do
      let ov ← eval o X.env
      standAt apos.atName
      let (f, first) ← holding [ov] (getMethod ov m pl)
      callWith pos f first (backTo pos (starEach (e :: es) X.env)) (backToKw pos (keywordEach [] X.env))) := by rfl) :
    PE X (.Call (.Attribute o m apos) (e :: es) [] pos) (SlX.tMethSl C sp E0 ta t) := by
  obtain ⟨g, M, F⟩ := c.ex
  exact SlX.pe_methSl ho cl M F (hr.mono hk) pass0 ha hst hpl ht
theorem pmtS0 {pl : Sem Bool} (c : MtC X.prog X.w X.K X.mg X.base k C m sp) (cl : SlX.SCls X.K C) (hr : Room j X.A) (ho : PE X o ta) (hk : k ≤ j := by decide)
    (ht : eval (.Call (.Attribute o m apos) [] [] pos) X.env = (do
      let ov ← eval o X.env
      standAt apos.atName
      let (f, first) ← holding [ov] (getMethod ov m pl)
      callWith pos f first (backTo pos (starEach [] X.env)) (backToKw pos (keywordEach [] X.env))) := by rfl) :
    PE X (.Call (.Attribute o m apos) [] [] pos) (SlX.tMethSl C sp E0 ta tNil) := by
  obtain ⟨g, M, F⟩ := c.ex
  exact SlX.pe_methSl0 ho cl M F (hr.mono hk) pass0 ht
/-- o.f, a property of a class with slots -/
theorem pprS (c : PrC X.prog X.w X.K X.mg X.base k C m sp) (cl : SlX.SCls X.K C) (hr : Room j X.A) (ho : PE X o ta) (hk : k + 1 ≤ j := by decide) (hb : attributeBase o m X.env (eval o X.env) = eval o X.env := by rfl) :
    PE X (.Attribute o m pos) (SlX.tPropSl C sp E0 ta) := by
  obtain ⟨p, g, fd, ps, h, F, b⟩ := c.ex
  exact SlX.pe_propSl ho cl h.at_ h.get h.tak h.rec_ (fnr_of F b) (hr.mono hk) (fun _ _ _ _ z => z.elim) hb
/-- o.f, a property of a plain class -/
theorem ppr (c : PrC X.prog X.w X.K X.mg X.base k C m sp) (cl : Cls X.K C) (hr : Room j X.A) (ho : PE X o ta) (hk : k + 1 ≤ j := by decide) (hb : attributeBase o m X.env (eval o X.env) = eval o X.env := by rfl) :
    PE X (.Attribute o m pos) (tProp C sp [] E0 ta) := by
  obtain ⟨p, g, fd, ps, h, F, b⟩ := c.ex
  exact pe_prop ho cl h F (hr.mono hk) b .nil pass0 hb
/-- o.m(), o of a plain class -/
theorem pmt0 {pl : Sem Bool} (c : ∃ g fd ps, Meth X.K C m g ∧ FnOk X.prog X.w X.K X.mg X.base CX0 k g fd ps sp ∧ Binds X.K fd ps []) (cl : Cls X.K C) (hr : Room j X.A) (ho : PE X o ta) (hk : k ≤ j := by decide)
    (ht : eval (.Call (.Attribute o m apos) [] [] pos) X.env = (do
      let ov ← eval o X.env
      standAt apos.atName
      let (f, first) ← holding [ov] (getMethod ov m pl)
      callWith pos f first (backTo pos (starEach [] X.env)) (backToKw pos (keywordEach [] X.env))) := by rfl) :
    PE X (.Call (.Attribute o m apos) [] [] pos) (tMeth C m sp [] E0 ta tNil) := by
  obtain ⟨g, fd, ps, M, F, b⟩ := c
  exact pe_meth0 ho cl M F (hr.mono hk) b .nil pass0 ht
/-- x op y, both instances of C -/
theorem pop2 {a b : Expr} {op : Operator} {tb : TE} (c : OwC X.prog X.w X.K X.mg X.base k C (PySem.dunder op.info.2) sp) (sf : PySem.W.selfFirst X.K C = true) (hr : Room j X.A) (ha : PE X a ta) (hb : PE X b tb) (hk : k ≤ j := by decide) :
    PE X (.BinOp a op b pos) (tOp (rBin2 X C sp) ta tb) := by
  obtain ⟨g, h1, h2, F⟩ := c.ex
  exact pe_op (op_bin2 sf h1 h2 F (hr.mono hk)) ha hb
end
section
variable {K : PySem.W.Frag} {σ : L2.St} {H H' : Hp} {ta tb tc te tx : TE} {v : V} {n l r : Nat} {Y : Nat → Hp → V → Hp → Prop} {ti : TI} {g : TG} {vs : List Nat}
theorem er_row {h : Nat → Int} (hi : EvI Ex ti σ H r Y) (hn : r ≤ 100000) (hY : ∀ i H x H', Y i H x H' → Ex H H')
    (st : ∀ j x H1 H2, j < r → Ex H H1 → Y j H1 x H2 → Ex H H2 → ∃ σ2, (∀ K, K σ2 H2 → g x (wipe σ vs) H2 K) ∧ wipe σ2 vs = wipe σ vs ∧ Ev te σ2 H2 (.int (h j))) :
    EvR Ex (tCB (rTupOf K) (tCons (tLc ti g tYes te vs) tNil)) σ H (fun _ v H' => ∃ p, v = .ref p ∧ Rw H' p r h) :=
  (evr_tup exOk trivial (fun _ _ _ _ _ h => h) (evr_lc exOk (fun j v _ => v = V.int (h j)) (fun _ _ _ _ _ h => h) trivial hi hn (fun i H x H' _ => hY i H x H') fun j x H1 H2 hj e1 y e2 => by
    obtain ⟨σ2, q1, q2, q3⟩ := st j x H1 H2 hj e1 y e2
    exact ⟨σ2, q1, q2, r_ev q3⟩)).imp fun H1 v H2 _ _ t => by
      obtain ⟨p, e, _, w⟩ := tup_row t
      exact ⟨p, e, w⟩
theorem er_grid {f : Nat → Nat → Int} (hi : EvI Ex ti σ H l Y) (hn : l ≤ 100000) (hY : ∀ i H x H', Y i H x H' → Ex H H')
    (st : ∀ i x H1 H2, i < l → Ex H H1 → Y i H1 x H2 → Ex H H2 → ∃ σ2, (∀ K, K σ2 H2 → g x (wipe σ vs) H2 K) ∧ wipe σ2 vs = wipe σ vs ∧ EvR Ex te σ2 H2 (fun _ v H' => ∃ p, v = .ref p ∧ Rw H' p r (f i))) :
    EvR Ex (tCB (rTupOf K) (tCons (tLc ti g tYes te vs) tNil)) σ H (fun _ v H' => ∃ p, v = .ref p ∧ Gr H' p l r f) :=
  (evr_tup exOk trivial mono_row (evr_lc exOk (fun i v H => ∃ p, v = V.ref p ∧ Rw H p r (f i)) mono_row trivial hi hn (fun i H x H' _ => hY i H x H') st)).imp fun H1 v H2 _ _ t => by
      obtain ⟨p, e, _, w⟩ := tup_gr t
      exact ⟨p, e, w⟩
/-! ### making -/
def Init1 (Φ : Hp → Addr → Prop) (H : Hp) (x dx : Addr) (Q : VK) : Prop := ∀ H2, (∀ b o, H b = some o → b ≠ x → b ≠ dx → H2 b = some o) → Φ H2 x → Q .non H2
def sp_tinit (C : Addr) : Sp := fun vs H Q _ => ∃ x dx a l r f, vs = [.ref x, .ref a] ∧ H x = some (.ins C dx []) ∧ H dx = some (.own x) ∧ dx ≠ x ∧ Gr H a l r f ∧ Good l r ∧ (∀ i j, i < l → j < r → 0 ≤ f i j) ∧ Init1 (fun H2 x => Tb C H2 x l r f) H x dx Q
def sp_qinit (C : Addr) : Sp := fun vs H Q _ => ∃ x dx a l r f, vs = [.ref x, .ref a] ∧ H x = some (.ins C dx []) ∧ H dx = some (.own x) ∧ dx ≠ x ∧ Gr H a l r f ∧ Good l r ∧ Init1 (fun H2 x => Qn C H2 x l r f) H x dx Q
theorem ex_made {H1 H2 : Hp} {x dx C : Addr} (hx : H1 x = none) (hd : H1 dx = none) (k : ∀ b o, (upd (upd H1 dx (.own x)) x (.ins C dx [])) b = some o → b ≠ x → b ≠ dx → H2 b = some o) : Ex H1 H2 := fun b o e => by
  have n1 := ne_of_none e hx
  have n2 := ne_of_none e hd
  refine k b o ?_ n1 n2
  rw [upd_ne n1, upd_ne n2]; exact e
theorem er_mkT {C : Addr} {f : Nat → Nat → Int} (ha : EvR Ex te σ H (fun _ v H' => ∃ a, v = .ref a ∧ Gr H' a l r f)) (gd : Good l r) (nn : ∀ i j, i < l → j < r → 0 ≤ f i j) :
    EvR Ex (StX.tMakeR C (sp_tinit C) E0 (tCons te tNil)) σ H (fun H1 v H' => ∃ t, v = .ref t ∧ H1 t = none ∧ Tb C H' t l r f) := fun H1 e Q q =>
  ha H1 e _ fun v H2 e2 ⟨a, hv, hg⟩ x dx hx hdx hne => by
    subst hv
    have e3 : Ex H2 (upd (upd H2 dx (.own x)) x (.ins C dx [])) := (Ex.new hdx).trans (Ex.new (by rw [upd_ne (Ne.symm hne)]; exact hx))
    refine ⟨x, dx, a, l, r, f, rfl, upd_same, by rw [upd_ne hne, upd_same], hne, hg.ex e3, gd, nn, fun H3 k t => ⟨rfl, ?_⟩⟩
    exact q _ H3 (e2.trans (ex_made hx hdx k)) ⟨x, rfl, fresh_back e2 hx, t⟩
theorem er_mkQ {C : Addr} {f : Nat → Nat → Int} (ha : EvR Ex te σ H (fun _ v H' => ∃ a, v = .ref a ∧ Gr H' a l r f)) (gd : Good l r) :
    EvR Ex (StX.tMakeR C (sp_qinit C) E0 (tCons te tNil)) σ H (fun H1 v H' => ∃ t, v = .ref t ∧ H1 t = none ∧ Qn C H' t l r f) := fun H1 e Q q =>
  ha H1 e _ fun v H2 e2 ⟨a, hv, hg⟩ x dx hx hdx hne => by
    subst hv
    have e3 : Ex H2 (upd (upd H2 dx (.own x)) x (.ins C dx [])) := (Ex.new hdx).trans (Ex.new (by rw [upd_ne (Ne.symm hne)]; exact hx))
    refine ⟨x, dx, a, l, r, f, rfl, upd_same, by rw [upd_ne hne, upd_same], hne, hg.ex e3, gd, fun H3 k t => ⟨rfl, ?_⟩⟩
    exact q _ H3 (e2.trans (ex_made hx hdx k)) ⟨x, rfl, fresh_back e2 hx, t⟩
end
end Q
set_option Elab.async false
set_option linter.all false
set_option maxRecDepth 100000
set_option maxHeartbeats 4000000
/-! ## The rules that name the written part, as a block asks for them -/
namespace Q
open PySem PySem.Spec PyProof.Rows L2
open Evl
section
variable {X : Cx} {e a b i : Expr} {te ta tb : TE} {t : TA} {p pos tpos : Pos} {tg : Expr}
theorem p_tuple (K : PySem.W.Frag) (hm : X.mg "tuple" = none) (he : PE X e te) (hK : X.K = K := by rfl) (hg : Gl X "tuple" := by rfl)
    (hs : starEach [e] X.env = (false, eval e X.env) :: starEach [] X.env := by rfl) (hpl : (backTo pos (starEach [] X.env)).any (·.1) = false := by rfl) : PE X (.Call (.Name "tuple" p) [e] [] pos) (tCB (rTupOf K) (tCons te tNil)) := by
  subst hK
  exact pe_callTy call_tuple_of hg hm bt_tuple (pa_cons he pa_nil hs) (he := hs) (hpl := hpl)
theorem p_len (K : PySem.W.Frag) (hm : X.mg "len" = none) (he : PE X e te) (hK : X.K = K := by rfl) (hg : Gl X "len" := by rfl)
    (hs : starEach [e] X.env = (false, eval e X.env) :: starEach [] X.env := by rfl) (hpl : (backTo pos (starEach [] X.env)).any (·.1) = false := by rfl) : PE X (.Call (.Name "len" p) [e] [] pos) (tCB (rLenS K) (tCons te tNil)) := by
  subst hK
  exact pe_callB call_len_seq hg hm bt_len (pa_cons he pa_nil hs) (he := hs) (hpl := hpl)
theorem p_minT (K : PySem.W.Frag) (hc : X.calm = true) (hm : X.mg "min" = none) (he : PE X e te) (hK : X.K = K := by rfl) (hg : Gl X "min" := by rfl)
    (hs : starEach [e] X.env = (false, eval e X.env) :: starEach [] X.env := by rfl) (hpl : (backTo pos (starEach [] X.env)).any (·.1) = false := by rfl) : PE X (.Call (.Name "min" p) [e] [] pos) (tCB (rMinT K) (tCons te tNil)) := by
  subst hK
  exact pe_callB (cr_minT hc) hg hm bt_min (pa_cons he pa_nil hs) (he := hs) (hpl := hpl)
theorem p_ixT (K : PySem.W.Frag) (ha : PE X a ta) (hb : PE X b tb) (hK : X.K = K := by rfl) (h : PlainIx b := by exact fun _ _ => rfl) : PE X (.Subscript a b pos) (tOp (rIxT K) ta tb) := by
  subst hK; exact pe_ix ix_tup ha hb h
theorem p_ixL (K : PySem.W.Frag) (ha : PE X a ta) (hb : PE X b tb) (hK : X.K = K := by rfl) (h : PlainIx b := by exact fun _ _ => rfl) : PE X (.Subscript a b pos) (tOp (rIxL K) ta tb) := by
  subst hK; exact pe_ix ix_list ha hb h
theorem pi_tupQ (K : PySem.W.Frag) (h : PE X e te) (hK : X.K = K := by rfl) : PI X tg e (iTup K te) := by subst hK; exact pi_tup h
theorem pi_listQ (K : PySem.W.Frag) (h : PE X e te) (hK : X.K = K := by rfl) : PI X tg e (iList K te) := by subst hK; exact pi_list h
theorem pi_zipQ (K : PySem.W.Frag) {elts : List Expr} {kk : Nat} (hm : X.mg "zip" = none) (ha : PA X [a, b] t) (hK : X.K = K := by rfl) (hg : Gl X "zip" := by rfl)
    (hs : starEach [a, b] X.env = (false, eval a X.env) :: starEach [b] X.env := by rfl) (hpl : (backTo pos (starEach [b] X.env)).any (·.1) = false := by rfl) :
    PI X (.Tuple elts kk tpos) (.Call (.Name "zip" p) [a, b] [] pos) (RZ.iZipA K t) := by subst hK; exact RZ.pi_zipA hg hm ha hs hpl
theorem pi_zipSQ (K : PySem.W.Frag) {elts : List Expr} {kk j : Nat} {kp cp : Pos} (hm : X.mg "zip" = none) (ha : PA X [a, b] t) (hK : X.K = K := by rfl) (hg : Gl X "zip" := by rfl)
    (hs : backTo pos (starEach [a, b] X.env) = (false, eval a X.env) :: backTo pos (starEach [b] X.env) := by rfl) (hpl : (backTo pos (starEach [a, b] X.env)).any (·.1) = false := by rfl)
    (hall : (backToKw pos (keywordEach [⟨some "strict", .Constant (.bool true) j cp, kp⟩] X.env)).all (·.1.isSome) = true := by rfl) (hnone : (backToKw pos (keywordEach [⟨some "strict", .Constant (.bool true) j cp, kp⟩] X.env)).any (·.1.isNone) = false := by rfl)
    (hks : (backToKw pos (keywordEach [⟨some "strict", .Constant (.bool true) j cp, kp⟩] X.env)).filterMap (·.1) = [("strict" : Str)] := by rfl) :
    PI X (.Tuple elts kk tpos) (.Call (.Name "zip" p) [a, b] [⟨some "strict", .Constant (.bool true) j cp, kp⟩] pos) (iZipS K t) := by subst hK; exact pi_zipS hm ha hg hs hpl hall hnone hks
theorem pi_enumQ (K : PySem.W.Frag) {elts : List Expr} {kk : Nat} (hm : X.mg "enumerate" = none) (he : PE X e te) (hK : X.K = K := by rfl) (hg : Gl X "enumerate" := by rfl) (hs : starEach [e] X.env = [(false, eval e X.env)] := by rfl) :
    PI X (.Tuple elts kk tpos) (.Call (.Name "enumerate" p) [e] [] pos) (iEnumT K (tCons te tNil)) := by subst hK; exact pi_enumT hm (pa_cons he pa_nil hs) hg hs
theorem p_inQ (K : PySem.W.Frag) (ha : PE X a ta) (hb : PE X b tb) (hK : X.K = K := by rfl) (hm : behindInMarks .In b = false := by rfl) : PE X (.Compare a [.In] [b] pos) (tOp (rIn K false) ta tb) := by subst hK; exact pe_cmpR op_in_seq ha hb hm
theorem pt_inQ (K : PySem.W.Frag) (ha : PE X a ta) (hb : PE X b tb) (hK : X.K = K := by rfl) (hm : behindInMarks .In b = false := by rfl) : PT X (.Compare a [.In] [b] pos) (tTest (tOp (rIn K false) ta tb)) := by subst hK; exact pt_cmpR op_in_seq ha hb hm
/-- e.f, f a slot -/
theorem p_sl (K : PySem.W.Frag) {f : Str} (he : PE X e te) (hK : X.K = K := by rfl) (hb : attributeBase e f X.env (eval e X.env) = eval e X.env := by rfl) : PE X (.Attribute e f pos) (SlX.tSl K te f) := by subst hK; exact SlX.pe_sl he hb
theorem p_fld (K : PySem.W.Frag) {f : Str} (he : PE X e te) (hK : X.K = K := by rfl) (hb : attributeBase e f X.env (eval e X.env) = eval e X.env := by rfl) : PE X (.Attribute e f pos) (tFld K te f) := by subst hK; exact pe_fld he hb
theorem p_sum (K : PySem.W.Frag) (hc : X.calm = true) (hm : X.mg "sum" = none) (he : PE X e te) (hK : X.K = K := by rfl) (hg : Gl X "sum" := by rfl)
    (hs : starEach [e] X.env = (false, eval e X.env) :: starEach [] X.env := by rfl) (hpl : (backTo pos (starEach [] X.env)).any (·.1) = false := by rfl) : PE X (.Call (.Name "sum" p) [e] [] pos) (tCB (rSum K) (tCons te tNil)) := by
  subst hK
  exact pe_callB (cr_sum hc) hg hm bt_sum (pa_cons he pa_nil hs) (he := hs) (hpl := hpl)
end

section
variable {X : Cx}
theorem p_lc1 {j : Nat} {x : Str} {own : List (Str × Nat)} {elt iter : Expr} {scope : Scope} {pos tp : Pos} {wi : TI} {te : TE} (nd : X.N.Nodup) (hi : PI X (.Name x tp) iter wi) (he : ∀ (s : Shared) (H : Hp) (C : Addr) (cl : List (Str × Addr)) (fp : List Addr), PE (X.blk s H scope (compEnvC scope cl C X.env) fp) elt te)
    (ok : BlkOk X.N X.env.scope scope [(x, j)]) (hj : X.N[j]? = some x) (hl : ∀ (s : Shared) (H : Hp) (C : Addr) (cl : List (Str × Addr)) (fp : List Addr), Loc (X.blk s H scope (compEnvC scope cl C X.env) fp).env.scope x)
    (hf : ∀ (s : Shared) (H : Hp) (C : Addr) (cl : List (Str × Addr)) (fp : List Addr), (X.blk s H scope (compEnvC scope cl C X.env) fp).fn x = true ∨ (X.blk s H scope (compEnvC scope cl C X.env) fp).env.scope.names.lookup x = some .local)
    (hc : X.calm = true := by rfl) (hs : ∀ x, foldedSetIterable iter X.env x = pure x := by intro _; rfl) :
    PE X (.ListComp elt [⟨.Name x tp, iter, [], 0⟩] scope pos) (tLc wi (gName j) tYes te [j]) :=
  pe_lc (own := [(x, j)]) hc nd hi ok (fun s H C cl fp => pg_name (i := j) nd hj (hl s H C cl fp) (hf s H C cl fp)) (fun _ _ _ _ _ => pts_nil) he hs
end
end Q
set_option Elab.async false
set_option linter.all false
set_option maxRecDepth 100000
set_option maxHeartbeats 4000000
namespace Q
open PySem PySem.Spec PyProof.Rows L2
open Evl SX TL
section
variable {K : PySem.W.Frag} {σ : L2.St} {H H' : Hp} {ta tb tc te tx : TE} {v : V} {n l r : Nat} {ti : TI} {g : TG} {vs : List Nat} {a b : Addr} {xs ys : List V}
/-- zip of two tuples that stand -/
theorem evi_zipT (h1 : Ev ta σ H (.ref a)) (h2 : Ev tb σ H (.ref b)) (ha : H a = some (.tup xs)) (hb : H b = some (.tup ys)) (hn : ys.length = xs.length) :
    EvI Ex (RZ.iZipA K (tCons ta (tCons tb tNil))) σ H xs.length (YPair (fun i => xs[i]?) (fun i => ys[i]?)) := fun H1 e1 q hq =>
  h1 H1 e1 _ fun H2 e2 => h2 H2 (e1.trans e2) _ fun H3 e3 => by
    have e := e1.trans (e2.trans e3)
    exact ⟨a, b, xs, ys, rfl, .inr ⟨st_of (e _ _ ha), st_of (e _ _ hb), hq _ _ _ (e2.trans e3) (walk_zipT hn) fun H4 e4 => ⟨st_of (e4 _ _ (e _ _ ha)), st_of (e4 _ _ (e _ _ hb))⟩⟩⟩
theorem ev_mul {i j : Int} (ha : Ev ta σ H (.int i)) (hb : Ev tb σ H (.int j)) (hc : (-(2 ^ 64) < i ∧ i < 2 ^ 64) ∨ (-(2 ^ 64) < j ∧ j < 2 ^ 64)) : Ev (tOp (rI (fun i j => (-(2 ^ 64) < i ∧ i < 2 ^ 64) ∨ (-(2 ^ 64) < j ∧ j < 2 ^ 64)) fun i j => .int (i * j)) ta tb) σ H (.int (i * j)) := ev_op ha hb (rv_I hc)
theorem ints_ge {zs : List V} (h : ∀ (i : Nat) v, zs[i]? = some v → ∃ m : Int, v = .int m ∧ 0 ≤ m) : ∃ ns : List Int, zs = ns.map V.int ∧ ∀ n ∈ ns, 0 ≤ n := by
  induction zs with
  | nil => exact ⟨[], rfl, by simp⟩
  | cons z zs ih =>
    obtain ⟨m, rfl, hm⟩ := h 0 z rfl
    obtain ⟨ns, rfl, hns⟩ := ih fun i v hv => h (i + 1) v (by simpa using hv)
    exact ⟨m :: ns, rfl, by simpa using ⟨hm, hns⟩⟩
theorem ev_minGe (h : EvR Ex te σ H (LstOf n fun _ v _ => ∃ m : Int, v = .int m ∧ 0 ≤ m)) (hn : 0 < n) : Ev (tOp (rI0 fun i j => .bl (decide (j ≤ i))) (tCB (rMin K) (tCons te tNil)) (tC (.int 0))) σ H (.bl true) := fun H1 e Q q =>
  h H1 e _ fun v H2 e2 ⟨p, zs, hv, _, hp, hzl, hz⟩ => by
    subst hv
    obtain ⟨ns, rfl, hns⟩ := ints_ge hz
    refine ⟨p, ns, rfl, sq_of hp, by rw [List.length_map] at hzl; omega, fun m hm _ => ⟨m, 0, rfl, rfl, ?_⟩⟩
    have := hns m hm
    show Q (V.bl (decide ((0 : Int) ≤ m))) H2
    rw [decide_eq_true (show (0:Int) ≤ m by omega)]
    exact q H2 e2
end
section
variable {P : Program} {w : World} {K : PySem.W.Frag} {mg : Str → Option Value} {base : Heap} {f : Addr} {fd : FuncData} {CT : Addr}
/-! ### is_counts, summed -/
abbrev s_is_counts : Stmt := topS 22
def sp_is_counts : Sp := fun vs H Q _ => ∃ a l r f, vs = [.ref a] ∧ Gr H a l r f ∧ Good l r ∧ (∀ i j, i < l → j < r → 0 ≤ f i j) ∧ ∀ H2, Ex H H2 → Q (.bl true) H2
theorem sc_is_counts : FnScope ["value", "row"] ["value"] (defScope s_is_counts) := ⟨rfl, rfl, rfl, by decide +kernel, rfl, by decide +kernel, by decide +kernel⟩
theorem ok_is_counts (F : Dm K "is_counts" s_is_counts f fd) (T : Tx K mg) (c2 : Cl P w K mg base 2 "is_grid" sp_is_grid) : FnOk P w K mg base CX0 3 f fd ["value"] sp_is_counts := by
  refine F.ok sc_is_counts (fun vs H Q E h => ?_) (fun cdv A outer s H vs Q E hr h => ?_)
  · obtain ⟨a, l, r, f, rfl, _⟩ := h
    rfl
  · obtain ⟨a, l, r, g, rfl, hg, hgd, nn, q⟩ := h
    have nd := sc_is_counts.nd
    refine ⟨_, PSs.nox (pss_one (ps_ret (pe_and (pc c2 hr (pa_cons (pv 0) pa_nil)) (pe_one (pe_cmpR op_ge (pe_callB (cr_min rfl) (by rfl) T.min bt_min (pa_cons
      (pe_lc (own := [("row", 1)]) (g := gName 1) (tt := tYes) rfl nd (pi_tup (pv 0)) (blkOk_by (N := ["value", "row"]) (sc := defScope s_is_counts) (by decide +kernel))
              (fun _ _ _ _ _ => pg_name (i := 1) nd rfl (Or.inl rfl)) (fun _ _ _ _ _ => pts_nil) (fun _ _ _ _ _ => p_minT K rfl T.min (pv 1))) pa_nil)) pe_int (nomark _)))))), ?_⟩
    obtain ⟨xs, hxs, hxl, hxr⟩ := id hg
    have hl := hgd.1
    have hrr := hgd.2
    refine ⟨_, rfl, a, l, r, g, rfl, hg, hgd, fun H1 e1 => ⟨true, rfl, iteT ?_⟩⟩
    have k := evr_lc (te := tCB (rMinT K) (tCons (tVar 1) tNil)) (g := gName 1) (vs := [1]) exOk (fun _ v _ => ∃ m : Int, v = .int m ∧ 0 ≤ m) (fun _ _ _ _ _ h => h) trivial (evi_tup (K := K) (te := tVar 0) (σ := [some (.ref a), none]) (H := H1) exOk (r_ev (ev_var rfl)) (e1 _ _ hxs)) (by omega) (fun i H x H' _ => yat_ex i H x H') (fun i x H4 H5 hi e4 y e5 => ?_)
    · exact ev_minGe (K := K) (by rw [hxl] at k; exact k) (by omega) H1 (Ex.refl _) _ fun H2 e2 => q H2 (e1.trans e2)
    · obtain ⟨rfl, hy⟩ := y
      obtain ⟨p, rfl, hp⟩ := hxr i x hy
      refine ⟨_, fun _ k => k, rfl, fun H6 e6 Q q => ⟨_, rfl, p, (List.range r).map (g i), rfl, ?_, ?_, fun m hm => q _ _ (Ex.refl _) ⟨m, rfl, ?_⟩⟩⟩
      · rw [← row_ints]
        exact st_of (e6 _ _ (e5 _ _ (e1 _ _ hp)))
      · rw [List.length_map, List.length_range]; omega
      · obtain ⟨j, hj, rfl⟩ := List.mem_map.mp hm
        exact nn i j (by omega) (List.mem_range.mp hj)
abbrev s_summed : Stmt := topS 23
def sp_summed : Sp := fun vs H Q _ => ∃ a b l r f g, vs = [.ref a, .ref b, .int 1] ∧ Gr H a l r f ∧ Gr H b l r g ∧ Good l r ∧ ∀ p H2, Ex H H2 → Gr H2 p l r (fun i j => f i j + g i j) → Q (.ref p) H2
abbrev N_summed : List Str := ["one", "other", "times", "row", "more", "left", "right"]
theorem sc_summed : FnScope N_summed ["one", "other", "times"] (defScope s_summed) := ⟨rfl, rfl, rfl, by decide +kernel, rfl, by decide +kernel, by decide +kernel⟩
theorem ok_summed (F : Dm K "summed" s_summed f fd) (T : Tx K mg) : FnOk P w K mg base CX0 1 f fd ["one", "other", "times"] sp_summed := by
  refine F.ok sc_summed (fun vs H Q E h => ?_) (fun cdv A outer s H vs Q E hr h => ?_)
  · obtain ⟨a, b, l, r, f, g, rfl, _⟩ := h
    rfl
  · obtain ⟨a, b, l, r, g1, g2, rfl, ha, hb, hgd, q⟩ := h
    have nd := sc_summed.nd
    refine ⟨_, PSs.nox (pss_one (ps_ret (p_tuple K T.tuple
      (pe_lc (own := [("row", 3), ("more", 4)]) (g := gTup K 2 (gCons (gName 3) (gCons (gName 4) gNil))) (tt := tYes) rfl nd (pi_zipQ K T.zip (pa_cons (pv 0) (pa_cons (pv 1) pa_nil))) (blkOk_by (N := N_summed) (sc := defScope s_summed) (by decide +kernel))
              (fun _ _ _ _ _ => pg_tup rfl (pgs_cons (pg_name (i := 3) nd rfl (Or.inl rfl)) (pgs_cons (pg_name (i := 4) nd rfl (Or.inl rfl)) pgs_nil))) (fun _ _ _ _ _ => pts_nil) (fun _ _ _ _ _ =>
        p_tuple K T.tuple (pe_lc (own := [("left", 5), ("right", 6)]) (g := gTup K 2 (gCons (gName 5) (gCons (gName 6) gNil))) (tt := tYes) rfl nd (pi_zipQ K T.zip (pa_cons (pv 3) (pa_cons (pv 4) pa_nil))) (blkOk_by (N := N_summed) (sc := _) (by kernel_rfl))
              (fun _ _ _ _ _ => pg_tup rfl (pgs_cons (pg_name (i := 5) nd rfl (Or.inl rfl)) (pgs_cons (pg_name (i := 6) nd rfl (Or.inl rfl)) pgs_nil))) (fun _ _ _ _ _ => pts_nil) (fun _ _ _ _ _ =>
                pe_op op_add (pv 5) (pe_op op_mul (pv 2) (pv 6))))))))), ?_⟩
    obtain ⟨xs, hxs, hxl, hxr⟩ := id ha
    obtain ⟨ys, hys, hyl, hyr⟩ := id hb
    have hl := hgd.1
    have hrr := hgd.2
    refine sr_ret (Φ := fun _ v H' => ∃ p, v = .ref p ∧ Gr H' p l r (fun i j => g1 i j + g2 i j)) ?_ fun v H1 e1 ⟨p, hv, hp⟩ => by subst hv; exact q p H1 e1 hp
    have k0 := evi_zipT (K := K) (ta := tVar 0) (tb := tVar 1) (σ := start N_summed [.ref a, .ref b, .int 1]) (ev_var rfl) (ev_var rfl) hxs hys (by omega)
    rw [hxl] at k0
    refine er_grid k0 (by omega) (fun i H x H' => ypair_ex i H x H') fun i x H1 H2 hi e1 y e2 => ?_
    obtain ⟨t, u, v, rfl, ht, rfl, hu, hv⟩ := y
    obtain ⟨p, rfl, hp⟩ := hxr i u hu
    obtain ⟨p', rfl, hp'⟩ := hyr i v hv
    refine ⟨_, fun _ k => g_pair upd_same k, rfl, ?_⟩
    have k1 := evi_zipT (K := K) (ta := tVar 3) (tb := tVar 4) (σ := [some (.ref a), some (.ref b), some (.int 1), some (.ref p), some (.ref p'), none, none]) (ev_var rfl) (ev_var rfl) (e2 _ _ hp) (e2 _ _ hp') (by rw [row_len, row_len])
    rw [row_len] at k1
    refine er_row k1 (by omega) (fun i H x H' => ypair_ex i H x H') fun j x H3 H4 hj e3 y e4 => ?_
    obtain ⟨t', u', v', rfl, ht', rfl, hu', hv'⟩ := y
    obtain ⟨_, rfl⟩ := row_at' hu'
    obtain ⟨_, rfl⟩ := row_at' hv'
    refine ⟨_, fun _ k => g_pair upd_same k, rfl, ev_is (ev_op (ev_var rfl) (ev_mul (ev_var rfl) (ev_var rfl) (.inl (by decide))) rv_I0) ?_⟩
    show V.int (g1 i j + 1 * g2 i j) = _
    rw [Int.one_mul]
end
end Q
set_option Elab.async false
set_option linter.all false
set_option maxRecDepth 100000
set_option maxHeartbeats 4000000
namespace Q
open PySem PySem.Spec PyProof.Rows L2
open Evl SX TL
/-- tuples stay -/
def Tu (H H' : Hp) : Prop := ∀ b xs, H b = some (.tup xs) → H' b = some (.tup xs)
theorem Tu.trans {H H1 H2 : Hp} (a : Tu H H1) (b : Tu H1 H2) : Tu H H2 := fun x o h => b x o (a x o h)
theorem tu_ex {H H' : Hp} (e : Ex H H') : Tu H H' := fun b xs h => e b _ h
theorem Gr.tu {H H' : Hp} {a : Addr} {l r : Nat} {f : Nat → Nat → Int} (g : Gr H a l r f) (e : Tu H H') : Gr H' a l r f := let ⟨xs, h1, h2, h3⟩ := g; ⟨xs, e _ _ h1, h2, fun i v hv => let ⟨p, hp, w⟩ := h3 i v hv; ⟨p, hp, e _ _ w⟩⟩
theorem tu_upd {H : Hp} {x : Addr} {u o : HO} (h : H x = some u) (n : ∀ xs, u ≠ .tup xs) : Tu H (upd H x o) := fun b xs e => by
  have : b ≠ x := fun z => by rw [z, h] at e; cases e; exact n xs rfl
  rw [upd_ne this]; exact e
theorem slO_tup {a C dx : Addr} {vs : List (Option V)} : ∀ xs, SlX.SlO a C dx vs ≠ .tup xs := fun _ z => by unfold SlX.SlO at z; cases z
theorem tu_slH {H : Hp} {x C dx : Addr} {u u' : HO} {vs : List (Option V)} (h : H x = some u) (n : ∀ xs, u ≠ .tup xs) (h' : H dx = some u') (n' : ∀ xs, u' ≠ .tup xs) (ne : dx ≠ x) : Tu H (SlX.slH H x C dx vs) :=
  (tu_upd (o := .xd []) h' n').trans (tu_upd (u := u) (by rw [upd_ne (Ne.symm ne)]; exact h) n)
theorem s_asgTup {ta : TA} {g : TG} {D : Ends} {σ : L2.St} {H : Hp} {vs : List V} (h : EvA ta σ H vs) (hl : vs.length ≤ 100000) (k : ∀ t H1, Ex H H1 → H1 t = none → g (.ref t) σ (upd H1 t (.tup vs)) D.nx) : tAsg (tTup ta) g D σ H :=
  h H (Ex.refl H) _ fun H1 e => ⟨sz_of hl, fun t ht => k t H1 e ht⟩
abbrev Mm (K : PySem.W.Frag) (q m : Str) (st : Stmt) (f : Addr) (fd : FuncData) : Prop := FunD K m q (defArgs st) (defBody st) (defScope st) [] [] f fd
section
variable {P : Program} {w : World} {K : PySem.W.Frag} {mg : Str → Option Value} {base : Heap} {f : Addr} {fd : FuncData} {CT : Addr}
abbrev tabS (j : Nat) : Stmt := inClass (topS 24) j
abbrev s_tinit : Stmt := tabS 1
theorem sc_tinit : FnScope ["self", "counts"] ["self", "counts"] (defScope s_tinit) := ⟨rfl, rfl, rfl, by decide +kernel, rfl, by decide +kernel, by decide +kernel⟩
theorem ok_tinit (F : Mm K "Table.__init__" "__init__" s_tinit f fd) (T : Tx K mg) (TC : TabC K CT) (c3 : Cl P w K mg base 3 "is_counts" sp_is_counts) : FnOk P w K mg base CX0 4 f fd ["self", "counts"] (sp_tinit CT) := by
  refine F.ok sc_tinit (fun vs H Q E h => ?_) (fun cdv A outer s H vs Q E hr h => ?_)
  · obtain ⟨x, dx, a, l, r, f, rfl, _⟩ := h
    rfl
  · obtain ⟨x, dx, a, l, r, g, rfl, hx, hdx, hne, hg, hgd, nn, q⟩ := h
    refine ⟨_, PSs.nox (pss_cons (ps_if (pt_not (pt_val (pc c3 hr (pa_cons (pv 1) pa_nil)))) (pss_one ps_never) pss_nil)
      (pss_cons (SlX.ps_sl (pv 0) (pv 1))
        (pss_one (ps_asg (pe_tup (pa_cons (p_len K T.len (pv 1)) (pa_cons (p_len K T.len (p_ixT K (pv 1) pe_int)) pa_nil))) (pg_tup rfl (pgs_cons (pg_sl (pv 0)) (pgs_cons (pg_sl (pv 0)) pgs_nil))))))), ?_⟩
    refine q_no (et_notT (et_B (ev_call (ea_cons (ev_var rfl) ea_nil) fun H1 e1 Q q E => ⟨a, l, r, g, rfl, hg.ex e1, hgd, nn, q⟩))) fun H1 e1 => ?_
    have hx1 := e1 _ _ hx
    have hd1 := e1 _ _ hdx
    obtain ⟨p0, s0⟩ := TC.s0
    obtain ⟨p1, s1⟩ := TC.s1
    obtain ⟨p2, s2⟩ := TC.s2
    have hg1 := hg.ex e1
    refine ⟨.ref a, rfl, .ref x, rfl, x, CT, dx, p0, [], 0, rfl, .inl ⟨hx1, rfl⟩, TC.sc, s0, ?_⟩
    rw [show SlX.putS 0 (V.ref a) [] = [some (.ref a)] from rfl]
    have t1 : Tu H1 (SlX.slH H1 x CT dx [some (.ref a)]) := tu_slH hx1 (fun _ z => nomatch z) hd1 (fun _ z => nomatch z) hne
    have hg2 := hg1.tu t1
    obtain ⟨xs, p, hxs, hxl, hx0, hp⟩ := hg2.row (i := 0) (by have := hgd.1; omega)
    have ev : EvA (tCons (tCB (rLenS K) (tCons (tVar 1) tNil)) (tCons (tCB (rLenS K) (tCons (tOp (rIxT K) (tVar 1) (tC (.int 0))) tNil)) tNil)) [some (.ref x), some (.ref a)] (SlX.slH H1 x CT dx [some (.ref a)]) [.int xs.length, .int r] :=
      ea_cons (ev_lenT (ev_var rfl) hxs) (ea_cons (ev_cb (ea_cons (ev_ixTn (i := 0) (ev_var rfl) ev_c hxs hx0) ea_nil) (z := .int r) fun H3 e3 Q q => ⟨p, _, rfl, .inr (st_of (e3 _ _ hp)), by rw [row_len]; exact q _ (Ex.refl _)⟩) ea_nil)
    refine s_asgTup (σ := [some (.ref x), some (.ref a)]) (H := SlX.slH H1 x CT dx [some (.ref a)]) ev (show 2 ≤ 100000 by decide) fun t H3 e3 ht => ?_
    have hs3 : SlX.Slt (upd H3 t (.tup [.int xs.length, .int r])) x CT dx [some (.ref a)] := slt_im (SlX.slH_slt hne) (im_ex (e3.trans (Ex.new ht)))
    have hs4 : ∀ vs, SlX.Slt (SlX.slH (upd H3 t (.tup [.int xs.length, .int r])) x CT dx vs) x CT dx vs := fun vs => SlX.slH_slt hne
    refine ⟨t, _, rfl, st_of upd_same, rfl, _, _, rfl, ⟨.ref x, rfl, x, CT, dx, p1, _, 1, rfl, hs3, TC.sc, s1, _, _, rfl, ⟨.ref x, rfl, x, CT, dx, p2, _, 2, rfl, hs4 _, TC.sc, s2, rfl, ?_⟩⟩⟩
    rw [SlX.slH_twice hne]
    show Q .non (SlX.slH (upd H3 t (.tup [.int xs.length, .int r])) x CT dx [some (.ref a), some (.int xs.length), some (.int r)])
    rw [hxl]
    refine q _ (fun b o hb b1 b2 => ?_) ⟨dx, a, SlX.slH_slt hne, ?_⟩
    · rw [SlX.slH_ne b1 b2]
      refine Ex.new ht _ _ (e3 _ _ ?_)
      rw [SlX.slH_ne b1 b2]; exact e1 _ _ hb
    · have t3 : Tu (SlX.slH H1 x CT dx [some (.ref a)]) (upd H3 t (.tup [.int (l : Nat), .int r])) := tu_ex (e3.trans (Ex.new ht))
      refine (hg2.tu t3).tu (tu_slH (u := SlX.SlO x CT dx [some (.ref a)]) (u' := .xd []) (im_ex (e3.trans (Ex.new ht)) _ _ rfl ?_) slO_tup (im_ex (e3.trans (Ex.new ht)) _ _ rfl ?_) (fun _ z => nomatch z) hne)
      · unfold SlX.slH; rw [upd_same]
      · unfold SlX.slH; rw [upd_ne hne, upd_same]
end
end Q
set_option Elab.async false
set_option linter.all false
set_option maxRecDepth 100000
set_option maxHeartbeats 4000000
namespace Q
open PySem PySem.Spec PyProof.Rows L2
open Evl SX TL
section
variable {X : Cx} {e : Expr} {te : TE} {p q pos : Pos} {x : Str} {C : Addr}
/-- isinstance(e, C), C a class of one's own with slots; a plain one -/
theorem p_isiSl (K : PySem.W.Frag) (hm : X.mg "isinstance" = none) (hc : X.mg x = some (.ref C)) (he : PE X e te) (hK : X.K = K := by rfl) (hg : Gl X "isinstance" := by rfl) (hgx : Gl X x := by rfl) (hd : (x == ("__debug__" : Str)) = false := by decide)
    (hs : starEach [e, .Name x q] X.env = (false, eval e X.env) :: starEach [.Name x q] X.env := by rfl) (hpl : (backTo pos (starEach [.Name x q] X.env)).any (·.1) = false := by rfl) :
    PE X (.Call (.Name "isinstance" p) [e, .Name x q] [] pos) (tCB (SlX.rIsiSl K (.ref C)) (tCons te (tCons (tC (.ref C)) tNil))) := by
  subst hK
  exact pe_callB (SlX.call_isiSl (.ref C)) hg hm bt_isinstance (pa_cons he (pa_cons (pe_glob hgx hc rfl hd) pa_nil) hs) (he := hs) (hpl := hpl)
theorem p_isiC (K : PySem.W.Frag) (hm : X.mg "isinstance" = none) (hc : X.mg x = some (.ref C)) (he : PE X e te) (hK : X.K = K := by rfl) (hg : Gl X "isinstance" := by rfl) (hgx : Gl X x := by rfl) (hd : (x == ("__debug__" : Str)) = false := by decide)
    (hs : starEach [e, .Name x q] X.env = (false, eval e X.env) :: starEach [.Name x q] X.env := by rfl) (hpl : (backTo pos (starEach [.Name x q] X.env)).any (·.1) = false := by rfl) :
    PE X (.Call (.Name "isinstance" p) [e, .Name x q] [] pos) (tCB (rIsi K) (tCons te (tCons (tC (.ref C)) tNil))) := by
  subst hK
  exact pe_callB call_isi hg hm bt_isinstance (pa_cons he (pa_cons (pe_glob hgx hc rfl hd) pa_nil) hs) (he := hs) (hpl := hpl)
end
section
variable {K : PySem.W.Frag} {σ : L2.St} {H H' : Hp} {ta te : TE} {v : V} {C : Addr} {l r : Nat} {f : Nat → Nat → Int} {t q : Addr}
theorem ev_isiSl (TC : TabC K C) (h : Ev te σ H (.ref t)) (ht : Tb C H t l r f) : Ev (tCB (SlX.rIsiSl K (.ref C)) (tCons te (tCons (tC (.ref C)) tNil))) σ H (.bl true) := fun H1 e Q q =>
  h H1 e _ fun H2 e2 => by
    obtain ⟨dx, a, hs, _⟩ := ht.ex (e.trans e2)
    exact ⟨t, C, dx, _, .ref C, true, rfl, rfl, fun w z => z, hs, TC.sc, TC.si, TC.kit, q H2 e2⟩
theorem ev_isiQ (QC : QueC K C) (h : Ev te σ H (.ref t)) (ht : Qn C H t l r f) : Ev (tCB (rIsi K) (tCons te (tCons (tC (.ref C)) tNil))) σ H (.bl true) := fun H1 e Q q =>
  h H1 e _ fun H2 e2 => by
    obtain ⟨dx, a, hs, _⟩ := ht.ex (e.trans e2)
    exact ⟨.ref t, .ref C, .ref C, .ref C, true, rfl, .own C, .base (.ins hs QC.cl QC.si.ca QC.si.cn QC.si.ct QC.si.cm), QC.kit, q H2 e2⟩
/-- a slot of a table that is told by Slt -/
theorem ev_sl {f : Str} {a dx : Addr} {vs : List (Option V)} {i : Nat} (TC : TabC K C) (s : ∃ p, SlX.Slot1 K C f p i) (h : Ev te σ H (.ref t)) (ht : SlX.Slt H t C dx vs) (hv : vs[i]? = some (some v)) : Ev (SlX.tSl K te f) σ H v := fun H1 e Q q =>
  h H1 e _ fun H2 e2 => by
    obtain ⟨p, s⟩ := s
    exact ⟨t, C, dx, p, vs, i, v, rfl, slt_im ht (im_ex (e.trans e2)), TC.sc, s, hv, q H2 e2⟩
theorem ev_fld {a dx : Addr} (QC : QueC K C) (h : Ev te σ H (.ref t)) (ht : H t = some (.ins C dx [("own_weights", .ref a)])) : Ev (tFld K te "own_weights") σ H (.ref a) := fun H1 e Q q =>
  h H1 e _ fun H2 e2 => ⟨t, C, dx, _, .ref a, rfl, (e.trans e2) _ _ ht, QC.cl, QC.na, rfl, q H2 e2⟩
end
/-! ### Table: the properties -/
def sp_tget (C : Addr) (i : Nat) : Sp := fun vs H Q _ => ∃ t dx xs v, vs = [.ref t] ∧ SlX.Slt H t C dx xs ∧ xs[i]? = some (some v) ∧ ∀ H2, Ex H H2 → Q v H2
section
variable {P : Program} {w : World} {K : PySem.W.Frag} {mg : Str → Option Value} {base : Heap} {f : Addr} {fd : FuncData} {CT : Addr}
theorem sc_tcounts : FnScope ["self"] ["self"] (defScope (tabS 3)) := ⟨rfl, rfl, rfl, by decide +kernel, rfl, by decide +kernel, by decide +kernel⟩
theorem sc_tleft : FnScope ["self"] ["self"] (defScope (tabS 4)) := ⟨rfl, rfl, rfl, by decide +kernel, rfl, by decide +kernel, by decide +kernel⟩
theorem sc_tright : FnScope ["self"] ["self"] (defScope (tabS 5)) := ⟨rfl, rfl, rfl, by decide +kernel, rfl, by decide +kernel, by decide +kernel⟩
theorem len_tget {C : Addr} {i : Nat} : ∀ vs H Q E, sp_tget C i vs H Q E → vs.length = ["self"].length := fun vs H Q E h => by obtain ⟨t, dx, xs, v, rfl, _⟩ := h; rfl
theorem ok_tcounts (F : Mm K "Table.counts" "counts" (tabS 3) f fd) (TC : TabC K CT) : FnOk P w K mg base CX0 1 f fd ["self"] (sp_tget CT 0) := by
  refine F.ok sc_tcounts len_tget (fun cdv A outer s H vs Q E hr h => ?_)
  obtain ⟨t, dx, xs, v, rfl, hs, hv, q⟩ := h
  exact ⟨_, PSs.nox (pss_one (ps_ret (p_sl K (pv 0)))), s_ret (ev_sl (a := 0) TC TC.s0 (ev_var rfl) hs hv) q⟩
theorem ok_tleft (F : Mm K "Table.left" "left" (tabS 4) f fd) (TC : TabC K CT) : FnOk P w K mg base CX0 1 f fd ["self"] (sp_tget CT 1) := by
  refine F.ok sc_tleft len_tget (fun cdv A outer s H vs Q E hr h => ?_)
  obtain ⟨t, dx, xs, v, rfl, hs, hv, q⟩ := h
  exact ⟨_, PSs.nox (pss_one (ps_ret (p_sl K (pv 0)))), s_ret (ev_sl (a := 0) TC TC.s1 (ev_var rfl) hs hv) q⟩
theorem ok_tright (F : Mm K "Table.right" "right" (tabS 5) f fd) (TC : TabC K CT) : FnOk P w K mg base CX0 1 f fd ["self"] (sp_tget CT 2) := by
  refine F.ok sc_tright len_tget (fun cdv A outer s H vs Q E hr h => ?_)
  obtain ⟨t, dx, xs, v, rfl, hs, hv, q⟩ := h
  exact ⟨_, PSs.nox (pss_one (ps_ret (p_sl K (pv 0)))), s_ret (ev_sl (a := 0) TC TC.s2 (ev_var rfl) hs hv) q⟩
theorem ev_propSl {σ : L2.St} {H : Hp} {te : TE} {t dx : Addr} {vs : List (Option V)} {i : Nat} {v : V} (h : Ev te σ H (.ref t)) (ht : SlX.Slt H t CT dx vs) (hv : vs[i]? = some (some v)) : Ev (SlX.tPropSl CT (sp_tget CT i) E0 te) σ H v := fun H1 e Q q =>
  h H1 e _ fun H2 e2 => by
    have hs := slt_im ht (im_ex (e.trans e2))
    exact ⟨t, dx, vs, rfl, hs, t, dx, vs, v, rfl, hs, hv, fun H3 e3 => q H3 (e2.trans e3)⟩
/-! ### turned -/
def sp_tturned (C : Addr) : Sp := fun vs H Q _ => ∃ t l r f, vs = [.ref t] ∧ Tb C H t l r f ∧ Good l r ∧ (∀ i j, i < l → j < r → 0 ≤ f i j) ∧ ∀ q H2, Ex H H2 → Tb C H2 q r l (fun i j => f j i) → Q (.ref q) H2
abbrev N_tturned : List Str := ["self", "value", "row"]
theorem sc_tturned : FnScope N_tturned ["self"] (defScope (tabS 10)) := ⟨rfl, rfl, rfl, by decide +kernel, rfl, by decide +kernel, by decide +kernel⟩
theorem ok_tturned (F : Mm K "Table.turned" "turned" (tabS 10) f fd) (T : Tx K mg) (TC : TabC K CT) (ct : MkC P w K mg base 4 CT "Table" (sp_tinit CT)) (cr : PrC P w K mg base 1 CT "right" (sp_tget CT 2)) : FnOk P w K mg base CX0 6 f fd ["self"] (sp_tturned CT) := by
  refine F.ok sc_tturned (fun vs H Q E h => ?_) (fun cdv A outer s H vs Q E hr h => ?_)
  · obtain ⟨t, l, r, f, rfl, _⟩ := h
    rfl
  · obtain ⟨t, l, r, g, rfl, ht, hgd, nn, q⟩ := h
    have nd := sc_tturned.nd
    refine ⟨_, PSs.nox (pss_one (ps_ret (pmk ct hr (pa_cons (p_tuple K T.tuple
      (pe_lc (own := [("value", 1)]) (g := gName 1) (tt := tYes) rfl nd (pi_range1 (by rfl) T.range (pa_cons (pprS cr TC.sc hr (pv 0)) pa_nil)) (blkOk_by (N := N_tturned) (sc := defScope (tabS 10)) (by decide +kernel))
              (fun _ _ _ _ _ => pg_name (i := 1) nd rfl (Or.inr rfl)) (fun _ _ _ _ _ => pts_nil) (fun _ _ _ _ _ =>
        p_tuple K T.tuple (pe_lc (own := [("row", 2)]) (g := gName 2) (tt := tYes) rfl nd (pi_tupQ K (p_sl K (pv 0))) (blkOk_by (N := N_tturned) (sc := _) (by kernel_rfl))
              (fun _ _ _ _ _ => pg_name (i := 2) nd rfl (Or.inl rfl)) (fun _ _ _ _ _ => pts_nil) (fun _ _ _ _ _ => p_ixT K (pv 2) (pv 1)))))) pa_nil)))), ?_⟩
    obtain ⟨dx, a, hs, hg⟩ := id ht
    obtain ⟨xs, hxs, hxl, hxr⟩ := id hg
    have hl := hgd.1
    have hrr := hgd.2
    refine sr_ret (er_mkT (C := CT) (l := r) (r := l) (f := fun i j => g j i) ?_ ⟨hgd.2, hgd.1⟩ fun i j hi hj => nn j i hj hi) fun v H1 e1 ⟨p, hv, _, hp⟩ => by subst hv; exact q p H1 e1 hp
    refine er_grid (evi_rng (σ := start N_tturned [.ref t]) (te := SlX.tPropSl CT (sp_tget CT 2) E0 (tVar 0)) exOk (r_ev (ev_propSl (ev_var rfl) hs rfl)) (by omega)) (by omega) (fun i H x H' => yfn_ex i H x H') fun i x H1 H2 hi e1 y e2 => ?_
    obtain ⟨rfl, rfl⟩ := y
    refine ⟨_, fun _ k => k, rfl, ?_⟩
    have k1 := evi_tup (K := K) (te := SlX.tSl K (tVar 0) "own_counts") (σ := [some (.ref t), some (.int (0 + (i : Nat))), none]) (H := H2) exOk (r_ev (ev_sl (a := 0) TC TC.s0 (ev_var rfl) (slt_im hs (im_ex e2)) rfl)) (e2 _ _ hxs)
    rw [hxl] at k1
    refine er_row k1 (by omega) (fun i H x H' => yat_ex i H x H') fun j x H3 H4 hj e3 y e4 => ?_
    obtain ⟨rfl, hy⟩ := y
    obtain ⟨p, rfl, hp⟩ := hxr j x hy
    exact ⟨_, fun _ k => k, rfl, ev_ixTn (i := i) (ev_var rfl) (ev_is (ev_var rfl) (show V.int (0 + (i : Nat)) = V.int (i : Nat) by rw [Int.zero_add])) (e4 _ _ (e2 _ _ hp)) (row_at (by omega))⟩
/-! ### is_alike, + -/
def sp_talike (C : Addr) : Sp := fun vs H Q _ => ∃ t u l r f g, vs = [.ref t, .ref u] ∧ Tb C H t l r f ∧ Tb C H u l r g ∧ ∀ H2, Ex H H2 → Q (.bl true) H2
theorem sc_talike : FnScope ["self", "other"] ["self", "other"] (defScope (tabS 12)) := ⟨rfl, rfl, rfl, by decide +kernel, rfl, by decide +kernel, by decide +kernel⟩
theorem ok_talike (F : Mm K "Table.is_alike" "is_alike" (tabS 12) f fd) (T : Tx K mg) (TC : TabC K CT) (hct : mg "Table" = some (.ref CT)) (cl : PrC P w K mg base 1 CT "left" (sp_tget CT 1)) (cr : PrC P w K mg base 1 CT "right" (sp_tget CT 2)) :
    FnOk P w K mg base CX0 3 f fd ["self", "other"] (sp_talike CT) := by
  refine F.ok sc_talike (fun vs H Q E h => ?_) (fun cdv A outer s H vs Q E hr h => ?_)
  · obtain ⟨t, u, l, r, f, g, rfl, _⟩ := h
    rfl
  · obtain ⟨t, u, l, r, g1, g2, rfl, ht, hu, q⟩ := h
    refine ⟨_, PSs.nox (pss_one (ps_ret (pe_and (p_isiSl K T.isinstance hct (pv 1)) (pe_and (pe_cmpR op_eq (pprS cl TC.sc hr (pv 1)) (pprS cl TC.sc hr (pv 0)) (nomark _)) (pe_one (pe_cmpR op_eq (pprS cr TC.sc hr (pv 1)) (pprS cr TC.sc hr (pv 0)) (nomark _))))))), ?_⟩
    obtain ⟨dx, a, hs, hg⟩ := id ht
    obtain ⟨dy, b, hs', hg'⟩ := id hu
    refine s_ret (ev_is (ev_andV (ev_isiSl TC (ev_var rfl) hu) fun _ => ev_andV (ev_eqI (ev_propSl (ev_var rfl) hs' rfl) (ev_propSl (ev_var rfl) hs rfl)) fun _ => ev_eqI (ev_propSl (ev_var rfl) hs' rfl) (ev_propSl (ev_var rfl) hs rfl)) ?_) q
    simp
def sp_tadd (C : Addr) : Sp := fun vs H Q _ => ∃ t u l r f g, vs = [.ref t, .ref u] ∧ Tb C H t l r f ∧ Tb C H u l r g ∧ Good l r ∧ (∀ i j, i < l → j < r → 0 ≤ f i j + g i j) ∧ ∀ q H2, Ex H H2 → Tb C H2 q l r (fun i j => f i j + g i j) → Q (.ref q) H2
theorem sc_tadd : FnScope ["self", "other"] ["self", "other"] (defScope (tabS 14)) := ⟨rfl, rfl, rfl, by decide +kernel, rfl, by decide +kernel, by decide +kernel⟩
theorem ok_tadd (F : Mm K "Table.__add__" "__add__" (tabS 14) f fd) (T : Tx K mg) (TC : TabC K CT) (ct : MkC P w K mg base 4 CT "Table" (sp_tinit CT)) (ca : MtC P w K mg base 3 CT "is_alike" (sp_talike CT)) (cs : Cl P w K mg base 1 "summed" sp_summed) :
    FnOk P w K mg base CX0 6 f fd ["self", "other"] (sp_tadd CT) := by
  refine F.ok sc_tadd (fun vs H Q E h => ?_) (fun cdv A outer s H vs Q E hr h => ?_)
  · obtain ⟨t, u, l, r, f, g, rfl, _⟩ := h
    rfl
  · obtain ⟨t, u, l, r, g1, g2, rfl, ht, hu, hgd, nn, q⟩ := h
    refine ⟨_, PSs.nox (pss_cons (ps_if (pt_not (pt_val (pmtS ca TC.sc hr (pv 0) (pa_cons (pv 1) pa_nil)))) (pss_one ps_never) pss_nil)
      (pss_one (ps_ret (pmk ct hr (pa_cons (pc cs hr (pa_cons (p_sl K (pv 0)) (pa_cons (p_sl K (pv 1)) (pa_cons pe_int pa_nil)))) pa_nil))))), ?_⟩
    obtain ⟨dx, a, hs, hg⟩ := id ht
    obtain ⟨dy, b, hs', hg'⟩ := id hu
    refine q_no (et_notT (et_B fun H1 e1 Q q => ⟨.ref t, rfl, t, dx, _, rfl, slt_im hs (im_ex e1), .ref u, rfl, t, u, l, r, g1, g2, rfl, ht.ex e1, hu.ex e1, q⟩)) fun H1 e1 => ?_
    refine sr_ret (er_mkT (C := CT) (l := l) (r := r) (f := fun i j => g1 i j + g2 i j) ?_ hgd nn) fun v H2 e2 ⟨p, hv, _, hp⟩ => by subst hv; exact q p H2 (e1.trans e2) hp
    refine er_call (ea_cons (ev_sl (a := 0) TC TC.s0 (ev_var rfl) (slt_im hs (im_ex e1)) rfl) (ea_cons (ev_sl (a := 0) TC TC.s0 (ev_var rfl) (slt_im hs' (im_ex e1)) rfl) (ea_cons ev_c ea_nil))) (fun H2 e2 Q q => ?_) (fun _ _ _ _ _ _ h => h)
    exact ⟨a, b, l, r, g1, g2, rfl, hg.ex (e1.trans e2), hg'.ex (e1.trans e2), hgd, fun p H3 e3 hp => q _ _ e3 ⟨p, rfl, hp⟩⟩
end
end Q
set_option Elab.async false
set_option linter.all false
set_option maxRecDepth 100000
set_option maxHeartbeats 4000000
namespace Q
open PySem PySem.Spec PyProof.Rows L2 GenW
open Evl SX TL
/-! ### each: a generator -/
theorem gfor_it {J : It} {n : Nat} {G : Hp → Prop} {Y : Nat → Hp → V → Hp → Prop} (w : Walk J n G Y) {g : TG} {tb : TGn} {D : GEnds} {ys : List V} {σ : L2.St} {H : Hp} (Pv : Nat → List V → L2.St → Hp → Prop) (h0 : Pv 0 ys σ H) (hG : ∀ i ys σ H, i ≤ n → Pv i ys σ H → G H)
    (hs : ∀ i x ys σ H H', i < n → Pv i ys σ H → Y i H x H' → g x σ H' fun σ2 H2 => tb { D with nx := Pv (i + 1), ct := Pv (i + 1), bk := D.nx } ys σ2 H2) (hd : ∀ ys σ H, Pv n ys σ H → D.nx ys σ H) :
    ∃ W : Nat → Nat → List V → L2.St → Hp → Prop, (∃ m, W 0 m ys σ H) ∧ ∀ i m ys σ H, W i m ys σ H → (J.stop i H ∧ D.nx ys σ H) ∨ (J.go i H ∧ ∃ N : List V → L2.St → Hp → Prop, (∀ ys' σ' H', N ys' σ' H' → ∃ m', m' < m ∧ W (i + 1) m' ys' σ' H') ∧
      ∀ x H', J.yld i H x H' → g x σ H' fun σ2 H2 => tb { D with nx := N, ct := N, bk := D.nx } ys σ2 H2) := by
  refine ⟨fun i m ys σ H => m = n - i ∧ i ≤ n ∧ Pv i ys σ H, ⟨n, by simp, Nat.zero_le _, h0⟩, ?_⟩
  rintro i m ys σ H ⟨rfl, hi, p⟩
  have q := hG i ys σ H hi p
  by_cases hlt : i < n
  · exact .inr ⟨w.goes i H hlt q, Pv (i + 1), fun ys' σ' H' p' => ⟨n - (i + 1), by omega, rfl, hlt, p'⟩, fun x H' y => hs i x ys σ H H' hlt p (w.yields i H x H' hlt q y)⟩
  · have e : i = n := by omega
    subst e
    exact .inl ⟨w.stops H q, hd ys σ H p⟩
theorem q_gfor {ti : TI} {n : Nat} {Y : Nat → Hp → V → Hp → Prop} {g : TG} {tb u : TGn} {D : GEnds} {ys : List V} {σ : L2.St} {H : Hp} (hi : EvI Ex ti σ H n Y) (Pv : Hp → Nat → List V → L2.St → Hp → Prop) (h0 : ∀ H1, Ex H H1 → Pv H1 0 ys σ H1) (hE : ∀ H1 i ys σ' H', Pv H1 i ys σ' H' → Ex H1 H')
    (hs : ∀ H1, Ex H H1 → ∀ i x ys σ' H2 H3, i < n → Pv H1 i ys σ' H2 → Y i H2 x H3 → g x σ' H3 fun σ2 H4 => tb { D with nx := Pv H1 (i + 1), ct := Pv H1 (i + 1), bk := fun ys' σ' H' => u D ys' σ' H' } ys σ2 H4) (hd : ∀ H1, Ex H H1 → ∀ ys σ' H', Pv H1 n ys σ' H' → u D ys σ' H') :
    tGThen (tGFor ti g tb) u D ys σ H := hi H (Ex.refl H) _ fun J H1 G e1 w hG => gfor_it w (D := { D with nx := fun ys' σ' H' => u D ys' σ' H' }) (Pv H1) (h0 H1 e1) (fun i ys σ' H' _ p => hG H' (hE H1 i ys σ' H' p)) (hs H1 e1) (hd H1 e1)
/-- these pairs, as tuples -/
def PairsAt (H : Hp) (ys : List V) (ps : List (Nat × Nat)) : Prop := ys.length = ps.length ∧ ∀ (k : Nat) q, ps[k]? = some q → ∃ p, ys[k]? = some (.ref p) ∧ H p = some (.tup [.int (q.1 : Nat), .int (q.2 : Nat)])
theorem PairsAt.ex {H H' : Hp} {ys : List V} {ps : List (Nat × Nat)} (h : PairsAt H ys ps) (e : Ex H H') : PairsAt H' ys ps := ⟨h.1, fun k q hq => let ⟨p, h1, h2⟩ := h.2 k q hq; ⟨p, h1, e _ _ h2⟩⟩
theorem PairsAt.snoc {H : Hp} {ys : List V} {ps : List (Nat × Nat)} {q : Nat × Nat} {p : Addr} (h : PairsAt H ys ps) (hp : H p = some (.tup [.int (q.1 : Nat), .int (q.2 : Nat)])) : PairsAt H (ys ++ [.ref p]) (ps ++ [q]) := by
  refine ⟨by rw [List.length_append, List.length_append, h.1]; rfl, fun k u hu => ?_⟩
  by_cases hk : k < ps.length
  · rw [List.getElem?_append_left hk] at hu
    obtain ⟨p', h1, h2⟩ := h.2 k u hu
    exact ⟨p', by rw [List.getElem?_append_left (by rw [h.1]; exact hk)]; exact h1, h2⟩
  · have hk' : k = ps.length := by
      have := (List.getElem?_eq_some_iff.mp hu).1
      rw [List.length_append] at this
      have : k < ps.length + 1 := this
      omega
    subst hk'
    rw [List.getElem?_append_right (Nat.le_refl _), Nat.sub_self] at hu
    cases hu
    exact ⟨p, by rw [List.getElem?_append_right (by rw [h.1]; exact Nat.le_refl _), h.1, Nat.sub_self]; rfl, hp⟩
def rowPairs (f : Nat → Nat → Int) (i r : Nat) : List (Nat × Nat) := (List.range r).flatMap fun j => List.replicate (f i j).toNat (i, j)
def pairs (f : Nat → Nat → Int) (l r : Nat) : List (Nat × Nat) := (List.range l).flatMap fun i => rowPairs f i r
theorem rowPairs_succ (f : Nat → Nat → Int) (i r : Nat) : rowPairs f i (r + 1) = rowPairs f i r ++ List.replicate (f i r).toNat (i, r) := by
  unfold rowPairs; rw [List.range_succ, List.flatMap_append]; simp
theorem pairs_succ (f : Nat → Nat → Int) (l r : Nat) : pairs f (l + 1) r = pairs f l r ++ rowPairs f l r := by
  unfold pairs; rw [List.range_succ, List.flatMap_append]; simp
def sp_teach (C : Addr) : SpG := fun vs H Q _ => ∃ t l r f, vs = [.ref t] ∧ Tb C H t l r f ∧ Good l r ∧ (∀ i j, i < l → j < r → 0 ≤ f i j ∧ f i j ≤ 100) ∧ ∀ ys H2, Ex H H2 → PairsAt H2 ys (pairs f l r) → Q ys H2
section
variable {P : Program} {w : World} {K : PySem.W.Frag} {mg : Str → Option Value} {base : Heap} {f : Addr} {fd : FuncData} {CT : Addr}
abbrev N_each : List Str := ["self", "left", "row", "right", "number", "turn"]
theorem sc_teach : GScope N_each ["self"] (defScope (tabS 11)) := ⟨rfl, rfl, rfl, by decide +kernel, rfl, by decide +kernel, by decide +kernel⟩
theorem ok_teach (F : Mm K "Table.each" "each" (tabS 11) f fd) (T : Tx K mg) (TC : TabC K CT) : GFn P w K mg base 1 f fd ["self"] (sp_teach CT) := by
  obtain ⟨oc, od, dV, kV, doc, pm, an, cdv, ct, osl, rfl, lk, hcd, _, _⟩ := F.ex
  refine gfn_of lk hcd sc_teach (fun vs H Q E h => ?_) fun A outer s H vs Q E pn hr h => ?_
  · obtain ⟨t, l, r, f, rfl, _⟩ := h
    rfl
  · obtain ⟨t, l, r, g, rfl, ht, hgd, nn, q⟩ := h
    have nd := sc_teach.nd
    refine ⟨_, gss_cons (gs_for owns_gcx rfl (pi_enumQ K T.enumerate (p_sl K (pv 0))) (pg_tup rfl (pgs_cons (pg_name (i := 1) nd rfl (Or.inl rfl)) (pgs_cons (pg_name (i := 2) nd rfl (Or.inl rfl)) pgs_nil)))
      (gss_cons (gs_for owns_gcx rfl (pi_enumQ K T.enumerate (pv 2)) (pg_tup rfl (pgs_cons (pg_name (i := 3) nd rfl (Or.inl rfl)) (pgs_cons (pg_name (i := 4) nd rfl (Or.inl rfl)) pgs_nil)))
        (gss_cons (gs_for owns_gcx rfl (pi_range1 (by rfl) T.range (pa_cons (pv 4) pa_nil)) (pg_name (i := 5) nd rfl (Or.inl rfl))
          (gss_cons (gs_yield (pe_tup (pa_cons (pv 1) (pa_cons (pv 3) pa_nil)))) gss_nil)) gss_nil)) gss_nil)) gss_nil, ?_⟩
    obtain ⟨dx, a, hs, hg⟩ := id ht
    obtain ⟨xs, hxs, hxl, hxr⟩ := id hg
    have hl := hgd.1
    have hrr := hgd.2
    refine q_gfor (evi_enumT (K := K) (te := SlX.tSl K (tVar 0) "own_counts") (σ := start N_each [.ref t]) (H := H) exOk (r_ev (ev_sl (a := 0) TC TC.s0 (ev_var rfl) hs rfl)) hxs)
      (fun H1 i ys σ H' => Ex H1 H' ∧ PairsAt H' ys (pairs g i r) ∧ ys.length ≤ i * 800 ∧ ∃ b c d e f, σ = [some (.ref t), b, c, d, e, f]) (fun H1 e1 => ⟨Ex.refl _, ⟨rfl, fun k q h => by simp [pairs] at h⟩, by simp, _, _, _, _, _, rfl⟩) (fun _ _ _ _ _ p => p.1)
      (fun H1 e1 i x ys σ H2 H3 hi p y => ?_) (fun H1 e1 ys σ H' p => ?_)
    · obtain ⟨e2, hp, hys, b, c, d, e, f, rfl⟩ := p
      have e3 := ypair_ex _ _ _ _ y
      obtain ⟨tt, u, v, rfl, htt, rfl, hu, hv⟩ := y
      cases hu
      obtain ⟨p, rfl, hpr⟩ := hxr i v hv
      refine g_pair upd_same ?_
      have e03 : Ex H (upd H2 tt (.tup [.int (i : Nat), .ref p])) := e1.trans (e2.trans e3)
      have k2 := evi_enumT (K := K) (te := tVar 2) (σ := [some (.ref t), some (.int (i : Nat)), some (.ref p), d, e, f]) exOk (r_ev (ev_var rfl)) (e03 _ _ hpr)
      rw [row_len] at k2
      refine q_gfor k2 (fun H4 j ys σ H' => Ex H4 H' ∧ PairsAt H' ys (pairs g i r ++ rowPairs g i j) ∧ ys.length ≤ i * 800 + j * 100 ∧ ∃ d e f, σ = [some (.ref t), some (.int (i : Nat)), some (.ref p), d, e, f]) (fun H4 e4 => ⟨Ex.refl _, by
          have := hp.ex (e3.trans e4); simpa [rowPairs] using this, by omega, _, _, _, rfl⟩) (fun _ _ _ _ _ p => p.1)
        (fun H4 e4 j x ys σ H5 H6 hj p y => ?_) (fun H4 e4 ys σ H' p => ?_)
      · obtain ⟨e5, hp2, hys2, d, e, f, rfl⟩ := p
        have e6 := ypair_ex _ _ _ _ y
        obtain ⟨tt2, u, v, rfl, htt2, rfl, hu, hv⟩ := y
        cases hu
        obtain ⟨_, rfl⟩ := row_at' hv
        have hn := nn i j (by omega) hj
        obtain ⟨m, hm⟩ : ∃ m : Nat, g i j = (m : Int) := ⟨(g i j).toNat, by omega⟩
        refine g_pair upd_same ?_
        refine q_gfor (evi_rng (m := m) (te := tVar 4) (σ := [some (.ref t), some (.int (i : Nat)), some (.ref p), some (.int (j : Nat)), some (.int (g i j)), f]) exOk (r_ev (ev_is (ev_var rfl) (by rw [hm]))) (by omega))
          (fun H7 k ys σ H' => Ex H7 H' ∧ PairsAt H' ys (pairs g i r ++ rowPairs g i j ++ List.replicate k (i, j)) ∧ ys.length ≤ i * 800 + j * 100 + k ∧ ∃ f, σ = [some (.ref t), some (.int (i : Nat)), some (.ref p), some (.int (j : Nat)), some (.int (g i j)), f])
          (fun H7 e7 => ⟨Ex.refl _, by simpa using hp2.ex (e6.trans e7), by omega, _, rfl⟩) (fun _ _ _ _ _ p => p.1) (fun H7 e7 k x ys σ H8 H9 hk p y => ?_) (fun H7 e7 ys σ H' p => ?_)
        · obtain ⟨e8, hp3, hys3, f, rfl⟩ := p
          obtain ⟨rfl, rfl⟩ := y
          refine ⟨by unfold sizeLine; omega, _, rfl, _, rfl, by show 2 ≤ sizeLine; decide, fun z hz => ⟨e8.trans (Ex.new hz), ?_, by rw [List.length_append]; show ys.length + 1 ≤ _; omega, _, rfl⟩⟩
          rw [List.replicate_succ', ← List.append_assoc]
          exact (hp3.ex (Ex.new hz)).snoc (q := (i, j)) upd_same
        · obtain ⟨e8, hp3, hys3, f, rfl⟩ := p
          refine ⟨e5.trans (e6.trans (e7.trans e8)), ?_, by omega, _, _, _, rfl⟩
          rw [rowPairs_succ, hm, Int.toNat_natCast, ← List.append_assoc]
          exact hp3
      · obtain ⟨e5, hp2, hys2, d, e, f, rfl⟩ := p
        refine ⟨e2.trans (e3.trans (e4.trans e5)), ?_, by omega, _, _, _, _, _, rfl⟩
        rw [pairs_succ]
        exact hp2
    · obtain ⟨e2, hp, hys, _⟩ := p
      refine q ys H' (e1.trans e2) ?_
      rw [hxl] at hp
      exact hp
end
end Q
set_option Elab.async false
set_option linter.all false
set_option maxRecDepth 100000
set_option maxHeartbeats 4000000
namespace Q
open PySem PySem.Spec PyProof.Rows L2
open Evl SX TL
/-! ### loops by what they walk -/
section
variable {K : PySem.W.Frag} {σ : L2.St} {H H' : Hp} {ta te tb : TE} {v : V} {n : Nat} {Y : Nat → Hp → V → Hp → Prop} {ti : TI} {g : TG} {tu tz : TS} {D : Ends}
theorem s_forI (hi : EvI Ex ti σ H n Y) (Pv : Hp → Nat → L2.St → Hp → Prop) (h0 : ∀ H1, Ex H H1 → Pv H1 0 σ H1) (hE : ∀ H1 i σ' H', Pv H1 i σ' H' → Ex H1 H')
    (hs : ∀ H1, Ex H H1 → ∀ i x σ' H2 H3, i < n → Pv H1 i σ' H2 → Y i H2 x H3 → g x σ' H3 fun σ2 H4 => tu { D with nx := Pv H1 (i + 1), ct := Pv H1 (i + 1), bk := D.nx } σ2 H4) (hd : ∀ H1, Ex H H1 → ∀ σ' H', Pv H1 n σ' H' → D.nx σ' H') : tFor ti g tu D σ H :=
  hi H (Ex.refl H) _ fun J H1 G e1 w hG => for_it w (Pv H1) (h0 H1 e1) (fun i σ' H' _ p => hG H' (hE H1 i σ' H' p)) (fun i x σ' H2 H3 => hs H1 e1 i x σ' H2 H3) (hd H1 e1)
theorem q_forI (hi : EvI Ex ti σ H n Y) (Pv : Hp → Nat → L2.St → Hp → Prop) (h0 : ∀ H1, Ex H H1 → Pv H1 0 σ H1) (hE : ∀ H1 i σ' H', Pv H1 i σ' H' → Ex H1 H')
    (hs : ∀ H1, Ex H H1 → ∀ i x σ' H2 H3, i < n → Pv H1 i σ' H2 → Y i H2 x H3 → g x σ' H3 fun σ2 H4 => tu { D with nx := Pv H1 (i + 1), ct := Pv H1 (i + 1), bk := tz D } σ2 H4) (hd : ∀ H1, Ex H H1 → ∀ σ' H', Pv H1 n σ' H' → tz D σ' H') : tSeq (tFor ti g tu) tz D σ H :=
  s_forI (D := { D with nx := tz D }) hi Pv h0 hE hs hd
/-- over a new tuple -/
theorem evi_tupN {xs : List V} (h : EvU te σ H xs) : EvI Ex (iTup K te) σ H xs.length (YAt xs) := fun H1 e1 q hq =>
  h H1 e1 _ fun p H2 _ e2 h2 => ⟨p, rfl, ⟨xs, st_of h2⟩, hq _ _ _ e2 walk_tup fun H3 e3 => st_of (e3 _ _ h2)⟩
/-! ### data at any depth -/
def Dd (K : PySem.W.Frag) (H : Hp) (x : V) (d : PyData) : Prop := Dp K H x d ∧ SeqAt.shaped d = true
theorem dp_ints (ns : List Int) : DpAll K H (ns.map V.int) (ns.map PyData.int) := by
  induction ns with
  | nil => exact .nil
  | cons n ns ih => exact .cons (.int n) ih
theorem can_ints (ns : List Int) : PyData.canLayAll0 (ns.map PyData.int) = true := by
  induction ns with
  | nil => rfl
  | cons n ns ih => simpa [PyData.canLayAll0, PyData.canLay0] using ih
theorem depth_ints (ns : List Int) : PyData.depthAll (ns.map PyData.int) = 0 := by
  induction ns with
  | nil => rfl
  | cons n ns ih => simpa [PyData.depthAll, PyData.depth] using ih
theorem eqv_ints : ∀ ns ms : List Int, PyData.eqvAll (ns.map PyData.int) (ms.map PyData.int) = decide (ns = ms)
  | [], [] => by simp [PyData.eqvAll]
  | [], _ :: _ => by simp [PyData.eqvAll]
  | _ :: _, [] => by simp [PyData.eqvAll]
  | n :: ns, m :: ms => by
    simp only [List.map_cons, PyData.eqvAll, PyData.eqv, eqv_ints ns ms]
    rw [Bool.eq_iff_iff]; simp
theorem dd_tupI {a : Addr} {ns : List Int} (h : H a = some (.tup (ns.map V.int))) : Dd K H (.ref a) (.tuple (ns.map PyData.int)) :=
  ⟨.tup (st_of h) (dp_ints ns), by simp [SeqAt.shaped, PyData.canLay0, can_ints, PyData.depth, depth_ints]⟩
theorem dd_lstI {a : Addr} {ns : List Int} (h : H a = some (.lst (ns.map V.int))) : Dd K H (.ref a) (.list (ns.map PyData.int)) :=
  ⟨.lst (sq_of h) (dp_ints ns), by simp [SeqAt.shaped, PyData.canLay0, can_ints, PyData.depth, depth_ints]⟩
theorem rv_eqD {x y : V} {d e : PyData} (hx : ∀ H1, Ex H H1 → Dd K H1 x d) (hy : ∀ H1, Ex H H1 → Dd K H1 y e) : RV (rEqD K) x y H (.bl (PyData.eqv d e)) := fun H1 e1 Q q => ⟨_, _, (hx H1 e1).1, (hy H1 e1).1, (hx H1 e1).2, (hy H1 e1).2, q H1 (Ex.refl _)⟩
theorem rv_neD {x y : V} {d e : PyData} (hx : ∀ H1, Ex H H1 → Dd K H1 x d) (hy : ∀ H1, Ex H H1 → Dd K H1 y e) : RV (rNeD K) x y H (.bl (!PyData.eqv d e)) := fun H1 e1 Q q => ⟨_, _, (hx H1 e1).1, (hy H1 e1).1, (hx H1 e1).2, (hy H1 e1).2, q H1 (Ex.refl _)⟩
/-- x == () of a tuple that isn't empty -/
theorem ev_eq0 {a : Addr} {d : PyData} {ds : List PyData} (ha : Ev ta σ H (.ref a)) (hd : ∀ H1, Ex H H1 → Dd K H1 (.ref a) (.tuple (d :: ds))) : Ev (tOp (rEqD K) ta (tTup tNil)) σ H (.bl false) :=
  ev_is (ev_opU ha (eu_tup ea_nil (by decide)) fun p H1 hp e => rv_eqD (fun H2 e2 => hd H2 (e.trans e2)) (fun H2 e2 => dd_tupI (ns := []) (e2 _ _ hp))) (by simp [PyData.eqv, PyData.eqvAll])
end
/-- strictly rising lists with the same items -/
theorem rising_eq : ∀ {xs ys : List Int}, xs.Pairwise (· < ·) → ys.Pairwise (· < ·) → (∀ k, k ∈ xs ↔ k ∈ ys) → xs = ys
  | [], [], _, _, _ => rfl
  | [], y :: ys, _, _, h => absurd ((h y).mpr List.mem_cons_self) (by simp)
  | x :: xs, [], _, _, h => absurd ((h x).mp List.mem_cons_self) (by simp)
  | x :: xs, y :: ys, hx, hy, h => by
    obtain ⟨hx1, hx2⟩ := List.pairwise_cons.mp hx
    obtain ⟨hy1, hy2⟩ := List.pairwise_cons.mp hy
    have e : x = y := by
      rcases List.mem_cons.mp ((h x).mp List.mem_cons_self) with e | e
      · exact e
      · rcases List.mem_cons.mp ((h y).mpr List.mem_cons_self) with e' | e'
        · exact e'.symm
        · have := hy1 x e; have := hx1 y e'; omega
    subst e
    congr 1
    refine rising_eq hx2 hy2 fun k => ⟨fun m => ?_, fun m => ?_⟩
    · rcases List.mem_cons.mp ((h k).mp (List.mem_cons_of_mem _ m)) with e | e
      · subst e; have := hx1 k m; omega
      · exact e
    · rcases List.mem_cons.mp ((h k).mpr (List.mem_cons_of_mem _ m)) with e | e
      · subst e; have := hy1 k m; omega
      · exact e
section
variable {P : Program} {w : World} {K : PySem.W.Frag} {mg : Str → Option Value} {base : Heap} {f : Addr} {fd : FuncData}
theorem spv_between {H : Hp} {n lo hi : Int} (h1 : lo ≤ n) (h2 : n ≤ hi) : SpV sp_is_between [.int n, .int lo, .int hi] H (.bl true) := fun H1 _ Q q E => ⟨n, lo, hi, rfl, by rw [decide_eq_true h1, decide_eq_true h2]; exact q H1 (Ex.refl _)⟩
abbrev s_require_sizes : Stmt := topS 28
def sp_require_sizes : Sp := fun vs H Q _ => ∃ l r : Nat, vs = [.int l, .int r] ∧ Good l r ∧ ∀ H2, Ex H H2 → Q .non H2
theorem sc_require_sizes : FnScope ["left", "right", "size"] ["left", "right"] (defScope s_require_sizes) := ⟨rfl, rfl, rfl, by decide +kernel, rfl, by decide +kernel, by decide +kernel⟩
theorem ok_require_sizes (F : Dm K "require_sizes" s_require_sizes f fd) (T : Tx K mg) (c2 : Cl P w K mg base 2 "is_between" sp_is_between) : FnOk P w K mg base CX0 3 f fd ["left", "right"] sp_require_sizes := by
  refine F.ok sc_require_sizes (fun vs H Q E h => ?_) (fun cdv A outer s H vs Q E hr h => ?_)
  · obtain ⟨l, r, rfl, _⟩ := h
    rfl
  · obtain ⟨l, r, rfl, hg, q⟩ := h
    have nd := sc_require_sizes.nd
    refine ⟨_, PSs.nox (pss_one (ps_for PassesOwn.never rfl (pi_tupQ K (pe_tup (pa_cons (pv 0) (pa_cons (pv 1) pa_nil)))) (pg_name (i := 2) nd rfl (Or.inl rfl))
      (pss_one (ps_if (pt_not (pt_val (pc c2 hr (pa_cons (pv 2) (pa_cons pe_int (pa_cons (pgc T.most_values) pa_nil)))))) (pss_one ps_never) pss_nil)))), ?_⟩
    refine s_forI (evi_tupN (xs := [.int (l : Nat), .int (r : Nat)]) (eu_tup (ea_cons (ev_var rfl) (ea_cons (ev_var rfl) ea_nil)) (show 2 ≤ 100000 by decide))) (fun H1 i σ' H' => Ex H1 H' ∧ ∃ z, σ' = [some (.int l), some (.int r), z]) (fun H1 e1 => ⟨Ex.refl _, _, rfl⟩) (fun _ _ _ _ p => p.1)
      (fun H1 e1 i x σ' H2 H3 hi p y => ?_) (fun H1 e1 σ' H' p => q H' (e1.trans p.1))
    obtain ⟨e2, z, rfl⟩ := p
    obtain ⟨rfl, hx⟩ := y
    have hb : ∃ m : Nat, x = .int (m : Nat) ∧ 1 ≤ m ∧ m ≤ 8 := by
      have h1 := hg.1
      have h2 := hg.2
      match i, hx with
      | 0, hx => exact ⟨l, by cases hx; rfl, h1⟩
      | 1, hx => exact ⟨r, by cases hx; rfl, h2⟩
      | i + 2, hx => simp at hx
    obtain ⟨m, rfl, hm⟩ := hb
    exact s_no (et_notT (et_B (ev_call (ea_cons (ev_var rfl) (ea_cons ev_c (ea_cons ev_c ea_nil))) (spv_between (lo := 1) (hi := 8) (by omega) (by omega))))) fun H4 e4 => ⟨e2.trans e4, _, rfl⟩
abbrev s_are_values : Stmt := topS 29
/-- values of a side of so many: rising -/
def Vls (ns : List Nat) (size : Nat) : Prop := ns ≠ [] ∧ ns.Pairwise (· < ·) ∧ ∀ n ∈ ns, n < size
def intsN (ns : List Nat) : List V := (ns.map fun n : Nat => (n : Int)).map V.int
theorem vls_len {ns : List Nat} {size : Nat} (h : Vls ns size) : ns.length ≤ size := by
  have : ∀ (ns : List Nat) (size : Nat), ns.Pairwise (· < ·) → (∀ n ∈ ns, n < size) → ∀ k, (∀ n ∈ ns, k ≤ n) → ns.length + k ≤ size ∨ ns = [] := by
    intro ns
    induction ns with
    | nil => intros; right; rfl
    | cons x xs ih =>
      intro size hp hb k hk
      left
      obtain ⟨h1, h2⟩ := List.pairwise_cons.mp hp
      have hx := hb x List.mem_cons_self
      have hkx := hk x List.mem_cons_self
      rcases ih size h2 (fun n hn => hb n (List.mem_cons_of_mem _ hn)) (k + 1) (fun n hn => by have := h1 n hn; omega) with h | h
      · show xs.length + 1 + k ≤ size; omega
      · subst h; show 0 + 1 + k ≤ size; omega
  rcases this ns size h.2.1 h.2.2 0 (fun _ _ => Nat.zero_le _) with e | e
  · omega
  · exact absurd e h.1
theorem cast_rising {ns : List Nat} (h : ns.Pairwise (· < ·)) : (ns.map fun n : Nat => (n : Int)).Pairwise (· < ·) := List.pairwise_map.mpr (h.imp fun h => by omega)
section
variable {σ : L2.St} {H : Hp} {ta : TE} {a : Addr}
theorem el_sortedSet {ns : List Int} (ha : Ev ta σ H (.ref a)) (h : H a = some (.tup (ns.map V.int))) (hs : ns.Pairwise (· < ·)) (hl : ns.length < 64) :
    EvL (tCB (rSortedSet w) (tCons (tCB (rSetT K w) (tCons ta tNil)) tNil)) σ H (ns.map V.int) := fun H1 e Q q =>
  ha H1 e _ fun H2 e2 => ⟨a, ns, rfl, st_of ((e.trans e2) _ _ h), by omega, fun p c hc hp => ⟨p, _, c, rfl, upd_same, by omega, fun ms t hms hm _ ht => by
    have e : ms = ns := rising_eq hms hs fun k => by rw [hm k]; simp
    rw [e]
    have e3 := e2.trans (Ex.new (o := SetO w p (fun j => decide (j ∈ ns)) c) hp)
    exact q t _ (fresh_back e3 ht) (e3.trans (Ex.new ht)) upd_same⟩⟩
theorem el_listT {xs : List V} (ha : Ev ta σ H (.ref a)) (h : H a = some (.tup xs)) : EvL (tCB (rListS K) (tCons ta tNil)) σ H xs := fun H1 e Q q =>
  ha H1 e _ fun H2 e2 => ⟨a, xs, rfl, Or.inr (st_of ((e.trans e2) _ _ h)), fun l hl => q l _ (fresh_back e2 hl) (e2.trans (Ex.new hl)) upd_same⟩
end
def sp_are_values : Sp := fun vs H Q _ => ∃ (a : Addr) (ns : List Nat) (size : Nat), vs = [.ref a, .int size] ∧ H a = some (.tup (intsN ns)) ∧ Vls ns size ∧ size ≤ 8 ∧ ∀ H2, Ex H H2 → Q (.bl true) H2
theorem sc_are_values : FnScope ["value", "size", "one"] ["value", "size"] (defScope s_are_values) := ⟨rfl, rfl, rfl, by decide +kernel, rfl, by decide +kernel, by decide +kernel⟩
theorem ok_are_values (F : Dm K "are_values" s_are_values f fd) (T : Tx K mg) (c2 : Cl P w K mg base 2 "is_between" sp_is_between) : FnOk P w K mg base CX0 3 f fd ["value", "size"] sp_are_values := by
  refine F.ok sc_are_values (fun vs H Q E h => ?_) (fun cdv A outer s H vs Q E hr h => ?_)
  · obtain ⟨a, ns, size, rfl, _⟩ := h
    rfl
  · obtain ⟨a, ns, size, rfl, ha, hv, hs, q⟩ := h
    have nd := sc_are_values.nd
    refine ⟨_, PSs.nox (pss_cons (ps_if (PW.pt (pw_or (pt_not (pt_val (p_isi T.isinstance T.tuple bt_tuple (pv 0)))) (pw_or1 (pt_cmpR (op_eqD hr.units) (pv 0) (pe_tup pa_nil) (nomark _))))) (pss_one (ps_ret pe_bl)) pss_nil)
      (pss_cons (ps_for PassesOwn.never rfl (pi_tupQ K (pv 0)) (pg_name (i := 2) nd rfl (Or.inl rfl))
        (pss_one (ps_if (pt_not (pt_val (pc c2 hr (pa_cons (pv 2) (pa_cons pe_int (pa_cons (pe_op op_sub (pv 1) pe_int) pa_nil)))))) (pss_one (ps_ret pe_bl)) pss_nil)))
      (pss_one (ps_ret (pe_cmpR (op_eqD hr.units) (pe_callTy call_list_of (by rfl) T.list bt_list (pa_cons (pv 0) pa_nil)) (pe_callB (cr_sortedSet rfl) (by rfl) T.sorted bt_sorted (pa_cons (pe_callTy (cr_setT rfl) (by rfl) T.set bt_set (pa_cons (pv 0) pa_nil)) pa_nil)) (nomark _)))))), ?_⟩
    have hl := vls_len hv
    obtain ⟨n0, ns', hns⟩ : ∃ n0 ns', ns = n0 :: ns' := by
      cases ns with
      | nil => exact absurd rfl hv.1
      | cons n ns => exact ⟨n, ns, rfl⟩
    have len : (intsN ns).length = ns.length := by simp [intsN]
    refine q_no (et_orF (et_notT (et_B (ev_isiT (ev_var rfl) ha))) (et_test (ev_eq0 (d := .int n0) (ds := (ns'.map fun n : Nat => (n : Int)).map PyData.int) (ev_var rfl) fun H1 e1 => by
      have := dd_tupI (K := K) (e1 _ _ ha)
      rw [hns] at this
      exact this))) fun H1 e1 => ?_
    refine q_forI (evi_tup (K := K) (te := tVar 0) (σ := [some (.ref a), some (.int size), none]) exOk (r_ev (ev_var rfl)) (e1 _ _ ha)) (fun H1 i σ' H' => Ex H1 H' ∧ ∃ z, σ' = [some (.ref a), some (.int size), z]) (fun H1 e1 => ⟨Ex.refl _, _, rfl⟩) (fun _ _ _ _ p => p.1)
      (fun H2 e2 i x σ' H3 H4 hi p y => ?_) (fun H2 e2 σ' H3 p => ?_)
    · obtain ⟨e3, z, rfl⟩ := p
      obtain ⟨rfl, hx⟩ := y
      obtain ⟨m, rfl, hm⟩ : ∃ m : Nat, x = .int (m : Nat) ∧ m < size := by
        unfold intsN at hx
        rw [List.map_map, List.getElem?_map] at hx
        cases hi : ns[i]? with
        | none => rw [hi] at hx; cases hx
        | some m => rw [hi] at hx; cases hx; exact ⟨m, rfl, hv.2.2 m (List.mem_of_getElem? hi)⟩
      exact s_no (et_notT (et_B (ev_call (ea_cons (ev_var rfl) (ea_cons ev_c (ea_cons (ev_op (ev_var rfl) ev_c rv_I0) ea_nil))) (spv_between (lo := 0) (hi := (size : Int) - 1) (by omega) (by omega))))) fun H5 e5 => ⟨e3.trans e5, _, rfl⟩
    · obtain ⟨e3, z, rfl⟩ := p
      have ha3 := (e1.trans (e2.trans e3)) _ _ ha
      refine s_ret (ev_is (ev_opLL (el_listT (ev_var rfl) ha3) (el_sortedSet (ev_var rfl) ha3 (cast_rising hv.2.1) (by simp; omega)) fun p q H4 hp hq e4 => rv_eqD (fun H5 e5 => dd_lstI (e5 _ _ hp)) (fun H5 e5 => dd_lstI (e5 _ _ hq))) ?_) fun H4 e4 => q H4 (e1.trans (e2.trans (e3.trans e4)))
      simp only [PyData.eqv, eqv_ints, decide_true]
end
end Q
set_option Elab.async false
set_option linter.all false
set_option maxRecDepth 100000
set_option maxHeartbeats 4000000
namespace Q
open PySem PySem.Spec PyProof.Rows L2
open Evl SX TL
/-! ### wheres -/
inductive Wh where
  | all
  | left (ns : List Nat)
  | right (ns : List Nat)
  | cell (a b : Nat)
def WhAt (H : Hp) (p : Addr) : Wh → Prop
  | .all => H p = some (.tup [.str "all"])
  | .left ns => ∃ q, H p = some (.tup [.str "left", .ref q]) ∧ H q = some (.tup (intsN ns))
  | .right ns => ∃ q, H p = some (.tup [.str "right", .ref q]) ∧ H q = some (.tup (intsN ns))
  | .cell a b => H p = some (.tup [.str "cell", .int (a : Nat), .int (b : Nat)])
def WhOk (l r : Nat) : Wh → Prop
  | .all => True
  | .left ns => Vls ns l
  | .right ns => Vls ns r
  | .cell a b => a < l ∧ b < r
def whB : Wh → Nat → Nat → Bool
  | .all, _, _ => true
  | .left ns, i, _ => decide (i ∈ ns)
  | .right ns, _, j => decide (j ∈ ns)
  | .cell a b, i, j => decide (a = i) && decide (b = j)
theorem WhAt.ex {H H' : Hp} {p : Addr} {wh : Wh} (h : WhAt H p wh) (e : Ex H H') : WhAt H' p wh := by
  cases wh with
  | all => exact e _ _ h
  | left ns => obtain ⟨q, h1, h2⟩ := h; exact ⟨q, e _ _ h1, e _ _ h2⟩
  | right ns => obtain ⟨q, h1, h2⟩ := h; exact ⟨q, e _ _ h1, e _ _ h2⟩
  | cell a b => exact e _ _ h
section
variable {K : PySem.W.Frag} {σ : L2.St} {H H' : Hp} {ta te tb : TE} {v : V} {p : Addr} {wh : Wh}
/-- its items: a text first, all data -/
theorem WhAt.data (h : WhAt H p wh) : ∃ s xs d ds, H p = some (.tup (.str s :: xs)) ∧ ∀ H1, Ex H H1 → Dd K H1 (.ref p) (.tuple (d :: ds)) := by
  cases wh with
  | all => exact ⟨_, _, .str "all", [], h, fun H1 e => ⟨.tup (st_of (e _ _ h)) (.cons (.str _) .nil), by decide +kernel⟩⟩
  | left ns =>
    obtain ⟨q, h1, h2⟩ := h
    refine ⟨_, _, .str "left", [.tuple ((ns.map fun n : Nat => (n : Int)).map PyData.int)], h1, fun H1 e => ⟨.tup (st_of (e _ _ h1)) (.cons (.str _) (.cons (dd_tupI (e _ _ h2)).1 .nil)), ?_⟩⟩
    have e0 : PyData.strOk "left" = true := by decide +kernel
    simp only [SeqAt.shaped, PyData.canLay0, PyData.canLayAll0, can_ints, PyData.depth, PyData.depthAll, depth_ints, e0]
    decide
  | right ns =>
    obtain ⟨q, h1, h2⟩ := h
    refine ⟨_, _, .str "right", [.tuple ((ns.map fun n : Nat => (n : Int)).map PyData.int)], h1, fun H1 e => ⟨.tup (st_of (e _ _ h1)) (.cons (.str _) (.cons (dd_tupI (e _ _ h2)).1 .nil)), ?_⟩⟩
    have e0 : PyData.strOk "right" = true := by decide +kernel
    simp only [SeqAt.shaped, PyData.canLay0, PyData.canLayAll0, can_ints, PyData.depth, PyData.depthAll, depth_ints, e0]
    decide
  | cell a b =>
    refine ⟨_, _, .str "cell", [.int a, .int b], h, fun H1 e => ⟨.tup (st_of (e _ _ h)) (.cons (.str _) (.cons (.int _) (.cons (.int _) .nil))), ?_⟩⟩
    have e0 : PyData.strOk "cell" = true := by decide +kernel
    simp only [SeqAt.shaped, PyData.canLay0, PyData.canLayAll0, PyData.depth, PyData.depthAll, e0]
    rfl
theorem mstr_no {z y : Str} {tb : TS} {r : TCs} {D : Ends} (h : decide (y = z) = false) (k : r (.str y) D σ H) : mStr z tb r (.str y) D σ H := ⟨y, rfl, by rw [h]; exact iteF k⟩
theorem mstr_yes {z : Str} {tb : TS} {r : TCs} {D : Ends} (k : tb D σ H) : mStr z tb r (.str z) D σ H := ⟨z, rfl, by rw [decide_eq_true rfl]; exact iteT k⟩
theorem inV_intsN {n : Nat} {ns : List Nat} : inV (.int (n : Nat)) (intsN ns) = decide (n ∈ ns) := by
  unfold inV intsN
  rw [List.map_map, List.any_map, Bool.eq_iff_iff, List.any_eq_true, decide_eq_true_eq]
  constructor
  · rintro ⟨m, hm, e⟩
    have e : eqV (.int (m : Nat)) (.int (n : Nat)) = true := e
    have : ((m : Nat) : Int) = (n : Nat) := by simpa [eqV] using e
    have : m = n := by omega
    exact this ▸ hm
  · intro h
    exact ⟨n, h, by show eqV (.int (n : Nat)) (.int (n : Nat)) = true; simp [eqV]⟩
end
section
variable {P : Program} {w : World} {K : PySem.W.Frag} {mg : Str → Option Value} {base : Heap} {f : Addr} {fd : FuncData}
abbrev s_is_where_in : Stmt := topS 30
def sp_is_where_in : Sp := fun vs H Q _ => ∃ (l r : Nat) (p : Addr) (wh : Wh), vs = [.int l, .int r, .ref p] ∧ WhAt H p wh ∧ WhOk l r wh ∧ Good l r ∧ ∀ H2, Ex H H2 → Q (.bl true) H2
theorem sc_is_where_in : FnScope ["left", "right", "value"] ["left", "right", "value"] (defScope s_is_where_in) := ⟨rfl, rfl, rfl, by decide +kernel, rfl, by decide +kernel, by decide +kernel⟩
theorem ok_is_where_in (F : Dm K "is_where_in" s_is_where_in f fd) (T : Tx K mg) (c2 : Cl P w K mg base 2 "is_between" sp_is_between) (c3 : Cl P w K mg base 3 "are_values" sp_are_values) : FnOk P w K mg base CX0 4 f fd ["left", "right", "value"] sp_is_where_in := by
  refine F.ok sc_is_where_in (fun vs H Q E h => ?_) (fun cdv A outer s H vs Q E hr h => ?_)
  · obtain ⟨l, r, p, wh, rfl, _⟩ := h
    rfl
  · obtain ⟨l, r, p, wh, rfl, hp, ho, hg, q⟩ := h
    have nd := sc_is_where_in.nd
    refine ⟨_, PSs.nox (pss_cons (ps_if (PW.pt (pw_or (pt_not (pt_val (p_isi T.isinstance T.tuple bt_tuple (pv 2)))) (pw_or (pt_cmpR (op_eqD hr.units) (pv 2) (pe_tup pa_nil) (nomark _)) (pw_or1 (pt_not (pt_val (p_isi T.isinstance T.str bt_str (p_ixT K (pv 2) pe_int)))))))) (pss_one (ps_ret pe_bl)) pss_nil)
      (pss_one (ps_match (p_ixT K (pv 2) pe_int)
        (pm_str (pss_one (ps_ret (pe_cmpR op_eq (p_len K T.len (pv 2)) pe_int (nomark _))))
        (pm_str (pss_one (ps_ret (pe_and (pe_cmpR op_eq (p_len K T.len (pv 2)) pe_int (nomark _)) (pe_one (pc c3 hr (pa_cons (p_ixT K (pv 2) pe_int) (pa_cons (pv 0) pa_nil)))))))
        (pm_str (pss_one (ps_ret (pe_and (pe_cmpR op_eq (p_len K T.len (pv 2)) pe_int (nomark _)) (pe_one (pc c3 hr (pa_cons (p_ixT K (pv 2) pe_int) (pa_cons (pv 1) pa_nil)))))))
        (pm_str (pss_one (ps_ret (pe_and (pe_cmpR op_eq (p_len K T.len (pv 2)) pe_int (nomark _)) (pe_and (pc c2 hr (pa_cons (p_ixT K (pv 2) pe_int) (pa_cons pe_int (pa_cons (pe_op op_sub (pv 0) pe_int) pa_nil))))
            (pe_one (pc c2 hr (pa_cons (p_ixT K (pv 2) pe_int) (pa_cons pe_int (pa_cons (pe_op op_sub (pv 1) pe_int) pa_nil)))))))))
        (pm_any (pss_one (ps_ret pe_bl)))))))))), ?_⟩
    obtain ⟨s, xs, d, ds, h1, h2⟩ := hp.data (K := K)
    have hl := hg.1
    have hrr := hg.2
    refine q_no (et_orF (et_notT (et_B (ev_isiT (ev_var rfl) h1))) (et_orF (et_test (ev_eq0 (ev_var rfl) h2)) (et_notT (et_B (ev_isiS (ev_ixTn (i := 0) (ev_var rfl) ev_c h1 rfl)))))) fun H1 e1 => ?_
    have hp1 := hp.ex e1
    cases wh with
    | all =>
      refine ev_ixTn (K := K) (i := 0) (ta := tVar 2) (tb := tC (.int 0)) (ev_var rfl) ev_c hp1 rfl H1 (Ex.refl _) _ fun H2 e2 => mstr_yes ?_
      exact s_ret (ev_is (ev_eqI (ev_lenT (ev_var rfl) (e2 _ _ hp1)) ev_c) rfl) fun H3 e3 => q H3 (e1.trans (e2.trans e3))
    | left ns =>
      obtain ⟨q', g1, g2⟩ := hp1
      refine ev_ixTn (K := K) (i := 0) (ta := tVar 2) (tb := tC (.int 0)) (ev_var rfl) ev_c g1 rfl H1 (Ex.refl _) _ fun H2 e2 => mstr_no (by decide +kernel) (mstr_yes ?_)
      exact s_ret (ev_is (ev_andV (ev_is (ev_eqI (ev_lenT (ev_var rfl) (e2 _ _ g1)) ev_c) (v := .bl true) rfl) fun _ => ev_call (ea_cons (ev_ixTn (i := 1) (ev_var rfl) ev_c (e2 _ _ g1) rfl) (ea_cons (ev_var rfl) ea_nil)) fun H3 e3 Q q E => ⟨q', ns, l, rfl, e3 _ _ (e2 _ _ g2), ho, by omega, q⟩) rfl) fun H3 e3 => q H3 (e1.trans (e2.trans e3))
    | right ns =>
      obtain ⟨q', g1, g2⟩ := hp1
      refine ev_ixTn (K := K) (i := 0) (ta := tVar 2) (tb := tC (.int 0)) (ev_var rfl) ev_c g1 rfl H1 (Ex.refl _) _ fun H2 e2 => mstr_no (by decide +kernel) (mstr_no (by decide +kernel) (mstr_yes ?_))
      exact s_ret (ev_is (ev_andV (ev_is (ev_eqI (ev_lenT (ev_var rfl) (e2 _ _ g1)) ev_c) (v := .bl true) rfl) fun _ => ev_call (ea_cons (ev_ixTn (i := 1) (ev_var rfl) ev_c (e2 _ _ g1) rfl) (ea_cons (ev_var rfl) ea_nil)) fun H3 e3 Q q E => ⟨q', ns, r, rfl, e3 _ _ (e2 _ _ g2), ho, by omega, q⟩) rfl) fun H3 e3 => q H3 (e1.trans (e2.trans e3))
    | cell a b =>
      obtain ⟨ho1, ho2⟩ := ho
      refine ev_ixTn (K := K) (i := 0) (ta := tVar 2) (tb := tC (.int 0)) (ev_var rfl) ev_c hp1 rfl H1 (Ex.refl _) _ fun H2 e2 => mstr_no (by decide +kernel) (mstr_no (by decide +kernel) (mstr_no (by decide +kernel) (mstr_yes ?_)))
      exact s_ret (ev_is (ev_andV (ev_is (ev_eqI (ev_lenT (ev_var rfl) (e2 _ _ hp1)) ev_c) (v := .bl true) rfl) fun _ => ev_andV (ev_call (ea_cons (ev_ixTn (i := 1) (ev_var rfl) ev_c (e2 _ _ hp1) rfl) (ea_cons ev_c (ea_cons (ev_op (ev_var rfl) ev_c rv_I0) ea_nil))) (spv_between (lo := 0) (hi := (l : Int) - 1) (by omega) (by omega)))
        fun _ => ev_call (ea_cons (ev_ixTn (i := 2) (ev_var rfl) ev_c (e2 _ _ hp1) rfl) (ea_cons ev_c (ea_cons (ev_op (ev_var rfl) ev_c rv_I0) ea_nil))) (spv_between (lo := 0) (hi := (r : Int) - 1) (by omega) (by omega))) rfl) fun H3 e3 => q H3 (e1.trans (e2.trans e3))
abbrev s_is_over : Stmt := topS 31
def sp_is_over : Sp := fun vs H Q _ => ∃ (p : Addr) (wh : Wh) (i j : Nat), vs = [.ref p, .int i, .int j] ∧ WhAt H p wh ∧ ∀ H2, Ex H H2 → Q (.bl (whB wh i j)) H2
theorem sc_is_over : FnScope ["where", "one", "other"] ["where", "one", "other"] (defScope s_is_over) := ⟨rfl, rfl, rfl, by decide +kernel, rfl, by decide +kernel, by decide +kernel⟩
theorem ok_is_over (F : Dm K "is_over" s_is_over f fd) (T : Tx K mg) : FnOk P w K mg base CX0 1 f fd ["where", "one", "other"] sp_is_over := by
  refine F.ok sc_is_over (fun vs H Q E h => ?_) (fun cdv A outer s H vs Q E hr h => ?_)
  · obtain ⟨p, wh, i, j, rfl, _⟩ := h
    rfl
  · obtain ⟨p, wh, i, j, rfl, hp, q⟩ := h
    have nd := sc_is_over.nd
    refine ⟨_, PSs.nox (pss_one (ps_match (p_ixT K (pv 0) pe_int)
        (pm_str (pss_one (ps_ret (p_inQ K (pv 1) (p_ixT K (pv 0) pe_int))))
        (pm_str (pss_one (ps_ret (p_inQ K (pv 2) (p_ixT K (pv 0) pe_int))))
        (pm_str (pss_one (ps_ret (pe_cmpR (op_eqD hr.units) (pe_slice sl_tupA (pv 0) (po_some pe_int) po_none) (pe_tup (pa_cons (pv 1) (pa_cons (pv 2) pa_nil))) (nomark _))))
        (pm_any (pss_one (ps_ret pe_bl)))))))), ?_⟩
    cases wh with
    | all =>
      refine ev_ixTn (K := K) (i := 0) (ta := tVar 0) (tb := tC (.int 0)) (ev_var rfl) ev_c hp rfl H (Ex.refl _) _ fun H2 e2 => mstr_no (by decide +kernel) (mstr_no (by decide +kernel) (mstr_no (by decide +kernel) ?_))
      exact s_ret ev_c fun H3 e3 => q H3 (e2.trans e3)
    | left ns =>
      obtain ⟨q', g1, g2⟩ := hp
      refine ev_ixTn (K := K) (i := 0) (ta := tVar 0) (tb := tC (.int 0)) (ev_var rfl) ev_c g1 rfl H (Ex.refl _) _ fun H2 e2 => mstr_yes ?_
      exact s_ret (ev_is (ev_op (ev_var rfl) (ev_ixTn (i := 1) (ev_var rfl) ev_c (e2 _ _ g1) rfl) (rv_isT (st_of (e2 _ _ g2)) rfl (ints_flat _))) (congrArg V.bl inV_intsN)) fun H3 e3 => q H3 (e2.trans e3)
    | right ns =>
      obtain ⟨q', g1, g2⟩ := hp
      refine ev_ixTn (K := K) (i := 0) (ta := tVar 0) (tb := tC (.int 0)) (ev_var rfl) ev_c g1 rfl H (Ex.refl _) _ fun H2 e2 => mstr_no (by decide +kernel) (mstr_yes ?_)
      exact s_ret (ev_is (ev_op (ev_var rfl) (ev_ixTn (i := 1) (ev_var rfl) ev_c (e2 _ _ g1) rfl) (rv_isT (st_of (e2 _ _ g2)) rfl (ints_flat _))) (congrArg V.bl inV_intsN)) fun H3 e3 => q H3 (e2.trans e3)
    | cell a b =>
      refine ev_ixTn (K := K) (i := 0) (ta := tVar 0) (tb := tC (.int 0)) (ev_var rfl) ev_c hp rfl H (Ex.refl _) _ fun H2 e2 => mstr_no (by decide +kernel) (mstr_no (by decide +kernel) (mstr_yes ?_))
      have es : EvU (tSl (rSlA K) (tVar 0) (tPart (tC (.int 1))) tNoPart) [some (.ref p), some (.int i), some (.int j)] H2 [.int (a : Nat), .int (b : Nat)] := fun H3 e3 Q q =>
        ⟨.ref p, rfl, 1, rfl, p, _, rfl, st_of (e3 _ _ (e2 _ _ hp)), fun z => absurd z.1 (show ¬ (HT.sIx 3 0 (some 1) = 0) by decide), fun _ t ht => q t _ ht (Ex.new ht) upd_same⟩
      refine s_ret (ev_is (ev_opUU es (eu_tup (ea_cons (ev_var rfl) (ea_cons (ev_var rfl) ea_nil)) (show 2 ≤ 100000 by decide)) fun p' q' H4 hp' hq' e4 => rv_eqD (fun H5 e5 => dd_tupI (ns := [(a : Int), (b : Int)]) (e5 _ _ hp')) (fun H5 e5 => dd_tupI (ns := [(i : Int), (j : Int)]) (e5 _ _ hq'))) ?_) fun H3 e3 => q H3 (e2.trans e3)
      rw [PyData.eqv, eqv_ints]
      congr 1
      unfold whB
      rw [Bool.eq_iff_iff]; simp; omega
abbrev s_is_where : Stmt := topS 32
theorem sc_is_where : FnScope ["left", "right", "value"] ["left", "right", "value"] (defScope s_is_where) := ⟨rfl, rfl, rfl, by decide +kernel, rfl, by decide +kernel, by decide +kernel⟩
theorem ok_is_where (F : Dm K "is_where" s_is_where f fd) (T : Tx K mg) (c3 : Cl P w K mg base 3 "require_sizes" sp_require_sizes) (c4 : Cl P w K mg base 4 "is_where_in" sp_is_where_in) : FnOk P w K mg base CX0 5 f fd ["left", "right", "value"] sp_is_where_in := by
  refine F.ok sc_is_where (fun vs H Q E h => ?_) (fun cdv A outer s H vs Q E hr h => ?_)
  · obtain ⟨l, r, p, wh, rfl, _⟩ := h
    rfl
  · obtain ⟨l, r, p, wh, rfl, hp, ho, hg, q⟩ := h
    refine ⟨_, PSs.nox (pss_cons (ps_expr (pc c3 hr (pa_cons (pv 0) (pa_cons (pv 1) pa_nil)))) (pss_one (ps_ret (pc c4 hr (pa_cons (pv 0) (pa_cons (pv 1) (pa_cons (pv 2) pa_nil))))))), ?_⟩
    refine q_drop (ev_call (z := .non) (ea_cons (ev_var rfl) (ea_cons (ev_var rfl) ea_nil)) fun H1 e1 Q q E => ⟨l, r, rfl, hg, q⟩) fun H1 e1 => ?_
    exact s_ret (ev_call (ea_cons (ev_var rfl) (ea_cons (ev_var rfl) (ea_cons (ev_var rfl) ea_nil))) fun H2 e2 Q q E => ⟨l, r, p, wh, rfl, hp.ex (e1.trans e2), ho, hg, q⟩) fun H2 e2 => q H2 (e1.trans e2)
end
end Q
set_option Elab.async false
set_option linter.all false
set_option maxRecDepth 100000
set_option maxHeartbeats 4000000
namespace Q
open PySem PySem.Spec PyProof.Rows L2
open Evl SX TL
section
variable {K : PySem.W.Frag} {σ : L2.St} {H H' : Hp} {ta te tb : TE} {v : V} {l r : Nat} {f g : Nat → Nat → Int} {a : Addr}
/-! ### grids as data -/
theorem dpAll_of : ∀ {xs : List V} {ds : List PyData}, xs.length = ds.length → (∀ (i : Nat) v d, xs[i]? = some v → ds[i]? = some d → Dp K H v d) → DpAll K H xs ds
  | [], [], _, _ => .nil
  | [], _ :: _, h, _ => nomatch h
  | _ :: _, [], h, _ => nomatch h
  | x :: xs, d :: ds, h, k => .cons (k 0 x d rfl rfl) (dpAll_of (by simpa using h) fun i v e h1 h2 => k (i + 1) v e (by simpa using h1) (by simpa using h2))
def gdat (l r : Nat) (f : Nat → Nat → Int) : PyData := .tuple ((List.range l).map fun i => .tuple (((List.range r).map (f i)).map PyData.int))
theorem can_rows (r : Nat) (f : Nat → Nat → Int) : ∀ is : List Nat, PyData.canLayAll0 (is.map fun i => .tuple (((List.range r).map (f i)).map PyData.int)) = true
  | [] => rfl
  | i :: is => by
    rw [List.map_cons, PyData.canLayAll0, PyData.canLay0, can_ints, can_rows r f is]; rfl
theorem depth_rows (r : Nat) (f : Nat → Nat → Int) : ∀ is : List Nat, PyData.depthAll (is.map fun i => .tuple (((List.range r).map (f i)).map PyData.int)) ≤ 1
  | [] => Nat.zero_le _
  | i :: is => by
    rw [List.map_cons, PyData.depthAll, PyData.depth, depth_ints]
    have := depth_rows r f is
    omega
theorem dd_gr (h : Gr H a l r f) : Dd K H (.ref a) (gdat l r f) := by
  obtain ⟨xs, h1, h2, h3⟩ := h
  refine ⟨.tup (st_of h1) (dpAll_of (by simp [h2]) fun i v d hv hd => ?_), ?_⟩
  · obtain ⟨p, rfl, hp⟩ := h3 i v hv
    have hi : i < l := by have := (List.getElem?_eq_some_iff.mp hv).1; omega
    rw [List.getElem?_map, List.getElem?_range hi] at hd
    cases hd
    have hp' : H p = some (.tup (((List.range r).map (f i)).map V.int)) := by rw [← row_ints]; exact hp
    exact (dd_tupI hp').1
  · unfold gdat SeqAt.shaped
    rw [PyData.canLay0, can_rows, PyData.depth]
    have := depth_rows r f (List.range l)
    rw [Bool.and_eq_true, decide_eq_true_eq]
    exact ⟨rfl, by omega⟩
theorem gdat_congr (h : ∀ i j, i < l → j < r → f i j = g i j) : gdat l r f = gdat l r g := by
  unfold gdat
  congr 1
  refine List.map_congr_left fun i hi => ?_
  congr 1
  congr 1
  exact List.map_congr_left fun j hj => h i j (List.mem_range.mp hi) (List.mem_range.mp hj)
theorem eqv_gdat : PyData.eqv (gdat l r f) (gdat l r f) = true := SeqAt.eqv_refl _ (by unfold gdat; rw [PyData.canLay0, can_rows])
/-! ### two walks in one comprehension -/
theorem walk_W {J : It} {n : Nat} {G : Hp → Prop} {Y : Nat → Hp → V → Hp → Prop} (w : Walk J n G Y) (Pv : Nat → Hp → Prop) {H : Hp} {Qd : Hp → Prop} {S : Nat → (Hp → Prop) → V → Hp → Prop} (h0 : Pv 0 H) (hG : ∀ i H, i ≤ n → Pv i H → G H)
    (hs : ∀ i x H H', i < n → Pv i H → Y i H x H' → S i (Pv (i + 1)) x H') (hd : ∀ H, Pv n H → Qd H) :
    ∃ W : Nat → Nat → Hp → Prop, (∃ m, W 0 m H) ∧ ∀ i m H, W i m H → (J.stop i H ∧ Qd H) ∨ (J.go i H ∧ ∃ Nx : Hp → Prop, (∀ H', Nx H' → ∃ m', m' < m ∧ W (i + 1) m' H') ∧ ∀ x H', J.yld i H x H' → S i Nx x H') := by
  refine ⟨fun i m H => m = n - i ∧ i ≤ n ∧ Pv i H, ⟨n, by simp, Nat.zero_le _, h0⟩, ?_⟩
  rintro i m H ⟨rfl, hi, p⟩
  have q := hG i H hi p
  by_cases hlt : i < n
  · exact .inr ⟨w.goes i H hlt q, Pv (i + 1), fun H' p' => ⟨n - (i + 1), by omega, rfl, hlt, p'⟩, fun x H' y => hs i x H H' hlt p (w.yields i H x H' hlt q y)⟩
  · have e : i = n := by omega
    subst e
    exact .inl ⟨w.stops H q, hd H p⟩
def flat (l r : Nat) (f : Nat → Nat → Int) : List Int := (List.range l).flatMap fun i => (List.range r).map (f i)
theorem flat_succ : flat (l + 1) r f = flat l r f ++ (List.range r).map (f l) := by unfold flat; rw [List.range_succ, List.flatMap_append]; simp
/-- a walk over what stands in H -/
def EvB (ti : TI) (σ : L2.St) (H : Hp) (n : Nat) (Y : Nat → Hp → V → Hp → Prop) : Prop :=
  ∀ H1, Ex H H1 → ∀ k : It → Hp → Prop, (∀ J H2 G, Ex H1 H2 → Walk J n G Y → (∀ H3, Ex H H3 → G H3) → k J H2) → ti σ H1 k
theorem evl_lc2 {ti ti1 : TI} {g1 g2 : TG} {vs vs1 : List Nat} {Y : Nat → Hp → V → Hp → Prop} (hi : EvI Ex ti σ H l Y) (hl : l ≤ 1000) (hr : r ≤ 1000) (hY : ∀ i H x H', Y i H x H' → Ex H H')
    (st : ∀ i x H1 H2, i < l → Ex H H1 → Y i H1 x H2 → Ex H H2 → ∃ (σ2 : L2.St) (Y1 : Nat → Hp → V → Hp → Prop), (∀ K, K σ2 H2 → g1 x (wipe σ vs) H2 K) ∧ wipe σ2 vs = wipe σ vs ∧ (∀ i H x H', Y1 i H x H' → Ex H H') ∧ EvB ti1 σ2 H r Y1 ∧
      ∀ j y H3 H4, j < r → Ex H H3 → Y1 j H3 y H4 → Ex H H4 → ∃ σ3, (∀ K, K σ3 H4 → g2 y (wipe σ2 vs1) H4 K) ∧ wipe σ3 vs1 = wipe σ2 vs1 ∧ Ev te σ3 H4 (.int (f i j))) :
    EvL (tLc2 ti g1 tYes ti1 g2 tYes te vs vs1) σ H ((flat l r f).map V.int) := by
  intro H1 e1 Q q
  refine hi H1 e1 _ fun J H2 G e2 w hG D hD => ?_
  have hD1 : H1 D = none := fresh_back e2 hD
  refine walk_W w (fun i H' => Ex H2 H' ∧ H' D = some (.lst ((flat i r f).map V.int)) ∧ (flat i r f).length ≤ i * r) ⟨Ex.new hD, by simp [flat, upd_same], by simp [flat]⟩ (fun i H' _ p => hG H' p.1) (fun i x H3 H4 hi p y => ?_) (fun H' p => q D H' hD1 (e2.trans p.1) p.2.1)
  obtain ⟨e3, hacc, hlen⟩ := p
  have e34 := hY i H3 x H4 y
  obtain ⟨σ2, Y1, hg, hw, hY1, hi1, st1⟩ := st i x H3 H4 hi (e1.trans (e2.trans e3)) y (e1.trans (e2.trans (e3.trans e34)))
  refine hg _ ⟨hw, ?_⟩
  show ti1 σ2 H4 _
  refine hi1 H4 (e1.trans (e2.trans (e3.trans e34))) _ fun J1 H5 G1 e5 w1 hG1 => ?_
  have hn : i * r ≤ 1000 * 1000 := Nat.mul_le_mul (by omega) hr
  refine walk_W w1 (fun j H' => Ex H2 H' ∧ H' D = some (.lst ((flat i r f ++ (List.range j).map (f i)).map V.int))) ⟨e3.trans (e34.trans e5), by simpa using e5 _ _ (e34 _ _ hacc)⟩ (fun j H' _ p => hG1 H' (e1.trans (e2.trans p.1))) (fun j y H6 H7 hj p y7 => ?_) (fun H' p => ⟨p.1, ?_, ?_⟩)
  · obtain ⟨p1, p2⟩ := p
    have e67 := hY1 j H6 y H7 y7
    obtain ⟨σ3, hg3, hw3, hev⟩ := st1 j y H6 H7 hj (e1.trans (e2.trans p1)) y7 (e1.trans (e2.trans (p1.trans e67)))
    refine hg3 _ ⟨hw3, ?_⟩
    show te σ3 H7 _
    refine hev H7 (Ex.refl _) _ fun H8 e8 => ⟨_, e8 _ _ (e67 _ _ p2), ?_, Ex.mut (p1.trans (e67.trans e8)) hD, ?_⟩
    · rw [List.length_map, List.length_append, List.length_map, List.length_range]; unfold sizeLine; omega
    · rw [upd_same]
      simp [List.range_succ, List.map_append, List.append_assoc]
  · rw [flat_succ]; exact p.2
  · rw [flat_succ, List.length_append, List.length_map, List.length_range, Nat.succ_mul]; omega
end
end Q
set_option Elab.async false
set_option linter.all false
set_option maxRecDepth 100000
set_option maxHeartbeats 4000000
namespace Q
open PySem PySem.Spec PyProof.Rows L2
open Evl SX TL
theorem er_mkV {σ : L2.St} {H : Hp} {te : TE} {C : Addr} {l r i : Nat} {f : Nat → Nat → Int} (hσ : σ[i]? = some (some (.ref C))) (ha : EvR Ex te σ H (fun _ v H' => ∃ a, v = .ref a ∧ Gr H' a l r f)) (gd : Good l r) :
    EvR Ex (tMakeV i C (sp_qinit C) [] E0 (tCons te tNil)) σ H (fun H1 v H' => ∃ t, v = .ref t ∧ H1 t = none ∧ Qn C H' t l r f) := fun H1 e Q q =>
  ⟨hσ, er_mkQ (C := C) ha gd H1 e Q q⟩
theorem ev_pick {σ : L2.St} {H : Hp} {tt : TT} {ta tb : TE} {b : Bool} {x y : V} (h : EvT tt σ H b) (ha : Ev ta σ H x) (hb : Ev tb σ H y) : Ev (tIf tt ta tb) σ H (if b then x else y) := by
  cases b with
  | true => exact ev_if h (fun _ => ha) fun z => (nomatch z)
  | false => exact ev_if h (fun z => (nomatch z)) fun _ => hb
section
variable {P : Program} {w : World} {K : PySem.W.Frag} {mg : Str → Option Value} {base : Heap} {f : Addr} {fd : FuncData} {CT CQ : Addr}
abbrev queS (j : Nat) : Stmt := inClass (topS 35) j
/-! ### are_numbers, __init__ -/
abbrev s_are_numbers : Stmt := topS 34
def sp_are_numbers : Sp := fun vs H Q _ => ∃ a r h, vs = [.ref a] ∧ Rw H a r h ∧ (1 ≤ r ∧ r ≤ 8) ∧ ∀ H2, Ex H H2 → Q (.bl true) H2
theorem sc_are_numbers : FnScope ["value", "number"] ["value"] (defScope s_are_numbers) := ⟨rfl, rfl, rfl, by decide +kernel, rfl, by decide +kernel, by decide +kernel⟩
theorem ok_are_numbers (F : Dm K "are_numbers" s_are_numbers f fd) (T : Tx K mg) (c1 : Cl P w K mg base 1 "is_integer" sp_is_integer) : FnOk P w K mg base CX0 2 f fd ["value"] sp_are_numbers := by
  refine F.ok sc_are_numbers (fun vs H Q E h => ?_) (fun cdv A outer s H vs Q E hr h => ?_)
  · obtain ⟨a, r, h, rfl, _⟩ := h
    rfl
  · obtain ⟨a, r, h, rfl, ha, hrr, q⟩ := h
    have nd := sc_are_numbers.nd
    refine ⟨_, PSs.nox (pss_cons (ps_if (PW.pt (pw_or (pt_not (pt_val (p_isi T.isinstance T.tuple bt_tuple (pv 0)))) (pw_or1 (pt_not (pt_chain op_le op_le pe_int (p_len K T.len (pv 0)) (pgc T.most_values)))))) (pss_one (ps_ret pe_bl)) pss_nil)
      (pss_one (ps_ret (pe_callB (cr_all rfl) (by rfl) T.all bt_all (pa_cons (pe_lc (own := [("number", 1)]) (g := gName 1) (tt := tYes) rfl nd (pi_tupQ K (pv 0)) (blkOk_by (N := ["value", "number"]) (sc := defScope s_are_numbers) (by decide +kernel))
              (fun _ _ _ _ _ => pg_name (i := 1) nd rfl (Or.inl rfl)) (fun _ _ _ _ _ => pts_nil) (fun _ _ _ _ _ => pc c1 hr (pa_cons (pv 1) pa_nil))) pa_nil))))), ?_⟩
    refine q_no (et_orF (et_notT (et_B (ev_isiT (ev_var rfl) ha))) (et_notT (et_test (ev_is (ev_chainLe ev_c (ev_lenT (ev_var rfl) ha) ev_c) ?_)))) fun H1 e1 => ?_
    · rw [row_len]
      congr 1
      rw [Bool.and_eq_true, decide_eq_true_eq, decide_eq_true_eq]; omega
    refine s_ret (ev_all (n := r) ?_) fun H2 e2 => q H2 (e1.trans e2)
    have k := er_lcV (j := 1) (vs := [1]) (te := tCall sp_is_integer [] E0 (tCons (tVar 1) tNil)) (fun _ => V.bl true) (evi_tup (K := K) (te := tVar 0) (σ := [some (.ref a), none]) (H := H1) exOk (r_ev (ev_var rfl)) (e1 _ _ ha)) (by rw [row_len]; omega) (fun x => rfl) fun i x H2 e2 hx => ?_
    · rw [row_len] at k; exact k
    · obtain ⟨_, rfl⟩ := row_at' hx
      exact ev_call (ea_cons (ev_var rfl) ea_nil) fun H3 e3 Q q E => ⟨_, rfl, q _ (Ex.refl _)⟩
abbrev s_qinit : Stmt := queS 0
theorem sc_qinit : FnScope ["self", "weights"] ["self", "weights"] (defScope s_qinit) := ⟨rfl, rfl, rfl, by decide +kernel, rfl, by decide +kernel, by decide +kernel⟩
theorem ok_qinit (F : Mm K "Question.__init__" "__init__" s_qinit f fd) (T : Tx K mg) (QC : QueC K CQ) (c2 : Cl P w K mg base 2 "is_grid" sp_is_grid) : FnOk P w K mg base CX0 3 f fd ["self", "weights"] (sp_qinit CQ) := by
  refine F.ok sc_qinit (fun vs H Q E h => ?_) (fun cdv A outer s H vs Q E hr h => ?_)
  · obtain ⟨x, dx, a, l, r, f, rfl, _⟩ := h
    rfl
  · obtain ⟨x, dx, a, l, r, g, rfl, hx, hdx, hne, hg, hgd, q⟩ := h
    refine ⟨_, PSs.nox (pss_cons (ps_if (pt_not (pt_val (pc c2 hr (pa_cons (pv 1) pa_nil)))) (pss_one ps_never) pss_nil) (pss_one (ps_fld (pv 0) (pv 1) rfl))), ?_⟩
    refine q_no (et_notT (et_B (ev_call (ea_cons (ev_var rfl) ea_nil) fun H1 e1 Q q E => ⟨a, l, r, g, rfl, hg.ex e1, hgd, q⟩))) fun H1 e1 => ?_
    have hx1 := e1 _ _ hx
    refine ⟨_, rfl, _, rfl, x, CQ, dx, [], rfl, hx1, QC.cl, QC.na, by decide, ?_⟩
    refine q _ (fun b o hb b1 b2 => ?_) ⟨dx, a, upd_same, (hg.ex e1).tu (tu_upd hx1 fun _ z => nomatch z)⟩
    rw [upd_ne b1]; exact e1 _ _ hb
/-! ### at, between -/
def sp_qat (C : Addr) : Sp := fun vs H Q _ => ∃ (l r : Nat) (p : Addr) (wh : Wh), vs = [.ref C, .int l, .int r, .ref p] ∧ WhAt H p wh ∧ WhOk l r wh ∧ Good l r ∧ ∀ q H2, Ex H H2 → Qn C H2 q l r (fun i j => if whB wh i j then 1 else 0) → Q (.ref q) H2
abbrev N_qat : List Str := ["cls", "left", "right", "where", "one", "other"]
theorem sc_qat : FnScope N_qat ["cls", "left", "right", "where"] (defScope (queS 1)) := ⟨rfl, rfl, rfl, by decide +kernel, rfl, by decide +kernel, by decide +kernel⟩
theorem ok_qat {fi : Addr} {fdi : FuncData} {psi : List Str} (F : Mm K "Question.at" "at" (queS 1) f fd) (T : Tx K mg) (QC : QueC K CQ) (M : Mk K CQ fi) (Fi : FnOk P w K mg base CX0 3 fi fdi psi (sp_qinit CQ)) (Bi : Binds K fdi psi [])
    (c3 : Cl P w K mg base 3 "require_sizes" sp_require_sizes) (c4 : Cl P w K mg base 4 "is_where_in" sp_is_where_in) (c1 : Cl P w K mg base 1 "is_over" sp_is_over) : FnOk P w K mg base CX0 5 f fd ["cls", "left", "right", "where"] (sp_qat CQ) := by
  refine F.ok sc_qat (fun vs H Q E h => ?_) (fun cdv A outer s H vs Q E hr h => ?_)
  · obtain ⟨l, r, p, wh, rfl, _⟩ := h
    rfl
  · obtain ⟨l, r, p, wh, rfl, hp, ho, hgd, q⟩ := h
    have nd := sc_qat.nd
    refine ⟨_, PSs.nox (pss_cons (ps_expr (pc c3 hr (pa_cons (pv 1) (pa_cons (pv 2) pa_nil))))
      (pss_cons (ps_if (pt_not (pt_val (pc c4 hr (pa_cons (pv 1) (pa_cons (pv 2) (pa_cons (pv 3) pa_nil)))))) (pss_one ps_never) pss_nil)
      (pss_one (ps_ret (pe_makeV (i := 0) M Fi hr rfl (.inl rfl) Bi .nil pass0 (pa_cons (p_tuple K T.tuple
      (pe_lc (own := [("one", 4)]) (g := gName 4) (tt := tYes) rfl nd (pi_range1 (by rfl) T.range (pa_cons (pv 1) pa_nil)) (blkOk_by (N := N_qat) (sc := defScope (queS 1)) (by decide +kernel))
              (fun _ _ _ _ _ => pg_name (i := 4) nd rfl (Or.inr rfl)) (fun _ _ _ _ _ => pts_nil) (fun _ _ _ _ _ =>
        p_tuple K T.tuple (pe_lc (own := [("other", 5)]) (g := gName 5) (tt := tYes) rfl nd (pi_range1 (by rfl) T.range (pa_cons (pv 2) pa_nil)) (blkOk_by (N := N_qat) (sc := _) (by kernel_rfl))
              (fun _ _ _ _ _ => pg_name (i := 5) nd rfl (Or.inl rfl)) (fun _ _ _ _ _ => pts_nil) (fun _ _ _ _ _ => pe_ifExp (pt_val (pc c1 hr (pa_cons (pv 3) (pa_cons (pv 4) (pa_cons (pv 5) pa_nil))))) pe_int pe_int))))) pa_nil)))))), ?_⟩
    have hl := hgd.1
    have hrr := hgd.2
    refine q_drop (ev_call (z := .non) (ea_cons (ev_var rfl) (ea_cons (ev_var rfl) ea_nil)) fun H1 e1 Q q E => ⟨l, r, rfl, hgd, q⟩) fun H1 e1 => ?_
    refine q_no (et_notT (et_B (ev_call (ea_cons (ev_var rfl) (ea_cons (ev_var rfl) (ea_cons (ev_var rfl) ea_nil))) fun H2 e2 Q q E => ⟨l, r, p, wh, rfl, hp.ex (e1.trans e2), ho, hgd, q⟩))) fun H2 e2 => ?_
    refine sr_ret (er_mkV (C := CQ) (l := l) (r := r) (f := fun i j => if whB wh i j then 1 else 0) rfl ?_ hgd) fun v H3 e3 ⟨p, hv, _, hp⟩ => by subst hv; exact q p H3 (e1.trans (e2.trans e3)) hp
    refine er_grid (evi_rng (σ := start N_qat [.ref CQ, .int l, .int r, .ref p]) (te := tVar 1) exOk (r_ev (ev_var rfl)) (by omega)) (by omega) (fun i H x H' => yfn_ex i H x H') fun i x H3 H4 hi e3 y e4 => ?_
    obtain ⟨rfl, rfl⟩ := y
    refine ⟨_, fun _ k => k, rfl, ?_⟩
    refine er_row (evi_rng (σ := [some (.ref CQ), some (.int l), some (.int r), some (.ref p), some (.int (0 + (i : Nat))), none]) (te := tVar 2) exOk (r_ev (ev_var rfl)) (by omega)) (by omega) (fun i H x H' => yfn_ex i H x H') fun j x H5 H6 hj e5 y e6 => ?_
    obtain ⟨rfl, rfl⟩ := y
    refine ⟨_, fun _ k => k, rfl, ev_is (ev_pick (b := whB wh i j) (et_B (ev_call (ea_cons (ev_var rfl) (ea_cons (ev_var rfl) (ea_cons (ev_var rfl) ea_nil))) fun H7 e7 Q q E => ⟨p, wh, i, j, ?_, hp.ex (e1.trans (e2.trans (e4.trans (e6.trans e7)))), q⟩)) ev_c ev_c) ?_⟩
    · show [V.ref p, .int (0 + (i : Nat)), .int (0 + (j : Nat))] = _
      rw [Int.zero_add, Int.zero_add]
    · cases whB wh i j <;> rfl
def sp_qbetween (C : Addr) : Sp := fun vs H Q _ => ∃ (a b : Addr) (l r : Nat) (h k : Nat → Int), vs = [.ref C, .ref a, .ref b] ∧ Rw H a l h ∧ Rw H b r k ∧ Good l r ∧ (∀ i, i < l → -(2 ^ 64) < h i ∧ h i < 2 ^ 64) ∧ ∀ q H2, Ex H H2 → Qn C H2 q l r (fun i j => h i * k j) → Q (.ref q) H2
abbrev N_qbet : List Str := ["cls", "lefts", "rights", "numbers", "one", "other"]
theorem sc_qbet : FnScope N_qbet ["cls", "lefts", "rights"] (defScope (queS 2)) := ⟨rfl, rfl, rfl, by decide +kernel, rfl, by decide +kernel, by decide +kernel⟩
theorem ok_qbetween {fi : Addr} {fdi : FuncData} {psi : List Str} (F : Mm K "Question.between" "between" (queS 2) f fd) (T : Tx K mg) (QC : QueC K CQ) (M : Mk K CQ fi) (Fi : FnOk P w K mg base CX0 3 fi fdi psi (sp_qinit CQ)) (Bi : Binds K fdi psi [])
    (c2 : Cl P w K mg base 2 "are_numbers" sp_are_numbers) : FnOk P w K mg base CX0 5 f fd ["cls", "lefts", "rights"] (sp_qbetween CQ) := by
  refine F.ok sc_qbet (fun vs H Q E h => ?_) (fun cdv A outer s H vs Q E hr h => ?_)
  · obtain ⟨a, b, l, r, h, k, rfl, _⟩ := h
    rfl
  · obtain ⟨a, b, l, r, h, k, rfl, ha, hb, hgd, hbd, q⟩ := h
    have nd := sc_qbet.nd
    refine ⟨_, PSs.nox (pss_cons (ps_for PassesOwn.never rfl (pi_tupQ K (pe_tup (pa_cons (pv 1) (pa_cons (pv 2) pa_nil)))) (pg_name (i := 3) nd rfl (Or.inl rfl))
        (pss_one (ps_if (pt_not (pt_val (pc c2 hr (pa_cons (pv 3) pa_nil)))) (pss_one ps_never) pss_nil)))
      (pss_one (ps_ret (pe_makeV (i := 0) M Fi (hr.mono (by decide)) rfl (.inl rfl) Bi .nil pass0 (pa_cons (p_tuple K T.tuple
      (pe_lc (own := [("one", 4)]) (g := gName 4) (tt := tYes) rfl nd (pi_tupQ K (pv 1)) (blkOk_by (N := N_qbet) (sc := defScope (queS 2)) (by decide +kernel))
              (fun _ _ _ _ _ => pg_name (i := 4) nd rfl (Or.inr rfl)) (fun _ _ _ _ _ => pts_nil) (fun _ _ _ _ _ =>
        p_tuple K T.tuple (pe_lc (own := [("other", 5)]) (g := gName 5) (tt := tYes) rfl nd (pi_tupQ K (pv 2)) (blkOk_by (N := N_qbet) (sc := _) (by kernel_rfl))
              (fun _ _ _ _ _ => pg_name (i := 5) nd rfl (Or.inl rfl)) (fun _ _ _ _ _ => pts_nil) (fun _ _ _ _ _ => pe_op op_mul (pv 4) (pv 5)))))) pa_nil))))), ?_⟩
    have hl := hgd.1
    have hrr := hgd.2
    refine q_forI (evi_tupN (xs := [.ref a, .ref b]) (eu_tup (ea_cons (ev_var rfl) (ea_cons (ev_var rfl) ea_nil)) (show 2 ≤ 100000 by decide))) (fun H1 i σ' H' => Ex H1 H' ∧ ∃ z, σ' = [some (.ref CQ), some (.ref a), some (.ref b), z, none, none]) (fun H1 e1 => ⟨Ex.refl _, _, rfl⟩) (fun _ _ _ _ p => p.1)
      (fun H1 e1 i x σ' H2 H3 hi p y => ?_) (fun H1 e1 σ' H2 p => ?_)
    · obtain ⟨e2, z, rfl⟩ := p
      obtain ⟨rfl, hx⟩ := y
      have hb' : ∃ (c : Addr) (n : Nat) (hh : Nat → Int), x = .ref c ∧ Rw H3 c n hh ∧ 1 ≤ n ∧ n ≤ 8 := by
        match i, hx with
        | 0, hx => exact ⟨a, l, h, by cases hx; rfl, ha.ex (e1.trans e2), hl⟩
        | 1, hx => exact ⟨b, r, k, by cases hx; rfl, hb.ex (e1.trans e2), hrr⟩
        | i + 2, hx => simp at hx
      obtain ⟨c, n, hh, rfl, hc, hn⟩ := hb'
      exact s_no (et_notT (et_B (ev_call (ea_cons (ev_var rfl) ea_nil) fun H4 e4 Q q E => ⟨c, n, hh, rfl, hc.ex e4, hn, q⟩))) fun H4 e4 => ⟨e2.trans e4, _, rfl⟩
    · obtain ⟨e2, z, rfl⟩ := p
      have e02 := e1.trans e2
      refine sr_ret (er_mkV (C := CQ) (l := l) (r := r) (f := fun i j => h i * k j) rfl ?_ hgd) fun v H3 e3 ⟨p, hv, _, hp⟩ => by subst hv; exact q p H3 (e02.trans e3) hp
      have k0 := evi_tup (K := K) (te := tVar 1) (σ := [some (.ref CQ), some (.ref a), some (.ref b), z, none, none]) exOk (r_ev (ev_var rfl)) (e02 _ _ ha)
      rw [row_len] at k0
      refine er_grid k0 (by omega) (fun i H x H' => yat_ex i H x H') fun i x H3 H4 hi e3 y e4 => ?_
      obtain ⟨rfl, hx⟩ := y
      obtain ⟨_, rfl⟩ := row_at' hx
      refine ⟨_, fun _ k => k, rfl, ?_⟩
      have k1 := evi_tup (K := K) (te := tVar 2) (σ := [some (.ref CQ), some (.ref a), some (.ref b), z, some (.int (h i)), none]) exOk (r_ev (ev_var rfl)) (e4 _ _ (e02 _ _ hb))
      rw [row_len] at k1
      refine er_row k1 (by omega) (fun i H x H' => yat_ex i H x H') fun j x H5 H6 hj e5 y e6 => ?_
      obtain ⟨rfl, hx⟩ := y
      obtain ⟨_, rfl⟩ := row_at' hx
      exact ⟨_, fun _ k => k, rfl, ev_mul (ev_var rfl) (ev_var rfl) (.inl (hbd i hi))⟩
end
end Q
set_option Elab.async false
set_option linter.all false
set_option maxRecDepth 100000
set_option maxHeartbeats 4000000
namespace Q
open PySem PySem.Spec PyProof.Rows L2
open Evl SX TL
section
variable {K : PySem.W.Frag} {σ : L2.St} {H H' : Hp} {ta te tb : TE} {v : V} {l r : Nat} {f g : Nat → Nat → Int} {a b : Addr} {xs ys : List V} {C : Addr}
theorem evb_zipS (h1 : ∀ H1, Ex H H1 → Ev ta σ H1 (.ref a)) (h2 : ∀ H1, Ex H H1 → Ev tb σ H1 (.ref b)) (ha : H a = some (.tup xs)) (hb : H b = some (.tup ys)) (hn : ys.length = xs.length) :
    EvB (iZipS K (tCons ta (tCons tb tNil))) σ H xs.length (YPair (fun i => xs[i]?) (fun i => ys[i]?)) := fun H1 e1 q hq =>
  h1 H1 e1 H1 (Ex.refl _) _ fun H2 e2 => h2 H2 (e1.trans e2) H2 (Ex.refl _) _ fun H3 e3 => by
    have e := e1.trans (e2.trans e3)
    exact ⟨a, b, xs, ys, rfl, st_of (e _ _ ha), st_of (e _ _ hb), hq _ _ _ (e2.trans e3) (walk_zipS hn) fun H4 e4 => ⟨st_of (e4 _ _ ha), st_of (e4 _ _ hb)⟩⟩
theorem evi_of_b {ti : TI} {n : Nat} {Y : Nat → Hp → V → Hp → Prop} (h : EvB ti σ H n Y) : EvI Ex ti σ H n Y := fun H1 e1 k hk => h H1 e1 k fun J H2 G e2 w hG => hk J H2 G e2 w fun H3 e3 => hG H3 (e1.trans (e2.trans e3))
theorem ev_sumL {ns : List Int} (h : EvL te σ H (ns.map V.int)) : Ev (tCB (rSum K) (tCons te tNil)) σ H (.int ns.sum) := fun H1 e Q q =>
  h H1 e _ fun p H2 _ e2 hp => ⟨p, ns, rfl, sq_of hp, q H2 e2⟩
/-- the length of the first row -/
theorem ev_lenRow0 (ha : Ev ta σ H (.ref a)) (hg : Gr H a l r f) (hl : 1 ≤ l) : Ev (tCB (rLenS K) (tCons (tOp (rIxT K) ta (tC (.int 0))) tNil)) σ H (.int (r : Nat)) := by
  obtain ⟨xs, p, hxs, hxl, hx0, hp⟩ := hg.row (i := 0) hl
  exact ev_cb (ea_cons (ev_ixTn (i := 0) ha ev_c hxs hx0) ea_nil) fun H3 e3 Q q => ⟨p, _, rfl, .inr (st_of (e3 _ _ hp)), by rw [row_len]; exact q _ (Ex.refl _)⟩
end
/-! ### Question: the properties -/
def sp_qweights (C : Addr) : Sp := fun vs H Q _ => ∃ q dx a, vs = [.ref q] ∧ H q = some (.ins C dx [("own_weights", .ref a)]) ∧ ∀ H2, Ex H H2 → Q (.ref a) H2
def sp_qleft (C : Addr) : Sp := fun vs H Q _ => ∃ q l r f, vs = [.ref q] ∧ Qn C H q l r f ∧ ∀ H2, Ex H H2 → Q (.int (l : Nat)) H2
def sp_qright (C : Addr) : Sp := fun vs H Q _ => ∃ q l r f, vs = [.ref q] ∧ Qn C H q l r f ∧ 1 ≤ l ∧ ∀ H2, Ex H H2 → Q (.int (r : Nat)) H2
section
variable {P : Program} {w : World} {K : PySem.W.Frag} {mg : Str → Option Value} {base : Heap} {f : Addr} {fd : FuncData} {CT CQ : Addr}
theorem sc_qweights : FnScope ["self"] ["self"] (defScope (queS 3)) := ⟨rfl, rfl, rfl, by decide +kernel, rfl, by decide +kernel, by decide +kernel⟩
theorem sc_qleft : FnScope ["self"] ["self"] (defScope (queS 4)) := ⟨rfl, rfl, rfl, by decide +kernel, rfl, by decide +kernel, by decide +kernel⟩
theorem sc_qright : FnScope ["self"] ["self"] (defScope (queS 5)) := ⟨rfl, rfl, rfl, by decide +kernel, rfl, by decide +kernel, by decide +kernel⟩
theorem ok_qweights (F : Mm K "Question.weights" "weights" (queS 3) f fd) (QC : QueC K CQ) : FnOk P w K mg base CX0 1 f fd ["self"] (sp_qweights CQ) := by
  refine F.ok sc_qweights (fun vs H Q E h => ?_) (fun cdv A outer s H vs Q E hr h => ?_)
  · obtain ⟨q, dx, a, rfl, _⟩ := h
    rfl
  · obtain ⟨q, dx, a, rfl, hq, k⟩ := h
    exact ⟨_, PSs.nox (pss_one (ps_ret (p_fld K (pv 0)))), s_ret (ev_fld QC (ev_var rfl) hq) k⟩
theorem ok_qleft (F : Mm K "Question.left" "left" (queS 4) f fd) (T : Tx K mg) (QC : QueC K CQ) : FnOk P w K mg base CX0 1 f fd ["self"] (sp_qleft CQ) := by
  refine F.ok sc_qleft (fun vs H Q E h => ?_) (fun cdv A outer s H vs Q E hr h => ?_)
  · obtain ⟨q, l, r, f, rfl, _⟩ := h
    rfl
  · obtain ⟨q, l, r, g, rfl, ⟨dx, a, hq, hg⟩, k⟩ := h
    obtain ⟨xs, hxs, hxl, _⟩ := id hg
    exact ⟨_, PSs.nox (pss_one (ps_ret (p_len K T.len (p_fld K (pv 0))))), s_ret (ev_is (ev_lenT (ev_fld QC (ev_var rfl) hq) hxs) (by rw [hxl])) k⟩
theorem ok_qright (F : Mm K "Question.right" "right" (queS 5) f fd) (T : Tx K mg) (QC : QueC K CQ) : FnOk P w K mg base CX0 1 f fd ["self"] (sp_qright CQ) := by
  refine F.ok sc_qright (fun vs H Q E h => ?_) (fun cdv A outer s H vs Q E hr h => ?_)
  · obtain ⟨q, l, r, f, rfl, _⟩ := h
    rfl
  · obtain ⟨q, l, r, g, rfl, ⟨dx, a, hq, hg⟩, hl, k⟩ := h
    exact ⟨_, PSs.nox (pss_one (ps_ret (p_len K T.len (p_ixT K (p_fld K (pv 0)) pe_int)))), s_ret (ev_lenRow0 (ev_fld QC (ev_var rfl) hq) hg hl) k⟩
theorem ev_qleft {σ : L2.St} {H : Hp} {te : TE} {q : Addr} {l r : Nat} {g : Nat → Nat → Int} (h : Ev te σ H (.ref q)) (hq : Qn CQ H q l r g) : Ev (tProp CQ (sp_qleft CQ) [] E0 te) σ H (.int (l : Nat)) := fun H1 e Q k =>
  h H1 e _ fun H2 e2 => by
    have hq2 := hq.ex (e.trans e2)
    obtain ⟨dx, a, h1, _⟩ := id hq2
    exact ⟨q, dx, _, rfl, h1, q, l, r, g, rfl, hq2, fun H3 e3 => k H3 (e2.trans e3)⟩
theorem ev_qright {σ : L2.St} {H : Hp} {te : TE} {q : Addr} {l r : Nat} {g : Nat → Nat → Int} (h : Ev te σ H (.ref q)) (hq : Qn CQ H q l r g) (hl : 1 ≤ l) : Ev (tProp CQ (sp_qright CQ) [] E0 te) σ H (.int (r : Nat)) := fun H1 e Q k =>
  h H1 e _ fun H2 e2 => by
    have hq2 := hq.ex (e.trans e2)
    obtain ⟨dx, a, h1, _⟩ := id hq2
    exact ⟨q, dx, _, rfl, h1, q, l, r, g, rfl, hq2, hl, fun H3 e3 => k H3 (e2.trans e3)⟩
/-! ### a question asked of a table -/
def dot (l r : Nat) (f g : Nat → Nat → Int) : Int := (flat l r (fun i j => f i j * g i j)).sum
def sp_qcall (CQ CT : Addr) : Sp := fun vs H Q _ => ∃ q t l r f g, vs = [.ref q, .ref t] ∧ Qn CQ H q l r f ∧ Tb CT H t l r g ∧ Good l r ∧ (∀ i j, i < l → j < r → -(2 ^ 64) < g i j ∧ g i j < 2 ^ 64) ∧ ∀ H2, Ex H H2 → Q (.int (dot l r f g)) H2
abbrev N_qcall : List Str := ["self", "table", "row", "counts", "weight", "count"]
theorem sc_qcall : FnScope N_qcall ["self", "table"] (defScope (queS 8)) := ⟨rfl, rfl, rfl, by decide +kernel, rfl, by decide +kernel, by decide +kernel⟩
theorem ok_qcall (F : Mm K "Question.__call__" "__call__" (queS 8) f fd) (T : Tx K mg) (QC : QueC K CQ) (TC : TabC K CT) (hct : mg "Table" = some (.ref CT))
    (cl : PrC P w K mg base 1 CT "left" (sp_tget CT 1)) (cr : PrC P w K mg base 1 CT "right" (sp_tget CT 2)) (cc : PrC P w K mg base 1 CT "counts" (sp_tget CT 0)) (dl : PrC P w K mg base 1 CQ "left" (sp_qleft CQ)) (dr : PrC P w K mg base 1 CQ "right" (sp_qright CQ)) :
    FnOk P w K mg base CX0 3 f fd ["self", "table"] (sp_qcall CQ CT) := by
  refine F.ok sc_qcall (fun vs H Q E h => ?_) (fun cdv A outer s H vs Q E hr h => ?_)
  · obtain ⟨q, t, l, r, f, g, rfl, _⟩ := h
    rfl
  · obtain ⟨q, t, l, r, g1, g2, rfl, hq, ht, hgd, hbd, k⟩ := h
    have nd := sc_qcall.nd
    refine ⟨_, PSs.nox (pss_cons (ps_if (PW.pt (pw_or (pt_not (pt_val (p_isiSl K T.isinstance hct (pv 1)))) (pw_or1 (pt_cmpR (op_neD hr.units) (pe_tup (pa_cons (pprS cl TC.sc hr (pv 1)) (pa_cons (pprS cr TC.sc hr (pv 1)) pa_nil))) (pe_tup (pa_cons (ppr dl QC.cl hr (pv 0)) (pa_cons (ppr dr QC.cl hr (pv 0)) pa_nil))) (nomark _)))))
        (pss_one ps_never) pss_nil)
      (pss_one (ps_ret (p_sum K rfl T.sum (pe_lc2 (own := [("row", 2), ("counts", 3), ("weight", 4), ("count", 5)]) (vs1 := [4, 5]) (g := gTup K 2 (gCons (gName 2) (gCons (gName 3) gNil))) (g1 := gTup K 2 (gCons (gName 4) (gCons (gName 5) gNil))) (tt := tYes) (tt1 := tYes) rfl nd
        (pi_zipSQ K T.zip (pa_cons (p_fld K (pv 0)) (pa_cons (pprS cc TC.sc hr (pv 1)) pa_nil))) (blkOk_by (N := N_qcall) (sc := defScope (queS 8)) (by decide +kernel)) (by decide)
        (fun _ _ _ _ _ => pg_tup rfl (pgs_cons (pg_name (i := 2) nd rfl (Or.inl rfl)) (pgs_cons (pg_name (i := 3) nd rfl (Or.inl rfl)) pgs_nil))) (fun _ _ _ _ _ => pts_nil)
        (fun _ _ _ _ _ => pi_zipSQ K T.zip (pa_cons (pv 2) (pa_cons (pv 3) pa_nil)))
        (fun _ _ _ _ _ => pg_tup rfl (pgs_cons (pg_name (i := 4) nd rfl (Or.inl rfl)) (pgs_cons (pg_name (i := 5) nd rfl (Or.inl rfl)) pgs_nil))) (fun _ _ _ _ _ => pts_nil)
        (fun _ _ _ _ _ => pe_op op_mul (pv 4) (pv 5))))))), ?_⟩
    obtain ⟨dx, a, hqa, hga⟩ := id hq
    obtain ⟨dy, b, hs, hgb⟩ := id ht
    obtain ⟨xs, hxs, hxl, hxr⟩ := id hga
    obtain ⟨ys, hys, hyl, hyr⟩ := id hgb
    have hl := hgd.1
    have hrr := hgd.2
    refine q_no (et_orF (et_notT (et_B (ev_isiSl TC (ev_var rfl) ht))) (et_test (ev_is (ev_opUU (eu_tup (ea_cons (ev_propSl (ev_var rfl) hs rfl) (ea_cons (ev_propSl (ev_var rfl) hs rfl) ea_nil)) (show 2 ≤ 100000 by decide))
      (eu_tup (ea_cons (ev_qleft (ev_var rfl) hq) (ea_cons (ev_qright (ev_var rfl) hq hl.1) ea_nil)) (show 2 ≤ 100000 by decide)) fun p' q' H4 hp' hq' e4 => rv_neD (fun H5 e5 => dd_tupI (ns := [(l : Int), (r : Int)]) (e5 _ _ hp')) (fun H5 e5 => dd_tupI (ns := [(l : Int), (r : Int)]) (e5 _ _ hq'))) ?_))) fun H1 e1 => ?_
    · simp only [PyData.eqv, eqv_ints, decide_true]; rfl
    refine s_ret (ev_sumL ?_) fun H2 e2 => k H2 (e1.trans e2)
    have k0 := evb_zipS (K := K) (ta := tFld K (tVar 0) "own_weights") (tb := SlX.tPropSl CT (sp_tget CT 0) E0 (tVar 1)) (σ := start N_qcall [.ref q, .ref t]) (H := H1) (fun H2 e2 => ev_fld QC (ev_var rfl) ((e1.trans e2) _ _ hqa)) (fun H2 e2 => ev_propSl (ev_var rfl) (slt_im hs (im_ex (e1.trans e2))) rfl) (e1 _ _ hxs) (e1 _ _ hys) (by omega)
    rw [hxl] at k0
    refine evl_lc2 (evi_of_b k0) (by omega) (by omega) (fun i H x H' => ypair_ex i H x H') fun i x H2 H3 hi e2 y e3 => ?_
    obtain ⟨tt, u, v, rfl, htt, rfl, hu, hv⟩ := y
    obtain ⟨p, rfl, hp⟩ := hxr i u hu
    obtain ⟨p', rfl, hp'⟩ := hyr i v hv
    refine ⟨_, YPair (fun j => ((List.range r).map fun j => V.int (g1 i j))[j]?) (fun j => ((List.range r).map fun j => V.int (g2 i j))[j]?), fun _ k => g_pair upd_same k, rfl, fun i H x H' => ypair_ex i H x H', ?_, fun j y H4 H5 hj e4 y5 e5 => ?_⟩
    · have k1 := evb_zipS (K := K) (ta := tVar 2) (tb := tVar 3) (σ := [some (.ref q), some (.ref t), some (.ref p), some (.ref p'), none, none]) (fun H2 e2 => ev_var rfl) (fun H2 e2 => ev_var rfl) (e1 _ _ hp) (e1 _ _ hp') (by rw [row_len, row_len])
      rw [row_len] at k1
      exact k1
    · obtain ⟨t', u', v', rfl, ht', rfl, hu', hv'⟩ := y5
      obtain ⟨_, rfl⟩ := row_at' hu'
      obtain ⟨_, rfl⟩ := row_at' hv'
      exact ⟨_, fun _ k => g_pair upd_same k, rfl, ev_mul (ev_var rfl) (ev_var rfl) (.inr (hbd i j hi hj))⟩
/-! ### turned, ==  -/
def sp_qturned (C : Addr) : Sp := fun vs H Q _ => ∃ t l r f, vs = [.ref t] ∧ Qn C H t l r f ∧ Good l r ∧ ∀ q H2, Ex H H2 → Qn C H2 q r l (fun i j => f j i) → Q (.ref q) H2
abbrev N_qturned : List Str := ["self", "other", "row"]
theorem sc_qturned : FnScope N_qturned ["self"] (defScope (queS 9)) := ⟨rfl, rfl, rfl, by decide +kernel, rfl, by decide +kernel, by decide +kernel⟩
theorem ok_qturned (F : Mm K "Question.turned" "turned" (queS 9) f fd) (T : Tx K mg) (QC : QueC K CQ) (ct : MkC P w K mg base 3 CQ "Question" (sp_qinit CQ)) (cr : PrC P w K mg base 1 CQ "right" (sp_qright CQ)) : FnOk P w K mg base CX0 5 f fd ["self"] (sp_qturned CQ) := by
  refine F.ok sc_qturned (fun vs H Q E h => ?_) (fun cdv A outer s H vs Q E hr h => ?_)
  · obtain ⟨t, l, r, f, rfl, _⟩ := h
    rfl
  · obtain ⟨t, l, r, g, rfl, ht, hgd, q⟩ := h
    have nd := sc_qturned.nd
    refine ⟨_, PSs.nox (pss_one (ps_ret (pmk ct hr (pa_cons (p_tuple K T.tuple
      (pe_lc (own := [("other", 1)]) (g := gName 1) (tt := tYes) rfl nd (pi_range1 (by rfl) T.range (pa_cons (ppr cr QC.cl hr (pv 0)) pa_nil)) (blkOk_by (N := N_qturned) (sc := defScope (queS 9)) (by decide +kernel))
              (fun _ _ _ _ _ => pg_name (i := 1) nd rfl (Or.inr rfl)) (fun _ _ _ _ _ => pts_nil) (fun _ _ _ _ _ =>
        p_tuple K T.tuple (pe_lc (own := [("row", 2)]) (g := gName 2) (tt := tYes) rfl nd (pi_tupQ K (p_fld K (pv 0))) (blkOk_by (N := N_qturned) (sc := _) (by kernel_rfl))
              (fun _ _ _ _ _ => pg_name (i := 2) nd rfl (Or.inl rfl)) (fun _ _ _ _ _ => pts_nil) (fun _ _ _ _ _ => p_ixT K (pv 2) (pv 1)))))) pa_nil)))), ?_⟩
    obtain ⟨dx, a, hs, hg⟩ := id ht
    obtain ⟨xs, hxs, hxl, hxr⟩ := id hg
    have hl := hgd.1
    have hrr := hgd.2
    refine sr_ret (er_mkQ (C := CQ) (l := r) (r := l) (f := fun i j => g j i) ?_ ⟨hgd.2, hgd.1⟩) fun v H1 e1 ⟨p, hv, _, hp⟩ => by subst hv; exact q p H1 e1 hp
    refine er_grid (evi_rng (σ := start N_qturned [.ref t]) (te := tProp CQ (sp_qright CQ) [] E0 (tVar 0)) exOk (r_ev (ev_qright (ev_var rfl) ht hl.1)) (by omega)) (by omega) (fun i H x H' => yfn_ex i H x H') fun i x H1 H2 hi e1 y e2 => ?_
    obtain ⟨rfl, rfl⟩ := y
    refine ⟨_, fun _ k => k, rfl, ?_⟩
    have k1 := evi_tup (K := K) (te := tFld K (tVar 0) "own_weights") (σ := [some (.ref t), some (.int (0 + (i : Nat))), none]) (H := H2) exOk (r_ev (ev_fld QC (ev_var rfl) (e2 _ _ hs))) (e2 _ _ hxs)
    rw [hxl] at k1
    refine er_row k1 (by omega) (fun i H x H' => yat_ex i H x H') fun j x H3 H4 hj e3 y e4 => ?_
    obtain ⟨rfl, hy⟩ := y
    obtain ⟨p, rfl, hp⟩ := hxr j x hy
    exact ⟨_, fun _ k => k, rfl, ev_ixTn (i := i) (ev_var rfl) (ev_is (ev_var rfl) (show V.int (0 + (i : Nat)) = V.int (i : Nat) by rw [Int.zero_add])) (e4 _ _ (e2 _ _ hp)) (row_at (by omega))⟩
def sp_qeq (C : Addr) : Sp := fun vs H Q _ => ∃ t u l r f g, vs = [.ref t, .ref u] ∧ Qn C H t l r f ∧ Qn C H u l r g ∧ (∀ i j, i < l → j < r → f i j = g i j) ∧ ∀ H2, Ex H H2 → Q (.bl true) H2
theorem sc_qeq : FnScope ["self", "other"] ["self", "other"] (defScope (queS 14)) := ⟨rfl, rfl, rfl, by decide +kernel, rfl, by decide +kernel, by decide +kernel⟩
theorem ok_qeq (F : Mm K "Question.__eq__" "__eq__" (queS 14) f fd) (T : Tx K mg) (QC : QueC K CQ) (hcq : mg "Question" = some (.ref CQ)) : FnOk P w K mg base CX0 1 f fd ["self", "other"] (sp_qeq CQ) := by
  refine F.ok sc_qeq (fun vs H Q E h => ?_) (fun cdv A outer s H vs Q E hr h => ?_)
  · obtain ⟨t, u, l, r, f, g, rfl, _⟩ := h
    rfl
  · obtain ⟨t, u, l, r, g1, g2, rfl, ht, hu, he, q⟩ := h
    refine ⟨_, PSs.nox (pss_one (ps_ret (pe_and (p_isiC K T.isinstance hcq (pv 1)) (pe_one (pe_cmpR (op_eqD hr.units) (p_fld K (pv 0)) (p_fld K (pv 1)) (nomark _)))))), ?_⟩
    obtain ⟨dx, a, hs, hg⟩ := id ht
    obtain ⟨dy, b, hs', hg'⟩ := id hu
    refine s_ret (ev_is (ev_andV (ev_isiQ QC (ev_var rfl) hu) fun _ => ev_op (ev_fld QC (ev_var rfl) hs) (ev_fld QC (ev_var rfl) hs') (rv_eqD (fun H1 e1 => dd_gr (hg.ex e1)) (fun H1 e1 => dd_gr (hg'.ex e1)))) ?_) q
    rw [← gdat_congr he, eqv_gdat]; rfl
end
end Q
set_option Elab.async false
set_option linter.all false
set_option maxRecDepth 100000
set_option maxHeartbeats 4000000
namespace Q
open PySem PySem.Spec PyProof.Rows L2
open Evl SX TL
/-! ### +, -, *, neg of questions -/
def sp_qop (C : Addr) (op : Int → Int → Int) : Sp := fun vs H Q _ => ∃ t u l r f g, vs = [.ref t, .ref u] ∧ Qn C H t l r f ∧ Qn C H u l r g ∧ Good l r ∧ ∀ q H2, Ex H H2 → Qn C H2 q l r (fun i j => op (f i j) (g i j)) → Q (.ref q) H2
def sp_qmul (C : Addr) : Sp := fun vs H Q _ => ∃ t l r f n, vs = [.ref t, .int n] ∧ Qn C H t l r f ∧ Good l r ∧ (-(2 ^ 64) < n ∧ n < 2 ^ 64) ∧ ∀ q H2, Ex H H2 → Qn C H2 q l r (fun i j => f i j * n) → Q (.ref q) H2
def sp_qneg (C : Addr) : Sp := fun vs H Q _ => ∃ t l r f, vs = [.ref t] ∧ Qn C H t l r f ∧ Good l r ∧ ∀ q H2, Ex H H2 → Qn C H2 q l r (fun i j => -f i j) → Q (.ref q) H2
abbrev N_qop : List Str := ["self", "other", "row", "more", "one", "two"]
section
variable {P : Program} {w : World} {K : PySem.W.Frag} {mg : Str → Option Value} {base : Heap} {f : Addr} {fd : FuncData} {CT CQ : Addr}
theorem sc_qadd : FnScope N_qop ["self", "other"] (defScope (queS 10)) := ⟨rfl, rfl, rfl, by decide +kernel, rfl, by decide +kernel, by decide +kernel⟩
theorem sc_qsub : FnScope N_qop ["self", "other"] (defScope (queS 11)) := ⟨rfl, rfl, rfl, by decide +kernel, rfl, by decide +kernel, by decide +kernel⟩
theorem len_qop {C : Addr} {op : Int → Int → Int} : ∀ vs H Q E, sp_qop C op vs H Q E → vs.length = ["self", "other"].length := fun vs H Q E h => by obtain ⟨t, u, l, r, f, g, rfl, _⟩ := h; rfl
/-- the reading of both -/
theorem qop_read {D : Ends} {H : Hp} {t u : Addr} {l r : Nat} {g1 g2 : Nat → Nat → Int} {op : Int → Int → Int} {tN : TS} (QC : QueC K CQ) (ht : Qn CQ H t l r g1) (hu : Qn CQ H u l r g2) (hgd : Good l r) (hop : ∀ q H2, Ex H H2 → Qn CQ H2 q l r (fun i j => op (g1 i j) (g2 i j)) → D.rt (.ref q) H2) :
    tSeq (tIfS (tOr (tNot (tB (tCB (rIsi K) (tCons (tVar 1) (tCons (tC (.ref CQ)) tNil))))) (tOr (tTest (tOp rNe (tCB (rLenS K) (tCons (tFld K (tVar 1) "own_weights") tNil)) (tCB (rLenS K) (tCons (tFld K (tVar 0) "own_weights") tNil))))
      (tTest (tOp rNe (tCB (rLenS K) (tCons (tOp (rIxT K) (tFld K (tVar 1) "own_weights") (tC (.int 0))) tNil)) (tCB (rLenS K) (tCons (tOp (rIxT K) (tFld K (tVar 0) "own_weights") (tC (.int 0))) tNil)))))) tN tNext)
     (tRet (StX.tMakeR CQ (sp_qinit CQ) E0 (tCons (tCB (rTupOf K) (tCons (tLc (iZipS K (tCons (tFld K (tVar 0) "own_weights") (tCons (tFld K (tVar 1) "own_weights") tNil))) (gTup K 2 (gCons (gName 2) (gCons (gName 3) gNil))) tYes
        (tCB (rTupOf K) (tCons (tLc (iZipS K (tCons (tVar 2) (tCons (tVar 3) tNil))) (gTup K 2 (gCons (gName 4) (gCons (gName 5) gNil))) tYes (tOp (rI0 fun i j => .int (op i j)) (tVar 4) (tVar 5)) [4, 5]) tNil)) [2, 3]) tNil)) tNil)))
     D (start N_qop [.ref t, .ref u]) H := by
  obtain ⟨dx, a, hs, hg⟩ := id ht
  obtain ⟨dy, b, hs', hg'⟩ := id hu
  obtain ⟨xs, hxs, hxl, hxr⟩ := id hg
  obtain ⟨ys, hys, hyl, hyr⟩ := id hg'
  have hl := hgd.1
  have hrr := hgd.2
  refine q_no (et_orF (et_notT (et_B (ev_isiQ QC (ev_var rfl) hu))) (et_orF (et_test (ev_is (ev_neI (ev_lenT (ev_fld QC (ev_var rfl) hs') hys) (ev_lenT (ev_fld QC (ev_var rfl) hs) hxs)) (by rw [hxl, hyl]; simp)))
    (et_test (ev_is (ev_neI (ev_lenRow0 (ev_fld QC (ev_var rfl) hs') hg' hl.1) (ev_lenRow0 (ev_fld QC (ev_var rfl) hs) hg hl.1)) (by simp))))) fun H1 e1 => ?_
  refine sr_ret (er_mkQ (C := CQ) (l := l) (r := r) (f := fun i j => op (g1 i j) (g2 i j)) ?_ hgd) fun v H2 e2 ⟨p, hv, _, hp⟩ => by subst hv; exact hop p H2 (e1.trans e2) hp
  have k0 := evi_zipS (K := K) (ta := tFld K (tVar 0) "own_weights") (tb := tFld K (tVar 1) "own_weights") (σ := start N_qop [.ref t, .ref u]) exOk (r_ev (ev_fld QC (ev_var rfl) (e1 _ _ hs))) (r_ev (ev_fld QC (ev_var rfl) (e1 _ _ hs'))) (e1 _ _ hxs) (e1 _ _ hys) (by omega)
  rw [hxl] at k0
  refine er_grid k0 (by omega) (fun i H x H' => ypair_ex i H x H') fun i x H2 H3 hi e2 y e3 => ?_
  obtain ⟨tt, u', v', rfl, htt, rfl, hu', hv'⟩ := y
  obtain ⟨p, rfl, hp⟩ := hxr i u' hu'
  obtain ⟨p', rfl, hp'⟩ := hyr i v' hv'
  refine ⟨_, fun _ k => g_pair upd_same k, rfl, ?_⟩
  have k1 := evi_zipS (K := K) (ta := tVar 2) (tb := tVar 3) (σ := [some (.ref t), some (.ref u), some (.ref p), some (.ref p'), none, none]) exOk (r_ev (ev_var rfl)) (r_ev (ev_var rfl)) (e3 _ _ (e1 _ _ hp)) (e3 _ _ (e1 _ _ hp')) (by rw [row_len, row_len])
  rw [row_len] at k1
  refine er_row k1 (by omega) (fun i H x H' => ypair_ex i H x H') fun j x H4 H5 hj e4 y e5 => ?_
  obtain ⟨t', u2, v2, rfl, ht', rfl, hu2, hv2⟩ := y
  obtain ⟨_, rfl⟩ := row_at' hu2
  obtain ⟨_, rfl⟩ := row_at' hv2
  exact ⟨_, fun _ k => g_pair upd_same k, rfl, ev_op (ev_var rfl) (ev_var rfl) rv_I0⟩
theorem ok_qadd (F : Mm K "Question.__add__" "__add__" (queS 10) f fd) (T : Tx K mg) (QC : QueC K CQ) (ct : MkC P w K mg base 3 CQ "Question" (sp_qinit CQ)) : FnOk P w K mg base CX0 5 f fd ["self", "other"] (sp_qop CQ (· + ·)) := by
  refine F.ok sc_qadd len_qop (fun cdv A outer s H vs Q E hr h => ?_)
  obtain ⟨t, u, l, r, g1, g2, rfl, ht, hu, hgd, q⟩ := h
  have nd := sc_qadd.nd
  refine ⟨_, PSs.nox (pss_cons (ps_if (PW.pt (pw_or (pt_not (pt_val (p_isiC K T.isinstance ct.gl (pv 1)))) (pw_or (pt_cmpR op_ne (p_len K T.len (p_fld K (pv 1))) (p_len K T.len (p_fld K (pv 0))) (nomark _))
      (pw_or1 (pt_cmpR op_ne (p_len K T.len (p_ixT K (p_fld K (pv 1)) pe_int)) (p_len K T.len (p_ixT K (p_fld K (pv 0)) pe_int)) (nomark _)))))) (pss_one ps_never) pss_nil)
    (pss_one (ps_ret (pmk ct hr (pa_cons (p_tuple K T.tuple
      (pe_lc (own := [("row", 2), ("more", 3)]) (g := gTup K 2 (gCons (gName 2) (gCons (gName 3) gNil))) (tt := tYes) rfl nd (pi_zipSQ K T.zip (pa_cons (p_fld K (pv 0)) (pa_cons (p_fld K (pv 1)) pa_nil))) (blkOk_by (N := N_qop) (sc := defScope (queS 10)) (by decide +kernel))
              (fun _ _ _ _ _ => pg_tup rfl (pgs_cons (pg_name (i := 2) nd rfl (Or.inl rfl)) (pgs_cons (pg_name (i := 3) nd rfl (Or.inl rfl)) pgs_nil))) (fun _ _ _ _ _ => pts_nil) (fun _ _ _ _ _ =>
        p_tuple K T.tuple (pe_lc (own := [("one", 4), ("two", 5)]) (g := gTup K 2 (gCons (gName 4) (gCons (gName 5) gNil))) (tt := tYes) rfl nd (pi_zipSQ K T.zip (pa_cons (pv 2) (pa_cons (pv 3) pa_nil))) (blkOk_by (N := N_qop) (sc := _) (by kernel_rfl))
              (fun _ _ _ _ _ => pg_tup rfl (pgs_cons (pg_name (i := 4) nd rfl (Or.inl rfl)) (pgs_cons (pg_name (i := 5) nd rfl (Or.inl rfl)) pgs_nil))) (fun _ _ _ _ _ => pts_nil) (fun _ _ _ _ _ =>
                pe_op op_add (pv 4) (pv 5)))))) pa_nil))))), ?_⟩
  exact qop_read QC ht hu hgd q
theorem ok_qsub (F : Mm K "Question.__sub__" "__sub__" (queS 11) f fd) (T : Tx K mg) (QC : QueC K CQ) (ct : MkC P w K mg base 3 CQ "Question" (sp_qinit CQ)) : FnOk P w K mg base CX0 5 f fd ["self", "other"] (sp_qop CQ (· - ·)) := by
  refine F.ok sc_qsub len_qop (fun cdv A outer s H vs Q E hr h => ?_)
  obtain ⟨t, u, l, r, g1, g2, rfl, ht, hu, hgd, q⟩ := h
  have nd := sc_qsub.nd
  refine ⟨_, PSs.nox (pss_cons (ps_if (PW.pt (pw_or (pt_not (pt_val (p_isiC K T.isinstance ct.gl (pv 1)))) (pw_or (pt_cmpR op_ne (p_len K T.len (p_fld K (pv 1))) (p_len K T.len (p_fld K (pv 0))) (nomark _))
      (pw_or1 (pt_cmpR op_ne (p_len K T.len (p_ixT K (p_fld K (pv 1)) pe_int)) (p_len K T.len (p_ixT K (p_fld K (pv 0)) pe_int)) (nomark _)))))) (pss_one ps_never) pss_nil)
    (pss_one (ps_ret (pmk ct hr (pa_cons (p_tuple K T.tuple
      (pe_lc (own := [("row", 2), ("more", 3)]) (g := gTup K 2 (gCons (gName 2) (gCons (gName 3) gNil))) (tt := tYes) rfl nd (pi_zipSQ K T.zip (pa_cons (p_fld K (pv 0)) (pa_cons (p_fld K (pv 1)) pa_nil))) (blkOk_by (N := N_qop) (sc := defScope (queS 11)) (by decide +kernel))
              (fun _ _ _ _ _ => pg_tup rfl (pgs_cons (pg_name (i := 2) nd rfl (Or.inl rfl)) (pgs_cons (pg_name (i := 3) nd rfl (Or.inl rfl)) pgs_nil))) (fun _ _ _ _ _ => pts_nil) (fun _ _ _ _ _ =>
        p_tuple K T.tuple (pe_lc (own := [("one", 4), ("two", 5)]) (g := gTup K 2 (gCons (gName 4) (gCons (gName 5) gNil))) (tt := tYes) rfl nd (pi_zipSQ K T.zip (pa_cons (pv 2) (pa_cons (pv 3) pa_nil))) (blkOk_by (N := N_qop) (sc := _) (by kernel_rfl))
              (fun _ _ _ _ _ => pg_tup rfl (pgs_cons (pg_name (i := 4) nd rfl (Or.inl rfl)) (pgs_cons (pg_name (i := 5) nd rfl (Or.inl rfl)) pgs_nil))) (fun _ _ _ _ _ => pts_nil) (fun _ _ _ _ _ =>
                pe_op op_sub (pv 4) (pv 5)))))) pa_nil))))), ?_⟩
  exact qop_read QC ht hu hgd q
abbrev N_qmul : List Str := ["self", "number", "row", "weight"]
theorem sc_qmul : FnScope N_qmul ["self", "number"] (defScope (queS 12)) := ⟨rfl, rfl, rfl, by decide +kernel, rfl, by decide +kernel, by decide +kernel⟩
theorem ok_qmul (F : Mm K "Question.__mul__" "__mul__" (queS 12) f fd) (T : Tx K mg) (QC : QueC K CQ) (ct : MkC P w K mg base 3 CQ "Question" (sp_qinit CQ)) (c1 : Cl P w K mg base 1 "is_integer" sp_is_integer) : FnOk P w K mg base CX0 5 f fd ["self", "number"] (sp_qmul CQ) := by
  refine F.ok sc_qmul (fun vs H Q E h => ?_) (fun cdv A outer s H vs Q E hr h => ?_)
  · obtain ⟨t, l, r, f, n, rfl, _⟩ := h
    rfl
  · obtain ⟨t, l, r, g, n, rfl, ht, hgd, hn, q⟩ := h
    have nd := sc_qmul.nd
    refine ⟨_, PSs.nox (pss_cons (ps_if (pt_not (pt_val (pc c1 hr (pa_cons (pv 1) pa_nil)))) (pss_one ps_never) pss_nil)
      (pss_one (ps_ret (pmk ct hr (pa_cons (p_tuple K T.tuple
      (pe_lc (own := [("row", 2)]) (g := gName 2) (tt := tYes) rfl nd (pi_tupQ K (p_fld K (pv 0))) (blkOk_by (N := N_qmul) (sc := defScope (queS 12)) (by decide +kernel))
              (fun _ _ _ _ _ => pg_name (i := 2) nd rfl (Or.inl rfl)) (fun _ _ _ _ _ => pts_nil) (fun _ _ _ _ _ =>
        p_tuple K T.tuple (pe_lc (own := [("weight", 3)]) (g := gName 3) (tt := tYes) rfl nd (pi_tupQ K (pv 2)) (blkOk_by (N := N_qmul) (sc := _) (by kernel_rfl))
              (fun _ _ _ _ _ => pg_name (i := 3) nd rfl (Or.inl rfl)) (fun _ _ _ _ _ => pts_nil) (fun _ _ _ _ _ => pe_op op_mul (pv 3) (pv 1)))))) pa_nil))))), ?_⟩
    obtain ⟨dx, a, hs, hg⟩ := id ht
    obtain ⟨xs, hxs, hxl, hxr⟩ := id hg
    have hl := hgd.1
    have hrr := hgd.2
    refine q_no (et_notT (et_B (ev_call (ea_cons (ev_var rfl) ea_nil) fun H1 e1 Q q E => ⟨n, rfl, q _ (Ex.refl _)⟩))) fun H1 e1 => ?_
    refine sr_ret (er_mkQ (C := CQ) (l := l) (r := r) (f := fun i j => g i j * n) ?_ hgd) fun v H2 e2 ⟨p, hv, _, hp⟩ => by subst hv; exact q p H2 (e1.trans e2) hp
    have k0 := evi_tup (K := K) (te := tFld K (tVar 0) "own_weights") (σ := start N_qmul [.ref t, .int n]) (H := H1) exOk (r_ev (ev_fld QC (ev_var rfl) (e1 _ _ hs))) (e1 _ _ hxs)
    rw [hxl] at k0
    refine er_grid k0 (by omega) (fun i H x H' => yat_ex i H x H') fun i x H3 H4 hi e3 y e4 => ?_
    obtain ⟨rfl, hx⟩ := y
    obtain ⟨p, rfl, hp⟩ := hxr i x hx
    refine ⟨_, fun _ k => k, rfl, ?_⟩
    have k1 := evi_tup (K := K) (te := tVar 2) (σ := [some (.ref t), some (.int n), some (.ref p), none]) exOk (r_ev (ev_var rfl)) (e4 _ _ (e1 _ _ hp))
    rw [row_len] at k1
    refine er_row k1 (by omega) (fun i H x H' => yat_ex i H x H') fun j x H5 H6 hj e5 y e6 => ?_
    obtain ⟨rfl, hx⟩ := y
    obtain ⟨_, rfl⟩ := row_at' hx
    exact ⟨_, fun _ k => k, rfl, ev_mul (ev_var rfl) (ev_var rfl) (.inr hn)⟩
abbrev N_qneg : List Str := ["self", "row", "weight"]
theorem sc_qneg : FnScope N_qneg ["self"] (defScope (queS 13)) := ⟨rfl, rfl, rfl, by decide +kernel, rfl, by decide +kernel, by decide +kernel⟩
theorem ok_qneg (F : Mm K "Question.__neg__" "__neg__" (queS 13) f fd) (T : Tx K mg) (QC : QueC K CQ) (ct : MkC P w K mg base 3 CQ "Question" (sp_qinit CQ)) : FnOk P w K mg base CX0 5 f fd ["self"] (sp_qneg CQ) := by
  refine F.ok sc_qneg (fun vs H Q E h => ?_) (fun cdv A outer s H vs Q E hr h => ?_)
  · obtain ⟨t, l, r, f, rfl, _⟩ := h
    rfl
  · obtain ⟨t, l, r, g, rfl, ht, hgd, q⟩ := h
    have nd := sc_qneg.nd
    refine ⟨_, PSs.nox (pss_one (ps_ret (pmk ct hr (pa_cons (p_tuple K T.tuple
      (pe_lc (own := [("row", 1)]) (g := gName 1) (tt := tYes) rfl nd (pi_tupQ K (p_fld K (pv 0))) (blkOk_by (N := N_qneg) (sc := defScope (queS 13)) (by decide +kernel))
              (fun _ _ _ _ _ => pg_name (i := 1) nd rfl (Or.inl rfl)) (fun _ _ _ _ _ => pts_nil) (fun _ _ _ _ _ =>
        p_tuple K T.tuple (pe_lc (own := [("weight", 2)]) (g := gName 2) (tt := tYes) rfl nd (pi_tupQ K (pv 1)) (blkOk_by (N := N_qneg) (sc := _) (by kernel_rfl))
              (fun _ _ _ _ _ => pg_name (i := 2) nd rfl (Or.inl rfl)) (fun _ _ _ _ _ => pts_nil) (fun _ _ _ _ _ => pe_un un_neg (pv 2)))))) pa_nil)))), ?_⟩
    obtain ⟨dx, a, hs, hg⟩ := id ht
    obtain ⟨xs, hxs, hxl, hxr⟩ := id hg
    have hl := hgd.1
    have hrr := hgd.2
    refine sr_ret (er_mkQ (C := CQ) (l := l) (r := r) (f := fun i j => -g i j) ?_ hgd) fun v H2 e2 ⟨p, hv, _, hp⟩ => by subst hv; exact q p H2 e2 hp
    have k0 := evi_tup (K := K) (te := tFld K (tVar 0) "own_weights") (σ := start N_qneg [.ref t]) (H := H) exOk (r_ev (ev_fld QC (ev_var rfl) hs)) hxs
    rw [hxl] at k0
    refine er_grid k0 (by omega) (fun i H x H' => yat_ex i H x H') fun i x H3 H4 hi e3 y e4 => ?_
    obtain ⟨rfl, hx⟩ := y
    obtain ⟨p, rfl, hp⟩ := hxr i x hx
    refine ⟨_, fun _ k => k, rfl, ?_⟩
    have k1 := evi_tup (K := K) (te := tVar 1) (σ := [some (.ref t), some (.ref p), none]) exOk (r_ev (ev_var rfl)) (e4 _ _ hp)
    rw [row_len] at k1
    refine er_row k1 (by omega) (fun i H x H' => yat_ex i H x H') fun j x H5 H6 hj e5 y e6 => ?_
    obtain ⟨rfl, hx⟩ := y
    obtain ⟨_, rfl⟩ := row_at' hx
    exact ⟨_, fun _ k => k, rfl, ev_un (ev_var rfl) ru_neg⟩
end
end Q
set_option Elab.async false
set_option linter.all false
set_option maxRecDepth 100000
set_option maxHeartbeats 4000000
namespace Q
open PySem PySem.Spec PyProof.Rows L2
open Evl SX TL
/-! ### words -/
abbrev W := List Nat
def wd (s : Str) : W := s.cps.toList
def strW (ws : List W) : List V := ws.map fun w => .str (S w)
theorem S_eq {w : W} {s : Str} : S w = s ↔ w = wd s := ⟨fun h => by rw [← h]; rfl, fun h => by rw [h]; exact S_tl s⟩
inductive Part where
  | whr (wh : Wh)
  | block (vs ws : List Nat)
  | ends (ls rs : List Nat)
def wordsW : Wh → List W
  | .all => [wd "all"]
  | .left ns => [wd "left", commas ns]
  | .right ns => [wd "right", commas ns]
  | .cell a b => [wd "cell", numL a, numL b]
def wordsP : Part → List W
  | .whr wh => wordsW wh
  | .block vs ws => [wd "block", commas vs, commas ws]
  | .ends ls rs => [wd "ends", commas ls, wd "by", commas rs]
/-- small numbers, few -/
def Small (ns : List Nat) : Prop := ns ≠ [] ∧ ns.length ≤ 8 ∧ ∀ n ∈ ns, n < 100
def PartOk (l r : Nat) : Part → Prop
  | .whr wh => WhOk l r wh
  | .block vs ws => Vls vs l ∧ Vls ws r
  | .ends ls rs => ls.length = l ∧ rs.length = r ∧ (∀ n ∈ ls, n < 100) ∧ ∀ n ∈ rs, n < 100
def b01 (b : Bool) : Int := if b then 1 else 0
def gridP : Part → Nat → Nat → Int
  | .whr wh, i, j => if whB wh i j then 1 else 0
  | .block vs ws, i, j => b01 (decide (i ∈ vs)) * b01 (decide (j ∈ ws))
  | .ends ls rs, i, j => ((ls.getD i 0 : Nat) : Int) * ((rs.getD j 0 : Nat) : Int)
theorem numL_len2 {n : Nat} (h : n < 100) : (numL n).length ≤ 2 := numL_len (k := 2) (by decide) (by omega)
theorem few_of {n : Nat} (h : n < 100) : Few n := by have := numL_len2 h; unfold Few; omega
theorem few_big {n : Nat} (h : n < 10 ^ 40) : Few n := by have := numL_len (n := n) (k := 40) (by decide) h; unfold Few; omega
theorem joinL_len (z : Nat) (k : Nat) : ∀ ps : List W, (∀ p ∈ ps, p.length ≤ k) → (joinL [z] ps).length ≤ ps.length * (k + 1)
  | [], _ => by simp [joinL]
  | [p], h => by
    have := h p List.mem_cons_self
    show p.length ≤ _
    rw [List.length_singleton]; omega
  | p :: q :: r, h => by
    have h1 := h p List.mem_cons_self
    have h2 := joinL_len z k (q :: r) fun p hp => h p (List.mem_cons_of_mem _ hp)
    have e : joinL [z] (p :: q :: r) = p ++ ([z] ++ joinL [z] (q :: r)) := by first | rfl | simp [joinL]
    rw [e, List.length_append, List.length_append, List.length_cons (as := q :: r), Nat.succ_mul]
    simp only [List.length_singleton]
    omega
theorem small_commas {ns : List Nat} (h : Small ns) : (commas ns).length ≤ 24 := by
  have := joinL_len 44 2 (ns.map numL) fun p hp => by
    obtain ⟨n, hn, rfl⟩ := List.mem_map.mp hp
    exact numL_len2 (h.2.2 n hn)
  rw [List.length_map] at this
  have h2 := h.2.1
  unfold commas
  omega
theorem vls_small {ns : List Nat} {l : Nat} (h : Vls ns l) (hl : l ≤ 8) : Small ns := ⟨h.1, by have := vls_len h; omega, fun n hn => by have := h.2.2 n hn; omega⟩
theorem ne_commas {ns : List Nat} (h : ns ≠ []) : commas ns ≠ [] := by
  cases ns with
  | nil => exact absurd rfl h
  | cons n ns =>
    cases ns with
    | nil => exact numL_ne n
    | cons m r => simp [commas, joinL]
theorem mem_commas {c : Nat} : ∀ {ns : List Nat}, c ∈ commas ns → c = 44 ∨ (48 ≤ c ∧ c ≤ 57)
  | [], h => by simp [commas, joinL] at h
  | [n], h => .inr (numL_digits n c h)
  | n :: m :: r, h => by
    have e : commas (n :: m :: r) = numL n ++ ([44] ++ commas (m :: r)) := by first | rfl | simp [commas, joinL]
    rw [e, List.mem_append, List.mem_append, List.mem_singleton] at h
    rcases h with h | h | h
    · exact .inr (numL_digits n c h)
    · exact .inl h
    · exact mem_commas h
theorem intsN_eq {ns : List Nat} : intsN ns = ns.map fun n => V.int (n : Nat) := by unfold intsN; rw [List.map_map]; rfl
theorem intsN_rw {H : Hp} {p : Addr} {ns : List Nat} (h : H p = some (.tup (intsN ns))) : Rw H p ns.length (fun i => ((ns.getD i 0 : Nat) : Int)) := by
  unfold Rw
  rw [h, intsN_eq]
  congr 2
  symm
  exact map_range_get fun i x hx => by show V.int ((ns.getD i 0 : Nat) : Int) = _; rw [List.getD_eq_getElem?_getD, hx]; rfl
/-- plain signs -/
def Asc (w : W) : Prop := ∀ c ∈ w, c < 128
theorem strOk_S {w : W} (h : Asc w) : PyData.strOk (S w) = true := by
  unfold PyData.strOk
  show (w.toArray).all _ = true
  rw [Array.all_eq_true']
  intro c hc
  have := h c (by simpa using hc)
  simp; omega
theorem asc_num (n : Nat) : Asc (numL n) := fun c hc => by have := numL_digits n c hc; omega
theorem asc_commas (ns : List Nat) : Asc (commas ns) := fun c hc => by have := mem_commas hc; omega
section
variable {K : PySem.W.Frag} {σ : L2.St} {H H' : Hp} {ta te tb : TE} {v : V} {a p : Addr} {xs : List V}
theorem dp_strs (ws : List W) : DpAll K H (strW ws) (ws.map fun w => .str (S w)) := by
  induction ws with
  | nil => exact .nil
  | cons w ws ih => exact .cons (.str _) ih
theorem dd_strs {ws : List W} (h : H p = some (.lst (strW ws))) (ha : ∀ w ∈ ws, Asc w) : Dd K H (.ref p) (.list (ws.map fun w => .str (S w))) := by
  refine ⟨.lst (sq_of h) (dp_strs ws), ?_⟩
  have h1 : ∀ ws : List W, (∀ w ∈ ws, Asc w) → PyData.canLayAll0 (ws.map fun w => .str (S w)) = true := by
    intro ws
    induction ws with
    | nil => intro _; rfl
    | cons w ws ih => intro h; rw [List.map_cons, PyData.canLayAll0, PyData.canLay0, strOk_S (h w List.mem_cons_self), ih fun w hw => h w (List.mem_cons_of_mem _ hw)]; rfl
  have h2 : ∀ ws : List W, PyData.depthAll (ws.map fun w => .str (S w)) = 0 := by
    intro ws
    induction ws with
    | nil => rfl
    | cons w ws ih => rw [List.map_cons, PyData.depthAll, PyData.depth, ih]; rfl
  unfold SeqAt.shaped
  rw [PyData.canLay0, h1 ws ha, PyData.depth, h2 ws]; rfl
theorem ev_lenL {xs : List V} (ha : Ev ta σ H (.ref a)) (h : H a = some (.lst xs)) : Ev (tCB (rLenS K) (tCons ta tNil)) σ H (.int (xs.length : Int)) := ev_len ha (sq_of h)
theorem ev_isN {x : V} (ha : Ev ta σ H x) : Ev (tOp (fun x y H Q => y = V.non ∧ Q (.bl (decide (x = .non))) H) ta (tC .non)) σ H (.bl (decide (x = .non))) := ev_op ha ev_c fun H1 _ Q q => ⟨rfl, q _ (Ex.refl _)⟩
theorem eu_ifF {tt : TT} (h : EvT tt σ H false) (hb : EvU tb σ H xs) : EvU (tIf tt ta tb) σ H xs := fun H1 e Q q => h H1 e _ fun H2 e2 => iteF (hb H2 (e.trans e2) Q fun p H3 hn e3 hp => q p H3 (fresh_back e2 hn) (e2.trans e3) hp)
theorem er_ifF {tt : TT} {Φ : V → Hp → Prop} (h : EvT tt σ H false) (hb : EvR Ex tb σ H fun _ => Φ) : EvR Ex (tIf tt ta tb) σ H fun _ => Φ := fun H1 e Q q => h H1 e _ fun H2 e2 => iteF (hb H2 (e.trans e2) Q fun v H3 e3 hp => q v H3 (e2.trans e3) hp)
theorem er_ifT {tt : TT} {Φ : V → Hp → Prop} (h : EvT tt σ H true) (hb : EvR Ex ta σ H fun _ => Φ) : EvR Ex (tIf tt ta tb) σ H fun _ => Φ := fun H1 e Q q => h H1 e _ fun H2 e2 => iteT (hb H2 (e.trans e2) Q fun v H3 e3 hp => q v H3 (e2.trans e3) hp)
/-- *t, t a tuple that stands -/
theorem ea_starT {tr : TA} {vs : List V} (ha : Ev ta σ H (.ref a)) (h : H a = some (.tup xs)) (hr : EvA tr σ H vs) : EvA (StX.tStar K ta tr) σ H (xs ++ vs) := fun H1 e Q q =>
  ha H1 e _ fun H2 e2 => ⟨a, xs, rfl, .inl (st_of ((e.trans e2) _ _ h)), hr H2 (e.trans e2) _ fun H3 e3 => q H3 (e2.trans e3)⟩
theorem wordsW_asc (wh : Wh) : ∀ w ∈ wordsW wh, Asc w := by
  have e : ∀ s : Str, (wd s).all (fun c => decide (c < 128)) = true → Asc (wd s) := fun s h c hc => by have := List.all_eq_true.mp h c hc; simpa using this
  cases wh with
  | all => intro w hw; simp only [wordsW, List.mem_singleton] at hw; subst hw; exact e _ (by decide +kernel)
  | left ns =>
    intro w hw; simp only [wordsW, List.mem_cons, List.not_mem_nil, or_false] at hw
    rcases hw with rfl | rfl
    · exact e _ (by decide +kernel)
    · exact asc_commas ns
  | right ns =>
    intro w hw; simp only [wordsW, List.mem_cons, List.not_mem_nil, or_false] at hw
    rcases hw with rfl | rfl
    · exact e _ (by decide +kernel)
    · exact asc_commas ns
  | cell a b =>
    intro w hw; simp only [wordsW, List.mem_cons, List.not_mem_nil, or_false] at hw
    rcases hw with rfl | rfl | rfl
    · exact e _ (by decide +kernel)
    · exact asc_num a
    · exact asc_num b
end
section
variable {P : Program} {w : World} {K : PySem.W.Frag} {mg : Str → Option Value} {base : Heap} {f : Addr} {fd : FuncData} {CT CQ : Addr}
theorem spv_integer {H : Hp} {n : Nat} (h : Few n) : SpV sp_integer_in [.str (S (numL n))] H (.int (n : Nat)) := fun H1 _ Q q E => ⟨n, rfl, h, q⟩
/-- a call of integers_in leaves a tuple of them -/
theorem eu_integers {σ : L2.St} {H : Hp} {te : TE} {ns : List Nat} (ha : Ev te σ H (.str (S (commas ns)))) (h : Small ns) : EvU (tCall sp_integers_in [] E0 (tCons te tNil)) σ H (intsN ns) := fun H1 e Q q =>
  ha H1 e _ fun H2 e2 => ⟨ns, rfl, h.1, fun n hn => few_of (h.2.2 n hn), by have := small_commas h; omega, by have := h.2.1; omega, fun p H3 hn e3 hp => q p H3 (fresh_back e2 hn) (e2.trans e3) (by rw [hp, intsN_eq])⟩
abbrev s_where_of : Stmt := topS 37
def sp_where_of : Sp := fun vs H Q _ => ∃ (p : Addr) (wh : Wh) (l r : Nat), vs = [.ref p] ∧ H p = some (.lst (strW (wordsW wh))) ∧ WhOk l r wh ∧ Good l r ∧ ∀ q H2, Ex H H2 → WhAt H2 q wh → Q (.ref q) H2
theorem sc_where_of : FnScope ["words", "found"] ["words"] (defScope s_where_of) := ⟨rfl, rfl, rfl, by decide +kernel, rfl, by decide +kernel, by decide +kernel⟩
theorem ok_where_of (F : Dm K "where_of" s_where_of f fd) (T : Tx K mg) (c1 : Cl P w K mg base 1 "integer_in" sp_integer_in) (c2 : Cl P w K mg base 2 "integers_in" sp_integers_in) : FnOk P w K mg base CX0 3 f fd ["words"] sp_where_of := by
  refine F.ok sc_where_of (fun vs H Q E h => ?_) (fun cdv A outer s H vs Q E hr h => ?_)
  · obtain ⟨p, wh, l, r, rfl, _⟩ := h
    rfl
  · obtain ⟨p, wh, l, r, rfl, hp, ho, hgd, q⟩ := h
    have nd := sc_where_of.nd
    refine ⟨_, PSs.nox (pss_cons (ps_if (pt_cmpR (op_eqD hr.units) (pv 0) (pe_lst (pa_cons pe_str pa_nil)) (nomark _)) (pss_one (ps_ret (pe_tup (pa_cons pe_str pa_nil)))) pss_nil)
      (pss_cons (ps_if (PW.pt (pw_and (pt_cmpR op_eq (p_len K T.len (pv 0)) pe_int (nomark _)) (pw_and1 (pt_inQ K (p_ixL K (pv 0) pe_int) (pe_tup (pa_cons pe_str (pa_cons pe_str pa_nil)))))))
        (pss_cons (ps_set (i := 1) nd rfl (.inl rfl) (pc c2 hr (pa_cons (p_ixL K (pv 0) pe_int) pa_nil)))
          (pss_one (ps_ret (pe_ifExp (pt_cmpR op_isN (pv 1) pe_non (nomark _)) pe_non (pe_tup (pa_cons (p_ixL K (pv 0) pe_int) (pa_cons (pv 1) pa_nil))))))) pss_nil)
      (pss_cons (ps_if (PW.pt (pw_and (pt_cmpR op_eq (p_len K T.len (pv 0)) pe_int (nomark _)) (pw_and1 (pt_cmpR op_eq (p_ixL K (pv 0) pe_int) pe_str (nomark _)))))
        (pss_cons (ps_set (i := 1) nd rfl (.inl rfl) (pe_tup (pa_cons (pc c1 hr (pa_cons (p_ixL K (pv 0) pe_int) pa_nil)) (pa_cons (pc c1 hr (pa_cons (p_ixL K (pv 0) pe_int) pa_nil)) pa_nil))))
          (pss_one (ps_ret (pe_ifExp (pt_inQ K pe_non (pv 1)) pe_non (pe_tup (pa_cons pe_str (StX.pa_star (pv 1) pa_nil))))))) pss_nil)
      (pss_one (ps_ret pe_non))))), ?_⟩
    have hasc := wordsW_asc wh
    have heq : ∀ b, PyData.eqv (.list ((wordsW wh).map fun w => .str (S w))) (.list [.str "all"]) = b → Ev (tOp (rEqD K) (tVar 0) (tLst (tCons (tC (.str "all")) tNil))) [some (.ref p), none] H (.bl b) := fun b hb =>
      ev_is (ev_opL (ev_var rfl) (el_lst (vs := [.str "all"]) (ea_cons ev_c ea_nil) (by decide)) fun t H1 ht e => rv_eqD (fun H2 e2 => dd_strs (e2 _ _ (e _ _ hp)) hasc) (fun H2 e2 => dd_strs (ws := [wd "all"]) (by rw [e2 _ _ ht]; rfl) (wordsW_asc .all))) (by rw [← hb]; rfl)
    cases wh with
    | all =>
      refine s_if (D := { nx := _, rt := Q }) (et_test (heq true (by decide +kernel))) (fun _ H1 e1 => ?_) fun z => (nomatch z)
      exact s_retU (eu_tup (vs := [.str "all"]) (ea_cons ev_c ea_nil) (by decide)) fun t H2 _ e2 ht => q t H2 (e1.trans e2) ht
    | left ns =>
      have hsm := vls_small ho (by have := hgd.1; omega)
      refine q_no (et_test (heq false (by simp [wordsW, PyData.eqv, PyData.eqvAll]))) fun H1 e1 => ?_
      have hp1 := e1 _ _ hp
      refine q_when (b := true) (et_andT (et_test (ev_is (ev_eqI (ev_lenL (ev_var rfl) hp1) ev_c) rfl)) (et_test (ev_is (ev_inU (x := .str (S (wd "left"))) (xs := [.str "left", .str "right"]) (ev_ixLn (i := 0) (ev_var rfl) ev_c hp1 rfl) (eu_tup (ea_cons ev_c (ea_cons ev_c ea_nil)) (by decide)) rfl rfl) (by decide +kernel)))) (fun _ H2 e2 => ?_) (fun z => (nomatch z))
      have hp2 := e2 _ _ hp1
      refine q_asgU (eu_integers (ns := ns) (ev_ixLn (i := 1) (ev_var rfl) ev_c hp2 rfl) hsm) fun t H3 _ e3 ht => ?_
      have hp3 := e3 _ _ hp2
      exact s_retU (eu_ifF (et_test (ev_is (ev_isN (ev_var rfl)) rfl)) (eu_tup (vs := [.str "left", .ref t]) (ea_cons (ev_is (ev_ixLn (i := 0) (ev_var rfl) ev_c hp3 rfl) (congrArg V.str (S_tl _))) (ea_cons (ev_var rfl) ea_nil)) (show 2 ≤ 100000 by decide)))
        fun u H5 _ e5 hu => q u H5 (e1.trans (e2.trans (e3.trans e5))) ⟨t, hu, e5 _ _ ht⟩
    | right ns =>
      have hsm := vls_small ho (by have := hgd.2; omega)
      refine q_no (et_test (heq false (by simp [wordsW, PyData.eqv, PyData.eqvAll]))) fun H1 e1 => ?_
      have hp1 := e1 _ _ hp
      refine q_when (b := true) (et_andT (et_test (ev_is (ev_eqI (ev_lenL (ev_var rfl) hp1) ev_c) rfl)) (et_test (ev_is (ev_inU (x := .str (S (wd "right"))) (xs := [.str "left", .str "right"]) (ev_ixLn (i := 0) (ev_var rfl) ev_c hp1 rfl) (eu_tup (ea_cons ev_c (ea_cons ev_c ea_nil)) (by decide)) rfl rfl) (by decide +kernel)))) (fun _ H2 e2 => ?_) (fun z => (nomatch z))
      have hp2 := e2 _ _ hp1
      refine q_asgU (eu_integers (ns := ns) (ev_ixLn (i := 1) (ev_var rfl) ev_c hp2 rfl) hsm) fun t H3 _ e3 ht => ?_
      have hp3 := e3 _ _ hp2
      exact s_retU (eu_ifF (et_test (ev_is (ev_isN (ev_var rfl)) rfl)) (eu_tup (vs := [.str "right", .ref t]) (ea_cons (ev_is (ev_ixLn (i := 0) (ev_var rfl) ev_c hp3 rfl) (congrArg V.str (S_tl _))) (ea_cons (ev_var rfl) ea_nil)) (show 2 ≤ 100000 by decide)))
        fun u H5 _ e5 hu => q u H5 (e1.trans (e2.trans (e3.trans e5))) ⟨t, hu, e5 _ _ ht⟩
    | cell a b =>
      obtain ⟨ho1, ho2⟩ := ho
      have h8 := hgd.1
      have h9 := hgd.2
      refine q_no (et_test (heq false (by simp [wordsW, PyData.eqv, PyData.eqvAll]))) fun H1 e1 => ?_
      have hp1 := e1 _ _ hp
      refine q_no (et_is (b := false) (et_and (a := false) (et_test (ev_is (ev_eqI (ev_lenL (ev_var rfl) hp1) ev_c) rfl)) (b := true) (fun z => (nomatch z))) rfl) fun H2 e2 => ?_
      have hp2 := e2 _ _ hp1
      refine q_when (b := true) (et_andT (et_test (ev_is (ev_eqI (ev_lenL (ev_var rfl) hp2) ev_c) rfl)) (et_test (ev_is (ev_eqS (ev_ixLn (i := 0) (ev_var rfl) ev_c hp2 rfl) ev_c) (by decide +kernel)))) (fun _ H3 e3 => ?_) (fun z => (nomatch z))
      have hp3 := e3 _ _ hp2
      refine q_asgU (eu_tup (ea_cons (ev_call (ea_cons (ev_ixLn (i := 1) (ev_var rfl) ev_c hp3 rfl) ea_nil) (spv_integer (few_of (by omega)))) (ea_cons (ev_call (ea_cons (ev_ixLn (i := 2) (ev_var rfl) ev_c hp3 rfl) ea_nil) (spv_integer (few_of (by omega)))) ea_nil)) (show 2 ≤ 100000 by decide)) fun t H4 _ e4 ht => ?_
      exact s_retU (eu_ifF (et_test (ev_is (ev_op ev_c (ev_var rfl) (rv_isT (st_of ht) rfl rfl)) rfl)) (eu_tup (vs := [.str "cell", .int (a : Nat), .int (b : Nat)]) (ea_cons ev_c (ea_starT (ev_var rfl) ht ea_nil)) (show 3 ≤ 100000 by decide)))
        fun u H5 _ e5 hu => q u H5 (e1.trans (e2.trans (e3.trans (e4.trans e5)))) hu
end
end Q
set_option Elab.async false
set_option linter.all false
set_option maxRecDepth 100000
set_option maxHeartbeats 4000000
namespace Q
open PySem PySem.Spec PyProof.Rows L2
open Evl SX TL
/-- a classmethod -/
structure CmC (P : Program) (w : World) (K : PySem.W.Frag) (mg : Str → Option Value) (base : Heap) (k : Nat) (C : Addr) (m : Str) (sp : Sp) : Prop where
  ex : ∃ mc p g, ClX.CRead K C mc ∧ ClX.CMet K C mc m p g ∧ FnR P w K mg base CX0 k g sp
/-- C's * with an int on the right -/
structure MuI (P : Program) (w : World) (K : PySem.W.Frag) (mg : Str → Option Value) (base : Heap) (k : Nat) (C : Addr) (sp : Sp) : Prop where
  ex : ∃ (g : Addr) (fo ro rc : Option Value), PySem.W.findIn K (.ref C) (PySem.dunder Operator.Mult.info.2) = some (some (.ref g)) ∧ PySem.W.isFn K (.ref g) = true ∧ PySem.W.findIn K (.ref C) (dunderR Operator.Mult.info.2) = some rc ∧ (rc = none ∨ ∃ g : Addr, rc = some (.ref g)) ∧
    PySem.W.findIn K (.type "int") (PySem.dunder Operator.Mult.info.2) = some fo ∧ PySem.W.findIn K (.type "int") (dunderR Operator.Mult.info.2) = some ro ∧ PySem.W.subIn K (.type "int") (.ref C) = some false ∧ FnR P w K mg base CX0 k g sp
section
variable {X : Cx} {k j : Nat} {C : Addr} {x m : Str} {sp : Sp} {p pos apos : Pos} {e o a b : Expr} {es : List Expr} {t : TA} {ta tb : TE}
theorem pcm {pl : Sem Bool} (c : CmC X.prog X.w X.K X.mg X.base k C m sp) (hc : X.mg x = some (.ref C)) (hr : Room j X.A) (ha : PA X (e :: es) t) (hk : k ≤ j := by decide) (hg : Gl X x := by rfl) (hdb : (x == ("__debug__" : Str)) = false := by decide)
    (hst : starEach (e :: es) X.env = (false, eval e X.env) :: starEach es X.env := by rfl) (hpl : (backTo pos (starEach es X.env)).any (·.1) = false := by rfl)
    (ht : eval (.Call (.Attribute (.Name x p) m apos) (e :: es) [] pos) X.env = (do
      let ov ← eval (.Name x p) X.env
      standAt apos.atName
      let (f, first) ← holding [ov] (getMethod ov m pl)
      callWith pos f first (backTo pos (starEach (e :: es) X.env)) (backToKw pos (keywordEach [] X.env))) := by rfl) :
    PE X (.Call (.Attribute (.Name x p) m apos) (e :: es) [] pos) (ClX.tCMeth C sp E0 (tC (.ref C)) t) := by
  obtain ⟨mc, p, g, r, M, F⟩ := c.ex
  exact ClX.pe_cmeth (pe_glob hg hc rfl hdb) r M F (hr.mono hk) pass0 ha hst hpl ht
theorem pmuI (c : MuI X.prog X.w X.K X.mg X.base k C sp) (sf : PySem.W.selfFirst X.K C = true) (hr : Room j X.A) (ha : PE X a ta) (hb : PE X b tb) (hk : k ≤ j := by decide) : PE X (.BinOp a .Mult b pos) (tOp (rBinI X C sp) ta tb) := by
  obtain ⟨g, fo, ro, rc, h1, h2, h3, h4, h5, h6, h7, F⟩ := c.ex
  exact pe_op (op_binI sf h1 h2 h3 h4 h5 h6 h7 F (hr.mono hk)) ha hb
end
section
variable {K : PySem.W.Frag} {σ : L2.St} {H H' : Hp} {ta te tb : TE} {v : V} {a p : Addr} {xs : List V} {D : Ends} {tz : TS} {Φ Ψ : V → Hp → Prop} {CQ : Addr} {l r : Nat}
/-- a, b = e1, e2 -/
theorem q_par {i j : Nat} (ha : EvR Ex ta σ H fun _ => Φ) (hb : EvR Ex tb σ H fun _ => Ψ) (k : ∀ v w H1 H2, Ex H H1 → Φ v H1 → Ex H1 H2 → Ψ w H2 → tz D ((σ.set i (some v)).set j (some w)) H2) : tSeq (tPar i j (tCons ta (tCons tb tNil))) tz D σ H :=
  ha H (Ex.refl _) _ fun v H1 e1 hv => hb H1 e1 _ fun w H2 e2 hw => ⟨v, w, rfl, k v w H1 H2 e1 hv e2 hw⟩
theorem cut2 {x y : V} {zs : List V} : cutV (x :: y :: zs) (some 2) none = zs := by
  unfold cutV
  have e : HT.sIx (x :: y :: zs).length 0 (some 2) = 2 := by
    have := HT.sIx_nat (x :: y :: zs).length 0 2
    rw [show ((2 : Nat) : Int) = 2 from rfl] at this
    rw [this]; simp
  rw [e, HT.sIx_none]
  show (zs.take (zs.length + 1 + 1 - 2)) = zs
  rw [show zs.length + 1 + 1 - 2 = zs.length by omega, List.take_length]
theorem ex_q {C q : Addr} {f : Nat → Nat → Int} {v : V} : (∃ q, v = .ref q ∧ Qn C H q l r f) → Ex H H' → ∃ q, v = .ref q ∧ Qn C H' q l r f := fun ⟨q, e, h⟩ e2 => ⟨q, e, h.ex e2⟩
end
section
variable {P : Program} {w : World} {K : PySem.W.Frag} {mg : Str → Option Value} {base : Heap} {f : Addr} {fd : FuncData} {CT CQ : Addr}
/-- what a call of where_of leaves -/
theorem er_where {σ : L2.St} {H : Hp} {te : TE} {wh : Wh} {l r : Nat} (ha : EvL te σ H (strW (wordsW wh))) (ho : WhOk l r wh) (hg : Good l r) : EvR Ex (tCall sp_where_of [] E0 (tCons te tNil)) σ H (fun _ v H' => ∃ q, v = .ref q ∧ WhAt H' q wh) := fun H1 e Q q =>
  ha H1 e _ fun p H2 hn e2 hp => ⟨p, wh, l, r, rfl, hp, ho, hg, fun t H3 e3 ht => q _ _ (e2.trans e3) ⟨t, rfl, ht⟩⟩
theorem er_between {σ : L2.St} {H : Hp} {ta tb : TE} {l r : Nat} {h k : Nat → Int} (ha : EvR Ex ta σ H fun _ v H' => ∃ a, v = .ref a ∧ Rw H' a l h) (hb : EvR Ex tb σ H fun _ v H' => ∃ b, v = .ref b ∧ Rw H' b r k) (hg : Good l r) (hbd : ∀ i, i < l → -(2 ^ 64) < h i ∧ h i < 2 ^ 64) :
    EvR Ex (ClX.tCMeth CQ (sp_qbetween CQ) E0 (tC (.ref CQ)) (tCons ta (tCons tb tNil))) σ H (fun _ v H' => ∃ q, v = .ref q ∧ Qn CQ H' q l r (fun i j => h i * k j)) := fun H1 e Q q =>
  ⟨rfl, ha H1 e _ fun v H2 e2 ⟨a, hv, hwa⟩ => hb H2 (e.trans e2) _ fun u H3 e3 ⟨b, hu, hwb⟩ => by
    subst hv hu
    exact ⟨a, b, l, r, h, k, rfl, hwa.ex e3, hwb, hg, hbd, fun t H4 e4 ht => q _ _ (e2.trans (e3.trans e4)) ⟨t, rfl, ht⟩⟩⟩
abbrev s_check_text : Stmt := topS 38
def sp_check_text : Sp := fun vs H Q _ => ∃ z : Str, vs = [.str z] ∧ ∀ H2, Ex H H2 → Q .non H2
theorem sc_check_text : FnScope ["value"] ["value"] (defScope s_check_text) := ⟨rfl, rfl, rfl, by decide +kernel, rfl, by decide +kernel, by decide +kernel⟩
theorem ok_check_text (F : Dm K "check_text" s_check_text f fd) (T : Tx K mg) : FnOk P w K mg base CX0 1 f fd ["value"] sp_check_text := by
  refine F.ok sc_check_text (fun vs H Q E h => ?_) (fun cdv A outer s H vs Q E hr h => ?_)
  · obtain ⟨z, rfl, _⟩ := h
    rfl
  · obtain ⟨z, rfl, q⟩ := h
    refine ⟨_, PSs.nox (pss_one (ps_if (pt_not (pt_val (p_isi T.isinstance T.str bt_str (pv 0)))) (pss_one ps_never) pss_nil)), ?_⟩
    exact s_no (et_notT (et_B (ev_isiS (ev_var rfl)))) q
abbrev s_marks : Stmt := topS 44
def sp_marks : Sp := fun vs H Q _ => ∃ (a : Addr) (ns : List Nat) (n : Nat), vs = [.ref a, .int n] ∧ H a = some (.tup (intsN ns)) ∧ n ≤ 8 ∧ ∀ q H2, Ex H H2 → Rw H2 q n (fun i => b01 (decide (i ∈ ns))) → Q (.ref q) H2
abbrev N_marks : List Str := ["values", "size", "value"]
theorem sc_marks : FnScope N_marks ["values", "size"] (defScope s_marks) := ⟨rfl, rfl, rfl, by decide +kernel, rfl, by decide +kernel, by decide +kernel⟩
theorem ok_marks (F : Dm K "marks" s_marks f fd) (T : Tx K mg) : FnOk P w K mg base CX0 1 f fd ["values", "size"] sp_marks := by
  refine F.ok sc_marks (fun vs H Q E h => ?_) (fun cdv A outer s H vs Q E hr h => ?_)
  · obtain ⟨a, ns, n, rfl, _⟩ := h
    rfl
  · obtain ⟨a, ns, n, rfl, ha, hn, q⟩ := h
    have nd := sc_marks.nd
    refine ⟨_, PSs.nox (pss_one (ps_ret (p_tuple K T.tuple (pe_lc (own := [("value", 2)]) (g := gName 2) (tt := tYes) rfl nd (pi_range1 (by rfl) T.range (pa_cons (pv 1) pa_nil)) (blkOk_by (N := N_marks) (sc := defScope s_marks) (by decide +kernel))
              (fun _ _ _ _ _ => pg_name (i := 2) nd rfl (Or.inl rfl)) (fun _ _ _ _ _ => pts_nil) (fun _ _ _ _ _ => pe_callTy call_int1 (by rfl) T.int bt_int (pa_cons (p_inQ K (pv 2) (pv 0)) pa_nil)))))), ?_⟩
    refine sr_ret (er_row (h := fun i => b01 (decide (i ∈ ns))) (evi_rng (σ := start N_marks [.ref a, .int n]) (te := tVar 1) exOk (r_ev (ev_var rfl)) (by omega)) (by omega) (fun i H x H' => yfn_ex i H x H') fun j x H5 H6 hj e5 y e6 => ?_) fun v H1 e1 ⟨p, hv, hp⟩ => by subst hv; exact q p H1 e1 hp
    obtain ⟨rfl, rfl⟩ := y
    refine ⟨_, fun _ k => k, rfl, ev_cb (ea_cons (ev_is (ev_op (ev_is (ev_var rfl) (show V.int (0 + (j : Nat)) = V.int (j : Nat) by rw [Int.zero_add])) (ev_var rfl) (rv_isT (st_of (e6 _ _ ha)) rfl (ints_flat _))) (congrArg V.bl inV_intsN)) ea_nil) fun H7 _ Q q => .inr ⟨_, rfl, q _ (Ex.refl _)⟩⟩
abbrev s_block_of : Stmt := topS 45
def sp_block_of (C : Addr) : Sp := fun vs H Q _ => ∃ (l r : Nat) (us ws : List Nat), vs = [.int l, .int r, .str (S (commas us)), .str (S (commas ws))] ∧ Vls us l ∧ Vls ws r ∧ Good l r ∧ ∀ q H2, Ex H H2 → Qn C H2 q l r (gridP (.block us ws)) → Q (.ref q) H2
abbrev N_block : List Str := ["left", "right", "one", "other", "lefts", "rights"]
theorem sc_block_of : FnScope N_block ["left", "right", "one", "other"] (defScope s_block_of) := ⟨rfl, rfl, rfl, by decide +kernel, rfl, by decide +kernel, by decide +kernel⟩
theorem ok_block_of (F : Dm K "block_of" s_block_of f fd) (T : Tx K mg) (hcq : mg "Question" = some (.ref CQ)) (cw : Cl P w K mg base 3 "where_of" sp_where_of) (ci : Cl P w K mg base 5 "is_where" sp_is_where_in) (cm : Cl P w K mg base 1 "marks" sp_marks) (cb : CmC P w K mg base 5 CQ "between" (sp_qbetween CQ)) :
    FnOk P w K mg base CX0 6 f fd ["left", "right", "one", "other"] (sp_block_of CQ) := by
  refine F.ok sc_block_of (fun vs H Q E h => ?_) (fun cdv A outer s H vs Q E hr h => ?_)
  · obtain ⟨l, r, us, ws, rfl, _⟩ := h
    rfl
  · obtain ⟨l, r, us, ws, rfl, hu, hw, hg, q⟩ := h
    have nd := sc_block_of.nd
    refine ⟨_, PSs.nox (pss_cons (ps_par (i := 4) (j := 5) rfl nd rfl rfl (by decide) rfl rfl (pa_cons (pc cw hr (pa_cons (pe_lst (pa_cons pe_str (pa_cons (pv 2) pa_nil))) pa_nil)) (pa_cons (pc cw hr (pa_cons (pe_lst (pa_cons pe_str (pa_cons (pv 3) pa_nil))) pa_nil)) pa_nil)) (by rfl))
      (pss_cons (ps_if (PW.pt (pw_or (pt_not (pt_val (pc ci hr (pa_cons (pv 0) (pa_cons (pv 1) (pa_cons (pv 4) pa_nil)))))) (pw_or1 (pt_not (pt_val (pc ci hr (pa_cons (pv 0) (pa_cons (pv 1) (pa_cons (pv 5) pa_nil))))))))) (pss_one (ps_ret pe_non)) pss_nil)
      (pss_one (ps_ret (pcm cb hcq hr (pa_cons (pc cm hr (pa_cons (p_ixT K (pv 4) pe_int) (pa_cons (pv 0) pa_nil))) (pa_cons (pc cm hr (pa_cons (p_ixT K (pv 5) pe_int) (pa_cons (pv 1) pa_nil))) pa_nil))))))), ?_⟩
    have h8 := hg.1
    have h9 := hg.2
    have hv0 : ∀ {z : Str} {u : W} {i : Nat}, (start N_block [.int l, .int r, .str (S (commas us)), .str (S (commas ws))])[i]? = some (some (.str (S u))) → EvL (tLst (tCons (tC (.str z)) (tCons (tVar i) tNil))) (start N_block [.int l, .int r, .str (S (commas us)), .str (S (commas ws))]) H (strW [wd z, u]) := fun {z u i} hi =>
      el_lst (vs := strW [wd z, u]) (ea_cons (ev_is ev_c (congrArg V.str (S_tl z).symm)) (ea_cons (ev_var hi) ea_nil)) (show 2 ≤ 100000 by decide)
    refine q_par (er_where (wh := .left us) (l := l) (r := r) (hv0 rfl) hu hg) (er_where (wh := .right ws) (l := l) (r := r) (hv0 rfl) hw hg) fun v w' H1 H2 e1 ⟨p, hv, hp⟩ e2 ⟨p', hv', hp'⟩ => ?_
    subst hv hv'
    have hp2 := hp.ex e2
    refine q_no (et_orF (et_notT (et_B (ev_call (ea_cons (ev_var rfl) (ea_cons (ev_var rfl) (ea_cons (ev_var rfl) ea_nil))) fun H3 e3 Q q E => ⟨l, r, p, .left us, rfl, hp2.ex e3, hu, hg, q⟩)))
      (et_notT (et_B (ev_call (ea_cons (ev_var rfl) (ea_cons (ev_var rfl) (ea_cons (ev_var rfl) ea_nil))) fun H3 e3 Q q E => ⟨l, r, p', .right ws, rfl, hp'.ex e3, hw, hg, q⟩)))) fun H3 e3 => ?_
    obtain ⟨a, ha1, ha2⟩ := hp2.ex e3
    obtain ⟨b, hb1, hb2⟩ := hp'.ex e3
    refine sr_ret (er_between (CQ := CQ) (l := l) (r := r) (h := fun i => b01 (decide (i ∈ us))) (k := fun i => b01 (decide (i ∈ ws)))
      (er_call (ea_cons (ev_ixTn (i := 1) (ev_var rfl) ev_c ha1 rfl) (ea_cons (ev_var rfl) ea_nil)) (fun H4 e4 Q q => ⟨a, us, l, rfl, e4 _ _ ha2, by omega, fun t H5 e5 ht => q _ _ e5 ⟨t, rfl, ht⟩⟩) (fun _ _ _ _ _ _ h => h))
      (er_call (ea_cons (ev_ixTn (i := 1) (ev_var rfl) ev_c hb1 rfl) (ea_cons (ev_var rfl) ea_nil)) (fun H4 e4 Q q => ⟨b, ws, r, rfl, e4 _ _ hb2, by omega, fun t H5 e5 ht => q _ _ e5 ⟨t, rfl, ht⟩⟩) (fun _ _ _ _ _ _ h => h)) hg (fun i _ => by unfold b01; split <;> decide))
      fun v H4 e4 ⟨t, hv, ht⟩ => by subst hv; exact q t H4 (e1.trans (e2.trans (e3.trans e4))) ht
abbrev s_ends_of : Stmt := topS 46
def sp_ends_of (C : Addr) : Sp := fun vs H Q _ => ∃ (l r : Nat) (us ws : List Nat), vs = [.int l, .int r, .str (S (commas us)), .str (S (commas ws))] ∧ PartOk l r (.ends us ws) ∧ Good l r ∧ ∀ q H2, Ex H H2 → Qn C H2 q l r (gridP (.ends us ws)) → Q (.ref q) H2
theorem sc_ends_of : FnScope N_block ["left", "right", "one", "other"] (defScope s_ends_of) := ⟨rfl, rfl, rfl, by decide +kernel, rfl, by decide +kernel, by decide +kernel⟩
theorem ok_ends_of (F : Dm K "ends_of" s_ends_of f fd) (T : Tx K mg) (hcq : mg "Question" = some (.ref CQ)) (ci : Cl P w K mg base 2 "integers_in" sp_integers_in) (cb : CmC P w K mg base 5 CQ "between" (sp_qbetween CQ)) :
    FnOk P w K mg base CX0 6 f fd ["left", "right", "one", "other"] (sp_ends_of CQ) := by
  refine F.ok sc_ends_of (fun vs H Q E h => ?_) (fun cdv A outer s H vs Q E hr h => ?_)
  · obtain ⟨l, r, us, ws, rfl, _⟩ := h
    rfl
  · obtain ⟨l, r, us, ws, rfl, ⟨hu1, hw1, hu2, hw2⟩, hg, q⟩ := h
    have nd := sc_ends_of.nd
    refine ⟨_, PSs.nox (pss_cons (ps_par (i := 4) (j := 5) rfl nd rfl rfl (by decide) rfl rfl (pa_cons (pc ci hr (pa_cons (pv 2) pa_nil)) (pa_cons (pc ci hr (pa_cons (pv 3) pa_nil)) pa_nil)) (by rfl))
      (pss_cons (ps_if (PW.pt (pw_or (pt_cmpR op_isN (pv 4) pe_non (nomark _)) (pw_or (pt_cmpR op_isN (pv 5) pe_non (nomark _)) (pw_or1 (pt_cmpR (op_neD hr.units) (pe_tup (pa_cons (p_len K T.len (pv 4)) (pa_cons (p_len K T.len (pv 5)) pa_nil))) (pe_tup (pa_cons (pv 0) (pa_cons (pv 1) pa_nil))) (nomark _)))))) (pss_one (ps_ret pe_non)) pss_nil)
      (pss_one (ps_ret (pcm cb hcq hr (pa_cons (pv 4) (pa_cons (pv 5) pa_nil))))))), ?_⟩
    have h8 := hg.1
    have h9 := hg.2
    have su : Small us := ⟨fun z => by rw [z] at hu1; simp at hu1; omega, by omega, hu2⟩
    have sw : Small ws := ⟨fun z => by rw [z] at hw1; simp at hw1; omega, by omega, hw2⟩
    have ue : ∀ {te : TE} {σ : L2.St} {ns : List Nat}, EvU te σ H (intsN ns) → EvR Ex te σ H fun _ v H' => ∃ p, v = .ref p ∧ H' p = some (.tup (intsN ns)) := fun {te σ ns} h H1 e Q q => h H1 e Q fun p H2 _ e2 hp => q _ _ e2 ⟨p, rfl, hp⟩
    refine q_par (ue (eu_integers (ns := us) (ev_var rfl) su)) (ue (eu_integers (ns := ws) (ev_var rfl) sw)) fun v w' H1 H2 e1 ⟨p, hv, hp⟩ e2 ⟨p', hv', hp'⟩ => ?_
    subst hv hv'
    have hp2 := e2 _ _ hp
    have lu : (intsN us).length = l := by simp [intsN, hu1]
    have lw : (intsN ws).length = r := by simp [intsN, hw1]
    refine q_no (et_orF (et_test (ev_is (ev_isN (ev_var rfl)) rfl)) (et_orF (et_test (ev_is (ev_isN (ev_var rfl)) rfl)) (et_test (ev_is (ev_opUU (eu_tup (ea_cons (ev_is (ev_lenT (ev_var rfl) hp2) (by rw [lu])) (ea_cons (ev_is (ev_lenT (ev_var rfl) hp') (by rw [lw])) ea_nil)) (show 2 ≤ 100000 by decide))
      (eu_tup (ea_cons (ev_var rfl) (ea_cons (ev_var rfl) ea_nil)) (show 2 ≤ 100000 by decide)) fun p' q' H4 hp' hq' e4 => rv_neD (fun H5 e5 => dd_tupI (ns := [(l : Int), (r : Int)]) (e5 _ _ hp')) (fun H5 e5 => dd_tupI (ns := [(l : Int), (r : Int)]) (e5 _ _ hq'))) ?_)))) fun H3 e3 => ?_
    · simp only [PyData.eqv, eqv_ints, decide_true]; rfl
    have rv : ∀ {te : TE} {σ : L2.St} {p : Addr}, Ev te σ H3 (.ref p) → ∀ {n : Nat} {h : Nat → Int}, Rw H3 p n h → EvR Ex te σ H3 fun _ v H' => ∃ a, v = .ref a ∧ Rw H' a n h := fun {te σ p} h {n k} hw H4 e4 Q q => h H4 e4 _ fun H5 e5 => q _ _ e5 ⟨p, rfl, hw.ex (e4.trans e5)⟩
    have r1 := intsN_rw (e3 _ _ hp2)
    have r2 := intsN_rw (e3 _ _ hp')
    rw [hu1] at r1
    rw [hw1] at r2
    refine sr_ret (er_between (CQ := CQ) (rv (ev_var rfl) r1) (rv (ev_var rfl) r2) hg fun i hi => ?_) fun v H4 e4 ⟨t, hv, ht⟩ => by subst hv; exact q t H4 (e1.trans (e2.trans (e3.trans e4))) ht
    have : us.getD i 0 < 100 := by
      rw [List.getD_eq_getElem?_getD, List.getElem?_eq_getElem (by omega)]
      exact hu2 _ (List.getElem_mem _)
    omega
end
end Q
set_option Elab.async false
set_option linter.all false
set_option maxRecDepth 100000
set_option maxHeartbeats 4000000
namespace Q
open PySem PySem.Spec PyProof.Rows L2
open Evl SX TL
abbrev Term := Option Nat × Part
def wordsT : Term → List W
  | (none, p) => wordsP p
  | (some n, p) => numL n :: wd "*" :: wordsP p
def amt : Term → Int
  | (none, _) => 1
  | (some n, _) => (n : Nat)
def gridT (t : Term) (i j : Nat) : Int := gridP t.2 i j * amt t
def TermOk (l r : Nat) (t : Term) : Prop := PartOk l r t.2 ∧ ∀ n, t.1 = some n → n < 10 ^ 18
theorem wordsP_pos (p : Part) : 0 < (wordsP p).length := by
  cases p with
  | whr wh => cases wh <;> exact Nat.succ_pos _
  | block => exact Nat.succ_pos _
  | ends => exact Nat.succ_pos _
theorem ne_star {w : W} (h : ∀ c ∈ w, c = 44 ∨ (48 ≤ c ∧ c ≤ 57)) : decide (S w = ("*" : Str)) = false := by
  rw [decide_eq_false]
  intro z
  rw [S_eq] at z
  have := h 42 (by rw [z]; decide +kernel)
  omega
theorem ne_starN (n : Nat) : decide (S (numL n) = ("*" : Str)) = false := ne_star fun c hc => .inr (numL_digits n c hc)
theorem ne_starC (ns : List Nat) : decide (S (commas ns) = ("*" : Str)) = false := ne_star fun c hc => mem_commas hc
section
variable {P : Program} {w : World} {K : PySem.W.Frag} {mg : Str → Option Value} {base : Heap} {f : Addr} {fd : FuncData} {CT CQ : Addr}
abbrev s_part_of : Stmt := topS 47
def sp_part_of (C : Addr) : Sp := fun vs H Q _ => ∃ (l r : Nat) (a : Addr) (p : Part), vs = [.int l, .int r, .ref a] ∧ H a = some (.lst (strW (wordsP p))) ∧ PartOk l r p ∧ Good l r ∧ ∀ q H2, Ex H H2 → Qn C H2 q l r (gridP p) → Q (.ref q) H2
abbrev N_part : List Str := ["left", "right", "words", "where"]
theorem sc_part_of : FnScope N_part ["left", "right", "words"] (defScope s_part_of) := ⟨rfl, rfl, rfl, by decide +kernel, rfl, by decide +kernel, by decide +kernel⟩
theorem ok_part_of (F : Dm K "part_of" s_part_of f fd) (T : Tx K mg) (hcq : mg "Question" = some (.ref CQ)) (cb : Cl P w K mg base 6 "block_of" (sp_block_of CQ)) (ce : Cl P w K mg base 6 "ends_of" (sp_ends_of CQ)) (cw : Cl P w K mg base 3 "where_of" sp_where_of) (ci : Cl P w K mg base 5 "is_where" sp_is_where_in) (ca : CmC P w K mg base 5 CQ "at" (sp_qat CQ)) :
    FnOk P w K mg base CX0 7 f fd ["left", "right", "words"] (sp_part_of CQ) := by
  refine F.ok sc_part_of (fun vs H Q E h => ?_) (fun cdv A outer s H vs Q E hr h => ?_)
  · obtain ⟨l, r, a, p, rfl, _⟩ := h
    rfl
  · obtain ⟨l, r, a, p, rfl, ha, ho, hg, q⟩ := h
    have nd := sc_part_of.nd
    refine ⟨_, PSs.nox (pss_cons (ps_if (PW.pt (pw_and (pt_cmpR op_eq (p_len K T.len (pv 2)) pe_int (nomark _)) (pw_and1 (pt_cmpR op_eq (p_ixL K (pv 2) pe_int) pe_str (nomark _)))))
        (pss_one (ps_ret (pc cb hr (pa_cons (pv 0) (pa_cons (pv 1) (pa_cons (p_ixL K (pv 2) pe_int) (pa_cons (p_ixL K (pv 2) pe_int) pa_nil))))))) pss_nil)
      (pss_cons (ps_if (PW.pt (pw_and (pt_cmpR op_eq (p_len K T.len (pv 2)) pe_int (nomark _)) (pw_and (pt_cmpR op_eq (p_ixL K (pv 2) pe_int) pe_str (nomark _)) (pw_and1 (pt_cmpR op_eq (p_ixL K (pv 2) pe_int) pe_str (nomark _))))))
        (pss_one (ps_ret (pc ce hr (pa_cons (pv 0) (pa_cons (pv 1) (pa_cons (p_ixL K (pv 2) pe_int) (pa_cons (p_ixL K (pv 2) pe_int) pa_nil))))))) pss_nil)
      (pss_cons (ps_set (i := 3) nd rfl (.inl rfl) (pc cw hr (pa_cons (pv 2) pa_nil)))
      (pss_one (ps_ret (pe_ifExp (pt_val (pc ci hr (pa_cons (pv 0) (pa_cons (pv 1) (pa_cons (pv 3) pa_nil))))) (pcm ca hcq hr (pa_cons (pv 0) (pa_cons (pv 1) (pa_cons (pv 3) pa_nil)))) pe_non)))))), ?_⟩
    have len : ∀ {H1 : Hp} (e1 : Ex H H1) (n : Nat), Ev (tOp rEq (tCB (rLenS K) (tCons (tVar 2) tNil)) (tC (.int n))) (start N_part [.int l, .int r, .ref a]) H1 (.bl (decide ((((wordsP p).length : Nat) : Int) = n))) := fun {H1} e1 n =>
      ev_is (ev_eqI (ev_lenL (ev_var rfl) (e1 _ _ ha)) ev_c) (by simp [strW])
    -- a where
    have whs : ∀ wh, p = .whr wh → ∀ {D : Ends}, D.rt = Q → ∀ {H1 : Hp}, Ex H H1 → tSeq (tAsg (tCall sp_where_of [] E0 (tCons (tVar 2) tNil)) (gName 3)) (tRet (tIf (tB (tCall sp_is_where_in [] E0 (tCons (tVar 0) (tCons (tVar 1) (tCons (tVar 3) tNil)))))
        (ClX.tCMeth CQ (sp_qat CQ) E0 (tC (.ref CQ)) (tCons (tVar 0) (tCons (tVar 1) (tCons (tVar 3) tNil)))) (tC .non))) D (start N_part [.int l, .int r, .ref a]) H1 := by
      rintro wh rfl D hD H1 e1
      have ha1 := e1 _ _ ha
      refine qr_asg (Φ := fun _ v H' => ∃ q, v = .ref q ∧ WhAt H' q wh) (fun H2 e2 Q q => ⟨_, rfl, a, wh, l, r, rfl, e2 _ _ ha1, ho, hg, fun t H3 e3 ht => q _ _ e3 ⟨t, rfl, ht⟩⟩) fun v H2 e2 ⟨t, hv, ht⟩ => ?_
      subst hv
      refine sr_ret (Φ := fun _ v H' => ∃ q, v = .ref q ∧ Qn CQ H' q l r (gridP (.whr wh))) (er_ifT (et_B (ev_call (ea_cons (ev_var rfl) (ea_cons (ev_var rfl) (ea_cons (ev_var rfl) ea_nil))) fun H3 e3 Q q E => ⟨l, r, t, wh, rfl, ht.ex e3, ho, hg, q⟩))
        (fun H3 e3 Q q => ⟨rfl, _, rfl, _, rfl, _, rfl, l, r, t, wh, rfl, ht.ex e3, ho, hg, fun u H4 e4 hu => q _ _ e4 ⟨u, rfl, hu⟩⟩)) fun v H3 e3 ⟨u, hv, hu⟩ => ?_
      subst hv
      rw [hD]
      exact q u H3 (e1.trans (e2.trans e3)) hu
    cases p with
    | whr wh =>
      refine q_no (et_is (et_and (b := false) (et_test (len (Ex.refl _) 3)) fun h3 => ?_) (Bool.and_false _)) fun H1 e1 => ?_
      · refine et_test ?_
        cases wh with
        | all => exact absurd h3 (by decide)
        | left => exact absurd h3 (by simp [wordsP, wordsW])
        | right => exact absurd h3 (by simp [wordsP, wordsW])
        | cell x y => exact ev_is (ev_eqS (ev_ixLn (i := 0) (ev_var rfl) ev_c ha rfl) ev_c) (by decide +kernel)
      refine q_no (et_is (b := false) (et_and (b := false) (et_test (len e1 4)) fun h4 => ?_) (Bool.and_false _)) fun H2 e2 => ?_
      · exfalso
        cases wh <;> simp [wordsP, wordsW] at h4
      exact whs wh rfl rfl (e1.trans e2)
    | block us ws =>
      refine q_when (b := true) (et_andT (et_test (ev_is (len (Ex.refl _) 3) rfl)) (et_test (ev_is (ev_eqS (ev_ixLn (i := 0) (ev_var rfl) ev_c ha rfl) ev_c) (by decide +kernel)))) (fun _ H1 e1 => ?_) (fun z => (nomatch z))
      have ha1 := e1 _ _ ha
      exact sr_ret (Φ := fun _ v H' => ∃ q, v = .ref q ∧ Qn CQ H' q l r (gridP (.block us ws))) (er_call (ea_cons (ev_var rfl) (ea_cons (ev_var rfl) (ea_cons (ev_ixLn (i := 1) (ev_var rfl) ev_c ha1 rfl) (ea_cons (ev_ixLn (i := 2) (ev_var rfl) ev_c ha1 rfl) ea_nil))))
        (fun H2 e2 Q q => ⟨l, r, us, ws, rfl, ho.1, ho.2, hg, fun t H3 e3 ht => q _ _ e3 ⟨t, rfl, ht⟩⟩) (fun _ _ _ _ _ _ h => h)) fun v H2 e2 ⟨u, hv, hu⟩ => by subst hv; exact q u H2 (e1.trans e2) hu
    | ends us ws =>
      refine q_no (et_is (et_and (b := false) (et_test (len (Ex.refl _) 3)) fun h3 => absurd h3 (by simp [wordsP])) (Bool.and_false _)) fun H1 e1 => ?_
      have ha1 := e1 _ _ ha
      refine q_when (b := true) (et_andT (et_test (ev_is (len e1 4) rfl)) (et_andT (et_test (ev_is (ev_eqS (ev_ixLn (i := 0) (ev_var rfl) ev_c ha1 rfl) ev_c) (by decide +kernel))) (et_test (ev_is (ev_eqS (ev_ixLn (i := 2) (ev_var rfl) ev_c ha1 rfl) ev_c) (by decide +kernel))))) (fun _ H2 e2 => ?_) (fun z => (nomatch z))
      have ha2 := e2 _ _ ha1
      exact sr_ret (Φ := fun _ v H' => ∃ q, v = .ref q ∧ Qn CQ H' q l r (gridP (.ends us ws))) (er_call (ea_cons (ev_var rfl) (ea_cons (ev_var rfl) (ea_cons (ev_ixLn (i := 1) (ev_var rfl) ev_c ha2 rfl) (ea_cons (ev_ixLn (i := 3) (ev_var rfl) ev_c ha2 rfl) ea_nil))))
        (fun H2 e2 Q q => ⟨l, r, us, ws, rfl, ho, hg, fun t H3 e3 ht => q _ _ e3 ⟨t, rfl, ht⟩⟩) (fun _ _ _ _ _ _ h => h)) fun v H3 e3 ⟨u, hv, hu⟩ => by subst hv; exact q u H3 (e1.trans (e2.trans e3)) hu
abbrev s_term_of : Stmt := topS 48
def sp_term_of (C : Addr) : Sp := fun vs H Q _ => ∃ (l r : Nat) (a : Addr) (t : Term), vs = [.int l, .int r, .ref a] ∧ H a = some (.lst (strW (wordsT t))) ∧ TermOk l r t ∧ Good l r ∧ ∀ q H2, Ex H H2 → Qn C H2 q l r (gridT t) → Q (.ref q) H2
abbrev N_term : List Str := ["left", "right", "words", "part", "number"]
theorem sc_term_of : FnScope N_term ["left", "right", "words"] (defScope s_term_of) := ⟨rfl, rfl, rfl, by decide +kernel, rfl, by decide +kernel, by decide +kernel⟩
theorem er_mulI {X : Cx} {σ : L2.St} {H : Hp} {ta tb : TE} {q : Addr} {l r : Nat} {g : Nat → Nat → Int} {n : Int} (ha : Ev ta σ H (.ref q)) (hb : Ev tb σ H (.int n)) (hq : Qn CQ H q l r g) (hg : Good l r) (hn : -(2 ^ 64) < n ∧ n < 2 ^ 64) :
    EvR Ex (tOp (rBinI X CQ (sp_qmul CQ)) ta tb) σ H (fun _ v H' => ∃ q, v = .ref q ∧ Qn CQ H' q l r (fun i j => g i j * n)) := fun H1 e Q k =>
  ha H1 e _ fun H2 e2 => hb H2 (e.trans e2) _ fun H3 e3 => by
    have hq3 := hq.ex (e.trans (e2.trans e3))
    obtain ⟨dx, a, h1, _⟩ := id hq3
    exact ⟨q, n, rfl, rfl, .inr ⟨dx, _, h1⟩, q, l, r, g, n, rfl, hq3, hg, hn, fun t H4 e4 ht => k _ _ (e2.trans (e3.trans e4)) ⟨t, rfl, ht⟩⟩
theorem ok_term_of (F : Dm K "term_of" s_term_of f fd) (T : Tx K mg) (QC : QueC K CQ) (cp : Cl P w K mg base 7 "part_of" (sp_part_of CQ)) (ci : Cl P w K mg base 1 "integer_in" sp_integer_in) (cm : MuI P w K mg base 5 CQ (sp_qmul CQ)) : FnOk P w K mg base CX0 8 f fd ["left", "right", "words"] (sp_term_of CQ) := by
  refine F.ok sc_term_of (fun vs H Q E h => ?_) (fun cdv A outer s H vs Q E hr h => ?_)
  · obtain ⟨l, r, a, t, rfl, _⟩ := h
    rfl
  · obtain ⟨l, r, a, t, rfl, ha, ho, hg, q⟩ := h
    have nd := sc_term_of.nd
    refine ⟨_, PSs.nox (pss_cons (ps_if (PW.pt (pw_and (pt_cmpR op_gt (p_len K T.len (pv 2)) pe_int (nomark _)) (pw_and1 (pt_cmpR op_eq (p_ixL K (pv 2) pe_int) (pgc T.times) (nomark _)))))
        (pss_cons (ps_par (i := 3) (j := 4) rfl nd rfl rfl (by decide) rfl rfl (pa_cons (pc cp hr (pa_cons (pv 0) (pa_cons (pv 1) (pa_cons (pe_slice sl_list (pv 2) (po_some pe_int) po_none) pa_nil)))) (pa_cons (pc ci hr (pa_cons (p_ixL K (pv 2) pe_int) pa_nil)) pa_nil)) (by rfl))
        (pss_one (ps_ret (pe_ifExp (PW.pt (pw_or (pt_cmpR op_isN (pv 3) pe_non (nomark _)) (pw_or1 (pt_cmpR op_isN (pv 4) pe_non (nomark _))))) pe_non (pmuI cm QC.sf hr (pv 3) (pv 4)))))) pss_nil)
      (pss_one (ps_ret (pc cp hr (pa_cons (pv 0) (pa_cons (pv 1) (pa_cons (pv 2) pa_nil))))))), ?_⟩
    have len : Ev (tOp (rI0 fun i j => .bl (decide (j < i))) (tCB (rLenS K) (tCons (tVar 2) tNil)) (tC (.int 2))) (start N_term [.int l, .int r, .ref a]) H (.bl (decide ((2 : Int) < (((wordsT t).length : Nat) : Int)))) :=
      ev_is (ev_op (ev_lenL (ev_var rfl) ha) ev_c rv_I0) (by simp [strW])
    obtain ⟨n, p⟩ := t
    cases n with
    | none =>
      have hno : EvT (tAnd (tTest (tOp (rI0 fun i j => .bl (decide (j < i))) (tCB (rLenS K) (tCons (tVar 2) tNil)) (tC (.int 2)))) (tTest (tOp rEq (tOp (rIxL K) (tVar 2) (tC (.int 1))) (tC (.str "*"))))) (start N_term [.int l, .int r, .ref a]) H false := by
        refine et_is (et_and (b := false) (et_test len) fun h2 => et_test ?_) (Bool.and_false _)
        cases p with
        | whr wh =>
          cases wh with
          | all => exact absurd h2 (by decide)
          | left => exact absurd h2 (by simp [wordsT, wordsP, wordsW])
          | right => exact absurd h2 (by simp [wordsT, wordsP, wordsW])
          | cell x y => exact ev_is (ev_eqS (ev_ixLn (i := 1) (ev_var rfl) ev_c ha rfl) ev_c) (congrArg V.bl (ne_starN _))
        | block us ws => exact ev_is (ev_eqS (ev_ixLn (i := 1) (ev_var rfl) ev_c ha rfl) ev_c) (congrArg V.bl (ne_starC _))
        | ends us ws => exact ev_is (ev_eqS (ev_ixLn (i := 1) (ev_var rfl) ev_c ha rfl) ev_c) (congrArg V.bl (ne_starC _))
      refine q_no hno fun H1 e1 => ?_
      refine sr_ret (Φ := fun _ v H' => ∃ q, v = .ref q ∧ Qn CQ H' q l r (gridP p)) (er_call (ea_cons (ev_var rfl) (ea_cons (ev_var rfl) (ea_cons (ev_var rfl) ea_nil)))
        (fun H2 e2 Q q => ⟨l, r, a, p, rfl, e2 _ _ (e1 _ _ ha), ho.1, hg, fun t H3 e3 ht => q _ _ e3 ⟨t, rfl, ht⟩⟩) (fun _ _ _ _ _ _ h => h)) fun v H2 e2 ⟨u, hv, hu⟩ => ?_
      subst hv
      exact q u H2 (e1.trans e2) (hu.congr fun i j _ _ => by show gridP p i j = gridP p i j * 1; rw [Int.mul_one])
    | some n =>
      have hn := ho.2 n rfl
      refine q_when (b := true) (et_andT (et_test (ev_is len ?_)) (et_test (ev_is (ev_eqS (ev_ixLn (i := 1) (ev_var rfl) ev_c ha rfl) ev_c) (by decide +kernel)))) (fun _ H1 e1 => ?_) (fun z => (nomatch z))
      · have := wordsP_pos p
        congr 1
        rw [decide_eq_true_eq]
        show (2 : Int) < (((wordsP p).length + 1 + 1 : Nat) : Int)
        omega
      have ha1 := e1 _ _ ha
      have hsl : EvL (tSl (rSlL K) (tVar 2) (tPart (tC (.int 2))) tNoPart) (start N_term [.int l, .int r, .ref a]) H1 (strW (wordsP p)) := by
        have := el_sl (K := K) (te := tVar 2) (tl := tPart (tC (.int 2))) (th := tNoPart) (σ := start N_term [.int l, .int r, .ref a]) (ev_var rfl) (eo_some ev_c) eo_none (sq_of ha1)
        rw [show strW (wordsT (some n, p)) = .str (S (numL n)) :: .str (S (wd "*")) :: strW (wordsP p) from rfl, cut2] at this
        exact this
      refine q_par (Φ := fun v H' => ∃ q, v = .ref q ∧ Qn CQ H' q l r (gridP p)) (Ψ := fun v _ => v = .int (n : Nat)) (fun H2 e2 Q k => ⟨_, rfl, _, rfl, hsl H2 e2 _ fun b H3 _ e3 hb => ⟨l, r, b, p, rfl, hb, ho.1, hg, fun t H4 e4 ht => k _ _ (e3.trans e4) ⟨t, rfl, ht⟩⟩⟩)
        (r_ev (ev_call (ea_cons (ev_ixLn (i := 0) (ev_var rfl) ev_c ha1 rfl) ea_nil) (spv_integer (few_big (by omega))))) fun v w' H2 H3 e2 ⟨t, hv, ht⟩ e3 hw => ?_
      subst hv hw
      refine sr_ret (Φ := fun _ v H' => ∃ q, v = .ref q ∧ Qn CQ H' q l r (fun i j => gridP p i j * (n : Nat))) (er_ifF (et_orF (et_test (ev_is (ev_isN (ev_var rfl)) rfl)) (et_test (ev_is (ev_isN (ev_var rfl)) rfl)))
        (er_mulI (ev_var rfl) (ev_var rfl) (ht.ex e3) hg (by omega))) fun v H4 e4 ⟨u, hv, hu⟩ => ?_
      subst hv
      exact q u H4 (e1.trans (e2.trans (e3.trans e4))) hu
end
end Q
set_option Elab.async false
set_option linter.all false
set_option maxRecDepth 100000
set_option maxHeartbeats 4000000
namespace Q
open PySem PySem.Spec PyProof.Rows L2
open Evl SX TL
/-! ### a text's terms -/
def prs : Int → List W → List (Int × List W) → List W → List (Int × List W)
  | sg, cur, done, [] => done ++ [(sg, cur)]
  | sg, cur, done, w :: r => if w = [43] then prs 1 [] (done ++ [(sg, cur)]) r else if w = [45] then prs (-1) [] (done ++ [(sg, cur)]) r else prs sg (cur ++ [w]) done r
def adj : List (Int × List W) → List (Int × List W)
  | (s, f :: fs) :: rest => if f.take 1 = [45] then (-1, f.drop 1 :: fs) :: rest else (s, f :: fs) :: rest
  | r => r
/-- such pairs, a sign and a list of words, one behind another -/
def PairsIn (H : Hp) (vs : List V) (ps : List (Int × List W)) : Prop := vs.length = ps.length ∧ ∀ (k : Nat) q, ps[k]? = some q → ∃ t p, vs[k]? = some (.ref t) ∧ H t = some (.tup [.int q.1, .ref p]) ∧ H p = some (.lst (strW q.2))
theorem PairsIn.ex {H H' : Hp} {vs : List V} {ps : List (Int × List W)} (h : PairsIn H vs ps) (e : Ex H H') : PairsIn H' vs ps := ⟨h.1, fun k q hq => let ⟨t, p, h1, h2, h3⟩ := h.2 k q hq; ⟨t, p, h1, e _ _ h2, e _ _ h3⟩⟩
theorem PairsIn.snoc {H : Hp} {vs : List V} {ps : List (Int × List W)} {q : Int × List W} {t p : Addr} (h : PairsIn H vs ps) (ht : H t = some (.tup [.int q.1, .ref p])) (hp : H p = some (.lst (strW q.2))) : PairsIn H (vs ++ [.ref t]) (ps ++ [q]) := by
  refine ⟨by rw [List.length_append, List.length_append, h.1]; rfl, fun k u hu => ?_⟩
  by_cases hk : k < ps.length
  · rw [List.getElem?_append_left hk] at hu
    obtain ⟨t', p', h1, h2⟩ := h.2 k u hu
    exact ⟨t', p', by rw [List.getElem?_append_left (by rw [h.1]; exact hk)]; exact h1, h2⟩
  · have hk' : k = ps.length := by
      have := (List.getElem?_eq_some_iff.mp hu).1
      rw [List.length_append] at this
      have : k < ps.length + 1 := this
      omega
    subst hk'
    rw [List.getElem?_append_right (Nat.le_refl _), Nat.sub_self] at hu
    cases hu
    exact ⟨t, p, by rw [List.getElem?_append_right (by rw [h.1]; exact Nat.le_refl _), h.1, Nat.sub_self]; rfl, ht, hp⟩
/-- the heap without what stands at p -/
def del (H : Hp) (p : Addr) : Hp := fun b => if b = p then none else H b
theorem del_same {H : Hp} {p : Addr} : del H p p = none := if_pos rfl
theorem del_ne {H : Hp} {p b : Addr} (h : b ≠ p) : del H p b = H b := if_neg h
theorem del_ex {H : Hp} {p : Addr} : Ex (del H p) H := fun b o e => by
  by_cases h : b = p
  · rw [h, del_same] at e; cases e
  · rw [del_ne h] at e; exact e
theorem ex_del {H H' : Hp} {p : Addr} (e : Ex H H') (h : H p = none) : Ex H (del H' p) := fun b o hb => by
  rw [del_ne (ne_of_none hb h)]; exact e b o hb
theorem del2a {H : Hp} {a b : Addr} : del (del H a) b a = none := by
  unfold del
  by_cases h : a = b
  · rw [if_pos h]
  · rw [if_neg h, if_pos rfl]
section
variable {K : PySem.W.Frag} {σ : L2.St} {H H' : Hp} {ta te tb : TE} {v : V} {a p : Addr} {xs : List V} {D : Ends} {tz : TS}
theorem s_parL {i j : Nat} (ha : Ev ta σ H v) (hb : EvL tb σ H xs) (k : ∀ p H1, H p = none → Ex H H1 → H1 p = some (.lst xs) → D.nx ((σ.set i (some v)).set j (some (.ref p))) H1) : tPar i j (tCons ta (tCons tb tNil)) D σ H :=
  ha H (Ex.refl _) _ fun H1 e1 => hb H1 e1 _ fun p H2 hn e2 hp => ⟨_, _, rfl, k p H2 (fresh_back e1 hn) (e1.trans e2) hp⟩
theorem s_par3L {tc : TE} {ys : List V} {i j l : Nat} (ha : Ev ta σ H v) (hb : EvL tb σ H xs) (hc : EvL tc σ H ys) (k : ∀ p q H1, H p = none → H q = none → q ≠ p → Ex H H1 → H1 p = some (.lst xs) → H1 q = some (.lst ys) → tz D (((σ.set i (some v)).set j (some (.ref p))).set l (some (.ref q))) H1) :
    tSeq (tPar3 i j l (tCons ta (tCons tb (tCons tc tNil)))) tz D σ H :=
  ha H (Ex.refl _) _ fun H1 e1 => hb H1 e1 _ fun p H2 hn e2 hp => hc H2 (e1.trans e2) _ fun q H3 hn' e3 hq => ⟨_, _, _, rfl, k p q H3 (fresh_back e1 hn) (fresh_back (e1.trans e2) hn') (fun z => by rw [z, hp] at hn'; cases hn') (e1.trans (e2.trans e3)) (e3 _ _ hp) hq⟩
theorem s_asgTL {g : TG} (ha : Ev ta σ H v) (hb : EvL tb σ H xs) (k : ∀ p t H1, H p = none → Ex H H1 → H1 p = some (.lst xs) → H1 t = some (.tup [v, .ref p]) → g (.ref t) σ H1 D.nx) : tAsg (tTup (tCons ta (tCons tb tNil))) g D σ H :=
  ha H (Ex.refl _) _ fun H1 e1 => hb H1 e1 _ fun p H2 hn e2 hp => ⟨by show 2 ≤ sizeLine; decide, fun t ht => k p t _ (fresh_back e1 hn) (e1.trans (e2.trans (Ex.new ht))) (Ex.new ht _ _ hp) upd_same⟩
theorem ea_starN {tr : TA} {vs : List V} (ha : EvL ta σ H xs) (hr : EvA tr σ H vs) : EvA (StX.tStar K ta tr) σ H (xs ++ vs) := fun H1 e Q q =>
  ha H1 e _ fun p H2 _ e2 hp => ⟨p, xs, rfl, .inr (sq_of hp), hr H2 (e.trans e2) _ fun H3 e3 => q H3 (e2.trans e3)⟩
theorem cut1 {x : V} {zs : List V} : cutV (x :: zs) (some 1) none = zs := by
  unfold cutV
  have e : HT.sIx (x :: zs).length 0 (some 1) = 1 := by
    have := HT.sIx_nat (x :: zs).length 0 1
    rw [show ((1 : Nat) : Int) = 1 from rfl] at this
    rw [this]; simp
  rw [e, HT.sIx_none]
  show (zs.take (zs.length + 1 - 1)) = zs
  rw [show zs.length + 1 - 1 = zs.length by omega, List.take_length]
theorem ev_slTo {w : W} (ha : Ev ta σ H (.str (S w))) (hw : w.length ≤ 100000) : Ev (tSl C8.rSlX ta tNoPart (tPart (tC (.int 1)))) σ H (.str (S (w.take 1))) := fun H1 e Q q =>
  ha H1 e _ fun H2 e2 => ⟨1, rfl, _, rfl, sz_of (by rw [S_len]; exact hw), by rw [slice_to (by decide)]; exact q H2 e2⟩
theorem ev_slFrom {w : W} (ha : Ev ta σ H (.str (S w))) (hw : w.length ≤ 100000) : Ev (tSl C8.rSlX ta (tPart (tC (.int 1))) tNoPart) σ H (.str (S (w.drop 1))) := fun H1 e Q q =>
  ha H1 e _ fun H2 e2 => ⟨1, rfl, _, rfl, sz_of (by rw [S_len]; exact hw), by rw [slice_from (by decide)]; exact q H2 e2⟩
theorem inV_sep {w : W} : inV (.str (S w)) [.str "+", .str "-"] = decide (w = [43] ∨ w = [45]) := by
  have h1 : (S w = ("+" : Str)) ↔ w = [43] := S_eq
  have h2 : (S w = ("-" : Str)) ↔ w = [45] := S_eq
  rw [Bool.eq_iff_iff, decide_eq_true_eq, ← h1, ← h2]
  simp only [inV, List.any_cons, List.any_nil, Bool.or_false, Bool.or_eq_true, eqV]
  constructor
  · rintro (h | h)
    · left; first | exact (beq_iff_eq.mp h).symm | exact (of_decide_eq_true h).symm
    · right; first | exact (beq_iff_eq.mp h).symm | exact (of_decide_eq_true h).symm
  · rintro (h | h)
    · left; rw [h]; first | exact beq_self_eq_true _ | exact decide_eq_true rfl
    · right; rw [h]; first | exact beq_self_eq_true _ | exact decide_eq_true rfl
theorem ev_chainLt {tc : TE} {i j k : Int} (ha : Ev ta σ H (.int i)) (hb : Ev tb σ H (.int j)) (hc : Ev tc σ H (.int k)) :
    Ev (tChain (rI0 fun i j => .bl (decide (i < j))) (rI0 fun i j => .bl (decide (i < j))) ta tb tc) σ H (.bl (decide (i < j) && decide (j < k))) := fun H1 e Q q =>
  ha H1 e _ fun H2 e2 => hb H2 (e.trans e2) _ fun H3 e3 => ⟨i, j, rfl, rfl, decide (i < j), rfl, by
    cases hd : decide (i < j) with
    | true => exact iteT (hc H3 ((e.trans e2).trans e3) _ fun H4 e4 => ⟨j, k, rfl, rfl, by
        have := q H4 ((e2.trans e3).trans e4); rw [hd] at this; exact this⟩)
    | false => exact iteF (by have := q H3 (e2.trans e3); rw [hd] at this; exact this)⟩
/-- a walk over what stands in a part of the heap -/
theorem q_forB {n : Nat} {Y : Nat → Hp → V → Hp → Prop} {ti : TI} {g : TG} {tu : TS} {Hb : Hp} (hi : EvB ti σ Hb n Y) (e0 : Ex Hb H) (Pv : Nat → L2.St → Hp → Prop) (h0 : ∀ H1, Ex H H1 → Pv 0 σ H1) (hE : ∀ i σ' H', Pv i σ' H' → Ex Hb H')
    (hs : ∀ i x σ' H2 H3, i < n → Pv i σ' H2 → Y i H2 x H3 → g x σ' H3 fun σ2 H4 => tu { D with nx := Pv (i + 1), ct := Pv (i + 1), bk := tz D } σ2 H4) (hd : ∀ σ' H', Pv n σ' H' → tz D σ' H') : tSeq (tFor ti g tu) tz D σ H :=
  hi H e0 _ fun J H1 G e1 w hG => for_it w (D := { D with nx := tz D }) Pv (h0 H1 e1) (fun i σ' H' _ p => hG H' (hE i σ' H' p)) (fun i x σ' H2 H3 => hs i x σ' H2 H3) hd
theorem evb_enumL (ha : ∀ H1, Ex H H1 → Ev te σ H1 (.ref a)) (h : H a = some (.lst xs)) : EvB (iEnum K (tCons te tNil)) σ H xs.length (YPair (fun i => some (.int (i : Nat))) (fun i => xs[i]?)) := fun H1 e1 q hq =>
  ha H1 e1 H1 (Ex.refl _) _ fun H2 e2 => ⟨a, xs, rfl, sq_of (e2 _ _ (e1 _ _ h)), hq _ _ _ e2 walk_enum fun H3 e3 => sq_of (e3 _ _ h)⟩
end
/-- a heap of one object -/
def sing (p : Addr) (o : HO) : Hp := fun b => if b = p then some o else none
theorem sing_at {p : Addr} {o : HO} : sing p o p = some o := if_pos rfl
theorem sing_ex {H : Hp} {p : Addr} {o : HO} (h : H p = some o) : Ex (sing p o) H := fun b u e => by
  unfold sing at e
  by_cases hb : b = p
  · rw [if_pos hb] at e; rw [hb, h]; exact e
  · rw [if_neg hb] at e; cases e
theorem dec_S {w : W} {s : Str} : decide (S w = s) = decide (w = wd s) := by rw [Bool.eq_iff_iff, decide_eq_true_eq, decide_eq_true_eq]; exact S_eq
theorem del_upd {H : Hp} {p : Addr} {o : HO} : Ex (del H p) (upd H p o) := fun b u e => by
  have : b ≠ p := fun z => by rw [z, del_same] at e; cases e
  rw [upd_ne this]; rw [del_ne this] at e; exact e
theorem strW_snoc {ws : List W} {w : W} : strW (ws ++ [w]) = strW ws ++ [.str (S w)] := by unfold strW; rw [List.map_append]; rfl
def Inner (ws : List W) : Prop := ∀ (i : Nat) w, ws[i]? = some w → (w = [43] ∨ w = [45]) → 0 < i ∧ i + 1 < ws.length
def sp_terms_of : Sp := fun vs H Q _ => ∃ (ws : List W) (f0 : W) (fs : List W) (rest : List (Int × List W)), vs = [.str (S (joinL [32] ws))] ∧ ws ≠ [] ∧ (∀ w ∈ ws, 32 ∉ w) ∧ Inner ws ∧ (joinL [32] ws).length ≤ 90000 ∧ ws.length ≤ 90000 ∧
  prs 1 [] [] ws = (1, f0 :: fs) :: rest ∧ (∀ w ∈ f0 :: fs, Asc w) ∧ f0.length ≤ 90000 ∧ fs.length ≤ 90000 ∧ ∀ p H2 vals, Ex H H2 → H2 p = some (.lst vals) → PairsIn H2 vals (adj ((1, f0 :: fs) :: rest)) → Q (.ref p) H2
section
variable {P : Program} {w : World} {K : PySem.W.Frag} {mg : Str → Option Value} {base : Heap} {f : Addr} {fd : FuncData} {CT CQ : Addr}
abbrev s_terms_of : Stmt := topS 43
abbrev N_terms : List Str := ["text", "found", "sign", "words", "every", "place", "word", "first"]
theorem sc_terms_of : FnScope N_terms ["text"] (defScope s_terms_of) := ⟨rfl, rfl, rfl, by decide +kernel, rfl, by decide +kernel, by decide +kernel⟩
theorem ok_terms_of (F : Dm K "terms_of" s_terms_of f fd) (T : Tx K mg) : FnOk P w K mg base CX0 1 f fd ["text"] sp_terms_of := by
  refine F.ok sc_terms_of (fun vs H Q E h => ?_) (fun cdv A outer s H vs Q E hr h => ?_)
  · obtain ⟨ws, f0, fs, rest, rfl, _⟩ := h
    rfl
  · obtain ⟨ws, f0, fs, rest, rfl, hne, h32, hin, hjl, hwl, hR, hasc, hf0, hfs, q⟩ := h
    have nd := sc_terms_of.nd
    refine ⟨_, PSs.nox (pss_cons (ps_set (i := 1) nd rfl (.inl rfl) (pe_lst pa_nil))
      (pss_cons (ps_par3 (i := 2) (j := 3) (l := 4) rfl nd rfl rfl rfl (by decide) (by decide) (by decide) rfl rfl rfl (pa_cons pe_int (pa_cons (pe_lst pa_nil) (pa_cons (pe_split (pv 0) pe_str) pa_nil))) (by rfl))
      (pss_cons (ps_for PassesOwn.never rfl (pi_enum (by rfl) T.enumerate (pa_cons (pv 4) pa_nil)) (pg_tup rfl (pgs_cons (pg_name (i := 5) nd rfl (Or.inl rfl)) (pgs_cons (pg_name (i := 6) nd rfl (Or.inl rfl)) pgs_nil)))
        (pss_one (ps_if (PW.pt (pw_and (pt_inQ K (pv 6) (pe_tup (pa_cons (pgc T.plus) (pa_cons (pgc T.minus) pa_nil)))) (pw_and1 (pt_chain op_lt op_lt pe_int (pv 5) (pe_op op_sub (p_len K T.len (pv 4)) pe_int)))))
          (pss_cons (ps_expr (pe_bm PySem.F.plainAttrs_list PySem.F.slot_list_append PySem.F.type_list_append mt_append (pv 1) (pa_cons (pe_tup (pa_cons (pv 2) (pa_cons (pv 3) pa_nil))) pa_nil)))
            (pss_one (ps_par (i := 2) (j := 3) rfl nd rfl rfl (by decide) rfl rfl (pa_cons (pe_ifExp (pt_cmpR op_eq (pv 6) (pgc T.plus) (nomark _)) pe_int (pe_un un_neg pe_int)) (pa_cons (pe_lst pa_nil) pa_nil)) (by rfl))))
          (pss_one (ps_expr (pe_bm PySem.F.plainAttrs_list PySem.F.slot_list_append PySem.F.type_list_append mt_append (pv 3) (pa_cons (pv 6) pa_nil)))))))
      (pss_cons (ps_expr (pe_bm PySem.F.plainAttrs_list PySem.F.slot_list_append PySem.F.type_list_append mt_append (pv 1) (pa_cons (pe_tup (pa_cons (pv 2) (pa_cons (pv 3) pa_nil))) pa_nil)))
      (pss_cons (ps_set (i := 7) nd rfl (.inl rfl) (p_ixT K (p_ixL K (pv 1) pe_int) pe_int))
      (pss_cons (ps_if (PW.pt (pw_and (pt_cmpR (op_neD hr.units) (pv 7) (pe_lst pa_nil) (nomark _)) (pw_and1 (pt_cmpR op_eq (pe_slice C8.sl_txt (p_ixL K (pv 7) pe_int) po_none (po_some pe_int)) (pgc T.minus) (nomark _)))))
          (pss_one (ps_asg (pe_tup (pa_cons (pe_un un_neg pe_int) (pa_cons (pe_lst (pa_cons (pe_slice C8.sl_txt (p_ixL K (pv 7) pe_int) (po_some pe_int) po_none) (StX.pa_star (pe_slice sl_list (pv 7) (po_some pe_int) po_none) pa_nil))) pa_nil))) (pg_sub (pv 1) pe_int set_list))) pss_nil)
      (pss_one (ps_ret (pv 1))))))))), ?_⟩
    -- found = []
    refine q_asgL (xs := []) (el_lst ea_nil (by decide)) fun pf H1 hpf e1 hf1 => ?_
    -- sign, words, every
    have hsp := el_split (σ := [some (.str (S (joinL [32] ws))), some (.ref pf), none, none, none, none, none, none]) (ta := tVar 0) (tb := tC (.str " ")) (s := " ") (parts := ws) (ev_var rfl) ev_c (by rfl) (by decide) hne h32 (by omega) (H := H1)
    refine s_par3L ev_c (el_lst ea_nil (by decide)) hsp fun pw pe H3 hpw hpe hne' e3 hw3 he3 => ?_
    have hpfe : pe ≠ pf := fun z => by rw [z, hf1] at hpe; cases hpe
    have hpfw : pw ≠ pf := fun z => by rw [z, hf1] at hpw; cases hpw
    have eHb : Ex H (del (del H3 pf) pw) := ex_del (ex_del (e1.trans e3) hpf) (fresh_back e1 hpw)
    have hbe : del (del H3 pf) pw pe = some (.lst (strW ws)) := by rw [del_ne hne', del_ne hpfe]; exact he3
    have wk := evb_enumL (K := K) (te := tVar 4) (σ := [some (.str (S (joinL [32] ws))), some (.ref pf), some (.int 1), some (.ref pw), some (.ref pe), none, none, none]) (H := sing pe (.lst (strW ws))) (fun H1 e1 => ev_var rfl) sing_at
    have hlen : (strW ws).length = ws.length := by simp [strW]
    rw [hlen] at wk
    refine q_forB wk (sing_ex he3) (fun i σ' H' => ∃ (Hc : Hp) (vals : List V) (done : List (Int × List W)) (sg : Int) (cur : List W) (pw : Addr), prs sg cur done (ws.drop i) = (1, f0 :: fs) :: rest ∧ Ex H Hc ∧ Hc pe = some (.lst (strW ws)) ∧ Hc pf = none ∧ Hc pw = none ∧ pw ≠ pf ∧ Ex Hc H' ∧
        H' pf = some (.lst vals) ∧ H' pw = some (.lst (strW cur)) ∧ PairsIn Hc vals done ∧ done.length ≤ i ∧ cur.length ≤ i ∧ ∃ y z, σ' = [some (.str (S (joinL [32] ws))), some (.ref pf), some (.int sg), some (.ref pw), some (.ref pe), y, z, none])
      (fun H4 e4 => ⟨_, [], [], 1, [], pw, by rw [List.drop_zero]; exact hR, eHb, hbe, del2a, del_same, hpfw, (del_ex.trans del_ex).trans e4, e4 _ _ (e3 _ _ hf1), e4 _ _ hw3, ⟨rfl, fun k q h => by simp at h⟩, Nat.le_refl _, Nat.le_refl _, _, _, rfl⟩)
      (fun i σ' H' p => ?_) (fun i x σ' H4 H5 hi p y => ?_) (fun σ' H' p => ?_)
    · obtain ⟨Hc, vals, done, sg, cur, pw, hprs, eHc, hce, hcf, hcw, hwf, e4, _⟩ := p
      exact sing_ex (e4 _ _ hce)
    · obtain ⟨Hc, vals, done, sg, cur, pw, hprs, eHc, hce, hcf, hcw, hwf, e4, hvf, hvw, hpi, hdl, hcl, y1, y2, rfl⟩ := p
      obtain ⟨tt, u, v, rfl, htt, rfl, hu, hv⟩ := y
      cases hu
      have e5 : Ex H4 (upd H4 tt (.tup [.int (i : Nat), v])) := Ex.new htt
      have hwi : ws[i]? = some (ws[i]'hi) := List.getElem?_eq_getElem hi
      have hv' : v = .str (S (ws[i]'hi)) := by
        have hv2 : (strW ws)[i]? = some v := hv
        rw [strW, List.getElem?_map, hwi] at hv2
        exact (Option.some.inj hv2).symm
      subst hv'
      refine g_pair upd_same ?_
      have ev6 : ∀ {H5 : Hp}, Ev (tVar 6) [some (.str (S (joinL [32] ws))), some (.ref pf), some (.int sg), some (.ref pw), some (.ref pe), some (.int (i : Nat)), some (.str (S (ws[i]'hi))), none] H5 (.str (S (ws[i]'hi))) := ev_var rfl
      rw [List.drop_eq_getElem_cons hi, prs] at hprs
      have tst : EvT (tAnd (tTest (tOp (rIn K false) (tVar 6) (tTup (tCons (tC (.str "+")) (tCons (tC (.str "-")) tNil))))) (tTest (tChain (rI0 fun i j => .bl (decide (i < j))) (rI0 fun i j => .bl (decide (i < j))) (tC (.int 0)) (tVar 5) (tOp (rI0 fun i j => .int (i - j)) (tCB (rLenS K) (tCons (tVar 4) tNil)) (tC (.int 1))))))
          [some (.str (S (joinL [32] ws))), some (.ref pf), some (.int sg), some (.ref pw), some (.ref pe), some (.int (i : Nat)), some (.str (S (ws[i]'hi))), none] (upd H4 tt (.tup [.int (i : Nat), .str (S (ws[i]'hi))])) (decide (ws[i]'hi = [43] ∨ ws[i]'hi = [45])) := by
        refine et_is (et_and (a := decide (ws[i]'hi = [43] ∨ ws[i]'hi = [45])) (b := decide ((0 : Int) < (i : Nat)) && decide (((i : Nat) : Int) < (((strW ws).length : Nat) : Int) - 1)) (et_test (ev_is (ev_inU ev6 (eu_tup (ea_cons ev_c (ea_cons ev_c ea_nil)) (by decide)) rfl rfl) (congrArg V.bl inV_sep))) fun _ => et_test (ev_chainLt ev_c (ev_var rfl) (ev_op (ev_lenL (ev_var rfl) (e5 _ _ (e4 _ _ hce))) ev_c rv_I0))) ?_
        by_cases hs : ws[i]'hi = [43] ∨ ws[i]'hi = [45]
        · have := hin i _ hwi hs
          rw [decide_eq_true hs, hlen, Bool.true_and, Bool.and_eq_true, decide_eq_true_eq, decide_eq_true_eq]
          omega
        · rw [decide_eq_false hs, Bool.false_and]
      refine s_if tst (fun hs H6 e6 => ?_) (fun hs H6 e6 => ?_)
      · have hs := of_decide_eq_true hs
        have e46 := e5.trans e6
        refine q_appU (xs := vals) (e46 _ _ hvf) (ev_var rfl) (eu_tup (ea_cons (ev_var rfl) (ea_cons (ev_var rfl) ea_nil)) (show 2 ≤ 100000 by decide)) (by rw [hpi.1]; omega) fun p H7 hpn e7 hp => ?_
        have e47 := e46.trans e7
        have hpf : p ≠ pf := fun z => by rw [z, e46 _ _ hvf] at hpn; cases hpn
        have hpw : p ≠ pw := fun z => by rw [z, e46 _ _ hvw] at hpn; cases hpn
        refine s_parL (v := .int (if ws[i]'hi = [43] then 1 else -1)) (ev_is (ev_pick (b := decide (ws[i]'hi = [43])) (et_test (ev_is (ev_eqS ev6 ev_c) (congrArg V.bl dec_S))) ev_c (ev_un ev_c ru_neg)) (by by_cases h43 : ws[i]'hi = [43] <;> simp [h43])) (el_lst ea_nil (by decide)) fun pw' H8 hpw' e8 hw8 => ?_
        have ec7 : Ex Hc (upd H7 pf (.lst (vals ++ [.ref p]))) := Ex.mut (e4.trans e47) hcf
        have ec8 : Ex Hc H8 := ec7.trans e8
        have hcw' : Hc pw' = none := fresh_back ec7 hpw'
        have e8p : H8 p = some (.tup [.int sg, .ref pw]) := e8 _ _ (by rw [upd_ne hpf]; exact hp)
        have e8w : H8 pw = some (.lst (strW cur)) := e8 _ _ (by rw [upd_ne hwf]; exact e47 _ _ hvw)
        have hpp' : p ≠ pw' := fun z => by rw [← z, upd_ne hpf, hp] at hpw'; cases hpw'
        have hww' : pw ≠ pw' := fun z => by rw [← z, upd_ne hwf, e47 _ _ hvw] at hpw'; cases hpw'
        have hfw' : pw' ≠ pf := fun z => by rw [z, upd_same] at hpw'; cases hpw'
        have ecd : Ex Hc (del (del H8 pf) pw') := ex_del (ex_del ec8 hcf) hcw'
        refine ⟨del (del H8 pf) pw', vals ++ [.ref p], done ++ [(sg, cur)], _, [], pw', ?_, eHc.trans ecd, ecd _ _ hce, del2a, del_same, hfw', del_ex.trans del_ex, e8 _ _ upd_same, hw8, (hpi.ex ecd).snoc (q := (sg, cur)) (t := p) (p := pw) ?_ ?_, by rw [List.length_append]; show done.length + 1 ≤ i + 1; omega, Nat.zero_le _, _, _, rfl⟩
        · by_cases h43 : ws[i]'hi = [43]
          · rw [if_pos h43] at hprs
            rw [if_pos h43]; exact hprs
          · rw [if_neg h43, if_pos (hs.resolve_left h43)] at hprs
            rw [if_neg h43]; exact hprs
        · rw [del_ne hpp', del_ne hpf]; exact e8p
        · rw [del_ne hww', del_ne hwf]; exact e8w
      · have hs := of_decide_eq_false hs
        have e46 := e5.trans e6
        rw [if_neg fun z => hs (.inl z), if_neg fun z => hs (.inr z)] at hprs
        refine s_app (xs := strW cur) (e46 _ _ hvw) (ev_var rfl) ev6 (by simp [strW]; omega) fun H7 e7 => ?_
        have e47 := e46.trans e7
        refine ⟨Hc, vals, done, sg, cur ++ [ws[i]'hi], pw, hprs, eHc, hce, hcf, hcw, hwf, Ex.mut (e4.trans e47) hcw, ?_, by rw [upd_same, strW_snoc], hpi, by omega, by rw [List.length_append]; show cur.length + 1 ≤ i + 1; omega, _, _, rfl⟩
        rw [upd_ne (Ne.symm hwf)]; exact e47 _ _ hvf
    · obtain ⟨Hc, vals, done, sg, cur, pw, hprs, eHc, hce, hcf, hcw, hwf, e4, hvf, hvw, hpi, hdl, hcl, y1, y2, rfl⟩ := p
      rw [List.drop_length, prs] at hprs
      refine q_appU (xs := vals) hvf (ev_var rfl) (eu_tup (ea_cons (ev_var rfl) (ea_cons (ev_var rfl) ea_nil)) (show 2 ≤ 100000 by decide)) (by rw [hpi.1]; omega) fun p H7 hpn e7 hp => ?_
      have hpf : p ≠ pf := fun z => by rw [z, hvf] at hpn; cases hpn
      have ecd : Ex Hc (del H7 pf) := ex_del (e4.trans e7) hcf
      have hpi2 : PairsIn (del H7 pf) (vals ++ [.ref p]) ((1, f0 :: fs) :: rest) := by
        rw [← hprs]
        exact (hpi.ex ecd).snoc (q := (sg, cur)) (t := p) (p := pw) (by rw [del_ne hpf]; exact hp) (by rw [del_ne hwf]; exact e7 _ _ hvw)
      generalize hvs : vals ++ [.ref p] = vals' at hpi2 ⊢
      have hcu : Ex (del H7 pf) (upd H7 pf (.lst vals')) := fun b o e => by
        have : b ≠ pf := fun z => by rw [z, del_same] at e; cases e
        rw [upd_ne this]; rw [del_ne this] at e; exact e
      obtain ⟨t0, p0, hv0, ht0, hp0⟩ := hpi2.2 0 _ rfl
      have ht0' := hcu _ _ ht0
      have hp0' := hcu _ _ hp0
      have hvl : vals'.length ≤ 100000 := by rw [← hvs, List.length_append, hpi.1]; show done.length + 1 ≤ _; omega
      refine q_asg (v := .ref p0) (ev_ixTn (i := 1) (ev_ixLn (i := 0) (ev_var rfl) ev_c upd_same hv0) ev_c ht0' rfl) fun H8 e8 => ?_
      have hp8 := e8 _ _ hp0'
      have hf8 := e8 pf _ upd_same
      have ec8 : Ex (del H7 pf) H8 := hcu.trans e8
      have eH : Ex H (del H7 pf) := eHc.trans ecd
      refine q_if (b := decide (f0.take 1 = [45])) (et_is (et_and (a := true) (et_test (ev_is (ev_opL (ev_var rfl) (el_lst (vs := []) ea_nil (by decide)) fun t H9 ht e9 => rv_neD (fun H10 e10 => dd_strs (e10 _ _ (e9 _ _ hp8)) hasc) (fun H10 e10 => dd_strs (ws := []) (e10 _ _ ht) (by simp))) ?_)) fun _ => et_test (ev_eqS (ev_slTo (w := f0) (ev_ixLn (i := 0) (ev_var rfl) ev_c hp8 rfl) (by omega)) ev_c)) ?_) (fun h45 H9 e9 => ?_) (fun h45 H9 e9 => ?_)
      · simp [PyData.eqv, PyData.eqvAll]
      · rw [Bool.true_and]; exact dec_S
      · have h45 := of_decide_eq_true h45
        have hp9 := e9 _ _ hp8
        have hf9 := e9 _ _ hf8
        have hsl1 : EvL (tSl (rSlL K) (tVar 7) (tPart (tC (.int 1))) tNoPart) [some (.str (S (joinL [32] ws))), some (.ref pf), some (.int sg), some (.ref pw), some (.ref pe), y1, y2, some (.ref p0)] H9 (strW fs) := by
          have := el_sl (K := K) (te := tVar 7) (tl := tPart (tC (.int 1))) (th := tNoPart) (σ := [some (.str (S (joinL [32] ws))), some (.ref pf), some (.int sg), some (.ref pw), some (.ref pe), y1, y2, some (.ref p0)]) (ev_var rfl) (eo_some ev_c) eo_none (sq_of hp9)
          rw [show strW (1, f0 :: fs).2 = .str (S f0) :: strW fs from rfl, cut1] at this
          exact this
        refine s_asgTL (xs := strW (f0.drop 1 :: fs)) (ev_un ev_c ru_neg) ?_ fun p1 t1 H10 hp1n e10 hp1 ht1 => ?_
        · have := el_lst (ea_cons (ev_slFrom (w := f0) (ev_ixLn (K := K) (i := 0) (ta := tVar 7) (tb := tC (.int 0)) (σ := [some (.str (S (joinL [32] ws))), some (.ref pf), some (.int sg), some (.ref pw), some (.ref pe), y1, y2, some (.ref p0)]) (ev_var rfl) ev_c hp9 rfl) (by omega)) (ea_starN (K := K) hsl1 ea_nil)) (by simp [strW]; omega)
          rw [List.append_nil] at this
          exact this
        · have hf10 := e10 _ _ hf9
          have h1f : p1 ≠ pf := fun z => by rw [z, hf9] at hp1n; cases hp1n
          have htf : t1 ≠ pf := fun z => by rw [z, hf10] at ht1; cases ht1
          have hl0 : 0 < vals'.length := by have := (List.getElem?_eq_some_iff.mp hv0).1; exact this
          refine ⟨.ref pf, rfl, pf, vals', 0, 0, rfl, rfl, hf10, ixN_nat hl0, ?_⟩
          have ecd2 : Ex (del H7 pf) (del H10 pf) := ex_del (ec8.trans (e9.trans e10)) del_same
          refine s_ret (ev_var rfl) fun H11 e11 => q pf H11 (vals'.set 0 (.ref t1)) (eH.trans (ecd2.trans (del_upd.trans e11))) (e11 _ _ upd_same) ?_
          rw [adj, if_pos h45]
          refine PairsIn.ex (H := del H10 pf) ⟨by rw [List.length_set]; exact hpi2.1, fun k u hu => ?_⟩ (del_upd.trans e11)
          cases k with
          | zero =>
            cases hu
            exact ⟨t1, p1, by rw [List.getElem?_set_self hl0], by rw [del_ne htf]; exact ht1, by rw [del_ne h1f]; exact hp1⟩
          | succ k =>
            obtain ⟨t', p', g1, g2, g3⟩ := hpi2.2 (k + 1) u hu
            exact ⟨t', p', by rw [List.getElem?_set_ne (by omega)]; exact g1, ecd2 _ _ g2, ecd2 _ _ g3⟩
      · have h45 := of_decide_eq_false h45
        refine s_ret (ev_var rfl) fun H10 e10 => q pf H10 vals' (eH.trans (ec8.trans (e9.trans e10))) (e10 _ _ (e9 _ _ hf8)) ?_
        rw [adj, if_neg h45]
        exact hpi2.ex (ec8.trans (e9.trans e10))
end
end Q
set_option Elab.async false
set_option linter.all false
set_option maxRecDepth 100000
set_option maxHeartbeats 4000000
namespace Q
open PySem PySem.Spec PyProof.Rows L2
open Evl SX TL
/-! ## Plain: a text of terms and its parse -/
def Okw (w : W) : Prop := w ≠ [] ∧ (∀ c ∈ w, c ≠ 32 ∧ c ≠ 43 ∧ c ≠ 45 ∧ c < 128) ∧ w.length ≤ 40
def sgnW (s : Int) : W := if s < 0 then [45] else [43]
def neg1 (s : Int) : List W → List W
  | f :: fs => if s < 0 then (45 :: f) :: fs else f :: fs
  | [] => []
abbrev ST := Int × Term
def more (r : List ST) : List W := r.flatMap fun q => sgnW q.1 :: wordsT q.2
def wsOf : List ST → List W
  | [] => []
  | q :: r => neg1 q.1 (wordsT q.2) ++ more r
def Sg (s : Int) : Prop := s = 1 ∨ s = -1
theorem okw_num {n : Nat} (h : n < 10 ^ 40) : Okw (numL n) := ⟨numL_ne n, fun c hc => by have := numL_digits n c hc; omega, numL_len (by decide) h⟩
theorem okw_commas {ns : List Nat} (h : Small ns) : Okw (commas ns) := ⟨ne_commas h.1, fun c hc => by have := mem_commas hc; omega, by have := small_commas h; omega⟩
def okwB (w : W) : Bool := !w.isEmpty && w.all (fun c => c != 32 && c != 43 && c != 45 && decide (c < 128)) && decide (w.length ≤ 40)
theorem okw_by {w : W} (h : okwB w = true) : Okw w := by
  unfold okwB at h
  simp only [Bool.and_eq_true, List.all_eq_true, decide_eq_true_eq, bne_iff_ne, Bool.not_eq_true', List.isEmpty_eq_false_iff] at h
  exact ⟨h.1.1, fun c hc => by have := h.1.2 c hc; exact ⟨this.1.1.1, this.1.1.2, this.1.2, this.2⟩, h.2⟩
theorem okw_part {l r : Nat} {p : Part} (h : PartOk l r p) (hg : Good l r) : ∀ w ∈ wordsP p, Okw w := by
  have h8 := hg.1
  have h9 := hg.2
  cases p with
  | whr wh =>
    cases wh with
    | all =>
      intro w hw; simp only [wordsP, wordsW, List.mem_singleton] at hw
      subst hw; exact okw_by (by decide +kernel)
    | left ns =>
      intro w hw; simp only [wordsP, wordsW, List.mem_cons, List.not_mem_nil, or_false] at hw
      rcases hw with rfl | rfl
      · exact okw_by (by decide +kernel)
      · exact okw_commas (vls_small h (by omega))
    | right ns =>
      intro w hw; simp only [wordsP, wordsW, List.mem_cons, List.not_mem_nil, or_false] at hw
      rcases hw with rfl | rfl
      · exact okw_by (by decide +kernel)
      · exact okw_commas (vls_small h (by omega))
    | cell a b =>
      obtain ⟨h1, h2⟩ := h
      intro w hw; simp only [wordsP, wordsW, List.mem_cons, List.not_mem_nil, or_false] at hw
      rcases hw with rfl | rfl | rfl
      · exact okw_by (by decide +kernel)
      · exact okw_num (by omega)
      · exact okw_num (by omega)
  | block us ws =>
    obtain ⟨h1, h2⟩ := h
    intro w hw; simp only [wordsP, List.mem_cons, List.not_mem_nil, or_false] at hw
    rcases hw with rfl | rfl | rfl
    · exact okw_by (by decide +kernel)
    · exact okw_commas (vls_small h1 (by omega))
    · exact okw_commas (vls_small h2 (by omega))
  | ends us ws =>
    obtain ⟨h1, h2, h3, h4⟩ := h
    have su : Small us := ⟨fun z => by rw [z] at h1; simp at h1; omega, by omega, h3⟩
    have sw : Small ws := ⟨fun z => by rw [z] at h2; simp at h2; omega, by omega, h4⟩
    intro w hw; simp only [wordsP, List.mem_cons, List.not_mem_nil, or_false] at hw
    rcases hw with rfl | rfl | rfl | rfl
    · exact okw_by (by decide +kernel)
    · exact okw_commas su
    · exact okw_by (by decide +kernel)
    · exact okw_commas sw
theorem wordsP_le (p : Part) : (wordsP p).length ≤ 4 := by
  cases p with
  | whr wh => cases wh <;> simp [wordsP, wordsW]
  | block => simp [wordsP]
  | ends => simp [wordsP]
theorem okw_term {l r : Nat} {t : Term} (h : TermOk l r t) (hg : Good l r) : ∀ w ∈ wordsT t, Okw w ∨ w = wd "*" := by
  obtain ⟨n, p⟩ := t
  cases n with
  | none => exact fun w hw => .inl (okw_part h.1 hg w hw)
  | some n =>
    intro w hw
    have hw : w = numL n ∨ w = wd "*" ∨ w ∈ wordsP p := by simpa [wordsT] using hw
    rcases hw with rfl | rfl | hw
    · exact .inl (okw_num (by have := h.2 n rfl; omega))
    · exact .inr rfl
    · exact .inl (okw_part h.1 hg w hw)
theorem okw_termA {l r : Nat} {t : Term} (h : TermOk l r t) (hg : Good l r) : ∀ w ∈ wordsT t, Okw w := fun w hw => (okw_term h hg w hw).elim id fun e => by rw [e]; exact okw_by (by decide +kernel)
theorem wordsT_ne (t : Term) : wordsT t ≠ [] := by
  obtain ⟨n, p⟩ := t
  cases n with
  | none => have := wordsP_pos p; intro z; rw [wordsT] at z; rw [z] at this; simp at this
  | some n => simp [wordsT]
theorem wordsT_le (t : Term) : (wordsT t).length ≤ 6 := by
  obtain ⟨n, p⟩ := t
  have := wordsP_le p
  cases n with
  | none => rw [wordsT]; omega
  | some n => simp [wordsT]; omega
theorem not_sep {w : W} (h : Okw w) : ¬ (w = [43] ∨ w = [45]) := by
  rintro (e | e)
  · have := h.2.1 43 (by rw [e]; simp); omega
  · have := h.2.1 45 (by rw [e]; simp); omega
/-- good terms -/
def TsOk (l r : Nat) (ts : List ST) : Prop := ∀ q ∈ ts, Sg q.1 ∧ TermOk l r q.2
theorem prs_words : ∀ (ws1 : List W) (sg : Int) (cur : List W) (done : List (Int × List W)) (rest : List W), (∀ w ∈ ws1, ¬ (w = [43] ∨ w = [45])) → prs sg cur done (ws1 ++ rest) = prs sg (cur ++ ws1) done rest
  | [], sg, cur, done, rest, _ => by rw [List.nil_append, List.append_nil]
  | w :: ws1, sg, cur, done, rest, h => by
    have h0 := h w List.mem_cons_self
    rw [List.cons_append, prs, if_neg fun z => h0 (.inl z), if_neg fun z => h0 (.inr z), prs_words ws1 sg (cur ++ [w]) done rest fun w hw => h w (List.mem_cons_of_mem _ hw), List.append_assoc]
    rfl
def mp (ts : List ST) : List (Int × List W) := ts.map fun q => (q.1, wordsT q.2)
theorem prs_more {l r : Nat} (hg : Good l r) : ∀ (ts : List ST) (sg : Int) (cur : List W) (done : List (Int × List W)), TsOk l r ts → prs sg cur done (more ts) = done ++ (sg, cur) :: mp ts
  | [], sg, cur, done, _ => rfl
  | q :: ts, sg, cur, done, h => by
    obtain ⟨hs, ht⟩ := h q List.mem_cons_self
    have hns : ∀ w ∈ wordsT q.2, ¬ (w = [43] ∨ w = [45]) := fun w hw => not_sep (okw_termA ht hg w hw)
    have e : more (q :: ts) = sgnW q.1 :: (wordsT q.2 ++ more ts) := by unfold more; rw [List.flatMap_cons]; rfl
    have ih := prs_more hg ts q.1 (wordsT q.2) (done ++ [(sg, cur)]) fun q hq => h q (List.mem_cons_of_mem _ hq)
    rw [e]
    have key : prs q.1 [] (done ++ [(sg, cur)]) (wordsT q.2 ++ more ts) = done ++ (sg, cur) :: mp (q :: ts) := by
      rw [prs_words _ _ _ _ _ hns, List.nil_append, ih, List.append_assoc]; rfl
    rcases hs with hs | hs
    · rw [show sgnW q.1 = [43] by rw [hs]; rfl, prs, if_pos rfl, ← hs]; exact key
    · rw [show sgnW q.1 = [45] by rw [hs]; rfl, prs, if_neg (by decide), if_pos rfl, ← hs]; exact key
theorem neg1_ok {s : Int} {ws : List W} (h : ∀ w ∈ ws, Okw w) : ∀ w ∈ neg1 s ws, ¬ (w = [43] ∨ w = [45]) ∧ 32 ∉ w ∧ w.length ≤ 41 ∧ w ≠ [] := by
  have base : ∀ w, Okw w → ¬ (w = [43] ∨ w = [45]) ∧ 32 ∉ w ∧ w.length ≤ 41 ∧ w ≠ [] := fun w ho => ⟨not_sep ho, fun z => (ho.2.1 32 z).1 rfl, by have := ho.2.2; omega, ho.1⟩
  intro w hw
  cases ws with
  | nil => simp [neg1] at hw
  | cons f fs =>
    rw [neg1] at hw
    split at hw
    · rcases List.mem_cons.mp hw with e | e
      · have ho := h f List.mem_cons_self
        subst e
        refine ⟨?_, ?_, by have := ho.2.2; show f.length + 1 ≤ 41; omega, by simp⟩
        · rintro (e | e)
          · injection e with e1 e2; omega
          · injection e with e1 e2; exact ho.1 e2
        · intro z
          rcases List.mem_cons.mp z with e | e
          · omega
          · exact (ho.2.1 32 e).1 rfl
      · exact base w (h w (List.mem_cons_of_mem _ e))
    · exact base w (h w hw)
/-- what a text is that parses -/
def TxtOk (ws : List W) (R : List (Int × List W)) : Prop := ∃ (f0 : W) (fs : List W) (rest : List (Int × List W)), ws ≠ [] ∧ (∀ w ∈ ws, 32 ∉ w) ∧ Inner ws ∧ (joinL [32] ws).length ≤ 90000 ∧ ws.length ≤ 90000 ∧
  prs 1 [] [] ws = (1, f0 :: fs) :: rest ∧ (∀ w ∈ f0 :: fs, Asc w) ∧ f0.length ≤ 90000 ∧ fs.length ≤ 90000 ∧ adj ((1, f0 :: fs) :: rest) = R
theorem more_mem {l r : Nat} (hg : Good l r) {ts : List ST} (h : TsOk l r ts) : ∀ w ∈ more ts, w = [43] ∨ w = [45] ∨ Okw w := by
  intro w hw
  obtain ⟨q, hq, hw⟩ := List.mem_flatMap.mp hw
  rcases List.mem_cons.mp hw with e | e
  · subst e
    unfold sgnW
    split
    · exact .inr (.inl rfl)
    · exact .inl rfl
  · exact .inr (.inr (okw_termA (h q hq).2 hg w e))
theorem more_len (ts : List ST) : (more ts).length ≤ 7 * ts.length := by
  induction ts with
  | nil => simp [more]
  | cons q ts ih =>
    have e : more (q :: ts) = sgnW q.1 :: (wordsT q.2 ++ more ts) := by unfold more; rw [List.flatMap_cons]; rfl
    have := wordsT_le q.2
    rw [e, List.length_cons, List.length_append, List.length_cons]; omega
/-- a list whose first and last are none -/
theorem last_ok {l r : Nat} (hg : Good l r) : ∀ (ts : List ST) (pre : List W), pre ≠ [] → (∀ w ∈ pre, ¬ (w = [43] ∨ w = [45])) → TsOk l r ts → ∀ i w, (pre ++ more ts)[i]? = some w → (w = [43] ∨ w = [45]) → i + 1 < (pre ++ more ts).length
  | [], pre, hne, hp, _ => fun i w hi hs => by
    rw [show more [] = [] from rfl, List.append_nil] at hi
    exact absurd hs (hp w (List.mem_of_getElem? hi))
  | q :: ts, pre, hne, hp, h => fun i w hi hs => by
    have e : more (q :: ts) = sgnW q.1 :: (wordsT q.2 ++ more ts) := by unfold more; rw [List.flatMap_cons]; rfl
    have ht := (h q List.mem_cons_self).2
    have ih := last_ok hg ts (wordsT q.2) (wordsT_ne _) (fun w hw => not_sep (okw_termA ht hg w hw)) fun q hq => h q (List.mem_cons_of_mem _ hq)
    have hpos : 0 < (wordsT q.2).length := List.length_pos_iff.mpr (wordsT_ne _)
    rw [e] at hi ⊢
    rw [List.length_append, List.length_cons]
    by_cases h1 : i < pre.length
    · rw [List.getElem?_append_left h1] at hi
      exact absurd hs (hp w (List.mem_of_getElem? hi))
    · rw [List.getElem?_append_right (by omega)] at hi
      by_cases h2 : i - pre.length = 0
      · rw [List.length_append]; omega
      · obtain ⟨k, hk⟩ : ∃ k, i - pre.length = k + 1 := ⟨i - pre.length - 1, by omega⟩
        rw [hk, List.getElem?_cons_succ] at hi
        have := ih k w hi hs
        omega
theorem neg1_ne {s : Int} {ws : List W} (h : ws ≠ []) : neg1 s ws ≠ [] := by
  cases ws with
  | nil => exact absurd rfl h
  | cons f fs => rw [neg1]; split <;> simp
theorem neg1_len {s : Int} {ws : List W} : (neg1 s ws).length = ws.length := by
  cases ws with
  | nil => rfl
  | cons f fs => rw [neg1]; split <;> rfl
theorem txt_ok {l r : Nat} (hg : Good l r) {ts : List ST} (hne : ts ≠ []) (h : TsOk l r ts) (hl : ts.length ≤ 100) : TxtOk (wsOf ts) (mp ts) := by
  obtain ⟨q, ts, rfl⟩ : ∃ q r, ts = q :: r := by
    cases ts with
    | nil => exact absurd rfl hne
    | cons q r => exact ⟨q, r, rfl⟩
  obtain ⟨s, t⟩ := q
  have hr : TsOk l r ts := fun q hq => h q (List.mem_cons_of_mem _ hq)
  obtain ⟨hs, ht⟩ := h (s, t) List.mem_cons_self
  have ho := okw_termA ht hg
  obtain ⟨f, fs, hw⟩ : ∃ f fs, wordsT t = f :: fs := by
    cases e : wordsT t with
    | nil => exact absurd e (wordsT_ne t)
    | cons f fs => exact ⟨f, fs, rfl⟩
  have hn := neg1_ok (s := s) ho
  have hwl := wordsT_le t
  have hml := more_len ts
  have hall : ∀ w ∈ wsOf ((s, t) :: ts), 32 ∉ w ∧ w.length ≤ 41 := fun w hw => by
    rcases List.mem_append.mp hw with hw | hw
    · exact ⟨(hn w hw).2.1, (hn w hw).2.2.1⟩
    · rcases more_mem hg hr w hw with e | e | e
      · subst e; decide
      · subst e; decide
      · exact ⟨fun z => (e.2.1 32 z).1 rfl, by have := e.2.2; omega⟩
  have hlen : (wsOf ((s, t) :: ts)).length ≤ 706 := by
    show (neg1 s (wordsT t) ++ more ts).length ≤ _
    rw [List.length_append, neg1_len]
    have : (ts.length + 1) ≤ 100 := hl
    omega
  have hjl : (joinL [32] (wsOf ((s, t) :: ts))).length ≤ 90000 := by
    have := joinL_len 32 41 (wsOf ((s, t) :: ts)) fun w hw => (hall w hw).2
    omega
  have hR : prs 1 [] [] (wsOf ((s, t) :: ts)) = (1, neg1 s (wordsT t)) :: mp ts := by
    show prs 1 [] [] (neg1 s (wordsT t) ++ more ts) = _
    rw [prs_words _ _ _ _ _ (fun w hw => (hn w hw).1), List.nil_append, prs_more hg ts _ _ _ hr]; rfl
  have hne1 : wsOf ((s, t) :: ts) ≠ [] := fun z => neg1_ne (s := s) (wordsT_ne t) (List.append_eq_nil_iff.mp z).1
  have hin : Inner (wsOf ((s, t) :: ts)) := fun i w hi hsp => by
    refine ⟨?_, last_ok hg ts (neg1 s (wordsT t)) (neg1_ne (wordsT_ne t)) (fun w hw => (hn w hw).1) hr i w hi hsp⟩
    rcases Nat.eq_zero_or_pos i with e | e
    · subst e
      exfalso
      have hi : (neg1 s (wordsT t) ++ more ts)[0]? = some w := hi
      rw [List.getElem?_append_left (List.length_pos_iff.mpr (neg1_ne (wordsT_ne t)))] at hi
      exact (hn w (List.mem_of_getElem? hi)).1 hsp
    · exact e
  have hf := ho f (by rw [hw]; exact List.mem_cons_self)
  have hasc : ∀ w ∈ f :: fs, Asc w := fun w hm c hc => (ho w (by rw [hw]; exact hm)).2.1 c hc |>.2.2.2
  have hfs : fs.length ≤ 6 := by rw [hw] at hwl; simp at hwl; omega
  have hfl := hf.2.2
  rw [hw, neg1] at hR
  by_cases hsn : s < 0
  · rw [if_pos hsn] at hR
    refine ⟨45 :: f, fs, mp ts, hne1, fun w hw => (hall w hw).1, hin, hjl, by omega, hR, fun w hm => ?_, by show f.length + 1 ≤ _; omega, by omega, ?_⟩
    · rcases List.mem_cons.mp hm with e | e
      · subst e
        intro c hc
        rcases List.mem_cons.mp hc with e | e
        · omega
        · exact hasc f List.mem_cons_self c e
      · exact hasc w (List.mem_cons_of_mem _ e)
    · rw [adj, if_pos (by rfl)]
      have : s = -1 := by rcases hs with e | e <;> omega
      show (-1, f :: fs) :: mp ts = (s, wordsT t) :: mp ts
      rw [this, hw]
  · rw [if_neg hsn] at hR
    refine ⟨f, fs, mp ts, hne1, fun w hw => (hall w hw).1, hin, hjl, by omega, hR, hasc, by omega, by omega, ?_⟩
    have h45 : ¬ f.take 1 = [45] := fun z => by
      cases f with
      | nil => simp at z
      | cons c cs =>
        have : c = 45 := by simpa using z
        exact (hf.2.1 c List.mem_cons_self).2.2.1 this
    rw [adj, if_neg h45]
    have : s = 1 := by rcases hs with e | e <;> omega
    show (1, f :: fs) :: mp ts = (s, wordsT t) :: mp ts
    rw [this, hw]
/-! ### the text itself -/
theorem joinL_app {z : Nat} : ∀ {a b : List W}, a ≠ [] → b ≠ [] → joinL [z] (a ++ b) = joinL [z] a ++ (z :: joinL [z] b)
  | [], _, h, _ => absurd rfl h
  | [x], y :: b, _, _ => by show x ++ ([z] ++ joinL [z] (y :: b)) = _; rfl
  | [x], [], _, h => absurd rfl h
  | x :: y :: a, b, _, hb => by
    have ih := joinL_app (z := z) (a := y :: a) (b := b) (by simp) hb
    show x ++ ([z] ++ joinL [z] ((y :: a) ++ b)) = (x ++ ([z] ++ joinL [z] (y :: a))) ++ (z :: joinL [z] b)
    rw [ih]; simp
def txtT (t : Term) : W := joinL [32] (wordsT t)
def txts : List ST → W
  | [] => []
  | q :: r => (if q.1 < 0 then [45] else []) ++ txtT q.2 ++ r.flatMap fun q => [32] ++ sgnW q.1 ++ [32] ++ txtT q.2
theorem joinL_neg1 {s : Int} {ws : List W} (h : ws ≠ []) : joinL [32] (neg1 s ws) = (if s < 0 then [45] else []) ++ joinL [32] ws := by
  cases ws with
  | nil => exact absurd rfl h
  | cons f fs =>
    rw [neg1]
    by_cases hs : s < 0
    · rw [if_pos hs, if_pos hs]
      cases fs with
      | nil => rfl
      | cons g gs => rfl
    · rw [if_neg hs, if_neg hs]; rfl
theorem join_more {pre : List W} (hp : pre ≠ []) : ∀ ts : List ST, joinL [32] (pre ++ more ts) = joinL [32] pre ++ ts.flatMap fun q => [32] ++ sgnW q.1 ++ [32] ++ txtT q.2
  | [] => by rw [show more [] = [] from rfl, List.append_nil]; simp
  | q :: ts => by
    have e : more (q :: ts) = (sgnW q.1 :: wordsT q.2) ++ more ts := by unfold more; rw [List.flatMap_cons]
    have ih := join_more (pre := pre ++ (sgnW q.1 :: wordsT q.2)) (by simp) ts
    rw [e, ← List.append_assoc, ih, joinL_app hp (by simp), List.flatMap_cons]
    have e2 : joinL [32] (sgnW q.1 :: wordsT q.2) = sgnW q.1 ++ (32 :: txtT q.2) := joinL_app (a := [sgnW q.1]) (by simp) (wordsT_ne _)
    rw [e2]; simp
theorem txts_eq : ∀ {ts : List ST}, ts ≠ [] → txts ts = joinL [32] (wsOf ts)
  | [], h => absurd rfl h
  | q :: ts, _ => by
    show _ = joinL [32] (neg1 q.1 (wordsT q.2) ++ more ts)
    rw [join_more (neg1_ne (wordsT_ne _)), joinL_neg1 (wordsT_ne _)]; rfl
end Q
set_option Elab.async false
set_option linter.all false
set_option maxRecDepth 100000
set_option maxHeartbeats 4000000
namespace Q
open PySem PySem.Spec PyProof.Rows L2
open Evl SX TL
def sumG (ts : List ST) (i j : Nat) : Int := (ts.map fun q => gridT q.2 i j * q.1).sum
section
variable {K : PySem.W.Frag} {σ : L2.St} {H H' : Hp} {ta te tb : TE} {v : V} {a p : Addr} {xs : List V} {D : Ends} {tz : TS} {CQ : Addr} {l r : Nat}
/-- a turn over (index, (sign, words)) -/
def YTerm (R : List (Int × List W)) : Nat → Hp → V → Hp → Prop := fun i H v H' => ∃ T t p s ws, v = .ref T ∧ H T = none ∧ H' = upd H T (.tup [.int (i : Nat), .ref t]) ∧ H t = some (.tup [.int s, .ref p]) ∧ H p = some (.lst (strW ws)) ∧ R[i]? = some (s, ws)
theorem evi_terms {ws : List W} {R : List (Int × List W)} (ha : Ev te σ H (.str (S (joinL [32] ws)))) (h : TxtOk ws R) : EvI Ex (iEnum K (tCons (tCall sp_terms_of [] E0 (tCons te tNil)) tNil)) σ H R.length (YTerm R) := by
  obtain ⟨f0, fs, rest, h1, h2, h3, h4, h5, h6, h7, h8, h9, h10⟩ := h
  intro H1 e1 q hq
  refine ha H1 e1 _ fun H2 e2 => ⟨ws, f0, fs, rest, rfl, h1, h2, h3, h4, h5, h6, h7, h8, h9, fun a H3 vals e3 hv hp => ?_⟩
  rw [h10] at hp
  refine ⟨a, vals, rfl, sq_of hv, hq _ _ (fun H4 => SqL K H4 a vals ∧ PairsIn H4 vals R) (e2.trans e3) ?_ fun H4 e4 => ⟨sq_of (e4 _ _ hv), hp.ex e4⟩⟩
  have w : Walk (Ite K a) vals.length (fun H => SqL K H a vals) (YPair (fun i => some (.int (i : Nat))) (fun i => vals[i]?)) := walk_enum
  rw [hp.1] at w
  refine w.mono (fun H g => g.1) fun i H x H' hi g y => ?_
  obtain ⟨T, u, v, rfl, hT, rfl, hu, hv⟩ := y
  cases hu
  have hri : R[i]? = some (R[i]'hi) := List.getElem?_eq_getElem hi
  obtain ⟨t, p, k1, k2, k3⟩ := g.2.2 i _ hri
  have hv2 : vals[i]? = some v := hv
  rw [k1] at hv2
  cases hv2
  exact ⟨T, t, p, _, _, rfl, hT, rfl, k2, k3, hri⟩
/-- a pair within a pair, unpacked -/
theorem g_pair2 {i j m : Nat} {T t : Addr} {x y z : V} (h : H T = some (.tup [x, .ref t])) (h2 : H t = some (.tup [y, z])) {Q : L2.St → Hp → Prop} (q : Q (((σ.set i (some x)).set j (some y)).set m (some z)) H) :
    gTup K 2 (gCons (gName i) (gCons (gTup K 2 (gCons (gName j) (gCons (gName m) gNil))) gNil)) (.ref T) σ H Q :=
  ⟨T, _, rfl, st_of h, rfl, x, _, rfl, .ref t, _, rfl, ⟨t, _, rfl, st_of h2, rfl, y, _, rfl, z, _, rfl, rfl, rfl, q⟩⟩
theorem er_mulR {X : Cx} {g : Nat → Nat → Int} {n : Int} (ha : EvR Ex ta σ H fun _ v H' => ∃ q, v = .ref q ∧ Qn CQ H' q l r g) (hb : ∀ H1, Ex H H1 → Ev tb σ H1 (.int n)) (hg : Good l r) (hn : -(2 ^ 64) < n ∧ n < 2 ^ 64) :
    EvR Ex (tOp (rBinI X CQ (sp_qmul CQ)) ta tb) σ H (fun _ v H' => ∃ q, v = .ref q ∧ Qn CQ H' q l r (fun i j => g i j * n)) := fun H1 e Q k =>
  ha H1 e _ fun v H2 e2 ⟨q, hv, hq⟩ => hb H2 (e.trans e2) H2 (Ex.refl _) _ fun H3 e3 => by
    subst hv
    have hq3 := hq.ex e3
    obtain ⟨dx, a, h1, _⟩ := id hq3
    exact ⟨q, n, rfl, rfl, .inr ⟨dx, _, h1⟩, q, l, r, g, n, rfl, hq3, hg, hn, fun t H4 e4 ht => k _ _ (e2.trans (e3.trans e4)) ⟨t, rfl, ht⟩⟩
/-- x op y of two questions -/
theorem er_qop {X : Cx} {op : Int → Int → Int} {f g : Nat → Nat → Int} (ha : EvR Ex ta σ H fun _ v H' => ∃ q, v = .ref q ∧ Qn CQ H' q l r f) (hb : EvR Ex tb σ H fun _ v H' => ∃ q, v = .ref q ∧ Qn CQ H' q l r g) (hg : Good l r) :
    EvR Ex (tOp (rBin2 X CQ (sp_qop CQ op)) ta tb) σ H (fun _ v H' => ∃ q, v = .ref q ∧ Qn CQ H' q l r (fun i j => op (f i j) (g i j))) := fun H1 e Q k =>
  ha H1 e _ fun v H2 e2 ⟨q, hv, hq⟩ => hb H2 (e.trans e2) _ fun u H3 e3 ⟨q', hu, hq'⟩ => by
    subst hv hu
    have hq3 := hq.ex e3
    obtain ⟨dx, a, h1, _⟩ := id hq3
    obtain ⟨dy, b, h2, _⟩ := id hq'
    exact ⟨q, q', rfl, rfl, .inr ⟨dx, _, h1⟩, .inr ⟨dy, _, h2⟩, q, q', l, r, f, g, rfl, hq3, hq', hg, fun t H4 e4 ht => k _ _ (e2.trans (e3.trans e4)) ⟨t, rfl, ht⟩⟩
theorem r_q {q : Addr} {f : Nat → Nat → Int} (h : Ev te σ H (.ref q)) (hq : Qn CQ H q l r f) : EvR Ex te σ H fun _ v H' => ∃ q, v = .ref q ∧ Qn CQ H' q l r f := fun H1 e Q k => h H1 e _ fun H2 e2 => k _ _ e2 ⟨q, rfl, hq.ex (e.trans e2)⟩
end
section
variable {P : Program} {w : World} {K : PySem.W.Frag} {mg : Str → Option Value} {base : Heap} {f : Addr} {fd : FuncData} {CT CQ : Addr}
abbrev s_read : Stmt := topS 49
def sp_read (C : Addr) : Sp := fun vs H Q _ => ∃ (l r : Nat) (ws : List W) (ts : List ST), vs = [.int l, .int r, .str (S (joinL [32] ws))] ∧ Good l r ∧ TxtOk ws (mp ts) ∧ TsOk l r ts ∧ ∀ q H2, Ex H H2 → Qn C H2 q l r (sumG ts) → Q (.ref q) H2
abbrev N_read : List Str := ["left", "right", "text", "found", "index", "sign", "words", "term"]
theorem sc_read : FnScope N_read ["left", "right", "text"] (defScope s_read) := ⟨rfl, rfl, rfl, by decide +kernel, rfl, by decide +kernel, by decide +kernel⟩
theorem ok_read (F : Dm K "read_question" s_read f fd) (T : Tx K mg) (QC : QueC K CQ) (hcq : mg "Question" = some (.ref CQ)) (cs : Cl P w K mg base 3 "check_size" sp_check_size) (cx : Cl P w K mg base 1 "check_text" sp_check_text) (ca : CmC P w K mg base 5 CQ "at" (sp_qat CQ))
    (cm : MuI P w K mg base 5 CQ (sp_qmul CQ)) (cp : OwC P w K mg base 5 CQ (PySem.dunder Operator.Add.info.2) (sp_qop CQ (· + ·))) (ct : Cl P w K mg base 1 "terms_of" sp_terms_of) (ce : Cl P w K mg base 8 "term_of" (sp_term_of CQ)) :
    FnOk P w K mg base CX0 9 f fd ["left", "right", "text"] (sp_read CQ) := by
  refine F.ok sc_read (fun vs H Q E h => ?_) (fun cdv A outer s H vs Q E hr h => ?_)
  · obtain ⟨l, r, ws, ts, rfl, _⟩ := h
    rfl
  · obtain ⟨l, r, ws, ts, rfl, hg, htx, hts, q⟩ := h
    have nd := sc_read.nd
    refine ⟨_, PSs.nox (pss_cons (ps_expr (pc cs hr (pa_cons (pv 0) pa_nil))) (pss_cons (ps_expr (pc cs hr (pa_cons (pv 1) pa_nil))) (pss_cons (ps_expr (pc cx hr (pa_cons (pv 2) pa_nil)))
      (pss_cons (ps_set (i := 3) nd rfl (.inl rfl) (pmuI cm QC.sf hr (pcm ca hcq hr (pa_cons (pv 0) (pa_cons (pv 1) (pa_cons (pe_tup (pa_cons pe_str pa_nil)) pa_nil)))) pe_int))
      (pss_cons (ps_for PassesOwn.never rfl (pi_enum (by rfl) T.enumerate (pa_cons (pc ct hr (pa_cons (pv 2) pa_nil)) pa_nil)) (pg_tup rfl (pgs_cons (pg_name (i := 4) nd rfl (Or.inl rfl)) (pgs_cons (pg_tup rfl (pgs_cons (pg_name (i := 5) nd rfl (Or.inl rfl)) (pgs_cons (pg_name (i := 6) nd rfl (Or.inl rfl)) pgs_nil))) pgs_nil)))
        (pss_cons (ps_set (i := 7) nd rfl (.inl rfl) (pc ce hr (pa_cons (pv 0) (pa_cons (pv 1) (pa_cons (pv 6) pa_nil)))))
        (pss_cons (ps_if (pt_cmpR op_isN (pv 7) pe_non (nomark _)) (pss_one ps_never) pss_nil)
        (pss_one (ps_set (i := 3) nd rfl (.inl rfl) (pop2 cp QC.sf hr (pv 3) (pmuI cm QC.sf hr (pv 7) (pv 5))))))))
      (pss_one (ps_ret (pv 3)))))))), ?_⟩
    have h8 := hg.1
    have h9 := hg.2
    refine q_drop (ev_call (z := .non) (ea_cons (ev_var rfl) ea_nil) fun H1 e1 Q q E => ⟨(l : Nat), rfl, by omega, by omega, q _ (Ex.refl _)⟩) fun H1 e1 => ?_
    refine q_drop (ev_call (z := .non) (ea_cons (ev_var rfl) ea_nil) fun H1 e1 Q q E => ⟨(r : Nat), rfl, by omega, by omega, q _ (Ex.refl _)⟩) fun H2 e2 => ?_
    refine q_drop (ev_call (z := .non) (ea_cons (ev_var rfl) ea_nil) fun H1 e1 Q q E => ⟨_, rfl, q⟩) fun H3 e3 => ?_
    refine qr_asg (Φ := fun _ v H' => ∃ q, v = .ref q ∧ Qn CQ H' q l r (fun i j => (if whB .all i j then 1 else 0) * 0)) (er_mulR (l := l) (r := r) (fun H4 e4 Q k => ⟨rfl, _, rfl, _, rfl, by show 1 ≤ sizeLine; decide, fun t ht => ⟨l, r, t, .all, rfl, upd_same, trivial, hg, fun u H5 e5 hu => k _ _ ((Ex.new ht).trans e5) ⟨u, rfl, hu⟩⟩⟩)
      (fun H4 e4 => ev_c) hg (by decide)) fun v H4 e4 ⟨q0, hv, hq0⟩ => ?_
    subst hv
    have k0 := evi_terms (K := K) (te := tVar 2) (σ := [some (.int l), some (.int r), some (.str (S (joinL [32] ws))), some (.ref q0), none, none, none, none]) (H := H4) (ev_var rfl) htx
    refine q_forI k0 (fun H5 i σ' H' => Ex H5 H' ∧ ∃ q1 a b c d, Qn CQ H' q1 l r (sumG (ts.take i)) ∧ σ' = [some (.int l), some (.int r), some (.str (S (joinL [32] ws))), some (.ref q1), a, b, c, d])
      (fun H5 e5 => ⟨Ex.refl _, q0, _, _, _, _, (hq0.ex e5).congr fun i j _ _ => by rw [Int.mul_zero]; rfl, rfl⟩) (fun _ _ _ _ p => p.1) (fun H5 e5 i x σ' H6 H7 hi p y => ?_) (fun H5 e5 σ' H' p => ?_)
    · obtain ⟨e6, q1, a, b, c, d, hq1, rfl⟩ := p
      obtain ⟨T', t', p', s', ws', rfl, hT, rfl, ht', hp', hri⟩ := y
      have e7 : Ex H6 (upd H6 T' (.tup [.int (i : Nat), .ref t'])) := Ex.new hT
      obtain ⟨st, hst, he⟩ : ∃ st, ts[i]? = some st ∧ (st.1, wordsT st.2) = (s', ws') := by
        unfold mp at hri
        rw [List.getElem?_map] at hri
        cases hti : ts[i]? with
        | none => rw [hti] at hri; cases hri
        | some st => rw [hti] at hri; exact ⟨st, rfl, Option.some.inj hri⟩
      obtain ⟨rfl, rfl⟩ := Prod.mk.inj he
      obtain ⟨hs, hto⟩ := hts st (List.mem_of_getElem? hst)
      refine g_pair2 upd_same (e7 _ _ ht') ?_
      refine qr_asg (Φ := fun _ v H' => ∃ q, v = .ref q ∧ Qn CQ H' q l r (gridT st.2)) (er_call (ea_cons (ev_var rfl) (ea_cons (ev_var rfl) (ea_cons (ev_var rfl) ea_nil))) (fun H8 e8 Q k => ⟨l, r, p', st.2, rfl, e8 _ _ (e7 _ _ hp'), hto, hg, fun u H9 e9 hu => k _ _ e9 ⟨u, rfl, hu⟩⟩) (fun _ _ _ _ _ _ h => h)) fun v H8 e8 ⟨q2, hv, hq2⟩ => ?_
      subst hv
      refine q_no (et_test (ev_is (ev_isN (ev_var rfl)) rfl)) fun H9 e9 => ?_
      refine (er_qop (op := (· + ·)) (r_q (ev_var rfl) (hq1.ex (e7.trans (e8.trans e9)))) (er_mulI (ev_var rfl) (ev_var rfl) (hq2.ex e9) hg (by rcases hs with e | e <;> rw [e] <;> decide)) hg) H9 (Ex.refl _) _ fun v H10 e10 ⟨q3, hv, hq3⟩ => ?_
      subst hv
      refine ⟨e6.trans (e7.trans (e8.trans (e9.trans e10))), q3, _, _, _, _, hq3.congr fun i' j' _ _ => ?_, rfl⟩
      show sumG (ts.take i) i' j' + gridT st.2 i' j' * st.1 = sumG (ts.take (i + 1)) i' j'
      unfold sumG
      rw [List.take_add_one, hst, List.map_append, List.sum_append]
      simp
    · obtain ⟨e6, q1, a, b, c, d, hq1, rfl⟩ := p
      have e : (mp ts).length = ts.length := by simp [mp]
      rw [e, List.take_length] at hq1
      exact s_ret (ev_var rfl) fun H7 e7 => q q1 H7 (e1.trans (e2.trans (e3.trans (e4.trans (e5.trans (e6.trans e7)))))) (hq1.ex e7)
end
end Q
set_option Elab.async false
set_option linter.all false
set_option maxRecDepth 100000
set_option maxHeartbeats 4000000
namespace Q
open PySem PySem.Spec PyProof.Rows L2
open Evl SX TL
/-! ### texts joined -/
def EvJ (ts : List TE) (σ : L2.St) (H : Hp) (w : W) : Prop := ∀ H1, Ex H H1 → ∀ a : W, a.length + w.length ≤ 100000 → ∀ Q : Str → Hp → Prop, (∀ H2, Ex H1 H2 → Q (S (a ++ w)) H2) → tJs ts (S a) σ H1 Q
section
variable {K : PySem.W.Frag} {σ : L2.St} {H H' : Hp} {ta te tb : TE} {ts : List TE} {v : V} {w u : W} {n : Nat} {p : Addr}
theorem ej_nil : EvJ [] σ H [] := fun H1 e a h Q q => by rw [List.append_nil] at q; exact q H1 (Ex.refl _)
theorem ej_at {x : V} (hx : Ev te σ H x) (t : ∀ H1, ∀ Q : VK, Q (.str (S u)) H1 → (∃ y : Str, x = .str y ∧ y.length ≤ sizeLine ∧ Q (.str y) H1) ∨ ∃ i : Int, x = .int i ∧ i.natAbs.log2 < 1920 ∧ Q (.str (toString i)) H1) (r : EvJ ts σ H w) : EvJ (tFmt te :: ts) σ H (u ++ w) := fun H1 e a h Q q =>
  hx H1 e _ fun H2 e2 => t H2 (fun x H1 => ∃ y : Str, x = .str y ∧ (S a ++ y).length ≤ sizeLine ∧ tJs ts (S a ++ y) σ H1 Q) ⟨S u, rfl, sz_of (by rw [S_cat, S_len, List.length_append]; rw [List.length_append] at h; omega), by
    rw [S_cat]
    refine r H2 (e.trans e2) (a ++ u) (by rw [List.length_append] at h ⊢; omega) Q fun H3 e3 => ?_
    rw [List.append_assoc]; exact q H3 (e2.trans e3)⟩
theorem log2_small {n : Nat} (h : n < 10 ^ 40) : n.log2 < 1920 := by
  by_cases h0 : n = 0
  · subst h0; decide
  · rw [Nat.log2_lt h0]
    exact Nat.lt_trans h (by decide +kernel)
theorem ej_int (hx : Ev te σ H (.int (n : Nat))) (hn : n < 10 ^ 40) (r : EvJ ts σ H w) : EvJ (tFmt te :: ts) σ H (numL n ++ w) := ej_at hx (fun H1 Q q => .inr ⟨_, rfl, log2_small hn, by
  have e : (Str.ofString (toString ((n : Nat) : Int))) = S (numL n) := num_S n
  show Q (.str (Str.ofString (toString ((n : Nat) : Int)))) H1
  rw [e]; exact q⟩) r
theorem ej_str (hx : Ev te σ H (.str (S u))) (hu : u.length ≤ 100000) (r : EvJ ts σ H w) : EvJ (tFmt te :: ts) σ H (u ++ w) := ej_at hx (fun H1 Q q => .inl ⟨_, rfl, sz_of (by rw [S_len]; exact hu), q⟩) r
theorem ej_c {s : Str} (r : EvJ ts σ H w) : EvJ (tC (.str s) :: ts) σ H (wd s ++ w) := fun H1 e a h Q q => ⟨s, rfl, sz_of (by rw [← S_tl s, S_cat, S_len]; show (a ++ wd s).length ≤ _; rw [List.length_append] at h ⊢; omega), by
    rw [show S a ++ s = S (a ++ wd s) by rw [← S_tl s, S_cat]; rfl]
    refine r H1 e (a ++ wd s) (by rw [List.length_append] at h ⊢; omega) Q fun H3 e3 => ?_
    rw [List.append_assoc]; exact q H3 e3⟩
theorem ev_joined (r : EvJ ts σ H w) (hw : w.length ≤ 100000) : Ev (fun σ H Q => tJs ts Str.empty σ H fun out H1 => Q (.str out) H1) σ H (.str (S w)) := fun H1 e Q q =>
  r H1 e [] (by simpa using hw) _ fun H2 e2 => q H2 e2
end
/-! ### a cell's text -/
def cellT (n i j : Nat) : Term := (if n = 1 then none else some n, .whr (.cell i j))
section
variable {P : Program} {w : World} {K : PySem.W.Frag} {mg : Str → Option Value} {base : Heap} {f : Addr} {fd : FuncData} {CT CQ : Addr}
abbrev s_cell : Stmt := topS 50
def sp_cell : Sp := fun vs H Q _ => ∃ n i j : Nat, vs = [.int n, .int i, .int j] ∧ n < 10 ^ 18 ∧ i < 8 ∧ j < 8 ∧ ∀ H2, Ex H H2 → Q (.str (S (txtT (cellT n i j)))) H2
theorem sc_cell : FnScope ["amount", "left", "right"] ["amount", "left", "right"] (defScope s_cell) := ⟨rfl, rfl, rfl, by decide +kernel, rfl, by decide +kernel, by decide +kernel⟩
theorem ok_cell (F : Dm K "cell_text" s_cell f fd) (T : Tx K mg) : FnOk P w K mg base CX0 1 f fd ["amount", "left", "right"] sp_cell := by
  refine F.ok sc_cell (fun vs H Q E h => ?_) (fun cdv A outer s H vs Q E hr h => ?_)
  · obtain ⟨n, i, j, rfl, _⟩ := h
    rfl
  · obtain ⟨n, i, j, rfl, hn, hi, hj, q⟩ := h
    refine ⟨_, PSs.nox (pss_one (ps_ret (pe_ifExp (pt_cmpR op_eq (pv 0) pe_int (nomark _)) (pe_joined (.cons pe_str (.cons (pe_fmt (pv 1)) (.cons pe_str (.cons (pe_fmt (pv 2)) .nil)))))
      (pe_joined (.cons (pe_fmt (pv 0)) (.cons pe_str (.cons (pe_fmt (pgc T.times)) (.cons pe_str (.cons (pe_fmt (pv 1)) (.cons pe_str (.cons (pe_fmt (pv 2)) .nil))))))))))), ?_⟩
    have l0 : (numL n).length ≤ 18 := numL_len (by decide) hn
    have l1 : (numL i).length ≤ 1 := numL_len (by decide) (by omega)
    have l2 : (numL j).length ≤ 1 := numL_len (by decide) (by omega)
    have w1 : (wd "cell ").length = 5 := by decide +kernel
    have w2 : (wd " ").length = 1 := by decide +kernel
    have w3 : (wd " cell ").length = 6 := by decide +kernel
    have w4 : (wd "*").length = 1 := by decide +kernel
    refine s_ret (v := .str (S (txtT (cellT n i j)))) ?_ q
    by_cases h1 : n = 1
    · refine ev_if (b := true) (et_test (ev_is (ev_eqI (ev_var rfl) ev_c) (by rw [h1]; rfl))) (fun _ => ev_is (ev_joined (ej_c (ej_int (ev_var rfl) (by omega) (ej_c (ej_int (ev_var rfl) (by omega) ej_nil)))) (by simp only [List.length_append, List.length_nil]; omega)) ?_) fun z => (nomatch z)
      unfold cellT txtT
      rw [if_pos h1, List.append_nil]; rfl
    · refine ev_if (b := false) (et_test (ev_is (ev_eqI (ev_var rfl) ev_c) (by rw [decide_eq_false (by omega)]))) (fun z => (nomatch z)) fun _ => ev_is (ev_joined (ej_int (ev_var rfl) (by omega) (ej_c (ej_str (u := wd "*") (ev_is ev_c (congrArg V.str (S_tl _).symm)) (by omega) (ej_c (ej_int (ev_var rfl) (by omega) (ej_c (ej_int (ev_var rfl) (by omega) ej_nil))))))) (by simp only [List.length_append, List.length_nil]; omega)) ?_
      unfold cellT txtT
      rw [if_neg h1, List.append_nil]; rfl
end
end Q
set_option Elab.async false
set_option linter.all false
set_option maxRecDepth 100000
set_option maxHeartbeats 4000000
namespace Q
open PySem PySem.Spec PyProof.Rows L2
open Evl SX TL
/-! ### a question's cells -/
def rowCells (f : Nat → Nat → Int) (i r : Nat) : List ST := (List.range r).flatMap fun j => if f i j = 0 then [] else [((if f i j < 0 then -1 else 1), cellT (f i j).natAbs i j)]
def cellsOf (f : Nat → Nat → Int) (l r : Nat) : List ST := (List.range l).flatMap fun i => rowCells f i r
def wrOf (ts : List ST) : List ST := if ts = [] then [(1, (some 0, .whr .all))] else ts
theorem rowCells_succ (f : Nat → Nat → Int) (i r : Nat) : rowCells f i (r + 1) = rowCells f i r ++ (if f i r = 0 then [] else [((if f i r < 0 then -1 else 1), cellT (f i r).natAbs i r)]) := by
  unfold rowCells; rw [List.range_succ, List.flatMap_append]; simp
theorem cellsOf_succ (f : Nat → Nat → Int) (l r : Nat) : cellsOf f (l + 1) r = cellsOf f l r ++ rowCells f l r := by
  unfold cellsOf; rw [List.range_succ, List.flatMap_append]; simp
/-- pairs of texts -/
def SPairs (H : Hp) (vs : List V) (ps : List ST) : Prop := vs.length = ps.length ∧ ∀ (k : Nat) q, ps[k]? = some q → ∃ t, vs[k]? = some (.ref t) ∧ H t = some (.tup [.str (S (sgnW q.1)), .str (S (txtT q.2))])
theorem SPairs.tu {H H' : Hp} {vs : List V} {ps : List ST} (h : SPairs H vs ps) (e : Tu H H') : SPairs H' vs ps := ⟨h.1, fun k q hq => let ⟨t, h1, h2⟩ := h.2 k q hq; ⟨t, h1, e _ _ h2⟩⟩
theorem SPairs.snoc {H : Hp} {vs : List V} {ps : List ST} {q : ST} {t : Addr} (h : SPairs H vs ps) (ht : H t = some (.tup [.str (S (sgnW q.1)), .str (S (txtT q.2))])) : SPairs H (vs ++ [.ref t]) (ps ++ [q]) := by
  refine ⟨by rw [List.length_append, List.length_append, h.1]; rfl, fun k u hu => ?_⟩
  by_cases hk : k < ps.length
  · rw [List.getElem?_append_left hk] at hu
    obtain ⟨t', h1, h2⟩ := h.2 k u hu
    exact ⟨t', by rw [List.getElem?_append_left (by rw [h.1]; exact hk)]; exact h1, h2⟩
  · have hk' : k = ps.length := by
      have := (List.getElem?_eq_some_iff.mp hu).1
      rw [List.length_append] at this
      have : k < ps.length + 1 := this
      omega
    subst hk'
    rw [List.getElem?_append_right (Nat.le_refl _), Nat.sub_self] at hu
    cases hu
    exact ⟨t, by rw [List.getElem?_append_right (by rw [h.1]; exact Nat.le_refl _), h.1, Nat.sub_self]; rfl, ht⟩
theorem asc_sgn (s : Int) : Asc (sgnW s) := by unfold sgnW; split <;> (intro c hc; simp at hc; omega)
theorem mem_joinL {z c : Nat} : ∀ {ps : List W}, c ∈ joinL [z] ps → c = z ∨ ∃ p ∈ ps, c ∈ p
  | [], h => by simp [joinL] at h
  | [p], h => .inr ⟨p, List.mem_cons_self, h⟩
  | p :: q :: r, h => by
    have e : joinL [z] (p :: q :: r) = p ++ ([z] ++ joinL [z] (q :: r)) := by first | rfl | simp [joinL]
    rw [e, List.mem_append, List.mem_append, List.mem_singleton] at h
    rcases h with h | h | h
    · exact .inr ⟨p, List.mem_cons_self, h⟩
    · exact .inl h
    · rcases mem_joinL h with h | ⟨p', hp, h⟩
      · exact .inl h
      · exact .inr ⟨p', List.mem_cons_of_mem _ hp, h⟩
theorem asc_txt {l r : Nat} {t : Term} (h : TermOk l r t) (hg : Good l r) : Asc (txtT t) := fun c hc => by
  rcases mem_joinL hc with h' | ⟨w, hw, h'⟩
  · omega
  · exact (okw_termA h hg w hw).2.1 c h' |>.2.2.2
section
variable {K : PySem.W.Frag} {H : Hp}
theorem dd_spairs {p : Addr} {vs : List V} {ps : List ST} (h : H p = some (.lst vs)) (hp : SPairs H vs ps) (ha : ∀ q ∈ ps, Asc (txtT q.2)) : Dd K H (.ref p) (.list (ps.map fun q => .tuple [.str (S (sgnW q.1)), .str (S (txtT q.2))])) := by
  refine ⟨.lst (sq_of h) (dpAll_of (by rw [List.length_map, hp.1]) fun i v d hv hd => ?_), ?_⟩
  · rw [List.getElem?_map] at hd
    cases hi : ps[i]? with
    | none => rw [hi] at hd; cases hd
    | some q =>
      rw [hi] at hd
      cases hd
      obtain ⟨t, h1, h2⟩ := hp.2 i q hi
      rw [h1] at hv
      cases hv
      exact .tup (st_of h2) (.cons (.str _) (.cons (.str _) .nil))
  · have h1 : ∀ ps : List ST, (∀ q ∈ ps, Asc (txtT q.2)) → PyData.canLayAll0 (ps.map fun q => .tuple [.str (S (sgnW q.1)), .str (S (txtT q.2))]) = true := by
      intro ps
      induction ps with
      | nil => intro _; rfl
      | cons q ps ih =>
        intro h
        rw [List.map_cons, PyData.canLayAll0, ih fun q hq => h q (List.mem_cons_of_mem _ hq)]
        simp only [PyData.canLay0, PyData.canLayAll0, strOk_S (asc_sgn q.1), strOk_S (h q List.mem_cons_self)]; rfl
    have h2 : ∀ ps : List ST, PyData.depthAll (ps.map fun q => .tuple [.str (S (sgnW q.1)), .str (S (txtT q.2))]) ≤ 1 := by
      intro ps
      induction ps with
      | nil => exact Nat.zero_le _
      | cons q ps ih =>
        rw [List.map_cons, PyData.depthAll]
        simp only [PyData.depth, PyData.depthAll]
        omega
    unfold SeqAt.shaped
    rw [PyData.canLay0, h1 ps ha, PyData.depth, Bool.and_eq_true, decide_eq_true_eq]
    have := h2 ps
    exact ⟨rfl, by omega⟩
end
theorem cell_ok {l r n i j : Nat} (hi : i < l) (hj : j < r) (hn : n < 10 ^ 18) : TermOk l r (cellT n i j) := by
  refine ⟨⟨hi, hj⟩, fun m hm => ?_⟩
  unfold cellT at hm
  split at hm
  · cases hm
  · cases hm; exact hn
theorem rowCells_mem {f : Nat → Nat → Int} {i r : Nat} {q : ST} (h : q ∈ rowCells f i r) : ∃ j, j < r ∧ f i j ≠ 0 ∧ q = ((if f i j < 0 then -1 else 1), cellT (f i j).natAbs i j) := by
  obtain ⟨j, hj, h⟩ := List.mem_flatMap.mp h
  by_cases h0 : f i j = 0
  · rw [if_pos h0] at h; simp at h
  · rw [if_neg h0, List.mem_singleton] at h; exact ⟨j, List.mem_range.mp hj, h0, h⟩
def Bd (l r : Nat) (f : Nat → Nat → Int) : Prop := ∀ i j, i < l → j < r → (f i j).natAbs < 10 ^ 18
theorem cellsOf_ok {f : Nat → Nat → Int} {l r : Nat} (hb : Bd l r f) : ∀ m, m ≤ l → TsOk l r (cellsOf f m r) := fun m hm q hq => by
  obtain ⟨i, hi, hq⟩ := List.mem_flatMap.mp hq
  obtain ⟨j, hj, h0, rfl⟩ := rowCells_mem hq
  have hi := List.mem_range.mp hi
  refine ⟨?_, cell_ok (by omega) hj (hb i j (by omega) hj)⟩
  show Sg (if f i j < 0 then -1 else 1)
  split
  · exact .inr rfl
  · exact .inl rfl
theorem rowCells_len (f : Nat → Nat → Int) (i r : Nat) : (rowCells f i r).length ≤ r := by
  induction r with
  | zero => simp [rowCells]
  | succ r ih => rw [rowCells_succ, List.length_append]; split <;> simp <;> omega
theorem cellsOf_len (f : Nat → Nat → Int) (l r : Nat) : (cellsOf f l r).length ≤ l * r := by
  induction l with
  | zero => simp [cellsOf]
  | succ l ih => have := rowCells_len f l r; rw [cellsOf_succ, List.length_append, Nat.succ_mul]; omega
theorem all0_ok {l r : Nat} : TermOk l r (some 0, .whr .all) := ⟨trivial, fun n hn => by cases hn; decide⟩
theorem wrOf_ok {ts : List ST} {l r : Nat} (h : TsOk l r ts) : TsOk l r (wrOf ts) := by
  unfold wrOf
  split
  · intro q hq; rw [List.mem_singleton] at hq; subst hq; exact ⟨.inl rfl, all0_ok⟩
  · exact h
/-- the cells' sum is the grid -/
theorem gridT_cell {n a b i j : Nat} : gridT (cellT n a b) i j = if a = i ∧ b = j then (n : Int) else 0 := by
  unfold gridT cellT gridP amt whB
  by_cases h1 : n = 1
  · rw [if_pos h1]
    by_cases h : a = i ∧ b = j
    · rw [if_pos h]; simp [h.1, h.2, h1]
    · rw [if_neg h]
      have : (decide (a = i) && decide (b = j)) = false := by rw [Bool.and_eq_false_iff, decide_eq_false_iff_not, decide_eq_false_iff_not]; by_cases ha : a = i; exact .inr fun hb => h ⟨ha, hb⟩; exact .inl ha
      simp [this]
  · rw [if_neg h1]
    by_cases h : a = i ∧ b = j
    · rw [if_pos h]; simp [h.1, h.2]
    · rw [if_neg h]
      have : (decide (a = i) && decide (b = j)) = false := by rw [Bool.and_eq_false_iff, decide_eq_false_iff_not, decide_eq_false_iff_not]; by_cases ha : a = i; exact .inr fun hb => h ⟨ha, hb⟩; exact .inl ha
      simp [this]
theorem sumG_app (a b : List ST) (i j : Nat) : sumG (a ++ b) i j = sumG a i j + sumG b i j := by unfold sumG; rw [List.map_append, List.sum_append]
theorem sum_row (f : Nat → Nat → Int) (a i j : Nat) : ∀ r, sumG (rowCells f a r) i j = if a = i ∧ j < r then f i j else 0
  | 0 => by simp [rowCells, sumG]
  | r + 1 => by
    rw [rowCells_succ, sumG_app, sum_row f a i j r]
    by_cases h0 : f a r = 0
    · rw [if_pos h0]
      show _ + 0 = _
      rw [Int.add_zero]
      by_cases ha : a = i
      · subst ha
        by_cases hj : j < r
        · rw [if_pos ⟨rfl, hj⟩, if_pos ⟨rfl, by omega⟩]
        · rw [if_neg fun z => hj z.2]
          by_cases hj' : j = r
          · subst hj'; rw [if_pos ⟨rfl, by omega⟩, h0]
          · rw [if_neg fun z => hj' (by omega)]
      · rw [if_neg fun z => ha z.1, if_neg fun z => ha z.1]
    · rw [if_neg h0]
      have e : sumG [((if f a r < 0 then (-1 : Int) else 1), cellT (f a r).natAbs a r)] i j = if a = i ∧ r = j then f a r else 0 := by
        show gridT _ i j * _ + 0 = _
        rw [gridT_cell, Int.add_zero]
        by_cases h : a = i ∧ r = j
        · rw [if_pos h, if_pos h]
          split <;> omega
        · rw [if_neg h, if_neg h, Int.zero_mul]
      rw [e]
      by_cases ha : a = i
      · subst ha
        by_cases hj : j < r
        · rw [if_pos ⟨rfl, hj⟩, if_neg fun z => by omega, if_pos ⟨rfl, by omega⟩, Int.add_zero]
        · rw [if_neg fun z => hj z.2, Int.zero_add]
          by_cases hj' : r = j
          · subst hj'; rw [if_pos ⟨rfl, rfl⟩, if_pos ⟨rfl, by omega⟩]
          · rw [if_neg fun z => hj' z.2, if_neg fun z => hj' (by omega)]
      · rw [if_neg fun z => ha z.1, if_neg fun z => ha z.1, if_neg fun z => ha z.1, Int.add_zero]
theorem sum_cells (f : Nat → Nat → Int) (r i j : Nat) (hj : j < r) : ∀ l, sumG (cellsOf f l r) i j = if i < l then f i j else 0
  | 0 => by simp [cellsOf, sumG]
  | l + 1 => by
    rw [cellsOf_succ, sumG_app, sum_cells f r i j hj l, sum_row]
    by_cases hi : i < l
    · rw [if_pos hi, if_neg fun z => by omega, if_pos (by omega), Int.add_zero]
    · rw [if_neg hi, Int.zero_add]
      by_cases hi' : l = i
      · subst hi'; rw [if_pos ⟨rfl, hj⟩, if_pos (by omega)]
      · rw [if_neg fun z => hi' z.1, if_neg (by omega)]
theorem sum_wr {f : Nat → Nat → Int} {l r i j : Nat} (hi : i < l) (hj : j < r) : sumG (wrOf (cellsOf f l r)) i j = f i j := by
  have h := sum_cells f r i j hj l
  rw [if_pos hi] at h
  unfold wrOf
  split
  · rename_i e
    rw [e] at h
    rw [← h]
    show gridT (some 0, .whr .all) i j * 1 + 0 = 0
    unfold gridT amt; simp
  · exact h
end Q
set_option Elab.async false
set_option linter.all false
set_option maxRecDepth 100000
set_option maxHeartbeats 4000000
namespace Q
open PySem PySem.Spec PyProof.Rows L2
open Evl SX TL
section
variable {K : PySem.W.Frag} {σ : L2.St} {H H' : Hp} {ta te tb : TE} {v : V} {a p : Addr} {xs : List V} {D : Ends} {tz : TS} {g : TG} {tu : TS}
theorem s_forB {n : Nat} {Y : Nat → Hp → V → Hp → Prop} {ti : TI} {Hb : Hp} (hi : EvB ti σ Hb n Y) (e0 : Ex Hb H) (Pv : Nat → L2.St → Hp → Prop) (h0 : ∀ H1, Ex H H1 → Pv 0 σ H1) (hE : ∀ i σ' H', Pv i σ' H' → Ex Hb H')
    (hs : ∀ i x σ' H2 H3, i < n → Pv i σ' H2 → Y i H2 x H3 → g x σ' H3 fun σ2 H4 => tu { D with nx := Pv (i + 1), ct := Pv (i + 1), bk := D.nx } σ2 H4) (hd : ∀ σ' H', Pv n σ' H' → D.nx σ' H') : tFor ti g tu D σ H :=
  hi H e0 _ fun J H1 G e1 w hG => for_it w Pv (h0 H1 e1) (fun i σ' H' _ p => hG H' (hE i σ' H' p)) (fun i x σ' H2 H3 => hs i x σ' H2 H3) hd
theorem evb_enumT (ha : ∀ H1, Ex H H1 → Ev te σ H1 (.ref a)) (h : H a = some (.tup xs)) : EvB (iEnumT K (tCons te tNil)) σ H xs.length (YPair (fun i => some (.int (i : Nat))) (fun i => xs[i]?)) := fun H1 e1 q hq =>
  ha H1 e1 H1 (Ex.refl _) _ fun H2 e2 => ⟨a, xs, rfl, st_of (e2 _ _ (e1 _ _ h)), hq _ _ _ e2 walk_enumT fun H3 e3 => st_of (e3 _ _ h)⟩
theorem ev_addS {u w : W} (ha : Ev ta σ H (.str (S u))) (hb : Ev tb σ H (.str (S w))) (hl : u.length + w.length ≤ 100000) : Ev (tOp (fun x y H Q => ∃ i j : Str, x = .str i ∧ y = .str j ∧ i.length + j.length ≤ sizeLine ∧ Q (.str (i ++ j)) H) ta tb) σ H (.str (S (u ++ w))) :=
  ev_op ha hb fun H1 _ Q q => ⟨S u, S w, rfl, rfl, sz_of (by rw [S_len, S_len]; exact hl), by rw [S_cat]; exact q _ (Ex.refl _)⟩
abbrev rJoinQ (K : PySem.W.Frag) : V → List V → Hp → VK → Prop := fun x xs H Q => ∃ a p, ∃ ys : List Str, x = .str a ∧ xs = [.ref p] ∧ (SqL K H p (ys.map V.str) ∨ SqT K H p (ys.map V.str)) ∧ (ys.map (·.length)).sum + ys.length * a.length ≤ 16777216 ∧ Q (.str (Txt.join a ys)) H
theorem sum_len : ∀ ps : List W, ((ps.map S).map (·.length)).sum = ps.flatten.length
  | [] => rfl
  | p :: ps => by rw [List.map_cons, List.map_cons, List.sum_cons, sum_len ps, List.flatten_cons, List.length_append, S_len]
theorem joinL_nil : ∀ ps : List W, joinL [] ps = ps.flatten
  | [] => rfl
  | [p] => by simp [joinL]
  | p :: q :: r => by
    have e : joinL [] (p :: q :: r) = p ++ ([] ++ joinL [] (q :: r)) := by first | rfl | simp [joinL]
    rw [e, joinL_nil (q :: r)]; simp
theorem ev_join0 {ps : List W} {z : Str} (ha : Ev ta σ H (.str z)) (hz : z = S []) (hb : EvL tb σ H (strW ps)) (hl : ps.flatten.length ≤ 1000000) : Ev (tM1 (rJoinQ K) ta tb) σ H (.str (S ps.flatten)) := fun H1 e Q q =>
  ha H1 e _ fun H2 e2 => ⟨⟨_, rfl⟩, hb H2 (e.trans e2) _ fun p H3 _ e3 hp => ⟨z, p, ps.map S, rfl, rfl, .inl (sq_of (by rw [hp]; unfold strW; rw [List.map_map]; rfl)), by rw [sum_len, hz]; show _ + _ * 0 ≤ _; omega, by
    rw [hz, join_S, joinL_nil]; exact q H3 (e2.trans e3)⟩⟩
end
theorem txt_len {l r : Nat} {t : Term} (h : TermOk l r t) (hg : Good l r) : (txtT t).length ≤ 246 := by
  have h1 := joinL_len 32 40 (wordsT t) fun w hw => (okw_termA h hg w hw).2.2
  have h2 := wordsT_le t
  unfold txtT
  omega
theorem more_txt_len {l r : Nat} (hg : Good l r) : ∀ {ts : List ST}, TsOk l r ts → (ts.flatMap fun q => [32] ++ sgnW q.1 ++ [32] ++ txtT q.2).length ≤ ts.length * 250
  | [], _ => by simp
  | q :: ts, h => by
    have h1 := more_txt_len hg (ts := ts) fun q hq => h q (List.mem_cons_of_mem _ hq)
    have h2 := txt_len (h q List.mem_cons_self).2 hg
    have h3 : (sgnW q.1).length = 1 := by unfold sgnW; split <;> rfl
    rw [List.flatMap_cons, List.length_append, List.length_cons, Nat.succ_mul]
    simp only [List.length_append, List.length_singleton]
    omega
section
variable {P : Program} {w : World} {K : PySem.W.Frag} {mg : Str → Option Value} {base : Heap} {f : Addr} {fd : FuncData} {CT CQ : Addr}
theorem ev_qweights {σ : L2.St} {H : Hp} {te : TE} {q dx a : Addr} (h : Ev te σ H (.ref q)) (hq : H q = some (.ins CQ dx [("own_weights", .ref a)])) : Ev (tProp CQ (sp_qweights CQ) [] E0 te) σ H (.ref a) := fun H1 e Q k =>
  h H1 e _ fun H2 e2 => ⟨q, dx, _, rfl, (e.trans e2) _ _ hq, q, dx, a, rfl, (e.trans e2) _ _ hq, fun H3 e3 => k H3 (e2.trans e3)⟩
def moreW (q : ST) : W := [32] ++ sgnW q.1 ++ [32] ++ txtT q.2
abbrev s_write : Stmt := topS 51
def sp_write (C : Addr) : Sp := fun vs H Q _ => ∃ q l r f, vs = [.ref q] ∧ Qn C H q l r f ∧ Good l r ∧ Bd l r f ∧ ∀ H2, Ex H H2 → Q (.str (S (txts (wrOf (cellsOf f l r))))) H2
abbrev N_write : List Str := ["question", "found", "left", "row", "right", "weight", "sign", "first", "term"]
theorem sc_write : FnScope N_write ["question"] (defScope s_write) := ⟨rfl, rfl, rfl, by decide +kernel, rfl, by decide +kernel, by decide +kernel⟩
theorem ok_write (F : Dm K "write_question" s_write f fd) (T : Tx K mg) (QC : QueC K CQ) (cw : PrC P w K mg base 1 CQ "weights" (sp_qweights CQ)) (cc : Cl P w K mg base 1 "cell_text" sp_cell) : FnOk P w K mg base CX0 3 f fd ["question"] (sp_write CQ) := by
  refine F.ok sc_write (fun vs H Q E h => ?_) (fun cdv A outer s H vs Q E hr h => ?_)
  · obtain ⟨q, l, r, f, rfl, _⟩ := h
    rfl
  · obtain ⟨q, l, r, g, rfl, hq, hg, hb, k⟩ := h
    have nd := sc_write.nd
    refine ⟨_, PSs.nox (pss_cons (ps_set (i := 1) nd rfl (.inl rfl) (pe_lst pa_nil))
      (pss_cons (ps_for PassesOwn.never rfl (pi_enumQ K T.enumerate (ppr cw QC.cl hr (pv 0))) (pg_tup rfl (pgs_cons (pg_name (i := 2) nd rfl (Or.inl rfl)) (pgs_cons (pg_name (i := 3) nd rfl (Or.inl rfl)) pgs_nil)))
        (pss_one (ps_for PassesOwn.never rfl (pi_enumQ K T.enumerate (pv 3)) (pg_tup rfl (pgs_cons (pg_name (i := 4) nd rfl (Or.inl rfl)) (pgs_cons (pg_name (i := 5) nd rfl (Or.inl rfl)) pgs_nil)))
          (pss_one (ps_if (pt_cmpR op_ne (pv 5) pe_int (nomark _))
            (pss_cons (ps_set (i := 6) nd rfl (.inl rfl) (pe_ifExp (pt_cmpR op_lt (pv 5) pe_int (nomark _)) (pgc T.minus) (pgc T.plus)))
              (pss_one (ps_expr (pe_bm PySem.F.plainAttrs_list PySem.F.slot_list_append PySem.F.type_list_append mt_append (pv 1) (pa_cons (pe_tup (pa_cons (pv 6) (pa_cons (pc cc hr (pa_cons (pe_callB call_abs (by rfl) T.abs bt_abs (pa_cons (pv 5) pa_nil)) (pa_cons (pv 2) (pa_cons (pv 4) pa_nil)))) pa_nil))) pa_nil))))) pss_nil)))))
      (pss_cons (ps_if (pt_cmpR (op_eqD hr.units) (pv 1) (pe_lst pa_nil) (nomark _)) (pss_one (ps_ret pe_str)) pss_nil)
      (pss_cons (ps_set (i := 7) nd rfl (.inl rfl) (pe_ifExp (pt_cmpR op_eq (p_ixT K (p_ixL K (pv 1) pe_int) pe_int) (pgc T.minus) (nomark _)) (pgc T.minus) pe_str))
      (pss_one (ps_ret (pe_op op_add_str (pe_op op_add_str (pv 7) (p_ixT K (p_ixL K (pv 1) pe_int) pe_int)) (pe_join pe_str
        (pe_lc (own := [("sign", 6), ("term", 8)]) (g := gTup K 2 (gCons (gName 6) (gCons (gName 8) gNil))) (tt := tYes) rfl nd (pi_listQ K (pe_slice sl_list (pv 1) (po_some pe_int) po_none)) (blkOk_by (N := N_write) (sc := defScope s_write) (by decide +kernel))
              (fun _ _ _ _ _ => pg_tup rfl (pgs_cons (pg_name (i := 6) nd rfl (Or.inl rfl)) (pgs_cons (pg_name (i := 8) nd rfl (Or.inl rfl)) pgs_nil))) (fun _ _ _ _ _ => pts_nil) (fun _ _ _ _ _ =>
                pe_joined (.cons pe_str (.cons (pe_fmt (pv 6)) (.cons pe_str (.cons (pe_fmt (pv 8)) .nil)))))))))))))), ?_⟩
    obtain ⟨dx, a, hqa, hga⟩ := id hq
    obtain ⟨xs, hxs, hxl, hxr⟩ := id hga
    have h8 := hg.1
    have h9 := hg.2
    have hcl : ∀ m, m ≤ l → (cellsOf g m r).length ≤ 64 := fun m hm => by
      have h1 := cellsOf_len g m r
      have h2 : m * r ≤ 8 * 8 := Nat.mul_le_mul (by omega) (by omega)
      omega
    refine q_asgL (xs := []) (el_lst ea_nil (by decide)) fun pf H1 hpf e1 hf1 => ?_
    have wk0 := evb_enumT (K := K) (te := tProp CQ (sp_qweights CQ) [] E0 (tVar 0)) (σ := [some (.ref q), some (.ref pf), none, none, none, none, none, none, none]) (H := H) (fun H1 e1 => ev_qweights (ev_var rfl) (e1 _ _ hqa)) hxs
    rw [hxl] at wk0
    refine q_forB wk0 e1 (fun i σ' H' => ∃ vals, Ex H H' ∧ H' pf = some (.lst vals) ∧ SPairs H' vals (cellsOf g i r) ∧ ∃ b c d e f, σ' = [some (.ref q), some (.ref pf), b, c, d, e, f, none, none])
      (fun H2 e2 => ⟨[], e1.trans e2, e2 _ _ hf1, ⟨rfl, fun k q h => by simp [cellsOf] at h⟩, _, _, _, _, _, rfl⟩) (fun _ _ _ p => let ⟨_, e, _⟩ := p; e) (fun i x σ' H2 H3 hi p y => ?_) (fun σ' H' p => ?_)
    · obtain ⟨vals, e2, hv2, hs2, b, c, d, e, f, rfl⟩ := p
      obtain ⟨tt, u, v, rfl, htt, rfl, hu, hv⟩ := y
      cases hu
      obtain ⟨p, rfl, hp⟩ := hxr i v hv
      have e3 : Ex H2 (upd H2 tt (.tup [.int (i : Nat), .ref p])) := Ex.new htt
      refine g_pair upd_same ?_
      have wk1 := evb_enumT (K := K) (te := tVar 3) (σ := [some (.ref q), some (.ref pf), some (.int (i : Nat)), some (.ref p), d, e, f, none, none]) (H := H) (fun H1 e1 => ev_var rfl) hp
      rw [row_len] at wk1
      refine s_forB wk1 (e2.trans e3) (fun j σ' H' => ∃ vals, Ex H H' ∧ H' pf = some (.lst vals) ∧ SPairs H' vals (cellsOf g i r ++ rowCells g i j) ∧ ∃ d e f, σ' = [some (.ref q), some (.ref pf), some (.int (i : Nat)), some (.ref p), d, e, f, none, none])
        (fun H4 e4 => ⟨vals, e2.trans (e3.trans e4), e4 _ _ (e3 _ _ hv2), by rw [show rowCells g i 0 = [] from rfl, List.append_nil]; exact hs2.tu (tu_ex (e3.trans e4)), _, _, _, rfl⟩) (fun _ _ _ p => let ⟨_, e, _⟩ := p; e) (fun j x σ' H5 H6 hj p y => ?_) (fun σ' H' p => ?_)
      · obtain ⟨vals5, e5, hv5, hs5, d, e, f, rfl⟩ := p
        obtain ⟨tt5, u, v, rfl, htt5, rfl, hu, hv⟩ := y
        cases hu
        obtain ⟨_, rfl⟩ := row_at' hv
        have e6 : Ex H5 (upd H5 tt5 (.tup [.int (j : Nat), .int (g i j)])) := Ex.new htt5
        refine g_pair upd_same ?_
        have hlen5 : vals5.length < 100000 := by
          have h1 := hcl i (by omega)
          have h2 := rowCells_len g i j
          rw [hs5.1, List.length_append]; omega
        refine s_if (b := !decide (g i j = 0)) (et_test (ev_neI (ev_var rfl) ev_c)) (fun hn H7 e7 => ?_) (fun hn H7 e7 => ?_)
        · have hn0 : g i j ≠ 0 := by simpa using hn
          have hbd := hb i j hi hj
          have habs : (if g i j < 0 then -(g i j) else g i j) = ((g i j).natAbs : Int) := by split <;> omega
          refine q_asg (v := .str (S (sgnW (if g i j < 0 then -1 else 1)))) (ev_is (ev_pick (b := decide (g i j < 0)) (et_test (ev_op (ev_var rfl) ev_c rv_I0)) ev_c ev_c) ?_) fun H8 e8 => ?_
          · by_cases hneg : g i j < 0
            · rw [if_pos hneg, if_pos (decide_eq_true hneg)]; rfl
            · rw [if_neg hneg, if_neg (by rw [decide_eq_false hneg]; exact Bool.false_ne_true)]; rfl
          · have e68 := e6.trans (e7.trans e8)
            refine s_appU (xs := vals5) (e68 _ _ hv5) (ev_var rfl) (eu_tup (vs := [.str (S (sgnW (if g i j < 0 then -1 else 1))), .str (S (txtT (cellT (g i j).natAbs i j)))]) (ea_cons (ev_var rfl) (ea_cons (ev_call (ea_cons (ev_cb (ea_cons (ev_var rfl) ea_nil) (z := .int ((g i j).natAbs : Int)) fun H9 _ Q q => ⟨_, rfl, by rw [habs]; exact q _ (Ex.refl _)⟩) (ea_cons (ev_var rfl) (ea_cons (ev_var rfl) ea_nil)))
              fun H9 e9 Q q E => ⟨(g i j).natAbs, i, j, rfl, hbd, by omega, by omega, q⟩) ea_nil)) (show 2 ≤ 100000 by decide)) hlen5 fun t H9 htn e9 ht => ?_
            have htf : t ≠ pf := fun z => by rw [z, e68 _ _ hv5] at htn; cases htn
            have tu9 : Tu H5 (upd H9 pf (.lst (vals5 ++ [.ref t]))) := (tu_ex (e68.trans e9)).trans (tu_upd (u := .lst vals5) (e9 _ _ (e68 _ _ hv5)) fun _ z => nomatch z)
            refine ⟨vals5 ++ [.ref t], Ex.mut (e5.trans (e68.trans e9)) hpf, upd_same, ?_, _, _, _, rfl⟩
            rw [rowCells_succ, if_neg hn0, ← List.append_assoc]
            exact (hs5.tu tu9).snoc (q := ((if g i j < 0 then -1 else 1), cellT (g i j).natAbs i j)) (by rw [upd_ne htf]; exact ht)
        · have hn0 : g i j = 0 := by simpa using hn
          refine ⟨vals5, e5.trans (e6.trans e7), e7 _ _ (e6 _ _ hv5), ?_, _, _, _, rfl⟩
          rw [rowCells_succ, if_pos hn0, List.append_nil]
          exact hs5.tu (tu_ex (e6.trans e7))
      · obtain ⟨vals5, e5, hv5, hs5, d, e, f, rfl⟩ := p
        exact ⟨vals5, e5, hv5, by rw [cellsOf_succ]; exact hs5, _, _, _, _, _, rfl⟩
    · obtain ⟨vals, e2, hv2, hs2, b, c, d, e, f, rfl⟩ := p
      have hok := cellsOf_ok hb l (Nat.le_refl _)
      have hasc : ∀ q ∈ cellsOf g l r, Asc (txtT q.2) := fun q hq => asc_txt (hok q hq).2 hg
      have hc64 := hcl l (Nat.le_refl _)
      generalize hps : cellsOf g l r = ps at hs2 hok hasc hc64 k
      have tst : EvT (tTest (tOp (rEqD K) (tVar 1) (tLst tNil))) [some (.ref q), some (.ref pf), b, c, d, e, f, none, none] H' (decide (ps = [])) := by
        refine et_test (ev_is (ev_opL (ev_var rfl) (el_lst (vs := []) ea_nil (by decide)) fun t H9 ht e9 => rv_eqD (fun H10 e10 => dd_spairs (e10 _ _ (e9 _ _ hv2)) (hs2.tu (tu_ex (e9.trans e10))) hasc) (fun H10 e10 => dd_strs (ws := []) (e10 _ _ ht) (by simp))) ?_)
        cases ps with
        | nil => simp [PyData.eqv, PyData.eqvAll]
        | cons q ps => simp [PyData.eqv, PyData.eqvAll]
      refine q_when tst (fun h0 H3 e3 => ?_) (fun h0 H3 e3 => ?_)
      · have h0 := of_decide_eq_true h0
        subst h0
        refine s_ret ev_c fun H4 e4 => ?_
        have := k H4 (e2.trans (e3.trans e4))
        have ez : S (txts (wrOf [])) = "0 * all" := by decide +kernel
        rw [ez] at this
        exact this
      · have h0 := of_decide_eq_false h0
        obtain ⟨q0, qs, rfl⟩ : ∃ q0 qs, ps = q0 :: qs := by
          cases ps with
          | nil => exact absurd rfl h0
          | cons q0 qs => exact ⟨q0, qs, rfl⟩
        have hv3 := e3 _ _ hv2
        have hs3 := hs2.tu (tu_ex e3)
        obtain ⟨t0, k0, k1⟩ := hs3.2 0 q0 rfl
        have hq0 := hok q0 List.mem_cons_self
        have hqs : TsOk l r qs := fun q hq => hok q (List.mem_cons_of_mem _ hq)
        have hl0 := txt_len hq0.2 hg
        have hls := more_txt_len hg hqs
        have hc63 : qs.length ≤ 63 := by have : qs.length + 1 ≤ 64 := hc64; omega
        have hsg : (if decide (sgnW q0.1 = [45]) = true then V.str "-" else V.str "") = V.str (S (if q0.1 < 0 then [45] else [])) := by
          by_cases hneg : q0.1 < 0
          · rw [if_pos hneg, if_pos (by unfold sgnW; rw [if_pos hneg]; decide)]; rfl
          · rw [if_neg hneg, if_neg (by unfold sgnW; rw [if_neg hneg]; decide)]; rfl
        refine q_asg (v := .str (S (if q0.1 < 0 then [45] else []))) (ev_is (ev_pick (b := decide (sgnW q0.1 = [45])) (et_test (ev_is (ev_eqS (ev_ixTn (i := 0) (ev_ixLn (i := 0) (ev_var rfl) ev_c hv3 k0) ev_c k1 rfl) ev_c) (congrArg V.bl dec_S))) ev_c ev_c) hsg) fun H4 e4 => ?_
        have hv4 := e4 _ _ hv3
        have hs4 := hs3.tu (tu_ex e4)
        have k1' := e4 _ _ k1
        have hsl : EvL (tSl (rSlL K) (tVar 1) (tPart (tC (.int 1))) tNoPart) [some (.ref q), some (.ref pf), b, c, d, e, f, some (.str (S (if q0.1 < 0 then [45] else []))), none] H4 (vals.drop 1) := by
          have := el_sl (K := K) (te := tVar 1) (tl := tPart (tC (.int 1))) (th := tNoPart) (σ := [some (.ref q), some (.ref pf), b, c, d, e, f, some (.str (S (if q0.1 < 0 then [45] else []))), none]) (ev_var rfl) (eo_some ev_c) eo_none (sq_of hv4)
          cases vals with
          | nil => simp at k0
          | cons v0 vs => rw [cut1] at this; exact this
        have hdl : (vals.drop 1).length = qs.length := by rw [List.length_drop, hs4.1]; show qs.length + 1 - 1 = _; omega
        have hj : EvL (tLc (iList K (tSl (rSlL K) (tVar 1) (tPart (tC (.int 1))) tNoPart)) (gTup K 2 (gCons (gName 6) (gCons (gName 8) gNil))) tYes (fun σ H Q => tJs [tC (.str " "), tFmt (tVar 6), tC (.str " "), tFmt (tVar 8)] Str.empty σ H fun out H1 => Q (.str out) H1) [6, 8])
            [some (.ref q), some (.ref pf), b, c, d, e, f, some (.str (S (if q0.1 < 0 then [45] else []))), none] H4 (strW (qs.map moreW)) := by
          have kk := evl_lc (evr_lc (te := fun σ H Q => tJs [tC (.str " "), tFmt (tVar 6), tC (.str " "), tFmt (tVar 8)] Str.empty σ H fun out H1 => Q (.str out) H1) (g := gTup K 2 (gCons (gName 6) (gCons (gName 8) gNil))) (vs := [6, 8]) exOk (fun j v _ => v = V.str (S (moreW (qs.getD j (0, none, .whr .all))))) (fun _ _ _ _ _ h => h) trivial (evi_listN (K := K) hsl) (by omega) (fun i H x H' _ => yat_ex i H x H') (fun j x H5 H6 hj e5 y e6 => ?_))
          · rw [hdl, map_range_get (xs := qs) (h := fun q => V.str (S (moreW q))) (fun i x hx => by rw [List.getD_eq_getElem?_getD, hx]; rfl)] at kk
            unfold strW
            rw [List.map_map]
            exact kk
          · obtain ⟨rfl, hx⟩ := y
            rw [List.getElem?_drop] at hx
            have hjl : j < qs.length := by omega
            have hqj : (q0 :: qs)[1 + j]? = some (qs[j]'hjl) := by rw [Nat.add_comm, List.getElem?_cons_succ]; exact List.getElem?_eq_getElem hjl
            obtain ⟨tj, k2, k3⟩ := hs4.2 _ _ hqj
            rw [k2] at hx
            cases hx
            have hgd : qs.getD j (0, none, .whr .all) = qs[j]'hjl := by rw [List.getD_eq_getElem?_getD, List.getElem?_eq_getElem hjl]; rfl
            rw [hgd]
            have hlj := txt_len (hqs _ (List.getElem_mem hjl)).2 hg
            have hsj : (sgnW (qs[j]'hjl).1).length = 1 := by unfold sgnW; split <;> rfl
            refine ⟨_, fun _ k => g_pair (e6 _ _ k3) k, rfl, r_ev (ev_is (ev_joined (ej_c (ej_str (ev_var rfl) (by omega) (ej_c (ej_str (ev_var rfl) (by omega) ej_nil)))) ?_) ?_)⟩
            · have w2 : (wd " ").length = 1 := by decide +kernel
              simp only [List.length_append, List.length_nil]; omega
            · unfold moreW
              rw [List.append_nil, List.append_assoc, List.append_assoc]; rfl
        have hfl : (qs.map moreW).flatten = qs.flatMap fun q => [32] ++ sgnW q.1 ++ [32] ++ txtT q.2 := by rw [List.flatMap_def]; rfl
        refine s_ret (ev_is (ev_addS (ev_addS (ev_var rfl) (ev_ixTn (i := 1) (ev_ixLn (i := 0) (ev_var rfl) ev_c hv4 k0) ev_c k1' rfl) ?_) (ev_join0 (K := K) ev_c rfl hj ?_) ?_) ?_) fun H5 e5 => k H5 (e2.trans (e3.trans (e4.trans e5)))
        · split <;> simp <;> omega
        · rw [hfl]; omega
        · have hF : ((if q0.1 < 0 then [45] else []) : W).length ≤ 1 := by split <;> simp
          rw [hfl, List.length_append]; omega
        · rw [hfl, wrOf, if_neg h0]; rfl
end
end Q
set_option Elab.async false
set_option linter.all false
set_option maxRecDepth 100000
set_option maxHeartbeats 4000000
namespace Q
open PySem PySem.Spec PyProof.Rows L2
open Evl SX TL
section
variable {K : PySem.W.Frag} {σ : L2.St} {H H' : Hp} {ta te tb : TE} {i j : Int}
theorem evb_rng {m : Nat} (h : ∀ H1, Ex H H1 → Ev te σ H1 (.int (m : Nat))) (hm : m ≤ 100000) : EvB (iRng1 (tCons te tNil)) σ H m (YFn fun i => .int ((0 : Int) + (i : Nat))) := fun H1 e1 q hq =>
  h H1 e1 H1 (Ex.refl _) _ fun H2 e2 => ⟨(m : Nat), rfl, by omega, by omega, by
    rw [Int.toNat_natCast]
    exact hq _ _ (fun _ => True) e2 walk_range fun _ _ => trivial⟩
theorem ev_mod (ha : Ev ta σ H (.int i)) (hb : Ev tb σ H (.int j)) (h : 0 < j) : Ev (tOp (rI (fun _ j => 0 < j) fun i j => .int (i % j)) ta tb) σ H (.int (i % j)) := ev_op ha hb (rv_I h)
theorem ev_fdiv (ha : Ev ta σ H (.int i)) (hb : Ev tb σ H (.int j)) (h : 0 < j ∧ j < 1073741824) : Ev (tOp (rI CDiv fun i j => .int (i / j)) ta tb) σ H (.int (i / j)) := ev_op ha hb (rv_I h)
theorem ev_pow (ha : Ev ta σ H (.int i)) (hb : Ev tb σ H (.int j)) (h : 0 ≤ j ∧ j ≤ 1000000 ∧ i.natAbs < 2 ^ 64) : Ev (tOp (rI CPow fun i j => .int (i ^ j.toNat)) ta tb) σ H (.int (i ^ j.toNat)) := ev_op ha hb (rv_I h)
theorem ev_add (ha : Ev ta σ H (.int i)) (hb : Ev tb σ H (.int j)) : Ev (tOp (rI0 fun i j => .int (i + j)) ta tb) σ H (.int (i + j)) := ev_op ha hb rv_I0
end
section
variable {P : Program} {w : World} {K : PySem.W.Frag} {mg : Str → Option Value} {base : Heap} {f : Addr} {fd : FuncData} {CT CQ : Addr}
abbrev s_numbers : Stmt := topS 53
def sp_numbers : Sp := fun vs H Q _ => ∃ (c s : Int) (a : Addr), vs = [.int c, .int s, .ref a] ∧ H a = some (.lst (List.replicate 400 (.int 420))) ∧ (0 ≤ s ∧ s ≤ 100000) ∧ ∀ p H2 (ns : List Int), H p = none → Ex H H2 → H2 p = some (.lst (ns.map V.int)) → Q (.ref p) H2
abbrev N_numbers : List Str := ["_law_cell", "_law_salt", "_law_sizes", "_law_whole", "_law_left", "_law_result", "_law_k", "_law_one"]
theorem sc_numbers : FnScope N_numbers ["_law_cell", "_law_salt", "_law_sizes"] (defScope s_numbers) := ⟨rfl, rfl, rfl, by decide +kernel, rfl, by decide +kernel, by decide +kernel⟩
theorem ok_numbers (F : Dm K "_law_numbers" s_numbers f fd) (T : Tx K mg) : FnOk P w K mg base CX0 1 f fd ["_law_cell", "_law_salt", "_law_sizes"] sp_numbers := by
  refine F.ok sc_numbers (fun vs H Q E h => ?_) (fun cdv A outer s H vs Q E hr h => ?_)
  · obtain ⟨c, s, a, rfl, _⟩ := h
    rfl
  · obtain ⟨c, z, a, rfl, ha, hz, q⟩ := h
    have nd := sc_numbers.nd
    refine ⟨_, PSs.nox (pss_cons (ps_set (i := 3) nd rfl (.inl rfl) (pe_callB (call_max2 rfl) (by rfl) T.max bt_max (pa_cons (pv 0) (pa_cons (pe_op op_sub (pe_un un_neg pe_int) (pv 0)) pa_nil))))
      (pss_cons (ps_set (i := 4) nd rfl (.inl rfl) (pv 3)) (pss_cons (ps_set (i := 5) nd rfl (.inl rfl) (pe_lst pa_nil))
      (pss_cons (ps_for PassesOwn.never rfl (pi_range1 (by rfl) T.range (pa_cons (p_len K T.len (pv 2)) pa_nil)) (pg_name (i := 6) nd rfl (Or.inl rfl))
        (pss_one (ps_if (PW.pt (pw_and (pt_cmpR op_ge (pv 3) (pe_op op_pow pe_int pe_int) (nomark _)) (pw_and1 (pt_cmpR op_gt (pv 4) pe_int (nomark _)))))
          (pss_cons (ps_expr (pe_bm PySem.F.plainAttrs_list PySem.F.slot_list_append PySem.F.type_list_append mt_append (pv 5) (pa_cons (pe_op op_mod (pv 4) (p_ixL K (pv 2) (pv 6))) pa_nil)))
            (pss_one (ps_set (i := 4) nd rfl (.inl rfl) (pe_op op_fdiv (pv 4) (p_ixL K (pv 2) (pv 6))))))
          (pss_cons (ps_set (i := 7) nd rfl (.inl rfl) (pe_op op_mod (pe_op op_pow (pe_op op_add (pe_op op_add (pe_op op_mod (pv 3) pe_int) (pe_op op_mul pe_int (pv 1))) pe_int) pe_int) pe_int))
          (pss_cons (ps_set (i := 7) nd rfl (.inl rfl) (pe_op op_mod (pe_op op_mul (pe_op op_add (pv 7) (pe_op op_mul pe_int (pe_op op_add (pv 6) pe_int))) (pe_op op_add (pv 6) pe_int)) pe_int))
          (pss_cons (ps_set (i := 7) nd rfl (.inl rfl) (pe_op op_mod (pe_op op_mul (pe_op op_mod (pe_op op_pow (pv 7) pe_int) pe_int) pe_int) pe_int))
          (pss_one (ps_expr (pe_bm PySem.F.plainAttrs_list PySem.F.slot_list_append PySem.F.type_list_append mt_append (pv 5) (pa_cons (pe_op op_mod (pe_op op_fdiv (pv 7) pe_int) (p_ixL K (pv 2) (pv 6))) pa_nil))))))))))
      (pss_one (ps_ret (pv 5))))))), ?_⟩
    have lrep : (List.replicate 400 (V.int 420)).length = 400 := List.length_replicate
    refine q_asg (v := .int (if (-1 : Int) - c > c then -1 - c else c)) (ev_cb (ea_cons (ev_var rfl) (ea_cons (ev_op (ev_un ev_c ru_neg) (ev_var rfl) rv_I0) ea_nil)) fun H1 _ Q q => ⟨_, _, rfl, q _ (Ex.refl _)⟩) fun H1 e1 => ?_
    generalize (if (-1 : Int) - c > c then -1 - c else c) = wh
    refine q_asg (v := .int wh) (ev_var rfl) fun H2 e2 => ?_
    refine q_asgL (xs := []) (el_lst ea_nil (by decide)) fun pf H3 hpf e3 hf3 => ?_
    have e13 := e1.trans (e2.trans e3)
    have hpf0 : H pf = none := fresh_back (e1.trans e2) hpf
    have wk := evb_rng (m := 400) (te := tCB (rLenS K) (tCons (tVar 2) tNil)) (σ := [some (.int c), some (.int z), some (.ref a), some (.int wh), some (.int wh), some (.ref pf), none, none]) (H := H) (fun H1 e1 => ev_is (ev_lenL (ev_var rfl) (e1 _ _ ha)) (by rw [lrep])) (by decide)
    refine q_forB wk e13 (fun i σ' H' => ∃ (ns : List Int), Ex H H' ∧ H' pf = some (.lst (ns.map V.int)) ∧ ns.length ≤ i ∧ ∃ lf k o, σ' = [some (.int c), some (.int z), some (.ref a), some (.int wh), some (.int lf), some (.ref pf), k, o])
      (fun H4 e4 => ⟨[], e13.trans e4, e4 _ _ hf3, Nat.le_refl _, _, _, _, rfl⟩) (fun _ _ _ p => let ⟨_, e, _⟩ := p; e) (fun i x σ' H4 H5 hi p y => ?_) (fun σ' H' p => ?_)
    · obtain ⟨ns, e4, hf4, hns, lf, k, o, rfl⟩ := p
      obtain ⟨rfl, rfl⟩ := y
      have hix : ∀ {H6 : Hp} (e : Ex H H6) {o}, Ev (tOp (rIxL K) (tVar 2) (tVar 6)) [some (.int c), some (.int z), some (.ref a), some (.int wh), some (.int lf), some (.ref pf), some (.int (0 + (i : Nat))), o] H6 (.int 420) := fun {H6} e {o} =>
        ev_ixLn (i := i) (ev_var rfl) (ev_is (ev_var rfl) (show V.int (0 + (i : Nat)) = V.int (i : Nat) by rw [Int.zero_add])) (e _ _ ha) (by rw [List.getElem?_replicate, if_pos hi])
      refine s_if (et_and (et_test (ev_op (ev_var rfl) (ev_pow ev_c ev_c (by decide)) rv_I0)) fun _ => et_test (ev_op (ev_var rfl) ev_c rv_I0)) (fun _ H6 e6 => ?_) (fun _ H6 e6 => ?_)
      · refine q_app (xs := ns.map V.int) (e6 _ _ hf4) (ev_var rfl) (ev_mod (ev_var rfl) (hix (e4.trans e6)) (by decide)) (by rw [List.length_map]; omega) fun H7 e7 => ?_
        have e8 : Ex H (upd H7 pf (.lst (ns.map V.int ++ [.int (lf % 420)]))) := Ex.mut (e4.trans (e6.trans e7)) hpf0
        refine s_asg (v := .int (lf / 420)) (ev_fdiv (ev_var rfl) (hix e8) (by decide)) fun H9 e9 => ⟨ns ++ [lf % 420], e8.trans e9, e9 _ _ (by rw [upd_same, List.map_append]; rfl), by rw [List.length_append]; show ns.length + 1 ≤ _; omega, _, _, _, rfl⟩
      · have m1 : (0 : Int) ≤ wh % 2147483629 ∧ wh % 2147483629 < 2147483629 := ⟨Int.emod_nonneg _ (by decide), Int.emod_lt_of_pos _ (by decide)⟩
        refine q_asg (ev_mod (ev_pow (ev_add (ev_add (ev_mod (ev_var rfl) ev_c (by decide)) (ev_mul ev_c (ev_var rfl) (.inl (by decide)))) ev_c) ev_c ⟨by decide, by decide, by omega⟩) ev_c (by decide)) fun H7 e7 => ?_
        generalize hx1 : ((wh % 2147483629 + 7919 * z + 1) ^ (3 : Int).toNat % 2147483647) = x1
        have m2 : (0 : Int) ≤ x1 ∧ x1 < 2147483647 := by rw [← hx1]; exact ⟨Int.emod_nonneg _ (by decide), Int.emod_lt_of_pos _ (by decide)⟩
        refine q_asg (ev_mod (ev_mul (ev_add (ev_var rfl) (ev_mul ev_c (ev_add (ev_var rfl) ev_c) (.inl (by decide)))) (ev_add (ev_var rfl) ev_c) (.inr (by omega))) ev_c (by decide)) fun H8 e8 => ?_
        generalize hx2 : ((x1 + 104729 * (0 + (i : Int) + 1)) * (0 + (i : Int) + 3) % 2147483629) = x2
        have m3 : (0 : Int) ≤ x2 ∧ x2 < 2147483629 := by rw [← hx2]; exact ⟨Int.emod_nonneg _ (by decide), Int.emod_lt_of_pos _ (by decide)⟩
        refine q_asg (ev_mod (ev_mul (ev_mod (ev_pow (ev_var rfl) ev_c ⟨by decide, by decide, by omega⟩) ev_c (by decide)) ev_c (.inr (by decide))) ev_c (by decide)) fun H9 e9 => ?_
        have e69 := e6.trans (e7.trans (e8.trans e9))
        refine s_app (xs := ns.map V.int) (e69 _ _ hf4) (ev_var rfl) (ev_mod (ev_fdiv (ev_var rfl) ev_c (by decide)) (hix (e4.trans e69)) (by decide)) (by rw [List.length_map]; omega) fun H10 e10 => ?_
        exact ⟨ns ++ [_], Ex.mut (e4.trans (e69.trans e10)) hpf0, by rw [upd_same, List.map_append]; rfl, by rw [List.length_append]; show ns.length + 1 ≤ _; omega, _, _, _, rfl⟩
    · obtain ⟨ns, e4, hf4, hns, lf, k, o, rfl⟩ := p
      exact s_ret (ev_var rfl) fun H5 e5 => q pf H5 ns hpf0 (e4.trans e5) (e5 _ _ hf4)
end
end Q
set_option Elab.async false
set_option linter.all false
set_option maxRecDepth 100000
set_option maxHeartbeats 4000000
namespace Q
open PySem PySem.Spec PyProof.Rows L2
open Evl SX TL
/-! ### draws: the state list at st, its numbers at nl -/
def Stt (nl : Addr) (ns : List Int) (st : Addr) (H : Hp) : Prop := nl ≠ st ∧ ∃ k : Nat, H st = some (.lst [.ref nl, .int (k : Nat)]) ∧ H nl = some (.lst (ns.map V.int))
structure Dr (nl : Addr) (ns : List Int) (st : Addr) (H H' : Hp) : Prop where
  fr : ∀ a o, a ≠ st → H a = some o → H' a = some o
  bk : ∀ a, H' a = none → H a = none
  im : ∀ o, lstB o = false → H st = some o → H' st = some o
  s : Stt nl ns st H → Stt nl ns st H'
theorem Stt.ex {nl st : Addr} {ns : List Int} {H H' : Hp} (h : Stt nl ns st H) (e : Ex H H') : Stt nl ns st H' := let ⟨n, k, h1, h2⟩ := h; ⟨n, k, e _ _ h1, e _ _ h2⟩
theorem drOk {nl st : Addr} {ns : List Int} : RelOk (Dr nl ns st) (Stt nl ns st) where
  ex := fun e => ⟨fun a o _ h => e a o h, fun a h => fresh_back e h, fun o _ h => e _ o h, fun h => h.ex e⟩
  tr := fun a b => ⟨fun x o n h => b.fr x o n (a.fr x o n h), fun x h => a.bk x (b.bk x h), fun o l h => b.im o l (a.im o l h), fun h => b.s (a.s h)⟩
  mt := fun {H H' p o} g e hp => by
    obtain ⟨nn, k, g1, g2⟩ := id g
    have p1 : st ≠ p := ne_of_none g1 hp
    have p2 : nl ≠ p := ne_of_none g2 hp
    refine ⟨fun a u n h => ?_, fun a h => ?_, fun u l h => ?_, fun h => ?_⟩
    · rw [upd_ne (ne_of_none h hp)]; exact e.fr a u n h
    · have : a ≠ p := fun z => by rw [z, upd_same] at h; cases h
      rw [upd_ne this] at h; exact e.bk a h
    · rw [upd_ne p1]; exact e.im u l h
    · obtain ⟨_, k', h1, h2⟩ := e.s h
      exact ⟨nn, k', by rw [upd_ne p1]; exact h1, by rw [upd_ne p2]; exact h2⟩
  back := fun e h => e.bk _ h
  im := fun {H H'} e a o l h => by
    by_cases ha : a = st
    · subst ha; exact e.im o l h
    · exact e.fr a o ha h
  good := fun g e => e.s g
  keep := fun {H H1 H2 p o} g hp e1 e2 h => by
    obtain ⟨_, k, g1, _⟩ := id g
    exact e2.fr p o (Ne.symm (ne_of_none g1 hp)) h
section
variable {P : Program} {w : World} {K : PySem.W.Frag} {mg : Str → Option Value} {base : Heap} {f : Addr} {fd : FuncData} {CT CQ : Addr}
abbrev s_draw : Stmt := topS 54
def sp_draw : Sp := fun vs H Q _ => ∃ (nl st : Addr) (ns : List Int) (m : Int), vs = [.ref st, .int m] ∧ 0 < m ∧ Stt nl ns st H ∧ ∀ r : Int, 0 ≤ r → r < m → ∀ H2, Dr nl ns st H H2 → Q (.int r) H2
abbrev N_draw : List Str := ["_law_state", "_law_many", "_law_at"]
theorem sc_draw : FnScope N_draw ["_law_state", "_law_many"] (defScope s_draw) := ⟨rfl, rfl, rfl, by decide +kernel, rfl, by decide +kernel, by decide +kernel⟩
theorem ok_draw (F : Dm K "_law_draw" s_draw f fd) (T : Tx K mg) : FnOk P w K mg base CX0 1 f fd ["_law_state", "_law_many"] sp_draw := by
  refine F.ok sc_draw (fun vs H Q E h => ?_) (fun cdv A outer s H vs Q E hr h => ?_)
  · obtain ⟨nl, st, ns, m, rfl, _⟩ := h
    rfl
  · obtain ⟨nl, st, ns, m, rfl, hm, hst, q⟩ := h
    have nd := sc_draw.nd
    refine ⟨_, PSs.nox (pss_cons (ps_set (i := 2) nd rfl (.inl rfl) (p_ixL K (pv 0) pe_int))
      (pss_cons (ps_asg (pe_op op_add (pv 2) pe_int) (pg_sub (pv 0) pe_int set_list))
      (pss_one (ps_ret (pe_ifExp (pt_cmpR op_lt (pv 2) (p_len K T.len (p_ixL K (pv 0) pe_int)) (nomark _)) (pe_op op_mod (pe_callTy call_int1 (by rfl) T.int bt_int (pa_cons (p_ixL K (p_ixL K (pv 0) pe_int) (pv 2)) pa_nil)) (pv 1)) pe_int))))), ?_⟩
    obtain ⟨hn, k, h1, h2⟩ := id hst
    refine q_asg (ev_ixLn (i := 1) (ev_var rfl) ev_c h1 rfl) fun H1 e1 => ?_
    have h11 := e1 _ _ h1
    have h21 := e1 _ _ h2
    refine q_setL (xs := [.ref nl, .int (k : Nat)]) (j := 1) (v := .int ((k : Nat) + 1)) h11 (ev_add (ev_var rfl) ev_c) (ev_var rfl) ev_c (show 1 < 2 by decide) fun H2 e2 => ?_
    have h3 : (upd H2 st (.lst [.ref nl, .int ((k : Nat) + 1)])) st = some (.lst [.ref nl, .int ((k : Nat) + 1)]) := upd_same
    have h4 : (upd H2 st (.lst [.ref nl, .int ((k : Nat) + 1)])) nl = some (.lst (ns.map V.int)) := by rw [upd_ne hn]; exact e2 _ _ h21
    have dr : ∀ {H3}, Ex (upd H2 st (.lst [.ref nl, .int ((k : Nat) + 1)])) H3 → Dr nl ns st H H3 := fun {H3} e3 => by
      refine ⟨fun a o na h => e3 _ _ (by rw [upd_ne na]; exact e2 _ _ (e1 _ _ h)), fun a h => ?_, fun o l h => ?_, fun _ => ⟨hn, k + 1, e3 _ _ h3, e3 _ _ h4⟩⟩
      · have h' := fresh_back e3 h
        have : a ≠ st := fun z => by rw [z, upd_same] at h'; cases h'
        rw [upd_ne this] at h'
        exact fresh_back (e1.trans e2) h'
      · rw [h1] at h; cases h; cases l
    show tRet _ _ _ (upd H2 st (.lst [.ref nl, .int ((k : Nat) + 1)]))
    have tst : EvT (tTest (tOp (rI0 fun i j => .bl (decide (i < j))) (tVar 2) (tCB (rLenS K) (tCons (tOp (rIxL K) (tVar 0) (tC (.int 0))) tNil)))) [some (.ref st), some (.int m), some (.int (k : Nat))] (upd H2 st (.lst [.ref nl, .int ((k : Nat) + 1)])) (decide ((k : Int) < ((ns.length : Nat) : Int))) :=
      et_test (ev_is (ev_op (ev_var rfl) (ev_lenL (ev_ixLn (i := 0) (ev_var rfl) ev_c h3 rfl) h4) rv_I0) (by rw [List.length_map]))
    by_cases hk : k < ns.length
    · have hkx : (ns.map V.int)[k]? = some (.int (ns[k]'hk)) := by rw [List.getElem?_map, List.getElem?_eq_getElem hk]; rfl
      exact s_ret (v := .int (ns[k]'hk % m)) (ev_if (b := true) (et_is tst (decide_eq_true (by omega))) (fun _ => ev_mod (ev_cb (ea_cons (ev_ixLn (i := k) (ev_ixLn (i := 0) (ev_var rfl) ev_c h3 rfl) (ev_var rfl) h4 hkx) ea_nil) fun H5 _ Q q => .inl ⟨_, rfl, q _ (Ex.refl _)⟩) (ev_var rfl) hm) fun z => (nomatch z))
        fun H3 e3 => q _ (Int.emod_nonneg _ (by omega)) (Int.emod_lt_of_pos _ hm) H3 (dr e3)
    · exact s_ret (v := .int 0) (ev_if (b := false) (et_is tst (decide_eq_false (by omega))) (fun z => (nomatch z)) fun _ => ev_c) fun H3 e3 => q 0 (Int.le_refl _) hm H3 (dr e3)
end
section
variable {K : PySem.W.Frag} {σ : L2.St} {H H' : Hp} {ta te tb : TE} {nl st : Addr} {ns : List Int} {m : Int} {n l r : Nat}
theorem er_draw (hs : Stt nl ns st H) (ha : EvR (Dr nl ns st) ta σ H (IsV (.ref st))) (hb : EvR (Dr nl ns st) tb σ H (IsV (.int m))) (hm : 0 < m) : EvR (Dr nl ns st) (tCall sp_draw [] E0 (tCons ta (tCons tb tNil))) σ H (fun _ v _ => ∃ r : Int, v = .int r ∧ 0 ≤ r ∧ r < m) := fun H1 e Q q =>
  ha H1 e _ fun v H2 e2 hv => hb H2 (drOk.tr e e2) _ fun u H3 e3 hu => by
    obtain rfl : v = .ref st := hv
    obtain rfl : u = .int m := hu
    exact ⟨nl, st, ns, m, rfl, hm, drOk.good hs (drOk.tr e (drOk.tr e2 e3)), fun r h1 h2 H4 e4 => q _ _ (drOk.tr e2 (drOk.tr e3 e4)) ⟨r, rfl, h1, h2⟩⟩
/-- a list of ints in bounds, as a function -/
theorem ints_fn {xs : List V} {n : Nat} {Pb : Nat → Int → Prop} (hl : xs.length = n) (hx : ∀ (j : Nat) v, xs[j]? = some v → ∃ k : Int, v = .int k ∧ Pb j k) : ∃ h : Nat → Int, xs = (List.range n).map (fun j => V.int (h j)) ∧ ∀ j, j < n → Pb j (h j) := by
  refine ⟨fun j => match xs[j]? with | some (.int k) => k | _ => 0, list_of hl fun j v hv => ?_, fun j hj => ?_⟩
  · obtain ⟨k, rfl, _⟩ := hx j v hv
    simp only [hv]
  · have hv : xs[j]? = some (xs[j]'(by omega)) := List.getElem?_eq_getElem (by omega)
    obtain ⟨k, e, p⟩ := hx j _ hv
    simp only [hv, e]; exact p
theorem gr_fn {xs : List V} {Pb : Nat → Nat → Int → Prop} {a : Addr} (ha : H a = some (.tup xs)) (hl : xs.length = l) (hx : ∀ (i : Nat) v, xs[i]? = some v → ∃ p h, v = .ref p ∧ Rw H p r h ∧ ∀ j, j < r → Pb i j (h j)) : ∃ f, Gr H a l r f ∧ ∀ i j, i < l → j < r → Pb i j (f i j) := by
  have hc : ∀ i, ∃ h : Nat → Int, ∀ v, xs[i]? = some v → ∃ p, v = .ref p ∧ Rw H p r h ∧ ∀ j, j < r → Pb i j (h j) := fun i => by
    cases e : xs[i]? with
    | none => exact ⟨fun _ => 0, fun v z => nomatch z⟩
    | some v =>
      obtain ⟨p, h, h1, h2, h3⟩ := hx i v e
      exact ⟨h, fun u z => by cases z; exact ⟨p, h1, h2, h3⟩⟩
  obtain ⟨f, hf⟩ := Classical.axiomOfChoice hc
  refine ⟨f, ⟨xs, ha, hl, fun i v hv => let ⟨p, h1, h2, _⟩ := hf i v hv; ⟨p, h1, h2⟩⟩, fun i j hi hj => ?_⟩
  obtain ⟨p, _, _, h3⟩ := hf i _ (List.getElem?_eq_getElem (by omega))
  exact h3 j hj
end
section
variable {P : Program} {w : World} {K : PySem.W.Frag} {mg : Str → Option Value} {base : Heap} {f : Addr} {fd : FuncData} {CT CQ : Addr}
abbrev s_lgrid : Stmt := topS 55
def sp_lgrid : Sp := fun vs H Q _ => ∃ (nl st : Addr) (ns : List Int) (l r : Nat) (m : Int), vs = [.ref st, .int l, .int r, .int m] ∧ 0 < m ∧ l ≤ 8 ∧ r ≤ 8 ∧ Stt nl ns st H ∧ ∀ p H2 f, Dr nl ns st H H2 → Gr H2 p l r f → (∀ i j, i < l → j < r → 0 ≤ f i j ∧ f i j < m) → Q (.ref p) H2
abbrev N_lgrid : List Str := ["_law_state", "_law_left", "_law_right_here", "_law_most", "_law_one", "_law_other"]
theorem sc_lgrid : FnScope N_lgrid ["_law_state", "_law_left", "_law_right_here", "_law_most"] (defScope s_lgrid) := ⟨rfl, rfl, rfl, by decide +kernel, rfl, by decide +kernel, by decide +kernel⟩
theorem ok_lgrid (F : Dm K "_law_grid" s_lgrid f fd) (T : Tx K mg) (cd : Cl P w K mg base 1 "_law_draw" sp_draw) : FnOk P w K mg base CX0 2 f fd ["_law_state", "_law_left", "_law_right_here", "_law_most"] sp_lgrid := by
  refine F.ok sc_lgrid (fun vs H Q E h => ?_) (fun cdv A outer s H vs Q E hr h => ?_)
  · obtain ⟨nl, st, ns, l, r, m, rfl, _⟩ := h
    rfl
  · obtain ⟨nl, st, ns, l, r, m, rfl, hm, hl, hrr, hst, q⟩ := h
    have nd := sc_lgrid.nd
    refine ⟨_, PSs.nox (pss_one (ps_ret (p_tuple K T.tuple
      (pe_lc (own := [("_law_one", 4)]) (g := gName 4) (tt := tYes) rfl nd (pi_range1 (by rfl) T.range (pa_cons (pv 1) pa_nil)) (blkOk_by (N := N_lgrid) (sc := defScope s_lgrid) (by decide +kernel))
              (fun _ _ _ _ _ => pg_name (i := 4) nd rfl (Or.inl rfl)) (fun _ _ _ _ _ => pts_nil) (fun _ _ _ _ _ =>
        p_tuple K T.tuple (pe_lc (own := [("_law_other", 5)]) (g := gName 5) (tt := tYes) rfl nd (pi_range1 (by rfl) T.range (pa_cons (pv 2) pa_nil)) (blkOk_by (N := N_lgrid) (sc := _) (by kernel_rfl))
              (fun _ _ _ _ _ => pg_name (i := 5) nd rfl (Or.inl rfl)) (fun _ _ _ _ _ => pts_nil) (fun _ _ _ _ _ => pc cd hr (pa_cons (pv 0) (pa_cons (pv 3) pa_nil))))))))), ?_⟩
    have mono : ∀ (i : Nat) (v : V) H H', Im H H' → (∃ p h, v = .ref p ∧ Rw H p r h ∧ ∀ j, j < r → 0 ≤ h j ∧ h j < m) → ∃ p h, v = .ref p ∧ Rw H' p r h ∧ ∀ j, j < r → 0 ≤ h j ∧ h j < m := fun i v H H' e ⟨p, h, h1, h2, h3⟩ => ⟨p, h, h1, h2.im e, h3⟩
    have k := evr_tup (K := K) drOk hst mono (evr_lc (te := tCB (rTupOf K) (tCons (tLc (iRng1 (tCons (tVar 2) tNil)) (gName 5) tYes (tCall sp_draw [] E0 (tCons (tVar 0) (tCons (tVar 3) tNil))) [5]) tNil)) (g := gName 4) (vs := [4]) (drOk (nl := nl) (ns := ns) (st := st)) (fun i v H => ∃ p h, v = V.ref p ∧ Rw H p r h ∧ ∀ j, j < r → 0 ≤ h j ∧ h j < m) mono hst
      (evi_rng (σ := start N_lgrid [.ref st, .int l, .int r, .int m]) (te := tVar 1) drOk (evr_v drOk rfl) (by omega)) (by omega) (fun i H x H' _ => yfn_ex i H x H') fun i x H1 H2 hi e1 y e2 => ?_)
    · refine k H (drOk.rf H) _ fun v H1 e1 ⟨p, xs, hv, _, hp, hxl, hx⟩ => ?_
      subst hv
      obtain ⟨f, hf, hb⟩ := gr_fn (Pb := fun i j k => 0 ≤ k ∧ k < m) hp hxl hx
      exact q p H1 f e1 hf hb
    · obtain ⟨rfl, rfl⟩ := y
      refine ⟨_, fun _ k => k, rfl, ?_⟩
      have hst2 := drOk.good hst e2
      refine (evr_tup drOk hst2 (fun _ _ _ _ _ h => h) (evr_lc drOk (fun j v _ => ∃ k : Int, v = V.int k ∧ 0 ≤ k ∧ k < m) (fun _ _ _ _ _ h => h) hst2
        (evi_rng (σ := [some (.ref st), some (.int l), some (.int r), some (.int m), some (.int (0 + (i : Nat))), none]) (te := tVar 2) drOk (evr_v drOk rfl) (by omega)) (by omega) (fun i H x H' _ => yfn_ex i H x H') fun j x H3 H4 hj e3 y e4 => ?_)).imp fun H3 v H4 _ _ t => ?_
      · obtain ⟨rfl, rfl⟩ := y
        exact ⟨_, fun _ k => k, rfl, er_draw (drOk.good hst2 e4) (evr_v drOk rfl) (evr_v drOk rfl) hm⟩
      · obtain ⟨p, xs, hv, _, hp, hxl, hx⟩ := t
        obtain ⟨h, h1, h2⟩ := ints_fn (Pb := fun j k => 0 ≤ k ∧ k < m) hxl hx
        exact ⟨p, h, hv, by unfold Rw; rw [hp, h1], h2⟩
end
end Q
set_option Elab.async false
set_option linter.all false
set_option maxRecDepth 100000
set_option maxHeartbeats 4000000
namespace Q
open PySem PySem.Spec PyProof.Rows L2
open Evl SX TL
section
variable {K : PySem.W.Frag} {σ : L2.St} {H H' : Hp} {ta te tb : TE} {tt : TT} {nl st : Addr} {ns : List Int} {m : Int} {n l r : Nat} {R : Hp → Hp → Prop} {G : Hp → Prop}
/-- a new list of rising ints below n -/
def RisL (n : Nat) : Hp → V → Hp → Prop := fun H1 y H2 => ∃ p ns, y = .ref p ∧ H1 p = none ∧ H2 p = some (.lst (intsN ns)) ∧ ns.Pairwise (· < ·) ∧ ∀ x ∈ ns, x < n
theorem intsN_snoc {ns : List Nat} {i : Nat} : intsN (ns ++ [i]) = intsN ns ++ [.int (i : Nat)] := by unfold intsN; rw [List.map_append, List.map_append]; rfl
theorem evr_lcR {j : Nat} {vs : List Nat} (k : RelOk R G) (gH : G H) (hi : EvR R ta σ H (IsV (.int (n : Nat)))) (hn : n ≤ 1000) (hw : ∀ x, wipe ((wipe σ vs).set j (some x)) vs = wipe σ vs)
    (ht : ∀ i H1, R H H1 → ∀ Q : Bool → Hp → Prop, (∀ b H2, R H1 H2 → Q b H2) → tt ((wipe σ vs).set j (some (.int ((0 : Int) + (i : Nat))))) H1 Q) (he : ∀ i : Nat, te = tVar j ∧ ((wipe σ vs).set j (some (.int ((0 : Int) + (i : Nat)))))[j]? = some (some (.int ((0 : Int) + (i : Nat))))) :
    EvR R (tLc (iRng1 (tCons ta tNil)) (gName j) tt te vs) σ H (RisL n) := by
  intro H1 e1 Q q
  refine evi_rng k hi (by omega) H1 e1 _ fun J H2 G' e2 w hG D hD => ?_
  have hD1 : H1 D = none := k.back e2 hD
  have g2 : G H2 := k.good gH (k.tr e1 e2)
  refine lc_it w (fun i H' => R H2 H' ∧ ∃ ns : List Nat, H' D = some (.lst (intsN ns)) ∧ ns.Pairwise (· < ·) ∧ (∀ x ∈ ns, x < i) ∧ ns.length ≤ i) ⟨k.mt g2 (k.rf _) hD, [], upd_same, List.Pairwise.nil, by simp, Nat.le_refl _⟩ (fun i H' _ p => hG H' p.1) (fun i x H3 H4 hi p y => ?_) (fun H' p => ?_)
  · obtain ⟨e3, ns, ha, hp, hb, hl⟩ := p
    obtain ⟨rfl, rfl⟩ := y
    refine ⟨hw _, ht i H4 (k.tr e1 (k.tr e2 e3)) _ fun b H5 e5 => ?_⟩
    have hD5 : H5 D = some (.lst (intsN ns)) := k.keep g2 hD e3 e5 ha
    cases b with
    | true =>
      refine iteT ?_
      obtain ⟨rfl, hv⟩ := he i
      refine ⟨_, hv, intsN ns, hD5, by rw [show (intsN ns).length = ns.length by simp [intsN]]; unfold sizeLine; omega, k.mt g2 (k.tr e3 e5) hD, ns ++ [i], ?_, ?_, fun x hx => ?_, by rw [List.length_append]; show ns.length + 1 ≤ _; omega⟩
      · rw [upd_same, intsN_snoc, Int.zero_add]
      · exact List.pairwise_append.mpr ⟨hp, List.pairwise_singleton _ _, fun x hx y hy => by rw [List.mem_singleton] at hy; subst hy; exact hb x hx⟩
      · rcases List.mem_append.mp hx with h | h
        · have := hb x h; omega
        · rw [List.mem_singleton] at h; omega
    | false => exact iteF ⟨k.tr e3 e5, ns, hD5, hp, fun x hx => by have := hb x hx; omega, by omega⟩
  · obtain ⟨e3, ns, ha, hp, hb, hl⟩ := p
    exact q _ H' (k.tr e2 e3) ⟨D, ns, rfl, hD1, ha, hp, hb⟩
theorem qR_asg {Φ : Hp → V → Hp → Prop} {D : Ends} {tz : TS} {i : Nat} (rk : RelOk R G) (h : EvR R te σ H Φ) (k : ∀ v H1, R H H1 → Φ H v H1 → tz D (σ.set i (some v)) H1) : tSeq (tAsg te (gName i)) tz D σ H := h H (rk.rf H) _ fun v H1 e w => k v H1 e w
theorem sR_ret {Φ : Hp → V → Hp → Prop} {D : Ends} (rk : RelOk R G) (h : EvR R te σ H Φ) (k : ∀ v H1, R H H1 → Φ H v H1 → D.rt v H1) : tRet te D σ H := h H (rk.rf H) _ k
theorem s_retIfF {D : Ends} (h : EvT tt σ H false) (k : ∀ H1, Ex H H1 → tRet tb D σ H1) : tRet (tIf tt ta tb) D σ H := h H (Ex.refl _) _ fun H1 e => iteF (k H1 e)
theorem sR_retL1 {Φ : Hp → V → Hp → Prop} {D : Ends} (rk : RelOk R G) (h : EvR R te σ H Φ) (k : ∀ v H1 p, R H H1 → Φ H v H1 → H1 p = none → D.rt (.ref p) (upd H1 p (.lst [v]))) : tRet (tLst (tCons te tNil)) D σ H := h H (rk.rf H) _ fun v H1 e w => ⟨by show 1 ≤ sizeLine; decide, fun p hp => k v H1 p e w hp⟩
theorem dd_lstN {p : Addr} {ns : List Nat} (h : H p = some (.lst (intsN ns))) : Dd K H (.ref p) (.list ((ns.map fun n : Nat => (n : Int)).map PyData.int)) := dd_lstI h
theorem ev_joinZ {z : Nat} {ps : List W} {s : Str} (ha : Ev ta σ H (.str s)) (hz : s = S [z]) (hb : EvL tb σ H (strW ps)) (hl : ps.flatten.length ≤ 100000) (hn : ps.length ≤ 100000) : Ev (tM1 (rJoinQ K) ta tb) σ H (.str (S (joinL [z] ps))) := fun H1 e Q q =>
  ha H1 e _ fun H2 e2 => ⟨⟨_, rfl⟩, hb H2 (e.trans e2) _ fun p H3 _ e3 hp => ⟨s, p, ps.map S, rfl, rfl, .inl (sq_of (by rw [hp]; unfold strW; rw [List.map_map]; rfl)), by rw [sum_len, hz, List.length_map, S_len]; show _ + _ * 1 ≤ _; omega, by
    rw [hz, join_S]; exact q H3 (e2.trans e3)⟩⟩
theorem ev_strI {n : Nat} (ha : Ev ta σ H (.int (n : Nat))) (hn : n < 10 ^ 40) : Ev (tCB (fun xs H Q => ∃ i : Int, xs = [.int i] ∧ i.natAbs.log2 < 1920 ∧ Q (.str (toString i)) H) (tCons ta tNil)) σ H (.str (S (numL n))) := fun H1 e Q q =>
  ha H1 e _ fun H2 e2 => ⟨_, rfl, log2_small hn, by
    show Q (.str (Str.ofString (toString ((n : Nat) : Int)))) H2
    rw [num_S]; exact q H2 e2⟩
end
theorem flat_num {ns : List Nat} (k : Nat) (h : ∀ n ∈ ns, (numL n).length ≤ k) : (ns.map numL).flatten.length ≤ ns.length * k := by
  induction ns with
  | nil => simp
  | cons n ns ih =>
    have h1 := h n List.mem_cons_self
    have h2 := ih fun m hm => h m (List.mem_cons_of_mem _ hm)
    rw [List.map_cons, List.flatten_cons, List.length_append, List.length_cons, Nat.succ_mul]; omega
section
variable {P : Program} {w : World} {K : PySem.W.Frag} {mg : Str → Option Value} {base : Heap} {f : Addr} {fd : FuncData} {CT CQ : Addr}
abbrev s_values : Stmt := topS 56
def sp_values : Sp := fun vs H Q _ => ∃ (nl st : Addr) (ns : List Int) (n : Nat), vs = [.ref st, .int n] ∧ 1 ≤ n ∧ n ≤ 8 ∧ Stt nl ns st H ∧ ∀ p H2 us, H p = none → Dr nl ns st H H2 → H2 p = some (.lst (intsN us)) → Vls us n → Q (.ref p) H2
abbrev N_values : List Str := ["_law_state", "_law_size", "_law_values_here", "_law_value"]
theorem sc_values : FnScope N_values ["_law_state", "_law_size"] (defScope s_values) := ⟨rfl, rfl, rfl, by decide +kernel, rfl, by decide +kernel, by decide +kernel⟩
theorem ok_values (F : Dm K "_law_values" s_values f fd) (T : Tx K mg) (cd : Cl P w K mg base 1 "_law_draw" sp_draw) : FnOk P w K mg base CX0 2 f fd ["_law_state", "_law_size"] sp_values := by
  refine F.ok sc_values (fun vs H Q E h => ?_) (fun cdv A outer s H vs Q E hr h => ?_)
  · obtain ⟨nl, st, ns, n, rfl, _⟩ := h
    rfl
  · obtain ⟨nl, st, ns, n, rfl, h1, h8, hst, q⟩ := h
    have nd := sc_values.nd
    refine ⟨_, PSs.nox (pss_cons (ps_setLc (i := 2) (own := [("_law_value", 3)]) (g := gName 3) rfl nd rfl rfl (sw_true rfl rfl rfl (by decide +kernel)) (pi_range1 (by rfl) T.range (pa_cons (pv 1) pa_nil)) (blkOk_by (N := N_values) (sc := defScope s_values) (by decide +kernel))
          (fun _ _ _ _ _ => pg_name (i := 3) nd rfl (Or.inl rfl)) (fun _ _ _ _ _ => pts_one (pt_cmpR op_eq (pc cd hr (pa_cons (pv 0) (pa_cons pe_int pa_nil))) pe_int (nomark _))) (fun _ _ _ _ _ => pv 3))
      (pss_one (ps_ret (pe_ifExp (pt_cmpR (op_neD hr.units) (pv 2) (pe_lst pa_nil) (nomark _)) (pv 2) (pe_lst (pa_cons (pc cd hr (pa_cons (pv 0) (pa_cons (pv 1) pa_nil))) pa_nil)))))), ?_⟩
    have k := evr_lcR (j := 3) (vs := [3]) (te := tVar 3) (tt := tTest (tOp rEq (tCall sp_draw [] E0 (tCons (tVar 0) (tCons (tC (.int 2)) tNil))) (tC (.int 0)))) (drOk (nl := nl) (ns := ns) (st := st)) hst (ta := tVar 1) (n := n) (σ := start N_values [.ref st, .int n]) (evr_v drOk rfl) (by omega) (fun x => rfl)
      (fun i H1 e1 Q q => ?_) (fun i => ⟨rfl, rfl⟩)
    · refine qR_asg drOk k fun v H1 e1 ⟨p, us, hv, hpn, hp, hpw, hb⟩ => ?_
      subst hv
      have hst1 := drOk.good hst e1
      have tst : EvT (tTest (tOp (rNeD K) (tVar 2) (tLst tNil))) [some (.ref st), some (.int n), some (.ref p), none] H1 (!decide (us = [])) := by
        refine et_test (ev_is (ev_opL (ev_var rfl) (el_lst (vs := []) ea_nil (by decide)) fun t H9 ht e9 => rv_neD (fun H10 e10 => dd_lstN (e10 _ _ (e9 _ _ hp))) (fun H10 e10 => dd_lstI (ns := []) (e10 _ _ ht))) ?_)
        simp only [PyData.eqv, eqv_ints]
        congr 2
        rw [Bool.eq_iff_iff]; simp
      by_cases h0 : us = []
      · refine s_retIfF (et_is tst (b := false) (by rw [decide_eq_true h0]; rfl)) fun H2 e2 => ?_
        have hst2 := hst1.ex e2
        refine sR_retL1 drOk (er_draw (m := (n : Nat)) hst2 (evr_v drOk rfl) (evr_v drOk rfl) (by omega)) fun v H3 t e3 ⟨x, hv, hx0, hxn⟩ ht => ?_
        subst hv
        have e12 := drOk.tr e1 (drOk.tr (drOk.ex e2) e3)
        obtain ⟨y, rfl⟩ : ∃ y : Nat, x = (y : Int) := ⟨x.toNat, by omega⟩
        exact q t _ [y] (drOk.back e12 ht) (drOk.tr e12 (drOk.ex (Ex.new ht))) upd_same ⟨by simp, List.pairwise_singleton _ _, fun z hz => by rw [List.mem_singleton] at hz; omega⟩
      · exact s_ret (ev_if (b := true) (et_is tst (by rw [decide_eq_false h0]; rfl)) (fun _ => ev_var rfl) fun z => (nomatch z)) fun H2 e2 => q p H2 us hpn (drOk.tr e1 (drOk.ex e2)) (e2 _ _ hp) ⟨h0, hpw, hb⟩
    · refine er_draw (m := 2) (ta := tVar 0) (tb := tC (.int 2)) (drOk.good hst e1) (evr_v drOk rfl) (fun H2 _ Q q => q _ _ (drOk.rf _) rfl) (by decide) H1 (drOk.rf _) _ fun v H2 e2 ⟨x, hv, _⟩ => ?_
      subst hv
      exact ⟨rfl, _, rfl, q _ H2 e2⟩
abbrev s_lcommas : Stmt := topS 57
def sp_lcommas : Sp := fun vs H Q _ => ∃ (a : Addr) (ns : List Nat), vs = [.ref a] ∧ H a = some (.lst (intsN ns)) ∧ Small ns ∧ ∀ H2, Ex H H2 → Q (.str (S (commas ns))) H2
abbrev N_lcommas : List Str := ["_law_values_here", "_law_value"]
theorem sc_lcommas : FnScope N_lcommas ["_law_values_here"] (defScope s_lcommas) := ⟨rfl, rfl, rfl, by decide +kernel, rfl, by decide +kernel, by decide +kernel⟩
theorem ok_lcommas (F : Dm K "_law_commas" s_lcommas f fd) (T : Tx K mg) : FnOk P w K mg base CX0 1 f fd ["_law_values_here"] sp_lcommas := by
  refine F.ok sc_lcommas (fun vs H Q E h => ?_) (fun cdv A outer s H vs Q E hr h => ?_)
  · obtain ⟨a, ns, rfl, _⟩ := h
    rfl
  · obtain ⟨a, ns, rfl, ha, hs, q⟩ := h
    have nd := sc_lcommas.nd
    refine ⟨_, PSs.nox (pss_one (ps_ret (pe_join pe_str (pe_lc (own := [("_law_value", 1)]) (g := gName 1) (tt := tYes) rfl nd (pi_listQ K (pv 0)) (blkOk_by (N := N_lcommas) (sc := defScope s_lcommas) (by decide +kernel))
              (fun _ _ _ _ _ => pg_name (i := 1) nd rfl (Or.inl rfl)) (fun _ _ _ _ _ => pts_nil) (fun _ _ _ _ _ => pe_callTy call_str_int (by rfl) T.str bt_str (pa_cons (pv 1) pa_nil)))))), ?_⟩
    have hl := hs.2.1
    have hln : (intsN ns).length = ns.length := by simp [intsN]
    have kk := evl_lc (er_lcV (j := 1) (vs := [1]) (te := tCB (fun xs H Q => ∃ i : Int, xs = [V.int i] ∧ i.natAbs.log2 < 1920 ∧ Q (.str (toString i)) H) (tCons (tVar 1) tNil)) (σ := start N_lcommas [.ref a]) (fun i => V.str (S (numL (ns.getD i 0)))) (evi_list (K := K) (te := tVar 0) (ev_var rfl) ha) (by omega) (fun x => rfl) fun i x H1 e1 hx => ?_)
    · rw [hln, map_range_get (xs := ns) (h := fun n => V.str (S (numL n))) (fun i x hx => by rw [List.getD_eq_getElem?_getD, hx]; rfl)] at kk
      have kk2 : EvL (tLc (iList K (tVar 0)) (gName 1) tYes (tCB (fun xs H Q => ∃ i : Int, xs = [V.int i] ∧ i.natAbs.log2 < 1920 ∧ Q (.str (toString i)) H) (tCons (tVar 1) tNil)) [1]) (start N_lcommas [.ref a]) H (strW (ns.map numL)) := by
        unfold strW; rw [List.map_map]; exact kk
      have hfl := flat_num (ns := ns) 2 fun n hn => numL_len2 (hs.2.2 n hn)
      exact s_ret (ev_joinZ (K := K) (z := 44) (s := ",") ev_c rfl kk2 (by omega) (by rw [List.length_map]; omega)) q
    · rw [intsN_eq, List.getElem?_map] at hx
      cases hni : ns[i]? with
      | none => rw [hni] at hx; cases hx
      | some n =>
        rw [hni] at hx
        cases hx
        have e : ns.getD i 0 = n := by rw [List.getD_eq_getElem?_getD, hni]; rfl
        have := hs.2.2 n (List.mem_of_getElem? hni)
        rw [e]
        exact ev_strI (ev_var rfl) (by omega)
abbrev s_lmarks : Stmt := topS 59
def LstI (H : Hp) (p : Addr) (n : Nat) (h : Nat → Int) : Prop := H p = some (.lst ((List.range n).map fun i => V.int (h i)))
def sp_lmarks : Sp := fun vs H Q _ => ∃ (a : Addr) (ns : List Nat) (n : Nat), vs = [.ref a, .int n] ∧ H a = some (.lst (intsN ns)) ∧ n ≤ 8 ∧ ∀ q H2, H q = none → Ex H H2 → LstI H2 q n (fun i => b01 (decide (i ∈ ns))) → Q (.ref q) H2
abbrev N_lmarks : List Str := ["_law_values_here", "_law_size", "_law_value"]
theorem sc_lmarks : FnScope N_lmarks ["_law_values_here", "_law_size"] (defScope s_lmarks) := ⟨rfl, rfl, rfl, by decide +kernel, rfl, by decide +kernel, by decide +kernel⟩
theorem ok_lmarks (F : Dm K "_law_marks" s_lmarks f fd) (T : Tx K mg) : FnOk P w K mg base CX0 1 f fd ["_law_values_here", "_law_size"] sp_lmarks := by
  refine F.ok sc_lmarks (fun vs H Q E h => ?_) (fun cdv A outer s H vs Q E hr h => ?_)
  · obtain ⟨a, ns, n, rfl, _⟩ := h
    rfl
  · obtain ⟨a, ns, n, rfl, ha, hn, q⟩ := h
    have nd := sc_lmarks.nd
    refine ⟨_, PSs.nox (pss_one (ps_ret (pe_lc (own := [("_law_value", 2)]) (g := gName 2) (tt := tYes) rfl nd (pi_range1 (by rfl) T.range (pa_cons (pv 1) pa_nil)) (blkOk_by (N := N_lmarks) (sc := defScope s_lmarks) (by decide +kernel))
              (fun _ _ _ _ _ => pg_name (i := 2) nd rfl (Or.inl rfl)) (fun _ _ _ _ _ => pts_nil) (fun _ _ _ _ _ => pe_callTy call_int1 (by rfl) T.int bt_int (pa_cons (p_inQ K (pv 2) (pv 0)) pa_nil))))), ?_⟩
    have kk := evl_lc (evr_lc (te := tCB (fun xs H Q => (∃ i, xs = [V.int i] ∧ Q (.int i) H) ∨ ∃ k, xs = [.bl k] ∧ Q (.int (if k then 1 else 0)) H) (tCons (tOp (rIn K false) (tVar 2) (tVar 0)) tNil)) (g := gName 2) (vs := [2]) exOk (fun j v _ => v = V.int (b01 (decide (j ∈ ns)))) (fun _ _ _ _ _ h => h) trivial
      (evi_rng (σ := start N_lmarks [.ref a, .int n]) (te := tVar 1) (H := H) exOk (r_ev (ev_var rfl)) (by omega)) (by omega) (fun i H x H' _ => yfn_ex i H x H') (fun j x H5 H6 hj e5 y e6 => ?_))
    · exact s_retL kk fun p H1 hpn e1 hp => q p H1 hpn e1 hp
    · obtain ⟨rfl, rfl⟩ := y
      exact ⟨_, fun _ k => k, rfl, r_ev (ev_cb (ea_cons (ev_is (ev_op (ev_is (ev_var rfl) (show V.int (0 + (j : Nat)) = V.int (j : Nat) by rw [Int.zero_add])) (ev_var rfl) (rv_isL (sq_of (e6 _ _ ha)) rfl (ints_flat _))) (congrArg V.bl inV_intsN)) ea_nil) fun H7 _ Q q => .inr ⟨_, rfl, q _ (Ex.refl _)⟩)⟩
end
end Q
set_option Elab.async false
set_option linter.all false
set_option maxRecDepth 100000
set_option maxHeartbeats 4000000
namespace Q
open PySem PySem.Spec PyProof.Rows L2
open Evl SX TL
theorem flat_rep (x : V) : ∀ n : Nat, (List.replicate n [x]).flatten = List.replicate n x
  | 0 => rfl
  | n + 1 => by rw [List.replicate_succ, List.flatten_cons, flat_rep x n]; rfl
def txtP (p : Part) : W := joinL [32] (wordsP p)
/-- what is drawn: a part's text, its two lists -/
def PartL (l r : Nat) (H2 : Hp) (vs : List V) (P : Part) (a b : Addr) (h k : Nat → Int) : Prop := vs = [.str (S (txtP P)), .ref a, .ref b] ∧ LstI H2 a l h ∧ LstI H2 b r k ∧ PartOk l r P ∧ (∀ i j, i < l → j < r → gridP P i j = h i * k j) ∧ (∀ i, i < l → 0 ≤ h i ∧ h i ≤ 100) ∧ ∀ j, j < r → 0 ≤ k j ∧ k j ≤ 100
section
variable {K : PySem.W.Frag} {σ : L2.St} {H H' : Hp} {ta te tb tc : TE} {tt : TT} {nl st : Addr} {ns : List Int} {m : Int} {n l r : Nat} {R : Hp → Hp → Prop} {G : Hp → Prop} {v : V} {xs ys : List V} {D : Ends} {tz : TS}
theorem s_retL3 (ha : Ev ta σ H v) (hb : EvL tb σ H xs) (hc : EvL tc σ H ys) (k : ∀ a b p H1, H a = none → H b = none → H p = none → Ex H H1 → H1 a = some (.lst xs) → H1 b = some (.lst ys) → H1 p = some (.lst [v, .ref a, .ref b]) → D.rt (.ref p) H1) : tRet (tLst (tCons ta (tCons tb (tCons tc tNil)))) D σ H :=
  ha H (Ex.refl _) _ fun H1 e1 => hb H1 e1 _ fun a H2 hna e2 h2 => hc H2 (e1.trans e2) _ fun b H3 hnb e3 h3 => ⟨by show 3 ≤ sizeLine; decide, fun p hp =>
    k a b p _ (fresh_back e1 hna) (fresh_back (e1.trans e2) hnb) (fresh_back (e1.trans (e2.trans e3)) hp) (e1.trans (e2.trans (e3.trans (Ex.new hp)))) (Ex.new hp _ _ (e3 _ _ h2)) (Ex.new hp _ _ h3) upd_same⟩
theorem el_rep {x : V} (ha : EvL ta σ H [x]) (hb : ∀ H1, Ex H H1 → Ev tb σ H1 (.int (n : Nat))) (hn : n ≤ 1000) : EvL (tOp rRep ta tb) σ H (List.replicate n x) := fun H1 e Q q =>
  ha H1 e _ fun p H2 hn' e2 hp => hb H2 (e.trans e2) H2 (Ex.refl _) _ fun H3 e3 => ⟨p, (n : Nat), [x], rfl, rfl, e3 _ _ hp, by omega, by omega, by rw [Int.toNat_natCast]; show 1 * n ≤ _; unfold sizeLine; omega, fun t ht => by
    rw [Int.toNat_natCast, flat_rep]
    exact q t _ (fresh_back (e2.trans e3) ht) (e2.trans (e3.trans (Ex.new ht))) upd_same⟩
theorem rep_range {x : V} {n : Nat} : List.replicate n x = (List.range n).map fun _ => x := by
  apply List.ext_getElem
  · simp
  · intro i h1 h2; simp
theorem cutTo1 {x : V} {zs : List V} : cutV (x :: zs) none (some 1) = [x] := by
  unfold cutV
  have e : HT.sIx (x :: zs).length (x :: zs).length (some 1) = 1 := by
    have := HT.sIx_nat (x :: zs).length (x :: zs).length 1
    rw [show ((1 : Nat) : Int) = 1 from rfl] at this
    rw [this]; simp
  rw [e, HT.sIx_none]; rfl
theorem el_lmarks {us : List Nat} (ha : EvL ta σ H (intsN us)) (hb : ∀ H1, Ex H H1 → Ev tb σ H1 (.int (n : Nat))) (hn : n ≤ 8) : EvL (tCall sp_lmarks [] E0 (tCons ta (tCons tb tNil))) σ H ((List.range n).map fun i => V.int (b01 (decide (i ∈ us)))) := fun H1 e Q q =>
  ha H1 e _ fun a H2 _ e2 h2 => hb H2 (e.trans e2) H2 (Ex.refl _) _ fun H3 e3 => ⟨a, us, n, rfl, e3 _ _ h2, hn, fun t H4 ht e4 h4 => q t H4 (fresh_back (e2.trans e3) ht) (e2.trans (e3.trans e4)) h4⟩
theorem el_lmarksV {us : List Nat} {a : Addr} (ha : Ev ta σ H (.ref a)) (h : H a = some (.lst (intsN us))) (hb : ∀ H1, Ex H H1 → Ev tb σ H1 (.int (n : Nat))) (hn : n ≤ 8) : EvL (tCall sp_lmarks [] E0 (tCons ta (tCons tb tNil))) σ H ((List.range n).map fun i => V.int (b01 (decide (i ∈ us)))) := fun H1 e Q q =>
  ha H1 e _ fun H2 e2 => hb H2 (e.trans e2) H2 (Ex.refl _) _ fun H3 e3 => ⟨a, us, n, rfl, e3 _ _ (e2 _ _ (e _ _ h)), hn, fun t H4 ht e4 h4 => q t H4 (fresh_back (e2.trans e3) ht) (e2.trans (e3.trans e4)) h4⟩
theorem ev_lcommas {us : List Nat} {a : Addr} (ha : Ev ta σ H (.ref a)) (h : H a = some (.lst (intsN us))) (hs : Small us) : Ev (tCall sp_lcommas [] E0 (tCons ta tNil)) σ H (.str (S (commas us))) := ev_call (ea_cons ha ea_nil) fun H1 e1 Q q E => ⟨a, us, rfl, e1 _ _ h, hs, q⟩
theorem ev_lit {s : Str} : Ev (tC (.str s)) σ H (.str (S (wd s))) := ev_is ev_c (congrArg V.str (S_tl s).symm)
theorem er_values (hs : Stt nl ns st H) (ha : EvR (Dr nl ns st) ta σ H (IsV (.ref st))) (hb : EvR (Dr nl ns st) tb σ H (IsV (.int (n : Nat)))) (h1 : 1 ≤ n) (h8 : n ≤ 8) :
    EvR (Dr nl ns st) (tCall sp_values [] E0 (tCons ta (tCons tb tNil))) σ H (fun H1 v H2 => ∃ p us, v = .ref p ∧ H1 p = none ∧ H2 p = some (.lst (intsN us)) ∧ Vls us n) := fun H1 e Q q =>
  ha H1 e _ fun v H2 e2 hv => hb H2 (drOk.tr e e2) _ fun u H3 e3 hu => by
    obtain rfl : v = .ref st := hv
    obtain rfl : u = .int (n : Nat) := hu
    exact ⟨nl, st, ns, n, rfl, h1, h8, drOk.good hs (drOk.tr e (drOk.tr e2 e3)), fun p H4 us hp e4 h4 hv => q _ _ (drOk.tr e2 (drOk.tr e3 e4)) ⟨p, us, rfl, drOk.back (drOk.tr e2 e3) hp, h4, hv⟩⟩
theorem qR_par {Φ Ψ : Hp → V → Hp → Prop} {i j : Nat} (rk : RelOk R G) (ha : EvR R ta σ H Φ) (hb : EvR R tb σ H Ψ) (k : ∀ v w H1 H2, R H H1 → Φ H v H1 → R H1 H2 → Ψ H1 w H2 → tz D ((σ.set i (some v)).set j (some w)) H2) : tSeq (tPar i j (tCons ta (tCons tb tNil))) tz D σ H :=
  ha H (rk.rf H) _ fun v H1 e1 hv => hb H1 e1 _ fun w H2 e2 hw => ⟨v, w, rfl, k v w H1 H2 e1 hv e2 hw⟩
theorem intsN_LstI {a : Addr} {us : List Nat} (h : H a = some (.lst (intsN us))) : LstI H a us.length (fun i => ((us.getD i 0 : Nat) : Int)) := by
  unfold LstI
  rw [h, intsN_eq]
  congr 2
  symm
  exact map_range_get fun i x hx => by show V.int ((us.getD i 0 : Nat) : Int) = _; rw [List.getD_eq_getElem?_getD, hx]; rfl
theorem nats_of {xs : List V} {n m : Nat} (hl : xs.length = n) (hx : ∀ (j : Nat) v, xs[j]? = some v → ∃ k : Int, v = .int k ∧ 0 ≤ k ∧ k < m) : ∃ us : List Nat, xs = intsN us ∧ us.length = n ∧ ∀ u ∈ us, u < m := by
  obtain ⟨h, h1, h2⟩ := ints_fn (Pb := fun j k => 0 ≤ k ∧ k < m) hl hx
  refine ⟨(List.range n).map fun j => (h j).toNat, ?_, by simp, fun u hu => ?_⟩
  · rw [h1]
    unfold intsN
    rw [List.map_map, List.map_map]
    refine List.map_congr_left fun j hj => ?_
    have := h2 j (List.mem_range.mp hj)
    show V.int (h j) = V.int (((h j).toNat : Nat) : Int)
    congr 1; omega
  · obtain ⟨j, hj, rfl⟩ := List.mem_map.mp hu
    have := h2 j (List.mem_range.mp hj)
    omega
end
section
variable {P : Program} {w : World} {K : PySem.W.Frag} {mg : Str → Option Value} {base : Heap} {f : Addr} {fd : FuncData} {CT CQ : Addr}
abbrev s_lpart : Stmt := topS 58
def sp_lpart : Sp := fun vs H Q _ => ∃ (nl st : Addr) (ns : List Int) (l r : Nat), vs = [.ref st, .int l, .int r] ∧ Good l r ∧ Stt nl ns st H ∧ ∀ p H2 xs P a b h k, H p = none → H a = none → H b = none → Dr nl ns st H H2 → H2 p = some (.lst xs) → PartL l r H2 xs P a b h k → Q (.ref p) H2
abbrev N_lpart : List Str := ["_law_state", "_law_left", "_law_right_here", "_law_way", "_law_ones", "_law_others", "_law_page", "_law_lefts", "_law_rights", "_law_at"]
theorem sc_lpart : FnScope N_lpart ["_law_state", "_law_left", "_law_right_here"] (defScope s_lpart) := ⟨rfl, rfl, rfl, by decide +kernel, rfl, by decide +kernel, by decide +kernel⟩
theorem ok_lpart (F : Dm K "_law_part" s_lpart f fd) (T : Tx K mg) (cd : Cl P w K mg base 1 "_law_draw" sp_draw) (cv : Cl P w K mg base 2 "_law_values" sp_values) (cc : Cl P w K mg base 1 "_law_commas" sp_lcommas) (cm : Cl P w K mg base 1 "_law_marks" sp_lmarks) :
    FnOk P w K mg base CX0 3 f fd ["_law_state", "_law_left", "_law_right_here"] sp_lpart := by
  refine F.ok sc_lpart (fun vs H Q E h => ?_) (fun cdv A outer s H vs Q E hr h => ?_)
  · obtain ⟨nl, st, ns, l, r, rfl, _⟩ := h
    rfl
  · obtain ⟨nl, st, ns, l, r, rfl, hg, hst, q⟩ := h
    have nd := sc_lpart.nd
    refine ⟨_, PSs.nox (pss_cons (ps_set (i := 3) nd rfl (.inl rfl) (pc cd hr (pa_cons (pv 0) (pa_cons pe_int pa_nil))))
      (pss_cons (ps_par (i := 4) (j := 5) rfl nd rfl rfl (by decide) rfl rfl (pa_cons (pc cv hr (pa_cons (pv 0) (pa_cons (pv 1) pa_nil))) (pa_cons (pc cv hr (pa_cons (pv 0) (pa_cons (pv 2) pa_nil))) pa_nil)) (by rfl))
      (pss_cons (ps_if (pt_cmpR op_eq (pv 3) pe_int (nomark _)) (pss_one (ps_ret (pe_lst (pa_cons pe_str (pa_cons (pe_op op_rep (pe_lst (pa_cons pe_int pa_nil)) (pv 1)) (pa_cons (pe_op op_rep (pe_lst (pa_cons pe_int pa_nil)) (pv 2)) pa_nil)))))) pss_nil)
      (pss_cons (ps_if (pt_cmpR op_eq (pv 3) pe_int (nomark _)) (pss_cons (ps_set (i := 6) nd rfl (.inl rfl) (pe_op op_add_str (pe_op op_add_str (pe_op op_add_str pe_str (pe_callTy call_str_int (by rfl) T.str bt_str (pa_cons (p_ixL K (pv 4) pe_int) pa_nil))) pe_str) (pe_callTy call_str_int (by rfl) T.str bt_str (pa_cons (p_ixL K (pv 5) pe_int) pa_nil))))
          (pss_one (ps_ret (pe_lst (pa_cons (pv 6) (pa_cons (pc cm hr (pa_cons (pe_slice sl_list (pv 4) po_none (po_some pe_int)) (pa_cons (pv 1) pa_nil))) (pa_cons (pc cm hr (pa_cons (pe_slice sl_list (pv 5) po_none (po_some pe_int)) (pa_cons (pv 2) pa_nil))) pa_nil))))))) pss_nil)
      (pss_cons (ps_if (pt_cmpR op_eq (pv 3) pe_int (nomark _)) (pss_one (ps_ret (pe_lst (pa_cons (pe_op op_add_str pe_str (pc cc hr (pa_cons (pv 4) pa_nil))) (pa_cons (pc cm hr (pa_cons (pv 4) (pa_cons (pv 1) pa_nil))) (pa_cons (pe_op op_rep (pe_lst (pa_cons pe_int pa_nil)) (pv 2)) pa_nil)))))) pss_nil)
      (pss_cons (ps_if (pt_cmpR op_eq (pv 3) pe_int (nomark _)) (pss_one (ps_ret (pe_lst (pa_cons (pe_op op_add_str pe_str (pc cc hr (pa_cons (pv 5) pa_nil))) (pa_cons (pe_op op_rep (pe_lst (pa_cons pe_int pa_nil)) (pv 1)) (pa_cons (pc cm hr (pa_cons (pv 5) (pa_cons (pv 2) pa_nil))) pa_nil)))))) pss_nil)
      (pss_cons (ps_if (pt_cmpR op_eq (pv 3) pe_int (nomark _)) (pss_cons (ps_set (i := 6) nd rfl (.inl rfl) (pe_op op_add_str (pe_op op_add_str (pe_op op_add_str pe_str (pc cc hr (pa_cons (pv 4) pa_nil))) pe_str) (pc cc hr (pa_cons (pv 5) pa_nil))))
          (pss_one (ps_ret (pe_lst (pa_cons (pv 6) (pa_cons (pc cm hr (pa_cons (pv 4) (pa_cons (pv 1) pa_nil))) (pa_cons (pc cm hr (pa_cons (pv 5) (pa_cons (pv 2) pa_nil))) pa_nil))))))) pss_nil)
      (pss_cons (ps_par (i := 7) (j := 8) rfl nd rfl rfl (by decide) rfl rfl (pa_cons
          (pe_lc (own := [("_law_at", 9)]) (g := gName 9) (tt := tYes) rfl nd (pi_range1 (by rfl) T.range (pa_cons (pv 1) pa_nil)) (blkOk_by (N := N_lpart) (sc := defScope s_lpart) (by decide +kernel))
              (fun _ _ _ _ _ => pg_name (i := 9) nd rfl (Or.inl rfl)) (fun _ _ _ _ _ => pts_nil) (fun _ _ _ _ _ => pc cd hr (pa_cons (pv 0) (pa_cons pe_int pa_nil)))) (pa_cons
          (pe_lc (own := [("_law_at", 9)]) (g := gName 9) (tt := tYes) rfl nd (pi_range1 (by rfl) T.range (pa_cons (pv 2) pa_nil)) (blkOk_by (N := N_lpart) (sc := defScope s_lpart) (by decide +kernel))
              (fun _ _ _ _ _ => pg_name (i := 9) nd rfl (Or.inl rfl)) (fun _ _ _ _ _ => pts_nil) (fun _ _ _ _ _ => pc cd hr (pa_cons (pv 0) (pa_cons pe_int pa_nil)))) pa_nil)) (by rfl))
      (pss_one (ps_ret (pe_lst (pa_cons (pe_op op_add_str (pe_op op_add_str (pe_op op_add_str pe_str (pc cc hr (pa_cons (pv 7) pa_nil))) pe_str) (pc cc hr (pa_cons (pv 8) pa_nil))) (pa_cons (pv 7) (pa_cons (pv 8) pa_nil)))))))))))))), ?_⟩
    have h8 := hg.1
    have h9 := hg.2
    have vs : ∀ {σ : L2.St} {H1 : Hp}, EvR (Dr nl ns st) (tC (.int 6)) σ H1 (IsV (.int 6)) := fun {σ H1} H2 _ Q q => q _ _ (drOk.rf _) rfl
    refine qR_asg (drOk (nl := nl) (ns := ns) (st := st)) (er_draw hst (evr_v drOk rfl) vs (by decide)) fun v H1 e1 ⟨way, hv, _, _⟩ => ?_
    subst hv
    have hst1 := drOk.good hst e1
    refine qR_par drOk (er_values (n := l) hst1 (evr_v drOk rfl) (evr_v drOk rfl) (by omega) (by omega)) (er_values (n := r) hst1 (evr_v drOk rfl) (evr_v drOk rfl) (by omega) (by omega)) fun v u H2 H3 e2 ⟨pa, us, hv, hna, ha2, hus⟩ e3 ⟨pb, ws, hu, hnb, hb3, hws⟩ => ?_
    subst hv hu
    have hst2 := drOk.good hst1 e2
    have hst3 := drOk.good hst2 e3
    have ha3 : H3 pa = some (.lst (intsN us)) := drOk.keep hst1 hna e2 e3 ha2
    have e03 : Dr nl ns st H H3 := drOk.tr e1 (drOk.tr e2 e3)
    have su := vls_small hus (by omega)
    have sw := vls_small hws (by omega)
    obtain ⟨u0, us', hu0⟩ : ∃ u0 us', us = u0 :: us' := by
      cases us with
      | nil => exact absurd rfl hus.1
      | cons u us => exact ⟨u, us, rfl⟩
    obtain ⟨w0, ws', hw0⟩ : ∃ w0 ws', ws = w0 :: ws' := by
      cases ws with
      | nil => exact absurd rfl hws.1
      | cons u us => exact ⟨u, us, rfl⟩
    have hu0l : u0 < l := hus.2.2 u0 (by rw [hu0]; exact List.mem_cons_self)
    have hw0r : w0 < r := hws.2.2 w0 (by rw [hw0]; exact List.mem_cons_self)
    have lcu := small_commas su
    have lcw := small_commas sw
    -- the state from here on
    have one : ∀ {σ : L2.St} {H4 : Hp} {i n : Nat}, σ[i]? = some (some (.int (n : Nat))) → n ≤ 1000 → EvL (tOp rRep (tLst (tCons (tC (.int 1)) tNil)) (tVar i)) σ H4 ((List.range n).map fun _ => V.int 1) := fun {σ H4 i n} hi hn => by
      rw [← rep_range]
      exact el_rep (el_lst (vs := [.int 1]) (ea_cons ev_c ea_nil) (show 1 ≤ 100000 by decide)) (fun _ _ => ev_var hi) hn
    have bb : ∀ (b : Bool), 0 ≤ b01 b ∧ b01 b ≤ 100 := fun b => by cases b <;> decide
    have fin : ∀ {D : Ends}, D.rt = Q → ∀ {H4 : Hp}, Ex H3 H4 → ∀ {ta tb tc : TE} {σ : L2.St} {P : Part} {h k : Nat → Int}, Ev ta σ H4 (.str (S (txtP P))) → EvL tb σ H4 ((List.range l).map fun i => V.int (h i)) → EvL tc σ H4 ((List.range r).map fun i => V.int (k i)) → PartOk l r P → (∀ i j, i < l → j < r → gridP P i j = h i * k j) →
        (∀ i, i < l → 0 ≤ h i ∧ h i ≤ 100) → (∀ j, j < r → 0 ≤ k j ∧ k j ≤ 100) → tRet (tLst (tCons ta (tCons tb (tCons tc tNil)))) D σ H4 := fun {D} hD {H4} e4 {ta tb tc σ P h k} h1 h2 h3 h4 h5 h6 h7 =>
      s_retL3 h1 h2 h3 fun a b p H5 na nb np e5 k1 k2 k3 => by
        rw [hD]
        have e05 : Dr nl ns st H H5 := drOk.tr e03 (drOk.ex (e4.trans e5))
        have e04 : Dr nl ns st H H4 := drOk.tr e03 (drOk.ex e4)
        exact q p H5 _ P a b h k (drOk.back e04 np) (drOk.back e04 na) (drOk.back e04 nb) e05 k3 ⟨rfl, k1, k2, h4, h5, h6, h7⟩
    refine q_if (b := decide (way = 0)) (et_test (ev_eqI (ev_var rfl) ev_c)) (fun _ H4 e4 => ?_) (fun _ H4 e4 => ?_)
    · exact fin rfl e4 (P := .whr .all) (h := fun _ => 1) (k := fun _ => 1) (ev_is ev_lit (congrArg (fun w => V.str (S w)) (by decide +kernel))) (one rfl (by omega)) (one rfl (by omega)) trivial (fun i j _ _ => rfl) (fun _ _ => by decide) (fun _ _ => by decide)
    have ha4 := e4 _ _ ha3
    have hb4 := e4 _ _ hb3
    refine q_if (b := decide (way = 1)) (et_test (ev_eqI (ev_var rfl) ev_c)) (fun _ H5 e5 => ?_) (fun _ H5 e5 => ?_)
    · have e35 := e4.trans e5
      have l0 : (numL u0).length ≤ 2 := numL_len2 (by omega)
      have l1 : (numL w0).length ≤ 2 := numL_len2 (by omega)
      have c5 : (wd "cell ").length = 5 := by decide +kernel
      have c1 : (wd " ").length = 1 := by decide +kernel
      refine q_asg (v := .str (S (txtP (.whr (.cell u0 w0))))) (ev_is (ev_addS (ev_addS (ev_addS ev_lit (ev_strI (n := u0) (ev_ixLn (i := 0) (ev_var rfl) ev_c (e5 _ _ ha4) (by rw [hu0]; rfl)) (by omega)) ?_) ev_lit ?_) (ev_strI (n := w0) (ev_ixLn (i := 0) (ev_var rfl) ev_c (e5 _ _ hb4) (by rw [hw0]; rfl)) (by omega)) ?_) ?_) fun H6 e6 => ?_
      · omega
      · rw [List.length_append]; omega
      · rw [List.length_append, List.length_append]; omega
      · unfold txtP wordsP wordsW
        congr 2
        rw [List.append_assoc, List.append_assoc]; rfl
      · have e36 := e35.trans e6
        have sl : ∀ {i : Nat} {p : Addr} {z : Nat} {zs : List Nat}, ([some (.ref st), some (.int l), some (.int r), some (.int way), some (.ref pa), some (.ref pb), some (.str (S (txtP (.whr (.cell u0 w0))))), none, none, none] : L2.St)[i]? = some (some (.ref p)) → H6 p = some (.lst (intsN (z :: zs))) →
            EvL (tSl (rSlL K) (tVar i) tNoPart (tPart (tC (.int 1)))) [some (.ref st), some (.int l), some (.int r), some (.int way), some (.ref pa), some (.ref pb), some (.str (S (txtP (.whr (.cell u0 w0))))), none, none, none] H6 (intsN [z]) := fun {i p z zs} hi hp => by
          have := el_sl (K := K) (te := tVar i) (tl := tNoPart) (th := tPart (tC (.int 1))) (ev_var hi) eo_none (eo_some ev_c) (sq_of hp)
          rw [show intsN (z :: zs) = .int (z : Nat) :: intsN zs from rfl, cutTo1] at this
          exact this
        refine fin rfl e36 (P := .whr (.cell u0 w0)) (h := fun i => b01 (decide (i ∈ [u0]))) (k := fun i => b01 (decide (i ∈ [w0]))) (ev_var rfl) (el_lmarks (sl (p := pa) (zs := us') rfl (by rw [← hu0]; exact e6 _ _ (e5 _ _ ha4))) (fun _ _ => ev_var rfl) (by omega)) (el_lmarks (sl (p := pb) (zs := ws') rfl (by rw [← hw0]; exact e6 _ _ (e5 _ _ hb4))) (fun _ _ => ev_var rfl) (by omega)) ⟨hu0l, hw0r⟩ (fun i j _ _ => ?_) (fun _ _ => bb _) (fun _ _ => bb _)
        unfold gridP whB b01
        by_cases hi : u0 = i
        · by_cases hj : w0 = j
          · simp [hi, hj]
          · have : ¬ j = w0 := fun z => hj z.symm
            simp [hj, this]
        · have : ¬ i = u0 := fun z => hi z.symm
          simp [hi, this]
    have ha5 := e5 _ _ ha4
    have hb5 := e5 _ _ hb4
    have c5 : (wd "left ").length = 5 := by decide +kernel
    have c6 : (wd "right ").length = 6 := by decide +kernel
    have c7 : (wd "block ").length = 6 := by decide +kernel
    have c8 : (wd " ").length = 1 := by decide +kernel
    have c9 : (wd "ends ").length = 5 := by decide +kernel
    have c10 : (wd " by ").length = 4 := by decide +kernel
    refine q_if (b := decide (way = 2)) (et_test (ev_eqI (ev_var rfl) ev_c)) (fun _ H6 e6 => ?_) (fun _ H6 e6 => ?_)
    · refine fin rfl (e4.trans (e5.trans e6)) (P := .whr (.left us)) (h := fun i => b01 (decide (i ∈ us))) (k := fun _ => 1) (ev_is (ev_addS ev_lit (ev_lcommas (ev_var rfl) (e6 _ _ ha5) su) (by omega)) ?_) (el_lmarksV (ev_var rfl) (e6 _ _ ha5) (fun _ _ => ev_var rfl) (by omega)) (one rfl (by omega)) hus (fun i j _ _ => ?_) (fun _ _ => bb _) (fun _ _ => by decide)
      · unfold txtP wordsP wordsW; rfl
      · unfold gridP whB b01; rw [Int.mul_one]
    have ha6 := e6 _ _ ha5
    have hb6 := e6 _ _ hb5
    refine q_if (b := decide (way = 3)) (et_test (ev_eqI (ev_var rfl) ev_c)) (fun _ H7 e7 => ?_) (fun _ H7 e7 => ?_)
    · refine fin rfl (e4.trans (e5.trans (e6.trans e7))) (P := .whr (.right ws)) (h := fun _ => 1) (k := fun i => b01 (decide (i ∈ ws))) (ev_is (ev_addS ev_lit (ev_lcommas (ev_var rfl) (e7 _ _ hb6) sw) (by omega)) ?_) (one rfl (by omega)) (el_lmarksV (ev_var rfl) (e7 _ _ hb6) (fun _ _ => ev_var rfl) (by omega)) hws (fun i j _ _ => ?_) (fun _ _ => by decide) (fun _ _ => bb _)
      · unfold txtP wordsP wordsW; rfl
      · unfold gridP whB b01; rw [Int.one_mul]
    have ha7 := e7 _ _ ha6
    have hb7 := e7 _ _ hb6
    refine q_if (b := decide (way = 4)) (et_test (ev_eqI (ev_var rfl) ev_c)) (fun _ H8 e8 => ?_) (fun _ H8 e8 => ?_)
    · have ha8 := e8 _ _ ha7
      have hb8 := e8 _ _ hb7
      refine q_asg (v := .str (S (txtP (.block us ws)))) (ev_is (ev_addS (ev_addS (ev_addS ev_lit (ev_lcommas (ev_var rfl) ha8 su) (by omega)) ev_lit (by rw [List.length_append]; omega)) (ev_lcommas (ev_var rfl) hb8 sw) (by rw [List.length_append, List.length_append]; omega)) ?_) fun H9 e9 => ?_
      · unfold txtP wordsP
        congr 2
        rw [List.append_assoc, List.append_assoc]; rfl
      · exact fin rfl (e4.trans (e5.trans (e6.trans (e7.trans (e8.trans e9))))) (P := .block us ws) (h := fun i => b01 (decide (i ∈ us))) (k := fun i => b01 (decide (i ∈ ws))) (ev_var rfl) (el_lmarksV (ev_var rfl) (e9 _ _ ha8) (fun _ _ => ev_var rfl) (by omega)) (el_lmarksV (ev_var rfl) (e9 _ _ hb8) (fun _ _ => ev_var rfl) (by omega)) ⟨hus, hws⟩ (fun i j _ _ => rfl) (fun _ _ => bb _) (fun _ _ => bb _)
    · have e38 := e4.trans (e5.trans (e6.trans (e7.trans e8)))
      have hst8 := hst3.ex e38
      have dl : ∀ {i n m : Nat} {σ : L2.St}, σ = [some (.ref st), some (.int l), some (.int r), some (.int way), some (.ref pa), some (.ref pb), none, none, none, none] → σ[i]? = some (some (.int (n : Nat))) → n ≤ 8 → 0 < m → EvR (Dr nl ns st) (tLc (iRng1 (tCons (tVar i) tNil)) (gName 9) tYes (tCall sp_draw [] E0 (tCons (tVar 0) (tCons (tC (.int (m : Nat))) tNil))) [9]) σ H8
          (fun H1 v H2 => ∃ p us, v = .ref p ∧ H1 p = none ∧ H2 p = some (.lst (intsN us)) ∧ us.length = n ∧ ∀ u ∈ us, u < m) := fun {i n m σ} hσ hi hn hm => by
        subst hσ
        refine (evr_lc (te := tCall sp_draw [] E0 (tCons (tVar 0) (tCons (tC (.int (m : Nat))) tNil))) (g := gName 9) (vs := [9]) (drOk (nl := nl) (ns := ns) (st := st)) (fun j v _ => ∃ k : Int, v = V.int k ∧ 0 ≤ k ∧ k < m) (fun _ _ _ _ _ h => h) hst8 (evi_rng drOk (evr_v drOk hi) (by omega)) (by omega) (fun i H x H' _ => yfn_ex i H x H') fun j x H3 H4 hj e3 y e4 => ?_).imp fun H3 v H4 _ _ t => ?_
        · obtain ⟨rfl, rfl⟩ := y
          exact ⟨_, fun _ k => k, rfl, er_draw (drOk.good hst8 e4) (evr_v drOk rfl) (fun H2 _ Q q => q _ _ (drOk.rf _) rfl) (by omega)⟩
        · obtain ⟨p, xs, hv, hn, hp, hxl, hx⟩ := t
          obtain ⟨us, k1, k2, k3⟩ := nats_of hxl hx
          exact ⟨p, us, hv, hn, by rw [hp, k1], k2, k3⟩
      refine qR_par drOk (dl (i := 1) (n := l) (m := 12) rfl rfl (by omega) (by decide)) (dl (i := 2) (n := r) (m := 5) rfl rfl (by omega) (by decide)) fun v u H9 H10 e9 ⟨pc, ls, hv, hnc, hc9, hls1, hls2⟩ e10 ⟨pd, rs, hu, hnd, hd10, hrs1, hrs2⟩ => ?_
      subst hv hu
      have hst9 := drOk.good hst8 e9
      have hc10 : H10 pc = some (.lst (intsN ls)) := drOk.keep hst8 hnc e9 e10 hc9
      have sl : Small ls := ⟨fun z => by rw [z] at hls1; simp at hls1; omega, by omega, fun n hn => by have := hls2 n hn; omega⟩
      have sr : Small rs := ⟨fun z => by rw [z] at hrs1; simp at hrs1; omega, by omega, fun n hn => by have := hrs2 n hn; omega⟩
      have lc := small_commas sl
      have ld := small_commas sr
      have e0 : Dr nl ns st H H8 := drOk.tr e03 (drOk.ex e38)
      have e010 : Dr nl ns st H H10 := drOk.tr e0 (drOk.tr e9 e10)
      have htx : Ev (tOp (fun x y H Q => ∃ i j : Str, x = .str i ∧ y = .str j ∧ i.length + j.length ≤ sizeLine ∧ Q (.str (i ++ j)) H) (tOp (fun x y H Q => ∃ i j : Str, x = .str i ∧ y = .str j ∧ i.length + j.length ≤ sizeLine ∧ Q (.str (i ++ j)) H) (tOp (fun x y H Q => ∃ i j : Str, x = .str i ∧ y = .str j ∧ i.length + j.length ≤ sizeLine ∧ Q (.str (i ++ j)) H) (tC (.str "ends ")) (tCall sp_lcommas [] E0 (tCons (tVar 7) tNil))) (tC (.str " by "))) (tCall sp_lcommas [] E0 (tCons (tVar 8) tNil)))
          [some (.ref st), some (.int l), some (.int r), some (.int way), some (.ref pa), some (.ref pb), none, some (.ref pc), some (.ref pd), none] H10 (.str (S (txtP (.ends ls rs)))) := by
        refine ev_is (ev_addS (ev_addS (ev_addS ev_lit (ev_lcommas (ev_var rfl) hc10 sl) (by omega)) ev_lit (by rw [List.length_append]; omega)) (ev_lcommas (ev_var rfl) hd10 sr) (by rw [List.length_append, List.length_append]; omega)) ?_
        unfold txtP wordsP
        congr 2
        rw [List.append_assoc, List.append_assoc]; rfl
      have hbl : ∀ i, i < l → (0 : Int) ≤ ((ls.getD i 0 : Nat) : Int) ∧ ((ls.getD i 0 : Nat) : Int) ≤ 100 := fun i hi => by
        rw [List.getD_eq_getElem?_getD, List.getElem?_eq_getElem (by omega)]
        have : ls[i]'(by omega) < 12 := hls2 _ (List.getElem_mem _)
        show (0 : Int) ≤ ((ls[i]'(by omega) : Nat) : Int) ∧ ((ls[i]'(by omega) : Nat) : Int) ≤ 100
        omega
      have hbr : ∀ i, i < r → (0 : Int) ≤ ((rs.getD i 0 : Nat) : Int) ∧ ((rs.getD i 0 : Nat) : Int) ≤ 100 := fun i hi => by
        rw [List.getD_eq_getElem?_getD, List.getElem?_eq_getElem (by omega)]
        have : rs[i]'(by omega) < 5 := hrs2 _ (List.getElem_mem _)
        show (0 : Int) ≤ ((rs[i]'(by omega) : Nat) : Int) ∧ ((rs[i]'(by omega) : Nat) : Int) ≤ 100
        omega
      have hla := intsN_LstI hc10
      have hlb := intsN_LstI hd10
      rw [hls1] at hla
      rw [hrs1] at hlb
      refine s_retL (el_lst (ea_cons htx (ea_cons (ev_var rfl) (ea_cons (ev_var rfl) ea_nil))) (show 3 ≤ 100000 by decide)) fun p H11 hp e11 h11 => ?_
      exact q p _ _ (.ends ls rs) pc pd _ _ (drOk.back e010 hp) (drOk.back e0 hnc) (drOk.back (drOk.tr e0 e9) hnd) (drOk.tr e010 (drOk.ex e11)) h11
        ⟨rfl, e11 _ _ hla, e11 _ _ hlb, ⟨hls1, hrs1, fun n hn => by have := hls2 n hn; omega, fun n hn => by have := hrs2 n hn; omega⟩, fun i j _ _ => rfl, hbl, hbr⟩
end
end Q
set_option Elab.async false
set_option linter.all false
set_option maxRecDepth 100000
set_option maxHeartbeats 4000000
namespace Q
open PySem PySem.Spec PyProof.Rows L2
open Evl SX TL
section
variable {K : PySem.W.Frag} {σ : L2.St} {H H' : Hp} {ta te tb tc : TE} {ti : TI} {g : TG} {n : Nat} {Y : Nat → Hp → V → Hp → Prop} {vs : List Nat} {xs : List V} {D : Ends} {tz : TS} {v : V}
/-- a comprehension whose items are new lists of one content -/
theorem er_lcNew (hi : EvI Ex ti σ H n Y) (hn : n ≤ 1000) (hY : ∀ i H x H', Y i H x H' → Ex H H')
    (st : ∀ i x H1 H2, i < n → Ex H H1 → Y i H1 x H2 → Ex H H2 → ∃ σ2, (∀ K, K σ2 H2 → g x (wipe σ vs) H2 K) ∧ wipe σ2 vs = wipe σ vs ∧ EvL te σ2 H2 xs) :
    EvR Ex (tLc ti g tYes te vs) σ H (fun H1 y H2 => ∃ (p : Addr) (as : List Addr), y = .ref p ∧ H1 p = none ∧ H2 p = some (.lst (as.map V.ref)) ∧ as.length = n ∧ as.Nodup ∧ ∀ a ∈ as, a ≠ p ∧ H1 a = none ∧ H2 a = some (.lst xs)) := by
  intro H1 e1 Q q
  refine hi H1 e1 _ fun J H2 G' e2 w hG D hD => ?_
  have hD1 : H1 D = none := fresh_back e2 hD
  refine lc_it w (fun i H' => Ex H2 H' ∧ ∃ as : List Addr, H' D = some (.lst (as.map V.ref)) ∧ as.length = i ∧ as.Nodup ∧ ∀ a ∈ as, a ≠ D ∧ H2 a = none ∧ H' a = some (.lst xs)) ⟨Ex.new hD, [], upd_same, rfl, List.nodup_nil, by simp⟩ (fun i H' _ p => hG H' p.1) (fun i x H3 H4 hi p y => ?_) (fun H' p => ?_)
  · obtain ⟨e3, as, ha, hl, hnd, hall⟩ := p
    have e34 := hY i H3 x H4 y
    obtain ⟨σ2, hg, hw, hev⟩ := st i x H3 H4 hi (e1.trans (e2.trans e3)) y (e1.trans (e2.trans (e3.trans e34)))
    refine hg _ ⟨hw, ?_⟩
    show te σ2 H4 _
    refine hev H4 (Ex.refl _) _ fun a H5 hna e5 h5 => ?_
    have haD : a ≠ D := fun z => by rw [z, e34 _ _ ha] at hna; cases hna
    have h2a : H2 a = none := fresh_back (e3.trans e34) hna
    refine ⟨as.map V.ref, e5 _ _ (e34 _ _ ha), by rw [List.length_map]; unfold sizeLine; omega, Ex.mut (e3.trans (e34.trans e5)) hD, as ++ [a], by rw [upd_same, List.map_append]; rfl, by rw [List.length_append, hl]; rfl, ?_, fun b hb => ?_⟩
    · refine List.nodup_append.mpr ⟨hnd, by simp, fun b hb c hc => ?_⟩
      rw [List.mem_singleton] at hc
      subst hc
      exact ne_of_none (e34 _ _ (hall b hb).2.2) hna
    · rcases List.mem_append.mp hb with hb | hb
      · obtain ⟨k1, k2, k3⟩ := hall b hb
        exact ⟨k1, k2, by rw [upd_ne k1]; exact e5 _ _ (e34 _ _ k3)⟩
      · rw [List.mem_singleton] at hb
        subst hb
        exact ⟨haD, h2a, by rw [upd_ne haD]; exact h5⟩
  · obtain ⟨e3, as, ha, hl, hnd, hall⟩ := p
    exact q _ H' (e2.trans e3) ⟨D, as, rfl, hD1, ha, hl, hnd, fun a h => ⟨(hall a h).1, fresh_back e2 (hall a h).2.1, (hall a h).2.2⟩⟩
theorem g_unl2 {i j : Nat} {p : Addr} {x y : V} (h : H p = some (.lst [x, y])) {Q : L2.St → Hp → Prop} (q : Q ((σ.set i (some x)).set j (some y)) H) : gUnl K 2 (gCons (gName i) (gCons (gName j) gNil)) (.ref p) σ H Q :=
  ⟨p, [x, y], rfl, sq_of h, rfl, x, _, rfl, y, _, rfl, rfl, q⟩
theorem g_unl3 {i j m : Nat} {p : Addr} {x y z : V} (h : H p = some (.lst [x, y, z])) {Q : L2.St → Hp → Prop} (q : Q (((σ.set i (some x)).set j (some y)).set m (some z)) H) : gUnl K 3 (gCons (gName i) (gCons (gName j) (gCons (gName m) gNil))) (.ref p) σ H Q :=
  ⟨p, [x, y, z], rfl, sq_of h, rfl, x, _, rfl, y, _, rfl, z, _, rfl, rfl, q⟩
end
section
variable {K : PySem.W.Frag} {σ : L2.St} {H H' : Hp} {ta te tb tc : TE} {D : Ends} {tz : TS} {v : V} {xs : List V} {R : Hp → Hp → Prop} {G : Hp → Prop} {nl st : Addr} {ns : List Int} {l r : Nat}
def emp : Hp := fun _ => none
theorem emp_ex : Ex emp H := fun _ _ h => nomatch h
theorem q_parX {Φ : Hp → V → Hp → Prop} {i j : Nat} (ha : EvR Ex ta σ H Φ) (hb : ∀ H1, Ex H H1 → EvL tb σ H1 xs) (k : ∀ v p H1 H2, Ex H H1 → Φ H v H1 → H1 p = none → Ex H1 H2 → H2 p = some (.lst xs) → tz D ((σ.set i (some v)).set j (some (.ref p))) H2) : tSeq (tPar i j (tCons ta (tCons tb tNil))) tz D σ H :=
  ha H (Ex.refl _) _ fun v H1 e1 hv => hb H1 e1 H1 (Ex.refl _) _ fun p H2 hn e2 hp => ⟨_, _, rfl, k v p H1 H2 e1 hv hn e2 hp⟩
theorem qR_asgG {Φ : Hp → V → Hp → Prop} {g : TG} (rk : RelOk R G) (h : EvR R te σ H Φ) (k : ∀ v H1, R H H1 → Φ H v H1 → g v σ H1 fun σ' H' => tz D σ' H') : tSeq (tAsg te g) tz D σ H := h H (rk.rf H) _ fun v H1 e w => k v H1 e w
theorem er_lpart (hs : Stt nl ns st H) (ha : EvR (Dr nl ns st) ta σ H (IsV (.ref st))) (hb : EvR (Dr nl ns st) tb σ H (IsV (.int (l : Nat)))) (hc : EvR (Dr nl ns st) tc σ H (IsV (.int (r : Nat)))) (hg : Good l r) :
    EvR (Dr nl ns st) (tCall sp_lpart [] E0 (tCons ta (tCons tb (tCons tc tNil)))) σ H (fun H1 v H2 => ∃ p xs P a b h k, v = .ref p ∧ H1 a = none ∧ H1 b = none ∧ H2 p = some (.lst xs) ∧ PartL l r H2 xs P a b h k) := fun H1 e Q q =>
  ha H1 e _ fun v H2 e2 hv => hb H2 (drOk.tr e e2) _ fun u H3 e3 hu => hc H3 (drOk.tr e (drOk.tr e2 e3)) _ fun w H4 e4 hw => by
    obtain rfl : v = .ref st := hv
    obtain rfl : u = .int (l : Nat) := hu
    obtain rfl : w = .int (r : Nat) := hw
    have e14 := drOk.tr e2 (drOk.tr e3 e4)
    exact ⟨nl, st, ns, l, r, rfl, hg, drOk.good hs (drOk.tr e e14), fun p H5 xs P a b h k hp ha hb e5 h5 hP => q _ _ (drOk.tr e14 e5) ⟨p, xs, P, a, b, h, k, rfl, drOk.back e14 ha, drOk.back e14 hb, h5, hP⟩⟩
/-- an amount -/
def AmOk (n : Nat) : Prop := n = 1 ∨ n = 0 ∨ n = 2 ∨ n = 7 ∨ n = 10 ^ 12
theorem er_amt (hs : Stt nl ns st H) (hσ : σ[0]? = some (some (.ref st))) : EvR (Dr nl ns st) (tOp (rIxL K) (tLst (tCons (tC (.int 1)) (tCons (tC (.int 0)) (tCons (tC (.int 2)) (tCons (tC (.int 7)) (tCons (tOp (rI CPow fun i j => .int (i ^ j.toNat)) (tC (.int 10)) (tC (.int 12))) (tCons (tC (.int 1)) tNil)))))))
    (tCall sp_draw [] E0 (tCons (tVar 0) (tCons (tC (.int 6)) tNil)))) σ H (fun _ v _ => ∃ n : Nat, v = .int (n : Nat) ∧ AmOk n) := fun H1 e Q q => by
  have hl := el_lst (σ := σ) (H := H1) (ea_cons (ev_c (v := .int 1)) (ea_cons (ev_c (v := .int 0)) (ea_cons (ev_c (v := .int 2)) (ea_cons (ev_c (v := .int 7)) (ea_cons (ev_pow (ev_c (v := .int 10)) (ev_c (v := .int 12)) (by decide)) (ea_cons (ev_c (v := .int 1)) ea_nil)))))) (show 6 ≤ 100000 by decide)
  refine hl H1 (Ex.refl _) _ fun p H2 hn e2 hp => ?_
  have hs2 := (drOk.good hs e).ex e2
  refine er_draw (m := 6) (ta := tVar 0) (tb := tC (.int 6)) (σ := σ) hs2 (evr_v drOk hσ) (fun H3 _ Q q => q _ _ (drOk.rf _) rfl) (by decide) H2 (drOk.rf _) _ fun v H3 e3 ⟨x, hv, hx0, hx6⟩ => ?_
  subst hv
  have hp3 : H3 p = some (.lst _) := drOk.keep (drOk.good hs e) hn (drOk.ex e2) e3 hp
  obtain ⟨y, rfl⟩ : ∃ y : Nat, x = (y : Int) := ⟨x.toNat, by omega⟩
  have hy : y < 6 := by omega
  have fin : ∀ n : Nat, AmOk n → Q (.int (n : Nat)) H3 := fun n hn => q _ _ (drOk.tr (drOk.ex e2) e3) ⟨n, rfl, hn⟩
  match y, hy with
  | 0, _ => exact ⟨p, _, _, _, rfl, rfl, sq_of hp3, atI_nat (j := 0) rfl, fin 1 (.inl rfl)⟩
  | 1, _ => exact ⟨p, _, _, _, rfl, rfl, sq_of hp3, atI_nat (j := 1) rfl, fin 0 (.inr (.inl rfl))⟩
  | 2, _ => exact ⟨p, _, _, _, rfl, rfl, sq_of hp3, atI_nat (j := 2) rfl, fin 2 (.inr (.inr (.inl rfl)))⟩
  | 3, _ => exact ⟨p, _, _, _, rfl, rfl, sq_of hp3, atI_nat (j := 3) rfl, fin 7 (.inr (.inr (.inr (.inl rfl))))⟩
  | 4, _ => exact ⟨p, _, _, _, rfl, rfl, sq_of hp3, atI_nat (j := 4) rfl, fin (10 ^ 12) (.inr (.inr (.inr (.inr rfl))))⟩
  | 5, _ => exact ⟨p, _, _, _, rfl, rfl, sq_of hp3, atI_nat (j := 5) rfl, fin 1 (.inl rfl)⟩
theorem er_sgn (hs : Stt nl ns st H) (hσ : σ[0]? = some (some (.ref st))) : EvR (Dr nl ns st) (tOp (rI0 fun i j => .int (i - j)) (tC (.int 1)) (tOp (rI CMul fun i j => .int (i * j)) (tC (.int 2)) (tCall sp_draw [] E0 (tCons (tVar 0) (tCons (tC (.int 2)) tNil))))) σ H (fun _ v _ => ∃ s : Int, v = .int s ∧ Sg s) := fun H1 e Q q => by
  refine er_draw (m := 2) (ta := tVar 0) (tb := tC (.int 2)) (σ := σ) (drOk.good hs e) (evr_v drOk hσ) (fun H3 _ Q q => q _ _ (drOk.rf _) rfl) (by decide) H1 (drOk.rf _) _ fun v H3 e3 ⟨x, hv, hx0, hx2⟩ => ?_
  subst hv
  refine ⟨2, x, rfl, rfl, .inl (by decide), 1, _, rfl, rfl, q _ _ e3 ⟨_, rfl, ?_⟩⟩
  unfold Sg; omega
end
section
variable {σ : L2.St} {H : Hp} {tt : TT} {tu tw tz : TS} {D : Ends} {R : Hp → Hp → Prop}
theorem q_ifN (h : ∀ Q : Bool → Hp → Prop, (∀ b H1, R H H1 → Q b H1) → tt σ H Q) (k1 : ∀ H1, R H H1 → tu { D with nx := tz D } σ H1) (k2 : ∀ H1, R H H1 → tz D σ H1) : tSeq (tIfS tt tu tNext) tz D σ H := h _ fun b H1 e => by
  cases b with
  | true => exact iteT (k1 H1 e)
  | false => exact iteF (k2 H1 e)
end
theorem txt_amt (n : Nat) (P : Part) : numL n ++ wd " * " ++ txtP P = txtT (some n, P) := by
  have e : joinL [32] ([numL n, wd "*"] ++ wordsP P) = joinL [32] [numL n, wd "*"] ++ (32 :: joinL [32] (wordsP P)) := joinL_app (by simp) (fun z => by have := wordsP_pos P; rw [z] at this; simp at this)
  show _ = joinL [32] ([numL n, wd "*"] ++ wordsP P)
  rw [e]
  show numL n ++ wd " * " ++ joinL [32] (wordsP P) = (numL n ++ ([32] ++ wd "*")) ++ (32 :: joinL [32] (wordsP P))
  rw [show wd " * " = [32] ++ wd "*" ++ [32] from by decide +kernel]
  simp
theorem txtP_len {l r : Nat} {P : Part} (h : PartOk l r P) (hg : Good l r) : (txtP P).length ≤ 246 := txt_len (t := (none, P)) ⟨h, fun n hn => nomatch hn⟩ hg
/-! ### rows of terms, weights -/
def RowsAt (st : Addr) (H : Hp) (pr : Addr) (ts : List ST) : Prop := pr ≠ st ∧ ∃ vals, H pr = some (.lst vals) ∧ vals.length = ts.length ∧ ∀ (k : Nat) q, ts[k]? = some q → ∃ p, vals[k]? = some (.ref p) ∧ p ≠ st ∧ p ≠ pr ∧ H p = some (.lst [.int q.1, .str (S (txtT q.2))])
theorem RowsAt.dr {nl st pr : Addr} {ns : List Int} {H H' : Hp} {ts : List ST} (h : RowsAt st H pr ts) (e : Dr nl ns st H H') : RowsAt st H' pr ts := let ⟨n, vals, h1, h2, h3⟩ := h; ⟨n, vals, e.fr _ _ n h1, h2, fun k q hq => let ⟨p, k1, k2, k3, k4⟩ := h3 k q hq; ⟨p, k1, k2, k3, e.fr _ _ k2 k4⟩⟩
theorem RowsAt.ex {st pr : Addr} {H H' : Hp} {ts : List ST} (h : RowsAt st H pr ts) (e : Ex H H') : RowsAt st H' pr ts := let ⟨n, vals, h1, h2, h3⟩ := h; ⟨n, vals, e _ _ h1, h2, fun k q hq => let ⟨p, k1, k2, k3, k4⟩ := h3 k q hq; ⟨p, k1, k2, k3, e _ _ k4⟩⟩
structure Ws (nl st : Addr) (ns : List Int) (pw pr : Addr) (ra : Nat → Addr) (l r : Nat) (g : Nat → Nat → Int) (ts : List ST) (H : Hp) : Prop where
  s : Stt nl ns st H
  w : H pw = some (.lst ((List.range l).map fun i => V.ref (ra i)))
  row : ∀ i, i < l → H (ra i) = some (.lst ((List.range r).map fun j => V.int (g i j)))
  inj : ∀ i k, i < l → k < l → ra i = ra k → i = k
  pws : pw ≠ st
  ras : ∀ i, i < l → ra i ≠ st ∧ ra i ≠ pw ∧ ra i ≠ pr
  prw : pr ≠ pw
  nls : nl ≠ pr ∧ ∀ i, i < l → nl ≠ ra i
  rs : RowsAt st H pr ts
  rr : ∀ vals, H pr = some (.lst vals) → ∀ p, V.ref p ∈ vals → p ≠ pw ∧ ∀ i, i < l → p ≠ ra i
section
variable {nl st pw pr : Addr} {ns : List Int} {ra : Nat → Addr} {l r : Nat} {g : Nat → Nat → Int} {ts : List ST} {H H' : Hp}
theorem Ws.dr (h : Ws nl st ns pw pr ra l r g ts H) (e : Dr nl ns st H H') : Ws nl st ns pw pr ra l r g ts H' where
  s := e.s h.s
  w := e.fr _ _ h.pws h.w
  row := fun i hi => e.fr _ _ (h.ras i hi).1 (h.row i hi)
  inj := h.inj
  pws := h.pws
  ras := h.ras
  prw := h.prw
  nls := h.nls
  rs := h.rs.dr e
  rr := fun vals hv p hp => by
    obtain ⟨n, vals', h1, _⟩ := h.rs
    have := e.fr _ _ n h1
    rw [this] at hv
    cases hv
    exact h.rr _ h1 p hp
theorem Ws.ex (h : Ws nl st ns pw pr ra l r g ts H) (e : Ex H H') : Ws nl st ns pw pr ra l r g ts H' := h.dr (drOk.ex e)
theorem Ws.congr {g' : Nat → Nat → Int} (h : Ws nl st ns pw pr ra l r g ts H) (e : ∀ i j, i < l → j < r → g i j = g' i j) : Ws nl st ns pw pr ra l r g' ts H :=
  { h with row := fun i hi => by rw [h.row i hi]; exact congrArg (fun x => some (HO.lst x)) (List.map_congr_left fun j hj => by rw [e i j hi (List.mem_range.mp hj)]) }
/-- a row put behind the rows -/
theorem Ws.put {q : ST} {p : Addr} (h : Ws nl st ns pw pr ra l r g ts H) (hp : H p = some (.lst [.int q.1, .str (S (txtT q.2))])) (n1 : p ≠ st) (n2 : p ≠ pr) (n3 : p ≠ pw) (n4 : ∀ i, i < l → p ≠ ra i) :
    ∃ vals, H pr = some (.lst vals) ∧ vals.length = ts.length ∧ Ws nl st ns pw pr ra l r g (ts ++ [q]) (upd H pr (.lst (vals ++ [.ref p]))) := by
  obtain ⟨n, vals, k1, k2, k3⟩ := h.rs
  obtain ⟨nn, k, g1, g2⟩ := h.s
  refine ⟨vals, k1, k2, ?_⟩
  refine ⟨⟨nn, k, by rw [upd_ne (Ne.symm n)]; exact g1, by rw [upd_ne h.nls.1]; exact g2⟩, by rw [upd_ne (Ne.symm h.prw)]; exact h.w, fun i hi => by rw [upd_ne (h.ras i hi).2.2]; exact h.row i hi, h.inj, h.pws, h.ras, h.prw, h.nls, ⟨n, _, upd_same, by rw [List.length_append, List.length_append, k2]; rfl, fun m u hu => ?_⟩, fun vs hv p' hp' => ?_⟩
  · by_cases hm : m < ts.length
    · rw [List.getElem?_append_left hm] at hu
      obtain ⟨p', j1, j2, j3, j4⟩ := k3 m u hu
      exact ⟨p', by rw [List.getElem?_append_left (by rw [k2]; exact hm)]; exact j1, j2, j3, by rw [upd_ne j3]; exact j4⟩
    · have hm' : m = ts.length := by
        have := (List.getElem?_eq_some_iff.mp hu).1
        rw [List.length_append] at this
        have : m < ts.length + 1 := this
        omega
      subst hm'
      rw [List.getElem?_append_right (Nat.le_refl _), Nat.sub_self] at hu
      cases hu
      exact ⟨p, by rw [List.getElem?_append_right (by rw [k2]; exact Nat.le_refl _), k2, Nat.sub_self]; rfl, n1, n2, by rw [upd_ne n2]; exact hp⟩
  · rw [upd_same] at hv
    cases hv
    rcases List.mem_append.mp hp' with z | z
    · exact h.rr _ k1 p' z
    · rw [List.mem_singleton] at z
      cases z
      exact ⟨n3, n4⟩
/-- a weight stored -/
theorem Ws.set {i j : Nat} {x : Int} (h : Ws nl st ns pw pr ra l r g ts H) (hi : i < l) (hj : j < r) : Ws nl st ns pw pr ra l r (fun a b => if a = i ∧ b = j then x else g a b) ts (upd H (ra i) (.lst (((List.range r).map fun j => V.int (g i j)).set j (.int x)))) := by
  obtain ⟨nn, k, g1, g2⟩ := h.s
  obtain ⟨n, vals, k1, k2, k3⟩ := h.rs
  refine ⟨⟨nn, k, by rw [upd_ne (Ne.symm (h.ras i hi).1)]; exact g1, by rw [upd_ne (h.nls.2 i hi)]; exact g2⟩, by rw [upd_ne (Ne.symm (h.ras i hi).2.1)]; exact h.w, fun a ha => ?_, h.inj, h.pws, h.ras, h.prw, h.nls, ⟨n, vals, by rw [upd_ne (Ne.symm (h.ras i hi).2.2)]; exact k1, k2, fun m u hu => ?_⟩, fun vs hv p' hp' => ?_⟩
  · by_cases e : a = i
    · subst e
      rw [upd_same]
      congr 2
      apply List.ext_getElem
      · simp
      · intro m h1 h2
        have hm : m < r := by simpa using h2
        rw [List.getElem_set]
        simp only [List.getElem_map, List.getElem_range]
        by_cases hjm : j = m
        · subst hjm; simp
        · rw [if_neg hjm, if_neg fun z => hjm z.2.symm]
    · rw [upd_ne fun z => e (h.inj _ _ ha hi z), h.row a ha]
      congr 2
      refine List.map_congr_left fun m hm => ?_
      rw [if_neg fun z => e z.1]
  · obtain ⟨p', j1, j2, j3, j4⟩ := k3 m u hu
    have := (h.rr vals k1 p' (List.mem_of_getElem? j1)).2 i hi
    exact ⟨p', j1, j2, j3, by rw [upd_ne this]; exact j4⟩
  · rw [upd_ne (Ne.symm (h.ras i hi).2.2)] at hv
    exact h.rr vs hv p' hp'
end
section
variable {P : Program} {w : World} {K : PySem.W.Frag} {mg : Str → Option Value} {base : Heap} {f : Addr} {fd : FuncData} {CT CQ : Addr}
abbrev s_lterms : Stmt := topS 60
def sp_lterms : Sp := fun vs H Q _ => ∃ (nl st : Addr) (ns : List Int) (l r m : Nat), vs = [.ref st, .int l, .int r, .int m] ∧ Good l r ∧ 1 ≤ m ∧ m ≤ 8 ∧ Stt nl ns st H ∧ ∀ p H2 pr pt ts, Dr nl ns st H H2 → H2 p = some (.lst [.ref pr, .ref pt]) → RowsAt st H2 pr ts → Gr H2 pt l r (sumG ts) → TsOk l r ts → ts.length = m → Bd l r (sumG ts) → Q (.ref p) H2
abbrev N_lterms : List Str := ["_law_state", "_law_left", "_law_right_here", "_law_many", "_law_weights", "_law_rows", "_law_turn", "_law_page", "_law_lefts", "_law_rights", "_law_amount", "_law_sign", "_law_one", "_law_other", "_law_more", "_law_row"]
theorem sc_lterms : FnScope N_lterms ["_law_state", "_law_left", "_law_right_here", "_law_many"] (defScope s_lterms) := ⟨rfl, rfl, rfl, by decide +kernel, rfl, by decide +kernel, by decide +kernel⟩
theorem ok_lterms (F : Dm K "_law_terms" s_lterms f fd) (T : Tx K mg) (cd : Cl P w K mg base 1 "_law_draw" sp_draw) (cp : Cl P w K mg base 3 "_law_part" sp_lpart) : FnOk P w K mg base CX0 4 f fd ["_law_state", "_law_left", "_law_right_here", "_law_many"] sp_lterms := by
  refine F.ok sc_lterms (fun vs H Q E h => ?_) (fun cdv A outer s H vs Q E hr h => ?_)
  · obtain ⟨nl, st, ns, l, r, m, rfl, _⟩ := h
    rfl
  · obtain ⟨nl, st, ns, l, r, m, rfl, hg, hm1, hm8, hst, q⟩ := h
    have nd := sc_lterms.nd
    refine ⟨_, PSs.nox (pss_cons (ps_par (i := 4) (j := 5) rfl nd rfl rfl (by decide) rfl rfl (pa_cons
          (pe_lc (own := [("_law_one", 12)]) (g := gName 12) (tt := tYes) rfl nd (pi_range1 (by rfl) T.range (pa_cons (pv 1) pa_nil)) (blkOk_by (N := N_lterms) (sc := defScope s_lterms) (by decide +kernel))
              (fun _ _ _ _ _ => pg_name (i := 12) nd rfl (Or.inl rfl)) (fun _ _ _ _ _ => pts_nil) (fun _ _ _ _ _ => pe_op op_rep (pe_lst (pa_cons pe_int pa_nil)) (pv 2))) (pa_cons (pe_lst pa_nil) pa_nil)) (by rfl))
      (pss_cons (ps_for PassesOwn.never rfl (pi_range1 (by rfl) T.range (pa_cons (pv 3) pa_nil)) (pg_name (i := 6) nd rfl (Or.inl rfl))
        (pss_cons (ps_asg (pc cp hr (pa_cons (pv 0) (pa_cons (pv 1) (pa_cons (pv 2) pa_nil)))) (pg_unl rfl (pgs_cons (pg_name (i := 7) nd rfl (Or.inl rfl)) (pgs_cons (pg_name (i := 8) nd rfl (Or.inl rfl)) (pgs_cons (pg_name (i := 9) nd rfl (Or.inl rfl)) pgs_nil)))))
        (pss_cons (ps_par (i := 10) (j := 11) rfl nd rfl rfl (by decide) rfl rfl (pa_cons (p_ixL K (pe_lst (pa_cons pe_int (pa_cons pe_int (pa_cons pe_int (pa_cons pe_int (pa_cons (pe_op op_pow pe_int pe_int) (pa_cons pe_int pa_nil))))))) (pc cd hr (pa_cons (pv 0) (pa_cons pe_int pa_nil)))) (pa_cons (pe_op op_sub pe_int (pe_op op_mul pe_int (pc cd hr (pa_cons (pv 0) (pa_cons pe_int pa_nil))))) pa_nil)) (by rfl))
        (pss_cons (ps_if (PW.pt (pw_or (pt_cmpR op_ne (pv 10) pe_int (nomark _)) (pw_or1 (pt_cmpR op_eq (pc cd hr (pa_cons (pv 0) (pa_cons pe_int pa_nil))) pe_int (nomark _)))))
            (pss_one (ps_set (i := 7) nd rfl (.inl rfl) (pe_op op_add_str (pe_op op_add_str (pe_callTy call_str_int (by rfl) T.str bt_str (pa_cons (pv 10) pa_nil)) pe_str) (pv 7)))) pss_nil)
        (pss_cons (ps_expr (pe_bm PySem.F.plainAttrs_list PySem.F.slot_list_append PySem.F.type_list_append mt_append (pv 5) (pa_cons (pe_lst (pa_cons (pv 11) (pa_cons (pv 7) pa_nil))) pa_nil)))
        (pss_one (ps_for PassesOwn.never rfl (pi_range1 (by rfl) T.range (pa_cons (pv 1) pa_nil)) (pg_name (i := 12) nd rfl (Or.inl rfl))
          (pss_one (ps_for PassesOwn.never rfl (pi_range1 (by rfl) T.range (pa_cons (pv 2) pa_nil)) (pg_name (i := 13) nd rfl (Or.inl rfl))
            (pss_cons (ps_set (i := 14) nd rfl (.inl rfl) (pe_op op_mul (pe_op op_mul (pe_op op_mul (pv 11) (pv 10)) (p_ixL K (pv 8) (pv 12))) (p_ixL K (pv 9) (pv 13))))
            (pss_one (ps_asg (pe_op op_add (p_ixL K (p_ixL K (pv 4) (pv 12)) (pv 13)) (pv 14)) (pg_sub (p_ixL K (pv 4) (pv 12)) (pv 13) set_list)))))))))))))
      (pss_one (ps_ret (pe_lst (pa_cons (pv 5) (pa_cons (p_tuple K T.tuple
          (pe_lc (own := [("_law_row", 15)]) (g := gName 15) (tt := tYes) rfl nd (pi_listQ K (pv 4)) (blkOk_by (N := N_lterms) (sc := defScope s_lterms) (by decide +kernel))
              (fun _ _ _ _ _ => pg_name (i := 15) nd rfl (Or.inl rfl)) (fun _ _ _ _ _ => pts_nil) (fun _ _ _ _ _ => p_tuple K T.tuple (pv 15)))) pa_nil))))))), ?_⟩
    have h8 := hg.1
    have h9 := hg.2
    refine q_parX (er_lcNew (xs := (List.range r).map fun _ => V.int 0) (te := tOp rRep (tLst (tCons (tC (.int 0)) tNil)) (tVar 2)) (g := gName 12) (vs := [12]) (evi_rng (σ := start N_lterms [.ref st, .int l, .int r, .int m]) (te := tVar 1) exOk (r_ev (ev_var rfl)) (by omega)) (by omega) (fun i H x H' => yfn_ex i H x H') fun i x H1 H2 hi e1 y e2 => ?_) (fun H1 e1 => el_lst (vs := []) ea_nil (by decide)) fun v pr H1 H2 e1 ⟨pw, as, hv, hpw, hw1, hal, hand, has⟩ hpr e2 hr2 => ?_
    · obtain ⟨rfl, rfl⟩ := y
      refine ⟨_, fun _ k => k, rfl, ?_⟩
      rw [← rep_range]
      exact el_rep (el_lst (vs := [.int 0]) (ea_cons ev_c ea_nil) (show 1 ≤ 100000 by decide)) (fun _ _ => ev_var rfl) (by omega)
    subst hv
    obtain ⟨nn, kk, hs1, hs2⟩ := id hst
    have hmem : ∀ i, i < l → as.getD i 0 ∈ as := fun i hi => by
      rw [List.getD_eq_getElem?_getD, List.getElem?_eq_getElem (by omega)]
      exact List.getElem_mem _
    have hgd : ∀ (i : Nat) (hi : i < l), as.getD i 0 = as[i]'(by omega) := fun i hi => by rw [List.getD_eq_getElem?_getD, List.getElem?_eq_getElem (by omega)]; rfl
    have hra0 : ∀ i, i < l → H (as.getD i 0) = none := fun i hi => (has _ (hmem i hi)).2.1
    have hpr0 : H pr = none := fresh_back e1 hpr
    have w0 : Ws nl st ns pw pr (fun i => as.getD i 0) l r (sumG []) [] H2 := by
      refine ⟨hst.ex (e1.trans e2), ?_, fun i hi => ?_, fun i k hi hk e => ?_, Ne.symm (ne_of_none hs1 hpw), fun i hi => ⟨Ne.symm (ne_of_none hs1 (hra0 i hi)), (has _ (hmem i hi)).1, ne_of_none (has _ (hmem i hi)).2.2 hpr⟩, Ne.symm (ne_of_none hw1 hpr), ⟨ne_of_none hs2 hpr0, fun i hi => ne_of_none hs2 (hra0 i hi)⟩, ⟨Ne.symm (ne_of_none hs1 hpr0), [], hr2, rfl, fun k q h => by simp at h⟩, fun vals hv p hp => ?_⟩
      · rw [e2 _ _ hw1]
        congr 2
        rw [← hal]
        symm
        exact map_range_get fun i x hx => by rw [List.getD_eq_getElem?_getD, hx]; rfl
      · exact e2 _ _ (has _ (hmem i hi)).2.2
      · rw [hgd i hi, hgd k hk] at e
        have := List.pairwise_iff_getElem.mp hand
        rcases Nat.lt_trichotomy i k with z | z | z
        · exact absurd e (this i k _ _ z)
        · exact z
        · exact absurd e.symm (this k i _ _ z)
      · rw [hr2] at hv; cases hv; simp at hp
    generalize hraf : (fun i => as.getD i 0) = ra at w0
    have hra : ∀ i, i < l → H (ra i) = none := fun i hi => by rw [← hraf]; exact hra0 i hi
    have e02 := e1.trans e2
    have wk := evb_rng (m := m) (te := tVar 3) (σ := [some (.ref st), some (.int l), some (.int r), some (.int m), some (.ref pw), some (.ref pr), none, none, none, none, none, none, none, none, none, none]) (H := emp) (fun H1 e1 => ev_var rfl) (by omega)
    refine q_forB wk emp_ex (fun i σ' H' => ∃ ts, ts.length = i ∧ Dr nl ns st H H' ∧ Ws nl st ns pw pr ra l r (sumG ts) ts H' ∧ TsOk l r ts ∧ (∀ x y, x < l → y < r → (sumG ts x y).natAbs ≤ i * 10 ^ 16) ∧
        ∃ x6 x7 x8 x9 xa xb xc xd xe xf, σ' = [some (.ref st), some (.int l), some (.int r), some (.int m), some (.ref pw), some (.ref pr), x6, x7, x8, x9, xa, xb, xc, xd, xe, xf])
      (fun H3 e3 => ⟨[], rfl, drOk.ex (e02.trans e3), w0.ex e3, fun q hq => by simp at hq, fun x y _ _ => by simp [sumG], _, _, _, _, _, _, _, _, _, _, rfl⟩) (fun _ _ _ _ => emp_ex) (fun i x σ' H3 H4 hi p y => ?_) (fun σ' H' p => ?_)
    · obtain ⟨ts, htl, edr, hw, hok, hbd, x6, x7, x8, x9, xa, xb, xc, xd, xe, xf, rfl⟩ := p
      obtain ⟨rfl, rfl⟩ := y
      obtain ⟨_, k4, st4, _⟩ := id hw.s
      refine qR_asgG drOk (er_lpart hw.s (evr_v drOk rfl) (evr_v drOk rfl) (evr_v drOk rfl) hg) fun v H5 e5 ⟨p, xs, P, pa, pb, h, k, hv, hna, hnb, hp, hP⟩ => ?_
      subst hv
      obtain ⟨rfl, hla, hlb, hPo, hPg, hh, hk⟩ := hP
      refine g_unl3 hp ?_
      have hw5 := hw.dr e5
      refine qR_par drOk (er_amt hw5.s rfl) (er_sgn hw5.s rfl) fun v u H6 H7 e6 ⟨am, hv, ham⟩ e7 ⟨sg, hu, hsg⟩ => ?_
      subst hv hu
      have e57 : Dr nl ns st H5 H7 := drOk.tr e6 e7
      have hw7 := hw5.dr e57
      have pas : pa ≠ st := Ne.symm (ne_of_none st4 hna)
      have pbs : pb ≠ st := Ne.symm (ne_of_none st4 hnb)
      have par : ∀ a, a < l → pa ≠ ra a := fun a ha => Ne.symm (ne_of_none (hw.row a ha) hna)
      have pbr : ∀ a, a < l → pb ≠ ra a := fun a ha => Ne.symm (ne_of_none (hw.row a ha) hnb)
      obtain ⟨_, vals4, hpr4, _⟩ := id hw.rs
      have papr : pa ≠ pr := Ne.symm (ne_of_none hpr4 hna)
      have pbpr : pb ≠ pr := Ne.symm (ne_of_none hpr4 hnb)
      have ham18 : am < 10 ^ 18 ∧ am ≤ 10 ^ 12 := by rcases ham with e | e | e | e | e <;> omega
      have hlP := txtP_len hPo hg
      have e07 : Dr nl ns st H H7 := drOk.tr edr (drOk.tr e5 e57)
      have rest : ∀ t : Term, (t = (some am, P) ∨ (am = 1 ∧ t = (none, P))) → ∀ H8, Dr nl ns st H7 H8 → ∀ {D : Ends}, D.nx = (fun σ' H' => ∃ ts, ts.length = i + 1 ∧ Dr nl ns st H H' ∧ Ws nl st ns pw pr ra l r (sumG ts) ts H' ∧ TsOk l r ts ∧ (∀ x y, x < l → y < r → (sumG ts x y).natAbs ≤ (i + 1) * 10 ^ 16) ∧
          ∃ x6 x7 x8 x9 xa xb xc xd xe xf, σ' = [some (.ref st), some (.int l), some (.int r), some (.int m), some (.ref pw), some (.ref pr), x6, x7, x8, x9, xa, xb, xc, xd, xe, xf]) →
          tSeq (tDrop (tBM K "list" rAppend (tVar 5) (tCons (tLst (tCons (tVar 11) (tCons (tVar 7) tNil))) tNil)))
            (tFor (iRng1 (tCons (tVar 1) tNil)) (gName 12) (tFor (iRng1 (tCons (tVar 2) tNil)) (gName 13) (tSeq (tAsg (tOp (rI CMul fun i j => .int (i * j)) (tOp (rI CMul fun i j => .int (i * j)) (tOp (rI CMul fun i j => .int (i * j)) (tVar 11) (tVar 10)) (tOp (rIxL K) (tVar 8) (tVar 12))) (tOp (rIxL K) (tVar 9) (tVar 13))) (gName 14))
              (tAsg (tOp (rI0 fun i j => .int (i + j)) (tOp (rIxL K) (tOp (rIxL K) (tVar 4) (tVar 12)) (tVar 13)) (tVar 14)) (gSub (tOp (rIxL K) (tVar 4) (tVar 12)) (tVar 13) rSetL)))))
            D [some (.ref st), some (.int l), some (.int r), some (.int m), some (.ref pw), some (.ref pr), some (.int (0 + (i : Nat))), some (.str (S (txtT t))), some (.ref pa), some (.ref pb), some (.int (am : Nat)), some (.int sg), xc, xd, xe, xf] H8 := by
        intro t ht H8 e8 D hD
        have hw8 := hw7.dr e8
        have hto : TermOk l r t := by
          rcases ht with rfl | ⟨_, rfl⟩
          · exact ⟨hPo, fun n hn => by cases hn; exact ham18.1⟩
          · exact ⟨hPo, fun n hn => nomatch hn⟩
        have hgt : ∀ x y, x < l → y < r → gridT t x y = h x * k y * (am : Nat) := fun x y hx hy => by
          rcases ht with rfl | ⟨h1, rfl⟩
          · show gridP P x y * (am : Nat) = _; rw [hPg x y hx hy]
          · show gridP P x y * 1 = _; rw [hPg x y hx hy, h1]; rfl
        have hsum : ∀ x y, sumG (ts ++ [(sg, t)]) x y = sumG ts x y + gridT t x y * sg := fun x y => by
          rw [sumG_app]; show _ + (gridT t x y * sg + 0) = _; rw [Int.add_zero]
        obtain ⟨_, vals, hv8, hvl, _⟩ := id hw8.rs
        obtain ⟨_, k8, st8, _⟩ := id hw8.s
        refine q_appL (xs := vals) (ys := [.int sg, .str (S (txtT t))]) hv8 (ev_var rfl) (el_lst (ea_cons (ev_var rfl) (ea_cons (ev_var rfl) ea_nil)) (show 2 ≤ 100000 by decide)) (by rw [hvl]; omega) fun p' H9 hpn e9 hp9 => ?_
        have hw9 := hw8.ex e9
        obtain ⟨vals', hv9, _, hw10⟩ := hw9.put (q := (sg, t)) (p := p') hp9 (Ne.symm (ne_of_none st8 hpn)) (Ne.symm (ne_of_none hv8 hpn)) (Ne.symm (ne_of_none hw8.w hpn)) fun a ha => Ne.symm (ne_of_none (hw8.row a ha) hpn)
        obtain rfl : vals = vals' := by
          have := e9 _ _ hv8
          rw [this] at hv9
          cases hv9; rfl
        have e010 : Dr nl ns st H (upd H9 pr (.lst (vals ++ [.ref p']))) := drOk.mt hst (drOk.tr e07 (drOk.tr e8 (drOk.ex e9))) hpr0
        have la9 : LstI (upd H9 pr (.lst (vals ++ [.ref p']))) pa l h := by unfold LstI; rw [upd_ne papr]; exact e9 _ _ (e8.fr _ _ pas (e57.fr _ _ pas hla))
        have lb9 : LstI (upd H9 pr (.lst (vals ++ [.ref p']))) pb r k := by unfold LstI; rw [upd_ne pbpr]; exact e9 _ _ (e8.fr _ _ pbs (e57.fr _ _ pbs hlb))
        refine s_forB (evb_rng (m := l) (te := tVar 1) (H := emp) (fun H1 e1 => ev_var rfl) (by omega)) emp_ex (fun a σ' H' => Dr nl ns st H H' ∧ Ws nl st ns pw pr ra l r (fun x y => if x < a then sumG (ts ++ [(sg, t)]) x y else sumG ts x y) (ts ++ [(sg, t)]) H' ∧ LstI H' pa l h ∧ LstI H' pb r k ∧
            ∃ yc yd ye, σ' = [some (.ref st), some (.int l), some (.int r), some (.int m), some (.ref pw), some (.ref pr), some (.int (0 + (i : Nat))), some (.str (S (txtT t))), some (.ref pa), some (.ref pb), some (.int (am : Nat)), some (.int sg), yc, yd, ye, xf])
          (fun H11 e11 => ⟨drOk.tr e010 (drOk.ex e11), (hw10.ex e11).congr fun x y _ _ => by rw [if_neg (by omega)], e11 _ _ la9, e11 _ _ lb9, _, _, _, rfl⟩) (fun _ _ _ _ => emp_ex) (fun a x σ' H11 H12 ha p y => ?_) (fun σ' H' p => ?_)
        · obtain ⟨e11, hw11, la, lb, yc, yd, ye, rfl⟩ := p
          obtain ⟨rfl, rfl⟩ := y
          refine s_forB (evb_rng (m := r) (te := tVar 2) (H := emp) (fun H1 e1 => ev_var rfl) (by omega)) emp_ex (fun b σ' H' => Dr nl ns st H H' ∧ Ws nl st ns pw pr ra l r (fun x y => if x < a ∨ (x = a ∧ y < b) then sumG (ts ++ [(sg, t)]) x y else sumG ts x y) (ts ++ [(sg, t)]) H' ∧ LstI H' pa l h ∧ LstI H' pb r k ∧
              ∃ yd ye, σ' = [some (.ref st), some (.int l), some (.int r), some (.int m), some (.ref pw), some (.ref pr), some (.int (0 + (i : Nat))), some (.str (S (txtT t))), some (.ref pa), some (.ref pb), some (.int (am : Nat)), some (.int sg), some (.int (0 + (a : Nat))), yd, ye, xf])
            (fun H13 e13 => ⟨drOk.tr e11 (drOk.ex e13), (hw11.ex e13).congr fun x y _ _ => by
              by_cases hx : x < a
              · rw [if_pos hx, if_pos (.inl hx)]
              · rw [if_neg hx, if_neg (by omega)], e13 _ _ la, e13 _ _ lb, _, _, rfl⟩) (fun _ _ _ _ => emp_ex) (fun b x σ' H13 H14 hb p y => ?_) (fun σ' H' p => ?_)
          · obtain ⟨e13, hw13, la, lb, yd, ye, rfl⟩ := p
            obtain ⟨rfl, rfl⟩ := y
            have ia : ∀ {H : Hp} {ye : Option V}, Ev (tVar 12) [some (.ref st), some (.int l), some (.int r), some (.int m), some (.ref pw), some (.ref pr), some (.int (0 + (i : Nat))), some (.str (S (txtT t))), some (.ref pa), some (.ref pb), some (.int (am : Nat)), some (.int sg), some (.int (0 + (a : Nat))), some (.int (0 + (b : Nat))), ye, xf] H (.int (a : Nat)) := fun {H ye} => ev_is (ev_var rfl) (show V.int (0 + (a : Nat)) = V.int (a : Nat) by rw [Int.zero_add])
            have ib : ∀ {H : Hp} {ye : Option V}, Ev (tVar 13) [some (.ref st), some (.int l), some (.int r), some (.int m), some (.ref pw), some (.ref pr), some (.int (0 + (i : Nat))), some (.str (S (txtT t))), some (.ref pa), some (.ref pb), some (.int (am : Nat)), some (.int sg), some (.int (0 + (a : Nat))), some (.int (0 + (b : Nat))), ye, xf] H (.int (b : Nat)) := fun {H ye} => ev_is (ev_var rfl) (show V.int (0 + (b : Nat)) = V.int (b : Nat) by rw [Int.zero_add])
            have hsa : -(2 ^ 64) < sg * (am : Nat) ∧ sg * (am : Nat) < 2 ^ 64 := by rcases hsg with e | e <;> rw [e] <;> omega
            have hha := hh a ha
            have hkb := hk b hb
            refine q_asg (v := .int (sg * (am : Nat) * h a * k b)) (ev_mul (ev_mul (ev_mul (ev_var rfl) (ev_var rfl) (.inl (by rcases hsg with e | e <;> rw [e] <;> decide))) (ev_ixLn (i := a) (ev_var rfl) ia la (row_at ha)) (.inl hsa)) (ev_ixLn (i := b) (ev_var rfl) ib lb (row_at hb)) (.inr (by omega))) fun H15 e15 => ?_
            have hw15 := hw13.ex e15
            have hrow := hw15.row a ha
            have hwat : ((List.range l).map fun i => V.ref (ra i))[a]? = some (.ref (ra a)) := by rw [List.getElem?_map, List.getElem?_range ha]; rfl
            have e015 : Dr nl ns st H H15 := drOk.tr e13 (drOk.ex e15)
            refine s_setL (xs := (List.range r).map fun j => V.int (if a < a ∨ (a = a ∧ j < b) then sumG (ts ++ [(sg, t)]) a j else sumG ts a j)) (j := b) (v := .int (sumG ts a b + sg * (am : Nat) * h a * k b)) hrow
              (ev_add (ev_is (ev_ixLn (i := b) (ev_ixLn (i := a) (ev_var rfl) ia hw15.w hwat) ib hrow (row_at hb)) (by rw [if_neg (by omega)])) (ev_var rfl)) (ev_ixLn (i := a) (ev_var rfl) ia hw15.w hwat) ib (by rw [row_len]; exact hb) fun H16 e16 => ?_
            have hw16 := hw15.ex e16
            refine ⟨drOk.mt hst (drOk.tr e015 (drOk.ex e16)) (hra a ha), (hw16.set (x := sumG ts a b + sg * (am : Nat) * h a * k b) ha hb).congr fun x y hx hy => ?_, ?_, ?_, _, _, rfl⟩
            · by_cases hxy : x = a ∧ y = b
              · rw [if_pos hxy, if_pos (by omega), hsum, hxy.1, hxy.2, hgt a b ha hb]
                congr 1
                rw [Int.mul_comm (h a * k b * (am : Nat)) sg, Int.mul_assoc, Int.mul_assoc, Int.mul_comm (h a * k b) (am : Nat)]
              · rw [if_neg hxy]
                by_cases hc : x < a ∨ (x = a ∧ y < b)
                · rw [if_pos hc, if_pos (by omega)]
                · rw [if_neg hc, if_neg (by omega)]
            · unfold LstI; rw [upd_ne (par a ha)]; exact e16 _ _ (e15 _ _ la)
            · unfold LstI; rw [upd_ne (pbr a ha)]; exact e16 _ _ (e15 _ _ lb)
          · obtain ⟨e13, hw13, la, lb, yd, ye, rfl⟩ := p
            exact ⟨e13, hw13.congr fun x y _ hy => by
              by_cases hc : x < a + 1
              · rw [if_pos hc, if_pos (by omega)]
              · rw [if_neg hc, if_neg (by omega)], la, lb, _, _, _, rfl⟩
        · obtain ⟨e11, hw11, la, lb, yc, yd, ye, rfl⟩ := p
          rw [hD]
          refine ⟨ts ++ [(sg, t)], by rw [List.length_append, htl]; rfl, e11, hw11.congr fun x y hx _ => by rw [if_pos hx], fun q hq => ?_, fun x y hx hy => ?_, _, _, _, _, _, _, _, _, _, _, rfl⟩
          · rcases List.mem_append.mp hq with z | z
            · exact hok q z
            · rw [List.mem_singleton] at z; subst z; exact ⟨hsg, hto⟩
          · rw [hsum, hgt x y hx hy]
            have h1 := hbd x y hx hy
            have hx1 := hh x hx
            have hy1 := hk y hy
            have h2 : (h x * k y * (am : Nat) * sg).natAbs ≤ 10 ^ 16 := by
              rw [Int.natAbs_mul, Int.natAbs_mul, Int.natAbs_mul, Int.natAbs_natCast]
              have a1 : (h x).natAbs ≤ 100 := by omega
              have a2 : (k y).natAbs ≤ 100 := by omega
              have a3 : sg.natAbs ≤ 1 := by rcases hsg with e | e <;> rw [e] <;> decide
              have := Nat.mul_le_mul (Nat.mul_le_mul (Nat.mul_le_mul a1 a2) ham18.2) a3
              omega
            have h3 := Int.natAbs_add_le (sumG ts x y) (h x * k y * (am : Nat) * sg)
            rw [Nat.succ_mul]
            omega
      by_cases h1 : am = 1
      · refine q_ifN (R := Dr nl ns st) (fun Q q => ?_) (fun H8 e8 => ?_) (fun H8 e8 => rest (none, P) (.inr ⟨h1, rfl⟩) H8 e8 rfl)
        · refine (et_test (ev_is (ev_neI (ev_var rfl) ev_c) (by rw [h1]; rfl)) : EvT (tTest (tOp rNe (tVar 10) (tC (.int 1)))) [some (.ref st), some (.int l), some (.int r), some (.int m), some (.ref pw), some (.ref pr), some (.int (0 + (i : Nat))), some (.str (S (txtP P))), some (.ref pa), some (.ref pb), some (.int (am : Nat)), some (.int sg), xc, xd, xe, xf] H7 false) H7 (Ex.refl _) _ fun H8 e8 => iteF ?_
          refine er_draw (m := 3) (ta := tVar 0) (tb := tC (.int 3)) (σ := [some (.ref st), some (.int l), some (.int r), some (.int m), some (.ref pw), some (.ref pr), some (.int (0 + (i : Nat))), some (.str (S (txtP P))), some (.ref pa), some (.ref pb), some (.int (am : Nat)), some (.int sg), xc, xd, xe, xf]) (hw7.s.ex e8) (evr_v drOk rfl) (fun H3 _ Q q => q _ _ (drOk.rf _) rfl) (by decide) H8 (drOk.rf _) _ fun v H9 e9 ⟨x, hv, _⟩ => ?_
          subst hv
          exact ⟨rfl, _, rfl, q _ H9 (drOk.tr (drOk.ex e8) e9)⟩
        · refine s_asg (v := .str (S (txtT (some am, P)))) (ev_is (ev_addS (ev_addS (ev_strI (ev_var rfl) (by omega)) ev_lit ?_) (ev_var rfl) ?_) (congrArg (fun w => V.str (S w)) (txt_amt am P))) fun H9 e9 => rest (some am, P) (.inl rfl) H9 (drOk.tr e8 (drOk.ex e9)) rfl
          · have := numL_len (n := am) (k := 18) (by decide) ham18.1
            have c3 : (wd " * ").length = 3 := by decide +kernel
            omega
          · have := numL_len (n := am) (k := 18) (by decide) ham18.1
            have c3 : (wd " * ").length = 3 := by decide +kernel
            rw [List.length_append]; omega
      · refine q_if (b := true) (et_is (et_or (a := true) (b := true) (et_test (ev_is (ev_neI (ev_var rfl) ev_c) (by rw [decide_eq_false (by omega)]; rfl))) fun z => (nomatch z)) rfl) (fun _ H8 e8 => ?_) fun z => (nomatch z)
        refine s_asg (v := .str (S (txtT (some am, P)))) (ev_is (ev_addS (ev_addS (ev_strI (ev_var rfl) (by omega)) ev_lit ?_) (ev_var rfl) ?_) (congrArg (fun w => V.str (S w)) (txt_amt am P))) fun H9 e9 => rest (some am, P) (.inl rfl) H9 (drOk.tr (drOk.ex e8) (drOk.ex e9)) rfl
        · have := numL_len (n := am) (k := 18) (by decide) ham18.1
          have c3 : (wd " * ").length = 3 := by decide +kernel
          omega
        · have := numL_len (n := am) (k := 18) (by decide) ham18.1
          have c3 : (wd " * ").length = 3 := by decide +kernel
          rw [List.length_append]; omega
    · obtain ⟨ts, htl, edr, hw, hok, hbd, x6, x7, x8, x9, xa, xb, xc, xd, xe, xf, rfl⟩ := p
      have gk : EvR Ex (tCB (rTupOf K) (tCons (tLc (iList K (tVar 4)) (gName 15) tYes (tCB (rTupOf K) (tCons (tVar 15) tNil)) [15]) tNil)) [some (.ref st), some (.int l), some (.int r), some (.int m), some (.ref pw), some (.ref pr), x6, x7, x8, x9, xa, xb, xc, xd, xe, xf] H' (fun _ v H' => ∃ p, v = .ref p ∧ Gr H' p l r (sumG ts)) := by
        have k0 := evi_list (K := K) (te := tVar 4) (σ := [some (.ref st), some (.int l), some (.int r), some (.int m), some (.ref pw), some (.ref pr), x6, x7, x8, x9, xa, xb, xc, xd, xe, xf]) (ev_var rfl) hw.w
        rw [List.length_map, List.length_range] at k0
        refine er_grid k0 (by omega) (fun i H x H' => yat_ex i H x H') fun i x H3 H4 hi e3 y e4 => ?_
        obtain ⟨rfl, hx⟩ := y
        rw [List.getElem?_map, List.getElem?_range hi] at hx
        cases hx
        refine ⟨_, fun _ k => k, rfl, fun H5 e5 Q q => ⟨_, rfl, ra i, _, rfl, .inl ⟨sq_of (e5 _ _ (e4 _ _ (hw.row i hi))), fun t ht => q _ _ (Ex.new ht) ⟨t, rfl, upd_same⟩⟩⟩⟩
      refine ⟨_, rfl, gk H' (Ex.refl _) _ fun v H3 e3 ⟨pt, hv, hpt⟩ => ⟨by show 2 ≤ sizeLine; decide, fun p hp => ?_⟩⟩
      subst hv
      have e34 := e3.trans (Ex.new (o := HO.lst [V.ref pr, V.ref pt]) hp)
      refine q p _ pr pt ts (drOk.tr edr (drOk.ex e34)) upd_same (hw.rs.ex e34) (hpt.ex (Ex.new hp)) hok (by omega) fun x y hx hy => ?_
      have := hbd x y hx hy
      have h2 : m * 10 ^ 16 ≤ 8 * 10 ^ 16 := Nat.mul_le_mul_right _ hm8
      omega
end
end Q
set_option Elab.async false
set_option linter.all false
set_option maxRecDepth 100000
set_option maxHeartbeats 4000000
namespace Q
open PySem PySem.Spec PyProof.Rows L2
open Evl SX TL
/-! ## Plain: sums -/
def su (n : Nat) (h : Nat → Int) : Int := ((List.range n).map h).sum
theorem su_zero (h : Nat → Int) : su 0 h = 0 := rfl
theorem su_succ (n : Nat) (h : Nat → Int) : su (n + 1) h = su n h + h n := by unfold su; rw [List.range_succ, List.map_append, List.sum_append]; simp
theorem su_congr {n : Nat} {h k : Nat → Int} (e : ∀ i, i < n → h i = k i) : su n h = su n k := by
  unfold su; exact congrArg List.sum (List.map_congr_left fun i hi => e i (List.mem_range.mp hi))
theorem su_add (h k : Nat → Int) : ∀ n, su n (fun i => h i + k i) = su n h + su n k
  | 0 => by simp [su]
  | n + 1 => by rw [su_succ, su_succ, su_succ, su_add h k n]; omega
theorem su_mul (c : Int) (h : Nat → Int) : ∀ n, su n (fun i => c * h i) = c * su n h
  | 0 => by simp [su]
  | n + 1 => by rw [su_succ, su_succ, su_mul c h n, Int.mul_add]
theorem su_const0 : ∀ n, su n (fun _ => 0) = 0
  | 0 => rfl
  | n + 1 => by rw [su_succ, su_const0 n]; rfl
theorem su_swap (h : Nat → Nat → Int) (r : Nat) : ∀ l, su l (fun i => su r fun j => h i j) = su r (fun j => su l fun i => h i j)
  | 0 => by rw [su_zero]; symm; exact su_const0 r
  | l + 1 => by
    rw [su_succ, su_swap h r l, ← su_add]
    exact su_congr fun j _ => (su_succ l fun i => h i j).symm
theorem flat_sum (r : Nat) (h : Nat → Nat → Int) : ∀ l, (flat l r h).sum = su l fun i => su r fun j => h i j
  | 0 => by simp [flat, su]
  | l + 1 => by rw [flat_succ, List.sum_append, flat_sum r h l, su_succ]; rfl
theorem dot_su {l r : Nat} {f g : Nat → Nat → Int} : dot l r f g = su l fun i => su r fun j => f i j * g i j := flat_sum r _ l
theorem dot_congr {l r : Nat} {f g f' g' : Nat → Nat → Int} (h : ∀ i j, i < l → j < r → f i j * g i j = f' i j * g' i j) : dot l r f g = dot l r f' g' := by
  rw [dot_su, dot_su]; exact su_congr fun i hi => su_congr fun j hj => h i j hi hj
theorem dot_scale {l r : Nat} {c : Int} {f g f' g' : Nat → Nat → Int} (h : ∀ i j, i < l → j < r → f' i j * g' i j = c * (f i j * g i j)) : dot l r f' g' = c * dot l r f g := by
  rw [dot_su, dot_su, ← su_mul]
  exact su_congr fun i hi => by rw [← su_mul]; exact su_congr fun j hj => h i j hi hj
theorem dot_turn {l r : Nat} {f g : Nat → Nat → Int} : dot r l (fun i j => f j i) (fun i j => g j i) = dot l r f g := by
  rw [dot_su, dot_su, su_swap]
/-- a sum of dots -/
theorem dot_sumG {l r : Nat} {g : Nat → Nat → Int} : ∀ ts : List ST, (ts.map fun q => dot l r (gridT q.2) g * q.1).sum = dot l r (sumG ts) g
  | [] => by
    rw [dot_su]
    show (0 : Int) = su l fun i => su r fun j => 0 * g i j
    rw [su_congr (k := fun _ => 0) fun i _ => by rw [su_congr (k := fun _ => 0) fun j _ => Int.zero_mul _, su_const0], su_const0]
  | q :: ts => by
    rw [List.map_cons, List.sum_cons, dot_sumG ts, dot_su, dot_su, dot_su, Int.mul_comm, ← su_mul, ← su_add]
    refine su_congr fun i _ => ?_
    rw [← su_mul, ← su_add]
    refine su_congr fun j _ => ?_
    have e : sumG (q :: ts) i j = gridT q.2 i j * q.1 + sumG ts i j := by unfold sumG; rw [List.map_cons, List.sum_cons]
    rw [e, Int.add_mul]
    congr 1
    rw [Int.mul_comm (gridT q.2 i j) q.1, Int.mul_assoc]
/-- the rows of a table, asked one by one -/
theorem sum_rep (x : Int) : ∀ n : Nat, (List.replicate n x).sum = x * n
  | 0 => by simp
  | n + 1 => by rw [List.replicate_succ, List.sum_cons, sum_rep x n]; rw [Int.natCast_succ, Int.mul_add, Int.mul_one, Int.add_comm]
theorem row_sum (w f : Nat → Nat → Int) (i : Nat) : ∀ r, (∀ j, j < r → 0 ≤ f i j) → ((rowPairs f i r).map fun q => w q.1 q.2).sum = su r fun j => w i j * f i j
  | 0, _ => by simp [rowPairs, su]
  | r + 1, h => by
    rw [rowPairs_succ, List.map_append, List.sum_append, row_sum w f i r fun j hj => h j (by omega), su_succ, List.map_replicate, sum_rep]
    have := h r (by omega)
    rw [Int.toNat_of_nonneg this]
theorem pairs_sum (w f : Nat → Nat → Int) (r : Nat) : ∀ l, (∀ i j, i < l → j < r → 0 ≤ f i j) → ((pairs f l r).map fun q => w q.1 q.2).sum = dot l r w f
  | 0, _ => by rw [dot_su]; simp [pairs, su]
  | l + 1, h => by
    rw [pairs_succ, List.map_append, List.sum_append, pairs_sum w f r l fun i j hi hj => h i j (by omega) hj, row_sum w f l r fun j hj => h l j (by omega) hj, dot_su, dot_su, su_succ]
theorem pairs_mem {f : Nat → Nat → Int} {l r : Nat} {q : Nat × Nat} (h : q ∈ pairs f l r) : q.1 < l ∧ q.2 < r := by
  obtain ⟨i, hi, h⟩ := List.mem_flatMap.mp h
  obtain ⟨j, hj, h⟩ := List.mem_flatMap.mp h
  have := List.eq_of_mem_replicate h
  subst this
  exact ⟨List.mem_range.mp hi, List.mem_range.mp hj⟩
theorem rowPairs_len {f : Nat → Nat → Int} {i : Nat} : ∀ r, (∀ j, j < r → f i j ≤ 100) → (rowPairs f i r).length ≤ r * 100
  | 0, _ => by simp [rowPairs]
  | r + 1, h => by
    have h1 := rowPairs_len r fun j hj => h j (by omega)
    have h2 := h r (by omega)
    rw [rowPairs_succ, List.length_append, List.length_replicate, Nat.succ_mul]; omega
theorem pairs_len {f : Nat → Nat → Int} {r : Nat} : ∀ l, (∀ i j, i < l → j < r → f i j ≤ 100) → (pairs f l r).length ≤ l * (r * 100)
  | 0, _ => by simp [pairs]
  | l + 1, h => by
    have h1 := pairs_len l fun i j hi hj => h i j (by omega) hj
    have h2 := rowPairs_len (f := f) (i := l) r fun j hj => h l j (by omega) hj
    rw [pairs_succ, List.length_append, Nat.succ_mul]; omega
end Q
set_option Elab.async false
set_option linter.all false
set_option maxRecDepth 100000
set_option maxHeartbeats 4000000
namespace Q
open PySem PySem.Spec PyProof.Rows L2
open Evl SX TL
theorem passG {X : Cx} : Passes (CX X.prog X.w) X E0 := fun pins σ H s e s' I h => by
  obtain ⟨a, B, H', cls, d, z1, z2, z3, z4, z5, z6, z7, z8⟩ := h
  exact z8.elim
theorem noStop0 {K : PySem.W.Frag} : NoStop K E0 := fun _ _ _ h => h.elim
section
variable {P : Program} {w : World} {K : PySem.W.Frag} {mg : Str → Option Value} {base : Heap} {f : Addr} {fd : FuncData} {CT CQ : Addr}
abbrev s_lwritten : Stmt := topS 61
def sp_lwritten : Sp := fun vs H Q _ => ∃ (st pr : Addr) (ts : List ST) (l r : Nat), vs = [.ref pr] ∧ RowsAt st H pr ts ∧ TsOk l r ts ∧ Good l r ∧ ts ≠ [] ∧ ts.length ≤ 50 ∧ ∀ H2, Ex H H2 → Q (.str (S (txts ts))) H2
abbrev N_lwritten : List Str := ["_law_rows", "_law_page", "_law_sign", "_law_term"]
theorem sc_lwritten : FnScope N_lwritten ["_law_rows"] (defScope s_lwritten) := ⟨rfl, rfl, rfl, by decide +kernel, rfl, by decide +kernel, by decide +kernel⟩
theorem ok_lwritten (F : Dm K "_law_written" s_lwritten f fd) (T : Tx K mg) : FnOk P w K mg base CX0 1 f fd ["_law_rows"] sp_lwritten := by
  refine F.ok sc_lwritten (fun vs H Q E h => ?_) (fun cdv A outer s H vs Q E hr h => ?_)
  · obtain ⟨st, pr, ts, l, r, rfl, _⟩ := h
    rfl
  · obtain ⟨st, pr, ts, l, r, rfl, hrs, hok, hg, hne, hl, q⟩ := h
    have nd := sc_lwritten.nd
    refine ⟨_, PSs.nox (pss_cons (ps_set (i := 1) nd rfl (.inl rfl) (pe_op op_add_str (pe_ifExp (pt_cmpR op_lt (p_ixL K (p_ixL K (pv 0) pe_int) pe_int) pe_int (nomark _)) pe_str pe_str) (p_ixL K (p_ixL K (pv 0) pe_int) pe_int)))
      (pss_cons (ps_for PassesOwn.never rfl (pi_listQ K (pe_slice sl_list (pv 0) (po_some pe_int) po_none)) (pg_unl rfl (pgs_cons (pg_name (i := 2) nd rfl (Or.inl rfl)) (pgs_cons (pg_name (i := 3) nd rfl (Or.inl rfl)) pgs_nil)))
        (pss_one (ps_set (i := 1) nd rfl (.inl rfl) (pe_op op_add_str (pe_op op_add_str (pv 1) (pe_ifExp (pt_cmpR op_lt (pv 2) pe_int (nomark _)) pe_str pe_str)) (pv 3)))))
      (pss_one (ps_ret (pv 1))))), ?_⟩
    obtain ⟨_, vals, hv, hvl, hvs⟩ := hrs
    obtain ⟨q0, qs, rfl⟩ : ∃ q0 qs, ts = q0 :: qs := by
      cases ts with
      | nil => exact absurd rfl hne
      | cons q0 qs => exact ⟨q0, qs, rfl⟩
    obtain ⟨p0, hp0, _, _, hq0⟩ := hvs 0 q0 rfl
    have ht0 := (hok q0 List.mem_cons_self).2
    have hl0 := txt_len ht0 hg
    have hqs : TsOk l r qs := fun q hq => hok q (List.mem_cons_of_mem _ hq)
    have hc : qs.length ≤ 49 := by have : qs.length + 1 ≤ 50 := hl; omega
    have hF : ((if q0.1 < 0 then [45] else []) : W).length ≤ 1 := by split <;> simp
    have hsg : (if decide (q0.1 < 0) = true then V.str "-" else V.str "") = V.str (S (if q0.1 < 0 then [45] else [])) := by
      by_cases hneg : q0.1 < 0
      · rw [if_pos hneg, if_pos (decide_eq_true hneg)]; rfl
      · rw [if_neg hneg, if_neg (by rw [decide_eq_false hneg]; exact Bool.false_ne_true)]; rfl
    refine q_asg (v := .str (S ((if q0.1 < 0 then [45] else []) ++ txtT q0.2))) (ev_addS (ev_is (ev_pick (b := decide (q0.1 < 0)) (et_test (ev_op (ev_ixLn (i := 0) (ev_ixLn (i := 0) (ev_var rfl) ev_c hv hp0) ev_c hq0 rfl) ev_c rv_I0)) ev_c ev_c) hsg) (ev_ixLn (i := 1) (ev_ixLn (i := 0) (ev_var rfl) ev_c hv hp0) ev_c hq0 rfl) (by omega)) fun H1 e1 => ?_
    have hsl : EvL (tSl (rSlL K) (tVar 0) (tPart (tC (.int 1))) tNoPart) [some (.ref pr), some (.str (S ((if q0.1 < 0 then [45] else []) ++ txtT q0.2))), none, none] H1 (vals.drop 1) := by
      have := el_sl (K := K) (te := tVar 0) (tl := tPart (tC (.int 1))) (th := tNoPart) (σ := [some (.ref pr), some (.str (S ((if q0.1 < 0 then [45] else []) ++ txtT q0.2))), none, none]) (ev_var rfl) (eo_some ev_c) eo_none (sq_of (e1 _ _ hv))
      cases vals with
      | nil => simp at hp0
      | cons v0 vs => rw [cut1] at this; exact this
    have hdl : (vals.drop 1).length = qs.length := by rw [List.length_drop, hvl]; show qs.length + 1 - 1 = _; omega
    have k0 := evi_listN (K := K) hsl
    rw [hdl] at k0
    refine q_forI k0 (fun H2 i σ' H' => Ex H2 H' ∧ ∃ a b, σ' = [some (.ref pr), some (.str (S ((if q0.1 < 0 then [45] else []) ++ txtT q0.2 ++ (qs.take i).flatMap moreW))), a, b]) (fun H2 e2 => ⟨Ex.refl _, none, none, by rw [List.take_zero, List.flatMap_nil, List.append_nil]; rfl⟩) (fun _ _ _ _ p => p.1)
      (fun H2 e2 i x σ' H3 H4 hi p y => ?_) (fun H2 e2 σ' H' p => ?_)
    · obtain ⟨e3, a, b, rfl⟩ := p
      obtain ⟨rfl, hx⟩ := y
      rw [List.getElem?_drop] at hx
      have hqj : (q0 :: qs)[1 + i]? = some (qs[i]'hi) := by rw [Nat.add_comm, List.getElem?_cons_succ]; exact List.getElem?_eq_getElem hi
      obtain ⟨tj, k2, _, _, k3⟩ := hvs _ _ hqj
      rw [k2] at hx
      cases hx
      have hij := hqs _ (List.getElem_mem hi)
      have hlj := txt_len hij.2 hg
      have hpre := more_txt_len hg (ts := qs.take i) fun q hq => hqs q (List.mem_of_mem_take hq)
      have hpl : (qs.take i).length ≤ 49 := by rw [List.length_take]; omega
      have hfm : ((qs.take i).flatMap moreW).length ≤ 49 * 250 := by
        have : ((qs.take i).flatMap moreW).length ≤ (qs.take i).length * 250 := hpre
        omega
      refine g_unl2 ((e1.trans (e2.trans e3)) _ _ k3) ?_
      have hsep : (if decide ((qs[i]'hi).1 < 0) = true then V.str " - " else V.str " + ") = V.str (S ([32] ++ sgnW (qs[i]'hi).1 ++ [32])) := by
        unfold sgnW
        by_cases hneg : (qs[i]'hi).1 < 0
        · rw [if_pos hneg, if_pos (decide_eq_true hneg)]; rfl
        · rw [if_neg hneg, if_neg (by rw [decide_eq_false hneg]; exact Bool.false_ne_true)]; rfl
      have hs1 : (sgnW (qs[i]'hi).1).length = 1 := by unfold sgnW; split <;> rfl
      refine s_asg (v := .str (S ((if q0.1 < 0 then [45] else []) ++ txtT q0.2 ++ (qs.take (i + 1)).flatMap moreW))) (ev_is (ev_addS (ev_addS (ev_var rfl) (ev_is (ev_pick (b := decide ((qs[i]'hi).1 < 0)) (et_test (ev_op (ev_var rfl) ev_c rv_I0)) ev_c ev_c) hsep) ?_) (ev_var rfl) ?_) ?_) fun H5 e5 => ⟨e3.trans e5, _, _, rfl⟩
      · simp only [List.length_append, List.length_singleton]; omega
      · simp only [List.length_append, List.length_singleton]; omega
      · rw [List.take_add_one, List.getElem?_eq_getElem hi, List.flatMap_append]
        congr 2
        simp [moreW]
    · obtain ⟨e3, a, b, rfl⟩ := p
      rw [List.take_length]
      exact s_ret (ev_var rfl) fun H5 e5 => q H5 (e1.trans (e2.trans (e3.trans e5)))
abbrev s_lnumber : Stmt := topS 62
def sp_lnumber (CT : Addr) : Sp := fun vs H Q _ => ∃ (a t : Addr) (l r : Nat) (wt g : Nat → Nat → Int), vs = [.ref a, .ref t] ∧ Gr H a l r wt ∧ Tb CT H t l r g ∧ Good l r ∧ (∀ i j, i < l → j < r → 0 ≤ g i j ∧ g i j ≤ 100) ∧ ∀ H2, Ex H H2 → Q (.int (dot l r wt g)) H2
abbrev N_lnumber : List Str := ["_law_weights", "_law_table", "_law_row"]
theorem sc_lnumber : FnScope N_lnumber ["_law_weights", "_law_table"] (defScope s_lnumber) := ⟨rfl, rfl, rfl, by decide +kernel, rfl, by decide +kernel, by decide +kernel⟩
/-- each, as a caller needs it -/
structure GeC (P : Program) (w : World) (K : PySem.W.Frag) (mg : Str → Option Value) (base : Heap) (k : Nat) (C : Addr) (m : Str) (sp : SpG) : Prop where
  ex : ∃ g fd ps, Meth K C m g ∧ GFn P w K mg base k g fd ps sp ∧ Binds K fd ps []
theorem ok_lnumber (F : Dm K "_law_number" s_lnumber f fd) (T : Tx K mg) (TC : TabC K CT) (ce : GeC P w K mg base 1 CT "each" (sp_teach CT)) : FnOk P w K mg base CX0 5 f fd ["_law_weights", "_law_table"] (sp_lnumber CT) := by
  refine F.ok sc_lnumber (fun vs H Q E h => ?_) (fun cdv A outer s H vs Q E hr h => ?_)
  · obtain ⟨a, t, l, r, wt, g, rfl, _⟩ := h
    rfl
  · obtain ⟨a, t, l, r, wt, g, rfl, ha, ht, hg, hb, q⟩ := h
    have nd := sc_lnumber.nd
    obtain ⟨ge, fde, pse, M, GF, B⟩ := ce.ex
    refine ⟨_, PSs.nox (pss_one (ps_ret (p_sum K rfl T.sum (pe_lc (own := [("_law_row", 2)]) (g := gName 2) (tt := tYes) rfl nd (pi_listQ K (pe_listG (pgen_methS (E := E0) (pv 1) TC.sc M GF (hr.mono (by decide)) B .nil) passG noStop0 hr (by rfl) T.list bt_list)) (blkOk_by (N := N_lnumber) (sc := defScope s_lnumber) (by decide +kernel))
              (fun _ _ _ _ _ => pg_name (i := 2) nd rfl (Or.inl rfl)) (fun _ _ _ _ _ => pts_nil) (fun _ _ _ _ _ => p_ixT K (p_ixT K (pv 0) (p_ixT K (pv 2) pe_int)) (p_ixT K (pv 2) pe_int)))))), ?_⟩
    obtain ⟨dx, b, hs, hgb⟩ := id ht
    obtain ⟨xs, hxs, hxl, hxr⟩ := id ha
    have hgl := hg.1
    have hgr := hg.2
    have hpl := pairs_len (f := g) (r := r) l fun i j hi hj => (hb i j hi hj).2
    have hpl2 : (pairs g l r).length ≤ 6400 := by
      have : l * (r * 100) ≤ 8 * (8 * 100) := Nat.mul_le_mul (by omega) (Nat.mul_le_mul (by omega) (Nat.le_refl _))
      omega
    have wi : EvI Ex (iList K (tListG (tMethGS CT (sp_teach CT) [] E0 (tVar 1) tNil))) (start N_lnumber [.ref a, .ref t]) H (pairs g l r).length (fun i H x H' => H' = H ∧ ∃ q u, (pairs g l r)[i]? = some q ∧ x = .ref u ∧ H u = some (.tup [.int (q.1 : Nat), .int (q.2 : Nat)])) := by
      intro H1 e1 k hk
      refine ⟨_, rfl, t, dx, _, rfl, slt_im hs (im_ex e1), t, l, r, g, rfl, ht.ex e1, hg, hb, fun ys H2 e2 hy p hp => ⟨p, rfl, ⟨ys, sq_of upd_same⟩, ?_⟩⟩
      have e3 := Ex.new (o := HO.lst ys) hp
      refine hk _ _ (fun H3 => SqL K H3 p ys ∧ PairsAt H3 ys (pairs g l r)) (e2.trans e3) ?_ fun H4 e4 => ⟨sq_of (e4 _ _ upd_same), hy.ex (e3.trans e4)⟩
      have w : Walk (Itl K p) ys.length (fun H => SqL K H p ys) (YAt ys) := walk_list
      rw [hy.1] at w
      refine w.mono (fun H g => g.1) fun i H x H' hi g y => ?_
      obtain ⟨rfl, hx⟩ := y
      have hq : (pairs _ l r)[i]? = some ((pairs _ l r)[i]'hi) := List.getElem?_eq_getElem hi
      obtain ⟨u, k1, k2⟩ := g.2.2 i _ hq
      rw [k1] at hx
      cases hx
      exact ⟨rfl, _, u, hq, rfl, k2⟩
    have kk := ev_sum (K := K) (evr_lc (te := tOp (rIxT K) (tOp (rIxT K) (tVar 0) (tOp (rIxT K) (tVar 2) (tC (.int 0)))) (tOp (rIxT K) (tVar 2) (tC (.int 1)))) (g := gName 2) (vs := [2]) exOk (fun j v _ => v = V.int (wt ((pairs g l r).getD j (0, 0)).1 ((pairs g l r).getD j (0, 0)).2)) (fun _ _ _ _ _ h => h) trivial wi (by omega) (fun i H x H' _ y => by rw [y.1]; exact Ex.refl _) (fun j x H5 H6 hj e5 y e6 => ?_))
    · have hsum : ((List.range (pairs g l r).length).map fun j => wt ((pairs g l r).getD j (0, 0)).1 ((pairs g l r).getD j (0, 0)).2) = (pairs g l r).map fun q => wt q.1 q.2 := by
        apply List.ext_getElem
        · simp
        · intro i h1 h2
          have hi : i < (pairs g l r).length := by simpa using h2
          simp only [List.getElem_map, List.getElem_range]
          rw [List.getD_eq_getElem?_getD, List.getElem?_eq_getElem hi]; rfl
      rw [hsum, pairs_sum wt g r l fun i j hi hj => (hb i j hi hj).1] at kk
      exact s_ret kk q
    · obtain ⟨rfl, p, u, hp, rfl, hu⟩ := y
      obtain ⟨h1, h2⟩ := pairs_mem (List.mem_of_getElem? hp)
      have hgd : (pairs g l r).getD j (0, 0) = p := by rw [List.getD_eq_getElem?_getD, hp]; rfl
      have hx1 : xs[p.1]? = some (xs[p.1]'(by omega)) := List.getElem?_eq_getElem (by omega)
      obtain ⟨rp, hrp, hrow⟩ := hxr _ _ hx1
      refine ⟨_, fun _ k => k, rfl, r_ev ?_⟩
      rw [hgd]
      exact ev_ixTn (i := p.2) (ev_ixTn (i := p.1) (ev_var rfl) (ev_ixTn (i := 0) (ev_var rfl) ev_c hu rfl) (e6 _ _ hxs) (by rw [hx1, hrp])) (ev_ixTn (i := 1) (ev_var rfl) ev_c hu rfl) (e6 _ _ hrow) (row_at h2)
end
end Q
set_option Elab.async false
set_option linter.all false
set_option maxRecDepth 100000
set_option maxHeartbeats 4000000
namespace Q
open PySem PySem.Spec PyProof.Rows L2
open Evl SX TL
/-- an instance called -/
structure CoC (P : Program) (w : World) (K : PySem.W.Frag) (mg : Str → Option Value) (base : Heap) (k : Nat) (C : Addr) (sp : Sp) : Prop where
  ex : ∃ g, StX.CallO K C g ∧ FnR P w K mg base CX0 k g sp
def InsQ (H : Hp) (a C : Addr) : Prop := (∃ dx vs, SlX.Slt H a C dx vs) ∨ ∃ dx fs, H a = some (.ins C dx fs)
def tCO (C : Addr) (sp : Sp) (tf : TE) (t : TA) : TE := fun σ H Q => tf σ H fun y H1 => ∃ a, y = V.ref a ∧ t σ H1 fun vs H2 => InsQ H2 a C ∧ sp (V.ref a :: vs) H2 Q E0
def rBI (C : Addr) (sp : Sp) : R2 := fun x y H Q => ∃ a n, x = .ref a ∧ y = .int n ∧ InsQ H a C ∧ sp [x, y] H Q E0
section
variable {X : Cx} {k j : Nat} {C : Addr} {sp : Sp} {pos : Pos} {fe e o a b : Expr} {es : List Expr} {t : TA} {tf ta tb : TE}
theorem pco (c : CoC X.prog X.w X.K X.mg X.base k C sp) (hr : Room j X.A) (hf : PE X fe tf) (ha : PA X (e :: es) t) (hk : k ≤ j := by decide)
    (ht : eval (.Call fe (e :: es) [] pos) X.env = (do callWith pos (← eval fe X.env) [] (backTo pos (starEach (e :: es) X.env)) (backToKw pos (keywordEach [] X.env))) := by rfl)
    (he : starEach (e :: es) X.env = (false, eval e X.env) :: starEach es X.env := by rfl) (hpl : (backTo pos (starEach es X.env)).any (·.1) = false := by rfl) : PE X (.Call fe (e :: es) [] pos) (tCO C sp tf t) := by
  obtain ⟨g, c1, F⟩ := c.ex
  exact StX.pe_callO hf c1 F (hr.mono hk) pass0 ha ht he hpl
theorem pmuB (c : MuI X.prog X.w X.K X.mg X.base k C sp) (sf : PySem.W.selfFirst X.K C = true) (hr : Room j X.A) (ha : PE X a ta) (hb : PE X b tb) (hk : k ≤ j := by decide) : PE X (.BinOp a .Mult b pos) (tOp (rBI C sp) ta tb) := pmuI c sf hr ha hb hk
theorem pneg (c : OwC X.prog X.w X.K X.mg X.base k C "__neg__" sp) (hr : Room j X.A) (ha : PE X a ta) (hk : k ≤ j := by decide) : PE X (.UnaryOp .USub a pos) (tUn (rNeg X C sp) ta) := by
  obtain ⟨g, h1, h2, F⟩ := c.ex
  exact pe_un (un_negO h1 h2 F (hr.mono hk)) ha
end
section
variable {X : Cx} {K : PySem.W.Frag} {σ : L2.St} {H H' : Hp} {ta tb te : TE} {CQ CT : Addr} {l r : Nat} {f g : Nat → Nat → Int}
abbrev IsQ (C : Addr) (l r : Nat) (f : Nat → Nat → Int) : Hp → V → Hp → Prop := fun _ v H' => ∃ q, v = .ref q ∧ Qn C H' q l r f
abbrev IsT (C : Addr) (l r : Nat) (f : Nat → Nat → Int) : Hp → V → Hp → Prop := fun _ v H' => ∃ t, v = .ref t ∧ Tb C H' t l r f
theorem r_t {t : Addr} (h : Ev te σ H (.ref t)) (hq : Tb CT H t l r f) : EvR Ex te σ H (IsT CT l r f) := fun H1 e Q k => h H1 e _ fun H2 e2 => k _ _ e2 ⟨t, rfl, hq.ex (e.trans e2)⟩
theorem insQ {q : Addr} (h : Qn CQ H q l r f) : InsQ H q CQ := let ⟨dx, a, h1, _⟩ := h; .inr ⟨dx, _, h1⟩
theorem insT {q : Addr} (h : Tb CT H q l r f) : InsQ H q CT := let ⟨dx, a, h1, _⟩ := h; .inl ⟨dx, _, h1⟩
theorem ev_qcall (ha : EvR Ex ta σ H (IsQ CQ l r f)) (hb : EvR Ex tb σ H (IsT CT l r g)) (hg : Good l r) (bd : ∀ i j, i < l → j < r → -(2 ^ 64) < g i j ∧ g i j < 2 ^ 64) : Ev (tCO CQ (sp_qcall CQ CT) ta (tCons tb tNil)) σ H (.int (dot l r f g)) := fun H1 e Q k =>
  ha H1 e _ fun v H2 e2 ⟨q, hv, hq⟩ => by
    subst hv
    exact ⟨q, rfl, hb H2 (e.trans e2) _ fun u H3 e3 ⟨t, hu, ht⟩ => by
      subst hu
      exact ⟨insQ (hq.ex e3), q, t, l, r, f, g, rfl, hq.ex e3, ht, hg, bd, fun H4 e4 => k H4 (e2.trans (e3.trans e4))⟩⟩
theorem er_mulB {n : Int} (ha : EvR Ex ta σ H (IsQ CQ l r f)) (hb : ∀ H1, Ex H H1 → Ev tb σ H1 (.int n)) (hg : Good l r) (hn : -(2 ^ 64) < n ∧ n < 2 ^ 64) :
    EvR Ex (tOp (rBI CQ (sp_qmul CQ)) ta tb) σ H (IsQ CQ l r (fun i j => f i j * n)) := fun H1 e Q k =>
  ha H1 e _ fun v H2 e2 ⟨q, hv, hq⟩ => hb H2 (e.trans e2) H2 (Ex.refl _) _ fun H3 e3 => by
    subst hv
    have hq3 := hq.ex e3
    exact ⟨q, n, rfl, rfl, insQ hq3, q, l, r, f, n, rfl, hq3, hg, hn, fun t H4 e4 ht => k _ _ (e2.trans (e3.trans e4)) ⟨t, rfl, ht⟩⟩
theorem er_neg (ha : EvR Ex ta σ H (IsQ CQ l r f)) (hg : Good l r) : EvR Ex (tUn (rNeg X CQ (sp_qneg CQ)) ta) σ H (IsQ CQ l r (fun i j => -f i j)) := fun H1 e Q k =>
  ha H1 e _ fun v H2 e2 ⟨q, hv, hq⟩ => by
    subst hv
    exact ⟨q, rfl, insQ hq, q, l, r, f, rfl, hq, hg, fun t H4 e4 ht => k _ _ (e2.trans e4) ⟨t, rfl, ht⟩⟩
theorem er_qturned (ha : EvR Ex ta σ H (IsQ CQ l r f)) (hg : Good l r) : EvR Ex (tMeth CQ "turned" (sp_qturned CQ) [] E0 ta tNil) σ H (IsQ CQ r l (fun i j => f j i)) := fun H1 e Q k =>
  ha H1 e _ fun v H2 e2 ⟨q, hv, hq⟩ => by
    subst hv
    obtain ⟨dx, a, h1, _⟩ := id hq
    exact ⟨q, dx, _, rfl, h1, rfl, q, l, r, f, rfl, hq, hg, fun t H4 e4 ht => k _ _ (e2.trans e4) ⟨t, rfl, ht⟩⟩
theorem er_tturned (ha : EvR Ex ta σ H (IsT CT l r f)) (hg : Good l r) (nn : ∀ i j, i < l → j < r → 0 ≤ f i j) : EvR Ex (SlX.tMethSl CT (sp_tturned CT) E0 ta tNil) σ H (IsT CT r l (fun i j => f j i)) := fun H1 e Q k =>
  ha H1 e _ fun v H2 e2 ⟨q, hv, hq⟩ => by
    subst hv
    obtain ⟨dx, a, h1, _⟩ := id hq
    exact ⟨q, dx, _, rfl, h1, q, l, r, f, rfl, hq, hg, nn, fun t H4 e4 ht => k _ _ (e2.trans e4) ⟨t, rfl, ht⟩⟩
theorem er_tadd (ha : EvR Ex ta σ H (IsT CT l r f)) (hb : EvR Ex tb σ H (IsT CT l r g)) (hg : Good l r) (nn : ∀ i j, i < l → j < r → 0 ≤ f i j + g i j) : EvR Ex (tOp (rBin2 X CT (sp_tadd CT)) ta tb) σ H (IsT CT l r (fun i j => f i j + g i j)) := fun H1 e Q k =>
  ha H1 e _ fun v H2 e2 ⟨q, hv, hq⟩ => hb H2 (e.trans e2) _ fun u H3 e3 ⟨q', hu, hq'⟩ => by
    subst hv hu
    exact ⟨q, q', rfl, rfl, insT (hq.ex e3), insT hq', q, q', l, r, f, g, rfl, hq.ex e3, hq', hg, nn, fun t H4 e4 ht => k _ _ (e2.trans (e3.trans e4)) ⟨t, rfl, ht⟩⟩
end
section
variable {P : Program} {w : World} {K : PySem.W.Frag} {mg : Str → Option Value} {base : Heap} {f : Addr} {fd : FuncData} {CT CQ : Addr}
abbrev s_lright : Stmt := topS 63
def sp_lright (CQ CT : Addr) : Sp := fun vs H Q _ => ∃ (q a t : Addr) (l r : Nat) (f g : Nat → Nat → Int), vs = [.ref q, .ref a, .ref t] ∧ Qn CQ H q l r f ∧ Gr H a l r f ∧ Tb CT H t l r g ∧ Good l r ∧ (∀ i j, i < l → j < r → 0 ≤ g i j ∧ g i j ≤ 100) ∧ ∀ H2, Ex H H2 → Q (.bl true) H2
abbrev N_lright : List Str := ["_law_question", "_law_weights", "_law_table", "_law_due"]
theorem sc_lright : FnScope N_lright ["_law_question", "_law_weights", "_law_table"] (defScope s_lright) := ⟨rfl, rfl, rfl, by decide +kernel, rfl, by decide +kernel, by decide +kernel⟩
/-- what _law_right needs of the classes -/
structure LrC (P : Program) (w : World) (K : PySem.W.Frag) (mg : Str → Option Value) (base : Heap) (CQ CT : Addr) : Prop where
  call : CoC P w K mg base 3 CQ (sp_qcall CQ CT)
  add : OwC P w K mg base 5 CQ (PySem.dunder Operator.Add.info.2) (sp_qop CQ (· + ·))
  sub : OwC P w K mg base 5 CQ (PySem.dunder Operator.Sub.info.2) (sp_qop CQ (· - ·))
  neg : OwC P w K mg base 5 CQ "__neg__" (sp_qneg CQ)
  mul : MuI P w K mg base 5 CQ (sp_qmul CQ)
  turn : ∃ g fd ps, Meth K CQ "turned" g ∧ FnOk P w K mg base CX0 5 g fd ps (sp_qturned CQ) ∧ Binds K fd ps []
  tturn : MtC P w K mg base 6 CT "turned" (sp_tturned CT)
  tadd : OwC P w K mg base 6 CT (PySem.dunder Operator.Add.info.2) (sp_tadd CT)
theorem ok_lright (F : Dm K "_law_right" s_lright f fd) (T : Tx K mg) (TC : TabC K CT) (QC : QueC K CQ) (c : LrC P w K mg base CQ CT) (cn : Cl P w K mg base 5 "_law_number" (sp_lnumber CT)) : FnOk P w K mg base CX0 7 f fd ["_law_question", "_law_weights", "_law_table"] (sp_lright CQ CT) := by
  refine F.ok sc_lright (fun vs H Q E h => ?_) (fun cdv A outer s H vs Q E hr h => ?_)
  · obtain ⟨q, a, t, l, r, f, g, rfl, _⟩ := h
    rfl
  · obtain ⟨q, a, t, l, r, wt, g, rfl, hq, ha, ht, hg, hb, k⟩ := h
    have nd := sc_lright.nd
    refine ⟨_, PSs.nox (pss_cons (ps_set (i := 3) nd rfl (.inl rfl) (pc cn hr (pa_cons (pv 1) (pa_cons (pv 2) pa_nil))))
      (pss_cons (ps_if (PW.pt (pw_or (pt_cmpR op_ne (pco c.call hr (pv 0) (pa_cons (pv 2) pa_nil)) (pv 3) (nomark _))
          (pw_or (pt_cmpR op_ne (pco c.call hr (pop2 c.add QC.sf hr (pv 0) (pv 0)) (pa_cons (pv 2) pa_nil)) (pe_op op_mul pe_int (pv 3)) (nomark _))
          (pw_or1 (pt_cmpR op_ne (pco c.call hr (pneg c.neg hr (pv 0)) (pa_cons (pv 2) pa_nil)) (pe_un un_neg (pv 3)) (nomark _)))))) (pss_one (ps_ret pe_bl)) pss_nil)
      (pss_cons (ps_if (PW.pt (pw_or (pt_cmpR op_ne (pco c.call hr (pop2 c.sub QC.sf hr (pmuB c.mul QC.sf hr (pv 0) pe_int) (pv 0)) (pa_cons (pv 2) pa_nil)) (pe_op op_mul pe_int (pv 3)) (nomark _))
          (pw_or1 (pt_cmpR op_ne (pco c.call hr (pmt0 c.turn QC.cl hr (pv 0)) (pa_cons (pmtS0 c.tturn TC.sc hr (pv 2)) pa_nil)) (pv 3) (nomark _))))) (pss_one (ps_ret pe_bl)) pss_nil)
      (pss_one (ps_ret (pe_and (pe_cmpR op_eq (pco c.call hr (pv 0) (pa_cons (pop2 c.tadd TC.sf hr (pv 2) (pv 2)) pa_nil)) (pe_op op_mul pe_int (pv 3)) (nomark _))
          (pe_one (pe_cmpR op_eq (pco c.call hr (pop2 c.sub QC.sf hr (pv 0) (pv 0)) (pa_cons (pv 2) pa_nil)) pe_int (nomark _))))))))), ?_⟩
    have b1 : ∀ i j, i < l → j < r → -(2 ^ 64) < g i j ∧ g i j < 2 ^ 64 := fun i j hi hj => by have := hb i j hi hj; omega
    have b2 : ∀ i j, i < l → j < r → -(2 ^ 64) < g i j + g i j ∧ g i j + g i j < 2 ^ 64 := fun i j hi hj => by have := hb i j hi hj; omega
    have b0 : ∀ i j, i < l → j < r → 0 ≤ g i j := fun i j hi hj => (hb i j hi hj).1
    have hgr : Good r l := ⟨hg.2, hg.1⟩
    have dd : dot l r wt (fun i j => g i j + g i j) = 2 * dot l r wt g := dot_scale fun i j _ _ => by rw [Int.mul_add]; omega
    have d2 : dot l r (fun i j => wt i j + wt i j) g = 2 * dot l r wt g := dot_scale fun i j _ _ => by rw [Int.add_mul]; omega
    have dn : dot l r (fun i j => -wt i j) g = -dot l r wt g := by rw [dot_scale (c := -1) (f := wt) (g := g) fun i j _ _ => by rw [Int.neg_mul, Int.neg_mul, Int.one_mul]]; omega
    have d6 : dot l r (fun i j => wt i j * 7 - wt i j) g = 6 * dot l r wt g := dot_scale fun i j _ _ => by rw [Int.sub_mul, Int.mul_comm (wt i j) 7, Int.mul_assoc]; omega
    have d0 : dot l r (fun i j => wt i j - wt i j) g = 0 := by rw [dot_scale (c := 0) (f := wt) (g := g) fun i j _ _ => by rw [Int.sub_self, Int.zero_mul, Int.zero_mul]]; omega
    have dt : dot r l (fun i j => wt j i) (fun i j => g j i) = dot l r wt g := dot_turn
    refine q_asg (ev_call (z := .int (dot l r wt g)) (ea_cons (ev_var rfl) (ea_cons (ev_var rfl) ea_nil)) fun H1 e1 Q k E => ⟨a, t, l, r, wt, g, rfl, ha.ex e1, ht.ex e1, hg, hb, k⟩) fun H1 e1 => ?_
    have hq1 := hq.ex e1
    have ht1 := ht.ex e1
    refine q_no (et_orF (et_test (ev_is (ev_neI (ev_qcall (r_q (ev_var rfl) hq1) (r_t (ev_var rfl) ht1) hg b1) (ev_var rfl)) (by simp)))
      (et_orF (et_test (ev_is (ev_neI (ev_qcall (er_qop (op := (· + ·)) (r_q (ev_var rfl) hq1) (r_q (ev_var rfl) hq1) hg) (r_t (ev_var rfl) ht1) hg b1) (ev_mul ev_c (ev_var rfl) (.inl (by decide)))) (by rw [d2]; simp)))
      (et_test (ev_is (ev_neI (ev_qcall (er_neg (r_q (ev_var rfl) hq1) hg) (r_t (ev_var rfl) ht1) hg b1) (ev_un (ev_var rfl) ru_neg)) (by rw [dn]; simp))))) fun H2 e2 => ?_
    have hq2 := hq1.ex e2
    have ht2 := ht1.ex e2
    refine q_no (et_orF (et_test (ev_is (ev_neI (ev_qcall (er_qop (op := (· - ·)) (er_mulB (r_q (ev_var rfl) hq2) (fun _ _ => ev_c) hg (by decide)) (r_q (ev_var rfl) hq2) hg) (r_t (ev_var rfl) ht2) hg b1) (ev_mul ev_c (ev_var rfl) (.inl (by decide)))) (by rw [d6]; simp)))
      (et_test (ev_is (ev_neI (ev_qcall (er_qturned (r_q (ev_var rfl) hq2) hg) (er_tturned (r_t (ev_var rfl) ht2) hg b0) hgr (fun i j hi hj => b1 j i hj hi)) (ev_var rfl)) (by rw [dt]; simp)))) fun H3 e3 => ?_
    have hq3 := hq2.ex e3
    have ht3 := ht2.ex e3
    refine s_ret (ev_is (ev_andV (ev_eqI (ev_qcall (r_q (ev_var rfl) hq3) (er_tadd (r_t (ev_var rfl) ht3) (r_t (ev_var rfl) ht3) hg fun i j hi hj => by have := b0 i j hi hj; omega) hg b2) (ev_mul ev_c (ev_var rfl) (.inl (by decide))))
      fun _ => ev_eqI (ev_qcall (er_qop (op := (· - ·)) (r_q (ev_var rfl) hq3) (r_q (ev_var rfl) hq3) hg) (r_t (ev_var rfl) ht3) hg b1) ev_c) ?_) fun H4 e4 => k H4 (e1.trans (e2.trans (e3.trans e4)))
    rw [dd, d0]
    simp
end
end Q
set_option Elab.async false
set_option linter.all false
set_option maxRecDepth 100000
set_option maxHeartbeats 4000000
namespace Q
open PySem PySem.Spec PyProof.Rows L2
open Evl SX TL
section
variable {X : Cx} {K : PySem.W.Frag} {σ : L2.St} {H H' : Hp} {ta tb tc te : TE} {CQ CT : Addr} {l r : Nat} {f g : Nat → Nat → Int} {nl st : Addr} {ns : List Int} {xs ys : List V}
theorem qL_asg {D : Ends} {tz : TS} {i : Nat} (h : EvL te σ H xs) (k : ∀ p H1, Ex H H1 → H1 p = some (.lst xs) → tz D (σ.set i (some (.ref p))) H1) : tSeq (tAsg te (gName i)) tz D σ H := h H (Ex.refl _) _ fun p H1 _ e h1 => k p H1 e h1
/-- what stays from a base where st was not yet -/
theorem dr_ex {H0 : Hp} (hs : H0 st = none) (e0 : Ex H0 H) (e : Dr nl ns st H H') : Ex H0 H' := fun a o h => e.fr a o (fun z => by rw [z, hs] at h; cases h) (e0 a o h)
theorem er_draw1 {i : Nat} {m : Int} (hs : Stt nl ns st H) (ha : σ[i]? = some (some (.ref st))) (hm : 0 < m) : EvR (Dr nl ns st) (tOp (rI0 fun i j => .int (i + j)) (tC (.int 1)) (tCall sp_draw [] E0 (tCons (tVar i) (tCons (tC (.int m)) tNil)))) σ H (fun _ v _ => ∃ n : Nat, v = .int n ∧ 1 ≤ n ∧ (n : Int) ≤ m) := fun H1 e Q q =>
  ⟨_, ha, nl, st, ns, m, rfl, hm, drOk.good hs e, fun x h0 h1 H2 e2 => ⟨1, x, rfl, rfl, q _ H2 e2 ⟨(1 + x).toNat, by rw [Int.toNat_of_nonneg (by omega)], by omega, by omega⟩⟩⟩
theorem er_lterms {i j m : Nat} {td : TE} (hs : Stt nl ns st H) (h1 : σ[i]? = some (some (.ref st))) (h2 : σ[j]? = some (some (.int (l : Nat)))) (h3 : σ[m]? = some (some (.int (r : Nat)))) (hd : EvR (Dr nl ns st) td σ H (fun _ v _ => ∃ n : Nat, v = .int n ∧ 1 ≤ n ∧ (n : Int) ≤ 4)) (hg : Good l r) :
    EvR (Dr nl ns st) (tCall sp_lterms [] E0 (tCons (tVar i) (tCons (tVar j) (tCons (tVar m) (tCons td tNil))))) σ H (fun _ v H2 => ∃ p pr pt ts, v = .ref p ∧ H2 p = some (.lst [.ref pr, .ref pt]) ∧ RowsAt st H2 pr ts ∧ Gr H2 pt l r (sumG ts) ∧ TsOk l r ts ∧ 1 ≤ ts.length ∧ ts.length ≤ 4 ∧ Bd l r (sumG ts)) := fun H1 e Q q =>
  ⟨_, h1, _, h2, _, h3, hd H1 e _ fun v H2 e2 ⟨n, hv, n1, n4⟩ => by
    subst hv
    exact ⟨nl, st, ns, l, r, n, rfl, hg, n1, by omega, drOk.good hs (drOk.tr e e2), fun p H3 pr pt ts e3 a1 a2 a3 a4 a5 a6 => q _ _ (drOk.tr e2 e3) ⟨p, pr, pt, ts, rfl, a1, a2, a3, a4, by omega, by omega, a6⟩⟩⟩
theorem er_lgrid {i j m : Nat} (hs : Stt nl ns st H) (h1 : σ[i]? = some (some (.ref st))) (h2 : σ[j]? = some (some (.int (l : Nat)))) (h3 : σ[m]? = some (some (.int (r : Nat)))) (hg : Good l r) :
    EvR (Dr nl ns st) (tCall sp_lgrid [] E0 (tCons (tVar i) (tCons (tVar j) (tCons (tVar m) (tCons (tC (.int 4)) tNil))))) σ H (fun _ v H' => ∃ a f, v = .ref a ∧ Gr H' a l r f ∧ ∀ i j, i < l → j < r → 0 ≤ f i j ∧ f i j < 4) := fun H1 e Q q =>
  ⟨_, h1, _, h2, _, h3, nl, st, ns, l, r, 4, rfl, by decide, hg.1.2, hg.2.2, drOk.good hs e, fun p H2 f e2 hp hb => q _ _ e2 ⟨p, f, rfl, hp, hb⟩⟩
theorem er_mkTD {C : Addr} (ha : EvR (Dr nl ns st) te σ H (fun _ v H' => ∃ a f, v = .ref a ∧ Gr H' a l r f ∧ ∀ i j, i < l → j < r → 0 ≤ f i j ∧ f i j < 4)) (gd : Good l r) :
    EvR (Dr nl ns st) (StX.tMakeR C (sp_tinit C) E0 (tCons te tNil)) σ H (fun _ v H' => ∃ t f, v = .ref t ∧ Tb C H' t l r f ∧ ∀ i j, i < l → j < r → 0 ≤ f i j ∧ f i j < 4) := fun H1 e Q q =>
  ha H1 e _ fun v H2 e2 ⟨a, f, hv, hg, hb⟩ x dx hx hdx hne => by
    subst hv
    have e3 : Ex H2 (upd (upd H2 dx (.own x)) x (.ins C dx [])) := (Ex.new hdx).trans (Ex.new (by rw [upd_ne (Ne.symm hne)]; exact hx))
    refine ⟨x, dx, a, l, r, f, rfl, upd_same, by rw [upd_ne hne, upd_same], hne, hg.ex e3, gd, fun i j hi hj => (hb i j hi hj).1, fun H3 k t => ⟨rfl, ?_⟩⟩
    exact q _ H3 (drOk.tr e2 (drOk.ex (ex_made hx hdx k))) ⟨x, f, rfl, t, hb⟩
theorem er_read {ws : List W} {ts : List ST} (ha : Ev ta σ H (.int (l : Nat))) (hb : Ev tb σ H (.int (r : Nat))) (h : Ev te σ H (.str (S (joinL [32] ws)))) (hg : Good l r) (hx : TxtOk ws (mp ts)) (ht : TsOk l r ts) :
    EvR Ex (tCall (sp_read CQ) [] E0 (tCons ta (tCons tb (tCons te tNil)))) σ H (IsQ CQ l r (sumG ts)) :=
  er_call (ea_cons ha (ea_cons hb (ea_cons h ea_nil))) (fun H1 e1 Q q => ⟨l, r, ws, ts, rfl, hg, hx, ht, fun t H2 e2 ht => q _ _ e2 ⟨t, rfl, ht⟩⟩) (fun _ _ _ _ _ _ h => h)
theorem ev_neQ {q q' : Addr} (ha : Ev ta σ H (.ref q)) (hb : Ev tb σ H (.ref q')) (hq : Qn CQ H q l r f) (hq' : Qn CQ H q' l r g) (h : ∀ i j, i < l → j < r → f i j = g i j) : Ev (tOp (rNeO X CQ (sp_qeq CQ)) ta tb) σ H (.bl false) := fun H1 e Q k =>
  ha H1 e _ fun H2 e2 => hb H2 (e.trans e2) _ fun H3 e3 => by
    have a := hq.ex (e.trans (e2.trans e3))
    have b := hq'.ex (e.trans (e2.trans e3))
    exact ⟨q, q', rfl, rfl, insQ a, insQ b, q, q', l, r, f, g, rfl, a, b, h, fun H4 e4 => ⟨true, rfl, k H4 (e2.trans (e3.trans e4))⟩⟩
theorem el_cat (ha : EvL ta σ H xs) (hb : EvL tb σ H ys) (hl : xs.length + ys.length ≤ 100000) : EvL (tOp rCat ta tb) σ H (xs ++ ys) := fun H1 e Q q =>
  ha H1 e _ fun p H2 _ e2 hp => hb H2 (e.trans e2) _ fun p' H3 _ e3 hp' => ⟨p, p', xs, ys, rfl, rfl, e3 _ _ hp, hp', by unfold sizeLine; omega, fun t ht => q t _ (fresh_back (e2.trans e3) ht) (e2.trans (e3.trans (Ex.new ht))) upd_same⟩
theorem evi_enumN (h : EvL te σ H xs) : EvI Ex (iEnum K (tCons te tNil)) σ H xs.length (YPair (fun i => some (.int (i : Nat))) (fun i => xs[i]?)) := fun H1 e1 q hq =>
  h H1 e1 _ fun p H2 _ e2 hp => ⟨p, xs, rfl, sq_of hp, hq _ _ _ e2 walk_enum fun H3 e3 => sq_of (e3 _ _ hp)⟩
/-- the script's cells -/
theorem el_cells {a : Addr} {ms : List Int} (hS : SqL K H a (ms.map V.int)) (hl : ms.length ≤ 63) (h0 : σ[0]? = some (some (.ref a))) : ∃ us : List Int, us.length ≤ 64 ∧
    EvL (tOp rCat (tSl (rSlL K) (tVar 0) tNoPart (tPart (tC (.int 4)))) (tOp rRep (tLst (tCons (tC (.int 7)) tNil)) (tCB (fun xs H Q => (∃ i, xs = [V.int i] ∧ Q (.int i) H) ∨ ∃ k, xs = [.bl k] ∧ Q (.int (if k then 1 else 0)) H) (tCons (tOp (rEqD K) (tVar 0) (tLst tNil)) tNil)))) σ H (us.map V.int) := by
  have hd : ∀ H1, Ex H H1 → Dd K H1 (.ref a) (.list (ms.map PyData.int)) := fun H1 e => ⟨.lst (ex_l e hS) (dp_ints ms), by simp [SeqAt.shaped, PyData.canLay0, can_ints, PyData.depth, depth_ints]⟩
  have k1 := el_sl (K := K) (te := tVar 0) (tl := tNoPart) (th := tPart (tC (.int 4))) (ev_var h0) eo_none (eo_some ev_c) hS
  have k2 : EvL (tOp rRep (tLst (tCons (tC (.int 7)) tNil)) (tCB (fun xs H Q => (∃ i, xs = [V.int i] ∧ Q (.int i) H) ∨ ∃ k, xs = [.bl k] ∧ Q (.int (if k then 1 else 0)) H) (tCons (tOp (rEqD K) (tVar 0) (tLst tNil)) tNil))) σ H (List.replicate (if PyData.eqv (.list (ms.map PyData.int)) (.list []) then 1 else 0) (V.int 7)) := by
    refine el_rep (el_lst (vs := [.int 7]) (ea_cons ev_c ea_nil) (show 1 ≤ 100000 by decide)) (fun H1 e1 => ?_) (by split <;> omega)
    refine ev_cb (ea_cons (ev_opL (x := .ref a) (z := .bl (PyData.eqv (.list (ms.map PyData.int)) (.list []))) (ev_var h0) (el_lst (vs := []) ea_nil (by decide)) fun p H2 hp e2 => rv_eqD (fun H3 e3 => hd H3 (e1.trans (e2.trans e3))) (fun H3 e3 => dd_lstI (ns := []) (e3 _ _ hp))) ea_nil) fun H2 e2 Q q => .inr ⟨_, rfl, ?_⟩
    have := q H2 (Ex.refl _)
    cases hb : PyData.eqv (.list (ms.map PyData.int)) (.list []) <;> rw [hb] at this <;> exact this
  refine ⟨((ms.drop (HT.sIx (ms.map V.int).length 0 none)).take (HT.sIx (ms.map V.int).length (ms.map V.int).length (some 4) - HT.sIx (ms.map V.int).length 0 none)) ++ List.replicate (if PyData.eqv (.list (ms.map PyData.int)) (.list []) then 1 else 0) 7, ?_, ?_⟩
  · rw [List.length_append, List.length_take, List.length_drop, List.length_replicate]
    split <;> omega
  · have e : cutV (ms.map V.int) none (some 4) = ((ms.drop (HT.sIx (ms.map V.int).length 0 none)).take (HT.sIx (ms.map V.int).length (ms.map V.int).length (some 4) - HT.sIx (ms.map V.int).length 0 none)).map V.int := by
      unfold cutV; rw [List.map_take, List.map_drop]
    rw [List.map_append, List.map_replicate, ← e]
    have hc := cutV_length (ms.map V.int) none (some 4)
    rw [List.length_map] at hc
    exact el_cat k1 k2 (by rw [List.length_replicate]; split <;> omega)
/-- the terms, each read and asked by itself -/
theorem el_parts {pr qa : Addr} {ts : List ST} {x0 x1 x2 x3 x7 x8 x9 x10 x12 x13 x14 : Option V} (hr : RowsAt st H pr ts) (ht : TsOk l r ts) (hn : ts.length ≤ 4) (hq : Tb CT H qa l r g) (hg : Good l r) (hb : ∀ i j, i < l → j < r → 0 ≤ g i j ∧ g i j < 4) :
    EvL (tLc (iList K (tVar 6)) (gUnl K 2 (gCons (gName 13) (gCons (gName 14) gNil))) tYes (tOp (rI CMul fun i j => .int (i * j)) (tCO CQ (sp_qcall CQ CT) (tCall (sp_read CQ) [] E0 (tCons (tVar 4) (tCons (tVar 5) (tCons (tVar 14) tNil)))) (tCons (tVar 11) tNil)) (tVar 13)) [13, 14])
      [x0, x1, x2, x3, some (.int l), some (.int r), some (.ref pr), x7, x8, x9, x10, some (.ref qa), x12, x13, x14] H ((ts.map fun q => dot l r (gridT q.2) g * q.1).map V.int) := by
  obtain ⟨_, vals, hv, hvl, hvs⟩ := hr
  have kk := evl_lc (evr_lc (te := tOp (rI CMul fun i j => .int (i * j)) (tCO CQ (sp_qcall CQ CT) (tCall (sp_read CQ) [] E0 (tCons (tVar 4) (tCons (tVar 5) (tCons (tVar 14) tNil)))) (tCons (tVar 11) tNil)) (tVar 13)) (g := gUnl K 2 (gCons (gName 13) (gCons (gName 14) gNil))) (vs := [13, 14]) exOk
    (fun j v _ => v = V.int ((ts.map fun q => dot l r (gridT q.2) g * q.1).getD j 0)) (fun _ _ _ _ _ h => h) trivial
    (evi_list (K := K) (te := tVar 6) (σ := [x0, x1, x2, x3, some (.int l), some (.int r), some (.ref pr), x7, x8, x9, x10, some (.ref qa), x12, x13, x14]) (ev_var rfl) hv) (by omega) (fun i H x H' _ => yat_ex i H x H') (fun j x H5 H6 hj e5 y e6 => ?_))
  · rw [hvl] at kk
    have e := map_range_get (xs := ts) (g := fun i => V.int ((ts.map fun q => dot l r (gridT q.2) g * q.1).getD i 0)) (h := fun q => V.int (dot l r (gridT q.2) g * q.1)) (fun i x hx => by rw [List.getD_eq_getElem?_getD, List.getElem?_map, hx]; rfl)
    rw [e] at kk
    rw [List.map_map]
    exact kk
  · obtain ⟨rfl, hx⟩ := y
    have hjt : j < ts.length := by omega
    have hqj : ts[j]? = some (ts[j]'hjt) := List.getElem?_eq_getElem hjt
    obtain ⟨p, k1, _, _, k4⟩ := hvs j _ hqj
    rw [k1] at hx
    cases hx
    obtain ⟨hs, hto⟩ := ht _ (List.getElem_mem hjt)
    have e1 : (ts.map fun q => dot l r (gridT q.2) g * q.1).getD j 0 = dot l r (gridT (ts[j]'hjt).2) g * (ts[j]'hjt).1 := by rw [List.getD_eq_getElem?_getD, List.getElem?_map, hqj]; rfl
    rw [e1]
    generalize ts[j]'hjt = q at *
    refine ⟨_, fun _ k => g_unl2 (e6 _ _ k4) k, rfl, r_ev ?_⟩
    have hok : TsOk l r [(1, q.2)] := fun u hu => by rw [List.mem_singleton] at hu; subst hu; exact ⟨.inl rfl, hto⟩
    have hw : txtT q.2 = joinL [32] (wsOf [(1, q.2)]) := by
      rw [← txts_eq (by simp)]
      simp [txts]
    have e2 : dot l r (gridT q.2) g = dot l r (sumG [(1, q.2)]) g := dot_congr fun i j _ _ => by unfold sumG; simp
    rw [e2]
    refine ev_mul (ev_qcall (er_read (ts := [(1, q.2)]) (ev_var rfl) (ev_var rfl) (ev_is (ev_var rfl) (by rw [hw])) hg (txt_ok hg (by simp) hok (by simp)) hok) (r_t (ev_var rfl) (hq.ex e6)) hg fun i j hi hj => by have := hb i j hi hj; omega) (ev_var rfl) (.inr ?_)
    rcases hs with e | e <;> rw [e] <;> decide
end
section
variable {P : Program} {w : World} {K : PySem.W.Frag} {mg : Str → Option Value} {base : Heap} {f : Addr} {fd : FuncData} {CT CQ : Addr}
abbrev s_law : Stmt := topS 64
abbrev N_law : List Str := ["_law_script", "_law_k", "_law_cell", "_law_state", "_law_left", "_law_right_here", "_law_rows", "_law_weights", "_law_question", "_law_again", "_law_turn", "_law_table", "_law_parts", "_law_sign", "_law_term"]
theorem sc_law : FnScope N_law ["_law_script"] (defScope s_law) := ⟨rfl, rfl, rfl, by decide +kernel, rfl, by decide +kernel, by decide +kernel⟩
def sp_law (K : PySem.W.Frag) : Sp := fun vs H Q _ => ∃ (a : Addr) (ns : List Int), vs = [.ref a] ∧ SqL K H a (ns.map V.int) ∧ ns.length ≤ 63 ∧ ∀ H', Q (.bl true) H'
/-- what law needs of the defs -/
structure LawC (P : Program) (w : World) (K : PySem.W.Frag) (mg : Str → Option Value) (base : Heap) (CQ CT : Addr) : Prop where
  nums : Cl P w K mg base 1 "_law_numbers" sp_numbers
  draw : Cl P w K mg base 1 "_law_draw" sp_draw
  terms : Cl P w K mg base 4 "_law_terms" sp_lterms
  read : Cl P w K mg base 9 "read_question" (sp_read CQ)
  written : Cl P w K mg base 1 "_law_written" sp_lwritten
  write : Cl P w K mg base 3 "write_question" (sp_write CQ)
  table : MkC P w K mg base 4 CT "Table" (sp_tinit CT)
  grid : Cl P w K mg base 2 "_law_grid" sp_lgrid
  right : Cl P w K mg base 7 "_law_right" (sp_lright CQ CT)
  call : CoC P w K mg base 3 CQ (sp_qcall CQ CT)
  eq : OwC P w K mg base 1 CQ "__eq__" (sp_qeq CQ)
  obj : PySem.W.mroIn K CQ (.type "object") = some true
  wts : PrC P w K mg base 1 CQ "weights" (sp_qweights CQ)
/-- x != y, both of C, by C's == -/
theorem pneO {X : Cx} {k j : Nat} {C : Addr} {sp : Sp} {pos : Pos} {a b : Expr} {ta tb : TE} (c : OwC X.prog X.w X.K X.mg X.base k C "__eq__" sp) (hn : PySem.W.findIn X.K (.ref C) "__ne__" = some (some (.builtin "object.__ne__"))) (hm : PySem.W.mroIn X.K C (.type "object") = some true) (hr : Room j X.A) (ha : PE X a ta) (hb : PE X b tb) (hk : k + 1 ≤ j := by decide) : PT X (.Compare a [.NotEq] [b] pos) (tTest (tOp (rNeO X C sp) ta tb)) := by
  obtain ⟨g, h1, h2, F⟩ := c.ex
  exact pt_cmpR (op_neO hn h1 h2 hm F (hr.mono hk)) ha hb (nomark _)
theorem ok_law (F : Dm K "law" s_law f fd) (T : Tx K mg) (TC : TabC K CT) (QC : QueC K CQ) (c : LawC P w K mg base CQ CT) : FnOk P w K mg base CX0 10 f fd ["_law_script"] (sp_law K) := by
  refine F.ok sc_law (fun vs H Q E h => ?_) (fun cdv A outer s H vs Q E hr h => ?_)
  · obtain ⟨a, ns, rfl, _⟩ := h
    rfl
  · obtain ⟨a, ns, rfl, hS, hl, k⟩ := h
    have nd := sc_law.nd
    refine ⟨_, PSs.nox (pss_cons (ps_for PassesOwn.never rfl (pi_enum (by rfl) T.enumerate (pa_cons (pe_op op_cat (pe_slice sl_list (pv 0) po_none (po_some pe_int)) (pe_op op_rep (pe_lst (pa_cons pe_int pa_nil)) (pe_callTy call_int1 (by rfl) T.int bt_int (pa_cons (pe_cmpR (op_eqD hr.units) (pv 0) (pe_lst pa_nil) (nomark _)) pa_nil)))) pa_nil))
          (pg_tup rfl (pgs_cons (pg_name (i := 1) nd rfl (Or.inl rfl)) (pgs_cons (pg_name (i := 2) nd rfl (Or.inl rfl)) pgs_nil)))
        (pss_cons (ps_set (i := 3) nd rfl (.inl rfl) (pe_lst (pa_cons (pc c.nums hr (pa_cons (pv 2) (pa_cons (pe_op op_add pe_int (pv 1)) (pa_cons (pe_op op_rep (pe_lst (pa_cons pe_int pa_nil)) pe_int) pa_nil)))) (pa_cons pe_int pa_nil)))) <|
        pss_cons (ps_asg (pe_tup (pa_cons (pe_op op_add pe_int (pc c.draw hr (pa_cons (pv 3) (pa_cons pe_int pa_nil)))) (pa_cons (pe_op op_add pe_int (pc c.draw hr (pa_cons (pv 3) (pa_cons pe_int pa_nil)))) pa_nil))) (pg_tup rfl (pgs_cons (pg_name (i := 4) nd rfl (Or.inr rfl)) (pgs_cons (pg_name (i := 5) nd rfl (Or.inr rfl)) pgs_nil)))) <|
        pss_cons (ps_asg (pc c.terms hr (pa_cons (pv 3) (pa_cons (pv 4) (pa_cons (pv 5) (pa_cons (pe_op op_add pe_int (pc c.draw hr (pa_cons (pv 3) (pa_cons pe_int pa_nil)))) pa_nil))))) (pg_unl rfl (pgs_cons (pg_name (i := 6) nd rfl (Or.inl rfl)) (pgs_cons (pg_name (i := 7) nd rfl (Or.inl rfl)) pgs_nil)))) <|
        pss_cons (ps_set (i := 8) nd rfl (.inl rfl) (pc c.read hr (pa_cons (pv 4) (pa_cons (pv 5) (pa_cons (pc c.written hr (pa_cons (pv 6) pa_nil)) pa_nil))))) <|
        pss_cons (ps_set (i := 9) nd rfl (.inl rfl) (pc c.read hr (pa_cons (pv 4) (pa_cons (pv 5) (pa_cons (pc c.write hr (pa_cons (pv 8) pa_nil)) pa_nil))))) <|
        pss_cons (ps_if (PW.pt (pw_or (pneO c.eq QC.ne c.obj hr (pv 9) (pv 8)) (pw_or1 (pt_cmpR (op_neD hr.units) (ppr c.wts QC.cl hr (pv 8)) (pv 7) (nomark _))))) (pss_one (ps_ret pe_bl)) pss_nil) <|
        pss_one (ps_for PassesOwn.never rfl (pi_range1 (by rfl) T.range (pa_cons pe_int pa_nil)) (pg_name (i := 10) nd rfl (Or.inl rfl))
          (pss_cons (ps_set (i := 11) nd rfl (.inr rfl) (pmk c.table hr (pa_cons (pc c.grid hr (pa_cons (pv 3) (pa_cons (pv 4) (pa_cons (pv 5) (pa_cons pe_int pa_nil))))) pa_nil))) <|
          pss_cons (ps_if (PW.pt (pw_or (pt_not (pt_val (pc c.right hr (pa_cons (pv 8) (pa_cons (pv 7) (pa_cons (pv 11) pa_nil)))))) (pw_or1 (pt_cmpR op_ne (pco c.call hr (pv 9) (pa_cons (pv 11) pa_nil)) (pco c.call hr (pv 8) (pa_cons (pv 11) pa_nil)) (nomark _))))) (pss_one (ps_ret pe_bl)) pss_nil) <|
          pss_cons (ps_setLc (own := [("_law_sign", 13), ("_law_term", 14)]) (g := gUnl K 2 (gCons (gName 13) (gCons (gName 14) gNil))) (tt := tYes) (i := 12) rfl nd rfl rfl (by rfl) (pi_listQ K (pv 6)) (blkOk_by (N := N_law) (sc := defScope s_law) (by decide +kernel))
              (fun _ _ _ _ _ => pg_unl rfl (pgs_cons (pg_name (i := 13) nd rfl (Or.inl rfl)) (pgs_cons (pg_name (i := 14) nd rfl (Or.inl rfl)) pgs_nil))) (fun _ _ _ _ _ => pts_nil)
              (fun _ _ _ _ _ => pe_op op_mul (pco c.call hr (pc c.read hr (pa_cons (pv 4) (pa_cons (pv 5) (pa_cons (pv 14) pa_nil)))) (pa_cons (pv 11) pa_nil)) (pv 13))) <|
          pss_one (ps_if (pt_cmpR op_ne (p_sum K rfl T.sum (pv 12)) (pco c.call hr (pv 8) (pa_cons (pv 11) pa_nil)) (nomark _)) (pss_one (ps_ret pe_bl)) pss_nil)))))
      (pss_one (ps_ret pe_bl))), ?_⟩
    obtain ⟨us, hul, hcell⟩ := el_cells (K := K) (σ := start N_law [.ref a]) hS hl rfl
    have k0 := evi_enumN (K := K) hcell
    refine q_forI k0 (fun H1 _ σ' H' => Ex H1 H' ∧ ∃ x1 x2 x3 x4 x5 x6 x7 x8 x9 x10 x11 x12 x13 x14, σ' = [some (.ref a), x1, x2, x3, x4, x5, x6, x7, x8, x9, x10, x11, x12, x13, x14]) (fun H1 e1 => ⟨Ex.refl _, none, none, none, none, none, none, none, none, none, none, none, none, none, none, rfl⟩) (fun _ _ _ _ p => p.1)
      (fun H1 e1 i x σ' H2 H3 hi p y => ?_) (fun H1 e1 σ' H' p => ?_)
    · obtain ⟨e2, x1, x2, x3, x4, x5, x6, x7, x8, x9, x10, x11, x12, x13, x14, rfl⟩ := p
      obtain ⟨T', u, v, rfl, hT, rfl, hu, hv⟩ := y
      cases hu
      rw [List.length_map] at hi
      have hv : (us.map V.int)[i]? = some v := hv
      rw [List.getElem?_map, List.getElem?_eq_getElem hi] at hv
      cases hv
      generalize us[i]'hi = cell at *
      have e3 : Ex H2 (upd H2 T' (.tup [.int (i : Nat), .int cell])) := Ex.new hT
      refine g_pair upd_same ?_
      generalize upd H2 T' (.tup [.int (i : Nat), .int cell]) = H3 at *
      have e13 := e2.trans e3
      -- the state
      refine qr_asg (Φ := fun Ha v H' => ∃ nl st ns, v = .ref st ∧ Ha st = none ∧ Stt nl ns st H') (fun H4 e4 Q q => ⟨_, rfl, _, rfl, _, _, rfl, rfl, ?_⟩) fun v H4 e4 ⟨nl, st, ns, hv, hst0, hst⟩ => ?_
      · refine (el_rep (n := 400) (x := .int 420) (el_lst (vs := [.int 420]) (ea_cons ev_c ea_nil) (show 1 ≤ 100000 by decide)) (fun _ _ => ev_c) (by decide) : EvL (tOp rRep (tLst (tCons (tC (.int 420)) tNil)) (tC (.int 400))) _ H4 _) H4 (Ex.refl _) _ fun p H5 hp e5 h5 => ?_
        refine ⟨cell, 9300 + (i : Nat), p, rfl, h5, ⟨by omega, by omega⟩, fun nl H6 ns hnl e6 h6 => ⟨by show 2 ≤ sizeLine; decide, fun st hst => ?_⟩⟩
        have hne : nl ≠ st := ne_of_none h6 hst
        exact q _ _ (e5.trans (e6.trans (Ex.new hst))) ⟨nl, st, ns, rfl, fresh_back (e5.trans e6) hst, hne, 0, upd_same, by rw [upd_ne hne]; exact h6⟩
      subst hv
      -- the sizes
      refine qR_asgG (drOk (nl := nl) (ns := ns) (st := st)) (Φ := fun _ v H' => ∃ p l r, v = .ref p ∧ H' p = some (.tup [.int (l : Nat), .int (r : Nat)]) ∧ Good l r) (fun H5 e5 Q q => ?_) fun v H5 e5 ⟨p, l, r, hv, hp, hg⟩ => ?_
      · refine er_draw1 (m := 5) (i := 3) (σ := [some (.ref a), some (.int (i : Nat)), some (.int cell), some (.ref st), x4, x5, x6, x7, x8, x9, x10, x11, x12, x13, x14]) hst rfl (by decide) H5 e5 _ fun v H6 e6 ⟨l, hv, l1, l5⟩ => ?_
        subst hv
        refine er_draw1 (m := 5) (i := 3) (σ := [some (.ref a), some (.int (i : Nat)), some (.int cell), some (.ref st), x4, x5, x6, x7, x8, x9, x10, x11, x12, x13, x14]) hst rfl (by decide) H6 (drOk.tr e5 e6) _ fun v H7 e7 ⟨r, hv, r1, r5⟩ => ⟨by show 2 ≤ sizeLine; decide, fun p hp => ?_⟩
        subst hv
        exact q _ _ (drOk.tr e6 (drOk.tr e7 (drOk.ex (Ex.new hp)))) ⟨p, l, r, rfl, upd_same, ⟨l1, by omega⟩, r1, by omega⟩
      subst hv
      refine g_pair hp ?_
      have hst5 := drOk.good hst e5
      have e45 := e5
      -- the terms
      refine qR_asgG (drOk (nl := nl) (ns := ns) (st := st)) (er_lterms (r := r) (l := l) hst5 rfl rfl rfl (er_draw1 (m := 4) hst5 rfl (by decide)) hg) fun v H6 e6 ⟨p6, pr, pt, ts, hv, hp6, hrs, hgr, hts, hn1, hn4, hbd⟩ => ?_
      subst hv
      refine g_unl2 hp6 ?_
      have hne : ts ≠ [] := fun z => by rw [z] at hn1; simp at hn1
      -- the question
      refine qr_asg (er_read (CQ := CQ) (ws := wsOf ts) (ts := ts) (l := l) (r := r) (ev_var rfl) (ev_var rfl) (ev_is (ev_call (z := .str (S (txts ts))) (ea_cons (ev_var rfl) ea_nil) fun H7 e7 Q q E => ⟨st, pr, ts, l, r, rfl, hrs.ex e7, hts, hg, hne, by omega, q⟩) (by rw [txts_eq hne])) hg (txt_ok hg hne hts (by omega)) hts) fun v H7 e7 ⟨q, hv, hq⟩ => ?_
      subst hv
      have hcl := cellsOf_len (sumG ts) l r
      have hwr : TsOk l r (wrOf (cellsOf (sumG ts) l r)) := wrOf_ok (cellsOf_ok hbd l (Nat.le_refl _))
      have hwn : wrOf (cellsOf (sumG ts) l r) ≠ [] := by
        unfold wrOf; split
        · simp
        · assumption
      have hwl : (wrOf (cellsOf (sumG ts) l r)).length ≤ 100 := by
        have : l * r ≤ 8 * 8 := Nat.mul_le_mul hg.1.2 hg.2.2
        unfold wrOf; split
        · simp
        · omega
      refine qr_asg (er_read (CQ := CQ) (ws := wsOf (wrOf (cellsOf (sumG ts) l r))) (ts := wrOf (cellsOf (sumG ts) l r)) (l := l) (r := r) (ev_var rfl) (ev_var rfl) (ev_is (ev_call (z := .str (S (txts (wrOf (cellsOf (sumG ts) l r))))) (ea_cons (ev_var rfl) ea_nil) fun H8 e8 Q k E => ⟨q, l, r, sumG ts, rfl, hq.ex e8, hg, hbd, k⟩) (by rw [txts_eq hwn])) hg (txt_ok hg hwn hwr hwl) hwr) fun v H8 e8 ⟨q', hv, hq'⟩ => ?_
      subst hv
      have hq' : Qn CQ H8 q' l r (sumG ts) := hq'.congr fun i j hi hj => sum_wr hi hj
      have hq8 := hq.ex e8
      have hgr8 := hgr.ex (e7.trans e8)
      obtain ⟨dx, aw, hins, hgw⟩ := id hq8
      refine q_no (et_orF (et_test (ev_neQ (ev_var rfl) (ev_var rfl) hq' hq8 fun _ _ _ _ => rfl)) (et_test (ev_is (ev_op (ev_qweights (ev_var rfl) hins) (ev_var rfl) (rv_neD (fun H9 e9 => dd_gr (hgw.ex e9)) (fun H9 e9 => dd_gr (hgr8.ex e9)))) (by rw [eqv_gdat]; rfl)))) fun H9 e9 => ?_
      have hst6 := drOk.good hst5 e6
      have e69 : Ex H6 H9 := e7.trans (e8.trans e9)
      have hst9 := hst6.ex e69
      have hrs9 := hrs.ex e69
      have hgr9 := hgr8.ex e9
      have hq9 := hq8.ex e9
      have hq'9 := hq'.ex e9
      have e09 : Dr nl ns st H4 H9 := drOk.tr e45 (drOk.tr e6 (drOk.ex e69))
      refine s_forB (evb_rng (m := 6) (te := tC (.int 6)) (H := emp) (fun H1 e1 => ev_c) (by omega)) emp_ex (fun _ σ' H' => Dr nl ns st H9 H' ∧ ∃ y10 y11 y12 y13 y14, σ' = [some (.ref a), some (.int (i : Nat)), some (.int cell), some (.ref st), some (.int (l : Nat)), some (.int (r : Nat)), some (.ref pr), some (.ref pt), some (.ref q), some (.ref q'), y10, y11, y12, y13, y14])
        (fun H10 e10 => ⟨drOk.ex e10, _, _, _, _, _, rfl⟩) (fun _ _ _ _ => emp_ex) (fun j x σ' H10 H11 hj p y => ?_) (fun σ' H' p => ?_)
      · obtain ⟨e10, y10, y11, y12, y13, y14, rfl⟩ := p
        obtain ⟨rfl, rfl⟩ := y
        have hst10 := drOk.good hst9 e10
        -- a table
        refine qR_asg (drOk (nl := nl) (ns := ns) (st := st)) (er_mkTD (C := CT) (er_lgrid (i := 3) (j := 4) (m := 5) (l := l) (r := r) hst10 rfl rfl rfl hg) hg) fun v H12 e12 ⟨t, g, hv, ht, hb⟩ => ?_
        subst hv
        have e912 := drOk.tr e10 e12
        have hq12 := hq9.im (drOk.im e912)
        have hq'12 := hq'9.im (drOk.im e912)
        have hgr12 := hgr9.im (drOk.im e912)
        have hrs12 := hrs9.dr e912
        have hb64 : ∀ i j, i < l → j < r → -(2 ^ 64) < g i j ∧ g i j < 2 ^ 64 := fun i j hi hj => by have := hb i j hi hj; omega
        refine q_no (et_orF (et_notT (et_B (ev_call (ea_cons (ev_var rfl) (ea_cons (ev_var rfl) (ea_cons (ev_var rfl) ea_nil))) fun H13 e13 Q k E => ⟨q, pt, t, l, r, sumG ts, g, rfl, hq12.ex e13, hgr12.ex e13, ht.ex e13, hg, fun i j hi hj => by have := hb i j hi hj; omega, k⟩)))
          (et_test (ev_is (ev_neI (ev_qcall (r_q (ev_var rfl) hq'12) (r_t (ev_var rfl) ht) hg hb64) (ev_qcall (r_q (ev_var rfl) hq12) (r_t (ev_var rfl) ht) hg hb64)) (by simp)))) fun H13 e13 => ?_
        refine qL_asg (el_parts (CQ := CQ) (CT := CT) (hrs12.ex e13) hts hn4 (ht.ex e13) hg hb) fun pp H14 e14 hpp => ?_
        have hq14 := hq12.ex (e13.trans e14)
        have ht14 := ht.ex (e13.trans e14)
        refine s_no (et_test (ev_is (ev_neI (ev_cb (z := .int ((ts.map fun q => dot l r (gridT q.2) g * q.1).sum)) (ea_cons (ev_var rfl) ea_nil) fun H15 e15 Q k => ⟨pp, _, rfl, sq_of (e15 _ _ hpp), k _ (Ex.refl _)⟩) (ev_qcall (r_q (ev_var rfl) hq14) (r_t (ev_var rfl) ht14) hg hb64)) (by rw [dot_sumG]; simp))) fun H15 e15 => ?_
        exact ⟨drOk.tr e912 (drOk.ex (e13.trans (e14.trans e15))), _, _, _, _, _, rfl⟩
      · obtain ⟨e10, y10, y11, y12, y13, y14, rfl⟩ := p
        exact ⟨dr_ex (fresh_back e13 hst0) (e13.trans e4) (drOk.tr e09 e10), _, _, _, _, _, _, _, _, _, _, _, _, _, _, rfl⟩
    · obtain ⟨e2, x1, x2, x3, x4, x5, x6, x7, x8, x9, x10, x11, x12, x13, x14, rfl⟩ := p
      exact s_ret ev_c fun H2 e2 => k H2
end
end Q
set_option Elab.async false
set_option linter.all false
set_option maxRecDepth 100000
set_option maxHeartbeats 0
namespace QH
open PySem PySem.W PySem.Calls PyProof.Rows
abbrev R : OpenRow := OpenLaw.row PySem.Challenge.rw_surecounts_k93_whole_questions_as_texts
abbrev qv : Program := view R.prog [64]
def names1 : List PySem.Str := ["_wall", "SureError", "InvalidTable", "InvalidFact", "InvalidQuestion", "InvalidText", "InvalidNumber", "MissingRows", "DIGITS", "MOST_SIZE", "is_integer", "is_count", "is_between", "is_value", "is_grid", "check_size", "check_value", "integer_in", "integers_in", "is_counts", "summed", "Table", "is_row", "MOST_VALUES", "require_sizes", "are_values", "is_where_in", "is_over", "is_where"]
def names2 : List PySem.Str := ["are_numbers", "Question", "where_of", "check_text", "PLUS", "MINUS", "TIMES", "terms_of", "marks", "block_of", "ends_of", "part_of", "term_of", "read_question", "cell_text", "write_question", "_law_numbers", "_law_draw", "_law_grid", "_law_values", "_law_commas", "_law_part", "_law_marks", "_law_terms", "_law_written", "_law_number", "_law_right"]
def names : List PySem.Str := names1 ++ names2
def D_0 : He5.DefA := ⟨fun K => He.ga K "is_integer", "is_integer", "is_integer", L2.defArgs (Q.topS 12), L2.defBody (Q.topS 12), L2.defScope (Q.topS 12), [], []⟩
def D_1 : He5.DefA := ⟨fun K => He.ga K "is_count", "is_count", "is_count", L2.defArgs (Q.topS 13), L2.defBody (Q.topS 13), L2.defScope (Q.topS 13), [.int 0], []⟩
def D_2 : He5.DefA := ⟨fun K => He.ga K "is_between", "is_between", "is_between", L2.defArgs (Q.topS 14), L2.defBody (Q.topS 14), L2.defScope (Q.topS 14), [], []⟩
def D_3 : He5.DefA := ⟨fun K => He.ga K "is_grid", "is_grid", "is_grid", L2.defArgs (Q.topS 16), L2.defBody (Q.topS 16), L2.defScope (Q.topS 16), [], []⟩
def D_4 : He5.DefA := ⟨fun K => He.ga K "check_size", "check_size", "check_size", L2.defArgs (Q.topS 17), L2.defBody (Q.topS 17), L2.defScope (Q.topS 17), [], []⟩
def D_5 : He5.DefA := ⟨fun K => He.ga K "integer_in", "integer_in", "integer_in", L2.defArgs (Q.topS 19), L2.defBody (Q.topS 19), L2.defScope (Q.topS 19), [], []⟩
def D_6 : He5.DefA := ⟨fun K => He.ga K "integers_in", "integers_in", "integers_in", L2.defArgs (Q.topS 20), L2.defBody (Q.topS 20), L2.defScope (Q.topS 20), [], []⟩
def D_7 : He5.DefA := ⟨fun K => He.ga K "is_counts", "is_counts", "is_counts", L2.defArgs (Q.topS 22), L2.defBody (Q.topS 22), L2.defScope (Q.topS 22), [], []⟩
def D_8 : He5.DefA := ⟨fun K => He.ga K "summed", "summed", "summed", L2.defArgs (Q.topS 23), L2.defBody (Q.topS 23), L2.defScope (Q.topS 23), [], []⟩
def D_9 : He5.DefA := ⟨fun K => He.ga K "require_sizes", "require_sizes", "require_sizes", L2.defArgs (Q.topS 28), L2.defBody (Q.topS 28), L2.defScope (Q.topS 28), [], []⟩
def D_10 : He5.DefA := ⟨fun K => He.ga K "are_values", "are_values", "are_values", L2.defArgs (Q.topS 29), L2.defBody (Q.topS 29), L2.defScope (Q.topS 29), [], []⟩
def D_11 : He5.DefA := ⟨fun K => He.ga K "is_where_in", "is_where_in", "is_where_in", L2.defArgs (Q.topS 30), L2.defBody (Q.topS 30), L2.defScope (Q.topS 30), [], []⟩
def D_12 : He5.DefA := ⟨fun K => He.ga K "is_over", "is_over", "is_over", L2.defArgs (Q.topS 31), L2.defBody (Q.topS 31), L2.defScope (Q.topS 31), [], []⟩
def D_13 : He5.DefA := ⟨fun K => He.ga K "is_where", "is_where", "is_where", L2.defArgs (Q.topS 32), L2.defBody (Q.topS 32), L2.defScope (Q.topS 32), [], []⟩
def D_14 : He5.DefA := ⟨fun K => He.ga K "are_numbers", "are_numbers", "are_numbers", L2.defArgs (Q.topS 34), L2.defBody (Q.topS 34), L2.defScope (Q.topS 34), [], []⟩
def D_15 : He5.DefA := ⟨fun K => He.ga K "where_of", "where_of", "where_of", L2.defArgs (Q.topS 37), L2.defBody (Q.topS 37), L2.defScope (Q.topS 37), [], []⟩
def D_16 : He5.DefA := ⟨fun K => He.ga K "check_text", "check_text", "check_text", L2.defArgs (Q.topS 38), L2.defBody (Q.topS 38), L2.defScope (Q.topS 38), [], []⟩
def D_17 : He5.DefA := ⟨fun K => He.ga K "terms_of", "terms_of", "terms_of", L2.defArgs (Q.topS 43), L2.defBody (Q.topS 43), L2.defScope (Q.topS 43), [], []⟩
def D_18 : He5.DefA := ⟨fun K => He.ga K "marks", "marks", "marks", L2.defArgs (Q.topS 44), L2.defBody (Q.topS 44), L2.defScope (Q.topS 44), [], []⟩
def D_19 : He5.DefA := ⟨fun K => He.ga K "block_of", "block_of", "block_of", L2.defArgs (Q.topS 45), L2.defBody (Q.topS 45), L2.defScope (Q.topS 45), [], []⟩
def D_20 : He5.DefA := ⟨fun K => He.ga K "ends_of", "ends_of", "ends_of", L2.defArgs (Q.topS 46), L2.defBody (Q.topS 46), L2.defScope (Q.topS 46), [], []⟩
def D_21 : He5.DefA := ⟨fun K => He.ga K "part_of", "part_of", "part_of", L2.defArgs (Q.topS 47), L2.defBody (Q.topS 47), L2.defScope (Q.topS 47), [], []⟩
def D_22 : He5.DefA := ⟨fun K => He.ga K "term_of", "term_of", "term_of", L2.defArgs (Q.topS 48), L2.defBody (Q.topS 48), L2.defScope (Q.topS 48), [], []⟩
def D_23 : He5.DefA := ⟨fun K => He.ga K "read_question", "read_question", "read_question", L2.defArgs (Q.topS 49), L2.defBody (Q.topS 49), L2.defScope (Q.topS 49), [], []⟩
def D_24 : He5.DefA := ⟨fun K => He.ga K "cell_text", "cell_text", "cell_text", L2.defArgs (Q.topS 50), L2.defBody (Q.topS 50), L2.defScope (Q.topS 50), [], []⟩
def D_25 : He5.DefA := ⟨fun K => He.ga K "write_question", "write_question", "write_question", L2.defArgs (Q.topS 51), L2.defBody (Q.topS 51), L2.defScope (Q.topS 51), [], []⟩
def D_26 : He5.DefA := ⟨fun K => He.ga K "_law_numbers", "_law_numbers", "_law_numbers", L2.defArgs (Q.topS 53), L2.defBody (Q.topS 53), L2.defScope (Q.topS 53), [], []⟩
def D_27 : He5.DefA := ⟨fun K => He.ga K "_law_draw", "_law_draw", "_law_draw", L2.defArgs (Q.topS 54), L2.defBody (Q.topS 54), L2.defScope (Q.topS 54), [], []⟩
def D_28 : He5.DefA := ⟨fun K => He.ga K "_law_grid", "_law_grid", "_law_grid", L2.defArgs (Q.topS 55), L2.defBody (Q.topS 55), L2.defScope (Q.topS 55), [], []⟩
def D_29 : He5.DefA := ⟨fun K => He.ga K "_law_values", "_law_values", "_law_values", L2.defArgs (Q.topS 56), L2.defBody (Q.topS 56), L2.defScope (Q.topS 56), [], []⟩
def D_30 : He5.DefA := ⟨fun K => He.ga K "_law_commas", "_law_commas", "_law_commas", L2.defArgs (Q.topS 57), L2.defBody (Q.topS 57), L2.defScope (Q.topS 57), [], []⟩
def D_31 : He5.DefA := ⟨fun K => He.ga K "_law_part", "_law_part", "_law_part", L2.defArgs (Q.topS 58), L2.defBody (Q.topS 58), L2.defScope (Q.topS 58), [], []⟩
def D_32 : He5.DefA := ⟨fun K => He.ga K "_law_marks", "_law_marks", "_law_marks", L2.defArgs (Q.topS 59), L2.defBody (Q.topS 59), L2.defScope (Q.topS 59), [], []⟩
def D_33 : He5.DefA := ⟨fun K => He.ga K "_law_terms", "_law_terms", "_law_terms", L2.defArgs (Q.topS 60), L2.defBody (Q.topS 60), L2.defScope (Q.topS 60), [], []⟩
def D_34 : He5.DefA := ⟨fun K => He.ga K "_law_written", "_law_written", "_law_written", L2.defArgs (Q.topS 61), L2.defBody (Q.topS 61), L2.defScope (Q.topS 61), [], []⟩
def D_35 : He5.DefA := ⟨fun K => He.ga K "_law_number", "_law_number", "_law_number", L2.defArgs (Q.topS 62), L2.defBody (Q.topS 62), L2.defScope (Q.topS 62), [], []⟩
def D_36 : He5.DefA := ⟨fun K => He.ga K "_law_right", "_law_right", "_law_right", L2.defArgs (Q.topS 63), L2.defBody (Q.topS 63), L2.defScope (Q.topS 63), [], []⟩
def D_37 : He5.DefA := ⟨fun K => He.ga K "law", "law", "law", L2.defArgs (Q.topS 64), L2.defBody (Q.topS 64), L2.defScope (Q.topS 64), [], []⟩
def D_38 : He5.DefA := ⟨fun K => He.ma K (He.ga K "Table") "__init__", "__init__", "Table.__init__", L2.defArgs (Q.tabS 1), L2.defBody (Q.tabS 1), L2.defScope (Q.tabS 1), [], []⟩
def D_39 : He5.DefA := ⟨fun K => He5.wf K (He.ga K "Table") "property" "counts", "counts", "Table.counts", L2.defArgs (Q.tabS 3), L2.defBody (Q.tabS 3), L2.defScope (Q.tabS 3), [], []⟩
def D_40 : He5.DefA := ⟨fun K => He5.wf K (He.ga K "Table") "property" "left", "left", "Table.left", L2.defArgs (Q.tabS 4), L2.defBody (Q.tabS 4), L2.defScope (Q.tabS 4), [], []⟩
def D_41 : He5.DefA := ⟨fun K => He5.wf K (He.ga K "Table") "property" "right", "right", "Table.right", L2.defArgs (Q.tabS 5), L2.defBody (Q.tabS 5), L2.defScope (Q.tabS 5), [], []⟩
def D_42 : He5.DefA := ⟨fun K => He.ma K (He.ga K "Table") "turned", "turned", "Table.turned", L2.defArgs (Q.tabS 10), L2.defBody (Q.tabS 10), L2.defScope (Q.tabS 10), [], []⟩
def D_43 : He5.DefA := ⟨fun K => He.ma K (He.ga K "Table") "each", "each", "Table.each", L2.defArgs (Q.tabS 11), L2.defBody (Q.tabS 11), L2.defScope (Q.tabS 11), [], []⟩
def D_44 : He5.DefA := ⟨fun K => He.ma K (He.ga K "Table") "is_alike", "is_alike", "Table.is_alike", L2.defArgs (Q.tabS 12), L2.defBody (Q.tabS 12), L2.defScope (Q.tabS 12), [], []⟩
def D_45 : He5.DefA := ⟨fun K => He.ma K (He.ga K "Table") "__add__", "__add__", "Table.__add__", L2.defArgs (Q.tabS 14), L2.defBody (Q.tabS 14), L2.defScope (Q.tabS 14), [], []⟩
def D_46 : He5.DefA := ⟨fun K => He.ma K (He.ga K "Question") "__init__", "__init__", "Question.__init__", L2.defArgs (Q.queS 0), L2.defBody (Q.queS 0), L2.defScope (Q.queS 0), [], []⟩
def D_47 : He5.DefA := ⟨fun K => He5.wf K (He.ga K "Question") "classmethod" "at", "at", "Question.at", L2.defArgs (Q.queS 1), L2.defBody (Q.queS 1), L2.defScope (Q.queS 1), [], []⟩
def D_48 : He5.DefA := ⟨fun K => He5.wf K (He.ga K "Question") "classmethod" "between", "between", "Question.between", L2.defArgs (Q.queS 2), L2.defBody (Q.queS 2), L2.defScope (Q.queS 2), [], []⟩
def D_49 : He5.DefA := ⟨fun K => He5.wf K (He.ga K "Question") "property" "weights", "weights", "Question.weights", L2.defArgs (Q.queS 3), L2.defBody (Q.queS 3), L2.defScope (Q.queS 3), [], []⟩
def D_50 : He5.DefA := ⟨fun K => He5.wf K (He.ga K "Question") "property" "left", "left", "Question.left", L2.defArgs (Q.queS 4), L2.defBody (Q.queS 4), L2.defScope (Q.queS 4), [], []⟩
def D_51 : He5.DefA := ⟨fun K => He5.wf K (He.ga K "Question") "property" "right", "right", "Question.right", L2.defArgs (Q.queS 5), L2.defBody (Q.queS 5), L2.defScope (Q.queS 5), [], []⟩
def D_52 : He5.DefA := ⟨fun K => He.ma K (He.ga K "Question") "__call__", "__call__", "Question.__call__", L2.defArgs (Q.queS 8), L2.defBody (Q.queS 8), L2.defScope (Q.queS 8), [], []⟩
def D_53 : He5.DefA := ⟨fun K => He.ma K (He.ga K "Question") "turned", "turned", "Question.turned", L2.defArgs (Q.queS 9), L2.defBody (Q.queS 9), L2.defScope (Q.queS 9), [], []⟩
def D_54 : He5.DefA := ⟨fun K => He.ma K (He.ga K "Question") "__add__", "__add__", "Question.__add__", L2.defArgs (Q.queS 10), L2.defBody (Q.queS 10), L2.defScope (Q.queS 10), [], []⟩
def D_55 : He5.DefA := ⟨fun K => He.ma K (He.ga K "Question") "__sub__", "__sub__", "Question.__sub__", L2.defArgs (Q.queS 11), L2.defBody (Q.queS 11), L2.defScope (Q.queS 11), [], []⟩
def D_56 : He5.DefA := ⟨fun K => He.ma K (He.ga K "Question") "__mul__", "__mul__", "Question.__mul__", L2.defArgs (Q.queS 12), L2.defBody (Q.queS 12), L2.defScope (Q.queS 12), [], []⟩
def D_57 : He5.DefA := ⟨fun K => He.ma K (He.ga K "Question") "__neg__", "__neg__", "Question.__neg__", L2.defArgs (Q.queS 13), L2.defBody (Q.queS 13), L2.defScope (Q.queS 13), [], []⟩
def D_58 : He5.DefA := ⟨fun K => He.ma K (He.ga K "Question") "__eq__", "__eq__", "Question.__eq__", L2.defArgs (Q.queS 14), L2.defBody (Q.queS 14), L2.defScope (Q.queS 14), [], []⟩
def fn : List He5.DefA := [D_0, D_1, D_2, D_3, D_4, D_5, D_6, D_7, D_8, D_9, D_10, D_11, D_12, D_13, D_14, D_15, D_16, D_17, D_18, D_19, D_20, D_21, D_22, D_23, D_24, D_25, D_26, D_27, D_28, D_29, D_30, D_31, D_32, D_33, D_34, D_35, D_36, D_37, D_38, D_39, D_40, D_41, D_42, D_43, D_44, D_45, D_46, D_47, D_48, D_49, D_50, D_51, D_52, D_53, D_54, D_55, D_56, D_57, D_58]
def fa : List He.Fa := [.glo "is_integer", .glo "is_count", .glo "is_between", .glo "is_grid", .glo "check_size", .glo "integer_in", .glo "integers_in", .glo "is_counts", .glo "summed", .glo "require_sizes", .glo "are_values", .glo "is_where_in", .glo "is_over", .glo "is_where", .glo "are_numbers", .glo "where_of", .glo "check_text", .glo "terms_of", .glo "marks", .glo "block_of", .glo "ends_of", .glo "part_of", .glo "term_of", .glo "read_question", .glo "cell_text", .glo "write_question", .glo "_law_numbers", .glo "_law_draw", .glo "_law_grid", .glo "_law_values", .glo "_law_commas", .glo "_law_part", .glo "_law_marks", .glo "_law_terms", .glo "_law_written", .glo "_law_number", .glo "_law_right", .glo "law", .glo "Table", .glo "Question", .free "isinstance", .free "int", .free "bool", .free "str", .free "tuple", .free "list", .free "set", .free "len", .free "all", .free "min", .free "max", .free "sum", .free "abs", .free "range", .free "zip", .free "enumerate", .free "sorted", .str "DIGITS" "0123456789", .int "MOST_SIZE" 8, .int "MOST_VALUES" 8, .str "PLUS" "+", .str "MINUS" "-", .str "TIMES" "*", .cls "Question", .noat "Question" "own_weights", .mkr "Table", .mkr "Question", .meth "Table" "turned", .meth "Table" "each", .meth "Table" "is_alike", .meth "Table" "__add__", .meth "Question" "__call__", .meth "Question" "turned", .meth "Question" "__add__", .meth "Question" "__sub__", .meth "Question" "__mul__", .meth "Question" "__neg__", .meth "Question" "__eq__"]
def xs (K : Frag) : List Bool := [plainGet K (He.ga K "Table") Str.empty,
  isClsIn K (He.ga K "Table"),
  plainOver K (He.ga K "Table"),
  He.eqO (findIn K (.ref (He.ga K "Table")) "__setattr__") (some (some (.builtin "object.__setattr__"))),
  He.eqO (findIn K (.ref (He.ga K "Table")) "__class__") (some (some (.builtin "object.__class__"))),
  decide (mroIn K (He.ga K "Table") (.type "object") = some true),
  selfFirst K (He.ga K "Table"),
  He.eqO (findIn K (.ref (He.ga K "Question")) "__class__") (some (some (.builtin "object.__class__"))),
  decide (mroIn K (He.ga K "Question") (.type "object") = some true),
  selfFirst K (He.ga K "Question"),
  He.eqO (specialIn K (.builtin "object.__class__") "__get__") (some (some (.builtin "getset_descriptor.__get__"))),
  decide (takesIn K (.builtin "object.__class__") = some true),
  He.eqO (findIn K (.ref (He.ga K "Table")) "own_counts") (some (some (.ref (He.ma K (He.ga K "Table") "own_counts")))),
  He.eqO (specialIn K (.ref (He.ma K (He.ga K "Table") "own_counts")) "__get__") (some (some (.builtin "member_descriptor.__get__"))),
  decide (takesIn K (.ref (He.ma K (He.ga K "Table") "own_counts")) = some true),
  decide (typeIn K (.ref (He.ma K (He.ga K "Table") "own_counts")) = some (.type "member_descriptor")),
  decide (slotIn K (He.ma K (He.ga K "Table") "own_counts") (He.ga K "Table") = some 0),
  He.eqO (findIn K (.ref (He.ga K "Table")) "own_left") (some (some (.ref (He.ma K (He.ga K "Table") "own_left")))),
  He.eqO (specialIn K (.ref (He.ma K (He.ga K "Table") "own_left")) "__get__") (some (some (.builtin "member_descriptor.__get__"))),
  decide (takesIn K (.ref (He.ma K (He.ga K "Table") "own_left")) = some true),
  decide (typeIn K (.ref (He.ma K (He.ga K "Table") "own_left")) = some (.type "member_descriptor")),
  decide (slotIn K (He.ma K (He.ga K "Table") "own_left") (He.ga K "Table") = some 1),
  He.eqO (findIn K (.ref (He.ga K "Table")) "own_right") (some (some (.ref (He.ma K (He.ga K "Table") "own_right")))),
  He.eqO (specialIn K (.ref (He.ma K (He.ga K "Table") "own_right")) "__get__") (some (some (.builtin "member_descriptor.__get__"))),
  decide (takesIn K (.ref (He.ma K (He.ga K "Table") "own_right")) = some true),
  decide (typeIn K (.ref (He.ma K (He.ga K "Table") "own_right")) = some (.type "member_descriptor")),
  decide (slotIn K (He.ma K (He.ga K "Table") "own_right") (He.ga K "Table") = some 2),
  He.eqO (findIn K (.ref (He.ga K "Question")) "__ne__") (some (some (.builtin "object.__ne__"))),
  He.eqO (findIn K (.ref (He.ga K "Table")) "counts") (some (some (.ref (He.ma K (He.ga K "Table") "counts")))),
  He.eqO (specialIn K (.ref (He.ma K (He.ga K "Table") "counts")) "__get__") (some (some (.builtin "property.__get__"))),
  decide (takesIn K (.ref (He.ma K (He.ga K "Table") "counts")) = some true),
  (match recIn K (He.ma K (He.ga K "Table") "counts") "property" with | some (.ref _ :: _) => true | _ => false),
  He.eqO (findIn K (.ref (He.ga K "Table")) "left") (some (some (.ref (He.ma K (He.ga K "Table") "left")))),
  He.eqO (specialIn K (.ref (He.ma K (He.ga K "Table") "left")) "__get__") (some (some (.builtin "property.__get__"))),
  decide (takesIn K (.ref (He.ma K (He.ga K "Table") "left")) = some true),
  (match recIn K (He.ma K (He.ga K "Table") "left") "property" with | some (.ref _ :: _) => true | _ => false),
  He.eqO (findIn K (.ref (He.ga K "Table")) "right") (some (some (.ref (He.ma K (He.ga K "Table") "right")))),
  He.eqO (specialIn K (.ref (He.ma K (He.ga K "Table") "right")) "__get__") (some (some (.builtin "property.__get__"))),
  decide (takesIn K (.ref (He.ma K (He.ga K "Table") "right")) = some true),
  (match recIn K (He.ma K (He.ga K "Table") "right") "property" with | some (.ref _ :: _) => true | _ => false),
  He5.wrapB K (He.ga K "Question") "classmethod" "classmethod.__get__" "at",
  fnIn K (He5.wf K (He.ga K "Question") "classmethod" "at"),
  He5.wrapB K (He.ga K "Question") "classmethod" "classmethod.__get__" "between",
  fnIn K (He5.wf K (He.ga K "Question") "classmethod" "between"),
  He.eqO (findIn K (.ref (He.ga K "Question")) "weights") (some (some (.ref (He.ma K (He.ga K "Question") "weights")))),
  He.eqO (specialIn K (.ref (He.ma K (He.ga K "Question") "weights")) "__get__") (some (some (.builtin "property.__get__"))),
  decide (takesIn K (.ref (He.ma K (He.ga K "Question") "weights")) = some true),
  (match recIn K (He.ma K (He.ga K "Question") "weights") "property" with | some (.ref _ :: _) => true | _ => false),
  He.eqO (findIn K (.ref (He.ga K "Question")) "left") (some (some (.ref (He.ma K (He.ga K "Question") "left")))),
  He.eqO (specialIn K (.ref (He.ma K (He.ga K "Question") "left")) "__get__") (some (some (.builtin "property.__get__"))),
  decide (takesIn K (.ref (He.ma K (He.ga K "Question") "left")) = some true),
  (match recIn K (He.ma K (He.ga K "Question") "left") "property" with | some (.ref _ :: _) => true | _ => false),
  He.eqO (findIn K (.ref (He.ga K "Question")) "right") (some (some (.ref (He.ma K (He.ga K "Question") "right")))),
  He.eqO (specialIn K (.ref (He.ma K (He.ga K "Question") "right")) "__get__") (some (some (.builtin "property.__get__"))),
  decide (takesIn K (.ref (He.ma K (He.ga K "Question") "right")) = some true),
  (match recIn K (He.ma K (He.ga K "Question") "right") "property" with | some (.ref _ :: _) => true | _ => false),
  readsIn K (He.ga K "Question") (.type "type"),
  He.eqO (specialIn K (.ref (He.ga K "Question")) "__getattribute__") (some (some (.builtin "type.__getattribute__"))),
  fnIn K (He.ma K (He.ga K "Question") "__call__"),
  He.eqO (findIn K (.ref (He.ga K "Question")) "__rmul__") (some none),
  (findIn K (.type "int") "__mul__").isSome,
  (findIn K (.type "int") "__rmul__").isSome,
  decide (subIn K (.type "int") (.ref (He.ga K "Question")) = some false)]
/-- what an object names, a class its dict alone -/
def refsQ (o : Obj) : List Addr := match o.data with
  | .seq its _ => its.toList.flatMap He.refV
  | .dict es _ => es.toList.flatMap fun e => He.refV e.val
  | .func fd => He.refV fd.code ++ He.refV fd.defaults
  | .cls cd => [cd.ns]
  | .fields vs => vs.toList.flatMap He.refV
  | _ => []
def growQ (g : Addr → Option Obj) (as : List Addr) : List Addr := as.flatMap fun a => match g a with
  | some o => refsQ o
  | none => []
def asQ (g : Addr → Option Obj) : Nat → List Addr → List Addr
  | 0, as => as ++ [cStatics]
  | n + 1, as => as ++ asQ g n (growQ g as)
abbrev AlQ : Type := Bool × He.AlD
def obsQ (K : Frag) : AlQ := ((xs K).all id, He5.obsA fa fn K)
def valQ : AlQ := (true, He5.valA fn)
def obsQG (g : Addr → Option Obj) : AlQ := obsQ (He.frG g (asQ g 5 [mainGlobals]))
def hk : Hook where
  α := AlQ
  obs := fun s => obsQG s.heap.get?
  val := fun _ => valQ
  says := fun _ h => ∃ K : Frag, K.In h ∧ obsQ K = valQ
  of := fun _ _ e => ⟨_, He.frG_in, e⟩
  keeps := fun _ _ _ ⟨K, hK, c⟩ k => ⟨K, Frag.In.keeps hK k, c⟩
def ob (s : SharedT) : AlQ := obsQG (HandSHeadRun.getT s)
theorem ob_eq (s : SharedT) : ob s = hk.obs s.abs := by
  have e : HandSHeadRun.getT s = s.abs.heap.get? := funext (HandSHeadRun.getT_eq s)
  show obsQG (HandSHeadRun.getT s) = obsQG s.abs.heap.get?
  rw [e]
theorem run (w : World) : HandSHeadRun.RunEq R qv hk ob 6000 names w := by
  intro os
  kernel_rfl
end QH
set_option Elab.async false
set_option linter.all false
set_option maxRecDepth 100000
set_option maxHeartbeats 4000000
namespace QH
open PySem PySem.Spec PyProof.Rows L2 Q
theorem rc_ok {K : PySem.W.Frag} {C : Addr} {T : String} {m : Str} (h : (match PySem.W.recIn K (He.ma K C m) T with | some (.ref _ :: _) => true | _ => false) = true) : ∃ rest, PySem.W.recIn K (He.ma K C m) T = some (.ref (He5.wf K C T m) :: rest) := by
  unfold He5.wf
  split at h
  · rename_i f r e
    exact ⟨r, by rw [e]⟩
  · cases h
section
variable {P : Program} {w : World} {K : PySem.W.Frag} {mg : Str → Option Value} {base : Heap} {k : Nat} {x q : Str} {sp : Sp} {st : Stmt} {dvs : List V} {f : Addr} {fd : FuncData} {ps : List Str}
theorem mkCl (F : FunD K x q (defArgs st) (defBody st) (defScope st) dvs [] f fd) (g : mg x = some (.ref f)) (b : Binds K fd ps []) (ok : FnOk P w K mg base CX0 k f fd ps sp) : Cl P w K mg base k x sp := ⟨⟨f, fd, ps, ok, g, F.kp, b⟩⟩
theorem xk (c : obsQ K = valQ) (i : Nat) {b : Bool} (h : (xs K)[i]? = some b) : b = true := List.all_eq_true.mp (show (xs K).all id = true from congrArg Prod.fst c) b (List.mem_of_getElem? h)
theorem ck (c : obsQ K = valQ) : He5.SaysA fa fn K := congrArg Prod.snd c

variable {h : Heap}
theorem tx_of (X : K.In h) (G : h.Ns mainGlobals mg) (c : obsQ K = valQ) : Tx K mg :=
  ⟨He.free_ok X G ((ck c).fact 40 (f := .free "isinstance") rfl),
   He.free_ok X G ((ck c).fact 41 (f := .free "int") rfl),
   He.free_ok X G ((ck c).fact 42 (f := .free "bool") rfl),
   He.free_ok X G ((ck c).fact 43 (f := .free "str") rfl),
   He.free_ok X G ((ck c).fact 44 (f := .free "tuple") rfl),
   He.free_ok X G ((ck c).fact 45 (f := .free "list") rfl),
   He.free_ok X G ((ck c).fact 46 (f := .free "set") rfl),
   He.free_ok X G ((ck c).fact 47 (f := .free "len") rfl),
   He.free_ok X G ((ck c).fact 48 (f := .free "all") rfl),
   He.free_ok X G ((ck c).fact 49 (f := .free "min") rfl),
   He.free_ok X G ((ck c).fact 50 (f := .free "max") rfl),
   He.free_ok X G ((ck c).fact 51 (f := .free "sum") rfl),
   He.free_ok X G ((ck c).fact 52 (f := .free "abs") rfl),
   He.free_ok X G ((ck c).fact 53 (f := .free "range") rfl),
   He.free_ok X G ((ck c).fact 54 (f := .free "zip") rfl),
   He.free_ok X G ((ck c).fact 55 (f := .free "enumerate") rfl),
   He.free_ok X G ((ck c).fact 56 (f := .free "sorted") rfl),
   (let ⟨t, e⟩ := He.str_ok X G ((ck c).fact 57 (f := .str "DIGITS" "0123456789") rfl); ⟨_, e, t, rfl⟩),
   (let ⟨t, e⟩ := He.int_ok X G ((ck c).fact 58 (f := .int "MOST_SIZE" 8) rfl); ⟨_, e, t, rfl⟩),
   (let ⟨t, e⟩ := He.int_ok X G ((ck c).fact 59 (f := .int "MOST_VALUES" 8) rfl); ⟨_, e, t, rfl⟩),
   (let ⟨t, e⟩ := He.str_ok X G ((ck c).fact 60 (f := .str "PLUS" "+") rfl); ⟨_, e, t, rfl⟩),
   (let ⟨t, e⟩ := He.str_ok X G ((ck c).fact 61 (f := .str "MINUS" "-") rfl); ⟨_, e, t, rfl⟩),
   (let ⟨t, e⟩ := He.str_ok X G ((ck c).fact 62 (f := .str "TIMES" "*") rfl); ⟨_, e, t, rfl⟩)⟩
theorem kit_self {C : Addr} : PySem.W.kitOne K (.ref C) (.ref C) = some true := by unfold PySem.W.kitOne; rw [if_pos (beq_self_eq_true _)]
theorem tc_of (c : obsQ K = valQ) : TabC K (He.ga K "Table") :=
  ⟨⟨(xk c 0 rfl), (xk c 1 rfl), (xk c 2 rfl), (He.eqO_ok (xk c 3 rfl))⟩, ⟨(He.eqO_ok (xk c 4 rfl)), (He.eqO_ok (xk c 10 rfl)), (of_decide_eq_true (xk c 11 rfl)), (of_decide_eq_true (xk c 5 rfl))⟩,
   ⟨_, (He.eqO_ok (xk c 12 rfl)), (He.eqO_ok (xk c 13 rfl)), (of_decide_eq_true (xk c 14 rfl)), (of_decide_eq_true (xk c 15 rfl)), (of_decide_eq_true (xk c 16 rfl)), by decide⟩,
   ⟨_, (He.eqO_ok (xk c 17 rfl)), (He.eqO_ok (xk c 18 rfl)), (of_decide_eq_true (xk c 19 rfl)), (of_decide_eq_true (xk c 20 rfl)), (of_decide_eq_true (xk c 21 rfl)), by decide⟩,
   ⟨_, (He.eqO_ok (xk c 22 rfl)), (He.eqO_ok (xk c 23 rfl)), (of_decide_eq_true (xk c 24 rfl)), (of_decide_eq_true (xk c 25 rfl)), (of_decide_eq_true (xk c 26 rfl)), by decide⟩, kit_self, (xk c 6 rfl)⟩
theorem qc_of (c : obsQ K = valQ) : QueC K (He.ga K "Question") :=
  ⟨He.cls_ok ((ck c).fact 63 (f := .cls "Question") rfl), He.noat_ok ((ck c).fact 64 (f := .noat "Question" "own_weights") rfl), ⟨(He.eqO_ok (xk c 7 rfl)), (He.eqO_ok (xk c 10 rfl)), (of_decide_eq_true (xk c 11 rfl)), (of_decide_eq_true (xk c 8 rfl))⟩, kit_self, (xk c 9 rfl), (He.eqO_ok (xk c 27 rfl))⟩
theorem po_Table_counts (c : obsQ K = valQ) : PropOf K (He.ga K "Table") "counts" (He.ma K (He.ga K "Table") "counts") (He5.wf K (He.ga K "Table") "property" "counts") := ⟨(He.eqO_ok (xk c 28 rfl)), (He.eqO_ok (xk c 29 rfl)), (of_decide_eq_true (xk c 30 rfl)), rc_ok (xk c 31 rfl)⟩
theorem po_Table_left (c : obsQ K = valQ) : PropOf K (He.ga K "Table") "left" (He.ma K (He.ga K "Table") "left") (He5.wf K (He.ga K "Table") "property" "left") := ⟨(He.eqO_ok (xk c 32 rfl)), (He.eqO_ok (xk c 33 rfl)), (of_decide_eq_true (xk c 34 rfl)), rc_ok (xk c 35 rfl)⟩
theorem po_Table_right (c : obsQ K = valQ) : PropOf K (He.ga K "Table") "right" (He.ma K (He.ga K "Table") "right") (He5.wf K (He.ga K "Table") "property" "right") := ⟨(He.eqO_ok (xk c 36 rfl)), (He.eqO_ok (xk c 37 rfl)), (of_decide_eq_true (xk c 38 rfl)), rc_ok (xk c 39 rfl)⟩
theorem po_Question_weights (c : obsQ K = valQ) : PropOf K (He.ga K "Question") "weights" (He.ma K (He.ga K "Question") "weights") (He5.wf K (He.ga K "Question") "property" "weights") := ⟨(He.eqO_ok (xk c 44 rfl)), (He.eqO_ok (xk c 45 rfl)), (of_decide_eq_true (xk c 46 rfl)), rc_ok (xk c 47 rfl)⟩
theorem po_Question_left (c : obsQ K = valQ) : PropOf K (He.ga K "Question") "left" (He.ma K (He.ga K "Question") "left") (He5.wf K (He.ga K "Question") "property" "left") := ⟨(He.eqO_ok (xk c 48 rfl)), (He.eqO_ok (xk c 49 rfl)), (of_decide_eq_true (xk c 50 rfl)), rc_ok (xk c 51 rfl)⟩
theorem po_Question_right (c : obsQ K = valQ) : PropOf K (He.ga K "Question") "right" (He.ma K (He.ga K "Question") "right") (He5.wf K (He.ga K "Question") "property" "right") := ⟨(He.eqO_ok (xk c 52 rfl)), (He.eqO_ok (xk c 53 rfl)), (of_decide_eq_true (xk c 54 rfl)), rc_ok (xk c 55 rfl)⟩
theorem cm_at (c : obsQ K = valQ) : ClX.CRead K (He.ga K "Question") (.type "type") ∧ ClX.CMet K (He.ga K "Question") (.type "type") "at" (He.ma K (He.ga K "Question") "at") (He5.wf K (He.ga K "Question") "classmethod" "at") := ⟨⟨(xk c 56 rfl), (He.eqO_ok (xk c 57 rfl))⟩, He5.cmet_of (xk c 40 rfl) (xk c 41 rfl)⟩
theorem cm_between (c : obsQ K = valQ) : ClX.CRead K (He.ga K "Question") (.type "type") ∧ ClX.CMet K (He.ga K "Question") (.type "type") "between" (He.ma K (He.ga K "Question") "between") (He5.wf K (He.ga K "Question") "classmethod" "between") := ⟨⟨(xk c 56 rfl), (He.eqO_ok (xk c 57 rfl))⟩, He5.cmet_of (xk c 42 rfl) (xk c 43 rfl)⟩
theorem mt_Table_turned (c : obsQ K = valQ) : Meth K (He.ga K "Table") "turned" (He.ma K (He.ga K "Table") "turned") := He.meth_ok ((ck c).fact 67 (f := .meth "Table" "turned") rfl)
theorem mt_Table_each (c : obsQ K = valQ) : Meth K (He.ga K "Table") "each" (He.ma K (He.ga K "Table") "each") := He.meth_ok ((ck c).fact 68 (f := .meth "Table" "each") rfl)
theorem mt_Table_is_alike (c : obsQ K = valQ) : Meth K (He.ga K "Table") "is_alike" (He.ma K (He.ga K "Table") "is_alike") := He.meth_ok ((ck c).fact 69 (f := .meth "Table" "is_alike") rfl)
theorem mt_Table_add (c : obsQ K = valQ) : Meth K (He.ga K "Table") "__add__" (He.ma K (He.ga K "Table") "__add__") := He.meth_ok ((ck c).fact 70 (f := .meth "Table" "__add__") rfl)
theorem mt_Question_call (c : obsQ K = valQ) : Meth K (He.ga K "Question") "__call__" (He.ma K (He.ga K "Question") "__call__") := He.meth_ok ((ck c).fact 71 (f := .meth "Question" "__call__") rfl)
theorem mt_Question_turned (c : obsQ K = valQ) : Meth K (He.ga K "Question") "turned" (He.ma K (He.ga K "Question") "turned") := He.meth_ok ((ck c).fact 72 (f := .meth "Question" "turned") rfl)
theorem mt_Question_add (c : obsQ K = valQ) : Meth K (He.ga K "Question") "__add__" (He.ma K (He.ga K "Question") "__add__") := He.meth_ok ((ck c).fact 73 (f := .meth "Question" "__add__") rfl)
theorem mt_Question_sub (c : obsQ K = valQ) : Meth K (He.ga K "Question") "__sub__" (He.ma K (He.ga K "Question") "__sub__") := He.meth_ok ((ck c).fact 74 (f := .meth "Question" "__sub__") rfl)
theorem mt_Question_mul (c : obsQ K = valQ) : Meth K (He.ga K "Question") "__mul__" (He.ma K (He.ga K "Question") "__mul__") := He.meth_ok ((ck c).fact 75 (f := .meth "Question" "__mul__") rfl)
theorem mt_Question_neg (c : obsQ K = valQ) : Meth K (He.ga K "Question") "__neg__" (He.ma K (He.ga K "Question") "__neg__") := He.meth_ok ((ck c).fact 76 (f := .meth "Question" "__neg__") rfl)
theorem mt_Question_eq (c : obsQ K = valQ) : Meth K (He.ga K "Question") "__eq__" (He.ma K (He.ga K "Question") "__eq__") := He.meth_ok ((ck c).fact 77 (f := .meth "Question" "__eq__") rfl)
end
theorem bind_count {K : PySem.W.Frag} {f : Addr} {fd : FuncData} (F : FunD K "is_count" "is_count" (defArgs s_is_count) (defBody s_is_count) (defScope s_is_count) [.int 0] [] f fd) : Binds K fd ["value", "least"] [] := by
  obtain ⟨ds, v, b⟩ := F.binds1 (ps := ["value", "least"]) 2 1 (List.cons_ne_nil _ _) rfl fun T kV doc pm an cdv ct us its hu hi => match us, hu, its, hi with
    | [_, _], _, [_], _ => ⟨_, rfl, rfl⟩
  cases v
  exact b
theorem facts {P : Program} {w : World} {K : PySem.W.Frag} {h : Heap} {mg : Str → Option Value} {f : Addr} (X : K.In h) (G : h.Ns mainGlobals mg) (hfa : mg ("law" : Str) = some (.ref f)) (c : obsQ K = valQ) :
    ∃ fd : FuncData, (∀ (s : Shared) (v : Value), BindsTo s fd ⟨[v], []⟩ [("_law_script", v)]) ∧ ∀ base : Heap, K.In base → base.Ns mainGlobals mg → FnOk P w K mg base CX0 10 f fd ["_law_script"] (sp_law K) := by
  have T := tx_of X G c
  have TC := tc_of c
  have QC := qc_of c
  have hct : mg ("Table" : Str) = some (.ref (He.ga K "Table")) := (He.glo_ok X G ((ck c).fact 38 (f := .glo "Table") rfl))
  have hcq : mg ("Question" : Str) = some (.ref (He.ga K "Question")) := (He.glo_ok X G ((ck c).fact 39 (f := .glo "Question") rfl))
  obtain ⟨fd_is_integer, F_is_integer⟩ : ∃ fd, Dm K "is_integer" (topS 12) (He.ga K "is_integer") fd := (ck c).def_ 0 (d := D_0) rfl
  obtain ⟨fd_is_between, F_is_between⟩ : ∃ fd, Dm K "is_between" (topS 14) (He.ga K "is_between") fd := (ck c).def_ 2 (d := D_2) rfl
  obtain ⟨fd_is_grid, F_is_grid⟩ : ∃ fd, Dm K "is_grid" (topS 16) (He.ga K "is_grid") fd := (ck c).def_ 3 (d := D_3) rfl
  obtain ⟨fd_check_size, F_check_size⟩ : ∃ fd, Dm K "check_size" (topS 17) (He.ga K "check_size") fd := (ck c).def_ 4 (d := D_4) rfl
  obtain ⟨fd_integer_in, F_integer_in⟩ : ∃ fd, Dm K "integer_in" (topS 19) (He.ga K "integer_in") fd := (ck c).def_ 5 (d := D_5) rfl
  obtain ⟨fd_integers_in, F_integers_in⟩ : ∃ fd, Dm K "integers_in" (topS 20) (He.ga K "integers_in") fd := (ck c).def_ 6 (d := D_6) rfl
  obtain ⟨fd_is_counts, F_is_counts⟩ : ∃ fd, Dm K "is_counts" (topS 22) (He.ga K "is_counts") fd := (ck c).def_ 7 (d := D_7) rfl
  obtain ⟨fd_summed, F_summed⟩ : ∃ fd, Dm K "summed" (topS 23) (He.ga K "summed") fd := (ck c).def_ 8 (d := D_8) rfl
  obtain ⟨fd_require_sizes, F_require_sizes⟩ : ∃ fd, Dm K "require_sizes" (topS 28) (He.ga K "require_sizes") fd := (ck c).def_ 9 (d := D_9) rfl
  obtain ⟨fd_are_values, F_are_values⟩ : ∃ fd, Dm K "are_values" (topS 29) (He.ga K "are_values") fd := (ck c).def_ 10 (d := D_10) rfl
  obtain ⟨fd_is_where_in, F_is_where_in⟩ : ∃ fd, Dm K "is_where_in" (topS 30) (He.ga K "is_where_in") fd := (ck c).def_ 11 (d := D_11) rfl
  obtain ⟨fd_is_over, F_is_over⟩ : ∃ fd, Dm K "is_over" (topS 31) (He.ga K "is_over") fd := (ck c).def_ 12 (d := D_12) rfl
  obtain ⟨fd_is_where, F_is_where⟩ : ∃ fd, Dm K "is_where" (topS 32) (He.ga K "is_where") fd := (ck c).def_ 13 (d := D_13) rfl
  obtain ⟨fd_are_numbers, F_are_numbers⟩ : ∃ fd, Dm K "are_numbers" (topS 34) (He.ga K "are_numbers") fd := (ck c).def_ 14 (d := D_14) rfl
  obtain ⟨fd_where_of, F_where_of⟩ : ∃ fd, Dm K "where_of" (topS 37) (He.ga K "where_of") fd := (ck c).def_ 15 (d := D_15) rfl
  obtain ⟨fd_check_text, F_check_text⟩ : ∃ fd, Dm K "check_text" (topS 38) (He.ga K "check_text") fd := (ck c).def_ 16 (d := D_16) rfl
  obtain ⟨fd_terms_of, F_terms_of⟩ : ∃ fd, Dm K "terms_of" (topS 43) (He.ga K "terms_of") fd := (ck c).def_ 17 (d := D_17) rfl
  obtain ⟨fd_marks, F_marks⟩ : ∃ fd, Dm K "marks" (topS 44) (He.ga K "marks") fd := (ck c).def_ 18 (d := D_18) rfl
  obtain ⟨fd_block_of, F_block_of⟩ : ∃ fd, Dm K "block_of" (topS 45) (He.ga K "block_of") fd := (ck c).def_ 19 (d := D_19) rfl
  obtain ⟨fd_ends_of, F_ends_of⟩ : ∃ fd, Dm K "ends_of" (topS 46) (He.ga K "ends_of") fd := (ck c).def_ 20 (d := D_20) rfl
  obtain ⟨fd_part_of, F_part_of⟩ : ∃ fd, Dm K "part_of" (topS 47) (He.ga K "part_of") fd := (ck c).def_ 21 (d := D_21) rfl
  obtain ⟨fd_term_of, F_term_of⟩ : ∃ fd, Dm K "term_of" (topS 48) (He.ga K "term_of") fd := (ck c).def_ 22 (d := D_22) rfl
  obtain ⟨fd_read_question, F_read_question⟩ : ∃ fd, Dm K "read_question" (topS 49) (He.ga K "read_question") fd := (ck c).def_ 23 (d := D_23) rfl
  obtain ⟨fd_cell_text, F_cell_text⟩ : ∃ fd, Dm K "cell_text" (topS 50) (He.ga K "cell_text") fd := (ck c).def_ 24 (d := D_24) rfl
  obtain ⟨fd_write_question, F_write_question⟩ : ∃ fd, Dm K "write_question" (topS 51) (He.ga K "write_question") fd := (ck c).def_ 25 (d := D_25) rfl
  obtain ⟨fd__law_numbers, F__law_numbers⟩ : ∃ fd, Dm K "_law_numbers" (topS 53) (He.ga K "_law_numbers") fd := (ck c).def_ 26 (d := D_26) rfl
  obtain ⟨fd__law_draw, F__law_draw⟩ : ∃ fd, Dm K "_law_draw" (topS 54) (He.ga K "_law_draw") fd := (ck c).def_ 27 (d := D_27) rfl
  obtain ⟨fd__law_grid, F__law_grid⟩ : ∃ fd, Dm K "_law_grid" (topS 55) (He.ga K "_law_grid") fd := (ck c).def_ 28 (d := D_28) rfl
  obtain ⟨fd__law_values, F__law_values⟩ : ∃ fd, Dm K "_law_values" (topS 56) (He.ga K "_law_values") fd := (ck c).def_ 29 (d := D_29) rfl
  obtain ⟨fd__law_commas, F__law_commas⟩ : ∃ fd, Dm K "_law_commas" (topS 57) (He.ga K "_law_commas") fd := (ck c).def_ 30 (d := D_30) rfl
  obtain ⟨fd__law_part, F__law_part⟩ : ∃ fd, Dm K "_law_part" (topS 58) (He.ga K "_law_part") fd := (ck c).def_ 31 (d := D_31) rfl
  obtain ⟨fd__law_marks, F__law_marks⟩ : ∃ fd, Dm K "_law_marks" (topS 59) (He.ga K "_law_marks") fd := (ck c).def_ 32 (d := D_32) rfl
  obtain ⟨fd__law_terms, F__law_terms⟩ : ∃ fd, Dm K "_law_terms" (topS 60) (He.ga K "_law_terms") fd := (ck c).def_ 33 (d := D_33) rfl
  obtain ⟨fd__law_written, F__law_written⟩ : ∃ fd, Dm K "_law_written" (topS 61) (He.ga K "_law_written") fd := (ck c).def_ 34 (d := D_34) rfl
  obtain ⟨fd__law_number, F__law_number⟩ : ∃ fd, Dm K "_law_number" (topS 62) (He.ga K "_law_number") fd := (ck c).def_ 35 (d := D_35) rfl
  obtain ⟨fd__law_right, F__law_right⟩ : ∃ fd, Dm K "_law_right" (topS 63) (He.ga K "_law_right") fd := (ck c).def_ 36 (d := D_36) rfl
  obtain ⟨fd_is_count, F_is_count⟩ : ∃ fd, FunD K "is_count" "is_count" (defArgs (topS 13)) (defBody (topS 13)) (defScope (topS 13)) [.int 0] [] (He.ga K "is_count") fd := (ck c).def_ 1 (d := D_1) rfl
  obtain ⟨fd_law, F_law⟩ : ∃ fd, Dm K "law" (topS 64) (He.ga K "law") fd := (ck c).def_ 37 (d := D_37) rfl
  obtain ⟨fd_Table_init, F_Table_init⟩ : ∃ fd, Mm K "Table.__init__" "__init__" (tabS 1) (He.ma K (He.ga K "Table") "__init__") fd := (ck c).def_ 38 (d := D_38) rfl
  obtain ⟨fd_Table_counts, F_Table_counts⟩ : ∃ fd, Mm K "Table.counts" "counts" (tabS 3) (He5.wf K (He.ga K "Table") "property" "counts") fd := (ck c).def_ 39 (d := D_39) rfl
  obtain ⟨fd_Table_left, F_Table_left⟩ : ∃ fd, Mm K "Table.left" "left" (tabS 4) (He5.wf K (He.ga K "Table") "property" "left") fd := (ck c).def_ 40 (d := D_40) rfl
  obtain ⟨fd_Table_right, F_Table_right⟩ : ∃ fd, Mm K "Table.right" "right" (tabS 5) (He5.wf K (He.ga K "Table") "property" "right") fd := (ck c).def_ 41 (d := D_41) rfl
  obtain ⟨fd_Table_turned, F_Table_turned⟩ : ∃ fd, Mm K "Table.turned" "turned" (tabS 10) (He.ma K (He.ga K "Table") "turned") fd := (ck c).def_ 42 (d := D_42) rfl
  obtain ⟨fd_Table_each, F_Table_each⟩ : ∃ fd, Mm K "Table.each" "each" (tabS 11) (He.ma K (He.ga K "Table") "each") fd := (ck c).def_ 43 (d := D_43) rfl
  obtain ⟨fd_Table_is_alike, F_Table_is_alike⟩ : ∃ fd, Mm K "Table.is_alike" "is_alike" (tabS 12) (He.ma K (He.ga K "Table") "is_alike") fd := (ck c).def_ 44 (d := D_44) rfl
  obtain ⟨fd_Table_add, F_Table_add⟩ : ∃ fd, Mm K "Table.__add__" "__add__" (tabS 14) (He.ma K (He.ga K "Table") "__add__") fd := (ck c).def_ 45 (d := D_45) rfl
  obtain ⟨fd_Question_init, F_Question_init⟩ : ∃ fd, Mm K "Question.__init__" "__init__" (queS 0) (He.ma K (He.ga K "Question") "__init__") fd := (ck c).def_ 46 (d := D_46) rfl
  obtain ⟨fd_Question_at, F_Question_at⟩ : ∃ fd, Mm K "Question.at" "at" (queS 1) (He5.wf K (He.ga K "Question") "classmethod" "at") fd := (ck c).def_ 47 (d := D_47) rfl
  obtain ⟨fd_Question_between, F_Question_between⟩ : ∃ fd, Mm K "Question.between" "between" (queS 2) (He5.wf K (He.ga K "Question") "classmethod" "between") fd := (ck c).def_ 48 (d := D_48) rfl
  obtain ⟨fd_Question_weights, F_Question_weights⟩ : ∃ fd, Mm K "Question.weights" "weights" (queS 3) (He5.wf K (He.ga K "Question") "property" "weights") fd := (ck c).def_ 49 (d := D_49) rfl
  obtain ⟨fd_Question_left, F_Question_left⟩ : ∃ fd, Mm K "Question.left" "left" (queS 4) (He5.wf K (He.ga K "Question") "property" "left") fd := (ck c).def_ 50 (d := D_50) rfl
  obtain ⟨fd_Question_right, F_Question_right⟩ : ∃ fd, Mm K "Question.right" "right" (queS 5) (He5.wf K (He.ga K "Question") "property" "right") fd := (ck c).def_ 51 (d := D_51) rfl
  obtain ⟨fd_Question_call, F_Question_call⟩ : ∃ fd, Mm K "Question.__call__" "__call__" (queS 8) (He.ma K (He.ga K "Question") "__call__") fd := (ck c).def_ 52 (d := D_52) rfl
  obtain ⟨fd_Question_turned, F_Question_turned⟩ : ∃ fd, Mm K "Question.turned" "turned" (queS 9) (He.ma K (He.ga K "Question") "turned") fd := (ck c).def_ 53 (d := D_53) rfl
  obtain ⟨fd_Question_add, F_Question_add⟩ : ∃ fd, Mm K "Question.__add__" "__add__" (queS 10) (He.ma K (He.ga K "Question") "__add__") fd := (ck c).def_ 54 (d := D_54) rfl
  obtain ⟨fd_Question_sub, F_Question_sub⟩ : ∃ fd, Mm K "Question.__sub__" "__sub__" (queS 11) (He.ma K (He.ga K "Question") "__sub__") fd := (ck c).def_ 55 (d := D_55) rfl
  obtain ⟨fd_Question_mul, F_Question_mul⟩ : ∃ fd, Mm K "Question.__mul__" "__mul__" (queS 12) (He.ma K (He.ga K "Question") "__mul__") fd := (ck c).def_ 56 (d := D_56) rfl
  obtain ⟨fd_Question_neg, F_Question_neg⟩ : ∃ fd, Mm K "Question.__neg__" "__neg__" (queS 13) (He.ma K (He.ga K "Question") "__neg__") fd := (ck c).def_ 57 (d := D_57) rfl
  obtain ⟨fd_Question_eq, F_Question_eq⟩ : ∃ fd, Mm K "Question.__eq__" "__eq__" (queS 14) (He.ma K (He.ga K "Question") "__eq__") fd := (ck c).def_ 58 (d := D_58) rfl
  have e := hfa.symm.trans (He.glo_ok X G ((ck c).fact 37 (f := .glo "law") rfl))
  cases e
  have b := FunD.bindsA (ps := ["_law_script"]) F_law fun _ _ _ _ _ _ us hl => match us, hl with | [_], _ => rfl
  refine ⟨fd_law, fun s v => b s [v] rfl, fun base _ _ => ?_⟩
  have c_is_integer : Cl P w K mg base 1 "is_integer" sp_is_integer := mkCl F_is_integer (He.glo_ok X G ((ck c).fact 0 (f := .glo "is_integer") rfl)) ((F_is_integer.bindsN fun _ _ _ _ _ _ us hl => match us, hl with | [_], _ => rfl)) (ok_is_integer F_is_integer T)
  have c_is_count : Cl P w K mg base 2 "is_count" sp_is_count := mkCl F_is_count (He.glo_ok X G ((ck c).fact 1 (f := .glo "is_count") rfl)) (bind_count F_is_count) (ok_is_count F_is_count c_is_integer)
  have c_is_between : Cl P w K mg base 2 "is_between" sp_is_between := mkCl F_is_between (He.glo_ok X G ((ck c).fact 2 (f := .glo "is_between") rfl)) ((F_is_between.bindsN fun _ _ _ _ _ _ us hl => match us, hl with | [_, _, _], _ => rfl)) (ok_is_between F_is_between c_is_integer)
  have c_is_grid : Cl P w K mg base 2 "is_grid" sp_is_grid := mkCl F_is_grid (He.glo_ok X G ((ck c).fact 3 (f := .glo "is_grid") rfl)) ((F_is_grid.bindsN fun _ _ _ _ _ _ us hl => match us, hl with | [_], _ => rfl)) (ok_is_grid F_is_grid T c_is_integer)
  have c_check_size : Cl P w K mg base 3 "check_size" sp_check_size := mkCl F_check_size (He.glo_ok X G ((ck c).fact 4 (f := .glo "check_size") rfl)) ((F_check_size.bindsN fun _ _ _ _ _ _ us hl => match us, hl with | [_], _ => rfl)) (ok_check_size F_check_size T c_is_count)
  have c_integer_in : Cl P w K mg base 1 "integer_in" sp_integer_in := mkCl F_integer_in (He.glo_ok X G ((ck c).fact 5 (f := .glo "integer_in") rfl)) ((F_integer_in.bindsN fun _ _ _ _ _ _ us hl => match us, hl with | [_], _ => rfl)) (ok_integer_in F_integer_in T)
  have c_integers_in : Cl P w K mg base 2 "integers_in" sp_integers_in := mkCl F_integers_in (He.glo_ok X G ((ck c).fact 6 (f := .glo "integers_in") rfl)) ((F_integers_in.bindsN fun _ _ _ _ _ _ us hl => match us, hl with | [_], _ => rfl)) (ok_integers_in F_integers_in T c_integer_in)
  have c_is_counts : Cl P w K mg base 3 "is_counts" sp_is_counts := mkCl F_is_counts (He.glo_ok X G ((ck c).fact 7 (f := .glo "is_counts") rfl)) ((F_is_counts.bindsN fun _ _ _ _ _ _ us hl => match us, hl with | [_], _ => rfl)) (ok_is_counts F_is_counts T c_is_grid)
  have c_summed : Cl P w K mg base 1 "summed" sp_summed := mkCl F_summed (He.glo_ok X G ((ck c).fact 8 (f := .glo "summed") rfl)) ((F_summed.bindsN fun _ _ _ _ _ _ us hl => match us, hl with | [_, _, _], _ => rfl)) (ok_summed F_summed T)
  have K_T : MkC P w K mg base 4 (He.ga K "Table") "Table" (sp_tinit (He.ga K "Table")) := ⟨⟨_, He.mkr_ok ((ck c).fact 65 (f := .mkr "Table") rfl), fnr_of (ok_tinit F_Table_init T TC c_is_counts) (F_Table_init.bindsN fun _ _ _ _ _ _ us hl => match us, hl with | [_, _], _ => rfl)⟩, hct⟩
  have p_Table_counts : PrC P w K mg base 1 (He.ga K "Table") "counts" (sp_tget (He.ga K "Table") 0) := ⟨⟨_, _, _, _, po_Table_counts c, ok_tcounts F_Table_counts TC, (F_Table_counts.bindsN fun _ _ _ _ _ _ us hl => match us, hl with | [_], _ => rfl)⟩⟩
  have p_Table_left : PrC P w K mg base 1 (He.ga K "Table") "left" (sp_tget (He.ga K "Table") 1) := ⟨⟨_, _, _, _, po_Table_left c, ok_tleft F_Table_left TC, (F_Table_left.bindsN fun _ _ _ _ _ _ us hl => match us, hl with | [_], _ => rfl)⟩⟩
  have p_Table_right : PrC P w K mg base 1 (He.ga K "Table") "right" (sp_tget (He.ga K "Table") 2) := ⟨⟨_, _, _, _, po_Table_right c, ok_tright F_Table_right TC, (F_Table_right.bindsN fun _ _ _ _ _ _ us hl => match us, hl with | [_], _ => rfl)⟩⟩
  have m_tturned : MtC P w K mg base 6 (He.ga K "Table") "turned" (sp_tturned (He.ga K "Table")) := ⟨⟨_, mt_Table_turned c, fnr_of (ok_tturned F_Table_turned T TC K_T p_Table_right) (F_Table_turned.bindsN fun _ _ _ _ _ _ us hl => match us, hl with | [_], _ => rfl)⟩⟩
  have m_talike : MtC P w K mg base 3 (He.ga K "Table") "is_alike" (sp_talike (He.ga K "Table")) := ⟨⟨_, mt_Table_is_alike c, fnr_of (ok_talike F_Table_is_alike T TC hct p_Table_left p_Table_right) (F_Table_is_alike.bindsN fun _ _ _ _ _ _ us hl => match us, hl with | [_, _], _ => rfl)⟩⟩
  have o_tadd : OwC P w K mg base 6 (He.ga K "Table") (PySem.dunder Operator.Add.info.2) (sp_tadd (He.ga K "Table")) := ⟨⟨_, (mt_Table_add c).at_, (mt_Table_add c).fn, fnr_of (ok_tadd F_Table_add T TC K_T m_talike c_summed) (F_Table_add.bindsN fun _ _ _ _ _ _ us hl => match us, hl with | [_, _], _ => rfl)⟩⟩
  have g_each : GeC P w K mg base 1 (He.ga K "Table") "each" (sp_teach (He.ga K "Table")) := ⟨⟨_, _, _, mt_Table_each c, ok_teach F_Table_each T TC, (F_Table_each.bindsN fun _ _ _ _ _ _ us hl => match us, hl with | [_], _ => rfl)⟩⟩
  have c_require_sizes : Cl P w K mg base 3 "require_sizes" sp_require_sizes := mkCl F_require_sizes (He.glo_ok X G ((ck c).fact 9 (f := .glo "require_sizes") rfl)) ((F_require_sizes.bindsN fun _ _ _ _ _ _ us hl => match us, hl with | [_, _], _ => rfl)) (ok_require_sizes F_require_sizes T c_is_between)
  have c_are_values : Cl P w K mg base 3 "are_values" sp_are_values := mkCl F_are_values (He.glo_ok X G ((ck c).fact 10 (f := .glo "are_values") rfl)) ((F_are_values.bindsN fun _ _ _ _ _ _ us hl => match us, hl with | [_, _], _ => rfl)) (ok_are_values F_are_values T c_is_between)
  have c_is_where_in : Cl P w K mg base 4 "is_where_in" sp_is_where_in := mkCl F_is_where_in (He.glo_ok X G ((ck c).fact 11 (f := .glo "is_where_in") rfl)) ((F_is_where_in.bindsN fun _ _ _ _ _ _ us hl => match us, hl with | [_, _, _], _ => rfl)) (ok_is_where_in F_is_where_in T c_is_between c_are_values)
  have c_is_over : Cl P w K mg base 1 "is_over" sp_is_over := mkCl F_is_over (He.glo_ok X G ((ck c).fact 12 (f := .glo "is_over") rfl)) ((F_is_over.bindsN fun _ _ _ _ _ _ us hl => match us, hl with | [_, _, _], _ => rfl)) (ok_is_over F_is_over T)
  have c_is_where : Cl P w K mg base 5 "is_where" sp_is_where_in := mkCl F_is_where (He.glo_ok X G ((ck c).fact 13 (f := .glo "is_where") rfl)) ((F_is_where.bindsN fun _ _ _ _ _ _ us hl => match us, hl with | [_, _, _], _ => rfl)) (ok_is_where F_is_where T c_require_sizes c_is_where_in)
  have c_are_numbers : Cl P w K mg base 2 "are_numbers" sp_are_numbers := mkCl F_are_numbers (He.glo_ok X G ((ck c).fact 14 (f := .glo "are_numbers") rfl)) ((F_are_numbers.bindsN fun _ _ _ _ _ _ us hl => match us, hl with | [_], _ => rfl)) (ok_are_numbers F_are_numbers T c_is_integer)
  have M_Q := He.mkr_ok ((ck c).fact 66 (f := .mkr "Question") rfl)
  have i_Q : FnOk P w K mg base CX0 3 _ fd_Question_init ["self", "weights"] (sp_qinit (He.ga K "Question")) := ok_qinit F_Question_init T QC c_is_grid
  have bi_Q : Binds K fd_Question_init ["self", "weights"] [] := (F_Question_init.bindsN fun _ _ _ _ _ _ us hl => match us, hl with | [_, _], _ => rfl)
  have K_Q : MkC P w K mg base 3 (He.ga K "Question") "Question" (sp_qinit (He.ga K "Question")) := ⟨⟨_, M_Q, fnr_of i_Q bi_Q⟩, hcq⟩
  have a_at : CmC P w K mg base 5 (He.ga K "Question") "at" (sp_qat (He.ga K "Question")) := ⟨⟨_, _, _, (cm_at c).1, (cm_at c).2, fnr_of (ok_qat F_Question_at T QC M_Q i_Q bi_Q c_require_sizes c_is_where_in c_is_over) (F_Question_at.bindsN fun _ _ _ _ _ _ us hl => match us, hl with | [_, _, _, _], _ => rfl)⟩⟩
  have a_between : CmC P w K mg base 5 (He.ga K "Question") "between" (sp_qbetween (He.ga K "Question")) := ⟨⟨_, _, _, (cm_between c).1, (cm_between c).2, fnr_of (ok_qbetween F_Question_between T QC M_Q i_Q bi_Q c_are_numbers) (F_Question_between.bindsN fun _ _ _ _ _ _ us hl => match us, hl with | [_, _, _], _ => rfl)⟩⟩
  have p_Question_weights : PrC P w K mg base 1 (He.ga K "Question") "weights" (sp_qweights (He.ga K "Question")) := ⟨⟨_, _, _, _, po_Question_weights c, ok_qweights F_Question_weights QC, (F_Question_weights.bindsN fun _ _ _ _ _ _ us hl => match us, hl with | [_], _ => rfl)⟩⟩
  have p_Question_left : PrC P w K mg base 1 (He.ga K "Question") "left" (sp_qleft (He.ga K "Question")) := ⟨⟨_, _, _, _, po_Question_left c, ok_qleft F_Question_left T QC, (F_Question_left.bindsN fun _ _ _ _ _ _ us hl => match us, hl with | [_], _ => rfl)⟩⟩
  have p_Question_right : PrC P w K mg base 1 (He.ga K "Question") "right" (sp_qright (He.ga K "Question")) := ⟨⟨_, _, _, _, po_Question_right c, ok_qright F_Question_right T QC, (F_Question_right.bindsN fun _ _ _ _ _ _ us hl => match us, hl with | [_], _ => rfl)⟩⟩
  have o_call : CoC P w K mg base 3 (He.ga K "Question") (sp_qcall (He.ga K "Question") (He.ga K "Table")) := ⟨⟨_, ⟨(mt_Question_call c).at_, (mt_Question_call c).fn, (xk c 58 rfl)⟩, fnr_of (ok_qcall F_Question_call T QC TC hct p_Table_left p_Table_right p_Table_counts p_Question_left p_Question_right) (F_Question_call.bindsN fun _ _ _ _ _ _ us hl => match us, hl with | [_, _], _ => rfl)⟩⟩
  have t_turn : ∃ g fd ps, Meth K (He.ga K "Question") "turned" g ∧ FnOk P w K mg base CX0 5 g fd ps (sp_qturned (He.ga K "Question")) ∧ Binds K fd ps [] := ⟨_, _, _, mt_Question_turned c, ok_qturned F_Question_turned T QC K_Q p_Question_right, (F_Question_turned.bindsN fun _ _ _ _ _ _ us hl => match us, hl with | [_], _ => rfl)⟩
  have o_add : OwC P w K mg base 5 (He.ga K "Question") (PySem.dunder Operator.Add.info.2) (sp_qop (He.ga K "Question") (· + ·)) := ⟨⟨_, (mt_Question_add c).at_, (mt_Question_add c).fn, fnr_of (ok_qadd F_Question_add T QC K_Q) (F_Question_add.bindsN fun _ _ _ _ _ _ us hl => match us, hl with | [_, _], _ => rfl)⟩⟩
  have o_sub : OwC P w K mg base 5 (He.ga K "Question") (PySem.dunder Operator.Sub.info.2) (sp_qop (He.ga K "Question") (· - ·)) := ⟨⟨_, (mt_Question_sub c).at_, (mt_Question_sub c).fn, fnr_of (ok_qsub F_Question_sub T QC K_Q) (F_Question_sub.bindsN fun _ _ _ _ _ _ us hl => match us, hl with | [_, _], _ => rfl)⟩⟩
  have o_neg : OwC P w K mg base 5 (He.ga K "Question") "__neg__" (sp_qneg (He.ga K "Question")) := ⟨⟨_, (mt_Question_neg c).at_, (mt_Question_neg c).fn, fnr_of (ok_qneg F_Question_neg T QC K_Q) (F_Question_neg.bindsN fun _ _ _ _ _ _ us hl => match us, hl with | [_], _ => rfl)⟩⟩
  have o_eq : OwC P w K mg base 1 (He.ga K "Question") "__eq__" (sp_qeq (He.ga K "Question")) := ⟨⟨_, (mt_Question_eq c).at_, (mt_Question_eq c).fn, fnr_of (ok_qeq F_Question_eq T QC hcq) (F_Question_eq.bindsN fun _ _ _ _ _ _ us hl => match us, hl with | [_, _], _ => rfl)⟩⟩
  have o_mul : MuI P w K mg base 5 (He.ga K "Question") (sp_qmul (He.ga K "Question")) := by
    obtain ⟨fo, h5⟩ := Option.isSome_iff_exists.mp (xk c 60 rfl)
    obtain ⟨ro, h6⟩ := Option.isSome_iff_exists.mp (xk c 61 rfl)
    exact ⟨⟨_, fo, ro, none, (mt_Question_mul c).at_, (mt_Question_mul c).fn, (He.eqO_ok (xk c 59 rfl)), .inl rfl, h5, h6, (of_decide_eq_true (xk c 62 rfl)), fnr_of (ok_qmul F_Question_mul T QC K_Q c_is_integer) (F_Question_mul.bindsN fun _ _ _ _ _ _ us hl => match us, hl with | [_, _], _ => rfl)⟩⟩
  have c_where_of : Cl P w K mg base 3 "where_of" sp_where_of := mkCl F_where_of (He.glo_ok X G ((ck c).fact 15 (f := .glo "where_of") rfl)) ((F_where_of.bindsN fun _ _ _ _ _ _ us hl => match us, hl with | [_], _ => rfl)) (ok_where_of F_where_of T c_integer_in c_integers_in)
  have c_check_text : Cl P w K mg base 1 "check_text" sp_check_text := mkCl F_check_text (He.glo_ok X G ((ck c).fact 16 (f := .glo "check_text") rfl)) ((F_check_text.bindsN fun _ _ _ _ _ _ us hl => match us, hl with | [_], _ => rfl)) (ok_check_text F_check_text T)
  have c_marks : Cl P w K mg base 1 "marks" sp_marks := mkCl F_marks (He.glo_ok X G ((ck c).fact 18 (f := .glo "marks") rfl)) ((F_marks.bindsN fun _ _ _ _ _ _ us hl => match us, hl with | [_, _], _ => rfl)) (ok_marks F_marks T)
  have c_block_of : Cl P w K mg base 6 "block_of" (sp_block_of (He.ga K "Question")) := mkCl F_block_of (He.glo_ok X G ((ck c).fact 19 (f := .glo "block_of") rfl)) ((F_block_of.bindsN fun _ _ _ _ _ _ us hl => match us, hl with | [_, _, _, _], _ => rfl)) (ok_block_of F_block_of T hcq c_where_of c_is_where c_marks a_between)
  have c_ends_of : Cl P w K mg base 6 "ends_of" (sp_ends_of (He.ga K "Question")) := mkCl F_ends_of (He.glo_ok X G ((ck c).fact 20 (f := .glo "ends_of") rfl)) ((F_ends_of.bindsN fun _ _ _ _ _ _ us hl => match us, hl with | [_, _, _, _], _ => rfl)) (ok_ends_of F_ends_of T hcq c_integers_in a_between)
  have c_part_of : Cl P w K mg base 7 "part_of" (sp_part_of (He.ga K "Question")) := mkCl F_part_of (He.glo_ok X G ((ck c).fact 21 (f := .glo "part_of") rfl)) ((F_part_of.bindsN fun _ _ _ _ _ _ us hl => match us, hl with | [_, _, _], _ => rfl)) (ok_part_of F_part_of T hcq c_block_of c_ends_of c_where_of c_is_where a_at)
  have c_term_of : Cl P w K mg base 8 "term_of" (sp_term_of (He.ga K "Question")) := mkCl F_term_of (He.glo_ok X G ((ck c).fact 22 (f := .glo "term_of") rfl)) ((F_term_of.bindsN fun _ _ _ _ _ _ us hl => match us, hl with | [_, _, _], _ => rfl)) (ok_term_of F_term_of T QC c_part_of c_integer_in o_mul)
  have c_terms_of : Cl P w K mg base 1 "terms_of" sp_terms_of := mkCl F_terms_of (He.glo_ok X G ((ck c).fact 17 (f := .glo "terms_of") rfl)) ((F_terms_of.bindsN fun _ _ _ _ _ _ us hl => match us, hl with | [_], _ => rfl)) (ok_terms_of F_terms_of T)
  have c_read_question : Cl P w K mg base 9 "read_question" (sp_read (He.ga K "Question")) := mkCl F_read_question (He.glo_ok X G ((ck c).fact 23 (f := .glo "read_question") rfl)) ((F_read_question.bindsN fun _ _ _ _ _ _ us hl => match us, hl with | [_, _, _], _ => rfl)) (ok_read F_read_question T QC hcq c_check_size c_check_text a_at o_mul o_add c_terms_of c_term_of)
  have c_cell_text : Cl P w K mg base 1 "cell_text" sp_cell := mkCl F_cell_text (He.glo_ok X G ((ck c).fact 24 (f := .glo "cell_text") rfl)) ((F_cell_text.bindsN fun _ _ _ _ _ _ us hl => match us, hl with | [_, _, _], _ => rfl)) (ok_cell F_cell_text T)
  have c_write_question : Cl P w K mg base 3 "write_question" (sp_write (He.ga K "Question")) := mkCl F_write_question (He.glo_ok X G ((ck c).fact 25 (f := .glo "write_question") rfl)) ((F_write_question.bindsN fun _ _ _ _ _ _ us hl => match us, hl with | [_], _ => rfl)) (ok_write F_write_question T QC p_Question_weights c_cell_text)
  have c__law_numbers : Cl P w K mg base 1 "_law_numbers" sp_numbers := mkCl F__law_numbers (He.glo_ok X G ((ck c).fact 26 (f := .glo "_law_numbers") rfl)) ((F__law_numbers.bindsN fun _ _ _ _ _ _ us hl => match us, hl with | [_, _, _], _ => rfl)) (ok_numbers F__law_numbers T)
  have c__law_draw : Cl P w K mg base 1 "_law_draw" sp_draw := mkCl F__law_draw (He.glo_ok X G ((ck c).fact 27 (f := .glo "_law_draw") rfl)) ((F__law_draw.bindsN fun _ _ _ _ _ _ us hl => match us, hl with | [_, _], _ => rfl)) (ok_draw F__law_draw T)
  have c__law_grid : Cl P w K mg base 2 "_law_grid" sp_lgrid := mkCl F__law_grid (He.glo_ok X G ((ck c).fact 28 (f := .glo "_law_grid") rfl)) ((F__law_grid.bindsN fun _ _ _ _ _ _ us hl => match us, hl with | [_, _, _, _], _ => rfl)) (ok_lgrid F__law_grid T c__law_draw)
  have c__law_values : Cl P w K mg base 2 "_law_values" sp_values := mkCl F__law_values (He.glo_ok X G ((ck c).fact 29 (f := .glo "_law_values") rfl)) ((F__law_values.bindsN fun _ _ _ _ _ _ us hl => match us, hl with | [_, _], _ => rfl)) (ok_values F__law_values T c__law_draw)
  have c__law_commas : Cl P w K mg base 1 "_law_commas" sp_lcommas := mkCl F__law_commas (He.glo_ok X G ((ck c).fact 30 (f := .glo "_law_commas") rfl)) ((F__law_commas.bindsN fun _ _ _ _ _ _ us hl => match us, hl with | [_], _ => rfl)) (ok_lcommas F__law_commas T)
  have c__law_marks : Cl P w K mg base 1 "_law_marks" sp_lmarks := mkCl F__law_marks (He.glo_ok X G ((ck c).fact 32 (f := .glo "_law_marks") rfl)) ((F__law_marks.bindsN fun _ _ _ _ _ _ us hl => match us, hl with | [_, _], _ => rfl)) (ok_lmarks F__law_marks T)
  have c__law_part : Cl P w K mg base 3 "_law_part" sp_lpart := mkCl F__law_part (He.glo_ok X G ((ck c).fact 31 (f := .glo "_law_part") rfl)) ((F__law_part.bindsN fun _ _ _ _ _ _ us hl => match us, hl with | [_, _, _], _ => rfl)) (ok_lpart F__law_part T c__law_draw c__law_values c__law_commas c__law_marks)
  have c__law_terms : Cl P w K mg base 4 "_law_terms" sp_lterms := mkCl F__law_terms (He.glo_ok X G ((ck c).fact 33 (f := .glo "_law_terms") rfl)) ((F__law_terms.bindsN fun _ _ _ _ _ _ us hl => match us, hl with | [_, _, _, _], _ => rfl)) (ok_lterms F__law_terms T c__law_draw c__law_part)
  have c__law_written : Cl P w K mg base 1 "_law_written" sp_lwritten := mkCl F__law_written (He.glo_ok X G ((ck c).fact 34 (f := .glo "_law_written") rfl)) ((F__law_written.bindsN fun _ _ _ _ _ _ us hl => match us, hl with | [_], _ => rfl)) (ok_lwritten F__law_written T)
  have c__law_number : Cl P w K mg base 5 "_law_number" (sp_lnumber (He.ga K "Table")) := mkCl F__law_number (He.glo_ok X G ((ck c).fact 35 (f := .glo "_law_number") rfl)) ((F__law_number.bindsN fun _ _ _ _ _ _ us hl => match us, hl with | [_, _], _ => rfl)) (ok_lnumber F__law_number T TC g_each)
  have c__law_right : Cl P w K mg base 7 "_law_right" (sp_lright (He.ga K "Question") (He.ga K "Table")) := mkCl F__law_right (He.glo_ok X G ((ck c).fact 36 (f := .glo "_law_right") rfl)) ((F__law_right.bindsN fun _ _ _ _ _ _ us hl => match us, hl with | [_, _, _], _ => rfl)) (ok_lright F__law_right T TC QC ⟨o_call, o_add, o_sub, o_neg, o_mul, t_turn, m_tturned, o_tadd⟩ c__law_number)
  exact ok_law F_law T TC QC ⟨c__law_numbers, c__law_draw, c__law_terms, c_read_question, c__law_written, c_write_question, K_T, c__law_grid, c__law_right, o_call, o_eq, (of_decide_eq_true (xk c 8 rfl)), p_Question_weights⟩
end QH
set_option Elab.async false
set_option linter.all false
set_option maxRecDepth 100000
set_option maxHeartbeats 0
open PySem PySem.W PySem.Calls PyProof.Rows
theorem PySem.Challenge.cw_surecounts_k93_whole_questions_as_texts_holds : PySem.Challenge.rw_surecounts_k93_whole_questions_as_texts.Holds := by
  w_on; o_law
  refine HandSHeadRun.head_any (r := OpenLaw.row PySem.Challenge.rw_surecounts_k93_whole_questions_as_texts) (q := view (OpenLaw.row PySem.Challenge.rw_surecounts_k93_whole_questions_as_texts).prog [64]) (H := QH.hk) (ob := QH.ob) (M := 6000) (loose := QH.names) (d := HandSHeadRun.topDef (OpenLaw.row PySem.Challenge.rw_surecounts_k93_whole_questions_as_texts).prog 64) (kwd := []) QH.ob_eq
    (by kernel_rfl) (fun s => by kernel_rfl) QH.run (by kernel_rfl) (by kernel_rfl) (by kernel_rfl) (by rfl) (by first | assumption | decide +kernel) (by decide +kernel) ⟨rfl, rfl, rfl, rfl, rfl, by decide +kernel⟩ ?hw ?hc
  case hw => w_witness2
  case hc =>
    refine L2.walk_ofE (l := PySem.Challenge.rw_surecounts_k93_whole_questions_as_texts) (n := 63) (k := 10) (x := "_law_script") (CX := L2.CX0) rfl (by decide) (by kernel_rfl) ⟨rfl, by decide, by decide⟩ ?F (fun _ _ _ _ z => z)
    intro w mg fa h Y G hmg0
    obtain ⟨K, KX, c⟩ := Y
    have hmg : mg ("law" : PySem.Str) = some (.ref fa) := by
      have e : (HandSHeadRun.topDef (OpenLaw.row PySem.Challenge.rw_surecounts_k93_whole_questions_as_texts).prog 64).name = ("law" : PySem.Str) := by kernel_rfl
      rw [← e]
      exact hmg0
    obtain ⟨fd, hb, hF⟩ := QH.facts (P := (PySem.Challenge.rw_surecounts_k93_whole_questions_as_texts).prog) (w := w) KX G hmg c
    exact ⟨K, fd, Q.sp_law K, KX, hb, fun H a ns hl _ hS => ⟨a, ns, rfl, hS, hl, fun _ => rfl⟩, hF⟩
