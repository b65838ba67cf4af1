import PyProof.Rows.All
import Wide.All
import OpenK.AllK
import Wide.FinOn
import KE.KStateDown
import KE.KOpsOwn
import HandS.ForMost
import HandS.IsInst
import HandS.Slots
import HandS.SlotsOwn
import HandS.TupMul
import HandS.Deep
import HandS.Conv
import HandS.NoneIn
import HandS.Star
import HandS.More
import HandS.Wide
import HandS.Replace
import HandS.Exc
import HandS.ExcOwn
import HandS.TryOnly
import HandS.WordsExc
import HandS.Lambda
import HandS.EndBits
import HandS.EndTab
import HandS.Head0
import HandS.Head1
import HandS.Head2
import HandS.HeadHook4
import HandS.HeadWalk
import PySem.Challenge.RW_lackmark_k02_whole_marks
import KE.GoesMore
import PyProof.ListStr
import PyProof.CollectStr
set_option Elab.async false
set_option maxRecDepth 100000
set_option maxHeartbeats 0
namespace Lk
open PySem PySem.Spec PyProof.Rows L2
/-! ### the text by places -/
def top (i : Nat) : Stmt := PySem.Challenge.pw_lackmark_k02_whole_marks.main.body.getD i (.Pass ⟨0, 0, 0, 0⟩)
abbrev sNum : Stmt := top 6
abbrev sHeld : Stmt := top 7
abbrev sAre : Stmt := top 11
abbrev sReg : Stmt := top 12
abbrev sInit : Stmt := inClass (top 13) 1
abbrev sCol : Stmt := inClass (top 13) 2
abbrev sRgs : Stmt := inClass (top 13) 3
abbrev sCon : Stmt := inClass (top 13) 4
abbrev sGet : Stmt := inClass (top 13) 6
abbrev sLen : Stmt := inClass (top 13) 7
abbrev sOr : Stmt := inClass (top 13) 8
abbrev sXor : Stmt := inClass (top 13) 9
abbrev sInv : Stmt := inClass (top 13) 10
abbrev sOwn : Stmt := inClass (top 13) 11
abbrev sEq : Stmt := inClass (top 13) 12
abbrev sCell : Stmt := top 15
abbrev sDraw : Stmt := top 16
abbrev sNumb : Stmt := top 17
abbrev sNext : Stmt := top 18
abbrev sPick : Stmt := top 19
abbrev sSome : Stmt := top 20
abbrev sPlaces : Stmt := top 21
abbrev sMarkAt : Stmt := top 22
abbrev sAsked : Stmt := top 23
abbrev sOne : Stmt := top 24
abbrev sChg : Stmt := top 25
abbrev sLaw : Stmt := top 26
/-! ### names by slot -/
abbrev nNum : List Str := ["thing", "least", "most"]
theorem scNum : FnScope nNum nNum (defScope sNum) := ⟨rfl, rfl, rfl, by decide +kernel, rfl, by decide +kernel, by decide +kernel⟩
abbrev nHeld : List Str := ["thing", "most"]
theorem scHeld : FnScope nHeld nHeld (defScope sHeld) := ⟨rfl, rfl, rfl, by decide +kernel, rfl, by decide +kernel, by decide +kernel⟩
abbrev nAre : List Str := ["thing", "most", "mark"]
theorem scAre : FnScope nAre ["thing", "most"] (defScope sAre) := ⟨rfl, rfl, rfl, by decide +kernel, rfl, by decide +kernel, by decide +kernel⟩
abbrev nReg : List Str := ["thing", "many"]
theorem scReg : FnScope nReg nReg (defScope sReg) := ⟨rfl, rfl, rfl, by decide +kernel, rfl, by decide +kernel, by decide +kernel⟩
abbrev nInit : List Str := ["self", "columns", "registers"]
theorem scInit : FnScope nInit nInit (defScope sInit) := ⟨rfl, rfl, rfl, by decide +kernel, rfl, by decide +kernel, by decide +kernel⟩
abbrev nSelf : List Str := ["self"]
theorem scCol : FnScope nSelf nSelf (defScope sCol) := ⟨rfl, rfl, rfl, by decide +kernel, rfl, by decide +kernel, by decide +kernel⟩
theorem scRgs : FnScope nSelf nSelf (defScope sRgs) := ⟨rfl, rfl, rfl, by decide +kernel, rfl, by decide +kernel, by decide +kernel⟩
abbrev nCon : List Str := ["self", "place"]
theorem scCon : FnScope nCon nCon (defScope sCon) := ⟨rfl, rfl, rfl, by decide +kernel, rfl, by decide +kernel, by decide +kernel⟩
theorem scGet : FnScope nCon nCon (defScope sGet) := ⟨rfl, rfl, rfl, by decide +kernel, rfl, by decide +kernel, by decide +kernel⟩
theorem scLen : FnScope nSelf nSelf (defScope sLen) := ⟨rfl, rfl, rfl, by decide +kernel, rfl, by decide +kernel, by decide +kernel⟩
abbrev nOr : List Str := ["self", "changes", "columns", "registers", "place", "at", "mark"]
theorem scOr : FnScope nOr ["self", "changes"] (defScope sOr) := ⟨rfl, rfl, rfl, by decide +kernel, rfl, by decide +kernel, by decide +kernel⟩
abbrev nXor : List Str := ["self", "other", "found", "place"]
theorem scXor : FnScope nXor ["self", "other"] (defScope sXor) := ⟨rfl, rfl, rfl, by decide +kernel, rfl, by decide +kernel, by decide +kernel⟩
theorem scInv : FnScope nSelf nSelf (defScope sInv) := ⟨rfl, rfl, rfl, by decide +kernel, rfl, by decide +kernel, by decide +kernel⟩
theorem scOwn : FnScope nCon nSelf (defScope sOwn) := ⟨rfl, rfl, rfl, by decide +kernel, rfl, by decide +kernel, by decide +kernel⟩
abbrev nEq : List Str := ["self", "other"]
theorem scEq : FnScope nEq nEq (defScope sEq) := ⟨rfl, rfl, rfl, by decide +kernel, rfl, by decide +kernel, by decide +kernel⟩
abbrev nCell : List Str := ["_law_script", "_law_k"]
theorem scCell : FnScope nCell nCell (defScope sCell) := ⟨rfl, rfl, rfl, by decide +kernel, rfl, by decide +kernel, by decide +kernel⟩
abbrev nDraw : List Str := ["_law_cell", "_law_k", "_law_bound", "_law_primes"]
theorem scDraw : FnScope nDraw ["_law_cell", "_law_k", "_law_bound"] (defScope sDraw) := ⟨rfl, rfl, rfl, by decide +kernel, rfl, by decide +kernel, by decide +kernel⟩
abbrev nNumb : List Str := ["_law_cell", "_law_k", "_law_bound", "_law_power", "_law_times", "_law_rest", "_law_small"]
theorem scNumb : FnScope nNumb ["_law_cell", "_law_k", "_law_bound"] (defScope sNumb) := ⟨rfl, rfl, rfl, by decide +kernel, rfl, by decide +kernel, by decide +kernel⟩
abbrev nNext : List Str := ["_law_draw_here", "_law_bound", "_law_at", "_law_cell"]
theorem scNext : FnScope nNext ["_law_draw_here", "_law_bound"] (defScope sNext) := ⟨rfl, rfl, rfl, by decide +kernel, rfl, by decide +kernel, by decide +kernel⟩
abbrev nPick : List Str := ["_law_draw_here", "_law_things"]
theorem scPick : FnScope nPick nPick (defScope sPick) := ⟨rfl, rfl, rfl, by decide +kernel, rfl, by decide +kernel, by decide +kernel⟩
abbrev nSome : List Str := ["_law_draw_here", "_law_items", "_law_columns", "_law_turn"]
theorem scSome : FnScope nSome ["_law_draw_here"] (defScope sSome) := ⟨rfl, rfl, rfl, by decide +kernel, rfl, by decide +kernel, by decide +kernel⟩
abbrev nPlaces : List Str := ["_law_marks"]
theorem scPlaces : FnScope nPlaces nPlaces (defScope sPlaces) := ⟨rfl, rfl, rfl, by decide +kernel, rfl, by decide +kernel, by decide +kernel⟩
abbrev nMarkAt : List Str := ["_law_marks", "_law_place"]
theorem scMarkAt : FnScope nMarkAt nMarkAt (defScope sMarkAt) := ⟨rfl, rfl, rfl, by decide +kernel, rfl, by decide +kernel, by decide +kernel⟩
abbrev nAsked : List Str := ["_law_call", "_law_late"]
theorem scAsked : FnScope nAsked ["_law_call"] (defScope sAsked) := ⟨rfl, rfl, rfl, by decide +kernel, rfl, by decide +kernel, by decide +kernel⟩
abbrev nOne : List Str := ["_law_draw_here", "_law_marks", "_law_made", "_law_places_here", "_law_place", "_law_is_one", "_law_late"]
theorem scOne : FnScope nOne ["_law_draw_here", "_law_marks"] (defScope sOne) := ⟨rfl, rfl, rfl, by decide +kernel, rfl, by decide +kernel, by decide +kernel⟩
abbrev nChg : List Str := ["_law_draw_here", "_law_marks", "_law_changes", "_law_columns", "_law_registers", "_law_turn", "_law_place", "_law_mark", "_law_due", "_law_bad", "_law_key", "_law_wrong", "_law_rows", "_law_some"]
theorem scChg : FnScope nChg ["_law_draw_here", "_law_marks"] (defScope sChg) := ⟨rfl, rfl, rfl, by decide +kernel, rfl, by decide +kernel, by decide +kernel⟩
abbrev nLaw : List Str := ["_law_script", "_law_by", "_law_draw_here", "_law_before", "_law_turn", "_law_marks", "_law_first", "_law_second", "_law_both", "_law_here", "_law_due", "_law_place", "_law_bad", "_law_one", "_law_other"]
theorem scLaw : FnScope nLaw ["_law_script"] (defScope sLaw) := ⟨rfl, rfl, rfl, by decide +kernel, rfl, by decide +kernel, by decide +kernel⟩
end Lk
/-! own rules: the operators of an instance with slots -/
namespace Lk
open PySem PySem.Spec PyProof.Rows L2
open PySem.W (findIn isFn subIn selfFirst InstAt Looks)
section
variable {X : Cx} {CX : CXT} {n : Nat} {C g : Addr} {sp : Sp} {E : XK} {ES : L2.St → XK}
/-- the callee runs below, its ways out told at the slots -/
theorem run_atS {pins : List (Addr × Obj)} {σ : L2.St} {H : Hp} {s : Shared} {A : Around} {Q : VK} {us : List Value} {ws : List V} (F : FnR X.prog X.w X.K X.mg X.base CX n g sp) (hr : Room n A)
    (e0 : Env0 X.prog X.w X.K X.mg X.base A X.stack s H) (hx : PassesAt CX X σ E) (I : Inv X pins σ H s) (r : Vals ws us) (h : sp ws H Q E) :
    codeAny (model X.prog X.w) A (.call (.ref g) ⟨us, []⟩) (fun r s' => match r with | .ok (.ret v) => EP X pins σ Q v s' | .ok _ => False | .error e => X.xe e s') s := by
  refine codeAny_mono (F A X.stack s H us ws Q E hr e0 r h) (fun r s' hq => ?_)
  cases r with
  | ok fl =>
    cases fl with
    | ret u => exact I.after hq
    | _ => exact False.elim hq
  | error e => exact hx pins H s e s' I hq
/-- x in o -/
def rInSl (C : Addr) (sp : Sp) (E : XK) : R2 := fun x y H Q => ∃ a dx vs, y = .ref a ∧ SlX.Slt H a C dx vs ∧ sp [.ref a, x] H (fun z H' => ∃ b, z = .bl b ∧ Q (.bl b) H') E
theorem op_inSl (hs : findIn X.K (.ref C) "__contains__" = some (some (.ref g))) (hf : isFn X.K (.ref g) = true) (F : FnR X.prog X.w X.K X.mg X.base CX n g sp) (hr : Room n X.A) (hx : Passes CX X E) :
    OpR X (compareOp .In) (rInSl C sp E) := by
  intro pins s σ H x y v u Q I rx ry h
  obtain ⟨a, dx, vs, rfl, ha, q⟩ := h
  cases (show u = Value.ref a from ry)
  obtain ⟨sl, od, _, J, _⟩ := SlX.slt_inst I ha
  obtain ⟨m, hF⟩ := I.fr
  refine PySem.W.in_K hF I.ok.mod.kin J hs hf (wpAny_mono (wpAny_call (run_fnR (us := [.ref a, v]) (vs := [.ref a, x]) F hr hx I (.cons rfl (.cons rx .nil)) q)) (fun r s' z => ?_) fun _ _ x => x)
  obtain ⟨z', H', I', rz, b, eb, qz⟩ := z
  subst eb
  cases rz
  exact wpAny_truthy_bool ⟨.bl b, H', I', rfl, qz⟩
/-- o[x] -/
def tSubSl (C : Addr) (sp : Sp) (ES : L2.St → XK) (ta tb : TE) : TE := fun σ H Q => ta σ H fun x H1 => tb σ H1 fun y H2 => ∃ a dx vs, x = .ref a ∧ SlX.Slt H2 a C dx vs ∧ sp [.ref a, y] H2 Q (ES σ)
theorem pe_subSl {a b : Expr} {ta tb : TE} {pos : Pos} (hs : findIn X.K (.ref C) "__getitem__" = some (some (.ref g))) (hf : isFn X.K (.ref g) = true) (hfn : PySem.W.fnIn X.K g = true) (F : FnR X.prog X.w X.K X.mg X.base CX n g sp) (hr : Room (n + 1) X.A)
    (hx : ∀ σ, PassesAt CX X σ (ES σ)) (ha : PE X a ta) (hb : PE X b tb) (hsl : ∀ o i, subscripted b true o i = runValue (.builtin "lifetime.subscript" ⟨[o, i], []⟩)) : PE X (.Subscript a b pos) (tSubSl C sp ES ta tb) := by
  refine ⟨fun pins s σ H Q I h => Subscript_ (binT ha hb I h fun v u s2 x y H2 I2 rx ry q => ?_)⟩
  obtain ⟨p, dx, vs, rfl, hp, q⟩ := q
  cases (show v = Value.ref p from rx)
  obtain ⟨sl, od, _, J, _⟩ := SlX.slt_inst I2 hp
  obtain ⟨m, hF⟩ := I2.fr
  exact PySem.W.sub_K hF I2.ok.mod.kin J hs hfn hf (wpAny_call (run_atS (us := [.ref p, u]) (ws := [.ref p, y]) F hr.in1 I2.env0.in1 (hx σ) I2 (.cons rfl (.cons ry .nil)) q)) (hsl _ _)
/-- len(o) -/
def rLenSl (C : Addr) (sp : Sp) (E : XK) : List V → Hp → VK → Prop := fun xs H Q => ∃ a dx vs, xs = [.ref a] ∧ SlX.Slt H a C dx vs ∧ sp [.ref a] H (fun z H' => ∃ k : Nat, z = .int k ∧ k ≤ 1000 ∧ Q (.int k) H') E
theorem call_lenSl (hs : findIn X.K (.ref C) "__len__" = some (some (.ref g))) (hf : isFn X.K (.ref g) = true) (F : FnR X.prog X.w X.K X.mg X.base CX n g sp) (hr : Room (n + 1) X.A) (hx : Passes CX X E) :
    CallR X (.builtin "len") (rLenSl C sp E) := by
  intro pins s σ H xs us Q I r h
  obtain ⟨a, dx, vs, rfl, ha, q⟩ := h
  obtain ⟨u, rfl, ru⟩ := vals1 r
  cases (show u = Value.ref a from ru)
  obtain ⟨sl, od, _, J, _⟩ := SlX.slt_inst I ha
  obtain ⟨m, hF⟩ := I.fr
  refine PySem.W.len_K hF I.ok.mod.kin J hs hf (wpAny_mono (wpAny_call (SlX.run_at (us := [.ref a]) (ws := [.ref a]) F hr.in1 I.env0.in1 hx I (.cons rfl .nil) q)) (fun r s' z => ?_) fun _ _ x => x)
  obtain ⟨z', H', I', rz, k, ek, hk, qz⟩ := z
  subst ek
  obtain ⟨t, rfl⟩ := rz
  exact ⟨by omega, .int k, H', I'.tok _, ⟨_, rfl⟩, qz⟩
/-- ~o -/
def rInvSl (C : Addr) (sp : Sp) (E : XK) : V → Hp → VK → Prop := fun x H Q => ∃ a dx vs, x = .ref a ∧ SlX.Slt H a C dx vs ∧ sp [.ref a] H Q E
theorem un_invSl (hs : findIn X.K (.ref C) "__invert__" = some (some (.ref g))) (hf : isFn X.K (.ref g) = true) (F : FnR X.prog X.w X.K X.mg X.base CX n g sp) (hr : Room n X.A) (hx : Passes CX X E) :
    UnR X (unaryOp .Invert) (rInvSl C sp E) := by
  intro pins s σ H x v Q I rx h
  obtain ⟨a, dx, vs, rfl, ha, q⟩ := h
  cases (show v = Value.ref a from rx)
  obtain ⟨sl, od, _, J, _⟩ := SlX.slt_inst I ha
  obtain ⟨m, hF⟩ := I.fr
  exact PySem.W.ksp_inv hF I.ok.mod.kin J hs hf (wpAny_call (run_fnR (us := [.ref a]) (vs := [.ref a]) F hr hx I (.cons rfl .nil) q))
/-- o op p, both of the class at C -/
def rBinSl (C : Addr) (sp : Sp) (E : XK) : R2 := fun x y H Q => ∃ a dx vs b dy ws, x = .ref a ∧ y = .ref b ∧ SlX.Slt H a C dx vs ∧ SlX.Slt H b C dy ws ∧ sp [x, y] H Q E
theorem op_binSl {op : Operator} (hc : selfFirst X.K C = true) (hs : findIn X.K (.ref C) (PySem.dunder op.info.2) = some (some (.ref g))) (hf : isFn X.K (.ref g) = true) (F : FnR X.prog X.w X.K X.mg X.base CX n g sp) (hr : Room n X.A) (hx : Passes CX X E) :
    OpR X (binaryOp op) (rBinSl C sp E) := by
  intro pins s σ H x y v u Q I rx ry h
  obtain ⟨a, dx, vs, b, dy, ws, rfl, rfl, ha, hb, q⟩ := h
  cases (show v = Value.ref a from rx)
  cases (show u = Value.ref b from ry)
  obtain ⟨sl, od, _, J, _⟩ := SlX.slt_inst I ha
  obtain ⟨sl', od', _, J', _⟩ := SlX.slt_inst I hb
  obtain ⟨m, hF⟩ := I.fr
  refine PySem.W.binop_K hF I.ok.mod.kin J J'.type hc hs hf (wpAny_mono (wpAny_call (run_fnR (us := [.ref a, .ref b]) (vs := [.ref a, .ref b]) F hr hx I (.cons rfl (.cons rfl .nil)) q)) (fun r s' z => ?_) fun _ _ x => x)
  obtain ⟨z', H', I', rz, qz⟩ := z
  exact SlX.cmpback rz ⟨z', H', I', rz, qz⟩
end
section
variable {prog : Program} {w : World} {A : Around} {E : Value → Shared → Prop} {s : Shared} {K : PySem.W.Frag} {x C f L : Addr} {h0 : Heap} {m : Str → Option Value} {ox : Obj} {od : Option Obj} {T : String}
/-- o op b, b of a built-in type that is looked at -/
theorem bin_look {op : Operator} {b : Value} {fo ro rc : Option Value} {Q : Value → Shared → Prop} (F : Fr h0 L s.heap m) (X0 : K.In h0) (I : InstAt s.heap x ox C od) (hb : Looks (model prog w) s.heap (typeOf b) (.type T)) (hc : selfFirst K C = true)
    (hs : findIn K (.ref C) (PySem.dunder op.info.2) = some (some (.ref f))) (hf : isFn K (.ref f) = true) (hr : findIn K (.ref C) (dunderR op.info.2) = some rc) (hp : rc = none)
    (h1 : findIn K (.type T) (PySem.dunder op.info.2) = some fo) (h2 : findIn K (.type T) (dunderR op.info.2) = some ro) (hsub : subIn K (.type T) (.ref C) = some false)
    (h : wpAny (model prog w) A (call (.ref f) [.ref x, b]) (PySem.W.CmpBack Q) E s) : wpAny (model prog w) A (binaryOp op (.ref x) b) Q E s := by
  have KI := X0.keeps F.keep
  obtain ⟨cd, rest, hcd, hm⟩ := PySem.W.ksp_first hc
  rcases hi : op.info with ⟨sym, nm⟩
  rw [hi] at hs hr h1 h2
  dsimp only at hs hr h1 h2
  have one := PySem.W.ksp_try KI I hs hf h
  obtain ⟨hh, gg, dd, tt, os⟩ := s
  have L1 : Looks (model prog w) hh (typeOf (.ref x)) (.ref C) := I.type
  have L2 : Looks (model prog w) hh (typeOf b) (.type T) := hb
  have L3 : Looks (model prog w) hh (fillsNumberSlot (.ref C) nm) true := PySem.W.fills_K KI hcd hm hs
  have L4 : Looks (model prog w) hh (fillsNumberSlot (.type T) nm) ((fo.isSome && !isSeqSlot fo) || (ro.isSome && !isSeqSlot ro)) := PySem.W.ksp_fillsT KI h1 h2
  have L5 : Looks (model prog w) hh (isSubtype (.type T) (.ref C)) false := PySem.W.looks_subIn KI hsub
  have L6 : Looks (model prog w) hh (numberSlotInPython (.ref C) nm) true := PySem.W.ksp_inPy KI hs hr (.inl hp)
  have L7 : Looks (model prog w) hh (numberSlotInPython (.type T) nm) false := Looks.of_pure rfl
  have L8 : Looks (model prog w) hh (typeLookup (.type T) (dunderR nm)) ro := PySem.W.looks_findIn KI h2
  generalize ((fo.isSome && !isSeqSlot fo) || (ro.isSome && !isSeqSlot ro)) = right at L4
  have hne : (Value.ref C == Value.type T) = false := Bool.eq_false_iff.mpr fun q => by cases beq_iff_eq.mp q
  simp only [binaryOp, hi]
  refine wpAny_holding (wpAny_bind ?_)
  unfold binaryOp1
  refine wpAny_bind (L1.at (wpAny_bind (L2.at (wpAny_bind (L3.at ?_)))))
  simp only [hne, Bool.false_eq_true, if_false]
  cases right <;>
    (ksp_lk
     refine wpAny_mono one (fun r s' hr' => ?_) fun _ _ e => e
     obtain ⟨v, rfl, hq⟩ := hr'
     ksp_lk
     exact hq)
end
/-- what of the class and the built-in type such an operator asks -/
structure BinT (K : PySem.W.Frag) (C g : Addr) (op : Operator) (T : String) : Prop where
  first : selfFirst K C = true
  own : findIn K (.ref C) (PySem.dunder op.info.2) = some (some (.ref g))
  fn : isFn K (.ref g) = true
  noR : findIn K (.ref C) (dunderR op.info.2) = some none
  l : ∃ fo, findIn K (.type T) (PySem.dunder op.info.2) = some fo
  r : ∃ ro, findIn K (.type T) (dunderR op.info.2) = some ro
  sub : subIn K (.type T) (.ref C) = some false
section
variable {X : Cx} {CX : CXT} {n : Nat} {C g : Addr} {sp : Sp} {E : XK}
/-- a value's built-in type, looked at -/
theorem looks_of {pins : List (Addr × Obj)} {σ : L2.St} {H : Hp} {s : Shared} {x : V} {u t : Value} (I : Inv X pins σ H s) (rx : RelV x u) (ty : TyX X.K H x t) : Looks (model X.prog X.w) s.heap (typeOf u) t := by
  obtain ⟨P, Z, p, _⟩ := kit_of I rx ty
  exact Z.ty _ _ I.kIn p
def rBinT (K : PySem.W.Frag) (C g : Addr) (op : Operator) (sp : Sp) (E : XK) : R2 := fun x y H Q => ∃ a dx vs T, x = .ref a ∧ SlX.Slt H a C dx vs ∧ TyX K H y (.type T) ∧ BinT K C g op T ∧ sp [x, y] H Q E
theorem op_binT {op : Operator} (F : FnR X.prog X.w X.K X.mg X.base CX n g sp) (hr : Room n X.A) (hx : Passes CX X E) : OpR X (binaryOp op) (rBinT X.K C g op sp E) := by
  intro pins s σ H x y v u Q I rx ry h
  obtain ⟨a, dx, vs, T, rfl, ha, ty, B, q⟩ := h
  cases (show v = Value.ref a from rx)
  obtain ⟨sl, od, _, J, _⟩ := SlX.slt_inst I ha
  obtain ⟨m, hF⟩ := I.fr
  obtain ⟨fo, h1⟩ := B.l
  obtain ⟨ro, h2⟩ := B.r
  refine bin_look hF I.ok.mod.kin J (looks_of I ry ty) B.first B.own B.fn B.noR rfl h1 h2 B.sub (wpAny_mono (wpAny_call (run_fnR (us := [.ref a, u]) (vs := [.ref a, y]) F hr hx I (.cons rfl (.cons ry .nil)) q)) (fun r s' z => ?_) fun _ _ x => x)
  obtain ⟨z', H', I', rz, qz⟩ := z
  exact SlX.cmpback rz ⟨z', H', I', rz, qz⟩
end
end Lk
/-! own rules: *text in a display, list(text), enumerate(tuple), tuple * 1 -/
namespace PySem
open Sem (wp)
open AutoSeq1 (wpAny_loadPart')
/-- enumerate of a tuple is made -/
theorem lk_enumT (l : Addr) (items : Array Value) (n : Nat) (dct : Option Addr) (sl : Array (Option Value)) :
    Meets (Builtin.«enumerate.__new__» ⟨[.type "enumerate", .ref l], []⟩) (fun _ R s => s.heap.get? l = some { cls := .type "tuple", dict := dct, data := .seq items n, slots := sl } ∧
      R (.ok (.ret (.ref (s.heap.push { cls := .type "tuple_iterator", data := .fields #[.ref l, .int 0 0] }).objs.size)))
        { s with heap := (s.heap.push { cls := .type "tuple_iterator", data := .fields #[.ref l, .int 0 0] }).push { cls := .type "enumerate", data := .fields #[.none, .bool false, .ref s.heap.objs.size, rawInt 0, .none, .none] } }) :=
  .of_wp fun prog w A R s h => by
    obtain ⟨hp, g, d, tk, os⟩ := s; obtain ⟨hl, h⟩ := h
    have hsub := sub_enumerate
    have hT : Heap.IsTuple (Shared.heap ⟨hp, g, d, tk, os⟩) l items := ⟨_, hl, rfl, n, rfl⟩
    wp_walk using wpAny_loadPart' hl
    refine wpAny_stack_any fun st => wpAny_pure ?_
    split
    · rename_i c _ _ _ _ _
      cases (c == Value.type "enumerate") <;>
        (wp_walk using wpAny_loadPart' hl, wpAny_pyIter_tuple hT
         exact ⟨_, rfl, h⟩)
    · wp_walk using wpAny_loadPart' hl, wpAny_pyIter_tuple hT
      exact ⟨_, rfl, h⟩
section
variable {prog : Program} {w : World} {A : Around} {E : Value → Shared → Prop} {s : Shared}
theorem lk_enumerate_tuple {l : Addr} {items : Array Value} {Q : Value → Shared → Prop} (hT : s.heap.IsTuple l items)
    (h : ∀ h', IsEnum h' (s.heap.objs.size + 1) s.heap.objs.size 0 .none → h'.IsTupleIter s.heap.objs.size l 0 → h'.objs.size = s.heap.objs.size + 2 →
      (∀ b o, s.heap.get? b = some o → h'.get? b = some o) → Q (.ref (s.heap.objs.size + 1)) { s with heap := h' }) :
    wpAny (model prog w) A (call (.type "enumerate") [.ref l]) Q E s := by
  obtain ⟨⟨c, dct, dt, sl⟩, hl, hc, n, hd⟩ := hT
  cases (show c = .type "tuple" from hc)
  cases (show dt = .seq items n from hd)
  refine callType_new F.called_enumerate (by decide) (F.typeCall_enumerate_1 _) (F.newCall_enumerate_1 _) (fun obj => F.args_object_init_2 obj _) F.entry_enumerate_new (lk_enumT l items n dct sl) ⟨hl, ?_⟩
  have hz : (s.heap.push { cls := .type "tuple_iterator", data := .fields #[.ref l, .int 0 0] }).objs.size = s.heap.objs.size + 1 := Heap.size_push ..
  show _ ∧ _
  rw [hz]
  have he : IsEnum ((s.heap.push { cls := .type "tuple_iterator", data := .fields #[.ref l, .int 0 0] }).push { cls := .type "enumerate", data := .fields #[.none, .bool false, .ref s.heap.objs.size, rawInt 0, .none, .none] })
      (s.heap.objs.size + 1) s.heap.objs.size 0 .none := by
    have q := Heap.get?_push_size (s.heap.push { cls := .type "tuple_iterator", data := .fields #[.ref l, .int 0 0] }) (o := { cls := .type "enumerate", data := .fields #[.none, .bool false, .ref s.heap.objs.size, rawInt 0, .none, .none] }) rfl
    rw [hz] at q
    exact q
  exact ⟨⟨_, he, rfl⟩, h _ he ⟨_, Heap.get?_push_of_some _ (Heap.get?_push_size _ rfl), rfl, rfl⟩ (by rw [Heap.size_push, hz]) fun b o x => Heap.get?_push_of_some _ (Heap.get?_push_of_some _ x)⟩
end
/-- a tuple once: the tuple itself -/
theorem lk_mul1 (l : Addr) (items : Array Value) (n : Nat) (dd : Option Addr) (sl : Array (Option Value)) (u : Tok) :
    Meets (Builtin.«tuple.__mul__» ⟨[.ref l, .int 1 u], []⟩) (fun _ R s => s.heap.get? l = some { cls := .type "tuple", dict := dd, data := .seq items n, slots := sl } ∧ R (.ok (.ret (Value.ref l))) s) :=
  .of_wp fun prog w A R s h => by
    obtain ⟨hp, g, d, tk, os⟩ := s
    obtain ⟨hl, h⟩ := h
    have f1 := AutoSeq1.idx_int
    wp_walk using wpAny_loadPart' hl
    exact ⟨_, rfl, h⟩
end PySem
namespace Lk
open PySem PySem.Spec PyProof.Rows L2
/-! ### tuple * n -/
def rRepK (K : PySem.W.Frag) : R2 := fun x y H Q => ∃ l k xs, x = .ref l ∧ y = .int k ∧ SqT K H l xs ∧ xs ≠ [] ∧ 1 ≤ k ∧ k ≤ 1000 ∧ xs.length ≤ 1000 ∧ (k = 1 → Q (.ref l) H) ∧ (k ≠ 1 → ∀ p, H p = none → Q (.ref p) (upd H p (.tup (List.replicate k.toNat xs).flatten)))
theorem op_repK {X : Cx} : OpR X (binaryOp .Mult) (rRepK X.K) := by
  intro pins s σ H x y v u Q I rx ry h
  obtain ⟨l, k, xs, rfl, rfl, hT, hne, h1, h2, hz, q1, q2⟩ := h
  by_cases hk : k = 1
  · subst hk
    cases rx
    obtain ⟨t, rfl⟩ := ry
    obtain ⟨its, r, ⟨⟨cls, dd, data, sl⟩, ho, hc, n, hd⟩, hs⟩ := I.tuple hT
    simp only at hc hd
    subst hc hd
    exact wpAny_binaryOp_repeat_ref (T := "tuple") (U := "int") (by decide) ⟨_, ho, rfl⟩ (fun s' => typeIs_int s' 1 t) noFill_tuple_mul F.fills_int_mul F.slot_int_rmul repeat_tuple F.slot_int_index.lookup
      (call_meets F.slot_int_rmul (typeIs_int s 1 t) F.entry_int_rmul (F.args_int_rmul_2 _ _) (int_rmul_tuple 1 t l its.toArray n dd sl)
        ⟨ho, rfl, ⟨_, ho, rfl⟩, call_meets F.slot_tuple_mul ⟨_, ho, rfl⟩ F.entry_tuple_mul (F.args_tuple_mul_2 _ _) (lk_mul1 l its.toArray n dd sl t) ⟨ho, .ref l, H, I, rfl, q1 rfl⟩⟩)
  · exact op_repT pins s σ H _ _ v u Q I rx ry ⟨l, k, xs, rfl, rfl, hT, hne, by omega, h2, hz, q2 hk⟩
/-! ### texts, sign by sign -/
abbrev sgn (c : Nat) : V := .str ⟨#[c]⟩
theorem vals_signs {z : Str} {acc : Array Value} (h : ItemsOf (SignAt z) acc z.cps.size) : Vals (z.cps.toList.map sgn) acc.toList := by
  refine vals_of_at ?_ fun j x u hx hu => ?_
  · rw [List.length_map, Array.length_toList, Array.length_toList, h.1]
  · have hu' : acc[j]? = some u := by rw [← Array.getElem?_toList]; exact hu
    obtain ⟨c, t, hc, e⟩ := h.2 j u hu'
    rw [List.getElem?_map, Array.getElem?_toList, hc] at hx
    cases hx
    exact ⟨t, e⟩
/-- *e in a display, e a text -/
def tStarS (te : TE) (t : TA) : TA := fun σ H Q => te σ H fun x H1 => ∃ z : Str, x = .str z ∧ z.length ≤ sizeLine ∧ t σ H1 fun ys H2 => Q (z.cps.toList.map sgn ++ ys) H2
theorem pa_starS {X : Cx} {e : Expr} {es : List Expr} {te : TE} {t : TA} {p : Pos} (hc : X.calm = true) (he : PE X e te) (hr : PA X es t) (hs : starEach (.Starred e p :: es) X.env = (true, eval e X.env) :: starEach es X.env := by rfl) :
    PA X (.Starred e p :: es) (tStarS te t) := by
  refine ⟨fun pos pins s σ H Q I h => ?_⟩
  refine PySem.W.items_star (thn (he.run pins s σ H _ I h) fun v s1 ⟨y, H1, I1, ry, z, ey, hz, q⟩ => ?_) hs
  subst ey
  obtain ⟨t', rfl⟩ := ry
  have go : wpAny (model X.prog X.w) X.A (collect (.str z t')) (fun here s2 => wpAny (model X.prog X.w) X.A (spliced (backTo pos (starEach es X.env))) (fun vs s3 => AP X pins σ Q (here ++ vs) s3) X.xe s2) X.xe s1 := by
    refine wpAny_collect_str (I1.ok.hd hc) z t' (fun s2 acc hk hg hd ho hacc => ?_) hz
    have I2 : Inv X pins σ H1 s2 := I1.call' (ch := []) ho (Un.kept hk) (I1.hok.kept hk) (by rw [hg]; exact I1.bare) (fun b hb => absurd hb (by simp))
    exact thn (hr.run pos pins s2 σ H1 _ I2 q) fun ws s3 ⟨vs, H3, I3, r3, q3⟩ => ⟨_, H3, I3, (vals_signs hacc).append r3, q3⟩
  unfold PySem.W.StarOf notIterableAtAll
  exact wpAny_bind (wpAny_specialOf (T := "str") (v := .str z t') rfl PySem.F.slot_str_iter.lookup (wpAny_pure ⟨rfl, go⟩))
/-- list(e), e a text -/
theorem call_list_txt {X : Cx} (hc : X.calm = true) : CallR X (.type "list") (fun xs H Q => ∃ z : Str, xs = [.str z] ∧ z.length ≤ sizeLine ∧ ∀ l, H l = none → Q (.ref l) (upd H l (.lst (z.cps.toList.map sgn)))) := by
  intro pins s σ H xs us Q I r h
  obtain ⟨z, rfl, hz, q⟩ := h
  obtain ⟨u, rfl, ru⟩ := vals1 r
  obtain ⟨t, rfl⟩ := ru
  refine call_list_str (I.ok.hd hc) z t (fun h' tk acc c hk hS hacc => ?_) hz
  refine ⟨.ref s.heap.objs.size, _, I.laid (t' := tk) (o := .lst (z.cps.toList.map sgn)) hk (Nat.le_refl _) ?_, rfl, q _ (I.hok.fresh (Nat.le_refl _))⟩
  exact ⟨by rw [List.length_map, Array.length_toList]; exact hz, acc.toList, c, vals_signs hacc, by rw [Array.toArray_toList]; exact hS⟩
/-! ### enumerate(tuple) -/
/-- the tuple at a, its items in new pairs with their places -/
def Iet (K : PySem.W.Frag) (a : Addr) : It :=
  ⟨fun i H => ∃ xs x, SqT K H a xs ∧ xs[i]? = some x, fun i H v H' => ∃ T x, v = .ref T ∧ H T = none ∧ H' = upd H T (.tup [.int (i : Nat), x]) ∧ ∀ xs, SqT K H a xs → xs[i]? = some x, fun i H => ∃ xs, SqT K H a xs ∧ xs.length = i⟩
theorem turn_enumT {P : Program} {w : World} {K : PySem.W.Frag} {elts : List Expr} {kk : Nat} {tpos : Pos} (a e it : Addr) (hai : a ≠ it) (hae : e ≠ a) :
    Turn P w K (.Tuple elts kk tpos) (Iet K a) [e, it] e (fun i h => (∃ old, IsEnum h e it ((i : Nat) : Int) old) ∧ h.IsTupleIter it a i ∧ e ≠ it) where
  mem := by simp
  obj := fun i h st b hb => by
    obtain ⟨⟨old, he⟩, ⟨o, ho, hc, hd⟩, _⟩ := st
    have e' : b = e ∨ b = it := by simpa using hb
    rcases e' with z | z
    · rw [z]
      exact ⟨_, he, fun v q => nomatch q⟩
    · exact ⟨o, by rw [z]; exact ho, fun v q => by rw [hd] at q; cases q⟩
  keep := fun i h h' st k => let ⟨⟨old, he⟩, hi, hne⟩ := st; ⟨⟨old, k e (by simp) _ he⟩, hi.at fun o q => k it (by simp) o q, hne⟩
  item := by
    intro X hP hw hK hc i pins s σ H E I hf st hg
    subst hP hw hK
    obtain ⟨⟨old, he⟩, hit, hne⟩ := st
    obtain ⟨xs, x, hq, hx⟩ := hg
    obtain ⟨its, rv, p, hz⟩ := I.tuple hq
    obtain ⟨u, hu, ru⟩ := rv.get hx
    have p' : s.heap.IsTuple a its.toArray := p
    have hel : e < s.heap.objs.size := Heap.lt_size he
    have hil : it < s.heap.objs.size := by obtain ⟨_, q, _⟩ := hit; exact Heap.lt_size q
    have hlt : i < its.toArray.size := by
      rw [List.size_toArray]
      exact (List.getElem?_eq_some_iff.mp hu).1
    refine wpAny_pyNext_enum_itemD (Draws.tuple (prog := X.prog) (w := X.w) (A := X.A.in1) (I.ok.hd hc) it a hai its.toArray) he ⟨hit, p'⟩ hlt hne (by simp [hne, hae]) fun x' h' tk hx' ho st' hT hsz hk => ?_
    have hxu : x' = u := by
      have e1 : its.toArray[i]? = some u := by simpa using hu
      rw [e1] at hx'
      exact (Option.some.inj hx').symm
    subst hxu
    refine ⟨_, rfl, wpAny_letOwnedTupleGo_enum (s := { s with heap := h', toks := tk + 1 }) ho fun h'' he' sb => ?_⟩
    have hT2 : h''.get? s.heap.objs.size = some { cls := .type "tuple", data := .seq #[.int i tk, x'] } := (sb.2 _ (Nat.ne_of_gt hel)).trans hT
    have new : ObjOk X.prog X.w (upd H s.heap.objs.size (.tup [.int (i : Nat), x])) h'' s.heap.objs.size (.tup [.int (i : Nat), x]) :=
      ⟨by show 2 ≤ sizeLine; decide, [.int i tk, x'], .cons ⟨_, rfl⟩ (.cons ru .nil), ⟨_, hT2, rfl, _, rfl⟩⟩
    have I1 : Inv X pins σ (upd H s.heap.objs.size (.tup [.int (i : Nat), x])) { s with heap := h'', toks := tk + 1 } :=
      I.turnedNew (ch := [e, it]) (fun b ob hb q => (sb.2 b (fun z => hb (by simp [z]))).trans (hk b ob (fun z => hb (by simp [z])) (fun z => hb (by simp [z])) q)) hf (Nat.le_refl _) new
    refine ⟨.ref s.heap.objs.size, _, I1, rfl, ⟨_, x, rfl, I.hok.fresh (Nat.le_refl _), rfl, fun ys hy => by rw [I.tuple_inj hy hq]; exact hx⟩, ⟨⟨x', ?_⟩, st'.1.at fun o q => (sb.2 it (Ne.symm hne)).trans q, hne⟩, fun b hb => ?_⟩
    · have e1 : ((i + 1 : Nat) : Int) = (i : Int) + 1 := by omega
      rw [e1]
      exact he'
    · have hb' : b < s.heap.objs.size := by
        have e' : b = e ∨ b = it := by simpa using hb
        rcases e' with z | z
        · rw [z]; exact hel
        · rw [z]; exact hil
      rw [upd_ne (Nat.ne_of_lt hb')]
      exact (hf b hb).1
  done := by
    intro X hP hw hK hc i pins s σ H E I hf st hg
    subst hP hw hK
    obtain ⟨⟨old, he⟩, hit, hne⟩ := st
    obtain ⟨xs, hq, hx⟩ := hg
    obtain ⟨its, rv, p, hz⟩ := I.tuple hq
    have p' : s.heap.IsTuple a its.toArray := p
    obtain ⟨f0, f1, f2, f3, f4, f5⟩ := hf it (by simp)
    have hl := rv.length
    have hn : i = its.toArray.size := by rw [List.size_toArray, ← hl, hx]
    rw [hn] at hit
    exact wpAny_pyNext_enum_endD (Draws.tuple (prog := X.prog) (w := X.w) (A := X.A.in1) (I.ok.hd hc) it a hai its.toArray) he ⟨hit, p'⟩ fun h' eb => ⟨rfl, I.turned (t' := s.toks) (fun b o hb q => eb b o hb q) f0 f1 f3 f4 f5⟩
  self := fun A i s Q E st h => let ⟨⟨_, he⟩, _⟩ := st; wpAny_pyIter_enum he h
end Lk
/-! own rules: enumerate(tuple) walked; a dict with None among its keys -/
namespace Lk
open PySem PySem.Spec PyProof.Rows L2
def iEnumT (K : PySem.W.Frag) (ta : TA) : TI := fun σ H R => ta σ H fun vs H1 => ∃ a xs, vs = [.ref a] ∧ SqT K H1 a xs ∧ R (Iet K a) H1
theorem pi_enumT {X : Cx} {e : Expr} {ta : TA} {p pos tpos : Pos} {elts : List Expr} {kk : Nat} (hg : Gl X "enumerate") (hm : X.mg "enumerate" = none) (ha : PA X [e] ta) (hs : starEach [e] X.env = [(false, eval e X.env)] := by rfl) :
    PI X (.Tuple elts kk tpos) (.Call (.Name "enumerate" p) [e] [] pos) (iEnumT X.K ta) := by
  refine ⟨fun pins s σ H R I h => ?_⟩
  refine Call_ (ld_blt I hg hm boot_enumerate (PyProof.Rows.callWith_type1 (thn (ha.run pos pins s σ H _ I h) fun us s1 ⟨vs, H1, I1, r1, q1⟩ => ?_) hs rfl))
  obtain ⟨a, xs, ex, hq, q⟩ := q1
  subst ex
  obtain ⟨u, rfl, ru⟩ := vals1 r1
  cases (show u = Value.ref a from ru)
  obtain ⟨its, rv, p', hz⟩ := I1.tuple hq
  have p2 : s1.heap.IsTuple a its.toArray := p'
  have hlt : a < s1.heap.objs.size := by obtain ⟨o, ho, _⟩ := p2; exact Heap.lt_size ho
  refine lk_enumerate_tuple p2 fun h' he hit hsz hk => wpAny_pyIter_enum he ?_
  have I2 : Inv X pins σ H1 { s1 with heap := h' } := I1.kept (t' := s1.toks) hk
  refine ⟨s1.heap.objs.size + 1, [s1.heap.objs.size + 1, s1.heap.objs.size], _, _, H1, rfl, I2, turn_enumT a (s1.heap.objs.size + 1) s1.heap.objs.size (Nat.ne_of_lt hlt) (Nat.ne_of_gt (Nat.lt_succ_of_lt hlt)), ⟨⟨.none, he⟩, hit, Nat.succ_ne_self _⟩, fun b hb => ?_, q⟩
  have e' : b = s1.heap.objs.size + 1 ∨ b = s1.heap.objs.size := by simpa using hb
  have hle : s1.heap.objs.size ≤ b := by
    rcases e' with z | z
    · rw [z]; exact Nat.le_add_right _ _
    · rw [z]; exact Nat.le_refl _
  exact I1.fpOk hle (I1.hok.fresh hle)
/-- a comprehension over enumerate(tuple) -/
theorem lc_enumT {K : PySem.W.Frag} {a : Addr} {xs : List V} {g : TG} {tt : TT} {te : TE} {vs : List Nat} {σ : L2.St} {H1 : Hp} {D : Addr} {Qd : Hp → Prop} (Pv : Nat → Hp → Prop) (h0 : Pv 0 (upd H1 D (.lst []))) (hl : ∀ i H, i ≤ xs.length → Pv i H → SqT K H a xs)
    (hs : ∀ i x H T, xs[i]? = some x → Pv i H → H T = none → g (.ref T) (wipe σ vs) (upd H T (.tup [.int (i : Nat), x])) fun σ2 H2 => wipe σ2 vs = wipe σ vs ∧ tt σ2 H2 fun b H3 =>
      if b = true then te σ2 H3 fun y H4 => ∃ acc, H4 D = some (.lst acc) ∧ acc.length < sizeLine ∧ Pv (i + 1) (upd H4 D (.lst (acc ++ [y]))) else Pv (i + 1) H3) (hd : ∀ H, Pv xs.length H → Qd H) :
    ∃ W : Nat → Nat → Hp → Prop, (∃ m, W 0 m (upd H1 D (.lst []))) ∧ ∀ i m H, W i m H →
      ((Iet K a).stop i H ∧ Qd H) ∨ ((Iet K a).go i H ∧ ∃ Nx : Hp → Prop, (∀ H', Nx H' → ∃ m', m' < m ∧ W (i + 1) m' H') ∧ ∀ x H', (Iet K a).yld i H x H' → g x (wipe σ vs) H' fun σ2 H2 => wipe σ2 vs = wipe σ vs ∧ tt σ2 H2 fun b H3 =>
        if b = true then te σ2 H3 fun y H4 => ∃ acc, H4 D = some (.lst acc) ∧ acc.length < sizeLine ∧ Nx (upd H4 D (.lst (acc ++ [y]))) else Nx H3) := by
  refine ⟨fun i m H => m = xs.length - i ∧ i ≤ xs.length ∧ Pv i H, ⟨xs.length, by simp, Nat.zero_le _, h0⟩, ?_⟩
  rintro i m H ⟨rfl, hi, p⟩
  have q := hl i H hi p
  rcases Nat.lt_or_ge i xs.length with hlt | hge
  · refine .inr ⟨⟨xs, xs[i], q, by simp [hlt]⟩, Pv (i + 1), fun H' p' => ⟨xs.length - (i + 1), by omega, rfl, hlt, p'⟩, fun v H' y => ?_⟩
    obtain ⟨T, x, rfl, hT, rfl, y⟩ := y
    exact hs i x H T (y xs q) p hT
  · have e : i = xs.length := Nat.le_antisymm hi hge
    subst e
    exact .inl ⟨⟨xs, q, rfl⟩, hd H p⟩
/-! ### a dict as its one object -/
/-- its keys, in order -/
def KeysO (o : Obj) (ks : List V) : Prop := o.ExactDict ∧ ∃ es ep, o.data = .dict es ep ∧ es.size = ks.length ∧ ∀ (i : Nat) (k : V), ks[i]? = some k → ∃ en : DictEntry, es[i]? = some en ∧ RelV k en.key
/-- the dict at d is just o -/
def DicO (d : Addr) (o : Obj) : HO := .ext fun h => h.get? d = some o
/-- a key's value, None among them -/
def okV : Option Key → V | none => .non | some k => kV k
/-- from the pairs told by the kind with None -/
theorem pairs_keys {P : Program} {w : World} : ∀ {es : List DictEntry} {kvs : List (Option Key × Value)}, Pairs (noneKind P w) es kvs → ∀ (i : Nat) (k : V), (kvs.map fun p : Option Key × Value => okV p.1)[i]? = some k → ∃ en : DictEntry, es[i]? = some en ∧ RelV k en.key
  | _, _, .nil, i, k, h => by simp at h
  | _, _, .cons (e := e) (kv := kv) h1 _ _, 0, k, h => by
    refine ⟨e, rfl, ?_⟩
    obtain ⟨q, v⟩ := kv
    have h1 : nkIs q e.key = true := h1
    cases q with
    | none =>
      cases (show V.non = k from Option.some.inj h)
      exact nk_none h1
    | some q =>
      cases (show kV q = k from Option.some.inj h)
      exact keyIs_rel h1
  | _, _, .cons _ _ r, i + 1, k, h => by
    obtain ⟨en, h1, h2⟩ := pairs_keys r i k (by simpa using h)
    exact ⟨en, by simpa using h1, h2⟩
theorem pairs_some {P : Program} {w : World} : ∀ {es : List DictEntry} {kvs : List (Key × Value)}, Pairs (mixKind P w) es kvs → Pairs (noneKind P w) es (kvs.map fun p : Key × Value => ((some p.1 : Option Key), p.2))
  | _, _, .nil => .nil
  | _, _, .cons h1 h2 r => .cons h1 h2 (pairs_some r)
theorem nodup_some : ∀ {l : List (Key × Value)}, (l.map (·.1)).Nodup → ((l.map fun p : Key × Value => ((some p.1 : Option Key), p.2)).map (·.1)).Nodup
  | [], _ => List.nodup_nil
  | p :: r, h => by
    obtain ⟨h1, h2⟩ := List.nodup_cons.mp h
    refine List.nodup_cons.mpr ⟨fun z => ?_, nodup_some h2⟩
    obtain ⟨q, hq, e⟩ := List.mem_map.mp z
    obtain ⟨q', hq', rfl⟩ := List.mem_map.mp hq
    exact h1 (List.mem_map.mpr ⟨q', hq', Option.some.inj e⟩)
section
variable {X : Cx} {pins : List (Addr × Obj)} {σ : L2.St} {H : Hp} {s : Shared} {a : Addr} {A : Around} {E : Value → Shared → Prop}
/-- d[None] = v -/
theorem d_setNone {kvs : List (Key × V)} {r : Value} {Q : Unit → Shared → Prop} (I : Inv X pins σ H s) (e : H a = some (.dK kvs))
    (h : ∀ o s', (a == sysModules) = false → KeysO o (kvs.map (fun p => kV p.1) ++ [.non]) → Inv X pins σ (upd H a (DicO a o)) s' → Q () s') : wpAny (model X.prog X.w) A (setItem (.ref a) .none r) Q E s := by
  obtain ⟨z, hd, vs, rel, o, es, ep, ho, hx, hdt, hk, hp, hn⟩ := dk_of I.hok e
  have dn : s.heap.DictOf (noneKind X.prog X.w) a (vs.map fun p : Key × Value => ((some p.1 : Option Key), p.2)) :=
    ⟨o, es, ep, ho, hx, hdt, fun q hq => let ⟨k, h1, h2⟩ := hk q hq; ⟨some k, h1, h2⟩, pairs_some hp, nodup_some hn⟩
  refine wpAny_setItem_pairs (hsz := by rw [List.length_map, ← Paired.length rel]; exact z) (show (noneKind X.prog X.w).is none .none = true from rfl) dn fun h' dd' hs => ?_
  have en : stored (vs.map fun p : Key × Value => ((some p.1 : Option Key), p.2)) none r = (vs.map fun p : Key × Value => ((some p.1 : Option Key), p.2)) ++ [((none : Option Key), r)] := by
    unfold stored
    rw [if_neg]
    intro q
    obtain ⟨p, hp, hq⟩ := List.any_eq_true.mp q
    obtain ⟨p', _, rfl⟩ := List.mem_map.mp hp
    cases of_decide_eq_true hq
  rw [en] at dd'
  obtain ⟨o', es', ep', ho', hx', hdt', _, hp', _⟩ := dd'
  have ek : (((vs.map fun p : Key × Value => ((some p.1 : Option Key), p.2)) ++ [((none : Option Key), r)]).map fun p : Option Key × Value => okV p.1) = kvs.map (fun p => kV p.1) ++ [.non] := by
    rw [List.map_append, List.map_map]
    have e2 : vs.map (fun p => kV p.1) = kvs.map fun p => kV p.1 := by
      have q := congrArg (List.map kV) rel.keys
      rw [List.map_map, List.map_map] at q
      exact q.symm
    show vs.map (fun p => kV p.1) ++ [V.non] = _
    rw [e2]
  refine h o' _ hd ⟨hx', es', ep', hdt', ?_, fun i k hik => ?_⟩ (d_write I (by rw [e]; exact True.intro) hs ⟨o', ho'⟩ ⟨ho', ⟨o', ho'⟩, fun h1 h2 q st => st _ q⟩)
  · have l1 := hp'.length
    rw [Array.length_toList] at l1
    rw [l1, ← ek, List.length_map]
  · rw [← ek] at hik
    obtain ⟨en, q1, q2⟩ := pairs_keys hp' i k hik
    exact ⟨en, by rw [← Array.getElem?_toList]; exact q1, q2⟩
theorem dicO_at {d : Addr} {o : Obj} (I : Inv X pins σ H s) (h : H d = some (DicO d o)) : s.heap.get? d = some o := (I.hok d _ h).1
end
/-- d[y] = v: an int, a text or None -/
def sDPutN (td ty tv : TE) : TS := fun D σ H => tv σ H fun v H1 => td σ H1 fun x H2 => ty σ H2 fun y H3 => ∃ a, x = .ref a ∧ ((∃ H4, DPut H3 a y v H4 ∧ D.nx σ H4) ∨
  ∃ kvs, y = .non ∧ H3 a = some (.dK kvs) ∧ ∀ o, (a == sysModules) = false → KeysO o (kvs.map (fun p => kV p.1) ++ [.non]) → D.nx σ (upd H3 a (DicO a o)))
theorem ps_dputN {X : Cx} {o i value : Expr} {td ty tv : TE} {pos pos' : Pos} (hu : X.A.units + 1 < cLine) (ho : PE X o td) (hi : PE X i ty) (hv : PE X value tv) (hs : swapsWith value (some (.Subscript o i pos')) pos.line X.env = pure false) :
    PS X (.Assign [.Subscript o i pos'] value pos) (sDPutN td ty tv) := by
  refine ⟨fun pins s σ H D I h => ?_⟩
  refine wpAny_Assign_Subscript (thn (hv.run pins s σ H _ I h) fun r s1 ⟨v, H1, I1, rv, q1⟩ => thn (ho.run pins s1 σ H1 _ I1 q1) fun u s2 ⟨x, H2, I2, rx, q2⟩ => thn (hi.run pins s2 σ H2 _ I2 q2) fun iv s3 ⟨y, H3, I3, ry, a, ex, q3⟩ => ?_) hs
  subst ex
  obtain rfl : u = Value.ref a := rx
  rcases q3 with ⟨H4, g, q3⟩ | ⟨kvs, ey, g, q3⟩
  · exact d_setItem hu I3 g ry rv fun s4 I4 => ⟨σ, H4, I4, q3⟩
  · subst ey
    cases ry
    exact d_setNone I3 g fun o s4 lo ko I4 => ⟨σ, _, I4, q3 o lo ko⟩
/-! ### such a dict walked -/
def Ikx (d : Addr) (o : Obj) (ks : List V) : It := ⟨fun i H => H d = some (DicO d o) ∧ i < ks.length, fun i H x H' => H' = H ∧ ks[i]? = some x, fun i H => H d = some (DicO d o) ∧ ks.length = i⟩
theorem turn_kx {P : Program} {w : World} {K : PySem.W.Frag} {tg : Expr} {d : Addr} {o : Obj} {ks : List V} {es : Array DictEntry} {ep : Nat} (it : Addr) (hod : o.data = .dict es ep) (hsz : es.size = ks.length)
    (hk : ∀ (i : Nat) (k : V), ks[i]? = some k → ∃ en : DictEntry, es[i]? = some en ∧ RelV k en.key) : Turn P w K tg (Ikx d o ks) [it] it (fun i h => h.IsKeyIter it d i ks.length ep) where
  mem := by simp
  obj := fun i h st b hb => by
    have e : b = it := by simpa using hb
    subst e
    obtain ⟨oi, e, c, dd⟩ := st
    exact ⟨oi, e, fun v z => by rw [dd] at z; cases z⟩
  keep := fun i h h' st k => st.at fun oi e => k it (by simp) oi e
  item := by
    intro X hP hw hK hc i pins s σ H E I hf st hg
    subst hP hw hK
    obtain ⟨hd, hi⟩ := hg
    obtain ⟨f0, f1, f2, f3, f4, f5⟩ := hf it (by simp)
    obtain ⟨en, hen, hkey⟩ := hk i ks[i] (List.getElem?_eq_getElem hi)
    refine next_key_item st (dicO_at I hd) hod hsz hen fun h' st' sb => ?_
    have I1 : Inv X pins σ H { s with heap := h' } := I.turned (t' := s.toks) (fun b ob hb e => (sb.2 b hb).trans e) f0 f1 f3 f4 f5
    obtain ⟨oi, e, c, dd⟩ := id st'
    exact ⟨en.key, rfl, go_of (s := { s with heap := h' }) e c dd (by decide) ⟨ks[i], H, I1, hkey, ⟨rfl, List.getElem?_eq_getElem hi⟩, st', fun b hb => (hf b hb).1⟩⟩
  done := by
    intro X hP hw hK hc i pins s σ H E I hf st hg
    subst hP hw hK
    obtain ⟨hd, hi⟩ := hg
    obtain ⟨f0, f1, f2, f3, f4, f5⟩ := hf it (by simp)
    exact next_key_end (I.ok.hd hc) st (dicO_at I hd) hod hsz (by omega) fun h' eb => ⟨rfl, I.turned (t' := s.toks) (fun b ob hb e => eb b ob hb e) f0 f1 f3 f4 f5⟩
  self := fun A i s Q E st h => wpAny_pyIter_keyiter st h
/-- for k in d: locked (as pi_keys), or such a dict -/
def iKeysN (td : TE) : TI := fun σ H R => td σ H fun x H1 => ∃ d, x = .ref d ∧ ((∃ o kvs, H1 d = some (.frz o (.dK kvs)) ∧ R (Itk d o kvs) H1) ∨ ∃ o ks, H1 d = some (DicO d o) ∧ (d == sysModules) = false ∧ KeysO o ks ∧ R (Ikx d o ks) H1)
theorem pi_keysN {X : Cx} {tg e : Expr} {td : TE} (he : PE X e td) : PI X tg e (iKeysN td) := by
  refine ⟨fun pins s σ H R I h => ?_⟩
  refine thn (he.run pins s σ H _ I h) fun v s1 ⟨x, H1, I1, r1, d, ex, q⟩ => ?_
  subst ex
  obtain rfl : v = Value.ref d := r1
  rcases q with ⟨o, kvs, hd, q⟩ | ⟨o, ks, hd, lo, ⟨hx, es, ep, hdt, hsz, hk⟩, q⟩
  · obtain ⟨hs, hgd, hx, es, ep, vs, hdt, hsz, kv, hm⟩ := I1.frzK hd
    refine iter_keys hs hgd hx hdt (pi_one (tk := s1.toks) I1 _ (turn_keys _ hdt) ⟨_, Heap.get?_push_size _ rfl, rfl, ?_⟩ q)
    rw [hsz]
    rfl
  · refine iter_keys lo (dicO_at I1 hd) hx hdt (pi_one (tk := s1.toks) I1 _ (turn_kx _ hdt hsz hk) ⟨_, Heap.get?_push_size _ rfl, rfl, ?_⟩ q)
    rw [hsz]
    rfl
/-- a comprehension over such a dict -/
theorem lc_kx {d : Addr} {o : Obj} {ks : List V} {g : TG} {tt : TT} {te : TE} {vs : List Nat} {σ : L2.St} {H1 : Hp} {D : Addr} {Qd : Hp → Prop} (Pv : Nat → Hp → Prop) (h0 : Pv 0 (upd H1 D (.lst []))) (hl : ∀ i H, i ≤ ks.length → Pv i H → H d = some (DicO d o))
    (hs : ∀ i x H, ks[i]? = some x → Pv i H → g x (wipe σ vs) H fun σ2 H2 => wipe σ2 vs = wipe σ vs ∧ tt σ2 H2 fun b H3 =>
      if b = true then te σ2 H3 fun y H4 => ∃ acc, H4 D = some (.lst acc) ∧ acc.length < sizeLine ∧ Pv (i + 1) (upd H4 D (.lst (acc ++ [y]))) else Pv (i + 1) H3) (hd : ∀ H, Pv ks.length H → Qd H) :
    ∃ W : Nat → Nat → Hp → Prop, (∃ m, W 0 m (upd H1 D (.lst []))) ∧ ∀ i m H, W i m H →
      ((Ikx d o ks).stop i H ∧ Qd H) ∨ ((Ikx d o ks).go i H ∧ ∃ Nx : Hp → Prop, (∀ H', Nx H' → ∃ m', m' < m ∧ W (i + 1) m' H') ∧ ∀ x H', (Ikx d o ks).yld i H x H' → g x (wipe σ vs) H' fun σ2 H2 => wipe σ2 vs = wipe σ vs ∧ tt σ2 H2 fun b H3 =>
        if b = true then te σ2 H3 fun y H4 => ∃ acc, H4 D = some (.lst acc) ∧ acc.length < sizeLine ∧ Nx (upd H4 D (.lst (acc ++ [y]))) else Nx H3) := by
  refine ⟨fun i m H => m = ks.length - i ∧ i ≤ ks.length ∧ Pv i H, ⟨ks.length, by simp, Nat.zero_le _, h0⟩, ?_⟩
  rintro i m H ⟨rfl, hi, p⟩
  have q := hl i H hi p
  rcases Nat.lt_or_ge i ks.length with hlt | hge
  · refine .inr ⟨⟨q, hlt⟩, Pv (i + 1), fun H' p' => ⟨ks.length - (i + 1), by omega, rfl, hlt, p'⟩, fun v H' y => ?_⟩
    obtain ⟨rfl, y⟩ := y
    exact hs i v _ y p
  · have e : i = ks.length := Nat.le_antisymm hi hge
    subst e
    exact .inl ⟨⟨q, rfl⟩, hd H p⟩
/-- a comprehension over a locked dict -/
theorem lc_dk {d : Addr} {o : Obj} {kvs : List (Key × V)} {g : TG} {tt : TT} {te : TE} {vs : List Nat} {σ : L2.St} {H1 : Hp} {D : Addr} {Qd : Hp → Prop} (Pv : Nat → Hp → Prop) (h0 : Pv 0 (upd H1 D (.lst []))) (hl : ∀ i H, i ≤ kvs.length → Pv i H → H d = some (.frz o (.dK kvs)))
    (hs : ∀ i (p : Key × V) H, kvs[i]? = some p → Pv i H → g (kV p.1) (wipe σ vs) H fun σ2 H2 => wipe σ2 vs = wipe σ vs ∧ tt σ2 H2 fun b H3 =>
      if b = true then te σ2 H3 fun y H4 => ∃ acc, H4 D = some (.lst acc) ∧ acc.length < sizeLine ∧ Pv (i + 1) (upd H4 D (.lst (acc ++ [y]))) else Pv (i + 1) H3) (hd : ∀ H, Pv kvs.length H → Qd H) :
    ∃ W : Nat → Nat → Hp → Prop, (∃ m, W 0 m (upd H1 D (.lst []))) ∧ ∀ i m H, W i m H →
      ((Itk d o kvs).stop i H ∧ Qd H) ∨ ((Itk d o kvs).go i H ∧ ∃ Nx : Hp → Prop, (∀ H', Nx H' → ∃ m', m' < m ∧ W (i + 1) m' H') ∧ ∀ x H', (Itk d o kvs).yld i H x H' → g x (wipe σ vs) H' fun σ2 H2 => wipe σ2 vs = wipe σ vs ∧ tt σ2 H2 fun b H3 =>
        if b = true then te σ2 H3 fun y H4 => ∃ acc, H4 D = some (.lst acc) ∧ acc.length < sizeLine ∧ Nx (upd H4 D (.lst (acc ++ [y]))) else Nx H3) := by
  refine ⟨fun i m H => m = kvs.length - i ∧ i ≤ kvs.length ∧ Pv i H, ⟨kvs.length, by simp, Nat.zero_le _, h0⟩, ?_⟩
  rintro i m H ⟨rfl, hi, p⟩
  have q := hl i H hi p
  rcases Nat.lt_or_ge i kvs.length with hlt | hge
  · refine .inr ⟨⟨q, hlt⟩, Pv (i + 1), fun H' p' => ⟨kvs.length - (i + 1), by omega, rfl, hlt, p'⟩, fun v H' y => ?_⟩
    obtain ⟨rfl, k, x, hk, rfl⟩ := y
    exact hs i (k, x) _ hk p
  · have e : i = kvs.length := Nat.le_antisymm hi hge
    subst e
    exact .inl ⟨⟨q, Nat.le_refl _⟩, hd H p⟩
/-! ### its type -/
/-- a value's type: HandS.IsInst's, or such a dict's -/
def TyK (K : PySem.W.Frag) (H : Hp) (x : V) (t : Value) : Prop := TyX K H x t ∨ ∃ a o, x = .ref a ∧ H a = some (DicO a o) ∧ o.cls = .type "dict" ∧ t = .type "dict"
theorem kitk_of {X : Cx} {pins : List (Addr × Obj)} {σ : L2.St} {H : Hp} {s : Shared} {x : V} {u t : Value} (I : Inv X pins σ H s) (rx : RelV x u) (ty : TyK X.K H x t) :
    ∃ P : Heap → Prop, PySem.W.KitX X.K u t P ∧ P s.heap ∧ u ≠ .builtin "__main__.__loader__#opaque" := by
  rcases ty with ty | ⟨a, o, rfl, h, hc, rfl⟩
  · exact kit_of I rx ty
  · cases (show u = Value.ref a from rx)
    exact ⟨_, PySem.W.kitx_dict, ⟨o, dicO_at I h, hc⟩, fun z => nomatch z⟩
def rIsiK (K : PySem.W.Frag) : List V → Hp → VK → Prop := fun xs H Q => ∃ (x c : V) (t u : Value) (b : Bool), xs = [x, c] ∧ ClsV c u ∧ TyK K H x t ∧ PySem.W.kitOne K t u = some b ∧ Q (.bl b) H
theorem call_isiK {X : Cx} : CallR X (.builtin "isinstance") (rIsiK X.K) := by
  intro pins s σ H xs us Q I r h
  obtain ⟨x, c, t, u, b, rfl, k, ty, e, q⟩ := h
  obtain ⟨u1, u2, rfl, r1, r2⟩ := vals2 r
  have e2 := k.eq r2
  subst e2
  obtain ⟨P, Z, p, hx⟩ := kitk_of I r1 ty
  exact PySem.W.kia_one Z I.kIn p e hx fun tk => ⟨.bl b, H, I.tok tk, rfl, q⟩
/-- o op y, y of a built-in type, such a dict too -/
def rBinK (K : PySem.W.Frag) (C g : Addr) (op : Operator) (sp : Sp) (E : XK) : R2 := fun x y H Q => ∃ a dx vs T, x = .ref a ∧ SlX.Slt H a C dx vs ∧ TyK K H y (.type T) ∧ BinT K C g op T ∧ sp [x, y] H Q E
theorem op_binK {X : Cx} {CX : CXT} {n : Nat} {C g : Addr} {sp : Sp} {E : XK} {op : Operator} (F : FnR X.prog X.w X.K X.mg X.base CX n g sp) (hr : Room n X.A) (hx : Passes CX X E) : OpR X (binaryOp op) (rBinK X.K C g op sp E) := by
  intro pins s σ H x y v u Q I rx ry h
  obtain ⟨a, dx, vs, T, rfl, ha, ty, B, q⟩ := h
  cases (show v = Value.ref a from rx)
  obtain ⟨sl, od, _, J, _⟩ := SlX.slt_inst I ha
  obtain ⟨m, hF⟩ := I.fr
  obtain ⟨fo, h1⟩ := B.l
  obtain ⟨ro, h2⟩ := B.r
  obtain ⟨P, Z, p, _⟩ := kitk_of I ry ty
  refine bin_look hF I.ok.mod.kin J (Z.ty _ _ I.kIn p) B.first B.own B.fn B.noR rfl h1 h2 B.sub (wpAny_mono (wpAny_call (run_fnR (us := [.ref a, u]) (vs := [.ref a, y]) F hr hx I (.cons rfl (.cons ry .nil)) q)) (fun r s' z => ?_) fun _ _ x => x)
  obtain ⟨z', H', I', rz, qz⟩ := z
  exact SlX.cmpback rz ⟨z', H', I', rz, qz⟩
end Lk
/-! kinds of values; calls by name; is_number, is_held, is_register, are_marks -/
namespace Lk
open PySem PySem.Spec PyProof.Rows L2
abbrev FnS (K : PySem.W.Frag) (x q : Str) (st : Stmt) (f : Addr) (fd : FuncData) : Prop := FunD K x q (defArgs st) (defBody st) (defScope st) [] [] f fd
/-- a def of the module, called by its name -/
structure Cal (P : Program) (w : World) (K : PySem.W.Frag) (mg : Str → Option Value) (base : Heap) (CX : CXT) (k : Nat) (x : Str) (ps : List Str) (sp : Sp) : Prop where
  ex : ∃ f fd, FnOk P w K mg base CX k f fd ps sp ∧ Binds K fd ps [] ∧ PySem.W.keepIn K (.ref f) = true ∧ mg x = some (.ref f)
theorem pe_c {X : Cx} {CX : CXT} {k : Nat} {x : Str} {ps : List Str} {sp : Sp} {E : XK} {e : Expr} {es : List Expr} {t : TA} {p pos : Pos} (c : Cal X.prog X.w X.K X.mg X.base CX k x ps sp) (hr : Room k X.A) (hg : Gl X x) (hx : Passes CX X E) (ha : PA X (e :: es) t)
    (hdb : (x == ("__debug__" : Str)) = false := by decide) (he : starEach (e :: es) X.env = (false, eval e X.env) :: starEach es X.env := by rfl) (hpl : (backTo pos (starEach es X.env)).any (·.1) = false := by rfl) :
    PE X (.Call (.Name x p) (e :: es) [] pos) (tCall sp [] E t) := by
  obtain ⟨f, fd, F, b, kp, g⟩ := c.ex
  exact pe_call F hr hg g kp b .nil hx ha hdb he hpl
/-- built-in names that the module leaves; its constants -/
structure Gs (mg : Str → Option Value) : Prop where
  isi : mg "isinstance" = none
  int : mg "int" = none
  bool : mg "bool" = none
  str : mg "str" = none
  tuple : mg "tuple" = none
  len : mg "len" = none
  all : mg "all" = none
  dict : mg "dict" = none
  enum : mg "enumerate" = none
  list : mg "list" = none
  range : mg "range" = none
  max : mg "max" = none
  min : mg "min" = none
  regs : ∃ t, mg "REGISTERS" = some (.str "abc" t)
  most : ∃ t, mg "MOST_NUMBER" = some (.int 9 t)
  mreg : ∃ t, mg "MOST_REGISTERS" = some (.int 3 t)
/-! ### kinds -/
inductive Kd (H : Hp) : V → Prop where
  | non : Kd H .non
  | bl (b : Bool) : Kd H (.bl b)
  | int (i : Int) : Kd H (.int i)
  | str (z : Str) : Kd H (.str z)
  | tup {a : Addr} {xs : List V} (e : H a = some (.tup xs)) : Kd H (.ref a)
  | lst {a : Addr} {xs : List V} (e : H a = some (.lst xs)) : Kd H (.ref a)
def isI : V → Bool | .int _ => true | .bl _ => true | _ => false
def isB : V → Bool | .bl _ => true | _ => false
def isS : V → Bool | .str _ => true | _ => false
def isT (H : Hp) : V → Bool | .ref a => (match H a with | some (.tup _) => true | _ => false) | _ => false
theorem Kd.ty {K : PySem.W.Frag} {H : Hp} {x : V} (k : Kd H x) : ∃ t, TyX K H x (.type t) ∧ kitB t "int" = some (isI x) ∧ kitB t "bool" = some (isB x) ∧ kitB t "str" = some (isS x) ∧ kitB t "tuple" = some (isT H x) ∧ kitB t "dict" = some false := by
  cases k with
  | non => exact ⟨_, .base .non, by decide +kernel, by decide +kernel, by decide +kernel, by rw [show isT H .non = false from rfl]; decide +kernel, by decide +kernel⟩
  | bl b => exact ⟨_, .base (.bl b), by rw [show isI (.bl b) = true from rfl]; decide +kernel, by rw [show isB (.bl b) = true from rfl]; decide +kernel, by rw [show isS (.bl b) = false from rfl]; decide +kernel, by rw [show isT H (.bl b) = false from rfl]; decide +kernel, by decide +kernel⟩
  | int b => exact ⟨_, .base (.int b), by rw [show isI (.int b) = true from rfl]; decide +kernel, by rw [show isB (.int b) = false from rfl]; decide +kernel, by rw [show isS (.int b) = false from rfl]; decide +kernel, by rw [show isT H (.int b) = false from rfl]; decide +kernel, by decide +kernel⟩
  | str b => exact ⟨_, .base (.str b), by rw [show isI (.str b) = false from rfl]; decide +kernel, by rw [show isB (.str b) = false from rfl]; decide +kernel, by rw [show isS (.str b) = true from rfl]; decide +kernel, by rw [show isT H (.str b) = false from rfl]; decide +kernel, by decide +kernel⟩
  | @tup a xs e =>
    have q : isT H (.ref a) = true := by simp only [isT, e]
    exact ⟨_, .base (.tup e), by rw [show isI (.ref a) = false from rfl]; decide +kernel, by rw [show isB (.ref a) = false from rfl]; decide +kernel, by rw [show isS (.ref a) = false from rfl]; decide +kernel, by rw [q]; decide +kernel, by decide +kernel⟩
  | @lst a xs e =>
    have q : isT H (.ref a) = false := by simp only [isT, e]
    exact ⟨_, .base (.lst e), by rw [show isI (.ref a) = false from rfl]; decide +kernel, by rw [show isB (.ref a) = false from rfl]; decide +kernel, by rw [show isS (.ref a) = false from rfl]; decide +kernel, by rw [q]; decide +kernel, by decide +kernel⟩
theorem Kd.same {H H' : Hp} {x : V} (s : Same H H') (k : Kd H x) : Kd H' x := by
  cases k with
  | non => exact .non
  | bl b => exact .bl b
  | int b => exact .int b
  | str b => exact .str b
  | tup e => exact .tup (s _ _ e)
  | lst e => exact .lst (s _ _ e)
/-! ### is_number -/
def numB (x : V) (lo hi : Int) : Bool := match x with | .int i => decide (lo ≤ i) && decide (i ≤ hi) | _ => false
def spNum : Sp := fun vs H Q _ => ∃ x lo hi, vs = [x, .int lo, .int hi] ∧ Kd H x ∧ Q (.bl (numB x lo hi)) H
section
variable {P : Program} {w : World} {K : PySem.W.Frag} {mg : Str → Option Value} {base : Heap} {f : Addr} {fd : FuncData}
theorem ok_num (F : FnS K "is_number" "is_number" sNum f fd) (g : Gs mg) : FnOk P w K mg base CX0 1 f fd nNum spNum := by
  refine F.ok scNum (fun vs H Q E h => ?_) (fun cdv A outer s H vs Q E hr h => ⟨_, PSs.nox (pss_one (ps_ret
    (pe_and (pe_callB call_isi rfl g.isi (by decide +kernel) (pa_cons (pv 0) (pa_cons (pe_bltn (v := .ty "int") rfl g.int boot_int rfl) pa_nil)))
    (pe_and (pe_not (pe_callB call_isi rfl g.isi (by decide +kernel) (pa_cons (pv 0) (pa_cons (pe_bltn (v := .ty "bool") rfl g.bool (by decide +kernel) rfl) pa_nil))))
    (pe_one (pe_chain op_le op_le (pv 1) (pv 0) (pv 2))))))), ?_⟩)
  · obtain ⟨x, lo, hi, rfl, _⟩ := h
    rfl
  · obtain ⟨x, lo, hi, rfl, k, q⟩ := h
    obtain ⟨t, ty, k1, k2, _⟩ := k.ty (K := K)
    refine ⟨_, rfl, x, .ty "int", .type t, .type "int", _, rfl, .ty _, ty, kit_ty k1, _, rfl, ?_⟩
    by_cases hI : isI x = true
    · rw [hI]
      refine iteT ⟨_, rfl, x, .ty "bool", .type t, .type "bool", _, rfl, .ty _, ty, kit_ty k2, _, rfl, _, rfl, ?_⟩
      cases x with
      | bl b => exact iteF q
      | int i =>
        refine iteT ⟨_, rfl, _, rfl, _, _, rfl, rfl, _, rfl, ?_⟩
        by_cases h1 : lo ≤ i
        · rw [decide_eq_true h1]
          refine iteT ⟨_, rfl, _, _, rfl, rfl, ?_⟩
          have e : numB (.int i) lo hi = decide (i ≤ hi) := by
            show (decide (lo ≤ i) && decide (i ≤ hi)) = _
            rw [decide_eq_true h1, Bool.true_and]
          rw [e] at q
          exact q
        · rw [decide_eq_false h1]
          refine iteF ?_
          have e : numB (.int i) lo hi = false := by
            show (decide (lo ≤ i) && decide (i ≤ hi)) = _
            rw [decide_eq_false h1, Bool.false_and]
          rw [e] at q
          exact q
      | _ => cases hI
    · have e : isI x = false := by simpa using hI
      rw [e]
      refine iteF ?_
      have e2 : numB x lo hi = false := by
        cases x <;> first | rfl | cases e
      rw [e2] at q
      exact q
end
/-! ### is_held -/
def heldB (x : V) (hi : Int) : Bool := match x with | .non => true | _ => numB x 0 hi
def spHeld : Sp := fun vs H Q _ => ∃ x hi, vs = [x, .int hi] ∧ Kd H x ∧ Q (.bl (heldB x hi)) H
section
variable {P : Program} {w : World} {K : PySem.W.Frag} {mg : Str → Option Value} {base : Heap} {f : Addr} {fd : FuncData}
theorem ok_held (F : FnS K "is_held" "is_held" sHeld f fd) (cn : Cal P w K mg base CX0 1 "is_number" nNum spNum) : FnOk P w K mg base CX0 2 f fd nHeld spHeld := by
  refine F.ok scHeld (fun vs H Q E h => ?_) (fun cdv A outer s H vs Q E hr h => ⟨_, PSs.nox (pss_one (ps_ret
    (pe_or (pe_cmp (pc_isN (pv 0))) (pe_one (pe_c cn hr rfl pass0 (pa_cons (pv 0) (pa_cons pe_int (pa_cons (pv 1) pa_nil)))))))), ?_⟩)
  · obtain ⟨x, hi, rfl, _⟩ := h
    rfl
  · obtain ⟨x, hi, rfl, k, q⟩ := h
    refine ⟨_, rfl, _, rfl, ?_⟩
    refine ite2 (fun e => ?_) (fun e => ?_)
    · have e : x = .non := of_decide_eq_true e
      subst e
      exact q
    · have e : ¬ x = .non := fun z => e (decide_eq_true z)
      refine ⟨_, rfl, _, rfl, x, 0, hi, rfl, k, ?_⟩
      cases x <;> first | exact q | exact absurd rfl e
end
end Lk
/-! comprehensions whose parts leave all that is tracked; is_register, are_marks -/
namespace Lk
open PySem PySem.Spec PyProof.Rows L2
theorem _root_.L2.Same.upd {H1 H : Hp} {D : Addr} {o : HO} (s : Same H1 H) (n : H1 D = none) : Same H1 (upd H D o) := fun b u e => by
  rw [upd_ne (ne_of_none e n)]
  exact s b u e
theorem _root_.L2.Same.tup {K : PySem.W.Frag} {H H' : Hp} {a : Addr} {xs : List V} (e : Same H H') (h : SqT K H a xs) : SqT K H' a xs := by
  rcases h with (h | ⟨o, h⟩) | h
  · exact .inl (.inl (e _ _ h))
  · exact .inl (.inr ⟨o, e _ _ h⟩)
  · exact .inr h
theorem take_one {xs : List V} {i : Nat} {x : V} (h : xs[i]? = some x) (p : V → Bool) (f : V → V) : ((xs.take (i + 1)).filter p).map f = ((xs.take i).filter p).map f ++ (if p x then [f x] else []) := by
  rw [List.take_add_one, h, Option.toList_some, List.filter_append, List.map_append]
  congr 1
  by_cases q : p x = true
  · rw [List.filter_cons_of_pos q, if_pos q]
    rfl
  · rw [List.filter_cons_of_neg q, if_neg q]
    rfl
section
variable {K : PySem.W.Frag} {a : Addr} {xs : List V} {tt : TT} {te : TE} {vs : List Nat} {σ : L2.St} {H1 : Hp} {D : Addr} {j : Nat} {Qd : Hp → Prop}
theorem lcm_list (p : V → Bool) (hv : V → V) (hq : SqL K H1 a xs) (nD : H1 D = none) (hz : xs.length ≤ 1000) (hw : ∀ v, wipe ((wipe σ vs).set j (some v)) vs = wipe σ vs)
    (ht : ∀ x ∈ xs, ∀ H, Same H1 H → ∀ Q : Bool → Hp → Prop, (∀ H', Same H H' → Q (p x) H') → tt ((wipe σ vs).set j (some x)) H Q)
    (he : ∀ x ∈ xs, p x = true → ∀ H, Same H1 H → ∀ Q : VK, (∀ H', Same H H' → Q (hv x) H') → te ((wipe σ vs).set j (some x)) H Q)
    (hd : ∀ H, Same H1 H → H D = some (.lst ((xs.filter p).map hv)) → Qd H) :
    ∃ W : Nat → Nat → Hp → Prop, (∃ m, W 0 m (upd H1 D (.lst []))) ∧ ∀ i m H, W i m H →
      ((Itl K a).stop i H ∧ Qd H) ∨ ((Itl K a).go i H ∧ ∃ Nx : Hp → Prop, (∀ H', Nx H' → ∃ m', m' < m ∧ W (i + 1) m' H') ∧ ∀ x H', (Itl K a).yld i H x H' → gName j x (wipe σ vs) H' fun σ2 H2 => wipe σ2 vs = wipe σ vs ∧ tt σ2 H2 fun b H3 =>
        if b = true then te σ2 H3 fun y H4 => ∃ acc, H4 D = some (.lst acc) ∧ acc.length < sizeLine ∧ Nx (upd H4 D (.lst (acc ++ [y]))) else Nx H3) := by
  refine lc_list (xs := xs) (fun i H => Same H1 H ∧ H D = some (.lst (((xs.take i).filter p).map hv))) ⟨Same.upd (Same.refl H1) nD, upd_same⟩ (fun i H _ h => h.1.seq hq) (fun i x H hx h => ⟨hw x, ?_⟩) fun H h => hd H h.1 (by rw [← List.take_length (l := xs)]; exact h.2)
  have hm : x ∈ xs := List.mem_of_getElem? hx
  refine ht x hm H h.1 _ fun H2 s2 => ?_
  by_cases q : p x = true
  · rw [q]
    refine iteT (he x hm q H2 (h.1.trans s2) _ fun H4 s4 => ⟨_, s4 _ _ (s2 _ _ h.2), small1000 ?_, ((h.1.trans s2).trans s4).upd nD, ?_⟩)
    · rw [List.length_map]
      exact Nat.le_trans (List.length_filter_le _ _) (Nat.le_trans (by rw [List.length_take]; exact Nat.min_le_right _ _) hz)
    · rw [upd_same, take_one hx, if_pos q]
  · have q' : p x = false := by simpa using q
    rw [q']
    refine iteF ⟨h.1.trans s2, ?_⟩
    rw [take_one hx, if_neg q, List.append_nil]
    exact s2 _ _ h.2
theorem lcm_tup (p : V → Bool) (hv : V → V) (hq : SqT K H1 a xs) (nD : H1 D = none) (hz : xs.length ≤ 1000) (hw : ∀ v, wipe ((wipe σ vs).set j (some v)) vs = wipe σ vs)
    (ht : ∀ x ∈ xs, ∀ H, Same H1 H → ∀ Q : Bool → Hp → Prop, (∀ H', Same H H' → Q (p x) H') → tt ((wipe σ vs).set j (some x)) H Q)
    (he : ∀ x ∈ xs, p x = true → ∀ H, Same H1 H → ∀ Q : VK, (∀ H', Same H H' → Q (hv x) H') → te ((wipe σ vs).set j (some x)) H Q)
    (hd : ∀ H, Same H1 H → H D = some (.lst ((xs.filter p).map hv)) → Qd H) :
    ∃ W : Nat → Nat → Hp → Prop, (∃ m, W 0 m (upd H1 D (.lst []))) ∧ ∀ i m H, W i m H →
      ((Itt K a).stop i H ∧ Qd H) ∨ ((Itt K a).go i H ∧ ∃ Nx : Hp → Prop, (∀ H', Nx H' → ∃ m', m' < m ∧ W (i + 1) m' H') ∧ ∀ x H', (Itt K a).yld i H x H' → gName j x (wipe σ vs) H' fun σ2 H2 => wipe σ2 vs = wipe σ vs ∧ tt σ2 H2 fun b H3 =>
        if b = true then te σ2 H3 fun y H4 => ∃ acc, H4 D = some (.lst acc) ∧ acc.length < sizeLine ∧ Nx (upd H4 D (.lst (acc ++ [y]))) else Nx H3) := by
  refine lc_tup (xs := xs) (fun i H => Same H1 H ∧ H D = some (.lst (((xs.take i).filter p).map hv))) ⟨Same.upd (Same.refl H1) nD, upd_same⟩ (fun i H _ h => h.1.tup hq) (fun i x H hx h => ⟨hw x, ?_⟩) fun H h => hd H h.1 (by rw [← List.take_length (l := xs)]; exact h.2)
  have hm : x ∈ xs := List.mem_of_getElem? hx
  refine ht x hm H h.1 _ fun H2 s2 => ?_
  by_cases q : p x = true
  · rw [q]
    refine iteT (he x hm q H2 (h.1.trans s2) _ fun H4 s4 => ⟨_, s4 _ _ (s2 _ _ h.2), small1000 ?_, ((h.1.trans s2).trans s4).upd nD, ?_⟩)
    · rw [List.length_map]
      exact Nat.le_trans (List.length_filter_le _ _) (Nat.le_trans (by rw [List.length_take]; exact Nat.min_le_right _ _) hz)
    · rw [upd_same, take_one hx, if_pos q]
  · have q' : p x = false := by simpa using q
    rw [q']
    refine iteF ⟨h.1.trans s2, ?_⟩
    rw [take_one hx, if_neg q, List.append_nil]
    exact s2 _ _ h.2
end
theorem filter_yes (xs : List V) (f : V → V) : (xs.filter fun _ => true).map f = xs.map f := by
  rw [List.filter_eq_self.mpr fun _ _ => rfl]
/-! ### is_register -/
abbrev txts : List Str := ["a", "b", "c", "d", "e", "", "ab"]
def regs : List Str := ["a", "b", "c"]
def regB (x : V) (n : Int) : Bool := match x with | .str z => decide (z ∈ regs.take n.toNat) | _ => false
/-- texts that are met -/
def TxtOk (x : V) : Prop := ∀ z, x = .str z → z ∈ txts
def spReg : Sp := fun vs H Q _ => ∃ x n, vs = [x, .int n] ∧ Kd H x ∧ TxtOk x ∧ (n = 1 ∨ n = 2 ∨ n = 3) ∧ Q (.bl (regB x n)) H
def regF (z : Str) (n : Int) : Bool := (decide ((z.length : Int) = 1)) && !(Builtin.Str.occurrences (cutS "abc" none (some n)) z 0 (cutS "abc" none (some n)).length 1).isEmpty
theorem regF_eq : ∀ z ∈ txts, ∀ n ∈ ([1, 2, 3] : List Int), z.length ≤ 5 ∧ regF z n = decide (z ∈ regs.take n.toNat) := by decide +kernel
section
variable {P : Program} {w : World} {K : PySem.W.Frag} {mg : Str → Option Value} {base : Heap} {f : Addr} {fd : FuncData}
theorem ok_reg (F : FnS K "is_register" "is_register" sReg f fd) (g : Gs mg) : FnOk P w K mg base CX0 1 f fd nReg spReg := by
  obtain ⟨tr, gr⟩ := g.regs
  refine F.ok scReg (fun vs H Q E h => ?_) (fun cdv A outer s H vs Q E hr h => ⟨_, PSs.nox (pss_one (ps_ret
    (pe_and (pe_callB call_isi rfl g.isi (by decide +kernel) (pa_cons (pv 0) (pa_cons (pe_bltn (v := .ty "str") rfl g.str (by decide +kernel) rfl) pa_nil)))
    (pe_and (pe_cmpR op_eq (pe_callB call_len rfl g.len boot_len (pa_cons (pv 0) pa_nil)) pe_int (nomark _))
    (pe_one (pe_cmpR op_in_str (pv 0) (pe_slice sl_str (pe_glob (v := .str "abc") rfl gr ⟨_, rfl⟩) po_none (po_some (pv 1))) (by with_unfolding_all rfl))))))), ?_⟩)
  · obtain ⟨x, n, rfl, _⟩ := h
    rfl
  · obtain ⟨x, n, rfl, k, tx, hn, q⟩ := h
    obtain ⟨t, ty, _, _, k3, _⟩ := k.ty (K := K)
    refine ⟨_, rfl, x, .ty "str", .type t, .type "str", _, rfl, .ty _, ty, kit_ty k3, _, rfl, ?_⟩
    cases x with
    | str z =>
      obtain ⟨hz, he⟩ := regF_eq z (tx z rfl) n (by rcases hn with h | h | h <;> subst h <;> decide)
      refine iteT ⟨_, rfl, _, z.length, rfl, ⟨Nat.le_trans hz (by decide), rfl⟩, rfl, _, rfl, ?_⟩
      have q : Q (.bl (decide (z ∈ regs.take n.toNat))) H := q
      rw [← he] at q
      unfold regF at q
      by_cases h1 : (z.length : Int) = 1
      · have e : decide (V.int (z.length : Int) = V.int 1) = true := by rw [h1]; decide
        rw [e]
        rw [decide_eq_true h1, Bool.true_and] at q
        exact iteT ⟨_, rfl, _, rfl, _, rfl, _, rfl, (by decide), _, _, rfl, rfl, q⟩
      · have e : decide (V.int (z.length : Int) = V.int 1) = false := decide_eq_false fun z' => h1 (V.int.inj z')
        rw [e]
        rw [decide_eq_false h1, Bool.false_and] at q
        exact iteF q
    | _ => exact iteF q
end
/-! ### are_marks -/
def amB (xs : List V) (most : Int) : Bool := decide (1 ≤ xs.length) && decide ((xs.length : Int) ≤ most) && xs.all (heldB · 9)
def amV (H : Hp) (x : V) (most : Int) : Bool := match x with | .ref a => (match H a with | some (.tup xs) => amB xs most | _ => false) | _ => false
/-- a value, if a tuple: of such values -/
def Kt (H : Hp) (x : V) : Prop := Kd H x ∧ ∀ a xs, x = .ref a → H a = some (.tup xs) → xs.length ≤ 1000 ∧ ∀ y ∈ xs, Kd H y
def spAre : Sp := fun vs H Q _ => ∃ x most, vs = [x, .int most] ∧ Kt H x ∧ ∀ H', Same H H' → Q (.bl (amV H x most)) H'
section
variable {P : Program} {w : World} {K : PySem.W.Frag} {mg : Str → Option Value} {base : Heap} {f : Addr} {fd : FuncData}
theorem ok_are (F : FnS K "are_marks" "are_marks" sAre f fd) (g : Gs mg) (ch : Cal P w K mg base CX0 2 "is_held" nHeld spHeld) : FnOk P w K mg base CX0 3 f fd ["thing", "most"] spAre := by
  obtain ⟨tm, gm⟩ := g.most
  refine F.ok scAre (fun vs H Q E h => ?_) (fun cdv A outer s H vs Q E hr h => ⟨_, PSs.nox (pss_cons
    (ps_if (PW.pt (pw_or (pt_not (pt_val (pe_callB call_isi rfl g.isi (by decide +kernel) (pa_cons (pv 0) (pa_cons (pe_bltn (v := .ty "tuple") rfl g.tuple (by decide +kernel) rfl) pa_nil)))))
      (pw_or1 (pt_not (pt_chain op_le op_le pe_int (pe_callB call_len rfl g.len boot_len (pa_cons (pv 0) pa_nil)) (pv 1))))))
      (pss_one (ps_ret pe_bl)) pss_nil)
    (pss_one (ps_ret (pe_callB (cr_all rfl) rfl g.all (by decide +kernel) (pa_cons
      (pe_lc (own := [("mark", 2)]) (g := gName 2) (tt := tYes) rfl scAre.nd (pi_tup (pv 0)) (blkOk_by (N := nAre) (sc := defScope sAre) (by decide +kernel)) (fun _ _ _ _ _ => pg_name (i := 2) scAre.nd rfl (Or.inl rfl)) (fun _ _ _ _ _ => pts_nil)
        (fun _ _ _ _ _ => pe_c ch hr rfl pass0 (pa_cons (pv 2) (pa_cons (pe_glob (v := .int 9) rfl gm ⟨_, rfl⟩) pa_nil)))) pa_nil))))), ?_⟩)
  · obtain ⟨x, n, rfl, _⟩ := h
    rfl
  · obtain ⟨x, most, rfl, ⟨k, kt⟩, q⟩ := h
    obtain ⟨t, ty, _, _, _, k4, _⟩ := k.ty (K := K)
    refine ⟨_, rfl, x, .ty "tuple", .type t, .type "tuple", _, rfl, .ty _, ty, kit_ty k4, _, rfl, ?_⟩
    cases k with
    | @tup a xs e =>
      have e1 : isT H (.ref a) = true := by simp only [isT, e]
      have e2 : amV H (.ref a) most = amB xs most := by simp only [amV, e]
      obtain ⟨hz, hk⟩ := kt a xs rfl e
      rw [e1]
      rw [e2] at q
      refine iteF ⟨_, rfl, _, xs.length, rfl, .inr ⟨xs, .of e, rfl⟩, _, _, rfl, rfl, _, rfl, ?_⟩
      have bad : amB xs most = false → Q (.bl false) H := fun z => by have := q H (Same.refl H); rw [z] at this; exact this
      by_cases h1 : (1 : Int) ≤ (xs.length : Int)
      · rw [decide_eq_true h1]
        refine iteT ⟨_, rfl, _, _, rfl, rfl, _, rfl, ?_⟩
        by_cases h2 : (xs.length : Int) ≤ most
        · rw [decide_eq_true h2]
          refine iteF ⟨_, rfl, a, rfl, ⟨xs, .of e⟩, fun D hD => lcm_tup (fun _ => true) (fun y => .bl (heldB y 9)) (.of e) hD hz (fun _ => rfl) (fun x _ H2 _ Q h => h H2 (Same.refl H2)) (fun x hx _ H2 s2 Q' h => ⟨_, rfl, _, _, rfl, (hk x hx).same s2, h H2 (Same.refl H2)⟩) fun H2 s2 hD2 => ?_⟩
          rw [filter_yes] at hD2
          refine ⟨D, xs.map (heldB · 9), rfl, .of (by rw [hD2, List.map_map]; rfl), ?_⟩
          have e3 : amB xs most = (xs.map (heldB · 9)).all id := by
            unfold amB
            rw [decide_eq_true h2, decide_eq_true (show 1 ≤ xs.length by omega), List.all_map]
            rfl
          rw [← e3]
          exact q H2 s2
        · rw [decide_eq_false h2]
          exact iteT (bad (by unfold amB; rw [decide_eq_false h2, Bool.and_false, Bool.false_and]))
      · rw [decide_eq_false h1]
        refine iteF ⟨_, rfl, ?_⟩
        exact iteT (bad (by unfold amB; rw [decide_eq_false (show ¬ 1 ≤ xs.length by omega), Bool.false_and, Bool.false_and]))
    | @lst a xs e =>
      have e1 : isT H (.ref a) = false := by simp only [isT, e]
      have e2 : amV H (.ref a) most = false := by simp only [amV, e]
      rw [e1]
      rw [e2] at q
      exact iteT (q H (Same.refl H))
    | _ => exact iteT (q H (Same.refl H))
end
end Lk
/-! the class Marks: facts of the text; __init__, columns, registers, in, [], len, ==, ~ -/
namespace Lk
open PySem PySem.Spec PyProof.Rows L2
abbrev veT : List Value := [.type "ValueError", .type "Exception", .type "BaseException", .type "object"]
/-- an own exception class -/
structure ErrC (K : PySem.W.Frag) (mg : Str → Option Value) (x : Str) (C : Addr) : Prop where
  g : mg x = some (.ref C)
  ex : PySem.W.excIn K C veT "ValueError.__new__" = true
  kp : PySem.W.keepIn K (.ref C) = true
  b : PySem.W.subIn K (.ref C) (.type "BaseException") = some true
  t : PySem.W.typeIn K (.ref C) = some (.type "type")
  m : PySem.W.exmOne K (.ref C) (.ref C) = some true
/-- the class Marks -/
structure Mc (K : PySem.W.Frag) (mg : Str → Option Value) (C fI : Addr) : Prop where
  c : SlX.SCls K C
  i : SlX.SIsi K C
  s0 : ∃ p, SlX.Slot1 K C "own_columns" p 0
  s1 : ∃ p, SlX.Slot1 K C "own_registers" p 1
  g : mg "Marks" = some (.ref C)
  make : Mk K C fI
/-! ### marks as two lists -/
def regIx (z : Str) : Option Nat := if z = "a" then some 0 else if z = "b" then some 1 else if z = "c" then some 2 else none
/-- the mark of a place -/
def mkOf (cs rs : List V) (x : V) : Option V := match x with
  | .int i => if 0 ≤ i then cs[i.toNat]? else none
  | .str z => (regIx z).bind fun i => rs[i]?
  | _ => none
structure Gm (cs rs : List V) : Prop where
  c : amB cs 2 = true
  r : amB rs 3 = true
theorem amB_len {xs : List V} {m : Int} (h : amB xs m = true) : 1 ≤ xs.length ∧ (xs.length : Int) ≤ m ∧ ∀ y ∈ xs, heldB y 9 = true := by
  unfold amB at h
  simp only [Bool.and_eq_true, decide_eq_true_eq] at h
  exact ⟨h.1.1, h.1.2, List.all_eq_true.mp h.2⟩
theorem Gm.len {cs rs : List V} (g : Gm cs rs) : 1 ≤ cs.length ∧ cs.length ≤ 2 ∧ 1 ≤ rs.length ∧ rs.length ≤ 3 := by
  have h1 := amB_len g.c
  have h2 := amB_len g.r
  exact ⟨h1.1, by have := h1.2.1; omega, h2.1, by have := h2.2.1; omega⟩
theorem held_kd {H : Hp} {y : V} (h : heldB y 9 = true) : Kd H y := by
  cases y with
  | non => exact .non
  | int i => exact .int i
  | _ => cases h
theorem num_yes {cs rs : List V} {x : V} (h : numB x 0 ((cs.length : Int) - 1) = true) : ∃ (i : Nat) (v : V), x = .int (i : Nat) ∧ cs[i]? = some v ∧ mkOf cs rs x = some v := by
  cases x with
  | int i =>
    have h : (decide ((0 : Int) ≤ i) && decide (i ≤ (cs.length : Int) - 1)) = true := h
    simp only [Bool.and_eq_true, decide_eq_true_eq] at h
    obtain ⟨n, rfl⟩ := Int.eq_ofNat_of_zero_le h.1
    have hn : n < cs.length := by have := h.2; omega
    refine ⟨n, cs[n], rfl, List.getElem?_eq_getElem hn, ?_⟩
    show (if (0 : Int) ≤ (n : Int) then cs[(n : Int).toNat]? else none) = _
    rw [if_pos h.1, Int.toNat_natCast, List.getElem?_eq_getElem hn]
  | _ => cases h
theorem reg_ix : ∀ z ∈ txts, ∀ n ∈ ([1, 2, 3] : List Nat), decide (z ∈ regs.take n) = (match regIx z with | some i => decide (i < n) | none => false) := by decide +kernel
theorem num_no {cs rs : List V} {x : V} (h : numB x 0 ((cs.length : Int) - 1) = false) (g : Gm cs rs) (t : TxtOk x) : regB x (rs.length : Int) = (mkOf cs rs x).isSome := by
  cases x with
  | int i =>
    have h : (decide ((0 : Int) ≤ i) && decide (i ≤ (cs.length : Int) - 1)) = false := h
    show false = (if (0 : Int) ≤ i then cs[i.toNat]? else none).isSome
    by_cases h0 : (0 : Int) ≤ i
    · rw [if_pos h0, List.getElem?_eq_none]
      · rfl
      · rw [decide_eq_true h0, Bool.true_and] at h
        have := of_decide_eq_false h
        omega
    · rw [if_neg h0]
      rfl
  | str z =>
    obtain ⟨_, _, h3, h4⟩ := g.len
    have e := reg_ix z (t z rfl) rs.length (by
      have : rs.length = 1 ∨ rs.length = 2 ∨ rs.length = 3 := by omega
      rcases this with h | h | h <;> rw [h] <;> decide)
    show decide (z ∈ regs.take (rs.length : Int).toNat) = ((regIx z).bind fun i => rs[i]?).isSome
    rw [Int.toNat_natCast, e]
    cases regIx z with
    | none => rfl
    | some i =>
      show decide (i < rs.length) = (rs[i]?).isSome
      by_cases hi : i < rs.length
      · rw [decide_eq_true hi, List.getElem?_eq_getElem hi]
        rfl
      · rw [decide_eq_false hi, List.getElem?_eq_none (by omega)]
        rfl
  | _ => rfl
theorem occ3 : (Builtin.Str.occurrences "abc" "a" 0 ("abc" : Str).length 1 = [0]) ∧ (Builtin.Str.occurrences "abc" "b" 0 ("abc" : Str).length 1 = [1]) ∧ (Builtin.Str.occurrences "abc" "c" 0 ("abc" : Str).length 1 = [2]) := by decide +kernel
theorem occ_ix {z : Str} {i : Nat} (h : regIx z = some i) : Builtin.Str.occurrences "abc" z 0 ("abc" : Str).length 1 = [i] := by
  unfold regIx at h
  by_cases h1 : z = "a"
  · rw [if_pos h1] at h
    rw [h1, ← Option.some.inj h]
    exact occ3.1
  · rw [if_neg h1] at h
    by_cases h2 : z = "b"
    · rw [if_pos h2] at h
      rw [h2, ← Option.some.inj h]
      exact occ3.2.1
    · rw [if_neg h2] at h
      by_cases h3 : z = "c"
      · rw [if_pos h3] at h
        rw [h3, ← Option.some.inj h]
        exact occ3.2.2
      · rw [if_neg h3] at h
        cases h
theorem str_yes {cs rs : List V} {x : V} {v : V} (h : numB x 0 ((cs.length : Int) - 1) = false) (e : mkOf cs rs x = some v) : ∃ (z : Str) (i : Nat), x = .str z ∧ regIx z = some i ∧ rs[i]? = some v := by
  cases x with
  | int i =>
    have h : (decide ((0 : Int) ≤ i) && decide (i ≤ (cs.length : Int) - 1)) = false := h
    have e : (if (0 : Int) ≤ i then cs[i.toNat]? else none) = some v := e
    by_cases h0 : (0 : Int) ≤ i
    · rw [if_pos h0] at e
      have := (List.getElem?_eq_some_iff.mp e).1
      rw [decide_eq_true h0, Bool.true_and] at h
      have := of_decide_eq_false h
      omega
    · rw [if_neg h0] at e
      cases e
  | str z =>
    have e : ((regIx z).bind fun i => rs[i]?) = some v := e
    cases q : regIx z with
    | none => rw [q] at e; cases e
    | some i =>
      rw [q] at e
      exact ⟨z, i, rfl, q, e⟩
  | _ => cases e
/-- marks stand at a -/
def MkAt (C : Addr) (H : Hp) (a : Addr) (cs rs : List V) : Prop := ∃ dx ca ra, SlX.Slt H a C dx [some (.ref ca), some (.ref ra)] ∧ H ca = some (.tup cs) ∧ H ra = some (.tup rs)
theorem slt_same {H H' : Hp} {a C dx : Addr} {x y : V} (s : Same H H') (h : SlX.Slt H a C dx [some x, some y]) : SlX.Slt H' a C dx [some x, some y] := by
  rcases h with ⟨_, z⟩ | ⟨h1, h2⟩
  · cases z
  · exact .inr ⟨s _ _ h1, s _ _ h2⟩
theorem MkAt.same {C : Addr} {H H' : Hp} {a : Addr} {cs rs : List V} (s : Same H H') (h : MkAt C H a cs rs) : MkAt C H' a cs rs := by
  obtain ⟨dx, ca, ra, h1, h2, h3⟩ := h
  exact ⟨dx, ca, ra, slt_same s h1, s _ _ h2, s _ _ h3⟩
theorem amV_same {H H' : Hp} {x : V} {m : Int} (s : Same H H') (k : Kd H x) : amV H' x m = amV H x m := by
  cases k with
  | tup e => simp only [amV, e, s _ _ e]
  | lst e => simp only [amV, e, s _ _ e]
  | _ => rfl
theorem Kt.same {H H' : Hp} {x : V} (s : Same H H') (k : Kt H x) : Kt H' x := by
  obtain ⟨k1, k2⟩ := k
  refine ⟨k1.same s, fun a xs ex e => ?_⟩
  have q : H a = some (.tup xs) := by
    subst ex
    cases k1 with
    | tup e1 => have := s _ _ e1; rw [e] at this; cases this; exact e1
    | lst e1 => have := s _ _ e1; rw [e] at this; cases this
  obtain ⟨h1, h2⟩ := k2 a xs ex q
  exact ⟨h1, fun y hy => (h2 y hy).same s⟩
/-! ### __init__ -/
def spInit (C BM : Addr) : Sp := fun vs H Q E => ∃ p dx x y, vs = [.ref p, x, y] ∧ H p = some (.ins C dx []) ∧ dx ≠ p ∧ Kt H x ∧ Kt H y ∧
  ((amV H x 2 && amV H y 3) = true → ∀ H', Same H H' → Q .non (SlX.slH H' p C dx [some x, some y])) ∧ ((amV H x 2 && amV H y 3) = false → ∀ H', Same H H' → E (.ref BM) none H')
/-- Marks(x, y), read -/
theorem make_rd {C BM : Addr} {H : Hp} {x y : V} {Q : VK} {E : XK} (kx : Kt H x) (ky : Kt H y) (h1 : (amV H x 2 && amV H y 3) = true → ∀ H' p dx, Same H H' → H p = none → SlX.Slt H' p C dx [some x, some y] → Q (.ref p) H')
    (h2 : (amV H x 2 && amV H y 3) = false → ∀ H', Same H H' → E (.ref BM) none H') :
    ∀ p dx, H p = none → H dx = none → dx ≠ p → spInit C BM (.ref p :: ([x, y] ++ [])) (upd (upd H dx (.own p)) p (.ins C dx [])) (fun v H2 => v = .non ∧ Q (.ref p) H2) E := by
  intro p dx np nd ne
  have s : Same H (upd (upd H dx (.own p)) p (.ins C dx [])) := fun b o e => by
    rw [upd_ne (ne_of_none e np), upd_ne (ne_of_none e nd)]
    exact e
  refine ⟨p, dx, x, y, rfl, upd_same, ne, kx.same s, ky.same s, fun e H' s' => ⟨rfl, h1 ?_ _ p dx (fun b o eb => ?_) np (SlX.slH_slt ne)⟩, fun e H' s' => h2 ?_ _ (s.trans s')⟩
  · rw [amV_same s kx.1, amV_same s ky.1] at e
    exact e
  · rw [SlX.slH_ne (ne_of_none eb np) (ne_of_none eb nd)]
    exact s' _ _ (s _ _ eb)
  · rw [amV_same s kx.1, amV_same s ky.1] at e
    exact e
section
variable {P : Program} {w : World} {K : PySem.W.Frag} {mg : Str → Option Value} {base : Heap} {f C BM BP fI : Addr} {fd : FuncData}
theorem ok_init (F : FnS K "__init__" "Marks.__init__" sInit f fd) (g : Gs mg) (M : Mc K mg C fI) (B : ErrC K mg "BadMarks" BM) (ca : Cal P w K mg base CX0 3 "are_marks" ["thing", "most"] spAre) : FnOk P w K mg base (L2.CX P w) 4 f fd nInit (spInit C BM) := by
  obtain ⟨tm, gm⟩ := g.mreg
  obtain ⟨p0, s0⟩ := M.s0
  obtain ⟨p1, s1⟩ := M.s1
  refine F.ok scInit (fun vs H Q E h => ?_) (fun cdv A outer s H vs Q E hr h => ⟨_, (pss_cons
    (ps_if (PW.pt (pw_or (pt_not (pt_val (pe_c ca hr rfl pass0 (pa_cons (pv 1) (pa_cons pe_int pa_nil)))))
      (pw_or1 (pt_not (pt_val (pe_c ca hr rfl pass0 (pa_cons (pv 2) (pa_cons (pe_glob (v := .int 3) rfl gm ⟨_, rfl⟩) pa_nil))))))))
      (pss_one (ps_raise rfl (takes_of rfl rfl rfl rfl) (pmk_own PySem.F.excBase_ValueError B.ex B.g B.kp (raises_own B.b B.t) rfl))) pss_nil)
    (pss_cons (SlX.ps_sl (pv 0) (pv 1)) (pss_one (SlX.ps_sl (pv 0) (pv 2))))), ?_⟩)
  · obtain ⟨p, dx, x, y, rfl, _⟩ := h
    rfl
  · obtain ⟨p, dx, x, y, rfl, hp, ne, kx, ky, q1, q2⟩ := h
    refine ⟨_, rfl, x, 2, rfl, kx, fun H1 sa => ⟨_, rfl, ?_⟩⟩
    by_cases c1 : amV H x 2 = true
    · rw [c1]
      refine iteF ⟨_, rfl, y, 3, rfl, ky.same sa, fun H2 sb => ⟨_, rfl, ?_⟩⟩
      rw [amV_same sa ky.1]
      rw [c1, Bool.true_and] at q1 q2
      by_cases c2 : amV H y 3 = true
      · rw [c2]
        refine iteF ?_
        have h0 : SlX.Slt H2 p C dx [] := .inl ⟨sb _ _ (sa _ _ hp), rfl⟩
        refine ⟨_, rfl, _, rfl, p, C, dx, p0, [], 0, rfl, h0, M.c, s0, ?_⟩
        refine ⟨_, rfl, _, rfl, p, C, dx, p1, _, 1, rfl, SlX.slH_slt ne, M.c, s1, ?_⟩
        show Q .non (SlX.slH (SlX.slH H2 p C dx (SlX.putS 0 x [])) p C dx (SlX.putS 1 y (SlX.putS 0 x [])))
        rw [SlX.slH_twice ne]
        exact q1 c2 H2 (sa.trans sb)
      · have c2 : amV H y 3 = false := by simpa using c2
        rw [c2]
        exact iteT (q2 c2 H2 (sa.trans sb))
    · have c1 : amV H x 2 = false := by simpa using c1
      rw [c1]
      exact iteT (q2 (by rw [c1, Bool.false_and]) H1 sa)
end
/-! ### columns, registers -/
def spProp (C : Addr) (i : Nat) : Sp := fun vs H Q _ => ∃ a dx x y v, vs = [.ref a] ∧ SlX.Slt H a C dx [some x, some y] ∧ ([some x, some y] : List (Option V))[i]? = some (some v) ∧ Q v H
section
variable {P : Program} {w : World} {K : PySem.W.Frag} {mg : Str → Option Value} {base : Heap} {f C BM BP fI : Addr} {fd : FuncData}
theorem ok_col (F : FnS K "columns" "Marks.columns" sCol f fd) (M : Mc K mg C fI) : FnOk P w K mg base CX0 1 f fd nSelf (spProp C 0) := by
  obtain ⟨p0, s0⟩ := M.s0
  refine F.ok scCol (fun vs H Q E h => ?_) (fun cdv A outer s H vs Q E hr h => ⟨_, PSs.nox (pss_one (ps_ret (SlX.pe_sl (pv 0)))), ?_⟩)
  · obtain ⟨a, dx, x, y, v, rfl, _⟩ := h
    rfl
  · obtain ⟨a, dx, x, y, v, rfl, hs, e, q⟩ := h
    exact ⟨_, rfl, a, C, dx, p0, _, 0, v, rfl, hs, M.c, s0, e, q⟩
theorem ok_rgs (F : FnS K "registers" "Marks.registers" sRgs f fd) (M : Mc K mg C fI) : FnOk P w K mg base CX0 1 f fd nSelf (spProp C 1) := by
  obtain ⟨p1, s1⟩ := M.s1
  refine F.ok scRgs (fun vs H Q E h => ?_) (fun cdv A outer s H vs Q E hr h => ⟨_, PSs.nox (pss_one (ps_ret (SlX.pe_sl (pv 0)))), ?_⟩)
  · obtain ⟨a, dx, x, y, v, rfl, _⟩ := h
    rfl
  · obtain ⟨a, dx, x, y, v, rfl, hs, e, q⟩ := h
    exact ⟨_, rfl, a, C, dx, p1, _, 1, v, rfl, hs, M.c, s1, e, q⟩
end
/-! ### in, [], len -/
def spCon (C : Addr) : Sp := fun vs H Q _ => ∃ a x cs rs, vs = [.ref a, x] ∧ MkAt C H a cs rs ∧ Gm cs rs ∧ Kd H x ∧ TxtOk x ∧ Q (.bl (mkOf cs rs x).isSome) H
def spGet (C BP : Addr) : Sp := fun vs H Q E => ∃ a x cs rs, vs = [.ref a, x] ∧ MkAt C H a cs rs ∧ Gm cs rs ∧ Kd H x ∧ TxtOk x ∧ (∀ v, mkOf cs rs x = some v → Q v H) ∧ (mkOf cs rs x = none → E (.ref BP) none H)
def spLen (C : Addr) : Sp := fun vs H Q _ => ∃ a cs rs, vs = [.ref a] ∧ MkAt C H a cs rs ∧ Gm cs rs ∧ ∀ H', Same H H' → Q (.int ((cs.length + rs.length : Nat) : Int)) H'
theorem Gm.n3 {cs rs : List V} (g : Gm cs rs) : (rs.length : Int) = 1 ∨ (rs.length : Int) = 2 ∨ (rs.length : Int) = 3 := by
  have := g.len
  omega
section
variable {P : Program} {w : World} {K : PySem.W.Frag} {mg : Str → Option Value} {base : Heap} {f C BM BP fI : Addr} {fd : FuncData}
theorem ok_con (F : FnS K "__contains__" "Marks.__contains__" sCon f fd) (g : Gs mg) (M : Mc K mg C fI) (cn : Cal P w K mg base CX0 1 "is_number" nNum spNum) (cr : Cal P w K mg base CX0 1 "is_register" nReg spReg) : FnOk P w K mg base CX0 2 f fd nCon (spCon C) := by
  obtain ⟨p0, s0⟩ := M.s0
  obtain ⟨p1, s1⟩ := M.s1
  refine F.ok scCon (fun vs H Q E h => ?_) (fun cdv A outer s H vs Q E hr h => ⟨_, PSs.nox (pss_cons
    (ps_if (pt_val (pe_c cn hr rfl pass0 (pa_cons (pv 1) (pa_cons pe_int (pa_cons (pe_op op_sub (pe_callB call_len rfl g.len boot_len (pa_cons (SlX.pe_sl (pv 0)) pa_nil)) pe_int) pa_nil))))) (pss_one (ps_ret pe_bl)) pss_nil)
    (pss_one (ps_ret (pe_c cr hr rfl pass0 (pa_cons (pv 1) (pa_cons (pe_callB call_len rfl g.len boot_len (pa_cons (SlX.pe_sl (pv 0)) pa_nil)) pa_nil)))))), ?_⟩)
  · obtain ⟨a, x, cs, rs, rfl, _⟩ := h
    rfl
  · obtain ⟨a, x, cs, rs, rfl, ⟨dx, ca, ra, hs, hc, hrr⟩, gm, k, t, q⟩ := h
    refine ⟨_, rfl, _, rfl, a, C, dx, p0, _, 0, _, rfl, hs, M.c, s0, rfl, _, cs.length, rfl, .inr ⟨cs, .of hc, rfl⟩, _, _, rfl, rfl, x, 0, _, rfl, k, _, rfl, ?_⟩
    by_cases c1 : numB x 0 ((cs.length : Int) - 1) = true
    · rw [c1]
      obtain ⟨i, v, _, _, e⟩ := num_yes (rs := rs) c1
      rw [e] at q
      exact iteT q
    · have c1 : numB x 0 ((cs.length : Int) - 1) = false := by simpa using c1
      rw [c1]
      refine iteF ⟨_, rfl, _, rfl, a, C, dx, p1, _, 1, _, rfl, hs, M.c, s1, rfl, _, rs.length, rfl, .inr ⟨rs, .of hrr, rfl⟩, x, _, rfl, k, t, gm.n3, ?_⟩
      rw [num_no c1 gm t]
      exact q
theorem ok_get (F : FnS K "__getitem__" "Marks.__getitem__" sGet f fd) (g : Gs mg) (M : Mc K mg C fI) (B : ErrC K mg "BadPlace" BP) (cn : Cal P w K mg base CX0 1 "is_number" nNum spNum) (cr : Cal P w K mg base CX0 1 "is_register" nReg spReg) : FnOk P w K mg base (L2.CX P w) 2 f fd nCon (spGet C BP) := by
  obtain ⟨p0, s0⟩ := M.s0
  obtain ⟨p1, s1⟩ := M.s1
  obtain ⟨tr, gr⟩ := g.regs
  refine F.ok scGet (fun vs H Q E h => ?_) (fun cdv A outer s H vs Q E hr h => ⟨_, (pss_cons
    (ps_if (pt_val (pe_c cn hr rfl pass0 (pa_cons (pv 1) (pa_cons pe_int (pa_cons (pe_op op_sub (pe_callB call_len rfl g.len boot_len (pa_cons (SlX.pe_sl (pv 0)) pa_nil)) pe_int) pa_nil)))))
      (pss_one (ps_ret (pe_ix ix_tup (SlX.pe_sl (pv 0)) (pv 1) (fun _ _ => rfl)))) pss_nil)
    (pss_cons (ps_if (pt_not (pt_val (pe_c cr hr rfl pass0 (pa_cons (pv 1) (pa_cons (pe_callB call_len rfl g.len boot_len (pa_cons (SlX.pe_sl (pv 0)) pa_nil)) pa_nil)))))
      (pss_one (ps_raise rfl (takes_of rfl rfl rfl rfl) (pmk_own PySem.F.excBase_ValueError B.ex B.g B.kp (raises_own B.b B.t) rfl))) pss_nil)
    (pss_one (ps_ret (pe_ix ix_tup (SlX.pe_sl (pv 0)) (pe_bm PySem.F.plainAttrs_str PySem.F.slot_str_index PySem.F.type_str_index mt_sindex (pe_glob (v := .str "abc") rfl gr ⟨_, rfl⟩) (pa_cons (pv 1) pa_nil)) (fun _ _ => rfl)))))), ?_⟩)
  · obtain ⟨a, x, cs, rs, rfl, _⟩ := h
    rfl
  · obtain ⟨a, x, cs, rs, rfl, ⟨dx, ca, ra, hs, hc, hrr⟩, gm, k, t, q1, q2⟩ := h
    refine ⟨_, rfl, _, rfl, a, C, dx, p0, _, 0, _, rfl, hs, M.c, s0, rfl, _, cs.length, rfl, .inr ⟨cs, .of hc, rfl⟩, _, _, rfl, rfl, x, 0, _, rfl, k, _, rfl, ?_⟩
    by_cases c1 : numB x 0 ((cs.length : Int) - 1) = true
    · rw [c1]
      obtain ⟨i, v, ex, ei, e⟩ := num_yes (rs := rs) c1
      subst ex
      exact iteT ⟨_, rfl, a, C, dx, p0, _, 0, _, rfl, hs, M.c, s0, rfl, _, rfl, ca, cs, _, v, rfl, rfl, .of hc, atI_nat ei, q1 v e⟩
    · have c1 : numB x 0 ((cs.length : Int) - 1) = false := by simpa using c1
      rw [c1]
      refine iteF ⟨_, rfl, _, rfl, a, C, dx, p1, _, 1, _, rfl, hs, M.c, s1, rfl, _, rs.length, rfl, .inr ⟨rs, .of hrr, rfl⟩, x, _, rfl, k, t, gm.n3, _, rfl, ?_⟩
      rw [num_no c1 gm t]
      cases e : mkOf cs rs x with
      | none => exact iteT (q2 e)
      | some v =>
        obtain ⟨z, i, ex, ei, ev⟩ := str_yes c1 e
        subst ex
        exact iteF ⟨_, rfl, a, C, dx, p1, _, 1, _, rfl, hs, M.c, s1, rfl, rfl, _, rfl, _, z, i, [], rfl, rfl, occ_ix ei, ra, rs, _, v, rfl, rfl, .of hrr, atI_nat ev, q1 v e⟩
theorem ok_len (F : FnS K "__len__" "Marks.__len__" sLen f fd) (g : Gs mg) (M : Mc K mg C fI) : FnOk P w K mg base CX0 1 f fd nSelf (spLen C) := by
  obtain ⟨p0, s0⟩ := M.s0
  obtain ⟨p1, s1⟩ := M.s1
  refine F.ok scLen (fun vs H Q E h => ?_) (fun cdv A outer s H vs Q E hr h => ⟨_, PSs.nox (pss_one (ps_ret (pe_callB call_len rfl g.len boot_len (pa_cons (pe_op op_catT (SlX.pe_sl (pv 0)) (SlX.pe_sl (pv 0))) pa_nil)))), ?_⟩)
  · obtain ⟨a, cs, rs, rfl, _⟩ := h
    rfl
  · obtain ⟨a, cs, rs, rfl, ⟨dx, ca, ra, hs, hc, hrr⟩, gm, q⟩ := h
    obtain ⟨l1, l2, l3, l4⟩ := gm.len
    refine ⟨_, rfl, a, C, dx, p0, _, 0, _, rfl, hs, M.c, s0, rfl, _, rfl, a, C, dx, p1, _, 1, _, rfl, hs, M.c, s1, rfl, ca, ra, cs, rs, rfl, rfl, .of hc, .of hrr, ?_, Nat.le_trans (by omega : _ ≤ 5) (by decide), fun z => ?_, fun _ p np => ?_⟩
    · intro z
      rw [z] at l1
      exact absurd l1 (by decide)
    · rw [z] at l3
      exact absurd l3 (by decide)
    · refine ⟨_, (cs ++ rs).length, rfl, .inr ⟨_, .of upd_same, rfl⟩, ?_⟩
      rw [List.length_append]
      exact q _ ((Same.refl H).upd np)
end
end Lk
/-! data compared; ==, own, ^, ~ of Marks -/
namespace Lk
open PySem PySem.Spec PyProof.Rows L2
/-! ### simple values as data -/
def smp : V → Bool | .non => true | .int _ => true | .str z => PyData.canLay0 (.str z) | _ => false
def dOf : V → PyData | .int i => .int i | .str z => .str z | .bl b => .bool b | _ => .none
theorem smp_held {y : V} (h : heldB y 9 = true) : smp y = true := by cases y <;> first | rfl | cases h
theorem dp_smp {K : PySem.W.Frag} {H : Hp} {x : V} (h : smp x = true) : Dp K H x (dOf x) := by
  cases x with
  | non => exact .non
  | int i => exact .int i
  | str z => exact .str z
  | _ => cases h
theorem dpAll_smp {K : PySem.W.Frag} {H : Hp} : ∀ {xs : List V}, (∀ x ∈ xs, smp x = true) → DpAll K H xs (xs.map dOf)
  | [], _ => .nil
  | x :: xs, h => .cons (dp_smp (h x (List.mem_cons_self ..))) (dpAll_smp fun y hy => h y (List.mem_cons_of_mem _ hy))
theorem eqv_smp {x y : V} (h : smp x = true) (k : smp y = true) : PyData.eqv (dOf x) (dOf y) = decide (x = y) := by
  cases x with
  | non => cases y with
    | non => rfl
    | int i => rfl
    | str z => rfl
    | _ => cases k
  | int i => cases y with
    | non => rfl
    | int j =>
      show (i == j) = decide (V.int i = V.int j)
      rw [Bool.beq_eq_decide_eq]
      exact decide_eq_decide.mpr ⟨fun e => by rw [e], fun e => V.int.inj e⟩
    | str z => rfl
    | _ => cases k
  | str z => cases y with
    | non => rfl
    | int j => rfl
    | str z' =>
      show (z == z') = decide (V.str z = V.str z')
      rw [Bool.beq_eq_decide_eq]
      exact decide_eq_decide.mpr ⟨fun e => by rw [e], fun e => V.str.inj e⟩
    | _ => cases k
  | _ => cases h
theorem eqvAll_smp : ∀ {xs ys : List V}, (∀ x ∈ xs, smp x = true) → (∀ y ∈ ys, smp y = true) → PyData.eqvAll (xs.map dOf) (ys.map dOf) = decide (xs = ys)
  | [], [], _, _ => rfl
  | [], _ :: _, _, _ => rfl
  | _ :: _, [], _, _ => rfl
  | x :: xs, y :: ys, h, k => by
    show (PyData.eqv (dOf x) (dOf y) && PyData.eqvAll (xs.map dOf) (ys.map dOf)) = _
    rw [eqv_smp (h x (List.mem_cons_self ..)) (k y (List.mem_cons_self ..)), eqvAll_smp (fun z hz => h z (List.mem_cons_of_mem _ hz)) fun z hz => k z (List.mem_cons_of_mem _ hz), ← Bool.decide_and]
    exact decide_eq_decide.mpr ⟨fun e => by rw [e.1, e.2], fun e => by injection e with e1 e2; exact ⟨e1, e2⟩⟩
theorem can_smp : ∀ {xs : List V}, (∀ x ∈ xs, smp x = true) → PyData.canLayAll0 (xs.map dOf) = true ∧ PyData.depthAll (xs.map dOf) = 0
  | [], _ => ⟨rfl, rfl⟩
  | x :: xs, h => by
    obtain ⟨h1, h2⟩ := can_smp fun y hy => h y (List.mem_cons_of_mem _ hy)
    have hx := h x (List.mem_cons_self ..)
    have e : PyData.canLay0 (dOf x) = true ∧ PyData.depth (dOf x) = 0 := by
      cases x with
      | non => exact ⟨rfl, rfl⟩
      | int i => exact ⟨rfl, rfl⟩
      | str z => exact ⟨hx, rfl⟩
      | _ => cases hx
    refine ⟨?_, ?_⟩
    · show (PyData.canLay0 (dOf x) && PyData.canLayAll0 (xs.map dOf)) = true
      rw [e.1, h1]
      rfl
    · show max (PyData.depth (dOf x)) (PyData.depthAll (xs.map dOf)) = 0
      rw [e.2, h2]
      rfl
theorem shaped_t {ds : List PyData} {n : Nat} (h : PyData.canLayAll0 ds = true) (d : PyData.depthAll ds = n) (hn : n + 1 ≤ 64) : SeqAt.shaped (.tuple ds) = true := by
  unfold SeqAt.shaped
  show (PyData.canLayAll0 ds && decide (PyData.depthAll ds + 1 ≤ 64)) = true
  rw [h, d, decide_eq_true hn]
  rfl
theorem shaped_l {ds : List PyData} {n : Nat} (h : PyData.canLayAll0 ds = true) (d : PyData.depthAll ds = n) (hn : n + 1 ≤ 64) : SeqAt.shaped (.list ds) = true := by
  unfold SeqAt.shaped
  show (PyData.canLayAll0 ds && decide (PyData.depthAll ds + 1 ≤ 64)) = true
  rw [h, d, decide_eq_true hn]
  rfl
/-- two tuples of such values: == -/
theorem eq_tups {K : PySem.W.Frag} {H : Hp} {a b : Addr} {xs ys : List V} {Q : VK} (ha : SqT K H a xs) (hb : SqT K H b ys) (hx : ∀ x ∈ xs, smp x = true) (hy : ∀ y ∈ ys, smp y = true) (q : Q (.bl (decide (xs = ys))) H) : rEqD K (.ref a) (.ref b) H Q := by
  refine ⟨_, _, .tup ha (dpAll_smp hx), .tup hb (dpAll_smp hy), shaped_t (can_smp hx).1 (can_smp hx).2 (by decide), shaped_t (can_smp hy).1 (can_smp hy).2 (by decide), ?_⟩
  show Q (.bl (PyData.eqvAll _ _)) H
  rw [eqvAll_smp hx hy]
  exact q
/-- two lists of such values: != -/
theorem ne_lists {K : PySem.W.Frag} {H : Hp} {a b : Addr} {xs ys : List V} {Q : VK} (ha : SqL K H a xs) (hb : SqL K H b ys) (hx : ∀ x ∈ xs, smp x = true) (hy : ∀ y ∈ ys, smp y = true) (q : Q (.bl (!decide (xs = ys))) H) : rNeD K (.ref a) (.ref b) H Q := by
  refine ⟨_, _, .lst ha (dpAll_smp hx), .lst hb (dpAll_smp hy), shaped_l (can_smp hx).1 (can_smp hx).2 (by decide), shaped_l (can_smp hy).1 (can_smp hy).2 (by decide), ?_⟩
  show Q (.bl (!PyData.eqvAll _ _)) H
  rw [eqvAll_smp hx hy]
  exact q
theorem Gm.smp {cs rs : List V} (g : Gm cs rs) : (∀ x ∈ cs, smp x = true) ∧ ∀ x ∈ rs, smp x = true := ⟨fun x hx => smp_held ((amB_len g.c).2.2 x hx), fun x hx => smp_held ((amB_len g.r).2.2 x hx)⟩
/-! ### the methods that operators call -/
structure Dun (P : Program) (w : World) (K : PySem.W.Frag) (mg : Str → Option Value) (base : Heap) (CX : CXT) (k : Nat) (C : Addr) (m : Str) (sp : Sp) : Prop where
  ex : ∃ g, PySem.W.findIn K (.ref C) m = some (some (.ref g)) ∧ PySem.W.isFn K (.ref g) = true ∧ PySem.W.fnIn K g = true ∧ FnR P w K mg base CX k g sp
/-- places of any marks -/
def pl5 : List V := [.int 0, .int 1, .str "a", .str "b", .str "c"]
theorem pl5_abc : (V.int 0 :: V.int 1 :: (("abc" : Str).cps.toList.map sgn ++ [])) = pl5 := by decide +kernel
theorem abc_len : ("abc" : Str).length ≤ sizeLine := by
  rw [sizeLine_eq]
  decide +kernel
/-- [0, 1, *REGISTERS] -/
theorem rd5 {σ : L2.St} {H : Hp} {Q : VK} (h : ∀ p, H p = none → Q (.ref p) (upd H p (.lst pl5))) : tLst (tCons (tC (.int 0)) (tCons (tC (.int 1)) (tStarS (tC (.str "abc")) tNil))) σ H Q := by
  refine ⟨"abc", rfl, abc_len, ?_⟩
  show (V.int 0 :: V.int 1 :: (("abc" : Str).cps.toList.map sgn ++ [])).length ≤ sizeLine ∧ ∀ p, H p = none → Q (.ref p) (upd H p (.lst (V.int 0 :: V.int 1 :: (("abc" : Str).cps.toList.map sgn ++ []))))
  rw [pl5_abc]
  exact ⟨by rw [sizeLine_eq]; decide, h⟩
theorem pl5_ok {H : Hp} : ∀ x ∈ pl5, Kd H x ∧ TxtOk x := by
  intro x hx
  have hx : x = .int 0 ∨ x = .int 1 ∨ x = .str "a" ∨ x = .str "b" ∨ x = .str "c" := by simpa [pl5] using hx
  rcases hx with h | h | h | h | h <;> subst h
  · exact ⟨.int _, fun z e => by cases e⟩
  · exact ⟨.int _, fun z e => by cases e⟩
  · exact ⟨.str _, fun z e => by cases e; decide +kernel⟩
  · exact ⟨.str _, fun z e => by cases e; decide +kernel⟩
  · exact ⟨.str _, fun z e => by cases e; decide +kernel⟩
section
variable {X : Cx} {C BP : Addr} {a b : Expr} {ta tb : TE} {pos : Pos}
theorem pt_inM (d : Dun X.prog X.w X.K X.mg X.base CX0 2 C "__contains__" (spCon C)) (hr : Room 2 X.A) (ha : PE X a ta) (hb : PE X b tb) (hm : behindInMarks .In b = false := by with_unfolding_all rfl) : PT X (.Compare a [.In] [b] pos) (tTest (tOp (rInSl C (spCon C) E0) ta tb)) := by
  obtain ⟨g, h1, h2, h3, F⟩ := d.ex
  exact pt_cmpR (op_inSl h1 h2 F hr pass0) ha hb hm
theorem pe_inM (d : Dun X.prog X.w X.K X.mg X.base CX0 2 C "__contains__" (spCon C)) (hr : Room 2 X.A) (ha : PE X a ta) (hb : PE X b tb) (hm : behindInMarks .In b = false := by with_unfolding_all rfl) : PE X (.Compare a [.In] [b] pos) (tOp (rInSl C (spCon C) E0) ta tb) := by
  obtain ⟨g, h1, h2, h3, F⟩ := d.ex
  exact pe_cmpR (op_inSl h1 h2 F hr pass0) ha hb hm
theorem pe_getM (d : Dun X.prog X.w X.K X.mg X.base (L2.CX X.prog X.w) 2 C "__getitem__" (spGet C BP)) (hr : Room 3 X.A) (ha : PE X a ta) (hb : PE X b tb) (hs : ∀ o i, subscripted b true o i = runValue (.builtin "lifetime.subscript" ⟨[o, i], []⟩)) :
    PE X (.Subscript a b pos) (tSubSl C (spGet C BP) (fun _ => E0) ta tb) := by
  obtain ⟨g, h1, h2, h3, F⟩ := d.ex
  exact pe_subSl h1 h2 h3 F hr (fun σ pins H s e s' => passL pins σ H s e s') ha hb hs
end
theorem in_rd {C : Addr} {H : Hp} {a : Addr} {x : V} {cs rs : List V} {Q : VK} (m : MkAt C H a cs rs) (gm : Gm cs rs) (k : Kd H x ∧ TxtOk x) (q : Q (.bl (mkOf cs rs x).isSome) H) : rInSl C (spCon C) E0 x (.ref a) H Q := by
  obtain ⟨dx, ca, ra, h1, h2, h3⟩ := id m
  exact ⟨a, dx, _, rfl, h1, a, x, cs, rs, rfl, m, gm, k.1, k.2, _, rfl, q⟩
theorem get_rd {C BP : Addr} {H : Hp} {a : Addr} {x v : V} {cs rs : List V} {Q : VK} {E : XK} (m : MkAt C H a cs rs) (gm : Gm cs rs) (k : Kd H x ∧ TxtOk x) (e : mkOf cs rs x = some v) (q : Q v H) :
    ∃ a' dx vs, V.ref a = .ref a' ∧ SlX.Slt H a' C dx vs ∧ spGet C BP [.ref a', x] H Q E := by
  obtain ⟨dx, ca, ra, h1, h2, h3⟩ := id m
  exact ⟨a, dx, _, rfl, h1, a, x, cs, rs, rfl, m, gm, k.1, k.2, fun u hu => by rw [e] at hu; cases hu; exact q, fun z => by rw [e] at z; cases z⟩
/-! ### == -/
def spEq (C : Addr) : Sp := fun vs H Q _ => ∃ a b cs rs cs' rs', vs = [.ref a, .ref b] ∧ MkAt C H a cs rs ∧ MkAt C H b cs' rs' ∧ Gm cs rs ∧ Gm cs' rs' ∧ Q (.bl (decide (cs = cs') && decide (rs = rs'))) H
section
variable {P : Program} {w : World} {K : PySem.W.Frag} {mg : Str → Option Value} {base : Heap} {f C BM BP fI : Addr} {fd : FuncData}
theorem ok_eq (F : FnS K "__eq__" "Marks.__eq__" sEq f fd) (g : Gs mg) (M : Mc K mg C fI) (kC : PySem.W.kitOne K (.ref C) (.ref C) = some true) : FnOk P w K mg base CX0 1 f fd nEq (spEq C) := by
  obtain ⟨p0, s0⟩ := M.s0
  obtain ⟨p1, s1⟩ := M.s1
  refine F.ok scEq (fun vs H Q E h => ?_) (fun cdv A outer s H vs Q E hr h => ⟨_, PSs.nox (pss_one (ps_ret
    (pe_and (pe_callB (SlX.call_isiSl (.ref C)) rfl g.isi (by decide +kernel) (pa_cons (pv 1) (pa_cons (pe_glob (v := .ref C) rfl M.g rfl) pa_nil)))
    (pe_and (pe_cmpR (op_eqD hr.units) (SlX.pe_sl (pv 0)) (SlX.pe_sl (pv 1)) (nomark _))
    (pe_one (pe_cmpR (op_eqD hr.units) (SlX.pe_sl (pv 0)) (SlX.pe_sl (pv 1)) (nomark _))))))), ?_⟩)
  · obtain ⟨a, b, cs, rs, cs', rs', rfl, _⟩ := h
    rfl
  · obtain ⟨a, b, cs, rs, cs', rs', rfl, ⟨dx, ca, ra, hs, hc, hrr⟩, ⟨dy, ca', ra', hs', hc', hrr'⟩, gm, gm', q⟩ := h
    refine ⟨_, rfl, b, C, dy, _, _, true, rfl, rfl, (fun u e => e), hs', M.c, M.i, kC, true, rfl, iteT ?_⟩
    refine ⟨_, rfl, a, C, dx, p0, _, 0, _, rfl, hs, M.c, s0, rfl, _, rfl, b, C, dy, p0, _, 0, _, rfl, hs', M.c, s0, rfl, eq_tups (.of hc) (.of hc') gm.smp.1 gm'.smp.1 ⟨_, rfl, ?_⟩⟩
    by_cases e1 : cs = cs'
    · rw [decide_eq_true e1]
      rw [decide_eq_true e1, Bool.true_and] at q
      exact iteT ⟨_, rfl, a, C, dx, p1, _, 1, _, rfl, hs, M.c, s1, rfl, _, rfl, b, C, dy, p1, _, 1, _, rfl, hs', M.c, s1, rfl, eq_tups (.of hrr) (.of hrr') gm.smp.2 gm'.smp.2 q⟩
    · rw [decide_eq_false e1]
      rw [decide_eq_false e1, Bool.false_and] at q
      exact iteF q
end
/-! ### own -/
def ownF (cs rs : List V) (x : V) : Bool := decide (mkOf cs rs x = some .non)
def spOwn (C : Addr) : Sp := fun vs H Q _ => ∃ a cs rs, vs = [.ref a] ∧ MkAt C H a cs rs ∧ Gm cs rs ∧ ∀ H' l, Same H H' → H l = none → H' l = some (.lst (pl5.filter (ownF cs rs))) → Q (.ref l) H'
section
variable {P : Program} {w : World} {K : PySem.W.Frag} {mg : Str → Option Value} {base : Heap} {f C BM BP fI : Addr} {fd : FuncData}
theorem ok_own (F : FnS K "own" "Marks.own" sOwn f fd) (g : Gs mg) (dc : Dun P w K mg base CX0 2 C "__contains__" (spCon C)) (dg : Dun P w K mg base (L2.CX P w) 2 C "__getitem__" (spGet C BP)) : FnOk P w K mg base CX0 4 f fd nSelf (spOwn C) := by
  obtain ⟨tr, gr⟩ := g.regs
  refine F.ok scOwn (fun vs H Q E h => ?_) (fun cdv A outer s H vs Q E hr h => ⟨_, PSs.nox (pss_one (ps_ret
    (pe_lc (own := [("place", 1)]) (g := gName 1) (tt := _) rfl scOwn.nd (pi_list (pe_lst (pa_cons pe_int (pa_cons pe_int (pa_starS rfl (pe_glob (v := .str "abc") rfl gr ⟨_, rfl⟩) pa_nil))))) (blkOk_by (N := nCon) (sc := defScope sOwn) (by decide +kernel)) (fun _ _ _ _ _ => pg_name (i := 1) scOwn.nd rfl (Or.inl rfl))
      (fun _ _ _ _ _ => pts_one (PW.pt (pw_and (pt_inM dc (hr.mono (by decide)) (pv 1) (pv 0)) (pw_and1 (pt_cmp (pc_isN (pe_getM dg hr (pv 0) (pv 1) (fun _ _ => rfl))))))))
      (fun _ _ _ _ _ => pv 1)))), ?_⟩)
  · obtain ⟨a, cs, rs, rfl, _⟩ := h
    rfl
  · obtain ⟨a, cs, rs, rfl, m, gm, q⟩ := h
    unfold tRet tLc iList
    refine rd5 fun l0 n0 => ⟨l0, rfl, ⟨_, .of upd_same⟩, fun D nD => ?_⟩
    have s0 : Same H (upd H l0 (.lst pl5)) := (Same.refl H).upd n0
    refine lcm_list (K := K) (xs := pl5) (ownF cs rs) (fun x => x) (.of upd_same) nD (by decide) (fun _ => rfl) (fun x hx H2 s2 Q' h => ?_) (fun x hx px H2 s2 Q' h => ⟨_, rfl, h H2 (Same.refl H2)⟩) fun H2 s2 hD => ?_
    · have m2 := m.same (s0.trans s2)
      have kx := pl5_ok (H := H2) x hx
      refine ⟨_, rfl, _, rfl, in_rd m2 gm kx ⟨_, rfl, ?_⟩⟩
      have h := h H2 (Same.refl H2)
      unfold ownF at h
      cases e : mkOf cs rs x with
      | none =>
        rw [e] at h
        exact iteF h
      | some v =>
        rw [e] at h
        refine iteT ⟨_, rfl, _, rfl, get_rd m2 gm kx e ⟨_, rfl, ?_⟩⟩
        have e2 : decide (v = .non) = decide (some v = some V.non) := decide_eq_decide.mpr ⟨fun z => by rw [z], fun z => Option.some.inj z⟩
        rw [e2]
        exact h
    · rw [List.map_id'] at hD
      exact q H2 D (s0.trans s2) (s0.free nD) hD
end
end Lk
/-! ^ and ~ of Marks -/
namespace Lk
open PySem PySem.Spec PyProof.Rows L2
def xorF (cs rs cs' rs' : List V) (x : V) : Bool := !decide (mkOf cs rs x = mkOf cs' rs' x)
def spXor (C : Addr) : Sp := fun vs H Q _ => ∃ a b cs rs cs' rs', vs = [.ref a, .ref b] ∧ MkAt C H a cs rs ∧ MkAt C H b cs' rs' ∧ Gm cs rs ∧ Gm cs' rs' ∧ ∀ H' l, Same H H' → H l = none → H' l = some (.lst (pl5.filter (xorF cs rs cs' rs'))) → Q (.ref l) H'
theorem mkOf_held {cs rs : List V} {x v : V} (g : Gm cs rs) (e : mkOf cs rs x = some v) : heldB v 9 = true := by
  cases x with
  | int i =>
    have e : (if (0 : Int) ≤ i then cs[i.toNat]? else none) = some v := e
    by_cases h0 : (0 : Int) ≤ i
    · rw [if_pos h0] at e
      exact (amB_len g.c).2.2 v (List.mem_of_getElem? e)
    · rw [if_neg h0] at e
      cases e
  | str z =>
    have e : ((regIx z).bind fun i => rs[i]?) = some v := e
    cases q : regIx z with
    | none => rw [q] at e; cases e
    | some i =>
      rw [q] at e
      exact (amB_len g.r).2.2 v (List.mem_of_getElem? e)
  | _ => cases e
theorem scal_held {x y : V} (h : heldB x 9 = true) (k : heldB y 9 = true) : scal x y = true := by
  cases x <;> first | (cases y <;> first | rfl | cases k) | cases h
theorem take_f {xs : List V} {i : Nat} {x : V} (h : xs[i]? = some x) (p : V → Bool) : (xs.take (i + 1)).filter p = (xs.take i).filter p ++ (if p x then [x] else []) := by
  have := take_one h p (fun y => y)
  simpa using this
theorem take_yes {xs : List V} {i : Nat} {x : V} (h : xs[i]? = some x) {p : V → Bool} (q : p x = true) : (xs.take (i + 1)).filter p = (xs.take i).filter p ++ [x] := by
  rw [take_f h, if_pos q]
theorem take_no {xs : List V} {i : Nat} {x : V} (h : xs[i]? = some x) {p : V → Bool} (q : p x = false) : (xs.take (i + 1)).filter p = (xs.take i).filter p := by
  rw [take_f h, q]
  simp
theorem take_len {xs : List V} {i : Nat} {p : V → Bool} (h : xs.length ≤ 1000) : ((xs.take i).filter p).length < sizeLine := by
  refine small1000 (Nat.le_trans (List.length_filter_le _ _) (Nat.le_trans ?_ h))
  rw [List.length_take]
  exact Nat.min_le_right _ _
/-- for x in [..] (a display) -/
theorem for_lit {K : PySem.W.Frag} {g : TG} {tb : TS} {D : Ends} {σ : L2.St} {H : Hp} {t : TA} (xs : List V) (ht : ∀ Q : List V → Hp → Prop, Q xs H → t σ H Q) (hz : xs.length ≤ 1000)
    (h : ∀ l0, H l0 = none → ∃ Pv : Nat → L2.St → Hp → Prop, Pv 0 σ (upd H l0 (.lst xs)) ∧ (∀ i σ H, Pv i σ H → H l0 = some (.lst xs)) ∧
      (∀ i x σ H, xs[i]? = some x → Pv i σ H → g x σ H fun σ2 H2 => tb { D with nx := Pv (i + 1), ct := Pv (i + 1), bk := D.nx } σ2 H2) ∧ ∀ σ H, Pv xs.length σ H → D.nx σ H) : tFor (iList K (tLst t)) g tb D σ H := by
  refine ht _ ⟨Nat.le_of_lt (small1000 hz), fun l0 n0 => ⟨l0, rfl, ⟨_, .of upd_same⟩, ?_⟩⟩
  obtain ⟨Pv, h0, hl, hs, hd⟩ := h l0 n0
  exact for_list (K := K) (a := l0) (xs := xs) Pv h0 (fun i σ H _ p => .of (hl i σ H p)) hs hd
theorem ht5 {σ : L2.St} {H : Hp} (Q : List V → Hp → Prop) (h : Q pl5 H) : tCons (tC (.int 0)) (tCons (tC (.int 1)) (tStarS (tC (.str "abc")) tNil)) σ H Q := by
  refine ⟨"abc", rfl, abc_len, ?_⟩
  show Q (V.int 0 :: V.int 1 :: (("abc" : Str).cps.toList.map sgn ++ [])) H
  rw [pl5_abc]
  exact h
section
variable {P : Program} {w : World} {K : PySem.W.Frag} {mg : Str → Option Value} {base : Heap} {f C BM BP fI : Addr} {fd : FuncData}
theorem ok_xor (F : FnS K "__xor__" "Marks.__xor__" sXor f fd) (g : Gs mg) (dc : Dun P w K mg base CX0 2 C "__contains__" (spCon C)) (dg : Dun P w K mg base (L2.CX P w) 2 C "__getitem__" (spGet C BP)) : FnOk P w K mg base CX0 4 f fd ["self", "other"] (spXor C) := by
  obtain ⟨tr, gr⟩ := g.regs
  refine F.ok scXor (fun vs H Q E h => ?_) (fun cdv A outer s H vs Q E hr h => ⟨_, PSs.nox (pss_cons
    (ps_set (i := 2) scXor.nd rfl (Or.inl rfl) (pe_lst pa_nil))
    (pss_cons (ps_for PassesOwn.never rfl (pi_list (pe_lst (pa_cons pe_int (pa_cons pe_int (pa_starS rfl (pe_glob (v := .str "abc") rfl gr ⟨_, rfl⟩) pa_nil))))) (pg_name (i := 3) scXor.nd rfl (Or.inl rfl))
      (pss_one (ps_if (PW.pt (pw_and (pt_inM dc (hr.mono (by decide)) (pv 3) (pv 0)) (pw_and1 (pt_inM dc (hr.mono (by decide)) (pv 3) (pv 1)))))
        (pss_one (ps_if (pt_cmpR op_ne (pe_getM dg hr (pv 0) (pv 3) (fun _ _ => rfl)) (pe_getM dg hr (pv 1) (pv 3) (fun _ _ => rfl)) (nomark _))
          (pss_one (ps_expr (pe_bm PySem.F.plainAttrs_list PySem.F.slot_list_append PySem.F.type_list_append mt_append (pv 2) (pa_cons (pv 3) pa_nil)))) pss_nil))
        (pss_one (ps_if (PW.pt (pw_or (pt_inM dc (hr.mono (by decide)) (pv 3) (pv 0)) (pw_or1 (pt_inM dc (hr.mono (by decide)) (pv 3) (pv 1)))))
          (pss_one (ps_expr (pe_bm PySem.F.plainAttrs_list PySem.F.slot_list_append PySem.F.type_list_append mt_append (pv 2) (pa_cons (pv 3) pa_nil)))) pss_nil)))))
    (pss_one (ps_ret (pv 2))))), ?_⟩)
  · obtain ⟨a, b, cs, rs, cs', rs', rfl, _⟩ := h
    rfl
  · obtain ⟨a, b, cs, rs, cs', rs', rfl, m, m', gm, gm', q⟩ := h
    refine ⟨by decide, fun l nl => ?_⟩
    have s0 : Same H (upd H l (.lst [])) := (Same.refl H).upd nl
    refine for_lit pl5 ht5 (by decide) fun l0 n0 => ?_
    have s1 : Same H (upd (upd H l (.lst [])) l0 (.lst pl5)) := fun b' o e => by
      rw [upd_ne (ne_of_none (s0 _ _ e) n0)]
      exact s0 _ _ e
    have nl0 : l ≠ l0 := fun z => by rw [← z, upd_same] at n0; cases n0
    refine ⟨(fun i σ H2 => ∃ v, σ = [some (.ref a), some (.ref b), some (.ref l), v] ∧ Same H H2 ∧ H2 l0 = some (.lst pl5) ∧ H2 l = some (.lst ((pl5.take i).filter (xorF cs rs cs' rs'))))
      , ⟨none, rfl, s1, upd_same, by rw [upd_ne nl0, upd_same]; rfl⟩, (fun i σ H2 ⟨_, _, _, h0, _⟩ => h0), ?_, ?_⟩
    · rintro i x σ H2 hi ⟨v, rfl, s2, h0, hl⟩
      have hm : x ∈ pl5 := List.mem_of_getElem? hi
      have kx := pl5_ok (H := H2) x hm
      have hlen := take_len (xs := pl5) (i := i) (p := xorF cs rs cs' rs') (by decide)
      have fin : ∀ (y : List V), xorF cs rs cs' rs' x = true → ∃ w, [some (V.ref a), some (V.ref b), some (V.ref l), some x] = [some (V.ref a), some (V.ref b), some (V.ref l), w] ∧ Same H (upd H2 l (.lst ((pl5.take i).filter (xorF cs rs cs' rs') ++ [x]))) ∧ (upd H2 l (.lst ((pl5.take i).filter (xorF cs rs cs' rs') ++ [x]))) l0 = some (.lst pl5) ∧ (upd H2 l (.lst ((pl5.take i).filter (xorF cs rs cs' rs') ++ [x]))) l = some (.lst ((pl5.take (i + 1)).filter (xorF cs rs cs' rs'))) :=
        fun _ e => ⟨_, rfl, s2.upd nl, by rw [upd_ne nl0.symm]; exact h0, by rw [upd_same, take_yes hi e]⟩
      have non : xorF cs rs cs' rs' x = false → ∃ w, [some (V.ref a), some (V.ref b), some (V.ref l), some x] = [some (V.ref a), some (V.ref b), some (V.ref l), w] ∧ Same H H2 ∧ H2 l0 = some (.lst pl5) ∧ H2 l = some (.lst ((pl5.take (i + 1)).filter (xorF cs rs cs' rs'))) :=
        fun e => ⟨_, rfl, s2, h0, by rw [take_no hi e]; exact hl⟩
      have ma := m.same s2
      have mb := m'.same s2
      refine ⟨_, rfl, _, rfl, in_rd ma gm kx ⟨_, rfl, ?_⟩⟩
      cases e1 : mkOf cs rs x with
      | none =>
        refine iteF (iteF ⟨_, rfl, _, rfl, in_rd ma gm kx ⟨_, rfl, ?_⟩⟩)
        rw [e1]
        refine iteF ⟨_, rfl, _, rfl, in_rd mb gm' kx ⟨_, rfl, ?_⟩⟩
        cases e2 : mkOf cs' rs' x with
        | none => exact iteF (non (by unfold xorF; rw [e1, e2]; rfl))
        | some v' => exact iteT ⟨_, rfl, .inl ⟨rfl, _, .of hl⟩, _, rfl, l, _, x, rfl, rfl, hl, hlen, fin [] (by unfold xorF; rw [e1, e2]; rfl)⟩
      | some v =>
        refine iteT ⟨_, rfl, _, rfl, in_rd mb gm' kx ⟨_, rfl, ?_⟩⟩
        cases e2 : mkOf cs' rs' x with
        | none =>
          refine iteF ⟨_, rfl, _, rfl, in_rd ma gm kx ⟨_, rfl, ?_⟩⟩
          rw [e1]
          exact iteT (iteT ⟨_, rfl, .inl ⟨rfl, _, .of hl⟩, _, rfl, l, _, x, rfl, rfl, hl, hlen, fin [] (by unfold xorF; rw [e1, e2]; rfl)⟩)
        | some v' =>
          refine iteT ⟨_, rfl, _, rfl, get_rd ma gm kx e1 ⟨_, rfl, _, rfl, get_rd mb gm' kx e2 ⟨scal_held (mkOf_held gm e1) (mkOf_held gm' e2), _, rfl, ?_⟩⟩⟩
          by_cases e : v = v'
          · rw [decide_eq_true e]
            exact iteF (non (by unfold xorF; rw [e1, e2, e]; simp))
          · rw [decide_eq_false e]
            exact iteT ⟨_, rfl, .inl ⟨rfl, _, .of hl⟩, _, rfl, l, _, x, rfl, rfl, hl, hlen, fin [] (by unfold xorF; rw [e1, e2]; simp [e])⟩
    · rintro σ H2 ⟨v, rfl, s2, h0, hl⟩
      exact ⟨_, rfl, q H2 l s2 nl (by rw [hl, List.take_of_length_le (Nat.le_refl _)])⟩
end
/-! ### ~ -/
def spInv (C : Addr) : Sp := fun vs H Q _ => ∃ a cs rs, vs = [.ref a] ∧ MkAt C H a cs rs ∧ Gm cs rs ∧ ∀ H' p, Same H H' → H p = none → MkAt C H' p (List.replicate cs.length .non) (List.replicate rs.length .non) → Q (.ref p) H'
theorem amB_non {n : Nat} {m : Int} (h1 : 1 ≤ n) (h2 : (n : Int) ≤ m) : amB (List.replicate n .non) m = true := by
  unfold amB
  rw [List.length_replicate, decide_eq_true h1, decide_eq_true h2, Bool.true_and, Bool.true_and]
  exact List.all_eq_true.mpr fun x hx => by rw [List.eq_of_mem_replicate hx]; rfl
theorem rep_flat (n : Nat) : (List.replicate n [V.non]).flatten = List.replicate n V.non := by
  induction n with
  | zero => rfl
  | succ n ih => rw [List.replicate_succ, List.flatten_cons, ih, List.replicate_succ]; rfl
theorem Kt.tup {H : Hp} {a : Addr} {xs : List V} (e : H a = some (.tup xs)) (h : xs.length ≤ 1000) (k : ∀ y ∈ xs, Kd H y) : Kt H (.ref a) := ⟨.tup e, fun b ys eb hb => by cases eb; rw [e] at hb; cases hb; exact ⟨h, k⟩⟩
theorem amV_tup {H : Hp} {a : Addr} {xs : List V} {m : Int} (e : H a = some (.tup xs)) : amV H (.ref a) m = amB xs m := by simp only [amV, e]
theorem Kt.held {H : Hp} {a : Addr} {xs : List V} {m : Int} (e : H a = some (.tup xs)) (h : amB xs m = true) (hm : m ≤ 1000) : Kt H (.ref a) := .tup e (by have := (amB_len h).2.1; omega) fun y hy => held_kd ((amB_len h).2.2 y hy)
/-- Marks(x, y) of good tuples -/
theorem make_ok {C BM : Addr} {H : Hp} {ca ra : Addr} {cs rs : List V} {Q : VK} {E : XK} (hc : H ca = some (.tup cs)) (hr : H ra = some (.tup rs)) (gm : Gm cs rs) (h : ∀ H' p dx, Same H H' → H p = none → SlX.Slt H' p C dx [some (.ref ca), some (.ref ra)] → Q (.ref p) H') :
    ∀ p dx, H p = none → H dx = none → dx ≠ p → spInit C BM (.ref p :: ([.ref ca, .ref ra] ++ [])) (upd (upd H dx (.own p)) p (.ins C dx [])) (fun v H2 => v = .non ∧ Q (.ref p) H2) E :=
  make_rd (Kt.held hc gm.c (by decide)) (Kt.held hr gm.r (by decide)) (fun _ => h) fun z => by
    rw [amV_tup hc, amV_tup hr, gm.c, gm.r] at z
    cases z
section
variable {X : Cx} {C BM fI : Addr} {e : Expr} {es : List Expr} {t : TA} {p pos : Pos} {E : XK}
/-- Marks(..), which may raise -/
theorem pe_Marks {fdI : FuncData} (M : Mc X.K X.mg C fI) (G : FnOk X.prog X.w X.K X.mg X.base (L2.CX X.prog X.w) 4 fI fdI nInit (spInit C BM)) (b : Binds X.K fdI nInit []) (hr : Room 5 X.A) (hg : Gl X "Marks") (hx : Passes (L2.CX X.prog X.w) X E) (ha : PA X (e :: es) t)
    (he : starEach (e :: es) X.env = (false, eval e X.env) :: starEach es X.env := by rfl) (hpl : (backTo pos (starEach es X.env)).any (·.1) = false := by rfl) :
    PE X (.Call (.Name "Marks" p) (e :: es) [] pos) (tMake C (spInit C BM) [] E t) := pe_make M.make G hr hg M.g b .nil hx ha (by decide) he hpl
end
/-- __init__ as Marks(..) calls it -/
structure Ic (P : Program) (w : World) (K : PySem.W.Frag) (mg : Str → Option Value) (base : Heap) (C BM fI : Addr) (fdI : FuncData) : Prop where
  M : Mc K mg C fI
  G : FnOk P w K mg base (L2.CX P w) 4 fI fdI nInit (spInit C BM)
  b : Binds K fdI nInit []
section
variable {P : Program} {w : World} {K : PySem.W.Frag} {mg : Str → Option Value} {base : Heap} {f C BM BP fI : Addr} {fd fdI : FuncData}
theorem ok_inv (F : FnS K "__invert__" "Marks.__invert__" sInv f fd) (g : Gs mg) (I : Ic P w K mg base C BM fI fdI) : FnOk P w K mg base CX0 6 f fd nSelf (spInv C) := by
  obtain ⟨p0, s0⟩ := I.M.s0
  obtain ⟨p1, s1⟩ := I.M.s1
  refine F.ok scInv (fun vs H Q E h => ?_) (fun cdv A outer s H vs Q E hr h => ⟨_, PSs.nox (pss_one (ps_ret
    (pe_Marks (E := E0) I.M I.G I.b hr rfl passL (pa_cons (pe_op op_repK (pe_tup (pa_cons pe_non pa_nil)) (pe_callB call_len rfl g.len boot_len (pa_cons (SlX.pe_sl (pv 0)) pa_nil)))
      (pa_cons (pe_op op_repK (pe_tup (pa_cons pe_non pa_nil)) (pe_callB call_len rfl g.len boot_len (pa_cons (SlX.pe_sl (pv 0)) pa_nil))) pa_nil))))), ?_⟩)
  · obtain ⟨a, cs, rs, rfl, _⟩ := h
    rfl
  · obtain ⟨a, cs, rs, rfl, ⟨dx, ca, ra, hs, hc, hrr⟩, gm, q⟩ := h
    obtain ⟨l1, l2, l3, l4⟩ := gm.len
    have gn : Gm (List.replicate cs.length V.non) (List.replicate rs.length V.non) := ⟨amB_non l1 (by omega), amB_non l3 (by omega)⟩
    -- what either product leaves
    have prod : ∀ (H2 : Hp) (n : Nat) (T : Addr) (R : V → Hp → Prop), 1 ≤ n → n ≤ 3 → H2 T = some (.tup [V.non]) → (∀ H3 c, Same H2 H3 → H3 c = some (.tup (List.replicate n V.non)) → R (.ref c) H3) → rRepK K (.ref T) (.int (n : Nat)) H2 R := by
      intro H2 n T R h1 h3 hT h
      refine ⟨T, (n : Nat), [V.non], rfl, rfl, .of hT, (fun z => by cases z), by omega, by omega, by decide, fun e => ?_, fun _ p np => ?_⟩
      · have e : n = 1 := by omega
        subst e
        exact h H2 T (Same.refl H2) hT
      · rw [Int.toNat_natCast, rep_flat]
        exact h _ p ((Same.refl H2).upd np) upd_same
    refine ⟨by decide, fun T1 n1 => ?_⟩
    have sa : Same H (upd H T1 (.tup [V.non])) := (Same.refl H).upd n1
    refine ⟨_, rfl, a, C, dx, p0, _, 0, _, rfl, slt_same sa hs, I.M.c, s0, rfl, _, cs.length, rfl, .inr ⟨cs, .of (sa _ _ hc), rfl⟩, ?_⟩
    refine prod _ cs.length T1 _ l1 (by omega) upd_same fun H3 c1 sb e1 => ?_
    refine ⟨by decide, fun T2 n2 => ?_⟩
    have sc : Same H3 (upd H3 T2 (.tup [V.non])) := (Same.refl H3).upd n2
    refine ⟨_, rfl, a, C, dx, p1, _, 1, _, rfl, slt_same ((sa.trans sb).trans sc) hs, I.M.c, s1, rfl, _, rs.length, rfl, .inr ⟨rs, .of (sc _ _ (sb _ _ (sa _ _ hrr))), rfl⟩, ?_⟩
    refine prod _ rs.length T2 _ l3 l4 upd_same fun H4 c2 sd e2 => ?_
    have st : Same H H4 := ((sa.trans sb).trans sc).trans sd
    refine make_ok (sd _ _ (sc _ _ e1)) e2 gn fun H5 p dx' s5 np hs5 => ?_
    exact q H5 p (st.trans s5) (st.free np) ⟨dx', c1, c2, hs5, s5 _ _ (sd _ _ (sc _ _ e1)), s5 _ _ e2⟩
end
end Lk
/-! Marks | changes -/
namespace Lk
open PySem PySem.Spec PyProof.Rows L2
theorem pe_lockN {X : Cx} {e : Expr} {t : TE} (h : PE X e t) : PE X e (fun σ H Q => tLockE t σ H Q ∨ t σ H Q) := by
  refine ⟨fun pins s σ H Q I hw => ?_⟩
  rcases hw with hw | hw
  · exact (pe_lock h).run pins s σ H Q I hw
  · exact h.run pins s σ H Q I hw
theorem yes_rd {σ : L2.St} {H : Hp} {A B : Hp → Prop} (h : A H) : tYes σ H (fun b H3 => if b = true then A H3 else B H3) := show (if true = true then A H else B H) from iteT (B := B H) h
section
variable {K : PySem.W.Frag} {te : TE} {vs : List Nat} {σ : L2.St} {H1 : Hp} {D : Addr} {j j' : Nat} {Qd : Hp → Prop}
theorem lcm_dk {d : Addr} {o : Obj} {kvs : List (Key × V)} (hv : V → V) (hq : H1 d = some (.frz o (.dK kvs))) (nD : H1 D = none) (hz : kvs.length ≤ 1000) (hw : ∀ v, wipe ((wipe σ vs).set j (some v)) vs = wipe σ vs)
    (he : ∀ p ∈ kvs, ∀ H, Same H1 H → ∀ Q : VK, (∀ H', Same H H' → Q (hv (kV p.1)) H') → te ((wipe σ vs).set j (some (kV p.1))) H Q)
    (hd : ∀ H, Same H1 H → H D = some (.lst (kvs.map fun p => hv (kV p.1))) → Qd H) :
    ∃ W : Nat → Nat → Hp → Prop, (∃ m, W 0 m (upd H1 D (.lst []))) ∧ ∀ i m H, W i m H →
      ((Itk d o kvs).stop i H ∧ Qd H) ∨ ((Itk d o kvs).go i H ∧ ∃ Nx : Hp → Prop, (∀ H', Nx H' → ∃ m', m' < m ∧ W (i + 1) m' H') ∧ ∀ x H', (Itk d o kvs).yld i H x H' → gName j x (wipe σ vs) H' fun σ2 H2 => wipe σ2 vs = wipe σ vs ∧ tYes σ2 H2 fun b H3 =>
        if b = true then te σ2 H3 fun y H4 => ∃ acc, H4 D = some (.lst acc) ∧ acc.length < sizeLine ∧ Nx (upd H4 D (.lst (acc ++ [y]))) else Nx H3) := by
  refine lc_dk (kvs := kvs) (fun i H => Same H1 H ∧ H D = some (.lst ((kvs.take i).map fun p => hv (kV p.1)))) ⟨Same.upd (Same.refl H1) nD, upd_same⟩ (fun i H _ h => h.1 _ _ hq) (fun i p H hx h => ⟨hw _, ?_⟩) fun H h => hd H h.1 (by rw [← List.take_length (l := kvs)]; exact h.2)
  refine yes_rd ?_
  refine he p (List.mem_of_getElem? hx) H h.1 _ fun H4 s4 => ⟨_, s4 _ _ h.2, small1000 ?_, (h.1.trans s4).upd nD, ?_⟩
  · rw [List.length_map, List.length_take]
    exact Nat.le_trans (Nat.min_le_right _ _) hz
  · rw [upd_same, List.take_add_one, hx, Option.toList_some, List.map_append]
    rfl
theorem lcm_kx {d : Addr} {o : Obj} {ks : List V} (hv : V → V) (hq : H1 d = some (DicO d o)) (nD : H1 D = none) (hz : ks.length ≤ 1000) (hw : ∀ v, wipe ((wipe σ vs).set j (some v)) vs = wipe σ vs)
    (he : ∀ p ∈ ks, ∀ H, Same H1 H → ∀ Q : VK, (∀ H', Same H H' → Q (hv p) H') → te ((wipe σ vs).set j (some p)) H Q)
    (hd : ∀ H, Same H1 H → H D = some (.lst (ks.map hv)) → Qd H) :
    ∃ W : Nat → Nat → Hp → Prop, (∃ m, W 0 m (upd H1 D (.lst []))) ∧ ∀ i m H, W i m H →
      ((Ikx d o ks).stop i H ∧ Qd H) ∨ ((Ikx d o ks).go i H ∧ ∃ Nx : Hp → Prop, (∀ H', Nx H' → ∃ m', m' < m ∧ W (i + 1) m' H') ∧ ∀ x H', (Ikx d o ks).yld i H x H' → gName j x (wipe σ vs) H' fun σ2 H2 => wipe σ2 vs = wipe σ vs ∧ tYes σ2 H2 fun b H3 =>
        if b = true then te σ2 H3 fun y H4 => ∃ acc, H4 D = some (.lst acc) ∧ acc.length < sizeLine ∧ Nx (upd H4 D (.lst (acc ++ [y]))) else Nx H3) := by
  refine lc_kx (ks := ks) (fun i H => Same H1 H ∧ H D = some (.lst ((ks.take i).map hv))) ⟨Same.upd (Same.refl H1) nD, upd_same⟩ (fun i H _ h => h.1 _ _ hq) (fun i p H hx h => ⟨hw _, ?_⟩) fun H h => hd H h.1 (by rw [← List.take_length (l := ks)]; exact h.2)
  refine yes_rd ?_
  refine he p (List.mem_of_getElem? hx) H h.1 _ fun H4 s4 => ⟨_, s4 _ _ h.2, small1000 ?_, (h.1.trans s4).upd nD, ?_⟩
  · rw [List.length_map, List.length_take]
    exact Nat.le_trans (Nat.min_le_right _ _) hz
  · rw [upd_same, List.take_add_one, hx, Option.toList_some, List.map_append]
    rfl
theorem lcm_enum {a : Addr} {xs : List V} (hv : Nat → V → V) (hq : SqT K H1 a xs) (nD : H1 D = none) (hz : xs.length ≤ 1000) (hw : ∀ u v, wipe (((wipe σ vs).set j (some u)).set j' (some v)) vs = wipe σ vs)
    (he : ∀ (i : Nat) x, xs[i]? = some x → ∀ H, Same H1 H → ∀ Q : VK, (∀ H', Same H H' → Q (hv i x) H') → te (((wipe σ vs).set j (some (.int (i : Nat)))).set j' (some x)) H Q)
    (hd : ∀ H, Same H1 H → H D = some (.lst (xs.mapIdx hv)) → Qd H) :
    ∃ W : Nat → Nat → Hp → Prop, (∃ m, W 0 m (upd H1 D (.lst []))) ∧ ∀ i m H, W i m H →
      ((Iet K a).stop i H ∧ Qd H) ∨ ((Iet K a).go i H ∧ ∃ Nx : Hp → Prop, (∀ H', Nx H' → ∃ m', m' < m ∧ W (i + 1) m' H') ∧ ∀ x H', (Iet K a).yld i H x H' → gTup K 2 (gCons (gName j) (gCons (gName j') gNil)) x (wipe σ vs) H' fun σ2 H2 => wipe σ2 vs = wipe σ vs ∧ tYes σ2 H2 fun b H3 =>
        if b = true then te σ2 H3 fun y H4 => ∃ acc, H4 D = some (.lst acc) ∧ acc.length < sizeLine ∧ Nx (upd H4 D (.lst (acc ++ [y]))) else Nx H3) := by
  refine lc_enumT (xs := xs) (fun i H => Same H1 H ∧ H D = some (.lst ((xs.take i).mapIdx hv))) ⟨Same.upd (Same.refl H1) nD, upd_same⟩ (fun i H _ h => h.1.tup hq) (fun i x H T hx h nT => ?_) fun H h => hd H h.1 (by rw [← List.take_length (l := xs)]; exact h.2)
  have sT : Same H (upd H T (.tup [.int (i : Nat), x])) := (Same.refl H).upd nT
  refine ⟨T, _, rfl, .of upd_same, rfl, _, _, rfl, _, _, rfl, rfl, hw _ _, ?_⟩
  refine yes_rd ?_
  refine he i x hx _ (h.1.trans sT) _ fun H4 s4 => ⟨_, s4 _ _ (sT _ _ h.2), small1000 ?_, ((h.1.trans sT).trans s4).upd nD, ?_⟩
  · rw [List.length_mapIdx, List.length_take]
    exact Nat.le_trans (Nat.min_le_right _ _) hz
  · have hi : i < xs.length := (List.getElem?_eq_some_iff.mp hx).1
    rw [upd_same, List.take_add_one, hx, Option.toList_some, List.mapIdx_append, List.length_take, Nat.min_eq_left (Nat.le_of_lt hi)]
    congr 2
    simp
end
/-! ### what | makes -/
def regAt (i : Nat) : Str := ⟨#[97 + i]⟩
def newC (kvs : List (Key × V)) (cs : List V) : List V := cs.mapIdx fun i x => (valV kvs (Sum.inl (i : Int))).getD x
def newR (kvs : List (Key × V)) (rs : List V) : List V := rs.mapIdx fun i x => (valV kvs (Sum.inr (regAt i))).getD x
theorem abc_at (i : Nat) (h : i < 3) : atI ("abc" : Str).cps.toList (i : Int) = some (97 + i) := by
  have : i = 0 ∨ i = 1 ∨ i = 2 := by omega
  rcases this with h | h | h <;> subst h <;> decide +kernel
/-- what such a dict's keys are: places or not, all of them met texts -/
structure Dk (H : Hp) (kvs : List (Key × V)) : Prop where
  z : kvs.length ≤ 1000
  t : ∀ p ∈ kvs, TxtOk (kV p.1)
  v : ∀ p ∈ kvs, Kd H p.2
theorem kd_kV {H : Hp} (k : Key) : Kd H (kV k) := by cases k with | inl i => exact .int i | inr s => exact .str s
def spOr (C BM : Addr) : Sp := fun vs H Q E => ∃ a y cs rs, vs = [.ref a, y] ∧ MkAt C H a cs rs ∧ Gm cs rs ∧
  ((Kd H y ∧ ∀ H', Same H H' → E (.ref BM) none H') ∨
   (∃ d kvs, y = .ref d ∧ H d = some (.dK kvs) ∧ Dk H kvs ∧
     ((kvs.all fun p => (mkOf cs rs (kV p.1)).isSome) = true → amB (newC kvs cs) 2 = true → amB (newR kvs rs) 3 = true → ∀ H' p, Same H H' → H p = none → MkAt C H' p (newC kvs cs) (newR kvs rs) → Q (.ref p) H') ∧
     (((kvs.all fun p => (mkOf cs rs (kV p.1)).isSome) && (amB (newC kvs cs) 2 && amB (newR kvs rs) 3)) = false → ∀ H', Same H H' → E (.ref BM) none H')) ∨
   (∃ d o ks, y = .ref d ∧ H d = some (DicO d o) ∧ (d == sysModules) = false ∧ KeysO o ks ∧ ks.length ≤ 1000 ∧ (∀ x ∈ ks, Kd H x ∧ TxtOk x) ∧ (ks.all fun x => (mkOf cs rs x).isSome) = false ∧ ∀ H', Same H H' → E (.ref BM) none H'))
theorem valV_mem {kvs : List (Key × V)} {k : Key} {v : V} (h : valV kvs k = some v) : ∃ p ∈ kvs, p.2 = v := by
  unfold valV at h
  cases e : kvs.find? (fun kv => decide (kv.1 = k)) with
  | none => rw [e] at h; cases h
  | some p =>
    rw [e] at h
    exact ⟨p, List.mem_of_find?_eq_some e, Option.some.inj h⟩
theorem new_kd {H : Hp} {kvs : List (Key × V)} (d : Dk H kvs) (f : Nat → Key) {xs : List V} (hx : ∀ x ∈ xs, Kd H x) : ∀ y ∈ xs.mapIdx (fun i x => (valV kvs (f i)).getD x), Kd H y := by
  intro y hy
  obtain ⟨i, hi, e⟩ := List.mem_mapIdx.mp hy
  cases q : valV kvs (f i) with
  | none =>
    rw [q] at e
    rw [← e]
    exact hx _ (List.getElem_mem hi)
  | some v =>
    rw [q] at e
    obtain ⟨p, hp, ep⟩ := valV_mem q
    rw [← e]
    show Kd H v
    rw [← ep]
    exact d.v p hp
theorem frz_back {H1 H : Hp} {d : Addr} {u : HO} {od : Obj} (e : H1 d = some u) (s : Same (upd H1 d (.frz od u)) H) : Same H1 (upd H d u) := fun b o eb => by
  by_cases h : b = d
  · subst h
    rw [upd_same, ← eb, e]
  · rw [upd_ne h]
    exact s _ _ (by rw [upd_ne h]; exact eb)
section
variable {P : Program} {w : World} {K : PySem.W.Frag} {mg : Str → Option Value} {base : Heap} {f C BM BP fI : Addr} {fd fdI : FuncData}
theorem ok_or (F : FnS K "__or__" "Marks.__or__" sOr f fd) (g : Gs mg) (I : Ic P w K mg base C BM fI fdI) (B : ErrC K mg "BadMarks" BM) (dc : Dun P w K mg base CX0 2 C "__contains__" (spCon C)) : FnOk P w K mg base (L2.CX P w) 6 f fd ["self", "changes"] (spOr C BM) := by
  obtain ⟨tr, gr⟩ := g.regs
  obtain ⟨p0, s0⟩ := I.M.s0
  obtain ⟨p1, s1⟩ := I.M.s1
  refine F.ok scOr (fun vs H Q E h => ?_) (fun cdv A outer s H vs Q E hr h => ⟨_, (pss_cons
    (ps_if (PW.pt (pw_or (pt_not (pt_val (pe_callB call_isiK rfl g.isi (by decide +kernel) (pa_cons (pv 1) (pa_cons (pe_bltn (v := .ty "dict") rfl g.dict (by decide +kernel) rfl) pa_nil)))))
      (pw_or1 (pt_not (pt_val (pe_callB (cr_all rfl) rfl g.all (by decide +kernel) (pa_cons (pe_lockN
        (pe_lc (own := [("place", 4)]) (g := gName 4) (tt := tYes) rfl scOr.nd (pi_keysN (pv 1)) (blkOk_by (N := nOr) (sc := defScope sOr) (by decide +kernel)) (fun _ _ _ _ _ => pg_name (i := 4) scOr.nd rfl (Or.inl rfl)) (fun _ _ _ _ _ => pts_nil)
          (fun _ _ _ _ _ => pe_inM dc (hr.mono (by decide)) (pv 4) (pv 0)))) pa_nil)))))))
      (pss_one (ps_raise rfl (takes_of rfl rfl rfl rfl) (pmk_own PySem.F.excBase_ValueError B.ex B.g B.kp (raises_own B.b B.t) rfl))) pss_nil)
    (pss_cons (ps_setLc (i := 2) (own := [("at", 5), ("mark", 6)]) (g := gTup K 2 (gCons (gName 5) (gCons (gName 6) gNil))) (tt := tYes) rfl scOr.nd rfl rfl (sw_true rfl rfl rfl (by decide +kernel)) (pi_enumT rfl g.enum (pa_cons (SlX.pe_sl (pv 0)) pa_nil)) (blkOk_by (N := nOr) (sc := defScope sOr) (by decide +kernel))
        (fun _ _ _ _ _ => pg_tup rfl (pgs_cons (pg_name (i := 5) scOr.nd rfl (Or.inl rfl)) (pgs_cons (pg_name (i := 6) scOr.nd rfl (Or.inl rfl)) pgs_nil))) (fun _ _ _ _ _ => pts_nil)
        (fun _ _ _ _ _ => pe_dget2 (hu_of hr) (pv 1) (pv 5) (pv 6) ⟨rfl, rfl, rfl, rfl⟩))
    (pss_cons (ps_setLc (i := 3) (own := [("at", 5), ("mark", 6)]) (g := gTup K 2 (gCons (gName 5) (gCons (gName 6) gNil))) (tt := tYes) rfl scOr.nd rfl rfl (sw_true rfl rfl rfl (by decide +kernel)) (pi_enumT rfl g.enum (pa_cons (SlX.pe_sl (pv 0)) pa_nil)) (blkOk_by (N := nOr) (sc := defScope sOr) (by decide +kernel))
        (fun _ _ _ _ _ => pg_tup rfl (pgs_cons (pg_name (i := 5) scOr.nd rfl (Or.inl rfl)) (pgs_cons (pg_name (i := 6) scOr.nd rfl (Or.inl rfl)) pgs_nil))) (fun _ _ _ _ _ => pts_nil)
        (fun _ _ _ _ _ => pe_dget2 (hu_of hr) (pv 1) (pe_ix ix_str (pe_glob (v := .str "abc") rfl gr ⟨_, rfl⟩) (pv 5) (fun _ _ => rfl)) (pv 6) ⟨rfl, rfl, rfl, rfl⟩))
    (pss_one (ps_ret (pe_Marks (E := E) I.M I.G I.b hr rfl (passes_call (takes_of rfl rfl rfl rfl) (fun _ _ _ _ h => h)) (pa_cons (pe_callTy call_tuple_of rfl g.tuple (by decide +kernel) (pa_cons (pv 2) pa_nil)) (pa_cons (pe_callTy call_tuple_of rfl g.tuple (by decide +kernel) (pa_cons (pv 3) pa_nil)) pa_nil)))))))), ?_⟩)
  · obtain ⟨a, y, cs, rs, rfl, _⟩ := h
    rfl
  · obtain ⟨a, y, cs, rs, rfl, m, gm, h⟩ := h
    obtain ⟨l1, l2, l3, l4⟩ := gm.len
    rcases h with ⟨ky, q⟩ | ⟨d, kvs, rfl, hd, dk, q1, q2⟩ | ⟨d, o, ks, rfl, hd, lo, ko, hz, hk, bad, q⟩
    · obtain ⟨t, ty, _, _, _, _, k5⟩ := ky.ty (K := K)
      exact ⟨_, rfl, y, .ty "dict", .type t, .type "dict", _, rfl, .ty _, .inl ty, kit_ty k5, _, rfl, iteT (q H (Same.refl H))⟩
    · refine ⟨_, rfl, _, .ty "dict", .type "dict", .type "dict", true, rfl, .ty _, .inl (.base (.dK hd)), kit_ty (by decide +kernel), _, rfl, iteF ?_⟩
      refine .inl ⟨d, _, hd, True.intro, fun od => ⟨_, rfl, d, rfl, .inl ⟨od, kvs, upd_same, fun D nD => ?_⟩⟩⟩
      have nDd : D ≠ d := fun z => by rw [z, upd_same] at nD; cases nD
      have mf : MkAt C (upd H d (.frz od (.dK kvs))) a cs rs := by
        obtain ⟨dx, ca, ra, hs, hc, hrr⟩ := m
        rcases hs with ⟨_, z⟩ | ⟨h1, h2⟩
        · cases z
        · exact ⟨dx, ca, ra, .inr ⟨by rw [upd_ne (ne_of h1 hd (by intro z; unfold SlX.SlO at z; cases z))]; exact h1, by rw [upd_ne (ne_of h2 hd (by intro z; cases z))]; exact h2⟩,
            by rw [upd_ne (ne_of hc hd (by intro z; cases z))]; exact hc, by rw [upd_ne (ne_of hrr hd (by intro z; cases z))]; exact hrr⟩
      refine lcm_dk (fun x => .bl (mkOf cs rs x).isSome) upd_same nD dk.z (fun _ => rfl) (fun p hp H2 s2 Q' h => ⟨_, rfl, _, rfl, in_rd (mf.same s2) gm ⟨kd_kV _, dk.t p hp⟩ (h H2 (Same.refl H2))⟩) fun H2 s2 hD => ?_
      have s3 : Same H (upd H2 d (.dK kvs)) := frz_back hd s2
      refine ⟨s2 _ _ upd_same, D, kvs.map (fun p => (mkOf cs rs (kV p.1)).isSome), rfl, .of (by rw [upd_ne nDd, hD, List.map_map]; rfl), _, rfl, ?_⟩
      have ea : (kvs.map (fun p => (mkOf cs rs (kV p.1)).isSome)).all id = kvs.all fun p => (mkOf cs rs (kV p.1)).isSome := by rw [List.all_map]; rfl
      rw [ea]
      by_cases hg : (kvs.all fun p => (mkOf cs rs (kV p.1)).isSome) = true
      · rw [hg]
        rw [hg, Bool.true_and] at q2
        refine iteF ?_
        generalize upd H2 d (.dK kvs) = H3 at s3
        obtain ⟨dx, ca, ra, hs, hc, hrr⟩ := m
        have hd3 := s3 _ _ hd
        -- columns
        refine ⟨_, rfl, a, C, dx, p0, _, 0, _, rfl, slt_same s3 hs, I.M.c, s0, rfl, ca, cs, rfl, .of (s3 _ _ hc), fun D1 n1 => ?_⟩
        refine lcm_enum (K := K) (xs := cs) (fun i x => (valV kvs (Sum.inl (i : Int))).getD x) (.of (s3 _ _ hc)) n1 (by omega) (fun _ _ => rfl) (fun i x hx H4 s4 Q' h => ?_) fun H4 s4 e4 => ?_
        · exact ⟨_, rfl, d, rfl, .inl ⟨kvs, .inl (s4 _ _ hd3)⟩, _, rfl, _, rfl, _, DGet.k (k := Sum.inl (i : Int)) (s4 _ _ hd3), h H4 (Same.refl H4)⟩
        -- registers
        have s04 := s3.trans s4
        refine ⟨_, rfl, a, C, dx, p1, _, 1, _, rfl, slt_same s04 hs, I.M.c, s1, rfl, ra, rs, rfl, .of (s04 _ _ hrr), fun D2 n2 => ?_⟩
        refine lcm_enum (K := K) (xs := rs) (fun i x => (valV kvs (Sum.inr (regAt i))).getD x) (.of (s04 _ _ hrr)) n2 (by omega) (fun _ _ => rfl) (fun i x hx H5 s5 Q' h => ?_) fun H5 s5 e5 => ?_
        · have hi := (List.getElem?_eq_some_iff.mp hx).1
          exact ⟨_, rfl, d, rfl, .inl ⟨kvs, .inl (s5 _ _ (s4 _ _ hd3))⟩, _, rfl, "abc", (i : Int), _, rfl, rfl, abc_len, abc_at i (by omega), _, rfl, _, DGet.k (k := Sum.inr (regAt i)) (s5 _ _ (s4 _ _ hd3)), h H5 (Same.refl H5)⟩
        have s05 := s04.trans s5
        have e4 : H4 D1 = some (.lst (newC kvs cs)) := e4
        have e5 : H5 D2 = some (.lst (newR kvs rs)) := e5
        refine ⟨_, rfl, D1, _, rfl, .inl ⟨.of (s5 _ _ e4), fun c1 m1 => ?_⟩⟩
        have s06 : Same H (upd H5 c1 (.tup (newC kvs cs))) := s05.trans ((Same.refl H5).upd m1)
        refine ⟨_, rfl, D2, _, rfl, .inl ⟨.of (((Same.refl H5).upd m1) _ _ e5), fun c2 m2 => ?_⟩⟩
        have sc : Same (upd H5 c1 (.tup (newC kvs cs))) (upd (upd H5 c1 (.tup (newC kvs cs))) c2 (.tup (newR kvs rs))) := (Same.refl _).upd m2
        have s07 := s06.trans sc
        have hc1 := sc _ _ (upd_same (a := c1) (o := HO.tup (newC kvs cs)) (H := H5))
        have kc : Kt (upd (upd H5 c1 (.tup (newC kvs cs))) c2 (.tup (newR kvs rs))) (.ref c1) := .tup hc1 (by unfold newC; rw [List.length_mapIdx]; omega) fun y hy => (new_kd dk (fun i => Sum.inl (i : Int)) (fun x hx => held_kd ((amB_len gm.c).2.2 x hx)) y hy).same s07
        have kr : Kt (upd (upd H5 c1 (.tup (newC kvs cs))) c2 (.tup (newR kvs rs))) (.ref c2) := .tup upd_same (by unfold newR; rw [List.length_mapIdx]; omega) fun y hy => (new_kd dk (fun i => Sum.inr (regAt i)) (fun x hx => held_kd ((amB_len gm.r).2.2 x hx)) y hy).same s07
        refine make_rd kc kr (fun z H8 p dy s8 np hs8 => ?_) (fun z H8 s8 => ?_)
        · rw [amV_tup hc1, amV_tup upd_same, Bool.and_eq_true] at z
          exact q1 hg z.1 z.2 H8 p (s07.trans s8) (s07.free np) ⟨dy, c1, c2, hs8, s8 _ _ hc1, s8 _ _ upd_same⟩
        · rw [amV_tup hc1, amV_tup upd_same] at z
          exact q2 z H8 (s07.trans s8)
      · have hg : (kvs.all fun p => (mkOf cs rs (kV p.1)).isSome) = false := by simpa using hg
        rw [hg]
        exact iteT (q2 (by rw [hg, Bool.false_and]) _ s3)
    · refine ⟨_, rfl, _, .ty "dict", .type "dict", .type "dict", true, rfl, .ty _, .inr ⟨d, o, rfl, hd, ko.1.1, rfl⟩, kit_ty (by decide +kernel), _, rfl, iteF ?_⟩
      refine .inr ⟨_, rfl, d, rfl, .inr ⟨o, ks, hd, lo, ko, fun D nD => ?_⟩⟩
      refine lcm_kx (fun x => .bl (mkOf cs rs x).isSome) hd nD hz (fun _ => rfl) (fun x hx H2 s2 Q' h => ⟨_, rfl, _, rfl, in_rd (m.same s2) gm ⟨((hk x hx).1).same s2, (hk x hx).2⟩ (h H2 (Same.refl H2))⟩) fun H2 s2 hD => ?_
      refine ⟨D, ks.map (fun x => (mkOf cs rs x).isSome), rfl, .of (by rw [hD, List.map_map]; rfl), _, rfl, ?_⟩
      have ea : (ks.map (fun x => (mkOf cs rs x).isSome)).all id = false := by rw [List.all_map]; exact bad
      rw [ea]
      exact iteT (q H2 s2)
end
end Lk
/-! the draws: any number below the bound -/
namespace Lk
open PySem PySem.Spec PyProof.Rows L2
def spCellAt (K : PySem.W.Frag) : Sp := fun vs H Q _ => ∃ (sc : Addr) (ns : List Int) (k : Int), vs = [.ref sc, .int k] ∧ SqL K H sc (ns.map V.int) ∧ 0 ≤ k ∧ ∀ i : Int, Q (.int i) H
def spDrawI : Sp := fun vs H Q _ => ∃ c k b : Int, vs = [.int c, .int k, .int b] ∧ 0 < b ∧ ∀ (r : Int) H', Same H H' → 0 ≤ r → r < b → Q (.int r) H'
def spNumb : Sp := fun vs H Q _ => ∃ c k b : Int, vs = [.int c, .int k, .int b] ∧ 0 ≤ k ∧ k ≤ 12 ∧ 0 < b ∧ ∀ (r : Int) H', Same H H' → 0 ≤ r → r < b → Q (.int r) H'
/-- the list of draws at d, k of them made -/
def Dr (K : PySem.W.Frag) (H : Hp) (d sc : Addr) (ns : List Int) : Prop := ∃ (by_ k : Int), H d = some (.lst [.ref sc, .int by_, .int k]) ∧ SqL K H sc (ns.map V.int) ∧ sc ≠ d ∧ 0 ≤ by_ ∧ 0 ≤ k
/-- all but what stands at d stays -/
def But (d : Addr) (H H' : Hp) : Prop := ∀ b o, H b = some o → b ≠ d → H' b = some o
theorem But.refl (d : Addr) (H : Hp) : But d H H := fun _ _ h _ => h
theorem But.trans {d : Addr} {H H1 H2 : Hp} (a : But d H H1) (b : But d H1 H2) : But d H H2 := fun c o h n => b c o (a c o h n) n
theorem _root_.L2.Same.but {H H' : Hp} (s : Same H H') (d : Addr) : But d H H' := fun b o e _ => s b o e
theorem But.seq {K : PySem.W.Frag} {d : Addr} {H H' : Hp} {a : Addr} {xs : List V} (s : But d H H') (h : SqL K H a xs) (n : a ≠ d) : SqL K H' a xs := by
  rcases h with (h | ⟨o, h⟩) | h
  · exact .inl (.inl (s _ _ h n))
  · exact .inl (.inr ⟨o, s _ _ h n⟩)
  · exact .inr h
theorem _root_.L2.Same.dr {K : PySem.W.Frag} {H H' : Hp} {d sc : Addr} {ns : List Int} (s : Same H H') (h : Dr K H d sc ns) : Dr K H' d sc ns := by
  obtain ⟨b, k, h1, h2, h3, h4, h5⟩ := h
  exact ⟨b, k, s _ _ h1, s.seq h2, h3, h4, h5⟩
def spNext (K : PySem.W.Frag) : Sp := fun vs H Q _ => ∃ (d sc : Addr) (ns : List Int) (b : Int), vs = [.ref d, .int b] ∧ Dr K H d sc ns ∧ 0 < b ∧ ∀ (r : Int) H', But d H H' → Dr K H' d sc ns → 0 ≤ r → r < b → Q (.int r) H'
def spPick (K : PySem.W.Frag) : Sp := fun vs H Q _ => ∃ (d l sc : Addr) (ns : List Int) (xs : List V), vs = [.ref d, .ref l] ∧ Dr K H d sc ns ∧ H l = some (.lst xs) ∧ l ≠ d ∧ xs ≠ [] ∧ ∀ x H', x ∈ xs → But d H H' → Dr K H' d sc ns → Q x H'
section
variable {P : Program} {w : World} {K : PySem.W.Frag} {mg : Str → Option Value} {base : Heap} {f : Addr} {fd : FuncData}
theorem ok_cell (F : FnS K "_law_cell_at" "_law_cell_at" sCell f fd) (g : Gs mg) : FnOk P w K mg base CX0 1 f fd nCell (spCellAt K) := by
  refine F.ok scCell (fun vs H Q E h => ?_) (fun cdv A outer s H vs Q E hr h => ⟨_, PSs.nox (pss_cons
    (ps_if (pt_cmp (pc_lt (pv 1) (pe_callB call_len rfl g.len boot_len (pa_cons (pv 0) pa_nil)))) (pss_one (ps_ret (pe_ix ix_list (pv 0) (pv 1) (fun _ _ => rfl)))) pss_nil)
    (pss_one (ps_ret pe_int))), ?_⟩)
  · obtain ⟨sc, ns, k, rfl, _⟩ := h
    rfl
  · obtain ⟨sc, ns, k, rfl, hs, h0, q⟩ := h
    refine ⟨_, rfl, _, rfl, _, (ns.map V.int).length, rfl, .inl ⟨_, hs, rfl⟩, _, _, rfl, rfl, _, rfl, ?_⟩
    refine ite2 (fun h => ?_) (fun _ => q 0)
    have h := of_decide_eq_true h
    rw [List.length_map] at h
    obtain ⟨n, rfl⟩ := Int.eq_ofNat_of_zero_le h0
    have hn : n < ns.length := by omega
    exact ⟨_, rfl, _, rfl, sc, _, (n : Int), _, rfl, rfl, hs, atI_nat (by rw [List.getElem?_map, List.getElem?_eq_getElem hn]; rfl), q _⟩
def prs : List Int := [1000003, 1000033, 1000037, 1000039, 1000081, 1000099, 1000117, 1000121, 1000133, 1000151, 1000159, 1000171, 1000183, 1000187, 1000193, 1000199]
theorem ok_draw (F : FnS K "_law_draw" "_law_draw" sDraw f fd) (g : Gs mg) : FnOk P w K mg base CX0 1 f fd ["_law_cell", "_law_k", "_law_bound"] spDrawI := by
  refine F.ok scDraw (fun vs H Q E h => ?_) (fun cdv A outer s H vs Q E hr h => ⟨_, PSs.nox (pss_cons
    (ps_set (i := 3) scDraw.nd rfl (Or.inl rfl) (pe_tup (pa_cons pe_int (pa_cons pe_int (pa_cons pe_int (pa_cons pe_int (pa_cons pe_int (pa_cons pe_int (pa_cons pe_int (pa_cons pe_int (pa_cons pe_int (pa_cons pe_int (pa_cons pe_int (pa_cons pe_int (pa_cons pe_int (pa_cons pe_int (pa_cons pe_int (pa_cons pe_int pa_nil))))))))))))))))))
    (pss_one (ps_ret (pe_op op_mod (pe_callTy call_int1 rfl g.int boot_int (pa_cons (pe_op op_mod (pe_callTy call_int1 rfl g.int boot_int (pa_cons (pe_op op_add (pe_op op_mul (pv 0) pe_int) (pe_op op_mul (pv 1) pe_int)) pa_nil))
      (pe_ix ix_tup (pv 3) (pe_op op_mod (pe_callTy call_int1 rfl g.int boot_int (pa_cons (pv 1) pa_nil)) pe_int) (fun _ _ => rfl))) pa_nil)) (pv 2))))), ?_⟩)
  · obtain ⟨c, k, b, rfl, _⟩ := h
    rfl
  · obtain ⟨c, k, b, rfl, hb, q⟩ := h
    refine ⟨by decide, fun T nT => ?_⟩
    have hm : 0 ≤ k % 16 := Int.emod_nonneg _ (by decide)
    have hm2 : k % 16 < 16 := Int.emod_lt_of_pos _ (by decide)
    obtain ⟨j, ej⟩ := Int.eq_ofNat_of_zero_le hm
    have hj : j < prs.length := by show j < 16; omega
    have hp : 0 < prs[j] := by
      have : ∀ p ∈ prs, 0 < p := by decide
      exact this _ (List.getElem_mem hj)
    refine ⟨_, rfl, _, _, rfl, rfl, .inr ⟨by decide, by decide⟩, _, rfl, _, _, rfl, rfl, .inr ⟨by decide, by decide⟩, _, _, rfl, rfl, .inl ⟨_, rfl, ?_⟩⟩
    refine ⟨_, rfl, _, rfl, .inl ⟨_, rfl, _, _, rfl, rfl, (by show (0 : Int) < 16; decide), T, prs.map V.int, (j : Int), .int prs[j], rfl, by rw [← ej], .of upd_same, atI_nat (by rw [List.getElem?_map, List.getElem?_eq_getElem hj]; rfl), _, _, rfl, rfl, hp, .inl ⟨_, rfl, ?_⟩⟩⟩
    exact ⟨_, rfl, _, _, rfl, rfl, hb, q _ _ ((Same.refl H).upd nT) (Int.emod_nonneg _ (by omega)) (Int.emod_lt_of_pos _ hb)⟩
theorem ok_numb (F : FnS K "_law_number" "_law_number" sNumb f fd) (g : Gs mg) (cd : Cal P w K mg base CX0 1 "_law_draw" ["_law_cell", "_law_k", "_law_bound"] spDrawI) : FnOk P w K mg base CX0 2 f fd ["_law_cell", "_law_k", "_law_bound"] spNumb := by
  refine F.ok scNumb (fun vs H Q E h => ?_) (fun cdv A outer s H vs Q E hr h => ⟨_, PSs.nox (pss_cons
    (ps_set (i := 3) scNumb.nd rfl (Or.inl rfl) pe_int)
    (pss_cons (ps_for PassesOwn.never rfl (pi_range1 rfl g.range (pa_cons (pe_op op_mod (pe_callTy call_int1 rfl g.int boot_int (pa_cons (pv 1) pa_nil)) pe_int) pa_nil)) (pg_name (i := 4) scNumb.nd rfl (Or.inl rfl))
      (pss_one (ps_set (i := 3) scNumb.nd rfl (Or.inl rfl) (pe_op op_mul (pv 3) pe_int))))
    (pss_cons (ps_set (i := 5) scNumb.nd rfl (Or.inl rfl) (pe_op op_fdivW (pe_op op_sub (pv 0) (pe_op op_pow pe_int pe_int)) (pv 3)))
    (pss_cons (ps_if (pt_cmp (pc_gt (pv 5) pe_int)) (pss_one (ps_ret (pe_op op_mod (pe_callTy call_int1 rfl g.int boot_int (pa_cons (pe_op op_mod (pe_callTy call_int1 rfl g.int boot_int (pa_cons (pv 5) pa_nil)) pe_int) pa_nil)) (pv 2)))) pss_nil)
    (pss_cons (ps_set (i := 6) scNumb.nd rfl (Or.inl rfl) (pe_op op_mod (pe_callTy call_int1 rfl g.int boot_int (pa_cons (pv 0) pa_nil)) pe_int))
    (pss_one (ps_ret (pe_op op_mod (pe_callTy call_int1 rfl g.int boot_int (pa_cons (pe_c cd hr rfl pass0
      (pa_cons (pe_op op_mulW (pe_op op_add (pv 6) (pe_op op_mul pe_int (pv 1))) (pe_op op_add (pe_op op_add (pv 6) (pe_op op_mul pe_int (pv 1))) pe_int))
      (pa_cons (pe_op op_add (pe_op op_mod (pe_callTy call_int1 rfl g.int boot_int (pa_cons (pv 1) pa_nil)) pe_int) pe_int) (pa_cons pe_int pa_nil)))) pa_nil)) (pv 2))))))))), ?_⟩)
  · obtain ⟨c, k, b, rfl, _⟩ := h
    rfl
  · obtain ⟨c, k, b, rfl, k0, k12, hb, q⟩ := h
    have hm : 0 ≤ k % 24 := Int.emod_nonneg _ (by decide)
    have hm2 : k % 24 < 24 := Int.emod_lt_of_pos _ (by decide)
    have res : ∀ (H' : Hp) (z : Int), Same H H' → Q (.int (z % b)) H' := fun H' z s => q _ _ s (Int.emod_nonneg _ (by omega)) (Int.emod_lt_of_pos _ hb)
    refine ⟨_, rfl, .inl ⟨_, rfl, _, _, rfl, rfl, (by show (0 : Int) < 24; decide), _, rfl, by omega, by omega, ?_⟩⟩
    refine for_range (n := (k % 24).toNat) (fun i σ H2 => ∃ v, σ = [some (.int c), some (.int k), some (.int b), some (.int (1009 ^ i)), v, none, none] ∧ H2 = H) ⟨none, rfl, rfl⟩ ?_ ?_
    · rintro i σ H2 hi ⟨v, rfl, rfl⟩
      refine ⟨_, rfl, _, _, rfl, rfl, .inr ⟨by decide, by decide⟩, ⟨some (.int (0 + (i : Int))), by rw [Int.pow_succ]; rfl, rfl⟩⟩
    · rintro σ H2 ⟨v, rfl, rfl⟩
      have hpos : (0 : Int) < 1009 ^ (k % 24).toNat := Int.pow_pos (by decide)
      have hlt : ((1009 : Int) ^ (k % 24).toNat).natAbs < 2 ^ 240 := by
        rw [Int.natAbs_pow]
        have h1 : (1009 : Int).natAbs ^ (k % 24).toNat ≤ (1009 : Int).natAbs ^ 23 := Nat.pow_le_pow_right (by decide) (by omega)
        exact Nat.lt_of_le_of_lt h1 (by decide)
      refine ⟨_, rfl, _, _, rfl, rfl, ⟨by decide, by decide, by decide⟩, _, _, rfl, rfl, _, rfl, _, _, rfl, rfl, wide_div hpos hlt (by decide) (by decide), ?_⟩
      refine ⟨_, rfl, _, _, rfl, rfl, _, rfl, ?_⟩
      refine ite2 (fun _ => ?_) (fun _ => ?_)
      · exact ⟨_, rfl, .inl ⟨_, rfl, _, _, rfl, rfl, (by show (0 : Int) < 1009; decide), .inl ⟨_, rfl, _, rfl, _, _, rfl, rfl, hb, res _ _ (Same.refl H2)⟩⟩⟩
      · have c0 : 0 ≤ c % 1000003 := Int.emod_nonneg _ (by decide)
        have c1 : c % 1000003 < 1000003 := Int.emod_lt_of_pos _ (by decide)
        refine ⟨_, rfl, .inl ⟨_, rfl, _, _, rfl, rfl, (by show (0 : Int) < 1000003; decide), ?_⟩⟩
        refine ⟨_, rfl, _, rfl, _, _, rfl, rfl, .inl ⟨by decide, by decide⟩, _, _, rfl, rfl, ?_⟩
        refine ⟨_, rfl, _, rfl, _, _, rfl, rfl, .inl ⟨by decide, by decide⟩, _, _, rfl, rfl, _, _, rfl, rfl, ?_⟩
        refine ⟨_, _, rfl, rfl, wide_mul (a := 30) (b := 30) (by omega) (by omega) (by decide) (by decide) (by decide), ?_⟩
        refine ⟨_, rfl, .inl ⟨_, rfl, _, _, rfl, rfl, (by show (0 : Int) < 9; decide), _, _, rfl, rfl, ?_⟩⟩
        refine ⟨_, _, 999983, rfl, by decide, fun r H' s' _ _ => .inl ⟨_, rfl, _, rfl, _, _, rfl, rfl, hb, res _ _ s'⟩⟩
theorem ok_next (F : FnS K "_law_next" "_law_next" sNext f fd) (g : Gs mg) (cc : Cal P w K mg base CX0 1 "_law_cell_at" nCell (spCellAt K)) (cn : Cal P w K mg base CX0 2 "_law_number" ["_law_cell", "_law_k", "_law_bound"] spNumb) : FnOk P w K mg base CX0 3 f fd ["_law_draw_here", "_law_bound"] (spNext K) := by
  refine F.ok scNext (fun vs H Q E h => ?_) (fun cdv A outer s H vs Q E hr h => ⟨_, PSs.nox (pss_cons
    (ps_asg (pe_op op_add (pe_ix ix_list (pv 0) pe_int (fun _ _ => rfl)) pe_int) (pg_sub (pv 0) pe_int set_list))
    (pss_cons (ps_set (i := 2) scNext.nd rfl (Or.inl rfl) (pe_op op_fdiv (pe_ix ix_list (pv 0) pe_int (fun _ _ => rfl)) pe_int))
    (pss_cons (ps_set (i := 3) scNext.nd rfl (Or.inl rfl) (pe_op op_add (pe_c cc (hr.mono (by decide)) rfl pass0 (pa_cons (pe_ix ix_list (pv 0) pe_int (fun _ _ => rfl)) (pa_cons (pe_op op_add (pe_ix ix_list (pv 0) pe_int (fun _ _ => rfl)) (pv 2)) pa_nil))) (pe_op op_mul pe_int (pv 2))))
    (pss_one (ps_ret (pe_c cn hr rfl pass0 (pa_cons (pv 3) (pa_cons (pe_op op_add (pe_op op_mod (pe_callTy call_int1 rfl g.int boot_int (pa_cons (pe_ix ix_list (pv 0) pe_int (fun _ _ => rfl)) pa_nil)) pe_int) pe_int) (pa_cons (pv 1) pa_nil))))))))), ?_⟩)
  · obtain ⟨d, sc, ns, b, rfl, _⟩ := h
    rfl
  · obtain ⟨d, sc, ns, b, rfl, ⟨b0, k, hd, hs, nsd, hb0, hk⟩, hb, q⟩ := h
    have e0 : atI ([.ref sc, .int b0, .int (k + 1)] : List V) 0 = some (.ref sc) := atI_nat (j := 0) rfl
    have e1 : atI ([.ref sc, .int b0, .int (k + 1)] : List V) 1 = some (.int b0) := atI_nat (j := 1) rfl
    have e2 : atI ([.ref sc, .int b0, .int (k + 1)] : List V) 2 = some (.int (k + 1)) := atI_nat (j := 2) rfl
    refine ⟨_, rfl, d, _, 2, _, rfl, rfl, .of hd, atI_nat (j := 2) rfl, _, _, rfl, rfl, _, rfl, d, _, 2, 2, rfl, rfl, hd, rfl, ?_⟩
    have s1 : But d H (upd H d (.lst [.ref sc, .int b0, .int (k + 1)])) := fun c o e n => by rw [upd_ne n]; exact e
    have hd1 : (upd H d (.lst [.ref sc, .int b0, .int (k + 1)])) d = some (.lst [.ref sc, .int b0, .int (k + 1)]) := upd_same
    refine ⟨_, rfl, d, _, 2, _, rfl, rfl, .of hd1, e2, _, _, rfl, rfl, ⟨by decide, by decide⟩, ?_⟩
    have q0 : 0 ≤ (k + 1) / 12 := Int.ediv_nonneg (by omega) (by decide)
    refine ⟨_, rfl, d, _, 0, _, rfl, rfl, .of hd1, e0, _, rfl, d, _, 1, _, rfl, rfl, .of hd1, e1, _, rfl, _, _, rfl, rfl, ?_⟩
    refine ⟨sc, ns, _, rfl, s1.seq hs nsd, by omega, fun i => ⟨_, rfl, _, _, rfl, rfl, .inl ⟨by decide, by decide⟩, _, _, rfl, rfl, ?_⟩⟩
    have m0 : 0 ≤ (k + 1) % 12 := Int.emod_nonneg _ (by decide)
    have m1 : (k + 1) % 12 < 12 := Int.emod_lt_of_pos _ (by decide)
    refine ⟨_, rfl, _, rfl, d, _, 2, _, rfl, rfl, .of hd1, e2, .inl ⟨_, rfl, _, _, rfl, rfl, (by show (0 : Int) < 12; decide), _, _, rfl, rfl, _, rfl, ?_⟩⟩
    refine ⟨_, _, b, rfl, by omega, by omega, hb, fun r H' s' h0 h1 => q r H' (s1.trans (s'.but d)) ⟨b0, k + 1, s' _ _ hd1, s'.seq (s1.seq hs nsd), nsd, hb0, by omega⟩ h0 h1⟩
theorem ok_pick (F : FnS K "_law_pick" "_law_pick" sPick f fd) (g : Gs mg) (cn : Cal P w K mg base CX0 3 "_law_next" ["_law_draw_here", "_law_bound"] (spNext K)) : FnOk P w K mg base CX0 4 f fd nPick (spPick K) := by
  refine F.ok scPick (fun vs H Q E h => ?_) (fun cdv A outer s H vs Q E hr h => ⟨_, PSs.nox (pss_one (ps_ret
    (pe_ix ix_list (pv 1) (pe_c cn hr rfl pass0 (pa_cons (pv 0) (pa_cons (pe_callB call_len rfl g.len boot_len (pa_cons (pv 1) pa_nil)) pa_nil))) (fun _ _ => rfl)))), ?_⟩)
  · obtain ⟨d, l, sc, ns, xs, rfl, _⟩ := h
    rfl
  · obtain ⟨d, l, sc, ns, xs, rfl, hD, hl, nld, hne, q⟩ := h
    have hpos : 0 < xs.length := List.length_pos_iff.mpr hne
    refine ⟨_, rfl, _, rfl, _, rfl, _, xs.length, rfl, .inl ⟨xs, .of hl, rfl⟩, d, sc, ns, _, rfl, hD, by omega, fun r H' s' D' h0 h1 => ?_⟩
    obtain ⟨j, rfl⟩ := Int.eq_ofNat_of_zero_le h0
    have hj : j < xs.length := by omega
    exact ⟨l, xs, _, _, rfl, rfl, .of (s' _ _ hl nld), atI_nat (List.getElem?_eq_getElem hj), q _ _ (List.getElem_mem hj) s' D'⟩
end
end Lk
/-! drawn marks; places; the mark of a place -/
namespace Lk
open PySem PySem.Spec PyProof.Rows L2
/-- marks as a pair of tuples -/
def MkT (H : Hp) (m : Addr) (cs rs : List V) : Prop := ∃ ca ra, H m = some (.tup [.ref ca, .ref ra]) ∧ H ca = some (.tup cs) ∧ H ra = some (.tup rs)
theorem MkT.same {H H' : Hp} {m : Addr} {cs rs : List V} (s : Same H H') (h : MkT H m cs rs) : MkT H' m cs rs := by
  obtain ⟨ca, ra, h1, h2, h3⟩ := h
  exact ⟨ca, ra, s _ _ h1, s _ _ h2, s _ _ h3⟩
def itemsV : List V := [.non, .int 0, .int 1, .int 2, .int 9]
theorem items_held : ∀ x ∈ itemsV, heldB x 9 = true := by
  intro x hx
  have hx : x = .non ∨ x = .int 0 ∨ x = .int 1 ∨ x = .int 2 ∨ x = .int 9 := by simpa [itemsV] using hx
  rcases hx with h | h | h | h | h <;> subst h <;> decide
theorem But.free {d : Addr} {H H' : Hp} (s : But d H H') {l : Addr} (h : H' l = none) (n : l ≠ d) : H l = none := by
  cases q : H l with
  | none => rfl
  | some o =>
    rw [s l o q n] at h
    cases h
theorem But.upd {d : Addr} {H1 H : Hp} {D : Addr} {o : HO} (s : But d H1 H) (n : H1 D = none) : But d H1 (upd H D o) := fun b u e nb => by
  rw [upd_ne (ne_of_none e n)]
  exact s b u e nb
theorem Dr.ne {K : PySem.W.Frag} {H : Hp} {d sc l : Addr} {ns : List Int} (h : Dr K H d sc ns) (n : H l = none) : l ≠ d := fun z => by
  obtain ⟨_, _, e, _⟩ := h
  rw [z, e] at n
  cases n
theorem Dr.upd {K : PySem.W.Frag} {H : Hp} {d sc l : Addr} {ns : List Int} {o : HO} (h : Dr K H d sc ns) (n : H l = none) : Dr K (upd H l o) d sc ns := ((Same.refl H).upd n).dr h
/-- a place that was free at first is stored into -/
theorem Dr.put {K : PySem.W.Frag} {H0 H : Hp} {d sc l : Addr} {ns : List Int} {o : HO} (h0 : Dr K H0 d sc ns) (b : But d H0 H) (h : Dr K H d sc ns) (n : H0 l = none) : Dr K (L2.upd H l o) d sc ns := by
  obtain ⟨b1, k1, a1, a2, a3, a4, a5⟩ := id h
  obtain ⟨_, _, _, c2, c3, _⟩ := id h0
  exact ⟨b1, k1, by rw [upd_ne (h0.ne n).symm]; exact a1, (b.upd n).seq c2 c3, a3, a4, a5⟩
/-- a comprehension of n draws -/
theorem draws_rd {K : PySem.W.Frag} {d l sc : Addr} {ns : List Int} {σ : L2.St} {H1 : Hp} {D : Addr} {vs : List Nat} {j n : Nat} {Qd : Hp → Prop} (hD : Dr K H1 d sc ns) (hl : H1 l = some (.lst itemsV)) (nld : l ≠ d) (nD : H1 D = none) (hn : n ≤ 1000) (hw : ∀ v, wipe ((wipe σ vs).set j (some v)) vs = wipe σ vs)
    (h0 : ∀ v, ((wipe σ vs).set j (some v))[0]? = some (some (.ref d))) (h1 : ∀ v, ((wipe σ vs).set j (some v))[1]? = some (some (.ref l)))
    (hd : ∀ H acc, But d H1 H → Dr K H d sc ns → H D = some (.lst acc) → acc.length = n → (∀ x ∈ acc, x ∈ itemsV) → Qd H) :
    ∃ W : Nat → Nat → Hp → Prop, (∃ m, W 0 m (upd H1 D (.lst []))) ∧ ∀ i m H, W i m H →
      ((Itr 0 n).stop i H ∧ Qd H) ∨ ((Itr 0 n).go i H ∧ ∃ Nx : Hp → Prop, (∀ H', Nx H' → ∃ m', m' < m ∧ W (i + 1) m' H') ∧ ∀ x H', (Itr 0 n).yld i H x H' → gName j x (wipe σ vs) H' fun σ2 H2 => wipe σ2 vs = wipe σ vs ∧ tYes σ2 H2 fun b H3 =>
        if b = true then tCall (spPick K) [] E0 (tCons (tVar 0) (tCons (tVar 1) tNil)) σ2 H3 fun y H4 => ∃ acc, H4 D = some (.lst acc) ∧ acc.length < sizeLine ∧ Nx (upd H4 D (.lst (acc ++ [y]))) else Nx H3) := by
  have ndD : D ≠ d := hD.ne nD
  refine lc_range (n := n) (fun i H => ∃ acc, But d H1 H ∧ Dr K H d sc ns ∧ H D = some (.lst acc) ∧ acc.length = i ∧ ∀ x ∈ acc, x ∈ itemsV) ⟨[], (But.refl d H1).upd nD, hD.upd nD, upd_same, rfl, fun x hx => by cases hx⟩ (fun i H hi ⟨acc, b, hd', e, el, hm⟩ => ⟨hw _, ?_⟩) fun H ⟨acc, b, hd', e, el, hm⟩ => hd H acc b hd' e el hm
  refine yes_rd ⟨_, h0 _, _, h1 _, d, l, sc, ns, itemsV, rfl, hd', b _ _ hl nld, nld, by decide, fun x H' hx b' D' => ?_⟩
  refine ⟨acc, b' _ _ e ndD, small1000 (by omega), acc ++ [x], (b.trans b').upd nD, hD.put (b.trans b') D' nD, upd_same, by rw [List.length_append, el]; rfl, fun y hy => ?_⟩
  rcases List.mem_append.mp hy with h | h
  · exact hm y h
  · rw [List.mem_singleton.mp h]
    exact hx
theorem drawn_am {acc : List V} {n : Nat} {m : Int} (h : acc.length = n) (h1 : 1 ≤ n) (h2 : (n : Int) ≤ m) (hm : ∀ x ∈ acc, x ∈ itemsV) : amB acc m = true := by
  unfold amB
  rw [h, decide_eq_true h1, decide_eq_true h2, Bool.true_and, Bool.true_and]
  exact List.all_eq_true.mpr fun x hx => items_held x (hm x hx)
def spSome (K : PySem.W.Frag) : Sp := fun vs H Q _ => ∃ d sc ns, vs = [.ref d] ∧ Dr K H d sc ns ∧ ∀ H' m cs rs, But d H H' → Dr K H' d sc ns → MkT H' m cs rs → Gm cs rs → m ≠ d → Q (.ref m) H'
section
variable {P : Program} {w : World} {K : PySem.W.Frag} {mg : Str → Option Value} {base : Heap} {f : Addr} {fd : FuncData}
theorem ok_some (F : FnS K "_law_some_marks" "_law_some_marks" sSome f fd) (g : Gs mg) (cn : Cal P w K mg base CX0 3 "_law_next" ["_law_draw_here", "_law_bound"] (spNext K)) (cp : Cal P w K mg base CX0 4 "_law_pick" nPick (spPick K)) : FnOk P w K mg base CX0 5 f fd ["_law_draw_here"] (spSome K) := by
  refine F.ok scSome (fun vs H Q E h => ?_) (fun cdv A outer s H vs Q E hr h => ⟨_, PSs.nox (pss_cons
    (ps_set (i := 1) scSome.nd rfl (Or.inr rfl) (pe_lst (pa_cons pe_non (pa_cons pe_int (pa_cons pe_int (pa_cons pe_int (pa_cons pe_int pa_nil)))))))
    (pss_cons (ps_set (i := 2) scSome.nd rfl (Or.inl rfl) (pe_callTy call_tuple_of rfl g.tuple (by decide +kernel) (pa_cons
      (pe_lc (own := [("_law_turn", 3)]) (g := gName 3) (tt := tYes) rfl scSome.nd (pi_range1 rfl g.range (pa_cons (pe_op op_add pe_int (pe_c cn (hr.mono (by decide)) rfl pass0 (pa_cons (pv 0) (pa_cons pe_int pa_nil)))) pa_nil)) (blkOk_by (N := nSome) (sc := defScope sSome) (by decide +kernel)) (fun _ _ _ _ _ => pg_name (i := 3) scSome.nd rfl (Or.inl rfl)) (fun _ _ _ _ _ => pts_nil)
        (fun _ _ _ _ _ => pe_c cp hr rfl pass0 (pa_cons (pv 0) (pa_cons (pv 1) pa_nil)))) pa_nil)))
    (pss_one (ps_ret (pe_tup (pa_cons (pv 2) (pa_cons (pe_callTy call_tuple_of rfl g.tuple (by decide +kernel) (pa_cons
      (pe_lc (own := [("_law_turn", 3)]) (g := gName 3) (tt := tYes) rfl scSome.nd (pi_range1 rfl g.range (pa_cons (pe_op op_add pe_int (pe_c cn (hr.mono (by decide)) rfl pass0 (pa_cons (pv 0) (pa_cons pe_int pa_nil)))) pa_nil)) (blkOk_by (N := nSome) (sc := defScope sSome) (by decide +kernel)) (fun _ _ _ _ _ => pg_name (i := 3) scSome.nd rfl (Or.inl rfl)) (fun _ _ _ _ _ => pts_nil)
        (fun _ _ _ _ _ => pe_c cp hr rfl pass0 (pa_cons (pv 0) (pa_cons (pv 1) pa_nil)))) pa_nil)) pa_nil))))))), ?_⟩)
  · obtain ⟨d, sc, ns, rfl, _⟩ := h
    rfl
  · obtain ⟨d, sc, ns, rfl, hD, q⟩ := h
    refine ⟨by decide, fun l nl => ?_⟩
    have nld := hD.ne nl
    have b0 : But d H (upd H l (.lst itemsV)) := (But.refl d H).upd nl
    have D0 : Dr K (upd H l (.lst itemsV)) d sc ns := hD.upd nl
    have hl0 : (upd H l (.lst itemsV)) l = some (.lst itemsV) := upd_same
    show tSeq _ _ _ _ (upd H l (.lst itemsV))
    generalize upd H l (.lst itemsV) = H0 at b0 D0 hl0 ⊢
    refine ⟨_, rfl, d, sc, ns, 2, rfl, D0, by decide, fun r H1 b1 D1 r0 r1 => ?_⟩
    refine ⟨1, r, rfl, rfl, 1 + r, rfl, by omega, by omega, fun L1 n1 => ?_⟩
    refine draws_rd D1 (b1 _ _ hl0 nld) nld n1 (by omega) (fun _ => rfl) (fun _ => rfl) (fun _ => rfl) fun H2 cs b2 D2 e2 el2 m2 => ?_
    have nL1 := D1.ne n1
    refine ⟨L1, cs, rfl, .inl ⟨.of e2, fun ca nc => ?_⟩⟩
    have ncd := D2.ne nc
    have b3 : But d H0 (upd H2 ca (.tup cs)) := (b1.trans b2).trans ((But.refl d H2).upd nc)
    have D3 := D2.upd nc (o := .tup cs)
    have hc3 : (upd H2 ca (.tup cs)) ca = some (.tup cs) := upd_same
    generalize upd H2 ca (.tup cs) = H3 at b3 D3 hc3 ⊢
    refine ⟨_, rfl, _, rfl, d, sc, ns, 3, rfl, D3, by decide, fun r' H4 b4 D4 r0' r1' => ?_⟩
    refine ⟨1, r', rfl, rfl, 1 + r', rfl, by omega, by omega, fun L2 n2 => ?_⟩
    refine draws_rd D4 (b4 _ _ (b3 _ _ hl0 nld) nld) nld n2 (by omega) (fun _ => rfl) (fun _ => rfl) (fun _ => rfl) fun H5 rs b5 D5 e5 el5 m5 => ?_
    refine ⟨L2, rs, rfl, .inl ⟨.of e5, fun ra nr => ?_⟩⟩
    refine ⟨by show 2 ≤ sizeLine; decide, fun m nm => ?_⟩
    have b6 := (But.refl d H5).upd nr (o := .tup rs)
    have b7 := (But.refl d (upd H5 ra (.tup rs))).upd nm (o := .tup [.ref ca, .ref ra])
    have D6 := (D5.upd nr (o := .tup rs)).upd nm (o := .tup [.ref ca, .ref ra])
    have nmd := (D5.upd nr (o := .tup rs)).ne nm
    have nrd := D5.ne nr
    refine q _ m cs rs (b0.trans (b3.trans (b4.trans (b5.trans (b6.trans b7))))) D6 ⟨ca, ra, upd_same, b7 _ _ (b6 _ _ (b5 _ _ (b4 _ _ hc3 ncd) ncd) ncd) ncd, b7 _ _ upd_same nrd⟩ ⟨drawn_am el2 (by omega) (by omega) m2, drawn_am el5 (by omega) (by omega) m5⟩ nmd
end
/-! ### places, the mark of a place -/
def hasN (nc nr : Nat) (x : V) : Bool := match x with
  | .int i => decide (0 ≤ i) && decide (i.toNat < nc)
  | .str z => (match regIx z with | some i => decide (i < nr) | none => false)
  | _ => false
theorem some_hasN {cs rs : List V} {x : V} : (mkOf cs rs x).isSome = hasN cs.length rs.length x := by
  cases x with
  | int i =>
    show (if (0 : Int) ≤ i then cs[i.toNat]? else none).isSome = (decide (0 ≤ i) && decide (i.toNat < cs.length))
    by_cases h : (0 : Int) ≤ i
    · rw [if_pos h, decide_eq_true h, Bool.true_and]
      by_cases h2 : i.toNat < cs.length
      · rw [List.getElem?_eq_getElem h2, decide_eq_true h2]
        rfl
      · rw [List.getElem?_eq_none (by omega), decide_eq_false h2]
        rfl
    · rw [if_neg h, decide_eq_false h]
      rfl
  | str z =>
    show ((regIx z).bind fun i => rs[i]?).isSome = (match regIx z with | some i => decide (i < rs.length) | none => false)
    cases regIx z with
    | none => rfl
    | some i =>
      show (rs[i]?).isSome = decide (i < rs.length)
      by_cases h2 : i < rs.length
      · rw [List.getElem?_eq_getElem h2, decide_eq_true h2]
        rfl
      · rw [List.getElem?_eq_none (by omega), decide_eq_false h2]
        rfl
  | _ => rfl
/-- the places of marks -/
def plF (cs rs : List V) : List V := pl5.filter fun x => (mkOf cs rs x).isSome
theorem plF_eq (cs rs : List V) : plF cs rs = pl5.filter (hasN cs.length rs.length) := by
  unfold plF
  congr 1
  funext x
  exact some_hasN
theorem pl_fin : ∀ nc ∈ ([1, 2] : List Nat), ∀ nr ∈ ([1, 2, 3] : List Nat), rgV 0 (nc : Int) ++ (cutS "abc" none (some (nr : Int))).cps.toList.map sgn = pl5.filter (hasN nc nr) ∧ (cutS "abc" none (some (nr : Int))).length ≤ 5 := by decide +kernel
theorem pl_of {cs rs : List V} (g : Gm cs rs) : rgV 0 (cs.length : Int) ++ (cutS "abc" none (some (rs.length : Int))).cps.toList.map sgn = plF cs rs ∧ (cutS "abc" none (some (rs.length : Int))).length ≤ 5 := by
  obtain ⟨l1, l2, l3, l4⟩ := g.len
  rw [plF_eq]
  exact pl_fin cs.length (by have : cs.length = 1 ∨ cs.length = 2 := by omega
                             rcases this with h | h <;> rw [h] <;> decide) rs.length (by have : rs.length = 1 ∨ rs.length = 2 ∨ rs.length = 3 := by omega
                                                                                         rcases this with h | h | h <;> rw [h] <;> decide)
def spPlaces : Sp := fun vs H Q _ => ∃ m cs rs, vs = [.ref m] ∧ MkT H m cs rs ∧ Gm cs rs ∧ ∀ H' l, Same H H' → H l = none → H' l = some (.lst (plF cs rs)) → Q (.ref l) H'
def spMarkAt : Sp := fun vs H Q _ => ∃ m x cs rs v, vs = [.ref m, x] ∧ MkT H m cs rs ∧ mkOf cs rs x = some v ∧ Q v H
theorem mk_cases {cs rs : List V} {x v : V} (e : mkOf cs rs x = some v) : (∃ i : Nat, x = .int (i : Nat) ∧ cs[i]? = some v) ∨ ∃ (z : Str) (i : Nat), x = .str z ∧ regIx z = some i ∧ rs[i]? = some v := by
  cases x with
  | int i =>
    have e : (if (0 : Int) ≤ i then cs[i.toNat]? else none) = some v := e
    by_cases h : (0 : Int) ≤ i
    · rw [if_pos h] at e
      obtain ⟨n, rfl⟩ := Int.eq_ofNat_of_zero_le h
      exact .inl ⟨n, rfl, by rw [Int.toNat_natCast] at e; exact e⟩
    · rw [if_neg h] at e
      cases e
  | str z =>
    have e : ((regIx z).bind fun i => rs[i]?) = some v := e
    cases q : regIx z with
    | none => rw [q] at e; cases e
    | some i =>
      rw [q] at e
      exact .inr ⟨z, i, rfl, q, e⟩
  | _ => cases e
theorem at0 {a b : V} : atI [a, b] 0 = some a := atI_nat (j := 0) rfl
theorem at1 {a b : V} : atI [a, b] 1 = some b := atI_nat (j := 1) rfl
section
variable {P : Program} {w : World} {K : PySem.W.Frag} {mg : Str → Option Value} {base : Heap} {f : Addr} {fd : FuncData}
theorem ok_places (F : FnS K "_law_places" "_law_places" sPlaces f fd) (g : Gs mg) : FnOk P w K mg base CX0 1 f fd nPlaces spPlaces := by
  refine F.ok scPlaces (fun vs H Q E h => ?_) (fun cdv A outer s H vs Q E hr h => ⟨_, PSs.nox (pss_one (ps_ret
    (pe_op op_cat (pe_listRg rfl rfl g.list (prg_1 rfl g.range (pe_callB call_len rfl g.len boot_len (pa_cons (pe_ix ix_tup (pv 0) pe_int (fun _ _ => rfl)) pa_nil))))
      (pe_callTy (call_list_txt rfl) rfl g.list (by decide +kernel) (pa_cons (pe_slice sl_str pe_str po_none (po_some (pe_callB call_len rfl g.len boot_len (pa_cons (pe_ix ix_tup (pv 0) pe_int (fun _ _ => rfl)) pa_nil)))) pa_nil))))), ?_⟩)
  · obtain ⟨m, cs, rs, rfl, _⟩ := h
    rfl
  · obtain ⟨m, cs, rs, rfl, ⟨ca, ra, hm, hc, hrr⟩, gm, q⟩ := h
    obtain ⟨e1, e2⟩ := pl_of gm
    obtain ⟨l1, l2, l3, l4⟩ := gm.len
    refine ⟨_, rfl, m, _, 0, _, rfl, rfl, .of hm, at0, _, cs.length, rfl, .inr ⟨cs, .of hc, rfl⟩, _, rfl, RgOk.of_le (by decide) (by omega) (by decide) (by omega), fun p np => ?_⟩
    have s1 : Same H (upd H p (.lst (rgV 0 (cs.length : Int)))) := (Same.refl H).upd np
    refine ⟨_, rfl, m, _, 1, _, rfl, rfl, .of (s1 _ _ hm), at1, _, rs.length, rfl, .inr ⟨rs, .of (s1 _ _ hrr), rfl⟩, _, rfl, "abc", rfl, abc_len, _, rfl, Nat.le_trans e2 (by decide), fun p2 np2 => ?_⟩
    have s2 := s1.upd (s1.free np2) (o := .lst ((cutS "abc" none (some (rs.length : Int))).cps.toList.map sgn))
    refine ⟨p, p2, rgV 0 (cs.length : Int), _, rfl, rfl, ?_, upd_same, ?_, fun p3 np3 => ?_⟩
    · exact ((Same.refl _).upd np2) _ _ upd_same
    · have := congrArg List.length e1
      rw [List.length_append] at this
      rw [this]
      exact Nat.le_trans (List.length_filter_le _ _) (by decide)
    · rw [e1]
      exact q _ p3 (s2.upd (s2.free np3)) (s2.free np3) upd_same
theorem ok_markAt (F : FnS K "_law_mark_at" "_law_mark_at" sMarkAt f fd) (g : Gs mg) : FnOk P w K mg base CX0 1 f fd nMarkAt spMarkAt := by
  refine F.ok scMarkAt (fun vs H Q E h => ?_) (fun cdv A outer s H vs Q E hr h => ⟨_, PSs.nox (pss_one (ps_ret
    (pe_ifExp (pt_val (pe_callB call_isi rfl g.isi (by decide +kernel) (pa_cons (pv 1) (pa_cons (pe_bltn (v := .ty "str") rfl g.str (by decide +kernel) rfl) pa_nil))))
      (pe_ix ix_tup (pe_ix ix_tup (pv 0) pe_int (fun _ _ => rfl)) (pe_bm PySem.F.plainAttrs_str PySem.F.slot_str_index PySem.F.type_str_index mt_sindex pe_str (pa_cons (pv 1) pa_nil)) (fun _ _ => rfl))
      (pe_ix ix_tup (pe_ix ix_tup (pv 0) pe_int (fun _ _ => rfl)) (pv 1) (fun _ _ => rfl))))), ?_⟩)
  · obtain ⟨m, x, cs, rs, v, rfl, _⟩ := h
    rfl
  · obtain ⟨m, x, cs, rs, v, rfl, ⟨ca, ra, hm, hc, hrr⟩, e, q⟩ := h
    rcases mk_cases e with ⟨i, rfl, ei⟩ | ⟨z, i, rfl, ez, ei⟩
    · refine ⟨_, rfl, _, .ty "str", .type "int", .type "str", false, rfl, .ty _, .base (.int _), kit_ty (by decide +kernel), _, rfl, ?_⟩
      exact iteF ⟨_, rfl, m, _, 0, _, rfl, rfl, .of hm, at0, _, rfl, ca, cs, _, v, rfl, rfl, .of hc, atI_nat ei, q⟩
    · refine ⟨_, rfl, _, .ty "str", .type "str", .type "str", true, rfl, .ty _, .base (.str _), kit_ty (by decide +kernel), _, rfl, ?_⟩
      exact iteT ⟨_, rfl, m, _, 1, _, rfl, rfl, .of hm, at1, rfl, _, rfl, _, z, i, [], rfl, rfl, occ_ix ez, ra, rs, _, v, rfl, rfl, .of hrr, atI_nat ei, q⟩
end
end Lk
/-! what _law_one_right asks: finite facts, data; the methods in one bundle -/
namespace Lk
open PySem PySem.Spec PyProof.Rows L2
def lit12 : List V := [.int 0, .int 1, .int 2, .int (-1), .bl true, .str "a", .str "b", .str "c", .str "d", .str "", .str "ab", .non]
theorem one_fin : ∀ nc ∈ ([1, 2] : List Nat), ∀ nr ∈ ([1, 2, 3] : List Nat), ∀ x ∈ lit12, (((pl5.filter (hasN nc nr)).map dOf).any (fun z => PyData.eqv z (dOf x)) && !isB x) = hasN nc nr x := by decide +kernel
theorem one_tup : ∀ nc ∈ ([1, 2] : List Nat), ∀ nr ∈ ([1, 2, 3] : List Nat), ((pl5.filter (hasN nc nr)).map dOf).any (fun z => PyData.eqv z (.tuple [.int 0])) = false ∧ (pl5.filter (hasN nc nr)).length = nc + nr := by decide +kernel
theorem lit_sh : ∀ x ∈ lit12, SeqAt.shaped (dOf x) = true := by decide +kernel
theorem pl5_smp : ∀ x ∈ pl5, smp x = true := by decide +kernel
theorem plF_smp {cs rs : List V} : ∀ x ∈ plF cs rs, smp x = true := fun x hx => pl5_smp x ((List.mem_filter.mp hx).1)
theorem Gm.mem {cs rs : List V} (g : Gm cs rs) : cs.length ∈ ([1, 2] : List Nat) ∧ rs.length ∈ ([1, 2, 3] : List Nat) := by
  obtain ⟨l1, l2, l3, l4⟩ := g.len
  have h1 : cs.length = 1 ∨ cs.length = 2 := by omega
  have h2 : rs.length = 1 ∨ rs.length = 2 ∨ rs.length = 3 := by omega
  exact ⟨by simpa using h1, by simpa using h2⟩
theorem one12 {cs rs : List V} (g : Gm cs rs) {x : V} (h : x ∈ lit12) : (((plF cs rs).map dOf).any (fun z => PyData.eqv z (dOf x)) && !isB x) = (mkOf cs rs x).isSome := by
  rw [plF_eq, some_hasN]
  exact one_fin _ g.mem.1 _ g.mem.2 x h
theorem oneT {cs rs : List V} (g : Gm cs rs) : ((plF cs rs).map dOf).any (fun z => PyData.eqv z (.tuple [.int 0])) = false := by
  rw [plF_eq]
  exact (one_tup _ g.mem.1 _ g.mem.2).1
theorem plF_len {cs rs : List V} (g : Gm cs rs) : (plF cs rs).length = cs.length + rs.length := by
  rw [plF_eq]
  exact (one_tup _ g.mem.1 _ g.mem.2).2
theorem plF_has {cs rs : List V} {x : V} (h : x ∈ plF cs rs) : ∃ v, mkOf cs rs x = some v := Option.isSome_iff_exists.mp (List.mem_filter.mp h).2
theorem plF_ok {H : Hp} {cs rs : List V} {x : V} (h : x ∈ plF cs rs) : Kd H x ∧ TxtOk x := pl5_ok x ((List.mem_filter.mp h).1)
theorem plF_own {cs rs : List V} : (plF cs rs).filter (fun x => decide ((mkOf cs rs x).getD .non = .non)) = pl5.filter (ownF cs rs) := by
  unfold plF
  rw [List.filter_filter]
  congr 1
  funext x
  unfold ownF
  cases mkOf cs rs x with
  | none => rfl
  | some v =>
    show (decide (v = .non) && true) = decide (some v = some V.non)
    rw [Bool.and_true]
    exact decide_eq_decide.mpr ⟨fun z => by rw [z], fun z => Option.some.inj z⟩
theorem txt12 : ∀ x ∈ lit12, ∀ z, x = .str z → z ∈ txts := by
  intro x hx z e
  subst e
  have : ∀ y ∈ lit12, (match y with | .str z => decide (z ∈ txts) | _ => true) = true := by decide +kernel
  exact of_decide_eq_true (this _ hx)
theorem kd12 {H : Hp} : ∀ x ∈ lit12, Kd H x := by
  intro x hx
  cases x with
  | non => exact .non
  | bl b => exact .bl b
  | int i => exact .int i
  | str z => exact .str z
  | _ => simp [lit12] at hx
theorem dp12 {K : PySem.W.Frag} {H : Hp} : ∀ x ∈ lit12, Dp K H x (dOf x) := by
  intro x hx
  cases x with
  | non => exact .non
  | bl b => exact .bl b
  | int i => exact .int i
  | str z => exact .str z
  | _ => simp [lit12] at hx
/-- two tuples of simple values, in a tuple -/
theorem sh2 {xs ys : List V} (hx : ∀ x ∈ xs, smp x = true) (hy : ∀ x ∈ ys, smp x = true) : PyData.canLayAll0 [.tuple (xs.map dOf), .tuple (ys.map dOf)] = true ∧ PyData.depthAll [.tuple (xs.map dOf), .tuple (ys.map dOf)] = 1 := by
  obtain ⟨a1, a2⟩ := can_smp hx
  obtain ⟨b1, b2⟩ := can_smp hy
  refine ⟨?_, ?_⟩
  · show (PyData.canLayAll0 (xs.map dOf) && (PyData.canLayAll0 (ys.map dOf) && true)) = true
    rw [a1, b1]
    rfl
  · show max (PyData.depthAll (xs.map dOf) + 1) (max (PyData.depthAll (ys.map dOf) + 1) 0) = 1
    rw [a2, b2]
    rfl
theorem sh3 {xs ys : List V} {n : Int} (hx : ∀ x ∈ xs, smp x = true) (hy : ∀ x ∈ ys, smp x = true) : PyData.canLayAll0 [.tuple (xs.map dOf), .tuple (ys.map dOf), .int n] = true ∧ PyData.depthAll [.tuple (xs.map dOf), .tuple (ys.map dOf), .int n] = 1 := by
  obtain ⟨a1, a2⟩ := can_smp hx
  obtain ⟨b1, b2⟩ := can_smp hy
  refine ⟨?_, ?_⟩
  · show (PyData.canLayAll0 (xs.map dOf) && (PyData.canLayAll0 (ys.map dOf) && (true && true))) = true
    rw [a1, b1]
    rfl
  · show max (PyData.depthAll (xs.map dOf) + 1) (max (PyData.depthAll (ys.map dOf) + 1) (max 0 0)) = 1
    rw [a2, b2]
    rfl
/-- pairs of such tuples: != and == -/
theorem eq_pairs {K : PySem.W.Frag} {H : Hp} {a b c1 r1 c2 r2 : Addr} {cs rs cs' rs' : List V} {Q : VK} (ha : SqT K H a [.ref c1, .ref r1]) (hb : SqT K H b [.ref c2, .ref r2]) (e1 : SqT K H c1 cs) (e2 : SqT K H r1 rs) (e3 : SqT K H c2 cs') (e4 : SqT K H r2 rs')
    (s1 : ∀ x ∈ cs, smp x = true) (s2 : ∀ x ∈ rs, smp x = true) (s3 : ∀ x ∈ cs', smp x = true) (s4 : ∀ x ∈ rs', smp x = true) (q : Q (.bl (decide (cs = cs') && decide (rs = rs'))) H) : rEqD K (.ref a) (.ref b) H Q := by
  refine ⟨_, _, .tup ha (.cons (.tup e1 (dpAll_smp s1)) (.cons (.tup e2 (dpAll_smp s2)) .nil)), .tup hb (.cons (.tup e3 (dpAll_smp s3)) (.cons (.tup e4 (dpAll_smp s4)) .nil)), shaped_t (sh2 s1 s2).1 (sh2 s1 s2).2 (by decide), shaped_t (sh2 s3 s4).1 (sh2 s3 s4).2 (by decide), ?_⟩
  show Q (.bl (PyData.eqvAll (cs.map dOf) (cs'.map dOf) && (PyData.eqvAll (rs.map dOf) (rs'.map dOf) && true))) H
  rw [eqvAll_smp s1 s3, eqvAll_smp s2 s4, Bool.and_true]
  exact q
theorem ne_pairs {K : PySem.W.Frag} {H : Hp} {a b c1 r1 c2 r2 : Addr} {cs rs cs' rs' : List V} {Q : VK} (ha : SqT K H a [.ref c1, .ref r1]) (hb : SqT K H b [.ref c2, .ref r2]) (e1 : SqT K H c1 cs) (e2 : SqT K H r1 rs) (e3 : SqT K H c2 cs') (e4 : SqT K H r2 rs')
    (s1 : ∀ x ∈ cs, smp x = true) (s2 : ∀ x ∈ rs, smp x = true) (s3 : ∀ x ∈ cs', smp x = true) (s4 : ∀ x ∈ rs', smp x = true) (q : Q (.bl (!(decide (cs = cs') && decide (rs = rs')))) H) : rNeD K (.ref a) (.ref b) H Q := by
  refine ⟨_, _, .tup ha (.cons (.tup e1 (dpAll_smp s1)) (.cons (.tup e2 (dpAll_smp s2)) .nil)), .tup hb (.cons (.tup e3 (dpAll_smp s3)) (.cons (.tup e4 (dpAll_smp s4)) .nil)), shaped_t (sh2 s1 s2).1 (sh2 s1 s2).2 (by decide), shaped_t (sh2 s3 s4).1 (sh2 s3 s4).2 (by decide), ?_⟩
  show Q (.bl (!(PyData.eqvAll (cs.map dOf) (cs'.map dOf) && (PyData.eqvAll (rs.map dOf) (rs'.map dOf) && true)))) H
  rw [eqvAll_smp s1 s3, eqvAll_smp s2 s4, Bool.and_true]
  exact q
/-- (columns, registers, n) != the same -/
theorem ne_triples {K : PySem.W.Frag} {H : Hp} {a b c1 r1 c2 r2 : Addr} {cs rs : List V} {n : Int} {Q : VK} (ha : SqT K H a [.ref c1, .ref r1, .int n]) (hb : SqT K H b [.ref c2, .ref r2, .int n]) (e1 : SqT K H c1 cs) (e2 : SqT K H r1 rs) (e3 : SqT K H c2 cs) (e4 : SqT K H r2 rs)
    (s1 : ∀ x ∈ cs, smp x = true) (s2 : ∀ x ∈ rs, smp x = true) (q : Q (.bl false) H) : rNeD K (.ref a) (.ref b) H Q := by
  refine ⟨_, _, .tup ha (.cons (.tup e1 (dpAll_smp s1)) (.cons (.tup e2 (dpAll_smp s2)) (.cons (.int n) .nil))), .tup hb (.cons (.tup e3 (dpAll_smp s1)) (.cons (.tup e4 (dpAll_smp s2)) (.cons (.int n) .nil))), shaped_t (sh3 s1 s2).1 (sh3 s1 s2).2 (by decide), shaped_t (sh3 s1 s2).1 (sh3 s1 s2).2 (by decide), ?_⟩
  show Q (.bl (!(PyData.eqvAll (cs.map dOf) (cs.map dOf) && (PyData.eqvAll (rs.map dOf) (rs.map dOf) && ((n == n) && true))))) H
  rw [eqvAll_smp s1 s1, eqvAll_smp s2 s2, decide_eq_true rfl, decide_eq_true rfl, beq_self_eq_true]
  exact q
/-! ### the class in one bundle -/
structure Pr (P : Program) (w : World) (K : PySem.W.Frag) (mg : Str → Option Value) (base : Heap) (C : Addr) (x : Str) (i : Nat) : Prop where
  ex : ∃ p g, PySem.W.findIn K (.ref C) x = some (some (.ref p)) ∧ PySem.W.specialIn K (.ref p) "__get__" = some (some (.builtin "property.__get__")) ∧ PySem.W.takesIn K (.ref p) = some true ∧ (∃ rest, PySem.W.recIn K p "property" = some (.ref g :: rest)) ∧ FnR P w K mg base CX0 1 g (spProp C i)
structure Ms (P : Program) (w : World) (K : PySem.W.Frag) (mg : Str → Option Value) (base : Heap) (C BM BP fI : Addr) (fdI : FuncData) : Prop where
  I : Ic P w K mg base C BM fI fdI
  bm : ErrC K mg "BadMarks" BM
  bp : ErrC K mg "BadPlace" BP
  con : Dun P w K mg base CX0 2 C "__contains__" (spCon C)
  get : Dun P w K mg base (L2.CX P w) 2 C "__getitem__" (spGet C BP)
  len : Dun P w K mg base CX0 1 C "__len__" (spLen C)
  orr : Dun P w K mg base (L2.CX P w) 6 C "__or__" (spOr C BM)
  xor : Dun P w K mg base CX0 4 C "__xor__" (spXor C)
  inv : Dun P w K mg base CX0 6 C "__invert__" (spInv C)
  eq : Dun P w K mg base CX0 1 C "__eq__" (spEq C)
  own : ∃ g, Meth K C "own" g ∧ FnR P w K mg base CX0 4 g (spOwn C)
  col : Pr P w K mg base C "columns" 0
  rgs : Pr P w K mg base C "registers" 1
  first : PySem.W.selfFirst K C = true
  nfirst : PySem.W.notFirst K C (.ref C) = true
  orT : ∀ T, T = "NoneType" ∨ T = "dict" ∨ T = "list" → ∀ g, PySem.W.findIn K (.ref C) "__or__" = some (some (.ref g)) → BinT K C g .BitOr T
section
variable {X : Cx} {C BP BM fI : Addr} {fdI : FuncData} {a b e : Expr} {ta tb : TE} {pos : Pos}
theorem pe_col (m : Ms X.prog X.w X.K X.mg X.base C BM BP fI fdI) (hr : Room 2 X.A) (he : PE X e ta) (hb : attributeBase e "columns" X.env (eval e X.env) = eval e X.env := by rfl) : PE X (.Attribute e "columns" pos) (SlX.tPropSl C (spProp C 0) E0 ta) := by
  obtain ⟨p, g, h1, h2, h3, h4, F⟩ := m.col.ex
  exact SlX.pe_propSl he m.I.M.c h1 h2 h3 h4 F hr (fun _ _ _ _ h => h.elim) hb
theorem pe_rgs (m : Ms X.prog X.w X.K X.mg X.base C BM BP fI fdI) (hr : Room 2 X.A) (he : PE X e ta) (hb : attributeBase e "registers" X.env (eval e X.env) = eval e X.env := by rfl) : PE X (.Attribute e "registers" pos) (SlX.tPropSl C (spProp C 1) E0 ta) := by
  obtain ⟨p, g, h1, h2, h3, h4, F⟩ := m.rgs.ex
  exact SlX.pe_propSl he m.I.M.c h1 h2 h3 h4 F hr (fun _ _ _ _ h => h.elim) hb
theorem pe_own (m : Ms X.prog X.w X.K X.mg X.base C BM BP fI fdI) (hr : Room 4 X.A) (he : PE X e ta) {apos : Pos} {pl : Sem Bool} (ht : eval (.Call (.Attribute e "own" apos) [] [] pos) X.env = (do
      let ov ← eval e X.env
      standAt apos.atName
      let (f, first) ← holding [ov] (getMethod ov "own" pl)
      callWith pos f first (backTo pos (starEach [] X.env)) (backToKw pos (keywordEach [] X.env))) := by rfl) : PE X (.Call (.Attribute e "own" apos) [] [] pos) (SlX.tMethSl C (spOwn C) E0 ta tNil) := by
  obtain ⟨g, h1, F⟩ := m.own
  exact SlX.pe_methSl0 he m.I.M.c h1 F hr pass0 ht
theorem pe_inv (m : Ms X.prog X.w X.K X.mg X.base C BM BP fI fdI) (hr : Room 6 X.A) (he : PE X e ta) : PE X (.UnaryOp .Invert e pos) (tUn (rInvSl C (spInv C) E0) ta) := by
  obtain ⟨g, h1, h2, h3, F⟩ := m.inv.ex
  exact pe_un (un_invSl h1 h2 F hr pass0) he
theorem pe_lenM {t : TA} {p : Pos} (m : Ms X.prog X.w X.K X.mg X.base C BM BP fI fdI) (hr : Room 2 X.A) (hg : Gl X "len") (hm : X.mg "len" = none) (ha : PA X [e] t) (he : starEach [e] X.env = (false, eval e X.env) :: starEach [] X.env := by rfl) (hpl : (backTo pos (starEach [] X.env)).any (·.1) = false := by rfl) :
    PE X (.Call (.Name "len" p) [e] [] pos) (tCB (rLenSl C (spLen C) E0) t) := by
  obtain ⟨g, h1, h2, h3, F⟩ := m.len.ex
  exact pe_callB (call_lenSl h1 h2 F hr pass0) hg hm boot_len ha (by decide) (by decide) he hpl
/-- o[x], in a try -/
theorem pe_getT {W : WX} (m : Ms X.prog X.w X.K X.mg X.base C BM BP fI fdI) (tk : Takes X W) (hr : Room 3 X.A) (ha : PE X a ta) (hb : PE X b tb) (hs : ∀ o i, subscripted b true o i = runValue (.builtin "lifetime.subscript" ⟨[o, i], []⟩)) :
    PE X (.Subscript a b pos) (tSubSl C (spGet C BP) (WE W) ta tb) := by
  obtain ⟨g, h1, h2, h3, F⟩ := m.get.ex
  exact pe_subSl h1 h2 h3 F hr (fun σ => passAt tk σ) ha hb hs
end
theorem prop_rd {C : Addr} {H : Hp} {a dx : Addr} {x y v : V} {i : Nat} {Q : VK} (h : SlX.Slt H a C dx [some x, some y]) (e : ([some x, some y] : List (Option V))[i]? = some (some v)) (q : Q v H) : ∃ a' dx' vs, V.ref a = .ref a' ∧ SlX.Slt H a' C dx' vs ∧ spProp C i [.ref a'] H Q E0 :=
  ⟨a, dx, _, rfl, h, a, dx, x, y, v, rfl, h, e, q⟩
/-- tuple * n of (None,) -/
theorem rep_rd {K : PySem.W.Frag} {H2 : Hp} {n : Nat} {T : Addr} {R : VK} (h1 : 1 ≤ n) (h3 : n ≤ 3) (hT : H2 T = some (.tup [V.non])) (h : ∀ H3 c, Same H2 H3 → H3 c = some (.tup (List.replicate n V.non)) → R (.ref c) H3) : rRepK K (.ref T) (.int (n : Nat)) H2 R := by
  refine ⟨T, (n : Nat), [V.non], rfl, rfl, .of hT, (fun z => by cases z), by omega, by omega, by decide, fun e => ?_, fun _ p np => ?_⟩
  · have e : n = 1 := by omega
    subst e
    exact h H2 T (Same.refl H2) hT
  · rw [Int.toNat_natCast, rep_flat]
    exact h _ p ((Same.refl H2).upd np) upd_same
theorem smp_rep (n : Nat) : ∀ x ∈ List.replicate n V.non, smp x = true := fun x hx => by rw [List.eq_of_mem_replicate hx]; rfl
end Lk
/-! _law_one_right -/
namespace Lk
open PySem PySem.Spec PyProof.Rows L2
def spOne : Sp := fun vs H Q _ => ∃ d m cs rs, vs = [.ref d, .ref m] ∧ MkT H m cs rs ∧ Gm cs rs ∧ ∀ H', Same H H' → Q (.bl true) H'
/-- make_ok, its end told by the address -/
theorem make_okA {C BM : Addr} {H : Hp} {ca ra : Addr} {cs rs : List V} {Q : Addr → Hp → Prop} {E : XK} (hc : H ca = some (.tup cs)) (hr : H ra = some (.tup rs)) (gm : Gm cs rs) (h : ∀ H' p dx, Same H H' → H p = none → SlX.Slt H' p C dx [some (.ref ca), some (.ref ra)] → Q p H') :
    ∀ p dx, H p = none → H dx = none → dx ≠ p → spInit C BM (.ref p :: ([.ref ca, .ref ra] ++ [])) (upd (upd H dx (.own p)) p (.ins C dx [])) (fun v H2 => v = .non ∧ Q p H2) E :=
  make_ok (Q := fun v H2 => match v with | .ref p => Q p H2 | _ => False) hc hr gm h
/-- make_rd, its end told by the address -/
theorem make_rdA {C BM : Addr} {H : Hp} {x y : V} {Q : Addr → Hp → Prop} {E : XK} (kx : Kt H x) (ky : Kt H y) (h1 : (amV H x 2 && amV H y 3) = true → ∀ H' p dx, Same H H' → H p = none → SlX.Slt H' p C dx [some x, some y] → Q p H')
    (h2 : (amV H x 2 && amV H y 3) = false → ∀ H', Same H H' → E (.ref BM) none H') :
    ∀ p dx, H p = none → H dx = none → dx ≠ p → spInit C BM (.ref p :: ([x, y] ++ [])) (upd (upd H dx (.own p)) p (.ins C dx [])) (fun v H2 => v = .non ∧ Q p H2) E :=
  make_rd (Q := fun v H2 => match v with | .ref p => Q p H2 | _ => False) kx ky h1 h2
theorem hu65 {A : Around} {k : Nat} (hr : Room k A) : A.units + 65 < cLine := by have := hr.un; omega
theorem PE.imp {X : Cx} {e : Expr} {t t' : TE} (h : PE X e t) (i : ∀ σ H Q, t' σ H Q → t σ H Q) : PE X e t' := ⟨fun pins s σ H Q I hw => h.run pins s σ H Q I (i _ _ _ hw)⟩
/-- place in places_here and not isinstance(place, bool) -/
def tOneB (K : PySem.W.Frag) : TE := fun σ H Q => ∃ x pl ds dd, σ[4]? = some (some x) ∧ σ[3]? = some (some (.ref pl)) ∧ Dp K H x dd ∧ Dp K H (.ref pl) (.list ds) ∧ SeqAt.shaped dd = true ∧ SeqAt.shaped (.list ds) = true ∧ Kd H x ∧ Q (.bl ((ds.any fun z => PyData.eqv z dd) && !isB x)) H
theorem one_imp {K : PySem.W.Frag} (σ : L2.St) (H : Hp) (Q : VK) (h : tOneB K σ H Q) : tAndV (tOp (rInD K) (tVar 4) (tVar 3)) (tNotV (tCB (rIsi K) (tCons (tVar 4) (tCons (tC (.ty "bool")) tNil)))) σ H Q := by
  obtain ⟨x, pl, ds, dd, e4, e3, h1, h2, h3, h4, k, q⟩ := h
  refine ⟨_, e4, _, e3, dd, ds, h1, h2, h3, h4, _, rfl, ?_⟩
  cases c : (ds.any fun z => PyData.eqv z dd) with
  | false =>
    rw [c, Bool.false_and] at q
    exact iteF q
  | true =>
    rw [c, Bool.true_and] at q
    obtain ⟨t, ty, _, k2, _⟩ := k.ty (K := K)
    exact iteT ⟨_, e4, x, .ty "bool", .type t, .type "bool", _, rfl, .ty _, ty, kit_ty k2, _, rfl, q⟩
theorem one13 {K : PySem.W.Frag} {H : Hp} {T : Addr} {cs rs : List V} {x : V} (g : Gm cs rs) (hT : H T = some (.tup [.int 0])) (h : x ∈ lit12 ++ [.ref T]) :
    Kd H x ∧ TxtOk x ∧ ∃ dd, Dp K H x dd ∧ SeqAt.shaped dd = true ∧ ((((plF cs rs).map dOf).any fun z => PyData.eqv z dd) && !isB x) = (mkOf cs rs x).isSome := by
  rcases List.mem_append.mp h with h | h
  · exact ⟨kd12 x h, txt12 x h, _, dp12 x h, lit_sh x h, one12 g h⟩
  · rw [List.mem_singleton.mp h]
    refine ⟨.tup hT, (fun z e => by cases e), .tuple [.int 0], .tup (.of hT) (.cons (.int 0) .nil), by decide +kernel, ?_⟩
    rw [oneT g]
    rfl
section
variable {P : Program} {w : World} {K : PySem.W.Frag} {mg : Str → Option Value} {base : Heap} {f C BM BP fI : Addr} {fd fdI : FuncData}
theorem ok_one (F : FnS K "_law_one_right" "_law_one_right" sOne f fd) (g : Gs mg) (m : Ms P w K mg base C BM BP fI fdI) (cp : Cal P w K mg base CX0 1 "_law_places" nPlaces spPlaces) (ca : Cal P w K mg base CX0 1 "_law_mark_at" nMarkAt spMarkAt) : FnOk P w K mg base CX0 7 f fd ["_law_draw_here", "_law_marks"] spOne := by
  refine F.ok scOne (fun vs H Q E h => ?_) (fun cdv A outer s H vs Q E hr h => ⟨_, PSs.nox (pss_cons
    (ps_asg (pe_tup (pa_cons (pe_Marks (E := E0) m.I.M m.I.G m.I.b (hr.mono (by decide)) rfl passL (pa_cons (pe_ix ix_tup (pv 1) pe_int (fun _ _ => rfl)) (pa_cons (pe_ix ix_tup (pv 1) pe_int (fun _ _ => rfl)) pa_nil))) (pa_cons (pe_c cp (hr.mono (by decide)) rfl pass0 (pa_cons (pv 1) pa_nil)) pa_nil)))
      (pg_tup rfl (pgs_cons (pg_name (i := 2) scOne.nd rfl (Or.inr rfl)) (pgs_cons (pg_name (i := 3) scOne.nd rfl (Or.inl rfl)) pgs_nil))))
    (pss_cons (ps_if (pt_cmpR (op_neD hr.units) (pe_tup (pa_cons (pe_col m (hr.mono (by decide)) (pv 2)) (pa_cons (pe_rgs m (hr.mono (by decide)) (pv 2)) (pa_cons (pe_lenM m (hr.mono (by decide)) rfl g.len (pa_cons (pv 2) pa_nil)) pa_nil))))
      (pe_tup (pa_cons (pe_ix ix_tup (pv 1) pe_int (fun _ _ => rfl)) (pa_cons (pe_ix ix_tup (pv 1) pe_int (fun _ _ => rfl)) (pa_cons (pe_callB call_len rfl g.len boot_len (pa_cons (pv 3) pa_nil)) pa_nil)))) (nomark _)) (pss_one (ps_ret pe_bl)) pss_nil)
    (pss_cons (ps_if (pt_cmpR (op_neD hr.units)
      (pe_lc (own := [("_law_place", 4)]) (g := gName 4) (tt := tYes) rfl scOne.nd (pi_list (pv 3)) (blkOk_by (N := nOne) (sc := defScope sOne) (by decide +kernel)) (fun _ _ _ _ _ => pg_name (i := 4) scOne.nd rfl (Or.inl rfl)) (fun _ _ _ _ _ => pts_nil) (fun _ _ _ _ _ => pe_getM m.get (hr.mono (by decide)) (pv 2) (pv 4) (fun _ _ => rfl)))
      (pe_lc (own := [("_law_place", 4)]) (g := gName 4) (tt := tYes) rfl scOne.nd (pi_list (pv 3)) (blkOk_by (N := nOne) (sc := defScope sOne) (by decide +kernel)) (fun _ _ _ _ _ => pg_name (i := 4) scOne.nd rfl (Or.inl rfl)) (fun _ _ _ _ _ => pts_nil) (fun _ _ _ _ _ => pe_c ca (hr.mono (by decide)) rfl pass0 (pa_cons (pv 1) (pa_cons (pv 4) pa_nil))))
      (nomark _)) (pss_one (ps_ret pe_bl)) pss_nil)
    (pss_cons (ps_for PassesOwn.never rfl (pi_list (pe_lst (pa_cons pe_int (pa_cons pe_int (pa_cons pe_int (pa_cons (pe_un un_neg pe_int) (pa_cons pe_bl (pa_cons pe_str (pa_cons pe_str (pa_cons pe_str (pa_cons pe_str (pa_cons pe_str (pa_cons pe_str (pa_cons pe_non (pa_cons (pe_tup (pa_cons pe_int pa_nil)) pa_nil))))))))))))))) (pg_name (i := 4) scOne.nd rfl (Or.inl rfl))
      (pss_cons (ps_set (i := 5) scOne.nd rfl (Or.inl rfl) (PE.imp (t' := tOneB K) (pe_and (pe_cmpR (op_inD (hu65 hr)) (pv 4) (pv 3) (by with_unfolding_all rfl)) (pe_one (pe_not (pe_callB call_isi rfl g.isi (by decide +kernel) (pa_cons (pv 4) (pa_cons (pe_bltn (v := .ty "bool") rfl g.bool (by decide +kernel) rfl) pa_nil)))))) one_imp))
      (pss_cons (ps_if (pt_cmpR op_ne (pe_inM m.con (hr.mono (by decide)) (pv 4) (pv 2)) (pv 5) (nomark _)) (pss_one (ps_ret pe_bl)) pss_nil)
      (pss_one (ps_try_only rfl rfl ⟨rfl, by decide, .inl m.bp.g⟩ takes0 (fun W pn xe tk _ => pss_cons (ps_set (i := 6) scOne.nd rfl (Or.inl rfl) (pe_getT m tk (hr.mono (by decide)) (pv 2) (pv 4) (fun _ _ => rfl)))
          (pss_one (ps_if (PW.pt (pw_or (pt_not (pt_val (pv 5))) (pw_or1 (pt_cmpR op_ne (pv 6) (pe_c ca (hr.mono (by decide)) rfl pass0 (pa_cons (pv 1) (pa_cons (pv 4) pa_nil))) (nomark _))))) (pss_one (ps_ret pe_bl)) pss_nil)))
        (fun a oe cls d pn _ _ => pss_one (ps_if (pt_val (pv 5)) (pss_one (ps_ret pe_bl)) pss_nil)))))))
    (pss_cons (ps_if (pt_cmpR (op_neD hr.units) (pe_own m (hr.mono (by decide)) (pv 2))
      (pe_lc (own := [("_law_place", 4)]) (g := gName 4) (tt := _) rfl scOne.nd (pi_list (pv 3)) (blkOk_by (N := nOne) (sc := defScope sOne) (by decide +kernel)) (fun _ _ _ _ _ => pg_name (i := 4) scOne.nd rfl (Or.inl rfl)) (fun _ _ _ _ _ => pts_one (pt_cmp (pc_isN (pe_c ca (hr.mono (by decide)) rfl pass0 (pa_cons (pv 1) (pa_cons (pv 4) pa_nil)))))) (fun _ _ _ _ _ => pv 4))
      (nomark _)) (pss_one (ps_ret pe_bl)) pss_nil)
    (pss_cons (ps_set (i := 6) scOne.nd rfl (Or.inl rfl) (pe_inv m hr (pv 2)))
    (pss_one (ps_ret (pe_cmpR (op_eqD hr.units) (pe_tup (pa_cons (pe_col m (hr.mono (by decide)) (pv 6)) (pa_cons (pe_rgs m (hr.mono (by decide)) (pv 6)) pa_nil)))
      (pe_tup (pa_cons (pe_op op_repK (pe_tup (pa_cons pe_non pa_nil)) (pe_callB call_len rfl g.len boot_len (pa_cons (pe_ix ix_tup (pv 1) pe_int (fun _ _ => rfl)) pa_nil)))
        (pa_cons (pe_op op_repK (pe_tup (pa_cons pe_non pa_nil)) (pe_callB call_len rfl g.len boot_len (pa_cons (pe_ix ix_tup (pv 1) pe_int (fun _ _ => rfl)) pa_nil))) pa_nil))) (nomark _)))))))))), ?_⟩)
  · obtain ⟨d, m, cs, rs, rfl, _⟩ := h
    rfl
  · obtain ⟨d, mm, cs, rs, rfl, ⟨c0, r0, hm, hc, hrr⟩, gm, q⟩ := h
    obtain ⟨sc1, sr1⟩ := gm.smp
    obtain ⟨l1, l2, l3, l4⟩ := gm.len
    -- the marks made, the places
    refine ⟨_, rfl, mm, _, 0, _, rfl, rfl, .of hm, at0, _, rfl, mm, _, 1, _, rfl, rfl, .of hm, at1, ?_⟩
    refine make_okA hc hrr gm fun H1 p dx s1 np hp => ?_
    have mt1 : MkT H1 mm cs rs := ⟨c0, r0, s1 _ _ hm, s1 _ _ hc, s1 _ _ hrr⟩
    refine ⟨_, rfl, mm, cs, rs, rfl, mt1, gm, fun H2 pl s2 npl hpl => ⟨by show 2 ≤ sizeLine; decide, fun T nT => ?_⟩⟩
    refine ⟨T, _, rfl, .of upd_same, rfl, _, _, rfl, _, _, rfl, rfl, ?_⟩
    have s3 : Same H (upd H2 T (.tup [.ref p, .ref pl])) := (s1.trans s2).trans ((Same.refl H2).upd nT)
    have hp3 := slt_same (s2.trans ((Same.refl H2).upd nT (o := .tup [.ref p, .ref pl]))) hp
    have hpl3 : (upd H2 T (.tup [.ref p, .ref pl])) pl = some (.lst (plF cs rs)) := ((Same.refl H2).upd nT) _ _ hpl
    show tSeq _ _ _ _ (upd H2 T (.tup [.ref p, .ref pl]))
    generalize upd H2 T (.tup [.ref p, .ref pl]) = H3 at s3 hp3 hpl3 ⊢
    have hm3 := s3 _ _ hm
    have hc3 := s3 _ _ hc
    have hr3 := s3 _ _ hrr
    have mk3 : MkAt C H3 p cs rs := ⟨dx, c0, r0, hp3, hc3, hr3⟩
    have mt3 : MkT H3 mm cs rs := ⟨c0, r0, hm3, hc3, hr3⟩
    -- (columns, registers, len) != ..
    refine ⟨_, rfl, prop_rd hp3 rfl ⟨_, rfl, prop_rd hp3 rfl ⟨_, rfl, p, dx, _, rfl, hp3, p, cs, rs, rfl, mk3, gm, fun H4 s4 => ⟨cs.length + rs.length, rfl, by omega, ?_⟩⟩⟩⟩
    refine ⟨by show 3 ≤ sizeLine; decide, fun T1 n1 => ?_⟩
    have s5 : Same H3 (upd H4 T1 (.tup [.ref c0, .ref r0, .int ((cs.length + rs.length : Nat) : Int)])) := s4.trans ((Same.refl H4).upd n1)
    have hT1 : (upd H4 T1 (.tup [.ref c0, .ref r0, .int ((cs.length + rs.length : Nat) : Int)])) T1 = _ := upd_same
    refine ⟨_, rfl, mm, _, 0, _, rfl, rfl, .of (s5 _ _ hm3), at0, _, rfl, mm, _, 1, _, rfl, rfl, .of (s5 _ _ hm3), at1, _, rfl, _, (plF cs rs).length, rfl, .inl ⟨_, .of (s5 _ _ hpl3), rfl⟩, ?_⟩
    refine ⟨by show 3 ≤ sizeLine; decide, fun T2 n2 => ?_⟩
    rw [plF_len gm]
    have s6 := (Same.refl (upd H4 T1 (.tup [.ref c0, .ref r0, .int ((cs.length + rs.length : Nat) : Int)]))).upd n2 (o := .tup [.ref c0, .ref r0, .int ((cs.length + rs.length : Nat) : Int)])
    have s7 := s5.trans s6
    refine ne_triples (.of (s6 _ _ hT1)) (.of upd_same) (.of (s7 _ _ hc3)) (.of (s7 _ _ hr3)) (.of (s7 _ _ hc3)) (.of (s7 _ _ hr3)) sc1 sr1 ⟨_, rfl, iteF ?_⟩
    generalize upd (upd H4 T1 (.tup [.ref c0, .ref r0, .int ((cs.length + rs.length : Nat) : Int)])) T2 (.tup [.ref c0, .ref r0, .int ((cs.length + rs.length : Nat) : Int)]) = H5 at s7 ⊢
    have mk5 := mk3.same s7
    have mt5 := mt3.same s7
    -- [made[place] ..] != [mark_at ..]
    have hpl5 := s7 _ _ hpl3
    have hzl : (plF cs rs).length ≤ 1000 := by rw [plF_len gm]; omega
    refine ⟨_, rfl, pl, rfl, ⟨_, .of hpl5⟩, fun D1 m1 => ?_⟩
    refine lcm_list (K := K) (xs := plF cs rs) (fun _ => true) (fun x => (mkOf cs rs x).getD .non) (.of hpl5) m1 hzl (fun _ => rfl) (fun x _ H2 _ Q h => h H2 (Same.refl H2)) (fun x hx _ H6 s6 Q' h => ?_) fun H6 t6 e6 => ?_
    · obtain ⟨v, ev⟩ := plF_has hx
      rw [ev] at h
      exact ⟨_, rfl, _, rfl, get_rd (mk5.same s6) gm (plF_ok hx) ev (h H6 (Same.refl H6))⟩
    refine ⟨_, rfl, pl, rfl, ⟨_, .of (t6 _ _ hpl5)⟩, fun D2 m2 => ?_⟩
    refine lcm_list (K := K) (xs := plF cs rs) (fun _ => true) (fun x => (mkOf cs rs x).getD .non) (.of (t6 _ _ hpl5)) m2 hzl (fun _ => rfl) (fun x _ H2 _ Q h => h H2 (Same.refl H2)) (fun x hx _ H7 s7' Q' h => ?_) fun H7 t7 e7 => ?_
    · obtain ⟨v, ev⟩ := plF_has hx
      rw [ev] at h
      exact ⟨_, rfl, _, rfl, mm, x, cs, rs, v, rfl, (mt5.same t6).same s7', ev, h H7 (Same.refl H7)⟩
    rw [filter_yes] at e6 e7
    have hms : ∀ x ∈ (plF cs rs).map (fun x => (mkOf cs rs x).getD .non), smp x = true := by
      intro y hy
      obtain ⟨x, hx, rfl⟩ := List.mem_map.mp hy
      obtain ⟨v, ev⟩ := plF_has hx
      rw [ev]
      exact smp_held (mkOf_held gm ev)
    refine ne_lists (.of (t7 _ _ e6)) (.of e7) hms hms ⟨_, rfl, ?_⟩
    rw [decide_eq_true rfl]
    refine iteF ?_
    have s8 := s7.trans (t6.trans t7)
    have mk8 := mk3.same s8
    have mt8 := mt3.same s8
    have hpl8 := s8 _ _ hpl3
    have S8 : Same H H7 := s3.trans s8
    -- for place in [..]
    refine ⟨_, rfl, by show 1 ≤ sizeLine; decide, fun T3 n3 => ⟨by show 13 ≤ sizeLine; decide, fun l0 n0 => ⟨l0, rfl, ⟨_, .of upd_same⟩, ?_⟩⟩⟩
    have nl0 : l0 ≠ T3 := fun z => by rw [z, upd_same] at n0; cases n0
    have S9 : Same H7 (upd (upd H7 T3 (.tup [.int 0])) l0 (.lst (lit12 ++ [.ref T3]))) := ((Same.refl H7).upd n3).upd (((Same.refl H7).upd n3).free n0)
    refine for_list (K := K) (a := l0) (xs := lit12 ++ [.ref T3]) (fun i σ H' => ∃ v4 v5 v6, σ = [some (.ref d), some (.ref mm), some (.ref p), some (.ref pl), v4, v5, v6] ∧ Same H7 H' ∧ H' l0 = some (.lst (lit12 ++ [.ref T3])) ∧ H' T3 = some (.tup [.int 0]))
      ⟨none, none, none, rfl, S9, upd_same, by rw [upd_ne nl0.symm, upd_same]⟩ (fun i σ H' _ ⟨_, _, _, _, _, hl, _⟩ => .of hl) ?_ ?_
    · rintro i x σ H' hi ⟨v4, v5, v6, rfl, s', hl0, hT⟩
      have hx := List.mem_of_getElem? hi
      obtain ⟨kx, tx, dd, hdp, hsh, hone⟩ := one13 (K := K) gm hT hx
      have mk' := mk8.same s'
      have mt' := mt8.same s'
      have hpl' := s' _ _ hpl8
      refine ⟨x, pl, _, dd, rfl, rfl, hdp, .lst (.of hpl') (dpAll_smp plF_smp), hsh, shaped_l (can_smp plF_smp).1 (can_smp plF_smp).2 (by decide), kx, ?_⟩
      rw [hone]
      refine ⟨_, rfl, _, rfl, in_rd mk' gm ⟨kx, tx⟩ ⟨_, rfl, rfl, _, rfl, ?_⟩⟩
      rw [decide_eq_true rfl]
      refine iteF ?_
      refine ⟨_, rfl, _, rfl, ?_⟩
      cases e : mkOf cs rs x with
      | some v =>
        refine get_rd mk' gm ⟨kx, tx⟩ e ⟨_, rfl, _, rfl, iteF ⟨_, rfl, _, rfl, _, rfl, mm, x, cs, rs, v, rfl, mt', e, scal_held (mkOf_held gm e) (mkOf_held gm e), _, rfl, ?_⟩⟩
        rw [decide_eq_true rfl]
        exact iteF ⟨_, _, _, rfl, s', hl0, hT⟩
      | none =>
        obtain ⟨dx', c', r', hs', _, _⟩ := id mk'
        refine ⟨p, dx', _, rfl, hs', p, x, cs, rs, rfl, mk', gm, kx, tx, (fun u hu => by rw [e] at hu; cases hu), fun _ => ?_⟩
        refine ⟨true, m.bp.m, fun _ a ha => ?_, fun z => nomatch z⟩
        exact ⟨_, rfl, _, rfl, iteF ⟨_, _, _, rfl, s', hl0, hT⟩⟩
    · rintro σ H' ⟨v4, v5, v6, rfl, s', _, _⟩
      have mk' := mk8.same s'
      have mt' := mt8.same s'
      have hpl' := s' _ _ hpl8
      obtain ⟨dxa, ca', ra', hsa, _, _⟩ := id mk'
      -- own
      refine ⟨_, rfl, p, dxa, _, rfl, hsa, p, cs, rs, rfl, mk', gm, fun Ha lo sa na ea => ?_⟩
      refine ⟨_, rfl, pl, rfl, ⟨_, .of (sa _ _ hpl')⟩, fun D3 m3 => ?_⟩
      refine lcm_list (K := K) (xs := plF cs rs) (fun x => decide ((mkOf cs rs x).getD .non = .non)) (fun x => x) (.of (sa _ _ hpl')) m3 hzl (fun _ => rfl) (fun x hx Hb sb Q' h => ?_) (fun x hx px Hb sb Q' h => ⟨_, rfl, h Hb (Same.refl Hb)⟩) fun Hb sb eb => ?_
      · obtain ⟨v, ev⟩ := plF_has hx
        rw [ev] at h
        exact ⟨_, rfl, _, rfl, mm, x, cs, rs, v, rfl, (mt'.same sa).same sb, ev, _, rfl, h Hb (Same.refl Hb)⟩
      rw [List.map_id', plF_own] at eb
      have smo : ∀ x ∈ pl5.filter (ownF cs rs), smp x = true := fun x hx => pl5_smp x (List.mem_filter.mp hx).1
      refine ne_lists (.of (sb _ _ ea)) (.of eb) smo smo ⟨_, rfl, ?_⟩
      rw [decide_eq_true rfl]
      refine iteF ?_
      -- ~
      have mkb := (mk'.same sa).same sb
      have mtb := (mt'.same sa).same sb
      obtain ⟨dxb, _, _, hsb, _, _⟩ := id mkb
      refine ⟨_, rfl, p, dxb, _, rfl, hsb, p, cs, rs, rfl, mkb, gm, fun Hc p' sc' nc mkc => ?_⟩
      obtain ⟨dxc, cc, rc, hsc, hcc, hrc⟩ := mkc
      refine ⟨_, rfl, prop_rd hsc rfl ⟨_, rfl, prop_rd hsc rfl ⟨by show 2 ≤ sizeLine; decide, fun T4 n4 => ?_⟩⟩⟩
      have t4 : Same Hc (upd Hc T4 (.tup [.ref cc, .ref rc])) := (Same.refl Hc).upd n4
      have e4 : (upd Hc T4 (.tup [.ref cc, .ref rc])) T4 = some (.tup [.ref cc, .ref rc]) := upd_same
      refine ⟨by show 1 ≤ sizeLine; decide, fun T5 n5 => ?_⟩
      have t5 := (Same.refl (upd Hc T4 (.tup [.ref cc, .ref rc]))).upd n5 (o := .tup [.non])
      have u5 := t4.trans t5
      have e5 : (upd (upd Hc T4 (.tup [.ref cc, .ref rc])) T5 (.tup [.non])) T5 = some (.tup [.non]) := upd_same
      obtain ⟨cm, rm, hmb, hcm, hrm⟩ := mtb
      refine ⟨_, rfl, mm, _, 0, _, rfl, rfl, .of (u5 _ _ (sc' _ _ hmb)), at0, _, cs.length, rfl, .inr ⟨cs, .of (u5 _ _ (sc' _ _ hcm)), rfl⟩, rep_rd l1 (by omega) e5 fun Hd k1 sd ed => ?_⟩
      refine ⟨by show 1 ≤ sizeLine; decide, fun T6 n6 => ?_⟩
      have t6' := (Same.refl Hd).upd n6 (o := .tup [.non])
      have u6 := (u5.trans sd).trans t6'
      have e6' : (upd Hd T6 (.tup [.non])) T6 = some (.tup [.non]) := upd_same
      refine ⟨_, rfl, mm, _, 1, _, rfl, rfl, .of (u6 _ _ (sc' _ _ hmb)), at1, _, rs.length, rfl, .inr ⟨rs, .of (u6 _ _ (sc' _ _ hrm)), rfl⟩, rep_rd l3 l4 e6' fun He k2 se ee => ?_⟩
      refine ⟨by show 2 ≤ sizeLine; decide, fun T7 n7 => ?_⟩
      have t7' := (Same.refl He).upd n7 (o := .tup [.ref k1, .ref k2])
      have u7 := (u6.trans se).trans t7'
      refine eq_pairs (.of (t7' _ _ (se _ _ (t6' _ _ (sd _ _ (t5 _ _ e4)))))) (.of upd_same) (.of (u7 _ _ hcc)) (.of (u7 _ _ hrc)) (.of (t7' _ _ (se _ _ (t6' _ _ ed)))) (.of (t7' _ _ ee)) (smp_rep _) (smp_rep _) (smp_rep _) (smp_rep _) ?_
      rw [decide_eq_true rfl, decide_eq_true rfl]
      exact q _ (S8.trans (s'.trans (sa.trans (sb.trans (sc'.trans u7)))))
end
end Lk
/-! _law_asked; a lambda handed to it -/
namespace Lk
open PySem PySem.Spec PyProof.Rows L2
open LamX (TabB Tabs TabS ExtN CodeO GivesTo tLam LamS lamSB lamS_by lamCx lamEnv)
/-- what _law_asked makes of the lambda's reading -/
def TAsk (C BM : Addr) (K : PySem.W.Frag) : (XK → Hp → VK → Prop) → Hp → VK → Prop := fun tl H Q => ∀ f : Addr,
  tl (fun cls _ H' => ∃ b, PySem.W.exmOne K cls (.ref BM) = some b ∧ (b = true → Q (.str "marks") H') ∧ (b = false → False)) H
    (fun v H1 => tTup (tCons (SlX.tPropSl C (spProp C 0) E0 (tVar 1)) (tCons (SlX.tPropSl C (spProp C 1) E0 (tVar 1)) tNil)) [some (.ref f), some v] H1 Q)
theorem PSs.ex {X : Cx} {b : List Stmt} {t : XK → TS} {p : XK → Prop} (h : ∀ E, p E → PSs X b (t E)) : PSs X b (fun D σ H => ∃ E, p E ∧ t E D σ H) :=
  ⟨fun pins s σ H D I ⟨E, hp, hq⟩ => (h E hp).run pins s σ H D I hq⟩
theorem asked_gives {X : Cx} {C BM BP fI g : Addr} {fdI : FuncData} {q : Str} {cdg : Value} (m : Ms X.prog X.w X.K X.mg X.base C BM BP fI fdI) (hr : Room 3 X.A) :
    GivesTo X nAsked "_law_asked" (defScope sAsked) g cdg (defBody sAsked) "_law_call" q (TAsk C BM X.K) := by
  intro f c' s H Q tl act hc h
  have h := h f
  refine ⟨_, pss_one (ps_try_only (X := (cxOf C8.CX0 X.prog X.w X.K X.mg X.base nAsked "_law_asked" (defScope sAsked) g cdg X.A X.stack s H C8.E0).nox) (c := .ref BM)
      rfl rfl ⟨rfl, by decide, .inl m.bm.g⟩ L2.takes0
      (fun W pn xe tk _ => PSs.ex (p := fun Ech : XK => ∀ cls d σ' H', Ech cls d H' → W cls d σ' H') fun Ech hW => pss_cons (ps_set (i := 1) scAsked.nd rfl (Or.inl rfl) (act W pn xe Ech _ _ tk hW)) (pss_one (ps_ret (pe_tup (pa_cons (pe_col m (hr.deeper _) (pv 1)) (pa_cons (pe_rgs m (hr.deeper _) (pv 1)) pa_nil))))))
      (fun a oe cls d pn _ _ => pss_one (ps_ret pe_str))), ?_⟩
  exact ⟨_, fun cls d σ' H' ⟨b, e1, e2, e3⟩ => ⟨b, e1, fun hb a _ => e2 hb, fun hb => e3 hb⟩, rfl, hc, h⟩
/-- _law_asked of the module -/
structure AskF (K : PySem.W.Frag) (mg : Str → Option Value) : Prop where
  ex : ∃ g fd, FnS K "_law_asked" "_law_asked" sAsked g fd ∧ mg "_law_asked" = some (.ref g)
theorem asked_scope : FnScope nAsked ["_law_call"] (defScope sAsked) := scAsked
section
variable {X : Cx} {C BM BP fI : Addr} {fdI : FuncData}
/-- _law_asked(lambda: body) -/
theorem pe_asked {T : List (Addr × Str)} {c P : Addr} {k : Nat} {params : Arguments} {body : Expr} {scope : Scope} {t : XK → TE} {p lpos pos : Pos} (A : AskF X.K X.mg) (m : Ms X.prog X.w X.K X.mg X.base C BM BP fI fdI) (hg : Gl X "_law_asked")
    (TB : TabB X.base X.mg c P) (hcode : X.env.code = .ref c) (hmT : (P, X.env.qual ++ "<lambda>") ∈ T) (hu : ∀ p ∈ T, p.1 = P → p.2 = X.env.qual ++ "<lambda>") (hr : Room (k + 2) X.A) (hk : 1 ≤ k) (L : LamS X.env.scope scope) (hdef : defaultsOf params X.env = ([], []))
    (hbind : ∀ (q : Str) (cl : List (Str × Addr)) (pm cv ctv : Value), bindArgs (PySem.W.kla_fn "<lambda>" q params body scope cl pm cv ctv) ⟨[], []⟩ = pure [])
    (hbody : ∀ (A : Around) (outer : List Env) (s : Shared) (H : Hp) (E : XK) (f c' : Addr), Room k (A.deeper (lamEnv X scope s.heap.objs.size f c')) → PE (lamCx X A outer s H E scope f c') body (t E)) :
    PE X (.Call (.Name "_law_asked" p) [.Lambda params body scope lpos] [] pos) (tLam T (TAsk C BM X.K) t) := by
  obtain ⟨g, fd, F, gA⟩ := A.ex
  have hb : Binds X.K fd ["_law_call"] [] := F.bindsN fun _ _ _ _ _ _ us hl => match us, hl with | [_], _ => rfl
  obtain ⟨oc, od, dV, kV, doc, pm, an, cdv, ct, osl, rfl, lk, hcd, _, _⟩ := F.ex
  exact LamX.pe_lamcall (Ng := nAsked) (a := "_law_call") hg gA F.kp lk hcd hb scAsked rfl (.inl rfl) (asked_gives m (hr.mono (by omega))) TB hcode hmT hu hr L hdef hbind hbody
end
/-- as FunD.ok, the code object told -/
theorem okC {P : Program} {w : World} {K : PySem.W.Frag} {mg : Str → Option Value} {base : Heap} {x qual : Str} {params : Arguments} {body : List Stmt} {scope : Scope} {dvs : List V} {kws : List (Str × V)} {f : Addr} {fd : FuncData} {CX : CXT} {N ps : List Str} {k : Nat} {sp : Sp}
    (F : FunD K x qual params body scope dvs kws f fd) (S : FnScope N ps scope) (len : ∀ vs H Q E, sp vs H Q E → vs.length = ps.length)
    (hbody : ∀ (cdv : Value), fd.code = cdv → ∀ (A : Around) (outer : List Env) (s : Shared) (H : Hp) (vs : List V) (Q : VK) (E : XK), Room k (A.deeper (envOfC qual scope s.heap.objs.size f cdv)) → sp vs H Q E →
      ∃ t, PSs (cxOf CX P w K mg base N qual scope f cdv A outer s H E) body t ∧ t { nx := fun _ H' => Q .non H', rt := Q } (L2.start N vs) H) : FnOk P w K mg base CX (k + 1) f fd ps sp := by
  obtain ⟨oc, od, dV, kV, doc, pm, an, cdv, ct, osl, rfl, lk, hcd, _, _⟩ := F.ex
  exact fn_of lk hcd S len fun A outer s H vs Q E hr hsp => hbody cdv rfl A outer s H vs Q E hr hsp
end Lk
/-! changes, plainly; what the lambda over | gives -/
namespace Lk
open PySem PySem.Spec PyProof.Rows L2
open LamX (TabB Tabs TabS ExtN CodeO GivesTo tLam LamS lamSB lamS_by lamCx lamEnv)
/-! ### the dict and the lists beside it -/
theorem putK_len1 (c : List (Key × V)) (k : Key) (x : V) : (putK c k x).length ≤ c.length + 1 := by
  unfold putK
  by_cases e : (c.any fun kv => decide (kv.1 = k)) = true
  · rw [if_pos e, List.length_map]
    omega
  · rw [if_neg e, List.length_append]
    exact Nat.le_refl _
theorem putK_mem {c : List (Key × V)} {k : Key} {x : V} {p : Key × V} (h : p ∈ putK c k x) : (p ∈ c) ∨ (p.1 = k ∧ p.2 = x) := by
  unfold putK at h
  by_cases e : (c.any fun kv => decide (kv.1 = k)) = true
  · rw [if_pos e] at h
    obtain ⟨q, hq, e2⟩ := List.mem_map.mp h
    by_cases z : q.1 = k
    · rw [if_pos z] at e2
      subst e2
      exact .inr ⟨z, rfl⟩
    · rw [if_neg z] at e2
      subst e2
      exact .inl hq
  · rw [if_neg e] at h
    rcases List.mem_append.mp h with h | h
    · exact .inl h
    · rw [List.mem_singleton.mp h]
      exact .inr ⟨rfl, rfl⟩
theorem putK_has (c : List (Key × V)) (k : Key) (x : V) : ∃ p ∈ putK c k x, p.1 = k := by
  have h : valV (putK c k x) k = some x := by rw [valV_put, if_pos rfl]
  unfold valV at h
  cases e : (putK c k x).find? (fun kv => decide (kv.1 = k)) with
  | none => rw [e] at h; cases h
  | some p => exact ⟨p, List.mem_of_find?_eq_some e, of_decide_eq_true (List.find?_some (p := fun kv : Key × V => decide (kv.1 = k)) e)⟩
theorem newC_nil (cs : List V) : newC [] cs = cs := by
  unfold newC
  exact List.ext_getElem? fun i => by rw [List.getElem?_mapIdx]; cases cs[i]? <;> rfl
theorem newR_nil (rs : List V) : newR [] rs = rs := by
  unfold newR
  exact List.ext_getElem? fun i => by rw [List.getElem?_mapIdx]; cases rs[i]? <;> rfl
theorem newC_at (kvs : List (Key × V)) (cs : List V) (i : Nat) : (newC kvs cs)[i]? = cs[i]?.map fun x => (valV kvs (Sum.inl (i : Int))).getD x := by
  unfold newC
  rw [List.getElem?_mapIdx]
theorem newR_at (kvs : List (Key × V)) (rs : List V) (i : Nat) : (newR kvs rs)[i]? = rs[i]?.map fun x => (valV kvs (Sum.inr (regAt i))).getD x := by
  unfold newR
  rw [List.getElem?_mapIdx]
theorem regAt_inj {i j : Nat} (h : regAt i = regAt j) : i = j := by
  unfold regAt at h
  injection h with h
  have := congrArg (fun a : Array Nat => a[0]?) h
  simp at this
  exact this
theorem newC_putI {kvs : List (Key × V)} {cs : List V} {j : Nat} {v : V} : newC (putK kvs (Sum.inl (j : Int)) v) cs = (newC kvs cs).set j v := by
  refine List.ext_getElem? fun i => ?_
  rw [newC_at, List.getElem?_set, newC_at, valV_put]
  by_cases e : j = i
  · subst e
    rw [if_pos rfl, if_pos rfl]
    unfold newC
    rw [List.length_mapIdx]
    by_cases h : j < cs.length
    · rw [if_pos h, List.getElem?_eq_getElem h]
      rfl
    · rw [if_neg h, List.getElem?_eq_none (by omega)]
      rfl
  · rw [if_neg e, if_neg (fun z => by injection z with z; omega)]
theorem newR_putI {kvs : List (Key × V)} {rs : List V} {j : Int} {v : V} : newR (putK kvs (Sum.inl j) v) rs = newR kvs rs := by
  refine List.ext_getElem? fun i => ?_
  rw [newR_at, newR_at, valV_put, if_neg (fun z => by cases z)]
theorem newC_putR {kvs : List (Key × V)} {cs : List V} {z : Str} {v : V} : newC (putK kvs (Sum.inr z) v) cs = newC kvs cs := by
  refine List.ext_getElem? fun i => ?_
  rw [newC_at, newC_at, valV_put, if_neg (fun z => by cases z)]
theorem newR_putR {kvs : List (Key × V)} {rs : List V} {j : Nat} {v : V} : newR (putK kvs (Sum.inr (regAt j)) v) rs = (newR kvs rs).set j v := by
  refine List.ext_getElem? fun i => ?_
  rw [newR_at, List.getElem?_set, newR_at, valV_put]
  by_cases e : j = i
  · subst e
    rw [if_pos rfl, if_pos rfl]
    unfold newR
    rw [List.length_mapIdx]
    by_cases h : j < rs.length
    · rw [if_pos h, List.getElem?_eq_getElem h]
      rfl
    · rw [if_neg h, List.getElem?_eq_none (by omega)]
      rfl
  · rw [if_neg e, if_neg (fun z => by injection z with z; exact e (regAt_inj z).symm)]
theorem regs_at : regAt 0 = "a" ∧ regAt 1 = "b" ∧ regAt 2 = "c" := by decide +kernel
theorem regIx_at {z : Str} {i : Nat} (h : regIx z = some i) : z = regAt i := by
  unfold regIx at h
  by_cases h1 : z = "a"
  · rw [if_pos h1] at h
    rw [h1, ← Option.some.inj h]
    exact regs_at.1.symm
  · rw [if_neg h1] at h
    by_cases h2 : z = "b"
    · rw [if_pos h2] at h
      rw [h2, ← Option.some.inj h]
      exact regs_at.2.1.symm
    · rw [if_neg h2] at h
      by_cases h3 : z = "c"
      · rw [if_pos h3] at h
        rw [h3, ← Option.some.inj h]
        exact regs_at.2.2.symm
      · rw [if_neg h3] at h
        cases h
/-- changes so far: keys are places, values held -/
structure ChK (cs rs : List V) (kvs : List (Key × V)) : Prop where
  p : ∀ q ∈ kvs, kV q.1 ∈ plF cs rs
  v : ∀ q ∈ kvs, heldB q.2 9 = true
theorem ChK.nil {cs rs : List V} : ChK cs rs [] := ⟨(fun q h => by cases h), (fun q h => by cases h)⟩
theorem ChK.put {cs rs : List V} {kvs : List (Key × V)} {k : Key} {v : V} (c : ChK cs rs kvs) (hk : kV k ∈ plF cs rs) (hv : heldB v 9 = true) : ChK cs rs (putK kvs k v) := by
  refine ⟨fun q h => ?_, fun q h => ?_⟩
  · rcases putK_mem h with h | ⟨h, _⟩
    · exact c.p q h
    · rw [h]; exact hk
  · rcases putK_mem h with h | ⟨_, h⟩
    · exact c.v q h
    · rw [h]; exact hv
theorem getD_held {kvs : List (Key × V)} (h : ∀ q ∈ kvs, heldB q.2 9 = true) {k : Key} {x : V} (hx : heldB x 9 = true) : heldB ((valV kvs k).getD x) 9 = true := by
  cases e : valV kvs k with
  | none => exact hx
  | some v =>
    obtain ⟨p, hp, ep⟩ := valV_mem e
    show heldB v 9 = true
    rw [← ep]
    exact h p hp
theorem ChK.amC {cs rs : List V} {kvs : List (Key × V)} (c : ChK cs rs kvs) (g : Gm cs rs) : amB (newC kvs cs) 2 = true := by
  obtain ⟨l1, l2, _, _⟩ := g.len
  have hl : (newC kvs cs).length = cs.length := by unfold newC; rw [List.length_mapIdx]
  unfold amB
  rw [hl, decide_eq_true l1, decide_eq_true (by omega : (cs.length : Int) ≤ 2), Bool.true_and, Bool.true_and]
  refine List.all_eq_true.mpr fun x hx => ?_
  obtain ⟨i, hi, e⟩ := List.mem_mapIdx.mp hx
  rw [← e]
  exact getD_held c.v ((amB_len g.c).2.2 _ (List.getElem_mem hi))
theorem ChK.amR {cs rs : List V} {kvs : List (Key × V)} (c : ChK cs rs kvs) (g : Gm cs rs) : amB (newR kvs rs) 3 = true := by
  obtain ⟨_, _, l3, l4⟩ := g.len
  have hl : (newR kvs rs).length = rs.length := by unfold newR; rw [List.length_mapIdx]
  unfold amB
  rw [hl, decide_eq_true l3, decide_eq_true (by omega : (rs.length : Int) ≤ 3), Bool.true_and, Bool.true_and]
  refine List.all_eq_true.mpr fun x hx => ?_
  obtain ⟨i, hi, e⟩ := List.mem_mapIdx.mp hx
  rw [← e]
  exact getD_held c.v ((amB_len g.r).2.2 _ (List.getElem_mem hi))
theorem ChK.all {cs rs : List V} {kvs : List (Key × V)} (c : ChK cs rs kvs) : (kvs.all fun p => (mkOf cs rs (kV p.1)).isSome) = true :=
  List.all_eq_true.mpr fun p hp => (List.mem_filter.mp (c.p p hp)).2
theorem ChK.dk {H : Hp} {cs rs : List V} {kvs : List (Key × V)} (c : ChK cs rs kvs) (z : kvs.length ≤ 1000) : Dk H kvs := ⟨z, fun p hp => (plF_ok (H := H) (c.p p hp)).2, fun p hp => held_kd (c.v p hp)⟩
/-- a register's mark that is none -/
theorem wrong_am {rs : List V} {kvs : List (Key × V)} {v : V} (l : 1 ≤ rs.length) (hv : heldB v 9 = false) : amB (newR (putK kvs (Sum.inr "a") v) rs) 3 = false := by
  have e : (newR (putK kvs (Sum.inr "a") v) rs)[0]? = some v := by
    rw [← regs_at.1, newR_putR, List.getElem?_set, if_pos rfl, if_pos (by unfold newR; rw [List.length_mapIdx]; omega)]
  have hm : v ∈ newR (putK kvs (Sum.inr "a") v) rs := List.mem_of_getElem? e
  cases h : amB (newR (putK kvs (Sum.inr "a") v) rs) 3 with
  | false => rfl
  | true =>
    have := (amB_len h).2.2 v hm
    rw [hv] at this
    cases this
/-! ### what | refuses -/
inductive BadY (H : Hp) (cs rs : List V) : V → String → Prop where
  | non : BadY H cs rs .non "NoneType"
  | lst {a : Addr} {xs : List V} (e : H a = some (.lst xs)) : BadY H cs rs (.ref a) "list"
  | dk {d : Addr} {kvs : List (Key × V)} (e : H d = some (.dK kvs)) (dk : Dk H kvs) (b : ((kvs.all fun p => (mkOf cs rs (kV p.1)).isSome) && (amB (newC kvs cs) 2 && amB (newR kvs rs) 3)) = false) : BadY H cs rs (.ref d) "dict"
  | dn {d : Addr} {o : Obj} {ks : List V} (e : H d = some (DicO d o)) (lo : (d == sysModules) = false) (ko : KeysO o ks) (hz : ks.length ≤ 1000) (hk : ∀ x ∈ ks, (x = .non ∨ ∃ k, x = kV k) ∧ TxtOk x) (b : (ks.all fun x => (mkOf cs rs x).isSome) = false) : BadY H cs rs (.ref d) "dict"
theorem Kd.ext {H H' : Hp} {x : V} (s : ExtN H H') (k : Kd H x) : Kd H' x := by
  cases k with
  | non => exact .non
  | bl b => exact .bl b
  | int b => exact .int b
  | str b => exact .str b
  | tup e => exact .tup (s _ _ e fun ps z => by cases z)
  | lst e => exact .lst (s _ _ e fun ps z => by cases z)
theorem Dk.ext {H H' : Hp} {kvs : List (Key × V)} (s : ExtN H H') (d : Dk H kvs) : Dk H' kvs := ⟨d.z, d.t, fun p hp => (d.v p hp).ext s⟩
theorem dicO_ne {d : Addr} {o : Obj} (ps : Array Value) : DicO d o ≠ .tbl ps := fun z => by
  unfold DicO at z
  cases z
theorem BadY.ext {H H' : Hp} {cs rs : List V} {y : V} {T : String} (s : ExtN H H') (b : BadY H cs rs y T) : BadY H' cs rs y T := by
  cases b with
  | non => exact .non
  | lst e => exact .lst (s _ _ e fun ps z => by cases z)
  | dk e dk b => exact .dk (s _ _ e fun ps z => by cases z) (dk.ext s) b
  | dn e lo ko hz hk b => exact .dn (s _ _ e fun ps => dicO_ne ps) lo ko hz hk b
theorem BadY.ty {K : PySem.W.Frag} {H : Hp} {cs rs : List V} {y : V} {T : String} (b : BadY H cs rs y T) : TyK K H y (.type T) ∧ (T = "NoneType" ∨ T = "dict" ∨ T = "list") := by
  cases b with
  | non => exact ⟨.inl (.base .non), .inl rfl⟩
  | lst e => exact ⟨.inl (.base (.lst e)), .inr (.inr rfl)⟩
  | dk e dk b => exact ⟨.inl (.base (.dK e)), .inr (.inl rfl)⟩
  | dn e lo ko hz hk b => exact ⟨.inr ⟨_, _, rfl, e, ko.1.1, rfl⟩, .inr (.inl rfl)⟩
theorem BadY.or {C BM : Addr} {H : Hp} {cs rs : List V} {y : V} {T : String} {a : Addr} {Q : VK} {E : XK} (b : BadY H cs rs y T) (m : MkAt C H a cs rs) (g : Gm cs rs) (q : ∀ H', Same H H' → E (.ref BM) none H') : spOr C BM [.ref a, y] H Q E := by
  refine ⟨a, y, cs, rs, rfl, m, g, ?_⟩
  cases b with
  | non => exact .inl ⟨.non, q⟩
  | lst e => exact .inl ⟨.lst e, q⟩
  | dk e dk b => exact .inr (.inl ⟨_, _, rfl, e, dk, (fun h1 h2 h3 => by rw [h1, h2, h3] at b; cases b), fun _ => q⟩)
  | dn e lo ko hz hk b => exact .inr (.inr ⟨_, _, _, rfl, e, lo, ko, hz, (fun x hx => ⟨by
      rcases (hk x hx).1 with h | ⟨k, h⟩
      · rw [h]; exact .non
      · rw [h]; exact kd_kV k, (hk x hx).2⟩), b, q⟩)
/-! ### the lambda's reading -/
def tOrL (K : PySem.W.Frag) (C BM g : Addr) (i : Nat) : XK → TE := fun E => tOp (rBinK K C g .BitOr (spOr C BM) E) (tMake C (spInit C BM) [] E (tCons (tOp (rIxT K) (tVar 1) (tC (.int 0))) (tCons (tOp (rIxT K) (tVar 1) (tC (.int 1))) tNil))) (tVar i)
theorem _root_.L2.Same.ext {H H' : Hp} (s : Same H H') : ExtN H H' := ExtN.of s
theorem MkT.ext {H H' : Hp} {m : Addr} {cs rs : List V} (s : ExtN H H') (h : MkT H m cs rs) : MkT H' m cs rs := by
  obtain ⟨ca, ra, h1, h2, h3⟩ := h
  exact ⟨ca, ra, s _ _ h1 (fun ps z => by cases z), s _ _ h2 (fun ps z => by cases z), s _ _ h3 (fun ps z => by cases z)⟩
section
variable {K : PySem.W.Frag} {C BM g mm : Addr} {i : Nat} {T : List (Addr × Str)} {σ : L2.St} {H : Hp} {Q : VK} {cs rs : List V} {y : V}
theorem asked_bad {t : String} (hB : ∀ T, T = "NoneType" ∨ T = "dict" ∨ T = "list" → BinT K C g .BitOr T) (hm : PySem.W.exmOne K (.ref BM) (.ref BM) = some true) (tb : Tabs T H) (h1 : σ[1]? = some (some (.ref mm))) (hi : σ[i]? = some (some y)) (mt : MkT H mm cs rs) (gm : Gm cs rs) (b : BadY H cs rs y t)
    (q : ∀ H', ExtN H H' → Tabs T H' → Q (.str "marks") H') : tLam T (TAsk C BM K) (tOrL K C BM g i) σ H Q := by
  refine ⟨tb, fun H1 e1 t1 f => ?_⟩
  obtain ⟨ca, ra, m1, m2, m3⟩ := mt.ext e1
  refine ⟨_, h1, mm, _, 0, _, rfl, rfl, .of m1, at0, _, h1, mm, _, 1, _, rfl, rfl, .of m1, at1, ?_⟩
  refine make_okA m2 m3 gm fun H2 p dx s2 np hs => ?_
  have mk : MkAt C H2 p cs rs := ⟨dx, ca, ra, hs, s2 _ _ m2, s2 _ _ m3⟩
  have b2 := (b.ext e1).ext s2.ext
  refine ⟨_, hi, p, dx, _, t, rfl, hs, b2.ty.1, hB _ (b2.ty (K := K)).2, ?_⟩
  exact b2.or mk gm fun H3 s3 => ⟨true, hm, fun _ => q H3 ((e1.trans s2.ext).trans s3.ext) ((t1.ext s2).ext s3), fun z => nomatch z⟩
theorem asked_good {d : Addr} {kvs : List (Key × V)} (hB : ∀ T, T = "NoneType" ∨ T = "dict" ∨ T = "list" → BinT K C g .BitOr T) (tb : Tabs T H) (h1 : σ[1]? = some (some (.ref mm))) (hi : σ[i]? = some (some (.ref d))) (mt : MkT H mm cs rs) (gm : Gm cs rs) (hd : H d = some (.dK kvs)) (ck : ChK cs rs kvs) (hz : kvs.length ≤ 1000)
    (q : ∀ H' R c' r', ExtN H H' → Tabs T H' → H' R = some (.tup [.ref c', .ref r']) → H' c' = some (.tup (newC kvs cs)) → H' r' = some (.tup (newR kvs rs)) → Q (.ref R) H') : tLam T (TAsk C BM K) (tOrL K C BM g i) σ H Q := by
  refine ⟨tb, fun H1 e1 t1 f => ?_⟩
  obtain ⟨ca, ra, m1, m2, m3⟩ := mt.ext e1
  refine ⟨_, h1, mm, _, 0, _, rfl, rfl, .of m1, at0, _, h1, mm, _, 1, _, rfl, rfl, .of m1, at1, ?_⟩
  refine make_okA m2 m3 gm fun H2 p dx s2 np hs => ?_
  have mk : MkAt C H2 p cs rs := ⟨dx, ca, ra, hs, s2 _ _ m2, s2 _ _ m3⟩
  have hd2 : H2 d = some (.dK kvs) := s2 _ _ (e1 _ _ hd fun ps z => by cases z)
  refine ⟨_, hi, p, dx, _, "dict", rfl, hs, .inl (.base (.dK hd2)), hB _ (.inr (.inl rfl)), ?_⟩
  refine ⟨p, _, cs, rs, rfl, mk, gm, .inr (.inl ⟨d, kvs, rfl, hd2, ck.dk hz, fun _ _ _ H3 p' s3 np' mk3 => ?_, fun z => ?_⟩)⟩
  · obtain ⟨dx', c', r', hs', hc', hr'⟩ := mk3
    refine ⟨_, rfl, prop_rd hs' rfl ⟨_, rfl, prop_rd hs' rfl ⟨by show 2 ≤ sizeLine; decide, fun R nR => ?_⟩⟩⟩
    have s4 := (Same.refl H3).upd nR (o := .tup [.ref c', .ref r'])
    have ex : ExtN H (upd H3 R (.tup [.ref c', .ref r'])) := ((e1.trans s2.ext).trans s3.ext).trans s4.ext
    exact q _ R c' r' ex (((t1.ext s2).ext s3).ext s4) upd_same (s4 _ _ hc') (s4 _ _ hr')
  · rw [ck.all, ck.amC gm, ck.amR gm] at z
    cases z
end
end Lk
/-! what stands while changes are drawn and asked -/
namespace Lk
open PySem PySem.Spec PyProof.Rows L2
open LamX (TabB Tabs TabS ExtN CodeO GivesTo tLam LamS lamSB lamS_by lamCx lamEnv)
/-- all stays but what is at d, and the tables -/
def KX (d : Addr) (H H' : Hp) : Prop := ∀ b o, H b = some o → b ≠ d → (∀ ps, o ≠ .tbl ps) → H' b = some o
theorem KX.refl (d : Addr) (H : Hp) : KX d H H := fun _ _ h _ _ => h
theorem KX.trans {d : Addr} {H H1 H2 : Hp} (a : KX d H H1) (b : KX d H1 H2) : KX d H H2 := fun c o h n k => b c o (a c o h n k) n k
/-- l was not there, or only as a table -/
def Fre (d : Addr) (H : Hp) (l : Addr) : Prop := ∀ o, H l = some o → l ≠ d → (∀ ps, o ≠ .tbl ps) → False
theorem KX.free {d : Addr} {H H' : Hp} {l : Addr} (k : KX d H H') (n : H' l = none) : Fre d H l := fun o e nd nt => by
  rw [k l o e nd nt] at n
  cases n
theorem KX.upd {d : Addr} {H H' : Hp} {l : Addr} {o : HO} (k : KX d H H') (f : Fre d H l) : KX d H (upd H' l o) := fun b u e nd nt => by
  by_cases z : b = l
  · subst z
    exact (f u e nd nt).elim
  · rw [upd_ne z]
    exact k b u e nd nt
theorem _root_.Lk.But.kx {d : Addr} {H H' : Hp} (b : But d H H') : KX d H H' := fun c o e n _ => b c o e n
theorem kx_ext {d : Addr} {H H' : Hp} (s : ExtN H H') : KX d H H' := fun c o e _ n => s c o e n
/-- the script's list is not at l, or it is the module's -/
def Off (K : PySem.W.Frag) (sc : Addr) (ns : List Int) (l : Addr) : Prop := sc ≠ l ∨ ∀ H, SqL K H sc (ns.map V.int)
theorem off_new {K : PySem.W.Frag} {H : Hp} {sc l : Addr} {ns : List Int} (s : SqL K H sc (ns.map V.int)) (n : ∀ xs : List V, H l = some (.lst xs) → False) (n2 : ∀ o u, H l = some (.frz o u) → False) : Off K sc ns l := by
  rcases s with (h | ⟨o, h⟩) | h
  · exact .inl fun z => by subst z; exact n _ h
  · exact .inl fun z => by subst z; exact n2 _ _ h
  · exact .inr fun H => .inr h
theorem Dr.updO {K : PySem.W.Frag} {H : Hp} {d sc l : Addr} {ns : List Int} {o : HO} (h : Dr K H d sc ns) (f : Off K sc ns l) (nd : l ≠ d) : Dr K (L2.upd H l o) d sc ns := by
  obtain ⟨b1, k1, a1, a2, a3, a4, a5⟩ := h
  refine ⟨b1, k1, by rw [upd_ne nd.symm]; exact a1, ?_, a3, a4, a5⟩
  rcases f with f | f
  · rcases a2 with (h | ⟨u, h⟩) | h
    · exact .inl (.inl (by rw [upd_ne f]; exact h))
    · exact .inl (.inr ⟨u, by rw [upd_ne f]; exact h⟩)
    · exact .inr h
  · exact f _
theorem Dr.sq {K : PySem.W.Frag} {H : Hp} {d sc : Addr} {ns : List Int} (h : Dr K H d sc ns) : SqL K H sc (ns.map V.int) := by
  obtain ⟨_, _, _, a2, _⟩ := h
  exact a2
theorem Dr.off {K : PySem.W.Frag} {H : Hp} {d sc l : Addr} {ns : List Int} (h : Dr K H d sc ns) (n : H l = none) : Off K sc ns l := off_new h.sq (fun xs e => by rw [n] at e; cases e) fun o u e => by rw [n] at e; cases e
theorem Dr.neq {K : PySem.W.Frag} {H : Hp} {d sc l : Addr} {ns : List Int} {o : HO} (h : Dr K H d sc ns) (e : H l = some o) (n : ∀ xs, o ≠ .lst xs) : l ≠ d := fun z => by
  obtain ⟨_, _, a1, _⟩ := h
  rw [z, a1] at e
  exact n _ (Option.some.inj e).symm
theorem Dr.ext {K : PySem.W.Frag} {H H' : Hp} {d sc : Addr} {ns : List Int} (h : Dr K H d sc ns) (s : ExtN H H') : Dr K H' d sc ns := by
  obtain ⟨b1, k1, a1, a2, a3, a4, a5⟩ := h
  refine ⟨b1, k1, s _ _ a1 (fun ps z => by cases z), ?_, a3, a4, a5⟩
  rcases a2 with (h | ⟨u, h⟩) | h
  · exact .inl (.inl (s _ _ h (fun ps z => by cases z)))
  · exact .inl (.inr ⟨u, s _ _ h (fun ps z => by cases z)⟩)
  · exact .inr h
theorem codeO_lst {c : Addr} {q : Str} : (∀ xs, CodeO c q ≠ .lst xs) ∧ ∀ kvs, CodeO c q ≠ .dK kvs := ⟨(fun xs z => by unfold CodeO at z; cases z), (fun xs z => by unfold CodeO at z; cases z)⟩
theorem tabs_but {K : PySem.W.Frag} {T : List (Addr × Str)} {H H' : Hp} {d sc : Addr} {ns : List Int} (t : Tabs T H) (D : Dr K H d sc ns) (b : But d H H') : Tabs T H' := fun p hp => by
  obtain ⟨ps, h1, h2, h3⟩ := t p hp
  refine ⟨ps, b _ _ h1 (D.neq h1 fun xs z => by cases z), h2, fun pos cv hc => ?_⟩
  obtain ⟨c, e1, e2⟩ := h3 pos cv hc
  exact ⟨c, e1, b _ _ e2 (D.neq e2 codeO_lst.1)⟩
theorem tabs_upd {T : List (Addr × Str)} {H : Hp} {l : Addr} {o : HO} (t : Tabs T H) (h : H l = none ∨ (∃ kvs, H l = some (.dK kvs)) ∨ ∃ xs, H l = some (.lst xs)) : Tabs T (upd H l o) := fun p hp => by
  have ne : ∀ b u, H b = some u → (∀ xs, u ≠ .lst xs) → (∀ kvs, u ≠ .dK kvs) → b ≠ l := fun b u e n1 n2 z => by
    subst z
    rcases h with h | ⟨kvs, h⟩ | ⟨xs, h⟩
    · rw [h] at e; cases e
    · rw [h] at e; exact n2 _ (Option.some.inj e).symm
    · rw [h] at e; exact n1 _ (Option.some.inj e).symm
  obtain ⟨ps, h1, h2, h3⟩ := t p hp
  refine ⟨ps, by rw [upd_ne (ne _ _ h1 (fun xs z => by cases z) (fun xs z => by cases z))]; exact h1, h2, fun pos cv hc => ?_⟩
  obtain ⟨c, e1, e2⟩ := h3 pos cv hc
  exact ⟨c, e1, by rw [upd_ne (ne _ _ e2 codeO_lst.1 codeO_lst.2)]; exact e2⟩
theorem mkT_upd {H : Hp} {mm l : Addr} {cs rs : List V} {o : HO} (m : MkT H mm cs rs) (h : H l = none ∨ (∃ kvs, H l = some (.dK kvs)) ∨ ∃ xs, H l = some (.lst xs)) : MkT (upd H l o) mm cs rs := by
  have ne : ∀ b xs, H b = some (.tup xs) → b ≠ l := fun b xs e z => by
    subst z
    rcases h with h | ⟨kvs, h⟩ | ⟨xs, h⟩ <;> (rw [h] at e; cases e)
  obtain ⟨ca, ra, h1, h2, h3⟩ := m
  exact ⟨ca, ra, by rw [upd_ne (ne _ _ h1)]; exact h1, by rw [upd_ne (ne _ _ h2)]; exact h2, by rw [upd_ne (ne _ _ h3)]; exact h3⟩
/-- draws, tables, marks: all that stands, and what was there at first -/
structure Sta (K : PySem.W.Frag) (T : List (Addr × Str)) (d sc : Addr) (ns : List Int) (mm : Addr) (cs rs : List V) (H0 H : Hp) : Prop where
  k : KX d H0 H
  D : Dr K H d sc ns
  t : Tabs T H
  m : MkT H mm cs rs
section
variable {K : PySem.W.Frag} {T : List (Addr × Str)} {d sc l : Addr} {ns : List Int} {mm : Addr} {cs rs : List V} {H0 H H' : Hp} {o : HO}
theorem Sta.but (s : Sta K T d sc ns mm cs rs H0 H) (b : But d H H') (D' : Dr K H' d sc ns) : Sta K T d sc ns mm cs rs H0 H' := by
  obtain ⟨ca, ra, h1, h2, h3⟩ := s.m
  exact ⟨s.k.trans b.kx, D', tabs_but s.t s.D b, ca, ra, b _ _ h1 (s.D.neq h1 fun xs z => by cases z), b _ _ h2 (s.D.neq h2 fun xs z => by cases z), b _ _ h3 (s.D.neq h3 fun xs z => by cases z)⟩
theorem Sta.same (s : Sta K T d sc ns mm cs rs H0 H) (b : Same H H') : Sta K T d sc ns mm cs rs H0 H' := s.but (b.but d) (b.dr s.D)
theorem Sta.ext (s : Sta K T d sc ns mm cs rs H0 H) (b : ExtN H H') (t : Tabs T H') : Sta K T d sc ns mm cs rs H0 H' := ⟨s.k.trans (kx_ext b), s.D.ext b, t, s.m.ext b⟩
theorem Sta.new (s : Sta K T d sc ns mm cs rs H0 H) (n : H l = none) : Sta K T d sc ns mm cs rs H0 (upd H l o) := s.same ((Same.refl H).upd n)
theorem Sta.put (s : Sta K T d sc ns mm cs rs H0 H) (f : Fre d H0 l) (fo : Off K sc ns l) (nd : l ≠ d) (h : (∃ kvs, H l = some (.dK kvs)) ∨ ∃ xs, H l = some (.lst xs)) : Sta K T d sc ns mm cs rs H0 (upd H l o) :=
  ⟨s.k.upd f, s.D.updO fo nd, tabs_upd s.t (.inr h), mkT_upd s.m (.inr h)⟩
theorem Sta.mt (s : Sta K T d sc ns mm cs rs H0 H) : ∃ ca ra, H mm = some (.tup [.ref ca, .ref ra]) ∧ H ca = some (.tup cs) ∧ H ra = some (.tup rs) := s.m
end
end Lk
/-! _law_changed_right -/
namespace Lk
open PySem PySem.Spec PyProof.Rows L2
open LamX (TabB Tabs TabS ExtN CodeO GivesTo tLam LamS lamSB lamS_by lamCx lamEnv)
/-- the name of the code objects of the def's lambdas -/
def qL1 : Str := (envOfC "_law_changed_right" (defScope sChg) 0 0 .none).qual ++ "<lambda>"
def spChg (K : PySem.W.Frag) (T : List (Addr × Str)) : Sp := fun vs H Q _ => ∃ d mm sc ns cs rs, vs = [.ref d, .ref mm] ∧ Dr K H d sc ns ∧ Tabs T H ∧ MkT H mm cs rs ∧ Gm cs rs ∧ ∀ H', KX d H H' → Dr K H' d sc ns → Tabs T H' → Q (.bl true) H'
theorem ixN_nat {n i : Nat} (h : i < n) : ixN n (i : Int) = some i := by
  unfold ixN
  rw [if_pos (by omega), if_pos (by omega)]
  simp
theorem eq_lists {K : PySem.W.Frag} {H : Hp} {a b : Addr} {xs ys : List V} {Q : VK} (ha : SqL K H a xs) (hb : SqL K H b ys) (hx : ∀ x ∈ xs, smp x = true) (hy : ∀ y ∈ ys, smp y = true) (q : Q (.bl (decide (xs = ys))) H) : rEqD K (.ref a) (.ref b) H Q := by
  refine ⟨_, _, .lst ha (dpAll_smp hx), .lst hb (dpAll_smp hy), shaped_l (can_smp hx).1 (can_smp hx).2 (by decide), shaped_l (can_smp hy).1 (can_smp hy).2 (by decide), ?_⟩
  show Q (.bl (PyData.eqvAll _ _)) H
  rw [eqvAll_smp hx hy]
  exact q
/-- "c" if len(marks[1]) < 3 else "e" -/
def tKey : TE := fun σ H Q => ∃ mm ca ra rs, σ[1]? = some (some (.ref mm)) ∧ H mm = some (.tup [.ref ca, .ref ra]) ∧ H ra = some (.tup rs) ∧ Q (.str (if rs.length < 3 then "c" else "e")) H
theorem key_imp {K : PySem.W.Frag} (σ : L2.St) (H : Hp) (Q : VK) (h : tKey σ H Q) : tIf (tB (tLt (tCB (fun xs H Q => ∃ x n, xs = [x] ∧ LenV K x H n ∧ Q (.int n) H) (tCons (tOp (rIxT K) (tVar 1) (tC (.int 1))) tNil)) (tC (.int 3)))) (tC (.str "c")) (tC (.str "e")) σ H Q := by
  obtain ⟨mm, ca, ra, rs, e1, hm, hr, q⟩ := h
  refine ⟨_, e1, mm, _, 1, _, rfl, rfl, .of hm, at1, _, rs.length, rfl, .inr ⟨rs, .of hr, rfl⟩, _, _, rfl, rfl, _, rfl, ?_⟩
  by_cases hl : rs.length < 3
  · rw [if_pos hl] at q
    show if decide ((rs.length : Int) < 3) = true then tC (V.str "c") σ H Q else tC (V.str "e") σ H Q
    rw [decide_eq_true (by omega : (rs.length : Int) < 3)]
    exact iteT q
  · rw [if_neg hl] at q
    show if decide ((rs.length : Int) < 3) = true then tC (V.str "c") σ H Q else tC (V.str "e") σ H Q
    rw [decide_eq_false (by omega : ¬ (rs.length : Int) < 3)]
    exact iteF q
theorem key_no {cs rs : List V} (g : Gm cs rs) : ∀ x ∈ ([.int 2, .str "d", .non, .str (if rs.length < 3 then "c" else "e")] : List V), mkOf cs rs x = none ∧ TxtOk x ∧ (x = .non ∨ ∃ k, x = kV k) := by
  obtain ⟨l1, l2, l3, l4⟩ := g.len
  have e2 : cs[2]? = none := List.getElem?_eq_none l2
  have d1 : regIx "d" = none ∧ regIx "e" = none ∧ regIx "c" = some 2 := by decide +kernel
  intro x hx
  have hx : x = .int 2 ∨ x = .str "d" ∨ x = .non ∨ x = .str (if rs.length < 3 then "c" else "e") := by simpa using hx
  rcases hx with h | h | h | h <;> subst h
  · exact ⟨e2, (fun z e => by cases e), .inr ⟨.inl 2, rfl⟩⟩
  · refine ⟨?_, (fun z e => by cases e; decide +kernel), .inr ⟨.inr "d", rfl⟩⟩
    show (regIx "d").bind (fun i => rs[i]?) = none
    rw [d1.1]
    rfl
  · exact ⟨rfl, (fun z e => by cases e), .inl rfl⟩
  · by_cases h : rs.length < 3
    · rw [if_pos h]
      refine ⟨?_, (fun z e => by cases e; decide +kernel), .inr ⟨.inr "c", rfl⟩⟩
      show (regIx "c").bind (fun i => rs[i]?) = none
      rw [d1.2.2]
      exact List.getElem?_eq_none (by omega)
    · rw [if_neg h]
      refine ⟨?_, (fun z e => by cases e; decide +kernel), .inr ⟨.inr "e", rfl⟩⟩
      show (regIx "e").bind (fun i => rs[i]?) = none
      rw [d1.2.1]
      rfl
/-- bad[key] = 0 -/
theorem bad_rd {cs rs : List V} {kvs : List (Key × V)} {H : Hp} {D : Ends} {σ : L2.St} {bd : Addr} {x : V} (h9 : σ[9]? = some (some (.ref bd))) (h10 : σ[10]? = some (some x)) (hb : H bd = some (.dK kvs)) (hz : kvs.length ≤ 100) (ck : ChK cs rs kvs) (hm : mkOf cs rs x = none) (ht : TxtOk x) (hk : x = .non ∨ ∃ k, x = kV k)
    (h : ∀ o, (∀ ps, o ≠ .tbl ps) → (∀ H', H' bd = some o → BadY H' cs rs (.ref bd) "dict") → D.nx σ (upd H bd o)) : sDPutN (tVar 9) (tVar 10) (tC (.int 0)) D σ H := by
  refine ⟨_, h9, _, h10, bd, rfl, ?_⟩
  rcases hk with rfl | ⟨k, rfl⟩
  · refine .inr ⟨kvs, rfl, hb, fun o lo ko => h _ (fun ps => dicO_ne ps) fun H' e' => .dn e' lo ko ?_ (fun y hy => ?_) ?_⟩
    · rw [List.length_append, List.length_map]
      show kvs.length + 1 ≤ 1000
      omega
    · rcases List.mem_append.mp hy with hy | hy
      · obtain ⟨p, hp, rfl⟩ := List.mem_map.mp hy
        exact ⟨.inr ⟨p.1, rfl⟩, (plF_ok (H := H) (ck.p p hp)).2⟩
      · rw [List.mem_singleton.mp hy]
        exact ⟨.inl rfl, ht⟩
    · rw [List.all_append]
      have : ([V.non].all fun x => (mkOf cs rs x).isSome) = false := rfl
      rw [this, Bool.and_false]
  · refine .inl ⟨_, DPut.k hb (small1000 (by omega)), h _ (fun ps z => by cases z) fun H' e' => .dk e' ⟨Nat.le_trans (putK_len1 _ _ _) (by omega), fun p hp => ?_, fun p hp => ?_⟩ ?_⟩
    · rcases putK_mem hp with hp | ⟨e, _⟩
      · exact (plF_ok (H := H) (ck.p p hp)).2
      · rw [e]; exact ht
    · rcases putK_mem hp with hp | ⟨_, e⟩
      · exact held_kd (ck.v p hp)
      · rw [e]; exact .int 0
    · have : ((putK kvs k (.int 0)).all fun p => (mkOf cs rs (kV p.1)).isSome) = false := by
        obtain ⟨p, hp, e⟩ := putK_has kvs k (.int 0)
        cases q : ((putK kvs k (.int 0)).all fun p => (mkOf cs rs (kV p.1)).isSome) with
        | false => rfl
        | true =>
          have := List.all_eq_true.mp q p hp
          rw [e, hm] at this
          cases this
      rw [this, Bool.false_and]
theorem mark_v {v : V} (h : v ∈ ([.non, .int 0, .int 5, .int 9] : List V)) : heldB v 9 = true := by
  have h : v = .non ∨ v = .int 0 ∨ v = .int 5 ∨ v = .int 9 := by simpa using h
  rcases h with h | h | h | h <;> subst h <;> decide
theorem wrong_v {H : Hp} {T : Addr} {v : V} (hT : H T = some (.tup [.int 0])) (h : v ∈ ([.int 10, .int (-1), .str "0", .bl true, .ref T] : List V)) : heldB v 9 = false ∧ Kd H v := by
  have h : v = .int 10 ∨ v = .int (-1) ∨ v = .str "0" ∨ v = .bl true ∨ v = .ref T := by simpa using h
  rcases h with h | h | h | h | h <;> subst h
  · exact ⟨by decide, .int _⟩
  · exact ⟨by decide, .int _⟩
  · exact ⟨rfl, .str _⟩
  · exact ⟨rfl, .bl _⟩
  · exact ⟨rfl, .tup hT⟩
theorem plF_ne {cs rs : List V} (g : Gm cs rs) : plF cs rs ≠ [] := fun z => by
  have := plF_len g
  have := g.len
  rw [z] at *
  simp at *
  omega
theorem marks_smp : ∀ x ∈ List.replicate 4 (V.str "marks"), smp x = true := fun x hx => by rw [List.eq_of_mem_replicate hx]; decide +kernel
end Lk
/-! _law_changed_right, its lambdas -/
namespace Lk
open PySem PySem.Spec PyProof.Rows L2
open LamX (TabB Tabs TabS ExtN CodeO GivesTo tLam LamS lamSB lamS_by lamCx lamEnv)
/-- a statement of the def -/
def stC (i : Nat) : Stmt := (defBody sChg).getD i (.Pass ⟨0, 0, 0, 0⟩)
section
variable {P : Program} {w : World} {K : PySem.W.Frag} {mg : Str → Option Value} {base : Heap} {f C BM BP fI c1 P1 go : Addr} {fdI : FuncData} {T : List (Addr × Str)} {A : Around} {outer : List Env} {s : Shared} {H : Hp} {E : XK}
theorem ps_chg10 (TB : TabB base mg c1 P1) (hT : (P1, qL1) ∈ T) (hu : ∀ p ∈ T, p.1 = P1 → p.2 = qL1) (g : Gs mg) (m : Ms P w K mg base C BM BP fI fdI) (ak : AskF K mg) (Fo : FnR P w K mg base (L2.CX P w) 6 go (spOr C BM)) (hr : Room 8 (A.deeper (envOfC "_law_changed_right" (defScope sChg) s.heap.objs.size f (.ref c1)))) :
    PS (cxOf CX0 P w K mg base nChg "_law_changed_right" (defScope sChg) f (.ref c1) A outer s H E).nox (stC 10)
      (tRet (tOp (rEqD K) (tLc (iList K (tVar 12)) (gName 13) tYes (tLam T (TAsk C BM K) (tOrL K C BM go 13)) [13]) (tOp rRep (tLst (tCons (tC (.str "marks")) tNil)) (tC (.int 4))))) := by
  refine ps_ret (pe_cmpR (op_eqD hr.units) ?_ (pe_op op_rep (pe_lst (pa_cons pe_str pa_nil)) pe_int) (nomark _))
  refine pe_lc (own := [("_law_some", 13)]) (g := gName 13) (tt := tYes) rfl scChg.nd (pi_list (pv 12)) (blkOk_by (N := nChg) (sc := defScope sChg) (by decide +kernel)) (fun _ _ _ _ _ => pg_name (i := 13) scChg.nd rfl (Or.inr rfl)) (fun _ _ _ _ _ => pts_nil) (fun s' H' C' cl fp => ?_)
  refine pe_asked (t := tOrL K C BM go 13) (k := 6) ak m rfl TB rfl hT hu hr (by decide) (lamS_by (by kernel_rfl)) rfl (fun _ _ _ _ _ => rfl) (fun A outer s H E f c' hr2 => ?_)
  exact pe_op (op_binK Fo hr2 (passes_call (takes_of rfl rfl rfl rfl) (fun _ _ _ _ h => h))) (pe_Marks (E := E) m.I.M m.I.G m.I.b (hr2.mono (by decide)) rfl (passes_call (takes_of rfl rfl rfl rfl) (fun _ _ _ _ h => h)) (pa_cons (pe_ix ix_tup (pv 1) pe_int (fun _ _ => rfl)) (pa_cons (pe_ix ix_tup (pv 1) pe_int (fun _ _ => rfl)) pa_nil))) (pv 13)
theorem ps_chg3 (TB : TabB base mg c1 P1) (hT : (P1, qL1) ∈ T) (hu : ∀ p ∈ T, p.1 = P1 → p.2 = qL1) (m : Ms P w K mg base C BM BP fI fdI) (ak : AskF K mg) (Fo : FnR P w K mg base (L2.CX P w) 6 go (spOr C BM)) (hr : Room 8 (A.deeper (envOfC "_law_changed_right" (defScope sChg) s.heap.objs.size f (.ref c1)))) :
    PS (cxOf CX0 P w K mg base nChg "_law_changed_right" (defScope sChg) f (.ref c1) A outer s H E).nox (stC 3)
      (tIfS (tTest (tOp (rNeD K) (tLam T (TAsk C BM K) (tOrL K C BM go 2)) (tVar 8))) (tRet (tC (.bl false))) tNext) := by
  refine ps_if (pt_cmpR (op_neD hr.units) ?_ (pv 8) (nomark _)) (pss_one (ps_ret pe_bl)) pss_nil
  refine pe_asked (t := tOrL K C BM go 2) (k := 6) ak m rfl TB rfl hT hu hr (by decide) (lamS_by (by kernel_rfl)) rfl (fun _ _ _ _ _ => rfl) (fun A outer s H E f c' hr2 => ?_)
  exact pe_op (op_binK Fo hr2 (passes_call (takes_of rfl rfl rfl rfl) (fun _ _ _ _ h => h))) (pe_Marks (E := E) m.I.M m.I.G m.I.b (hr2.mono (by decide)) rfl (passes_call (takes_of rfl rfl rfl rfl) (fun _ _ _ _ h => h)) (pa_cons (pe_ix ix_tup (pv 1) pe_int (fun _ _ => rfl)) (pa_cons (pe_ix ix_tup (pv 1) pe_int (fun _ _ => rfl)) pa_nil))) (pv 2)
end
end Lk
/-! _law_changed_right, walked -/
namespace Lk
open PySem PySem.Spec PyProof.Rows L2
open LamX (TabB Tabs TabS ExtN CodeO GivesTo tLam LamS lamSB lamS_by lamCx lamEnv)
section
variable {P : Program} {w : World} {K : PySem.W.Frag} {mg : Str → Option Value} {base : Heap} {f C BM BP fI c1 P1 : Addr} {fd fdI : FuncData} {T : List (Addr × Str)}
theorem ok_chg (F : FnS K "_law_changed_right" "_law_changed_right" sChg f fd) (hcode : fd.code = .ref c1) (TB : TabB base mg c1 P1) (hT : (P1, qL1) ∈ T) (hu : ∀ p ∈ T, p.1 = P1 → p.2 = qL1) (g : Gs mg) (m : Ms P w K mg base C BM BP fI fdI) (ak : AskF K mg)
    (cn : Cal P w K mg base CX0 3 "_law_next" ["_law_draw_here", "_law_bound"] (spNext K)) (ck : Cal P w K mg base CX0 4 "_law_pick" nPick (spPick K)) (cp : Cal P w K mg base CX0 1 "_law_places" nPlaces spPlaces) :
    FnOk P w K mg base CX0 9 f fd ["_law_draw_here", "_law_marks"] (spChg K T) := by
  obtain ⟨go, ho1, ho2, ho3, Fo⟩ := m.orr.ex
  have hB : ∀ T, T = "NoneType" ∨ T = "dict" ∨ T = "list" → BinT K C go .BitOr T := fun T h => m.orT T h go ho1
  refine okC F scChg (fun vs H Q E h => ?_) ?_
  · obtain ⟨d, mm, sc, ns, cs, rs, rfl, _⟩ := h
    rfl
  intro cdv ecd A outer s H vs Q E hr h
  obtain rfl : cdv = .ref c1 := ecd.symm.trans hcode
  refine ⟨_, PSs.nox (pss_cons
    (ps_asg (pe_tup (pa_cons pe_dnewK (pa_cons (pe_callTy call_list_of rfl g.list (by decide +kernel) (pa_cons (pe_ix ix_tup (pv 1) pe_int (fun _ _ => rfl)) pa_nil)) (pa_cons (pe_callTy call_list_of rfl g.list (by decide +kernel) (pa_cons (pe_ix ix_tup (pv 1) pe_int (fun _ _ => rfl)) pa_nil)) pa_nil))))
      (pg_tup rfl (pgs_cons (pg_name (i := 2) scChg.nd rfl (Or.inr rfl)) (pgs_cons (pg_name (i := 3) scChg.nd rfl (Or.inl rfl)) (pgs_cons (pg_name (i := 4) scChg.nd rfl (Or.inl rfl)) pgs_nil)))))
    (pss_cons (ps_for PassesOwn.never rfl (pi_range1 rfl g.range (pa_cons (pe_c cn (hr.mono (by decide)) rfl pass0 (pa_cons (pv 0) (pa_cons pe_int pa_nil))) pa_nil)) (pg_name (i := 5) scChg.nd rfl (Or.inl rfl))
      (pss_cons (ps_par (i := 6) (j := 7) rfl scChg.nd rfl rfl (by decide) rfl rfl (pa_cons (pe_c ck (hr.mono (by decide)) rfl pass0 (pa_cons (pv 0) (pa_cons (pe_c cp (hr.mono (by decide)) rfl pass0 (pa_cons (pv 1) pa_nil)) pa_nil)))
        (pa_cons (pe_c ck (hr.mono (by decide)) rfl pass0 (pa_cons (pv 0) (pa_cons (pe_lst (pa_cons pe_non (pa_cons pe_int (pa_cons pe_int (pa_cons pe_int pa_nil))))) pa_nil))) pa_nil)) rfl)
      (pss_cons (ps_dput (hu_of hr) (pv 2) (pv 6) (pv 7) rfl)
      (pss_one (ps_if (pt_val (pe_callB call_isi rfl g.isi (by decide +kernel) (pa_cons (pv 6) (pa_cons (pe_bltn (v := .ty "str") rfl g.str (by decide +kernel) rfl) pa_nil))))
        (pss_one (ps_asg (pv 7) (pg_sub (pv 4) (pe_bm PySem.F.plainAttrs_str PySem.F.slot_str_index PySem.F.type_str_index mt_sindex pe_str (pa_cons (pv 6) pa_nil)) set_list)))
        (pss_one (ps_asg (pv 7) (pg_sub (pv 3) (pv 6) set_list))))))))
    (pss_cons (ps_set (i := 8) scChg.nd rfl (Or.inl rfl) (pe_tup (pa_cons (pe_callTy call_tuple_of rfl g.tuple (by decide +kernel) (pa_cons (pv 3) pa_nil)) (pa_cons (pe_callTy call_tuple_of rfl g.tuple (by decide +kernel) (pa_cons (pv 4) pa_nil)) pa_nil))))
    (pss_cons (ps_chg3 (A := A) (outer := outer) (s := s) (H := H) (E := E) TB hT hu m ak Fo hr)
    (pss_cons (ps_set (i := 9) scChg.nd rfl (Or.inl rfl) (pe_callTy call_dictD rfl g.dict (by decide +kernel) (pa_cons (pv 2) pa_nil)))
    (pss_cons (ps_set (i := 10) scChg.nd rfl (Or.inl rfl) (pe_c ck (hr.mono (by decide)) rfl pass0 (pa_cons (pv 0) (pa_cons (pe_lst (pa_cons pe_int (pa_cons pe_str (pa_cons pe_non (pa_cons
      (PE.imp (t' := tKey) (pe_ifExp (pt_cmp (pc_lt (pe_callB call_len rfl g.len boot_len (pa_cons (pe_ix ix_tup (pv 1) pe_int (fun _ _ => rfl)) pa_nil)) pe_int)) pe_str pe_str) key_imp) pa_nil))))) pa_nil))))
    (pss_cons (ps_dputN (hu_of hr) (pv 9) (pv 10) pe_int rfl)
    (pss_cons (ps_set (i := 11) scChg.nd rfl (Or.inl rfl) (pe_callTy call_dictD rfl g.dict (by decide +kernel) (pa_cons (pv 2) pa_nil)))
    (pss_cons (ps_dput (hu_of hr) (pv 11) pe_str (pe_c ck (hr.mono (by decide)) rfl pass0 (pa_cons (pv 0) (pa_cons (pe_lst (pa_cons pe_int (pa_cons (pe_un un_neg pe_int) (pa_cons pe_str (pa_cons pe_bl (pa_cons (pe_tup (pa_cons pe_int pa_nil)) pa_nil)))))) pa_nil))) rfl)
    (pss_cons (ps_set (i := 12) scChg.nd rfl (Or.inl rfl) (pe_lst (pa_cons (pv 9) (pa_cons (pv 11) (pa_cons pe_non (pa_cons (pe_lst (pa_cons (pe_tup (pa_cons pe_int (pa_cons pe_int pa_nil))) pa_nil)) pa_nil))))))
    (pss_one (ps_chg10 (A := A) (outer := outer) (s := s) (H := H) (E := E) TB hT hu g m ak Fo hr)))))))))))), ?_⟩
  obtain ⟨d, mm, sc, ns, cs, rs, rfl, D0, t0, m0, gm, q⟩ := h
  obtain ⟨l1, l2, l3, l4⟩ := gm.len
  have S0 : Sta K T d sc ns mm cs rs H H := ⟨KX.refl d H, D0, t0, m0⟩
  obtain ⟨ca, ra, hm0, hc0, hr0⟩ := id m0
  -- the dict, the two lists
  intro dc ndc
  have a1 := (Same.refl H).upd ndc (o := .dK [])
  refine ⟨_, rfl, mm, _, 0, _, rfl, rfl, .of (a1 _ _ hm0), at0, ca, cs, rfl, .inr (.of (a1 _ _ hc0)), fun lc nlc => ?_⟩
  have a2 := (Same.refl (upd H dc (.dK []))).upd nlc (o := .lst cs)
  refine ⟨_, rfl, mm, _, 1, _, rfl, rfl, .of (a2 _ _ (a1 _ _ hm0)), at1, ra, rs, rfl, .inr (.of (a2 _ _ (a1 _ _ hr0))), fun lr nlr => ?_⟩
  have a3 := (Same.refl (upd (upd H dc (.dK [])) lc (.lst cs))).upd nlr (o := .lst rs)
  refine ⟨by show 3 ≤ sizeLine; decide, fun T1 nT1 => ⟨T1, _, rfl, .of upd_same, rfl, _, _, rfl, _, _, rfl, _, _, rfl, rfl, ?_⟩⟩
  have a4 := (Same.refl (upd (upd (upd H dc (.dK [])) lc (.lst cs)) lr (.lst rs))).upd nT1 (o := .tup [.ref dc, .ref lc, .ref lr])
  have b2 := a1.free nlc
  have b3 := (a1.trans a2).free nlr
  have fdc : Fre d H dc := fun o e _ _ => by rw [ndc] at e; cases e
  have flc : Fre d H lc := fun o e _ _ => by rw [b2] at e; cases e
  have flr : Fre d H lr := fun o e _ _ => by rw [b3] at e; cases e
  have odc := D0.off ndc
  have olc := D0.off b2
  have olr := D0.off b3
  have xdc := D0.ne ndc
  have xlc := D0.ne b2
  have xlr := D0.ne b3
  have S1 := S0.same (((a1.trans a2).trans a3).trans a4)
  have hdc1 := a4 _ _ (a3 _ _ (a2 _ _ (upd_same (H := H) (a := dc) (o := .dK []))))
  have hlc1 := a4 _ _ (a3 _ _ (upd_same (H := upd H dc (.dK [])) (a := lc) (o := .lst cs)))
  have hlr1 := a4 _ _ (upd_same (H := upd (upd H dc (.dK [])) lc (.lst cs)) (a := lr) (o := .lst rs))
  have ncl : dc ≠ lc := ne_of hdc1 hlc1 (by intro z; cases z)
  have ncr : dc ≠ lr := ne_of hdc1 hlr1 (by intro z; cases z)
  have nlr' : lc ≠ lr := fun z => by
    rw [z] at nlc
    rw [← z, upd_same] at nlr
    cases nlr
  show tSeq _ _ _ _ (upd (upd (upd (upd H dc (.dK [])) lc (.lst cs)) lr (.lst rs)) T1 (.tup [.ref dc, .ref lc, .ref lr]))
  generalize upd (upd (upd (upd H dc (.dK [])) lc (.lst cs)) lr (.lst rs)) T1 (.tup [.ref dc, .ref lc, .ref lr]) = H1 at S1 hdc1 hlc1 hlr1 ⊢
  -- for turn in range(next(..))
  refine ⟨_, rfl, d, sc, ns, 4, rfl, S1.D, by decide, fun r H2 bb DD r0 r1 => ⟨r, rfl, by omega, by omega, ?_⟩⟩
  have S2 := S1.but bb DD
  refine for_range (n := r.toNat) (fun i σ H' => ∃ kvs v5 v6 v7, σ = [some (.ref d), some (.ref mm), some (.ref dc), some (.ref lc), some (.ref lr), v5, v6, v7, none, none, none, none, none, none] ∧ Sta K T d sc ns mm cs rs H H' ∧ H' dc = some (.dK kvs) ∧ H' lc = some (.lst (newC kvs cs)) ∧ H' lr = some (.lst (newR kvs rs)) ∧ ChK cs rs kvs ∧ kvs.length ≤ i)
    ⟨[], none, none, none, rfl, S2, bb _ _ hdc1 xdc, by rw [newC_nil]; exact bb _ _ hlc1 xlc, by rw [newR_nil]; exact bb _ _ hlr1 xlr, .nil, Nat.le_refl _⟩ ?_ ?_
  · rintro i σ H' hi ⟨kvs, v5, v6, v7, rfl, S', hdc, hlc, hlr, hck, hlen⟩
    refine ⟨_, rfl, _, rfl, mm, cs, rs, rfl, S'.m, gm, fun Ha pl sa npl hpl => ?_⟩
    have Sa := S'.same sa
    refine ⟨d, pl, sc, ns, plF cs rs, rfl, Sa.D, hpl, S'.D.ne npl, plF_ne gm, fun x Hb hx bb2 Db => ?_⟩
    have Sb := Sa.but bb2 Db
    refine ⟨_, rfl, by show 4 ≤ sizeLine; decide, fun l2 nl2 => ?_⟩
    have Sb2 := Sb.new nl2 (o := .lst [.non, .int 0, .int 5, .int 9])
    refine ⟨d, l2, sc, ns, [.non, .int 0, .int 5, .int 9], rfl, Sb2.D, upd_same, Sb.D.ne nl2, by decide, fun v Hc hv bc Dc => ?_⟩
    have Sc := Sb2.but bc Dc
    have keep : ∀ b o, H' b = some o → b ≠ d → Hc b = some o := fun b o e n => bc _ _ (((Same.refl Hb).upd nl2) _ _ (bb2 _ _ (sa _ _ e) n)) n
    have hdc' := keep _ _ hdc xdc
    have hlc' := keep _ _ hlc xlc
    have hlr' := keep _ _ hlr xlr
    have hv9 := mark_v hv
    refine ⟨x, v, rfl, ?_⟩
    obtain ⟨u, hu'⟩ := plF_has hx
    have hsz : kvs.length < sizeLine := small1000 (by omega)
    rcases mk_cases hu' with ⟨j, rfl, ej⟩ | ⟨z, j, rfl, ez, ej⟩
    · -- a column
      refine ⟨_, rfl, _, rfl, _, rfl, dc, _, rfl, DPut.k (k := Sum.inl (j : Int)) hdc' hsz, ?_⟩
      have Sd := Sc.put fdc odc xdc (.inl ⟨_, hdc'⟩) (o := .dK (putK kvs (Sum.inl (j : Int)) v))
      refine ⟨_, rfl, _, .ty "str", .type "int", .type "str", false, rfl, .ty _, .base (.int _), kit_ty (by decide +kernel), _, rfl, iteF ?_⟩
      have e1 : (upd Hc dc (.dK (putK kvs (Sum.inl (j : Int)) v))) lc = some (.lst (newC kvs cs)) := by rw [upd_ne ncl.symm]; exact hlc'
      have hj : j < (newC kvs cs).length := by unfold newC; rw [List.length_mapIdx]; exact (List.getElem?_eq_some_iff.mp ej).1
      refine ⟨_, rfl, _, rfl, _, rfl, lc, _, _, j, rfl, rfl, e1, ixN_nat hj, ?_⟩
      have Se := Sd.put flc olc xlc (.inr ⟨_, e1⟩) (o := .lst ((newC kvs cs).set j v))
      exact ⟨putK kvs (Sum.inl (j : Int)) v, _, _, _, rfl, Se, by rw [upd_ne ncl, upd_same], by rw [upd_same, newC_putI], by rw [upd_ne nlr'.symm, upd_ne ncr.symm, newR_putI]; exact hlr', hck.put hx hv9, Nat.le_trans (putK_len1 _ _ _) (by omega)⟩
    · -- a register
      have ezr := regIx_at ez
      refine ⟨_, rfl, _, rfl, _, rfl, dc, _, rfl, DPut.k (k := Sum.inr z) hdc' hsz, ?_⟩
      have Sd := Sc.put fdc odc xdc (.inl ⟨_, hdc'⟩) (o := .dK (putK kvs (Sum.inr z) v))
      refine ⟨_, rfl, _, .ty "str", .type "str", .type "str", true, rfl, .ty _, .base (.str _), kit_ty (by decide +kernel), _, rfl, iteT ?_⟩
      have e1 : (upd Hc dc (.dK (putK kvs (Sum.inr z) v))) lr = some (.lst (newR kvs rs)) := by rw [upd_ne ncr.symm]; exact hlr'
      have hj : j < (newR kvs rs).length := by unfold newR; rw [List.length_mapIdx]; exact (List.getElem?_eq_some_iff.mp ej).1
      refine ⟨_, rfl, _, rfl, rfl, _, rfl, _, z, j, [], rfl, rfl, occ_ix ez, lr, _, _, j, rfl, rfl, e1, ixN_nat hj, ?_⟩
      have Se := Sd.put flr olr xlr (.inr ⟨_, e1⟩) (o := .lst ((newR kvs rs).set j v))
      subst ezr
      exact ⟨putK kvs (Sum.inr (regAt j)) v, _, _, _, rfl, Se, by rw [upd_ne ncr, upd_same], by rw [upd_ne nlr', upd_ne ncl.symm, newC_putR]; exact hlc', by rw [upd_same, newR_putR], hck.put hx hv9, Nat.le_trans (putK_len1 _ _ _) (by omega)⟩
  · rintro σ H' ⟨kvs, v5, v6, v7, rfl, S', hdc, hlc, hlr, hck, hlen⟩
    have hz : kvs.length ≤ 100 := by omega
    clear S2 bb DD hdc1 hlc1 hlr1 S1
    -- due
    refine ⟨_, rfl, lc, _, rfl, .inl ⟨.of hlc, fun c1' nc1 => ?_⟩⟩
    have g1 := (Same.refl H').upd nc1 (o := .tup (newC kvs cs))
    refine ⟨_, rfl, lr, _, rfl, .inl ⟨.of (g1 _ _ hlr), fun r1' nr1 => ?_⟩⟩
    have g2 := (Same.refl (upd H' c1' (.tup (newC kvs cs)))).upd nr1 (o := .tup (newR kvs rs))
    refine ⟨by show 2 ≤ sizeLine; decide, fun T2 nT2 => ?_⟩
    have g3 := (Same.refl (upd (upd H' c1' (.tup (newC kvs cs))) r1' (.tup (newR kvs rs)))).upd nT2 (o := .tup [.ref c1', .ref r1'])
    have S3 := S'.same ((g1.trans g2).trans g3)
    have hc3 := g3 _ _ (g2 _ _ (upd_same (H := H') (a := c1') (o := .tup (newC kvs cs))))
    have hr3 := g3 _ _ (upd_same (H := upd H' c1' (.tup (newC kvs cs))) (a := r1') (o := .tup (newR kvs rs)))
    have hT3 : (upd (upd (upd H' c1' (.tup (newC kvs cs))) r1' (.tup (newR kvs rs))) T2 (.tup [.ref c1', .ref r1'])) T2 = some (.tup [.ref c1', .ref r1']) := upd_same
    have hdc3 := g3 _ _ (g2 _ _ (g1 _ _ hdc))
    show tSeq _ _ _ _ (upd (upd (upd H' c1' (.tup (newC kvs cs))) r1' (.tup (newR kvs rs))) T2 (.tup [.ref c1', .ref r1']))
    generalize upd (upd (upd H' c1' (.tup (newC kvs cs))) r1' (.tup (newR kvs rs))) T2 (.tup [.ref c1', .ref r1']) = H3 at S3 hc3 hr3 hT3 hdc3 ⊢
    -- asked(..) != due
    have sC : ∀ x ∈ newC kvs cs, smp x = true := fun x hx => smp_held ((amB_len (hck.amC gm)).2.2 x hx)
    have sR : ∀ x ∈ newR kvs rs, smp x = true := fun x hx => smp_held ((amB_len (hck.amR gm)).2.2 x hx)
    refine asked_good hB S3.t rfl rfl S3.m gm hdc3 hck (by omega) fun H4 R c' r' e4 t4 hR hc' hr' => ?_
    have nt : ∀ {xs : List V}, ∀ ps, HO.tup xs ≠ .tbl ps := fun ps z => by cases z
    refine ⟨_, rfl, ne_pairs (.of hR) (.of (e4 _ _ hT3 nt)) (.of hc') (.of hr') (.of (e4 _ _ hc3 nt)) (.of (e4 _ _ hr3 nt)) sC sR sC sR ⟨_, rfl, ?_⟩⟩
    rw [decide_eq_true rfl, decide_eq_true rfl]
    refine iteF ?_
    have S4 := S3.ext e4 t4
    have hdc4 : H4 dc = some (.dK kvs) := e4 _ _ hdc3 fun ps z => by cases z
    -- bad = dict(changes)
    refine ⟨_, rfl, dc, kvs, rfl, .inl hdc4, fun bd nbd => ?_⟩
    have g5 := (Same.refl H4).upd nbd (o := .dK kvs)
    have S5 := S4.same g5
    have fbd := S4.k.free nbd
    have obd := S4.D.off nbd
    have xbd := S4.D.ne nbd
    have hbd5 : (upd H4 bd (.dK kvs)) bd = some (.dK kvs) := upd_same
    have hdc5 := g5 _ _ hdc4
    have nbdc : bd ≠ dc := fun z => by rw [z, hdc4] at nbd; cases nbd
    show tSeq _ _ _ _ (upd H4 bd (.dK kvs))
    generalize upd H4 bd (.dK kvs) = H5 at S5 hbd5 hdc5 ⊢
    -- key
    refine ⟨_, rfl, ?_⟩
    obtain ⟨cm, rm, hm5, hcm5, hrm5⟩ := S5.mt
    refine ⟨mm, cm, rm, rs, rfl, hm5, hrm5, by show 4 ≤ sizeLine; decide, fun l6 nl6 => ?_⟩
    have S6 := S5.new nl6 (o := .lst [.int 2, .str "d", .non, .str (if rs.length < 3 then "c" else "e")])
    refine ⟨d, l6, sc, ns, [.int 2, .str "d", .non, .str (if rs.length < 3 then "c" else "e")], rfl, S6.D, upd_same, S5.D.ne nl6, (fun z => by cases z), fun x H7 hx b7 D7 => ?_⟩
    have S7 := S6.but b7 D7
    have k7 : ∀ b o, H5 b = some o → b ≠ d → H7 b = some o := fun b o e n => b7 _ _ (((Same.refl H5).upd nl6) _ _ e) n
    have hbd7 := k7 _ _ hbd5 xbd
    have hdc7 := k7 _ _ hdc5 xdc
    obtain ⟨kn1, kn2, kn3⟩ := key_no gm x hx
    -- bad[key] = 0
    refine bad_rd rfl rfl hbd7 hz hck kn1 kn2 kn3 fun ob nob Bb => ?_
    have S8 := S7.put fbd obd xbd (.inl ⟨_, hbd7⟩) (o := ob)
    have hdc8 : (upd H7 bd ob) dc = some (.dK kvs) := by rw [upd_ne nbdc.symm]; exact hdc7
    have hbd8 : (upd H7 bd ob) bd = some ob := upd_same
    show tSeq _ _ _ _ (upd H7 bd ob)
    generalize upd H7 bd ob = H8 at S8 hdc8 hbd8 ⊢
    -- wrong = dict(changes)
    refine ⟨_, rfl, dc, kvs, rfl, .inl hdc8, fun wr nwr => ?_⟩
    have g9 := (Same.refl H8).upd nwr (o := .dK kvs)
    have S9 := S8.same g9
    have fwr := S8.k.free nwr
    have owr := S8.D.off nwr
    have xwr := S8.D.ne nwr
    have hwr9 : (upd H8 wr (.dK kvs)) wr = some (.dK kvs) := upd_same
    have hbd9 := g9 _ _ hbd8
    have nwb : bd ≠ wr := fun z => by rw [← z, hbd8] at nwr; cases nwr
    show tSeq _ _ _ _ (upd H8 wr (.dK kvs))
    generalize upd H8 wr (.dK kvs) = H9 at S9 hwr9 hbd9 ⊢
    -- wrong["a"] = ..
    refine ⟨_, rfl, ?_⟩
    refine ⟨1, rfl, by show 1 ≤ sizeLine; decide, fun T3 nT3 => ?_⟩
    have g10 := (Same.refl H9).upd nT3 (o := .tup [.int 0])
    refine ⟨by show 5 ≤ sizeLine; decide, fun l10 nl10 => ?_⟩
    have g11 := (Same.refl (upd H9 T3 (.tup [.int 0]))).upd nl10 (o := .lst [.int 10, .int (-1), .str "0", .bl true, .ref T3])
    have S11 := S9.same (g10.trans g11)
    have hT11 := g11 _ _ (upd_same (H := H9) (a := T3) (o := .tup [.int 0]))
    have xl10 := (S9.same g10).D.ne nl10
    refine ⟨d, l10, sc, ns, [.int 10, .int (-1), .str "0", .bl true, .ref T3], rfl, S11.D, upd_same, xl10, (fun z => by cases z), fun v H12 hv b12 D12 => ?_⟩
    have S12 := S11.but b12 D12
    have k12 : ∀ b o, H9 b = some o → b ≠ d → H12 b = some o := fun b o e n => b12 _ _ (g11 _ _ (g10 _ _ e)) n
    have hwr12 := k12 _ _ hwr9 xwr
    have hT12 := b12 _ _ hT11 (S11.D.neq hT11 fun xs z => by cases z)
    obtain ⟨wv1, wv2⟩ := wrong_v hT12 hv
    have hbd12 := k12 _ _ hbd9 xbd
    refine ⟨_, rfl, wr, _, rfl, DPut.k (k := Sum.inr "a") hwr12 (small1000 (by omega)), ?_⟩
    have S13 := S12.put fwr owr xwr (.inl ⟨_, hwr12⟩) (o := .dK (putK kvs (Sum.inr "a") v))
    have hbd13 : (upd H12 wr (.dK (putK kvs (Sum.inr "a") v))) bd = some ob := by rw [upd_ne nwb]; exact hbd12
    have hwr13 : (upd H12 wr (.dK (putK kvs (Sum.inr "a") v))) wr = some (.dK (putK kvs (Sum.inr "a") v)) := upd_same
    have Bw : BadY (upd H12 wr (.dK (putK kvs (Sum.inr "a") v))) cs rs (.ref wr) "dict" := by
      refine .dk hwr13 ⟨Nat.le_trans (putK_len1 _ _ _) (by omega), fun p hp => ?_, fun p hp => ?_⟩ ?_
      · rcases putK_mem hp with hp | ⟨e, _⟩
        · exact (plF_ok (H := H12) (hck.p p hp)).2
        · rw [e]
          intro z e'
          cases e'
          decide +kernel
      · rcases putK_mem hp with hp | ⟨_, e⟩
        · exact held_kd (hck.v p hp)
        · rw [e]
          cases wv2 with
          | non => exact .non
          | bl b => exact .bl b
          | int i => exact .int i
          | str z => exact .str z
          | tup e' => exact .tup (by rw [upd_ne (ne_of e' hwr12 (by intro z; cases z))]; exact e')
          | lst e' => exact .lst (by rw [upd_ne (ne_of e' hwr12 (by intro z; cases z))]; exact e')
      · rw [wrong_am l3 wv1, Bool.and_false, Bool.and_false]
    have Bd := Bb _ hbd13
    show tSeq _ _ _ _ (upd H12 wr (.dK (putK kvs (Sum.inr "a") v)))
    generalize upd H12 wr (.dK (putK kvs (Sum.inr "a") v)) = H13 at S13 Bw Bd ⊢
    -- rows
    refine ⟨_, rfl, _, rfl, by show 2 ≤ sizeLine; decide, fun T4 nT4 => ?_⟩
    have g14 := (Same.refl H13).upd nT4 (o := .tup [.int 0, .int 1])
    refine ⟨by show 1 ≤ sizeLine; decide, fun l4' nl4 => ?_⟩
    have g15 := (Same.refl (upd H13 T4 (.tup [.int 0, .int 1]))).upd nl4 (o := .lst [.ref T4])
    have hl15 : (upd (upd H13 T4 (.tup [.int 0, .int 1])) l4' (.lst [.ref T4])) l4' = some (.lst [.ref T4]) := upd_same
    refine ⟨by show 4 ≤ sizeLine; decide, fun rw_ nrw => ?_⟩
    have g16 := (Same.refl (upd (upd H13 T4 (.tup [.int 0, .int 1])) l4' (.lst [.ref T4]))).upd nrw (o := .lst [.ref bd, .ref wr, .non, .ref l4'])
    have g17 := (g14.trans g15).trans g16
    have S17 := S13.same g17
    have Bw17 := Bw.ext g17.ext
    have Bd17 := Bd.ext g17.ext
    have hl17 := g16 _ _ hl15
    have hrw : (upd (upd (upd H13 T4 (.tup [.int 0, .int 1])) l4' (.lst [.ref T4])) rw_ (.lst [.ref bd, .ref wr, .non, .ref l4'])) rw_ = some (.lst [.ref bd, .ref wr, .non, .ref l4']) := upd_same
    generalize upd (upd (upd H13 T4 (.tup [.int 0, .int 1])) l4' (.lst [.ref T4])) rw_ (.lst [.ref bd, .ref wr, .non, .ref l4']) = H17 at S17 Bw17 Bd17 hl17 hrw ⊢
    have Bx : ∀ x ∈ ([.ref bd, .ref wr, .non, .ref l4'] : List V), ∃ t, BadY H17 cs rs x t := by
      intro x hx
      have hx : x = .ref bd ∨ x = .ref wr ∨ x = .non ∨ x = .ref l4' := by simpa using hx
      rcases hx with h | h | h | h <;> subst h
      · exact ⟨_, Bd17⟩
      · exact ⟨_, Bw17⟩
      · exact ⟨_, .non⟩
      · exact ⟨_, .lst hl17⟩
    -- [asked(..) for some in rows] == ["marks"] * 4
    refine ⟨_, rfl, rw_, rfl, ⟨_, .of hrw⟩, fun D nD => ?_⟩
    refine lc_list (K := K) (a := rw_) (xs := [.ref bd, .ref wr, .non, .ref l4']) (fun i H => ExtN H17 H ∧ Tabs T H ∧ H D = some (.lst (List.replicate i (.str "marks"))))
      ⟨((Same.refl H17).upd nD).ext, S17.t.ext ((Same.refl H17).upd nD), upd_same⟩ (fun i H _ h => .of (h.1 _ _ hrw fun ps z => by cases z)) (fun i x H hx h => ⟨rfl, ?_⟩) fun H18 h => ?_
    · obtain ⟨e18, t18, hD⟩ := h
      obtain ⟨t, bx⟩ := Bx x (List.mem_of_getElem? hx)
      have hi : i < 4 := (List.getElem?_eq_some_iff.mp hx).1
      refine yes_rd (asked_bad hB m.bm.m t18 rfl rfl (S17.m.ext e18) gm (bx.ext e18) fun H19 e19 t19 => ?_)
      have hD19 : H19 D = some (.lst (List.replicate i (.str "marks"))) := e19 _ _ hD fun ps z => by cases z
      refine ⟨_, hD19, small1000 (by rw [List.length_replicate]; omega), fun b o e n => ?_, tabs_upd t19 (.inr (.inr ⟨_, hD19⟩)), ?_⟩
      · rw [upd_ne (ne_of_none e nD)]
        exact e19 _ _ (e18 _ _ e n) n
      · rw [upd_same, List.replicate_succ']
    · obtain ⟨e18, t18, hD⟩ := h
      have S18 := S17.ext e18 t18
      refine ⟨by show 1 ≤ sizeLine; decide, fun l5 nl5 => ?_⟩
      have S19 := S18.new nl5 (o := .lst [.str "marks"])
      refine ⟨l5, 4, [.str "marks"], rfl, rfl, upd_same, by decide, by decide, by show 4 ≤ sizeLine; decide, fun p np => ?_⟩
      have S20 := S19.new np (o := .lst (List.replicate (4 : Int).toNat [V.str "marks"]).flatten)
      have hD20 : (upd (upd H18 l5 (.lst [.str "marks"])) p (.lst (List.replicate (4 : Int).toNat [V.str "marks"]).flatten)) D = some (.lst (List.replicate 4 (.str "marks"))) := ((Same.refl _).upd np) _ _ (((Same.refl H18).upd nl5) _ _ hD)
      refine eq_lists (.of hD20) (.of upd_same) marks_smp marks_smp ?_
      have : decide (List.replicate 4 (V.str "marks") = (List.replicate (4 : Int).toNat [V.str "marks"]).flatten) = true := by decide +kernel
      rw [this]
      exact q _ S20.k S20.D S20.t
end
end Lk
/-! law: the pairs that are no marks; its lambda -/
namespace Lk
open PySem PySem.Spec PyProof.Rows L2
open LamX (TabB Tabs TabS ExtN CodeO GivesTo tLam LamS lamSB lamS_by lamCx lamEnv)
/-- the name of the code objects of law's lambdas -/
def qL2 : Str := (envOfC "law" (defScope sLaw) 0 0 .none).qual ++ "<lambda>"
theorem amV_ext {H H' : Hp} {x : V} {m : Int} (s : ExtN H H') (k : Kd H x) : amV H' x m = amV H x m := by
  cases k with
  | tup e => simp only [amV, e, s _ _ e fun ps z => by cases z]
  | lst e => simp only [amV, e, s _ _ e fun ps z => by cases z]
  | _ => rfl
theorem Kt.ext {H H' : Hp} {x : V} (s : ExtN H H') (k : Kt H x) : Kt H' x := by
  obtain ⟨k1, k2⟩ := k
  refine ⟨k1.ext s, fun a xs ex e => ?_⟩
  have q : H a = some (.tup xs) := by
    subst ex
    cases k1 with
    | tup e1 => have := s _ _ e1 fun ps z => by cases z
                rw [e] at this; cases this; exact e1
    | lst e1 => have := s _ _ e1 fun ps z => by cases z
                rw [e] at this; cases this
  obtain ⟨h1, h2⟩ := k2 a xs ex q
  exact ⟨h1, fun y hy => (h2 y hy).ext s⟩
/-- a pair of which no marks are made -/
def BadP (H : Hp) (v : V) : Prop := ∃ q x y, v = .ref q ∧ H q = some (.tup [x, y]) ∧ Kt H x ∧ Kt H y ∧ (amV H x 2 && amV H y 3) = false
theorem BadP.ext {H H' : Hp} {v : V} (s : ExtN H H') (b : BadP H v) : BadP H' v := by
  obtain ⟨q, x, y, e, h, kx, ky, hb⟩ := b
  exact ⟨q, x, y, e, s _ _ h (fun ps z => by cases z), kx.ext s, ky.ext s, by rw [amV_ext s kx.1, amV_ext s ky.1]; exact hb⟩
/-- a component: its value, whether it is marks of at most two, of at most three -/
def GK (t : TE) (a2 a3 : Bool) : Prop := ∀ (σ : L2.St) (H : Hp) (Q : VK), (∀ v H', Same H H' → Kt H' v → amV H' v 2 = a2 → amV H' v 3 = a3 → Q v H') → t σ H Q
/-- an expression of such a pair -/
def GB (t : TE) : Prop := ∀ (σ : L2.St) (H : Hp) (Q : VK), (∀ v H', Same H H' → BadP H' v → Q v H') → t σ H Q
/-- arguments that are n such pairs -/
def GL (t : TA) (n : Nat) : Prop := ∀ (σ : L2.St) (H : Hp) (Q : List V → Hp → Prop), (∀ vs H', Same H H' → vs.length = n → (∀ v ∈ vs, BadP H' v) → Q vs H') → t σ H Q
theorem gk_tup {xs : List V} {t : TA} (ht : ∀ (σ : L2.St) (H : Hp) (Q : List V → Hp → Prop), Q xs H → t σ H Q) (hz : xs.length ≤ 1000) (hk : ∀ H : Hp, ∀ y ∈ xs, Kd H y) : GK (tTup t) (amB xs 2) (amB xs 3) := fun σ H Q h =>
  ht σ H _ ⟨Nat.le_of_lt (small1000 hz), fun p np => h _ _ ((Same.refl H).upd np) (.tup upd_same hz (hk _)) (amV_tup upd_same) (amV_tup upd_same)⟩
theorem gk_lst {xs : List V} {t : TA} (ht : ∀ (σ : L2.St) (H : Hp) (Q : List V → Hp → Prop), Q xs H → t σ H Q) (hz : xs.length ≤ 1000) : GK (tLst t) false false := fun σ H Q h =>
  ht σ H _ ⟨Nat.le_of_lt (small1000 hz), fun p np => by
    have e : (upd H p (.lst xs)) p = some (.lst xs) := upd_same
    exact h _ _ ((Same.refl H).upd np) ⟨.lst e, fun a ys ea hy => by cases ea; rw [e] at hy; cases hy⟩ (by simp only [amV, e]) (by simp only [amV, e])⟩
theorem gk_flat {v : V} (hf : ∀ H, Kd H v) (hn : ∀ a, v ≠ .ref a) : GK (tC v) false false := fun σ H Q h =>
  h v H (Same.refl H) ⟨hf H, fun a ys e => (hn a e).elim⟩ (by cases v <;> first | rfl | exact absurd rfl (hn _)) (by cases v <;> first | rfl | exact absurd rfl (hn _))
theorem rep_flatI (n : Nat) (v : V) : (List.replicate n [v]).flatten = List.replicate n v := by
  induction n with
  | zero => rfl
  | succ n ih => rw [List.replicate_succ, List.flatten_cons, ih, List.replicate_succ]; rfl
theorem gk_rep {K : PySem.W.Frag} {n : Nat} (h1 : 2 ≤ n) (h2 : n ≤ 10) : GK (tOp (rRepK K) (tTup (tCons (tC (.int 0)) tNil)) (tC (.int (n : Nat)))) (amB (List.replicate n (.int 0)) 2) (amB (List.replicate n (.int 0)) 3) := fun σ H Q h => by
  refine ⟨by show 1 ≤ sizeLine; decide, fun T nT => ?_⟩
  have s1 := (Same.refl H).upd nT (o := .tup [.int 0])
  refine ⟨T, (n : Nat), [.int 0], rfl, rfl, .of upd_same, (fun z => by cases z), by omega, by omega, by decide, fun e => by omega, fun _ p np => ?_⟩
  have e : (List.replicate (n : Int).toNat [V.int 0]).flatten = List.replicate n (.int 0) := by
    rw [Int.toNat_natCast, rep_flatI]
  rw [e]
  exact h _ _ (s1.upd (s1.free np)) (.tup upd_same (by rw [List.length_replicate]; omega) fun y hy => by rw [List.eq_of_mem_replicate hy]; exact .int 0) (amV_tup upd_same) (amV_tup upd_same)
theorem gb_pair {tx ty : TE} {a2 a3 b2 b3 : Bool} (hx : GK tx a2 a3) (hy : GK ty b2 b3) (hb : (a2 && b3) = false) : GB (tTup (tCons tx (tCons ty tNil))) := fun σ H Q h => by
  refine hx σ H _ fun x H1 s1 kx x2 x3 => hy σ H1 _ fun y H2 s2 ky y2 y3 => ⟨by show 2 ≤ sizeLine; decide, fun p np => ?_⟩
  have s3 := (Same.refl H2).upd np (o := .tup [x, y])
  have s := s2.trans s3
  refine h _ _ (s1.trans s) ⟨p, x, y, rfl, upd_same, kx.same s, ky.same s3, ?_⟩
  rw [amV_same s kx.1, amV_same s3 ky.1, x2, y3]
  exact hb
theorem gl_nil : GL tNil 0 := fun σ H Q h => h [] H (Same.refl H) rfl fun v hv => by cases hv
theorem gl_cons {te : TE} {t : TA} {n : Nat} (h1 : GB te) (h2 : GL t n) : GL (tCons te t) (n + 1) := fun σ H Q h => by
  refine h1 σ H _ fun v H1 s1 b1 => h2 σ H1 _ fun vs H2 s2 el bs => ?_
  refine h _ _ (s1.trans s2) (by rw [List.length_cons, el]) fun u hu => ?_
  rcases List.mem_cons.mp hu with e | hu
  · rw [e]; exact b1.ext s2.ext
  · exact bs u hu
/-- x = [pairs] -/
theorem asg_GL {t : TA} {n : Nat} (h : GL t n) (hn : n ≤ 1000) {D : Ends} {σ : L2.St} {H : Hp} {i : Nat} (k : ∀ vs l H', Same H H' → vs.length = n → (∀ v ∈ vs, BadP H' v) → H' l = some (.lst vs) → D.nx (σ.set i (some (.ref l))) H') : tAsg (tLst t) (gName i) D σ H := by
  refine h σ H _ fun vs H' s' el bs => ⟨Nat.le_of_lt (small1000 (by omega)), fun p np => ?_⟩
  have s2 := (Same.refl H').upd np (o := .lst vs)
  exact k vs p _ (s'.trans s2) el (fun v hv => (bs v hv).ext s2.ext) upd_same
/-- x = x + [pairs] -/
theorem asg_cat {t : TA} {n m : Nat} (h : GL t n) (hn : n ≤ 1000) (hm : m ≤ 1000) {D : Ends} {σ : L2.St} {H : Hp} {i : Nat} {l : Addr} {us : List V} (hi : σ[i]? = some (some (.ref l))) (hl : H l = some (.lst us)) (hu : us.length = m) (bu : ∀ v ∈ us, BadP H v)
    (k : ∀ vs l H', Same H H' → vs.length = m + n → (∀ v ∈ vs, BadP H' v) → H' l = some (.lst vs) → D.nx (σ.set i (some (.ref l))) H') : tAsg (tOp rCat (tVar i) (tLst t)) (gName i) D σ H := by
  refine ⟨_, hi, h σ H _ fun vs H' s' el bs => ⟨Nat.le_of_lt (small1000 (by omega)), fun p np => ?_⟩⟩
  have s2 := (Same.refl H').upd np (o := .lst vs)
  refine ⟨l, p, us, vs, rfl, rfl, s2 _ _ (s' _ _ hl), upd_same, by rw [hu, el]; exact Nat.le_trans (by omega : m + n ≤ 2000) (by decide), fun q nq => ?_⟩
  have s3 := (Same.refl (upd H' p (.lst vs))).upd nq (o := .lst (us ++ vs))
  refine k (us ++ vs) q _ ((s'.trans s2).trans s3) (by rw [List.length_append, hu, el]) (fun v hv => ?_) upd_same
  rcases List.mem_append.mp hv with hv | hv
  · exact (bu v hv).ext ((s'.trans s2).trans s3).ext
  · exact (bs v hv).ext (s2.trans s3).ext
abbrev z0 : TE := tTup (tCons (tC (.int 0)) tNil)
theorem kz : GK z0 true true := gk_tup (xs := [.int 0]) (fun _ _ _ h => h) (by decide) fun H y hy => by rw [List.mem_singleton.mp hy]; exact .int 0
theorem k1 {v : V} {t : TE} {b2 b3 : Bool} (ht : ∀ (σ : L2.St) (H : Hp) (Q : VK), Q v H → t σ H Q) (hk : ∀ H, Kd H v) (h2 : amB [v] 2 = b2) (h3 : amB [v] 3 = b3) : GK (tTup (tCons t tNil)) b2 b3 := by
  rw [← h2, ← h3]
  exact gk_tup (xs := [v]) (fun σ H Q h => ht σ H _ h) (show 1 ≤ 1000 by decide) fun H y hy => by rw [List.mem_singleton.mp hy]; exact hk H
theorem ke : GK (tTup tNil) false false := gk_tup (xs := []) (fun _ _ _ h => h) (by decide) fun H y hy => by cases hy
def bad7 (K : PySem.W.Frag) : TA := tCons (tTup (tCons (tTup tNil) (tCons z0 tNil))) (tCons (tTup (tCons z0 (tCons (tTup tNil) tNil))) (tCons (tTup (tCons (tOp (rRepK K) z0 (tC (.int 3))) (tCons z0 tNil))) (tCons (tTup (tCons z0 (tCons (tOp (rRepK K) z0 (tC (.int 4))) tNil)))
  (tCons (tTup (tCons (tLst (tCons (tC (.int 0)) tNil)) (tCons z0 tNil))) (tCons (tTup (tCons (tTup (tCons (tC (.int 10)) tNil)) (tCons z0 tNil))) (tCons (tTup (tCons z0 (tCons (tTup (tCons (tUn (rU fun i => .int (-i)) (tC (.int 1))) tNil)) tNil))) tNil))))))
theorem gl7 (K : PySem.W.Frag) : GL (bad7 K) 7 :=
  gl_cons (gb_pair ke kz rfl) (gl_cons (gb_pair kz ke rfl) (gl_cons (gb_pair (gk_rep (n := 3) (by decide) (by decide)) kz (by decide +kernel)) (gl_cons (gb_pair kz (gk_rep (n := 4) (by decide) (by decide)) (by decide +kernel))
    (gl_cons (gb_pair (gk_lst (xs := [.int 0]) (fun _ _ _ h => h) (by decide)) kz rfl) (gl_cons (gb_pair (k1 (v := .int 10) (b2 := false) (b3 := false) (fun _ _ _ h => h) (fun _ => .int _) (by decide +kernel) (by decide +kernel)) kz rfl)
      (gl_cons (gb_pair kz (k1 (v := .int (-1)) (b2 := false) (b3 := false) (fun _ _ _ h => ⟨1, rfl, h⟩) (fun _ => .int _) (by decide +kernel) (by decide +kernel)) rfl) gl_nil))))))
def bad6 : TA := tCons (tTup (tCons (tTup (tCons (tC (.bl true)) tNil)) (tCons z0 tNil))) (tCons (tTup (tCons (tC .non) (tCons z0 tNil))) (tCons (tTup (tCons z0 (tCons (tC (.str "a")) tNil))) (tCons (tTup (tCons z0 (tCons (tTup (tCons (tC (.str "a")) tNil)) tNil)))
  (tCons (tTup (tCons z0 (tCons (tC .non) tNil))) (tCons (tTup (tCons (tC (.int 5)) (tCons (tC (.int 5)) tNil))) tNil)))))
theorem gl6 : GL bad6 6 :=
  gl_cons (gb_pair (k1 (v := .bl true) (b2 := false) (b3 := false) (fun _ _ _ h => h) (fun _ => .bl _) (by decide +kernel) (by decide +kernel)) kz rfl) (gl_cons (gb_pair (gk_flat (fun _ => .non) (fun a z => by cases z)) kz rfl) (gl_cons (gb_pair kz (gk_flat (fun _ => .str _) (fun a z => by cases z)) rfl)
    (gl_cons (gb_pair kz (k1 (v := .str "a") (b2 := false) (b3 := false) (fun _ _ _ h => h) (fun _ => .str _) (by decide +kernel) (by decide +kernel)) rfl) (gl_cons (gb_pair kz (gk_flat (fun _ => .non) (fun a z => by cases z)) rfl)
      (gl_cons (gb_pair (gk_flat (fun _ => .int _) (fun a z => by cases z)) (gk_flat (fun _ => .int _) (fun a z => by cases z)) rfl) gl_nil)))))
/-- the lambda's reading -/
def tMkL (C BM : Addr) : XK → TE := fun E => tMake C (spInit C BM) [] E (tCons (tVar 13) (tCons (tVar 14) tNil))
theorem asked_pair {K : PySem.W.Frag} {C BM : Addr} {T : List (Addr × Str)} {σ : L2.St} {H : Hp} {Q : VK} {x y : V} (hm : PySem.W.exmOne K (.ref BM) (.ref BM) = some true) (tb : Tabs T H) (h1 : σ[13]? = some (some x)) (h2 : σ[14]? = some (some y)) (kx : Kt H x) (ky : Kt H y) (b : (amV H x 2 && amV H y 3) = false)
    (q : ∀ H', ExtN H H' → Tabs T H' → Q (.str "marks") H') : tLam T (TAsk C BM K) (tMkL C BM) σ H Q := by
  refine ⟨tb, fun H1 e1 t1 f => ?_⟩
  refine ⟨_, h1, _, h2, ?_⟩
  refine make_rdA (kx.ext e1) (ky.ext e1) (fun z => ?_) (fun _ H2 s2 => ⟨true, hm, fun _ => q H2 (e1.trans s2.ext) (t1.ext s2), fun z => nomatch z⟩)
  rw [amV_ext e1 kx.1, amV_ext e1 ky.1, b] at z
  cases z
/-- a statement of law -/
def stL (i : Nat) : Stmt := (defBody sLaw).getD i (.Pass ⟨0, 0, 0, 0⟩)
section
variable {P : Program} {w : World} {K : PySem.W.Frag} {mg : Str → Option Value} {base : Heap} {f C BM BP fI c2 P2 : Addr} {fdI : FuncData} {T : List (Addr × Str)} {A : Around} {outer : List Env} {s : Shared} {H : Hp} {E : XK}
theorem ps_law4 (TB : TabB base mg c2 P2) (hT : (P2, qL2) ∈ T) (hu : ∀ p ∈ T, p.1 = P2 → p.2 = qL2) (g : Gs mg) (m : Ms P w K mg base C BM BP fI fdI) (ak : AskF K mg) (hr : Room 9 (A.deeper (envOfC "law" (defScope sLaw) s.heap.objs.size f (.ref c2)))) :
    PS (cxOf CX0 P w K mg base nLaw "law" (defScope sLaw) f (.ref c2) A outer s H E).nox (stL 4)
      (tRet (tOp (rEqD K) (tLc (iList K (tVar 12)) (gTup K 2 (gCons (gName 13) (gCons (gName 14) gNil))) tYes (tLam T (TAsk C BM K) (tMkL C BM)) [13, 14]) (tOp rRep (tLst (tCons (tC (.str "marks")) tNil)) (tCB (fun xs H Q => ∃ x n, xs = [x] ∧ LenV K x H n ∧ Q (.int n) H) (tCons (tVar 12) tNil))))) := by
  refine ps_ret (pe_cmpR (op_eqD hr.units) ?_ (pe_op op_rep (pe_lst (pa_cons pe_str pa_nil)) (pe_callB call_len rfl g.len boot_len (pa_cons (pv 12) pa_nil))) (nomark _))
  refine pe_lc (own := [("_law_one", 13), ("_law_other", 14)]) (g := gTup K 2 (gCons (gName 13) (gCons (gName 14) gNil))) (tt := tYes) rfl scLaw.nd (pi_list (pv 12)) (blkOk_by (N := nLaw) (sc := defScope sLaw) (by decide +kernel)) (fun _ _ _ _ _ => pg_tup rfl (pgs_cons (pg_name (i := 13) scLaw.nd rfl (Or.inr rfl)) (pgs_cons (pg_name (i := 14) scLaw.nd rfl (Or.inr rfl)) pgs_nil))) (fun _ _ _ _ _ => pts_nil) (fun s' H' C' cl fp => ?_)
  refine pe_asked (t := tMkL C BM) (k := 5) ak m rfl TB rfl hT hu (hr.mono (by decide)) (by decide) (lamS_by (by kernel_rfl)) rfl (fun _ _ _ _ _ => rfl) (fun A outer s H E f c' hr2 => ?_)
  exact pe_Marks (E := E) m.I.M m.I.G m.I.b hr2 rfl (passes_call (takes_of rfl rfl rfl rfl) (fun _ _ _ _ h => h)) (pa_cons (pv 13) (pa_cons (pv 14) pa_nil))
end
end Lk
/-! law -/
namespace Lk
open PySem PySem.Spec PyProof.Rows L2
open LamX (TabB Tabs TabS ExtN CodeO GivesTo tLam LamS lamSB lamS_by lamCx lamEnv)
theorem rg3 {j : Int} (h1 : 1 ≤ j) (h2 : j ≤ 12) : RgC 0 j 3 ((j - 1) / 3 + 1).toNat := by
  have : j = 1 ∨ j = 2 ∨ j = 3 ∨ j = 4 ∨ j = 5 ∨ j = 6 ∨ j = 7 ∨ j = 8 ∨ j = 9 ∨ j = 10 ∨ j = 11 ∨ j = 12 := by omega
  rcases this with h | h | h | h | h | h | h | h | h | h | h | h <;> subst h <;> exact ⟨by decide, by decide, by decide +kernel, by decide +kernel⟩
theorem cut_ints (ns : List Int) (lo hi : Option Int) : ∃ ms : List Int, cutV (ns.map V.int) lo hi = ms.map V.int := by
  unfold cutV
  exact ⟨_, by rw [← List.map_drop, ← List.map_take]⟩
theorem Sta.kx {K : PySem.W.Frag} {T : List (Addr × Str)} {d sc : Addr} {ns : List Int} {mm : Addr} {cs rs : List V} {H0 H H' : Hp} (s : Sta K T d sc ns mm cs rs H0 H) (k : KX d H H') (D : Dr K H' d sc ns) (t : Tabs T H') : Sta K T d sc ns mm cs rs H0 H' := by
  obtain ⟨ca, ra, h1, h2, h3⟩ := s.m
  have nt : ∀ {xs : List V}, ∀ ps, HO.tup xs ≠ .tbl ps := fun ps z => by cases z
  exact ⟨s.k.trans k, D, t, ca, ra, k _ _ h1 (s.D.neq h1 fun xs z => by cases z) nt, k _ _ h2 (s.D.neq h2 fun xs z => by cases z) nt, k _ _ h3 (s.D.neq h3 fun xs z => by cases z) nt⟩
theorem ht5' {σ : L2.St} {H : Hp} (Q : List V → Hp → Prop) (h : Q pl5 H) : tCons (tC (.int 0)) (tCons (tC (.int 1)) (tCons (tC (.str "a")) (tCons (tC (.str "b")) (tCons (tC (.str "c")) tNil)))) σ H Q := h
theorem pl5_12 : ∀ x ∈ pl5, x ∈ lit12 ∧ isB x = false := by decide +kernel
theorem in_pl {K : PySem.W.Frag} {H : Hp} {cs rs : List V} {x : V} {l : Addr} {Q : VK} (g : Gm cs rs) (hx : x ∈ pl5) (hl : H l = some (.lst (plF cs rs))) (q : Q (.bl (mkOf cs rs x).isSome) H) : rInD K x (.ref l) H Q := by
  obtain ⟨h1, h2⟩ := pl5_12 x hx
  refine ⟨_, _, dp12 x h1, .lst (.of hl) (dpAll_smp plF_smp), lit_sh x h1, shaped_l (can_smp plF_smp).1 (can_smp plF_smp).2 (by decide), ?_⟩
  have := one12 g h1
  rw [h2, Bool.not_false, Bool.and_true] at this
  rw [this]
  exact q
theorem xor_comm {cs rs cs' rs' : List V} : xorF cs rs cs' rs' = xorF cs' rs' cs rs := by
  funext x
  unfold xorF
  congr 1
  exact decide_eq_decide.mpr eq_comm
theorem reps_smp (n : Nat) : ∀ x ∈ List.replicate n (V.str "marks"), smp x = true := fun x hx => by rw [List.eq_of_mem_replicate hx]; decide +kernel
def spLaw (K : PySem.W.Frag) (T : List (Addr × Str)) : Sp := fun vs H Q _ => ∃ (a : Addr) (ns : List Int), vs = [.ref a] ∧ SqL K H a (ns.map V.int) ∧ Tabs T H ∧ ∀ H', Q (.bl true) H'
section
variable {P : Program} {w : World} {K : PySem.W.Frag} {mg : Str → Option Value} {base : Heap} {f C BM BP fI c2 P2 : Addr} {fd fdI : FuncData} {T : List (Addr × Str)}
theorem ok_law (F : FnS K "law" "law" sLaw f fd) (hcode : fd.code = .ref c2) (TB : TabB base mg c2 P2) (hT : (P2, qL2) ∈ T) (hu : ∀ p ∈ T, p.1 = P2 → p.2 = qL2) (g : Gs mg) (m : Ms P w K mg base C BM BP fI fdI) (ak : AskF K mg)
    (cs_ : Cal P w K mg base CX0 5 "_law_some_marks" ["_law_draw_here"] (spSome K)) (co : Cal P w K mg base CX0 7 "_law_one_right" ["_law_draw_here", "_law_marks"] spOne) (cc : Cal P w K mg base CX0 9 "_law_changed_right" ["_law_draw_here", "_law_marks"] (spChg K T))
    (cp : Cal P w K mg base CX0 1 "_law_places" nPlaces spPlaces) (ca : Cal P w K mg base CX0 1 "_law_mark_at" nMarkAt spMarkAt) : FnOk P w K mg base CX0 10 f fd ["_law_script"] (spLaw K T) := by
  obtain ⟨gx, hx1, hx2, hx3, Fx⟩ := m.xor.ex
  obtain ⟨ge, he1, he2, he3, Fe⟩ := m.eq.ex
  refine okC F scLaw (fun vs H Q E h => ?_) ?_
  · obtain ⟨a, ns, rfl, _⟩ := h
    rfl
  intro cdv ecd A outer s H vs Q E hr h
  obtain rfl : cdv = .ref c2 := ecd.symm.trans hcode
  refine ⟨_, PSs.nox (pss_cons
    (ps_set (i := 0) scLaw.nd rfl (Or.inl rfl) (pe_slice sl_list (pv 0) po_none (po_some pe_int)))
    (pss_cons (ps_for PassesOwn.never rfl (pi_range3 rfl g.range (pa_cons pe_int (pa_cons (pe_callB (call_max2 rfl) rfl g.max (by decide +kernel) (pa_cons pe_int (pa_cons (pe_callB (call_min2 rfl) rfl g.min (by decide +kernel) (pa_cons pe_int (pa_cons (pe_callB call_len rfl g.len boot_len (pa_cons (pv 0) pa_nil)) pa_nil))) pa_nil))) (pa_cons pe_int pa_nil)))) (pg_name (i := 1) scLaw.nd rfl (Or.inl rfl))
      (pss_cons (ps_par (i := 2) (j := 3) rfl scLaw.nd rfl rfl (by decide) rfl rfl (pa_cons (pe_lst (pa_cons (pv 0) (pa_cons (pv 1) (pa_cons pe_int pa_nil)))) (pa_cons (pe_tup (pa_cons (pe_tup (pa_cons pe_int pa_nil)) (pa_cons (pe_tup (pa_cons pe_int pa_nil)) pa_nil))) pa_nil)) rfl)
      (pss_one (ps_for PassesOwn.never rfl (pi_range1 rfl g.range (pa_cons pe_int pa_nil)) (pg_name (i := 4) scLaw.nd rfl (Or.inl rfl))
        (pss_cons (ps_set (i := 5) scLaw.nd rfl (Or.inl rfl) (pe_c cs_ (hr.mono (by decide)) rfl pass0 (pa_cons (pv 2) pa_nil)))
        (pss_cons (ps_if (PW.pt (pw_or (pt_not (pt_val (pe_c co (hr.mono (by decide)) rfl pass0 (pa_cons (pv 2) (pa_cons (pv 5) pa_nil))))) (pw_or1 (pt_not (pt_val (pe_c cc hr rfl pass0 (pa_cons (pv 2) (pa_cons (pv 5) pa_nil)))))))) (pss_one (ps_ret pe_bl)) pss_nil)
        (pss_cons (ps_par (i := 6) (j := 7) rfl scLaw.nd rfl rfl (by decide) rfl rfl (pa_cons (pe_Marks (E := E0) m.I.M m.I.G m.I.b (hr.mono (by decide)) rfl passL (pa_cons (pe_ix ix_tup (pv 3) pe_int (fun _ _ => rfl)) (pa_cons (pe_ix ix_tup (pv 3) pe_int (fun _ _ => rfl)) pa_nil)))
          (pa_cons (pe_Marks (E := E0) m.I.M m.I.G m.I.b (hr.mono (by decide)) rfl passL (pa_cons (pe_ix ix_tup (pv 5) pe_int (fun _ _ => rfl)) (pa_cons (pe_ix ix_tup (pv 5) pe_int (fun _ _ => rfl)) pa_nil))) pa_nil)) rfl)
        (pss_cons (ps_par (i := 8) (j := 9) rfl scLaw.nd rfl rfl (by decide) rfl rfl (pa_cons (pe_c cp (hr.mono (by decide)) rfl pass0 (pa_cons (pv 3) pa_nil)) (pa_cons (pe_c cp (hr.mono (by decide)) rfl pass0 (pa_cons (pv 5) pa_nil)) pa_nil)) rfl)
        (pss_cons (ps_set (i := 10) scLaw.nd rfl (Or.inl rfl) (pe_lst pa_nil))
        (pss_cons (ps_for PassesOwn.never rfl (pi_list (pe_lst (pa_cons pe_int (pa_cons pe_int (pa_cons pe_str (pa_cons pe_str (pa_cons pe_str pa_nil))))))) (pg_name (i := 11) scLaw.nd rfl (Or.inl rfl))
          (pss_one (ps_if (pt_cmpR op_ne (pe_cmpR (op_inD (hu65 hr)) (pv 11) (pv 8) (by with_unfolding_all rfl)) (pe_cmpR (op_inD (hu65 hr)) (pv 11) (pv 9) (by with_unfolding_all rfl)) (nomark _))
            (pss_one (ps_expr (pe_bm PySem.F.plainAttrs_list PySem.F.slot_list_append PySem.F.type_list_append mt_append (pv 10) (pa_cons (pv 11) pa_nil))))
            (pss_one (ps_if (PW.pt (pw_and (pt_cmpR (op_inD (hu65 hr)) (pv 11) (pv 8) (by with_unfolding_all rfl)) (pw_and1 (pt_cmpR op_ne (pe_c ca (hr.mono (by decide)) rfl pass0 (pa_cons (pv 3) (pa_cons (pv 11) pa_nil))) (pe_c ca (hr.mono (by decide)) rfl pass0 (pa_cons (pv 5) (pa_cons (pv 11) pa_nil))) (nomark _)))))
              (pss_one (ps_expr (pe_bm PySem.F.plainAttrs_list PySem.F.slot_list_append PySem.F.type_list_append mt_append (pv 10) (pa_cons (pv 11) pa_nil)))) pss_nil)))))
        (pss_cons (ps_if (PW.pt (pw_or (pt_cmpR (op_neD hr.units) (pe_op (op_binSl (E := E0) m.first hx1 hx2 Fx (hr.mono (by decide)) pass0) (pv 6) (pv 7)) (pv 10) (nomark _))
            (pw_or (pt_cmpR (op_neD hr.units) (pe_op (op_binSl (E := E0) m.first hx1 hx2 Fx (hr.mono (by decide)) pass0) (pv 7) (pv 6)) (pv 10) (nomark _))
            (pw_or1 (pt_cmpR op_ne (pe_cmpR (SlX.op_own (E := E0) (fun _ _ => rfl) he1 he2 Fe (hr.mono (by decide)) pass0) (pv 6) (pv 7) (nomark _)) (pe_cmpR (op_eqD hr.units) (pv 3) (pv 5) (nomark _)) (nomark _)))))) (pss_one (ps_ret pe_bl)) pss_nil)
        (pss_one (ps_set (i := 3) scLaw.nd rfl (Or.inl rfl) (pv 5))))))))))))))
    (pss_cons (ps_set (i := 12) scLaw.nd rfl (Or.inl rfl) (pe_lst
      (pa_cons (pe_tup (pa_cons (pe_tup pa_nil) (pa_cons (pe_tup (pa_cons pe_int pa_nil)) pa_nil)))
      (pa_cons (pe_tup (pa_cons (pe_tup (pa_cons pe_int pa_nil)) (pa_cons (pe_tup pa_nil) pa_nil)))
      (pa_cons (pe_tup (pa_cons (pe_op op_repK (pe_tup (pa_cons pe_int pa_nil)) pe_int) (pa_cons (pe_tup (pa_cons pe_int pa_nil)) pa_nil)))
      (pa_cons (pe_tup (pa_cons (pe_tup (pa_cons pe_int pa_nil)) (pa_cons (pe_op op_repK (pe_tup (pa_cons pe_int pa_nil)) pe_int) pa_nil)))
      (pa_cons (pe_tup (pa_cons (pe_lst (pa_cons pe_int pa_nil)) (pa_cons (pe_tup (pa_cons pe_int pa_nil)) pa_nil)))
      (pa_cons (pe_tup (pa_cons (pe_tup (pa_cons pe_int pa_nil)) (pa_cons (pe_tup (pa_cons pe_int pa_nil)) pa_nil)))
      (pa_cons (pe_tup (pa_cons (pe_tup (pa_cons pe_int pa_nil)) (pa_cons (pe_tup (pa_cons (pe_un un_neg pe_int) pa_nil)) pa_nil)))
      pa_nil)))))))))
    (pss_cons (ps_set (i := 12) scLaw.nd rfl (Or.inl rfl) (pe_op op_cat (pv 12) (pe_lst
      (pa_cons (pe_tup (pa_cons (pe_tup (pa_cons pe_bl pa_nil)) (pa_cons (pe_tup (pa_cons pe_int pa_nil)) pa_nil)))
      (pa_cons (pe_tup (pa_cons pe_non (pa_cons (pe_tup (pa_cons pe_int pa_nil)) pa_nil)))
      (pa_cons (pe_tup (pa_cons (pe_tup (pa_cons pe_int pa_nil)) (pa_cons pe_str pa_nil)))
      (pa_cons (pe_tup (pa_cons (pe_tup (pa_cons pe_int pa_nil)) (pa_cons (pe_tup (pa_cons pe_str pa_nil)) pa_nil)))
      (pa_cons (pe_tup (pa_cons (pe_tup (pa_cons pe_int pa_nil)) (pa_cons pe_non pa_nil)))
      (pa_cons (pe_tup (pa_cons pe_int (pa_cons pe_int pa_nil)))
      pa_nil)))))))))
    (pss_one (ps_law4 (A := A) (outer := outer) (s := s) (H := H) (E := E) TB hT hu g m ak hr)))))), ?_⟩
  obtain ⟨a, ns0, rfl, hS, t0, q⟩ := h
  -- script = script[:63]
  refine ⟨_, rfl, 63, rfl, a, _, rfl, hS, fun sc nsc => ?_⟩
  obtain ⟨ns, ens⟩ := cut_ints ns0 none (some 63)
  rw [ens]
  have t1 := tabs_upd t0 (o := .lst (ns.map V.int)) (.inl nsc)
  have hsc1 : (upd H sc (.lst (ns.map V.int))) sc = some (.lst (ns.map V.int)) := upd_same
  show tSeq _ _ _ _ (upd H sc (.lst (ns.map V.int)))
  generalize upd H sc (.lst (ns.map V.int)) = H1 at t1 hsc1 ⊢
  -- for by in range(0, .., 3)
  refine ⟨_, rfl, _, (ns.map V.int).length, rfl, .inl ⟨_, .of hsc1, rfl⟩, 12, _, rfl, 1, _, rfl, 0, _, 3, _, rfl, rg3 ?_ ?_, ?_⟩
  · split <;> omega
  · split
    · split <;> omega
    · decide
  refine for_rangeC (fun i σ H' => ∃ v1 v2 v3 v4 v5 v6 v7 v8 v9 v10 v11, σ = [some (.ref sc), v1, v2, v3, v4, v5, v6, v7, v8, v9, v10, v11, none, none, none] ∧ H' sc = some (.lst (ns.map V.int)) ∧ Tabs T H') ⟨none, none, none, none, none, none, none, none, none, none, none, rfl, hsc1, t1⟩ ?_ ?_
  · rintro i σ H2 hi ⟨v1, v2, v3, v4, v5, v6, v7, v8, v9, v10, v11, rfl, hsc2, t2⟩
    -- draw_here, before = [script, by, 0], ((0,), (0,))
    refine ⟨_, rfl, _, rfl, by show 3 ≤ sizeLine; decide, fun d nd => ?_⟩
    have nsd : sc ≠ d := ne_of_none hsc2 nd
    have a3 := (Same.refl H2).upd nd (o := .lst [.ref sc, .int (0 + (i : Int) * 3), .int 0])
    have hd3 : (upd H2 d (.lst [.ref sc, .int (0 + (i : Int) * 3), .int 0])) d = some (.lst [.ref sc, .int (0 + (i : Int) * 3), .int 0]) := upd_same
    have D3 : Dr K (upd H2 d (.lst [.ref sc, .int (0 + (i : Int) * 3), .int 0])) d sc ns := ⟨_, _, hd3, .of (a3 _ _ hsc2), nsd, by omega, by decide⟩
    have t3 := t2.ext a3
    have hsc3 := a3 _ _ hsc2
    refine ⟨by show 1 ≤ sizeLine; decide, fun p1 np1 => ⟨by show 1 ≤ sizeLine; decide, fun p2 np2 => ⟨by show 2 ≤ sizeLine; decide, fun bm nbm => ?_⟩⟩⟩
    refine ⟨_, _, rfl, ?_⟩
    have a4 := (Same.refl (upd H2 d (.lst [.ref sc, .int (0 + (i : Int) * 3), .int 0]))).upd np1 (o := .tup [.int 0])
    have a5 := (Same.refl (upd (upd H2 d (.lst [.ref sc, .int (0 + (i : Int) * 3), .int 0])) p1 (.tup [.int 0]))).upd np2 (o := .tup [.int 0])
    have a6 := (Same.refl (upd (upd (upd H2 d (.lst [.ref sc, .int (0 + (i : Int) * 3), .int 0])) p1 (.tup [.int 0])) p2 (.tup [.int 0]))).upd nbm (o := .tup [.ref p1, .ref p2])
    have a7 := (a4.trans a5).trans a6
    have M7 : MkT (upd (upd (upd (upd H2 d (.lst [.ref sc, .int (0 + (i : Int) * 3), .int 0])) p1 (.tup [.int 0])) p2 (.tup [.int 0])) bm (.tup [.ref p1, .ref p2])) bm [.int 0] [.int 0] := ⟨p1, p2, upd_same, a6 _ _ (a5 _ _ upd_same), a6 _ _ upd_same⟩
    have D7 := a7.dr D3
    have t7 := t3.ext a7
    have hsc7 := a7 _ _ hsc3
    generalize upd (upd (upd (upd H2 d (.lst [.ref sc, .int (0 + (i : Int) * 3), .int 0])) p1 (.tup [.int 0])) p2 (.tup [.int 0])) bm (.tup [.ref p1, .ref p2]) = H7 at M7 D7 t7 hsc7 ⊢
    -- for turn in range(5)
    refine ⟨5, rfl, by decide, by decide, ?_⟩
    refine for_range (n := 5) (fun j σ H' => ∃ bm cs0 rs0 v4 v5 v6 v7 v8 v9 v10 v11, σ = [some (.ref sc), some (.int (0 + (i : Int) * 3)), some (.ref d), some (.ref bm), v4, v5, v6, v7, v8, v9, v10, v11, none, none, none] ∧ Sta K T d sc ns bm cs0 rs0 H7 H' ∧ Gm cs0 rs0)
      ⟨bm, [.int 0], [.int 0], _, _, _, _, _, _, _, _, rfl, ⟨KX.refl d H7, D7, t7, M7⟩, ⟨by decide, by decide⟩⟩ ?_ ?_
    · rintro j σ H8 hj ⟨bm, cs0, rs0, w4, w5, w6, w7, w8, w9, w10, w11, rfl, S8, gm0⟩
      -- marks = some_marks(draw_here)
      refine ⟨_, rfl, d, sc, ns, rfl, S8.D, fun H9 mm cs rs b9 D9 M9 gm nmd => ?_⟩
      have S9 := S8.but b9 D9
      -- one_right, changed_right
      refine ⟨_, rfl, _, rfl, d, mm, cs, rs, rfl, M9, gm, fun H10 s10 => ⟨_, rfl, iteF ?_⟩⟩
      have S10 := S9.same s10
      refine ⟨_, rfl, _, rfl, d, mm, sc, ns, cs, rs, rfl, S10.D, S10.t, M9.same s10, gm, fun H11 k11 D11 t11 => ⟨_, rfl, iteF ?_⟩⟩
      have S11 := S10.kx k11 D11 t11
      have M11 : MkT H11 mm cs rs := (Sta.kx (mm := mm) (cs := cs) (rs := rs) ⟨KX.refl d H10, S10.D, S10.t, M9.same s10⟩ k11 D11 t11).m
      -- first, second
      obtain ⟨ca0, ra0, hb0, hb1, hb2⟩ := S11.mt
      obtain ⟨ca1, ra1, hm0, hm1, hm2⟩ := M11
      refine ⟨_, rfl, bm, _, 0, _, rfl, rfl, .of hb0, at0, _, rfl, bm, _, 1, _, rfl, rfl, .of hb0, at1, ?_⟩
      refine make_okA hb1 hb2 gm0 fun H12 x1 dx1 s12 nx1 sl1 => ?_
      refine ⟨_, rfl, mm, _, 0, _, rfl, rfl, .of (s12 _ _ hm0), at0, _, rfl, mm, _, 1, _, rfl, rfl, .of (s12 _ _ hm0), at1, ?_⟩
      refine make_okA (s12 _ _ hm1) (s12 _ _ hm2) gm fun H13 x2 dx2 s13 nx2 sl2 => ?_
      refine ⟨_, _, rfl, ?_⟩
      have s123 := s12.trans s13
      have S13 := S11.same s123
      have M13 : MkT H13 mm cs rs := ⟨ca1, ra1, s123 _ _ hm0, s123 _ _ hm1, s123 _ _ hm2⟩
      have A13 : MkAt C H13 x1 cs0 rs0 := ⟨dx1, ca0, ra0, slt_same s13 sl1, s123 _ _ hb1, s123 _ _ hb2⟩
      have B13 : MkAt C H13 x2 cs rs := ⟨dx2, ca1, ra1, sl2, s123 _ _ hm1, s123 _ _ hm2⟩
      -- both, here
      refine ⟨_, rfl, bm, cs0, rs0, rfl, S13.m, gm0, fun H14 lb s14 nlb hlb => ?_⟩
      refine ⟨_, rfl, mm, cs, rs, rfl, M13.same s14, gm, fun H15 lh s15 nlh hlh => ?_⟩
      refine ⟨_, _, rfl, ?_⟩
      have s145 := s14.trans s15
      have S15 := S13.same s145
      have M15 := M13.same s145
      have A15 := A13.same s145
      have B15 := B13.same s145
      have hlb15 := s15 _ _ hlb
      -- due = []
      refine ⟨by decide, fun ld nld => ?_⟩
      have a16 := (Same.refl H15).upd nld (o := .lst [])
      refine for_lit pl5 ht5' (by decide) fun l0 n0 => ?_
      have a17 := (Same.refl (upd H15 ld (.lst []))).upd n0 (o := .lst pl5)
      have nl0 : ld ≠ l0 := fun z => by rw [← z, upd_same] at n0; cases n0
      refine ⟨(fun i' σ H' => ∃ w, σ = [some (.ref sc), some (.int (0 + (i : Int) * 3)), some (.ref d), some (.ref bm), some (.int (0 + (j : Int))), some (.ref mm), some (.ref x1), some (.ref x2), some (.ref lb), some (.ref lh), some (.ref ld), w, none, none, none] ∧ Same H15 H' ∧ H' l0 = some (.lst pl5) ∧ H' ld = some (.lst ((pl5.take i').filter (xorF cs0 rs0 cs rs)))),
        ⟨w11, rfl, a16.trans a17, upd_same, by rw [upd_ne nl0, upd_same]; rfl⟩, (fun i' σ H' ⟨_, _, _, h0, _⟩ => h0), ?_, ?_⟩
      · rintro i' x σ H' hi' ⟨w, rfl, s', h0, hl⟩
        have hx : x ∈ pl5 := List.mem_of_getElem? hi'
        have hlen := take_len (xs := pl5) (i := i') (p := xorF cs0 rs0 cs rs) (by decide)
        have hb' := s' _ _ hlb15
        have hh' := s' _ _ hlh
        have fin : xorF cs0 rs0 cs rs x = true → ∃ w, [some (V.ref sc), some (.int (0 + (i : Int) * 3)), some (.ref d), some (.ref bm), some (.int (0 + (j : Int))), some (.ref mm), some (.ref x1), some (.ref x2), some (.ref lb), some (.ref lh), some (.ref ld), some x, none, none, none] = [some (V.ref sc), some (.int (0 + (i : Int) * 3)), some (.ref d), some (.ref bm), some (.int (0 + (j : Int))), some (.ref mm), some (.ref x1), some (.ref x2), some (.ref lb), some (.ref lh), some (.ref ld), w, none, none, none] ∧ Same H15 (upd H' ld (.lst ((pl5.take i').filter (xorF cs0 rs0 cs rs) ++ [x]))) ∧ (upd H' ld (.lst ((pl5.take i').filter (xorF cs0 rs0 cs rs) ++ [x]))) l0 = some (.lst pl5) ∧ (upd H' ld (.lst ((pl5.take i').filter (xorF cs0 rs0 cs rs) ++ [x]))) ld = some (.lst ((pl5.take (i' + 1)).filter (xorF cs0 rs0 cs rs))) :=
          fun e => ⟨_, rfl, s'.upd nld, by rw [upd_ne nl0.symm]; exact h0, by rw [upd_same, take_yes hi' e]⟩
        have non : xorF cs0 rs0 cs rs x = false → ∃ w, [some (V.ref sc), some (.int (0 + (i : Int) * 3)), some (.ref d), some (.ref bm), some (.int (0 + (j : Int))), some (.ref mm), some (.ref x1), some (.ref x2), some (.ref lb), some (.ref lh), some (.ref ld), some x, none, none, none] = [some (V.ref sc), some (.int (0 + (i : Int) * 3)), some (.ref d), some (.ref bm), some (.int (0 + (j : Int))), some (.ref mm), some (.ref x1), some (.ref x2), some (.ref lb), some (.ref lh), some (.ref ld), w, none, none, none] ∧ Same H15 H' ∧ H' l0 = some (.lst pl5) ∧ H' ld = some (.lst ((pl5.take (i' + 1)).filter (xorF cs0 rs0 cs rs))) :=
          fun e => ⟨_, rfl, s', h0, by rw [take_no hi' e]; exact hl⟩
        refine ⟨_, rfl, _, rfl, in_pl gm0 hx hb' ⟨_, rfl, _, rfl, in_pl gm hx hh' ⟨rfl, _, rfl, ?_⟩⟩⟩
        cases e1 : mkOf cs0 rs0 x with
        | none =>
          cases e2 : mkOf cs rs x with
          | none =>
            refine iteF ⟨_, rfl, _, rfl, in_pl gm0 hx hb' ⟨_, rfl, ?_⟩⟩
            rw [e1]
            exact iteF (iteF (non (by unfold xorF; rw [e1, e2]; rfl)))
          | some v' => exact iteT ⟨_, rfl, .inl ⟨rfl, _, .of hl⟩, _, rfl, ld, _, x, rfl, rfl, hl, hlen, fin (by unfold xorF; rw [e1, e2]; rfl)⟩
        | some v =>
          cases e2 : mkOf cs rs x with
          | none => exact iteT ⟨_, rfl, .inl ⟨rfl, _, .of hl⟩, _, rfl, ld, _, x, rfl, rfl, hl, hlen, fin (by unfold xorF; rw [e1, e2]; rfl)⟩
          | some v' =>
            refine iteF ⟨_, rfl, _, rfl, in_pl gm0 hx hb' ⟨_, rfl, ?_⟩⟩
            rw [e1]
            refine iteT ⟨_, rfl, _, rfl, bm, x, cs0, rs0, v, rfl, S15.m.same s', e1, _, rfl, _, rfl, mm, x, cs, rs, v', rfl, M15.same s', e2, scal_held (mkOf_held gm0 e1) (mkOf_held gm e2), _, rfl, ?_⟩
            by_cases e : v = v'
            · rw [decide_eq_true e]
              exact iteF (non (by unfold xorF; rw [e1, e2, e]; simp))
            · rw [decide_eq_false e]
              exact iteT ⟨_, rfl, .inl ⟨rfl, _, .of hl⟩, _, rfl, ld, _, x, rfl, rfl, hl, hlen, fin (by unfold xorF; rw [e1, e2]; simp [e])⟩
      · rintro σ H' ⟨w, rfl, s', _, hl⟩
        rw [List.take_of_length_le (Nat.le_refl _)] at hl
        have smd : ∀ x ∈ pl5.filter (xorF cs0 rs0 cs rs), smp x = true := fun x hx => pl5_smp x (List.mem_filter.mp hx).1
        have A16 := A15.same s'
        have B16 := B15.same s'
        obtain ⟨da, _, _, sla, _, _⟩ := id A16
        obtain ⟨db, _, _, slb, _, _⟩ := id B16
        -- first ^ second != due
        refine ⟨_, rfl, _, rfl, x1, da, _, x2, db, _, rfl, rfl, sla, slb, x1, x2, cs0, rs0, cs, rs, rfl, A16, B16, gm0, gm, fun Hx lx sx nx ex => ?_⟩
        refine ⟨_, rfl, ne_lists (.of ex) (.of (sx _ _ hl)) smd smd ⟨_, rfl, ?_⟩⟩
        rw [decide_eq_true rfl]
        have A17 := A16.same sx
        have B17 := B16.same sx
        obtain ⟨da', _, _, sla', _, _⟩ := id A17
        obtain ⟨db', _, _, slb', _, _⟩ := id B17
        -- second ^ first != due
        refine iteF ⟨_, rfl, _, rfl, x2, db', _, x1, da', _, rfl, rfl, slb', sla', x2, x1, cs, rs, cs0, rs0, rfl, B17, A17, gm, gm0, fun Hy ly sy ny ey => ?_⟩
        rw [xor_comm] at ey
        refine ⟨_, rfl, ne_lists (.of ey) (.of (sy _ _ (sx _ _ hl))) smd smd ⟨_, rfl, ?_⟩⟩
        rw [decide_eq_true rfl]
        have A18 := A17.same sy
        have B18 := B17.same sy
        obtain ⟨da2, _, _, sla2, _, _⟩ := id A18
        obtain ⟨db2, _, _, slb2, _, _⟩ := id B18
        have sz := (s'.trans sx).trans sy
        have S18 := S15.same sz
        obtain ⟨qa, qb, hq0, hq1, hq2⟩ := S18.mt
        obtain ⟨pa, pb, hp0, hp1, hp2⟩ := M15.same sz
        -- (first == second) != (before == marks)
        refine iteF ⟨_, rfl, _, rfl, x1, da2, _, x2, C, db2, _, rfl, rfl, sla2, slb2, m.nfirst, x1, x2, cs0, rs0, cs, rs, rfl, A18, B18, gm0, gm, ?_⟩
        refine ⟨_, rfl, _, rfl, eq_pairs (.of hq0) (.of hp0) (.of hq1) (.of hq2) (.of hp1) (.of hp2) gm0.smp.1 gm0.smp.2 gm.smp.1 gm.smp.2 ⟨rfl, _, rfl, ?_⟩⟩
        rw [decide_eq_true rfl]
        refine iteF ?_
        exact ⟨_, rfl, mm, cs, rs, _, _, _, _, _, _, _, _, rfl, ⟨S18.k, S18.D, S18.t, pa, pb, hp0, hp1, hp2⟩, gm⟩
    · rintro σ H' ⟨bm', cs0, rs0, w4, w5, w6, w7, w8, w9, w10, w11, rfl, S', _⟩
      exact ⟨_, _, _, _, _, _, _, _, _, _, _, rfl, S'.k _ _ hsc7 nsd (fun ps z => by cases z), S'.t⟩
  · rintro σ H2 ⟨v1, v2, v3, v4, v5, v6, v7, v8, v9, v10, v11, rfl, _, t2⟩
    -- bad
    refine asg_GL (gl7 K) (by decide) fun us l3 H3 s3 e3 b3 h3 => ?_
    refine asg_cat gl6 (by decide) (by decide) rfl h3 e3 b3 fun vs l4 H4 s4 e4 b4 h4 => ?_
    have t4 := (t2.ext s3).ext s4
    -- [asked(..) ..] == ["marks"] * len(bad)
    refine ⟨_, rfl, l4, rfl, ⟨_, .of h4⟩, fun D nD => ?_⟩
    refine lc_list (K := K) (a := l4) (xs := vs) (fun i H => ExtN H4 H ∧ Tabs T H ∧ H D = some (.lst (List.replicate i (.str "marks"))))
      ⟨((Same.refl H4).upd nD).ext, t4.ext ((Same.refl H4).upd nD), upd_same⟩ (fun i H _ h => .of (h.1 _ _ h4 fun ps z => by cases z)) (fun i x H hx h => ?_) fun H5 h => ?_
    · obtain ⟨e5, t5, hD⟩ := h
      obtain ⟨p, x', y', rfl, hp, kx, ky, hb⟩ := (b4 x (List.mem_of_getElem? hx)).ext e5
      have hi : i < vs.length := (List.getElem?_eq_some_iff.mp hx).1
      refine ⟨p, _, rfl, .of hp, rfl, _, _, rfl, _, _, rfl, rfl, rfl, yes_rd (asked_pair m.bm.m t5 rfl rfl kx ky hb fun H6 e6 t6 => ?_)⟩
      have hD6 : H6 D = some (.lst (List.replicate i (.str "marks"))) := e6 _ _ hD fun ps z => by cases z
      refine ⟨_, hD6, small1000 (by rw [List.length_replicate]; omega), fun b o e n => ?_, tabs_upd t6 (.inr (.inr ⟨_, hD6⟩)), ?_⟩
      · rw [upd_ne (ne_of_none e nD)]
        exact e6 _ _ (e5 _ _ e n) n
      · rw [upd_same, List.replicate_succ']
    · obtain ⟨e5, t5, hD⟩ := h
      have h5 : H5 l4 = some (.lst vs) := e5 _ _ h4 fun ps z => by cases z
      refine ⟨by show 1 ≤ sizeLine; decide, fun l6 nl6 => ?_⟩
      have s6 := (Same.refl H5).upd nl6 (o := .lst [.str "marks"])
      refine ⟨_, rfl, _, vs.length, rfl, .inl ⟨_, .of (s6 _ _ h5), rfl⟩, ?_⟩
      refine ⟨l6, _, [.str "marks"], rfl, rfl, upd_same, by omega, by omega, ?_, fun p np => ?_⟩
      · rw [Int.toNat_natCast, e4]
        decide
      · rw [Int.toNat_natCast, rep_flatI]
        have s7 := (Same.refl (upd H5 l6 (.lst [.str "marks"]))).upd np (o := .lst (List.replicate vs.length (.str "marks")))
        refine eq_lists (.of (s7 _ _ (s6 _ _ hD))) (.of upd_same) (reps_smp _) (reps_smp _) ?_
        rw [decide_eq_true rfl]
        exact q _
end
end Lk
/-! the head: facts by names, the run -/
namespace Lk
open PySem PySem.Spec PyProof.Rows L2
open He (Fa DefD Dv ga ma fAd eqO eqO_ok ba FnW frT asD obsX valX SaysX saysX_of frT_in cT codeOf)
def dF (x : Str) (st : Stmt) : DefD := ⟨(x, none), x, x, defArgs st, defBody st, defScope st, [], []⟩
def dM (x q : Str) (st : Stmt) : DefD := ⟨("Marks", some x), x, q, defArgs st, defBody st, defScope st, [], []⟩
def fnL : List DefD := [dF "is_number" sNum, dF "is_held" sHeld, dF "are_marks" sAre, dF "is_register" sReg,
  dM "__init__" "Marks.__init__" sInit, dM "__contains__" "Marks.__contains__" sCon, dM "__getitem__" "Marks.__getitem__" sGet, dM "__len__" "Marks.__len__" sLen, dM "__or__" "Marks.__or__" sOr, dM "__xor__" "Marks.__xor__" sXor, dM "__invert__" "Marks.__invert__" sInv, dM "own" "Marks.own" sOwn, dM "__eq__" "Marks.__eq__" sEq,
  dF "_law_cell_at" sCell, dF "_law_draw" sDraw, dF "_law_number" sNumb, dF "_law_next" sNext, dF "_law_pick" sPick, dF "_law_some_marks" sSome, dF "_law_places" sPlaces, dF "_law_mark_at" sMarkAt, dF "_law_asked" sAsked, dF "_law_one_right" sOne, dF "_law_changed_right" sChg, dF "law" sLaw]
def faL : List Fa := [.free "isinstance", .free "int", .free "bool", .free "str", .free "tuple", .free "len", .free "all", .free "dict", .free "enumerate", .free "list", .free "range", .free "max", .free "min",
  .str "REGISTERS" "abc", .int "MOST_NUMBER" 9, .int "MOST_REGISTERS" 3, .glo "Marks", .glo "BadMarks", .glo "BadPlace",
  .exc "BadMarks", .exc "BadPlace", .exm "BadMarks" "BadMarks" true, .exm "BadPlace" "BadPlace" true, .mkr "Marks", .meth "Marks" "own",
  .glo "is_number", .glo "is_held", .glo "are_marks", .glo "is_register", .glo "_law_cell_at", .glo "_law_draw", .glo "_law_number", .glo "_law_next", .glo "_law_pick", .glo "_law_some_marks", .glo "_law_places", .glo "_law_mark_at", .glo "_law_asked", .glo "_law_one_right", .glo "_law_changed_right", .glo "law"]
abbrev CK (K : PySem.W.Frag) : Addr := ga K "Marks"
def slB (K : PySem.W.Frag) (x : Str) (i : Nat) : Bool := eqO (PySem.W.findIn K (.ref (CK K)) x) (some (some (.ref (ma K (CK K) x)))) && (eqO (PySem.W.specialIn K (.ref (ma K (CK K) x)) "__get__") (some (some (.builtin "member_descriptor.__get__"))) &&
  (decide (PySem.W.takesIn K (.ref (ma K (CK K) x)) = some true) && (decide (PySem.W.typeIn K (.ref (ma K (CK K) x)) = some (.type "member_descriptor")) && decide (PySem.W.slotIn K (ma K (CK K) x) (CK K) = some i))))
def duB (K : PySem.W.Frag) (x : Str) : Bool := eqO (PySem.W.findIn K (.ref (CK K)) x) (some (some (.ref (ma K (CK K) x)))) && (PySem.W.isFn K (.ref (ma K (CK K) x)) && PySem.W.fnIn K (ma K (CK K) x))
/-- a property's getter -/
def gAd (x : Str) (K : PySem.W.Frag) : Addr := match PySem.W.recIn K (ma K (CK K) x) "property" with | some (.ref g :: _) => g | _ => 0
def prB (K : PySem.W.Frag) (x q : Str) : Bool := eqO (PySem.W.findIn K (.ref (CK K)) x) (some (some (.ref (ma K (CK K) x)))) && (eqO (PySem.W.specialIn K (.ref (ma K (CK K) x)) "__get__") (some (some (.builtin "property.__get__"))) &&
  (decide (PySem.W.takesIn K (.ref (ma K (CK K) x)) = some true) && ((match PySem.W.recIn K (ma K (CK K) x) "property" with | some (.ref _ :: _) => true | _ => false) && (PySem.W.keepIn K (.ref (gAd x K)) &&
    (match K.lookup (gAd x K) with | some ⟨_, _, .func fd, _⟩ => PySem.W.codeIn K fd.code q && He.dflB K fd.defaults [] | _ => false)))))
def biB (K : PySem.W.Frag) (T : String) : Bool := (PySem.W.findIn K (.type T) "__or__").isSome && ((PySem.W.findIn K (.type T) "__ror__").isSome && decide (PySem.W.subIn K (.type T) (.ref (CK K)) = some false))
abbrev pChg : Str × Option Str := ("_law_changed_right", none)
abbrev pLaw : Str × Option Str := ("law", none)
def exL (K : PySem.W.Frag) : Bool :=
  (PySem.W.plainGet K (CK K) Str.empty && (PySem.W.isClsIn K (CK K) && (PySem.W.plainOver K (CK K) && eqO (PySem.W.findIn K (.ref (CK K)) "__setattr__") (some (some (.builtin "object.__setattr__")))))) &&
  ((eqO (PySem.W.findIn K (.ref (CK K)) "__class__") (some (some (.builtin "object.__class__"))) && (eqO (PySem.W.specialIn K (.builtin "object.__class__") "__get__") (some (some (.builtin "getset_descriptor.__get__"))) && (decide (PySem.W.takesIn K (.builtin "object.__class__") = some true) && decide (PySem.W.mroIn K (CK K) (.type "object") = some true)))) &&
  ((slB K "own_columns" 0 && slB K "own_registers" 1) &&
  ((duB K "__contains__" && (duB K "__getitem__" && (duB K "__len__" && (duB K "__or__" && (duB K "__xor__" && (duB K "__invert__" && duB K "__eq__")))))) &&
  ((prB K "columns" "Marks.columns" && prB K "registers" "Marks.registers") &&
  ((PySem.W.selfFirst K (CK K) && (PySem.W.notFirst K (CK K) (.ref (CK K)) && decide (PySem.W.kitOne K (.ref (CK K)) (.ref (CK K)) = some true))) &&
  ((eqO (PySem.W.findIn K (.ref (CK K)) "__ror__") (some none) && (biB K "NoneType" && (biB K "dict" && biB K "list"))) && !decide ((cT K pChg).2 = (cT K pLaw).2)))))))
/-! ### a Hook with the getters -/
def fnAt (K : PySem.W.Frag) (a : Addr) : FnW := match K.lookup a with
  | some ⟨_, _, .func fd, _⟩ => some (fd.name, fd.qualname, fd.params, fd.body, fd.scope, fd.globals, fd.closure, fd.builtins)
  | _ => none
def getV (x q : Str) (st : Stmt) : FnW := some (x, q, defArgs st, .stmts (defBody st), defScope st, mainGlobals, [], builtinsNs)
abbrev AlY : Type := He.AlX × (FnW × FnW)
def getsK (K : PySem.W.Frag) : FnW × FnW := (fnAt K (gAd "columns" K), fnAt K (gAd "registers" K))
def getsV : FnW × FnW := (getV "columns" "Marks.columns" sCol, getV "registers" "Marks.registers" sRgs)
def obsY (g : Addr → Option Obj) : AlY := (obsX 5 faL fnL [] [pChg, pLaw] exL g, getsK (frT g (asD g 5)))
def hk : PySem.W.Hook where
  α := AlY
  obs := fun s => obsY s.heap.get?
  val := fun w => (valX fnL [] w, getsV)
  says := fun w h => ∃ K : PySem.W.Frag, K.In h ∧ SaysX faL fnL [] [pChg, pLaw] exL w h K ∧ getsK K = getsV
  of := fun _ s e => ⟨_, frT_in, saysX_of (h := s.heap) (congrArg (fun z : AlY => z.1) e), congrArg (fun z : AlY => z.2) e⟩
  keeps := fun _ _ _ ⟨K, hK, c, d⟩ k => ⟨K, PySem.W.Frag.In.keeps hK k, ⟨c.t, c.more, c.hd, c.out, fun p hp => k _ _ (c.empty p hp)⟩, d⟩
def ob (s : PySem.W.SharedT) : AlY := obsY (HandSHeadRun.getT s)
theorem ob_eq (s : PySem.W.SharedT) : ob s = hk.obs s.abs := by
  have e : HandSHeadRun.getT s = s.abs.heap.get? := funext fun a => HandSHeadRun.getT_eq s a
  unfold ob
  rw [e]
  rfl
abbrev Rr : PySem.W.OpenRow := PySem.W.OpenLaw.row PySem.Challenge.rw_lackmark_k02_whole_marks
end Lk
namespace Lk
open PySem PySem.Spec PyProof.Rows L2
theorem run (w : World) : HandSHeadRun.RunEq Rr (PySem.W.view Rr.prog [26]) hk ob 3000 ["LackError", "BadMarks", "BadPlace", "MOST_NUMBER", "is_number", "is_held", "REGISTERS", "MOST_REGISTERS", "are_marks", "is_register", "Marks", "_law_cell_at", "_law_draw", "_law_number", "_law_next", "_law_pick", "_law_some_marks", "_law_places", "_law_mark_at", "_law_asked", "_law_one_right", "_law_changed_right"] w := by
  intro os
  kernel_rfl
end Lk
/-! the facts put together; the end -/
namespace Lk
open PySem PySem.Spec PyProof.Rows L2
open LamX (TabB Tabs TabS ExtN LawAtS)
open He (Fa DefD Dv ga ma fAd eqO eqO_ok ba FnW frT asD obsX valX SaysX saysX_of frT_in cT codeOf SaysD glo_ok free_ok)
section
variable {P : Program} {w : World} {K : PySem.W.Frag} {mg : Str → Option Value} {base : Heap} {CX : CXT} {k : Nat} {f : Addr} {fd : FuncData} {ps : List Str} {sp : Sp}
theorem raw' (F : FnOk P w K mg base CX k f fd ps sp) (b : Binds K fd ps []) : FnR P w K mg base CX k f sp := (F.raw b .nil).imp fun vs H Q E h => by
  show sp (vs ++ []) H Q E
  rw [List.append_nil]
  exact h
theorem du_ok {x : Str} (c : duB K x = true) (F : FnR P w K mg base CX k (ma K (CK K) x) sp) : Dun P w K mg base CX k (CK K) x sp := by
  obtain ⟨c1, c⟩ := ba c
  obtain ⟨c2, c3⟩ := ba c
  exact ⟨⟨_, eqO_ok c1, c2, c3, F⟩⟩
theorem sl_ok {x : Str} {i : Nat} (hi : i < 1000) (c : slB K x i = true) : ∃ p, SlX.Slot1 K (CK K) x p i := by
  obtain ⟨c1, c⟩ := ba c
  obtain ⟨c2, c⟩ := ba c
  obtain ⟨c3, c⟩ := ba c
  obtain ⟨c4, c5⟩ := ba c
  exact ⟨_, eqO_ok c1, eqO_ok c2, of_decide_eq_true c3, of_decide_eq_true c4, of_decide_eq_true c5, hi⟩
theorem pr_ok {x q : Str} {st : Stmt} (c : prB K x q = true) (e : fnAt K (gAd x K) = getV x q st) : ∃ fd, FnS K x q st (gAd x K) fd ∧
    ∀ (P : Program) (w : World) (mg : Str → Option Value) (base : Heap) (i : Nat), FnR P w K mg base CX0 1 (gAd x K) (spProp (CK K) i) → Pr P w K mg base (CK K) x i := by
  obtain ⟨c1, c⟩ := ba c
  obtain ⟨c2, c⟩ := ba c
  obtain ⟨c3, c⟩ := ba c
  obtain ⟨c4, c⟩ := ba c
  obtain ⟨c5, c6⟩ := ba c
  have hrec : ∃ rest, PySem.W.recIn K (ma K (CK K) x) "property" = some (.ref (gAd x K) :: rest) := by
    unfold gAd
    cases q : PySem.W.recIn K (ma K (CK K) x) "property" with
    | none => rw [q] at c4; cases c4
    | some l =>
      rw [q] at c4
      cases l with
      | nil => cases c4
      | cons v r =>
        cases v with
        | ref a => exact ⟨r, rfl⟩
        | _ => cases c4
  unfold fnAt at e
  cases q' : K.lookup (gAd x K) with
  | none => rw [q'] at c6; cases c6
  | some o =>
    obtain ⟨oc, od, dt, osl⟩ := o
    rw [q'] at c6 e
    cases dt with
    | func fd =>
      obtain ⟨n1, n2, n3, n4, n5, n6, n7, n8, n9, n10, n11, n12, n13, n14, n15⟩ := fd
      have e2 : (some (n1, n2, n3, n4, n5, n6, n7, n15) : FnW) = some (x, q, defArgs st, .stmts (defBody st), defScope st, mainGlobals, [], builtinsNs) := e
      simp only [Option.some.injEq, Prod.mk.injEq] at e2
      obtain ⟨h1, h2, h3, h4, h5, h6, h7, h8⟩ := e2
      subst h1 h2 h3 h4 h5 h6 h7 h8
      have c7 : (PySem.W.codeIn K n13 n2 && He.dflB K n8 []) = true := c6
      obtain ⟨k1, k2⟩ := ba c7
      exact ⟨_, ⟨⟨oc, od, n8, n9, n10, n11, n12, n13, n14, osl, rfl, q', k1, He.dflB_ok k2, .inl rfl⟩, c5⟩, fun P w mg base i F => ⟨⟨_, _, eqO_ok c1, eqO_ok c2, of_decide_eq_true c3, hrec, F⟩⟩⟩
    | _ => cases c6
end
section
variable {w : World} {K : PySem.W.Frag} {h : Heap} {mg : Str → Option Value} {fa : Addr}
theorem saysD (c : SaysX faL fnL [] [pChg, pLaw] exL w h K) : SaysD faL fnL K := congrArg (fun z : He.AlT => z.1) c.t
theorem code_of {x : Str} {st : Stmt} {fd : FuncData} (F : FnS K x x st (ga K x) fd) : fd.code = .ref (codeOf K (x, none)) := by
  obtain ⟨oc, od, dV, kV, doc, pm, an, cdv, ct, osl, rfl, lk, hcd, _, _⟩ := F.ex
  obtain ⟨c, e⟩ := He.codeIn_ref hcd
  have e2 : codeOf K (x, none) = c := He.codeOf_eq (p := (x, none)) lk e
  rw [e2]
  exact e
theorem law_at (X : K.In h) (G : h.Ns mainGlobals mg) (hfa : mg ("law" : Str) = some (.ref fa)) (c : SaysX faL fnL [] [pChg, pLaw] exL w h K) (gt : getsK K = getsV) :
    LawAtS PySem.Challenge.rw_lackmark_k02_whole_marks w K L2.CX0 10 63 "_law_script" mg fa h := by
  have d := saysD c
  have gl : ∀ x : Str, Fa.glo x ∈ faL → mg x = some (.ref (ga K x)) := fun x hx => glo_ok X G (d.facts hx)
  have fr : ∀ x : Str, Fa.free x ∈ faL → mg x = none := fun x hx => free_ok X G (d.facts hx)
  have gs : Gs mg := ⟨fr _ (by simp [faL]), fr _ (by simp [faL]), fr _ (by simp [faL]), fr _ (by simp [faL]), fr _ (by simp [faL]), fr _ (by simp [faL]), fr _ (by simp [faL]), fr _ (by simp [faL]), fr _ (by simp [faL]), fr _ (by simp [faL]), fr _ (by simp [faL]), fr _ (by simp [faL]), fr _ (by simp [faL]),
    He.str_ok X G (d.facts (f := .str "REGISTERS" "abc") (by simp [faL])), He.int_ok X G (d.facts (f := .int "MOST_NUMBER" 9) (by simp [faL])), He.int_ok X G (d.facts (f := .int "MOST_REGISTERS" 3) (by simp [faL]))⟩
  -- the class's facts
  obtain ⟨x1, m1⟩ := ba c.more
  obtain ⟨a1, x1⟩ := ba x1
  obtain ⟨a2, x1⟩ := ba x1
  obtain ⟨a3, a4⟩ := ba x1
  obtain ⟨x2, m2⟩ := ba m1
  obtain ⟨b1, x2⟩ := ba x2
  obtain ⟨b2, x2⟩ := ba x2
  obtain ⟨b3, b4⟩ := ba x2
  obtain ⟨x3, m3⟩ := ba m2
  obtain ⟨s1, s2⟩ := ba x3
  obtain ⟨x4, m4⟩ := ba m3
  obtain ⟨u1, x4⟩ := ba x4
  obtain ⟨u2, x4⟩ := ba x4
  obtain ⟨u3, x4⟩ := ba x4
  obtain ⟨u4, x4⟩ := ba x4
  obtain ⟨u5, x4⟩ := ba x4
  obtain ⟨u6, u7⟩ := ba x4
  obtain ⟨x5, m5⟩ := ba m4
  obtain ⟨p1, p2⟩ := ba x5
  obtain ⟨x6, m6⟩ := ba m5
  obtain ⟨f1, x6⟩ := ba x6
  obtain ⟨f2, f3⟩ := ba x6
  obtain ⟨x7, n1⟩ := ba m6
  obtain ⟨r1, x7⟩ := ba x7
  obtain ⟨t1, x7⟩ := ba x7
  obtain ⟨t2, t3⟩ := ba x7
  have nP : (cT K pChg).2 ≠ (cT K pLaw).2 := by simpa using n1
  have M : Mc K mg (CK K) (ma K (CK K) "__init__") := ⟨⟨a1, a2, a3, eqO_ok a4⟩, ⟨eqO_ok b1, eqO_ok b2, of_decide_eq_true b3, of_decide_eq_true b4⟩, sl_ok (by decide) s1, sl_ok (by decide) s2, gl _ (by simp [faL]), He.mkr_ok (d.facts (f := .mkr "Marks") (by simp [faL]))⟩
  have err : ∀ x : Str, Fa.exc x ∈ faL → Fa.exm x x true ∈ faL → Fa.glo x ∈ faL → ErrC K mg x (ga K x) := fun x h1 h2 h3 => by
    obtain ⟨q1, q2, q3, q4⟩ := He.exc_ok (d.facts h1)
    exact ⟨gl x h3, q1, q2, q3, q4, He.exm_ok (d.facts h2)⟩
  have eBM := err "BadMarks" (by simp [faL]) (by simp [faL]) (by simp [faL])
  have eBP := err "BadPlace" (by simp [faL]) (by simp [faL]) (by simp [faL])
  -- the defs
  obtain ⟨d0, F0⟩ := d.def_ 0 (d := dF "is_number" sNum) rfl
  obtain ⟨d1, F1⟩ := d.def_ 1 (d := dF "is_held" sHeld) rfl
  obtain ⟨d2, F2⟩ := d.def_ 2 (d := dF "are_marks" sAre) rfl
  obtain ⟨d3, F3⟩ := d.def_ 3 (d := dF "is_register" sReg) rfl
  obtain ⟨d4, F4⟩ := d.def_ 4 (d := dM "__init__" "Marks.__init__" sInit) rfl
  obtain ⟨d5, F5⟩ := d.def_ 5 (d := dM "__contains__" "Marks.__contains__" sCon) rfl
  obtain ⟨d6, F6⟩ := d.def_ 6 (d := dM "__getitem__" "Marks.__getitem__" sGet) rfl
  obtain ⟨d7, F7⟩ := d.def_ 7 (d := dM "__len__" "Marks.__len__" sLen) rfl
  obtain ⟨d8, F8⟩ := d.def_ 8 (d := dM "__or__" "Marks.__or__" sOr) rfl
  obtain ⟨d9, F9⟩ := d.def_ 9 (d := dM "__xor__" "Marks.__xor__" sXor) rfl
  obtain ⟨d10, F10⟩ := d.def_ 10 (d := dM "__invert__" "Marks.__invert__" sInv) rfl
  obtain ⟨d11, F11⟩ := d.def_ 11 (d := dM "own" "Marks.own" sOwn) rfl
  obtain ⟨d12, F12⟩ := d.def_ 12 (d := dM "__eq__" "Marks.__eq__" sEq) rfl
  obtain ⟨d13, F13⟩ := d.def_ 13 (d := dF "_law_cell_at" sCell) rfl
  obtain ⟨d14, F14⟩ := d.def_ 14 (d := dF "_law_draw" sDraw) rfl
  obtain ⟨d15, F15⟩ := d.def_ 15 (d := dF "_law_number" sNumb) rfl
  obtain ⟨d16, F16⟩ := d.def_ 16 (d := dF "_law_next" sNext) rfl
  obtain ⟨d17, F17⟩ := d.def_ 17 (d := dF "_law_pick" sPick) rfl
  obtain ⟨d18, F18⟩ := d.def_ 18 (d := dF "_law_some_marks" sSome) rfl
  obtain ⟨d19, F19⟩ := d.def_ 19 (d := dF "_law_places" sPlaces) rfl
  obtain ⟨d20, F20⟩ := d.def_ 20 (d := dF "_law_mark_at" sMarkAt) rfl
  obtain ⟨d21, F21⟩ := d.def_ 21 (d := dF "_law_asked" sAsked) rfl
  obtain ⟨d22, F22⟩ := d.def_ 22 (d := dF "_law_one_right" sOne) rfl
  obtain ⟨d23, F23⟩ := d.def_ 23 (d := dF "_law_changed_right" sChg) rfl
  obtain ⟨d24, F24⟩ := d.def_ 24 (d := dF "law" sLaw) rfl
  have F0 : FnS K "is_number" "is_number" sNum (ga K "is_number") d0 := F0
  have F1 : FnS K "is_held" "is_held" sHeld (ga K "is_held") d1 := F1
  have F2 : FnS K "are_marks" "are_marks" sAre (ga K "are_marks") d2 := F2
  have F3 : FnS K "is_register" "is_register" sReg (ga K "is_register") d3 := F3
  have F4 : FnS K "__init__" "Marks.__init__" sInit (ma K (CK K) "__init__") d4 := F4
  have F5 : FnS K "__contains__" "Marks.__contains__" sCon (ma K (CK K) "__contains__") d5 := F5
  have F6 : FnS K "__getitem__" "Marks.__getitem__" sGet (ma K (CK K) "__getitem__") d6 := F6
  have F7 : FnS K "__len__" "Marks.__len__" sLen (ma K (CK K) "__len__") d7 := F7
  have F8 : FnS K "__or__" "Marks.__or__" sOr (ma K (CK K) "__or__") d8 := F8
  have F9 : FnS K "__xor__" "Marks.__xor__" sXor (ma K (CK K) "__xor__") d9 := F9
  have F10 : FnS K "__invert__" "Marks.__invert__" sInv (ma K (CK K) "__invert__") d10 := F10
  have F11 : FnS K "own" "Marks.own" sOwn (ma K (CK K) "own") d11 := F11
  have F12 : FnS K "__eq__" "Marks.__eq__" sEq (ma K (CK K) "__eq__") d12 := F12
  have F13 : FnS K "_law_cell_at" "_law_cell_at" sCell (ga K "_law_cell_at") d13 := F13
  have F14 : FnS K "_law_draw" "_law_draw" sDraw (ga K "_law_draw") d14 := F14
  have F15 : FnS K "_law_number" "_law_number" sNumb (ga K "_law_number") d15 := F15
  have F16 : FnS K "_law_next" "_law_next" sNext (ga K "_law_next") d16 := F16
  have F17 : FnS K "_law_pick" "_law_pick" sPick (ga K "_law_pick") d17 := F17
  have F18 : FnS K "_law_some_marks" "_law_some_marks" sSome (ga K "_law_some_marks") d18 := F18
  have F19 : FnS K "_law_places" "_law_places" sPlaces (ga K "_law_places") d19 := F19
  have F20 : FnS K "_law_mark_at" "_law_mark_at" sMarkAt (ga K "_law_mark_at") d20 := F20
  have F21 : FnS K "_law_asked" "_law_asked" sAsked (ga K "_law_asked") d21 := F21
  have F22 : FnS K "_law_one_right" "_law_one_right" sOne (ga K "_law_one_right") d22 := F22
  have F23 : FnS K "_law_changed_right" "_law_changed_right" sChg (ga K "_law_changed_right") d23 := F23
  have F24 : FnS K "law" "law" sLaw (ga K "law") d24 := F24
  have gt1 : fnAt K (gAd "columns" K) = getV "columns" "Marks.columns" sCol := congrArg (fun z : FnW × FnW => z.1) gt
  have gt2 : fnAt K (gAd "registers" K) = getV "registers" "Marks.registers" sRgs := congrArg (fun z : FnW × FnW => z.2) gt
  obtain ⟨dc, FC, PC⟩ := pr_ok p1 gt1
  obtain ⟨dr, FR, PR⟩ := pr_ok p2 gt2
  -- how they bind
  have B0 : Binds K d0 nNum [] := F0.bindsN fun _ _ _ _ _ _ us hl => match us, hl with | [_, _, _], _ => rfl
  have B1 : Binds K d1 nHeld [] := F1.bindsN fun _ _ _ _ _ _ us hl => match us, hl with | [_, _], _ => rfl
  have B2 : Binds K d2 ["thing", "most"] [] := F2.bindsN fun _ _ _ _ _ _ us hl => match us, hl with | [_, _], _ => rfl
  have B3 : Binds K d3 nReg [] := F3.bindsN fun _ _ _ _ _ _ us hl => match us, hl with | [_, _], _ => rfl
  have B4 : Binds K d4 nInit [] := F4.bindsN fun _ _ _ _ _ _ us hl => match us, hl with | [_, _, _], _ => rfl
  have B5 : Binds K d5 nCon [] := F5.bindsN fun _ _ _ _ _ _ us hl => match us, hl with | [_, _], _ => rfl
  have B6 : Binds K d6 nCon [] := F6.bindsN fun _ _ _ _ _ _ us hl => match us, hl with | [_, _], _ => rfl
  have B7 : Binds K d7 nSelf [] := F7.bindsN fun _ _ _ _ _ _ us hl => match us, hl with | [_], _ => rfl
  have B8 : Binds K d8 ["self", "changes"] [] := F8.bindsN fun _ _ _ _ _ _ us hl => match us, hl with | [_, _], _ => rfl
  have B9 : Binds K d9 ["self", "other"] [] := F9.bindsN fun _ _ _ _ _ _ us hl => match us, hl with | [_, _], _ => rfl
  have B10 : Binds K d10 nSelf [] := F10.bindsN fun _ _ _ _ _ _ us hl => match us, hl with | [_], _ => rfl
  have B11 : Binds K d11 nSelf [] := F11.bindsN fun _ _ _ _ _ _ us hl => match us, hl with | [_], _ => rfl
  have B12 : Binds K d12 nEq [] := F12.bindsN fun _ _ _ _ _ _ us hl => match us, hl with | [_, _], _ => rfl
  have B13 : Binds K d13 nCell [] := F13.bindsN fun _ _ _ _ _ _ us hl => match us, hl with | [_, _], _ => rfl
  have B14 : Binds K d14 ["_law_cell", "_law_k", "_law_bound"] [] := F14.bindsN fun _ _ _ _ _ _ us hl => match us, hl with | [_, _, _], _ => rfl
  have B15 : Binds K d15 ["_law_cell", "_law_k", "_law_bound"] [] := F15.bindsN fun _ _ _ _ _ _ us hl => match us, hl with | [_, _, _], _ => rfl
  have B16 : Binds K d16 ["_law_draw_here", "_law_bound"] [] := F16.bindsN fun _ _ _ _ _ _ us hl => match us, hl with | [_, _], _ => rfl
  have B17 : Binds K d17 nPick [] := F17.bindsN fun _ _ _ _ _ _ us hl => match us, hl with | [_, _], _ => rfl
  have B18 : Binds K d18 ["_law_draw_here"] [] := F18.bindsN fun _ _ _ _ _ _ us hl => match us, hl with | [_], _ => rfl
  have B19 : Binds K d19 nPlaces [] := F19.bindsN fun _ _ _ _ _ _ us hl => match us, hl with | [_], _ => rfl
  have B20 : Binds K d20 nMarkAt [] := F20.bindsN fun _ _ _ _ _ _ us hl => match us, hl with | [_, _], _ => rfl
  have B22 : Binds K d22 ["_law_draw_here", "_law_marks"] [] := F22.bindsN fun _ _ _ _ _ _ us hl => match us, hl with | [_, _], _ => rfl
  have B23 : Binds K d23 ["_law_draw_here", "_law_marks"] [] := F23.bindsN fun _ _ _ _ _ _ us hl => match us, hl with | [_, _], _ => rfl
  have BC : Binds K dc nSelf [] := FC.bindsN fun _ _ _ _ _ _ us hl => match us, hl with | [_], _ => rfl
  have BR : Binds K dr nSelf [] := FR.bindsN fun _ _ _ _ _ _ us hl => match us, hl with | [_], _ => rfl
  have b24 := FunD.bindsA (ps := ["_law_script"]) F24 fun _ _ _ _ _ _ us hl => match us, hl with | [_], _ => rfl
  have efa : fa = ga K "law" := by
    have e := hfa.symm.trans (gl "law" (by simp [faL]))
    injection e with e
    injection e
  subst efa
  refine ⟨d24, [cT K pChg, cT K pLaw], spLaw K [((cT K pChg).2, qL1), ((cT K pLaw).2, qL2)], fun p hp => ?_, fun p hp => ?_, fun p hp => ?_, fun s v => b24 s [v] rfl, fun H a ns _ _ ht hS => ⟨a, ns, rfl, hS, fun p hp => ?_, fun _ => rfl⟩, fun base hKb hG TB => ?_⟩
  · have hp : p = cT K pChg ∨ p = cT K pLaw := by simpa using hp
    rcases hp with e | e <;> rw [e]
    · exact c.empty pChg (by simp)
    · exact c.empty pLaw (by simp)
  · have hp : p = cT K pChg ∨ p = cT K pLaw := by simpa using hp
    rcases hp with e | e <;> rw [e]
    · exact c.out pChg (by simp)
    · exact c.out pLaw (by simp)
  · have hp : p = cT K pChg ∨ p = cT K pLaw := by simpa using hp
    rcases hp with e | e <;> rw [e]
    · exact PySem.W.codeHd_of_K X (c.hd pChg (by simp))
    · exact PySem.W.codeHd_of_K X (c.hd pLaw (by simp))
  · have hp : p = ((cT K pChg).2, qL1) ∨ p = ((cT K pLaw).2, qL2) := by simpa using hp
    rcases hp with e | e <;> rw [e]
    · exact TabS.nil (ht (cT K pChg) (by simp))
    · exact TabS.nil (ht (cT K pLaw) (by simp))
  · -- each def keeps its promise
    have cNum : Cal PySem.Challenge.rw_lackmark_k02_whole_marks.prog w K mg base CX0 1 "is_number" nNum spNum := ⟨_, _, ok_num F0 gs, B0, F0.kp, gl _ (by simp [faL])⟩
    have cHeld : Cal PySem.Challenge.rw_lackmark_k02_whole_marks.prog w K mg base CX0 2 "is_held" nHeld spHeld := ⟨_, _, ok_held F1 cNum, B1, F1.kp, gl _ (by simp [faL])⟩
    have cAre : Cal PySem.Challenge.rw_lackmark_k02_whole_marks.prog w K mg base CX0 3 "are_marks" ["thing", "most"] spAre := ⟨_, _, ok_are F2 gs cHeld, B2, F2.kp, gl _ (by simp [faL])⟩
    have cReg : Cal PySem.Challenge.rw_lackmark_k02_whole_marks.prog w K mg base CX0 1 "is_register" nReg spReg := ⟨_, _, ok_reg F3 gs, B3, F3.kp, gl _ (by simp [faL])⟩
    have Ii : Ic PySem.Challenge.rw_lackmark_k02_whole_marks.prog w K mg base (CK K) (ga K "BadMarks") (ma K (CK K) "__init__") d4 := ⟨M, ok_init F4 gs M eBM cAre, B4⟩
    have uCon : Dun PySem.Challenge.rw_lackmark_k02_whole_marks.prog w K mg base CX0 2 (CK K) "__contains__" (spCon (CK K)) := du_ok u1 (raw' (ok_con F5 gs M cNum cReg) B5)
    have uGet : Dun PySem.Challenge.rw_lackmark_k02_whole_marks.prog w K mg base (L2.CX PySem.Challenge.rw_lackmark_k02_whole_marks.prog w) 2 (CK K) "__getitem__" (spGet (CK K) (ga K "BadPlace")) := du_ok u2 (raw' (ok_get F6 gs M eBP cNum cReg) B6)
    have bt : ∀ T : String, T = "NoneType" ∨ T = "dict" ∨ T = "list" → ∀ g, PySem.W.findIn K (.ref (CK K)) "__or__" = some (some (.ref g)) → BinT K (CK K) g .BitOr T := fun T hT g hg => by
      have eg : g = ma K (CK K) "__or__" := by
        have := hg.symm.trans (eqO_ok (ba u4).1)
        injection this with this
        injection this with this
        injection this
      have hb : biB K T = true := by
        rcases hT with e | e | e
        · rw [e]; exact t1
        · rw [e]; exact t2
        · rw [e]; exact t3
      obtain ⟨h1, hb⟩ := ba hb
      obtain ⟨h2, h3⟩ := ba hb
      exact ⟨f1, hg, by rw [eg]; exact (ba (ba u4).2).1, eqO_ok r1, Option.isSome_iff_exists.mp h1, Option.isSome_iff_exists.mp h2, of_decide_eq_true h3⟩
    have Mm : Ms PySem.Challenge.rw_lackmark_k02_whole_marks.prog w K mg base (CK K) (ga K "BadMarks") (ga K "BadPlace") (ma K (CK K) "__init__") d4 :=
      ⟨Ii, eBM, eBP, uCon, uGet, du_ok u3 (raw' (ok_len F7 gs M) B7), du_ok u4 (raw' (ok_or F8 gs Ii eBM uCon) B8), du_ok u5 (raw' (ok_xor F9 gs uCon uGet) B9), du_ok u6 (raw' (ok_inv F10 gs Ii) B10), du_ok u7 (raw' (ok_eq F12 gs M (of_decide_eq_true f3)) B12),
        ⟨_, He.meth_ok (d.facts (f := .meth "Marks" "own") (by simp [faL])), raw' (ok_own F11 gs uCon uGet) B11⟩, PC _ _ _ _ _ (raw' (ok_col FC M) BC), PR _ _ _ _ _ (raw' (ok_rgs FR M) BR), f1, f2, bt⟩
    have cCell : Cal PySem.Challenge.rw_lackmark_k02_whole_marks.prog w K mg base CX0 1 "_law_cell_at" nCell (spCellAt K) := ⟨_, _, ok_cell F13 gs, B13, F13.kp, gl _ (by simp [faL])⟩
    have cDraw : Cal PySem.Challenge.rw_lackmark_k02_whole_marks.prog w K mg base CX0 1 "_law_draw" ["_law_cell", "_law_k", "_law_bound"] spDrawI := ⟨_, _, ok_draw F14 gs, B14, F14.kp, gl _ (by simp [faL])⟩
    have cNumb : Cal PySem.Challenge.rw_lackmark_k02_whole_marks.prog w K mg base CX0 2 "_law_number" ["_law_cell", "_law_k", "_law_bound"] spNumb := ⟨_, _, ok_numb F15 gs cDraw, B15, F15.kp, gl _ (by simp [faL])⟩
    have cNext : Cal PySem.Challenge.rw_lackmark_k02_whole_marks.prog w K mg base CX0 3 "_law_next" ["_law_draw_here", "_law_bound"] (spNext K) := ⟨_, _, ok_next F16 gs cCell cNumb, B16, F16.kp, gl _ (by simp [faL])⟩
    have cPick : Cal PySem.Challenge.rw_lackmark_k02_whole_marks.prog w K mg base CX0 4 "_law_pick" nPick (spPick K) := ⟨_, _, ok_pick F17 gs cNext, B17, F17.kp, gl _ (by simp [faL])⟩
    have cSome : Cal PySem.Challenge.rw_lackmark_k02_whole_marks.prog w K mg base CX0 5 "_law_some_marks" ["_law_draw_here"] (spSome K) := ⟨_, _, ok_some F18 gs cNext cPick, B18, F18.kp, gl _ (by simp [faL])⟩
    have cPlaces : Cal PySem.Challenge.rw_lackmark_k02_whole_marks.prog w K mg base CX0 1 "_law_places" nPlaces spPlaces := ⟨_, _, ok_places F19 gs, B19, F19.kp, gl _ (by simp [faL])⟩
    have cMarkAt : Cal PySem.Challenge.rw_lackmark_k02_whole_marks.prog w K mg base CX0 1 "_law_mark_at" nMarkAt spMarkAt := ⟨_, _, ok_markAt F20 gs, B20, F20.kp, gl _ (by simp [faL])⟩
    have ak : AskF K mg := ⟨_, _, F21, gl _ (by simp [faL])⟩
    have cOne : Cal PySem.Challenge.rw_lackmark_k02_whole_marks.prog w K mg base CX0 7 "_law_one_right" ["_law_draw_here", "_law_marks"] spOne := ⟨_, _, ok_one F22 gs Mm cPlaces cMarkAt, B22, F22.kp, gl _ (by simp [faL])⟩
    have TB1 : TabB base mg (codeOf K pChg) (cT K pChg).2 := TB (cT K pChg) (by simp)
    have TB2 : TabB base mg (codeOf K pLaw) (cT K pLaw).2 := TB (cT K pLaw) (by simp)
    have hu1 : ∀ p ∈ [((cT K pChg).2, qL1), ((cT K pLaw).2, qL2)], p.1 = (cT K pChg).2 → p.2 = qL1 := fun p hp e => by
      have hp : p = ((cT K pChg).2, qL1) ∨ p = ((cT K pLaw).2, qL2) := by simpa using hp
      rcases hp with z | z <;> subst z
      · rfl
      · exact absurd e.symm nP
    have hu2 : ∀ p ∈ [((cT K pChg).2, qL1), ((cT K pLaw).2, qL2)], p.1 = (cT K pLaw).2 → p.2 = qL2 := fun p hp e => by
      have hp : p = ((cT K pChg).2, qL1) ∨ p = ((cT K pLaw).2, qL2) := by simpa using hp
      rcases hp with z | z <;> subst z
      · exact absurd e nP
      · rfl
    have cChg : Cal PySem.Challenge.rw_lackmark_k02_whole_marks.prog w K mg base CX0 9 "_law_changed_right" ["_law_draw_here", "_law_marks"] (spChg K [((cT K pChg).2, qL1), ((cT K pLaw).2, qL2)]) :=
      ⟨_, _, ok_chg F23 (code_of F23) TB1 (by simp) hu1 gs Mm ak cNext cPick cPlaces, B23, F23.kp, gl _ (by simp [faL])⟩
    exact ok_law F24 (code_of F24) TB2 (by simp) hu2 gs Mm ak cSome cOne cChg cPlaces cMarkAt
end
end Lk
open PySem PySem.W PySem.Calls PyProof.Rows
theorem PySem.Challenge.cw_lackmark_k02_whole_marks_holds : PySem.Challenge.rw_lackmark_k02_whole_marks.Holds := by
  w_on; o_law
  refine HandSHeadRun.head_any (r := OpenLaw.row PySem.Challenge.rw_lackmark_k02_whole_marks) (q := view (OpenLaw.row PySem.Challenge.rw_lackmark_k02_whole_marks).prog [26]) (H := Lk.hk) (ob := Lk.ob) (M := 3000)
    (loose := ["LackError", "BadMarks", "BadPlace", "MOST_NUMBER", "is_number", "is_held", "REGISTERS", "MOST_REGISTERS", "are_marks", "is_register", "Marks", "_law_cell_at", "_law_draw", "_law_number", "_law_next", "_law_pick", "_law_some_marks", "_law_places", "_law_mark_at", "_law_asked", "_law_one_right", "_law_changed_right"])
    (d := HandSHeadRun.topDef (OpenLaw.row PySem.Challenge.rw_lackmark_k02_whole_marks).prog 26) (kwd := []) Lk.ob_eq
    (by kernel_rfl) (fun s => by kernel_rfl) Lk.run (by kernel_rfl) (by kernel_rfl) (by kernel_rfl) (by rfl) (by first | assumption | decide +kernel) (by decide +kernel) ⟨rfl, rfl, rfl, rfl, rfl, by decide +kernel⟩ ?hw ?hc
  case hw => w_witness2
  case hc =>
    refine LamX.walk_ofTsE (l := PySem.Challenge.rw_lackmark_k02_whole_marks) (n := 63) (k := 10) (x := "_law_script") (CX := fun _ => L2.CX0) rfl (by decide) (by kernel_rfl) ⟨rfl, by decide, by decide⟩ ?F (fun _ _ _ _ _ z => z)
    intro w mg fa h Y G hmg0
    obtain ⟨K, KX, c, gt⟩ := Y
    have hmg : mg ("law" : PySem.Str) = some (.ref fa) := by
      have e : (HandSHeadRun.topDef (OpenLaw.row PySem.Challenge.rw_lackmark_k02_whole_marks).prog 26).name = ("law" : PySem.Str) := by kernel_rfl
      rw [← e]
      exact hmg0
    exact ⟨K, KX, Lk.law_at KX G hmg c gt⟩
