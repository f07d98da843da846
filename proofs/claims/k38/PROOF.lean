import PyProof.Rows.All
import Wide.All
import OpenK.AllK
import Wide.FinOn
import HandS.ForMost
import HandS.Wide
import HandS.IsInst
import HandS.Style
import HandS.FStr
import HandS.Property
import HandS.SlotsOwn
import HandS.ClsMeth
import HandS.NoneIn
import HandS.Codes
import HandS.Walk
import HandS.ExcInit
import HandS.ExcIs
import HandS.ExcOwn
import HandS.ExcField
import HandS.TryMany
import HandS.WordsExc
import HandS.ExcBuiltin
import HandS.MakeKw
import HandS.MakeKwOnly
import HandS.TryOnly
import PyProof.ReprLen
import KE.KOpsOwn
import HandS.TupAny
import HandS.DictTup
import HandS.DictComp
import KE.KDictDisplayH
import PyProof.Rows.SeqRoads
import HandS.Replace
import HandS.Deep
import KE.GoesMore
import KE.GoesEnum
import HandS.SetFor
import HandS.Star
import HandS.HeadEnd
import HandS.HeadHook2
import HandS.Head2
import HandS.CallSlots
import KE.KExcIs
import HandS.OwnEq
import HandS.Zip
import KE.DataCmp
import PyProof.StrHeap
import KE.KExcStr
import KE.KCallOwn
import HandS.Nested
import KE.KSuper
import HandS.Defaults
import HandS.TupAny
import HandS.RaiseMore
import HandS.HeadHook3
import HandS.TupMul
import KE.GoesZip
import HandS.SortInts
import HandS.Lambda
import HandS.EndTab
import HandS.Style
import KE.KSlice
import PySem.Challenge.RW_unmarked_k38_programs_made
set_option Elab.async false
set_option linter.all false
set_option maxRecDepth 100000
set_option maxHeartbeats 4000000
namespace Kb
open PySem PySem.Spec PyProof.Rows L2

theorem ifT {c : Bool} {A B : Prop} (hc : c = true) (h : A) : if c = true then A else B := by rw [if_pos hc]; exact h
theorem ifF {c : Bool} {A B : Prop} (hc : c = false) (h : B) : if c = true then A else B := by rw [hc, if_neg Bool.false_ne_true]; exact h
/-! ### a statement, then the rest, joined by a word -/
def tMid (t u : TS) : TS := fun D σ H => ∃ M : L2.St → Hp → Prop, t { D with nx := M } σ H ∧ ∀ σ1 H1, M σ1 H1 → u D σ1 H1
theorem pss_mid {X : Cx} {st : Stmt} {rest : List Stmt} {t u : TS} (a : PS X st t) (b : PSs X rest u) : PSs X (st :: rest) (tMid t u) := by
  refine ⟨fun pins s σ H D I ⟨M, hm, hu⟩ => ?_⟩
  refine wpAny_execs_cons (thn (a.run pins s σ H { D with nx := M } I hm) fun fl s1 z => ?_)
  cases fl with
  | next =>
    obtain ⟨σ1, H1, I1, z⟩ := z
    exact b.run pins s1 σ1 H1 D I1 (hu σ1 H1 z)
  | ret v => exact z
  | brk => exact z
  | cont => exact z
/-! ### what a comprehension's reading asks behind its source -/
def LcR (J : It) (g : TG) (tt : TT) (te : TE) (vs : List Nat) (σ : L2.St) (H1 : Hp) (D : Addr) (Qd : Hp → Prop) : Prop := ∃ W : Nat → Nat → Hp → Prop, (∃ m, W 0 m (upd H1 D (.lst []))) ∧ ∀ i m H, W i m H →
  (J.stop i H ∧ Qd H) ∨ (J.go i H ∧ ∃ Nx : Hp → Prop, (∀ H', Nx H' → ∃ m', m' < m ∧ W (i + 1) m' H') ∧ ∀ x H', J.yld i H x H' → g x (wipe σ vs) H' fun σ2 H2 => wipe σ2 vs = wipe σ vs ∧ tt σ2 H2 fun b H3 =>
    if b = true then te σ2 H3 fun y H4 => ∃ acc, H4 D = some (.lst acc) ∧ acc.length < sizeLine ∧ Nx (upd H4 D (.lst (acc ++ [y]))) else Nx H3)
theorem lcR_range {lo : Int} {n : Nat} {g : TG} {te : TE} {vs : List Nat} {σ : L2.St} {H1 : Hp} {D : Addr} {Qd : Hp → Prop} (M : Nat → Hp → Prop) (h0 : M 0 (upd H1 D (.lst [])))
    (hs : ∀ i H, i < n → M i H → g (.int (lo + i)) (wipe σ vs) H fun σ2 H2 => wipe σ2 vs = wipe σ vs ∧ te σ2 H2 fun y H4 => ∃ acc, H4 D = some (.lst acc) ∧ acc.length < sizeLine ∧ M (i + 1) (upd H4 D (.lst (acc ++ [y]))))
    (hm : ∀ x σ H Q Q', (∀ σ2 H2, Q σ2 H2 → Q' σ2 H2) → g x σ H Q → g x σ H Q') (hd : ∀ H, M n H → Qd H) : LcR (Itr lo n) g tYes te vs σ H1 D Qd :=
  lc_range M h0 (fun i H hi m => hm _ _ _ _ _ (fun σ2 H2 z => ⟨z.1, ifT (B := M (i + 1) H2) rfl z.2⟩) (hs i H hi m)) hd
theorem lcR_list {K : PySem.W.Frag} {a : Addr} {xs : List V} {g : TG} {te : TE} {vs : List Nat} {σ : L2.St} {H1 : Hp} {D : Addr} {Qd : Hp → Prop} (M : Nat → Hp → Prop) (h0 : M 0 (upd H1 D (.lst []))) (hl : ∀ i H, i ≤ xs.length → M i H → SqL K H a xs)
    (hs : ∀ i x H, xs[i]? = some x → M i H → g x (wipe σ vs) H fun σ2 H2 => wipe σ2 vs = wipe σ vs ∧ te σ2 H2 fun y H4 => ∃ acc, H4 D = some (.lst acc) ∧ acc.length < sizeLine ∧ M (i + 1) (upd H4 D (.lst (acc ++ [y]))))
    (hm : ∀ x σ H Q Q', (∀ σ2 H2, Q σ2 H2 → Q' σ2 H2) → g x σ H Q → g x σ H Q') (hd : ∀ H, M xs.length H → Qd H) : LcR (Itl K a) g tYes te vs σ H1 D Qd :=
  lc_list M h0 hl (fun i x H hi m => hm _ _ _ _ _ (fun σ2 H2 z => ⟨z.1, ifT (B := M (i + 1) H2) rfl z.2⟩) (hs i x H hi m)) hd
theorem gName_mono (i : Nat) : ∀ (x : V) (σ : L2.St) (H : Hp) (Q Q' : L2.St → Hp → Prop), (∀ σ2 H2, Q σ2 H2 → Q' σ2 H2) → gName i x σ H Q → gName i x σ H Q' := fun _ _ _ _ _ h q => h _ _ q
theorem szl {n : Nat} (h : n ≤ 1000000) : n ≤ sizeLine := Nat.le_trans h (by decide)
theorem szs {n : Nat} (h : n ≤ 1000000) : n < sizeLine := Nat.lt_of_le_of_lt h (by decide)
/-! ### rules that name the written part: for blocks of comprehensions -/
section
variable {X : Cx} {K : PySem.W.Frag}
theorem ix_tupK (h : X.K = K) : IxR X (rIxT K) := h ▸ ix_tup
theorem pi_listK {tg l : Expr} {tl : TE} (h : X.K = K) (hl : PE X l tl) : PI X tg l (iList K tl) := h ▸ pi_list hl
end
/-! ### a comprehension over a text -/
theorem lcR_str {z : Str} {g : TG} {te : TE} {vs : List Nat} {σ : L2.St} {H1 : Hp} {D : Addr} {Qd : Hp → Prop} (M : Nat → Hp → Prop) (h0 : M 0 (upd H1 D (.lst [])))
    (hs : ∀ i c H, i < z.cps.size → z.cps[i]? = some c → M i H → g (.str ⟨#[c]⟩) (wipe σ vs) H fun σ2 H2 => wipe σ2 vs = wipe σ vs ∧ te σ2 H2 fun y H4 => ∃ acc, H4 D = some (.lst acc) ∧ acc.length < sizeLine ∧ M (i + 1) (upd H4 D (.lst (acc ++ [y]))))
    (hm : ∀ x σ H Q Q', (∀ σ2 H2, Q σ2 H2 → Q' σ2 H2) → g x σ H Q → g x σ H Q') (hd : ∀ H, M z.cps.size H → Qd H) : LcR (Its z) g tYes te vs σ H1 D Qd :=
  lc_it walk_str M h0 (fun _ _ _ _ => trivial) (fun i x H H' hi m y => by
    obtain ⟨e, c, hc, ex⟩ := y
    subst e; subst ex
    exact hm _ _ _ _ _ (fun σ2 H2 z => ⟨z.1, ifT (B := M (i + 1) H2) rfl z.2⟩) (hs i c _ hi hc m)) hd
/-! ### a comprehension whose every turn makes one object -/
theorem kit_self (K : PySem.W.Frag) (t : Value) (h : (t == t) = true) : PySem.W.kitOne K t t = some true := by
  unfold PySem.W.kitOne
  rw [if_pos h]
/-! ### int of an int, of a truth -/
theorem call_intI {X : Cx} : CallR X (.type "int") (fun xs H Q => ∃ i, xs = [.int i] ∧ Q (.int i) H) := fun pins s σ H xs us Q I r h => call_int1 pins s σ H xs us Q I r (.inl h)
theorem call_intB {X : Cx} : CallR X (.type "int") (fun xs H Q => ∃ k, xs = [.bl k] ∧ Q (.int (if k then 1 else 0)) H) := fun pins s σ H xs us Q I r h => call_int1 pins s σ H xs us Q I r (.inr h)
/-! ### a def that may be called by its name -/
structure FnC (P : Program) (w : World) (K : PySem.W.Frag) (mg : Str → Option Value) (base : Heap) (CX : CXT) (k : Nat) (x : Str) (ps : List Str) (sp : Sp) : Prop where
  ex : ∃ (f : Addr) (fd : FuncData), FnOk P w K mg base CX k f fd ps sp ∧ mg x = some (.ref f) ∧ PySem.W.keepIn K (.ref f) = true ∧ Binds K fd ps []
section
variable {X : Cx} {k : Nat} {x : Str} {ps : List Str} {sp : Sp} {e : Expr} {es : List Expr} {t : TA} {p pos : Pos}
theorem pe_callC (F : FnC X.prog X.w X.K X.mg X.base CX0 k x ps sp) (hr : Room k X.A) (hg : Gl X x) (ha : PA X (e :: es) t) (hdb : (x == ("__debug__" : Str)) = false := by decide)
    (he : starEach (e :: es) X.env = (false, eval e X.env) :: starEach es X.env := by rfl) (hpl : (backTo pos (starEach es X.env)).any (·.1) = false := by rfl) :
    PE X (.Call (.Name x p) (e :: es) [] pos) (tCall sp [] E0 t) := by
  obtain ⟨f, fd, h, hm, hk, hb⟩ := F.ex
  exact pe_call h hr hg hm hk hb .nil pass0 ha hdb he hpl
end

/-! ### texts -/
section
variable {X : Cx}
end
end Kb

/-! ### own comparisons -/
namespace Kb
open PySem PySem.W PySem.Spec PyProof.Rows
section
variable {prog : Program} {w : World} {A : Around} {E : Value → Shared → Prop} {s : Shared} {K : Frag} {x C f L : Addr} {ox : Obj} {od : Option Obj} {h₀ : Heap} {m : Str → Option Value} {tb : Value}
theorem ifBound_B {M : Model} {name : Str} {id : String} {args : List Value} {Q : Option Value → Shared → Prop} (X : K.In s.heap) (I : InstAt s.heap x ox C od) (hs : findIn K (.ref C) name = some (some (.builtin id)))
    (hb : ∀ self, bindSpecial (.builtin id) self = pure (.builtin id, [self]))
    (h : wpAny M A (call (.builtin id) (.ref x :: args)) (fun v => Q (some v)) E s) : wpAny M A (callSpecialIfBound? (.ref x) name args) Q E s := by
  simp only [callSpecialIfBound?, bindSpecialIfBound?]
  refine wpAny_holding (wpAny_bind (wpAny_bind (wpAny_bind (I.type.here ((looks_findIn X hs).here ?_)))))
  refine wpAny_bind (wpAny_askSetting (wpAny_ite ?_))
  have fin : wpAny M A (call (.builtin id) ([.ref x] ++ args) >>= fun v => pure (some v)) Q E s := wpAny_bind (wpAny_mono h (fun v s' z => wpAny_pure z) fun _ _ z => z)
  split
  · exact wpAny_bind ((Looks.of_pure (hb _)).here (wpAny_pure (by exact fin)))
  · exact wpAny_tryCatch (wpAny_bind ((Looks.of_pure (hb _)).here (wpAny_pure (by exact fin))))
theorem check_slotI {i owner n : String} {self : Value} {rest : List Value} {kw : List (Str × Value)} {Q : Unit → Shared → Prop}
    (hk : builtinKind i = some .slot) (hs : splitId i = some (owner, n)) (hi : Looks (model prog w) s.heap (isInstance self (.type owner)) true) (ha : argsOk i ⟨self :: rest, kw⟩) (q : Q () s) :
    wpAny (model prog w) A (checkBuiltinCall i ⟨self :: rest, kw⟩) Q E s := by
  simp only [checkBuiltinCall, hk, hs]
  refine wpAny_bind (hi.here ?_)
  simp only [Bool.not_true, Bool.false_eq_true, if_false]
  cases hsig : Manifest.signature? i with
  | none => exact wpAny_pure q
  | some sig =>
    simp only [argsOk, hsig] at ha
    have h2 : Bind.checkArgs i sig ⟨self :: rest, kw⟩ = pure () := ha
    show wpAny _ A (Bind.checkArgs i sig ⟨self :: rest, kw⟩) Q E s
    rw [h2]; exact wpAny_pure q
theorem cmp_ne {b : Value} {Q : Value → Shared → Prop} (hu : A.units + 1 < cLine) (F : Fr h₀ L s.heap m) (X₀ : K.In h₀) (I : InstAt s.heap x ox C od) (hb : Looks (model prog w) s.heap (typeOf b) tb) (hn : notFirst K C tb = true)
    (hne : findIn K (.ref C) "__ne__" = some (some (.builtin "object.__ne__"))) (hm : subIn K (.ref C) (.type "object") = some true)
    (hs : findIn K (.ref C) "__eq__" = some (some (.ref f))) (hf : isFn K (.ref f) = true)
    (h : wpAny (model prog w) A.in1 (call (.ref f) [.ref x, b]) (fun v s' => ∃ k, v = .bool k ∧ Q (.bool (!k)) s') E s) : wpAny (model prog w) A (richCompare .NotEq (.ref x) b) Q E s := by
  have X := X₀.keeps F.keep
  have bs : ∀ self, bindSpecial (.builtin "object.__ne__") self = pure (.builtin "object.__ne__", [self]) := fun self => by with_unfolding_all rfl
  have isi : Looks (model prog w) s.heap (isInstance (.ref x) (.type "object")) true := by
    unfold isInstance
    exact I.type.andThen (looks_subIn X hm)
  have one : wpAny (model prog w) A (tryCompare (.ref x) (cmpInfo .NotEq).2.1 b) (fun r s' => ∃ v, r = some v ∧ Q v s') E s := by
    unfold tryCompare
    refine wpAny_bind (ifBound_B (id := "object.__ne__") X I hne bs ?_)
    refine wpAny_call (codeAny_call_builtin (by decide +kernel) PySem.F.cmpEntry_ne (check_slotI PySem.F.cmpKind_ne PySem.F.cmpSplit_ne isi (PySem.F.cmpArgs_ne _ _) ?_))
    unfold Builtin.«object.__ne__»
    have hu2 : A.in1.units < cLine := hu
    repeat (first
      | with_reducible refine wpAny_cRoomFor hu2 ?_
      | refine wpAny_bind (m := callSpecialIfBound? (.ref x) (Str.ofString "__eq__") [b]) (ifBound_K X I hs hf (wpAny_mono h (fun r s' hr => ?_) fun _ _ e => e))
      | wp_step)
    obtain ⟨k, rfl, hq⟩ := hr
    repeat (first | exact ⟨_, rfl, wpAny_pure hq⟩ | exact ⟨_, rfl, hq⟩ | exact hq | exact wpAny_pure hq | (refine wpAny_bind (m := truthy (.bool _)) (wpAny_truthy_bool ?_)) | wp_step)
  unfold richCompare
  simp only [oneThing_ref]
  refine wpAny_holding (wpAny_bind (wpAny_cRoomFor (by omega) ?_))
  refine wpAny_bind (I.type.here (wpAny_bind (hb.here ?_)))
  have fin : wpAny (model prog w) A (tryCompare (.ref x) (cmpInfo .NotEq).2.1 b) (fun r s' => ∃ v, r = some v ∧ Q v s') E s := one
  split
  · rename_i q
    have e : subIn K tb (.ref C) = some false := by
      rcases Bool.or_eq_true_iff.mp hn with e | e
      · rw [beq_iff_eq.mp e] at q; simp at q
      · exact beq_iff_eq.mp e
    refine wpAny_bind ((looks_subIn X e).here ?_)
    simp only [Bool.false_eq_true, if_false]
    refine wpAny_bind (wpAny_mono fin (fun r s' z => ?_) fun _ _ e => e)
    obtain ⟨v, rfl, hq⟩ := z
    exact wpAny_pure hq
  · refine wpAny_bind (wpAny_pure ?_)
    simp only [Bool.false_eq_true, if_false]
    refine wpAny_bind (wpAny_mono fin (fun r s' z => ?_) fun _ _ e => e)
    obtain ⟨v, rfl, hq⟩ := z
    exact wpAny_pure hq
end
end Kb

/-! ### methods of own classes, own comparisons, repr, defs that ask for the guards -/
namespace Kb
open PySem PySem.Spec PyProof.Rows L2
/-- a method of the class at C -/
structure MtC (P : Program) (w : World) (K : PySem.W.Frag) (mg : Str → Option Value) (base : Heap) (CX : CXT) (k : Nat) (C : Addr) (m : Str) (ps : List Str) (sp : Sp) : Prop where
  ex : ∃ (f : Addr) (fd : FuncData), FnOk P w K mg base CX k f fd ps sp ∧ Meth K C m f ∧ Binds K fd ps []
/-- how the class at C is made -/
structure MkC (P : Program) (w : World) (K : PySem.W.Frag) (mg : Str → Option Value) (base : Heap) (CX : CXT) (k : Nat) (C : Addr) (x : Str) (ps : List Str) (sp : Sp) : Prop where
  ex : ∃ (f : Addr) (fd : FuncData), FnOk P w K mg base CX k f fd ps sp ∧ Mk K C f ∧ mg x = some (.ref C) ∧ Binds K fd ps []
section
variable {X : Cx} {k : Nat} {x m : Str} {C : Addr} {ps : List Str} {sp : Sp} {e o : Expr} {es : List Expr} {t : TA} {ta : TE} {p pos apos : Pos}
theorem pe_makeC (F : MkC X.prog X.w X.K X.mg X.base CX0 k C x ps sp) (hr : Room (k + 1) X.A) (hg : Gl X x) (ha : PA X (e :: es) t) (hdb : (x == ("__debug__" : Str)) = false := by decide)
    (he : starEach (e :: es) X.env = (false, eval e X.env) :: starEach es X.env := by rfl) (hpl : (backTo pos (starEach es X.env)).any (·.1) = false := by rfl) :
    PE X (.Call (.Name x p) (e :: es) [] pos) (tMake C sp [] E0 t) := by
  obtain ⟨f, fd, h, M, hm, hb⟩ := F.ex
  exact pe_make M h hr hg hm hb .nil pass0 ha hdb he hpl
/-- x op y by the class's own def -/
def rOwnI (K : PySem.W.Frag) (C : Addr) (sp : Sp) (E : XK) : R2 := fun x y H Q => ∃ (a dx : Addr) (fs : List (Str × V)) (t : Value), x = .ref a ∧ H a = some (.ins C dx fs) ∧ TyX K H y t ∧ PySem.W.notFirst K C t = true ∧ sp [x, y] H Q E
theorem op_ownI {op : CmpOp} (hop : ∀ a b, compareOp op a b = richCompare op a b) (F : MtC X.prog X.w X.K X.mg X.base CX0 k C (cmpInfo op).2.1 ps sp) (hr : Room k X.A) : OpR X (compareOp op) (rOwnI X.K C sp E0) := by
  intro pins s σ H x y v u Q I rx ry h
  obtain ⟨a, dx, fs, ty, rfl, ha, hty, hn, q⟩ := h
  obtain ⟨f, fd, hf, M, hb⟩ := F.ex
  cases (show v = Value.ref a from rx)
  obtain ⟨mA, O, _⟩ := ins_get I.hok ha
  obtain ⟨od, J, _⟩ := O.look
  obtain ⟨P, Z, hP, _⟩ := kit_of I ry hty
  obtain ⟨m, hF⟩ := I.fr
  rw [hop]
  refine PySem.W.cmp_K (op := op) (tb := ty) hr.units0 hF I.ok.mod.kin J (Z.ty _ _ I.kIn hP) hn M.at_ M.fn ?_
  refine wpAny_mono (run_fn (us := [.ref a, u]) (vs := [.ref a, y]) hf hr hb .nil pass0 I (.cons rfl (.cons ry .nil)) q) (fun w s' z => ?_) fun _ _ z => z
  obtain ⟨z', H', I', rz, qz⟩ := z
  exact SlX.cmpback rz ⟨z', H', I', rz, qz⟩
/-- x != y by the class's own == alone -/
def rOwnNe (K : PySem.W.Frag) (C : Addr) (sp : Sp) : R2 := fun x y H Q => ∃ (a dx : Addr) (fs : List (Str × V)) (t : Value), x = .ref a ∧ H a = some (.ins C dx fs) ∧ TyX K H y t ∧ PySem.W.notFirst K C t = true ∧ sp [x, y] H (fun z H' => ∃ b, z = .bl b ∧ Q (.bl (!b)) H') E0
theorem op_neI (F : MtC X.prog X.w X.K X.mg X.base CX0 k C "__eq__" ps sp) (hne : PySem.W.findIn X.K (.ref C) "__ne__" = some (some (.builtin "object.__ne__"))) (hm : PySem.W.subIn X.K (.ref C) (.type "object") = some true) (hr : Room (k + 1) X.A) : OpR X (compareOp .NotEq) (rOwnNe X.K C sp) := by
  intro pins s σ H x y v u Q I rx ry h
  obtain ⟨a, dx, fs, ty, rfl, ha, hty, hn, q⟩ := h
  obtain ⟨f, fd, hf, M, hb⟩ := F.ex
  cases (show v = Value.ref a from rx)
  obtain ⟨mA, O, _⟩ := ins_get I.hok ha
  obtain ⟨od, J, _⟩ := O.look
  obtain ⟨P, Z, hP, _⟩ := kit_of I ry hty
  obtain ⟨m, hF⟩ := I.fr
  show wpAny _ _ (richCompare .NotEq (.ref a) u) _ _ _
  refine cmp_ne (tb := ty) (by have := hr.un; omega) hF I.ok.mod.kin J (Z.ty _ _ I.kIn hP) hn hne hm M.at_ M.fn ?_
  have r2 : Vals ([V.ref a, y] ++ []) ([Value.ref a, u] ++ []) := .cons rfl (.cons ry .nil)
  have q' : sp ([V.ref a, y] ++ []) H (fun z H' => ∃ b, z = .bl b ∧ Q (.bl (!b)) H') E0 := q
  have hl : ([Value.ref a, u] ++ []).length = ps.length := by rw [← r2.length]; exact hf.len _ _ _ _ q'
  refine wpAny_call (codeAny_mono (hf.run X.A.in1 X.stack s H ⟨[.ref a, u], []⟩ ([.ref a, u] ++ []) ([.ref a, y] ++ []) _ E0 hr.in1 I.env0.in1 (hb s _ I.kIn hl) r2 q') fun r s' hq => ?_)
  cases r with
  | error e => exact (show False from hq).elim
  | ok fl =>
    cases fl with
    | ret w =>
      obtain ⟨z, H', I', rz, b, eb, qz⟩ := I.after hq
      subst eb
      cases (show w = Value.bool b from rz)
      exact ⟨b, rfl, .bl (!b), H', I', rfl, qz⟩
    | next => exact False.elim hq
    | brk => exact False.elim hq
    | cont => exact False.elim hq
/-! ### repr of data -/
theorem call_reprD (hg : X.A.guards = some []) (hr : Room k X.A) : CallR X (.builtin "repr") (fun xs H Q => ∃ x d, xs = [x] ∧ Dp X.K H x d ∧ d.showable = true ∧ d.hasDict = false ∧ d.depth ≤ 100 ∧ d.shown.length ≤ sizeLine ∧ Q (.str d.shown) H) := by
  intro pins s σ H xs us Q I r h
  obtain ⟨x, d, rfl, hd, hs, hn, hdp, hl, q⟩ := h
  obtain ⟨u, rfl, ru⟩ := r.one
  obtain ⟨as, hR⟩ := Dp.reads I d x u hd ru
  have hu := hr.un
  cases hd with
  | non =>
    cases (show u = Value.none from ru)
    exact PySem.P.repr_of_none ⟨.str _, H, I.tok _, ⟨_, rfl⟩, q⟩
  | bl b =>
    cases (show u = Value.bool b from ru)
    exact PySem.P.repr_of_bool ⟨.str _, H, I.tok _, ⟨_, rfl⟩, by cases b <;> exact q⟩
  | int i => 
    obtain ⟨t, rfl⟩ := ru
    exact PySem.P.repr_of_int (of_decide_eq_true hs) ⟨.str _, H, I.tok _, ⟨_, rfl⟩, q⟩
  | str z =>
    obtain ⟨t, rfl⟩ := ru
    exact PySem.P.repr_of_str ⟨.str _, H, I.tok _, ⟨_, rfl⟩, q⟩ hl
  | @lst a ys ds h1 h2 =>
    cases (show u = Value.ref a from ru)
    exact PySem.repr_of_reads' hR hs (PySem.PyData.noDict_hsm hn) hg (by omega) (fun _ _ e => e) (fun h' t tk k => ⟨.str _, H, I.kept (t' := tk) k, ⟨_, rfl⟩, q⟩) hl
  | @tup a ys ds h1 h2 =>
    cases (show u = Value.ref a from ru)
    exact PySem.repr_of_reads' hR hs (PySem.PyData.noDict_hsm hn) hg (by omega) (fun _ _ e => e) (fun h' t tk k => ⟨.str _, H, I.kept (t' := tk) k, ⟨_, rfl⟩, q⟩) hl
end
end Kb

/-! ### defs that ask that no repr is under way -/
namespace Kb
open PySem PySem.Spec PyProof.Rows L2
structure FnOkG (P : Program) (w : World) (K : PySem.W.Frag) (mg : Str → Option Value) (base : Heap) (CX : CXT) (k : Nat) (f : Addr) (fd : FuncData) (ps : List Str) (sp : Sp) : Prop where
  len : ∀ vs H Q E, sp vs H Q E → vs.length = ps.length
  run : ∀ (A : Around) (outer : List Env) (s : Shared) (H : Hp) (ar : Args) (us : List Value) (vs : List V) (Q : VK) (E : XK), A.guards = some [] → Room k A → Env0 P w K mg base A outer s H → BindsTo s fd ar (ps.zip us) → Vals vs us → sp vs H Q E →
    codeAny (model P w) A (.call (.ref f) ar) (CR CX outer P w H s Q E) s
theorem FnOkG.of {P : Program} {w : World} {K : PySem.W.Frag} {mg : Str → Option Value} {base : Heap} {CX : CXT} {k : Nat} {f : Addr} {fd : FuncData} {ps : List Str} {sp : Sp} (F : FnOk P w K mg base CX k f fd ps sp) : FnOkG P w K mg base CX k f fd ps sp :=
  ⟨F.len, fun A o s H ar us vs Q E _ => F.run A o s H ar us vs Q E⟩
section
variable {CX : CXT} {P : Program} {w : World} {K : PySem.W.Frag} {mg : Str → Option Value} {base : Heap} {k : Nat} {f : Addr} {name qual : Str} {N ps : List Str} {sp : Sp} {st : Stmt} {fd : FuncData}
theorem okG (F : Fun K name qual st f fd) (S : FnScope N ps (defScope st)) (hlen : ∀ vs H Q E, sp vs H Q E → vs.length = ps.length)
    (hb : ∀ (cdv : Value) (A : Around) (outer : List Env) (s : Shared) (H : Hp) (vs : List V) (Q : VK) (E : XK), (A.deeper (envOfC qual (defScope st) s.heap.objs.size f cdv)).guards = some [] → Room k (A.deeper (envOfC qual (defScope st) s.heap.objs.size f cdv)) → sp vs H Q E →
      ∃ t, PSs (cxOf CX P w K mg base N qual (defScope st) f cdv A outer s H E) (defBody st) t ∧ t { nx := fun _ H' => Q .non H', rt := Q } (start N vs) H) :
    FnOkG P w K mg base CX (k + 1) f fd ps sp := by
  obtain ⟨oc, od, kV, doc, pm, an, cdv, ct, osl, rfl, lk, hcd⟩ := F.ex
  refine ⟨hlen, fun A outer s H ar us vs Q E hg hr e0 hbi r hsp => ?_⟩
  have hl := hlen _ _ _ _ hsp
  have KX : K.In s.heap := e0.mod.kin.keeps fun b o z => (e0.bs b o z).1
  have nl : s.heap.NoLimit := e0.mod.nolimit.keeps fun b o z => (e0.bs b o z).1
  have kinds : ∀ y ∈ ps.zip us, (defScope st).names.lookup y.1 = some .local ∨ ((defScope st).names.lookup y.1 = some .cell ∧ ((cellsFrom (s.heap.objs.size + 1) (defScope st).names []).lookup y.1).isSome = true) := fun ⟨n, v⟩ hy =>
    (S.par n (List.of_mem_zip hy).1).elim (fun q => .inl q) fun q => .inr ⟨q, PySem.W.cellsFrom_some _ _ _ (.inl q)⟩
  refine codeAny_call_function (Room.depth hr) (KX _ _ lk) rfl S.co S.gen rfl (PySem.W.codeRec_of KX hcd) (hbi _ _ _ _ ?_)
  refine wpAny_newFunctionEnv_cells (S.kind) kinds fun env he s1 x => ?_
  subst he
  refine ⟨nl.keeps x.toInCall.keep, codeAny_func ?_⟩
  obtain ⟨t, ht, hq⟩ := hb cdv A outer s H vs Q E hg (hr.deeper _) hsp
  have I := inv_start (CX := CX) (E := E) S hr.hd e0 hl r x
  refine wpAny_mono (ht.run [] s1 (start N vs) H _ I hq) (fun fl s' hs => ?_) fun _ _ z => z
  cases fl with
  | ret u =>
    obtain ⟨v, σ', H', J, rv, q⟩ := hs
    exact ⟨v, H', J.os, J.bare, J.base, J.hok, rv, q⟩
  | next =>
    obtain ⟨σ', H', J, q⟩ := hs
    exact ⟨.non, H', J.os, J.bare, J.base, J.hok, rfl, q⟩
  | brk =>
    obtain ⟨_, _, _, q⟩ := hs
    exact q.elim
  | cont =>
    obtain ⟨_, _, _, q⟩ := hs
    exact q.elim
end
structure FnG (P : Program) (w : World) (K : PySem.W.Frag) (mg : Str → Option Value) (base : Heap) (CX : CXT) (k : Nat) (x : Str) (ps : List Str) (sp : Sp) : Prop where
  ex : ∃ (f : Addr) (fd : FuncData), FnOkG P w K mg base CX k f fd ps sp ∧ mg x = some (.ref f) ∧ PySem.W.keepIn K (.ref f) = true ∧ Binds K fd ps []
section
variable {X : Cx} {CX : CXT} {k : Nat} {x : Str} {ps : List Str} {sp : Sp} {e : Expr} {es : List Expr} {t : TA} {p pos : Pos}
theorem pe_callG (F : FnG X.prog X.w X.K X.mg X.base CX0 k x ps sp) (hgd : X.A.guards = some []) (hr : Room k X.A) (hg : Gl X x) (ha : PA X (e :: es) t) (hdb : (x == ("__debug__" : Str)) = false := by decide)
    (he : starEach (e :: es) X.env = (false, eval e X.env) :: starEach es X.env := by rfl) (hpl : (backTo pos (starEach es X.env)).any (·.1) = false := by rfl) :
    PE X (.Call (.Name x p) (e :: es) [] pos) (tCall sp [] E0 t) := by
  obtain ⟨f, fd, hf, hm, hk, hb⟩ := F.ex
  refine ⟨fun pins s σ H Q I h => ?_⟩
  refine wpAny_Call_Name_kw (ld_glob I hg hm ?_ hdb)
  refine PySem.W.callWith_K (h₀ := X.base) I.ok.mod.kin hk (thn (ha.run pos pins s σ H _ I h) fun us s1 ⟨vs, H1, I1, r, q⟩ => ⟨I1.kIn, ?_⟩) he hpl
  have r2 : Vals (vs ++ []) (us ++ []) := r.append .nil
  have hl : (us ++ []).length = ps.length := by rw [← r2.length]; exact hf.len _ _ _ _ q
  refine wpAny_call (codeAny_mono (hf.run X.A X.stack s1 H1 ⟨us, []⟩ (us ++ []) (vs ++ []) Q E0 hgd hr I1.env0 (hb s1 us I1.kIn hl) r2 q) fun r s' hq => ?_)
  cases r with
  | error e => exact (show False from hq).elim
  | ok fl => cases fl with
    | ret u => exact I1.after hq
    | next => exact (show False from hq).elim
    | brk => exact (show False from hq).elim
    | cont => exact (show False from hq).elim
end
/-! ### the end for a law that asks for the guards -/
end Kb

/-! ### own errors, defs that refuse, calls at the slots, clauses with and without a name -/
namespace Kb
open PySem PySem.Spec PyProof.Rows L2 ClX
def calm (sp : Sp) : Sp := fun vs H Q _ => sp vs H Q E0
theorem fn_calm {P : Program} {w : World} {K : PySem.W.Frag} {mg : Str → Option Value} {base : Heap} {k : Nat} {f : Addr} {fd : FuncData} {ps : List Str} {sp : Sp} (F : FnOk P w K mg base (L2.CX P w) k f fd ps sp) : FnOk P w K mg base CX0 k f fd ps (calm sp) := by
  refine ⟨fun vs H Q E h => F.len vs H Q E0 h, fun A outer s H ar us vs Q E hr e0 hb r h => codeAny_mono (F.run A outer s H ar us vs Q E0 hr e0 hb r h) fun rs s' z => ?_⟩
  cases rs with
  | ok fl => cases fl <;> exact z
  | error e =>
    obtain ⟨_, _, _, _, _, _, _, _, _, _, _, _, q⟩ := z
    exact (show False from q).elim
theorem FnC.calm {P : Program} {w : World} {K : PySem.W.Frag} {mg : Str → Option Value} {base : Heap} {k : Nat} {x : Str} {ps : List Str} {sp : Sp} (F : FnC P w K mg base (L2.CX P w) k x ps sp) : FnC P w K mg base CX0 k x ps (Kb.calm sp) :=
  let ⟨f, fd, h, r⟩ := F.ex
  ⟨f, fd, fn_calm h, r⟩
theorem MkC.calm {P : Program} {w : World} {K : PySem.W.Frag} {mg : Str → Option Value} {base : Heap} {k : Nat} {C : Addr} {x : Str} {ps : List Str} {sp : Sp} (F : MkC P w K mg base (L2.CX P w) k C x ps sp) : MkC P w K mg base CX0 k C x ps (Kb.calm sp) :=
  let ⟨f, fd, h, r⟩ := F.ex
  ⟨f, fd, fn_calm h, r⟩
theorem MtC.calm {P : Program} {w : World} {K : PySem.W.Frag} {mg : Str → Option Value} {base : Heap} {k : Nat} {C : Addr} {m : Str} {ps : List Str} {sp : Sp} (F : MtC P w K mg base (L2.CX P w) k C m ps sp) : MtC P w K mg base CX0 k C m ps (Kb.calm sp) :=
  let ⟨f, fd, h, r⟩ := F.ex
  ⟨f, fd, fn_calm h, r⟩

/-! ### calls that may raise, at the slots -/
def tMakeS (C : Addr) (sp : Sp) (E : L2.St → XK) (t : TA) : TE := fun σ H Q => t σ H fun vs H1 => ∀ x dx, H1 x = none → H1 dx = none → dx ≠ x →
  sp (.ref x :: vs) (upd (upd H1 dx (.own x)) x (.ins C dx [])) (fun v H2 => v = .non ∧ Q (.ref x) H2) (E σ)
section
variable {X : Cx} {k : Nat} {x m : Str} {f C : Addr} {fd : FuncData} {ps : List Str} {sp : Sp} {W : WX} {e o : Expr} {es : List Expr} {t : TA} {ta : TE} {p pos apos : Pos}
theorem pe_callSC (F : FnC X.prog X.w X.K X.mg X.base (L2.CX X.prog X.w) k x ps sp) (hr : Room k X.A) (tk : Takes X W) (hg : Gl X x) (ha : PA X (e :: es) t) (hdb : (x == ("__debug__" : Str)) = false := by decide)
    (he : starEach (e :: es) X.env = (false, eval e X.env) :: starEach es X.env := by rfl) (hpl : (backTo pos (starEach es X.env)).any (·.1) = false := by rfl) :
    PE X (.Call (.Name x p) (e :: es) [] pos) (tCallS sp (WE W) t) := by
  obtain ⟨f, fd, h, hm, hk, hb⟩ := F.ex
  exact pe_callS h hr hg hm hk hb (passAt tk) ha hdb he hpl
theorem run_makeS {CX : CXT} {E : XK} {pins : List (Addr × Obj)} {σ : L2.St} {H : Hp} {s : Shared} {Q : VK} {us : List Value} {vs : List V} (M : Mk X.K C f) (F : FnOk X.prog X.w X.K X.mg X.base CX k f fd ps sp) (hr : Room (k + 1) X.A) (hb : Binds X.K fd ps [])
    (hx : ∀ (pins : List (Addr × Obj)) (H' : Hp) (s : Shared) (e : Value) (s' : Shared), Inv X pins σ H' s → CX X.stack H' s E e s' → X.xe e s') (I : Inv X pins σ H s) (r : Vals vs us)
    (h : ∀ x dx, H x = none → H dx = none → dx ≠ x → sp (.ref x :: vs) (upd (upd H dx (.own x)) x (.ins C dx [])) (fun v H2 => v = .non ∧ Q (.ref x) H2) E) :
    wpAny (model X.prog X.w) X.A (call (.ref C) us) (EP X pins σ Q) X.xe s := by
  have hq := h (s.heap.objs.size + 1) s.heap.objs.size (I.hok.fresh (Nat.le_succ _)) (I.hok.fresh (Nat.le_refl _)) (Nat.ne_of_lt (Nat.lt_succ_self _))
  have I2 := Inv.made (C := C) I
  have r2 : Vals (V.ref (s.heap.objs.size + 1) :: vs) (Value.ref (s.heap.objs.size + 1) :: us) := .cons rfl r
  have hl : (Value.ref (s.heap.objs.size + 1) :: us).length = ps.length := by
    have e := r2.length
    rw [F.len _ _ _ _ hq] at e
    exact e.symm
  have b := hb _ (Value.ref (s.heap.objs.size + 1) :: us) I2.kIn (by rw [List.append_nil]; exact hl)
  rw [List.append_nil] at b
  refine wpAny_call (make_map (f := f) I.kIn M.makes M.init (beq_iff_eq.mp M.fn) (codeAny_mono (F.run _ X.stack _ _ ⟨Value.ref (s.heap.objs.size + 1) :: us, []⟩ (Value.ref (s.heap.objs.size + 1) :: us) _ _ E (hr.make C us [])
    (I2.env0.make C us []) b r2 hq) fun r s' hq' => ?_))
  cases r with
  | error e => exact hx pins _ _ e s' I2 hq'
  | ok fl =>
    cases fl with
    | ret u =>
      obtain ⟨v, H', I3, rv, ev, q3⟩ := I2.after hq'
      subst ev
      exact ⟨rv, ⟨V.ref (s.heap.objs.size + 1), H', I3, rfl, q3⟩⟩
    | next => exact False.elim hq'
    | brk => exact False.elim hq'
    | cont => exact False.elim hq'
theorem pe_makeS (F : MkC X.prog X.w X.K X.mg X.base (L2.CX X.prog X.w) k C x ps sp) (hr : Room (k + 1) X.A) (tk : Takes X W) (hg : Gl X x) (ha : PA X (e :: es) t) (hdb : (x == ("__debug__" : Str)) = false := by decide)
    (he : starEach (e :: es) X.env = (false, eval e X.env) :: starEach es X.env := by rfl) (hpl : (backTo pos (starEach es X.env)).any (·.1) = false := by rfl) :
    PE X (.Call (.Name x p) (e :: es) [] pos) (tMakeS C sp (WE W) t) := by
  obtain ⟨f, fd, h, M, hm, hb⟩ := F.ex
  refine ⟨fun pins s σ H Q I hh => ?_⟩
  refine wpAny_Call_Name_kw (ld_glob I hg hm ?_ hdb)
  refine PySem.W.callWith_K (h₀ := X.base) I.ok.mod.kin M.kp (thn (ha.run pos pins s σ H _ I hh) fun us s1 ⟨vs, H1, I1, r, q⟩ => ⟨I1.kIn, ?_⟩) he hpl
  exact run_makeS M h hr hb (fun pins H s e s' I z => passAt tk σ pins H s e s' I z) I1 r q
/-- a classmethod of the class at C, its name x -/
structure CmC (P : Program) (w : World) (K : PySem.W.Frag) (mg : Str → Option Value) (base : Heap) (CX : CXT) (k : Nat) (C : Addr) (x m : Str) (ps : List Str) (sp : Sp) : Prop where
  ex : ∃ (f q : Addr) (fd : FuncData), FnOk P w K mg base CX k f fd ps sp ∧ CRead K C (.type "type") ∧ CMet K C (.type "type") m q f ∧ mg x = some (.ref C) ∧ Binds K fd ps []
theorem CmC.calm {P : Program} {w : World} {K : PySem.W.Frag} {mg : Str → Option Value} {base : Heap} {k : Nat} {C : Addr} {x m : Str} {ps : List Str} {sp : Sp} (F : CmC P w K mg base (L2.CX P w) k C x m ps sp) : CmC P w K mg base CX0 k C x m ps (Kb.calm sp) :=
  let ⟨f, q, fd, h, r⟩ := F.ex
  ⟨f, q, fd, fn_calm h, r⟩
/-- a property of the class at C -/
structure PrC (P : Program) (w : World) (K : PySem.W.Frag) (mg : Str → Option Value) (base : Heap) (k : Nat) (C : Addr) (m : Str) (sp : Sp) : Prop where
  ex : ∃ (f q : Addr) (fd : FuncData), FnOk P w K mg base CX0 k f fd ["self"] sp ∧ Cls K C ∧ PropOf K C m q f ∧ Binds K fd ["self"] []
end
end Kb

namespace Kb
open PySem PySem.Spec PyProof.Rows L2 ClX
/-! ### an own error that has no fields -/
/-- the class whose own initialiser is called by its name -/
structure UeC (K : PySem.W.Frag) (U : Addr) : Prop where
  rd : CRead K U (.type "type")
  at_ : PySem.W.findCls K (.ref U) (.type "type") "__init__" = some (.val (.builtin "ValueError.__init__"))
section
variable {X : Cx} {o e : Expr} {es : List Expr} {ta : TA} {x : Str} {U : Addr} {p p1 p2 pos : Pos}
theorem pe_uinit {pl : Sem Bool} (hU : UeC X.K U) (hg : Gl X x) (hm : X.mg x = some (.ref U)) (ha : PA X (e :: es) ta) (hdb : (x == ("__debug__" : Str)) = false := by decide)
    (hc : eval (.Call (.Attribute (.Name x p1) "__init__" p2) (e :: es) [] pos) X.env = (do
      let ov ← eval (.Name x p1) X.env
      standAt p2.atName
      let (f, first) ← holding [ov] (getMethod ov "__init__" pl)
      callWith pos f first (backTo pos (starEach (e :: es) X.env)) (backToKw pos (keywordEach [] X.env))) := by rfl)
    (he : starEach (e :: es) X.env = (false, eval e X.env) :: starEach es X.env := by rfl) (hpl : (backTo pos (starEach es X.env)).any (·.1) = false := by rfl) :
    PE X (.Call (.Attribute (.Name x p1) "__init__" p2) (e :: es) [] pos) (tVeI X.K ta) := by
  refine ⟨fun pins s σ H Q I h => ?_⟩
  refine PySem.W.methodCall_KW (ld_glob I hg hm ?_ hdb) hc
  refine PySem.W.method_cls I.kIn hU.rd.ga (PySem.W.cls_value I.kIn hU.rd.rd hU.at_ rfl ?_)
  show wpAny _ _ (callWith pos (Value.builtin "ValueError.__init__") [] (backTo pos (starEach (e :: es) X.env)) []) _ _ _
  refine PyProof.Rows.callWith_method1 (thn (ha.run pos pins _ σ H _ (I.tok _) h) fun us s1 ⟨vs, H1, I1, r1, a, C, ws, ev, hl, T, ea, q⟩ => ?_) he hpl
  subst ev
  cases r1 with
  | @cons _ u0 _ ur ra rw' =>
    obtain rfl : u0 = Value.ref a := ra
    have hlen : ur.length ≤ sizeLine := by
      rw [← Paired.length rw', sizeLine_eq]
      omega
    exact oinit_ok T I1 ea hlen fun s' J => ⟨.non, H1, J, rfl, q⟩
end
def sp_err0 (C : Addr) : Sp := fun vs H Q _ => ∃ a, vs = [.ref a] ∧ H a = some (exo a C none) ∧ Q .non H
theorem mk_endN {X : Cx} {pins : List (Addr × Obj)} {σ : L2.St} {H1 H2 : Hp} {hp hp2 h2 : Heap} {g1 g2 : Array GenState} {d1 d2 : Drawn} {t1 t2 : Nat} {os1 os2 : OsState} {a C : Addr} (I1 : Inv X pins σ H1 ⟨hp, g1, d1, t1, os1⟩)
    (ha : hp.objs.size ≤ a) (k : ∀ b o, hp.get? b = some o → hp2.get? b = some o) (un : Un (frs X.stack) [] (upd H1 a (exo a C none)) H2 hp2 h2) (hok : HOk X.prog X.w H2 h2) (ho : os2 = os1) (hb : AllBare g2)
    (ea : H2 a = some (exo a C none)) :
    ∃ (t0 : Addr) (G : Heap), Inv X pins σ (del H2 a) ⟨G, g2, d2, t2, os2⟩ ∧ (∀ b o, G.get? b = some o → h2.get? b = some o) ∧ G.get? a = none ∧
      h2.get? a = some ({ cls := .ref C, dict := none, data := .fields #[.ref t0, .none, .none, .none, .bool false, .none] } : Obj) ∧ (del H2 a) a = none := by
  obtain ⟨t0, hoe⟩ := exo_at hok ea
  have hn : H1 a = none := I1.hok.fresh ha
  obtain ⟨G, g1', g2'⟩ := restrict h2 fun b => decide (b ≠ a)
  have gk : ∀ b, b ≠ a → G.get? b = h2.get? b := fun b hb => g1' b (decide_eq_true hb)
  have ge : G.get? a = none := g2' a (by simp)
  have nha : ∀ {b : Addr} {o : Obj}, hp.get? b = some o → b ≠ a := fun {b o} z => Nat.ne_of_lt (Nat.lt_of_lt_of_le (Heap.lt_size z) ha)
  have up : ∀ {b : Addr}, b ≠ a → H1 b = none → upd H1 a (exo a C none) b = none := fun {b} hb n => by rw [upd_ne hb]; exact n
  have U : Un (frs X.stack) [] H1 (del H2 a) hp G := {
    keep := fun b o z n hf hx => by
      rw [gk b (nha z)]
      exact un.keep b o (k b o z) (up (nha z) n) hf hx
    slot := fun b o z n hf hx => by
      rw [gk b (nha z)]
      exact un.slot b o (k b o z) (up (nha z) n) hf hx
    free := fun b o z n hx => by
      rw [del_ne (nha z)]
      exact un.free b o (k b o z) (up (nha z) n) hx
    there := fun b o z hx => by
      rw [gk b (nha z)]
      exact un.there b o (k b o z) hx
    tups := fun b xs z => by
      rw [del_ne (ne_of_none z hn)]
      exact un.tups b xs (by rw [upd_ne (ne_of_none z hn)]; exact z)
    frzs := fun b o v z => by
      rw [del_ne (ne_of_none z hn)]
      exact un.frzs b o v (by rw [upd_ne (ne_of_none z hn)]; exact z)
    tbls := fun b ps z => by
      rw [del_ne (ne_of_none z hn)]
      exact un.tbls b ps (by rw [upd_ne (ne_of_none z hn)]; exact z) }
  have hok3 : HOk X.prog X.w (del H2 a) G := fun b o z => by
    have hba : b ≠ a := fun e => by
      rw [e, del_same] at z
      cases z
    rw [del_ne hba] at z
    have noa : ∀ {c : Addr}, H2 c = some (.own b) → c ≠ a := fun {c} hc => at_ne ea hc exo_own
    exact (hok b o z).stay (fun c v hc y => by
        have hca : c ≠ a := by
          rcases hc with hc | hc
          · rw [hc]
            exact hba
          · exact noa hc
        rw [gk c hca]
        exact y)
      (fun c hc => by rw [del_ne (noa hc)]; exact hc) (fun c xs hc => by rw [del_ne (at_ne ea hc exo_tup)]; exact hc)
  have J : Inv X pins σ (del H2 a) ⟨G, g2, d2, t2, os2⟩ := I1.call' (ch := []) ho U hok3 hb (fun b z => absurd z (by simp))
  refine ⟨t0, G, J, fun b o z => ?_, ge, hoe, del_same⟩
  by_cases hba : b = a
  · rw [hba, ge] at z
    cases z
  · exact (gk b hba).symm.trans z
/-- an own error without fields, made by its name -/
structure ErC (P : Program) (w : World) (K : PySem.W.Frag) (mg : Str → Option Value) (base : Heap) (x : Str) (C : Addr) : Prop where
  ex : ∃ (f : Addr) (fd : FuncData), FnOk P w K mg base CX0 2 f fd ["self"] (sp_err0 C) ∧ OexC K C ∧ PySem.W.findIn K (.ref C) "__init__" = some (some (.ref f)) ∧ PySem.W.typeIn K (.ref f) = some (.type "function") ∧ mg x = some (.ref C) ∧ Binds K fd ["self"] []
theorem pmk_err0 {X : Cx} {C : Addr} {x : Str} {p pos : Pos} (F : ErC X.prog X.w X.K X.mg X.base x C) (hr : Room 3 X.A) (hg : Gl X x) (hdb : (x == ("__debug__" : Str)) = false := by decide) :
    PMk X (.Call (.Name x p) [] [] pos) (fun _ H Q => Q (.ref C) none H) := by
  obtain ⟨f, fd, F1, T, iC, tI, hm, hb⟩ := F.ex
  intro pins s σ H Q I h
  obtain ⟨nm, q, N, bs, bm, sn, sub, ab, col, dd, k0, k1, k2, k3, k5, hC, hbm⟩ := T.cls
  refine wpAny_Call_Name_kw (ld_glob I hg hm ?_ hdb)
  refine PySem.W.callWith_K0 I.kIn T.kC ?_
  show wpAny _ _ (call (.ref C) []) _ _ _
  obtain ⟨hp, g, dr, tk, os⟩ := s
  have hsz : hp.objs.size ≤ hp.objs.size + 1 := Nat.le_succ _
  have hn : H (hp.objs.size + 1) = none := I.hok.fresh hsz
  have kk : ∀ b o, hp.get? b = some o → ((hp.push (PySem.W.kdv_tup [])).push (PySem.HandSPX.excO C hp.objs.size)).get? b = some o := fun b o e => Heap.get?_push_of_some _ (Heap.get?_push_of_some _ e)
  have hget : ((hp.push (PySem.W.kdv_tup [])).push (PySem.HandSPX.excO C hp.objs.size)).get? (hp.objs.size + 1) = some (PySem.HandSPX.excO C hp.objs.size) := by heap_get
  have I2 : Inv X pins σ (upd H (hp.objs.size + 1) (exo (hp.objs.size + 1) C none)) ⟨(hp.push (PySem.W.kdv_tup [])).push (PySem.HandSPX.excO C hp.objs.size), g, dr, tk, os⟩ :=
    I.laid (t' := tk) (a := hp.objs.size + 1) (o := exo (hp.objs.size + 1) C none) (h' := (hp.push (PySem.W.kdv_tup [])).push (PySem.HandSPX.excO C hp.objs.size)) kk hsz (exo_ok hget)
  have r2 : Vals [V.ref (hp.objs.size + 1)] [Value.ref (hp.objs.size + 1)] := .cons rfl .nil
  have b := hb _ [Value.ref (hp.objs.size + 1)] I2.kIn rfl
  have hq : sp_err0 C [V.ref (hp.objs.size + 1)] (upd H (hp.objs.size + 1) (exo (hp.objs.size + 1) C none)) (fun v H2 => v = .non ∧ H2 = upd H (hp.objs.size + 1) (exo (hp.objs.size + 1) C none)) E0 := ⟨_, rfl, upd_same, rfl, rfl⟩
  refine wpAny_call (PySem.HandSPX.call_own _root_.PySem.F.excBase_ValueError (fun Y => PySem.HandSPX.refsVE_contains Y bm hbm) (I.kIn _ _ hC) (PySem.W.looks_findIn I.kIn iC) (fun self => PySem.W.bind_fn I.kIn self tI) (Nat.zero_le _)
    (codeAny_mono (F1.run _ X.stack _ _ ⟨[Value.ref (hp.objs.size + 1)], []⟩ [Value.ref (hp.objs.size + 1)] _ _ E0 (hr.make C [] []) (I2.env0.make C [] []) b r2 hq) fun r s' hq' => ?_))
  cases r with
  | error er => exact (show False from hq').elim
  | ok fl =>
    cases fl with
    | ret u =>
      obtain ⟨v, H2, os2, bare2, un2, hok2, rv, ev, eH⟩ := hq'
      subst ev
      subst eH
      obtain ⟨h2, g2, d2, t2, os'⟩ := s'
      have ed : del (upd H (hp.objs.size + 1) (exo (hp.objs.size + 1) C none)) (hp.objs.size + 1) = H := by
        funext b
        by_cases hb : b = hp.objs.size + 1
        · rw [hb, del_same, hn]
        · rw [del_ne hb, upd_ne hb]
      obtain ⟨t0, G, J, kG, ge, hoe, na⟩ := mk_endN (d2 := d2) (t2 := t2) I hsz kk un2 hok2 os2 bare2 upd_same
      rw [ed] at J na
      exact ⟨rv, _, _, _, ⟨G, g2, d2, t2, os'⟩, _, .ref C, none, rfl, J, kG, ge, hoe, ⟨rfl, rfl⟩, rfl, rfl, na, rfl, bare2, raises_own T.exC T.tyC, h⟩
    | next => exact False.elim hq'
    | brk => exact False.elim hq'
    | cont => exact False.elim hq'
theorem ps_raise0 {X : Cx} {W : WX} {C : Addr} {x : Str} {p pos pos' : Pos} (F : ErC X.prog X.w X.K X.mg X.base x C) (hr : Room 3 X.A) (hc : X.calm = true) (tk : Takes X W) (hg : Gl X x) (hdb : (x == ("__debug__" : Str)) = false := by decide) :
    PS X (.Raise (some (.Call (.Name x p) [] [] pos)) none pos') (fun _ σ H => W (.ref C) none σ H) := ps_raise hc tk (pmk_err0 F hr hg hdb)
/-! ### clauses, with a name or without -/
inductive Cl where
  | pl (c : Value) (ts : Addr → Value → Option Addr → TS)
  | nm (c : Value) (i : Nat) (ts : Addr → Value → Option Addr → TS)
def Ends.unset (D : Ends) (i : Nat) : Ends := { nx := fun σ' H' => D.nx (σ'.set i none) H', rt := fun v H' => D.rt v H', bk := fun σ' H' => D.bk (σ'.set i none) H', ct := fun σ' H' => D.ct (σ'.set i none) H' }
def wCl (K : PySem.W.Frag) (Wout : WX) (D : Ends) : List Cl → WX
  | [] => Wout
  | .pl c ts :: r => fun cls d σ H => ∃ b, PySem.W.exmOne K cls c = some b ∧ (b = true → ∀ a, H a = none → ts a cls d D σ H) ∧ (b = false → wCl K Wout D r cls d σ H)
  | .nm c i ts :: r => fun cls d σ H => ∃ b, PySem.W.exmOne K cls c = some b ∧ (b = true → ∀ a, H a = none → ts a cls d (Ends.unset D i) (σ.set i (some (.ref a))) H) ∧ (b = false → wCl K Wout D r cls d σ H)
inductive ClOk (X : Cx) : List ExceptHandler → List Cl → Prop
  | nil : ClOk X [] []
  | pl {x : Str} {c : Value} {ts : Addr → Value → Option Addr → TS} {b₀ : Stmt} {suite : List Stmt} {np pos' : Pos} {hds : List ExceptHandler} {l : List Cl} (hc : Names X x c)
      (hsu : ∀ (a : Addr) (oe : Obj) (cls : Value) (d : Option Addr) (pn : List (Addr × Obj)), Zc cls d oe → (∃ vs, oe.data = .fields vs) → PSs (X.suite a ((a, oe) :: pn)) (b₀ :: suite) (ts a cls d)) (r : ClOk X hds l) :
      ClOk X (.ExceptHandler (some (.Name x np)) none (b₀ :: suite) pos' :: hds) (.pl c ts :: l)
  | nm {x n : Str} {i : Nat} {c : Value} {ts : Addr → Value → Option Addr → TS} {b₀ : Stmt} {suite : List Stmt} {np pos' : Pos} {hds : List ExceptHandler} {l : List Cl} (hN : X.N.Nodup) (hi : X.N[i]? = some n) (hln : X.env.kindOf n = some .local) (hc : Names X x c)
      (hsu : ∀ (a : Addr) (oe : Obj) (cls : Value) (d : Option Addr) (pn : List (Addr × Obj)), Zc cls d oe → (∃ vs, oe.data = .fields vs) → PSs (X.suite a ((a, oe) :: pn)) (b₀ :: suite) (ts a cls d)) (r : ClOk X hds l) :
      ClOk X (.ExceptHandler (some (.Name x np)) (some n) (b₀ :: suite) pos' :: hds) (.nm c i ts :: l)
section
variable {X : Cx} {body : List Stmt} {h₀ : ExceptHandler} {hds : List ExceptHandler} {l : List Cl} {pos : Pos} {tb : WX → TS} {Wout : WX}
theorem ps_tryCl (hs : X.stack = X.env :: X.outer) (hf : X.env.frame = some X.env.locals) (tk : Takes X Wout)
    (hb : ∀ (W : WX) (pn : List (Addr × Obj)) (xe : Value → Shared → Prop), Takes (X.tr pn xe) W → PassesOwn (model X.prog X.w) X.A X.env xe → PSs (X.tr pn xe) body (tb W))
    (hh : ClOk X (h₀ :: hds) l) : PS X (.Try body (h₀ :: hds) [] [] pos) (fun D σ H => tb (wCl X.K Wout D l) D σ H) := by
  refine ⟨fun pins s σ H D I h => ?_⟩
  have ok := I.ok
  have hfr : X.A.frames = some (X.env :: X.outer) := by rw [ok.frames, hs]
  refine wpAny_Try_except ?_
  refine wpAny_mono ((hb (wCl X.K Wout D l) (X.pn ++ pins) (fun e s₁ => wpAny (model X.prog X.w) X.A (noteFrame e X.env) (fun _ s₂ => wpAny (model X.prog X.w) X.A (setFlight e none) (fun _ s₃ =>
    wpAny (model X.prog X.w) X.A (handleBy e X.env (h₀ :: hds)) (SP X pins D) X.xe s₃) X.xe s₂) X.xe s₁) (fun u s' xx => ?_) PassesOwn.looking).run [] s σ H D (I.toTry _) h) (fun f s1 hsp => ?_) (fun e s1 he => he)
  · -- the catch
    obtain ⟨a, B, sI, pins', σ', H', cls, d, rfl, J', nb, up, sky, na, os, ag, w⟩ := xx
    have J : Inv X pins σ' H' sI := J'.ofTry ok
    have sky' : Sky B (X.env :: X.outer) a (Zc cls d) X.env.locals s'.heap := by rw [← hs]; exact sky
    show wpAny (model X.prog X.w) X.A (noteFrame (.ref a) X.env) _ _ _
    refine Sky.land Zc.steady hfr hf sky' fun h3 fl3 up3 => ?_
    have J3 : Inv X pins σ' H' { s' with heap := h3 } := J.landed nb fl3.1 (up.trans up3) os ag
    obtain ⟨oe3, vs3, he3, hz3, hd3⟩ := fl3.there
    have notFr : ∀ {h : Heap} {o : Obj} {vs : Array Value}, h.FunFrames B (X.env :: X.outer) → h.get? a = some o → o.data = .fields vs → a ∉ frs (X.env :: X.outer) := fun {h o vs} ff e dd hm => by
      obtain ⟨_, o', e', hnf⟩ := ff.mem hm
      rw [e] at e'; cases e'
      exact hnf _ dd
    have nfr := notFr fl3.2.2.1 he3 hd3
    have nL : a ≠ X.env.locals := fun z => nfr (List.mem_filterMap.mpr ⟨X.env, List.mem_cons_self, by rw [hf, z]⟩)
    have nF : a ∉ X.fs := fun hm => by
      obtain ⟨e, he, q⟩ := List.mem_filterMap.mp hm
      exact nfr (List.mem_filterMap.mpr ⟨e, List.mem_cons_of_mem _ he, q⟩)
    have S3 := J3.suite he3 hd3 na nL nF
    have LT : PySem.W.Looks (model X.prog X.w) h3 (typeOf (.ref a)) cls := fun A Q E s k q => wpAny_typeOf_ref (k _ _ he3) (by rw [hz3.1]; exact q)
    have test : ∀ {x : Str} {c : Value} {np : Pos}, Names X x c → ∀ {Q : Value → Shared → Prop} {E : Value → Shared → Prop}, Q c { s' with heap := h3 } → wpAny (model X.prog X.w) (X.A.mark (some (.ref a))) (eval (.Name x np) X.env) Q E { s' with heap := h3 } := fun {x c np} hc {Q E} q => by
      obtain ⟨hg, hdbg, hm | ⟨hm, hv, hnn⟩⟩ := hc
      · exact ld_glob (X := X.suite a ((a, oe3) :: (X.pn ++ pins))) S3 hg hm q hdbg
      · exact ld_blt (X := X.suite a ((a, oe3) :: (X.pn ++ pins))) S3 hg hm hv q hnn hdbg
    have go : ∀ {hds' : List ExceptHandler} {l' : List Cl}, ClOk X hds' l' → wCl X.K Wout D l' cls d σ' H' →
        wpAny (model X.prog X.w) X.A (handleBy (.ref a) X.env hds') (SP X pins D) X.xe { s' with heap := h3 } := by
      intro hds' l' hk
      induction hk with
      | nil =>
        intro w
        refine wpAny_handleBy_nil ?_
        obtain ⟨k1, k2, k3, oe, vs, T, oT, ts', he, hz, hd, h1, hr⟩ := id fl3
        unfold PySem.passOn
        refine wpAny_bind (wpAny_field he hd h1 ?_)
        rw [if_neg (show ¬ ((Value.ref T == Value.none) = true) from by simp)]
        have fin : wpAny (model X.prog X.w) X.A (setFlight (.ref a) X.env.frame) (fun _ s4 => wpAny (model X.prog X.w) X.A (throw (.ref a) : Sem Flow) (SP X pins D) X.xe s4) X.xe { s' with heap := h3 } := by
          rw [hf]
          refine HandSPX.setFlight_upZ fl3 fun h4 hh4 up4 => wpAny_throw (tk _ _ ?_)
          exact ⟨a, B, sI, pins, σ', H', cls, d, rfl, J, nb, (up.trans up3).trans up4, .inr (.inr (by rw [hs]; exact hh4)), na, os, ag, w⟩
        first
          | exact wpAny_bind (wpAny_pure (wpAny_bind fin))
          | exact wpAny_bind fin
      | @pl x c ts b₀ suite np pos' hds2 l2 hc hsu r ih =>
        intro w
        obtain ⟨b, hb1, hyes, hno⟩ := w
        refine wpAny_handleBy_cons (codeAny_handlers_test ?_) (by intro q; cases q)
        have LM := PySem.W.exm_one (M := model X.prog X.w) (J3.kIn) LT hb1
        refine test hc (LM.here ?_)
        cases b with
        | true =>
          refine codeAny_handlers_suite ?_
          refine HandSPX.lands_againZ fl3 fun h4 fl4 up4 => ?_
          have J4 : Inv X pins σ' H' { s' with heap := h4 } := J.landed nb fl4.1 ((up.trans up3).trans up4) os ag
          obtain ⟨oe4, vs4, he4, hz4, hd4⟩ := fl4.there
          have S4 := J4.suite he4 hd4 na nL nF
          refine wpAny_mono ((hsu a oe4 cls d (X.pn ++ pins) hz4 ⟨_, hd4⟩).run [] _ _ H' _ S4 (hyes rfl a na)) (fun f s6 hsp => ?_) (fun _ _ z => False.elim z)
          cases f with
          | next =>
            obtain ⟨σ6, H6, S6, q6⟩ := hsp
            exact ⟨_, _, S6.unsuite ok, q6⟩
          | brk =>
            obtain ⟨σ6, H6, S6, q6⟩ := hsp
            exact ⟨_, _, S6.unsuite ok, q6⟩
          | cont =>
            obtain ⟨σ6, H6, S6, q6⟩ := hsp
            exact ⟨_, _, S6.unsuite ok, q6⟩
          | ret u =>
            obtain ⟨v6, σ6, H6, S6, r6, q6⟩ := hsp
            exact ⟨_, _, _, S6.unsuite ok, r6, q6⟩
        | false =>
          show wpAny _ X.A (handleBy (.ref a) X.env hds2) _ _ _
          exact ih (hno rfl)
      | @nm x n i c ts b₀ suite np pos' hds2 l2 hN hi hln hc hsu r ih =>
        intro w
        have hloc : Loc X.env.scope n := .inl hln
        obtain ⟨b, hb1, hyes, hno⟩ := w
        refine wpAny_handleBy_cons (codeAny_handlers_test ?_) (by intro q; cases q)
        have LM := PySem.W.exm_one (M := model X.prog X.w) (J3.kIn) LT hb1
        refine test hc (LM.here ?_)
        cases b with
        | true =>
          refine codeAny_handlers_suite_as ?_
          refine HandSPX.lands_againZ fl3 fun h4 fl4 up4 => ?_
          have J4 : Inv X pins σ' H' { s' with heap := h4 } := J.landed nb fl4.1 ((up.trans up3).trans up4) os ag
          obtain ⟨oe4, vs4, he4, hz4, hd4⟩ := fl4.there
          have S4 := J4.suite he4 hd4 na nL nF
          refine store_ok (X := X.suite a ((a, oe4) :: (X.pn ++ pins))) (v := .ref a) S4 hN hi hloc rfl (fun s5 S5 => ?_) (.inr hln)
          refine wpAny_mono ((hsu a oe4 cls d (X.pn ++ pins) hz4 ⟨_, hd4⟩).run [] s5 _ H' _ S5 (hyes rfl a na)) (fun f s6 hsp => ?_) (fun _ _ z => False.elim z)
          have end_ : ∀ {σ6 : L2.St} {H6 : Hp} {Q : Shared → Prop}, Inv (X.suite a ((a, oe4) :: (X.pn ++ pins))) [] σ6 H6 s6 → (∀ s7, Inv X pins (σ6.set i none) H6 s7 → Q s7) →
              wpAny (model X.prog X.w) X.A (do bindName X.env n .none; unbindBehindTheSuite X.env n pos') (fun _ s7 => Q s7) X.xe s6 := fun {σ6 H6 Q} S6 hq => gone_ok (S6.unsuite ok) hN hi hln hq
          cases f with
          | next =>
            obtain ⟨σ6, H6, S6, q6⟩ := hsp
            exact end_ S6 fun s7 J7 => ⟨_, _, J7, q6⟩
          | brk =>
            obtain ⟨σ6, H6, S6, q6⟩ := hsp
            exact end_ S6 fun s7 J7 => ⟨_, _, J7, q6⟩
          | cont =>
            obtain ⟨σ6, H6, S6, q6⟩ := hsp
            exact end_ S6 fun s7 J7 => ⟨_, _, J7, q6⟩
          | ret u =>
            obtain ⟨v6, σ6, H6, S6, r6, q6⟩ := hsp
            exact end_ S6 fun s7 J7 => ⟨_, _, _, J7, r6, q6⟩
        | false =>
          show wpAny _ X.A (handleBy (.ref a) X.env hds2) _ _ _
          exact ih (hno rfl)
    exact go hh w
  · cases f with
    | next =>
      obtain ⟨σ', H', J', q⟩ := hsp
      exact wpAny_execs_nil ⟨σ', H', J'.ofTry ok, q⟩
    | brk =>
      obtain ⟨σ', H', J', q⟩ := hsp
      exact ⟨σ', H', J'.ofTry ok, q⟩
    | cont =>
      obtain ⟨σ', H', J', q⟩ := hsp
      exact ⟨σ', H', J'.ofTry ok, q⟩
    | ret u =>
      obtain ⟨v, σ', H', J', r, q⟩ := hsp
      exact ⟨v, σ', H', J'.ofTry ok, r, q⟩
end
/-! ### isinstance of a caught error and several classes -/
end Kb
namespace Kb
open PySem PySem.Spec PyProof.Rows L2 ClX
theorem ErC.nm {P : Program} {w : World} {K : PySem.W.Frag} {mg : Str → Option Value} {base : Heap} {x : Str} {C : Addr} (F : ErC P w K mg base x C) : mg x = some (.ref C) := let ⟨_, _, _, _, _, _, h, _⟩ := F.ex; h
structure NmC (mg : Str → Option Value) (x : Str) (C : Addr) : Prop where
  nm : mg x = some (.ref C)
end Kb
namespace Kb
open PySem PySem.Spec PyProof.Rows L2 ClX
end Kb

namespace PySem.W
open PySem PySem.Calls PyProof.Rows Builtin
end PySem.W
namespace Kb
open PySem PySem.Spec PyProof.Rows L2 ClX
section
variable {X : Cx} {k : Nat} {C : Addr} {ps : List Str} {sp : Sp}
/-- a method with self alone, called one in, its answer looked at -/
theorem run_self {pins : List (Addr × Obj)} {σ : L2.St} {H : Hp} {s : Shared} {a : Addr} {f : Addr} {fd : FuncData} {Q : VK} {Qf : Value → Shared → Prop} {A : Around} (I : Inv X pins σ H s) (F : FnOk X.prog X.w X.K X.mg X.base CX0 k f fd ["self"] sp) (hr : Room k A) (hb : Binds X.K fd ["self"] []) (h : sp [.ref a] H Q E0)
    (fin : ∀ u s', EP X pins σ Q u s' → Qf u s') (hA : A.frames = X.A.frames) {E : Value → Shared → Prop} : wpAny (model X.prog X.w) A (call (.ref f) [.ref a]) Qf E s := by
  have b := hb s [.ref a] I.kIn rfl
  have e0 : Env0 X.prog X.w X.K X.mg X.base A X.stack s H := ⟨hA.trans I.env0.frames, I.env0.mod, I.env0.bs, I.env0.bsz, I.env0.funs, I.env0.frf, I.env0.hok, I.env0.bare⟩
  refine wpAny_call (codeAny_mono (F.run A X.stack s H ⟨[.ref a], []⟩ ([.ref a] ++ []) [.ref a] Q E0 hr e0 b (Paired.cons (show RelV (V.ref a) (Value.ref a) from rfl) Paired.nil) h) fun r s' hq => ?_)
  cases r with
  | error e => exact (show False from hq).elim
  | ok fl =>
    cases fl with
    | ret u => exact fin u s' (I.after hq)
    | next => exact False.elim hq
    | brk => exact False.elim hq
    | cont => exact False.elim hq
/-- len(x), x an own instance -/
def rSelfLen (C : Addr) (sp : Sp) : List V → Hp → VK → Prop := fun xs H Q => ∃ (a dx : Addr) (fs : List (Str × V)), xs = [.ref a] ∧ H a = some (.ins C dx fs) ∧ sp [.ref a] H (fun v H' => ∃ n : Int, v = .int n ∧ 0 ≤ n ∧ n < 2 ^ 63 ∧ Q (.int n) H') E0
theorem call_lenC (F : MtC X.prog X.w X.K X.mg X.base CX0 k C "__len__" ["self"] sp) (hr : Room (k + 1) X.A) : CallR X (.builtin "len") (rSelfLen C sp) := by
  intro pins s σ H xs us Q I r h
  obtain ⟨a, dx, fs, rfl, ha, q⟩ := h
  obtain ⟨f, fd, hf, M, hb⟩ := F.ex
  obtain ⟨u, rfl, ru⟩ := r.one
  cases (show u = Value.ref a from ru)
  obtain ⟨mA, O, _⟩ := ins_get I.hok ha
  obtain ⟨od, J, _⟩ := O.look
  obtain ⟨m, hF⟩ := I.fr
  refine PySem.W.len_K hF I.ok.mod.kin J M.at_ M.fn (run_self I hf hr.in1 hb q (fun u s' z => ?_) rfl)
  obtain ⟨v, H', I', rv, n, rfl, n0, n1, q'⟩ := z
  obtain ⟨t, rfl⟩ := rv
  exact ⟨⟨n0, n1⟩, .int n, H', I'.tok _, ⟨_, rfl⟩, q'⟩
/-- str(x), x an own instance -/
def rSelfStr (C : Addr) (sp : Sp) : List V → Hp → VK → Prop := fun xs H Q => ∃ (a dx : Addr) (fs : List (Str × V)), xs = [.ref a] ∧ H a = some (.ins C dx fs) ∧ sp [.ref a] H (fun v H' => ∃ z : Str, v = .str z ∧ Q (.str z) H') E0
theorem call_strC (F : MtC X.prog X.w X.K X.mg X.base CX0 k C "__str__" ["self"] sp) (hr : Room (k + 2) X.A) : CallR X (.type "str") (rSelfStr C sp) := by
  intro pins s σ H xs us Q I r h
  obtain ⟨a, dx, fs, rfl, ha, q⟩ := h
  obtain ⟨f, fd, hf, M, hb⟩ := F.ex
  obtain ⟨u, rfl, ru⟩ := r.one
  cases (show u = Value.ref a from ru)
  obtain ⟨mA, O, _⟩ := ins_get I.hok ha
  obtain ⟨od, J, _⟩ := O.look
  have hu := hr.un
  refine PySem.W.kso_call (by show X.A.units + 1 + 1 < _; omega) I.kIn J M.at_ M.fn (run_self I hf hr.in1.in1 hb q (fun u s' z => ?_) rfl)
  obtain ⟨v, H', I', rv, n, rfl, q'⟩ := z
  obtain ⟨t, rfl⟩ := rv
  exact ⟨.str n, H', I', ⟨_, rfl⟩, q'⟩
end
/-! ### an own instance, called -/
section
variable {X : Cx} {CX : CXT} {k i : Nat} {x : Str} {C : Addr} {ps : List Str} {sp : Sp} {E : L2.St → XK} {W : WX} {e : Expr} {es : List Expr} {t : TA} {p pos : Pos}
end
/-! ### an own class made by keywords alone -/
structure MkKC (P : Program) (w : World) (K : PySem.W.Frag) (mg : Str → Option Value) (base : Heap) (k : Nat) (C : Addr) (x : Str) (ps ks : List Str) (gV : List V → List V → List V) (sp : Sp) : Prop where
  ex : ∃ (f : Addr) (fd : FuncData) (g : List Value → List Value → List Value), FnOk P w K mg base CX0 k f fd ps sp ∧ Mk K C f ∧ mg x = some (.ref C) ∧ KBn K fd ps 1 ks g gV
end Kb

/-! ### shown data of ints -/
namespace Kb
open PySem PySem.Spec PyProof.Rows L2 ClX
theorem shown_int {i : Int} (h : i.natAbs < 2 ^ 1000) : (PyData.shown (.int i)).length ≤ 1001 := by
  show (Str.ofString (toString i)).length ≤ 1001
  rw [PySem.ofString_length]
  exact int_text_length_le (by decide) (PySem.Flt.log2_lt_of (by decide) h)
def showsI (i : Int) : Prop := i.natAbs < 2 ^ 1000
theorem weight_int {i : Int} (h : showsI i) : (PyData.int i).weight ≤ 1001 := by
  have := PySem.Flt.log2_lt_of (show 0 < 1000 by decide) h
  show (if i == 0 then 0 else i.natAbs.log2 + 1) ≤ 1001
  split <;> omega
theorem show_int {i : Int} (h : showsI i) : (PyData.int i).showable = true ∧ (PyData.int i).leavesShort 1001 = true := by
  refine ⟨decide_eq_true ?_, decide_eq_true (shown_int h)⟩
  exact Nat.lt_of_lt_of_le (PySem.Flt.log2_lt_of (by decide) h) (by decide)
structure ShOk (d : PyData) : Prop where
  a : d.showable = true
  b : d.hasDict = false
  c : d.depth ≤ 100
  d : d.shown.length ≤ sizeLine
theorem shOk {d : PyData} (h1 : d.showable = true) (h2 : d.hasDict = false) (h3 : d.depth ≤ 100) (h4 : d.leavesShort 1001 = true) (h5 : 1003 * d.weight + 1001 ≤ sizeLine) : ShOk d := ⟨h1, h2, h3, Nat.le_trans (PyData.shown_le 1001 (by decide) d h4) h5⟩
end Kb

/-! ### own operators, classmethods without arguments -/
namespace PySem.W
open PySem PySem.Calls PyProof.Rows
section
variable {prog : Program} {w : World} {M : Model} {A : Around} {E : Value → Shared → Prop} {s : Shared} {K : Frag} {x C D L f : Addr} {h₀ : Heap} {m : Str → Option Value} {ox : Obj} {od : Option Obj} {nm : String}
def plainMro (K : Frag) (C : Addr) : Bool := (clsIn K C).any fun cd => cd.mro == [.ref C, .type "object"]
end
end PySem.W
namespace Kb
open PySem PySem.Spec PyProof.Rows L2 ClX
/-- the class at C carries the operator -/
structure OpC (K : PySem.W.Frag) (C : Addr) (op : Operator) : Prop where
  sf : PySem.W.selfFirst K C = true
  r : PySem.W.findIn K (.ref C) (dunderR op.info.2) = some none
/-- the class at D doesn't -/
structure OpNo (K : PySem.W.Frag) (D : Addr) (op : Operator) : Prop where
  pm : PySem.W.plainMro K D = true
  h1 : PySem.W.findIn K (.ref D) (PySem.dunder op.info.2) = some none
  h2 : PySem.W.findIn K (.ref D) (dunderR op.info.2) = some none
  h3 : PySem.W.findIn K (.type "object") (PySem.dunder op.info.2) = some none
  h4 : PySem.W.findIn K (.type "object") (dunderR op.info.2) = some none
structure OpInt (K : PySem.W.Frag) (C : Addr) (op : Operator) : Prop where
  h1 : ∃ fo, PySem.W.findIn K (.type "int") (PySem.dunder op.info.2) = some fo
  h2 : ∃ ro, PySem.W.findIn K (.type "int") (dunderR op.info.2) = some ro
  sb : PySem.W.subIn K (.type "int") (.ref C) = some false
structure OpIn (K : PySem.W.Frag) (C : Addr) (op : Operator) : Prop where
  pm : PySem.W.plainMro K C = true
  i1 : PySem.W.findIn K (.ref C) (dunderI op.info.2) = some none
  i2 : PySem.W.findIn K (.type "object") (dunderI op.info.2) = some none
section
variable {X : Cx} {k : Nat} {C D : Addr} {ps : List Str} {sp : Sp} {op : Operator}
end
/-! ### C.m(), m a classmethod -/
section
variable {X : Cx} {k : Nat} {C : Addr} {x m : Str} {ps : List Str} {sp : Sp} {W : WX} {p pos apos : Pos}
end
end Kb

/-! ### new objects at an abstract heap, repr of data, what stands in the heap -/
namespace Kb
open PySem PySem.Spec PyProof.Rows L2 ClX
theorem isIte {c A B : Prop} {i : Decidable c} (h : @ite Prop c i A B) : @ite Prop c i A B := h
theorem iteNSI {c A B : Prop} {i : Decidable c} {j : Decidable ((!(@decide c i)) = true)} (hc : c) (h : B) : @ite Prop ((!(@decide c i)) = true) j A B := by
  rw [if_neg (by simp [hc])]; exact h
theorem iteTI {A B : Prop} {j : Decidable (true = true)} (h : A) : @ite Prop (true = true) j A B := by
  rw [if_pos rfl]; exact h
theorem iteFI {A B : Prop} {j : Decidable (false = true)} (h : B) : @ite Prop (false = true) j A B := by
  rw [if_neg Bool.false_ne_true]; exact h
/-- a new object o: whatever heap holds it and all that stood -/
def New (H : Hp) (o : HO) (Q : VK) : Prop := ∀ p H', H p = none → Same H H' → H' p = some o → Q (.ref p) H'
theorem sm_new {H : Hp} {p : Addr} {o : HO} (h : H p = none) : Same H (upd H p o) := fun a u e => by rw [upd_ne (ne_of_none e h)]; exact e
theorem New.at {H : Hp} {o : HO} {Q : VK} (h : New H o Q) {p : Addr} (hp : H p = none) : Q (.ref p) (upd H p o) := h p _ hp (sm_new hp) upd_same
def tTupN (t : TA) : TE := fun σ H Q => t σ H fun xs H1 => xs.length ≤ 1000000 ∧ New H1 (.tup xs) Q
def tLstN (t : TA) : TE := fun σ H Q => t σ H fun xs H1 => xs.length ≤ 1000000 ∧ New H1 (.lst xs) Q
section
variable {X : Cx} {es : List Expr} {t : TA} {pos : Pos}
theorem pe_tupN {x1} (h : PA X es t) : PE X (.Tuple es x1 pos) (tTupN t) := by
  refine ⟨fun pins s σ H Q I hq => ?_⟩
  refine wpAny_Tuple_spliced (thn (h.run pos pins s σ H _ I hq) fun us s1 ⟨xs, H1, I1, r, z, q⟩ => ⟨by rw [← r.length]; exact szl z, ?_⟩)
  have hf : H1 s1.heap.objs.size = none := I1.hok.fresh (Nat.le_refl _)
  refine ⟨.ref s1.heap.objs.size, upd H1 s1.heap.objs.size (.tup xs), I1.laid (t' := s1.toks) (fun b u e => Heap.get?_push_of_some _ e) (Nat.le_refl _) ?_, rfl, q.at hf⟩
  exact ⟨szl z, us, r, ⟨_, Heap.get?_push_size _ rfl, rfl, _, rfl⟩⟩
theorem pe_lstN (h : PA X es t) : PE X (.List es pos) (tLstN t) := by
  refine ⟨fun pins s σ H Q I hq => ?_⟩
  refine wpAny_List_spliced (thn (h.run pos pins s σ H _ I hq) fun us s1 ⟨xs, H1, I1, r, z, q⟩ => ⟨by rw [← r.length]; exact szl z, ?_⟩)
  have hf : H1 s1.heap.objs.size = none := I1.hok.fresh (Nat.le_refl _)
  refine ⟨.ref s1.heap.objs.size, upd H1 s1.heap.objs.size (.lst xs), I1.laid (t' := s1.toks) (fun b u e => Heap.get?_push_of_some _ e) (Nat.le_refl _) ?_, rfl, q.at hf⟩
  exact ⟨szl z, us, 0, r, Heap.get?_push_size _ rfl⟩
end
/-! ### repr -/
structure Shw (d : PyData) (n w : Nat) : Prop where
  a : d.showable = true
  b : d.hasDict = false
  c : d.depth ≤ n
  l : d.leavesShort 1001 = true
  w : d.weight ≤ w
structure ShwL (ds : List PyData) (n w : Nat) : Prop where
  a : PyData.showableAll ds = true
  b : PyData.hasDictAll ds = false
  c : PyData.depthAll ds ≤ n
  l : PyData.leavesShortAll 1001 ds = true
  w : PyData.weightAll ds ≤ w
theorem Shw.int {i : Int} (h : showsI i) : Shw (.int i) 0 1001 := ⟨(show_int h).1, rfl, Nat.le_refl _, (show_int h).2, weight_int h⟩
theorem Shw.bool (b : Bool) : Shw (.bool b) 0 0 := ⟨rfl, rfl, Nat.le_refl _, rfl, Nat.le_refl _⟩
theorem Shw.none : Shw .none 0 0 := ⟨rfl, rfl, Nat.le_refl _, rfl, Nat.le_refl _⟩
theorem Shw.str {z : Str} {m : Nat} (h : z.cps.toList.all (fun c => decide (c < 16 ^ 8)) = true) (hm : z.length ≤ m) : Shw (.str z) 0 m := ⟨rfl, rfl, Nat.le_refl _, h, hm⟩
theorem ShwL.nil : ShwL [] 0 0 := ⟨rfl, rfl, Nat.le_refl _, rfl, Nat.le_refl _⟩
theorem ShwL.cons {d : PyData} {ds : List PyData} {n w n' w' : Nat} (h : Shw d n w) (hs : ShwL ds n' w') : ShwL (d :: ds) (max n n') (w + 1 + w') := by
  refine ⟨?_, ?_, ?_, ?_, ?_⟩
  · show (d.showable && PyData.showableAll ds) = true
    rw [h.a, hs.a]; rfl
  · show (d.hasDict || PyData.hasDictAll ds) = false
    rw [h.b, hs.b]; rfl
  · show max d.depth (PyData.depthAll ds) ≤ _
    have := h.c
    have := hs.c
    omega
  · show (d.leavesShort 1001 && PyData.leavesShortAll 1001 ds) = true
    rw [h.l, hs.l]; rfl
  · show d.weight + 1 + PyData.weightAll ds ≤ _
    have := h.w
    have := hs.w
    omega
theorem Shw.tup {ds : List PyData} {n w : Nat} (h : ShwL ds n w) : Shw (.tuple ds) (n + 1) w := ⟨h.a, h.b, Nat.succ_le_succ h.c, h.l, h.w⟩
theorem Shw.lst {ds : List PyData} {n w : Nat} (h : ShwL ds n w) : Shw (.list ds) (n + 1) w := ⟨h.a, h.b, Nat.succ_le_succ h.c, h.l, h.w⟩
theorem Shw.ok {d : PyData} {n w : Nat} (h : Shw d n w) (hn : n ≤ 100) (hw : 1003 * w + 1001 ≤ 16000000) : ShOk d := shOk h.a h.b (Nat.le_trans h.c hn) h.l (by
  have := h.w
  have e : 1003 * d.weight ≤ 1003 * w := Nat.mul_le_mul_left _ this
  exact Nat.le_trans (show 1003 * d.weight + 1001 ≤ 16000000 by omega) (by decide))
section
variable {X : Cx} {k : Nat}
theorem call_reprW (hg : X.A.guards = some []) (hr : Room k X.A) : CallR X (.builtin "repr") (fun xs H Q => ∃ x d, xs = [x] ∧ Dp X.K H x d ∧ ShOk d ∧ Q (.str d.shown) H) := by
  intro pins s σ H xs us Q I r h
  obtain ⟨x, d, e, hd, hs, q⟩ := h
  exact call_reprD hg hr pins s σ H xs us Q I r ⟨x, d, e, hd, hs.a, hs.b, hs.c, hs.d, q⟩
end
end Kb

/-! ### tuples put together and cut, at an abstract heap -/
namespace Kb
open PySem PySem.Spec PyProof.Rows L2 ClX
section
variable {X : Cx}
end
end Kb

/-! ### NotImplemented told by the left operand's method, the right operand's own reflected operator -/
namespace PySem.W
open PySem PySem.Calls PyProof.Rows
section
variable {prog : Program} {w : World} {M : Model} {A : Around} {E : Value → Shared → Prop} {s : Shared} {K : Frag} {x y C D L f g : Addr} {h₀ : Heap} {m : Str → Option Value} {ox oy : Obj} {od od' : Option Obj} {nm : String}
end
end PySem.W
namespace Kb
open PySem PySem.Spec PyProof.Rows L2 ClX
/-- a function that answers NotImplemented and leaves the heap as it was -/
structure FnNi (P : Program) (w : World) (K : PySem.W.Frag) (mg : Str → Option Value) (base : Heap) (k : Nat) (f : Addr) (fd : FuncData) (ps : List Str) (sn : List V → Hp → Prop) : Prop where
  len : ∀ vs H, sn vs H → vs.length = ps.length
  run : ∀ (A : Around) (outer : List Env) (s : Shared) (H : Hp) (args : Args) (us : List Value) (vs : List V), Room k A → Env0 P w K mg base A outer s H → BindsTo s fd args (ps.zip us) → Vals vs us → sn vs H →
    codeAny (model P w) A (.call (.ref f) args) (fun r s' => r = .ok (.ret .notImplemented) ∧ CE outer P w H s (fun _ H' => H' = H) .none s') s
structure PSn (X : Cx) (st : List Stmt) (t : L2.St → Hp → Prop) : Prop where
  run : ∀ (pins : List (Addr × Obj)) (s : Shared) (σ : L2.St) (H : Hp), Inv X pins σ H s → t σ H → wpAny (model X.prog X.w) X.A (execs st X.env) (fun f s' => f = .ret .notImplemented ∧ Inv X pins σ H s') X.xe s
section
variable {X : Cx}
end
section
variable {P : Program} {w : World} {K : PySem.W.Frag} {mg : Str → Option Value} {base : Heap}
/-- a method that answers NotImplemented -/
structure MtNi (P : Program) (w : World) (K : PySem.W.Frag) (mg : Str → Option Value) (base : Heap) (k : Nat) (C : Addr) (m : Str) (ps : List Str) (sn : List V → Hp → Prop) : Prop where
  ex : ∃ (f : Addr) (fd : FuncData), FnNi P w K mg base k f fd ps sn ∧ Meth K C m f ∧ Binds K fd ps []
end
/-- both classes stand in the order that the reflected operator wants -/
structure OpR2 (K : PySem.W.Frag) (C D : Addr) (op : Operator) : Prop where
  ne : C ≠ D
  sf : PySem.W.selfFirst K C = true
  sg : PySem.W.selfFirst K D = true
  sub : PySem.W.subIn K (.ref D) (.ref C) = some false
  r : PySem.W.findIn K (.ref C) (dunderR op.info.2) = some none
  no : PySem.W.findIn K (.ref D) (PySem.dunder op.info.2) = some none
section
variable {X : Cx} {k j : Nat} {C D : Addr} {ps ps' : List Str} {sn : List V → Hp → Prop} {sp : Sp} {op : Operator}
end
end Kb
/-! ### the slots made plain -/
namespace Kb
open PySem PySem.Spec PyProof.Rows L2 ClX
theorem nrm_of {T : L2.St → Prop} {σ σ' : L2.St} (e : σ = σ') (h : T σ') : ∀ σ'', σ = σ'' → T σ'' := fun _ e' => e' ▸ e ▸ h
end Kb

/-! ### own `in`, own truth, displays of dicts with a tuple as key -/
namespace Kb
open PySem PySem.Spec PyProof.Rows L2 ClX
section
variable {X : Cx} {k : Nat} {m : Str} {C : Addr} {ps : List Str} {sp : Sp} {e : Expr} {te : TE} {pos : Pos}
/-! ### {k: v} with a tuple as key -/
end
/-! ### for i, x in enumerate(xs) -/
/-! ### x in a tuple of data, a walk over a list or a tuple -/
section
variable {X : Cx}
def iSeq (K : PySem.W.Frag) (tl : TE) : TI := fun σ H R => tl σ H fun x H1 => ∃ a, x = .ref a ∧ (((∃ xs, SqL K H1 a xs) ∧ R (Itl K a) H1) ∨ ((∃ xs, SqT K H1 a xs) ∧ R (Itt K a) H1))
theorem pi_seq {tg l : Expr} {tl : TE} (hl : PE X l tl) : PI X tg l (iSeq X.K tl) := by
  refine ⟨fun pins s σ H R I h => ?_⟩
  refine thn (hl.run pins s σ H _ I h) fun v s1 ⟨x, H1, I1, r1, q1⟩ => ?_
  obtain ⟨a, e, q⟩ := q1
  subst e
  cases r1
  rcases q with ⟨⟨xs, hq⟩, q⟩ | ⟨⟨xs, hq⟩, q⟩
  · obtain ⟨its, rv, p, hz⟩ := I1.list hq
    refine wpAny_pyIter_list p.isList ?_
    refine ⟨s1.heap.objs.size, [s1.heap.objs.size], _, _, H1, rfl, I1.kept (t' := s1.toks) fun b o e => Heap.get?_push_of_some _ e, turn_list a _, ⟨_, Heap.get?_push_size _ rfl, rfl, rfl⟩, fun b hb => ?_, q⟩
    have e : b = s1.heap.objs.size := by simpa using hb
    subst e
    exact I1.fpOk (Nat.le_refl _) (I1.hok.fresh (Nat.le_refl _))
  · obtain ⟨its, rv, p, hz⟩ := I1.tuple hq
    refine wpAny_pyIter_tuple (show s1.heap.IsTuple a its.toArray from p) ?_
    refine ⟨s1.heap.objs.size, [s1.heap.objs.size], _, _, H1, rfl, I1.kept (t' := s1.toks) fun b o e => Heap.get?_push_of_some _ e, turn_tuple a _, ⟨_, Heap.get?_push_size _ rfl, rfl, rfl⟩, fun b hb => ?_, q⟩
    have e : b = s1.heap.objs.size := by simpa using hb
    subst e
    exact I1.fpOk (Nat.le_refl _) (I1.hok.fresh (Nat.le_refl _))
end
theorem lcR_tup {K : PySem.W.Frag} {a : Addr} {xs : List V} {g : TG} {te : TE} {vs : List Nat} {σ : L2.St} {H1 : Hp} {D : Addr} {Qd : Hp → Prop} (M : Nat → Hp → Prop) (h0 : M 0 (upd H1 D (.lst []))) (hl : ∀ i H, i ≤ xs.length → M i H → SqT K H a xs)
    (hs : ∀ i x H, xs[i]? = some x → M i H → g x (wipe σ vs) H fun σ2 H2 => wipe σ2 vs = wipe σ vs ∧ te σ2 H2 fun y H4 => ∃ acc, H4 D = some (.lst acc) ∧ acc.length < sizeLine ∧ M (i + 1) (upd H4 D (.lst (acc ++ [y]))))
    (hm : ∀ x σ H Q Q', (∀ σ2 H2, Q σ2 H2 → Q' σ2 H2) → g x σ H Q → g x σ H Q') (hd : ∀ H, M xs.length H → Qd H) : LcR (Itt K a) g tYes te vs σ H1 D Qd :=
  lc_tup M h0 hl (fun i x H hi m => hm _ _ _ _ _ (fun σ2 H2 z => ⟨z.1, ifT (B := M (i + 1) H2) rfl z.2⟩) (hs i x H hi m)) hd
end Kb

/-! ### enumerate of a text, of a tuple -/
namespace Kb
open PySem PySem.Spec PyProof.Rows L2 ClX
section
variable {prog : Program} {w : World} {A : Around} {E : Value → Shared → Prop} {s : Shared}
end
/-- the items of the iterator within, as the reading has them -/
structure EnD (P : Program) (w : World) (K : PySem.W.Frag) (it : Addr) (n : Hp → Nat → Prop) (val : Hp → Nat → V → Prop) (St : Nat → Heap → Prop) : Prop where
  run : ∀ (X : Cx), X.prog = P → X.w = w → X.K = K → X.calm = true → ∀ (pins : List (Addr × Obj)) (s : Shared) (σ : L2.St) (H : Hp) (m : Nat), Inv X pins σ H s → n H m →
    ∃ (fp : List Addr) (P' : Nat → Value → Prop) (St' : Nat → Heap → Prop), Draws P w X.A.in1 it fp m P' St' ∧ (∀ i, St i s.heap → St' i s.heap) ∧ (∀ i h, St' i h → St i h) ∧ (∀ i u, P' i u → ∃ x, RelV x u ∧ val H i x) ∧ ∀ e, (∃ b old i, IsEnum s.heap e b i old) → e ≠ it → e ∉ fp
/-! texts -/
/-! tuples -/
end Kb

/-! ### a list of truths: count; a comprehension over an enumerate -/
namespace Kb
open PySem PySem.Spec PyProof.Rows L2 ClX
section
variable {X : Cx}
end
end Kb

/-! ### is True, is not True -/
namespace Kb
open PySem PySem.Spec PyProof.Rows L2 ClX
section
variable {X : Cx}
end
end Kb

/-! ### ~x of an own instance; a promise that nothing meets -/
namespace Kb
open PySem PySem.Spec PyProof.Rows L2 ClX
section
variable {X : Cx} {k : Nat} {C : Addr} {ps : List Str} {sp : Sp}
end
theorem fn_false {P : Program} {w : World} {K : PySem.W.Frag} {mg : Str → Option Value} {base : Heap} {CX : CXT} {k : Nat} {f : Addr} {fd : FuncData} {ps : List Str} : FnOk P w K mg base CX k f fd ps (fun _ _ _ _ => False) :=
  ⟨fun _ _ _ _ h => h.elim, fun _ _ _ _ _ _ _ _ _ _ _ _ _ h => h.elim⟩
end Kb

/-! ### rules that name the written part, for blocks of comprehensions -/
namespace Kb
open PySem PySem.Spec PyProof.Rows L2 ClX
section
variable {X : Cx} {K : PySem.W.Frag}
theorem op_notIn_seqK (h : X.K = K) : OpR X (compareOp .NotIn) (rIn K true) := h ▸ op_notIn_seq
end
end Kb

/-! ### a builtin value on the left, an own object on the right whose class has the reflected operator -/
namespace PySem.W
open PySem PySem.Calls PyProof.Rows
section
variable {prog : Program} {w : World} {M : Model} {A : Around} {E : Value → Shared → Prop} {s : Shared} {K : Frag} {y D L g : Addr} {h₀ : Heap} {m : Str → Option Value} {oy : Obj} {od : Option Obj} {nm T : String}
end
end PySem.W

/-! ### the head by one run of the top: the facts are looked at in the run -/
namespace Kb
open PySem PySem.Spec PyProof.Rows L2 ClX
/-- a def: where it stands, its name, qualified name, parameters, body, scope -/
structure FZ where
  at_ : PySem.W.Frag → Addr
  name : Str
  qual : Str
  st : Stmt
def FZ.val (d : FZ) : He.FnV := some (d.name, d.qual, defArgs d.st, .stmts (defBody d.st), defScope d.st, mainGlobals, [], .none, builtinsNs)
def fzObs (K : PySem.W.Frag) (a : Addr) : He.FnV := match K.lookup a with
  | some ⟨_, _, .func fd, _⟩ => some (fd.name, fd.qualname, fd.params, fd.body, fd.scope, fd.globals, fd.closure, fd.defaults, fd.builtins)
  | _ => none
def fzCode (K : PySem.W.Frag) (a : Addr) (q : Str) : Bool := match K.lookup a with
  | some ⟨_, _, .func fd, _⟩ => PySem.W.codeIn K fd.code q
  | _ => false
abbrev AlZ : Type := Bool × List He.FnV
def obsZ (fs : List (PySem.W.Frag → Bool)) (fn : List FZ) (K : PySem.W.Frag) : AlZ := ((fs.all fun f => f K) && fn.all fun d => fzCode K (d.at_ K) d.qual, fn.map fun d => fzObs K (d.at_ K))
def valZ (fn : List FZ) : AlZ := (true, fn.map FZ.val)
def SaysZ (fs : List (PySem.W.Frag → Bool)) (fn : List FZ) (K : PySem.W.Frag) : Prop := obsZ fs fn K = valZ fn
section
variable {fs : List (PySem.W.Frag → Bool)} {fn : List FZ} {K : PySem.W.Frag}
theorem SaysZ.parts (z : SaysZ fs fn K) : (∀ f ∈ fs, f K = true) ∧ (∀ d ∈ fn, fzCode K (d.at_ K) d.qual = true) ∧ ∀ d ∈ fn, fzObs K (d.at_ K) = d.val := by
  obtain ⟨zb, zl⟩ := Prod.mk.inj (show ((fs.all fun f => f K) && fn.all fun d => fzCode K (d.at_ K) d.qual, fn.map fun d => fzObs K (d.at_ K)) = (true, fn.map FZ.val) from z)
  rw [Bool.and_eq_true, List.all_eq_true, List.all_eq_true] at zb
  exact ⟨zb.1, zb.2, fun d hd => List.map_inj_left.mp zl d hd⟩
theorem SaysZ.fact (z : SaysZ fs fn K) (i : Nat) {f : PySem.W.Frag → Bool} (h : fs[i]? = some f) : f K = true := z.parts.1 f (List.mem_iff_getElem?.mpr ⟨i, h⟩)
end
/-! addresses and facts by names -/
section
variable {K : PySem.W.Frag}
def gloB (K : PySem.W.Frag) (x : Str) : Bool := match PySem.W.nsIn K mainGlobals x with
  | some (some (.ref _)) => true
  | _ => false
theorem gloB_ok {x : Str} (h : gloB K x = true) : PySem.W.nsIn K mainGlobals x = some (some (.ref (He.ga K x))) := by
  unfold gloB at h
  unfold He.ga
  split at h
  · rename_i a e; rw [e]
  · cases h
def freeB (K : PySem.W.Frag) (x : Str) : Bool := match PySem.W.nsIn K mainGlobals x with
  | some none => true
  | _ => false
theorem freeB_ok {x : Str} (h : freeB K x = true) : PySem.W.nsIn K mainGlobals x = some none := by
  unfold freeB at h
  split at h
  · assumption
  · cases h
def clsB (K : PySem.W.Frag) (C : Addr) (m : Str) (v : Value) : Bool := match PySem.W.findCls K (.ref C) (.type "type") m with
  | some (.val u) => decide (u = v)
  | _ => false
theorem clsB_ok {C : Addr} {m : Str} {v : Value} (h : clsB K C m v = true) : PySem.W.findCls K (.ref C) (.type "type") m = some (.val v) := by
  unfold clsB at h
  split at h
  · rename_i u e; rw [e, of_decide_eq_true h]
  · cases h
/-- a constant tuple: its items -/
def tupIt (K : PySem.W.Frag) (a : Addr) : List Value := match K.lookup a with
  | some ⟨.type _, _, .seq its _, _⟩ => its.toList
  | _ => []
def tupRef (K : PySem.W.Frag) (a : Addr) (i : Nat) : Addr := match (tupIt K a)[i]? with
  | some (.ref b) => b
  | _ => 0
def tupB (K : PySem.W.Frag) (a : Addr) (p : List Value → Bool) : Bool := match K.lookup a with
  | some ⟨.type t, _, .seq its _, _⟩ => decide (t = "tuple") && p its.toList
  | _ => false
theorem tupB_ok {a : Addr} {p : List Value → Bool} (h : tupB K a p = true) : ∃ o n s, K.lookup a = some ⟨.type "tuple", o, .seq (tupIt K a).toArray n, s⟩ ∧ p (tupIt K a) = true := by
  unfold tupB at h
  unfold tupIt
  split at h
  · rename_i t o its n s e
    obtain ⟨h1, h2⟩ := He.ba h
    have h1 := of_decide_eq_true h1
    subst h1
    refine ⟨o, n, s, ?_, ?_⟩
    · rw [e]
    · exact h2
  · cases h
def isRef1 : List Value → Bool
  | [.ref _] => true
  | _ => false
/-- an error's class -/
def errB (K : PySem.W.Frag) (C U : Addr) : Bool := match K.lookup C with
  | some ⟨.type t, _, .cls cd, sl⟩ => decide (t = "type") && (decide (cd.mro = [.ref C, .ref U, .type "ValueError", .type "Exception", .type "BaseException", .type "object"]) && (cd.hasDict && (!cd.hasDel && (match sl.toList with
    | [_, _, _, _, some (.builtin n), _] => decide (n = "ValueError.__new__")
    | _ => false))))
  | _ => false
theorem errB_ok {C U : Addr} (h : errB K C U = true) : ∃ nm q N bs sn sub ab col dd m0 m1 m2 m3 m5, K.lookup C = some (excClassObj nm q C N bs [.ref U, .type "ValueError", .type "Exception", .type "BaseException", .type "object"] true sn sub ab col dd m0 m1 m2 m3 m5 "ValueError.__new__") := by
  unfold errB at h
  split at h
  · rename_i t dd cd sl e
    obtain ⟨hA, hB⟩ := He.ba h
    obtain ⟨hC, hD⟩ := He.ba hB
    obtain ⟨hE, hF⟩ := He.ba hD
    obtain ⟨hG, hI⟩ := He.ba hF
    clear h hB hD hF
    have hA := of_decide_eq_true hA
    have hC := of_decide_eq_true hC
    split at hI
    · rename_i k0 k1 k2 k3 n k5 es
      have hJ := of_decide_eq_true hI
      have esl : sl = #[k0, k1, k2, k3, some (.builtin n), k5] := by cases sl; exact congrArg Array.mk es
      obtain ⟨nm, bs, mro, N, q, hd, sn, sub, ab, col, del⟩ := cd
      have hH : (!del) = true := hG
      have hL : del = false := by cases del <;> first | rfl | cases hH
      clear hG hH
      have hE : hd = true := hE
      have hC : mro = _ := hC
      subst hA hJ hC hE hL esl
      exact ⟨nm, q, N, bs, sn, sub, ab, col, dd, k0, k1, k2, k3, k5, e⟩
    · cases hI
  · cases h
end
end Kb

/-! ### a method called, a builtin value + an own object, where the def may raise; a value or another by a test -/
namespace PySem.W
open PySem PySem.Calls PyProof.Rows
section
variable {prog : Program} {w : World} {M : Model} {A : Around} {E : Value → Shared → Prop} {s : Shared} {K : Frag} {y D L g : Addr} {h₀ : Heap} {m : Str → Option Value} {oy : Obj} {od : Option Obj} {nm T : String}
end
end PySem.W
namespace Kb
open PySem PySem.Spec PyProof.Rows L2 ClX
/-- what the class at D must have for a builtin value + its instance -/
structure RaC (K : PySem.W.Frag) (D : Addr) : Prop where
  sf : PySem.W.selfFirst K D = true
  no : PySem.W.findIn K (.ref D) "__add__" = some none
  s1 : PySem.W.findIn K (.type "str") "__add__" = some (some (.builtin "str.__add__"))
  s2 : PySem.W.findIn K (.type "str") "__radd__" = some none
  l1 : PySem.W.findIn K (.type "list") "__add__" = some (some (.builtin "list.__add__"))
  l2 : PySem.W.findIn K (.type "list") "__radd__" = some none
  t1 : PySem.W.findIn K (.type "tuple") "__add__" = some (some (.builtin "tuple.__add__"))
  t2 : PySem.W.findIn K (.type "tuple") "__radd__" = some none
  n1 : PySem.W.findIn K (.type "NoneType") "__add__" = some none
  n2 : PySem.W.findIn K (.type "NoneType") "__radd__" = some none
  si : PySem.W.subIn K (.ref D) (.type "int") = some false
/-- a value that may stand on the left -/
inductive Lf (H : Hp) : V → Prop
  | non : Lf H .non
  | int (i : Int) : Lf H (.int i)
  | str (z : Str) : Lf H (.str z)
  | tup {p : Addr} {xs : List V} (h : H p = some (.tup xs)) : Lf H (.ref p)
  | lst {p : Addr} {xs : List V} (h : H p = some (.lst xs)) : Lf H (.ref p)
section
variable {X : Cx} {CX : CXT} {k : Nat} {C : Addr} {m : Str} {ps : List Str} {sp : Sp} {E : L2.St → XK} {W : WX} {a b o e : Expr} {es : List Expr} {ta tb te : TE} {t : TA} {pos apos : Pos}
/-- x.m(..) -/
def tMethX (C : Addr) (m : Str) (sp : Sp) (E : L2.St → XK) (te : TE) (t : TA) : TE := fun σ H Q => te σ H fun x H1 => ∃ (p dx : Addr) (fs : List (Str × V)), x = .ref p ∧ H1 p = some (.ins C dx fs) ∧ fs.lookup m = none ∧ t σ H1 fun vs H2 => sp (.ref p :: vs) H2 Q (E σ)
theorem pe_methX {pl : Sem Bool} (F : MtC X.prog X.w X.K X.mg X.base CX k C m ps sp) (c : Cls X.K C) (hr : Room k X.A) (hx : ∀ σ, PassesAt CX X σ (E σ)) (he : PE X o te) (ha : PA X (e :: es) t)
    (hst : starEach (e :: es) X.env = (false, eval e X.env) :: starEach es X.env := by rfl) (hpl : (backTo pos (starEach es X.env)).any (·.1) = false := by rfl)
    (ht : eval (.Call (.Attribute o m apos) (e :: es) [] pos) X.env = (do
      let ov ← eval o X.env
      standAt apos.atName
      let (f, first) ← holding [ov] (getMethod ov m pl)
      callWith pos f first (backTo pos (starEach (e :: es) X.env)) (backToKw pos (keywordEach [] X.env))) := by rfl) :
    PE X (.Call (.Attribute o m apos) (e :: es) [] pos) (tMethX C m sp E te t) := by
  obtain ⟨f, fd, hf, M, hb⟩ := F.ex
  refine ⟨fun pins s σ H Q I h => ?_⟩
  refine PySem.W.methodCall_KW (pl := pl) (thn (he.run pins s σ H _ I h) fun u s1 ⟨x, H1, I1, rx, p, dx, fs, ex, ea, l, q⟩ => ?_) ht
  subst ex
  obtain rfl : u = Value.ref p := rx
  refine getmeth_ok I1 ea c M l ?_
  refine PySem.W.callWith_K (first := [.ref p]) (h₀ := X.base) I.ok.mod.kin M.kp (thn (ha.run pos pins s1 σ H1 _ I1 q) fun us s2 ⟨vs, H2, I2, r, q2⟩ => ⟨I2.kIn, ?_⟩) hst hpl
  exact run_fnSD (us := .ref p :: us) (vs := .ref p :: vs) (dvs := []) (ds := []) hf hr hb .nil (hx σ) I2 (.cons rfl r) (by rw [List.append_nil]; exact q2)
theorem pe_methSC {pl : Sem Bool} (F : MtC X.prog X.w X.K X.mg X.base (L2.CX X.prog X.w) k C m ps sp) (c : Cls X.K C) (hr : Room k X.A) (tk : Takes X W) (he : PE X o te) (ha : PA X (e :: es) t)
    (hst : starEach (e :: es) X.env = (false, eval e X.env) :: starEach es X.env := by rfl) (hpl : (backTo pos (starEach es X.env)).any (·.1) = false := by rfl)
    (ht : eval (.Call (.Attribute o m apos) (e :: es) [] pos) X.env = (do
      let ov ← eval o X.env
      standAt apos.atName
      let (f, first) ← holding [ov] (getMethod ov m pl)
      callWith pos f first (backTo pos (starEach (e :: es) X.env)) (backToKw pos (keywordEach [] X.env))) := by rfl) :
    PE X (.Call (.Attribute o m apos) (e :: es) [] pos) (tMethX C m sp (WE W) te t) := pe_methX F c hr (passAt tk) he ha hst hpl ht
end
end Kb

/-! ### x[i] by the class's own `__getitem__` -/
namespace Kb
open PySem PySem.Spec PyProof.Rows L2 ClX
structure IxC (K : PySem.W.Frag) (C : Addr) : Prop where
  ex : ∃ f : Addr, PySem.W.findIn K (.ref C) "__getitem__" = some (some (.ref f)) ∧ PySem.W.fnIn K f = true
section
variable {X : Cx} {k : Nat} {C : Addr} {ps : List Str} {sp : Sp} {a b : Expr} {ta tb : TE} {pos : Pos}
def rOwnIx (C : Addr) (sp : Sp) : R2 := fun x y H Q => ∃ (p dx : Addr) (fs : List (Str × V)), x = .ref p ∧ H p = some (.ins C dx fs) ∧ sp [.ref p, y] H Q E0
theorem pe_ixO (F : MtC X.prog X.w X.K X.mg X.base CX0 k C "__getitem__" ps sp) (G : IxC X.K C) (hr : Room (k + 1) X.A) (ha : PE X a ta) (hb : PE X b tb)
    (hs : ∀ o i, subscripted b true o i = runValue (.builtin "lifetime.subscript" ⟨[o, i], []⟩) := by intro _ _; rfl) : PE X (.Subscript a b pos) (tOp (rOwnIx C sp) ta tb) := by
  refine ⟨fun pins s σ H Q I h => ?_⟩
  refine Subscript_ (binT ha hb I h fun v u s2 x y H2 I2 rx ry q => ?_)
  obtain ⟨p, dx, fs, rfl, hp, q⟩ := q
  cases (show v = Value.ref p from rx)
  obtain ⟨f, fd, hf, M, hbd⟩ := F.ex
  obtain ⟨g, hg1, hg2⟩ := G.ex
  obtain ⟨mA, O, _⟩ := ins_get I2.hok hp
  obtain ⟨od, J, _⟩ := O.look
  obtain ⟨m, hF⟩ := I2.fr
  have e : g = f := by rw [M.at_] at hg1; cases hg1; rfl
  subst e
  refine PySem.W.sub_K hF I2.ok.mod.kin J M.at_ hg2 M.fn ?_ (hs _ _)
  have q' : sp ([V.ref p, y] ++ []) H2 Q E0 := q
  have r2 : Vals ([V.ref p, y] ++ []) ([Value.ref p, u] ++ []) := .cons rfl (.cons ry .nil)
  have hl : ([Value.ref p, u] ++ []).length = ps.length := by rw [← r2.length]; exact hf.len _ _ _ _ q'
  have hr2 : Room k X.A.in1 := Room.in1 (k := k) hr
  have e3 := I2.env0.in1
  have b2 : BindsTo s2 fd ⟨[Value.ref p, u], []⟩ (ps.zip ([Value.ref p, u] ++ [])) := hbd s2 _ I2.kIn hl
  have key := hf.run _ _ s2 H2 _ _ _ _ E0 hr2 e3 b2 r2 q'
  refine wpAny_call (codeAny_mono key fun r s' hq => ?_)
  cases r with
  | error e => exact (show False from hq).elim
  | ok fl =>
    cases fl with
    | ret w =>
      obtain ⟨z, H', I', rz, qz⟩ := I2.after hq
      exact ⟨z, H', I', rz, qz⟩
    | next => exact False.elim hq
    | brk => exact False.elim hq
    | cont => exact False.elim hq
end
end Kb

/-! ### an own error with one field; isinstance of a caught error that has fields; x[i] by an own `__getitem__` that may raise -/
namespace Kb
open PySem PySem.Spec PyProof.Rows L2 ClX
def sp_err1 (C : Addr) (fl : Str) : Sp := fun vs H Q _ => ∃ (a : Addr) (v : V), vs = [.ref a, v] ∧ H a = some (exo a C none) ∧ ∀ dx, H dx = none → dx ≠ a → Q .non (upd (upd H dx (exd dx [(fl, v)])) a (exo a C (some dx)))
/-- an own error with one field, made by its name -/
structure Er1 (P : Program) (w : World) (K : PySem.W.Frag) (mg : Str → Option Value) (base : Heap) (x : Str) (C : Addr) (par fl : Str) : Prop where
  ex : ∃ (f : Addr) (fd : FuncData), FnOk P w K mg base CX0 2 f fd ["self", par] (sp_err1 C fl) ∧ OexC K C ∧ PySem.W.findIn K (.ref C) "__init__" = some (some (.ref f)) ∧ PySem.W.typeIn K (.ref f) = some (.type "function") ∧ mg x = some (.ref C) ∧ Binds K fd ["self", par] []
theorem Er1.nm {P : Program} {w : World} {K : PySem.W.Frag} {mg : Str → Option Value} {base : Heap} {x : Str} {C : Addr} {par fl : Str} (F : Er1 P w K mg base x C par fl) : mg x = some (.ref C) := let ⟨_, _, _, _, _, _, h, _⟩ := F.ex; h
theorem pmk_err1 {X : Cx} {C : Addr} {x par fl : Str} {e : Expr} {ta : TA} {p pos : Pos} (F : Er1 X.prog X.w X.K X.mg X.base x C par fl) (hr : Room 3 X.A) (hg : Gl X x) (ha : PA X [e] ta) (hdb : (x == ("__debug__" : Str)) = false := by decide)
    (he : starEach [e] X.env = (false, eval e X.env) :: starEach [] X.env := by rfl) (hpl : (backTo pos (starEach [] X.env)).any (·.1) = false := by rfl) : PMk X (.Call (.Name x p) [e] [] pos) (tMkO C (sp_err1 C fl) [] ta) := by
  obtain ⟨f, fd, F1, T, iC, tI, hm, hb⟩ := F.ex
  exact pmk_oex (ds := []) (dvs := []) T iC tI F1 hr hb .nil (fun _ _ _ _ _ _ _ z => (show False from z).elim) hg hm ha hdb he hpl
theorem ps_raise1 {X : Cx} {W : WX} {C : Addr} {x par fl : Str} {e : Expr} {ta : TA} {p pos pos' : Pos} (F : Er1 X.prog X.w X.K X.mg X.base x C par fl) (hr : Room 3 X.A) (hc : X.calm = true) (tk : Takes X W) (hg : Gl X x) (ha : PA X [e] ta) (hdb : (x == ("__debug__" : Str)) = false := by decide)
    (he : starEach [e] X.env = (false, eval e X.env) :: starEach [] X.env := by rfl) (hpl : (backTo pos (starEach [] X.env)).any (·.1) = false := by rfl) :
    PS X (.Raise (some (.Call (.Name x p) [e] [] pos)) none pos') (fun _ σ H => tMkO C (sp_err1 C fl) [] ta σ H fun c d H' => W c d σ H') := ps_raise hc tk (pmk_err1 F hr hg ha hdb he hpl)
theorem mk_err1H {C : Addr} {fl : Str} {v : V} {H : Hp} {Q : XK} (k : ∀ dd, H dd = none → Q (.ref C) (some dd) (upd H dd (.xd [(fl, v)]))) :
    [v].length ≤ 1000 ∧ ∀ a, H a = none → sp_err1 C fl (.ref a :: ([v] ++ [])) (upd H a (exo a C none))
      (fun u H2 => u = .non ∧ ∃ (d : Addr) (fs : List (Str × V)), H2 a = some (exo a C (some d)) ∧ H2 d = some (exd d fs) ∧ H d = none ∧ Q (.ref C) (some d) (upd (del H2 a) d (.xd fs))) (fun _ _ _ => False) := by
  refine ⟨by show 1 ≤ 1000; decide, fun a hn => ⟨a, v, rfl, upd_same, fun dx hx ne => ⟨rfl, dx, [(fl, v)], upd_same, ?_, ?_, ?_⟩⟩⟩
  · rw [upd_ne ne, upd_same]
  · rw [upd_ne ne] at hx; exact hx
  · have hx' : H dx = none := by rw [upd_ne ne] at hx; exact hx
    have e : upd (del (upd (upd (upd H a (exo a C none)) dx (exd dx [(fl, v)])) a (exo a C (some dx))) a) dx (.xd [(fl, v)]) = upd H dx (.xd [(fl, v)]) := by
      funext b
      by_cases c : b = dx
      · rw [c, upd_same, upd_same]
      · rw [upd_ne c, upd_ne c]
        by_cases c2 : b = a
        · rw [c2, del_same, hn]
        · rw [del_ne c2, upd_ne c2, upd_ne c, upd_ne c2]
    rw [e]
    exact k dx hx'
/-- isinstance(e, c), e the caught error, with its dict -/
def rIsX (K : PySem.W.Frag) (cls : Value) (d : Option Addr) (a : Addr) : List V → Hp → VK → Prop := fun xs H Q => ∃ (D : Addr) (c : V) (cv : Value) (b : Bool) (dd : Addr) (fs : List (Str × V)), cls = .ref D ∧ d = some dd ∧ H dd = some (.xd fs) ∧ ExcC K D ∧ xs = [.ref a, c] ∧ (∀ u, RelV c u → u = cv) ∧ PySem.W.kitOne K (.ref D) cv = some b ∧ Q (.bl b) H
theorem call_isX {X : Cx} {a : Addr} {cls : Value} {d : Option Addr} {oe : Obj} {pn : List (Addr × Obj)} (hz : Zc cls d oe) (hf : ∃ vs, oe.data = .fields vs) : CallR (X.suite a ((a, oe) :: pn)) (.builtin "isinstance") (rIsX X.K cls d a) := by
  intro pins s σ H xs us Q I r h
  obtain ⟨D, c, cv, b, dd, fs, rfl, rfl, hx, C, rfl, hcv, e, q⟩ := h
  obtain ⟨u1, u2, rfl, r1, r2⟩ := vals2 r
  cases (show u1 = Value.ref a from r1)
  have ec := hcv _ r2
  subst ec
  have hget := (I.pin (a, oe) (List.mem_append.mpr (.inl List.mem_cons_self))).1
  have ho : ObjOk X.prog X.w H s.heap dd (.xd fs) := I.hok dd _ hx
  obtain ⟨mA, hns, _⟩ := ho
  obtain ⟨od, hod, _⟩ := lookIn_ns hns
  obtain ⟨vs, hv⟩ := hf
  have J : PySem.W.InstAt s.heap a oe D (some od) := ⟨hget, hz.1, (by unfold PySem.W.notCls; rw [hv] <;> rfl), (by rw [hz.2]; exact hod)⟩
  obtain ⟨cd, hcd, _⟩ := PySem.W.any_some C.hd
  exact PySem.W.kia_one (PySem.W.kitx_exc (by rw [hcd]; rfl) C.hg C.hk C.hs C.ha C.hn C.ht C.hm) I.kIn J e (fun z => nomatch z) fun tk => ⟨.bl b, H, I.kept (t' := tk) fun _ _ z => z, rfl, q⟩
section
variable {X : Cx} {CX : CXT} {k : Nat} {C : Addr} {ps : List Str} {sp : Sp} {E : L2.St → XK} {W : WX} {a b : Expr} {ta tb : TE} {pos : Pos}
end
end Kb

/-! ### != of lists and tuples whose items are equal by an own == -/
namespace Kb.NG
open PySem PySem.SeqAt PySem.Spec PyProof.Rows
open AutoSeq1 (wpAny_loadPart')
open MeetsSeq MeetsSeq2 MeetsSeq3 SeqRoads2
section
variable {prog : Program} {w : World} {A : Around} {R : Result → Shared → Prop}
end
section
variable {prog : Program} {w : World} {A : Around} {E : Value → Shared → Prop} {s : Shared}
end
end Kb.NG
namespace Kb
open PySem PySem.Spec PyProof.Rows L2 ClX
section
variable {X : Cx} {n : Nat} {D : Eqv}
end
end Kb

namespace Kb
open PySem PySem.Spec PyProof.Rows L2 ClX

/-! ## super().m(..) in a method of the text -/
/-- a body that is run as the code c -/
structure PAt (X : Cx) (c : Code) (st : List Stmt) (t : TS) : Prop where
  run : ∀ (pins : List (Addr × Obj)) (s : Shared) (σ : L2.St) (H : Hp) (D : Ends), Inv X pins σ H s → t D σ H → _root_.PySem.wpAt (model X.prog X.w) X.A c (execs st X.env) (SP X pins D) X.xe s
theorem PAt.of {X : Cx} {c : Code} {st : List Stmt} {t : TS} (h : PSs X st t) : PAt X c st t := ⟨fun pins s σ H D I q => wpAt_of_wpAny (h.run pins s σ H D I q)⟩
theorem pat_cons {X : Cx} {c : Code} {st : Stmt} {rest : List Stmt} {t u : TS} (a : PS X st t) (b : PAt X c rest u) : PAt X c (st :: rest) (tSeq t u) := by
  refine ⟨fun pins s σ H D I h => ks_wpAt_execs_cons (wpAt_of_wpAny (thn (a.run pins s σ H { D with nx := u D } I h) fun fl s1 z => ?_))⟩
  cases fl with
  | next =>
    obtain ⟨σ1, H1, I1, z⟩ := z
    exact b.run pins s1 σ1 H1 D I1 z
  | ret v => exact z
  | brk => exact z
  | cont => exact z
/-- what of the text a def with super() must have: f the def, D its class -/
structure SupK (P : Program) (K : PySem.W.Frag) (mg : Str → Option Value) (D f cda cc : Addr) : Prop where
  code : ∃ ccl cdd vs ccs file tf, K.lookup cda = some ⟨ccl, cdd, .fields vs, ccs⟩ ∧ vs[2]? = some (.str file tf) ∧ ((P.main.file : Str) == file) = true
  cell : ∃ cl cld csl, K.lookup cc = some ⟨cl, cld, .cell (some (.ref D)), csl⟩
  top : (P.main.scope.names.lookup ("super" : Str)).isSome = false
  mg : mg "super" = none
  st : PySem.W.nsIn K PySem.cStatics "thirdparty.any" = some none
  cls : ∃ cd, PySem.W.clsIn K D = some cd
  sub : PySem.W.mroIn K D (.ref D) = some true
/-- .. the def that super().m is -/
structure SupM (K : PySem.W.Frag) (D : Addr) (m : Str) (f2 : Addr) : Prop where
  at_ : PySem.W.ks_superIn K D D m = some (some (.ref f2))
  ty : PySem.W.typeIn K (.ref f2) = some (.type "function")
  fi : PySem.W.fnIn K f2 = true
def tSup (C : Addr) (sp : Sp) (dvs : List V) (E : XK) (t : TA) (u : TS) : TS := fun D σ H => ∃ (x dx : Addr) (fs : List (Str × V)), σ[0]? = some (some (.ref x)) ∧ H x = some (.ins C dx fs) ∧ t σ H fun vs H1 => sp (.ref x :: (vs ++ dvs)) H1 (fun _ H2 => u D σ H2) E
section
variable {X : Cx}
theorem pat_super {full : List Stmt} {D f f2 cc cda : Addr} {fd fd2 : FuncData} {oc : Value} {od : Option Addr} {osl : Array (Option Value)} {ar : Arg} {p0 p1 apos pos epos : Pos} {m : Str} {e : Expr} {es : List Expr} {rest : List Stmt} {t : TA} {u : TS} {CX : CXT} {k : Nat} {ps : List Str} {sp : Sp} {ds : List Value} {dvs : List V} {E : XK}
    (S : SupK X.prog X.K X.mg D f cda cc) (M : SupM X.K D m f2) (hfu : X.env.func = some f) (hco : X.env.code = .ref cda) (hcl : X.env.cells.lookup ("__class__" : Str) = some cc) (lf : X.K.lookup f = some ⟨oc, od, .func fd, osl⟩) (hp : (fd.params.posonlyargs ++ fd.params.args).head? = some ar)
    (hks : Gl X "super") (hkc : X.env.kindOf "__class__" = some .free) (hN : X.N[0]? = some ar.arg) (hka : X.env.kindOf ar.arg = some .local) (hat : (m == ("__class__" : Str)) = false)
    (F : FnOk X.prog X.w X.K X.mg X.base CX k f2 fd2 ps sp) (hb : Binds X.K fd2 ps ds) (hd : Vals dvs ds) (hr : Room k X.A) (hx : Passes CX X E) (ha : PA X (e :: es) t) (hrest : PSs X rest u)
    (hst : starEach (e :: es) X.env = (false, eval e X.env) :: starEach es X.env) (hpl : (backTo pos (starEach es X.env)).any (·.1) = false)
    (hi : interactive X.env = false) (hs : swapsWith (.Call (.Attribute (.Call (.Name "super" p0) [] [] p1) m apos) (e :: es) [] pos) none epos.line X.env = pure false)
    {pl : Sem Bool} (he : eval (.Call (.Attribute (.Call (.Name "super" p0) [] [] p1) m apos) (e :: es) [] pos) X.env = (do
      let ov ← attributeBase (.Call (.Name "super" p0) [] [] p1) m X.env (eval (.Call (.Name "super" p0) [] [] p1) X.env)
      standAt apos.atName
      let (f, first) ← holding [ov] (getMethod ov m pl)
      callWith pos f first (backTo pos (starEach (e :: es) X.env)) [])) :
    PAt X (.func full X.env) (.Expr (.Call (.Attribute (.Call (.Name "super" p0) [] [] p1) m apos) (e :: es) [] pos) epos :: rest) (tSup D sp dvs E t u) := by
  refine ⟨fun pins s σ H D' I h => ?_⟩
  obtain ⟨x, dx, fs, hσ, hxx, h⟩ := h
  obtain ⟨ccl, cdd, vs, ccs, file, tf, hcode, hvs, hfile⟩ := S.code
  obtain ⟨cl, cld, csl, hcell⟩ := S.cell
  obtain ⟨cdD, hD⟩ := S.cls
  have KX := I.kIn
  obtain ⟨oD, hD1, hD2⟩ : ∃ oD, s.heap.get? D = some oD ∧ oD.data = .cls cdD := by
    unfold PySem.W.clsIn at hD
    split at hD
    · rename_i c d cd' sl ho
      cases hD
      exact ⟨_, KX _ _ ho, rfl⟩
    · cases hD
  obtain ⟨mA, O, _⟩ := ins_get I.hok hxx
  obtain ⟨ox, odx, hox⟩ : ∃ ox odx, PySem.W.InstAt s.heap x ox D odx := by
    obtain ⟨od', J, _⟩ := O.look
    exact ⟨_, _, J⟩
  refine ks_wpAt_execs_cons (ks_wpAt_Expr_any ?_ hi hs)
  refine ks_wpAt_MethodCall ?_ he
  refine ks_wpAt_super_base hks hkc hat hfu (KX _ _ lf) rfl hp hco (KX _ _ hcode) rfl hvs hfile S.top ?_
  obtain ⟨mb, b1, b2⟩ := I.mod.blt
  refine PySem.W.ks_loadName_global I.ok.kind hks (Calls.loadGlobal_builtin (by rw [I.ok.glob]; exact I.mod.glob.keeps I.bk) S.mg (by rw [I.ok.blt]; exact b1.keeps I.bk) ((b2 "super" (by decide)).trans (by boot_by_name)) ⟨rfl, ?_⟩)
  refine wpAny_loadName_free I.ok.kind hkc hcl ⟨_, KX _ _ hcell, rfl⟩ ?_
  obtain ⟨ml, hn, hl⟩ := I.loc
  obtain ⟨ux, rx, lx⟩ := hl 0 ar.arg (.ref x) hN hσ (.inl hka)
  cases (show ux = Value.ref x from rx)
  have hmx : ml ar.arg = some (.ref x) := by
    rcases lx with ⟨_, z⟩ | ⟨z, _⟩
    · exact z
    · rcases z with z | z
      · rw [hka] at z; cases z
      · rw [hka] at z; cases z
  refine wpAny_loadName_local I.ok.kind hka hn hmx ?_
  refine ks_wpAny_isType_cls hD1 hD2 ⟨rfl, ?_⟩
  obtain ⟨hh, g, d, tk, os⟩ := s
  refine ks_wpAny_call_super hD1 hD2 hox.at_ hox.cls (fun c e => ?_) (PySem.W.looks_mroIn KX S.sub) (fun h' e1 k1 => ?_)
  · have := hox.no
    unfold PySem.W.notCls at this
    rw [e] at this
    exact Bool.noConfusion this
  have I1 := pin_new (t' := tk) I k1 (Nat.le_refl _) e1 (fun v z => nomatch z)
  have KX1 := I1.kIn
  obtain ⟨of2, hof, hofc⟩ : ∃ of, h'.get? f2 = some of ∧ of.cls = .type "function" := by
    have ht' : (X.K.lookup f2).map (·.cls) = some (.type "function") := M.ty
    cases z : X.K.lookup f2 with
    | none => rw [z] at ht'; cases ht'
    | some of => rw [z] at ht'; exact ⟨of, KX1 _ _ z, Option.some.inj ht'⟩
  have hsup := M.at_
  unfold PySem.W.ks_superIn at hsup
  rw [hD] at hsup
  obtain ⟨mA1, O1, _⟩ := ins_get I1.hok hxx
  obtain ⟨ox1, odx1, hox1⟩ : ∃ ox odx, PySem.W.InstAt h' x ox D odx := by
    obtain ⟨od', J, _⟩ := O1.look
    exact ⟨_, _, J⟩
  refine ks_wpAny_getMethod_super (pin_at I1) (PySem.W.looks_opaque KX1 S.st) (l₀ := cdD.mro) ?_ rfl KX1 hsup hof hofc (PySem.W.ks_ne KX1 hox1 hD) hat ?_
  · exact fun A Q E s k q => wpAny_bind ((PySem.W.looks_clsIn KX1 hD) A _ E s k (wpAny_pure q))
  have I2 := pin_new (s := ⟨h', g, d, tk, os⟩) (o := PySem.W.methodObj (.ref f2) (.ref x)) (t' := tk + 1) I1 (fun _ _ z => Heap.get?_push_of_some _ z) (Nat.le_refl _) (Heap.get?_push_size h' rfl) (fun v z => nomatch z)
  have hL := (I2.pin (h'.objs.size, PySem.W.methodObj (.ref f2) (.ref x)) (List.mem_append_right _ List.mem_cons_self)).2.2.1
  refine PySem.W.callWith_M (K := X.K) (h₀ := X.base) (first := []) I.ok.mod.kin (news_at hL (base_none I1 (Nat.le_refl _)) (pin_at I2)) List.mem_cons_self M.fi (thn (ha.run pos _ _ σ H _ I2 h) fun us s3 ⟨vs, H2, I3, rv, q2⟩ => ⟨⟨pin_at I3, I3.kIn⟩, ?_⟩) hst hpl
  refine wpAny_call (PySem.W.method_call (pin_at I3) ?_)
  have r2 : Vals (.ref x :: (vs ++ dvs)) ((.ref x :: us) ++ ds) := (show Vals ((V.ref x :: vs) ++ dvs) _ from Vals.append (xs := V.ref x :: vs) (.cons (show RelV (.ref x) (.ref x) from rfl) rv) hd)
  have hl2 : (((Value.ref x :: us) ++ ds)).length = ps.length := by rw [← r2.length]; exact F.len _ _ _ _ q2
  refine codeAny_mono (F.run X.A X.stack s3 H2 ⟨.ref x :: us, []⟩ ((.ref x :: us) ++ ds) (.ref x :: (vs ++ dvs)) _ E hr I3.env0 (hb s3 (.ref x :: us) I3.kIn hl2) r2 q2) fun r s' hq => ?_
  cases r with
  | error e => exact hx _ σ H2 s3 e s' I3 hq
  | ok fl =>
    cases fl with
    | ret w =>
      obtain ⟨v, H3, I4, rv, q3⟩ := I3.after hq
      have I5 := unpin (unpin I4)
      exact wpAt_of_wpAny (hrest.run pins s' σ H3 D' I5 q3)
    | next => exact False.elim hq
    | brk => exact False.elim hq
    | cont => exact False.elim hq
end
/-- the def that super().m is, for methods of the class at D; dvs: its last defaults that are left out -/
structure SupC (P : Program) (w : World) (K : PySem.W.Frag) (mg : Str → Option Value) (base : Heap) (k : Nat) (D : Addr) (m : Str) (ps : List Str) (sp : Sp) (dvs : List V) : Prop where
  ex : ∃ (f2 : Addr) (fd2 : FuncData) (ds : List Value), FnOk P w K mg base CX0 k f2 fd2 ps sp ∧ SupM K D m f2 ∧ Binds K fd2 ps ds ∧ Vals dvs ds
section
variable {X : Cx}
theorem pat_superC {full : List Stmt} {D f cda cc : Addr} {fd : FuncData} {args : Arguments} {oc : Value} {od : Option Addr} {osl : Array (Option Value)} {ar : Arg} {p0 p1 apos pos epos : Pos} {m : Str} {e : Expr} {es : List Expr} {rest : List Stmt} {t : TA} {u : TS} {k : Nat} {ps : List Str} {sp : Sp} {dvs : List V}
    (F : SupC X.prog X.w X.K X.mg X.base k D m ps sp dvs) (S : SupK X.prog X.K X.mg D f cda cc) (lf : X.K.lookup f = some ⟨oc, od, .func fd, osl⟩) (hpar : fd.params = args) (hr : Room k X.A) (ha : PA X (e :: es) t) (hrest : PSs X rest u)
    (hfu : X.env.func = some f := by rfl) (hco : X.env.code = .ref cda := by rfl) (hcl : X.env.cells.lookup ("__class__" : Str) = some cc := by rfl) (hp : (args.posonlyargs ++ args.args).head? = some ar := by rfl)
    (hks : Gl X "super" := by rfl) (hkc : X.env.kindOf "__class__" = some .free := by rfl) (hN : X.N[0]? = some ar.arg := by rfl) (hka : X.env.kindOf ar.arg = some .local := by rfl) (hat : (m == ("__class__" : Str)) = false := by decide)
    (hst : starEach (e :: es) X.env = (false, eval e X.env) :: starEach es X.env := by rfl) (hpl : (backTo pos (starEach es X.env)).any (·.1) = false := by rfl)
    (hi : interactive X.env = false := by rfl) (hs : swapsWith (.Call (.Attribute (.Call (.Name "super" p0) [] [] p1) m apos) (e :: es) [] pos) none epos.line X.env = pure false := by rfl)
    {pl : Sem Bool} (he : eval (.Call (.Attribute (.Call (.Name "super" p0) [] [] p1) m apos) (e :: es) [] pos) X.env = (do
      let ov ← attributeBase (.Call (.Name "super" p0) [] [] p1) m X.env (eval (.Call (.Name "super" p0) [] [] p1) X.env)
      standAt apos.atName
      let (f, first) ← holding [ov] (getMethod ov m pl)
      callWith pos f first (backTo pos (starEach (e :: es) X.env)) []) := by rfl) :
    PAt X (.func full X.env) (.Expr (.Call (.Attribute (.Call (.Name "super" p0) [] [] p1) m apos) (e :: es) [] pos) epos :: rest) (tSup D sp dvs E0 t u) := by
  obtain ⟨f2, fd2, ds, F2, M, hb, hd⟩ := F.ex
  exact pat_super (full := full) S M hfu hco hcl lf (by rw [hpar]; exact hp) hks hkc hN hka hat F2 hb hd hr (fun _ _ _ _ _ _ _ z => (show False from z).elim) ha hrest hst hpl hi hs he
end
/-! ## a def of the text that says super() -/
open NdefX in
abbrev nfS (x qual : Str) (st : Stmt) (cda cc : Addr) : NdefX.NF := ⟨x, qual, defArgs st, defBody st, defScope st, [("__class__", cc)], cda⟩
structure FunS (P : Program) (K : PySem.W.Frag) (mg : Str → Option Value) (x qual : Str) (st : Stmt) (D : Addr) (dvs : List V) (f : Addr) (fd : FuncData) : Prop where
  ex : ∃ (oc : Value) (od : Option Addr) (dV kV doc pm : Value) (an : Option Addr) (cda cc : Addr) (ct : Value) (osl : Array (Option Value)),
    fd = PySem.W.fnX x qual (defArgs st) (defBody st) (defScope st) [("__class__", cc)] dV kV doc pm an (.ref cda) ct ∧ K.lookup f = some ⟨oc, od, .func fd, osl⟩ ∧ PySem.W.codeIn K (.ref cda) qual = true ∧ SupK P K mg D f cda cc ∧ DflV K dV dvs
  kp : PySem.W.keepIn K (.ref f) = true
section
variable {P : Program} {w : World} {K : PySem.W.Frag} {mg : Str → Option Value} {base : Heap}
theorem cells_cls {D f cda cc : Addr} {s : Shared} {H : Hp} {A : Around} {outer : List Env} (S : SupK P K mg D f cda cc) (e0 : Env0 P w K mg base A outer s H) : NdefX.CellsAt [("__class__", cc)] ["__class__"] [none] s.heap H := by
  obtain ⟨cl, cld, csl, hcell⟩ := S.cell
  have hb := e0.bs _ _ (e0.mod.kin _ _ hcell)
  have one : ∀ {y : Str} {c : Addr}, List.lookup y [(("__class__" : Str), cc)] = some c → c = cc ∧ y = ("__class__" : Str) := fun {y c} e => by
    simp only [List.lookup] at e
    split at e
    · rename_i q
      cases e
      exact ⟨rfl, beq_iff_eq.mp q⟩
    · cases e
  refine ⟨rfl, fun y c e => ?_, fun x y c e1 e2 => by rw [(one e1).2, (one e2).2], fun i y e => ?_⟩
  · obtain ⟨rfl, rfl⟩ := one e
    exact ⟨hb.2, _, _, hb.1, rfl⟩
  · match i, e with
    | 0, e => cases e; exact ⟨cc, rfl, fun v ev => by cases ev⟩
    | i + 1, e => cases e
/-- THE RULE for such a def -/
theorem FunS.ok {CX : CXT} {x qual : Str} {st : Stmt} {D : Addr} {dvs : List V} {f : Addr} {fd : FuncData} {N ps : List Str} {k : Nat} {sp : Sp} (F : FunS P K mg x qual st D dvs f fd) (S : NdefX.NScope N ps ["__class__"] (defScope st)) (len : ∀ vs H Q E, sp vs H Q E → vs.length = ps.length)
    (hbody : ∀ (cda cc : Addr) (fd' : FuncData) (oc : Value) (od : Option Addr) (osl : Array (Option Value)) (A : Around) (outer : List Env) (s : Shared) (H : Hp) (vs : List V) (Q : VK) (E : XK), fd'.params = defArgs st → K.lookup f = some ⟨oc, od, .func fd', osl⟩ → SupK P K mg D f cda cc → Room k (A.deeper (NdefX.envF (nfS x qual st cda cc) f s.heap.objs.size)) → sp vs H Q E →
      ∃ t, PAt (NdefX.ncx CX P w K mg base N (nfS x qual st cda cc) f A outer s H E) (.func (defBody st) (NdefX.envF (nfS x qual st cda cc) f s.heap.objs.size)) (defBody st) t ∧ t { nx := fun _ H' => Q .non H', rt := Q } (NdefX.startF N vs [none]) H) : FnOk P w K mg base CX (k + 1) f fd ps sp := by
  obtain ⟨oc, od, dV, kV, doc, pm, an, cda, cc, ct, osl, rfl, lk, hcd, SK, _⟩ := F.ex
  refine ⟨len, fun A outer s H args us vs Q E hr e0 hb r hsp => ?_⟩
  have hl := len _ _ _ _ hsp
  have KX : K.In s.heap := e0.mod.kin.keeps fun b o e => (e0.bs b o e).1
  have lim : s.heap.NoLimit := e0.mod.nolimit.keeps fun b o e => (e0.bs b o e).1
  have C := cells_cls SK e0
  refine codeAny_call_function hr.depth (KX _ _ lk) rfl S.co S.gen rfl (PySem.W.codeRec_of KX hcd) (hb _ _ _ _ ?_)
  refine wpAny_newFunctionEnv S.nocell (fun ⟨n, _⟩ hy => S.par n (List.of_mem_zip hy).1) (fun h₁ hns hsb => ⟨lim.fresh _ hsb, ?_⟩) S.kind
  show codeAny _ _ (.func (defBody st) (NdefX.envF (nfS x qual st cda cc) f s.heap.objs.size)) _ _
  refine ks_codeAny_funcAt ?_
  have kp : ∀ b o, s.heap.get? b = some o → h₁.get? b = some o := fun b o e => hsb.extBut b o (Nat.ne_of_lt (Heap.lt_size e)) (Heap.get?_push_of_some _ e)
  obtain ⟨t, ht, hq⟩ := hbody cda cc _ oc od osl A outer s H vs Q E rfl lk SK (hr.deeper _) hsp
  have I : Inv (NdefX.ncx CX P w K mg base N (nfS x qual st cda cc) f A outer s H E) [] (NdefX.startF N vs [none]) H { s with heap := h₁, toks := s.toks + (ps.zip us).length } := NdefX.inv_startN S hr.hd e0 hl r C hns kp
  refine ks_wpAt_mono (ht.run [] _ (NdefX.startF N vs [none]) H _ I hq) (fun fl s' hs => ?_) fun e s' hs => hs
  have fin : ∀ {σ' : L2.St} {H' : Hp} {v : V} {u : Value}, Inv (NdefX.ncx CX P w K mg base N (nfS x qual st cda cc) f A outer s H E) [] σ' H' s' → L2.RelV v u → Q v H' → CE outer P w H s Q u s' :=
    fun {σ' H' v u} J rv q => ⟨v, H', J.os, J.bare, J.base, J.hok, rv, q⟩
  cases fl with
  | ret u =>
    obtain ⟨v, σ', H', J, rv, q⟩ := hs
    exact fin J rv q
  | next =>
    obtain ⟨σ', H', J, q⟩ := hs
    exact fin (v := V.non) (u := Value.none) J rfl q
  | brk =>
    obtain ⟨_, _, _, q⟩ := hs
    exact False.elim q
  | cont =>
    obtain ⟨_, _, _, q⟩ := hs
    exact False.elim q
theorem FunS.binds {x qual : Str} {st : Stmt} {D : Addr} {dvs : List V} {f : Addr} {fd : FuncData} {ps : List Str} (F : FunS P K mg x qual st D dvs f fd)
    (h : ∀ (cc : Addr) (dV kV doc pm : Value) (an : Option Addr) (cdv ct : Value) (us : List Value), us.length = ps.length → bindArgs (PySem.W.fnX x qual (defArgs st) (defBody st) (defScope st) [("__class__", cc)] dV kV doc pm an cdv ct) ⟨us, []⟩ = pure (ps.zip us)) : Binds K fd ps [] := by
  obtain ⟨oc, od, dV, kV, doc, pm, an, cda, cc, ct, osl, rfl, lk, hcd, _⟩ := F.ex
  exact .all (h cc dV kV doc pm an _ ct)
/-- the last parameters by their defaults -/
theorem FunS.binds1 {x qual : Str} {st : Stmt} {D : Addr} {dvs : List V} {f : Addr} {fd : FuncData} {ps : List Str} (F : FunS P K mg x qual st D dvs f fd) (n j : Nat) (hd : dvs ≠ []) (hn : n + (dvs.length - j) = ps.length)
    (h : ∀ (cc T : Addr) (kV doc pm : Value) (an : Option Addr) (cdv ct : Value) (us its : List Value), us.length = n → its.length = dvs.length →
      ∃ k, bindArgs (PySem.W.fnX x qual (defArgs st) (defBody st) (defScope st) [("__class__", cc)] (.ref T) kV doc pm an cdv ct) ⟨us, []⟩ = seqItems? (.ref T) >>= k ∧ k (some its.toArray) = pure (ps.zip (us ++ its.drop j))) : ∃ ds, Vals (dvs.drop j) ds ∧ Binds K fd ps ds := by
  obtain ⟨oc, od, dV, kV, doc, pm, an, cda, cc, ct, osl, rfl, lk, hcd, _, hD⟩ := F.ex
  rcases hD with ⟨e, _⟩ | ⟨_, T, o, its, m, rfl, lT, oT, rT⟩
  · exact absurd e hd
  · refine ⟨its.drop j, rT.drop j, fun s us X hlen => ?_⟩
    have l1 : its.length = dvs.length := rT.length.symm
    have l2 : us.length = n := by
      rw [List.length_append, List.length_drop, l1] at hlen
      omega
    obtain ⟨k, e1, e2⟩ := h cc T kV doc pm an _ ct us its l2 l1
    refine BindsTo.of_looks fun M => ?_
    rw [e1]
    exact looks_items X lT oT (.of_pure e2)
end
end Kb

namespace Kb
open PySem PySem.Spec PyProof.Rows L2 ClX

/-! ## f'{x}', x an own instance with its own __str__ -/
section
variable {prog : Program} {w : World} {A : Around} {E : Value → Shared → Prop} {s : Shared} {K : PySem.W.Frag} {x C f : Addr} {ox : Obj} {od : Option Obj}
theorem check_meth {M : Model} {A : Around} {E : Value → Shared → Prop} {s : Shared} {i owner n : String} {self : Value} {rest : List Value} {kw : List (Str × Value)} {Q : Unit → Shared → Prop}
    (hk : builtinKind i = some .method) (hs : splitId i = some (owner, n)) (hi : PySem.W.Looks M s.heap (isInstance self (.type owner)) true) (ha : argsOk i ⟨self :: rest, kw⟩) (q : Q () s) :
    wpAny M A (checkBuiltinCall i ⟨self :: rest, kw⟩) Q E s := by
  simp only [checkBuiltinCall, hk, hs]
  refine wpAny_bind (hi.here ?_)
  simp only [Bool.not_true, Bool.false_eq_true, if_false]
  cases hsig : Manifest.signature? i with
  | none => exact wpAny_pure q
  | some sig =>
    simp only [argsOk, hsig] at ha
    have h2 : Bind.checkArgs i sig ⟨self :: rest, kw⟩ = pure () := ha
    show wpAny M A (Bind.checkArgs i sig ⟨self :: rest, kw⟩) Q E s
    rw [h2]; exact wpAny_pure q
theorem callSpecial_A {M : Model} {A : Around} {v tp : Value} {name : Str} {i : String} {args : List Value} {Q : Option Value → Shared → Prop} (hT : PySem.W.Looks M s.heap (typeOf v) tp) (hf : PySem.W.Looks M s.heap (typeLookup tp name) (some (.builtin i))) (hb : bindSpecial (.builtin i) v = pure (.builtin i, [v]))
    (hc : wpAny M A (call (.builtin i) (v :: args)) (fun r => Q (some r)) E s) : wpAny M A (callSpecial? v name args) Q E s := by
  simp only [callSpecial?]
  refine wpAny_bind ?_
  unfold specialOf
  refine wpAny_bind (hT.here (hf.here ?_))
  simp only [hb]
  exact wpAny_holding (wpAny_bind (wpAny_pure (wpAny_bind (wpAny_mono hc (fun v s' h' => wpAny_pure h') fun _ _ h' => h'))))
theorem fmt_own {Q : Value → Shared → Prop} (hu : A.units + 2 < cLine) (X : K.In s.heap) (I : PySem.W.InstAt s.heap x ox C od) (hfm : PySem.W.findIn K (.ref C) "__format__" = some (some (.builtin "object.__format__"))) (hob : PySem.W.subIn K (.ref C) (.type "object") = some true)
    (hs : PySem.W.findIn K (.ref C) "__str__" = some (some (.ref f))) (hf : PySem.W.isFn K (.ref f) = true) (h : ∀ tk, wpAny (model prog w) A.in1 (call (.ref f) [.ref x]) (PySem.W.StrBack Q) E { s with toks := tk }) :
    wpAny (model prog w) A (formatField (.ref x) Str.empty) Q E s := by
  show wpAny _ _ (holding [.ref x] (pyFormat (.ref x) Str.empty)) Q E s
  refine wpAny_holding ?_
  unfold pyFormat
  refine wpAny_bind (wpAny_mkStr ?_ (by decide))
  have LI : PySem.W.Looks (model prog w) s.heap (isInstance (.ref x) (.type "object")) true := I.type.andThen (PySem.W.looks_subIn X hob)
  refine wpAny_bind (m := callSpecial? (.ref x) (Str.ofString "__format__") [.str Str.empty s.toks]) (callSpecial_A (s := { s with toks := s.toks + 1 }) I.type (PySem.W.looks_findIn X hfm) (F.slot_NoneType_format.bind _) ?_)
  refine wpAny_call (codeAny_call_builtin F.slot_NoneType_format.plain F.entry_object_format (@check_meth (model prog w) _ _ { s with toks := s.toks + 1 } "object.__format__" "object" "__format__" (.ref x) [.str Str.empty s.toks] [] _ (by decide +kernel) (by decide +kernel) LI (F.args_object_format_2 _ _) ?_))
  show wpAny _ _ (do let _shown ← typeNameOf (.str Str.empty s.toks); (do ret (← pyStrObj (.ref x)))) _ _ _
  refine wpAny_bind (wpAny_typeNameOf (T := "str") (typeIs_str _ _ _) (by decide) fun _ => ?_)
  refine wpAny_bind ?_
  unfold pyStrObj
  refine wpAny_bind (m := cRoomFor _ _) (wpAny_cRoomFor (by show A.units + 1 < cLine; omega) ?_)
  refine wpAny_bind (m := callSpecial? (.ref x) (Str.ofString "__str__")) (PySem.W.special_fn (s := { s with toks := _ }) X I hs (beq_iff_eq.mp hf) (wpAny_mono (h _) (fun r s' hr => ?_) fun _ _ y => y))
  cases r <;> first | exact hr.elim | skip
  refine wpAny_bind (wpAny_isInstance (T := "str") (b := true) rfl isSubtype_str_str (wpAny_pure (wpAny_pure ?_)))
  exact wpAny_bind (wpAny_isInstance (T := "str") (b := true) rfl isSubtype_str_str (wpAny_pure hr))
end
/-- what of the text a class must have for {x} -/
structure FmC (K : PySem.W.Frag) (C : Addr) : Prop where
  fm : PySem.W.findIn K (.ref C) "__format__" = some (some (.builtin "object.__format__"))
  ob : PySem.W.subIn K (.ref C) (.type "object") = some true
def tFmtO (C : Addr) (sp : Sp) (te : TE) : TE := fun σ H Q => te σ H fun x H1 => ∃ (a dx : Addr) (fs : List (Str × V)), x = .ref a ∧ H1 a = some (.ins C dx fs) ∧ sp [.ref a] H1 (fun v H' => ∃ z : Str, v = .str z ∧ Q (.str z) H') E0
section
variable {X : Cx} {k : Nat} {C : Addr} {sp : Sp} {e : Expr} {te : TE} {pos : Pos}
theorem pe_fmtO (F : MtC X.prog X.w X.K X.mg X.base CX0 k C "__str__" ["self"] sp) (G : FmC X.K C) (hr : Room (k + 2) X.A) (he : PE X e te) : PE X (.FormattedValue e (-1) none pos) (tFmtO C sp te) := by
  refine ⟨fun pins s σ H Q I h => ?_⟩
  refine wpAny_FormattedValue_plain (thn (he.run pins s σ H _ I h) fun v s1 hv => ?_)
  obtain ⟨x, H1, I1, r1, a, dx, fs, rfl, ha, q⟩ := hv
  cases (show v = Value.ref a from r1)
  obtain ⟨f, fd, hf, M, hb⟩ := F.ex
  obtain ⟨mA, O, _⟩ := ins_get I1.hok ha
  obtain ⟨od, J, _⟩ := O.look
  have hu := hr.un
  refine fmt_own (by omega) I1.kIn J G.fm G.ob M.at_ M.fn (fun tk => run_self (I1.tok tk) hf (hr.in1.mono (Nat.le_succ _)) hb q (fun u s' z => ?_) rfl)
  obtain ⟨v, H', I', rv, n, rfl, q'⟩ := z
  obtain ⟨t, rfl⟩ := rv
  exact ⟨.str n, H', I', ⟨_, rfl⟩, q'⟩
/-- one reading of several -/
theorem pe_ex {ι : Type} {Dm : ι → Prop} {t : ι → TE} (h : ∀ i, Dm i → PE X e (t i)) : PE X e (fun σ H Q => ∃ i, Dm i ∧ t i σ H Q) := ⟨fun pins s σ H Q I ⟨i, hi, q⟩ => (h i hi).run pins s σ H Q I q⟩
end
end Kb

namespace Kb
open PySem PySem.Spec PyProof.Rows L2
open PyProof
/-! ## list.extend(a list or a tuple); o.m() -/
theorem ext_tup (l : Addr) (items : Array Value) (n : Nat) (b : Addr) (o : Obj) (items2 : Array Value) (n2 : Nat) (hc : o.cls = .type "tuple" ∨ o.cls = .type "list") (hd : o.data = .seq items2 n2) (hs0 : ¬(!items.isEmpty && Builtin.List.listTooLong (items.size + items2.size)) = true) (hs1 : items.size ≤ sizeLine) (hs2 : items.size + items2.size ≤ sizeLine + 1) :
    Meets (Builtin.«list.extend» ⟨[.ref l, .ref b], []⟩) (fun _ R s => s.heap.get? l = some { cls := .type "list", dict := none, data := .seq items n, slots := #[] } ∧ s.heap.get? b = some o ∧ R (.ok (.ret Value.none)) { s with heap := s.heap.update l (Obj.mapSeq fun x => x ++ items2) }) :=
  .of_wp fun prog w A R s h => by
    obtain ⟨hl, hb, h⟩ := h
    show wpAny _ _ (Builtin.List.listExtendWith (.ref l) (.ref b) .none) _ _ _
    have go : ∀ T : String, o.cls = .type T → (Builtin.List.listSameRef (.ref l) (.ref b) || Value.type T == .type "list" || Value.type T == .type "tuple") = true → wpAny (model prog w) A.in1 (Builtin.List.listExtendWith (.ref l) (.ref b) .none) (fun fin s' => ∃ v, fin = Fin.done (Flow.ret v) ∧ R (Except.ok (Flow.ret v)) s') (fun e s' => R (Except.error e) s') s := fun T hT e => by
      unfold Builtin.List.listExtendWith
      refine wpAny_bind (wpAny_typeOf (T := T) ⟨o, hb, hT⟩ ?_)
      rw [if_pos e]
      refine wpAny_bind ?_
      unfold Builtin.List.listItems
      refine wpAny_bind (wpAny_seqItems hb hd (wpAny_pure ?_))
      refine wpAny_bind (wpAny_bind (wpAny_seqItems hl rfl (wpAny_pure ?_)))
      dsimp only
      rw [if_neg hs0]
      refine wpAny_bind ?_
      show wpAny _ _ (updateSeq l (· ++ items2)) _ _ _
      refine wpAny_updateSeq hl rfl (hz := hs1) (_hz' := by rw [Array.size_append]; exact hs2) ?_
      exact wpAny_pure ⟨_, rfl, h⟩
    rcases hc with hc | hc
    · exact go "tuple" hc (by rw [show (Value.type "tuple" == .type "tuple") = true by decide +kernel, Bool.or_true])
    · exact go "list" hc (by rw [show (Value.type "list" == .type "list") = true by decide +kernel, Bool.or_true]; rfl)
def rExtA (K : PySem.W.Frag) : V → List V → Hp → VK → Prop := fun x vs H Q => ∃ l b xs zs, x = .ref l ∧ vs = [.ref b] ∧ H l = some (.lst xs) ∧ (SqL K H b zs ∨ SqT K H b zs) ∧ xs.length + zs.length ≤ sizeLine ∧ Q .non (upd H l (.lst (xs ++ zs)))
section
variable {X : Cx}
theorem mt_extA : MtM X "list.extend" (rExtA X.K) := by
  intro pins s σ H x vs v us Q I rx rv h
  obtain ⟨l, b, xs, zs, rfl, rfl, hH, hB, hz, q⟩ := h
  cases rx
  obtain ⟨u, rfl, ru⟩ := rv.one
  cases ru
  obtain ⟨z, its, n, r, hl, e⟩ := I.lstM hH
  have hb : ∃ (its2 : List Value) (o : Obj) (n2 : Nat), Vals zs its2 ∧ s.heap.get? b = some o ∧ (o.cls = .type "tuple" ∨ o.cls = .type "list") ∧ o.data = .seq its2.toArray n2 := by
    rcases hB with hB | hB
    · obtain ⟨its, r, ⟨o, n, e, a, _, d⟩, _⟩ := I.list hB
      exact ⟨its, o, n, r, e, .inr a, d⟩
    · obtain ⟨its, r, ⟨o, e, a, n, d⟩, _⟩ := I.tuple hB
      exact ⟨its, o, n, r, e, .inl a, d⟩
  obtain ⟨its2, o, n2, r2, e2, hc, hd⟩ := hb
  have hl2 := r2.length
  have hsz : its.toArray.size + its2.toArray.size ≤ sizeLine := by rw [List.size_toArray, List.size_toArray]; omega
  have hlong : ¬ (!its.toArray.isEmpty && Builtin.List.listTooLong (its.toArray.size + its2.toArray.size)) = true := by
    rw [notLongL hsz, Bool.and_false]
    exact Bool.false_ne_true
  refine call_meets F.slot_list_extend ⟨_, e, rfl⟩ F.entry_list_extend (F.args_list_extend_2 _ _)
    (ext_tup l its.toArray n b o its2.toArray n2 hc hd hlong (by rw [List.size_toArray]; omega) (by omega)) ⟨e, e2, ?_⟩
  refine ⟨.non, _, I.lset (its' := its ++ its2) hH e (by simp) (r.append r2) ?_, rfl, q⟩
  rw [List.length_append]
  omega
variable {k : Nat} {C : Addr} {m : Str} {ps : List Str} {sp : Sp} {o : Expr} {ta : TE} {pos apos : Pos}
/-- o.m() -/
theorem pe_mth0 {pl : Sem Bool} (F : MtC X.prog X.w X.K X.mg X.base CX0 k C m ps sp) (c : Cls X.K C) (hr : Room k X.A) (he : PE X o ta)
    (ht : eval (.Call (.Attribute o m apos) [] [] pos) X.env = (do
      let ov ← eval o X.env
      standAt apos.atName
      let (f, first) ← holding [ov] (getMethod ov m pl)
      callWith pos f first (backTo pos (starEach [] X.env)) (backToKw pos (keywordEach [] X.env))) := by rfl) :
    PE X (.Call (.Attribute o m apos) [] [] pos) (tMeth C m sp [] E0 ta tNil) := by
  obtain ⟨f, fd, hf, M, hb⟩ := F.ex
  exact pe_meth0 he c M hf hr hb .nil (fun _ _ _ _ _ _ _ z => (show False from z).elim) ht
end
end Kb

/-! ### the head by one run of the top, for texts with defaults and super(): the facts are looked at in the run -/
namespace Kb
open PySem PySem.Spec PyProof.Rows L2 ClX
/-- a def: where it stands, its name, qualified name, parameters, body, scope; mode: 1 says super(), 2 has defaults, 3 both -/
structure FY where
  at_ : PySem.W.Frag → Addr
  name : Str
  qual : Str
  st : Stmt
  mode : Nat
abbrev FyV : Type := Option (Str × Str × Arguments × FuncBody × Scope × Addr × Addr)
def FY.val (d : FY) : FyV := some (d.name, d.qual, defArgs d.st, .stmts (defBody d.st), defScope d.st, mainGlobals, builtinsNs)
def fyObs (K : PySem.W.Frag) (a : Addr) : FyV := match K.lookup a with
  | some ⟨_, _, .func fd, _⟩ => some (fd.name, fd.qualname, fd.params, fd.body, fd.scope, fd.globals, fd.builtins)
  | _ => none
def fyClo (m : Nat) (clo : List (Str × Addr)) (dV : Value) : Bool := (match m, clo with
  | 0, [] => true
  | 2, [] => true
  | 1, [(x, _)] => x == ("__class__" : Str)
  | 3, [(x, _)] => x == ("__class__" : Str)
  | _, _ => false) && (match m, dV with
  | 0, .none => true
  | 1, .none => true
  | 2, .ref _ => true
  | 3, .ref _ => true
  | _, _ => false)
def fyCode (K : PySem.W.Frag) (a : Addr) (q : Str) (m : Nat) : Bool := match K.lookup a with
  | some ⟨_, _, .func fd, _⟩ => PySem.W.codeIn K fd.code q && fyClo m fd.closure fd.defaults
  | _ => false
/-- the cell, the code, the defaults of a def -/
def fyCell (K : PySem.W.Frag) (a : Addr) : Addr := match K.lookup a with
  | some ⟨_, _, .func fd, _⟩ => (match fd.closure with
    | [(_, c)] => c
    | _ => 0)
  | _ => 0
def fyCda (K : PySem.W.Frag) (a : Addr) : Addr := match K.lookup a with
  | some ⟨_, _, .func fd, _⟩ => (match fd.code with
    | .ref c => c
    | _ => 0)
  | _ => 0
def fyDfl (K : PySem.W.Frag) (a : Addr) : Addr := match K.lookup a with
  | some ⟨_, _, .func fd, _⟩ => (match fd.defaults with
    | .ref c => c
    | _ => 0)
  | _ => 0
theorem fy_any {K : PySem.W.Frag} {d : FY} (seen : fyObs K (d.at_ K) = d.val) (coded : fyCode K (d.at_ K) d.qual d.mode = true) :
    ∃ cl di sl clo dV kw dc md an cv cm, K.lookup (d.at_ K) = some ⟨cl, di, .func (PySem.W.fnX d.name d.qual (defArgs d.st) (defBody d.st) (defScope d.st) clo dV kw dc md an cv cm), sl⟩ ∧ PySem.W.codeIn K cv d.qual = true ∧ fyClo d.mode clo dV = true := by
  unfold fyCode at coded
  unfold fyObs FY.val at seen
  split at coded
  · rename_i cl di fun_ sl here
    rw [here] at seen
    cases fun_ with
    | mk nm qn pa bo sc gl clo df kw dc md an cv cm bn =>
      have same := Option.some.inj seen
      simp only [Prod.mk.injEq] at same
      rcases same with ⟨rfl, rfl, rfl, rfl, rfl, rfl, rfl⟩
      obtain ⟨c1, c2⟩ := He.ba coded
      exact ⟨cl, di, sl, clo, df, kw, dc, md, an, cv, cm, here, c1, c2⟩
  · cases coded
theorem clo_e {clo : List (Str × Addr)} {dV : Value} {m : Nat} (hm : m = 0 ∨ m = 2) (h : fyClo m clo dV = true) : clo = [] := by
  obtain ⟨h1, _⟩ := He.ba h
  rcases hm with rfl | rfl <;> cases clo with
  | nil => rfl
  | cons x xs => cases h1
theorem clo_c {clo : List (Str × Addr)} {dV : Value} {m : Nat} (hm : m = 1 ∨ m = 3) (h : fyClo m clo dV = true) : ∃ c, clo = [(("__class__" : Str), c)] := by
  obtain ⟨h1, _⟩ := He.ba h
  rcases hm with rfl | rfl <;> (rcases clo with _ | ⟨⟨x, c⟩, _ | ⟨y, ys⟩⟩) <;> first | (cases h1; done) | exact ⟨c, by rw [eq_of_beq (show (x == ("__class__" : Str)) = true from h1)]⟩
theorem clo_n {clo : List (Str × Addr)} {dV : Value} {m : Nat} (hm : m = 0 ∨ m = 1) (h : fyClo m clo dV = true) : dV = .none := by
  obtain ⟨_, h1⟩ := He.ba h
  rcases hm with rfl | rfl <;> cases dV <;> first | rfl | (cases h1; done)
theorem clo_d {clo : List (Str × Addr)} {dV : Value} {m : Nat} (hm : m = 2 ∨ m = 3) (h : fyClo m clo dV = true) : ∃ c, dV = .ref c := by
  obtain ⟨_, h1⟩ := He.ba h
  rcases hm with rfl | rfl <;> cases dV <;> first | exact ⟨_, rfl⟩ | (cases h1; done)
theorem codeIn_ref {K : PySem.W.Frag} {cv : Value} {q : Str} (h : PySem.W.codeIn K cv q = true) : ∃ c, cv = .ref c := by
  unfold PySem.W.codeIn at h
  cases cv <;> first | exact ⟨_, rfl⟩ | (cases h; done)
theorem fy_ok {K : PySem.W.Frag} {d : FY} (hm : d.mode = 0) (seen : fyObs K (d.at_ K) = d.val) (coded : fyCode K (d.at_ K) d.qual d.mode = true) :
    ∃ cl di sl kw dc md an cv cm, K.lookup (d.at_ K) = some ⟨cl, di, .func (PySem.W.fnOf d.name d.qual (defArgs d.st) (defBody d.st) (defScope d.st) .none kw dc md an cv cm), sl⟩ ∧ PySem.W.codeIn K cv d.qual = true := by
  obtain ⟨cl, di, sl, clo, dV, kw, dc, md, an, cv, cm, h, hc, hd⟩ := fy_any seen coded
  have e1 := clo_e (.inl hm) hd
  have e2 := clo_n (.inl hm) hd
  subst e1 e2
  exact ⟨cl, di, sl, kw, dc, md, an, cv, cm, h, hc⟩
theorem fy_okD {K : PySem.W.Frag} {d : FY} (hm : d.mode = 2) (seen : fyObs K (d.at_ K) = d.val) (coded : fyCode K (d.at_ K) d.qual d.mode = true) :
    ∃ cl di sl kw dc md an cv cm, K.lookup (d.at_ K) = some ⟨cl, di, .func (PySem.W.fnOf d.name d.qual (defArgs d.st) (defBody d.st) (defScope d.st) (.ref (fyDfl K (d.at_ K))) kw dc md an cv cm), sl⟩ ∧ PySem.W.codeIn K cv d.qual = true := by
  obtain ⟨cl, di, sl, clo, dV, kw, dc, md, an, cv, cm, h, hc, hd⟩ := fy_any seen coded
  have e1 := clo_e (.inr hm) hd
  obtain ⟨T, e2⟩ := clo_d (.inl hm) hd
  subst e1 e2
  have e : fyDfl K (d.at_ K) = T := by unfold fyDfl; rw [h]
  rw [e]
  exact ⟨cl, di, sl, kw, dc, md, an, cv, cm, h, hc⟩
theorem fy_okS {K : PySem.W.Frag} {d : FY} (hm : d.mode = 1) (seen : fyObs K (d.at_ K) = d.val) (coded : fyCode K (d.at_ K) d.qual d.mode = true) :
    ∃ cl di sl kw dc md an cm, K.lookup (d.at_ K) = some ⟨cl, di, .func (PySem.W.fnX d.name d.qual (defArgs d.st) (defBody d.st) (defScope d.st) [("__class__", fyCell K (d.at_ K))] .none kw dc md an (.ref (fyCda K (d.at_ K))) cm), sl⟩ ∧ PySem.W.codeIn K (.ref (fyCda K (d.at_ K))) d.qual = true := by
  obtain ⟨cl, di, sl, clo, dV, kw, dc, md, an, cv, cm, h, hc, hd⟩ := fy_any seen coded
  obtain ⟨c, e1⟩ := clo_c (.inl hm) hd
  have e2 := clo_n (.inr hm) hd
  obtain ⟨a, e3⟩ := codeIn_ref hc
  subst e1 e2 e3
  have e : fyCell K (d.at_ K) = c := by unfold fyCell; rw [h]
  have e' : fyCda K (d.at_ K) = a := by unfold fyCda; rw [h]
  rw [e, e']
  exact ⟨cl, di, sl, kw, dc, md, an, cm, h, hc⟩
theorem fy_okE {K : PySem.W.Frag} {d : FY} (hm : d.mode = 3) (seen : fyObs K (d.at_ K) = d.val) (coded : fyCode K (d.at_ K) d.qual d.mode = true) :
    ∃ cl di sl kw dc md an cm, K.lookup (d.at_ K) = some ⟨cl, di, .func (PySem.W.fnX d.name d.qual (defArgs d.st) (defBody d.st) (defScope d.st) [("__class__", fyCell K (d.at_ K))] (.ref (fyDfl K (d.at_ K))) kw dc md an (.ref (fyCda K (d.at_ K))) cm), sl⟩ ∧ PySem.W.codeIn K (.ref (fyCda K (d.at_ K))) d.qual = true := by
  obtain ⟨cl, di, sl, clo, dV, kw, dc, md, an, cv, cm, h, hc, hd⟩ := fy_any seen coded
  obtain ⟨c, e1⟩ := clo_c (.inr hm) hd
  obtain ⟨T, e2⟩ := clo_d (.inr hm) hd
  obtain ⟨a, e3⟩ := codeIn_ref hc
  subst e1 e2 e3
  have e : fyCell K (d.at_ K) = c := by unfold fyCell; rw [h]
  have e' : fyCda K (d.at_ K) = a := by unfold fyCda; rw [h]
  have e'' : fyDfl K (d.at_ K) = T := by unfold fyDfl; rw [h]
  rw [e, e', e'']
  exact ⟨cl, di, sl, kw, dc, md, an, cm, h, hc⟩
abbrev AlY : Type := Bool × List FyV
def obsY (fs : List (PySem.W.Frag → Bool)) (fn : List FY) (K : PySem.W.Frag) : AlY := ((fs.all fun f => f K) && fn.all fun d => fyCode K (d.at_ K) d.qual d.mode, fn.map fun d => fyObs K (d.at_ K))
def valY (fn : List FY) : AlY := (true, fn.map FY.val)
def SaysY (fs : List (PySem.W.Frag → Bool)) (fn : List FY) (K : PySem.W.Frag) : Prop := obsY fs fn K = valY fn
/-- what an object of the text names -/
def refsY (o : Obj) : List Addr := match o.data with
  | .seq its _ => its.toList.flatMap He.refV
  | .dict es _ => es.toList.flatMap fun e => He.refV e.val
  | .func fd => He.refV fd.code ++ (He.refV fd.defaults ++ fd.closure.map Prod.snd)
  | .cls cd => [cd.ns]
  | .fields vs => vs.toList.flatMap He.refV
  | _ => []
def stepY (g : Addr → Option Obj) (as : List Addr) : List Addr := as.flatMap fun a => match g a with
  | some o => refsY o
  | none => []
def lvY (g : Addr → Option Obj) : Nat → List Addr → List Addr
  | 0, as => as
  | n + 1, as => as ++ lvY g n (stepY g as)
/-- an empty table of code objects -/
def isTabY (o : Option Obj) : Bool := match o with
  | some ⟨_, _, .fields vs, _⟩ => vs.isEmpty
  | _ => false
def asY (g : Addr → Option Obj) (n : Nat) : List Addr := (lvY g n [mainGlobals] ++ [cStatics]).filter fun a => !isTabY (g a)
section
variable {fs : List (PySem.W.Frag → Bool)} {fn : List FY} {K : PySem.W.Frag}
theorem SaysY.parts (z : SaysY fs fn K) : (∀ f ∈ fs, f K = true) ∧ (∀ d ∈ fn, fyCode K (d.at_ K) d.qual d.mode = true) ∧ ∀ d ∈ fn, fyObs K (d.at_ K) = d.val := by
  obtain ⟨zb, zl⟩ := Prod.mk.inj (show ((fs.all fun f => f K) && fn.all fun d => fyCode K (d.at_ K) d.qual d.mode, fn.map fun d => fyObs K (d.at_ K)) = (true, fn.map FY.val) from z)
  rw [Bool.and_eq_true, List.all_eq_true, List.all_eq_true] at zb
  exact ⟨zb.1, zb.2, fun d hd => List.map_inj_left.mp zl d hd⟩
theorem SaysY.fact (z : SaysY fs fn K) (i : Nat) {f : PySem.W.Frag → Bool} (h : fs[i]? = some f) : f K = true := z.parts.1 f (List.mem_iff_getElem?.mpr ⟨i, h⟩)
theorem SaysY.at_ (z : SaysY fs fn K) (i : Nat) {d : FY} (h : fn[i]? = some d) : fyObs K (d.at_ K) = d.val ∧ fyCode K (d.at_ K) d.qual d.mode = true :=
  have hd := List.mem_iff_getElem?.mpr ⟨i, h⟩
  ⟨z.parts.2.2 d hd, z.parts.2.1 d hd⟩
end
/-- a text, a number, a tuple of texts of the module -/
def strB (K : PySem.W.Frag) (x z : Str) : Bool := match PySem.W.nsIn K mainGlobals x with
  | some (some (.str y _)) => decide (y = z)
  | _ => false
theorem strB_ok {K : PySem.W.Frag} {x z : Str} (h : strB K x z = true) : ∃ t, PySem.W.nsIn K mainGlobals x = some (some (.str z t)) := by
  unfold strB at h
  split at h
  · rename_i y t e; rw [e, of_decide_eq_true h]; exact ⟨t, rfl⟩
  · cases h
def intB (K : PySem.W.Frag) (x : Str) (i : Int) : Bool := match PySem.W.nsIn K mainGlobals x with
  | some (some (.int j _)) => decide (j = i)
  | _ => false
theorem intB_ok {K : PySem.W.Frag} {x : Str} {i : Int} (h : intB K x i = true) : ∃ t, PySem.W.nsIn K mainGlobals x = some (some (.int i t)) := by
  unfold intB at h
  split at h
  · rename_i y t e; rw [e, of_decide_eq_true h]; exact ⟨t, rfl⟩
  · cases h
def isStrs : List Str → List Value → Bool
  | [], [] => true
  | z :: zs, .str y _ :: vs => decide (z = y) && isStrs zs vs
  | _, _ => false
theorem isStrs_ok : ∀ {zs : List Str} {vs : List Value}, isStrs zs vs = true → Vals (zs.map V.str) vs
  | [], [], _ => .nil
  | [], _ :: _, h => by cases h
  | _ :: _, [], h => by cases h
  | z :: zs, v :: vs, h => by
    cases v <;> first
      | (cases h; done)
      | (rename_i y t
         obtain ⟨h1, h2⟩ := He.ba (show (decide (z = y) && isStrs zs vs) = true from h)
         have e := of_decide_eq_true h1
         subst e
         exact .cons ⟨t, rfl⟩ (isStrs_ok h2))
/-- what a def that says super() must have -/
def supB (K : PySem.W.Frag) (D f : Addr) (main : Str) : Bool := (match K.lookup (fyCda K f) with
    | some ⟨_, _, .fields vs, _⟩ => (match vs[2]? with
      | some (Value.str file _) => main == file
      | _ => false)
    | _ => false) && ((match K.lookup (fyCell K f) with
    | some ⟨_, _, .cell (some (.ref E)), _⟩ => decide (E = D)
    | _ => false) && (decide (PySem.W.nsIn K PySem.cStatics "thirdparty.any" = some none) && ((PySem.W.clsIn K D).isSome && decide (PySem.W.mroIn K D (.ref D) = some true))))
theorem supB_ok {P : Program} {K : PySem.W.Frag} {mg : Str → Option Value} {D f : Addr} (top : (P.main.scope.names.lookup ("super" : Str)).isSome = false) (hm : mg "super" = none) (h : supB K D f P.main.file = true) : SupK P K mg D f (fyCda K f) (fyCell K f) := by
  unfold supB at h
  obtain ⟨h1, h⟩ := He.ba h
  obtain ⟨h2, h⟩ := He.ba h
  obtain ⟨h3, h⟩ := He.ba h
  obtain ⟨h4, h5⟩ := He.ba h
  refine ⟨?_, ?_, top, hm, of_decide_eq_true h3, Option.isSome_iff_exists.mp h4, of_decide_eq_true h5⟩
  · split at h1
    · rename_i a b vs c e
      split at h1
      · rename_i file t e2
        exact ⟨a, b, vs, c, file, t, e, e2, h1⟩
      · cases h1
    · cases h1
  · split at h2
    · rename_i a b E c e
      rw [← of_decide_eq_true h2]
      exact ⟨a, b, c, e⟩
    · cases h2
/-- the one default, the empty tuple -/
def dfl0 (K : PySem.W.Frag) (f : Addr) : Addr := tupRef K (fyDfl K f) 0
def isE : List Value → Bool
  | [] => true
  | _ => false
def dflB (K : PySem.W.Frag) (f : Addr) : Bool := tupB K (fyDfl K f) isRef1 && tupB K (dfl0 K f) isE
theorem dflB_tup {K : PySem.W.Frag} {f : Addr} (h : dflB K f = true) : ∃ o n s, K.lookup (dfl0 K f) = some ⟨.type "tuple", o, .seq #[] n, s⟩ := by
  obtain ⟨_, h⟩ := He.ba h
  obtain ⟨o, n, s, e, p⟩ := tupB_ok h
  have : tupIt K (dfl0 K f) = [] := by
    revert p; generalize tupIt K (dfl0 K f) = l
    intro p
    cases l with
    | nil => rfl
    | cons _ _ => cases p
  rw [this] at e
  exact ⟨o, n, s, e⟩
theorem dflB_ok {K : PySem.W.Frag} {f : Addr} (h : dflB K f = true) : DflV K (.ref (fyDfl K f)) [.ref (dfl0 K f)] := by
  obtain ⟨h, _⟩ := He.ba h
  obtain ⟨o, n, s, e, p⟩ := tupB_ok h
  have : tupIt K (fyDfl K f) = [.ref (dfl0 K f)] := by
    unfold dfl0 tupRef
    revert p; generalize tupIt K (fyDfl K f) = l
    intro p
    match l, p with
    | [.ref x], _ => rfl
  rw [this] at e
  exact .inr ⟨by simp, fyDfl K f, _, [.ref (dfl0 K f)], n, rfl, e, rfl, .cons rfl .nil⟩
theorem dflB_sq {K : PySem.W.Frag} {f : Addr} (h : dflB K f = true) (H : Hp) : SqT K H (dfl0 K f) [] := by
  obtain ⟨o, n, s, e⟩ := dflB_tup h
  exact .inr ⟨_, #[], n, e, rfl, rfl, by decide, .nil⟩
/-- an ordinary class -/
def insB (K : PySem.W.Frag) (C : Addr) : Bool := PySem.W.plainGet K C Str.empty && (PySem.W.hasDictIn K C && (PySem.W.plainOver K C && (decide (PySem.W.findIn K (.ref C) "__setattr__" = some (some (.builtin "object.__setattr__"))) && (decide (PySem.W.findIn K (.ref C) "__class__" = some (some (.builtin "object.__class__"))) &&
  (decide (PySem.W.specialIn K (.builtin "object.__class__") "__get__" = some (some (.builtin "getset_descriptor.__get__"))) && (decide (PySem.W.takesIn K (.builtin "object.__class__") = some true) && decide (PySem.W.mroIn K C (.type "object") = some true)))))))
theorem insB_ok {K : PySem.W.Frag} {C : Addr} (h : insB K C = true) : C8.InsC K C := by
  unfold insB at h
  obtain ⟨h1, h⟩ := He.ba h
  obtain ⟨h2, h⟩ := He.ba h
  obtain ⟨h3, h⟩ := He.ba h
  obtain ⟨h4, h⟩ := He.ba h
  obtain ⟨h5, h⟩ := He.ba h
  obtain ⟨h6, h⟩ := He.ba h
  obtain ⟨h7, h8⟩ := He.ba h
  exact ⟨⟨h1, h2, h3, of_decide_eq_true h4⟩, of_decide_eq_true h5, of_decide_eq_true h6, of_decide_eq_true h7, of_decide_eq_true h8, kit_self _ _ (beq_self_eq_true _)⟩
/-- .. and how it is made -/
def mkB (K : PySem.W.Frag) (C f : Addr) : Bool := PySem.W.makesIn K C && (decide (PySem.W.findIn K (.ref C) "__init__" = some (some (.ref f))) && (PySem.W.isFn K (.ref f) && PySem.W.keepIn K (.ref C)))
theorem mkB_ok {K : PySem.W.Frag} {C f : Addr} (h : mkB K C f = true) : Mk K C f := by
  unfold mkB at h
  obtain ⟨h1, h⟩ := He.ba h
  obtain ⟨h2, h⟩ := He.ba h
  obtain ⟨h3, h4⟩ := He.ba h
  exact ⟨h1, of_decide_eq_true h2, h3, h4⟩
def mtB (K : PySem.W.Frag) (C : Addr) (m : Str) (f : Addr) : Bool := decide (PySem.W.findIn K (.ref C) m = some (some (.ref f))) && (PySem.W.isFn K (.ref f) && PySem.W.keepIn K (.ref f))
theorem mtB_ok {K : PySem.W.Frag} {C f : Addr} {m : Str} (h : mtB K C m f = true) : Meth K C m f := by
  unfold mtB at h
  obtain ⟨h1, h⟩ := He.ba h
  obtain ⟨h2, h3⟩ := He.ba h
  exact ⟨of_decide_eq_true h1, h2, h3⟩
def supMB (K : PySem.W.Frag) (D : Addr) (m : Str) (f : Addr) : Bool := decide (PySem.W.ks_superIn K D D m = some (some (.ref f))) && (decide (PySem.W.typeIn K (.ref f) = some (.type "function")) && PySem.W.fnIn K f)
theorem supMB_ok {K : PySem.W.Frag} {D f : Addr} {m : Str} (h : supMB K D m f = true) : SupM K D m f := by
  unfold supMB at h
  obtain ⟨h1, h⟩ := He.ba h
  obtain ⟨h2, h3⟩ := He.ba h
  exact ⟨of_decide_eq_true h1, of_decide_eq_true h2, h3⟩
end Kb

/-! ### an own instance that an expression makes, called -/
namespace Kb
open PySem PySem.Spec PyProof.Rows L2 ClX
section
variable {X : Cx} {CX : CXT} {k : Nat} {x : Str} {C : Addr} {ps : List Str} {sp : Sp} {E : L2.St → XK} {W : WX} {e e0 : Expr} {es : List Expr} {t0 : TE} {t : TA} {p pos : Pos}
end
end Kb

/-! ### a tuple taken no times, once, or often -/
namespace Kb
open PySem PySem.Spec PyProof.Rows L2
theorem same_upd {H : Hp} {p : Addr} {o : HO} (h : H p = none) : Same H (upd H p o) := fun b u e => by rw [upd_ne (fun q => by rw [q, h] at e; cases e)]; exact e
section
variable {X : Cx}
end
end Kb

/-! ### zip of a text and a list -/
namespace Kb
open PySem PySem.Spec PyProof.Rows L2
end Kb

/-! ### the head by one run of the top (Kb32), with dicts of the module that have text keys -/
namespace Kb
open PySem PySem.Spec PyProof.Rows L2 ClX
/-- a table: where it stands, its keys in order -/
abbrev TabU : Type := (PySem.W.Frag → Addr) × List Str
abbrev AlU : Type := AlY × List (Option (List (Option (Str × Int))))
def obsU (fs : List (PySem.W.Frag → Bool)) (fn : List FY) (ts : List TabU) (K : PySem.W.Frag) : AlU := (obsY fs fn K, ts.map fun t => He.dicW K (t.1 K))
def valU (fn : List FY) (ts : List TabU) (w : World) : AlU := (valY fn, ts.map fun t => some (He.keysIn w.params t.2))
def SaysU (fs : List (PySem.W.Frag → Bool)) (fn : List FY) (ts : List TabU) (w : World) (K : PySem.W.Frag) : Prop := obsU fs fn ts K = valU fn ts w
def obsUG (n : Nat) (fs : List (PySem.W.Frag → Bool)) (fn : List FY) (ts : List TabU) (g : Addr → Option Obj) : AlU := obsU fs fn ts (He.frG g (asY g n))
def hookU (n : Nat) (fs : List (PySem.W.Frag → Bool)) (fn : List FY) (ts : List TabU) : PySem.W.Hook :=
  ⟨AlU, fun s => obsUG n fs fn ts s.heap.get?, fun w => valU fn ts w, fun w h => ∃ F : PySem.W.Frag, F.In h ∧ SaysU fs fn ts w F, fun _ s z => ⟨He.frG s.heap.get? (asY s.heap.get? n), He.frG_in, z⟩, fun _ _ _ said more => said.elim fun F z => ⟨F, PySem.W.Frag.In.keeps z.1 more, z.2⟩⟩
theorem obsUG_eq {n : Nat} {fs : List (PySem.W.Frag → Bool)} {fn : List FY} {ts : List TabU} {g : Addr → Option Obj} {s : Shared} (h : ∀ a, g a = s.heap.get? a) : obsUG n fs fn ts g = (hookU n fs fn ts).obs s := congrArg (obsUG n fs fn ts) (funext h)
section
variable {fs : List (PySem.W.Frag → Bool)} {fn : List FY} {ts : List TabU} {w : World} {K : PySem.W.Frag}
theorem SaysU.d (c : SaysU fs fn ts w K) : SaysY fs fn K := congrArg (fun z : AlU => z.1) c
theorem SaysU.tab (c : SaysU fs fn ts w K) (i : Nat) {t : TabU} (h : ts[i]? = some t) : ∃ es n, KDict K w (t.1 K) es n := by
  have e : ts.map (fun t => He.dicW K (t.1 K)) = ts.map fun t => some (He.keysIn w.params t.2) := congrArg (fun z : AlU => z.2) c
  have e2 : (ts.map fun t => He.dicW K (t.1 K))[i]? = (ts.map fun t => some (He.keysIn w.params t.2))[i]? := by rw [e]
  rw [List.getElem?_map, List.getElem?_map, h] at e2
  exact He.dicW_ok (Option.some.inj e2)
/-- the run looked at in parts, the tables beside -/
theorem zpartsU {S B : Type} {X : Option S} {lk : S → Bool} {sn : S → B} {Kf : S → PySem.W.Frag} {good : B} (h : X.map (fun s => (lk s, sn s, obsY fs fn (Kf s))) = some (true, good, valY fn))
    (h4 : X.map (fun s => ts.map fun t => He.dicW (Kf s) (t.1 (Kf s))) = some (ts.map fun t => some (He.keysIn w.params t.2))) : X.map (fun s => (lk s, sn s, obsU fs fn ts (Kf s))) = some (true, good, valU fn ts w) := by
  cases X with
  | none => cases h
  | some s =>
    have e := Prod.mk.inj (Option.some.inj h)
    have e' := Prod.mk.inj e.2
    have e4 : (ts.map fun t => He.dicW (Kf s) (t.1 (Kf s))) = (ts.map fun t => some (He.keysIn w.params t.2)) := Option.some.inj h4
    show some (lk s, sn s, obsU fs fn ts (Kf s)) = _
    unfold obsU valU
    rw [e.1, e'.1, e'.2, e4]
end
/-! a text as a key is hashed by its `__hash__`, looked up where a parameter of the world tells what is dropped: the run is made for both -/
def setF (w : World) (b : Bool) : World := { w with params := { w.params with followText := fun s => if s = "special-get-raises" then b else w.params.followText s } }
theorem setF_eq (w : World) {b : Bool} (h : w.params.followText "special-get-raises" = b) : setF w b = w := by
  obtain ⟨p, q⟩ := w
  have e : (fun s => if s = "special-get-raises" then b else q.followText s) = q.followText := funext fun s => by
    by_cases c : s = "special-get-raises"
    · rw [if_pos c, c]; exact h.symm
    · rw [if_neg c]
  show World.mk p { q with followText := fun s => if s = "special-get-raises" then b else q.followText s } = _
  rw [e]
theorem byF {P : World → Prop} (h1 : ∀ w, P (setF w true)) (h2 : ∀ w, P (setF w false)) (w : World) : P w := by
  cases h : w.params.followText "special-get-raises" with
  | true => have := h1 w; rwa [setF_eq w h] at this
  | false => have := h2 w; rwa [setF_eq w h] at this
end Kb

/-! ### a lambda handed to a def that calls it in a try: what it raises is told at that def's slots -/
namespace Kb
open PySem PySem.Spec PyProof.Rows L2 LamX
/-- the context of the def that got the lambda, as it is entered from X -/
abbrev GCx (X : Cx) (Ng : List Str) (q : Str) (sg : Scope) (g : Addr) (cdg : Value) (s : Shared) (H : Hp) : Cx :=
  cxOf C8.CX0 X.prog X.w X.K X.mg X.base Ng q sg g cdg X.A X.stack s H C8.E0
/-- the lambda's object at f, its code at c' -/
structure LamAt (X : Cx) (H : Hp) (s : Shared) (params : Arguments) (body : Expr) (scope : Scope) (f c' : Addr) : Prop where
  ob : ∃ pm ctv, s.heap.get? f = some (PySem.W.kla_obj "<lambda>" (X.env.qual ++ "<lambda>") params body scope (cloFrom X.env.cells scope.names []) pm c' ctv)
  new : H f = none
  nf : f ∉ frs X.stack
/-- a lambda without parameters binds nothing -/
def LamB (params : Arguments) (body : Expr) (scope : Scope) : Prop := ∀ (q : Str) (cl : List (Str × Addr)) (pm cv ctv : Value), bindArgs (PySem.W.kla_fn "<lambda>" q params body scope cl pm cv ctv) ⟨[], []⟩ = pure []
def tAct (i : Nat) (f c' : Addr) (q : Str) (tl : XK → Hp → VK → Prop) (W : WX) : TE := fun σ H Q => σ[i]? = some (some (.ref f)) ∧ H c' = some (CodeO c' q) ∧ tl (WE W σ) H Q
section
variable {X : Cx} {pins : List (Addr × Obj)} {σ : L2.St} {H : Hp} {s : Shared}
theorem pe_actS {Ng : List Str} {qg : Str} {sg : Scope} {g f c' : Addr} {cdg : Value} {params : Arguments} {body : Expr} {scope : Scope} {k i : Nat} {a : Str} {pn : List (Addr × Obj)} {xe : Value → Shared → Prop} {W : WX} {t : XK → TE} {p1 p2 : Pos}
    (I : Inv X pins σ H s) (L : LamS X.env.scope scope) (la : LamAt X H s params body scope f c') (lb : LamB params body scope) (tk : Takes ((GCx X Ng qg sg g cdg s H).tr pn xe) W)
    (hr : Room (k + 1) (X.A.deeper (envOfC qg sg s.heap.objs.size g cdg)))
    (hbody : ∀ (A : Around) (outer : List Env) (s : Shared) (H : Hp) (E : XK) (f c' : Addr), Room k (A.deeper (lamEnv X scope s.heap.objs.size f c')) → PE (lamCx X A outer s H E scope f c') body (t E))
    (hN : Ng[i]? = some a) (hv : Vis sg a) (hd : (a == ("__debug__" : Str)) = false) (hcd : (a == ("__classdict__" : Str)) = false) :
    PE ((GCx X Ng qg sg g cdg s H).tr pn xe) (.Call (.Name a p1) [] [] p2) (tAct i f c' (X.env.qual ++ "<lambda>") (fun E H' Q' => t E σ H' Q') W) := by
  obtain ⟨⟨pm, ctv, hob⟩, hnew, hnf⟩ := la
  refine ⟨fun pz sz τ Hz Q J told => ?_⟩
  obtain ⟨slot, coded, rest⟩ := told
  have first := (pe_var (X := (GCx X Ng qg sg g cdg s H).tr pn xe) (pos := p1) (i := i) hN hv hd hcd).run pz sz τ Hz (fun v H1 => v = .ref f ∧ H1 = Hz) J ⟨.ref f, slot, rfl, rfl⟩
  refine wpAny_Call_Name_kw (thn first fun u s1 ⟨v, H1, J1, rv, ev, eH⟩ => ?_)
  subst ev eH
  obtain rfl : u = Value.ref f := rv
  have here := J1.base.keep f _ hob hnew hnf (fun z => nomatch (show f ∈ ([] : List Addr) from z))
  have ran : codeAny (model X.prog X.w) (X.A.deeper (envOfC qg sg s.heap.objs.size g cdg)) (.call (.ref f) ⟨[], []⟩) (CR (L2.CX X.prog X.w) (envOfC qg sg s.heap.objs.size g cdg :: X.stack) X.prog X.w H1 s1 Q (WE W τ)) s1 := by
    obtain ⟨⟨oc, vs, tt, k1, k2, k3⟩, _, _⟩ := J1.hok c' _ coded
    have unch : Un (frs X.stack) [] H H1 s.heap s1.heap := J1.base
    refine PySem.W.kla_callFunE hr.depth here rfl L.co L.gen rfl ⟨c', oc, vs, tt, rfl, k1, k2, k3⟩ ?_
    rw [lb]
    refine wpAny_pure (wpAny_newFunctionEnv (fun y hy => (L.own y hy).2) (fun y hy => absurd hy (by simp)) (fun h₁ hns hsb => ⟨J1.nolimit.fresh _ hsb, ?_⟩) L.kind)
    have stays : ∀ b o, s1.heap.get? b = some o → h₁.get? b = some o := fun b o e => hsb.extBut b o (Nat.ne_of_lt (Heap.lt_size e)) (Heap.get?_push_of_some _ e)
    have start := lam_start2 (E := WE W τ) (f := f) (c' := c') (tk := s1.toks + ([] : List (Str × Value)).length) I L J1.env0 hr.hd unch hns stays
    refine PySem.W.kla_codeExpr (wpAny_mono ((hbody _ _ s1 H1 (WE W τ) f c' (hr.deeper _)).run [] _ _ H1 Q start rest) (fun v s' hq => ?_) fun e s' hq => hq)
    obtain ⟨v', H', J', rr, q⟩ := hq
    exact ⟨v', H', J'.os, J'.bare, J'.base, J'.hok, rr, q⟩
  refine PySem.W.callWith_F0 ⟨_, _, _, _, here⟩ (wpAny_call (codeAny_mono ran fun r s' hq => ?_))
  · rcases r with e | fl
    · exact passAt tk τ pz H1 s1 e s' J1 hq
    · rcases fl with u | _ | _ | _
      · exact False.elim hq
      · exact False.elim hq
      · exact False.elim hq
      · exact J1.after hq
end
/-- a def of one parameter that calls it; TT: what it makes of the lambda's reading -/
structure LamD (P : Program) (w : World) (K : PySem.W.Frag) (mg : Str → Option Value) (base : Heap) (k : Nat) (x a : Str) (TT : (XK → Hp → VK → Prop) → Hp → VK → Prop) : Prop where
  ex : ∃ (g : Addr) (st : Stmt) (fd : FuncData) (N : List Str), Fun K x x st g fd ∧ FnScope N [a] (defScope st) ∧ mg x = some (.ref g) ∧ PySem.W.keepIn K (.ref g) = true ∧ L2.Binds K fd [a] [] ∧ N[0]? = some a ∧ Vis (defScope st) a ∧
    ∀ (cdv : Value) (A : Around) (outer : List Env) (s : Shared) (H : Hp) (f c' : Addr) (q : Str) (Q : VK) (tl : XK → Hp → VK → Prop), Room k (A.deeper (envOfC x (defScope st) s.heap.objs.size g cdv)) →
      (∀ (W : WX) (pn : List (Addr × Obj)) (xe : Value → Shared → Prop) (p1 p2 : Pos), Takes ((cxOf C8.CX0 P w K mg base N x (defScope st) g cdv A outer s H C8.E0).tr pn xe) W → PE ((cxOf C8.CX0 P w K mg base N x (defScope st) g cdv A outer s H C8.E0).tr pn xe) (.Call (.Name a p1) [] [] p2) (tAct 0 f c' q tl W)) →
      H c' = some (CodeO c' q) → TT tl H Q → ∃ t, PSs (cxOf C8.CX0 P w K mg base N x (defScope st) g cdv A outer s H C8.E0) (defBody st) t ∧ t { nx := fun _ H' => Q .non H', rt := Q } (L2.start N [.ref f]) H
/-- x(lambda: body) -/
theorem pe_lamS {X : Cx} {TT : (XK → Hp → VK → Prop) → Hp → VK → Prop} {x a : Str} {c P : Addr} {k m : Nat} {params : Arguments} {body : Expr} {scope : Scope} {t : XK → TE} {p lpos pos : Pos} (D : LamD X.prog X.w X.K X.mg X.base (k + 1) x a TT)
    (hg : Gl X x) (TB : TabB X.base X.mg c P) (hcode : X.env.code = .ref c) (hr : Room (k + 2) X.A) (hr2 : m ≤ k) (L : LamS X.env.scope scope) (hdef : defaultsOf params X.env = ([], [])) (lb : LamB params body scope)
    (hbody : ∀ (A : Around) (outer : List Env) (s : Shared) (H : Hp) (E : XK) (f c' : Addr), Room m (A.deeper (lamEnv X scope s.heap.objs.size f c')) → PE (lamCx X A outer s H E scope f c') body (t E))
    (hdb : (x == ("__debug__" : Str)) = false := by decide) (hd : (a == ("__debug__" : Str)) = false := by decide) (hcd : (a == ("__classdict__" : Str)) = false := by decide) :
    PE X (.Call (.Name x p) [.Lambda params body scope lpos] [] pos) (tLam [(P, X.env.qual ++ "<lambda>")] TT t) := by
  obtain ⟨g, st, fd, N, F, S, hm, hk, hb, hN, hv, gives⟩ := D.ex
  obtain ⟨oc, od, kV, doc, pm, an, cdv, ct, osl, rfl, lk, hcd'⟩ := F.ex
  refine ⟨fun pins s σ H Q I ⟨tabs, told⟩ => ?_⟩
  have arg : wpAny (model X.prog X.w) X.A (eval (.Lambda params body scope lpos) X.env) (fun u s' => wpAny (model X.prog X.w) X.A (call (.ref g) [u]) (EP X pins σ Q) X.xe s' ∧ X.K.In s'.heap) X.xe s := by
    refine lam_make2 I TB hcode (.head _) (fun p hp _ => by rw [List.mem_singleton.mp hp]) tabs hdef (L.has I.ok) fun f c' pm' ctv H1 s' I1 grown tabs1 hob hnew hnf coded => ⟨?_, I1.kIn⟩
    have ran : codeAny (model X.prog X.w) X.A (.call (.ref g) ⟨[.ref f], []⟩) (CR C8.CX0 X.stack X.prog X.w H1 s' Q C8.E0) s' := by
      refine run_ofS (k := k + 1) (N := N) (ps := [a]) (us := [.ref f]) (vs := [.ref f]) lk hcd' S hr I1.env0 (hb s' [.ref f] I1.kIn rfl) (.cons rfl .nil) rfl fun room => ?_
      exact gives cdv X.A X.stack s' H1 f c' _ Q (fun E H' Q' => t E σ H' Q') room (fun W pn xe p1 p2 tk => pe_actS (i := 0) I1 L ⟨⟨pm', ctv, hob⟩, hnew, hnf⟩ lb tk room (fun A outer s H E f c' r3 => hbody A outer s H E f c' (r3.mono hr2)) hN hv hd hcd) coded (told H1 grown tabs1)
    refine wpAny_call (codeAny_mono ran fun r s2 hq => ?_)
    rcases r with e | fl
    · exact (show False from hq).elim
    · rcases fl with _ | _ | _ | u
      · exact False.elim hq
      · exact False.elim hq
      · exact False.elim hq
      · exact I1.after hq
  refine wpAny_Call_Name_kw (ld_glob I hg hm ?_ hdb)
  refine PySem.W.callWith_K (h₀ := X.base) I.ok.mod.kin hk ?_ (by rfl) (by rfl)
  show wpAny _ _ (spliced ((false, eval (.Lambda params body scope lpos) X.env) :: backTo pos (starEach [] X.env))) _ _ s
  refine Calls.spliced_cons (wpAny_mono arg (fun u s' hq => ?_) fun _ _ h => h)
  exact Calls.spliced_nil ⟨hq.2, hq.1⟩
/-! ### a law's def that makes lambdas: its code object and the table of it -/
def tabB (K : PySem.W.Frag) (x : Str) : Bool := match PySem.W.tabIn K x with
  | some (c, P) => PySem.W.codeHdIn K c P && (K.lookup P).isNone
  | none => false
structure LawTab (K : PySem.W.Frag) (x : Str) (c P : Addr) : Prop where
  tab : PySem.W.tabIn K x = some (c, P)
  no : K.lookup P = none
theorem tabB_ok {K : PySem.W.Frag} {x : Str} (h : tabB K x = true) : ∃ c P, LawTab K x c P := by
  unfold tabB at h
  split at h
  · rename_i c P e
    exact ⟨c, P, e, Option.isNone_iff_eq_none.mp (Bool.and_eq_true_iff.mp h).2⟩
  · cases h
section
variable {P : Program} {w : World} {K : PySem.W.Frag} {mg : Str → Option Value} {base : Heap} {k : Nat} {f c : Addr} {name qual : Str} {N ps : List Str} {sp : Sp} {st : Stmt} {fd : FuncData}
end
theorem law_codeT {K : PySem.W.Frag} {h : Heap} {mg : Str → Option Value} {x : Str} {c P fa : Addr} {o : Obj} {fd : FuncData} (X : K.In h) (G : h.Ns mainGlobals mg) (T : LawTab K x c P) (hm : mg x = some (.ref fa)) (lk : K.lookup fa = some o) (hd : o.data = .func fd) : fd.code = .ref c := PySem.W.law_code X G T.tab hm (X _ _ lk) hd
end Kb

/-! ### xs[::e], e one or minus one; an own operator that may raise -/
namespace Kb
open PySem PySem.Spec PyProof.Rows L2 ClX
section
variable {X : Cx}
end
end Kb
namespace Kb
open PySem PySem.Spec PyProof.Rows L2 ClX
end Kb

/-! ### == of tuples whose items have an own ==, whatever it answers -/
namespace Kb.EB
open PySem PySem.SeqAt PySem.Spec PyProof.Rows
open AutoSeq1 (wpAny_loadPart')
open MeetsSeq MeetsSeq2 MeetsSeq3 SeqRoads2
section
variable {prog : Program} {w : World} {A : Around} {R : Result → Shared → Prop}
theorem tuple_eqB (l b : Addr) (xs ys : Array Value) (m1 m2 : Nat) (dx dy : Option Addr) (sx sy : Array (Option Value)) (e : Nat → Bool) (I : Nat → Shared → Prop)
    (turn : ∀ i (h1 : i < xs.size) (h2 : i < ys.size) s, I i s → wpAny (model prog w) A.in1 (eqBool xs[i] ys[i]) (fun r s' => r = e i ∧ (e i = true → I (i + 1) s') ∧ (e i = false → R (.ok (.ret (.bool false))) s')) (fun e s' => R (.error e) s') s)
    (fin : ∀ s, I (min xs.size ys.size) s → R (.ok (.ret (.bool (xs.size == ys.size)))) s) {s : Shared}
    (gx : s.heap.get? l = some { cls := .type "tuple", dict := dx, data := .seq xs m1, slots := sx }) (gy : s.heap.get? b = some { cls := .type "tuple", dict := dy, data := .seq ys m2, slots := sy }) (inv : I 0 s) :
    wpAny (model prog w) A.in1 (Builtin.«tuple.__eq__» ⟨[.ref l, .ref b], []⟩) (GQ.FinOf prog w A R) (fun e s' => R (.error e) s') s := by
  have kd := AutoSeq1.sub_tuple_tuple
  have zz : (xs.toList.zip ys.toList).length = min xs.size ys.size := by simp
  have inv0 := inv
  obtain ⟨hp, gn, dr, tk, os⟩ := s
  wp_walk using wpAny_loadPart' gx, wpAny_loadPart' gy, wpAny_forIn_list _ (fun todo z t => z.1 = none ∧ ∃ i, todo = (xs.toList.zip ys.toList).drop i ∧ i ≤ min xs.size ys.size ∧ I i t) _
  case turn =>
    rintro ⟨y, x⟩ todo z t ⟨ez, i, et, hi, iv⟩
    have lz : i < (xs.toList.zip ys.toList).length := by
      rcases Nat.lt_or_ge i (xs.toList.zip ys.toList).length with q | q
      · exact q
      · rw [List.drop_of_length_le q] at et; cases et
    have lm : i < min xs.size ys.size := zz ▸ lz
    have l1 : i < xs.size := by omega
    have l2 : i < ys.size := by omega
    rw [List.drop_eq_getElem_cons lz] at et
    injection et with exy er
    have ey : y = xs[i] := by have := congrArg Prod.fst exy; simpa using this
    have ex : x = ys[i] := by have := congrArg Prod.snd exy; simpa using this
    subst ey ex
    refine wpAny_bind (wpAny_mono (turn i l1 l2 t iv) (fun r t2 q => ?_) fun _ _ x => x)
    obtain ⟨e1, q1, q2⟩ := q
    subst e1
    cases he : e i with
    | true =>
      have q1 := q1 he
      wp_walk
      exact ⟨rfl, i + 1, er, lm, q1⟩
    | false =>
      have q2 := q2 he
      wp_walk
      exact q2
  case fin =>
    rintro ⟨z1, z2⟩ t ⟨ez, i, et, hi, iv⟩
    simp only at ez
    subst ez
    have ge : min xs.size ys.size ≤ i := by
      rcases Nat.lt_or_ge i (xs.toList.zip ys.toList).length with q | q
      · rw [List.drop_eq_getElem_cons q] at et; cases et
      · exact zz ▸ q
    have ei : i = min xs.size ys.size := by omega
    have done : R (.ok (.ret (.bool (xs.size == ys.size)))) t := fin t (ei ▸ iv)
    wp_walk
    simpa [Builtin.Tuple.tupleCompareSizes] using done
  case h =>
    exact ⟨rfl, 0, rfl, Nat.zero_le _, inv0⟩
end
section
variable {prog : Program} {w : World} {A : Around} {E : Value → Shared → Prop} {s : Shared}
theorem rc_tupB {l b : Addr} {xs ys : Array Value} {Q : Value → Shared → Prop} (hu : A.units < cLine) (e : Nat → Bool) (I : Nat → Shared → Prop) (hl : s.heap.IsTuple l xs) (hb : s.heap.IsTuple b ys)
    (turn : ∀ i (h1 : i < xs.size) (h2 : i < ys.size) s, I i s → wpAny (model prog w) A.in1 (eqBool xs[i] ys[i]) (fun r s' => r = e i ∧ (e i = true → I (i + 1) s') ∧ (e i = false → Q (.bool false) s')) E s) (fin : ∀ s, I (min xs.size ys.size) s → Q (.bool (xs.size == ys.size)) s) (h : I 0 s) : wpAny (model prog w) A (richCompare .Eq (.ref l) (.ref b)) Q E s := by
  obtain ⟨⟨c1, d1, a1, s1⟩, g1, e1, n1, k1⟩ := id hl
  obtain ⟨⟨c2, d2, a2, s2⟩, g2, e2, n2, k2⟩ := id hb
  simp only at e1 k1 e2 k2
  subst e1 k1 e2 k2
  refine wpAny_richCompare_same_room (op := .Eq) ⟨_, g1, rfl⟩ ⟨_, g2, rfl⟩ F.slot_tuple_eq (GQ.call_here F.slot_tuple_eq ⟨_, g1, rfl⟩ F.entry_tuple_eq (F.args_tuple_eq_2 _ _) ?_) hu
  refine tuple_eqB (R := wants (fun v s' => v ≠ .notImplemented ∧ Q v s') E) l b xs ys n1 n2 d1 d2 s1 s2 e I (fun i h1 h2 t iv => wpAny_mono (turn i h1 h2 t iv) (fun r t2 q => ⟨q.1, q.2.1, fun he => ⟨(fun x => nomatch x), q.2.2 he⟩⟩) fun _ _ x => x) (fun t q => ⟨(fun x => nomatch x), fin t q⟩) g1 g2 h
end
end Kb.EB
namespace Kb
open PySem PySem.Spec PyProof.Rows L2 ClX
/-- what == answers of two values -/
abbrev EqvB := V → V → Hp → Bool → Prop
def MonB (D : EqvB) : Prop := ∀ x y H H' b, Ext H H' → D x y H b → D x y H' b
def EqB (X : Cx) (n : Nat) (D : EqvB) : Prop := ∀ (A : Around) (pins : List (Addr × Obj)) (s : Shared) (σ : L2.St) (H : Hp) (x y : V) (u v : Value) (b : Bool), Sub X n A → Inv X pins σ H s → RelV x u → RelV y v → D x y H b →
  wpAny (model X.prog X.w) A (eqBool u v) (fun r s' => r = b ∧ LoopI X pins σ H s') X.xe s
def RcB (X : Cx) (n : Nat) (D : EqvB) : Prop := ∀ (A : Around) (pins : List (Addr × Obj)) (s : Shared) (σ : L2.St) (H : Hp) (x y : V) (u v : Value) (b : Bool), Sub X n A → Inv X pins σ H s → RelV x u → RelV y v → D x y H b →
  wpAny (model X.prog X.w) A (richCompare .Eq u v) (fun r s' => r = .bool b ∧ LoopI X pins σ H s') X.xe s
section
variable {X : Cx} {n : Nat} {D : EqvB}
theorem RcB.eqB (h : RcB X n D) (hr : ∀ x y H b, D x y H b → ∃ p q, x = .ref p ∧ y = .ref q) (hs : ∀ pins σ H s p b, Inv X pins σ H s → D (.ref p) (.ref p) H b → b = true) : EqB X n D := by
  intro A pins s σ H x y u v b sb I rx ry d
  obtain ⟨p, q, rfl, rfl⟩ := hr _ _ _ _ d
  cases rx
  cases ry
  by_cases e : p = q
  · subst e
    obtain rfl := hs _ _ _ _ _ _ I d
    exact SeqAt.EqAt.same (A := A) (s := s) (.ref p) X.prog X.w X.xe _ ⟨rfl, H, I, Ext.rfl'⟩
  · refine GQ.eqBool_refG e (wpAny_mono (h A pins s σ H (.ref p) (.ref q) _ _ b sb I rfl rfl d) (fun r s' z => ?_) fun _ _ x => x)
    obtain ⟨er, z⟩ := z
    exact ⟨b, er, rfl, z⟩
/-- instances of two classes, by the left one's own == -/
def DInsB (C C' : Addr) (R : Addr → Addr → Hp → Bool → Prop) : EqvB := fun x y H e => ∃ a b dx dy fs gs, x = .ref a ∧ y = .ref b ∧ H a = some (.ins C dx fs) ∧ H b = some (.ins C' dy gs) ∧ R a b H e
theorem rcB_mt {k : Nat} {C C' : Addr} {ps : List Str} {sp : Sp} {R : Addr → Addr → Hp → Bool → Prop} (F : MtC X.prog X.w X.K X.mg X.base CX0 k C "__eq__" ps sp) (hp : ∀ a b H e (Q : VK) (E : XK), R a b H e → (∀ H', Ext H H' → Q (.bl e) H') → sp [.ref a, .ref b] H Q E) (nf : PySem.W.notFirst X.K C (.ref C') = true) (hk : k ≤ n) : RcB X n (DInsB C C' R) := by
  intro A pins s σ H x y u v e sb I rx ry d
  obtain ⟨f, fd, hf, M, hbind⟩ := F.ex
  obtain ⟨a, b, dx, dy, fs, gs, rfl, rfl, ha, hb', hr⟩ := d
  cases rx
  cases ry
  obtain ⟨mA, J, _⟩ := ins_get I.hok ha
  obtain ⟨mB, J', _⟩ := ins_get I.hok hb'
  obtain ⟨od, J, _⟩ := J.look
  obtain ⟨od', J', _⟩ := J'.look
  obtain ⟨m, hF⟩ := I.fr
  refine PySem.W.cmp_K (op := .Eq) (tb := .ref C') sb.room.units0 hF I.ok.mod.kin J J'.type nf M.at_ M.fn ?_
  have hsp : sp [.ref a, .ref b] H (fun v H' => v = .bl e ∧ Ext H H') E0 := hp a b H e _ E0 hr fun H' x => ⟨rfl, x⟩
  have e0 : Env0 X.prog X.w X.K X.mg X.base A X.stack s H := by
    have e := I.env0
    exact ⟨by rw [sb.fr]; exact e.frames, e.mod, e.bs, e.bsz, e.funs, e.frf, e.hok, e.bare⟩
  have hl := hf.len _ _ _ _ hsp
  have r2 : Vals [V.ref a, V.ref b] [Value.ref a, Value.ref b] := .cons rfl (.cons rfl .nil)
  refine wpAny_call (codeAny_mono (hf.run A X.stack s H ⟨[.ref a, .ref b], []⟩ [.ref a, .ref b] [.ref a, .ref b] _ E0 (sb.room.mono hk) e0 (by
    have := hbind s [.ref a, .ref b] I.kIn (by simpa using hl)
    simpa using this) r2 hsp) fun r s' hq => ?_)
  cases r with
  | error er => exact pass0 pins σ H s er s' I hq
  | ok fl =>
    cases fl with
    | ret w =>
      obtain ⟨z, H', I', rz, ez, ex⟩ := I.after hq
      subst ez
      cases rz
      exact ⟨rfl, H', I', ex⟩
    | next => exact False.elim hq
    | brk => exact False.elim hq
    | cont => exact False.elim hq
/-- tuples: item by item, then by their lengths -/
def DTupB (K : PySem.W.Frag) (D : EqvB) : EqvB := fun x y H b => ∃ (p q : Addr) (xs ys : List V) (e : Nat → Bool), x = .ref p ∧ y = .ref q ∧ SqT K H p xs ∧ SqT K H q ys ∧ (∀ (i : Nat) x y, xs[i]? = some x → ys[i]? = some y → D x y H (e i)) ∧ b = ((List.range (min xs.length ys.length)).all e && xs.length == ys.length)
theorem rcB_tup (hD : MonB D) (h : EqB X n D) : RcB X (n + 1) (DTupB X.K D) := by
  intro A pins s σ H x y u v b sb I rx ry d
  obtain ⟨p, q, xs, ys, e, rfl, rfl, hp, hq, he, rfl⟩ := d
  cases rx
  cases ry
  obtain ⟨its, r, g, z⟩ := I.tuple hp
  obtain ⟨its2, r2, g2, z2⟩ := I.tuple hq
  have l1 : its.toArray.size = xs.length := by rw [List.size_toArray, ← r.length]
  have l2 : its2.toArray.size = ys.length := by rw [List.size_toArray, ← r2.length]
  refine EB.rc_tupB sb.room.units0 e (fun i s' => LoopI X pins σ H s' ∧ i ≤ min xs.length ys.length ∧ ∀ j, j < i → e j = true) g g2 (fun i h1 h2 s' q => ?_) (fun s' q => ⟨?_, q.1⟩) ⟨⟨H, I, Ext.rfl'⟩, Nat.zero_le _, fun j hj => absurd hj (Nat.not_lt_zero _)⟩
  · obtain ⟨⟨H1, I1, e1⟩, hi, pre⟩ := q
    have k1 : i < xs.length := by omega
    have k2 : i < ys.length := by omega
    have g1' : its[i]? = some its.toArray[i] := by
      have h1' : i < its.length := by simpa using h1
      rw [List.getElem?_eq_getElem h1'] <;> simp
    have g2' : its2[i]? = some its2.toArray[i] := by
      have h2' : i < its2.length := by simpa using h2
      rw [List.getElem?_eq_getElem h2'] <;> simp
    obtain ⟨u, hu, ru⟩ := r.get (List.getElem?_eq_getElem k1)
    obtain ⟨v, hv, rv⟩ := r2.get (List.getElem?_eq_getElem k2)
    rw [g1'] at hu
    rw [g2'] at hv
    cases hu
    cases hv
    refine wpAny_mono (h A.in1 pins s' σ H1 _ _ _ _ (e i) sb.in1 I1 ru rv (hD _ _ _ _ _ e1 (he i _ _ (List.getElem?_eq_getElem k1) (List.getElem?_eq_getElem k2)))) (fun r s2 z => ?_) fun _ _ x => x
    obtain ⟨er, H2, I2, e2⟩ := z
    refine ⟨er, fun ht => ⟨⟨H2, I2, e1.trans e2⟩, by omega, fun j hj => ?_⟩, fun hf => ⟨?_, H2, I2, e1.trans e2⟩⟩
    · rcases Nat.lt_succ_iff_lt_or_eq.mp hj with hj | rfl
      · exact pre j hj
      · exact ht
    · have : (List.range (min xs.length ys.length)).all e = false := by
        rw [List.all_eq_false]
        exact ⟨i, List.mem_range.mpr (by omega), by rw [hf]; exact Bool.false_ne_true⟩
      rw [this]; rfl
  · obtain ⟨_, _, pre⟩ := q
    have : (List.range (min xs.length ys.length)).all e = true := by
      rw [List.all_eq_true]
      exact fun j hj => pre j (by rw [l1, l2]; exact List.mem_range.mp hj)
    rw [this, l1, l2]; rfl
/-- x == y as an expression -/
def rEqB (D : EqvB) : R2 := fun x y H Q => ∃ b, D x y H b ∧ ∀ H', Ext H H' → Q (.bl b) H'
theorem op_eqB (h : RcB X n D) (hr : Room n X.A) : OpR X (compareOp .Eq) (rEqB D) := by
  intro pins s σ H x y v u Q I rx ry hq
  obtain ⟨b, d, q⟩ := hq
  show wpAny (model X.prog X.w) X.A (richCompare .Eq v u) (EP X pins σ Q) X.xe s
  refine wpAny_mono (h X.A pins s σ H x y v u b ⟨hr, rfl⟩ I rx ry d) (fun r s' z => ?_) fun _ _ x => x
  obtain ⟨e, H', I', g⟩ := z
  subst e
  exact ⟨.bl b, H', I', rfl, q H' g⟩
end
end Kb

/-! ### x[k] by an own subscript that may raise; a law's def with lambdas in which repr is called -/
namespace Kb
open PySem PySem.Spec PyProof.Rows L2 ClX LamX
/-- two promises of a def, whichever is met -/
theorem fn_or {P : Program} {w : World} {K : PySem.W.Frag} {mg : Str → Option Value} {base : Heap} {CX : CXT} {k : Nat} {f : Addr} {fd : FuncData} {ps : List Str} {sp sq : Sp} (F : FnOk P w K mg base CX k f fd ps sp) (G : FnOk P w K mg base CX k f fd ps sq) : FnOk P w K mg base CX k f fd ps (fun vs H Q E => sp vs H Q E ∨ sq vs H Q E) :=
  ⟨fun vs H Q E h => h.elim (F.len vs H Q E) (G.len vs H Q E), fun A o s H ar us vs Q E hr e0 b r h => h.elim (F.run A o s H ar us vs Q E hr e0 b r) (G.run A o s H ar us vs Q E hr e0 b r)⟩
section
variable {X : Cx} {k : Nat} {C : Addr} {ps : List Str} {sp : Sp} {a b : Expr} {ta tb : TE} {pos : Pos} {W : WX}
def tIxS (C : Addr) (sp : Sp) (E : L2.St → XK) (ta tb : TE) : TE := fun σ H Q => ta σ H fun x H1 => tb σ H1 fun y H2 => ∃ (p dx : Addr) (fs : List (Str × V)), x = .ref p ∧ H2 p = some (.ins C dx fs) ∧ sp [x, y] H2 Q (E σ)
theorem pe_ixS (F : MtC X.prog X.w X.K X.mg X.base (L2.CX X.prog X.w) k C "__getitem__" ps sp) (G : IxC X.K C) (hr : Room (k + 1) X.A) (tk : Takes X W) (ha : PE X a ta) (hb : PE X b tb)
    (hs : ∀ o i, subscripted b true o i = runValue (.builtin "lifetime.subscript" ⟨[o, i], []⟩) := by intro _ _; rfl) : PE X (.Subscript a b pos) (tIxS C sp (WE W) ta tb) := by
  refine ⟨fun pins s σ H Q I told => ?_⟩
  refine Subscript_ (thn (ha.run pins s σ H _ I told) fun v s1 ⟨x, H1, I1, r1, q1⟩ => thn (hb.run pins s1 σ H1 _ I1 q1) fun u s2 ⟨y, H2, I2, ry, q2⟩ => ?_)
  obtain ⟨p, dx, fs, rfl, hp, q⟩ := q2
  cases (show v = Value.ref p from r1)
  obtain ⟨f, fd, hf, M, hbd⟩ := F.ex
  obtain ⟨g, hg1, hg2⟩ := G.ex
  obtain ⟨mA, O, _⟩ := ins_get I2.hok hp
  obtain ⟨od, J, _⟩ := O.look
  obtain ⟨m, hF⟩ := I2.fr
  have e : g = f := by rw [M.at_] at hg1; cases hg1; rfl
  subst e
  refine PySem.W.sub_K hF I2.ok.mod.kin J M.at_ hg2 M.fn ?_ (hs _ _)
  have q' : sp ([V.ref p, y] ++ []) H2 Q (WE W σ) := q
  have r2 : Vals ([V.ref p, y] ++ []) ([Value.ref p, u] ++ []) := .cons rfl (.cons ry .nil)
  have hl : ([Value.ref p, u] ++ []).length = ps.length := by rw [← r2.length]; exact hf.len _ _ _ _ q'
  have hr2 : Room k X.A.in1 := Room.in1 (k := k) hr
  have e3 := I2.env0.in1
  have b2 : BindsTo s2 fd ⟨[Value.ref p, u], []⟩ (ps.zip ([Value.ref p, u] ++ [])) := hbd s2 _ I2.kIn hl
  have key := hf.run _ _ s2 H2 _ _ _ _ (WE W σ) hr2 e3 b2 r2 q'
  refine wpAny_call (codeAny_mono key fun r s' hq => ?_)
  cases r with
  | error e => exact passAt tk σ pins H2 s2 e s' I2 hq
  | ok fl =>
    cases fl with
    | ret w =>
      obtain ⟨z, H', I', rz, qz⟩ := I2.after hq
      exact ⟨z, H', I', rz, qz⟩
    | next => exact False.elim hq
    | brk => exact False.elim hq
    | cont => exact False.elim hq
end
section
variable {P : Program} {w : World} {K : PySem.W.Frag} {mg : Str → Option Value} {base : Heap} {k : Nat} {f c : Addr} {name qual : Str} {N ps : List Str} {sp : Sp} {st : Stmt} {fd : FuncData}
/-- the law's def, its code object known, no repr under way -/
theorem okTG (F : Fun K name qual st f fd) (S : FnScope N ps (defScope st)) (hc : fd.code = .ref c) (hlen : ∀ vs H Q E, sp vs H Q E → vs.length = ps.length)
    (hb : ∀ (A : Around) (outer : List Env) (s : Shared) (H : Hp) (vs : List V) (Q : VK) (E : XK), (A.deeper (envOfC qual (defScope st) s.heap.objs.size f (.ref c))).guards = some [] → Room k (A.deeper (envOfC qual (defScope st) s.heap.objs.size f (.ref c))) → sp vs H Q E →
      ∃ t, PSs (cxOf CX0 P w K mg base N qual (defScope st) f (.ref c) A outer s H E) (defBody st) t ∧ t { nx := fun _ H' => Q .non H', rt := Q } (L2.start N vs) H) :
    FnOkG P w K mg base CX0 (k + 1) f fd ps sp := by
  obtain ⟨oc, od, kV, doc, pm, an, cdv, ct, osl, rfl, lk, hcd⟩ := F.ex
  have ec : cdv = .ref c := hc
  subst ec
  exact ⟨hlen, fun A outer s H ar us vs Q E hg hr e0 hbi r hsp => run_ofS lk hcd S hr e0 hbi r (hlen _ _ _ _ hsp) fun room => hb A outer s H vs Q E hg room hsp⟩
end
/-- what is seen at the end: a law with one table of code objects, no repr under way -/
theorem lawTG {P : Program} {w : World} {K : PySem.W.Frag} {mg mb : Str → Option Value} {k : Nat} {fa a c PT : Addr} {fd : FuncData} {x : Str} {sp : Sp} {s₁ : Shared} {vs : List Value} {ns : List Int}
    (KX : K.In s₁.heap) (hns : s₁.heap.Ns mainGlobals mg) (hbn : s₁.heap.Ns builtinsNs mb) (hbb : ∀ x : Str, x ≠ "__name__" → mb x = bootBuiltins x) (nl : s₁.heap.NoLimit) (hg : s₁.gens = #[])
    (tP : s₁.heap.get? PT = some { cls := .none, data := .fields #[] }) (nP : K.lookup PT = none) (cH : PySem.W.CodeHd s₁.heap c PT)
    (hbm : ∃ (bm : Addr) (ob : Obj), mg "__builtins__" = some (.ref bm) ∧ bm ≠ builtinsNs ∧ s₁.heap.get? bm = some ob ∧ ob.cls = .type "module" ∧ ob.dict = some builtinsNs ∧ ob.data = .plain)
    (ha : s₁.heap.get? a = some { cls := .type "list", data := .seq vs.toArray }) (hi : IntsAre vs ns) (hl : ns.length ≤ sizeLine) (hr : Room k callerA)
    (F : ∀ base : Heap, K.In base → base.Ns mainGlobals mg → TabB base mg c PT → FnOkG P w K mg base CX0 k fa fd [x] sp) (bd : ∀ (s : Shared) (u : Value), BindsTo s fd ⟨[u], []⟩ [(x, u)])
    (hsp : ∀ H : Hp, H PT = some (.tbl #[]) → SqL K H a (ns.map V.int) → sp [.ref a] H (fun v _ => v = .bl true) E0) :
    codeAny (model P w) callerA (.call (.ref fa) ⟨[.ref a], []⟩) (fun r s' => r = .ok (.ret (.bool true)) ∧ OldK s₁.heap s'.heap ∧ s'.os = s₁.os ∧ AllBare s'.gens) s₁ := by
  have rv := vals_ints hi
  have nPa : PT ≠ a := fun z => by
    rw [z, ha] at tP
    cases tP
  have core : ∀ H : Hp, H PT = some (.tbl #[]) → (∀ b, H b = none ∨ b = PT ∨ ∃ o xs, H b = some (.frz o (.lst xs))) → SqL K H a (ns.map V.int) → HOk P w H s₁.heap → (∀ b, H b ≠ none → b = a ∨ b = PT) → (H a ≠ none → K.lookup a = none) →
      codeAny (model P w) callerA (.call (.ref fa) ⟨[.ref a], []⟩) (fun r s' => r = .ok (.ret (.bool true)) ∧ OldK s₁.heap s'.heap ∧ s'.os = s₁.os ∧ AllBare s'.gens) s₁ := by
    intro H hP hO hS hok hA hK
    have free : ∀ {b : Addr} {o : Obj}, s₁.heap.get? b = some o → (∀ us n, o.data ≠ .seq us n) → o.data ≠ .fields #[] → H b = none := fun {b o} e z1 z2 => Classical.byContradiction fun z => by
      rcases hA b z with y | y <;> subst y
      · rw [ha] at e; cases e; exact z1 _ _ rfl
      · rw [tP] at e; cases e; exact z2 rfl
    have nsK : ∀ {b : Addr} {m : Str → Option Value}, s₁.heap.Ns b m → (hidT s₁.heap H).Ns b m := fun {b m} ⟨o, es, ep, e, d, r⟩ => ⟨o, es, ep, hidT_get e (free e (fun us n z => by rw [d] at z; cases z) fun z => by rw [d] at z; cases z), d, r⟩
    have hKb : K.In (hidT s₁.heap H) := fun b o e => hidT_get (KX b o e) (Classical.byContradiction fun z => by
      rcases hA b z with y | y <;> subst y
      · rw [hK z] at e; cases e
      · rw [nP] at e; cases e)
    have hM : Mod K mg (hidT s₁.heap H) := ⟨hKb, nsK hns, ⟨mb, nsK hbn, hbb⟩, nl.elim fun mc z => ⟨mc, nsK z.1, z.2⟩⟩
    have tb : TabB (hidT s₁.heap H) mg c PT := by
      refine ⟨?_, ?_, fun z => ?_⟩
      · obtain ⟨o, q⟩ := cH
        obtain ⟨us, file, tf, fl, tg, inF, text, tt, e1, q1, q2, q3, q⟩ := q
        refine ⟨o, us, file, tf, fl, tg, inF, text, tt, hidT_get e1 (free e1 (fun vs n z => ?_) fun z => ?_), q1, q2, q3, q⟩
        · rw [q2] at z; cases z
        · rw [q2] at z
          injection z with z
          subst z
          simp at q3
      · obtain ⟨bm, ob, b1, b2, b3, b4, b5, b6⟩ := hbm
        refine ⟨bm, ob, b1, b2, fun z => ?_, fun z => ?_, hidT_get b3 (free b3 (fun us n z => ?_) fun z => ?_), b4, b5, b6⟩
        · obtain ⟨o, es, ep, e, hd, _⟩ := hns
          subst z
          rw [e] at b3; cases b3
          rw [hd] at b6; cases b6
        · subst z
          rw [tP] at b3; cases b3; cases b6
        · rw [b6] at z; cases z
        · rw [b6] at z; cases z
      · obtain ⟨o, es, ep, e, hd, _⟩ := hns
        subst z
        rw [tP] at e; cases e; cases hd
    have e0 : Env0 P w K mg (hidT s₁.heap H) callerA [] s₁ H := ⟨rfl, hM, fun b o e => of_hidT e, Nat.le_of_eq (hidT_size _ _), trivial, fun b hb => (List.not_mem_nil hb).elim, hok, .of_eq hg⟩
    refine codeAny_mono ((F _ hKb (nsK hns) tb).run callerA [] s₁ H ⟨[.ref a], []⟩ [.ref a] [.ref a] _ _ rfl hr e0 (bd s₁ (.ref a)) (.cons rfl .nil) (hsp H hP hS)) fun r s' z => ?_
    cases r with
    | error e => exact (show False from z).elim
    | ok fl => cases fl with
      | next => exact (show False from z).elim
      | brk => exact (show False from z).elim
      | cont => exact (show False from z).elim
      | ret u =>
        obtain ⟨v, H', os, bare, un, hok', r', q⟩ := z
        cases (show v = V.bl true from q)
        cases (show u = Value.bool true from r')
        have same : ∀ b o, b ≠ PT → s₁.heap.get? b = some o → s'.heap.get? b = some o := fun b o nb e => by
          rcases hO b with q | q | ⟨ob, xs, q⟩
          · exact un.keep b o e q (fun z => (List.not_mem_nil z).elim) (fun z => (List.not_mem_nil z).elim)
          · exact absurd q nb
          · have e1 := (hok b _ q).1
            have e2 := (hok' b _ (un.frzs b ob _ q)).1
            rw [e] at e1; cases e1
            exact e2
        have grew : ∃ more : Array Value, s'.heap.get? PT = some { cls := .none, data := .fields more } := by
          obtain ⟨more, z⟩ := un.tbls PT #[] hP
          exact ⟨_, hok' PT _ z⟩
        refine ⟨rfl, ⟨fun b o e => ?_, fun b o e => ?_⟩, os, bare⟩
        · by_cases hb : b = PT
          · subst hb
            obtain ⟨more, hm⟩ := grew
            rw [tP] at e
            cases e
            exact .inr (.inl ⟨(cH.tab tP).isCodeTable, rfl, #[], more, rfl, by rw [Array.empty_append]; exact hm⟩)
          · exact .inl (same b o hb e)
        · by_cases hb : b = PT
          · subst hb
            obtain ⟨more, hm⟩ := grew
            exact ⟨_, hm⟩
          · exact ⟨o, same b o hb e⟩
  cases hk : K.lookup a with
  | some o =>
    have e := KX a o hk
    rw [ha] at e
    cases e
    refine core (fun b => if b = PT then some (.tbl #[]) else none) (if_pos rfl) (fun b => ?_) (.inr ⟨_, vs.toArray, _, hk, rfl, rfl, rfl, by rw [List.size_toArray, hi.length]; exact hl, by simpa using rv⟩) (fun b u z => ?_) (fun b z => ?_) fun z => absurd (if_neg (fun e => nPa e.symm)) z
    · by_cases y : b = PT
      · exact .inr (.inl y)
      · exact .inl (if_neg y)
    · by_cases y : b = PT
      · have z := (if_pos y).symm.trans z
        cases z
        subst y
        exact tP
      · have z := (if_neg y).symm.trans z
        cases z
    · by_cases y : b = PT
      · exact .inr y
      · exact absurd (if_neg y) z
  | none =>
    refine core (fun b => if b = PT then some (.tbl #[]) else if b = a then some (.frz { cls := .type "list", data := .seq vs.toArray } (.lst (ns.map V.int))) else none) (if_pos rfl) (fun b => ?_) (.inl (.inr ⟨_, (if_neg (fun e => nPa e.symm)).trans (if_pos rfl)⟩)) (fun b u z => ?_) (fun b z => ?_) fun _ => hk
    · by_cases y : b = PT
      · exact .inr (.inl y)
      · by_cases y2 : b = a
        · exact .inr (.inr ⟨_, _, (if_neg y).trans (if_pos y2)⟩)
        · exact .inl ((if_neg y).trans (if_neg y2))
    · by_cases y : b = PT
      · have z := (if_pos y).symm.trans z
        cases z
        subst y
        exact tP
      · have z := (if_neg y).symm.trans z
        by_cases y2 : b = a
        · have z := (if_pos y2).symm.trans z
          cases z
          subst y2
          exact ⟨ha, by rw [List.length_map]; exact hl, vs, _, rv, ha⟩
        · have z := (if_neg y2).symm.trans z
          cases z
    · by_cases y : b = PT
      · exact .inr y
      · by_cases y2 : b = a
        · exact .inl y2
        · exact absurd ((if_neg y).trans (if_neg y2)) z
theorem walk_ofTGE {l : PySem.W.OpenLaw} {n k : Nat} {q : Program} {loose : List Str} {XP : (Str → Option Value) → Heap → Prop} {YP : World → Heap → Prop} {d : DefRec} {x : Str}
    (hn : l.most = some n) (hn2 : n ≤ sizeLine) (hdf : d.params.defaults = []) (hr : Room k callerA) (hrec : ((PyProof.Rows.recsOf q).find? fun e => e.name == d.name).isSome = true)
    (F : ∀ (w : World) (mg : Str → Option Value) (fa : Addr) (h : Heap), YP w h → h.Ns mainGlobals mg → mg d.name = some (.ref fa) →
      ∃ (K : PySem.W.Frag) (fd : FuncData) (c P : Addr) (sp : Sp), K.In h ∧ LawTab K d.name c P ∧ (∀ (s : Shared) (u : Value), BindsTo s fd ⟨[u], []⟩ [(x, u)]) ∧
        (∀ (H : Hp) (a : Addr) (ns : List Int), ns.length ≤ n → H P = some (.tbl #[]) → SqL K H a (ns.map V.int) → sp [.ref a] H (fun v _ => v = .bl true) E0) ∧
        ∀ base : Heap, K.In base → base.Ns mainGlobals mg → TabB base mg c P → FnOkG l.prog w K mg base CX0 k fa fd [x] sp) :
    PySem.W.WalkO q loose XP YP l.row.toRowW d [] (fun f vs => PySem.call f vs) := by
  refine Att.attach_callB hn hdf fun w s₀ s₁ mg mb fa o pm cd doc a vs ns G Y ho hd hcd hmg hobj hints hlen hbits hg => ?_
  obtain ⟨K, fd, c, P, sp, KX, LT, hb, hsp, hF⟩ := F w mg fa _ Y G.T.g hmg
  obtain ⟨dL, hL⟩ := Option.isSome_iff_exists.mp hrec
  obtain ⟨hc, hP⟩ := PySem.W.tab_of G.T KX hL LT.tab
  exact lawTG KX G.T.g G.T.b G.T.builtins G.T.nolimit hg hP LT.no hc G.T.bmain hobj hints (Nat.le_trans hlen hn2) hr hF hb fun H hH hS => hsp H a ns hlen hH hS
/-! ### a tuple, perhaps empty, taken k times -/
theorem tuple_mulE (l : Addr) (items : Array Value) (n : Nat) (dd : Option Addr) (sl : Array (Option Value)) (u : Tok) (k : Int) (k0 : 0 ≤ k) (k1 : k ≤ 1000) (hi : items.isEmpty = true) :
    Meets (Builtin.«tuple.__mul__» ⟨[.ref l, .int k u], []⟩) (fun _ R s => s.heap.get? l = some { cls := .type "tuple", dict := dd, data := .seq items n, slots := sl } ∧ R (.ok (.ret (Value.ref l))) s) :=
  .of_wp fun prog w A R s h => by
    obtain ⟨hp, g, d, tk, os⟩ := s
    obtain ⟨hl, h⟩ := h
    have f1 := AutoSeq1.idx_int
    have c0 : (decide (k < -(2 ^ 63)) || decide (k ≥ 2 ^ 63)) = false := by
      rw [decide_eq_false (by omega), decide_eq_false (by omega)]; rfl
    have c1 : (items.isEmpty || k == 1) = true := by rw [hi]; rfl
    wp_walk using wpAny_loadPart' hl
    repeat (first
      | (refine wpAny_ite_false (decide_eq_false (by rw [c0]; exact Bool.false_ne_true)) ?_; wp_walk using wpAny_loadPart' hl)
      | (refine wpAny_ite_true (decide_eq_true c1) ?_; wp_walk using wpAny_loadPart' hl))
    exact ⟨_, rfl, h⟩
def rRepTW (K : PySem.W.Frag) : R2 := fun x y H Q => ∃ (l : Addr) (k : Nat) (xs : List V), x = .ref l ∧ y = .int (k : Nat) ∧ H l = some (.tup xs) ∧ 2 ≤ k ∧ k ≤ 1000 ∧ xs.length ≤ 1000 ∧ ∀ p H', Same H H' → H' p = some (.tup (List.replicate k xs).flatten) → Q (.ref p) H'
theorem op_repTW {X : Cx} : OpR X (binaryOp .Mult) (rRepTW X.K) := by
  intro pins s σ H x y v u Q I rx ry h
  obtain ⟨l, k, xs, rfl, rfl, hH, k2, h2, hz, q⟩ := h
  have hT : SqT X.K H l xs := SqT.of hH
  by_cases hne : xs = []
  rotate_left
  · refine op_repT pins s σ H _ _ v u Q I rx ry ⟨l, (k : Nat), xs, rfl, rfl, hT, hne, by omega, by omega, hz, fun p hp => ?_⟩
    refine q p _ (same_upd hp) ?_
    rw [upd_same, Int.toNat_natCast]
  · subst hne
    cases rx
    obtain ⟨t, rfl⟩ := ry
    obtain ⟨its, r, ⟨⟨cls, dd, data, sl⟩, ho, hc, n, hd⟩, hs⟩ := I.tuple hT
    simp only at hc hd
    subst hc hd
    have hi : its.toArray.isEmpty = true := by
      have e : its = [] := List.eq_nil_of_length_eq_zero r.length.symm
      subst e
      rfl
    refine wpAny_binaryOp_repeat_ref (T := "tuple") (U := "int") (by decide) ⟨_, ho, rfl⟩ (fun s' => typeIs_int s' k t) noFill_tuple_mul F.fills_int_mul F.slot_int_rmul repeat_tuple F.slot_int_index.lookup
      (call_meets F.slot_int_rmul (typeIs_int s k t) F.entry_int_rmul (F.args_int_rmul_2 _ _) (int_rmul_tuple k t l its.toArray n dd sl)
        ⟨ho, rfl, ⟨_, ho, rfl⟩, call_meets F.slot_tuple_mul ⟨_, ho, rfl⟩ F.entry_tuple_mul (F.args_tuple_mul_2 _ _) (tuple_mulE l its.toArray n dd sl t k (by omega) (by omega) hi) ⟨ho, ?_⟩⟩)
    refine ⟨.ref l, H, I, rfl, q _ _ (Same.refl _) ?_⟩
    have e : (List.replicate k ([] : List V)).flatten = [] := by
      rw [List.flatten_eq_nil_iff]
      exact fun z hz => List.eq_of_mem_replicate hz
    rw [e]
    exact hH
theorem pe_joinK {X : Cx} {K : PySem.W.Frag} {o e : Expr} {to te : TE} {apos pos : Pos} (h : X.K = K) (ho : PE X o to) (he : PE X e te) (hs : starEach [e] X.env = [(false, eval e X.env)] := by rfl) (hbase : attributeBase o "join" X.env (eval o X.env) = eval o X.env := by rfl) (hline : (apos.endLine == pos.line) = true := by rfl) :
    PE X (.Call (.Attribute o "join" apos) [e] [] pos) (tM1 (fun x xs H Q => ∃ a p, ∃ ys : List Str, x = .str a ∧ xs = [.ref p] ∧ (SqL K H p (ys.map V.str) ∨ SqT K H p (ys.map V.str)) ∧
      (ys.map (·.length)).sum + ys.length * a.length ≤ 16777216 ∧ Q (.str (Txt.join a ys)) H) to te) := by
  subst h
  exact pe_join ho he hs hbase hline
theorem sl_listK {X : Cx} {K : PySem.W.Frag} (h : X.K = K) : SlR X (rSlL K) := h ▸ sl_list
end Kb

namespace Lw
open PySem PySem.Spec PyProof.Rows L2 ClX Kb
def top (i : Nat) : Stmt := PySem.Challenge.pw_unmarked_k38_programs_made.main.body.getD i (.Pass ⟨0, 0, 0, 0⟩)
abbrev S__law_deal : Stmt := (top 98)
abbrev N__law_deal : List Str := ["_law_script", "_law_base", "_law_cells", "_law_seed", "_law_cell"]
theorem SC__law_deal : FnScope N__law_deal ["_law_script", "_law_base"] (defScope S__law_deal) := ⟨rfl, rfl, rfl, by decide +kernel, rfl, by decide +kernel, by decide +kernel⟩
abbrev S__law_draw : Stmt := (top 99)
abbrev N__law_draw : List Str := ["_law_deal_here", "_law_many", "_law_left", "_law_one", "_law_other"]
theorem SC__law_draw : FnScope N__law_draw ["_law_deal_here", "_law_many"] (defScope S__law_draw) := ⟨rfl, rfl, rfl, by decide +kernel, rfl, by decide +kernel, by decide +kernel⟩
abbrev S__law_pick : Stmt := (top 100)
abbrev N__law_pick : List Str := ["_law_deal_here", "_law_some"]
theorem SC__law_pick : FnScope N__law_pick ["_law_deal_here", "_law_some"] (defScope S__law_pick) := ⟨rfl, rfl, rfl, by decide +kernel, rfl, by decide +kernel, by decide +kernel⟩
abbrev S_is_integer : Stmt := (top 17)
abbrev N_is_integer : List Str := ["value"]
theorem SC_is_integer : FnScope N_is_integer ["value"] (defScope S_is_integer) := ⟨rfl, rfl, rfl, by decide +kernel, rfl, by decide +kernel, by decide +kernel⟩
abbrev S_is_name : Stmt := (top 19)
abbrev N_is_name : List Str := ["value", "letter"]
theorem SC_is_name : FnScope N_is_name ["value"] (defScope S_is_name) := ⟨rfl, rfl, rfl, by decide +kernel, rfl, by decide +kernel, by decide +kernel⟩
abbrev S_InvalidRow__init_ : Stmt := (inClass (top 5) 0)
abbrev N_InvalidRow__init_ : List Str := ["self", "part"]
theorem SC_InvalidRow__init_ : FnScope N_InvalidRow__init_ ["self", "part"] (defScope S_InvalidRow__init_) := ⟨rfl, rfl, rfl, by decide +kernel, rfl, by decide +kernel, by decide +kernel⟩
abbrev S_InvalidChange__init_ : Stmt := (inClass (top 4) 0)
abbrev N_InvalidChange__init_ : List Str := ["self"]
theorem SC_InvalidChange__init_ : FnScope N_InvalidChange__init_ ["self"] (defScope S_InvalidChange__init_) := ⟨rfl, rfl, rfl, by decide +kernel, rfl, by decide +kernel, by decide +kernel⟩
abbrev S_Change__init_ : Stmt := (inClass (top 30) 0)
abbrev N_Change__init_ : List Str := ["self", "a", "b", "c", "d", "numbers", "number"]
theorem SC_Change__init_ : FnScope N_Change__init_ ["self", "a", "b", "c", "d"] (defScope S_Change__init_) := ⟨rfl, rfl, rfl, by decide +kernel, rfl, by decide +kernel, by decide +kernel⟩
abbrev S_Change__str_ : Stmt := (inClass (top 30) 10)
abbrev N_Change__str_ : List Str := ["self", "number"]
theorem SC_Change__str_ : FnScope N_Change__str_ ["self"] (defScope S_Change__str_) := ⟨rfl, rfl, rfl, by decide +kernel, rfl, by decide +kernel, by decide +kernel⟩
abbrev S_need_name : Stmt := (top 33)
abbrev N_need_name : List Str := ["value", "part"]
theorem SC_need_name : FnScope N_need_name ["value", "part"] (defScope S_need_name) := ⟨rfl, rfl, rfl, by decide +kernel, rfl, by decide +kernel, by decide +kernel⟩
abbrev S_need_number : Stmt := (top 34)
abbrev N_need_number : List Str := ["value"]
theorem SC_need_number : FnScope N_need_number ["value"] (defScope S_need_number) := ⟨rfl, rfl, rfl, by decide +kernel, rfl, by decide +kernel, by decide +kernel⟩
abbrev S_need_test : Stmt := (top 35)
abbrev N_need_test : List Str := ["value"]
theorem SC_need_test : FnScope N_need_test ["value"] (defScope S_need_test) := ⟨rfl, rfl, rfl, by decide +kernel, rfl, by decide +kernel, by decide +kernel⟩
abbrev S_need_rows : Stmt := (top 36)
abbrev N_need_rows : List Str := ["rows", "row"]
theorem SC_need_rows : FnScope N_need_rows ["rows"] (defScope S_need_rows) := ⟨rfl, rfl, rfl, by decide +kernel, rfl, by decide +kernel, by decide +kernel⟩
abbrev S_Part__init_ : Stmt := (inClass (top 37) 1)
abbrev N_Part__init_ : List Str := ["self", "script", "used"]
theorem SC_Part__init_ : FnScope N_Part__init_ ["self", "script", "used"] (defScope S_Part__init_) := ⟨rfl, rfl, rfl, by decide +kernel, rfl, by decide +kernel, by decide +kernel⟩
abbrev S_Part__eq_ : Stmt := (inClass (top 37) 2)
abbrev N_Part__eq_ : List Str := ["self", "other"]
theorem SC_Part__eq_ : FnScope N_Part__eq_ ["self", "other"] (defScope S_Part__eq_) := ⟨rfl, rfl, rfl, by decide +kernel, rfl, by decide +kernel, by decide +kernel⟩
abbrev S_Part__str_ : Stmt := (inClass (top 37) 3)
abbrev N_Part__str_ : List Str := ["self"]
theorem SC_Part__str_ : FnScope N_Part__str_ ["self"] (defScope S_Part__str_) := ⟨rfl, rfl, rfl, by decide +kernel, rfl, by decide +kernel, by decide +kernel⟩
abbrev S_Row_inner : Stmt := (inClass (top 38) 0)
abbrev N_Row_inner : List Str := ["self"]
theorem SC_Row_inner : FnScope N_Row_inner ["self"] (defScope S_Row_inner) := ⟨rfl, rfl, rfl, by decide +kernel, rfl, by decide +kernel, by decide +kernel⟩
abbrev S_Row_is_laying : Stmt := (inClass (top 38) 1)
abbrev N_Row_is_laying : List Str := ["self"]
theorem SC_Row_is_laying : FnScope N_Row_is_laying ["self"] (defScope S_Row_is_laying) := ⟨rfl, rfl, rfl, by decide +kernel, rfl, by decide +kernel, by decide +kernel⟩
abbrev S_Make__init_ : Stmt := (inClass (top 40) 1)
abbrev N_Make__init_ : List Str := ["self", "change", "__class__"]
theorem SC_Make__init_ : NdefX.NScope N_Make__init_ ["self", "change"] ["__class__"] (defScope S_Make__init_) := NdefX.nscope_by (by decide +kernel)
abbrev S_Exchange__init_ : Stmt := (inClass (top 41) 1)
abbrev N_Exchange__init_ : List Str := ["self", "__class__"]
theorem SC_Exchange__init_ : NdefX.NScope N_Exchange__init_ ["self"] ["__class__"] (defScope S_Exchange__init_) := NdefX.nscope_by (by decide +kernel)
abbrev S_Lay__init_ : Stmt := (inClass (top 42) 1)
abbrev N_Lay__init_ : List Str := ["self", "__class__"]
theorem SC_Lay__init_ : NdefX.NScope N_Lay__init_ ["self"] ["__class__"] (defScope S_Lay__init_) := NdefX.nscope_by (by decide +kernel)
abbrev S_Lay_is_laying : Stmt := (inClass (top 42) 2)
abbrev N_Lay_is_laying : List Str := ["self"]
theorem SC_Lay_is_laying : FnScope N_Lay_is_laying ["self"] (defScope S_Lay_is_laying) := ⟨rfl, rfl, rfl, by decide +kernel, rfl, by decide +kernel, by decide +kernel⟩
abbrev S_Put__init_ : Stmt := (inClass (top 43) 1)
abbrev N_Put__init_ : List Str := ["self", "note", "number", "__class__"]
theorem SC_Put__init_ : NdefX.NScope N_Put__init_ ["self", "note", "number"] ["__class__"] (defScope S_Put__init_) := NdefX.nscope_by (by decide +kernel)
abbrev S_Add__init_ : Stmt := (inClass (top 44) 1)
abbrev N_Add__init_ : List Str := ["self", "note", "number", "__class__"]
theorem SC_Add__init_ : NdefX.NScope N_Add__init_ ["self", "note", "number"] ["__class__"] (defScope S_Add__init_) := NdefX.nscope_by (by decide +kernel)
abbrev S_Tell__init_ : Stmt := (inClass (top 45) 1)
abbrev N_Tell__init_ : List Str := ["self", "mark", "__class__"]
theorem SC_Tell__init_ : NdefX.NScope N_Tell__init_ ["self", "mark"] ["__class__"] (defScope S_Tell__init_) := NdefX.nscope_by (by decide +kernel)
abbrev S_Stop__init_ : Stmt := (inClass (top 46) 1)
abbrev N_Stop__init_ : List Str := ["self", "__class__"]
theorem SC_Stop__init_ : NdefX.NScope N_Stop__init_ ["self"] ["__class__"] (defScope S_Stop__init_) := NdefX.nscope_by (by decide +kernel)
abbrev S_Stop_is_laying : Stmt := (inClass (top 46) 2)
abbrev N_Stop_is_laying : List Str := ["self"]
theorem SC_Stop_is_laying : FnScope N_Stop_is_laying ["self"] (defScope S_Stop_is_laying) := ⟨rfl, rfl, rfl, by decide +kernel, rfl, by decide +kernel, by decide +kernel⟩
abbrev S_If__init_ : Stmt := (inClass (top 47) 1)
abbrev N_If__init_ : List Str := ["self", "test", "rows", "others", "__class__", "behind"]
theorem SC_If__init_ : NdefX.NScope N_If__init_ ["self", "test", "rows", "others"] ["__class__"] (defScope S_If__init_) := NdefX.nscope_by (by decide +kernel)
abbrev S_If_inner : Stmt := (inClass (top 47) 2)
abbrev N_If_inner : List Str := ["self"]
theorem SC_If_inner : FnScope N_If_inner ["self"] (defScope S_If_inner) := ⟨rfl, rfl, rfl, by decide +kernel, rfl, by decide +kernel, by decide +kernel⟩
abbrev S_If_is_laying : Stmt := (inClass (top 47) 3)
abbrev N_If_is_laying : List Str := ["self"]
theorem SC_If_is_laying : FnScope N_If_is_laying ["self"] (defScope S_If_is_laying) := ⟨rfl, rfl, rfl, by decide +kernel, rfl, by decide +kernel, by decide +kernel⟩
abbrev S_Until__init_ : Stmt := (inClass (top 48) 1)
abbrev N_Until__init_ : List Str := ["self", "goal", "rows", "__class__"]
theorem SC_Until__init_ : NdefX.NScope N_Until__init_ ["self", "goal", "rows"] ["__class__"] (defScope S_Until__init_) := NdefX.nscope_by (by decide +kernel)
abbrev S_Until_inner : Stmt := (inClass (top 48) 2)
abbrev N_Until_inner : List Str := ["self"]
theorem SC_Until_inner : FnScope N_Until_inner ["self"] (defScope S_Until_inner) := ⟨rfl, rfl, rfl, by decide +kernel, rfl, by decide +kernel, by decide +kernel⟩
abbrev S_Until_is_laying : Stmt := (inClass (top 48) 3)
abbrev N_Until_is_laying : List Str := ["self"]
theorem SC_Until_is_laying : FnScope N_Until_is_laying ["self"] (defScope S_Until_is_laying) := ⟨rfl, rfl, rfl, by decide +kernel, rfl, by decide +kernel, by decide +kernel⟩
abbrev S_Longer__init_ : Stmt := (inClass (top 49) 1)
abbrev N_Longer__init_ : List Str := ["self", "__class__"]
theorem SC_Longer__init_ : NdefX.NScope N_Longer__init_ ["self"] ["__class__"] (defScope S_Longer__init_) := NdefX.nscope_by (by decide +kernel)
abbrev S_Shorter__init_ : Stmt := (inClass (top 50) 1)
abbrev N_Shorter__init_ : List Str := ["self", "__class__"]
theorem SC_Shorter__init_ : NdefX.NScope N_Shorter__init_ ["self"] ["__class__"] (defScope S_Shorter__init_) := NdefX.nscope_by (by decide +kernel)
abbrev S_Alike__init_ : Stmt := (inClass (top 51) 1)
abbrev N_Alike__init_ : List Str := ["self", "__class__"]
theorem SC_Alike__init_ : NdefX.NScope N_Alike__init_ ["self"] ["__class__"] (defScope S_Alike__init_) := NdefX.nscope_by (by decide +kernel)
abbrev S_Holds__init_ : Stmt := (inClass (top 52) 1)
abbrev N_Holds__init_ : List Str := ["self", "note", "number", "__class__"]
theorem SC_Holds__init_ : NdefX.NScope N_Holds__init_ ["self", "note", "number"] ["__class__"] (defScope S_Holds__init_) := NdefX.nscope_by (by decide +kernel)
abbrev S_Not__init_ : Stmt := (inClass (top 53) 1)
abbrev N_Not__init_ : List Str := ["self", "test", "__class__"]
theorem SC_Not__init_ : NdefX.NScope N_Not__init_ ["self", "test"] ["__class__"] (defScope S_Not__init_) := NdefX.nscope_by (by decide +kernel)
abbrev S_lines_of : Stmt := (top 54)
abbrev N_lines_of : List Str := ["rows", "found", "row"]
theorem SC_lines_of : FnScope N_lines_of ["rows"] (defScope S_lines_of) := ⟨rfl, rfl, rfl, by decide +kernel, rfl, by decide +kernel, by decide +kernel⟩
abbrev S_inner_rows : Stmt := (top 55)
abbrev N_inner_rows : List Str := ["rows", "found", "row"]
theorem SC_inner_rows : FnScope N_inner_rows ["rows"] (defScope S_inner_rows) := ⟨rfl, rfl, rfl, by decide +kernel, rfl, by decide +kernel, by decide +kernel⟩
abbrev S_has_laying : Stmt := (top 56)
abbrev N_has_laying : List Str := ["rows", "row"]
theorem SC_has_laying : FnScope N_has_laying ["rows"] (defScope S_has_laying) := ⟨rfl, rfl, rfl, by decide +kernel, rfl, by decide +kernel, by decide +kernel⟩
abbrev S_has_make : Stmt := (top 57)
abbrev N_has_make : List Str := ["rows", "row"]
theorem SC_has_make : FnScope N_has_make ["rows"] (defScope S_has_make) := ⟨rfl, rfl, rfl, by decide +kernel, rfl, by decide +kernel, by decide +kernel⟩
abbrev S__law_name : Stmt := (top 101)
abbrev N__law_name : List Str := ["_law_deal_here", "_law_form", "_law_letters", "_law_found", "_law_k"]
theorem SC__law_name : FnScope N__law_name ["_law_deal_here"] (defScope S__law_name) := ⟨rfl, rfl, rfl, by decide +kernel, rfl, by decide +kernel, by decide +kernel⟩
abbrev S__law_number : Stmt := (top 102)
abbrev N__law_number : List Str := ["_law_deal_here", "_law_form"]
theorem SC__law_number : FnScope N__law_number ["_law_deal_here"] (defScope S__law_number) := ⟨rfl, rfl, rfl, by decide +kernel, rfl, by decide +kernel, by decide +kernel⟩
abbrev S__law_change : Stmt := (top 103)
abbrev N__law_change : List Str := ["_law_deal_here", "_law_some"]
theorem SC__law_change : FnScope N__law_change ["_law_deal_here"] (defScope S__law_change) := ⟨rfl, rfl, rfl, by decide +kernel, rfl, by decide +kernel, by decide +kernel⟩
abbrev S__law_world : Stmt := (top 110)
abbrev N__law_world : List Str := ["_law_deal_here", "_law_first", "_law_second", "_law_notes", "_law_k"]
theorem SC__law_world : FnScope N__law_world ["_law_deal_here"] (defScope S__law_world) := ⟨rfl, rfl, rfl, by decide +kernel, rfl, by decide +kernel, by decide +kernel⟩
abbrev S__law_test : Stmt := (top 104)
abbrev N__law_test : List Str := ["_law_deal_here", "_law_world_here", "_law_form", "_law_found", "_law_turn"]
theorem SC__law_test : FnScope N__law_test ["_law_deal_here", "_law_world_here"] (defScope S__law_test) := ⟨rfl, rfl, rfl, by decide +kernel, rfl, by decide +kernel, by decide +kernel⟩
abbrev S__law_row : Stmt := (top 105)
abbrev N__law_row : List Str := ["_law_deal_here", "_law_world_here", "_law_deep", "_law_can_make", "_law_form", "_law_some", "_law_at", "_law_k"]
theorem SC__law_row : FnScope N__law_row ["_law_deal_here", "_law_world_here", "_law_deep", "_law_can_make"] (defScope S__law_row) := ⟨rfl, rfl, rfl, by decide +kernel, rfl, by decide +kernel, by decide +kernel⟩
abbrev S__law_rows : Stmt := (top 106)
abbrev N__law_rows : List Str := ["_law_deal_here", "_law_world_here", "_law_many", "_law_deep", "_law_can_make", "_law_turn"]
theorem SC__law_rows : FnScope N__law_rows ["_law_deal_here", "_law_world_here", "_law_many", "_law_deep", "_law_can_make"] (defScope S__law_rows) := ⟨rfl, rfl, rfl, by decide +kernel, rfl, by decide +kernel, by decide +kernel⟩
abbrev S__law_test_text : Stmt := (top 112)
abbrev N__law_test_text : List Str := ["_law_test_here"]
theorem SC__law_test_text : FnScope N__law_test_text ["_law_test_here"] (defScope S__law_test_text) := ⟨rfl, rfl, rfl, by decide +kernel, rfl, by decide +kernel, by decide +kernel⟩
abbrev S__law_lines : Stmt := (top 113)
abbrev N__law_lines : List Str := ["_law_rows_here", "_law_found", "_law_row_here", "_law_parts", "_law_part"]
theorem SC__law_lines : FnScope N__law_lines ["_law_rows_here"] (defScope S__law_lines) := ⟨rfl, rfl, rfl, by decide +kernel, rfl, by decide +kernel, by decide +kernel⟩
abbrev S__law_test_of : Stmt := (top 114)
abbrev N__law_test_of : List Str := ["_law_test_here", "_law_word"]
theorem SC__law_test_of : FnScope N__law_test_of ["_law_test_here"] (defScope S__law_test_of) := ⟨rfl, rfl, rfl, by decide +kernel, rfl, by decide +kernel, by decide +kernel⟩
abbrev S__law_row_of : Stmt := (top 115)
abbrev N__law_row_of : List Str := ["_law_row_here", "_law_word", "_law_a", "_law_b", "_law_c", "_law_d"]
theorem SC__law_row_of : FnScope N__law_row_of ["_law_row_here"] (defScope S__law_row_of) := ⟨rfl, rfl, rfl, by decide +kernel, rfl, by decide +kernel, by decide +kernel⟩
abbrev S__law_rows_of : Stmt := (top 116)
abbrev N__law_rows_of : List Str := ["_law_rows_here", "_law_row_here"]
theorem SC__law_rows_of : FnScope N__law_rows_of ["_law_rows_here"] (defScope S__law_rows_of) := ⟨rfl, rfl, rfl, by decide +kernel, rfl, by decide +kernel, by decide +kernel⟩
abbrev S_laid_out : Stmt := (top 80)
abbrev N_laid_out : List Str := ["rows", "at", "spot", "found", "row"]
theorem SC_laid_out : FnScope N_laid_out ["rows", "at", "spot"] (defScope S_laid_out) := ⟨rfl, rfl, rfl, by decide +kernel, rfl, by decide +kernel, by decide +kernel⟩
abbrev S_steps_of_row : Stmt := (top 81)
abbrev N_steps_of_row : List Str := ["row", "at", "spot", "some", "other", "more"]
theorem SC_steps_of_row : FnScope N_steps_of_row ["row", "at", "spot"] (defScope S_steps_of_row) := ⟨rfl, rfl, rfl, by decide +kernel, rfl, by decide +kernel, by decide +kernel⟩
abbrev S_steps_of : Stmt := (top 82)
abbrev N_steps_of : List Str := ["rows"]
theorem SC_steps_of : FnScope N_steps_of ["rows"] (defScope S_steps_of) := ⟨rfl, rfl, rfl, by decide +kernel, rfl, by decide +kernel, by decide +kernel⟩
abbrev S_is_note : Stmt := (top 92)
abbrev N_is_note : List Str := ["value"]
theorem SC_is_note : FnScope N_is_note ["value"] (defScope S_is_note) := ⟨rfl, rfl, rfl, by decide +kernel, rfl, by decide +kernel, by decide +kernel⟩
abbrev S_need_notes : Stmt := (top 93)
abbrev N_need_notes : List Str := ["notes", "known", "value"]
theorem SC_need_notes : FnScope N_need_notes ["notes"] (defScope S_need_notes) := ⟨rfl, rfl, rfl, by decide +kernel, rfl, by decide +kernel, by decide +kernel⟩
abbrev S_Program__init_ : Stmt := (inClass (top 96) 0)
abbrev N_Program__init_ : List Str := ["self", "rows", "notes", "known", "row", "name", "modulus"]
theorem SC_Program__init_ : FnScope N_Program__init_ ["self", "rows", "notes"] (defScope S_Program__init_) := ⟨rfl, rfl, rfl, by decide +kernel, rfl, by decide +kernel, by decide +kernel⟩
abbrev S_NoNote__init_ : Stmt := (inClass (top 9) 0)
abbrev N_NoNote__init_ : List Str := ["self", "name"]
theorem SC_NoNote__init_ : FnScope N_NoNote__init_ ["self", "name"] (defScope S_NoNote__init_) := ⟨rfl, rfl, rfl, by decide +kernel, rfl, by decide +kernel, by decide +kernel⟩
abbrev S_Program__eq_ : Stmt := (inClass (top 96) 8)
abbrev N_Program__eq_ : List Str := ["self", "other"]
theorem SC_Program__eq_ : FnScope N_Program__eq_ ["self", "other"] (defScope S_Program__eq_) := ⟨rfl, rfl, rfl, by decide +kernel, rfl, by decide +kernel, by decide +kernel⟩
abbrev S_Program__str_ : Stmt := (inClass (top 96) 9)
abbrev N_Program__str_ : List Str := ["self", "ahead", "name", "modulus"]
theorem SC_Program__str_ : FnScope N_Program__str_ ["self"] (defScope S_Program__str_) := ⟨rfl, rfl, rfl, by decide +kernel, rfl, by decide +kernel, by decide +kernel⟩
abbrev S_NoRow__init_ : Stmt := (inClass (top 8) 0)
abbrev N_NoRow__init_ : List Str := ["self", "at"]
theorem SC_NoRow__init_ : FnScope N_NoRow__init_ ["self", "at"] (defScope S_NoRow__init_) := ⟨rfl, rfl, rfl, by decide +kernel, rfl, by decide +kernel, by decide +kernel⟩
abbrev S_Program_need : Stmt := (inClass (top 96) 2)
abbrev N_Program_need : List Str := ["self", "at"]
theorem SC_Program_need : FnScope N_Program_need ["self", "at"] (defScope S_Program_need) := ⟨rfl, rfl, rfl, by decide +kernel, rfl, by decide +kernel, by decide +kernel⟩
abbrev S_Program__getitem_ : Stmt := (inClass (top 96) 5)
abbrev N_Program__getitem_ : List Str := ["self", "at"]
theorem SC_Program__getitem_ : FnScope N_Program__getitem_ ["self", "at"] (defScope S_Program__getitem_) := ⟨rfl, rfl, rfl, by decide +kernel, rfl, by decide +kernel, by decide +kernel⟩
abbrev S_Program__len_ : Stmt := (inClass (top 96) 4)
abbrev N_Program__len_ : List Str := ["self"]
theorem SC_Program__len_ : FnScope N_Program__len_ ["self"] (defScope S_Program__len_) := ⟨rfl, rfl, rfl, by decide +kernel, rfl, by decide +kernel, by decide +kernel⟩
abbrev S__law_inner : Stmt := (top 107)
abbrev N__law_inner : List Str := ["_law_rows_here", "_law_found", "_law_row_here"]
theorem SC__law_inner : FnScope N__law_inner ["_law_rows_here"] (defScope S__law_inner) := ⟨rfl, rfl, rfl, by decide +kernel, rfl, by decide +kernel, by decide +kernel⟩
abbrev S__law_made : Stmt := (top 108)
abbrev N__law_made : List Str := ["_law_rows_here", "_law_found", "_law_row_here", "_law_a", "_law_b", "_law_c", "_law_d"]
theorem SC__law_made : FnScope N__law_made ["_law_rows_here"] (defScope S__law_made) := ⟨rfl, rfl, rfl, by decide +kernel, rfl, by decide +kernel, by decide +kernel⟩
abbrev S__law_bounded : Stmt := (top 109)
abbrev N__law_bounded : List Str := ["_law_rows_here", "_law_most", "_law_least", "_law_found", "_law_row_here"]
theorem SC__law_bounded : FnScope N__law_bounded ["_law_rows_here", "_law_most", "_law_least"] (defScope S__law_bounded) := ⟨rfl, rfl, rfl, by decide +kernel, rfl, by decide +kernel, by decide +kernel⟩
abbrev S__law_program : Stmt := (top 111)
abbrev N__law_program : List Str := ["_law_deal_here", "_law_world_here", "_law_most"]
theorem SC__law_program : FnScope N__law_program ["_law_deal_here", "_law_world_here", "_law_most"] (defScope S__law_program) := ⟨rfl, rfl, rfl, by decide +kernel, rfl, by decide +kernel, by decide +kernel⟩
abbrev S__law_program_of : Stmt := (top 117)
abbrev N__law_program_of : List Str := ["_law_notes", "_law_rows_here"]
theorem SC__law_program_of : FnScope N__law_program_of ["_law_notes", "_law_rows_here"] (defScope S__law_program_of) := ⟨rfl, rfl, rfl, by decide +kernel, rfl, by decide +kernel, by decide +kernel⟩
abbrev S__law_refused : Stmt := (top 118)
abbrev N__law_refused : List Str := ["_law_work", "_law_found", "e"]
theorem SC__law_refused : FnScope N__law_refused ["_law_work"] (defScope S__law_refused) := ⟨rfl, rfl, rfl, by decide +kernel, rfl, by decide +kernel, by decide +kernel⟩
abbrev S__law_used : Stmt := (top 119)
abbrev N__law_used : List Str := ["_law_rows_here", "_law_found", "_law_row_here", "_law_test_here"]
theorem SC__law_used : FnScope N__law_used ["_law_rows_here"] (defScope S__law_used) := ⟨rfl, rfl, rfl, by decide +kernel, rfl, by decide +kernel, by decide +kernel⟩
abbrev S__law_told_right : Stmt := (top 120)
abbrev N__law_told_right : List Str := ["_law_program_here", "_law_notes", "_law_rows_here", "_law_inner_here", "_law_row_here", "_law_at"]
theorem SC__law_told_right : FnScope N__law_told_right ["_law_program_here", "_law_notes", "_law_rows_here"] (defScope S__law_told_right) := ⟨rfl, rfl, rfl, by decide +kernel, rfl, by decide +kernel, by decide +kernel⟩
abbrev S__law_wrong_notes : Stmt := (top 121)
abbrev N__law_wrong_notes : List Str := ["_law_deal_here", "_law_odd", "_law_some"]
theorem SC__law_wrong_notes : FnScope N__law_wrong_notes ["_law_deal_here"] (defScope S__law_wrong_notes) := ⟨rfl, rfl, rfl, by decide +kernel, rfl, by decide +kernel, by decide +kernel⟩
abbrev S__law_twice_right : Stmt := (top 122)
abbrev N__law_twice_right : List Str := ["_law_notes", "_law_rows_here", "_law_lot", "_law_some"]
theorem SC__law_twice_right : FnScope N__law_twice_right ["_law_notes", "_law_rows_here"] (defScope S__law_twice_right) := ⟨rfl, rfl, rfl, by decide +kernel, rfl, by decide +kernel, by decide +kernel⟩
abbrev S_law : Stmt := (top 123)
abbrev N_law : List Str := ["_law_script", "_law_deal_here", "_law_turn", "_law_world_here", "_law_more", "_law_rows_here", "_law_other", "_law_some", "_law_handed", "_law_program_here", "_law_again", "_law_two", "_law_size", "_law_odd", "_law_wrong", "_law_rest", "_law_used_here", "_law_due", "_law_name_here", "_law_pair"]
theorem SC_law : FnScope N_law ["_law_script"] (defScope S_law) := ⟨rfl, rfl, rfl, by decide +kernel, rfl, by decide +kernel, by decide +kernel⟩
structure Txt (K : PySem.W.Frag) (mg : Str → Option Value) : Prop where
  b_ValueError : mg "ValueError" = none
  b_abs : mg "abs" = none
  b_all : mg "all" = none
  b_any : mg "any" = none
  b_bool : mg "bool" = none
  b_enumerate : mg "enumerate" = none
  b_int : mg "int" = none
  b_isinstance : mg "isinstance" = none
  b_len : mg "len" = none
  b_list : mg "list" = none
  b_max : mg "max" = none
  b_min : mg "min" = none
  b_range : mg "range" = none
  b_repr : mg "repr" = none
  b_sorted : mg "sorted" = none
  b_str : mg "str" = none
  b_sum : mg "sum" = none
  b_super : mg "super" = none
  b_tuple : mg "tuple" = none
  b_zip : mg "zip" = none
namespace Pg
def letters : Str := "abcdefghijklmnopqrstuvwxyz"
/-- the classes -/
structure Clz where
  make : Addr
  exch : Addr
  lay : Addr
  put : Addr
  add : Addr
  tell : Addr
  stop : Addr
  ifb : Addr
  untl : Addr
  longer : Addr
  shorter : Addr
  alike : Addr
  holds : Addr
  not : Addr
  row : Addr
  test : Addr
  part : Addr
  change : Addr
/-- the names of attributes -/
def fnames : List Str := ["script", "used", "note", "number", "mark", "change", "test", "rows", "others", "goal"]
def pclz (K : PySem.W.Frag) : Clz := ⟨He.ga K "Make", He.ga K "Exchange", He.ga K "Lay", He.ga K "Put", He.ga K "Add", He.ga K "Tell", He.ga K "Stop", He.ga K "If", He.ga K "Until", He.ga K "Longer", He.ga K "Shorter", He.ga K "Alike", He.ga K "Holds", He.ga K "Not", He.ga K "Row", He.ga K "Test", He.ga K "Part", He.ga K "Change"⟩
def conB (K : PySem.W.Frag) (C : Addr) (z : Str) : Bool := match PySem.W.findIn K (.ref C) "SORT" with
  | some (some (.str y t)) => decide (y = z) && decide (PySem.W.specialIn K (.str y t) "__get__" = some none)
  | _ => false
def riB (K : PySem.W.Frag) (c : Clz) (C : Addr) (sort : Str) (ir : Bool) : Bool := insB K C && (fnames.all (fun f => decide (PySem.W.findIn K (.ref C) f = some none)) && (conB K C sort && (decide (PySem.W.kitOne K (.ref C) (.ref c.row) = some ir) && (decide (PySem.W.kitOne K (.ref C) (.ref c.test) = some (!ir)) &&
  (decide (PySem.W.kitOne K (.ref C) (.ref c.part) = some true) && (decide (PySem.W.kitOne K (.ref C) (.ref c.change) = some false) && decide (PySem.W.kitOne K (.ref C) (.ref c.make) = some (decide (C = c.make)))))))))
def rowCs (c : Clz) : List Addr := [c.make, c.exch, c.lay, c.put, c.add, c.tell, c.stop, c.ifb, c.untl]
def flatCs (c : Clz) : List Addr := [c.make, c.exch, c.lay, c.put, c.add, c.tell, c.stop]
def idleCs (c : Clz) : List Addr := [c.make, c.exch, c.put, c.add, c.tell]
def testCs (c : Clz) : List Addr := [c.longer, c.shorter, c.alike, c.holds, c.not]
def meB (K : PySem.W.Frag) (m : Str) (f : Addr) (Cs : List Addr) : Bool := Cs.all fun C => mtB K C m f
def neB (K : PySem.W.Frag) (Cs : List Addr) : Bool := Cs.all fun C => decide (PySem.W.findIn K (.ref C) "__ne__" = some (some (.builtin "object.__ne__"))) && decide (PySem.W.subIn K (.ref C) (.type "object") = some true)
def nfB (K : PySem.W.Frag) (Cs : List Addr) : Bool := Cs.all fun C => PySem.W.notFirst K C (.type "str") && (PySem.W.notFirst K C (.type "int") && Cs.all fun D => PySem.W.notFirst K C (.ref D))
def fmB (K : PySem.W.Frag) (Cs : List Addr) : Bool := Cs.all fun C => decide (PySem.W.findIn K (.ref C) "__format__" = some (some (.builtin "object.__format__"))) && decide (PySem.W.subIn K (.ref C) (.type "object") = some true)
/-- the class of changes -/
def chB (K : PySem.W.Frag) (C : Addr) : Bool := insB K C && (decide (PySem.W.findIn K (.ref C) "numbers" = some none) && (decide (PySem.W.findIn K (.ref C) "turn" = some none) && (PySem.W.notFirst K C (.ref C) && neB K [C])))
def apartB (c : Clz) : Bool := decide [c.make, c.exch, c.lay, c.put, c.add, c.tell, c.stop, c.ifb, c.untl, c.longer, c.shorter, c.alike, c.holds, c.not].Nodup
/-- classes that are each their own kind alone -/
def kiB (K : PySem.W.Frag) (Cs : List Addr) : Bool := (List.range Cs.length).all fun i => (List.range Cs.length).all fun j => decide (PySem.W.kitOne K (.ref (Cs.getD i 0)) (.ref (Cs.getD j 0)) = some (decide (i = j)))
/-- a class without these attributes -/
def insNoB (K : PySem.W.Frag) (C : Addr) (fs : List Str) : Bool := insB K C && fs.all fun f => decide (PySem.W.findIn K (.ref C) f = some none)
/-- a tuple of ints -/
def isIs4 : List Int → List Value → Bool
  | [], [] => true
  | i :: is, .int j _ :: vs => decide (i = j) && isIs4 is vs
  | _, _ => false
/-- two defaults, both the empty tuple -/
def dfl1 (K : PySem.W.Frag) (f : Addr) : Addr := tupRef K (fyDfl K f) 1
def isRef2 : List Value → Bool
  | [.ref _, .ref _] => true
  | _ => false
def dfl2B (K : PySem.W.Frag) (f : Addr) : Bool := tupB K (fyDfl K f) isRef2 && (tupB K (dfl0 K f) isE && tupB K (dfl1 K f) isE)
end Pg
section
open Pg
--@@EARLY
abbrev P0 : Program := (PySem.Challenge.rw_unmarked_k38_programs_made).prog
def zf0 : List (PySem.W.Frag → Bool) := [fun K => freeB K "ValueError",
  fun K => freeB K "abs",
  fun K => freeB K "all",
  fun K => freeB K "any",
  fun K => freeB K "bool",
  fun K => freeB K "enumerate",
  fun K => freeB K "int",
  fun K => freeB K "isinstance",
  fun K => freeB K "len",
  fun K => freeB K "list",
  fun K => freeB K "max",
  fun K => freeB K "min",
  fun K => freeB K "range",
  fun K => freeB K "repr",
  fun K => freeB K "sorted",
  fun K => freeB K "str",
  fun K => freeB K "sum",
  fun K => freeB K "super",
  fun K => freeB K "tuple",
  fun K => freeB K "zip",
  fun K => gloB K "law",
  fun K => PySem.W.keepIn K (.ref (He.ga K "law")),
  fun K => tabB K "law",
  fun K => riB K (pclz K) (pclz K).make "make" true,
  fun K => riB K (pclz K) (pclz K).exch "exchange" true,
  fun K => riB K (pclz K) (pclz K).lay "lay" true,
  fun K => riB K (pclz K) (pclz K).put "put" true,
  fun K => riB K (pclz K) (pclz K).add "add" true,
  fun K => riB K (pclz K) (pclz K).tell "tell" true,
  fun K => riB K (pclz K) (pclz K).stop "stop" true,
  fun K => riB K (pclz K) (pclz K).ifb "if" true,
  fun K => riB K (pclz K) (pclz K).untl "until" true,
  fun K => riB K (pclz K) (pclz K).longer "longer" false,
  fun K => riB K (pclz K) (pclz K).shorter "shorter" false,
  fun K => riB K (pclz K) (pclz K).alike "alike" false,
  fun K => riB K (pclz K) (pclz K).holds "holds" false,
  fun K => riB K (pclz K) (pclz K).not "not" false,
  fun K => gloB K "Row",
  fun K => gloB K "Test",
  fun K => gloB K "Part"]
def zf1 : List (PySem.W.Frag → Bool) := [fun K => gloB K "Make",
  fun K => apartB (pclz K),
  fun K => chB K (pclz K).change,
  fun K => gloB K "Change",
  fun K => strB K "LETTERS" letters,
  fun K => intB K "MOST_LETTERS" 4,
  fun K => gloB K "BARRED",
  fun K => tupB K (He.ga K "BARRED") (isStrs ["not", "is"]),
  fun K => gloB K "UnmarkedError",
  fun K => PySem.W.readsIn K (He.ga K "UnmarkedError") (.type "type"),
  fun K => decide (PySem.W.specialIn K (.ref (He.ga K "UnmarkedError")) "__getattribute__" = some (some (.builtin "type.__getattribute__"))),
  fun K => clsB K (He.ga K "UnmarkedError") "__init__" (.builtin "ValueError.__init__"),
  fun K => errB K (He.ga K "InvalidRow") (He.ga K "UnmarkedError"),
  fun K => decide (PySem.W.findIn K (.ref (He.ga K "InvalidRow")) "__setattr__" = some (some (.builtin "object.__setattr__"))),
  fun K => decide (PySem.W.subIn K (.ref (He.ga K "InvalidRow")) (.type "BaseException") = some true),
  fun K => decide (PySem.W.typeIn K (.ref (He.ga K "InvalidRow")) = some (.type "type")),
  fun K => PySem.W.keepIn K (.ref (He.ga K "InvalidRow")),
  fun K => PySem.W.keepIn K (.ref (He.ma K (He.ga K "InvalidRow") "__init__")),
  fun K => decide (PySem.W.findIn K (.ref (He.ga K "InvalidRow")) "__init__" = some (some (.ref (He.ma K (He.ga K "InvalidRow") "__init__")))),
  fun K => decide (PySem.W.typeIn K (.ref (He.ma K (He.ga K "InvalidRow") "__init__")) = some (.type "function")),
  fun K => decide (PySem.W.findIn K (.ref (He.ga K "InvalidRow")) "part" = some none),
  fun K => gloB K "InvalidRow",
  fun K => errB K (He.ga K "InvalidChange") (He.ga K "UnmarkedError"),
  fun K => decide (PySem.W.findIn K (.ref (He.ga K "InvalidChange")) "__setattr__" = some (some (.builtin "object.__setattr__"))),
  fun K => decide (PySem.W.subIn K (.ref (He.ga K "InvalidChange")) (.type "BaseException") = some true),
  fun K => decide (PySem.W.typeIn K (.ref (He.ga K "InvalidChange")) = some (.type "type")),
  fun K => PySem.W.keepIn K (.ref (He.ga K "InvalidChange")),
  fun K => PySem.W.keepIn K (.ref (He.ma K (He.ga K "InvalidChange") "__init__")),
  fun K => decide (PySem.W.findIn K (.ref (He.ga K "InvalidChange")) "__init__" = some (some (.ref (He.ma K (He.ga K "InvalidChange") "__init__")))),
  fun K => decide (PySem.W.typeIn K (.ref (He.ma K (He.ga K "InvalidChange") "__init__")) = some (.type "function")),
  fun K => gloB K "InvalidChange",
  fun K => PySem.W.keepIn K (.ref (He.ga K "is_integer")),
  fun K => gloB K "is_integer",
  fun K => PySem.W.keepIn K (.ref (He.ga K "is_name")),
  fun K => gloB K "is_name",
  fun K => PySem.W.keepIn K (.ref (He.ga K "need_name")),
  fun K => gloB K "need_name",
  fun K => PySem.W.keepIn K (.ref (He.ga K "need_number")),
  fun K => gloB K "need_number",
  fun K => PySem.W.keepIn K (.ref (He.ga K "need_test"))]
def zf2 : List (PySem.W.Frag → Bool) := [fun K => gloB K "need_test",
  fun K => PySem.W.keepIn K (.ref (He.ga K "need_rows")),
  fun K => gloB K "need_rows",
  fun K => PySem.W.keepIn K (.ref (He.ma K (He.ga K "Part") "__init__")),
  fun K => dflB K (He.ma K (He.ga K "Part") "__init__"),
  fun K => gloB K "GOALS_rows",
  fun K => tupB K (He.ga K "GOALS_rows") (isStrs ["alike", "longer", "shorter"]),
  fun K => PySem.W.keepIn K (.ref (He.ma K (He.ga K "Part") "__str__")),
  fun K => meB K "__str__" (He.ma K (He.ga K "Part") "__str__") (testCs (pclz K)),
  fun K => fmB K (testCs (pclz K)),
  fun K => PySem.W.keepIn K (.ref (He.ma K (He.ga K "Exchange") "__init__")),
  fun K => supB K (He.ga K "Exchange") (He.ma K (He.ga K "Exchange") "__init__") P0.main.file,
  fun K => supMB K (He.ga K "Exchange") "__init__" (He.ma K (He.ga K "Part") "__init__"),
  fun K => mkB K (He.ga K "Exchange") (He.ma K (He.ga K "Exchange") "__init__"),
  fun K => gloB K "Exchange",
  fun K => PySem.W.keepIn K (.ref (He.ma K (He.ga K "Lay") "__init__")),
  fun K => supB K (He.ga K "Lay") (He.ma K (He.ga K "Lay") "__init__") P0.main.file,
  fun K => supMB K (He.ga K "Lay") "__init__" (He.ma K (He.ga K "Part") "__init__"),
  fun K => mkB K (He.ga K "Lay") (He.ma K (He.ga K "Lay") "__init__"),
  fun K => gloB K "Lay",
  fun K => PySem.W.keepIn K (.ref (He.ma K (He.ga K "Stop") "__init__")),
  fun K => supB K (He.ga K "Stop") (He.ma K (He.ga K "Stop") "__init__") P0.main.file,
  fun K => supMB K (He.ga K "Stop") "__init__" (He.ma K (He.ga K "Part") "__init__"),
  fun K => mkB K (He.ga K "Stop") (He.ma K (He.ga K "Stop") "__init__"),
  fun K => gloB K "Stop",
  fun K => PySem.W.keepIn K (.ref (He.ma K (He.ga K "Longer") "__init__")),
  fun K => supB K (He.ga K "Longer") (He.ma K (He.ga K "Longer") "__init__") P0.main.file,
  fun K => supMB K (He.ga K "Longer") "__init__" (He.ma K (He.ga K "Part") "__init__"),
  fun K => mkB K (He.ga K "Longer") (He.ma K (He.ga K "Longer") "__init__"),
  fun K => gloB K "Longer",
  fun K => PySem.W.keepIn K (.ref (He.ma K (He.ga K "Shorter") "__init__")),
  fun K => supB K (He.ga K "Shorter") (He.ma K (He.ga K "Shorter") "__init__") P0.main.file,
  fun K => supMB K (He.ga K "Shorter") "__init__" (He.ma K (He.ga K "Part") "__init__"),
  fun K => mkB K (He.ga K "Shorter") (He.ma K (He.ga K "Shorter") "__init__"),
  fun K => gloB K "Shorter",
  fun K => PySem.W.keepIn K (.ref (He.ma K (He.ga K "Alike") "__init__")),
  fun K => supB K (He.ga K "Alike") (He.ma K (He.ga K "Alike") "__init__") P0.main.file,
  fun K => supMB K (He.ga K "Alike") "__init__" (He.ma K (He.ga K "Part") "__init__"),
  fun K => mkB K (He.ga K "Alike") (He.ma K (He.ga K "Alike") "__init__"),
  fun K => gloB K "Alike"]
def zf3 : List (PySem.W.Frag → Bool) := [fun K => PySem.W.keepIn K (.ref (He.ma K (He.ga K "Put") "__init__")),
  fun K => supB K (He.ga K "Put") (He.ma K (He.ga K "Put") "__init__") P0.main.file,
  fun K => supMB K (He.ga K "Put") "__init__" (He.ma K (He.ga K "Part") "__init__"),
  fun K => mkB K (He.ga K "Put") (He.ma K (He.ga K "Put") "__init__"),
  fun K => gloB K "Put",
  fun K => PySem.W.keepIn K (.ref (He.ma K (He.ga K "Add") "__init__")),
  fun K => supB K (He.ga K "Add") (He.ma K (He.ga K "Add") "__init__") P0.main.file,
  fun K => supMB K (He.ga K "Add") "__init__" (He.ma K (He.ga K "Part") "__init__"),
  fun K => mkB K (He.ga K "Add") (He.ma K (He.ga K "Add") "__init__"),
  fun K => gloB K "Add",
  fun K => PySem.W.keepIn K (.ref (He.ma K (He.ga K "Holds") "__init__")),
  fun K => supB K (He.ga K "Holds") (He.ma K (He.ga K "Holds") "__init__") P0.main.file,
  fun K => supMB K (He.ga K "Holds") "__init__" (He.ma K (He.ga K "Part") "__init__"),
  fun K => mkB K (He.ga K "Holds") (He.ma K (He.ga K "Holds") "__init__"),
  fun K => gloB K "Holds",
  fun K => supMB K (He.ga K "Tell") "__init__" (He.ma K (He.ga K "Part") "__init__"),
  fun K => PySem.W.keepIn K (.ref (He.ma K (He.ga K "Tell") "__init__")),
  fun K => supB K (He.ga K "Tell") (He.ma K (He.ga K "Tell") "__init__") P0.main.file,
  fun K => mkB K (He.ga K "Tell") (He.ma K (He.ga K "Tell") "__init__"),
  fun K => gloB K "Tell",
  fun K => supMB K (He.ga K "Not") "__init__" (He.ma K (He.ga K "Part") "__init__"),
  fun K => PySem.W.keepIn K (.ref (He.ma K (He.ga K "Not") "__init__")),
  fun K => supB K (He.ga K "Not") (He.ma K (He.ga K "Not") "__init__") P0.main.file,
  fun K => mkB K (He.ga K "Not") (He.ma K (He.ga K "Not") "__init__"),
  fun K => gloB K "Not",
  fun K => PySem.W.keepIn K (.ref (He.ma K (He.ga K "Change") "__str__")),
  fun K => mtB K (He.ga K "Change") "__str__" (He.ma K (He.ga K "Change") "__str__"),
  fun K => fmB K [(pclz K).change],
  fun K => supMB K (He.ga K "Make") "__init__" (He.ma K (He.ga K "Part") "__init__"),
  fun K => PySem.W.keepIn K (.ref (He.ma K (He.ga K "Make") "__init__")),
  fun K => supB K (He.ga K "Make") (He.ma K (He.ga K "Make") "__init__") P0.main.file,
  fun K => mkB K (He.ga K "Make") (He.ma K (He.ga K "Make") "__init__"),
  fun K => PySem.W.keepIn K (.ref (He.ma K (He.ga K "Change") "__init__")),
  fun K => mkB K (He.ga K "Change") (He.ma K (He.ga K "Change") "__init__"),
  fun K => PySem.W.keepIn K (.ref (He.ga K "lines_of")),
  fun K => gloB K "lines_of",
  fun K => PySem.W.keepIn K (.ref (He.ma K (He.ga K "Row") "inner")),
  fun K => PySem.W.keepIn K (.ref (He.ma K (He.ga K "If") "inner")),
  fun K => PySem.W.keepIn K (.ref (He.ma K (He.ga K "Until") "inner")),
  fun K => PySem.W.keepIn K (.ref (He.ga K "inner_rows"))]
def zf4 : List (PySem.W.Frag → Bool) := [fun K => meB K "inner" (He.ma K (He.ga K "Row") "inner") (flatCs (pclz K)),
  fun K => mtB K (He.ga K "If") "inner" (He.ma K (He.ga K "If") "inner"),
  fun K => mtB K (He.ga K "Until") "inner" (He.ma K (He.ga K "Until") "inner"),
  fun K => gloB K "inner_rows",
  fun K => PySem.W.keepIn K (.ref (He.ma K (He.ga K "Row") "is_laying")),
  fun K => PySem.W.keepIn K (.ref (He.ma K (He.ga K "Lay") "is_laying")),
  fun K => PySem.W.keepIn K (.ref (He.ma K (He.ga K "Stop") "is_laying")),
  fun K => PySem.W.keepIn K (.ref (He.ma K (He.ga K "If") "is_laying")),
  fun K => PySem.W.keepIn K (.ref (He.ma K (He.ga K "Until") "is_laying")),
  fun K => PySem.W.keepIn K (.ref (He.ga K "has_laying")),
  fun K => meB K "is_laying" (He.ma K (He.ga K "Row") "is_laying") (idleCs (pclz K)),
  fun K => mtB K (He.ga K "Lay") "is_laying" (He.ma K (He.ga K "Lay") "is_laying"),
  fun K => mtB K (He.ga K "Stop") "is_laying" (He.ma K (He.ga K "Stop") "is_laying"),
  fun K => mtB K (He.ga K "If") "is_laying" (He.ma K (He.ga K "If") "is_laying"),
  fun K => mtB K (He.ga K "Until") "is_laying" (He.ma K (He.ga K "Until") "is_laying"),
  fun K => gloB K "has_laying",
  fun K => PySem.W.keepIn K (.ref (He.ga K "has_make")),
  fun K => gloB K "has_make",
  fun K => PySem.W.keepIn K (.ref (He.ma K (He.ga K "If") "__init__")),
  fun K => supB K (He.ga K "If") (He.ma K (He.ga K "If") "__init__") P0.main.file,
  fun K => dflB K (He.ma K (He.ga K "If") "__init__"),
  fun K => supMB K (He.ga K "If") "__init__" (He.ma K (He.ga K "Part") "__init__"),
  fun K => mkB K (He.ga K "If") (He.ma K (He.ga K "If") "__init__"),
  fun K => gloB K "If",
  fun K => PySem.W.keepIn K (.ref (He.ma K (He.ga K "Until") "__init__")),
  fun K => supB K (He.ga K "Until") (He.ma K (He.ga K "Until") "__init__") P0.main.file,
  fun K => supMB K (He.ga K "Until") "__init__" (He.ma K (He.ga K "Part") "__init__"),
  fun K => mkB K (He.ga K "Until") (He.ma K (He.ga K "Until") "__init__"),
  fun K => gloB K "Until",
  fun K => PySem.W.keepIn K (.ref (He.ma K (He.ga K "Part") "__eq__")),
  fun K => meB K "__eq__" (He.ma K (He.ga K "Part") "__eq__") (rowCs (pclz K)),
  fun K => meB K "__eq__" (He.ma K (He.ga K "Part") "__eq__") (testCs (pclz K)),
  fun K => neB K (rowCs (pclz K)),
  fun K => neB K (testCs (pclz K)),
  fun K => nfB K (rowCs (pclz K)),
  fun K => nfB K (testCs (pclz K)),
  fun K => meB K "__str__" (He.ma K (He.ga K "Part") "__str__") (rowCs (pclz K)),
  fun K => PySem.W.keepIn K (.ref (He.ga K "_law_draw")),
  fun K => gloB K "_law_draw",
  fun K => PySem.W.keepIn K (.ref (He.ga K "_law_pick"))]
def zf5 : List (PySem.W.Frag → Bool) := [fun K => gloB K "_law_pick",
  fun K => PySem.W.keepIn K (.ref (He.ga K "_law_deal")),
  fun K => gloB K "_law_deal",
  fun K => PySem.W.keepIn K (.ref (He.ga K "_law_name")),
  fun K => gloB K "_law_name",
  fun K => PySem.W.keepIn K (.ref (He.ga K "_law_number")),
  fun K => gloB K "_law_number",
  fun K => PySem.W.keepIn K (.ref (He.ga K "_law_change")),
  fun K => gloB K "_law_change",
  fun K => PySem.W.keepIn K (.ref (He.ga K "_law_world")),
  fun K => gloB K "_law_world",
  fun K => PySem.W.keepIn K (.ref (He.ga K "_law_test")),
  fun K => gloB K "_law_test",
  fun K => PySem.W.keepIn K (.ref (He.ga K "_law_row")),
  fun K => PySem.W.keepIn K (.ref (He.ga K "_law_rows")),
  fun K => gloB K "_law_row",
  fun K => gloB K "_law_rows",
  fun K => PySem.W.keepIn K (.ref (He.ga K "_law_test_text")),
  fun K => PySem.W.keepIn K (.ref (He.ga K "_law_lines")),
  fun K => gloB K "_law_test_text",
  fun K => gloB K "_law_lines",
  fun K => PySem.W.keepIn K (.ref (He.ga K "_law_test_of")),
  fun K => PySem.W.keepIn K (.ref (He.ga K "_law_row_of")),
  fun K => PySem.W.keepIn K (.ref (He.ga K "_law_rows_of")),
  fun K => gloB K "_law_test_of",
  fun K => gloB K "_law_row_of",
  fun K => gloB K "_law_rows_of",
  fun K => errB K (He.ga K "NoNote") (He.ga K "UnmarkedError"),
  fun K => decide (PySem.W.findIn K (.ref (He.ga K "NoNote")) "__setattr__" = some (some (.builtin "object.__setattr__"))),
  fun K => decide (PySem.W.subIn K (.ref (He.ga K "NoNote")) (.type "BaseException") = some true),
  fun K => decide (PySem.W.typeIn K (.ref (He.ga K "NoNote")) = some (.type "type")),
  fun K => PySem.W.keepIn K (.ref (He.ga K "NoNote")),
  fun K => PySem.W.keepIn K (.ref (He.ma K (He.ga K "NoNote") "__init__")),
  fun K => decide (PySem.W.findIn K (.ref (He.ga K "NoNote")) "__init__" = some (some (.ref (He.ma K (He.ga K "NoNote") "__init__")))),
  fun K => decide (PySem.W.typeIn K (.ref (He.ma K (He.ga K "NoNote") "__init__")) = some (.type "function")),
  fun K => decide (PySem.W.findIn K (.ref (He.ga K "NoNote")) "name" = some none),
  fun K => gloB K "NoNote",
  fun K => kiB K (rowCs (pclz K)),
  fun K => kiB K (testCs (pclz K)),
  fun K => strB K "DO" "do"]
def zf6 : List (PySem.W.Frag → Bool) := [fun K => strB K "TEST" "test",
  fun K => strB K "LOOK" "look",
  fun K => strB K "GO" "go",
  fun K => gloB K "MODULI",
  fun K => tupB K (He.ga K "MODULI") (isIs4 [2, 3, 4]),
  fun K => insNoB K (He.ga K "Program") ["notes", "rows", "numbered", "steps"],
  fun K => PySem.W.keepIn K (.ref (He.ga K "is_note")),
  fun K => gloB K "is_note",
  fun K => PySem.W.keepIn K (.ref (He.ga K "need_notes")),
  fun K => gloB K "need_notes",
  fun K => PySem.W.keepIn K (.ref (He.ga K "laid_out")),
  fun K => PySem.W.keepIn K (.ref (He.ga K "steps_of_row")),
  fun K => gloB K "laid_out",
  fun K => gloB K "steps_of_row",
  fun K => PySem.W.keepIn K (.ref (He.ga K "steps_of")),
  fun K => gloB K "steps_of",
  fun K => PySem.W.keepIn K (.ref (He.ma K (He.ga K "Program") "__init__")),
  fun K => dfl2B K (He.ma K (He.ga K "Program") "__init__"),
  fun K => mkB K (He.ga K "Program") (He.ma K (He.ga K "Program") "__init__"),
  fun K => gloB K "Program",
  fun K => PySem.W.keepIn K (.ref (He.ga K "_law_inner")),
  fun K => gloB K "_law_inner",
  fun K => PySem.W.keepIn K (.ref (He.ga K "_law_made")),
  fun K => gloB K "_law_made",
  fun K => PySem.W.keepIn K (.ref (He.ga K "_law_bounded")),
  fun K => gloB K "_law_bounded",
  fun K => PySem.W.keepIn K (.ref (He.ma K (He.ga K "Program") "__eq__")),
  fun K => mtB K (He.ga K "Program") "__eq__" (He.ma K (He.ga K "Program") "__eq__"),
  fun K => PySem.W.keepIn K (.ref (He.ma K (He.ga K "Program") "__str__")),
  fun K => mtB K (He.ga K "Program") "__str__" (He.ma K (He.ga K "Program") "__str__"),
  fun K => neB K [(He.ga K "Program")],
  fun K => PySem.W.notFirst K (He.ga K "Program") (.ref (He.ga K "Program")),
  fun K => PySem.W.notFirst K (He.ga K "Program") (.type "str"),
  fun K => decide (PySem.W.kitOne K (.type "str") (.ref (He.ga K "Program")) = some false),
  fun K => errB K (He.ga K "NoRow") (He.ga K "UnmarkedError"),
  fun K => decide (PySem.W.findIn K (.ref (He.ga K "NoRow")) "__setattr__" = some (some (.builtin "object.__setattr__"))),
  fun K => decide (PySem.W.subIn K (.ref (He.ga K "NoRow")) (.type "BaseException") = some true),
  fun K => decide (PySem.W.typeIn K (.ref (He.ga K "NoRow")) = some (.type "type")),
  fun K => PySem.W.keepIn K (.ref (He.ga K "NoRow")),
  fun K => PySem.W.keepIn K (.ref (He.ma K (He.ga K "NoRow") "__init__"))]
def zf7 : List (PySem.W.Frag → Bool) := [fun K => decide (PySem.W.findIn K (.ref (He.ga K "NoRow")) "__init__" = some (some (.ref (He.ma K (He.ga K "NoRow") "__init__")))),
  fun K => decide (PySem.W.typeIn K (.ref (He.ma K (He.ga K "NoRow") "__init__")) = some (.type "function")),
  fun K => decide (PySem.W.findIn K (.ref (He.ga K "NoRow")) "at" = some none),
  fun K => gloB K "NoRow",
  fun K => decide (PySem.W.findIn K (.ref (He.ga K "NoRow")) "__getattribute__" = some (some (.builtin "BaseException.__getattribute__"))),
  fun K => decide (PySem.W.findIn K (.ref (He.ga K "NoRow")) "__getattr__" = some none),
  fun K => PySem.W.hasDictIn K (He.ga K "NoRow"),
  fun K => decide (PySem.W.findIn K (.ref (He.ga K "NoRow")) "__class__" = some (some (.builtin "object.__class__"))),
  fun K => decide (PySem.W.specialIn K (.builtin "object.__class__") "__get__" = some (some (.builtin "getset_descriptor.__get__"))),
  fun K => decide (PySem.W.takesIn K (.builtin "object.__class__") = some true),
  fun K => decide (PySem.W.mroIn K (He.ga K "NoRow") (.type "object") = some true),
  fun K => decide (PySem.W.findIn K (.ref (He.ga K "NoNote")) "__getattribute__" = some (some (.builtin "BaseException.__getattribute__"))),
  fun K => decide (PySem.W.findIn K (.ref (He.ga K "NoNote")) "__getattr__" = some none),
  fun K => PySem.W.hasDictIn K (He.ga K "NoNote"),
  fun K => decide (PySem.W.findIn K (.ref (He.ga K "NoNote")) "__class__" = some (some (.builtin "object.__class__"))),
  fun K => decide (PySem.W.mroIn K (He.ga K "NoNote") (.type "object") = some true),
  fun K => decide (PySem.W.findIn K (.ref (He.ga K "InvalidRow")) "__getattribute__" = some (some (.builtin "BaseException.__getattribute__"))),
  fun K => decide (PySem.W.findIn K (.ref (He.ga K "InvalidRow")) "__getattr__" = some none),
  fun K => PySem.W.hasDictIn K (He.ga K "InvalidRow"),
  fun K => decide (PySem.W.findIn K (.ref (He.ga K "InvalidRow")) "__class__" = some (some (.builtin "object.__class__"))),
  fun K => decide (PySem.W.mroIn K (He.ga K "InvalidRow") (.type "object") = some true),
  fun K => PySem.W.keepIn K (.ref (He.ma K (He.ga K "Program") "need")),
  fun K => mtB K (He.ga K "Program") "need" (He.ma K (He.ga K "Program") "need"),
  fun K => PySem.W.keepIn K (.ref (He.ma K (He.ga K "Program") "__len__")),
  fun K => mtB K (He.ga K "Program") "__len__" (He.ma K (He.ga K "Program") "__len__"),
  fun K => PySem.W.keepIn K (.ref (He.ma K (He.ga K "Program") "__getitem__")),
  fun K => mtB K (He.ga K "Program") "__getitem__" (He.ma K (He.ga K "Program") "__getitem__"),
  fun K => decide (PySem.W.findIn K (.ref (He.ga K "Program")) "__getitem__" = some (some (.ref (He.ma K (He.ga K "Program") "__getitem__")))),
  fun K => PySem.W.fnIn K (He.ma K (He.ga K "Program") "__getitem__"),
  fun K => PySem.W.keepIn K (.ref (He.ga K "_law_refused")),
  fun K => decide (PySem.W.exmOne K (.ref (He.ga K "NoRow")) (.ref (He.ga K "NoRow")) = some true),
  fun K => decide (PySem.W.exmOne K (.ref (He.ga K "NoNote")) (.ref (He.ga K "NoRow")) = some false),
  fun K => decide (PySem.W.exmOne K (.ref (He.ga K "NoNote")) (.ref (He.ga K "NoNote")) = some true),
  fun K => decide (PySem.W.exmOne K (.ref (He.ga K "InvalidRow")) (.ref (He.ga K "NoRow")) = some false),
  fun K => decide (PySem.W.exmOne K (.ref (He.ga K "InvalidRow")) (.ref (He.ga K "NoNote")) = some false),
  fun K => decide (PySem.W.exmOne K (.ref (He.ga K "InvalidRow")) (.ref (He.ga K "InvalidRow")) = some true),
  fun K => decide (PySem.W.kitOne K (.ref (He.ga K "NoRow")) (.ref (He.ga K "UnmarkedError")) = some true),
  fun K => decide (PySem.W.kitOne K (.ref (He.ga K "NoNote")) (.ref (He.ga K "UnmarkedError")) = some true),
  fun K => decide (PySem.W.kitOne K (.ref (He.ga K "InvalidRow")) (.ref (He.ga K "UnmarkedError")) = some true),
  fun K => gloB K "_law_refused"]
def zf8 : List (PySem.W.Frag → Bool) := [fun K => PySem.W.keepIn K (.ref (He.ga K "_law_program")),
  fun K => gloB K "_law_program",
  fun K => PySem.W.keepIn K (.ref (He.ga K "_law_program_of")),
  fun K => gloB K "_law_program_of",
  fun K => PySem.W.keepIn K (.ref (He.ga K "_law_used")),
  fun K => gloB K "_law_used",
  fun K => PySem.W.keepIn K (.ref (He.ga K "_law_wrong_notes")),
  fun K => gloB K "_law_wrong_notes",
  fun K => PySem.W.keepIn K (.ref (He.ga K "_law_told_right")),
  fun K => gloB K "_law_told_right",
  fun K => PySem.W.keepIn K (.ref (He.ga K "_law_twice_right")),
  fun K => gloB K "_law_twice_right"]
def zfs : List (PySem.W.Frag → Bool) := zf0 ++ (zf1 ++ (zf2 ++ (zf3 ++ (zf4 ++ (zf5 ++ (zf6 ++ (zf7 ++ (zf8))))))))
def zfF0 : List (PySem.W.Frag → Bool) := zf0 ++ (zf1 ++ (zf2 ++ (zf3)))
def zfF1 : List (PySem.W.Frag → Bool) := zf4 ++ (zf5 ++ (zf6 ++ (zf7 ++ (zf8))))
theorem zfs_eq : zfs = List.flatten [zfF0, zfF1] := by rfl
def zfD0 : List FY := [⟨fun K => (He.ga K "law"), "law", "law", S_law, 0⟩,
  ⟨fun K => (He.ma K (He.ga K "InvalidRow") "__init__"), "__init__", "InvalidRow.__init__", S_InvalidRow__init_, 0⟩,
  ⟨fun K => (He.ma K (He.ga K "InvalidChange") "__init__"), "__init__", "InvalidChange.__init__", S_InvalidChange__init_, 0⟩,
  ⟨fun K => (He.ga K "is_integer"), "is_integer", "is_integer", S_is_integer, 0⟩,
  ⟨fun K => (He.ga K "is_name"), "is_name", "is_name", S_is_name, 0⟩,
  ⟨fun K => (He.ga K "need_name"), "need_name", "need_name", S_need_name, 0⟩,
  ⟨fun K => (He.ga K "need_number"), "need_number", "need_number", S_need_number, 0⟩,
  ⟨fun K => (He.ga K "need_test"), "need_test", "need_test", S_need_test, 0⟩,
  ⟨fun K => (He.ga K "need_rows"), "need_rows", "need_rows", S_need_rows, 0⟩,
  ⟨fun K => (He.ma K (He.ga K "Part") "__init__"), "__init__", "Part.__init__", S_Part__init_, 2⟩,
  ⟨fun K => (He.ma K (He.ga K "Part") "__str__"), "__str__", "Part.__str__", S_Part__str_, 0⟩,
  ⟨fun K => (He.ma K (He.ga K "Exchange") "__init__"), "__init__", "Exchange.__init__", S_Exchange__init_, 1⟩,
  ⟨fun K => (He.ma K (He.ga K "Lay") "__init__"), "__init__", "Lay.__init__", S_Lay__init_, 1⟩,
  ⟨fun K => (He.ma K (He.ga K "Stop") "__init__"), "__init__", "Stop.__init__", S_Stop__init_, 1⟩,
  ⟨fun K => (He.ma K (He.ga K "Longer") "__init__"), "__init__", "Longer.__init__", S_Longer__init_, 1⟩,
  ⟨fun K => (He.ma K (He.ga K "Shorter") "__init__"), "__init__", "Shorter.__init__", S_Shorter__init_, 1⟩,
  ⟨fun K => (He.ma K (He.ga K "Alike") "__init__"), "__init__", "Alike.__init__", S_Alike__init_, 1⟩,
  ⟨fun K => (He.ma K (He.ga K "Put") "__init__"), "__init__", "Put.__init__", S_Put__init_, 1⟩,
  ⟨fun K => (He.ma K (He.ga K "Add") "__init__"), "__init__", "Add.__init__", S_Add__init_, 1⟩,
  ⟨fun K => (He.ma K (He.ga K "Holds") "__init__"), "__init__", "Holds.__init__", S_Holds__init_, 1⟩,
  ⟨fun K => (He.ma K (He.ga K "Tell") "__init__"), "__init__", "Tell.__init__", S_Tell__init_, 1⟩,
  ⟨fun K => (He.ma K (He.ga K "Not") "__init__"), "__init__", "Not.__init__", S_Not__init_, 1⟩,
  ⟨fun K => (He.ma K (He.ga K "Change") "__str__"), "__str__", "Change.__str__", S_Change__str_, 0⟩,
  ⟨fun K => (He.ma K (He.ga K "Make") "__init__"), "__init__", "Make.__init__", S_Make__init_, 1⟩,
  ⟨fun K => (He.ma K (He.ga K "Change") "__init__"), "__init__", "Change.__init__", S_Change__init_, 0⟩,
  ⟨fun K => (He.ga K "lines_of"), "lines_of", "lines_of", S_lines_of, 0⟩]
def zfD1 : List FY := [⟨fun K => (He.ma K (He.ga K "Row") "inner"), "inner", "Row.inner", S_Row_inner, 0⟩,
  ⟨fun K => (He.ma K (He.ga K "If") "inner"), "inner", "If.inner", S_If_inner, 0⟩,
  ⟨fun K => (He.ma K (He.ga K "Until") "inner"), "inner", "Until.inner", S_Until_inner, 0⟩,
  ⟨fun K => (He.ga K "inner_rows"), "inner_rows", "inner_rows", S_inner_rows, 0⟩,
  ⟨fun K => (He.ma K (He.ga K "Row") "is_laying"), "is_laying", "Row.is_laying", S_Row_is_laying, 0⟩,
  ⟨fun K => (He.ma K (He.ga K "Lay") "is_laying"), "is_laying", "Lay.is_laying", S_Lay_is_laying, 0⟩,
  ⟨fun K => (He.ma K (He.ga K "Stop") "is_laying"), "is_laying", "Stop.is_laying", S_Stop_is_laying, 0⟩,
  ⟨fun K => (He.ma K (He.ga K "If") "is_laying"), "is_laying", "If.is_laying", S_If_is_laying, 0⟩,
  ⟨fun K => (He.ma K (He.ga K "Until") "is_laying"), "is_laying", "Until.is_laying", S_Until_is_laying, 0⟩,
  ⟨fun K => (He.ga K "has_laying"), "has_laying", "has_laying", S_has_laying, 0⟩,
  ⟨fun K => (He.ga K "has_make"), "has_make", "has_make", S_has_make, 0⟩,
  ⟨fun K => (He.ma K (He.ga K "If") "__init__"), "__init__", "If.__init__", S_If__init_, 3⟩,
  ⟨fun K => (He.ma K (He.ga K "Until") "__init__"), "__init__", "Until.__init__", S_Until__init_, 1⟩,
  ⟨fun K => (He.ma K (He.ga K "Part") "__eq__"), "__eq__", "Part.__eq__", S_Part__eq_, 0⟩,
  ⟨fun K => (He.ga K "_law_draw"), "_law_draw", "_law_draw", S__law_draw, 0⟩,
  ⟨fun K => (He.ga K "_law_pick"), "_law_pick", "_law_pick", S__law_pick, 0⟩,
  ⟨fun K => (He.ga K "_law_deal"), "_law_deal", "_law_deal", S__law_deal, 0⟩,
  ⟨fun K => (He.ga K "_law_name"), "_law_name", "_law_name", S__law_name, 0⟩,
  ⟨fun K => (He.ga K "_law_number"), "_law_number", "_law_number", S__law_number, 0⟩,
  ⟨fun K => (He.ga K "_law_change"), "_law_change", "_law_change", S__law_change, 0⟩,
  ⟨fun K => (He.ga K "_law_world"), "_law_world", "_law_world", S__law_world, 0⟩,
  ⟨fun K => (He.ga K "_law_test"), "_law_test", "_law_test", S__law_test, 0⟩,
  ⟨fun K => (He.ga K "_law_row"), "_law_row", "_law_row", S__law_row, 0⟩,
  ⟨fun K => (He.ga K "_law_rows"), "_law_rows", "_law_rows", S__law_rows, 0⟩,
  ⟨fun K => (He.ga K "_law_test_text"), "_law_test_text", "_law_test_text", S__law_test_text, 0⟩,
  ⟨fun K => (He.ga K "_law_lines"), "_law_lines", "_law_lines", S__law_lines, 0⟩]
def zfD2 : List FY := [⟨fun K => (He.ga K "_law_test_of"), "_law_test_of", "_law_test_of", S__law_test_of, 0⟩,
  ⟨fun K => (He.ga K "_law_row_of"), "_law_row_of", "_law_row_of", S__law_row_of, 0⟩,
  ⟨fun K => (He.ga K "_law_rows_of"), "_law_rows_of", "_law_rows_of", S__law_rows_of, 0⟩,
  ⟨fun K => (He.ma K (He.ga K "NoNote") "__init__"), "__init__", "NoNote.__init__", S_NoNote__init_, 0⟩,
  ⟨fun K => (He.ga K "is_note"), "is_note", "is_note", S_is_note, 0⟩,
  ⟨fun K => (He.ga K "need_notes"), "need_notes", "need_notes", S_need_notes, 0⟩,
  ⟨fun K => (He.ga K "laid_out"), "laid_out", "laid_out", S_laid_out, 0⟩,
  ⟨fun K => (He.ga K "steps_of_row"), "steps_of_row", "steps_of_row", S_steps_of_row, 0⟩,
  ⟨fun K => (He.ga K "steps_of"), "steps_of", "steps_of", S_steps_of, 0⟩,
  ⟨fun K => (He.ma K (He.ga K "Program") "__init__"), "__init__", "Program.__init__", S_Program__init_, 2⟩,
  ⟨fun K => (He.ga K "_law_inner"), "_law_inner", "_law_inner", S__law_inner, 0⟩,
  ⟨fun K => (He.ga K "_law_made"), "_law_made", "_law_made", S__law_made, 0⟩,
  ⟨fun K => (He.ga K "_law_bounded"), "_law_bounded", "_law_bounded", S__law_bounded, 0⟩,
  ⟨fun K => (He.ma K (He.ga K "Program") "__eq__"), "__eq__", "Program.__eq__", S_Program__eq_, 0⟩,
  ⟨fun K => (He.ma K (He.ga K "Program") "__str__"), "__str__", "Program.__str__", S_Program__str_, 0⟩,
  ⟨fun K => (He.ma K (He.ga K "NoRow") "__init__"), "__init__", "NoRow.__init__", S_NoRow__init_, 0⟩,
  ⟨fun K => (He.ma K (He.ga K "Program") "need"), "need", "Program.need", S_Program_need, 0⟩,
  ⟨fun K => (He.ma K (He.ga K "Program") "__len__"), "__len__", "Program.__len__", S_Program__len_, 0⟩,
  ⟨fun K => (He.ma K (He.ga K "Program") "__getitem__"), "__getitem__", "Program.__getitem__", S_Program__getitem_, 0⟩,
  ⟨fun K => (He.ga K "_law_refused"), "_law_refused", "_law_refused", S__law_refused, 0⟩,
  ⟨fun K => (He.ga K "_law_program"), "_law_program", "_law_program", S__law_program, 0⟩,
  ⟨fun K => (He.ga K "_law_program_of"), "_law_program_of", "_law_program_of", S__law_program_of, 0⟩,
  ⟨fun K => (He.ga K "_law_used"), "_law_used", "_law_used", S__law_used, 0⟩,
  ⟨fun K => (He.ga K "_law_wrong_notes"), "_law_wrong_notes", "_law_wrong_notes", S__law_wrong_notes, 0⟩,
  ⟨fun K => (He.ga K "_law_told_right"), "_law_told_right", "_law_told_right", S__law_told_right, 0⟩,
  ⟨fun K => (He.ga K "_law_twice_right"), "_law_twice_right", "_law_twice_right", S__law_twice_right, 0⟩]
def zfn : List FY := [⟨fun K => (He.ga K "law"), "law", "law", S_law, 0⟩,
  ⟨fun K => (He.ma K (He.ga K "InvalidRow") "__init__"), "__init__", "InvalidRow.__init__", S_InvalidRow__init_, 0⟩,
  ⟨fun K => (He.ma K (He.ga K "InvalidChange") "__init__"), "__init__", "InvalidChange.__init__", S_InvalidChange__init_, 0⟩,
  ⟨fun K => (He.ga K "is_integer"), "is_integer", "is_integer", S_is_integer, 0⟩,
  ⟨fun K => (He.ga K "is_name"), "is_name", "is_name", S_is_name, 0⟩,
  ⟨fun K => (He.ga K "need_name"), "need_name", "need_name", S_need_name, 0⟩,
  ⟨fun K => (He.ga K "need_number"), "need_number", "need_number", S_need_number, 0⟩,
  ⟨fun K => (He.ga K "need_test"), "need_test", "need_test", S_need_test, 0⟩,
  ⟨fun K => (He.ga K "need_rows"), "need_rows", "need_rows", S_need_rows, 0⟩,
  ⟨fun K => (He.ma K (He.ga K "Part") "__init__"), "__init__", "Part.__init__", S_Part__init_, 2⟩,
  ⟨fun K => (He.ma K (He.ga K "Part") "__str__"), "__str__", "Part.__str__", S_Part__str_, 0⟩,
  ⟨fun K => (He.ma K (He.ga K "Exchange") "__init__"), "__init__", "Exchange.__init__", S_Exchange__init_, 1⟩,
  ⟨fun K => (He.ma K (He.ga K "Lay") "__init__"), "__init__", "Lay.__init__", S_Lay__init_, 1⟩,
  ⟨fun K => (He.ma K (He.ga K "Stop") "__init__"), "__init__", "Stop.__init__", S_Stop__init_, 1⟩,
  ⟨fun K => (He.ma K (He.ga K "Longer") "__init__"), "__init__", "Longer.__init__", S_Longer__init_, 1⟩,
  ⟨fun K => (He.ma K (He.ga K "Shorter") "__init__"), "__init__", "Shorter.__init__", S_Shorter__init_, 1⟩,
  ⟨fun K => (He.ma K (He.ga K "Alike") "__init__"), "__init__", "Alike.__init__", S_Alike__init_, 1⟩,
  ⟨fun K => (He.ma K (He.ga K "Put") "__init__"), "__init__", "Put.__init__", S_Put__init_, 1⟩,
  ⟨fun K => (He.ma K (He.ga K "Add") "__init__"), "__init__", "Add.__init__", S_Add__init_, 1⟩,
  ⟨fun K => (He.ma K (He.ga K "Holds") "__init__"), "__init__", "Holds.__init__", S_Holds__init_, 1⟩,
  ⟨fun K => (He.ma K (He.ga K "Tell") "__init__"), "__init__", "Tell.__init__", S_Tell__init_, 1⟩,
  ⟨fun K => (He.ma K (He.ga K "Not") "__init__"), "__init__", "Not.__init__", S_Not__init_, 1⟩,
  ⟨fun K => (He.ma K (He.ga K "Change") "__str__"), "__str__", "Change.__str__", S_Change__str_, 0⟩,
  ⟨fun K => (He.ma K (He.ga K "Make") "__init__"), "__init__", "Make.__init__", S_Make__init_, 1⟩,
  ⟨fun K => (He.ma K (He.ga K "Change") "__init__"), "__init__", "Change.__init__", S_Change__init_, 0⟩,
  ⟨fun K => (He.ga K "lines_of"), "lines_of", "lines_of", S_lines_of, 0⟩,
  ⟨fun K => (He.ma K (He.ga K "Row") "inner"), "inner", "Row.inner", S_Row_inner, 0⟩,
  ⟨fun K => (He.ma K (He.ga K "If") "inner"), "inner", "If.inner", S_If_inner, 0⟩,
  ⟨fun K => (He.ma K (He.ga K "Until") "inner"), "inner", "Until.inner", S_Until_inner, 0⟩,
  ⟨fun K => (He.ga K "inner_rows"), "inner_rows", "inner_rows", S_inner_rows, 0⟩,
  ⟨fun K => (He.ma K (He.ga K "Row") "is_laying"), "is_laying", "Row.is_laying", S_Row_is_laying, 0⟩,
  ⟨fun K => (He.ma K (He.ga K "Lay") "is_laying"), "is_laying", "Lay.is_laying", S_Lay_is_laying, 0⟩,
  ⟨fun K => (He.ma K (He.ga K "Stop") "is_laying"), "is_laying", "Stop.is_laying", S_Stop_is_laying, 0⟩,
  ⟨fun K => (He.ma K (He.ga K "If") "is_laying"), "is_laying", "If.is_laying", S_If_is_laying, 0⟩,
  ⟨fun K => (He.ma K (He.ga K "Until") "is_laying"), "is_laying", "Until.is_laying", S_Until_is_laying, 0⟩,
  ⟨fun K => (He.ga K "has_laying"), "has_laying", "has_laying", S_has_laying, 0⟩,
  ⟨fun K => (He.ga K "has_make"), "has_make", "has_make", S_has_make, 0⟩,
  ⟨fun K => (He.ma K (He.ga K "If") "__init__"), "__init__", "If.__init__", S_If__init_, 3⟩,
  ⟨fun K => (He.ma K (He.ga K "Until") "__init__"), "__init__", "Until.__init__", S_Until__init_, 1⟩,
  ⟨fun K => (He.ma K (He.ga K "Part") "__eq__"), "__eq__", "Part.__eq__", S_Part__eq_, 0⟩,
  ⟨fun K => (He.ga K "_law_draw"), "_law_draw", "_law_draw", S__law_draw, 0⟩,
  ⟨fun K => (He.ga K "_law_pick"), "_law_pick", "_law_pick", S__law_pick, 0⟩,
  ⟨fun K => (He.ga K "_law_deal"), "_law_deal", "_law_deal", S__law_deal, 0⟩,
  ⟨fun K => (He.ga K "_law_name"), "_law_name", "_law_name", S__law_name, 0⟩,
  ⟨fun K => (He.ga K "_law_number"), "_law_number", "_law_number", S__law_number, 0⟩,
  ⟨fun K => (He.ga K "_law_change"), "_law_change", "_law_change", S__law_change, 0⟩,
  ⟨fun K => (He.ga K "_law_world"), "_law_world", "_law_world", S__law_world, 0⟩,
  ⟨fun K => (He.ga K "_law_test"), "_law_test", "_law_test", S__law_test, 0⟩,
  ⟨fun K => (He.ga K "_law_row"), "_law_row", "_law_row", S__law_row, 0⟩,
  ⟨fun K => (He.ga K "_law_rows"), "_law_rows", "_law_rows", S__law_rows, 0⟩,
  ⟨fun K => (He.ga K "_law_test_text"), "_law_test_text", "_law_test_text", S__law_test_text, 0⟩,
  ⟨fun K => (He.ga K "_law_lines"), "_law_lines", "_law_lines", S__law_lines, 0⟩,
  ⟨fun K => (He.ga K "_law_test_of"), "_law_test_of", "_law_test_of", S__law_test_of, 0⟩,
  ⟨fun K => (He.ga K "_law_row_of"), "_law_row_of", "_law_row_of", S__law_row_of, 0⟩,
  ⟨fun K => (He.ga K "_law_rows_of"), "_law_rows_of", "_law_rows_of", S__law_rows_of, 0⟩,
  ⟨fun K => (He.ma K (He.ga K "NoNote") "__init__"), "__init__", "NoNote.__init__", S_NoNote__init_, 0⟩,
  ⟨fun K => (He.ga K "is_note"), "is_note", "is_note", S_is_note, 0⟩,
  ⟨fun K => (He.ga K "need_notes"), "need_notes", "need_notes", S_need_notes, 0⟩,
  ⟨fun K => (He.ga K "laid_out"), "laid_out", "laid_out", S_laid_out, 0⟩,
  ⟨fun K => (He.ga K "steps_of_row"), "steps_of_row", "steps_of_row", S_steps_of_row, 0⟩,
  ⟨fun K => (He.ga K "steps_of"), "steps_of", "steps_of", S_steps_of, 0⟩,
  ⟨fun K => (He.ma K (He.ga K "Program") "__init__"), "__init__", "Program.__init__", S_Program__init_, 2⟩,
  ⟨fun K => (He.ga K "_law_inner"), "_law_inner", "_law_inner", S__law_inner, 0⟩,
  ⟨fun K => (He.ga K "_law_made"), "_law_made", "_law_made", S__law_made, 0⟩,
  ⟨fun K => (He.ga K "_law_bounded"), "_law_bounded", "_law_bounded", S__law_bounded, 0⟩,
  ⟨fun K => (He.ma K (He.ga K "Program") "__eq__"), "__eq__", "Program.__eq__", S_Program__eq_, 0⟩,
  ⟨fun K => (He.ma K (He.ga K "Program") "__str__"), "__str__", "Program.__str__", S_Program__str_, 0⟩,
  ⟨fun K => (He.ma K (He.ga K "NoRow") "__init__"), "__init__", "NoRow.__init__", S_NoRow__init_, 0⟩,
  ⟨fun K => (He.ma K (He.ga K "Program") "need"), "need", "Program.need", S_Program_need, 0⟩,
  ⟨fun K => (He.ma K (He.ga K "Program") "__len__"), "__len__", "Program.__len__", S_Program__len_, 0⟩,
  ⟨fun K => (He.ma K (He.ga K "Program") "__getitem__"), "__getitem__", "Program.__getitem__", S_Program__getitem_, 0⟩,
  ⟨fun K => (He.ga K "_law_refused"), "_law_refused", "_law_refused", S__law_refused, 0⟩,
  ⟨fun K => (He.ga K "_law_program"), "_law_program", "_law_program", S__law_program, 0⟩,
  ⟨fun K => (He.ga K "_law_program_of"), "_law_program_of", "_law_program_of", S__law_program_of, 0⟩,
  ⟨fun K => (He.ga K "_law_used"), "_law_used", "_law_used", S__law_used, 0⟩,
  ⟨fun K => (He.ga K "_law_wrong_notes"), "_law_wrong_notes", "_law_wrong_notes", S__law_wrong_notes, 0⟩,
  ⟨fun K => (He.ga K "_law_told_right"), "_law_told_right", "_law_told_right", S__law_told_right, 0⟩,
  ⟨fun K => (He.ga K "_law_twice_right"), "_law_twice_right", "_law_twice_right", S__law_twice_right, 0⟩]
theorem zfn_eq : zfn = List.flatten [zfD0, zfD1, zfD2] := by rfl
def zts : List TabU := [(fun K => (He.ga K "GOALS_steps"), ["alike", "longer", "shorter"])]
--@@RUNS
/-- the run looked at in parts -/
theorem zparts {S B : Type} {X : Option S} {lk : S → Bool} {sn : S → B} {Kf : S → PySem.W.Frag} {good : B} {fs : List (PySem.W.Frag → Bool)} {fn : List FY} {Fs : List (List (PySem.W.Frag → Bool))} {Ds : List (List FY)} (ef : fs = Fs.flatten) (ed : fn = Ds.flatten)
    (h1 : X.map (fun s => (lk s, sn s)) = some (true, good)) (h2 : ∀ F ∈ Fs, X.map (fun s => F.all fun f => f (Kf s)) = some true) (h3 : ∀ D ∈ Ds, X.map (fun s => (D.all (fun d => fyCode (Kf s) (d.at_ (Kf s)) d.qual d.mode), D.map fun d => fyObs (Kf s) (d.at_ (Kf s)))) = some (true, D.map FY.val)) :
    X.map (fun s => (lk s, sn s, obsY fs fn (Kf s))) = some (true, good, valY fn) := by
  subst ef
  subst ed
  cases X with
  | none => cases h1
  | some s =>
    have e1 := Prod.mk.inj (Option.some.inj h1)
    have e2 : (Fs.flatten.all fun f => f (Kf s)) = true := by
      rw [List.all_eq_true]
      intro f hf
      obtain ⟨F, hF, hm⟩ := List.mem_flatten.mp hf
      exact List.all_eq_true.mp (Option.some.inj (h2 F hF)) f hm
    have e3 : (Ds.flatten.all fun d => fyCode (Kf s) (d.at_ (Kf s)) d.qual d.mode) = true := by
      rw [List.all_eq_true]
      intro d hd
      obtain ⟨D, hD, hm⟩ := List.mem_flatten.mp hd
      exact List.all_eq_true.mp (Prod.mk.inj (Option.some.inj (h3 D hD))).1 d hm
    have e4 : (Ds.flatten.map fun d => fyObs (Kf s) (d.at_ (Kf s))) = Ds.flatten.map FY.val := List.map_congr_left fun d hd => by
      obtain ⟨D, hD, hm⟩ := List.mem_flatten.mp hd
      exact List.map_inj_left.mp (Prod.mk.inj (Option.some.inj (h3 D hD))).2 d hm
    show some (lk s, sn s, obsY Fs.flatten Ds.flatten (Kf s)) = _
    unfold obsY valY
    rw [e1.1, e1.2, e2, e3, e4]
    rfl
def zl0 : List PySem.Str := ["_wall", "__name__", "UnmarkedError", "InvalidRatio", "InvalidChange", "InvalidRow", "InvalidProgram", "NoPair", "NoRow", "NoNote", "Mismatch", "LETTERS", "DIGITS", "BARRED", "MOST_LETTERS", "MOST_DIGITS_signs", "is_integer", "is_length", "is_name", "number_of", "common_length", "word_of_lengths", "Ratio", "SAME", "EXCHANGE", "lengths_made", "numbers_joined", "Change", "GOALS_rows", "need_name"]
def zl1 : List PySem.Str := ["need_number", "need_test", "need_rows", "Part", "Row", "Test", "Make", "Exchange", "Lay", "Put", "Add", "Tell", "Stop", "If", "Until", "Longer", "Shorter", "Alike", "Holds", "Not", "lines_of", "inner_rows", "has_laying", "has_make", "MOST_DIGITS_rowreader", "number_in", "change_of", "test_of", "plain_test", "note_row"]
def zl2 : List PySem.Str := ["row_of", "Block", "Reader", "read_lines", "DO", "TEST", "LOOK", "GO", "MARK", "ROW", "LONGER", "SHORTER", "ALIKE", "GOALS_steps", "laid_out", "steps_of_row", "steps_of", "order_of", "wants_order", "Stepper", "Outcome", "need_lengths", "run", "MODULI", "is_note", "need_notes", "remaining", "left_of", "Program", "_law_deal"]
def zl3 : List PySem.Str := ["_law_draw", "_law_pick", "_law_name", "_law_number", "_law_change", "_law_test", "_law_row", "_law_rows", "_law_inner", "_law_made", "_law_bounded", "_law_world", "_law_program", "_law_test_text", "_law_lines", "_law_test_of", "_law_row_of", "_law_rows_of", "_law_program_of", "_law_refused", "_law_used", "_law_told_right", "_law_wrong_notes", "_law_twice_right"]
def zls : List PySem.Str := zl0 ++ (zl1 ++ (zl2 ++ (zl3)))
abbrev zhk : PySem.W.Hook := hookU 5 zfs zfn zts
def zob (s : PySem.W.SharedT) : AlU := obsUG 5 zfs zfn zts (HandSHeadRun.getT s)
theorem zob_eq (s : PySem.W.SharedT) : zob s = zhk.obs s.abs := obsUG_eq (HandSHeadRun.getT_eq s)
abbrev zK (s : PySem.W.SharedT) : PySem.W.Frag := He.frG (HandSHeadRun.getT s) (asY (HandSHeadRun.getT s) 5)
theorem zpair {S A B : Type} {X : Option S} {f : S → A} {g : S → B} {a : A} {b : B} (h1 : X.map f = some a) (h2 : X.map g = some b) : X.map (fun s => (f s, g s)) = some (a, b) := by
  cases X with
  | none => cases h1
  | some s => exact congrArg some (Prod.ext (Option.some.inj h1) (Option.some.inj h2))
open PySem.W PySem.Calls in
abbrev zrunL_P (w : World) : Prop := ∀ os : OsState, (HandSHeadRun.endF (HandSHeadRun.stepQ (HandSHeadRun.denQ HandSHeadRun.tabQ) (PySem.W.OpenLaw.row PySem.Challenge.rw_unmarked_k38_programs_made).prog w) 20000 (PySem.W.OpenLaw.row PySem.Challenge.rw_unmarked_k38_programs_made).prog w os).map (fun s => HandSHeadRun.looksF (PySem.W.OpenLaw.row PySem.Challenge.rw_unmarked_k38_programs_made).prog (boot_heap w.params) s.abs) = some true
open PySem.W PySem.Calls in
theorem zrunL_t (w : World) : zrunL_P (setF w true) := by
  intro os
  kernel_rfl
open PySem.W PySem.Calls in
theorem zrunL_f (w : World) : zrunL_P (setF w false) := by
  intro os
  kernel_rfl
open PySem.W PySem.Calls in
theorem zrunL (w : World) (os : OsState) : (HandSHeadRun.endF (HandSHeadRun.stepQ (HandSHeadRun.denQ HandSHeadRun.tabQ) (PySem.W.OpenLaw.row PySem.Challenge.rw_unmarked_k38_programs_made).prog w) 20000 (PySem.W.OpenLaw.row PySem.Challenge.rw_unmarked_k38_programs_made).prog w os).map (fun s => HandSHeadRun.looksF (PySem.W.OpenLaw.row PySem.Challenge.rw_unmarked_k38_programs_made).prog (boot_heap w.params) s.abs) = some true := byF (P := zrunL_P) zrunL_t zrunL_f w os
open PySem.W PySem.Calls in
abbrev zrunS_P (w : World) : Prop := ∀ os : OsState, (HandSHeadRun.endF (HandSHeadRun.stepQ (HandSHeadRun.denQ HandSHeadRun.tabQ) (PySem.W.OpenLaw.row PySem.Challenge.rw_unmarked_k38_programs_made).prog w) 20000 (PySem.W.OpenLaw.row PySem.Challenge.rw_unmarked_k38_programs_made).prog w os).map (fun s => HandSHeadRun.seenQ (view (PySem.W.OpenLaw.row PySem.Challenge.rw_unmarked_k38_programs_made).prog [123]) zls (importedModules (PySem.W.OpenLaw.row PySem.Challenge.rw_unmarked_k38_programs_made).prog.main.body) (fun s => xlAt (view (PySem.W.OpenLaw.row PySem.Challenge.rw_unmarked_k38_programs_made).prog [123]) [] s && recOk (PySem.W.OpenLaw.row PySem.Challenge.rw_unmarked_k38_programs_made).toRowW.records s) s.abs) = some (openGood (view (PySem.W.OpenLaw.row PySem.Challenge.rw_unmarked_k38_programs_made).prog [123]) zls)
open PySem.W PySem.Calls in
theorem zrunS_t (w : World) : zrunS_P (setF w true) := by
  intro os
  kernel_rfl
open PySem.W PySem.Calls in
theorem zrunS_f (w : World) : zrunS_P (setF w false) := by
  intro os
  kernel_rfl
open PySem.W PySem.Calls in
theorem zrunS (w : World) (os : OsState) : (HandSHeadRun.endF (HandSHeadRun.stepQ (HandSHeadRun.denQ HandSHeadRun.tabQ) (PySem.W.OpenLaw.row PySem.Challenge.rw_unmarked_k38_programs_made).prog w) 20000 (PySem.W.OpenLaw.row PySem.Challenge.rw_unmarked_k38_programs_made).prog w os).map (fun s => HandSHeadRun.seenQ (view (PySem.W.OpenLaw.row PySem.Challenge.rw_unmarked_k38_programs_made).prog [123]) zls (importedModules (PySem.W.OpenLaw.row PySem.Challenge.rw_unmarked_k38_programs_made).prog.main.body) (fun s => xlAt (view (PySem.W.OpenLaw.row PySem.Challenge.rw_unmarked_k38_programs_made).prog [123]) [] s && recOk (PySem.W.OpenLaw.row PySem.Challenge.rw_unmarked_k38_programs_made).toRowW.records s) s.abs) = some (openGood (view (PySem.W.OpenLaw.row PySem.Challenge.rw_unmarked_k38_programs_made).prog [123]) zls) := byF (P := zrunS_P) zrunS_t zrunS_f w os
open PySem.W PySem.Calls in
theorem zrun1 (w : World) (os : OsState) : (HandSHeadRun.endF (HandSHeadRun.stepQ (HandSHeadRun.denQ HandSHeadRun.tabQ) (PySem.W.OpenLaw.row PySem.Challenge.rw_unmarked_k38_programs_made).prog w) 20000 (PySem.W.OpenLaw.row PySem.Challenge.rw_unmarked_k38_programs_made).prog w os).map (fun s => (HandSHeadRun.looksF (PySem.W.OpenLaw.row PySem.Challenge.rw_unmarked_k38_programs_made).prog (boot_heap w.params) s.abs, HandSHeadRun.seenQ (view (PySem.W.OpenLaw.row PySem.Challenge.rw_unmarked_k38_programs_made).prog [123]) zls (importedModules (PySem.W.OpenLaw.row PySem.Challenge.rw_unmarked_k38_programs_made).prog.main.body) (fun s => xlAt (view (PySem.W.OpenLaw.row PySem.Challenge.rw_unmarked_k38_programs_made).prog [123]) [] s && recOk (PySem.W.OpenLaw.row PySem.Challenge.rw_unmarked_k38_programs_made).toRowW.records s) s.abs)) = some (true, openGood (view (PySem.W.OpenLaw.row PySem.Challenge.rw_unmarked_k38_programs_made).prog [123]) zls) := zpair (zrunL w os) (zrunS w os)
abbrev zrunF0_P (w : World) : Prop := ∀ os : OsState, (HandSHeadRun.endF (HandSHeadRun.stepQ (HandSHeadRun.denQ HandSHeadRun.tabQ) (PySem.W.OpenLaw.row PySem.Challenge.rw_unmarked_k38_programs_made).prog w) 20000 (PySem.W.OpenLaw.row PySem.Challenge.rw_unmarked_k38_programs_made).prog w os).map (fun s => zfF0.all fun f => f (zK s)) = some true
theorem zrunF0_t (w : World) : zrunF0_P (setF w true) := by
  intro os
  kernel_rfl
theorem zrunF0_f (w : World) : zrunF0_P (setF w false) := by
  intro os
  kernel_rfl
theorem zrunF0 (w : World) (os : OsState) : (HandSHeadRun.endF (HandSHeadRun.stepQ (HandSHeadRun.denQ HandSHeadRun.tabQ) (PySem.W.OpenLaw.row PySem.Challenge.rw_unmarked_k38_programs_made).prog w) 20000 (PySem.W.OpenLaw.row PySem.Challenge.rw_unmarked_k38_programs_made).prog w os).map (fun s => zfF0.all fun f => f (zK s)) = some true := byF (P := zrunF0_P) zrunF0_t zrunF0_f w os
abbrev zrunF1_P (w : World) : Prop := ∀ os : OsState, (HandSHeadRun.endF (HandSHeadRun.stepQ (HandSHeadRun.denQ HandSHeadRun.tabQ) (PySem.W.OpenLaw.row PySem.Challenge.rw_unmarked_k38_programs_made).prog w) 20000 (PySem.W.OpenLaw.row PySem.Challenge.rw_unmarked_k38_programs_made).prog w os).map (fun s => zfF1.all fun f => f (zK s)) = some true
theorem zrunF1_t (w : World) : zrunF1_P (setF w true) := by
  intro os
  kernel_rfl
theorem zrunF1_f (w : World) : zrunF1_P (setF w false) := by
  intro os
  kernel_rfl
theorem zrunF1 (w : World) (os : OsState) : (HandSHeadRun.endF (HandSHeadRun.stepQ (HandSHeadRun.denQ HandSHeadRun.tabQ) (PySem.W.OpenLaw.row PySem.Challenge.rw_unmarked_k38_programs_made).prog w) 20000 (PySem.W.OpenLaw.row PySem.Challenge.rw_unmarked_k38_programs_made).prog w os).map (fun s => zfF1.all fun f => f (zK s)) = some true := byF (P := zrunF1_P) zrunF1_t zrunF1_f w os
abbrev zrunD0_P (w : World) : Prop := ∀ os : OsState, (HandSHeadRun.endF (HandSHeadRun.stepQ (HandSHeadRun.denQ HandSHeadRun.tabQ) (PySem.W.OpenLaw.row PySem.Challenge.rw_unmarked_k38_programs_made).prog w) 20000 (PySem.W.OpenLaw.row PySem.Challenge.rw_unmarked_k38_programs_made).prog w os).map (fun s => (zfD0.all (fun d => fyCode (zK s) (d.at_ (zK s)) d.qual d.mode), zfD0.map fun d => fyObs (zK s) (d.at_ (zK s)))) = some (true, zfD0.map FY.val)
theorem zrunD0_t (w : World) : zrunD0_P (setF w true) := by
  intro os
  kernel_rfl
theorem zrunD0_f (w : World) : zrunD0_P (setF w false) := by
  intro os
  kernel_rfl
theorem zrunD0 (w : World) (os : OsState) : (HandSHeadRun.endF (HandSHeadRun.stepQ (HandSHeadRun.denQ HandSHeadRun.tabQ) (PySem.W.OpenLaw.row PySem.Challenge.rw_unmarked_k38_programs_made).prog w) 20000 (PySem.W.OpenLaw.row PySem.Challenge.rw_unmarked_k38_programs_made).prog w os).map (fun s => (zfD0.all (fun d => fyCode (zK s) (d.at_ (zK s)) d.qual d.mode), zfD0.map fun d => fyObs (zK s) (d.at_ (zK s)))) = some (true, zfD0.map FY.val) := byF (P := zrunD0_P) zrunD0_t zrunD0_f w os
abbrev zrunD1_P (w : World) : Prop := ∀ os : OsState, (HandSHeadRun.endF (HandSHeadRun.stepQ (HandSHeadRun.denQ HandSHeadRun.tabQ) (PySem.W.OpenLaw.row PySem.Challenge.rw_unmarked_k38_programs_made).prog w) 20000 (PySem.W.OpenLaw.row PySem.Challenge.rw_unmarked_k38_programs_made).prog w os).map (fun s => (zfD1.all (fun d => fyCode (zK s) (d.at_ (zK s)) d.qual d.mode), zfD1.map fun d => fyObs (zK s) (d.at_ (zK s)))) = some (true, zfD1.map FY.val)
theorem zrunD1_t (w : World) : zrunD1_P (setF w true) := by
  intro os
  kernel_rfl
theorem zrunD1_f (w : World) : zrunD1_P (setF w false) := by
  intro os
  kernel_rfl
theorem zrunD1 (w : World) (os : OsState) : (HandSHeadRun.endF (HandSHeadRun.stepQ (HandSHeadRun.denQ HandSHeadRun.tabQ) (PySem.W.OpenLaw.row PySem.Challenge.rw_unmarked_k38_programs_made).prog w) 20000 (PySem.W.OpenLaw.row PySem.Challenge.rw_unmarked_k38_programs_made).prog w os).map (fun s => (zfD1.all (fun d => fyCode (zK s) (d.at_ (zK s)) d.qual d.mode), zfD1.map fun d => fyObs (zK s) (d.at_ (zK s)))) = some (true, zfD1.map FY.val) := byF (P := zrunD1_P) zrunD1_t zrunD1_f w os
abbrev zrunD2_P (w : World) : Prop := ∀ os : OsState, (HandSHeadRun.endF (HandSHeadRun.stepQ (HandSHeadRun.denQ HandSHeadRun.tabQ) (PySem.W.OpenLaw.row PySem.Challenge.rw_unmarked_k38_programs_made).prog w) 20000 (PySem.W.OpenLaw.row PySem.Challenge.rw_unmarked_k38_programs_made).prog w os).map (fun s => (zfD2.all (fun d => fyCode (zK s) (d.at_ (zK s)) d.qual d.mode), zfD2.map fun d => fyObs (zK s) (d.at_ (zK s)))) = some (true, zfD2.map FY.val)
theorem zrunD2_t (w : World) : zrunD2_P (setF w true) := by
  intro os
  kernel_rfl
theorem zrunD2_f (w : World) : zrunD2_P (setF w false) := by
  intro os
  kernel_rfl
theorem zrunD2 (w : World) (os : OsState) : (HandSHeadRun.endF (HandSHeadRun.stepQ (HandSHeadRun.denQ HandSHeadRun.tabQ) (PySem.W.OpenLaw.row PySem.Challenge.rw_unmarked_k38_programs_made).prog w) 20000 (PySem.W.OpenLaw.row PySem.Challenge.rw_unmarked_k38_programs_made).prog w os).map (fun s => (zfD2.all (fun d => fyCode (zK s) (d.at_ (zK s)) d.qual d.mode), zfD2.map fun d => fyObs (zK s) (d.at_ (zK s)))) = some (true, zfD2.map FY.val) := byF (P := zrunD2_P) zrunD2_t zrunD2_f w os
abbrev zrunT_P (w : World) : Prop := ∀ os : OsState, (HandSHeadRun.endF (HandSHeadRun.stepQ (HandSHeadRun.denQ HandSHeadRun.tabQ) (PySem.W.OpenLaw.row PySem.Challenge.rw_unmarked_k38_programs_made).prog w) 20000 (PySem.W.OpenLaw.row PySem.Challenge.rw_unmarked_k38_programs_made).prog w os).map (fun s => zts.map fun t => He.dicW (zK s) (t.1 (zK s))) = some (zts.map fun t => some (He.keysIn w.params t.2))
theorem zrunT_t (w : World) : zrunT_P (setF w true) := by
  intro os
  kernel_rfl
theorem zrunT_f (w : World) : zrunT_P (setF w false) := by
  intro os
  kernel_rfl
theorem zrunT (w : World) (os : OsState) : (HandSHeadRun.endF (HandSHeadRun.stepQ (HandSHeadRun.denQ HandSHeadRun.tabQ) (PySem.W.OpenLaw.row PySem.Challenge.rw_unmarked_k38_programs_made).prog w) 20000 (PySem.W.OpenLaw.row PySem.Challenge.rw_unmarked_k38_programs_made).prog w os).map (fun s => zts.map fun t => He.dicW (zK s) (t.1 (zK s))) = some (zts.map fun t => some (He.keysIn w.params t.2)) := byF (P := zrunT_P) zrunT_t zrunT_f w os
set_option maxHeartbeats 0 in
theorem zrun (w : World) : HandSHeadRun.RunEq (PySem.W.OpenLaw.row PySem.Challenge.rw_unmarked_k38_programs_made) (PySem.W.view (PySem.W.OpenLaw.row PySem.Challenge.rw_unmarked_k38_programs_made).prog [123]) zhk zob 20000 zls w := by
  intro os
  have h := zparts (Kf := zK) zfs_eq zfn_eq (zrun1 w os) (List.forall_mem_cons.mpr ⟨zrunF0 w os, (List.forall_mem_cons.mpr ⟨zrunF1 w os, (fun _ h => nomatch h)⟩)⟩) (List.forall_mem_cons.mpr ⟨zrunD0 w os, (List.forall_mem_cons.mpr ⟨zrunD1 w os, (List.forall_mem_cons.mpr ⟨zrunD2 w os, (fun _ h => nomatch h)⟩)⟩)⟩)
  exact zpartsU (Kf := zK) h (zrunT w os)
end
/-! ## words -/
namespace Wd
def cd (b : Bool) : Nat := if b then 114 else 108
/-- the text of a word: true is r -/
def enc (u : List Bool) : Str := ⟨(u.map cd).toArray⟩
theorem enc_len (u : List Bool) : (enc u).length = u.length := by show (u.map cd).toArray.size = _; simp
/-- the lengths of a word -/
def pr : List Bool → Nat × Nat
  | [] => (1, 1)
  | b :: u => if b then ((pr u).1 + (pr u).2, (pr u).2) else ((pr u).1, (pr u).1 + (pr u).2)
end Wd
open Wd

local macro_rules | `(tactic| walk_at "kbs") => `(tactic| first | omega | decide | exact .inl ⟨by omega, by omega⟩ | exact .inr ⟨by omega, by omega⟩ | exact ⟨by omega, by omega⟩ | exact ⟨by decide, by decide, by decide⟩ | assumption | exact szl (by simp only [enc_len, List.length_cons, List.length_nil, List.length_append, List.length_replicate, List.length_take]; omega))
local macro_rules | `(tactic| walk_at "kb1") => `(tactic| first
  | refine ⟨_, rfl, ?_⟩
  | (refine ⟨_, _, rfl, rfl, ?_⟩; try refine And.intro (by walk_at "kbs") ?_)
  | refine ⟨_, _, _, _, rfl, rfl, (by first | assumption | exact SqL.of (by assumption) | exact SqT.of (by assumption)), rfl, ?_⟩
  | refine ⟨_, _, rfl, (show SqL _ _ _ _ ∨ SqT _ _ _ _ from by first | assumption | exact .inl (by assumption) | exact .inr (by assumption) | exact .inl (SqL.of (by assumption)) | exact .inr (SqT.of (by assumption))), ?_⟩
  | refine ⟨_, _, rfl, ?_⟩
  | refine And.intro (show scal _ _ = true from rfl) ?_
  | refine And.intro (by walk_at "kbs") ?_
  | refine And.intro ⟨_, rfl⟩ ?_)
local macro_rules | `(tactic| walk_at "kb") => `(tactic| repeat (walk_at "kb1"))

/-! ## draws of programs' laws -/
namespace Dr
/-- the deal: the dict and its list of great cells -/
abbrev Bx := Addr × Addr
def dealK (g : Addr) (nw sd : Int) : List (L2.Key × V) := [(.inr "great", .ref g), (.inr "now", .int nw), (.inr "seed", .int sd)]
def BoxAt (H : Hp) (B : Bx) : Prop := B.1 ≠ B.2 ∧ ∃ (ns : List Int) (nw sd : Int), H B.1 = some (.dK (dealK B.2 nw sd)) ∧ H B.2 = some (.lst (ns.map V.int)) ∧ (∀ n ∈ ns, 0 ≤ n) ∧ 0 ≤ nw ∧ 0 ≤ sd ∧ sd < 4294967296
def Keep (B : Bx) (H H' : Hp) : Prop := ∀ a o, a ≠ B.1 → a ≠ B.2 → H a = some o → H' a = some o
theorem Keep.refl (B : Bx) (H : Hp) : Keep B H H := fun _ _ _ _ h => h
theorem Keep.trans {B : Bx} {H H1 H2 : Hp} (x : Keep B H H1) (y : Keep B H1 H2) : Keep B H H2 := fun a o n m h => y a o n m (x a o n m h)
theorem Keep.same {B : Bx} {H H' : Hp} (x : Same H H') : Keep B H H' := fun a o _ _ h => x a o h
theorem Keep.upd1 (B : Bx) (H : Hp) (o : HO) : Keep B H (upd H B.1 o) := fun a u n _ h => by rw [upd_ne n]; exact h
theorem Keep.upd2 (B : Bx) (H : Hp) (o : HO) : Keep B H (upd H B.2 o) := fun a u _ n h => by rw [upd_ne n]; exact h
theorem ine {a b : Str} {v : V} (h : ¬ a = b) : ¬ ((.inr a : L2.Key), v).1 = .inr b := fun e => h (Sum.inr.inj e)
theorem dl_great (g : Addr) (nw sd : Int) : valV (dealK g nw sd) (.inr "great") = some (.ref g) := valV_pos rfl
theorem dl_now (g : Addr) (nw sd : Int) : valV (dealK g nw sd) (.inr "now") = some (.int nw) := (valV_neg (ine (by decide +kernel))).trans (valV_pos rfl)
theorem dl_seed (g : Addr) (nw sd : Int) : valV (dealK g nw sd) (.inr "seed") = some (.int sd) := (valV_neg (ine (by decide +kernel))).trans ((valV_neg (ine (by decide +kernel))).trans (valV_pos rfl))
theorem put_now (g : Addr) (nw sd x : Int) : putK (dealK g nw sd) (.inr "now") (.int x) = dealK g x sd := by
  unfold putK dealK
  simp [show ¬ ("great" : Str) = "now" from by decide +kernel, show ¬ ("seed" : Str) = "now" from by decide +kernel]
theorem put_seed (g : Addr) (nw sd x : Int) : putK (dealK g nw sd) (.inr "seed") (.int x) = dealK g nw x := by
  unfold putK dealK
  simp [show ¬ ("great" : Str) = "seed" from by decide +kernel, show ¬ ("now" : Str) = "seed" from by decide +kernel]
section
variable {H : Hp} {B : Bx} {nw sd : Int}
theorem getG (hb : H B.1 = some (.dK (dealK B.2 nw sd))) : DGet H B.1 (.str "great") (some (.ref B.2)) := dl_great B.2 nw sd ▸ DGet.k (k := .inr "great") hb
theorem getN (hb : H B.1 = some (.dK (dealK B.2 nw sd))) : DGet H B.1 (.str "now") (some (.int nw)) := dl_now B.2 nw sd ▸ DGet.k (k := .inr "now") hb
theorem getS (hb : H B.1 = some (.dK (dealK B.2 nw sd))) : DGet H B.1 (.str "seed") (some (.int sd)) := dl_seed B.2 nw sd ▸ DGet.k (k := .inr "seed") hb
theorem putN (x : Int) (hb : H B.1 = some (.dK (dealK B.2 nw sd))) : DPut H B.1 (.str "now") (.int x) (upd H B.1 (.dK (dealK B.2 x sd))) := .inl ⟨_, .inr "now", hb, rfl, by show 3 < sizeLine; decide, by rw [put_now]⟩
theorem putS (x : Int) (hb : H B.1 = some (.dK (dealK B.2 nw sd))) : DPut H B.1 (.str "seed") (.int x) (upd H B.1 (.dK (dealK B.2 nw x))) := .inl ⟨_, .inr "seed", hb, rfl, by show 3 < sizeLine; decide, by rw [put_seed]⟩
end
theorem BoxAt.n1 {H : Hp} {B : Bx} {p : Addr} (x : BoxAt H B) (h : H p = none) : p ≠ B.1 := fun e => by
  obtain ⟨_, ns, a, b, q, _⟩ := x
  rw [e, q] at h; cases h
theorem BoxAt.n2 {H : Hp} {B : Bx} {p : Addr} (x : BoxAt H B) (h : H p = none) : p ≠ B.2 := fun e => by
  obtain ⟨_, ns, a, b, _, q, _⟩ := x
  rw [e, q] at h; cases h
theorem BoxAt.keep {H H' : Hp} {B : Bx} (x : BoxAt H B) (h1 : ∀ o, H B.1 = some o → H' B.1 = some o) (h2 : ∀ o, H B.2 = some o → H' B.2 = some o) : BoxAt H' B := by
  obtain ⟨ne, ns, a, b, p, q, z⟩ := x
  exact ⟨ne, ns, a, b, h1 _ p, h2 _ q, z⟩
theorem BoxAt.same {H H' : Hp} {B : Bx} (x : BoxAt H B) (h : Same H H') : BoxAt H' B := x.keep (fun o => h _ o) fun o => h _ o
theorem Keep.free {B : Bx} {p : Addr} {H H' : Hp} (x : Keep B H H') (hb : BoxAt H' B) (h : H' p = none) : H p = none := by
  cases e : H p with
  | none => rfl
  | some o => rw [x p o (hb.n1 h) (hb.n2 h) e] at h; cases h
def sp_draw : Sp := fun vs H Q _ => ∃ (B : Bx) (m : Int), vs = [.ref B.1, .int m] ∧ BoxAt H B ∧ 0 < m ∧ m ≤ 1000000000000 ∧ ∀ (d : Int) (H' : Hp), 0 ≤ d → d < m → Keep B H H' → BoxAt H' B → Q (.int d) H'
def sp_deal (K : PySem.W.Frag) : Sp := fun vs H Q _ => ∃ (a : Addr) (ns : List Int) (b : Nat), vs = [.ref a, .int (b : Nat)] ∧ b ≤ 63 ∧ SqL K H a (ns.map V.int) ∧ ns.length ≤ 63 ∧ ∀ (B : Bx) (H' : Hp), H B.1 = none → H B.2 = none → Same H H' → BoxAt H' B → Q (.ref B.1) H'
def sp_pick (K : PySem.W.Frag) : Sp := fun vs H Q _ => ∃ (B : Bx) (l : Addr) (xs : List V), vs = [.ref B.1, .ref l] ∧ BoxAt H B ∧ l ≠ B.1 ∧ l ≠ B.2 ∧ (SqL K H l xs ∨ SqT K H l xs) ∧ 0 < xs.length ∧ xs.length ≤ 100000 ∧ ∀ (d : Nat) (v : V) (H' : Hp), xs[d]? = some v → Keep B H H' → BoxAt H' B → Q v H'
theorem cut_ints (ns : List Int) (lo hi : Option Int) : ∃ ms : List Int, cutV (ns.map V.int) lo hi = ms.map V.int ∧ ms.length ≤ ns.length := by
  unfold cutV
  refine ⟨_, by rw [← List.map_drop, ← List.map_take], ?_⟩
  rw [List.length_take, List.length_drop]; omega
end Dr
open Dr
section
variable {P : Program} {w : World} {K : PySem.W.Frag} {mg : Str → Option Value} {base : Heap}
theorem ok_draw {f : Addr} {fd : FuncData} (F : Fun K "_law_draw" "_law_draw" S__law_draw f fd) (T : Txt K mg) : FnOk P w K mg base CX0 1 f fd ["_law_deal_here", "_law_many"] sp_draw := by
  refine F.ok SC__law_draw (fun vs H Q E h => ?_) (fun cdv A outer s H vs Q E hr h => ?_)
  · obtain ⟨b, m, rfl, _⟩ := h
    rfl
  · obtain ⟨B, m, rfl, ⟨ne, ns, nw, sd, hb, hg, hn, hc, hs0, hs1⟩, m0, m1, k⟩ := h
    refine ⟨_, (pss_mid (ps_while PassesOwn.never (PW.pt (pw_and (pt_cmpR op_eq (pe_dget (hu_of hr) (pv 0) pe_str (fun _ _ => rfl)) pe_int (nomark _)) (pw_and1 (pt_cmpR op_gt (pe_callB call_len_seq (by rfl) T.b_len (by decide +kernel) (pa_cons (pe_dget (hu_of hr) (pv 0) pe_str (fun _ _ => rfl)) pa_nil)) pe_int (nomark _))))) (pss_one (ps_dput (hu_of hr) (pv 0) pe_str (pe_bm0 PySem.F.plainAttrs_list PySem.F.slot_list_pop PySem.F.type_list_pop mt_pop (pe_dget (hu_of hr) (pv 0) pe_str (fun _ _ => rfl))) rfl)))
      (pss_cons (ps_set (i := 2) SC__law_draw.nd rfl (.inl rfl) (pe_dget (hu_of hr) (pv 0) pe_str (fun _ _ => rfl)))
      (pss_cons (ps_if (pt_cmpR op_gt (pv 2) pe_int (nomark _)) (pss_cons (ps_dput (hu_of hr) (pv 0) pe_str (pe_op op_fdivW (pv 2) (pv 1)) rfl)
      (pss_one (ps_ret (pe_op op_mod (pe_callTy call_intI (by rfl) T.b_int (by decide +kernel) (pa_cons (pv 2) pa_nil)) (pv 1))))) pss_nil)
      (pss_cons (ps_set (i := 3) SC__law_draw.nd rfl (.inl rfl) (pe_op op_mod (pe_callTy call_intI (by rfl) T.b_int (by decide +kernel) (pa_cons (pe_op op_add (pe_op op_mul (pe_dget (hu_of hr) (pv 0) pe_str (fun _ _ => rfl)) pe_int) pe_int) pa_nil)) pe_int))
      (pss_cons (ps_dput (hu_of hr) (pv 0) pe_str (pe_op op_mod (pe_callTy call_intI (by rfl) T.b_int (by decide +kernel) (pa_cons (pe_op op_add (pe_op op_mul (pv 3) pe_int) pe_int) pa_nil)) pe_int) rfl)
      (pss_cons (ps_set (i := 4) SC__law_draw.nd rfl (.inl rfl) (pe_op op_mod (pe_callTy call_intI (by rfl) T.b_int (by decide +kernel) (pa_cons (pe_op op_mul (pe_dget (hu_of hr) (pv 0) pe_str (fun _ _ => rfl)) (pe_dget (hu_of hr) (pv 0) pe_str (fun _ _ => rfl))) pa_nil)) pe_int))
      (pss_one (ps_ret (pe_op op_mod (pe_callTy call_intI (by rfl) T.b_int (by decide +kernel) (pa_cons (pe_op op_add (pe_op op_mul (pe_op op_mod (pe_callTy call_intI (by rfl) T.b_int (by decide +kernel) (pa_cons (pe_op op_mul (pv 3) (pv 3)) pa_nil)) pe_int) pe_int) (pv 4)) pa_nil)) (pv 1)))))))))), ?_⟩
    refine ⟨fun σ H' => ∃ (ns : List Int) (nw : Int), Keep B H H' ∧ H' B.1 = some (.dK (dealK B.2 nw sd)) ∧ H' B.2 = some (.lst (ns.map V.int)) ∧ (∀ n ∈ ns, 0 ≤ n) ∧ 0 ≤ nw ∧ σ = [some (.ref B.1), some (.int m), none, none, none], ?_, fun σ1 H1 z => ?_⟩
    · refine while_by (fun σ H' => ∃ (ns : List Int) (nw : Int), Keep B H H' ∧ H' B.1 = some (.dK (dealK B.2 nw sd)) ∧ H' B.2 = some (.lst (ns.map V.int)) ∧ (∀ n ∈ ns, 0 ≤ n) ∧ 0 ≤ nw ∧ σ = [some (.ref B.1), some (.int m), none, none, none])
        (fun _ H' => match H' B.2 with | some (.lst xs) => xs.length | _ => 0) ⟨ns, nw, Keep.refl _ _, hb, hg, hn, hc, rfl⟩ (fun σ H1 hP => ?_) (fun σ H Q Q' h q => ?_)
      · obtain ⟨ns, nw, kp, hb, hg, hn, hc, rfl⟩ := hP
        refine ⟨_, rfl, B.1, _, rfl, getN hb, rfl, _, rfl, ?_⟩
        refine ite2 (fun c => ?_) (fun c => ?_)
        · refine ⟨_, rfl, B.1, _, rfl, getG hb, B.2, ns.map V.int, rfl, .inl (SqL.of hg), _, _, rfl, rfl, _, rfl, ?_⟩
          refine ite2 (fun c2 => ?_) (fun c2 => ?_)
          · have c2 : 0 < ns.length := by
              have := of_decide_eq_true c2
              rw [List.length_map] at this
              omega
            have nn : ns ≠ [] := fun e => by rw [e] at c2; cases c2
            refine ⟨_, rfl, B.1, _, rfl, getG hb, .inl ⟨rfl, _, SqL.of hg⟩, B.2, ns.map V.int, .int (ns.getLast nn), rfl, rfl, hg, ?_, ?_⟩
            · rw [List.length_map, List.getElem?_map, ← List.getLast?_eq_getElem?, List.getLast?_eq_some_getLast nn]; rfl
            · have hb' : (upd H1 B.2 (.lst (ns.map V.int).dropLast)) B.1 = some (.dK (dealK B.2 nw sd)) := by rw [upd_ne ne]; exact hb
              refine ⟨_, rfl, B.1, _, rfl, putN _ hb', ⟨ns.dropLast, _, kp.trans ((Keep.upd2 _ _ _).trans (Keep.upd1 _ _ _)), upd_same, ?_, fun n hm => hn n (List.dropLast_subset _ hm), hn _ (List.getLast_mem nn), rfl⟩, ?_⟩
              · rw [upd_ne ne.symm, upd_same, List.map_dropLast]
              · show (match upd (upd H1 B.2 _) B.1 _ B.2 with | some (.lst xs) => xs.length | _ => 0) < (match H1 B.2 with | some (.lst xs) => xs.length | _ => 0)
                rw [upd_ne ne.symm, upd_same, hg]
                show ((ns.map V.int).dropLast).length < (ns.map V.int).length
                rw [List.length_dropLast, List.length_map]; omega
          · exact ⟨ns, nw, kp, hb, hg, hn, hc, rfl⟩
        · refine ite2 (fun c2 => by cases c2) (fun _ => ?_)
          exact ⟨ns, nw, kp, hb, hg, hn, hc, rfl⟩
      · obtain ⟨v, e, x, vv, ex, g, sc, b, eb, q⟩ := q
        refine ⟨v, e, x, vv, ex, g, sc, b, eb, ?_⟩
        cases b with
        | false => exact h _ _ q
        | true =>
          rw [if_pos rfl] at q ⊢
          obtain ⟨v2, e2, x2, vv2, ex2, g2, p3, ys, e3, s3, i3, j3, e4, e5, b2, eb2, q⟩ := q
          exact ⟨v2, e2, x2, vv2, ex2, g2, p3, ys, e3, s3, i3, j3, e4, e5, b2, eb2, h _ _ q⟩
    · obtain ⟨ns, nw, kp, hb, hg, hn, hc, rfl⟩ := z
      refine ⟨_, rfl, B.1, _, rfl, getN hb, ?_⟩
      refine ⟨_, rfl, _, _, rfl, rfl, _, rfl, ?_⟩
      refine ite2 (fun c => ?_) (fun c => ?_)
      · refine ⟨_, rfl, _, rfl, _, _, rfl, rfl, ⟨m0, ?_⟩, _, rfl, B.1, _, rfl, putN _ hb, ?_⟩
        · have q : m.natAbs < 2 ^ 64 := by omega
          exact Nat.lt_of_lt_of_le (PySem.Flt.log2_lt_of (by decide) q) (by decide)
        · refine ⟨_, rfl, _, rfl, _, rfl, _, _, rfl, rfl, m0, ?_⟩
          refine k (nw % m) _ (Int.emod_nonneg _ (by omega)) (Int.emod_lt_of_pos _ m0) (kp.trans (Keep.upd1 _ _ _)) ⟨ne, ns, nw / m, sd, upd_same, ?_, hn, Int.ediv_nonneg hc (by omega), hs0, hs1⟩
          rw [upd_ne ne.symm]; exact hg
      · have e1 : ∀ x : Int, 0 ≤ x % 2147483647 ∧ x % 2147483647 < 2147483647 := fun x => ⟨Int.emod_nonneg _ (by decide), Int.emod_lt_of_pos _ (by decide)⟩
        have e2 : ∀ x : Int, 0 ≤ x % 2147483587 ∧ x % 2147483587 < 2147483587 := fun x => ⟨Int.emod_nonneg _ (by decide), Int.emod_lt_of_pos _ (by decide)⟩
        have e3 : ∀ x : Int, 0 ≤ x % 2147483563 ∧ x % 2147483563 < 2147483563 := fun x => ⟨Int.emod_nonneg _ (by decide), Int.emod_lt_of_pos _ (by decide)⟩
        refine ⟨_, rfl, B.1, _, rfl, getS hb, _, _, rfl, rfl, .inr ⟨by decide, by decide⟩, _, _, rfl, rfl, _, rfl, _, _, rfl, rfl, (by show (0 : Int) < 2147483647; decide), ?_⟩
        have o1 := e1 (sd * 39373 + 5003)
        dsimp only
        generalize (sd * 39373 + 5003) % 2147483647 = one at o1 ⊢
        refine ⟨_, rfl, _, _, rfl, rfl, .inr ⟨by decide, by decide⟩, _, _, rfl, rfl, _, rfl, _, _, rfl, rfl, (by show (0 : Int) < 2147483587; decide), _, rfl, B.1, _, rfl, putS _ hb, ?_⟩
        have o2 := e2 (one * 69623 + 60013)
        dsimp only
        generalize (one * 69623 + 60013) % 2147483587 = sd2 at o2 ⊢
        have hb2 : (upd H1 B.1 (.dK (dealK B.2 nw sd2))) B.1 = some (.dK (dealK B.2 nw sd2)) := upd_same
        refine ⟨_, rfl, B.1, _, rfl, getS hb2, _, rfl, B.1, _, rfl, getS hb2, _, _, rfl, rfl, .inl ⟨by omega, by omega⟩, _, rfl, _, _, rfl, rfl, (by show (0 : Int) < 2147483549; decide), ?_⟩
        refine ⟨_, rfl, _, rfl, _, _, rfl, rfl, .inl ⟨by omega, by omega⟩, _, rfl, _, _, rfl, rfl, (by show (0 : Int) < 2147483563; decide), _, _, rfl, rfl, .inr ⟨by decide, by decide⟩, ?_⟩
        refine ⟨_, rfl, _, _, rfl, rfl, _, rfl, _, rfl, _, _, rfl, rfl, m0, ?_⟩
        refine k _ _ (Int.emod_nonneg _ (by omega)) (Int.emod_lt_of_pos _ m0) (kp.trans (Keep.upd1 _ _ _)) ⟨ne, ns, nw, sd2, hb2, ?_, hn, hc, o2.1, by omega⟩
        rw [upd_ne ne.symm]; exact hg
theorem ok_deal {f : Addr} {fd : FuncData} (F : Fun K "_law_deal" "_law_deal" S__law_deal f fd) (T : Txt K mg) : FnOk P w K mg base CX0 1 f fd ["_law_script", "_law_base"] (sp_deal K) := by
  refine F.ok SC__law_deal (fun vs H Q E h => ?_) (fun cdv A outer s H vs Q E hr h => ?_)
  · obtain ⟨a, ns, b, rfl, _⟩ := h
    rfl
  · obtain ⟨a, ns, b, rfl, hb63, hS, hlen, k⟩ := h
    refine ⟨_, (pss_cons (ps_setLc (i := 2) (own := [("_law_cell", 4)]) (g := gName 4) (by rfl) SC__law_deal.nd rfl rfl (sw_true rfl rfl rfl (by decide +kernel)) (pi_list (pe_slice sl_list (pv 0) (po_some (pv 1)) (po_some pe_int))) (blkOk_by (own := [("_law_cell", 4)]) (N := N__law_deal) (sc := defScope S__law_deal) (by decide +kernel)) (fun _ _ _ _ _ => pg_name (i := 4) SC__law_deal.nd rfl (Or.inl rfl)) (fun _ _ _ _ _ => pts_nil) (fun _ _ _ _ _ => (pe_callB call_abs (by rfl) T.b_abs (by decide +kernel) (pa_cons (pe_callTy call_intI (by rfl) T.b_int (by decide +kernel) (pa_cons (pv 4) pa_nil)) pa_nil))))
      (pss_cons (ps_set (i := 3) SC__law_deal.nd rfl (.inl rfl) (pe_op op_add pe_int (pe_op op_mul pe_int (pv 1))))
      (pss_cons (ps_for PassesOwn.never rfl (pi_list (pv 2)) (pg_name (i := 4) SC__law_deal.nd rfl (.inl rfl)) (pss_one (ps_set (i := 3) SC__law_deal.nd rfl (.inl rfl) (pe_op op_mod (pe_callTy call_intI (by rfl) T.b_int (by decide +kernel) (pa_cons (pe_op op_add (pe_op op_add (pe_op op_mul (pv 3) pe_int) (pe_op op_mod (pe_callTy call_intI (by rfl) T.b_int (by decide +kernel) (pa_cons (pv 4) pa_nil)) pe_int)) pe_int) pa_nil)) pe_int))))
      (pss_one (ps_ret (pe_disp (pps_cons pe_str (pe_revL (pe_lc (own := [("_law_cell", 4)]) (g := gName 4) (by rfl) SC__law_deal.nd (pi_list (pv 2)) (blkOk_by (own := [("_law_cell", 4)]) (N := N__law_deal) (sc := defScope S__law_deal) (by decide +kernel)) (fun _ _ _ _ _ => pg_name (i := 4) SC__law_deal.nd rfl (Or.inl rfl)) (fun _ _ _ _ _ => pts_one (pt_cmpR op_ge (pv 4) (pe_op op_pow pe_int pe_int) (nomark _))) (fun _ _ _ _ _ => (pv 4)))) (pps_cons pe_str pe_int (pps_cons pe_str (pv 3) pps_nil))) rfl rfl (by decide) (by decide))))))), ?_⟩
    obtain ⟨ms, em, lm⟩ := cut_ints ns (some (b : Nat)) (some 63)
    refine ⟨_, rfl, _, rfl, _, rfl, _, rfl, a, _, rfl, hS, fun L hL => ?_⟩
    rw [em]
    have hL1 : (upd H L (.lst (ms.map V.int))) L = some (.lst (ms.map V.int)) := upd_same
    have s1 : Same H (upd H L (.lst (ms.map V.int))) := fun b o e => by rw [upd_ne (ne_of_none e hL)]; exact e
    generalize upd H L (.lst (ms.map V.int)) = H1 at hL1 s1 ⊢
    refine ⟨L, rfl, ⟨_, SqL.of hL1⟩, fun D hD => ?_⟩
    refine lcR_list (xs := ms.map V.int) (fun i H' => (∀ b o, b ≠ D → H1 b = some o → H' b = some o) ∧ H' D = some (.lst (((ms.take i).map fun x => V.int (if x < 0 then -x else x))))) ⟨fun b o n e => by rw [upd_ne n]; exact e, by rw [upd_same]; rfl⟩
      (fun i H' _ m => SqL.of (m.1 _ _ (ne_of_none hL1 hD) hL1)) (fun i x H' hi m => ?_) (gName_mono _) (fun H' m => ?_)
    · obtain ⟨kp, hD'⟩ := m
      rw [List.getElem?_map] at hi
      obtain ⟨y, hy, rfl⟩ := Option.map_eq_some_iff.mp hi
      refine ⟨rfl, _, rfl, y, rfl, y, rfl, _, hD', ?_, fun b o n e => by rw [upd_ne n]; exact kp b o n e, ?_⟩
      · rw [List.length_map, List.length_take]
        exact Nat.lt_of_le_of_lt (show min i ms.length ≤ 63 by omega) (by decide)
      · rw [upd_same, List.take_add_one, hy, List.map_append]; rfl
    obtain ⟨kp, hD'⟩ := m
    rw [List.length_map, List.take_of_length_le (Nat.le_refl _)] at hD'
    obtain ⟨cs, ec, lc, nc⟩ : ∃ cs : List Int, ((ms.map fun x => V.int (if x < 0 then -x else x)) = cs.map V.int) ∧ cs.length ≤ 63 ∧ ∀ c ∈ cs, 0 ≤ c := ⟨ms.map fun x => if x < 0 then -x else x, by rw [List.map_map]; rfl, by rw [List.length_map]; omega, fun c hc => by
      obtain ⟨x, _, rfl⟩ := List.mem_map.mp hc
      split <;> omega⟩
    rw [ec] at hD'
    have s2 : Same H H' := s1.trans fun b o e => kp b o (ne_of_none e hD) e
    clear kp hD s1 hL1
    refine ⟨_, rfl, _, _, rfl, rfl, .inl ⟨by decide, by decide⟩, _, _, rfl, rfl, ?_⟩
    refine ⟨_, rfl, D, rfl, ⟨_, SqL.of hD'⟩, ?_⟩
    refine for_list (xs := cs.map V.int) (fun j σ H2 => H2 = H' ∧ ∃ (sd : Int) (y4 : Option V), 0 ≤ sd ∧ sd < 4294967296 ∧ σ = [some (.ref a), some (.int (b : Nat)), some (.ref D), some (.int sd), y4])
      ⟨rfl, _, _, ?_, ?_, rfl⟩ (fun j σ H2 _ m => by rw [m.1]; exact SqL.of hD') (fun j x σ H2 hj m => ?_) (fun σ H2 m => ?_)
    · omega
    · omega
    · obtain ⟨rfl, sd, y4, d0, d1, rfl⟩ := m
      rw [List.getElem?_map] at hj
      obtain ⟨y, hy, rfl⟩ := Option.map_eq_some_iff.mp hj
      refine ⟨_, rfl, _, _, rfl, rfl, .inr ⟨by decide, by decide⟩, _, rfl, _, rfl, _, _, rfl, rfl, (by show (0 : Int) < 2147483629; decide), _, _, rfl, rfl, _, _, rfl, rfl, _, rfl, _, _, rfl, rfl, (by show (0 : Int) < 2147483647; decide), ?_⟩
      exact ⟨rfl, _, _, Int.emod_nonneg _ (by decide), Int.lt_of_lt_of_le (Int.emod_lt_of_pos _ (by decide)) (by decide), rfl⟩
    · obtain ⟨rfl, sd, y4, d0, d1, rfl⟩ := m
      intro p hp
      have np : D ≠ p := ne_of_none hD' hp
      have hD2 : (upd H2 p (.dK [])) D = some (.lst (cs.map V.int)) := by rw [upd_ne np]; exact hD'
      have hpp : (upd H2 p (.dK [])) p = some (.dK []) := upd_same
      have s3 : Same H2 (upd H2 p (.dK [])) := fun b o e => by rw [upd_ne (ne_of_none e hp)]; exact e
      generalize upd H2 p (.dK []) = H3 at hD2 hpp s3 ⊢
      refine ⟨_, rfl, D, rfl, ⟨_, SqL.of hD2⟩, fun D2 hD3 => ?_⟩
      refine lc_list (xs := cs.map V.int) (fun k H' => (∀ b o, b ≠ D2 → H3 b = some o → H' b = some o) ∧ ∃ gs : List Int, gs.length ≤ k ∧ (∀ g ∈ gs, 0 ≤ g) ∧ H' D2 = some (.lst (gs.map V.int))) ⟨fun b o n e => by rw [upd_ne n]; exact e, [], Nat.le_refl _, (fun g h => absurd h (List.not_mem_nil)), upd_same⟩ (fun k H' _ m => SqL.of (m.1 _ _ (ne_of_none hD2 hD3) hD2)) (fun k x H' hk m => ?_) (fun H' m => ?_)
      · obtain ⟨kp, gs, gl, gn, hg⟩ := m
        rw [List.getElem?_map] at hk
        obtain ⟨y, hy, rfl⟩ := Option.map_eq_some_iff.mp hk
        have hk2 : k < cs.length := (List.getElem?_eq_some_iff.mp hy).1
        refine ⟨rfl, _, rfl, _, _, rfl, rfl, ⟨by decide, by decide, by decide⟩, _, _, rfl, rfl, _, rfl, ?_⟩
        refine ite2 (fun c => ?_) (fun c => ⟨kp, gs, Nat.le_succ_of_le gl, gn, hg⟩)
        refine ⟨_, rfl, _, hg, ?_, fun b o n e => by rw [upd_ne n]; exact kp b o n e, gs ++ [y], by rw [List.length_append]; simp; omega, fun g hgm => ?_, by rw [upd_same, List.map_append]; rfl⟩
        · rw [List.length_map]
          exact Nat.lt_of_le_of_lt (show gs.length ≤ 63 by omega) (by decide)
        · rcases List.mem_append.mp hgm with z | z
          · exact gn g z
          · rw [List.mem_singleton.mp z]
            exact nc y (List.mem_of_getElem? hy)
      · obtain ⟨kp, gs, gl, gn, hg⟩ := m
        refine ⟨D2, _, rfl, SqL.of hg, fun G hG => ?_⟩
        have hp2 : H' p = some (.dK []) := kp _ _ (ne_of_none hpp hD3) hpp
        have s4 : Same H2 H' := fun b o e => kp _ _ (ne_of_none (s3 _ _ e) hD3) (s3 _ _ e)
        have gp : G ≠ p := fun e => by rw [e, hp2] at hG; cases hG
        refine ⟨_, rfl, by rw [upd_ne gp.symm]; exact hp2, dealK G 0 sd, rfl, by show 3 ≤ 15; decide, ?_⟩
        have em : mergeK [] (dealK G 0 sd) = dealK G 0 sd := by
          unfold mergeK dealK
          simp [putK, show ¬ ("great" : Str) = "now" from by decide +kernel, show ¬ ("great" : Str) = "seed" from by decide +kernel, show ¬ ("now" : Str) = "seed" from by decide +kernel]
        rw [em, ← List.map_reverse]
        refine k (p, G) _ (s2.free hp) ((s2.trans s4).free hG) (fun b o e => ?_) ⟨gp.symm, gs.reverse, 0, sd, upd_same, ?_, fun n hn => gn n (List.mem_reverse.mp hn), Int.le_refl 0, d0, d1⟩
        · have e2 := s2 _ _ e
          rw [upd_ne (ne_of_none e2 hp), upd_ne (ne_of_none (s4 _ _ e2) hG)]
          exact s4 _ _ e2
        · rw [upd_ne gp, upd_same]
theorem ok_pick {f : Addr} {fd : FuncData} (F : Fun K "_law_pick" "_law_pick" S__law_pick f fd) (T : Txt K mg) (C_draw : FnC P w K mg base CX0 1 "_law_draw" ["_law_deal_here", "_law_many"] sp_draw) : FnOk P w K mg base CX0 2 f fd ["_law_deal_here", "_law_some"] (sp_pick K) := by
  refine F.ok SC__law_pick (fun vs H Q E h => ?_) (fun cdv A outer s H vs Q E hr h => ?_)
  · obtain ⟨B, l, xs, rfl, _⟩ := h
    rfl
  · obtain ⟨B, l, xs, rfl, hb, n1, n2, hS, h0, h1, k⟩ := h
    refine ⟨_, (pss_one (ps_ret (pe_ix ix_seq (pv 1) (pe_callC C_draw (hr.mono (by decide)) rfl (pa_cons (pv 0) (pa_cons (pe_callB call_len_seq (by rfl) T.b_len (by decide +kernel) (pa_cons (pv 1) pa_nil)) pa_nil))) (fun _ _ => rfl)))), ?_⟩
    refine ⟨_, rfl, _, rfl, _, rfl, l, xs, rfl, hS, B, _, rfl, hb, ?_, ?_, fun d H' d0 d1 kp hb' => ?_⟩
    · show (0 : Int) < (xs.length : Int); omega
    · show (xs.length : Int) ≤ 1000000000000; omega
    · have hd : d.toNat < xs.length := by have d1 : d < (xs.length : Int) := d1; omega
      have hat : atI xs d = some xs[d.toNat] := at_of (by omega) (List.getElem?_eq_getElem hd)
      have kS : SqL K H' l xs ∨ SqT K H' l xs := by
        have rd : ∀ u, Rd H l u → Rd H' l u := fun u q => q.elim (fun q => .inl (kp _ _ n1 n2 q)) fun ⟨o, q⟩ => .inr ⟨o, kp _ _ n1 n2 q⟩
        exact hS.elim (fun q => .inl (q.elim (fun q => .inl (rd _ q)) .inr)) fun q => .inr (q.elim (fun q => .inl (rd _ q)) .inr)
      have kk := k d.toNat _ H' (List.getElem?_eq_getElem hd) kp hb'
      exact kS.elim (fun q => .inl ⟨l, xs, d, _, rfl, rfl, q, hat, kk⟩) fun q => .inr (.inl ⟨l, xs, d, _, rfl, rfl, q, hat, kk⟩)
end

/-! ## words in order -/
namespace Wd
end Wd

/-! ## errors -/
section
variable {P : Program} {w : World} {K : PySem.W.Frag} {mg : Str → Option Value} {base : Heap}
theorem ok_err_InvalidChange {f C U : Addr} {fd : FuncData} (F : Fun K "__init__" "InvalidChange.__init__" S_InvalidChange__init_ f fd) (hU : UeC K U) (hm : mg "UnmarkedError" = some (.ref U)) (O : OexC K C) : FnOk P w K mg base CX0 1 f fd ["self"] (sp_err0 C) := by
  refine F.ok SC_InvalidChange__init_ (fun vs H Q E h => ?_) (fun cdv A outer s H vs Q E hr h => ?_)
  · obtain ⟨a, rfl, _⟩ := h
    rfl
  · obtain ⟨a, rfl, ha, q⟩ := h
    refine ⟨_, (pss_one (ps_expr (pe_uinit hU rfl hm (pa_cons (pv 0) (pa_cons pe_str pa_nil))))), ?_⟩
    exact ⟨_, rfl, a, C, _, rfl, by decide, O, ha, q⟩
end

/-! ## errors with a field -/
section
variable {P : Program} {w : World} {K : PySem.W.Frag} {mg : Str → Option Value} {base : Heap}
theorem ok_err_InvalidRow {f C U : Addr} {fd : FuncData} (F : Fun K "__init__" "InvalidRow.__init__" S_InvalidRow__init_ f fd) (hU : UeC K U) (hm : mg "UnmarkedError" = some (.ref U)) (O : OexC K C) (nf : PySem.W.findIn K (.ref C) "part" = some none) : FnOk P w K mg base CX0 1 f fd ["self", "part"] (sp_err1 C "part") := by
  refine F.ok SC_InvalidRow__init_ (fun vs H Q E h => ?_) (fun cdv A outer s H vs Q E hr h => ?_)
  · obtain ⟨a, v, rfl, _⟩ := h
    rfl
  · obtain ⟨a, v, rfl, ha, q⟩ := h
    refine ⟨_, (pss_cons (ps_expr (pe_uinit hU rfl hm (pa_cons (pv 0) (pa_cons pe_str pa_nil)))) (pss_one (ps_ost (pv 0) (pv 1)))), ?_⟩
    exact ⟨_, rfl, a, C, _, rfl, by decide, O, ha, _, rfl, _, rfl, a, C, rfl, O, nf, .inl ⟨ha, fun dx hn ne => q dx hn ne⟩⟩
theorem ok_err_NoNote {f C U : Addr} {fd : FuncData} (F : Fun K "__init__" "NoNote.__init__" S_NoNote__init_ f fd) (hU : UeC K U) (hm : mg "UnmarkedError" = some (.ref U)) (O : OexC K C) (nf : PySem.W.findIn K (.ref C) "name" = some none) : FnOk P w K mg base CX0 1 f fd ["self", "name"] (sp_err1 C "name") := by
  refine F.ok SC_NoNote__init_ (fun vs H Q E h => ?_) (fun cdv A outer s H vs Q E hr h => ?_)
  · obtain ⟨a, v, rfl, _⟩ := h
    rfl
  · obtain ⟨a, v, rfl, ha, q⟩ := h
    refine ⟨_, (pss_cons (ps_expr (pe_uinit hU rfl hm (pa_cons (pv 0) (pa_cons pe_str pa_nil)))) (pss_one (ps_ost (pv 0) (pv 1)))), ?_⟩
    exact ⟨_, rfl, a, C, _, rfl, by decide, O, ha, _, rfl, _, rfl, a, C, rfl, O, nf, .inl ⟨ha, fun dx hn ne => q dx hn ne⟩⟩
theorem ok_err_NoRow {f C U : Addr} {fd : FuncData} (F : Fun K "__init__" "NoRow.__init__" S_NoRow__init_ f fd) (hU : UeC K U) (hm : mg "UnmarkedError" = some (.ref U)) (O : OexC K C) (nf : PySem.W.findIn K (.ref C) "at" = some none) : FnOk P w K mg base CX0 1 f fd ["self", "at"] (sp_err1 C "at") := by
  refine F.ok SC_NoRow__init_ (fun vs H Q E h => ?_) (fun cdv A outer s H vs Q E hr h => ?_)
  · obtain ⟨a, v, rfl, _⟩ := h
    rfl
  · obtain ⟨a, v, rfl, ha, q⟩ := h
    refine ⟨_, (pss_cons (ps_expr (pe_uinit hU rfl hm (pa_cons (pv 0) (pa_cons pe_str pa_nil)))) (pss_one (ps_ost (pv 0) (pv 1)))), ?_⟩
    exact ⟨_, rfl, a, C, _, rfl, by decide, O, ha, _, rfl, _, rfl, a, C, rfl, O, nf, .inl ⟨ha, fun dx hn ne => q dx hn ne⟩⟩
end

/-! ## lengths and ratios -/
namespace Rt
def isI : V → Bool | .int _ => true | .bl _ => true | _ => false
def isB : V → Bool | .bl _ => true | _ => false
def isS : V → Bool | .str _ => true | _ => false
/-- what isinstance tells of a value against int, bool and str -/
structure Kd (K : PySem.W.Frag) (H : Hp) (x : V) : Prop where
  ex : ∃ t, TyX K H x t ∧ PySem.W.kitOne K t (.type "int") = some (isI x) ∧ PySem.W.kitOne K t (.type "bool") = some (isB x) ∧ PySem.W.kitOne K t (.type "str") = some (isS x)
theorem Kd.int {K : PySem.W.Frag} {H : Hp} (i : Int) : Kd K H (.int i) := ⟨_, .base (.int i), kit_ty (show kitB "int" "int" = some true by decide +kernel), kit_ty (show kitB "int" "bool" = some false by decide +kernel), kit_ty (show kitB "int" "str" = some false by decide +kernel)⟩
theorem Kd.bl {K : PySem.W.Frag} {H : Hp} (i : Bool) : Kd K H (.bl i) := ⟨_, .base (.bl i), kit_ty (show kitB "bool" "int" = some true by decide +kernel), kit_ty (show kitB "bool" "bool" = some true by decide +kernel), kit_ty (show kitB "bool" "str" = some false by decide +kernel)⟩
theorem Kd.str {K : PySem.W.Frag} {H : Hp} (i : Str) : Kd K H (.str i) := ⟨_, .base (.str i), kit_ty (show kitB "str" "int" = some false by decide +kernel), kit_ty (show kitB "str" "bool" = some false by decide +kernel), kit_ty (show kitB "str" "str" = some true by decide +kernel)⟩
theorem Kd.non {K : PySem.W.Frag} {H : Hp} : Kd K H .non := ⟨_, .base .non, kit_ty (show kitB "NoneType" "int" = some false by decide +kernel), kit_ty (show kitB "NoneType" "bool" = some false by decide +kernel), kit_ty (show kitB "NoneType" "str" = some false by decide +kernel)⟩
theorem Kd.lst {K : PySem.W.Frag} {H : Hp} {p : Addr} {xs : List V} (h : H p = some (.lst xs)) : Kd K H (.ref p) := ⟨_, .base (.lst h), kit_ty (show kitB "list" "int" = some false by decide +kernel), kit_ty (show kitB "list" "bool" = some false by decide +kernel), kit_ty (show kitB "list" "str" = some false by decide +kernel)⟩
theorem Kd.tup {K : PySem.W.Frag} {H : Hp} {p : Addr} {xs : List V} (h : H p = some (.tup xs)) : Kd K H (.ref p) := ⟨_, .base (.tup h), kit_ty (show kitB "tuple" "int" = some false by decide +kernel), kit_ty (show kitB "tuple" "bool" = some false by decide +kernel), kit_ty (show kitB "tuple" "str" = some false by decide +kernel)⟩
theorem tyX_at {K : PySem.W.Frag} {H H' : Hp} {x : V} {t : Value} (h : TyX K H x t) (s : ∀ a o, x = .ref a → H a = some o → H' a = some o) : TyX K H' x t := by
  cases h with
  | base h => exact .base (by
      cases h with
      | non => exact .non
      | bl x => exact .bl x
      | int i => exact .int i
      | str x => exact .str x
      | flt x => exact .flt x
      | lst e => exact .lst (s _ _ rfl e)
      | frz e => exact .frz (s _ _ rfl e)
      | tup e => exact .tup (s _ _ rfl e)
      | dK e => exact .dK (s _ _ rfl e)
      | dT e => exact .dT (s _ _ rfl e)
      | ins e cl ha hn htk hm => exact .ins (s _ _ rfl e) cl ha hn htk hm)
  | byt b => exact .byt b
  | set e => exact .set (s _ _ rfl e)
  | kList e c => exact .kList e c
  | kTuple e c => exact .kTuple e c
  | kDict e c => exact .kDict e c
  | fTuple e => exact .fTuple (s _ _ rfl e)
  | fDict e => exact .fDict (s _ _ rfl e)
theorem Kd.at {K : PySem.W.Frag} {H H' : Hp} {x : V} (h : Kd K H x) (s : ∀ a o, x = .ref a → H a = some o → H' a = some o) : Kd K H' x := let ⟨t, ty, r⟩ := h.ex; ⟨t, tyX_at ty s, r⟩
theorem Kd.same {K : PySem.W.Frag} {H H' : Hp} {x : V} (h : Kd K H x) (s : Same H H') : Kd K H' x := h.at fun a o _ => s a o
def sp_isint (K : PySem.W.Frag) : Sp := fun vs H Q _ => ∃ x, vs = [x] ∧ Kd K H x ∧ Q (.bl (isI x && !isB x)) H
/-- the attributes of a ratio -/
def rf (a b : Int) : List (Str × V) := putF "second" (.int b) (putF "first" (.int a) [])
theorem n_fs : ¬ (("first" : Str) = "second") := by decide +kernel
theorem rf1 (a b : Int) : (rf a b).lookup ("first" : Str) = some (.int a) := by
  unfold rf; rw [lookup_putF, if_neg n_fs, lookup_putF, if_pos rfl]
theorem rf2 (a b : Int) : (rf a b).lookup ("second" : Str) = some (.int b) := by
  unfold rf; rw [lookup_putF, if_pos rfl]
def RatAt (C : Addr) (H : Hp) (p : Addr) (a b : Int) : Prop := ∃ dx, H p = some (.ins C dx (rf a b))
theorem RatAt.same {C : Addr} {H H' : Hp} {p : Addr} {a b : Int} (x : RatAt C H p a b) (s : Same H H') : RatAt C H' p a b := let ⟨d, h⟩ := x; ⟨d, s _ _ h⟩
structure RatT (K : PySem.W.Frag) (mg : Str → Option Value) (C : Addr) : Prop where
  ins : C8.InsC K C
  n1 : NoAttr K C "first"
  n2 : NoAttr K C "second"
  mgC : mg "Ratio" = some (.ref C)
  nf : PySem.W.notFirst K C (.ref C) = true
  ne : PySem.W.findIn K (.ref C) "__ne__" = some (some (.builtin "object.__ne__"))
  so : PySem.W.subIn K (.ref C) (.type "object") = some true
theorem RatT.cl {K : PySem.W.Frag} {mg : Str → Option Value} {C : Addr} (T : RatT K mg C) : Cls K C := T.ins.cl
theorem RatT.ty {K : PySem.W.Frag} {mg : Str → Option Value} {C : Addr} (T : RatT K mg C) {H : Hp} {p dx : Addr} {fs : List (Str × V)} (h : H p = some (.ins C dx fs)) : TyX K H (.ref p) (.ref C) := .base (.ins h T.ins.cl T.ins.ha T.ins.hn T.ins.htk T.ins.hm)
theorem wm {i j : Int} (h1 : i.natAbs < 2 ^ 1000) (h2 : j.natAbs < 2 ^ 1000) : CMulW i j := wide_mul h1 h2 (by decide) (by decide) (by decide)
/-- a text of l and r alone -/
def goodC (z : Str) : Bool := (z.cps.toList.map fun c => decide (c ∈ ("lr" : Str).cps.toList)).all id
def goodW : V → Bool | .str z => goodC z | _ => false
def sp_need (IW : Addr) (K : PySem.W.Frag) : Sp := fun vs H Q E => ∃ x, vs = [x] ∧ Kd K H x ∧ (∀ z, x = .str z → z.length ≤ 100000) ∧ (goodW x = true → ∀ H', Same H H' → Q .non H') ∧ (goodW x = false → ∀ H', Same H H' → E (.ref IW) none H')
end Rt
open Rt

section
variable {P : Program} {w : World} {K : PySem.W.Frag} {mg : Str → Option Value} {base : Heap}
theorem ok_isint {f : Addr} {fd : FuncData} (F : Fun K "is_integer" "is_integer" S_is_integer f fd) (T : Txt K mg) : FnOk P w K mg base CX0 1 f fd ["value"] (sp_isint K) := by
  refine F.ok SC_is_integer (fun vs H Q E h => ?_) (fun cdv A outer s H vs Q E hr h => ?_)
  · obtain ⟨x, rfl, _⟩ := h
    rfl
  · obtain ⟨x, rfl, ⟨t, ty, h1, h2, _⟩, q⟩ := h
    refine ⟨_, (pss_one (ps_ret (pe_and (pe_callB call_isi (by rfl) T.b_isinstance (by decide +kernel) (pa_cons (pv 0) (pa_cons (pe_bltn (v := .ty "int") (by rfl) T.b_int boot_int rfl) pa_nil))) (pe_one (pe_not (pe_callB call_isi (by rfl) T.b_isinstance (by decide +kernel) (pa_cons (pv 0) (pa_cons (pe_bltn (v := .ty "bool") (by rfl) T.b_bool boot_bool rfl) pa_nil)))))))), ?_⟩
    refine ⟨_, rfl, x, _, t, _, _, rfl, .ty _, ty, h1, isI x, rfl, ?_⟩
    by_cases c : isI x = true
    · rw [c] at q ⊢
      refine ifT rfl ?_
      refine ⟨_, rfl, x, _, t, _, _, rfl, .ty _, ty, h2, isB x, rfl, q⟩
    · rw [Bool.not_eq_true] at c
      rw [c] at q ⊢
      exact ifF rfl q
end

/-! ## changes -/
namespace Ch
def isNat : V → Bool | .int i => decide (0 ≤ i) | _ => false
def cf (q : Addr) (t : Int) : List (Str × V) := putF "turn" (.int t) (putF "numbers" (.ref q) [])
theorem n_nt : ¬ (("numbers" : Str) = "turn") := by decide +kernel
theorem cf1 (q : Addr) (t : Int) : (cf q t).lookup ("numbers" : Str) = some (.ref q) := by
  unfold cf; rw [lookup_putF, if_neg n_nt, lookup_putF, if_pos rfl]
theorem cf2 (q : Addr) (t : Int) : (cf q t).lookup ("turn" : Str) = some (.int t) := by
  unfold cf; rw [lookup_putF, if_pos rfl]
def ChAt (CC : Addr) (H : Hp) (p : Addr) (a b c d : Int) : Prop := ∃ dx q, H p = some (.ins CC dx (cf q (a * d - b * c))) ∧ H q = some (.tup [.int a, .int b, .int c, .int d])
theorem ChAt.same {C : Addr} {H H' : Hp} {p : Addr} {a b c d : Int} (x : ChAt C H p a b c d) (s : Same H H') : ChAt C H' p a b c d := let ⟨d, q, h, k⟩ := x; ⟨d, q, s _ _ h, s _ _ k⟩
structure ChT (K : PySem.W.Frag) (mg : Str → Option Value) (C : Addr) : Prop where
  ins : C8.InsC K C
  n1 : NoAttr K C "numbers"
  n2 : NoAttr K C "turn"
  mgC : mg "Change" = some (.ref C)
  nf : PySem.W.notFirst K C (.ref C) = true
  ne : PySem.W.findIn K (.ref C) "__ne__" = some (some (.builtin "object.__ne__"))
  so : PySem.W.subIn K (.ref C) (.type "object") = some true
theorem ChT.cl {K : PySem.W.Frag} {mg : Str → Option Value} {C : Addr} (T : ChT K mg C) : Cls K C := T.ins.cl
theorem ChT.ty {K : PySem.W.Frag} {mg : Str → Option Value} {C : Addr} (T : ChT K mg C) {H : Hp} {p dx : Addr} {fs : List (Str × V)} (h : H p = some (.ins C dx fs)) : TyX K H (.ref p) (.ref C) := .base (.ins h T.ins.cl T.ins.ha T.ins.hn T.ins.htk T.ins.hm)
def nats (u1 u2 u3 u4 : V) : Bool := isNat u1 && isNat u2 && isNat u3 && isNat u4
/-- Change(a, b, c, d): made, or refused -/
def sp_chinit (CC IC : Addr) (K : PySem.W.Frag) : Sp := fun vs H Q E => ∃ (x dx : Addr) (u1 u2 u3 u4 : V), vs = [.ref x, u1, u2, u3, u4] ∧ (Kd K H u1 ∧ Kd K H u2 ∧ Kd K H u3 ∧ Kd K H u4) ∧ H x = some (.ins CC dx []) ∧
  (nats u1 u2 u3 u4 = true → ∃ i j m n : Int, u1 = .int i ∧ u2 = .int j ∧ u3 = .int m ∧ u4 = .int n ∧ (i.natAbs < 2 ^ 1000 ∧ j.natAbs < 2 ^ 1000 ∧ m.natAbs < 2 ^ 1000 ∧ n.natAbs < 2 ^ 1000) ∧
    (i * n ≠ j * m → ∀ H', (∀ a o, a ≠ x → H a = some o → H' a = some o) → ChAt CC H' x i j m n → Q .non H') ∧ (i * n = j * m → ∀ H', Same H H' → E (.ref IC) none H')) ∧
  (nats u1 u2 u3 u4 = false → ∀ H', Same H H' → E (.ref IC) none H')
theorem lcR_tupC {K : PySem.W.Frag} {a : Addr} {xs : List V} {g : TG} {te : TE} {vs : List Nat} {σ : L2.St} {H1 : Hp} {D : Addr} {Qd : Hp → Prop} (M : Nat → Hp → Prop) (h0 : M 0 (upd H1 D (.lst []))) (hl : ∀ i H, i ≤ xs.length → M i H → SqT K H a xs)
    (hs : ∀ i x H, xs[i]? = some x → M i H → g x (wipe σ vs) H fun σ2 H2 => wipe σ2 vs = wipe σ vs ∧ te σ2 H2 fun y H4 => ∃ acc, H4 D = some (.lst acc) ∧ acc.length < sizeLine ∧ M (i + 1) (upd H4 D (.lst (acc ++ [y]))))
    (hm : ∀ x σ H Q Q', (∀ σ2 H2, Q σ2 H2 → Q' σ2 H2) → g x σ H Q → g x σ H Q') (hd : ∀ H, M xs.length H → Qd H) : LcR (Itt K a) g tYes te vs σ H1 D Qd :=
  lc_it walk_tup M h0 hl (fun i x H H' hi m y => by
    obtain ⟨e, hx⟩ := y
    subst e
    exact hm _ _ _ _ _ (fun σ2 H2 z => ⟨z.1, ifT (B := M (i + 1) H2) rfl z.2⟩) (hs i x _ hx m)) hd
end Ch
open Ch
section
variable {P : Program} {w : World} {K : PySem.W.Frag} {mg : Str → Option Value} {base : Heap}
theorem ok_chinit {f CC IC : Addr} {fd : FuncData} (F : Fun K "__init__" "Change.__init__" S_Change__init_ f fd) (T : Txt K mg) (Rc : ChT K mg CC) (E_InvalidChange : ErC P w K mg base "InvalidChange" IC) (C_isint : FnC P w K mg base CX0 1 "is_integer" ["value"] (sp_isint K)) :
    FnOk P w K mg base (L2.CX P w) 4 f fd ["self", "a", "b", "c", "d"] (sp_chinit CC IC K) := by
  refine F.okX SC_Change__init_ (fun vs H Q E h => ?_) (fun cdv A outer s H vs Q E hr h => ?_)
  · obtain ⟨x, dx, u1, u2, u3, u4, rfl, _⟩ := h
    rfl
  · obtain ⟨x, dx, u1, u2, u3, u4, rfl, ⟨k1, k2, k3, k4⟩, hx, ok, bad⟩ := h
    refine ⟨_, (pss_cons (ps_set (i := 5) SC_Change__init_.nd rfl (.inl rfl) (pe_tup (pa_cons (pv 1) (pa_cons (pv 2) (pa_cons (pv 3) (pa_cons (pv 4) pa_nil))))))
      (pss_cons (ps_if (PW.pt (pw_or (pt_not (pt_val (pe_callB (cr_all rfl) (by rfl) T.b_all (by decide +kernel) (pa_cons (pe_lc (own := [("number", 6)]) (g := gName 6) (by rfl) SC_Change__init_.nd (pi_tup (pv 5)) (blkOk_by (own := [("number", 6)]) (N := N_Change__init_) (sc := defScope S_Change__init_) (by decide +kernel)) (fun _ _ _ _ _ => pg_name (i := 6) SC_Change__init_.nd rfl (Or.inl rfl)) (fun _ _ _ _ _ => pts_nil) (fun _ _ _ _ _ => (pe_and (pe_callC C_isint (hr.mono (by decide)) rfl (pa_cons (pv 6) pa_nil)) (pe_one (pe_cmpR op_ge (pv 6) pe_int (nomark _)))))) pa_nil)))) (pw_or1 (pt_cmpR op_eq (pe_op op_mulW (pv 1) (pv 4)) (pe_op op_mulW (pv 2) (pv 3)) (nomark _))))) (pss_one (ps_raise0 E_InvalidChange (hr.mono (by decide)) rfl (takes_of rfl rfl rfl rfl) rfl)) pss_nil)
      (pss_cons (ps_fld (pv 0) (pv 5) rfl)
      (pss_one (ps_fld (pv 0) (pe_op op_sub (pe_op op_mulW (pv 1) (pv 4)) (pe_op op_mulW (pv 2) (pv 3))) rfl))))), ?_⟩
    walk_at "kb"
    intro q hq
    have sq : Same H (upd H q (.tup [u1, u2, u3, u4])) := fun a o e => by rw [upd_ne (ne_of_none e hq)]; exact e
    walk_at "kb"
    refine ⟨⟨_, SqT.of upd_same⟩, fun D hD => ?_⟩
    have qD : q ≠ D := ne_of_none upd_same hD
    have each : ∀ (i : Nat) v, [u1, u2, u3, u4][i]? = some v → Kd K H v := fun i v h => by
      match i, h with
      | 0, h => cases h; exact k1
      | 1, h => cases h; exact k2
      | 2, h => cases h; exact k3
      | 3, h => cases h; exact k4
      | i + 4, h => simp at h
    refine lcR_tupC (xs := [u1, u2, u3, u4]) (fun i H' => (∀ b o, b ≠ D → (upd H q (.tup [u1, u2, u3, u4])) b = some o → H' b = some o) ∧ H' D = some (.lst ((([u1, u2, u3, u4].take i).map isNat).map V.bl))) ⟨fun b o n e => by rw [upd_ne n]; exact e, upd_same⟩
      (fun i H' _ m => SqT.of (m.1 q _ qD upd_same)) (fun i v H1 hi m => ?_) (gName_mono _) (fun H1 m => ?_)
    · obtain ⟨kp, hH⟩ := m
      have kd := (each i v hi).same sq
      have kd1 : Kd K H1 v := kd.at fun a o e h => kp a o (ne_of_none h hD) h
      have hilt : i < 4 := (List.getElem?_eq_some_iff.mp hi).1
      have fin : ∃ acc, H1 D = some (.lst acc) ∧ acc.length < sizeLine ∧ ((∀ b o, b ≠ D → (upd H q (.tup [u1, u2, u3, u4])) b = some o → (upd H1 D (.lst (acc ++ [.bl (isNat v)]))) b = some o) ∧ (upd H1 D (.lst (acc ++ [.bl (isNat v)]))) D = some (.lst ((([u1, u2, u3, u4].take (i + 1)).map isNat).map V.bl))) := by
        refine ⟨_, hH, ?_, fun b o n e => by rw [upd_ne n]; exact kp b o n e, ?_⟩
        · rw [List.length_map, List.length_map, List.length_take]
          exact szs (by show min i 4 ≤ _; omega)
        · rw [upd_same, List.take_succ, hi, List.map_append, List.map_append]; rfl
      refine ⟨rfl, _, rfl, v, rfl, kd1, _, rfl, ?_⟩
      cases v with
      | int j => exact ifT rfl ⟨_, rfl, _, _, rfl, rfl, fin⟩
      | bl b => exact ifF rfl fin
      | non => exact ifF rfl fin
      | str z => exact ifF rfl fin
      | byt z => exact ifF rfl fin
      | flt z => exact ifF rfl fin
      | ref z => exact ifF rfl fin
      | ty z => exact ifF rfl fin
    · obtain ⟨kp, hH⟩ := m
      have sm1 : Same H H1 := fun b o e => kp b o (ne_of_none (sq b o e) hD) (sq b o e)
      have hq1 : H1 q = some (.tup [u1, u2, u3, u4]) := kp q _ qD upd_same
      refine ⟨_, _, rfl, SqL.of hH, _, rfl, ?_⟩
      have en : ((List.map isNat (List.take [u1, u2, u3, u4].length [u1, u2, u3, u4])).all id) = nats u1 u2 u3 u4 := by
        show (isNat u1 && (isNat u2 && (isNat u3 && (isNat u4 && true)))) = _
        unfold nats
        cases isNat u1 <;> cases isNat u2 <;> cases isNat u3 <;> cases isNat u4 <;> rfl
      rw [en]
      by_cases hn : nats u1 u2 u3 u4 = true
      · rw [hn]
        refine ifF rfl ?_
        obtain ⟨i, j, m, n, rfl, rfl, rfl, rfl, ⟨b1, b2, b3, b4⟩, yes, no⟩ := ok hn
        refine ⟨_, rfl, _, rfl, _, _, rfl, rfl, wm b1 b4, _, rfl, _, rfl, _, _, rfl, rfl, wm b2 b3, ?_⟩
        walk_at "kb"
        refine ite2 (fun h => ?_) (fun h => ?_)
        · exact no (V.int.inj (of_decide_eq_true h)) H1 sm1
        · have hne : i * n ≠ j * m := fun e => h (decide_eq_true (congrArg V.int e))
          have nqx : q ≠ x := fun e => by rw [e] at hq1; have := sm1 x _ hx; rw [hq1] at this; cases this
          walk_at "kb"
          refine ⟨x, CC, dx, _, rfl, sm1 x _ hx, Rc.ins.cl, Rc.n1, by show 0 < 1000; decide, ?_⟩
          walk_at "kb"
          refine ⟨wm b1 b4, _, rfl, _, rfl, _, _, rfl, rfl, wm b2 b3, _, _, rfl, rfl, ?_⟩
          refine ⟨_, rfl, x, CC, dx, _, rfl, upd_same, Rc.ins.cl, Rc.n2, by show 1 < 1000; decide, ?_⟩
          exact yes hne _ (fun a o nn e => by rw [upd_ne nn, upd_ne nn]; exact sm1 a o e) ⟨dx, q, by rw [upd_same]; rfl, by rw [upd_ne nqx, upd_ne nqx]; exact hq1⟩
      · rw [Bool.not_eq_true] at hn
        rw [hn]
        exact ifT rfl (bad hn H1 sm1)
end

/-! ## objects kept -/
namespace Mw
theorem lt_at {α : Type} {xs : List α} {i : Nat} {x : α} (h : xs[i]? = some x) : i < xs.length := (List.getElem?_eq_some_iff.mp h).1
theorem nodup_at {α : Type} {xs : List α} (h : xs.Nodup) {i j : Nat} {x : α} (hi : xs[i]? = some x) (hj : xs[j]? = some x) : i = j := by
  exact (List.getElem?_inj (lt_at hi) h).mp (hi.trans hj.symm)
def isMu : HO → Bool
  | .lst _ => true
  | .dK _ => true
  | .dT _ => true
  | .ext _ => true
  | .tbl _ => true
  | _ => false
def isTF : HO → Bool
  | .tup _ => true
  | .frz _ _ => true
  | _ => false
/-- what is a tuple, what is no list and no dict, stays -/
def TT (H H' : Hp) : Prop := ∀ a o, isTF o = true → H a = some o → H' a = some o
def TK (H H' : Hp) : Prop := ∀ a o, isMu o = false → H a = some o → H' a = some o
theorem tf_mu {o : HO} (h : isTF o = true) : isMu o = false := by
  cases o with
  | tup _ => rfl
  | frz _ _ => rfl
  | _ => cases h
theorem TK.tt {H H' : Hp} (t : TK H H') : TT H H' := fun a o h e => t a o (tf_mu h) e
theorem TK.refl (H : Hp) : TK H H := fun _ _ _ h => h
theorem TK.trans {H H1 H2 : Hp} (x : TK H H1) (y : TK H1 H2) : TK H H2 := fun a o m h => y a o m (x a o m h)
theorem TK.same {H H' : Hp} (s : Same H H') : TK H H' := fun a o _ h => s a o h
theorem TK.upd {H : Hp} {p : Addr} {u o : HO} (h : H p = some u) (m : isMu u = true) : TK H (upd H p o) := fun a v n q => by
  have ne : a ≠ p := fun e => by
    subst e
    rw [h] at q; cases q
    rw [m] at n; cases n
  rw [upd_ne ne]; exact q
theorem TK.new {H : Hp} {p : Addr} {o : HO} (h : H p = none) : TK H (L2.upd H p o) := TK.same (sm_new h)
theorem TK.inD {H H' : Hp} {D : Addr} (h : H D = none) (k : ∀ b o, b ≠ D → H b = some o → H' b = some o) : TK H H' := fun a v _ q => k _ _ (ne_of_none q h) q
theorem TK.keep {B : Bx} {H H' : Hp} (hb : BoxAt H B) (s : Keep B H H') : TK H H' := fun a v n q => by
  obtain ⟨ne, ns, a1, b1, q1, q2, _⟩ := hb
  refine s a v (fun z => ?_) (fun z => ?_) q
  · rw [z, q1] at q; cases q; cases n
  · rw [z, q2] at q; cases q; cases n
theorem sqT_tt {K : PySem.W.Frag} {H H' : Hp} {a : Addr} {xs : List V} (t : TT H H') (h : SqT K H a xs) : SqT K H' a xs := h.elim (fun q => .inl (q.elim (fun q => .inl (t _ _ rfl q)) fun ⟨o, q⟩ => .inr ⟨o, t _ _ rfl q⟩)) .inr
theorem sqT_tk {K : PySem.W.Frag} {H H' : Hp} {a : Addr} {xs : List V} (t : TK H H') (h : SqT K H a xs) : SqT K H' a xs := sqT_tt t.tt h
structure Hd (H0 H : Hp) (L : List (Addr × HO)) : Prop where
  sm : Same H0 H
  nd : (L.map (·.1)).Nodup
  at_ : ∀ x ∈ L, H0 x.1 = none ∧ H x.1 = some x.2
section
variable {H0 H H' : Hp} {L : List (Addr × HO)} {p : Addr} {o u : HO}
theorem Hd.start (H : Hp) : Hd H H [] := ⟨Same.refl H, List.nodup_nil, fun _ h => (nomatch h)⟩
theorem Hd.get (w : Hd H0 H L) (h : (p, o) ∈ L) : H p = some o := (w.at_ _ h).2
theorem Hd.fr (w : Hd H0 H L) (h : (p, o) ∈ L) : H0 p = none := (w.at_ _ h).1
theorem Hd.call (w : Hd H0 H L) (s : Same H H') : Hd H0 H' L := ⟨w.sm.trans s, w.nd, fun x h => ⟨(w.at_ x h).1, s _ _ (w.at_ x h).2⟩⟩
theorem free_of {H H' : Hp} (s : Same H H') (h : H' p = none) : H p = none := by
  cases e : H p with
  | none => rfl
  | some o => rw [s _ _ e] at h; cases h
theorem Hd.got (w : Hd H0 H L) (n : H p = none) (s : Same H H') (h : H' p = some o) : Hd H0 H' ((p, o) :: L) := by
  refine ⟨w.sm.trans s, List.nodup_cons.mpr ⟨fun m => ?_, w.nd⟩, fun x hx => ?_⟩
  · obtain ⟨x, hx, e⟩ := List.mem_map.mp m
    have := (w.at_ x hx).2
    rw [show x.1 = p from e, n] at this
    cases this
  · rcases List.mem_cons.mp hx with rfl | hx
    · exact ⟨free_of w.sm n, h⟩
    · exact ⟨(w.at_ x hx).1, s _ _ (w.at_ x hx).2⟩
theorem Hd.new (w : Hd H0 H L) (n : H p = none) (o : HO) : Hd H0 (upd H p o) ((p, o) :: L) := w.got n (sm_new n) upd_same
theorem Hd.nw {Q : VK} (w : Hd H0 H L) (k : ∀ p H', H0 p = none → H p = none → Same H H' → Hd H0 H' ((p, o) :: L) → Q (.ref p) H') : New H o Q := fun p H' hn s h => k p H' (free_of w.sm hn) hn s (w.got hn s h)
theorem map_set_fst : ∀ (L : List (Addr × HO)) (i : Nat) (x : Addr × HO), L[i]?.map (·.1) = some x.1 → (L.set i x).map (·.1) = L.map (·.1)
  | [], _, _, h => by cases h
  | y :: L, 0, x, h => by
    have : y.1 = x.1 := Option.some.inj h
    show x.1 :: L.map (·.1) = y.1 :: L.map (·.1)
    rw [this]
  | y :: L, i + 1, x, h => by
    show y.1 :: (L.set i x).map (·.1) = y.1 :: L.map (·.1)
    rw [map_set_fst L i x h]
theorem Hd.set (w : Hd H0 H L) (i : Nat) (h : L[i]? = some (p, u)) (o : HO) : Hd H0 (upd H p o) (L.set i (p, o)) := by
  have hm : (p, u) ∈ L := List.mem_iff_getElem?.mpr ⟨i, h⟩
  have n0 := (w.at_ _ hm).1
  refine ⟨fun a v e => by rw [upd_ne (ne_of_none e n0)]; exact w.sm a v e, ?_, fun x hx => ?_⟩
  · rw [map_set_fst L i (p, o) (by rw [h]; rfl)]; exact w.nd
  · obtain ⟨j, hj⟩ := List.mem_iff_getElem?.mp hx
    by_cases c : i = j
    · subst c
      rw [List.getElem?_set_self (lt_at h)] at hj
      cases hj
      exact ⟨n0, upd_same⟩
    · rw [List.getElem?_set_ne c] at hj
      have hx' := w.at_ x (List.mem_iff_getElem?.mpr ⟨j, hj⟩)
      refine ⟨hx'.1, ?_⟩
      have ne : x.1 ≠ p := fun e => c (by
        have h1 : (L.map (·.1))[i]? = some p := by rw [List.getElem?_map, h]; rfl
        have h2 : (L.map (·.1))[j]? = some p := by rw [List.getElem?_map, hj, ← e]; rfl
        exact nodup_at w.nd h1 h2)
      rw [upd_ne ne]; exact hx'.2
theorem Hd.sub {L' : List (Addr × HO)} (w : Hd H0 H L) (h : L'.Sublist L) : Hd H0 H L' := ⟨w.sm, (h.map _).nodup w.nd, fun x hx => w.at_ x (h.subset hx)⟩
theorem Hd.tl {x : Addr × HO} (w : Hd H0 H (x :: L)) : Hd H0 H L := w.sub (List.sublist_cons_self _ _)
/-- within a list being made at D, one of one's own -/
theorem Hd.inD {D : Addr} (w : Hd H0 H L) (h : H D = none) (k : ∀ b o, b ≠ D → H b = some o → H' b = some o) : Hd H0 H' L :=
  ⟨fun a o e => k a o (ne_of_none (w.sm a o e) h) (w.sm a o e), w.nd, fun x hx => ⟨(w.at_ x hx).1, k _ _ (ne_of_none (w.at_ x hx).2 h) (w.at_ x hx).2⟩⟩
theorem Hd.tk (w : Hd H0 H L) : TK H0 H := TK.same w.sm
end
theorem same_sqL {K : PySem.W.Frag} {H H' : Hp} {a : Addr} {xs : List V} (s : Same H H') (h : SqL K H a xs) : SqL K H' a xs :=
  h.elim (fun q => .inl (q.elim (fun q => .inl (s _ _ q)) fun ⟨o, q⟩ => .inr ⟨o, s _ _ q⟩)) .inr
end Mw
open Mw
/-! ## objects of one's own beside a box -/
namespace Mw
structure Hb (B : Bx) (H0 H : Hp) (L : List (Addr × HO)) : Prop where
  b0 : BoxAt H0 B
  box : BoxAt H B
  kp : Keep B H0 H
  nd : (L.map (·.1)).Nodup
  at_ : ∀ x ∈ L, H0 x.1 = none ∧ (x.1 ≠ B.1 ∧ x.1 ≠ B.2) ∧ H x.1 = some x.2
section
variable {B : Bx} {H0 H H' : Hp} {L : List (Addr × HO)} {p : Addr} {o u : HO}
theorem Hb.start (b : BoxAt H B) : Hb B H H [] := ⟨b, b, Keep.refl _ _, List.nodup_nil, fun _ h => (nomatch h)⟩
theorem Hb.get (w : Hb B H0 H L) (h : (p, o) ∈ L) : H p = some o := (w.at_ _ h).2.2
theorem Hb.fr (w : Hb B H0 H L) (h : (p, o) ∈ L) : H0 p = none := (w.at_ _ h).1
theorem Hb.ne (w : Hb B H0 H L) (h : (p, o) ∈ L) : p ≠ B.1 ∧ p ≠ B.2 := (w.at_ _ h).2.1
theorem Hb.old (w : Hb B H0 H L) (n : p ≠ B.1) (m : p ≠ B.2) (h : H0 p = some o) : H p = some o := w.kp p o n m h
theorem Hb.free (w : Hb B H0 H L) (h : H p = none) : H0 p = none := w.kp.free w.box h
theorem Hb.same (w : Hb B H0 H L) (s : Same H H') : Hb B H0 H' L := ⟨w.b0, w.box.same s, w.kp.trans (Keep.same s), w.nd, fun x h => ⟨(w.at_ x h).1, (w.at_ x h).2.1, s _ _ (w.at_ x h).2.2⟩⟩
theorem Hb.keep (w : Hb B H0 H L) (k : Keep B H H') (b : BoxAt H' B) : Hb B H0 H' L := ⟨w.b0, b, w.kp.trans k, w.nd, fun x h => ⟨(w.at_ x h).1, (w.at_ x h).2.1, k _ _ (w.at_ x h).2.1.1 (w.at_ x h).2.1.2 (w.at_ x h).2.2⟩⟩
theorem Hb.gotK (w : Hb B H0 H L) (n : H p = none) (k : Keep B H H') (b : BoxAt H' B) (h : H' p = some o) : Hb B H0 H' ((p, o) :: L) := by
  refine ⟨w.b0, b, w.kp.trans k, List.nodup_cons.mpr ⟨fun m => ?_, w.nd⟩, fun x hx => ?_⟩
  · obtain ⟨x, hx, e⟩ := List.mem_map.mp m
    have := (w.at_ x hx).2.2
    rw [show x.1 = p from e, n] at this
    cases this
  · rcases List.mem_cons.mp hx with rfl | hx
    · exact ⟨w.free n, ⟨w.box.n1 n, w.box.n2 n⟩, h⟩
    · exact ⟨(w.at_ x hx).1, (w.at_ x hx).2.1, k _ _ (w.at_ x hx).2.1.1 (w.at_ x hx).2.1.2 (w.at_ x hx).2.2⟩
theorem Hb.got (w : Hb B H0 H L) (n : H p = none) (s : Same H H') (h : H' p = some o) : Hb B H0 H' ((p, o) :: L) := w.gotK n (Keep.same s) (w.box.same s) h
theorem Hb.new (w : Hb B H0 H L) (n : H p = none) (o : HO) : Hb B H0 (upd H p o) ((p, o) :: L) := w.got n (sm_new n) upd_same
theorem Hb.nw {Q : VK} (w : Hb B H0 H L) (k : ∀ p H', H0 p = none → H p = none → Same H H' → Hb B H0 H' ((p, o) :: L) → Q (.ref p) H') : New H o Q := fun p H' hn s h => k p H' (w.free hn) hn s (w.got hn s h)
theorem Hb.set (w : Hb B H0 H L) (i : Nat) (h : L[i]? = some (p, u)) (o : HO) : Hb B H0 (upd H p o) (L.set i (p, o)) := by
  have hm : (p, u) ∈ L := List.mem_iff_getElem?.mpr ⟨i, h⟩
  obtain ⟨n0, nb, _⟩ := w.at_ _ hm
  refine ⟨w.b0, w.box.keep (fun u e => by rw [upd_ne nb.1.symm]; exact e) (fun u e => by rw [upd_ne nb.2.symm]; exact e), fun a v na nc e => by rw [upd_ne (ne_of_none e n0)]; exact w.kp a v na nc e, ?_, fun x hx => ?_⟩
  · rw [map_set_fst L i (p, o) (by rw [h]; rfl)]; exact w.nd
  · obtain ⟨j, hj⟩ := List.mem_iff_getElem?.mp hx
    by_cases c : i = j
    · subst c
      rw [List.getElem?_set_self (lt_at h)] at hj
      cases hj
      exact ⟨n0, nb, upd_same⟩
    · rw [List.getElem?_set_ne c] at hj
      have hx' := w.at_ x (List.mem_iff_getElem?.mpr ⟨j, hj⟩)
      refine ⟨hx'.1, hx'.2.1, ?_⟩
      have ne : x.1 ≠ p := fun e => c (by
        have h1 : (L.map (·.1))[i]? = some p := by rw [List.getElem?_map, h]; rfl
        have h2 : (L.map (·.1))[j]? = some p := by rw [List.getElem?_map, hj, ← e]; rfl
        exact nodup_at w.nd h1 h2)
      rw [upd_ne ne]; exact hx'.2.2
theorem Hb.sub {L' : List (Addr × HO)} (w : Hb B H0 H L) (h : L'.Sublist L) : Hb B H0 H L' := ⟨w.b0, w.box, w.kp, (h.map _).nodup w.nd, fun x hx => w.at_ x (h.subset hx)⟩
theorem Hb.tl {x : Addr × HO} (w : Hb B H0 H (x :: L)) : Hb B H0 H L := w.sub (List.sublist_cons_self _ _)
theorem Hb.nil (w : Hb B H0 H L) : Hb B H0 H [] := w.sub (List.nil_sublist _)
theorem Hb.inD {D : Addr} (w : Hb B H0 H L) (h : H D = none) (k : ∀ b o, b ≠ D → H b = some o → H' b = some o) : Hb B H0 H' L :=
  ⟨w.b0, w.box.keep (fun o e => k _ _ (w.box.n1 h).symm e) (fun o e => k _ _ (w.box.n2 h).symm e), fun a o n m e => k a o (ne_of_none (w.kp a o n m e) h) (w.kp a o n m e), w.nd, fun x hx => ⟨(w.at_ x hx).1, (w.at_ x hx).2.1, k _ _ (ne_of_none (w.at_ x hx).2.2 h) (w.at_ x hx).2.2⟩⟩
theorem Hb.tk (w : Hb B H0 H L) : TK H0 H := TK.keep w.b0 w.kp
theorem Hb.draw {m : Int} {Q : VK} {E : XK} (w : Hb B H0 H L) (m0 : 0 < m) (m1 : m ≤ 1000000000000) (k : ∀ d H', 0 ≤ d → d < m → Hb B H0 H' L → Keep B H H' → Q (.int d) H') : sp_draw [.ref B.1, .int m] H Q E :=
  ⟨B, m, by rfl, w.box, m0, m1, fun d H' d0 d1 kp hb => k d H' d0 d1 (w.keep kp hb) kp⟩
end
end Mw

local macro_rules | `(tactic| walk_at "mem") => `(tactic| first | exact List.Mem.head _ | (refine List.Mem.tail _ ?_; walk_at "mem"))
local macro_rules | `(tactic| walk_at "hp") => `(tactic| first | assumption | exact Wo.get (by assumption) (by walk_at "mem") | exact Ho.get (by assumption) (by walk_at "mem") | exact upd_same)
local macro_rules | `(tactic| walk_at "seq") => `(tactic| first | assumption | exact SqL.of (by walk_at "hp") | exact SqT.of (by walk_at "hp"))
local macro_rules | `(tactic| walk_at "sqo") => `(tactic| first | assumption | exact .inl (by walk_at "seq") | exact .inr (by walk_at "seq"))
local macro_rules | `(tactic| walk_at "dp") => `(tactic| first | exact .int _ | exact .str _ | exact .bl _ | exact .non | exact .tup (SqT.of (by walk_at "hp")) (by walk_at "dps") | exact .lst (SqL.of (by walk_at "hp")) (by walk_at "dps"))
local macro_rules | `(tactic| walk_at "dps") => `(tactic| first | exact .nil | exact .cons (by walk_at "dp") (by walk_at "dps"))
local macro_rules | `(tactic| walk_at "shw") => `(tactic| first | exact Shw.int (by assumption) | exact Shw.int (by unfold showsI; decide) | exact Shw.tup (by walk_at "shwl") | exact Shw.lst (by walk_at "shwl") | exact Shw.bool _ | exact Shw.none | exact Shw.str (by decide +kernel) (Nat.le_refl _))
local macro_rules | `(tactic| walk_at "shwl") => `(tactic| first | exact ShwL.nil | exact ShwL.cons (by walk_at "shw") (by walk_at "shwl"))
local macro_rules | `(tactic| walk_at "sho") => `(tactic| first | assumption | (refine' Shw.ok ?shwa ?shwb ?shwc; (case shwa => walk_at "shw"); (case shwb => decide); (case shwc => decide)))
local macro_rules | `(tactic| walk_at "cls") => `(tactic| first | assumption | exact ChT.cl (by assumption) | exact RatT.cl (by assumption))
local macro_rules | `(tactic| walk_at "noat") => `(tactic| first | assumption | exact ChT.n1 (by assumption) | exact ChT.n2 (by assumption) | exact RatT.n1 (by assumption) | exact RatT.n2 (by assumption))
local macro_rules | `(tactic| walk_at "flk") => `(tactic| first | exact cf1 _ _ | exact cf2 _ _ | exact rf1 _ _ | exact rf2 _ _)
local macro_rules | `(tactic| walk_at "new") => `(tactic| first | refine Wo.nw (by assumption) fun _ _ _ _ => ?_ | refine Ho.nw (by assumption) fun _ _ _ _ => ?_)
local macro_rules | `(tactic| walk_at "kws") => `(tactic| first | exact wm (by assumption) (by assumption) | exact Nat.le_of_ble_eq_true rfl | exact szl (by omega) | walk_at "kbs")
local macro_rules | `(tactic| walk_at "kw1") => `(tactic| first
  | refine And.intro (show scal _ _ = true from rfl) ?_
  | refine ⟨_, rfl, ?_⟩
  | (refine ⟨_, _, rfl, rfl, ?_⟩; try refine And.intro (by walk_at "kws") ?_)
  | refine ⟨_, _, _, _, rfl, rfl, (by walk_at "seq"), rfl, ?_⟩
  | refine ⟨_, _, _, _, _, rfl, (by walk_at "hp"), (by walk_at "cls"), (by walk_at "noat"), (by walk_at "flk"), ?_⟩
  | refine ⟨_, _, rfl, (show SqL _ _ _ _ ∨ SqT _ _ _ _ from by walk_at "sqo"), ?_⟩
  | refine ⟨_, _, rfl, (show SqT _ _ _ _ from by walk_at "seq"), rfl, ?_⟩
  | refine ⟨_, _, rfl, (show Dp _ _ _ _ from by walk_at "dp"), (show ShOk _ from by walk_at "sho"), ?_⟩
  | refine ⟨_, _, (show Dp _ _ _ _ from by walk_at "dp"), (show Dp _ _ _ _ from by walk_at "dp"), (by first | rfl | decide +kernel), (by first | rfl | decide +kernel), ?_⟩
  | refine ⟨_, _, rfl, ?_⟩
  | refine And.intro (show _ ≤ 1000000 by walk_at "kws") ?_
  | walk_at "new"
  | refine And.intro (by walk_at "kws") ?_
  | refine And.intro ⟨_, rfl⟩ ?_
  | refine And.intro (show _ = some (some _) from rfl) ?_)
local macro_rules | `(tactic| walk_at "kw") => `(tactic| repeat (first | ((with_reducible refine iteNSI ?_ ?_); (with_reducible rfl)) | (with_reducible refine iteTI ?_) | (with_reducible refine iteFI ?_) | ((fail_if_success (with_reducible refine isIte ?_)); walk_at "kw1")))

local macro_rules | `(tactic| walk_at "kw1") => `(tactic| refine ⟨_, _, rfl, (show SqL _ _ _ _ from by walk_at "seq"), rfl, ?_⟩)
local macro_rules | `(tactic| walk_at "kw1") => `(tactic| ((refine' nrm_of ?nre ?nrg); (case nre => ((try simp only [L2.start, List.map, List.length_cons, List.length_nil, Nat.reduceAdd, Nat.reduceSub, Nat.zero_add, List.reduceReplicate, List.cons_append, List.nil_append, List.set_cons_succ, List.set_cons_zero]); exact rfl))))
local macro_rules | `(tactic| walk_at "nrm") => `(tactic| ((show ∀ sl : L2.St, _ = sl → _); (refine' nrm_of ?nre ?nrg); (case nre => ((try simp only [L2.start, List.map, List.length_cons, List.length_nil, Nat.reduceAdd, Nat.reduceSub, Nat.zero_add, List.reduceReplicate, List.cons_append, List.nil_append, List.set_cons_succ, List.set_cons_zero]); exact rfl))))

local macro_rules | `(tactic| walk_at "new") => `(tactic| first | refine Hd.nw (by assumption) fun _ _ _ _ _ _ => ?_)
local macro_rules | `(tactic| walk_at "hp") => `(tactic| first | exact Hd.get (by assumption) (by walk_at "mem"))
local macro_rules | `(tactic| walk_at "kw1") => `(tactic| first
  | refine ⟨_, _, rfl, (show SqT _ _ _ _ from by walk_at "seq"), rfl, ?_⟩
  | refine ⟨_, _, rfl, _, _, rfl, rfl, rfl, ?_⟩)

local macro_rules | `(tactic| walk_at "new") => `(tactic| first | refine Hb.nw (by assumption) fun _ _ _ _ _ _ => ?_)
local macro_rules | `(tactic| walk_at "hp") => `(tactic| first | exact Hb.get (by assumption) (by walk_at "mem"))

/-! ## changes as four numbers -/
namespace Mx
structure Mt where
  a : Int
  b : Int
  c : Int
  d : Int
def Mt.mul (m n : Mt) : Mt := ⟨m.a * n.a + m.b * n.c, m.a * n.b + m.b * n.d, m.c * n.a + m.d * n.c, m.c * n.b + m.d * n.d⟩
def Mt.one : Mt := ⟨1, 0, 0, 1⟩
def Mt.tl (m : Mt) : List V := [.int m.a, .int m.b, .int m.c, .int m.d]
/-- none below 0, all below 2 ^ n -/
structure Mt.In (m : Mt) (n : Nat) : Prop where
  a0 : 0 ≤ m.a
  b0 : 0 ≤ m.b
  c0 : 0 ≤ m.c
  d0 : 0 ≤ m.d
  a1 : m.a < 2 ^ n
  b1 : m.b < 2 ^ n
  c1 : m.c < 2 ^ n
  d1 : m.d < 2 ^ n
theorem pw_mul {x y : Int} {i j : Nat} (hx : 0 ≤ x) (hy : 0 ≤ y) (h1 : x < 2 ^ i) (h2 : y < 2 ^ j) : x * y < 2 ^ (i + j) := by
  rw [Int.pow_add]
  have e : x * y ≤ x * 2 ^ j := Int.mul_le_mul_of_nonneg_left (Int.le_of_lt h2) hx
  have e2 : x * 2 ^ j < 2 ^ i * 2 ^ j := Int.mul_lt_mul_of_pos_right h1 (Int.pow_pos (by decide))
  exact Int.lt_of_le_of_lt e e2
theorem pw_sum {x y : Int} {i : Nat} (h1 : x < 2 ^ i) (h2 : y < 2 ^ i) : x + y < 2 ^ (i + 1) := by
  rw [Int.pow_succ]; omega
theorem Mt.In.mul {m n : Mt} {i j : Nat} (x : m.In i) (y : n.In j) : (m.mul n).In (i + j + 1) :=
  ⟨Int.add_nonneg (Int.mul_nonneg x.a0 y.a0) (Int.mul_nonneg x.b0 y.c0), Int.add_nonneg (Int.mul_nonneg x.a0 y.b0) (Int.mul_nonneg x.b0 y.d0),
   Int.add_nonneg (Int.mul_nonneg x.c0 y.a0) (Int.mul_nonneg x.d0 y.c0), Int.add_nonneg (Int.mul_nonneg x.c0 y.b0) (Int.mul_nonneg x.d0 y.d0),
   pw_sum (pw_mul x.a0 y.a0 x.a1 y.a1) (pw_mul x.b0 y.c0 x.b1 y.c1), pw_sum (pw_mul x.a0 y.b0 x.a1 y.b1) (pw_mul x.b0 y.d0 x.b1 y.d1),
   pw_sum (pw_mul x.c0 y.a0 x.c1 y.a1) (pw_mul x.d0 y.c0 x.d1 y.c1), pw_sum (pw_mul x.c0 y.b0 x.c1 y.b1) (pw_mul x.d0 y.d0 x.d1 y.d1)⟩
theorem pw_le {i j : Nat} (h : i ≤ j) : (2 : Int) ^ i ≤ 2 ^ j := by
  have := Nat.pow_le_pow_right (show 0 < 2 by decide) h
  exact_mod_cast this
theorem Mt.In.mono {m : Mt} {i j : Nat} (x : m.In i) (h : i ≤ j) : m.In j :=
  have e := pw_le h
  ⟨x.a0, x.b0, x.c0, x.d0, Int.lt_of_lt_of_le x.a1 e, Int.lt_of_lt_of_le x.b1 e, Int.lt_of_lt_of_le x.c1 e, Int.lt_of_lt_of_le x.d1 e⟩
theorem abs_lt {x : Int} {n : Nat} (h0 : 0 ≤ x) (h : x < 2 ^ n) : x.natAbs < 2 ^ n := by
  have e : ((x.natAbs : Nat) : Int) = x := by omega
  have : ((x.natAbs : Nat) : Int) < ((2 ^ n : Nat) : Int) := by rw [e]; exact_mod_cast h
  exact Int.ofNat_lt.mp this
/-! ### powers -/
/-! ### words -/
def lt (x : Bool) : Mt := if x then ⟨1, 1, 0, 1⟩ else ⟨1, 0, 1, 1⟩
end Mx
open Mx

namespace Ct
def st (i : Int) : Str := Str.ofString (toString i)
def tx (m : Mt) : Str := Txt.join (" " : Str) [st m.a, st m.b, st m.c, st m.d]
def sp_chstr (CC : Addr) : Sp := fun vs H Q _ => ∃ (p : Addr) (m : Mt), vs = [.ref p] ∧ ChAt CC H p m.a m.b m.c m.d ∧ m.In 40 ∧ ∀ H', Same H H' → Q (.str (tx m)) H'
theorem st_len {i : Int} (h0 : 0 ≤ i) (h : i < 2 ^ 40) : (st i).length ≤ 13 := by
  have e : i < (10 : Int) ^ 13 := Int.lt_trans h (by decide)
  exact PyProof.Rows.toString_length_le h0 (by decide) e
theorem st_log {i : Int} (h0 : 0 ≤ i) (h : i < 2 ^ 40) : i.natAbs.log2 < 1920 := by
  have : i.natAbs < 2 ^ 40 := abs_lt h0 h
  exact Nat.lt_of_lt_of_le (PySem.Flt.log2_lt_of (by decide) this) (by decide)
end Ct
open Ct
section
variable {P : Program} {w : World} {K : PySem.W.Frag} {mg : Str → Option Value} {base : Heap}
theorem ok_chstr {f CC : Addr} {fd : FuncData} (F : Fun K "__str__" "Change.__str__" S_Change__str_ f fd) (T : Txt K mg) (Rc : ChT K mg CC) : FnOk P w K mg base CX0 1 f fd ["self"] (sp_chstr CC) := by
  refine F.ok SC_Change__str_ (fun vs H Q E h => ?_) (fun cdv A outer s H vs Q E hr h => ?_)
  · obtain ⟨p, m, rfl, _⟩ := h
    rfl
  · obtain ⟨p, m, rfl, ⟨dx, q, h1, h2⟩, bm, k⟩ := h
    refine ⟨_, (pss_one (ps_ret (pe_join pe_str (pe_lc (own := [("number", 1)]) (g := gName 1) (by rfl) SC_Change__str_.nd (pi_tup (pe_fld (pv 0) rfl)) (blkOk_by (own := [("number", 1)]) (N := N_Change__str_) (sc := defScope S_Change__str_) (by decide +kernel)) (fun _ _ _ _ _ => pg_name (i := 1) SC_Change__str_.nd rfl (Or.inl rfl)) (fun _ _ _ _ _ => pts_nil) (fun _ _ _ _ _ => (pe_callTy call_str_int (by rfl) T.b_str (by decide +kernel) (pa_cons (pv 1) pa_nil))))))), ?_⟩
    walk_at "kw"
    refine ⟨⟨_, SqT.of h2⟩, fun D hD => ?_⟩
    refine lcR_tup (xs := m.tl) (fun i H' => (∀ b o, b ≠ D → H b = some o → H' b = some o) ∧ H' D = some (.lst (([m.a, m.b, m.c, m.d].take i).map fun v => V.str (st v)))) ⟨fun b o n e => by rw [upd_ne n]; exact e, upd_same⟩
      (fun i H' _ mm => SqT.of (mm.1 q _ (ne_of_none h2 hD) h2)) (fun i v H1 hi mm => ?_) (gName_mono _) (fun H1 mm => ?_)
    · obtain ⟨kp, hH⟩ := mm
      obtain ⟨x, hx, rfl, x0, x1⟩ : ∃ x, [m.a, m.b, m.c, m.d][i]? = some x ∧ v = .int x ∧ 0 ≤ x ∧ x < 2 ^ 40 := by
        match i, hi with
        | 0, hi => cases hi; exact ⟨_, rfl, rfl, bm.a0, bm.a1⟩
        | 1, hi => cases hi; exact ⟨_, rfl, rfl, bm.b0, bm.b1⟩
        | 2, hi => cases hi; exact ⟨_, rfl, rfl, bm.c0, bm.c1⟩
        | 3, hi => cases hi; exact ⟨_, rfl, rfl, bm.d0, bm.d1⟩
        | i + 4, hi => simp [Mt.tl] at hi
      refine ⟨rfl, _, rfl, x, rfl, st_log x0 x1, _, hH, szs (by rw [List.length_map, List.length_take]; exact Nat.le_trans (Nat.min_le_right _ _) (by show 4 ≤ 1000000; decide)), fun b o n e => by rw [upd_ne n]; exact kp b o n e, ?_⟩
      rw [upd_same, List.take_succ, hx, List.map_append]; rfl
    · obtain ⟨kp, hH⟩ := mm
      have sm : Same H H1 := fun b o e => kp b o (ne_of_none e hD) e
      have la := st_len bm.a0 bm.a1
      have lb := st_len bm.b0 bm.b1
      have lc := st_len bm.c0 bm.c1
      have ld := st_len bm.d0 bm.d1
      walk_at "kw"
      refine ⟨_, D, [st m.a, st m.b, st m.c, st m.d], rfl, rfl, .inl (SqL.of hH), ?_, k H1 sm⟩
      show (st m.a).length + ((st m.b).length + ((st m.c).length + ((st m.d).length + 0))) + 4 * (" " : Str).length ≤ _
      rw [show (" " : Str).length = 1 by decide +kernel]
      omega
end

/-! ## programs: rows and tests, their texts -/
namespace Pg
inductive Tst
  | longer | shorter | alike
  | holds (n : Str) (k : Int)
  | not (t : Tst)
inductive Rw1
  | make (m : Mt) | exch | lay | put (n : Str) (k : Int) | add (n : Str) (k : Int) | tell (m : Str) | stop
  | ifb (t : Tst) (r o : List Rw1)
  | untl (g : Str) (r : List Rw1)
theorem app_assoc (a b c : Str) : a ++ b ++ c = a ++ (b ++ c) := by
  show (⟨(a.cps ++ b.cps) ++ c.cps⟩ : Str) = ⟨a.cps ++ (b.cps ++ c.cps)⟩
  rw [Array.append_assoc]
theorem app_e (a : Str) : Str.empty ++ a = a := by
  show (⟨#[] ++ a.cps⟩ : Str) = a
  simp
theorem app_l (a b : Str) : (a ++ b).cps.toList = a.cps.toList ++ b.cps.toList := by
  show (a.cps ++ b.cps).toList = _
  simp
theorem app_len (a b : Str) : (a ++ b).length = a.length + b.length := by
  show (a.cps ++ b.cps).size = _
  simp; rfl
theorem st_inj {a b : Str} (h : a.cps.toList = b.cps.toList) : a = b := congrArg Str.mk (Array.toList_inj.mp h)
def Tst.txt : Tst → Str
  | .longer => "longer"
  | .shorter => "shorter"
  | .alike => "alike"
  | .holds n k => n ++ " is " ++ st k
  | .not t => ("not " : Str) ++ t.txt
def Tst.uses : Tst → List Str
  | .holds n _ => [n]
  | .not t => t.uses
  | _ => []
def Tst.sort : Tst → Str
  | .longer => "longer"
  | .shorter => "shorter"
  | .alike => "alike"
  | .holds _ _ => "holds"
  | .not _ => "not"
def Tst.d : Tst → PyData
  | .holds n k => .tuple [.str "holds", .str n, .int k]
  | .not t => .tuple [.str "not", t.d]
  | .longer => .tuple [.str "longer"]
  | .shorter => .tuple [.str "shorter"]
  | .alike => .tuple [.str "alike"]
def Tst.deep : Tst → Nat
  | .not t => t.deep + 1
  | _ => 0
def Rw1.sort : Rw1 → Str
  | .make _ => "make"
  | .exch => "exchange"
  | .lay => "lay"
  | .put _ _ => "put"
  | .add _ _ => "add"
  | .tell _ => "tell"
  | .stop => "stop"
  | .ifb _ _ _ => "if"
  | .untl _ _ => "until"
def Rw1.uses : Rw1 → List Str
  | .put n _ => [n]
  | .add n _ => [n]
  | .ifb t _ _ => t.uses
  | _ => []
def elseL (o : List Rw1) (l : List Str) : List Str := match o with
  | [] => []
  | _ :: _ => ("else" : Str) :: l
mutual
def Rw1.lines : Rw1 → List Str
  | .make m => [("make " : Str) ++ tx m]
  | .exch => ["exchange"]
  | .lay => ["lay"]
  | .put n k => [("put " : Str) ++ n ++ " " ++ st k]
  | .add n k => [("add " : Str) ++ n ++ " " ++ st k]
  | .tell m => [("tell " : Str) ++ m]
  | .stop => ["stop"]
  | .ifb t r o => (("if " : Str) ++ t.txt) :: (linesL r ++ (elseL o (linesL o) ++ ([("end" : Str)] : List Str)))
  | .untl g r => (("until " : Str) ++ g) :: (linesL r ++ ([("end" : Str)] : List Str))
def linesL : List Rw1 → List Str
  | [] => []
  | r :: rs => r.lines ++ linesL rs
end
mutual
def Rw1.d : Rw1 → PyData
  | .make m => .tuple [.str "make", .tuple ([m.a, m.b, m.c, m.d].map PyData.int)]
  | .exch => .tuple [.str "exchange"]
  | .lay => .tuple [.str "lay"]
  | .put n k => .tuple [.str "put", .str n, .int k]
  | .add n k => .tuple [.str "add", .str n, .int k]
  | .tell m => .tuple [.str "tell", .str m]
  | .stop => .tuple [.str "stop"]
  | .ifb t r o => .tuple [.str "if", t.d, .tuple (dL r), .tuple (dL o)]
  | .untl g r => .tuple [.str "until", .str g, .tuple (dL r)]
def dL : List Rw1 → List PyData
  | [] => []
  | r :: rs => r.d :: dL rs
end
mutual
def Rw1.deep : Rw1 → Nat
  | .ifb _ r o => max (deepL r) (deepL o) + 1
  | .untl _ r => deepL r + 1
  | _ => 0
def deepL : List Rw1 → Nat
  | [] => 0
  | r :: rs => max r.deep (deepL rs)
end
mutual
/-- the rows within one, itself ahead -/
def Rw1.inner : Rw1 → List Rw1
  | .ifb t r o => .ifb t r o :: (innerL r ++ innerL o)
  | .untl g r => .untl g r :: innerL r
  | .make m => [.make m]
  | .exch => [.exch]
  | .lay => [.lay]
  | .put n k => [.put n k]
  | .add n k => [.add n k]
  | .tell m => [.tell m]
  | .stop => [.stop]
def innerL : List Rw1 → List Rw1
  | [] => []
  | r :: rs => r.inner ++ innerL rs
end
mutual
/-- each way through it lays -/
def Rw1.lays : Rw1 → Bool
  | .lay => true
  | .stop => true
  | .ifb _ r o => laysL r && laysL o
  | .untl g _ => decide (g = "alike")
  | _ => false
def laysL : List Rw1 → Bool
  | [] => false
  | r :: rs => r.lays || laysL rs
end
def Rw1.isMake : Rw1 → Bool
  | .make _ => true
  | _ => false
def hasMake (rs : List Rw1) : Bool := (innerL rs).any Rw1.isMake
theorem linesL_app : ∀ a b : List Rw1, linesL (a ++ b) = linesL a ++ linesL b
  | [], _ => rfl
  | r :: a, b => by
    show r.lines ++ linesL (a ++ b) = _
    rw [linesL_app a b, ← List.append_assoc]; rfl
theorem deepL_mem : ∀ {rs : List Rw1} {r : Rw1}, r ∈ rs → r.deep ≤ deepL rs
  | s :: rs, r, h => by
    show r.deep ≤ max s.deep (deepL rs)
    rcases List.mem_cons.mp h with rfl | h
    · exact Nat.le_max_left _ _
    · exact Nat.le_trans (deepL_mem h) (Nat.le_max_right _ _)
/-- joined texts -/
theorem fold_pre (sep : Str) : ∀ (ps : List Str) (x y : Array Nat), ps.foldl (fun acc p => acc ++ sep.cps ++ p.cps) (x ++ y) = x ++ ps.foldl (fun acc p => acc ++ sep.cps ++ p.cps) y
  | [], _, _ => rfl
  | p :: ps, x, y => by
    show ps.foldl (fun acc p => acc ++ sep.cps ++ p.cps) (x ++ y ++ sep.cps ++ p.cps) = x ++ ps.foldl (fun acc p => acc ++ sep.cps ++ p.cps) (y ++ sep.cps ++ p.cps)
    rw [← fold_pre sep ps x]
    simp only [Array.append_assoc]
theorem join_cons2 (sep a b : Str) (l : List Str) : Txt.join sep (a :: b :: l) = a ++ sep ++ Txt.join sep (b :: l) := by
  show (⟨(b :: l).foldl (fun acc p => acc ++ sep.cps ++ p.cps) a.cps⟩ : Str) = ⟨(a.cps ++ sep.cps) ++ l.foldl (fun acc p => acc ++ sep.cps ++ p.cps) b.cps⟩
  rw [← fold_pre]
  rfl
theorem join_one (sep a : Str) : Txt.join sep [a] = a := rfl
end Pg
open Pg

/-! ## names -/
namespace Pg
def nameOk (z : Str) : Bool := decide (1 ≤ z.length) && decide (z.length ≤ 4) && !inV (.str z) [.str "not", .str "is"] && z.cps.toList.all (fun c => decide (c ∈ letters.cps.toList))
def isName : V → Bool
  | .str z => nameOk z
  | _ => false
/-- a text, a number of the module -/
structure GS (mg : Str → Option Value) (x z : Str) : Prop where
  ex : ∃ tk, mg x = some (.str z tk)
structure GI (mg : Str → Option Value) (x : Str) (i : Int) : Prop where
  ex : ∃ tk, mg x = some (.int i tk)
structure GT (K : PySem.W.Frag) (mg : Str → Option Value) (x : Str) (vs : List V) : Prop where
  ex : ∃ a, mg x = some (.ref a) ∧ ∀ H, SqT K H a vs
theorem gt_of {K : PySem.W.Frag} {mg : Str → Option Value} {x : Str} {vs : List V} {a : Addr} {o : Obj} {its : Array Value} {n : Nat} (h : mg x = some (.ref a)) (l : K.lookup a = some o) (c : o.cls = .type "tuple") (d : o.data = .seq its n) (z : its.size ≤ sizeLine) (v : Vals vs its.toList) : GT K mg x vs :=
  ⟨a, h, fun _ => .inr ⟨o, its, n, l, c, d, z, v⟩⟩
def sp_isname (K : PySem.W.Frag) : Sp := fun vs H Q _ => ∃ x, vs = [x] ∧ Kd K H x ∧ (∀ z, x = .str z → z.length ≤ 1000000) ∧ ∀ H', Same H H' → Q (.bl (isName x)) H'
end Pg
open Pg
section
variable {P : Program} {w : World} {K : PySem.W.Frag} {mg : Str → Option Value} {base : Heap}
theorem ok_isname {f : Addr} {fd : FuncData} (F : Fun K "is_name" "is_name" S_is_name f fd) (T : Txt K mg) (GL : GS mg "LETTERS" letters) (GM : GI mg "MOST_LETTERS" 4) (GB : GT K mg "BARRED" [.str "not", .str "is"]) : FnOk P w K mg base CX0 1 f fd ["value"] (sp_isname K) := by
  obtain ⟨tl, hL⟩ := GL.ex
  obtain ⟨tm, hM⟩ := GM.ex
  obtain ⟨ab, hB, sB⟩ := GB.ex
  refine F.ok SC_is_name (fun vs H Q E h => ?_) (fun cdv A outer s H vs Q E hr h => ?_)
  · obtain ⟨x, rfl, _⟩ := h
    rfl
  · obtain ⟨x, rfl, ⟨t, ty, _, _, h3⟩, hz, k⟩ := h
    refine ⟨_, (pss_cons (ps_if (PW.pt (pw_or (pt_not (pt_val (pe_callB call_isi (by rfl) T.b_isinstance (by decide +kernel) (pa_cons (pv 0) (pa_cons (pe_bltn (v := .ty "str") (by rfl) T.b_str boot_str rfl) pa_nil))))) (pw_or (pt_not (pt_chain op_le op_le pe_int (pe_callB call_len_str (by rfl) T.b_len (by decide +kernel) (pa_cons (pv 0) pa_nil)) (pe_glob (v := .int 4) (by rfl) hM ⟨_, rfl⟩))) (pw_or1 (pt_cmpR op_in_seq (pv 0) (pe_glob (v := .ref ab) (by rfl) hB rfl) (by rfl)))))) (pss_one (ps_ret pe_bl)) pss_nil)
      (pss_one (ps_ret (pe_callB (cr_all rfl) (by rfl) T.b_all (by decide +kernel) (pa_cons (pe_lc (own := [("letter", 1)]) (g := gName 1) (by rfl) SC_is_name.nd (pi_str (pv 0)) (blkOk_by (own := [("letter", 1)]) (N := N_is_name) (sc := defScope S_is_name) (by decide +kernel)) (fun _ _ _ _ _ => pg_name (i := 1) SC_is_name.nd rfl (Or.inl rfl)) (fun _ _ _ _ _ => pts_nil) (fun _ _ _ _ _ => (pe_cmpR op_in_sign (pv 1) (pe_glob (v := .str letters) (by rfl) hL ⟨_, rfl⟩) rfl))) pa_nil))))), ?_⟩
    refine ⟨_, rfl, x, _, t, _, _, rfl, .ty _, ty, h3, isS x, rfl, ?_⟩
    by_cases c : isS x = true
    · rw [c]
      obtain ⟨z, rfl⟩ : ∃ z, x = .str z := by cases x <;> first | exact ⟨_, rfl⟩ | cases c
      have hl := szl (hz z rfl)
      refine ifF rfl ?_
      refine ⟨_, rfl, z, rfl, hl, _, _, rfl, rfl, ?_⟩
      have bad : nameOk z = false → Q (.bl false) H := fun e => by
        have := k H (Same.refl H)
        rwa [show isName (.str z) = false from e] at this
      refine ⟨_, rfl, ?_⟩
      by_cases c1 : 1 ≤ z.length
      · rw [decide_eq_true (show (1 : Int) ≤ (z.length : Nat) by omega)]
        refine ifT rfl ⟨_, _, rfl, rfl, _, rfl, ?_⟩
        by_cases c2 : z.length ≤ 4
        · rw [decide_eq_true (show ((z.length : Nat) : Int) ≤ 4 by omega)]
          refine ifF rfl ?_
          refine ⟨_, rfl, ab, _, rfl, .inr (sB H), rfl, rfl, ?_⟩
          refine ⟨_, rfl, ?_⟩
          rw [if_neg (by decide)]
          by_cases c3 : inV (.str z) [.str "not", .str "is"] = true
          · rw [c3]
            refine ifT rfl (bad ?_)
            unfold nameOk
            rw [c3, Bool.not_true, Bool.and_false, Bool.false_and]
          · rw [Bool.not_eq_true] at c3
            rw [c3]
            refine ifF rfl ?_
            refine ⟨_, rfl, z, rfl, fun D hD => ?_⟩
            refine lcR_str (z := z) (fun i H' => (∀ b o, b ≠ D → H b = some o → H' b = some o) ∧ H' D = some (.lst (((z.cps.toList.take i).map fun c => decide (c ∈ letters.cps.toList)).map V.bl))) ⟨fun b o n e => by rw [upd_ne n]; exact e, upd_same⟩ (fun i c H1 hi hc m => ?_) (gName_mono _) (fun H1 m => ?_)
            · obtain ⟨kp, hH⟩ := m
              have hc' : z.cps.toList[i]? = some c := by rw [Array.getElem?_toList]; exact hc
              refine ⟨rfl, _, rfl, c, _, rfl, rfl, _, hH, ?_, fun b o n e => by rw [upd_ne n]; exact kp b o n e, ?_⟩
              · rw [List.length_map, List.length_map, List.length_take]
                exact szs (by have : i < z.length := hi; omega)
              · rw [upd_same, List.take_succ, hc', List.map_append, List.map_append]; rfl
            · obtain ⟨kp, hH⟩ := m
              have hz' : z.cps.size = z.cps.toList.length := by simp
              rw [hz', List.take_length] at hH
              have sm : Same H H1 := fun b o e => kp b o (ne_of_none e hD) e
              refine ⟨_, _, rfl, SqL.of hH, ?_⟩
              have e : isName (.str z) = (z.cps.toList.map fun c => decide (c ∈ letters.cps.toList)).all id := by
                show nameOk z = _
                unfold nameOk
                rw [decide_eq_true c1, decide_eq_true c2, c3, List.all_map]; rfl
              have q := k H1 sm
              rw [e] at q
              exact q
        · rw [decide_eq_false (show ¬ ((z.length : Nat) : Int) ≤ 4 by omega)]
          refine ifT rfl (bad ?_)
          unfold nameOk
          rw [decide_eq_false c2, Bool.and_false, Bool.false_and, Bool.false_and]
      · rw [decide_eq_false (show ¬ (1 : Int) ≤ (z.length : Nat) by omega)]
        refine ifF rfl ⟨_, rfl, ifT rfl (bad ?_)⟩
        unfold nameOk
        rw [decide_eq_false c1, Bool.false_and, Bool.false_and, Bool.false_and]
    · rw [Bool.not_eq_true] at c
      rw [c]
      refine ifT rfl ?_
      have e : isName x = false := by cases x <;> first | rfl | cases c
      rw [e] at k
      exact k H (Same.refl H)
end

/-! ## rows and tests as objects -/
namespace Pg
def Rw1.cls (c : Clz) : Rw1 → Addr
  | .make _ => c.make
  | .exch => c.exch
  | .lay => c.lay
  | .put _ _ => c.put
  | .add _ _ => c.add
  | .tell _ => c.tell
  | .stop => c.stop
  | .ifb _ _ _ => c.ifb
  | .untl _ _ => c.untl
def Tst.cls (c : Clz) : Tst → Addr
  | .longer => c.longer
  | .shorter => c.shorter
  | .alike => c.alike
  | .holds _ _ => c.holds
  | .not _ => c.not
/-- what of the text a class of rows or tests must have -/
structure Ri (K : PySem.W.Frag) (c : Clz) (C : Addr) (sort : Str) (isRow : Bool) : Prop where
  ins : C8.InsC K C
  no : ∀ f ∈ fnames, PySem.W.findIn K (.ref C) f = some none
  so : ∃ u, Con K C "SORT" (.str sort) u
  kr : PySem.W.kitOne K (.ref C) (.ref c.row) = some isRow
  kt : PySem.W.kitOne K (.ref C) (.ref c.test) = some (!isRow)
  kp : PySem.W.kitOne K (.ref C) (.ref c.part) = some true
  kc : PySem.W.kitOne K (.ref C) (.ref c.change) = some false
  km : PySem.W.kitOne K (.ref C) (.ref c.make) = some (decide (C = c.make))
structure Hi (K : PySem.W.Frag) (mg : Str → Option Value) (c : Clz) : Prop where
  make : Ri K c c.make "make" true
  exch : Ri K c c.exch "exchange" true
  lay : Ri K c c.lay "lay" true
  put : Ri K c c.put "put" true
  add : Ri K c c.add "add" true
  tell : Ri K c c.tell "tell" true
  stop : Ri K c c.stop "stop" true
  ifb : Ri K c c.ifb "if" true
  untl : Ri K c c.untl "until" true
  longer : Ri K c c.longer "longer" false
  shorter : Ri K c c.shorter "shorter" false
  alike : Ri K c c.alike "alike" false
  holds : Ri K c c.holds "holds" false
  not : Ri K c c.not "not" false
  mgRow : mg "Row" = some (.ref c.row)
  mgTest : mg "Test" = some (.ref c.test)
  mgPart : mg "Part" = some (.ref c.part)
  mgMake : mg "Make" = some (.ref c.make)
  apart : [c.make, c.exch, c.lay, c.put, c.add, c.tell, c.stop, c.ifb, c.untl, c.longer, c.shorter, c.alike, c.holds, c.not].Nodup
theorem Hi.r {K : PySem.W.Frag} {mg : Str → Option Value} {c : Clz} (h : Hi K mg c) (r : Rw1) : Ri K c (r.cls c) r.sort true := by
  cases r with
  | make _ => exact h.make
  | exch => exact h.exch
  | lay => exact h.lay
  | put _ _ => exact h.put
  | add _ _ => exact h.add
  | tell _ => exact h.tell
  | stop => exact h.stop
  | ifb _ _ _ => exact h.ifb
  | untl _ _ => exact h.untl
theorem Hi.t {K : PySem.W.Frag} {mg : Str → Option Value} {c : Clz} (h : Hi K mg c) (t : Tst) : Ri K c (t.cls c) t.sort false := by
  cases t with
  | longer => exact h.longer
  | shorter => exact h.shorter
  | alike => exact h.alike
  | holds _ _ => exact h.holds
  | not _ => exact h.not
/-- what all rows and tests have -/
def PartAt (K : PySem.W.Frag) (C : Addr) (H : Hp) (p : Addr) (script used : List Str) (fs : List (Str × V)) : Prop := ∃ dx s u, H p = some (.ins C dx fs) ∧ fs.length ≤ 10 ∧ fs.lookup ("script" : Str) = some (.ref s) ∧ SqT K H s (script.map V.str) ∧ fs.lookup ("used" : Str) = some (.ref u) ∧ SqT K H u (used.map V.str) ∧
  fs.lookup ("SORT" : Str) = none ∧ fs.lookup ("inner" : Str) = none ∧ fs.lookup ("is_laying" : Str) = none
def TstAt (K : PySem.W.Frag) (c : Clz) (H : Hp) : Addr → Tst → Prop
  | p, .holds n k => ∃ fs, PartAt K c.holds H p [(Tst.holds n k).txt] [n] fs ∧ fs.lookup ("note" : Str) = some (.str n) ∧ fs.lookup ("number" : Str) = some (.int k)
  | p, .not t => ∃ fs q, PartAt K c.not H p [(Tst.not t).txt] t.uses fs ∧ fs.lookup ("test" : Str) = some (.ref q) ∧ TstAt K c H q t
  | p, .longer => ∃ fs, PartAt K c.longer H p [Tst.longer.txt] [] fs
  | p, .shorter => ∃ fs, PartAt K c.shorter H p [Tst.shorter.txt] [] fs
  | p, .alike => ∃ fs, PartAt K c.alike H p [Tst.alike.txt] [] fs
mutual
def RowAt (K : PySem.W.Frag) (c : Clz) (H : Hp) : Addr → Rw1 → Prop
  | p, .make m => ∃ fs q, PartAt K c.make H p (Rw1.make m).lines [] fs ∧ fs.lookup ("change" : Str) = some (.ref q) ∧ ChAt c.change H q m.a m.b m.c m.d
  | p, .exch => ∃ fs, PartAt K c.exch H p Rw1.exch.lines [] fs
  | p, .lay => ∃ fs, PartAt K c.lay H p Rw1.lay.lines [] fs
  | p, .put n k => ∃ fs, PartAt K c.put H p (Rw1.put n k).lines [n] fs ∧ fs.lookup ("note" : Str) = some (.str n) ∧ fs.lookup ("number" : Str) = some (.int k)
  | p, .add n k => ∃ fs, PartAt K c.add H p (Rw1.add n k).lines [n] fs ∧ fs.lookup ("note" : Str) = some (.str n) ∧ fs.lookup ("number" : Str) = some (.int k)
  | p, .tell m => ∃ fs, PartAt K c.tell H p (Rw1.tell m).lines [] fs ∧ fs.lookup ("mark" : Str) = some (.str m)
  | p, .stop => ∃ fs, PartAt K c.stop H p Rw1.stop.lines [] fs
  | p, .ifb t r o => ∃ fs q a b xs ys, PartAt K c.ifb H p (Rw1.ifb t r o).lines t.uses fs ∧ fs.lookup ("test" : Str) = some (.ref q) ∧ TstAt K c H q t ∧ fs.lookup ("rows" : Str) = some (.ref a) ∧ SqT K H a xs ∧ RowsAt K c H xs r ∧ fs.lookup ("others" : Str) = some (.ref b) ∧ SqT K H b ys ∧ RowsAt K c H ys o
  | p, .untl g r => ∃ fs a xs, PartAt K c.untl H p (Rw1.untl g r).lines [] fs ∧ fs.lookup ("goal" : Str) = some (.str g) ∧ fs.lookup ("rows" : Str) = some (.ref a) ∧ SqT K H a xs ∧ RowsAt K c H xs r
def RowsAt (K : PySem.W.Frag) (c : Clz) (H : Hp) : List V → List Rw1 → Prop
  | [], [] => True
  | v :: vs, r :: rs => (∃ p, v = .ref p ∧ RowAt K c H p r) ∧ RowsAt K c H vs rs
  | _, _ => False
end
section
variable {K : PySem.W.Frag} {c : Clz} {H H' : Hp} {C p : Addr} {script used : List Str} {fs : List (Str × V)}
theorem PartAt.tk (s : TK H H') (h : PartAt K C H p script used fs) : PartAt K C H' p script used fs := by
  obtain ⟨dx, a, u, h1, h2, h3, h4, h5, h6, h7⟩ := h
  exact ⟨dx, a, u, s _ _ rfl h1, h2, h3, sqT_tk s h4, h5, sqT_tk s h6, h7⟩
theorem TstAt.tk (s : TK H H') : ∀ {t : Tst} {p : Addr}, TstAt K c H p t → TstAt K c H' p t
  | .holds n k, _, ⟨fs, h, r⟩ => ⟨fs, h.tk s, r⟩
  | .not t, _, ⟨fs, q, h, e, r⟩ => ⟨fs, q, h.tk s, e, TstAt.tk s r⟩
  | .longer, _, ⟨fs, h⟩ => ⟨fs, h.tk s⟩
  | .shorter, _, ⟨fs, h⟩ => ⟨fs, h.tk s⟩
  | .alike, _, ⟨fs, h⟩ => ⟨fs, h.tk s⟩
mutual
theorem RowAt.tk (s : TK H H') : ∀ {r : Rw1} {p : Addr}, RowAt K c H p r → RowAt K c H' p r
  | .make m, _, ⟨fs, q, h, e, d, q', h1, h2⟩ => ⟨fs, q, h.tk s, e, d, q', s _ _ rfl h1, s _ _ rfl h2⟩
  | .exch, _, ⟨fs, h⟩ => ⟨fs, h.tk s⟩
  | .lay, _, ⟨fs, h⟩ => ⟨fs, h.tk s⟩
  | .put n k, _, ⟨fs, h, r⟩ => ⟨fs, h.tk s, r⟩
  | .add n k, _, ⟨fs, h, r⟩ => ⟨fs, h.tk s, r⟩
  | .tell m, _, ⟨fs, h, r⟩ => ⟨fs, h.tk s, r⟩
  | .stop, _, ⟨fs, h⟩ => ⟨fs, h.tk s⟩
  | .ifb t r o, _, ⟨fs, q, a, b, xs, ys, h, e1, ht, e2, h2, hr, e3, h3, ho⟩ => ⟨fs, q, a, b, xs, ys, h.tk s, e1, ht.tk s, e2, sqT_tk s h2, RowsAt.tk s hr, e3, sqT_tk s h3, RowsAt.tk s ho⟩
  | .untl g r, _, ⟨fs, a, xs, h, e1, e2, h2, hr⟩ => ⟨fs, a, xs, h.tk s, e1, e2, sqT_tk s h2, RowsAt.tk s hr⟩
theorem RowsAt.tk (s : TK H H') : ∀ {rs : List Rw1} {vs : List V}, RowsAt K c H vs rs → RowsAt K c H' vs rs
  | [], [], _ => trivial
  | r :: rs, v :: vs, ⟨⟨p, e, h⟩, t⟩ => ⟨⟨p, e, RowAt.tk s h⟩, RowsAt.tk s t⟩
end
theorem RowsAt.len : ∀ {rs : List Rw1} {vs : List V}, RowsAt K c H vs rs → vs.length = rs.length
  | [], [], _ => rfl
  | r :: rs, v :: vs, ⟨_, t⟩ => congrArg Nat.succ (RowsAt.len t)
theorem RowsAt.at : ∀ {rs : List Rw1} {vs : List V} {i : Nat} {v : V}, RowsAt K c H vs rs → vs[i]? = some v → ∃ p r, v = .ref p ∧ rs[i]? = some r ∧ RowAt K c H p r
  | [], [], i, w, _, hi => by simp at hi
  | [], _ :: _, _, _, h, _ => h.elim
  | _ :: _, [], _, _, h, _ => h.elim
  | r :: rs, v :: vs, i, w, h, hi => by
    obtain ⟨⟨p, e, h⟩, t⟩ := h
    cases i with
    | zero => cases hi; exact ⟨p, r, e, rfl, h⟩
    | succ i => exact RowsAt.at (i := i) (v := w) t (by simpa using hi)
/-- the part of a row -/
theorem RowAt.part {r : Rw1} (h : RowAt K c H p r) : ∃ fs, PartAt K (r.cls c) H p r.lines r.uses fs := by
  cases r <;> (obtain ⟨fs, h⟩ := h) <;> first | exact ⟨fs, h⟩ | exact ⟨fs, h.1⟩ | (obtain ⟨_, h⟩ := h; exact ⟨fs, h.1⟩) | (obtain ⟨_, _, h⟩ := h; exact ⟨fs, h.1⟩) | (obtain ⟨_, _, _, _, _, h⟩ := h; exact ⟨fs, h.1⟩)
theorem TstAt.part {t : Tst} (h : TstAt K c H p t) : ∃ fs, PartAt K (t.cls c) H p [t.txt] t.uses fs := by
  cases t <;> (obtain ⟨fs, h⟩ := h) <;> first | exact ⟨fs, h⟩ | exact ⟨fs, h.1⟩ | (obtain ⟨_, h⟩ := h; exact ⟨fs, h.1⟩)
end
theorem seq_ftup {K : PySem.W.Frag} {σ : L2.St} {H : Hp} {D : Ends} {i j : Nat} {f : Str} {x p C dx : Addr} {fs : List (Str × V)} {ys : List V} {u : TS} (hi : σ[i]? = some (some (.ref x))) (hj : σ[j]? = some (some (.ref p))) (hx : H x = some (.ins C dx fs)) (cl : Cls K C) (no : NoAttr K C f) (l : fs.length < 1000) (h : SqL K H p ys ∨ SqT K H p ys)
    (k : ∀ s H', Same H H' → SqT K H' s ys → D.nx σ (upd H' x (.ins C dx (putF f (.ref s) fs)))) :
    sFld K (tVar i) (tCB (fun xs H Q => ∃ (p : Addr) (ys : List V), xs = [V.ref p] ∧ ((SqL K H p ys ∧ ∀ l, H l = none → Q (.ref l) (upd H l (.tup ys))) ∨ (SqT K H p ys ∧ Q (.ref p) H))) (tCons (tVar j) tNil)) f D σ H := by
  refine ⟨_, hj, p, ys, rfl, ?_⟩
  rcases h with h | h
  · refine .inl ⟨h, fun l0 hl => ⟨_, hi, x, C, dx, fs, rfl, sm_new hl _ _ hx, cl, no, l, k l0 _ (sm_new hl) (SqT.of upd_same)⟩⟩
  · exact .inr ⟨h, _, hi, x, C, dx, fs, rfl, hx, cl, no, l, k p H (Same.refl H) h⟩
theorem sqT_ins {K : PySem.W.Frag} {H : Hp} {x C dx a : Addr} {fs fs' : List (Str × V)} {xs : List V} (hx : H x = some (.ins C dx fs)) (h : SqT K H a xs) : SqT K (upd H x (.ins C dx fs')) a xs := h.elim (fun q => .inl (q.elim (fun q => .inl (by rw [upd_ne (fun e => by rw [e, hx] at q; cases q)]; exact q)) fun ⟨o, q⟩ => .inr ⟨o, by rw [upd_ne (fun e => by rw [e, hx] at q; cases q)]; exact q⟩)) .inr
theorem sqL_ins {K : PySem.W.Frag} {H : Hp} {x C dx a : Addr} {fs fs' : List (Str × V)} {xs : List V} (hx : H x = some (.ins C dx fs)) (h : SqL K H a xs) : SqL K (upd H x (.ins C dx fs')) a xs := h.elim (fun q => .inl (q.elim (fun q => .inl (by rw [upd_ne (fun e => by rw [e, hx] at q; cases q)]; exact q)) fun ⟨o, q⟩ => .inr ⟨o, by rw [upd_ne (fun e => by rw [e, hx] at q; cases q)]; exact q⟩)) .inr
theorem putF_len (f : Str) (v : V) : ∀ fs : List (Str × V), (putF f v fs).length ≤ fs.length + 1
  | [] => Nat.le_refl _
  | (g, x) :: r => by
    show (if g = f then (g, v) :: r else (g, x) :: putF f v r).length ≤ r.length + 1 + 1
    split
    · exact Nat.le_succ _
    · exact Nat.succ_le_succ (putF_len f v r)
def sp_pinit (K : PySem.W.Frag) (c : Clz) : Sp := fun vs H Q _ => ∃ (x dx p q C : Addr) (fs : List (Str × V)) (ss us : List Str) (so : Str) (ir : Bool), vs = [.ref x, .ref p, .ref q] ∧ H x = some (.ins C dx fs) ∧ fs.length ≤ 8 ∧ Ri K c C so ir ∧ (SqL K H p (ss.map V.str) ∨ SqT K H p (ss.map V.str)) ∧ (SqL K H q (us.map V.str) ∨ SqT K H q (us.map V.str)) ∧
  ∀ (s u : Addr) (H' : Hp), (∀ b o, b ≠ x → H b = some o → H' b = some o) → H' x = some (.ins C dx (putF "used" (.ref u) (putF "script" (.ref s) fs))) → SqT K H' s (ss.map V.str) → SqT K H' u (us.map V.str) → Q .non H'
theorem part_new {K : PySem.W.Frag} {C dx s u x : Addr} {H : Hp} {fs : List (Str × V)} {ss us : List Str} (hx : H x = some (.ins C dx (putF "used" (.ref u) (putF "script" (.ref s) fs)))) (hs : SqT K H s (ss.map V.str)) (hu : SqT K H u (us.map V.str)) (l : fs.length ≤ 8)
    (n1 : fs.lookup ("SORT" : Str) = none) (n2 : fs.lookup ("inner" : Str) = none) (n3 : fs.lookup ("is_laying" : Str) = none) : PartAt K C H x ss us (putF "used" (.ref u) (putF "script" (.ref s) fs)) := by
  refine ⟨dx, s, u, hx, ?_, ?_, hs, ?_, hu, ?_, ?_, ?_⟩
  · have h1 := putF_len ("used" : Str) (.ref u) (putF ("script" : Str) (.ref s) fs)
    have h2 := putF_len ("script" : Str) (.ref s) fs
    exact Nat.le_trans h1 (by omega)
  · rw [lookup_putF, if_neg (by decide +kernel), lookup_putF, if_pos rfl]
  · rw [lookup_putF, if_pos rfl]
  · rw [lookup_putF, if_neg (by decide +kernel), lookup_putF, if_neg (by decide +kernel), n1]
  · rw [lookup_putF, if_neg (by decide +kernel), lookup_putF, if_neg (by decide +kernel), n2]
  · rw [lookup_putF, if_neg (by decide +kernel), lookup_putF, if_neg (by decide +kernel), n3]
/-- C(): made -/
def sp_rinit (K : PySem.W.Frag) (c : Clz) (C : Addr) (P : Hp → Addr → Prop) : Sp := fun vs H Q _ => ∃ (x dx : Addr), vs = [.ref x] ∧ H x = some (.ins C dx []) ∧ ∀ (H' : Hp), (∀ b o, b ≠ x → H b = some o → H' b = some o) → P H' x → Q .non H'
end Pg
open Pg
section
variable {P : Program} {w : World} {K : PySem.W.Frag} {mg : Str → Option Value} {base : Heap}
theorem ok_pinit {f : Addr} {fd : FuncData} {c : Clz} {dvs : List V} (F : FunD K "__init__" "Part.__init__" (defArgs S_Part__init_) (defBody S_Part__init_) (defScope S_Part__init_) dvs [] f fd) (T : Txt K mg) : FnOk P w K mg base CX0 2 f fd ["self", "script", "used"] (sp_pinit K c) := by
  refine F.ok SC_Part__init_ (fun vs H Q E h => ?_) (fun cdv A outer s H vs Q E hr h => ?_)
  · obtain ⟨x, dx, p, q, C, fs, ss, us, so, ir, rfl, _⟩ := h
    rfl
  · obtain ⟨x, dx, p, q, C, fs, ss, us, so, ir, rfl, hx, fl, ri, hp, hq, k⟩ := h
    refine ⟨_, (pss_cons (ps_fld (pv 0) (pe_callTy call_tuple_of (by rfl) T.b_tuple (by decide +kernel) (pa_cons (pv 1) pa_nil)) rfl)
      (pss_one (ps_fld (pv 0) (pe_callTy call_tuple_of (by rfl) T.b_tuple (by decide +kernel) (pa_cons (pv 2) pa_nil)) rfl))), ?_⟩
    refine seq_ftup (u := tNext) (x := x) (p := p) (ys := ss.map V.str) rfl rfl hx ri.ins.cl (ri.no _ (.head _)) (by omega) hp fun s H1 s1 hs => ?_
    have hx1 : (upd H1 x (.ins C dx (putF ("script" : Str) (.ref s) fs))) x = some (.ins C dx (putF ("script" : Str) (.ref s) fs)) := upd_same
    have k1 : ∀ b o, b ≠ x → H b = some o → (upd H1 x (.ins C dx (putF ("script" : Str) (.ref s) fs))) b = some o := fun b o n e => by rw [upd_ne n]; exact s1 _ _ e
    have hs1 : SqT K (upd H1 x (.ins C dx (putF ("script" : Str) (.ref s) fs))) s (ss.map V.str) := sqT_ins (s1 _ _ hx) hs
    have hq1 : SqL K (upd H1 x (.ins C dx (putF ("script" : Str) (.ref s) fs))) q (us.map V.str) ∨ SqT K (upd H1 x (.ins C dx (putF ("script" : Str) (.ref s) fs))) q (us.map V.str) := hq.elim (fun h => .inl (sqL_ins (s1 _ _ hx) (same_sqL s1 h))) fun h => .inr (sqT_ins (s1 _ _ hx) (sqT_tk (TK.same s1) h))
    generalize upd H1 x (.ins C dx (putF ("script" : Str) (.ref s) fs)) = H2 at hx1 k1 hs1 hq1 ⊢
    refine seq_ftup (u := tNext) (x := x) (p := q) (ys := us.map V.str) rfl rfl hx1 ri.ins.cl (ri.no _ (.tail _ (.head _))) ?_ hq1 fun u H3 s3 hu => ?_
    · have := putF_len ("script" : Str) (.ref s) fs
      omega
    · exact k s u _ (fun b o n e => by rw [upd_ne n]; exact s3 _ _ (k1 b o n e)) upd_same (sqT_ins (s3 _ _ hx1) (sqT_tk (TK.same s3) hs1)) (sqT_ins (s3 _ _ hx1) hu)
end

/-! ## what is refused -/
namespace Pg
def isNum : V → Bool
  | .int k => decide (0 ≤ k)
  | _ => false
/-- refused, with a word -/
def Refd (E : XK) (IR : Addr) (H : Hp) (z : Str) : Prop := ∀ (dd : Addr) (H' : Hp), Same H H' → H' dd = none → E (.ref IR) (some dd) (upd H' dd (.xd [("part", .str z)]))
/-- a list or a tuple -/
def SqA (K : PySem.W.Frag) (H : Hp) (p : Addr) (xs : List V) : Prop := SqL K H p xs ∨ SqT K H p xs
theorem sqL_at {K : PySem.W.Frag} {H H' : Hp} {p : Addr} {xs : List V} (s : ∀ o, H p = some o → H' p = some o) (h : SqL K H p xs) : SqL K H' p xs := h.elim (fun q => .inl (q.elim (fun q => .inl (s _ q)) fun ⟨o, q⟩ => .inr ⟨o, s _ q⟩)) .inr
theorem sqT_at {K : PySem.W.Frag} {H H' : Hp} {p : Addr} {xs : List V} (s : ∀ o, H p = some o → H' p = some o) (h : SqT K H p xs) : SqT K H' p xs := h.elim (fun q => .inl (q.elim (fun q => .inl (s _ q)) fun ⟨o, q⟩ => .inr ⟨o, s _ q⟩)) .inr
theorem SqA.at {K : PySem.W.Frag} {H H' : Hp} {p : Addr} {xs : List V} (s : ∀ o, H p = some o → H' p = some o) (h : SqA K H p xs) : SqA K H' p xs := h.elim (fun h => .inl (sqL_at s h)) fun h => .inr (sqT_at s h)
theorem for_seqA {K : PySem.W.Frag} {p : Addr} {xs : List V} {g : TG} {tb : TS} {D : Ends} {σ : L2.St} {i : Nat} {H : Hp} (hσ : σ[i]? = some (some (.ref p))) (h : SqA K H p xs) (Pv : Nat → L2.St → Hp → Prop) (h0 : Pv 0 σ H) (hk : ∀ j σ' H', j ≤ xs.length → Pv j σ' H' → ∀ o, H p = some o → H' p = some o)
    (hs : ∀ j x σ' H', xs[j]? = some x → Pv j σ' H' → g x σ' H' fun σ2 H2 => tb { D with nx := Pv (j + 1), ct := Pv (j + 1), bk := D.nx } σ2 H2) (hd : ∀ σ' H', Pv xs.length σ' H' → D.nx σ' H') : tFor (iSeq K (tVar i)) g tb D σ H := by
  refine ⟨_, hσ, p, rfl, ?_⟩
  rcases h with h | h
  · exact .inl ⟨⟨_, h⟩, for_list Pv h0 (fun j σ' H' hj q => sqL_at (hk j σ' H' hj q) h) hs hd⟩
  · exact .inr ⟨⟨_, h⟩, for_tup Pv h0 (fun j σ' H' hj q => sqT_at (hk j σ' H' hj q) h) hs hd⟩
/-- isinstance(x, (list, tuple)) -/
theorem isLT {K : PySem.W.Frag} {H : Hp} {x : V} {t : Value} {b : Bool} {σ : L2.St} {Q : VK} {i : Nat} (hσ : σ[i]? = some (some x)) (ty : TyX K H x t) (h1 : PySem.W.kitAny K t [.type "list", .type "tuple"] = some b) (k : ∀ H', Same H H' → Q (.bl b) H') :
    tCB (rIsiT K) (tCons (tVar i) (tCons (tTup (tCons (tC (V.ty "list")) (tCons (tC (V.ty "tuple")) tNil))) tNil)) σ H Q :=
  ⟨_, hσ, by show 2 ≤ sizeLine; decide, fun tp htp => ⟨x, tp, [.ty "list", .ty "tuple"], t, [.type "list", .type "tuple"], b, rfl, upd_same, .cons (.ty _) (.cons (.ty _) .nil), tyX_at ty fun a o _ e => by rw [upd_ne (ne_of_none e htp)]; exact e, h1, k _ (sm_new htp)⟩⟩
def sp_ndname (K : PySem.W.Frag) (IR : Addr) : Sp := fun vs H Q E => ∃ (x : V) (z : Str), vs = [x, .str z] ∧ Kd K H x ∧ (∀ z, x = .str z → z.length ≤ 1000000) ∧ (isName x = true → ∀ H', Same H H' → Q .non H') ∧ (isName x = false → Refd E IR H z)
def sp_ndnum (K : PySem.W.Frag) (IR : Addr) : Sp := fun vs H Q E => ∃ (x : V), vs = [x] ∧ Kd K H x ∧ (isNum x = true → ∀ H', Same H H' → Q .non H') ∧ (isNum x = false → Refd E IR H "number")
def sp_ndtest (K : PySem.W.Frag) (c : Clz) (IR : Addr) : Sp := fun vs H Q E => ∃ (x : V) (t : Value) (b : Bool), vs = [x] ∧ TyX K H x t ∧ PySem.W.kitOne K t (.ref c.test) = some b ∧ (b = true → ∀ H', Same H H' → Q .non H') ∧ (b = false → Refd E IR H "test")
/-- what need_rows makes of a value -/
inductive NRows (K : PySem.W.Frag) (c : Clz) (H : Hp) : V → Option (List V) → Prop
  | other {x : V} {t : Value} (h : TyX K H x t) (h1 : PySem.W.kitAny K t [.type "list", .type "tuple"] = some false) : NRows K c H x none
  | bad {p : Addr} {xs : List V} {t t' : Value} {i : Nat} {v : V} (ty : TyX K H (.ref p) t') (h1 : PySem.W.kitAny K t' [.type "list", .type "tuple"] = some true) (hs : SqL K H p xs ∨ SqT K H p xs) (a : ∀ j w, j < i → xs[j]? = some w → ∃ u, TyX K H w u ∧ PySem.W.kitOne K u (.ref c.row) = some true) (hi : xs[i]? = some v) (h : TyX K H v t) (hb : PySem.W.kitOne K t (.ref c.row) = some false) : NRows K c H (.ref p) none
  | good {p : Addr} {xs : List V} {t' : Value} (ty : TyX K H (.ref p) t') (h1 : PySem.W.kitAny K t' [.type "list", .type "tuple"] = some true) (hs : SqL K H p xs ∨ SqT K H p xs) (a : ∀ w ∈ xs, ∃ u, TyX K H w u ∧ PySem.W.kitOne K u (.ref c.row) = some true) : NRows K c H (.ref p) (some xs)
def sp_ndrows (K : PySem.W.Frag) (c : Clz) (IR : Addr) : Sp := fun vs H Q E => ∃ (x : V) (o : Option (List V)), vs = [x] ∧ NRows K c H x o ∧ (∀ xs, o = some xs → ∀ (T : Addr) (H' : Hp), Same H H' → SqT K H' T xs → Q (.ref T) H') ∧ (o = none → Refd E IR H "row")
end Pg
open Pg
section
variable {P : Program} {w : World} {K : PySem.W.Frag} {mg : Str → Option Value} {base : Heap}
theorem ok_ndname {f IR : Addr} {fd : FuncData} (F : Fun K "need_name" "need_name" S_need_name f fd) (T : Txt K mg) (C_isname : FnC P w K mg base CX0 1 "is_name" ["value"] (sp_isname K)) (E_InvalidRow : Er1 P w K mg base "InvalidRow" IR "part" "part") : FnOk P w K mg base (L2.CX P w) 4 f fd ["value", "part"] (sp_ndname K IR) := by
  refine F.okX SC_need_name (fun vs H Q E h => ?_) (fun cdv A outer s H vs Q E hr h => ?_)
  · obtain ⟨x, z, rfl, _⟩ := h
    rfl
  · obtain ⟨x, z, rfl, kd, hz, ok, bad⟩ := h
    refine ⟨_, (pss_one (ps_if (pt_not (pt_val (pe_callC C_isname (hr.mono (by decide)) rfl (pa_cons (pv 0) pa_nil)))) (pss_one (ps_raise1 E_InvalidRow (hr.mono (by decide)) rfl (takes_of rfl rfl rfl rfl) rfl (pa_cons (pv 1) pa_nil))) pss_nil)), ?_⟩
    refine ⟨_, rfl, x, rfl, kd, hz, fun H1 s1 => ⟨_, rfl, ?_⟩⟩
    by_cases c : isName x = true
    · rw [c]
      exact ifF rfl (ok c H1 s1)
    · rw [Bool.not_eq_true] at c
      rw [c]
      exact ifT rfl ⟨_, rfl, mk_err1H fun dd hd => bad c dd H1 s1 hd⟩
theorem ok_ndnum {f IR : Addr} {fd : FuncData} (F : Fun K "need_number" "need_number" S_need_number f fd) (T : Txt K mg) (C_isint : FnC P w K mg base CX0 1 "is_integer" ["value"] (sp_isint K)) (E_InvalidRow : Er1 P w K mg base "InvalidRow" IR "part" "part") : FnOk P w K mg base (L2.CX P w) 4 f fd ["value"] (sp_ndnum K IR) := by
  refine F.okX SC_need_number (fun vs H Q E h => ?_) (fun cdv A outer s H vs Q E hr h => ?_)
  · obtain ⟨x, rfl, _⟩ := h
    rfl
  · obtain ⟨x, rfl, kd, ok, bad⟩ := h
    refine ⟨_, (pss_one (ps_if (PW.pt (pw_or (pt_not (pt_val (pe_callC C_isint (hr.mono (by decide)) rfl (pa_cons (pv 0) pa_nil)))) (pw_or1 (pt_cmpR op_lt (pv 0) pe_int (nomark _))))) (pss_one (ps_raise1 E_InvalidRow (hr.mono (by decide)) rfl (takes_of rfl rfl rfl rfl) rfl (pa_cons pe_str pa_nil))) pss_nil)), ?_⟩
    refine ⟨_, rfl, x, rfl, kd, _, rfl, ?_⟩
    have go : isNum x = false → (∃ vs, vs = [V.str ("number" : Str)] ∧ True) := fun _ => ⟨_, rfl, trivial⟩
    cases x with
    | int i =>
      refine ifF rfl ⟨_, rfl, _, _, rfl, rfl, _, rfl, ?_⟩
      refine ite2 (fun h => ?_) (fun h => ?_)
      · have h : i < 0 := of_decide_eq_true h
        exact mk_err1H fun dd hd => bad (decide_eq_false (by omega)) dd H (Same.refl H) hd
      · have h : ¬ i < 0 := fun e => h (decide_eq_true e)
        exact ok (decide_eq_true (by omega)) H (Same.refl H)
    | _ => exact ifT rfl (mk_err1H fun dd hd => bad rfl dd H (Same.refl H) hd)
theorem ok_ndtest {f IR : Addr} {fd : FuncData} {c : Clz} (F : Fun K "need_test" "need_test" S_need_test f fd) (T : Txt K mg) (Hc : Hi K mg c) (E_InvalidRow : Er1 P w K mg base "InvalidRow" IR "part" "part") : FnOk P w K mg base (L2.CX P w) 4 f fd ["value"] (sp_ndtest K c IR) := by
  refine F.okX SC_need_test (fun vs H Q E h => ?_) (fun cdv A outer s H vs Q E hr h => ?_)
  · obtain ⟨x, t, b, rfl, _⟩ := h
    rfl
  · obtain ⟨x, t, b, rfl, ty, kt, ok, bad⟩ := h
    refine ⟨_, (pss_one (ps_if (pt_not (pt_val (pe_callB call_isi (by rfl) T.b_isinstance (by decide +kernel) (pa_cons (pv 0) (pa_cons (pe_glob (v := .ref c.test) (by rfl) Hc.mgTest rfl) pa_nil))))) (pss_one (ps_raise1 E_InvalidRow (hr.mono (by decide)) rfl (takes_of rfl rfl rfl rfl) rfl (pa_cons pe_str pa_nil))) pss_nil)), ?_⟩
    refine ⟨_, rfl, x, _, t, _, b, rfl, .own _, ty, kt, _, rfl, ?_⟩
    cases b with
    | true => exact ifF rfl (ok rfl H (Same.refl H))
    | false => exact ifT rfl (mk_err1H fun dd hd => bad rfl dd H (Same.refl H) hd)
theorem ok_ndrows {f IR : Addr} {fd : FuncData} {c : Clz} (F : Fun K "need_rows" "need_rows" S_need_rows f fd) (T : Txt K mg) (Hc : Hi K mg c) (E_InvalidRow : Er1 P w K mg base "InvalidRow" IR "part" "part") : FnOk P w K mg base (L2.CX P w) 4 f fd ["rows"] (sp_ndrows K c IR) := by
  refine F.okX SC_need_rows (fun vs H Q E h => ?_) (fun cdv A outer s H vs Q E hr h => ?_)
  · obtain ⟨x, o, rfl, _⟩ := h
    rfl
  · obtain ⟨x, o, rfl, nr, ok, bad⟩ := h
    refine ⟨_, (pss_cons (ps_if (pt_not (pt_val (pe_callB call_isiT (by rfl) T.b_isinstance (by decide +kernel) (pa_cons (pv 0) (pa_cons (pe_tup (pa_cons (pe_bltn (v := .ty "list") (by rfl) T.b_list boot_list rfl) (pa_cons (pe_bltn (v := .ty "tuple") (by rfl) T.b_tuple boot_tuple rfl) pa_nil))) pa_nil))))) (pss_one (ps_raise1 E_InvalidRow (hr.mono (by decide)) rfl (takes_of rfl rfl rfl rfl) rfl (pa_cons pe_str pa_nil))) pss_nil)
      (pss_cons (ps_for (passes_of rfl) rfl (pi_seq (pv 0)) (pg_name (i := 1) SC_need_rows.nd rfl (.inl rfl)) (pss_one (ps_if (pt_not (pt_val (pe_callB call_isi (by rfl) T.b_isinstance (by decide +kernel) (pa_cons (pv 1) (pa_cons (pe_glob (v := .ref c.row) (by rfl) Hc.mgRow rfl) pa_nil))))) (pss_one (ps_raise1 E_InvalidRow (hr.mono (by decide)) rfl (takes_of rfl rfl rfl rfl) rfl (pa_cons pe_str pa_nil))) pss_nil)))
      (pss_one (ps_ret (pe_callTy call_tuple_of (by rfl) T.b_tuple (by decide +kernel) (pa_cons (pv 0) pa_nil)))))), ?_⟩
    cases nr with
    | other h h1 => exact isLT rfl h h1 fun H1 s1 => ⟨_, rfl, ifT rfl (mk_err1H fun dd hd => bad rfl dd H1 s1 hd)⟩
    | bad ty h1 hs a hi h hb =>
      rename_i p xs t t' i v
      refine isLT rfl ty h1 fun H1 s1 => ⟨_, rfl, ifF rfl ?_⟩
      have hs1 : SqA K H1 p xs := SqA.at (fun o e => s1 _ _ e) hs
      refine for_seqA (p := p) (xs := xs) rfl hs1 (fun j σ H2 => Same H1 H2 ∧ j ≤ i ∧ ∃ y1 : Option V, σ = [some (.ref p), y1]) ⟨Same.refl _, Nat.zero_le _, _, rfl⟩ (fun j σ' H2 _ m o e => m.1 _ _ e) (fun j x σ' H2 hj m => ?_) (fun σ' H2 m => ?_)
      · obtain ⟨s2, ji, y1, rfl⟩ := m
        by_cases e : j = i
        · subst e
          rw [hi] at hj
          cases hj
          refine ⟨_, rfl, v, _, t, _, false, rfl, .own _, tyX_at h (fun a o _ e => s2 _ _ (s1 _ _ e)), hb, _, rfl, ?_⟩
          exact ifT rfl (mk_err1H fun dd hd => bad rfl dd H2 (s1.trans s2) hd)
        · obtain ⟨u, hu, ku⟩ := a j x (by omega) hj
          refine ⟨_, rfl, x, _, u, _, true, rfl, .own _, tyX_at hu (fun a o _ e => s2 _ _ (s1 _ _ e)), ku, _, rfl, ?_⟩
          exact ifF rfl ⟨s2, by omega, _, rfl⟩
      · have := (List.getElem?_eq_some_iff.mp hi).1
        omega
    | good ty h1 hs a =>
      rename_i p xs t'
      refine isLT rfl ty h1 fun H1 s1 => ⟨_, rfl, ifF rfl ?_⟩
      have hs1 : SqA K H1 p xs := SqA.at (fun o e => s1 _ _ e) hs
      refine for_seqA (p := p) (xs := xs) rfl hs1 (fun j σ H2 => Same H1 H2 ∧ ∃ y1 : Option V, σ = [some (.ref p), y1]) ⟨Same.refl _, _, rfl⟩ (fun j σ' H2 _ m o e => m.1 _ _ e) (fun j x σ' H2 hj m => ?_) (fun σ' H2 m => ?_)
      · obtain ⟨s2, y1, rfl⟩ := m
        obtain ⟨u, hu, ku⟩ := a x (List.mem_of_getElem? hj)
        refine ⟨_, rfl, x, _, u, _, true, rfl, .own _, tyX_at hu (fun a o _ e => s2 _ _ (s1 _ _ e)), ku, _, rfl, ?_⟩
        exact ifF rfl ⟨s2, _, rfl⟩
      · obtain ⟨s2, y1, rfl⟩ := m
        refine ⟨_, rfl, p, xs, rfl, ?_⟩
        rcases SqA.at (fun o e => s2 _ _ e) hs1 with h | h
        · exact .inl ⟨h, fun l hl => ok xs rfl l _ ((s1.trans s2).trans (sm_new hl)) (SqT.of upd_same)⟩
        · exact .inr ⟨h, ok xs rfl p H2 (s1.trans s2) h⟩
end

/-! ## rows and tests without arguments -/
section
variable {P : Program} {w : World} {K : PySem.W.Frag} {mg : Str → Option Value} {base : Heap}
theorem ok_exchinit {f : Addr} {fd : FuncData} {c : Clz} (F : FunS P K mg "__init__" "Exchange.__init__" S_Exchange__init_ c.exch [] f fd) (T : Txt K mg) (Hc : Hi K mg c) {eT : Addr} (M_pinit : SupC P w K mg base 2 c.exch "__init__" ["self", "script", "used"] (sp_pinit K c) [.ref eT]) (hE : ∀ H, SqT K H eT []) : FnOk P w K mg base CX0 4 f fd ["self"] (sp_rinit K c c.exch fun H x => RowAt K c H x .exch) := by
  refine F.ok SC_Exchange__init_ (fun vs H Q E h => ?_) (fun cda cc fd' oc od osl A outer s H vs Q E hpar lk SK hr h => ?_)
  · obtain ⟨x, dx, rfl, _⟩ := h
    rfl
  · obtain ⟨x, dx, rfl, hx, k⟩ := h
    refine ⟨_, (pat_superC M_pinit SK lk hpar (hr.mono (by decide)) (pa_cons (pe_lstN (pa_cons pe_str pa_nil)) pa_nil) pss_nil), ?_⟩
    refine ⟨x, dx, [], rfl, hx, by show 1 ≤ 1000000; decide, fun L H1 n1 s1 h1 => ?_⟩
    refine ⟨x, dx, L, eT, c.exch, [], ["exchange"], [], "exchange", true, rfl, s1 _ _ hx, Nat.zero_le _, Hc.exch, .inl (SqL.of h1), .inr (hE _), fun s u H' kp hx' hs hu => ?_⟩
    exact k H' (fun b o n e => kp b o n (s1 _ _ e)) ⟨_, part_new hx' hs hu (by decide) rfl rfl rfl⟩
theorem ok_layinit {f : Addr} {fd : FuncData} {c : Clz} (F : FunS P K mg "__init__" "Lay.__init__" S_Lay__init_ c.lay [] f fd) (T : Txt K mg) (Hc : Hi K mg c) {eT : Addr} (M_pinit : SupC P w K mg base 2 c.lay "__init__" ["self", "script", "used"] (sp_pinit K c) [.ref eT]) (hE : ∀ H, SqT K H eT []) : FnOk P w K mg base CX0 4 f fd ["self"] (sp_rinit K c c.lay fun H x => RowAt K c H x .lay) := by
  refine F.ok SC_Lay__init_ (fun vs H Q E h => ?_) (fun cda cc fd' oc od osl A outer s H vs Q E hpar lk SK hr h => ?_)
  · obtain ⟨x, dx, rfl, _⟩ := h
    rfl
  · obtain ⟨x, dx, rfl, hx, k⟩ := h
    refine ⟨_, (pat_superC M_pinit SK lk hpar (hr.mono (by decide)) (pa_cons (pe_lstN (pa_cons pe_str pa_nil)) pa_nil) pss_nil), ?_⟩
    refine ⟨x, dx, [], rfl, hx, by show 1 ≤ 1000000; decide, fun L H1 n1 s1 h1 => ?_⟩
    refine ⟨x, dx, L, eT, c.lay, [], ["lay"], [], "lay", true, rfl, s1 _ _ hx, Nat.zero_le _, Hc.lay, .inl (SqL.of h1), .inr (hE _), fun s u H' kp hx' hs hu => ?_⟩
    exact k H' (fun b o n e => kp b o n (s1 _ _ e)) ⟨_, part_new hx' hs hu (by decide) rfl rfl rfl⟩
theorem ok_stopinit {f : Addr} {fd : FuncData} {c : Clz} (F : FunS P K mg "__init__" "Stop.__init__" S_Stop__init_ c.stop [] f fd) (T : Txt K mg) (Hc : Hi K mg c) {eT : Addr} (M_pinit : SupC P w K mg base 2 c.stop "__init__" ["self", "script", "used"] (sp_pinit K c) [.ref eT]) (hE : ∀ H, SqT K H eT []) : FnOk P w K mg base CX0 4 f fd ["self"] (sp_rinit K c c.stop fun H x => RowAt K c H x .stop) := by
  refine F.ok SC_Stop__init_ (fun vs H Q E h => ?_) (fun cda cc fd' oc od osl A outer s H vs Q E hpar lk SK hr h => ?_)
  · obtain ⟨x, dx, rfl, _⟩ := h
    rfl
  · obtain ⟨x, dx, rfl, hx, k⟩ := h
    refine ⟨_, (pat_superC M_pinit SK lk hpar (hr.mono (by decide)) (pa_cons (pe_lstN (pa_cons pe_str pa_nil)) pa_nil) pss_nil), ?_⟩
    refine ⟨x, dx, [], rfl, hx, by show 1 ≤ 1000000; decide, fun L H1 n1 s1 h1 => ?_⟩
    refine ⟨x, dx, L, eT, c.stop, [], ["stop"], [], "stop", true, rfl, s1 _ _ hx, Nat.zero_le _, Hc.stop, .inl (SqL.of h1), .inr (hE _), fun s u H' kp hx' hs hu => ?_⟩
    exact k H' (fun b o n e => kp b o n (s1 _ _ e)) ⟨_, part_new hx' hs hu (by decide) rfl rfl rfl⟩
theorem ok_longerinit {f : Addr} {fd : FuncData} {c : Clz} (F : FunS P K mg "__init__" "Longer.__init__" S_Longer__init_ c.longer [] f fd) (T : Txt K mg) (Hc : Hi K mg c) {eT : Addr} (M_pinit : SupC P w K mg base 2 c.longer "__init__" ["self", "script", "used"] (sp_pinit K c) [.ref eT]) (hE : ∀ H, SqT K H eT []) : FnOk P w K mg base CX0 4 f fd ["self"] (sp_rinit K c c.longer fun H x => TstAt K c H x .longer) := by
  refine F.ok SC_Longer__init_ (fun vs H Q E h => ?_) (fun cda cc fd' oc od osl A outer s H vs Q E hpar lk SK hr h => ?_)
  · obtain ⟨x, dx, rfl, _⟩ := h
    rfl
  · obtain ⟨x, dx, rfl, hx, k⟩ := h
    refine ⟨_, (pat_superC M_pinit SK lk hpar (hr.mono (by decide)) (pa_cons (pe_lstN (pa_cons pe_str pa_nil)) pa_nil) pss_nil), ?_⟩
    refine ⟨x, dx, [], rfl, hx, by show 1 ≤ 1000000; decide, fun L H1 n1 s1 h1 => ?_⟩
    refine ⟨x, dx, L, eT, c.longer, [], ["longer"], [], "longer", false, rfl, s1 _ _ hx, Nat.zero_le _, Hc.longer, .inl (SqL.of h1), .inr (hE _), fun s u H' kp hx' hs hu => ?_⟩
    exact k H' (fun b o n e => kp b o n (s1 _ _ e)) ⟨_, part_new hx' hs hu (by decide) rfl rfl rfl⟩
theorem ok_shorterinit {f : Addr} {fd : FuncData} {c : Clz} (F : FunS P K mg "__init__" "Shorter.__init__" S_Shorter__init_ c.shorter [] f fd) (T : Txt K mg) (Hc : Hi K mg c) {eT : Addr} (M_pinit : SupC P w K mg base 2 c.shorter "__init__" ["self", "script", "used"] (sp_pinit K c) [.ref eT]) (hE : ∀ H, SqT K H eT []) : FnOk P w K mg base CX0 4 f fd ["self"] (sp_rinit K c c.shorter fun H x => TstAt K c H x .shorter) := by
  refine F.ok SC_Shorter__init_ (fun vs H Q E h => ?_) (fun cda cc fd' oc od osl A outer s H vs Q E hpar lk SK hr h => ?_)
  · obtain ⟨x, dx, rfl, _⟩ := h
    rfl
  · obtain ⟨x, dx, rfl, hx, k⟩ := h
    refine ⟨_, (pat_superC M_pinit SK lk hpar (hr.mono (by decide)) (pa_cons (pe_lstN (pa_cons pe_str pa_nil)) pa_nil) pss_nil), ?_⟩
    refine ⟨x, dx, [], rfl, hx, by show 1 ≤ 1000000; decide, fun L H1 n1 s1 h1 => ?_⟩
    refine ⟨x, dx, L, eT, c.shorter, [], ["shorter"], [], "shorter", false, rfl, s1 _ _ hx, Nat.zero_le _, Hc.shorter, .inl (SqL.of h1), .inr (hE _), fun s u H' kp hx' hs hu => ?_⟩
    exact k H' (fun b o n e => kp b o n (s1 _ _ e)) ⟨_, part_new hx' hs hu (by decide) rfl rfl rfl⟩
theorem ok_alikeinit {f : Addr} {fd : FuncData} {c : Clz} (F : FunS P K mg "__init__" "Alike.__init__" S_Alike__init_ c.alike [] f fd) (T : Txt K mg) (Hc : Hi K mg c) {eT : Addr} (M_pinit : SupC P w K mg base 2 c.alike "__init__" ["self", "script", "used"] (sp_pinit K c) [.ref eT]) (hE : ∀ H, SqT K H eT []) : FnOk P w K mg base CX0 4 f fd ["self"] (sp_rinit K c c.alike fun H x => TstAt K c H x .alike) := by
  refine F.ok SC_Alike__init_ (fun vs H Q E h => ?_) (fun cda cc fd' oc od osl A outer s H vs Q E hpar lk SK hr h => ?_)
  · obtain ⟨x, dx, rfl, _⟩ := h
    rfl
  · obtain ⟨x, dx, rfl, hx, k⟩ := h
    refine ⟨_, (pat_superC M_pinit SK lk hpar (hr.mono (by decide)) (pa_cons (pe_lstN (pa_cons pe_str pa_nil)) pa_nil) pss_nil), ?_⟩
    refine ⟨x, dx, [], rfl, hx, by show 1 ≤ 1000000; decide, fun L H1 n1 s1 h1 => ?_⟩
    refine ⟨x, dx, L, eT, c.alike, [], ["alike"], [], "alike", false, rfl, s1 _ _ hx, Nat.zero_le _, Hc.alike, .inl (SqL.of h1), .inr (hE _), fun s u H' kp hx' hs hu => ?_⟩
    exact k H' (fun b o n e => kp b o n (s1 _ _ e)) ⟨_, part_new hx' hs hu (by decide) rfl rfl rfl⟩
end

/-! ## rows and tests with arguments -/
namespace Pg
/-- C(note, number) -/
def sp_nn (K : PySem.W.Frag) (IR C : Addr) (P : Hp → Addr → Str → Int → Prop) : Sp := fun vs H Q E => ∃ (x dx : Addr) (n k : V), vs = [.ref x, n, k] ∧ H x = some (.ins C dx []) ∧ Kd K H n ∧ Kd K H k ∧ (∀ z, n = .str z → z.length ≤ 1000000) ∧ (∀ i, k = .int i → 0 ≤ i → i < 2 ^ 40) ∧
  (∀ (z : Str) (i : Int), n = .str z → k = .int i → nameOk z = true → 0 ≤ i → ∀ H', (∀ b o, b ≠ x → H b = some o → H' b = some o) → P H' x z i → Q .non H') ∧
  (isName n = false → Refd E IR H "note") ∧ (isName n = true → isNum k = false → Refd E IR H "number")
def sp_mark (K : PySem.W.Frag) (c : Clz) (IR : Addr) : Sp := fun vs H Q E => ∃ (x dx : Addr) (n : V), vs = [.ref x, n] ∧ H x = some (.ins c.tell dx []) ∧ Kd K H n ∧ (∀ z, n = .str z → z.length ≤ 1000000) ∧
  (∀ (z : Str), n = .str z → nameOk z = true → ∀ H', (∀ b o, b ≠ x → H b = some o → H' b = some o) → RowAt K c H' x (.tell z) → Q .non H') ∧ (isName n = false → Refd E IR H "mark")
theorem l_e : Str.empty.length = 0 := rfl
theorem l_put : ("put " : Str).length = 4 := by decide +kernel
theorem l_add : ("add " : Str).length = 4 := by decide +kernel
theorem l_sp : (" " : Str).length = 1 := by decide +kernel
theorem l_tell : ("tell " : Str).length = 5 := by decide +kernel
theorem l_is : (" is " : Str).length = 4 := by decide +kernel
theorem l_make : ("make " : Str).length = 5 := by decide +kernel
theorem l_not : ("not " : Str).length = 4 := by decide +kernel
theorem l_if : ("if " : Str).length = 3 := by decide +kernel
theorem l_until : ("until " : Str).length = 6 := by decide +kernel
theorem l_end : ("end" : Str).length = 3 := by decide +kernel
theorem l_else : ("else" : Str).length = 4 := by decide +kernel
theorem e_put (a b c d : Str) : Str.empty ++ a ++ b ++ c ++ d = a ++ b ++ c ++ d := by rw [app_e]
theorem st_small {i : Int} (h0 : 0 ≤ i) (h : i < 2 ^ 40) : (st i).length ≤ 13 := st_len h0 h
theorem name_len {z : Str} (h : nameOk z = true) : z.length ≤ 4 := by
  unfold nameOk at h
  simp only [Bool.and_eq_true, decide_eq_true_eq] at h
  exact h.1.1.2
theorem name_is {n : V} (h : isName n = true) : ∃ z, n = .str z ∧ nameOk z = true := by
  cases n with
  | str z => exact ⟨z, rfl, h⟩
  | _ => cases h
theorem num_is {k : V} (h : isNum k = true) : ∃ i, k = .int i ∧ 0 ≤ i := by
  cases k with
  | int i => exact ⟨i, rfl, of_decide_eq_true h⟩
  | _ => cases h
end Pg
open Pg
section
variable {P : Program} {w : World} {K : PySem.W.Frag} {mg : Str → Option Value} {base : Heap}
theorem ok_putinit {f IR : Addr} {fd : FuncData} {c : Clz} (F : FunS P K mg "__init__" "Put.__init__" S_Put__init_ c.put [] f fd) (T : Txt K mg) (Hc : Hi K mg c) (C_ndname : FnC P w K mg base (L2.CX P w) 4 "need_name" ["value", "part"] (sp_ndname K IR)) (C_ndnum : FnC P w K mg base (L2.CX P w) 4 "need_number" ["value"] (sp_ndnum K IR)) (M_pinit : SupC P w K mg base 2 c.put "__init__" ["self", "script", "used"] (sp_pinit K c) []) : FnOk P w K mg base (L2.CX P w) 6 f fd ["self", "note", "number"] (sp_nn K IR c.put fun H x z i => RowAt K c H x (.put z i)) := by
  refine F.ok SC_Put__init_ (fun vs H Q E h => ?_) (fun cda cc fd' oc od osl A outer s H vs Q E hpar lk SK hr h => ?_)
  · obtain ⟨x, dx, n, k, rfl, _⟩ := h
    rfl
  · obtain ⟨x, dx, n, k, rfl, hx, kn, kk, hz, hi, ok, bad1, bad2⟩ := h
    refine ⟨_, (pat_cons (ps_expr (pe_callSC C_ndname (hr.mono (by decide)) (takes_of rfl rfl rfl rfl) rfl (pa_cons (pv 1) (pa_cons pe_str pa_nil))))
      (pat_cons (ps_expr (pe_callSC C_ndnum (hr.mono (by decide)) (takes_of rfl rfl rfl rfl) rfl (pa_cons (pv 2) pa_nil)))
      (pat_superC M_pinit SK lk hpar (hr.mono (by decide)) (pa_cons (pe_lstN (pa_cons (pe_joined (PJ.cons pe_str (PJ.cons (pe_fmt (pv 1)) (PJ.cons pe_str (PJ.cons (pe_fmt (pv 2)) PJ.nil))))) pa_nil)) (pa_cons (pe_lstN (pa_cons (pv 1) pa_nil)) pa_nil)) (pss_cons (ps_fld (pv 0) (pv 1) rfl)
      (pss_one (ps_fld (pv 0) (pv 2) rfl)))))), ?_⟩
    refine ⟨_, rfl, n, "note", rfl, kn, hz, fun okn H1 s1 => ?_, fun bn => bad1 bn⟩
    refine ⟨_, rfl, k, rfl, kk.same s1, fun okk H2 s2 => ?_, fun bk dd H' s' hd => bad2 okn bk dd H' (s1.trans s') hd⟩
    obtain ⟨z, rfl, nz⟩ := name_is okn
    obtain ⟨i, rfl, i0⟩ := num_is okk
    have i1 := hi i rfl i0
    have s12 := s1.trans s2
    have lz := name_len nz
    have li := st_small i0 i1
    have lg := st_log i0 i1
    refine ⟨x, dx, [], rfl, s12 _ _ hx, ?_⟩
    refine ⟨_, rfl, by decide +kernel, _, rfl, .inl ⟨z, rfl, szl (by omega), _, rfl, by (refine szl ?_; simp only [app_len, l_e, l_put, l_add, l_sp, l_tell, l_is, l_make, l_not, l_if, l_until, l_end, l_else]; omega), _, rfl, by (refine szl ?_; simp only [app_len, l_e, l_put, l_add, l_sp, l_tell, l_is, l_make, l_not, l_if, l_until, l_end, l_else]; omega), _, rfl, .inr ⟨i, rfl, lg, _, rfl, ?_, ?_⟩⟩⟩
    · show (Str.empty ++ ("put " : Str) ++ z ++ (" " : Str) ++ st i).length ≤ sizeLine
      (refine szl ?_; simp only [app_len, l_e, l_put, l_add, l_sp, l_tell, l_is, l_make, l_not, l_if, l_until, l_end, l_else]; omega)
    rw [e_put]
    refine ⟨by show 1 ≤ 1000000; decide, fun L H3 n3 s3 h3 => ⟨_, rfl, by show 1 ≤ 1000000; decide, fun L2 H4 n4 s4 h4 => ?_⟩⟩
    have s14 := s12.trans (s3.trans s4)
    refine ⟨x, dx, L, L2, c.put, [], [("put " : Str) ++ z ++ " " ++ st i], [z], "put", true, rfl, s14 _ _ hx, Nat.zero_le _, Hc.put, .inl (SqL.of (s4 _ _ h3)), .inl (SqL.of h4), fun s u H5 kp hx5 hs hu => ?_⟩
    refine ⟨_, rfl, _, rfl, x, c.put, dx, _, rfl, hx5, Hc.put.ins.cl, Hc.put.no "note" (by simp [fnames]), Nat.le_of_ble_eq_true rfl, ?_⟩
    refine ⟨_, rfl, _, rfl, x, c.put, dx, _, rfl, upd_same, Hc.put.ins.cl, Hc.put.no "number" (by simp [fnames]), Nat.le_of_ble_eq_true rfl, ?_⟩
    refine ok z i rfl rfl nz i0 _ (fun b o n e => by rw [upd_ne n, upd_ne n]; exact kp b o n (s14 _ _ e)) ⟨_, ⟨dx, s, u, upd_same, Nat.le_of_ble_eq_true rfl, by ((repeat (rw [lookup_putF]; first | rw [if_pos rfl] | rw [if_neg (by decide +kernel)])); try rfl), sqT_ins (upd_same (o := .ins c.put dx _)) (sqT_ins hx5 hs), by ((repeat (rw [lookup_putF]; first | rw [if_pos rfl] | rw [if_neg (by decide +kernel)])); try rfl), sqT_ins (upd_same (o := .ins c.put dx _)) (sqT_ins hx5 hu), by ((repeat (rw [lookup_putF]; first | rw [if_pos rfl] | rw [if_neg (by decide +kernel)])); try rfl), by ((repeat (rw [lookup_putF]; first | rw [if_pos rfl] | rw [if_neg (by decide +kernel)])); try rfl), by ((repeat (rw [lookup_putF]; first | rw [if_pos rfl] | rw [if_neg (by decide +kernel)])); try rfl)⟩, by ((repeat (rw [lookup_putF]; first | rw [if_pos rfl] | rw [if_neg (by decide +kernel)])); try rfl), by ((repeat (rw [lookup_putF]; first | rw [if_pos rfl] | rw [if_neg (by decide +kernel)])); try rfl)⟩
theorem ok_addinit {f IR : Addr} {fd : FuncData} {c : Clz} (F : FunS P K mg "__init__" "Add.__init__" S_Add__init_ c.add [] f fd) (T : Txt K mg) (Hc : Hi K mg c) (C_ndname : FnC P w K mg base (L2.CX P w) 4 "need_name" ["value", "part"] (sp_ndname K IR)) (C_ndnum : FnC P w K mg base (L2.CX P w) 4 "need_number" ["value"] (sp_ndnum K IR)) (M_pinit : SupC P w K mg base 2 c.add "__init__" ["self", "script", "used"] (sp_pinit K c) []) : FnOk P w K mg base (L2.CX P w) 6 f fd ["self", "note", "number"] (sp_nn K IR c.add fun H x z i => RowAt K c H x (.add z i)) := by
  refine F.ok SC_Add__init_ (fun vs H Q E h => ?_) (fun cda cc fd' oc od osl A outer s H vs Q E hpar lk SK hr h => ?_)
  · obtain ⟨x, dx, n, k, rfl, _⟩ := h
    rfl
  · obtain ⟨x, dx, n, k, rfl, hx, kn, kk, hz, hi, ok, bad1, bad2⟩ := h
    refine ⟨_, (pat_cons (ps_expr (pe_callSC C_ndname (hr.mono (by decide)) (takes_of rfl rfl rfl rfl) rfl (pa_cons (pv 1) (pa_cons pe_str pa_nil))))
      (pat_cons (ps_expr (pe_callSC C_ndnum (hr.mono (by decide)) (takes_of rfl rfl rfl rfl) rfl (pa_cons (pv 2) pa_nil)))
      (pat_superC M_pinit SK lk hpar (hr.mono (by decide)) (pa_cons (pe_lstN (pa_cons (pe_joined (PJ.cons pe_str (PJ.cons (pe_fmt (pv 1)) (PJ.cons pe_str (PJ.cons (pe_fmt (pv 2)) PJ.nil))))) pa_nil)) (pa_cons (pe_lstN (pa_cons (pv 1) pa_nil)) pa_nil)) (pss_cons (ps_fld (pv 0) (pv 1) rfl)
      (pss_one (ps_fld (pv 0) (pv 2) rfl)))))), ?_⟩
    refine ⟨_, rfl, n, "note", rfl, kn, hz, fun okn H1 s1 => ?_, fun bn => bad1 bn⟩
    refine ⟨_, rfl, k, rfl, kk.same s1, fun okk H2 s2 => ?_, fun bk dd H' s' hd => bad2 okn bk dd H' (s1.trans s') hd⟩
    obtain ⟨z, rfl, nz⟩ := name_is okn
    obtain ⟨i, rfl, i0⟩ := num_is okk
    have i1 := hi i rfl i0
    have s12 := s1.trans s2
    have lz := name_len nz
    have li := st_small i0 i1
    have lg := st_log i0 i1
    refine ⟨x, dx, [], rfl, s12 _ _ hx, ?_⟩
    refine ⟨_, rfl, by decide +kernel, _, rfl, .inl ⟨z, rfl, szl (by omega), _, rfl, by (refine szl ?_; simp only [app_len, l_e, l_put, l_add, l_sp, l_tell, l_is, l_make, l_not, l_if, l_until, l_end, l_else]; omega), _, rfl, by (refine szl ?_; simp only [app_len, l_e, l_put, l_add, l_sp, l_tell, l_is, l_make, l_not, l_if, l_until, l_end, l_else]; omega), _, rfl, .inr ⟨i, rfl, lg, _, rfl, ?_, ?_⟩⟩⟩
    · show (Str.empty ++ ("add " : Str) ++ z ++ (" " : Str) ++ st i).length ≤ sizeLine
      (refine szl ?_; simp only [app_len, l_e, l_put, l_add, l_sp, l_tell, l_is, l_make, l_not, l_if, l_until, l_end, l_else]; omega)
    rw [e_put]
    refine ⟨by show 1 ≤ 1000000; decide, fun L H3 n3 s3 h3 => ⟨_, rfl, by show 1 ≤ 1000000; decide, fun L2 H4 n4 s4 h4 => ?_⟩⟩
    have s14 := s12.trans (s3.trans s4)
    refine ⟨x, dx, L, L2, c.add, [], [("add " : Str) ++ z ++ " " ++ st i], [z], "add", true, rfl, s14 _ _ hx, Nat.zero_le _, Hc.add, .inl (SqL.of (s4 _ _ h3)), .inl (SqL.of h4), fun s u H5 kp hx5 hs hu => ?_⟩
    refine ⟨_, rfl, _, rfl, x, c.add, dx, _, rfl, hx5, Hc.add.ins.cl, Hc.add.no "note" (by simp [fnames]), Nat.le_of_ble_eq_true rfl, ?_⟩
    refine ⟨_, rfl, _, rfl, x, c.add, dx, _, rfl, upd_same, Hc.add.ins.cl, Hc.add.no "number" (by simp [fnames]), Nat.le_of_ble_eq_true rfl, ?_⟩
    refine ok z i rfl rfl nz i0 _ (fun b o n e => by rw [upd_ne n, upd_ne n]; exact kp b o n (s14 _ _ e)) ⟨_, ⟨dx, s, u, upd_same, Nat.le_of_ble_eq_true rfl, by ((repeat (rw [lookup_putF]; first | rw [if_pos rfl] | rw [if_neg (by decide +kernel)])); try rfl), sqT_ins (upd_same (o := .ins c.add dx _)) (sqT_ins hx5 hs), by ((repeat (rw [lookup_putF]; first | rw [if_pos rfl] | rw [if_neg (by decide +kernel)])); try rfl), sqT_ins (upd_same (o := .ins c.add dx _)) (sqT_ins hx5 hu), by ((repeat (rw [lookup_putF]; first | rw [if_pos rfl] | rw [if_neg (by decide +kernel)])); try rfl), by ((repeat (rw [lookup_putF]; first | rw [if_pos rfl] | rw [if_neg (by decide +kernel)])); try rfl), by ((repeat (rw [lookup_putF]; first | rw [if_pos rfl] | rw [if_neg (by decide +kernel)])); try rfl)⟩, by ((repeat (rw [lookup_putF]; first | rw [if_pos rfl] | rw [if_neg (by decide +kernel)])); try rfl), by ((repeat (rw [lookup_putF]; first | rw [if_pos rfl] | rw [if_neg (by decide +kernel)])); try rfl)⟩
theorem ok_holdsinit {f IR : Addr} {fd : FuncData} {c : Clz} (F : FunS P K mg "__init__" "Holds.__init__" S_Holds__init_ c.holds [] f fd) (T : Txt K mg) (Hc : Hi K mg c) (C_ndname : FnC P w K mg base (L2.CX P w) 4 "need_name" ["value", "part"] (sp_ndname K IR)) (C_ndnum : FnC P w K mg base (L2.CX P w) 4 "need_number" ["value"] (sp_ndnum K IR)) (M_pinit : SupC P w K mg base 2 c.holds "__init__" ["self", "script", "used"] (sp_pinit K c) []) : FnOk P w K mg base (L2.CX P w) 6 f fd ["self", "note", "number"] (sp_nn K IR c.holds fun H x z i => TstAt K c H x (.holds z i)) := by
  refine F.ok SC_Holds__init_ (fun vs H Q E h => ?_) (fun cda cc fd' oc od osl A outer s H vs Q E hpar lk SK hr h => ?_)
  · obtain ⟨x, dx, n, k, rfl, _⟩ := h
    rfl
  · obtain ⟨x, dx, n, k, rfl, hx, kn, kk, hz, hi, ok, bad1, bad2⟩ := h
    refine ⟨_, (pat_cons (ps_expr (pe_callSC C_ndname (hr.mono (by decide)) (takes_of rfl rfl rfl rfl) rfl (pa_cons (pv 1) (pa_cons pe_str pa_nil))))
      (pat_cons (ps_expr (pe_callSC C_ndnum (hr.mono (by decide)) (takes_of rfl rfl rfl rfl) rfl (pa_cons (pv 2) pa_nil)))
      (pat_superC M_pinit SK lk hpar (hr.mono (by decide)) (pa_cons (pe_lstN (pa_cons (pe_joined (PJ.cons (pe_fmt (pv 1)) (PJ.cons pe_str (PJ.cons (pe_fmt (pv 2)) PJ.nil)))) pa_nil)) (pa_cons (pe_lstN (pa_cons (pv 1) pa_nil)) pa_nil)) (pss_cons (ps_fld (pv 0) (pv 1) rfl)
      (pss_one (ps_fld (pv 0) (pv 2) rfl)))))), ?_⟩
    refine ⟨_, rfl, n, "note", rfl, kn, hz, fun okn H1 s1 => ?_, fun bn => bad1 bn⟩
    refine ⟨_, rfl, k, rfl, kk.same s1, fun okk H2 s2 => ?_, fun bk dd H' s' hd => bad2 okn bk dd H' (s1.trans s') hd⟩
    obtain ⟨z, rfl, nz⟩ := name_is okn
    obtain ⟨i, rfl, i0⟩ := num_is okk
    have i1 := hi i rfl i0
    have s12 := s1.trans s2
    have lz := name_len nz
    have li := st_small i0 i1
    have lg := st_log i0 i1
    refine ⟨x, dx, [], rfl, s12 _ _ hx, ?_⟩
    refine ⟨_, rfl, .inl ⟨z, rfl, szl (by omega), _, rfl, by (refine szl ?_; simp only [app_len, l_e, l_put, l_add, l_sp, l_tell, l_is, l_make, l_not, l_if, l_until, l_end, l_else]; omega), _, rfl, by (refine szl ?_; simp only [app_len, l_e, l_put, l_add, l_sp, l_tell, l_is, l_make, l_not, l_if, l_until, l_end, l_else]; omega), _, rfl, .inr ⟨i, rfl, lg, _, rfl, ?_, ?_⟩⟩⟩
    · show (Str.empty ++ z ++ (" is " : Str) ++ st i).length ≤ sizeLine
      (refine szl ?_; simp only [app_len, l_e, l_put, l_add, l_sp, l_tell, l_is, l_make, l_not, l_if, l_until, l_end, l_else]; omega)
    rw [app_e]
    refine ⟨by show 1 ≤ 1000000; decide, fun L H3 n3 s3 h3 => ⟨_, rfl, by show 1 ≤ 1000000; decide, fun L2 H4 n4 s4 h4 => ?_⟩⟩
    have s14 := s12.trans (s3.trans s4)
    refine ⟨x, dx, L, L2, c.holds, [], [z ++ " is " ++ st i], [z], "holds", false, rfl, s14 _ _ hx, Nat.zero_le _, Hc.holds, .inl (SqL.of (s4 _ _ h3)), .inl (SqL.of h4), fun s u H5 kp hx5 hs hu => ?_⟩
    refine ⟨_, rfl, _, rfl, x, c.holds, dx, _, rfl, hx5, Hc.holds.ins.cl, Hc.holds.no "note" (by simp [fnames]), Nat.le_of_ble_eq_true rfl, ?_⟩
    refine ⟨_, rfl, _, rfl, x, c.holds, dx, _, rfl, upd_same, Hc.holds.ins.cl, Hc.holds.no "number" (by simp [fnames]), Nat.le_of_ble_eq_true rfl, ?_⟩
    refine ok z i rfl rfl nz i0 _ (fun b o n e => by rw [upd_ne n, upd_ne n]; exact kp b o n (s14 _ _ e)) ⟨_, ⟨dx, s, u, upd_same, Nat.le_of_ble_eq_true rfl, by ((repeat (rw [lookup_putF]; first | rw [if_pos rfl] | rw [if_neg (by decide +kernel)])); try rfl), sqT_ins (upd_same (o := .ins c.holds dx _)) (sqT_ins hx5 hs), by ((repeat (rw [lookup_putF]; first | rw [if_pos rfl] | rw [if_neg (by decide +kernel)])); try rfl), sqT_ins (upd_same (o := .ins c.holds dx _)) (sqT_ins hx5 hu), by ((repeat (rw [lookup_putF]; first | rw [if_pos rfl] | rw [if_neg (by decide +kernel)])); try rfl), by ((repeat (rw [lookup_putF]; first | rw [if_pos rfl] | rw [if_neg (by decide +kernel)])); try rfl), by ((repeat (rw [lookup_putF]; first | rw [if_pos rfl] | rw [if_neg (by decide +kernel)])); try rfl)⟩, by ((repeat (rw [lookup_putF]; first | rw [if_pos rfl] | rw [if_neg (by decide +kernel)])); try rfl), by ((repeat (rw [lookup_putF]; first | rw [if_pos rfl] | rw [if_neg (by decide +kernel)])); try rfl)⟩
theorem ok_tellinit {f IR : Addr} {fd : FuncData} {c : Clz} (F : FunS P K mg "__init__" "Tell.__init__" S_Tell__init_ c.tell [] f fd) (T : Txt K mg) (Hc : Hi K mg c) (C_ndname : FnC P w K mg base (L2.CX P w) 4 "need_name" ["value", "part"] (sp_ndname K IR)) {eT : Addr} (M_pinit : SupC P w K mg base 2 c.tell "__init__" ["self", "script", "used"] (sp_pinit K c) [.ref eT]) (hE : ∀ H, SqT K H eT []) : FnOk P w K mg base (L2.CX P w) 6 f fd ["self", "mark"] (sp_mark K c IR) := by
  refine F.ok SC_Tell__init_ (fun vs H Q E h => ?_) (fun cda cc fd' oc od osl A outer s H vs Q E hpar lk SK hr h => ?_)
  · obtain ⟨x, dx, n, rfl, _⟩ := h
    rfl
  · obtain ⟨x, dx, n, rfl, hx, kn, hz, ok, bad⟩ := h
    refine ⟨_, (pat_cons (ps_expr (pe_callSC C_ndname (hr.mono (by decide)) (takes_of rfl rfl rfl rfl) rfl (pa_cons (pv 1) (pa_cons pe_str pa_nil))))
      (pat_superC M_pinit SK lk hpar (hr.mono (by decide)) (pa_cons (pe_lstN (pa_cons (pe_joined (PJ.cons pe_str (PJ.cons (pe_fmt (pv 1)) PJ.nil))) pa_nil)) pa_nil) (pss_one (ps_fld (pv 0) (pv 1) rfl)))), ?_⟩
    refine ⟨_, rfl, n, "mark", rfl, kn, hz, fun okn H1 s1 => ?_, fun bn => bad bn⟩
    obtain ⟨z, rfl, nz⟩ := name_is okn
    have lz := name_len nz
    refine ⟨x, dx, [], rfl, s1 _ _ hx, ?_⟩
    refine ⟨_, rfl, by decide +kernel, _, rfl, .inl ⟨z, rfl, szl (by omega), _, rfl, by (refine szl ?_; simp only [app_len, l_e, l_put, l_add, l_sp, l_tell, l_is, l_make, l_not, l_if, l_until, l_end, l_else]; omega), ?_⟩⟩
    rw [app_e]
    refine ⟨by show 1 ≤ 1000000; decide, fun L H3 n3 s3 h3 => ?_⟩
    have s13 := s1.trans s3
    refine ⟨x, dx, L, eT, c.tell, [], [("tell " : Str) ++ z], [], "tell", true, rfl, s13 _ _ hx, Nat.zero_le _, Hc.tell, .inl (SqL.of h3), .inr (hE _), fun s u H5 kp hx5 hs hu => ?_⟩
    refine ⟨_, rfl, _, rfl, x, c.tell, dx, _, rfl, hx5, Hc.tell.ins.cl, Hc.tell.no "mark" (by simp [fnames]), Nat.le_of_ble_eq_true rfl, ?_⟩
    refine ok z rfl nz _ (fun b o n e => by rw [upd_ne n]; exact kp b o n (s13 _ _ e)) ⟨_, ⟨dx, s, u, upd_same, Nat.le_of_ble_eq_true rfl, by ((repeat (rw [lookup_putF]; first | rw [if_pos rfl] | rw [if_neg (by decide +kernel)])); try rfl), sqT_ins hx5 hs, by ((repeat (rw [lookup_putF]; first | rw [if_pos rfl] | rw [if_neg (by decide +kernel)])); try rfl), sqT_ins hx5 hu, by ((repeat (rw [lookup_putF]; first | rw [if_pos rfl] | rw [if_neg (by decide +kernel)])); try rfl), by ((repeat (rw [lookup_putF]; first | rw [if_pos rfl] | rw [if_neg (by decide +kernel)])); try rfl), by ((repeat (rw [lookup_putF]; first | rw [if_pos rfl] | rw [if_neg (by decide +kernel)])); try rfl)⟩, by ((repeat (rw [lookup_putF]; first | rw [if_pos rfl] | rw [if_neg (by decide +kernel)])); try rfl)⟩
end

/-! ## the text of a part; rows and tests made of others -/
namespace Pg
def sumL (ss : List Str) : Nat := (ss.map fun z => z.length + 1).sum
theorem sumL_eq : ∀ ss : List Str, sumL ss = (ss.map fun x => x.length).sum + ss.length
  | [] => rfl
  | z :: ss => by
    have e := sumL_eq ss
    unfold sumL at e ⊢
    simp only [List.map_cons, List.sum_cons, List.length_cons]
    omega
theorem sumL_one (z : Str) : sumL [z] = z.length + 1 := by simp [sumL]
def sp_pstr (K : PySem.W.Frag) : Sp := fun vs H Q _ => ∃ (p C : Addr) (c : Clz) (so : Str) (ir : Bool) (ss us : List Str) (fs : List (Str × V)), vs = [.ref p] ∧ Ri K c C so ir ∧ PartAt K C H p ss us fs ∧ sumL ss ≤ 1000000 ∧ ∀ H', Same H H' → Q (.str (Txt.join ("\n" : Str) ss)) H'
def sp_not (K : PySem.W.Frag) (c : Clz) (IR : Addr) : Sp := fun vs H Q E => ∃ (x dx : Addr) (n : V) (t : Value) (b : Bool), vs = [.ref x, n] ∧ H x = some (.ins c.not dx []) ∧ TyX K H n t ∧ PySem.W.kitOne K t (.ref c.test) = some b ∧
  (b = true → ∃ (q : Addr) (u : Tst), n = .ref q ∧ TstAt K c H q u ∧ u.txt.length ≤ 1000 ∧ ∀ H', (∀ b o, b ≠ x → H b = some o → H' b = some o) → TstAt K c H' x (.not u) → Q .non H') ∧ (b = false → Refd E IR H "test")
def sp_make (K : PySem.W.Frag) (c : Clz) (IR : Addr) : Sp := fun vs H Q E => ∃ (x dx : Addr) (n : V) (t : Value) (b : Bool), vs = [.ref x, n] ∧ H x = some (.ins c.make dx []) ∧ TyX K H n t ∧ PySem.W.kitOne K t (.ref c.change) = some b ∧
  (b = true → ∃ (q : Addr) (m : Mt), n = .ref q ∧ ChAt c.change H q m.a m.b m.c m.d ∧ m.In 40 ∧ ∀ H', (∀ b o, b ≠ x → H b = some o → H' b = some o) → RowAt K c H' x (.make m) → Q .non H') ∧ (b = false → Refd E IR H "change")
/-- what the classes of tests must have for texts -/
structure Ht (P : Program) (w : World) (K : PySem.W.Frag) (mg : Str → Option Value) (base : Heap) (c : Clz) : Prop where
  str : ∀ t : Tst, MtC P w K mg base CX0 1 (t.cls c) "__str__" ["self"] (sp_pstr K)
  fm : ∀ t : Tst, FmC K (t.cls c)
section
variable {K : PySem.W.Frag} {c : Clz} {C D x dx p : Addr} {H H' : Hp} {ss us : List Str} {fs : List (Str × V)}
/-- all but a new object without fields stays -/
theorem sqT_nx (hx : H x = some (.ins C dx [])) (kp : ∀ b o, b ≠ x → H b = some o → H' b = some o) {q : Addr} {xs : List V} (h : SqT K H q xs) : SqT K H' q xs := h.elim (fun q' => .inl (q'.elim (fun q' => .inl (kp _ _ (fun e => by rw [e, hx] at q'; cases q') q')) fun ⟨o, q'⟩ => .inr ⟨o, kp _ _ (fun e => by rw [e, hx] at q'; cases q') q'⟩)) .inr
theorem part_ne (hx : H x = some (.ins C dx [])) (h : PartAt K D H p ss us fs) : p ≠ x := fun e => by
  obtain ⟨d, a, u, h1, h2, h3, _⟩ := h
  rw [e, hx] at h1
  injection Option.some.inj h1 with _ _ e3
  rw [← e3] at h3
  cases h3
theorem part_nx (hx : H x = some (.ins C dx [])) (kp : ∀ b o, b ≠ x → H b = some o → H' b = some o) (h : PartAt K D H p ss us fs) : PartAt K D H' p ss us fs := by
  have ne := part_ne hx h
  obtain ⟨d, a, u, h1, h2, h3, h4, h5, h6, h7⟩ := h
  exact ⟨d, a, u, kp _ _ ne h1, h2, h3, sqT_nx hx kp h4, h5, sqT_nx hx kp h6, h7⟩
theorem ChAt.nx {CC : Addr} {i j m n : Int} (hx : H x = some (.ins C dx [])) (kp : ∀ b o, b ≠ x → H b = some o → H' b = some o) (h : ChAt CC H p i j m n) : ChAt CC H' p i j m n := by
  obtain ⟨dq, a, g1, g2⟩ := h
  have nq : p ≠ x := fun e => by
    rw [e, hx] at g1
    injection Option.some.inj g1 with _ _ e3
    have e4 := cf1 a (i * n - j * m)
    rw [← e3] at e4
    cases e4
  exact ⟨dq, a, kp _ _ nq g1, kp _ _ (fun e => by rw [e, hx] at g2; cases g2) g2⟩
theorem TstAt.nx (hx : H x = some (.ins C dx [])) (kp : ∀ b o, b ≠ x → H b = some o → H' b = some o) : ∀ {t : Tst} {p : Addr}, TstAt K c H p t → TstAt K c H' p t
  | .holds n k, _, ⟨fs, h, r⟩ => ⟨fs, part_nx hx kp h, r⟩
  | .not t, _, ⟨fs, q, h, e, r⟩ => ⟨fs, q, part_nx hx kp h, e, TstAt.nx hx kp r⟩
  | .longer, _, ⟨fs, h⟩ => ⟨fs, part_nx hx kp h⟩
  | .shorter, _, ⟨fs, h⟩ => ⟨fs, part_nx hx kp h⟩
  | .alike, _, ⟨fs, h⟩ => ⟨fs, part_nx hx kp h⟩
mutual
theorem RowAt.nx (hx : H x = some (.ins C dx [])) (kp : ∀ b o, b ≠ x → H b = some o → H' b = some o) : ∀ {r : Rw1} {p : Addr}, RowAt K c H p r → RowAt K c H' p r
  | .make m, _, ⟨fs, q, h, e, ch⟩ => ⟨fs, q, part_nx hx kp h, e, ChAt.nx hx kp ch⟩
  | .exch, _, ⟨fs, h⟩ => ⟨fs, part_nx hx kp h⟩
  | .lay, _, ⟨fs, h⟩ => ⟨fs, part_nx hx kp h⟩
  | .put n k, _, ⟨fs, h, r⟩ => ⟨fs, part_nx hx kp h, r⟩
  | .add n k, _, ⟨fs, h, r⟩ => ⟨fs, part_nx hx kp h, r⟩
  | .tell m, _, ⟨fs, h, r⟩ => ⟨fs, part_nx hx kp h, r⟩
  | .stop, _, ⟨fs, h⟩ => ⟨fs, part_nx hx kp h⟩
  | .ifb t r o, _, ⟨fs, q, a, b, xs, ys, h, e1, ht, e2, h2, hr, e3, h3, ho⟩ => ⟨fs, q, a, b, xs, ys, part_nx hx kp h, e1, ht.nx hx kp, e2, sqT_nx hx kp h2, RowsAt.nx hx kp hr, e3, sqT_nx hx kp h3, RowsAt.nx hx kp ho⟩
  | .untl g r, _, ⟨fs, a, xs, h, e1, e2, h2, hr⟩ => ⟨fs, a, xs, part_nx hx kp h, e1, e2, sqT_nx hx kp h2, RowsAt.nx hx kp hr⟩
theorem RowsAt.nx (hx : H x = some (.ins C dx [])) (kp : ∀ b o, b ≠ x → H b = some o → H' b = some o) : ∀ {rs : List Rw1} {vs : List V}, RowsAt K c H vs rs → RowsAt K c H' vs rs
  | [], [], _ => trivial
  | r :: rs, v :: vs, ⟨⟨p, e, h⟩, t⟩ => ⟨⟨p, e, RowAt.nx hx kp h⟩, RowsAt.nx hx kp t⟩
end
end
theorem tx_len {m : Mt} (h : m.In 40) : (tx m).length ≤ 60 := by
  have la := st_len h.a0 h.a1
  have lb := st_len h.b0 h.b1
  have lc := st_len h.c0 h.c1
  have ld := st_len h.d0 h.d1
  unfold tx
  rw [join_cons2, join_cons2, join_cons2, Pg.join_one]
  simp only [app_len, l_sp]
  omega
end Pg
open Pg
section
variable {P : Program} {w : World} {K : PySem.W.Frag} {mg : Str → Option Value} {base : Heap}
theorem ok_pstr {f : Addr} {fd : FuncData} (F : Fun K "__str__" "Part.__str__" S_Part__str_ f fd) (T : Txt K mg) : FnOk P w K mg base CX0 1 f fd ["self"] (sp_pstr K) := by
  refine F.ok SC_Part__str_ (fun vs H Q E h => ?_) (fun cdv A outer s H vs Q E hr h => ?_)
  · obtain ⟨p, C, c, so, ir, ss, us, fs, rfl, _⟩ := h
    rfl
  · obtain ⟨p, C, c, so, ir, ss, us, fs, rfl, ri, ⟨dx, a, u, h1, h2, h3, h4, h5, h6, h7⟩, sz, k⟩ := h
    refine ⟨_, (pss_one (ps_ret (pe_join pe_str (pe_fld (pv 0) rfl)))), ?_⟩
    refine ⟨⟨_, rfl⟩, _, rfl, p, C, dx, fs, _, rfl, h1, ri.ins.cl, ri.no _ (.head _), h3, ("\n" : Str), a, ss, rfl, rfl, .inr h4, ?_, k H (Same.refl H)⟩
    rw [show ("\n" : Str).length = 1 by decide +kernel, Nat.mul_one]
    have e := sumL_eq ss
    omega
theorem ok_notinit {f IR : Addr} {fd : FuncData} {c : Clz} (F : FunS P K mg "__init__" "Not.__init__" S_Not__init_ c.not [] f fd) (T : Txt K mg) (Hc : Hi K mg c) (Hs : Ht P w K mg base c) (C_ndtest : FnC P w K mg base (L2.CX P w) 4 "need_test" ["value"] (sp_ndtest K c IR)) (M_pinit : SupC P w K mg base 2 c.not "__init__" ["self", "script", "used"] (sp_pinit K c) []) : FnOk P w K mg base (L2.CX P w) 6 f fd ["self", "test"] (sp_not K c IR) := by
  refine F.ok SC_Not__init_ (fun vs H Q E h => ?_) (fun cda cc fd' oc od osl A outer s H vs Q E hpar lk SK hr h => ?_)
  · obtain ⟨x, dx, n, t, b, rfl, _⟩ := h
    rfl
  · obtain ⟨x, dx, n, t, b, rfl, hx, ty, kt, ok, bad⟩ := h
    refine ⟨_, (pat_cons (ps_expr (pe_callSC C_ndtest (hr.mono (by decide)) (takes_of rfl rfl rfl rfl) rfl (pa_cons (pv 1) pa_nil)))
      (pat_superC M_pinit SK lk hpar (hr.mono (by decide)) (pa_cons (pe_lstN (pa_cons (pe_joined (PJ.cons pe_str (PJ.cons (pe_ex (fun (u : Tst) (_ : True) => pe_fmtO (Hs.str u) (Hs.fm u) (hr.mono (by decide)) (pv 1))) PJ.nil))) pa_nil)) (pa_cons (pe_fld (pv 1) rfl) pa_nil)) (pss_one (ps_fld (pv 0) (pv 1) rfl)))), ?_⟩
    refine ⟨_, rfl, n, t, b, rfl, ty, kt, fun hb H1 s1 => ?_, fun hb => bad hb⟩
    obtain ⟨q, u, rfl, hq, lu, ok⟩ := ok hb
    have hq1 := hq.tk (TK.same s1)
    obtain ⟨fs, pq⟩ := hq1.part
    obtain ⟨dq, a, b', g1, g2, g3, g4, g5, g6, g7⟩ := id pq
    refine ⟨x, dx, [], rfl, s1 _ _ hx, ?_⟩
    refine ⟨_, rfl, by decide +kernel, u, trivial, _, rfl, q, dq, fs, rfl, g1, q, _, c, _, _, _, _, fs, rfl, Hc.t u, pq, by rw [sumL_one]; omega, fun H2 s2 => ⟨_, rfl, _, rfl, ?_, ?_⟩⟩
    · show (Str.empty ++ ("not " : Str) ++ u.txt).length ≤ sizeLine
      (refine szl ?_; simp only [app_len, l_e, l_put, l_add, l_sp, l_tell, l_is, l_make, l_not, l_if, l_until, l_end, l_else]; omega)
    rw [app_e, Pg.join_one]
    refine ⟨by show 1 ≤ 1000000; decide, fun L H3 n3 s3 h3 => ?_⟩
    have s13 := s1.trans (s2.trans s3)
    refine ⟨_, rfl, q, _, dq, fs, _, rfl, s3 _ _ (s2 _ _ g1), (Hc.t u).ins.cl, (Hc.t u).no _ (.tail _ (.head _)), g5, ?_⟩
    refine ⟨x, dx, L, b', c.not, [], [("not " : Str) ++ u.txt], u.uses, "not", false, rfl, s13 _ _ hx, Nat.zero_le _, Hc.not, .inl (SqL.of h3), .inr (sqT_tk (TK.same (s2.trans s3)) g6), fun s' u' H5 kp hx5 hs hu => ?_⟩
    refine ⟨_, rfl, _, rfl, x, c.not, dx, _, rfl, hx5, Hc.not.ins.cl, Hc.not.no "test" (by simp [fnames]), Nat.le_of_ble_eq_true rfl, ?_⟩
    have hq6 := (hq1.tk (TK.same (s2.trans s3))).nx (H' := upd H5 x (.ins c.not dx (putF "test" (.ref q) (putF "used" (.ref u') (putF "script" (.ref s') []))))) (s13 _ _ hx) (fun b o n e => by rw [upd_ne n]; exact kp b o n e)
    refine ok _ (fun b o n e => by rw [upd_ne n]; exact kp b o n (s13 _ _ e)) ⟨_, q, ⟨dx, s', u', upd_same, Nat.le_of_ble_eq_true rfl, by ((repeat (rw [lookup_putF]; first | rw [if_pos rfl] | rw [if_neg (by decide +kernel)])); try rfl), sqT_ins hx5 hs, by ((repeat (rw [lookup_putF]; first | rw [if_pos rfl] | rw [if_neg (by decide +kernel)])); try rfl), sqT_ins hx5 hu, by ((repeat (rw [lookup_putF]; first | rw [if_pos rfl] | rw [if_neg (by decide +kernel)])); try rfl), by ((repeat (rw [lookup_putF]; first | rw [if_pos rfl] | rw [if_neg (by decide +kernel)])); try rfl), by ((repeat (rw [lookup_putF]; first | rw [if_pos rfl] | rw [if_neg (by decide +kernel)])); try rfl)⟩, by ((repeat (rw [lookup_putF]; first | rw [if_pos rfl] | rw [if_neg (by decide +kernel)])); try rfl), hq6⟩
theorem ok_makeinit {f IR : Addr} {fd : FuncData} {c : Clz} (F : FunS P K mg "__init__" "Make.__init__" S_Make__init_ c.make [] f fd) (T : Txt K mg) (Hc : Hi K mg c) (Rc : ChT K mg c.change) (M_chstr : MtC P w K mg base CX0 1 c.change "__str__" ["self"] (sp_chstr c.change)) (Fc : FmC K c.change) (E_InvalidRow : Er1 P w K mg base "InvalidRow" IR "part" "part") {eT : Addr} (M_pinit : SupC P w K mg base 2 c.make "__init__" ["self", "script", "used"] (sp_pinit K c) [.ref eT]) (hE : ∀ H, SqT K H eT []) : FnOk P w K mg base (L2.CX P w) 6 f fd ["self", "change"] (sp_make K c IR) := by
  refine F.ok SC_Make__init_ (fun vs H Q E h => ?_) (fun cda cc fd' oc od osl A outer s H vs Q E hpar lk SK hr h => ?_)
  · obtain ⟨x, dx, n, t, b, rfl, _⟩ := h
    rfl
  · obtain ⟨x, dx, n, t, b, rfl, hx, ty, kt, ok, bad⟩ := h
    refine ⟨_, (pat_cons (ps_if (pt_not (pt_val (pe_callB call_isi (by rfl) T.b_isinstance (by decide +kernel) (pa_cons (pv 1) (pa_cons (pe_glob (v := .ref c.change) (by rfl) Rc.mgC rfl) pa_nil))))) (pss_one (ps_raise1 E_InvalidRow (hr.mono (by decide)) rfl (takes_of rfl rfl rfl rfl) rfl (pa_cons pe_str pa_nil))) pss_nil)
      (pat_superC M_pinit SK lk hpar (hr.mono (by decide)) (pa_cons (pe_lstN (pa_cons (pe_joined (PJ.cons pe_str (PJ.cons (pe_fmtO M_chstr Fc (hr.mono (by decide)) (pv 1)) PJ.nil))) pa_nil)) pa_nil) (pss_one (ps_fld (pv 0) (pv 1) rfl)))), ?_⟩
    refine ⟨_, rfl, n, _, t, _, b, rfl, .own _, ty, kt, _, rfl, ?_⟩
    cases b with
    | false => exact ifT rfl (mk_err1H fun dd hd => bad rfl dd H (Same.refl H) hd)
    | true =>
      refine ifF rfl ?_
      obtain ⟨q, m, rfl, hq, im, ok⟩ := ok rfl
      obtain ⟨dq, a, g1, g2⟩ := id hq
      refine ⟨x, dx, [], rfl, hx, ?_⟩
      refine ⟨_, rfl, by decide +kernel, _, rfl, q, dq, _, rfl, g1, q, m, rfl, hq, im, fun H2 s2 => ⟨_, rfl, _, rfl, ?_, ?_⟩⟩
      · show (Str.empty ++ ("make " : Str) ++ tx m).length ≤ sizeLine
        have := tx_len im
        (refine szl ?_; simp only [app_len, l_e, l_put, l_add, l_sp, l_tell, l_is, l_make, l_not, l_if, l_until, l_end, l_else]; omega)
      rw [app_e]
      refine ⟨by show 1 ≤ 1000000; decide, fun L H3 n3 s3 h3 => ?_⟩
      have s13 := s2.trans s3
      refine ⟨x, dx, L, eT, c.make, [], [("make " : Str) ++ tx m], [], "make", true, rfl, s13 _ _ hx, Nat.zero_le _, Hc.make, .inl (SqL.of h3), .inr (hE _), fun s' u' H5 kp hx5 hs hu => ?_⟩
      refine ⟨_, rfl, _, rfl, x, c.make, dx, _, rfl, hx5, Hc.make.ins.cl, Hc.make.no "change" (by simp [fnames]), Nat.le_of_ble_eq_true rfl, ?_⟩
      have hq6 := ChAt.nx (p := q) (H' := upd H5 x (.ins c.make dx (putF "change" (.ref q) (putF "used" (.ref u') (putF "script" (.ref s') []))))) (s13 _ _ hx) (fun b o n e => by rw [upd_ne n]; exact kp b o n e) (hq.same s13)
      refine ok _ (fun b o n e => by rw [upd_ne n]; exact kp b o n (s13 _ _ e)) ⟨_, q, ⟨dx, s', u', upd_same, Nat.le_of_ble_eq_true rfl, by ((repeat (rw [lookup_putF]; first | rw [if_pos rfl] | rw [if_neg (by decide +kernel)])); try rfl), sqT_ins hx5 hs, by ((repeat (rw [lookup_putF]; first | rw [if_pos rfl] | rw [if_neg (by decide +kernel)])); try rfl), sqT_ins hx5 hu, by ((repeat (rw [lookup_putF]; first | rw [if_pos rfl] | rw [if_neg (by decide +kernel)])); try rfl), by ((repeat (rw [lookup_putF]; first | rw [if_pos rfl] | rw [if_neg (by decide +kernel)])); try rfl), by ((repeat (rw [lookup_putF]; first | rw [if_pos rfl] | rw [if_neg (by decide +kernel)])); try rfl)⟩, by ((repeat (rw [lookup_putF]; first | rw [if_pos rfl] | rw [if_neg (by decide +kernel)])); try rfl), hq6⟩
end

/-! ## the lines of rows -/
namespace Pg
theorem for_seqB {K : PySem.W.Frag} {p : Addr} {xs : List V} {g : TG} {tb : TS} {D : Ends} {σ : L2.St} {i : Nat} {H H0 : Hp} (hσ : σ[i]? = some (some (.ref p))) (h : SqA K H0 p xs) (Pv : Nat → L2.St → Hp → Prop) (h0 : Pv 0 σ H) (hk : ∀ j σ' H', j ≤ xs.length → Pv j σ' H' → ∀ o, H0 p = some o → H' p = some o)
    (hs : ∀ j x σ' H', xs[j]? = some x → Pv j σ' H' → g x σ' H' fun σ2 H2 => tb { D with nx := Pv (j + 1), ct := Pv (j + 1), bk := D.nx } σ2 H2) (hd : ∀ σ' H', Pv xs.length σ' H' → D.nx σ' H') : tFor (iSeq K (tVar i)) g tb D σ H := by
  refine ⟨_, hσ, p, rfl, ?_⟩
  rcases h with h | h
  · exact .inl ⟨⟨_, sqL_at (hk 0 σ H (Nat.zero_le _) h0) h⟩, for_list Pv h0 (fun j σ' H' hj q => sqL_at (hk j σ' H' hj q) h) hs hd⟩
  · exact .inr ⟨⟨_, sqT_at (hk 0 σ H (Nat.zero_le _) h0) h⟩, for_tup Pv h0 (fun j σ' H' hj q => sqT_at (hk j σ' H' hj q) h) hs hd⟩
def sp_lines (K : PySem.W.Frag) (c : Clz) : Sp := fun vs H Q _ => ∃ (p : Addr) (xs : List V) (rs : List Rw1), vs = [.ref p] ∧ SqA K H p xs ∧ RowsAt K c H xs rs ∧ (linesL rs).length ≤ 1000000 ∧ ∀ l H', Same H H' → H l = none → H' l = some (.lst ((linesL rs).map V.str)) → Q (.ref l) H'
theorem linesL_take {rs : List Rw1} {i : Nat} {r : Rw1} (h : rs[i]? = some r) : linesL (rs.take (i + 1)) = linesL (rs.take i) ++ r.lines := by
  rw [List.take_succ, h, linesL_app]
  show linesL (rs.take i) ++ (r.lines ++ []) = _
  rw [List.append_nil]
theorem linesL_le {rs : List Rw1} (i : Nat) : (linesL (rs.take i)).length ≤ (linesL rs).length := by
  have e := linesL_app (rs.take i) (rs.drop i)
  rw [List.take_append_drop] at e
  rw [e, List.length_append]
  omega
end Pg
open Pg
section
variable {P : Program} {w : World} {K : PySem.W.Frag} {mg : Str → Option Value} {base : Heap}
theorem ok_linesof {f : Addr} {fd : FuncData} {c : Clz} (F : Fun K "lines_of" "lines_of" S_lines_of f fd) (T : Txt K mg) (Hc : Hi K mg c) : FnOk P w K mg base CX0 2 f fd ["rows"] (sp_lines K c) := by
  refine F.ok SC_lines_of (fun vs H Q E h => ?_) (fun cdv A outer s H vs Q E hr h => ?_)
  · obtain ⟨p, xs, rs, rfl, _⟩ := h
    rfl
  · obtain ⟨p, xs, rs, rfl, hs, hrs, sz, k⟩ := h
    refine ⟨_, (pss_cons (ps_set (i := 1) SC_lines_of.nd rfl (.inl rfl) (pe_lstN pa_nil))
      (pss_cons (ps_for PassesOwn.never rfl (pi_seq (pv 0)) (pg_name (i := 2) SC_lines_of.nd rfl (.inl rfl)) (pss_one (ps_expr (pe_bm PySem.F.plainAttrs_list PySem.F.slot_list_extend PySem.F.type_list_extend mt_extA (pv 1) (pa_cons (pe_fld (pv 2) rfl) pa_nil)))))
      (pss_one (ps_ret (pv 1))))), ?_⟩
    refine ⟨Nat.zero_le _, fun l H1 n1 s1 h1 => ?_⟩
    refine for_seqB (p := p) (xs := xs) (H0 := H) rfl hs (fun j σ H2 => Same H H2 ∧ H2 l = some (.lst ((linesL (rs.take j)).map V.str)) ∧ ∃ y, σ = [some (.ref p), some (.ref l), y]) ⟨s1, h1, _, rfl⟩ (fun j σ' H2 _ m o e => m.1 _ _ e) (fun j x σ' H2 hj m => ?_) (fun σ' H2 m => ?_)
    · obtain ⟨s2, h2, y, rfl⟩ := m
      obtain ⟨q, r, rfl, hr', hq⟩ := hrs.at hj
      obtain ⟨fs, pq⟩ := (hq.tk (TK.same s2)).part
      obtain ⟨dx, a, u, g1, g2, g3, g4, _⟩ := pq
      have e1 := linesL_take hr'
      have e2 := linesL_le (rs := rs) (j + 1)
      refine ⟨_, rfl, .inl ⟨rfl, _, SqL.of h2⟩, ?_⟩
      refine ⟨_, rfl, q, _, dx, fs, _, rfl, g1, (Hc.r r).ins.cl, (Hc.r r).no _ (.head _), g3, ?_⟩
      refine ⟨l, a, _, _, rfl, rfl, h2, .inr g4, ?_, ?_⟩
      · rw [List.length_map, List.length_map]
        rw [e1, List.length_append] at e2
        exact szl (by omega)
      · refine ⟨fun b o e => by rw [upd_ne (ne_of_none e n1)]; exact s2 _ _ e, ?_, _, rfl⟩
        rw [upd_same, e1, List.map_append]
    · obtain ⟨s2, h2, y, rfl⟩ := m
      rw [hrs.len, List.take_length] at h2
      exact ⟨_, rfl, k l H2 s2 n1 h2⟩
end

/-! ## the rows within rows -/
namespace Pg
section
variable {K : PySem.W.Frag} {c : Clz} {H H' : Hp}
theorem Ri.so_eq {C : Addr} {a a' : Str} {b b' : Bool} (h : Ri K c C a b) (h' : Ri K c C a' b') : a = a' := by
  obtain ⟨u, h1⟩ := h.so
  obtain ⟨u', h2⟩ := h'.so
  have e := h1.at_
  rw [h2.at_] at e
  cases e
  obtain ⟨t, e1⟩ := h1.rel
  obtain ⟨t', e2⟩ := h2.rel
  rw [e1] at e2
  injection e2
theorem RowsAt.app : ∀ {xs ys : List V} {rs ss : List Rw1}, RowsAt K c H xs rs → RowsAt K c H ys ss → RowsAt K c H (xs ++ ys) (rs ++ ss)
  | [], _, [], _, _, h => h
  | _ :: _, _, _ :: _, _, ⟨a, t⟩, h => ⟨a, RowsAt.app t h⟩
end
theorem innerL_app : ∀ a b : List Rw1, innerL (a ++ b) = innerL a ++ innerL b
  | [], _ => rfl
  | r :: a, b => by
    show r.inner ++ innerL (a ++ b) = _
    rw [innerL_app a b, ← List.append_assoc]; rfl
theorem innerL_take {rs : List Rw1} {i : Nat} {r : Rw1} (h : rs[i]? = some r) : innerL (rs.take (i + 1)) = innerL (rs.take i) ++ r.inner := by
  rw [List.take_succ, h, innerL_app]
  show innerL (rs.take i) ++ (r.inner ++ []) = _
  rw [List.append_nil]
theorem innerL_le {rs : List Rw1} (i : Nat) : (innerL (rs.take i)).length ≤ (innerL rs).length := by
  have e := innerL_app (rs.take i) (rs.drop i)
  rw [List.take_append_drop] at e
  rw [e, List.length_append]
  omega
def sp_rowinner (K : PySem.W.Frag) (c : Clz) : Sp := fun vs H Q _ => ∃ (p : Addr) (r : Rw1), vs = [.ref p] ∧ RowAt K c H p r ∧ r.inner = [r] ∧ ∀ l H', Same H H' → H l = none → H' l = some (.lst [.ref p]) → Q (.ref l) H'
def sp_inner (K : PySem.W.Frag) (c : Clz) (d : Nat) (C : Addr) : Sp := fun vs H Q _ => ∃ (p : Addr) (r : Rw1), vs = [.ref p] ∧ RowAt K c H p r ∧ r.cls c = C ∧ r.deep ≤ d ∧ r.inner.length ≤ 1000000 ∧ ∀ l H' ws, Same H H' → H l = none → H' l = some (.lst ws) → RowsAt K c H' ws r.inner → Q (.ref l) H'
def sp_irows (K : PySem.W.Frag) (c : Clz) (d : Nat) : Sp := fun vs H Q _ => ∃ (p : Addr) (xs : List V) (rs : List Rw1), vs = [.ref p] ∧ SqA K H p xs ∧ RowsAt K c H xs rs ∧ deepL rs ≤ d ∧ (innerL rs).length ≤ 1000000 ∧ ∀ l H' ws, Same H H' → H l = none → H' l = some (.lst ws) → RowsAt K c H' ws (innerL rs) → Q (.ref l) H'
end Pg
open Pg
section
variable {P : Program} {w : World} {K : PySem.W.Frag} {mg : Str → Option Value} {base : Heap}
theorem ok_rowinner {f : Addr} {fd : FuncData} {c : Clz} (F : Fun K "inner" "Row.inner" S_Row_inner f fd) (T : Txt K mg) : FnOk P w K mg base CX0 1 f fd ["self"] (sp_rowinner K c) := by
  refine F.ok SC_Row_inner (fun vs H Q E h => ?_) (fun cdv A outer s H vs Q E hr h => ?_)
  · obtain ⟨p, r, rfl, _⟩ := h
    rfl
  · obtain ⟨p, r, rfl, hp, _, k⟩ := h
    refine ⟨_, (pss_one (ps_ret (pe_lstN (pa_cons (pv 0) pa_nil)))), ?_⟩
    refine ⟨_, rfl, Nat.succ_le_succ (Nat.zero_le _), fun l H1 n1 s1 h1 => ?_⟩
    exact k l H1 s1 n1 h1
theorem ok_irows {f : Addr} {fd : FuncData} {c : Clz} {d : Nat} (F : Fun K "inner_rows" "inner_rows" S_inner_rows f fd) (T : Txt K mg) (Hc : Hi K mg c) (M_inner : ∀ u : Rw1, MtC P w K mg base CX0 (2 * d + 1) (u.cls c) "inner" ["self"] (sp_inner K c d (u.cls c))) : FnOk P w K mg base CX0 (2 * d + 2) f fd ["rows"] (sp_irows K c d) := by
  refine F.ok SC_inner_rows (fun vs H Q E h => ?_) (fun cdv A outer s H vs Q E hr h => ?_)
  · obtain ⟨p, xs, rs, rfl, _⟩ := h
    rfl
  · obtain ⟨p, xs, rs, rfl, hs, hrs, dp, sz, k⟩ := h
    refine ⟨_, (pss_cons (ps_set (i := 1) SC_inner_rows.nd rfl (.inl rfl) (pe_lstN pa_nil))
      (pss_cons (ps_for PassesOwn.never rfl (pi_seq (pv 0)) (pg_name (i := 2) SC_inner_rows.nd rfl (.inl rfl)) (pss_one (ps_expr (pe_bm PySem.F.plainAttrs_list PySem.F.slot_list_extend PySem.F.type_list_extend mt_extend (pv 1) (pa_cons (pe_ex (fun (u : Rw1) (_ : True) => pe_mth0 (M_inner u) (Hc.r u).ins.cl (hr.mono (by omega)) (pv 2))) pa_nil)))))
      (pss_one (ps_ret (pv 1))))), ?_⟩
    refine ⟨Nat.zero_le _, fun l H1 n1 s1 h1 => ?_⟩
    refine for_seqB (p := p) (xs := xs) (H0 := H) rfl hs (fun j σ H2 => Same H H2 ∧ (∃ ws, H2 l = some (.lst ws) ∧ RowsAt K c H2 ws (innerL (rs.take j))) ∧ ∃ y, σ = [some (.ref p), some (.ref l), y]) ⟨s1, ⟨_, h1, trivial⟩, _, rfl⟩ (fun j σ' H2 _ m o e => m.1 _ _ e) (fun j x σ' H2 hj m => ?_) (fun σ' H2 m => ?_)
    · obtain ⟨s2, ⟨ws, h2, hw⟩, y, rfl⟩ := m
      obtain ⟨q, r, rfl, hr', hq⟩ := hrs.at hj
      have hq2 := hq.tk (TK.same s2)
      obtain ⟨fs, dx, a, u, g1, g2, g3, g4, g5, g6, g7, g8, g9⟩ := hq2.part
      have e1 := innerL_take hr'
      have e2 := innerL_le (rs := rs) (j + 1)
      have ew := hw.len
      rw [e1, List.length_append] at e2
      refine ⟨_, rfl, .inl ⟨rfl, _, SqL.of h2⟩, ?_⟩
      refine ⟨r, trivial, _, rfl, q, dx, fs, rfl, g1, g8, ?_⟩
      refine ⟨q, r, rfl, hq2, rfl, Nat.le_trans (deepL_mem (List.mem_of_getElem? hr')) dp, by omega, fun l3 H3 ws3 s3 n3 h3 hw3 => ?_⟩
      have ew3 := hw3.len
      refine ⟨l, l3, _, _, rfl, rfl, s3 _ _ h2, h3, szl (by omega), ?_⟩
      have tk : TK H2 (upd H3 l (.lst (ws ++ ws3))) := fun b o t e => by
        have : b ≠ l := fun eb => by rw [eb, h2] at e; cases e; cases t
        rw [upd_ne this]
        exact s3 _ _ e
      have tk3 : TK H3 (upd H3 l (.lst (ws ++ ws3))) := fun b o t e => by
        have : b ≠ l := fun eb => by rw [eb, s3 _ _ h2] at e; cases e; cases t
        rw [upd_ne this]
        exact e
      refine ⟨fun b o e => by rw [upd_ne (ne_of_none e n1)]; exact s3 _ _ (s2 _ _ e), ⟨_, upd_same, ?_⟩, _, rfl⟩
      rw [e1]
      exact (hw.tk tk).app (hw3.tk tk3)
    · obtain ⟨s2, ⟨ws, h2, hw⟩, y, rfl⟩ := m
      rw [hrs.len, List.take_length] at hw
      exact ⟨_, rfl, k l H2 ws s2 n1 h2 hw⟩
theorem ok_ifinner {f : Addr} {fd : FuncData} {c : Clz} {d : Nat} (F : Fun K "inner" "If.inner" S_If_inner f fd) (T : Txt K mg) (Hc : Hi K mg c) (C_irows : FnC P w K mg base CX0 (2 * d + 2) "inner_rows" ["rows"] (sp_irows K c d)) : FnOk P w K mg base CX0 (2 * (d + 1) + 1) f fd ["self"] (sp_inner K c (d + 1) c.ifb) := by
  refine F.ok SC_If_inner (fun vs H Q E h => ?_) (fun cdv A outer s H vs Q E hr h => ?_)
  · obtain ⟨p, r, rfl, _⟩ := h
    rfl
  · obtain ⟨p, r, rfl, hp, ec, dp, sz, k⟩ := h
    refine ⟨_, (pss_one (ps_ret (pe_lst (pa_cons (pv 0) (StX.pa_star (pe_callC C_irows (hr.mono (by omega)) rfl (pa_cons (pe_fld (pv 0) rfl) pa_nil)) (StX.pa_star (pe_callC C_irows (hr.mono (by omega)) rfl (pa_cons (pe_fld (pv 0) rfl) pa_nil)) pa_nil)))))), ?_⟩
    cases r with
    | ifb t r o =>
      obtain ⟨fs, q, a, b, xs, ys, pq, e1, ht, e2, h2, hr2, e3, h3, ho⟩ := hp
      obtain ⟨dx, a', u, g1, g2, g3, g4, g5, g6, g7, g8, g9⟩ := id pq
      have dp : max (deepL r) (deepL o) + 1 ≤ d + 1 := dp
      have ei : (Rw1.ifb t r o).inner = .ifb t r o :: (innerL r ++ innerL o) := rfl
      rw [ei, List.length_cons, List.length_append] at sz
      refine ⟨_, rfl, _, rfl, p, _, dx, fs, _, rfl, g1, Hc.ifb.ins.cl, Hc.ifb.no "rows" (by simp [fnames]), e2, ?_⟩
      refine ⟨a, xs, r, rfl, .inr h2, hr2, by omega, by omega, fun l1 H1 ws1 s1 n1 h1 hw1 => ?_⟩
      refine ⟨l1, ws1, rfl, .inr (SqL.of h1), ?_⟩
      refine ⟨_, rfl, p, _, dx, fs, _, rfl, s1 _ _ g1, Hc.ifb.ins.cl, Hc.ifb.no "others" (by simp [fnames]), e3, ?_⟩
      refine ⟨b, ys, o, rfl, .inr (sqT_tk (TK.same s1) h3), ho.tk (TK.same s1), by omega, by omega, fun l2 H2 ws2 s2 n2 h2' hw2 => ?_⟩
      refine ⟨l2, ws2, rfl, .inr (SqL.of h2'), ?_⟩
      have l1' := hw1.len
      have l2' := hw2.len
      refine ⟨szl ?_, fun l3 n3 => ?_⟩
      · simp only [List.length_cons, List.length_append, List.length_nil]
        omega
      have s3 := sm_new (o := .lst (V.ref p :: (ws1 ++ (ws2 ++ [])))) n3
      have s03 := s1.trans (s2.trans s3)
      refine k l3 _ _ s03 (s1.free (s2.free n3)) upd_same ?_
      rw [ei]
      generalize upd H2 l3 (.lst (V.ref p :: (ws1 ++ (ws2 ++ [])))) = H3 at s3 s03 ⊢
      rw [List.append_nil]
      exact ⟨⟨p, rfl, RowAt.tk (TK.same s03) (r := .ifb t r o) ⟨fs, q, a, b, xs, ys, pq, e1, ht, e2, h2, hr2, e3, h3, ho⟩⟩, (hw1.tk (TK.same (s2.trans s3))).app (hw2.tk (TK.same s3))⟩
    | _ => exact absurd (Ri.so_eq (Hc.r _) (ec ▸ Hc.ifb)) (by simp only [Rw1.sort]; decide +kernel)
theorem ok_untlinner {f : Addr} {fd : FuncData} {c : Clz} {d : Nat} (F : Fun K "inner" "Until.inner" S_Until_inner f fd) (T : Txt K mg) (Hc : Hi K mg c) (C_irows : FnC P w K mg base CX0 (2 * d + 2) "inner_rows" ["rows"] (sp_irows K c d)) : FnOk P w K mg base CX0 (2 * (d + 1) + 1) f fd ["self"] (sp_inner K c (d + 1) c.untl) := by
  refine F.ok SC_Until_inner (fun vs H Q E h => ?_) (fun cdv A outer s H vs Q E hr h => ?_)
  · obtain ⟨p, r, rfl, _⟩ := h
    rfl
  · obtain ⟨p, r, rfl, hp, ec, dp, sz, k⟩ := h
    refine ⟨_, (pss_one (ps_ret (pe_lst (pa_cons (pv 0) (StX.pa_star (pe_callC C_irows (hr.mono (by omega)) rfl (pa_cons (pe_fld (pv 0) rfl) pa_nil)) pa_nil))))), ?_⟩
    cases r with
    | untl g r =>
      obtain ⟨fs, a, xs, pq, e1, e2, h2, hr2⟩ := hp
      obtain ⟨dx, a', u, g1, g2, g3, g4, g5, g6, g7, g8, g9⟩ := id pq
      have dp : deepL r + 1 ≤ d + 1 := dp
      have ei : (Rw1.untl g r).inner = .untl g r :: innerL r := rfl
      rw [ei, List.length_cons] at sz
      refine ⟨_, rfl, _, rfl, p, _, dx, fs, _, rfl, g1, Hc.untl.ins.cl, Hc.untl.no "rows" (by simp [fnames]), e2, ?_⟩
      refine ⟨a, xs, r, rfl, .inr h2, hr2, by omega, by omega, fun l1 H1 ws1 s1 n1 h1 hw1 => ?_⟩
      refine ⟨l1, ws1, rfl, .inr (SqL.of h1), ?_⟩
      have l1' := hw1.len
      refine ⟨szl ?_, fun l3 n3 => ?_⟩
      · simp only [List.length_cons, List.length_append, List.length_nil]
        omega
      have s3 := sm_new (o := .lst (V.ref p :: (ws1 ++ []))) n3
      have s03 := s1.trans s3
      refine k l3 _ _ s03 (s1.free n3) upd_same ?_
      rw [ei]
      generalize upd H1 l3 (.lst (V.ref p :: (ws1 ++ []))) = H3 at s3 s03 ⊢
      rw [List.append_nil]
      exact ⟨⟨p, rfl, RowAt.tk (TK.same s03) (r := .untl g r) ⟨fs, a, xs, pq, e1, e2, h2, hr2⟩⟩, hw1.tk (TK.same s3)⟩
    | _ => exact absurd (Ri.so_eq (Hc.r _) (ec ▸ Hc.untl)) (by simp only [Rw1.sort]; decide +kernel)
end
namespace Pg
def Rw1.plain : Rw1 → Bool
  | .ifb _ _ _ => false
  | .untl _ _ => false
  | _ => true
theorem plain_inner {r u : Rw1} (h : r.sort = u.sort) (hp : u.plain = true) : r.inner = [r] := by
  cases r <;> first | (cases u <;> first | (cases hp; done) | exact absurd h (by simp only [Rw1.sort]; decide +kernel)) | rfl
end Pg
section
variable {P : Program} {w : World} {K : PySem.W.Frag} {mg : Str → Option Value} {base : Heap}
/-- `inner` of rows of any depth -/
theorem inner_all {fR fI fU fW : Addr} {dR dI dU dW : FuncData} {c : Clz} (T : Txt K mg) (Hc : Hi K mg c) (FR : Fun K "inner" "Row.inner" S_Row_inner fR dR) (FI : Fun K "inner" "If.inner" S_If_inner fI dI) (FU : Fun K "inner" "Until.inner" S_Until_inner fU dU) (FW : Fun K "inner_rows" "inner_rows" S_inner_rows fW dW)
    (pkR : ∀ u : Rw1, u.plain = true → ∀ {k : Nat} {sp : Sp}, FnOk P w K mg base CX0 k fR dR ["self"] sp → MtC P w K mg base CX0 k (u.cls c) "inner" ["self"] sp) (pkI : ∀ {k : Nat} {sp : Sp}, FnOk P w K mg base CX0 k fI dI ["self"] sp → MtC P w K mg base CX0 k c.ifb "inner" ["self"] sp) (pkU : ∀ {k : Nat} {sp : Sp}, FnOk P w K mg base CX0 k fU dU ["self"] sp → MtC P w K mg base CX0 k c.untl "inner" ["self"] sp)
    (pkW : ∀ {k : Nat} {sp : Sp}, FnOk P w K mg base CX0 k fW dW ["rows"] sp → FnC P w K mg base CX0 k "inner_rows" ["rows"] sp) : ∀ (d : Nat) (u : Rw1), MtC P w K mg base CX0 (2 * d + 1) (u.cls c) "inner" ["self"] (sp_inner K c d (u.cls c)) := by
  have pl : ∀ (d : Nat) (u : Rw1), u.plain = true → MtC P w K mg base CX0 (2 * d + 1) (u.cls c) "inner" ["self"] (sp_inner K c d (u.cls c)) := fun d u hu => by
    refine pkR u hu (((ok_rowinner (c := c) FR T).mono (by omega)).imp fun vs H Q E h => ?_)
    obtain ⟨p, r, rfl, hp, ec, dp, sz, k⟩ := h
    have ei := plain_inner (Ri.so_eq (Hc.r r) (ec ▸ Hc.r u)) hu
    exact ⟨p, r, rfl, hp, ei, fun l H' s n h => k l H' _ s n h (by rw [ei]; exact ⟨⟨p, rfl, hp.tk (TK.same s)⟩, trivial⟩)⟩
  intro d
  induction d with
  | zero =>
    intro u
    by_cases hu : u.plain = true
    · exact pl 0 u hu
    · have dead : ∀ {C : Addr} (so : Str), (∀ r : Rw1, r.sort = so → r.deep ≤ 0 → False) → Ri K c C so true → ∀ vs H Q E, sp_inner K c 0 C vs H Q E → False := fun so hd ri vs H Q E h => by
        obtain ⟨p, r, rfl, hp, ec, dp, sz, k⟩ := h
        exact hd r (Ri.so_eq (Hc.r r) (ec ▸ ri)) dp
      cases u with
      | ifb t a b => exact pkI (fn_false.imp (dead "if" (fun r h hd => by cases r <;> first | (exact absurd h (by simp only [Rw1.sort]; decide +kernel)) | (simp [Rw1.deep] at hd)) Hc.ifb))
      | untl g a => exact pkU (fn_false.imp (dead "until" (fun r h hd => by cases r <;> first | (exact absurd h (by simp only [Rw1.sort]; decide +kernel)) | (simp [Rw1.deep] at hd)) Hc.untl))
      | _ => exact absurd rfl hu
  | succ d ih =>
    intro u
    by_cases hu : u.plain = true
    · exact pl (d + 1) u hu
    · have CW := pkW (ok_irows FW T Hc ih)
      cases u with
      | ifb t a b => exact pkI (ok_ifinner FI T Hc CW)
      | untl g a => exact pkU (ok_untlinner FU T Hc CW)
      | _ => exact absurd rfl hu
end

/-! ## rows that lay -/
namespace Pg
def sp_lays (K : PySem.W.Frag) (c : Clz) (d : Nat) (C : Addr) : Sp := fun vs H Q _ => ∃ (p : Addr) (r : Rw1), vs = [.ref p] ∧ RowAt K c H p r ∧ r.cls c = C ∧ r.deep ≤ d ∧ r.inner.length ≤ 1000000 ∧ ∀ H', Same H H' → Q (.bl r.lays) H'
def sp_haslay (K : PySem.W.Frag) (c : Clz) (d : Nat) : Sp := fun vs H Q _ => ∃ (p : Addr) (xs : List V) (rs : List Rw1), vs = [.ref p] ∧ SqA K H p xs ∧ RowsAt K c H xs rs ∧ deepL rs ≤ d ∧ (innerL rs).length ≤ 1000000 ∧ ∀ H', Same H H' → Q (.bl (laysL rs)) H'
def sp_hasmake (K : PySem.W.Frag) (c : Clz) (d : Nat) : Sp := fun vs H Q _ => ∃ (p : Addr) (xs : List V) (rs : List Rw1), vs = [.ref p] ∧ SqA K H p xs ∧ RowsAt K c H xs rs ∧ deepL rs ≤ d ∧ (innerL rs).length ≤ 1000000 ∧ ∀ H', Same H H' → Q (.bl (hasMake rs)) H'
/-- one and the same answer -/
def sp_flat (b : Bool) : Sp := fun vs H Q _ => ∃ (p : Addr), vs = [.ref p] ∧ Q (.bl b) H
theorem lcR_seqB {K : PySem.W.Frag} {p : Addr} {xs : List V} {g : TG} {te : TE} {vs : List Nat} {σ : L2.St} {i : Nat} {H H0 : Hp} {Q : VK} (hσ : σ[i]? = some (some (.ref p))) (h : SqA K H0 p xs) (k0 : ∀ o, H0 p = some o → H p = some o) (M : Addr → Nat → Hp → Prop) (h0 : ∀ D, H D = none → M D 0 (upd H D (.lst [])))
    (hk : ∀ D i H', H D = none → M D i H' → ∀ o, H0 p = some o → H' p = some o) (hm : ∀ x σ H Q Q', (∀ σ2 H2, Q σ2 H2 → Q' σ2 H2) → g x σ H Q → g x σ H Q')
    (hs : ∀ D i x H', H D = none → xs[i]? = some x → M D i H' → g x (wipe σ vs) H' fun σ2 H2 => wipe σ2 vs = wipe σ vs ∧ te σ2 H2 fun y H4 => ∃ acc, H4 D = some (.lst acc) ∧ acc.length < sizeLine ∧ M D (i + 1) (upd H4 D (.lst (acc ++ [y]))))
    (hd : ∀ D H', H D = none → M D xs.length H' → Q (.ref D) H') : tLc (iSeq K (tVar i)) g tYes te vs σ H Q := by
  refine ⟨_, hσ, p, rfl, ?_⟩
  rcases h with h | h
  · exact .inl ⟨⟨_, sqL_at k0 h⟩, fun D hD => lcR_list (M D) (h0 D hD) (fun i H' _ m => sqL_at (hk D i H' hD m) h) (fun i x H' hx m => hs D i x H' hD hx m) hm fun H' m => hd D H' hD m⟩
  · exact .inr ⟨⟨_, sqT_at k0 h⟩, fun D hD => lcR_tupC (M D) (h0 D hD) (fun i H' _ m => sqT_at (hk D i H' hD m) h) (fun i x H' hx m => hs D i x H' hD hx m) hm fun H' m => hd D H' hD m⟩
theorem laysL_any : ∀ rs : List Rw1, laysL rs = (rs.map Rw1.lays).any id
  | [] => rfl
  | r :: rs => by
    show (r.lays || laysL rs) = _
    rw [laysL_any rs]; rfl
theorem call_isiK {X : Cx} {K : PySem.W.Frag} (h : X.K = K) : CallR X (.builtin "isinstance") (rIsi K) := h ▸ call_isi
theorem cls_make {K : PySem.W.Frag} {mg : Str → Option Value} {c : Clz} (Hc : Hi K mg c) (r : Rw1) : decide (r.cls c = c.make) = r.isMake := by
  have no : r.sort ≠ "make" → decide (r.cls c = c.make) = false := fun h => decide_eq_false fun e => h (Ri.so_eq (Hc.r r) (e ▸ Hc.make))
  cases r with
  | make m => exact decide_eq_true rfl
  | _ => exact no (by simp only [Rw1.sort]; decide +kernel)
theorem len_inner : ∀ r : Rw1, 1 ≤ r.inner.length := fun r => by cases r <;> simp [Rw1.inner]
theorem len_innerL : ∀ rs : List Rw1, rs.length ≤ (innerL rs).length
  | [] => Nat.le_refl _
  | r :: rs => by
    have e := len_innerL rs
    have e1 := len_inner r
    show rs.length + 1 ≤ (r.inner ++ innerL rs).length
    rw [List.length_append]
    omega
end Pg
open Pg
section
variable {P : Program} {w : World} {K : PySem.W.Frag} {mg : Str → Option Value} {base : Heap}
theorem ok_rowlays {f : Addr} {fd : FuncData} (F : Fun K "is_laying" "Row.is_laying" S_Row_is_laying f fd) (T : Txt K mg) : FnOk P w K mg base CX0 1 f fd ["self"] (sp_flat false) := by
  refine F.ok SC_Row_is_laying (fun vs H Q E h => ?_) (fun cdv A outer s H vs Q E hr h => ?_)
  · obtain ⟨p, rfl, _⟩ := h
    rfl
  · obtain ⟨p, rfl, k⟩ := h
    exact ⟨_, (pss_one (ps_ret pe_bl)), k⟩
theorem ok_laylays {f : Addr} {fd : FuncData} (F : Fun K "is_laying" "Lay.is_laying" S_Lay_is_laying f fd) (T : Txt K mg) : FnOk P w K mg base CX0 1 f fd ["self"] (sp_flat true) := by
  refine F.ok SC_Lay_is_laying (fun vs H Q E h => ?_) (fun cdv A outer s H vs Q E hr h => ?_)
  · obtain ⟨p, rfl, _⟩ := h
    rfl
  · obtain ⟨p, rfl, k⟩ := h
    exact ⟨_, (pss_one (ps_ret pe_bl)), k⟩
theorem ok_stoplays {f : Addr} {fd : FuncData} (F : Fun K "is_laying" "Stop.is_laying" S_Stop_is_laying f fd) (T : Txt K mg) : FnOk P w K mg base CX0 1 f fd ["self"] (sp_flat true) := by
  refine F.ok SC_Stop_is_laying (fun vs H Q E h => ?_) (fun cdv A outer s H vs Q E hr h => ?_)
  · obtain ⟨p, rfl, _⟩ := h
    rfl
  · obtain ⟨p, rfl, k⟩ := h
    exact ⟨_, (pss_one (ps_ret pe_bl)), k⟩
theorem ok_untllays {f : Addr} {fd : FuncData} {c : Clz} {d : Nat} (F : Fun K "is_laying" "Until.is_laying" S_Until_is_laying f fd) (T : Txt K mg) (Hc : Hi K mg c) : FnOk P w K mg base CX0 1 f fd ["self"] (sp_lays K c d c.untl) := by
  refine F.ok SC_Until_is_laying (fun vs H Q E h => ?_) (fun cdv A outer s H vs Q E hr h => ?_)
  · obtain ⟨p, r, rfl, _⟩ := h
    rfl
  · obtain ⟨p, r, rfl, hp, ec, dp, sz, k⟩ := h
    refine ⟨_, (pss_one (ps_ret (pe_cmpR op_eq (pe_fld (pv 0) rfl) pe_str (nomark _)))), ?_⟩
    cases r with
    | untl g r =>
      obtain ⟨fs, a, xs, pq, e1, e2, h2, hr2⟩ := hp
      obtain ⟨dx, a', u, g1, g2, g3, g4, g5, g6, g7, g8, g9⟩ := id pq
      refine ⟨_, rfl, p, _, dx, fs, _, rfl, g1, Hc.untl.ins.cl, Hc.untl.no "goal" (by simp [fnames]), e1, ?_⟩
      refine ⟨rfl, ?_⟩
      have := k H (Same.refl H)
      rwa [show (Rw1.untl g r).lays = decide (V.str g = V.str ("alike" : Str)) from decide_eq_decide.mpr ⟨fun e => by rw [e], fun e => by injection e⟩] at this
    | _ => exact absurd (Ri.so_eq (Hc.r _) (ec ▸ Hc.untl)) (by simp only [Rw1.sort]; decide +kernel)
theorem ok_iflays {f : Addr} {fd : FuncData} {c : Clz} {d : Nat} (F : Fun K "is_laying" "If.is_laying" S_If_is_laying f fd) (T : Txt K mg) (Hc : Hi K mg c) (C_hasl : FnC P w K mg base CX0 (2 * d + 2) "has_laying" ["rows"] (sp_haslay K c d)) : FnOk P w K mg base CX0 (2 * (d + 1) + 1) f fd ["self"] (sp_lays K c (d + 1) c.ifb) := by
  refine F.ok SC_If_is_laying (fun vs H Q E h => ?_) (fun cdv A outer s H vs Q E hr h => ?_)
  · obtain ⟨p, r, rfl, _⟩ := h
    rfl
  · obtain ⟨p, r, rfl, hp, ec, dp, sz, k⟩ := h
    refine ⟨_, (pss_one (ps_ret (pe_and (pe_callC C_hasl (hr.mono (by omega)) rfl (pa_cons (pe_fld (pv 0) rfl) pa_nil)) (pe_one (pe_callC C_hasl (hr.mono (by omega)) rfl (pa_cons (pe_fld (pv 0) rfl) pa_nil)))))), ?_⟩
    cases r with
    | ifb t r o =>
      obtain ⟨fs, q, a, b, xs, ys, pq, e1, ht, e2, h2, hr2, e3, h3, ho⟩ := hp
      obtain ⟨dx, a', u, g1, g2, g3, g4, g5, g6, g7, g8, g9⟩ := id pq
      have dp : max (deepL r) (deepL o) + 1 ≤ d + 1 := dp
      have ei : (Rw1.ifb t r o).inner = .ifb t r o :: (innerL r ++ innerL o) := rfl
      rw [ei, List.length_cons, List.length_append] at sz
      refine ⟨_, rfl, p, _, dx, fs, _, rfl, g1, Hc.ifb.ins.cl, Hc.ifb.no "rows" (by simp [fnames]), e2, ?_⟩
      refine ⟨a, xs, r, rfl, .inr h2, hr2, by omega, by omega, fun H1 s1 => ⟨_, rfl, ?_⟩⟩
      have k : ∀ H', Same H H' → Q (.bl (laysL r && laysL o)) H' := k
      by_cases c1 : laysL r = true
      · rw [c1] at k ⊢
        rw [if_pos rfl]
        refine ⟨_, rfl, p, _, dx, fs, _, rfl, s1 _ _ g1, Hc.ifb.ins.cl, Hc.ifb.no "others" (by simp [fnames]), e3, ?_⟩
        exact ⟨b, ys, o, rfl, .inr (sqT_tk (TK.same s1) h3), ho.tk (TK.same s1), by omega, by omega, fun H2 s2 => k H2 (s1.trans s2)⟩
      · rw [Bool.not_eq_true] at c1
        rw [c1] at k ⊢
        rw [if_neg (by decide)]
        exact k H1 s1
    | _ => exact absurd (Ri.so_eq (Hc.r _) (ec ▸ Hc.ifb)) (by simp only [Rw1.sort]; decide +kernel)
theorem ok_haslay {f : Addr} {fd : FuncData} {c : Clz} {d : Nat} (F : Fun K "has_laying" "has_laying" S_has_laying f fd) (T : Txt K mg) (Hc : Hi K mg c) (M_lays : ∀ u : Rw1, MtC P w K mg base CX0 (2 * d + 1) (u.cls c) "is_laying" ["self"] (sp_lays K c d (u.cls c))) : FnOk P w K mg base CX0 (2 * d + 2) f fd ["rows"] (sp_haslay K c d) := by
  refine F.ok SC_has_laying (fun vs H Q E h => ?_) (fun cdv A outer s H vs Q E hr h => ?_)
  · obtain ⟨p, xs, rs, rfl, _⟩ := h
    rfl
  · obtain ⟨p, xs, rs, rfl, hs, hrs, dp, sz, k⟩ := h
    refine ⟨_, (pss_one (ps_ret (pe_callB (cr_any rfl) (by rfl) T.b_any (by decide +kernel) (pa_cons (pe_lc (own := [("row", 1)]) (g := gName 1) (by rfl) SC_has_laying.nd (pi_seq (pv 0)) (blkOk_by (own := [("row", 1)]) (N := N_has_laying) (sc := defScope S_has_laying) (by decide +kernel)) (fun _ _ _ _ _ => pg_name (i := 1) SC_has_laying.nd rfl (Or.inl rfl)) (fun _ _ _ _ _ => pts_nil) (fun _ _ _ _ _ => (pe_ex (fun (u : Rw1) (_ : True) => pe_mth0 (M_lays u) (Hc.r u).ins.cl (hr.mono (by omega)) (pv 1))))) pa_nil)))), ?_⟩
    dsimp only [tRet, tCB, tCons]
    refine lcR_seqB (p := p) (xs := xs) (H0 := H) rfl hs (fun o e => e) (fun D i H' => (∀ b o, b ≠ D → H b = some o → H' b = some o) ∧ H' D = some (.lst (((rs.take i).map Rw1.lays).map V.bl))) (fun D hD => ⟨fun b o n e => by rw [upd_ne n]; exact e, upd_same⟩) (fun D i H' hD m o e => m.1 _ _ (ne_of_none e hD) e) (gName_mono _) (fun D i x H1 hD hi m => ?_) (fun D H1 hD m => ?_)
    · obtain ⟨kp, hH⟩ := m
      obtain ⟨q, r, rfl, hr', hq⟩ := hrs.at hi
      have s2 : Same H H1 := fun b o e => kp b o (ne_of_none e hD) e
      have hq2 := hq.tk (TK.same s2)
      obtain ⟨fs, dx, a, u, g1, g2, g3, g4, g5, g6, g7, g8, g9⟩ := hq2.part
      have e1 := innerL_take hr'
      have e2 := innerL_le (rs := rs) (i + 1)
      have e3 := len_innerL rs
      have e4 := (List.getElem?_eq_some_iff.mp hr').1
      rw [e1, List.length_append] at e2
      refine ⟨rfl, r, trivial, _, rfl, q, dx, fs, rfl, g1, g9, ?_⟩
      refine ⟨q, r, rfl, hq2, rfl, Nat.le_trans (deepL_mem (List.mem_of_getElem? hr')) dp, by omega, fun H3 s3 => ⟨_, s3 _ _ hH, ?_, fun b o n e => by rw [upd_ne n]; exact s3 _ _ (kp b o n e), ?_⟩⟩
      · rw [List.length_map, List.length_map, List.length_take]
        exact szs (by omega)
      · rw [upd_same, List.take_succ, hr', List.map_append, List.map_append]; rfl
    · obtain ⟨kp, hH⟩ := m
      rw [hrs.len, List.take_length] at hH
      refine ⟨_, _, rfl, SqL.of hH, ?_⟩
      rw [laysL_any] at k
      exact k H1 fun b o e => kp b o (ne_of_none e hD) e
theorem ok_hasmake {f : Addr} {fd : FuncData} {c : Clz} {d : Nat} (F : Fun K "has_make" "has_make" S_has_make f fd) (T : Txt K mg) (Hc : Hi K mg c) (C_irows : FnC P w K mg base CX0 (2 * d + 2) "inner_rows" ["rows"] (sp_irows K c d)) : FnOk P w K mg base CX0 (2 * d + 3) f fd ["rows"] (sp_hasmake K c d) := by
  refine F.ok SC_has_make (fun vs H Q E h => ?_) (fun cdv A outer s H vs Q E hr h => ?_)
  · obtain ⟨p, xs, rs, rfl, _⟩ := h
    rfl
  · obtain ⟨p, xs, rs, rfl, hs, hrs, dp, sz, k⟩ := h
    refine ⟨_, (pss_one (ps_ret (pe_callB (cr_any rfl) (by rfl) T.b_any (by decide +kernel) (pa_cons (pe_lc (own := [("row", 1)]) (g := gName 1) (by rfl) SC_has_make.nd (pi_list (pe_callC C_irows (hr.mono (by omega)) rfl (pa_cons (pv 0) pa_nil))) (blkOk_by (own := [("row", 1)]) (N := N_has_make) (sc := defScope S_has_make) (by decide +kernel)) (fun _ _ _ _ _ => pg_name (i := 1) SC_has_make.nd rfl (Or.inl rfl)) (fun _ _ _ _ _ => pts_nil) (fun _ _ _ _ _ => (pe_callB (call_isiK (K := K) rfl) (by rfl) T.b_isinstance (by decide +kernel) (pa_cons (pv 1) (pa_cons (pe_glob (v := .ref c.make) (by rfl) Hc.mgMake rfl) pa_nil))))) pa_nil)))), ?_⟩
    refine ⟨_, rfl, p, xs, rs, rfl, hs, hrs, dp, sz, fun l H1 ws s1 n1 h1 hw => ?_⟩
    have ew := hw.len
    refine ⟨l, rfl, ⟨_, SqL.of h1⟩, fun D hD => ?_⟩
    refine lcR_list (xs := ws) (fun i H' => (∀ b o, b ≠ D → H1 b = some o → H' b = some o) ∧ H' D = some (.lst ((((innerL rs).take i).map Rw1.isMake).map V.bl))) ⟨fun b o n e => by rw [upd_ne n]; exact e, upd_same⟩ (fun i H' _ m => SqL.of (m.1 _ _ (ne_of_none h1 hD) h1)) (fun i x H2 hi m => ?_) (gName_mono _) (fun H2 m => ?_)
    · obtain ⟨kp, hH⟩ := m
      obtain ⟨q, r, rfl, hr', hq⟩ := hw.at hi
      have s2 : Same H1 H2 := fun b o e => kp b o (ne_of_none e hD) e
      obtain ⟨fs, dx, a, u, g1, g2, g3, g4, g5, g6, g7, g8, g9⟩ := (hq.tk (TK.same s2)).part
      have e4 := (List.getElem?_eq_some_iff.mp hr').1
      refine ⟨rfl, _, rfl, .ref q, _, _, _, _, rfl, .own _, .base (.ins g1 (Hc.r r).ins.cl (Hc.r r).ins.ha (Hc.r r).ins.hn (Hc.r r).ins.htk (Hc.r r).ins.hm), (Hc.r r).km, _, hH, ?_, fun b o n e => by rw [upd_ne n]; exact kp b o n e, ?_⟩
      · rw [List.length_map, List.length_map, List.length_take]
        exact szs (by omega)
      · rw [upd_same, List.take_succ, hr', List.map_append, List.map_append]
        rw [show decide (r.cls c = c.make) = r.isMake from cls_make Hc r]
        rfl
    · obtain ⟨kp, hH⟩ := m
      rw [ew, List.take_length] at hH
      refine ⟨_, _, rfl, SqL.of hH, ?_⟩
      have e : hasMake rs = ((innerL rs).map Rw1.isMake).any id := by
        unfold hasMake
        rw [List.any_map]; rfl
      rw [e] at k
      exact k H2 (s1.trans fun b o e => kp b o (ne_of_none e hD) e)
end
section
variable {P : Program} {w : World} {K : PySem.W.Frag} {mg : Str → Option Value} {base : Heap}
/-- `is_laying` of rows of any depth -/
theorem lays_all {fR fL fS fI fU fW : Addr} {dR dL' dS dI dU dW : FuncData} {c : Clz} (T : Txt K mg) (Hc : Hi K mg c) (FR : Fun K "is_laying" "Row.is_laying" S_Row_is_laying fR dR) (FL : Fun K "is_laying" "Lay.is_laying" S_Lay_is_laying fL dL') (FS : Fun K "is_laying" "Stop.is_laying" S_Stop_is_laying fS dS)
    (FI : Fun K "is_laying" "If.is_laying" S_If_is_laying fI dI) (FU : Fun K "is_laying" "Until.is_laying" S_Until_is_laying fU dU) (FW : Fun K "has_laying" "has_laying" S_has_laying fW dW)
    (pkR : ∀ u : Rw1, u.plain = true → u.lays = false → ∀ {k : Nat} {sp : Sp}, FnOk P w K mg base CX0 k fR dR ["self"] sp → MtC P w K mg base CX0 k (u.cls c) "is_laying" ["self"] sp) (pkL : ∀ {k : Nat} {sp : Sp}, FnOk P w K mg base CX0 k fL dL' ["self"] sp → MtC P w K mg base CX0 k c.lay "is_laying" ["self"] sp)
    (pkS : ∀ {k : Nat} {sp : Sp}, FnOk P w K mg base CX0 k fS dS ["self"] sp → MtC P w K mg base CX0 k c.stop "is_laying" ["self"] sp) (pkI : ∀ {k : Nat} {sp : Sp}, FnOk P w K mg base CX0 k fI dI ["self"] sp → MtC P w K mg base CX0 k c.ifb "is_laying" ["self"] sp)
    (pkU : ∀ {k : Nat} {sp : Sp}, FnOk P w K mg base CX0 k fU dU ["self"] sp → MtC P w K mg base CX0 k c.untl "is_laying" ["self"] sp) (pkW : ∀ {k : Nat} {sp : Sp}, FnOk P w K mg base CX0 k fW dW ["rows"] sp → FnC P w K mg base CX0 k "has_laying" ["rows"] sp) : ∀ (d : Nat) (u : Rw1), MtC P w K mg base CX0 (2 * d + 1) (u.cls c) "is_laying" ["self"] (sp_lays K c d (u.cls c)) := by
  have flat : ∀ (d : Nat) {C : Addr} {so : Str} (b : Bool), Ri K c C so true → (∀ r : Rw1, r.sort = so → r.lays = b) → ∀ vs H Q E, sp_lays K c d C vs H Q E → sp_flat b vs H Q E := fun d C so b ri hb vs H Q E h => by
    obtain ⟨p, r, rfl, hp, ec, dp, sz, k⟩ := h
    have e := hb r (Ri.so_eq (Hc.r r) (ec ▸ ri))
    rw [e] at k
    exact ⟨p, rfl, k H (Same.refl H)⟩
  have go : ∀ (d : Nat) (u : Rw1), u.plain = true → MtC P w K mg base CX0 (2 * d + 1) (u.cls c) "is_laying" ["self"] (sp_lays K c d (u.cls c)) := fun d u hu => by
    have row : u.lays = false → (∀ r : Rw1, r.sort = u.sort → r.lays = false) → MtC P w K mg base CX0 (2 * d + 1) (u.cls c) "is_laying" ["self"] (sp_lays K c d (u.cls c)) := fun h1 h2 => pkR u hu h1 (((ok_rowlays FR T).mono (by omega)).imp (flat d false (Hc.r u) h2))
    cases u with
    | lay => exact pkL (((ok_laylays FL T).mono (by omega)).imp (flat d true Hc.lay fun r h => by cases r <;> first | rfl | exact absurd h (by simp only [Rw1.sort]; decide +kernel)))
    | stop => exact pkS (((ok_stoplays FS T).mono (by omega)).imp (flat d true Hc.stop fun r h => by cases r <;> first | rfl | exact absurd h (by simp only [Rw1.sort]; decide +kernel)))
    | ifb _ _ _ => cases hu
    | untl _ _ => cases hu
    | _ => exact row rfl fun r h => by cases r <;> first | rfl | exact absurd h (by simp only [Rw1.sort]; decide +kernel)
  have un : ∀ d : Nat, MtC P w K mg base CX0 (2 * d + 1) c.untl "is_laying" ["self"] (sp_lays K c d c.untl) := fun d => pkU ((ok_untllays FU T Hc).mono (by omega))
  intro d
  induction d with
  | zero =>
    intro u
    by_cases hu : u.plain = true
    · exact go 0 u hu
    · cases u with
      | ifb t a b => exact pkI (fn_false.imp fun vs H Q E h => by
          obtain ⟨p, r, rfl, hp, ec, dp, sz, k⟩ := h
          have ec : r.cls c = c.ifb := ec
          have h := Ri.so_eq (Hc.r r) (ec ▸ Hc.ifb)
          cases r <;> first | (exact absurd h (by simp only [Rw1.sort]; decide +kernel)) | (simp [Rw1.deep] at dp))
      | untl g a => exact un 0
      | _ => exact absurd rfl hu
  | succ d ih =>
    intro u
    by_cases hu : u.plain = true
    · exact go (d + 1) u hu
    · have CW := pkW (ok_haslay FW T Hc ih)
      cases u with
      | ifb t a b => exact pkI (ok_iflays FI T Hc CW)
      | untl g a => exact un (d + 1)
      | _ => exact absurd rfl hu
end

/-! ## if and until -/
namespace Pg
/-- refused, while an object is being made -/
def RefX (E : XK) (IR x : Addr) (H : Hp) (z : Str) : Prop := ∀ (dd : Addr) (H' : Hp), (∀ b o, b ≠ x → H b = some o → H' b = some o) → H' dd = none → E (.ref IR) (some dd) (upd H' dd (.xd [("part", .str z)]))
/-- a list, a tuple, a tuple of the module -/
def SqV (K : PySem.W.Frag) (H : Hp) (a : Addr) (xs : List V) : Prop := H a = some (.lst xs) ∨ H a = some (.tup xs) ∨ (∃ (o : Obj) (its : Array Value) (n : Nat), K.lookup a = some o ∧ o.cls = .type "tuple" ∧ o.data = .seq its n ∧ its.size ≤ sizeLine ∧ Vals xs its.toList) ∨ ∃ o, H a = some (.frz o (.tup xs))
section
variable {K : PySem.W.Frag} {mg : Str → Option Value} {c : Clz} {C x dx a : Addr} {H H' : Hp} {xs : List V} {r : List Rw1}
theorem sqT_kp {fs : List (Str × V)} {q : Addr} (hx : H x = some (.ins C dx fs)) (kp : ∀ b o, b ≠ x → H b = some o → H' b = some o) (h : SqT K H q xs) : SqT K H' q xs := h.elim (fun q' => .inl (q'.elim (fun q' => .inl (kp _ _ (fun e => by rw [e, hx] at q'; cases q') q')) fun ⟨o, q'⟩ => .inr ⟨o, kp _ _ (fun e => by rw [e, hx] at q'; cases q') q'⟩)) .inr
theorem SqV.nx (hx : H x = some (.ins C dx [])) (kp : ∀ b o, b ≠ x → H b = some o → H' b = some o) (h : SqV K H a xs) : SqV K H' a xs := by
  rcases h with h | h | h | ⟨o, h⟩
  · exact .inl (kp _ _ (fun e => by rw [e, hx] at h; cases h) h)
  · exact .inr (.inl (kp _ _ (fun e => by rw [e, hx] at h; cases h) h))
  · exact .inr (.inr (.inl h))
  · exact .inr (.inr (.inr ⟨o, kp _ _ (fun e => by rw [e, hx] at h; cases h) h⟩))
theorem tyx_ins (i : C8.InsC K C) {p : Addr} {fs : List (Str × V)} (h : H p = some (.ins C dx fs)) : TyX K H (.ref p) (.ref C) := .base (.ins h i.cl i.ha i.hn i.htk i.hm)
theorem SqV.rows (Hc : Hi K mg c) (hr : RowsAt K c H xs r) (h : SqV K H a xs) : NRows K c H (.ref a) (some xs) := by
  have el : ∀ w ∈ xs, ∃ u, TyX K H w u ∧ PySem.W.kitOne K u (.ref c.row) = some true := fun w hw => by
    obtain ⟨i, hi⟩ := List.mem_iff_getElem?.mp hw
    obtain ⟨p, r', rfl, _, hp⟩ := hr.at hi
    obtain ⟨fs, dx, _, _, g1, _⟩ := hp.part
    exact ⟨_, tyx_ins (Hc.r r').ins g1, (Hc.r r').kr⟩
  rcases h with h | h | ⟨o, its, n, h1, h2, h3, h4, h5⟩ | ⟨o, h⟩
  · exact .good (.base (.lst h)) (by rfl) (.inl (SqL.of h)) el
  · exact .good (.base (.tup h)) (by rfl) (.inr (SqT.of h)) el
  · exact .good (.kTuple h1 h2) (by rfl) (.inr (.inr ⟨o, its, n, h1, h2, h3, h4, h5⟩)) el
  · exact .good (.fTuple h) (by rfl) (.inr (.inl (.inr ⟨o, h⟩))) el
end
def sp_if (K : PySem.W.Frag) (c : Clz) (IR : Addr) : Sp := fun vs H Q E => ∃ (x dx q a b : Addr) (u : Tst) (xs ys : List V) (r o : List Rw1), vs = [.ref x, .ref q, .ref a, .ref b] ∧ H x = some (.ins c.ifb dx []) ∧ TstAt K c H q u ∧ u.txt.length ≤ 1000 ∧ SqV K H a xs ∧ RowsAt K c H xs r ∧ SqV K H b ys ∧ RowsAt K c H ys o ∧
  sumL (Rw1.ifb u r o).lines ≤ 1000000 ∧ ∀ H', (∀ b o, b ≠ x → H b = some o → H' b = some o) → RowAt K c H' x (.ifb u r o) → Q .non H'
def sp_untl (K : PySem.W.Frag) (c : Clz) (IR : Addr) (d : Nat) : Sp := fun vs H Q E => ∃ (x dx a : Addr) (g : Str) (xs : List V) (r : List Rw1), vs = [.ref x, .str g, .ref a] ∧ H x = some (.ins c.untl dx []) ∧ inV (.str g) [.str "alike", .str "longer", .str "shorter"] = true ∧ SqV K H a xs ∧ RowsAt K c H xs r ∧ deepL r ≤ d ∧ (innerL r).length ≤ 1000000 ∧
  sumL (Rw1.untl g r).lines ≤ 1000000 ∧ (laysL r = true → hasMake r = false → ∀ H', (∀ b o, b ≠ x → H b = some o → H' b = some o) → RowAt K c H' x (.untl g r) → Q .non H') ∧ ((!laysL r || hasMake r) = true → RefX E IR x H "until")
/-- what stands behind: ['else', *lines] or [] -/
theorem seq_behind {K : PySem.W.Frag} {mg : Str → Option Value} {c : Clz} {H : Hp} {D : Ends} {σ : L2.St} {i j : Nat} {x dx t2 : Addr} {fs : List (Str × V)} {ys : List V} {o : List Rw1} {u : TS} (hi : σ[i]? = some (some (.ref x))) (Hc : Hi K mg c) (hx : H x = some (.ins c.ifb dx fs)) (hf : fs.lookup ("others" : Str) = some (.ref t2)) (ht : SqT K H t2 ys) (ho : RowsAt K c H ys o) (sz : (linesL o).length + 1 ≤ 1000000)
    (k : ∀ p7 H7, Same H H7 → SqL K H7 p7 ((elseL o (linesL o)).map V.str) → gName j (.ref p7) σ H7 (u D)) :
    tSeq (tAsg (tIf (tTest (tOp (rI0 fun i j => V.bl (decide (j < i))) (tCB (fun xs H Q => ∃ p ys, xs = [V.ref p] ∧ (SqL K H p ys ∨ SqT K H p ys) ∧ Q (V.int ys.length) H) (tCons (tFld K (tVar i) "others") tNil)) (tC (V.int 0)))) (tLst (tCons (tC (V.str ("else" : Str))) (StX.tStar K (tCall (sp_lines K c) [] E0 (tCons (tFld K (tVar i) "others") tNil)) tNil))) (tLstN tNil)) (gName j)) u D σ H := by
  refine ⟨_, hi, x, c.ifb, dx, fs, _, rfl, hx, Hc.ifb.ins.cl, Hc.ifb.no "others" (by simp [fnames]), hf, t2, ys, rfl, .inr ht, _, _, rfl, rfl, _, rfl, ?_⟩
  cases o with
  | nil =>
    have e : ys = [] := List.eq_nil_of_length_eq_zero (ho.len)
    subst e
    refine ifF rfl ?_
    exact ⟨Nat.zero_le _, fun p7 H7 _ s7 h7 => k p7 H7 s7 (SqL.of h7)⟩
  | cons r o =>
    have l := ho.len
    rw [List.length_cons] at l
    refine ifT (decide_eq_true (by omega)) ?_
    refine ⟨_, hi, x, c.ifb, dx, fs, _, rfl, hx, Hc.ifb.ins.cl, Hc.ifb.no "others" (by simp [fnames]), hf, t2, ys, _, rfl, .inr ht, ho, by omega, fun l1 H1 s1 n1 h1 => ?_⟩
    refine ⟨l1, _, rfl, .inr (SqL.of h1), ?_⟩
    refine ⟨szl ?_, fun p7 n7 => ?_⟩
    · simp only [List.length_cons, List.length_append, List.length_nil, List.length_map]
      omega
    · refine k p7 _ (s1.trans (sm_new n7)) (SqL.of ?_)
      rw [upd_same, List.append_nil]
      rfl
end Pg
open Pg
section
variable {P : Program} {w : World} {K : PySem.W.Frag} {mg : Str → Option Value} {base : Heap}
theorem ok_ifinit {f IR : Addr} {fd : FuncData} {c : Clz} {eT0 : Addr} (F : FunS P K mg "__init__" "If.__init__" S_If__init_ c.ifb [.ref eT0] f fd) (T : Txt K mg) (Hc : Hi K mg c) (Hs : Ht P w K mg base c) (C_ndtest : FnC P w K mg base (L2.CX P w) 4 "need_test" ["value"] (sp_ndtest K c IR)) (C_ndrows : FnC P w K mg base (L2.CX P w) 4 "need_rows" ["rows"] (sp_ndrows K c IR)) (C_lines : FnC P w K mg base CX0 2 "lines_of" ["rows"] (sp_lines K c))
    (M_pinit : SupC P w K mg base 2 c.ifb "__init__" ["self", "script", "used"] (sp_pinit K c) []) : FnOk P w K mg base (L2.CX P w) 6 f fd ["self", "test", "rows", "others"] (sp_if K c IR) := by
  refine F.ok SC_If__init_ (fun vs H Q E h => ?_) (fun cda cc fd' oc od osl A outer s H vs Q E hpar lk SK hr h => ?_)
  · obtain ⟨x, dx, q, a, b, u, xs, ys, r, o, rfl, _⟩ := h
    rfl
  · obtain ⟨x, dx, q, a, b, u, xs, ys, r, o, rfl, hx, hq, lu, na, hr1, nb, ho, sz, k⟩ := h
    refine ⟨_, (pat_cons (ps_expr (pe_callSC C_ndtest (hr.mono (by decide)) (takes_of rfl rfl rfl rfl) rfl (pa_cons (pv 1) pa_nil)))
      (pat_cons (ps_fld (pv 0) (pv 1) rfl)
      (pat_cons (ps_fld (pv 0) (pe_callSC C_ndrows (hr.mono (by omega)) (takes_of rfl rfl rfl rfl) rfl (pa_cons (pv 2) pa_nil)) rfl)
      (pat_cons (ps_fld (pv 0) (pe_callSC C_ndrows (hr.mono (by omega)) (takes_of rfl rfl rfl rfl) rfl (pa_cons (pv 3) pa_nil)) rfl)
      (pat_cons (ps_set (i := 5) SC_If__init_.nd rfl (.inl rfl) (pe_ifExp (pt_cmpR op_gt (pe_callB call_len_seq (by rfl) T.b_len (by decide +kernel) (pa_cons (pe_fld (pv 0) rfl) pa_nil)) pe_int (nomark _)) (pe_lst (pa_cons pe_str (StX.pa_star (pe_callC C_lines (hr.mono (by omega)) rfl (pa_cons (pe_fld (pv 0) rfl) pa_nil)) pa_nil))) (pe_lstN pa_nil)))
      (pat_superC M_pinit SK lk hpar (hr.mono (by decide)) (pa_cons (pe_lst (pa_cons (pe_joined (PJ.cons pe_str (PJ.cons (pe_ex (fun (u : Tst) (_ : True) => pe_fmtO (Hs.str u) (Hs.fm u) (hr.mono (by decide)) (pv 1))) PJ.nil))) (StX.pa_star (pe_callC C_lines (hr.mono (by omega)) rfl (pa_cons (pe_fld (pv 0) rfl) pa_nil)) (StX.pa_star (pv 5) (pa_cons pe_str pa_nil))))) (pa_cons (pe_fld (pv 1) rfl) pa_nil)) pss_nil)))))), ?_⟩
    obtain ⟨fq, pq⟩ := hq.part
    obtain ⟨dq, _, _, gq, _⟩ := id pq
    refine ⟨_, rfl, _, _, true, rfl, tyx_ins (Hc.t u).ins gq, (Hc.t u).kt, fun _ H1 s1 => ?_, fun e => nomatch e⟩
    refine ⟨_, rfl, _, rfl, x, c.ifb, dx, _, rfl, s1 _ _ hx, Hc.ifb.ins.cl, Hc.ifb.no "test" (by simp [fnames]), by show 0 < 1000; decide, ?_⟩
    have k2 : ∀ b o, b ≠ x → H b = some o → (upd H1 x (.ins c.ifb dx (putF ("test" : Str) (.ref q) []))) b = some o := fun b o n e => by rw [upd_ne n]; exact s1 _ _ e
    have hx2 : (upd H1 x (.ins c.ifb dx (putF ("test" : Str) (.ref q) []))) x = some (.ins c.ifb dx (putF ("test" : Str) (.ref q) [])) := upd_same
    generalize upd H1 x (.ins c.ifb dx (putF ("test" : Str) (.ref q) [])) = H2 at k2 hx2 ⊢
    refine ⟨_, rfl, _, some xs, rfl, SqV.rows Hc (RowsAt.nx hx k2 hr1) (na.nx hx k2), fun xs' e t1 H3 s3 ht1 => ?_, fun e => nomatch e⟩
    cases e
    refine ⟨_, rfl, x, c.ifb, dx, _, rfl, s3 _ _ hx2, Hc.ifb.ins.cl, Hc.ifb.no "rows" (by simp [fnames]), Nat.le_of_ble_eq_true rfl, ?_⟩
    have k4 : ∀ b o, b ≠ x → H b = some o → (upd H3 x (.ins c.ifb dx (putF ("rows" : Str) (.ref t1) (putF ("test" : Str) (.ref q) [])))) b = some o := fun b o n e => by rw [upd_ne n]; exact s3 _ _ (k2 b o n e)
    have hx4 : (upd H3 x (.ins c.ifb dx (putF ("rows" : Str) (.ref t1) (putF ("test" : Str) (.ref q) [])))) x = some (.ins c.ifb dx (putF ("rows" : Str) (.ref t1) (putF ("test" : Str) (.ref q) []))) := upd_same
    have ht4 : SqT K (upd H3 x (.ins c.ifb dx (putF ("rows" : Str) (.ref t1) (putF ("test" : Str) (.ref q) [])))) t1 xs := sqT_ins (s3 _ _ hx2) ht1
    generalize upd H3 x (.ins c.ifb dx (putF ("rows" : Str) (.ref t1) (putF ("test" : Str) (.ref q) []))) = H4 at k4 hx4 ht4 ⊢
    refine ⟨_, rfl, _, some ys, rfl, SqV.rows Hc (RowsAt.nx hx k4 ho) (nb.nx hx k4), fun ys' e t2 H5 s5 ht2 => ?_, fun e => nomatch e⟩
    cases e
    refine ⟨_, rfl, x, c.ifb, dx, _, rfl, s5 _ _ hx4, Hc.ifb.ins.cl, Hc.ifb.no "others" (by simp [fnames]), Nat.le_of_ble_eq_true rfl, ?_⟩
    have k6 : ∀ b o, b ≠ x → H b = some o → (upd H5 x (.ins c.ifb dx (putF ("others" : Str) (.ref t2) (putF ("rows" : Str) (.ref t1) (putF ("test" : Str) (.ref q) []))))) b = some o := fun b o n e => by rw [upd_ne n]; exact s5 _ _ (k4 b o n e)
    have hx6 : (upd H5 x (.ins c.ifb dx (putF ("others" : Str) (.ref t2) (putF ("rows" : Str) (.ref t1) (putF ("test" : Str) (.ref q) []))))) x = some (.ins c.ifb dx (putF ("others" : Str) (.ref t2) (putF ("rows" : Str) (.ref t1) (putF ("test" : Str) (.ref q) [])))) := upd_same
    have ht6 : SqT K (upd H5 x (.ins c.ifb dx (putF ("others" : Str) (.ref t2) (putF ("rows" : Str) (.ref t1) (putF ("test" : Str) (.ref q) []))))) t1 xs := sqT_ins (s5 _ _ hx4) (sqT_tk (TK.same s5) ht4)
    have hu6 : SqT K (upd H5 x (.ins c.ifb dx (putF ("others" : Str) (.ref t2) (putF ("rows" : Str) (.ref t1) (putF ("test" : Str) (.ref q) []))))) t2 ys := sqT_ins (s5 _ _ hx4) ht2
    generalize upd H5 x (.ins c.ifb dx (putF ("others" : Str) (.ref t2) (putF ("rows" : Str) (.ref t1) (putF ("test" : Str) (.ref q) [])))) = H6 at k6 hx6 ht6 hu6 ⊢
    have ho6 := RowsAt.nx hx k6 ho
    have hr6 := RowsAt.nx hx k6 hr1
    have sz' : sumL ((("if " : Str) ++ u.txt) :: (linesL r ++ (elseL o (linesL o) ++ [("end" : Str)]))) ≤ 1000000 := sz
    have z1 : (linesL r).length + (elseL o (linesL o)).length + 2 ≤ 1000000 := by
      have := sumL_eq ((("if " : Str) ++ u.txt) :: (linesL r ++ (elseL o (linesL o) ++ [("end" : Str)])))
      simp only [List.length_cons, List.length_append, List.length_nil] at this
      omega
    have z2 : (linesL o).length ≤ (elseL o (linesL o)).length + 1 := by
      cases o with
      | nil => exact Nat.zero_le _
      | cons _ _ => exact Nat.le_succ_of_le (Nat.le_succ _)
    refine seq_behind (mg := mg) (x := x) (dx := dx) (t2 := t2) (ys := ys) (o := o) rfl Hc hx6 (by ((repeat (rw [lookup_putF]; first | rw [if_pos rfl] | rw [if_neg (by decide +kernel)])); try rfl)) hu6 ho6 (by omega) fun p7 H7 s7 h7 => ?_
    have hq7 := (hq.nx hx k6).tk (TK.same s7)
    obtain ⟨fs, pq7⟩ := hq7.part
    obtain ⟨d7, a7, b7, g1, g2, g3, g4, g5, g6, _⟩ := id pq7
    refine ⟨x, dx, _, rfl, s7 _ _ hx6, ?_⟩
    refine ⟨_, rfl, by decide +kernel, u, trivial, _, rfl, q, d7, fs, rfl, g1, q, _, c, _, _, _, _, fs, rfl, Hc.t u, pq7, by rw [sumL_one]; omega, fun H8 s8 => ⟨_, rfl, _, rfl, ?_, ?_⟩⟩
    · show (Str.empty ++ ("if " : Str) ++ u.txt).length ≤ sizeLine
      (refine szl ?_; simp only [app_len, l_e, l_put, l_add, l_sp, l_tell, l_is, l_make, l_not, l_if, l_until, l_end, l_else]; omega)
    rw [app_e, Pg.join_one]
    refine ⟨_, rfl, x, c.ifb, dx, _, _, rfl, s8 _ _ (s7 _ _ hx6), Hc.ifb.ins.cl, Hc.ifb.no "rows" (by simp [fnames]), by ((repeat (rw [lookup_putF]; first | rw [if_pos rfl] | rw [if_neg (by decide +kernel)])); try rfl), ?_⟩
    refine ⟨t1, xs, r, rfl, .inr (sqT_tk (TK.same (s7.trans s8)) ht6), hr6.tk (TK.same (s7.trans s8)), by omega, fun l9 H9 s9 n9 h9 => ?_⟩
    refine ⟨l9, _, rfl, .inr (SqL.of h9), ?_⟩
    refine ⟨_, rfl, p7, _, rfl, .inr (same_sqL (s8.trans s9) h7), ?_⟩
    refine ⟨szl ?_, fun L nL => ?_⟩
    · simp only [List.length_cons, List.length_append, List.length_nil, List.length_map]
      omega
    have sL := sm_new (o := .lst (V.str (("if " : Str) ++ u.txt) :: ((linesL r).map V.str ++ ((elseL o (linesL o)).map V.str ++ [V.str ("end" : Str)])))) nL
    have hL : (upd H9 L (.lst (V.str (("if " : Str) ++ u.txt) :: ((linesL r).map V.str ++ ((elseL o (linesL o)).map V.str ++ [V.str ("end" : Str)]))))) L = some (.lst ((Rw1.ifb u r o).lines.map V.str)) := by
      rw [upd_same]
      show _ = some (HO.lst (((("if " : Str) ++ u.txt) :: (linesL r ++ (elseL o (linesL o) ++ [("end" : Str)]))).map V.str))
      rw [List.map_cons, List.map_append, List.map_append]; rfl
    have s7L := s8.trans (s9.trans sL)
    have s6L := s7.trans s7L
    generalize upd H9 L (.lst (V.str (("if " : Str) ++ u.txt) :: ((linesL r).map V.str ++ ((elseL o (linesL o)).map V.str ++ [V.str ("end" : Str)])))) = HL at sL hL s7L s6L ⊢
    refine ⟨_, rfl, q, _, d7, fs, _, rfl, s7L _ _ g1, (Hc.t u).ins.cl, (Hc.t u).no "used" (.tail _ (.head _)), g5, ?_⟩
    refine ⟨x, dx, L, b7, c.ifb, _, (Rw1.ifb u r o).lines, u.uses, "if", true, rfl, s6L _ _ hx6, Nat.le_of_ble_eq_true rfl, Hc.ifb, .inl (SqL.of hL), .inr (sqT_tk (TK.same s7L) g6), fun s' u' H5 kp hx5 hs hu => ?_⟩
    have k65 : ∀ b o, b ≠ x → H6 b = some o → H5 b = some o := fun b o n e => kp b o n (s6L _ _ e)
    have kx : ∀ b o, b ≠ x → H b = some o → H5 b = some o := fun b o n e => k65 b o n (k6 b o n e)
    exact k H5 kx ⟨_, q, t1, t2, xs, ys, ⟨dx, s', u', hx5, Nat.le_of_ble_eq_true rfl, by ((repeat (rw [lookup_putF]; first | rw [if_pos rfl] | rw [if_neg (by decide +kernel)])); try rfl), hs, by ((repeat (rw [lookup_putF]; first | rw [if_pos rfl] | rw [if_neg (by decide +kernel)])); try rfl), hu, by ((repeat (rw [lookup_putF]; first | rw [if_pos rfl] | rw [if_neg (by decide +kernel)])); try rfl), by ((repeat (rw [lookup_putF]; first | rw [if_pos rfl] | rw [if_neg (by decide +kernel)])); try rfl), by ((repeat (rw [lookup_putF]; first | rw [if_pos rfl] | rw [if_neg (by decide +kernel)])); try rfl)⟩, by ((repeat (rw [lookup_putF]; first | rw [if_pos rfl] | rw [if_neg (by decide +kernel)])); try rfl), hq.nx hx kx, by ((repeat (rw [lookup_putF]; first | rw [if_pos rfl] | rw [if_neg (by decide +kernel)])); try rfl), sqT_kp hx6 k65 ht6, RowsAt.nx hx kx hr1, by ((repeat (rw [lookup_putF]; first | rw [if_pos rfl] | rw [if_neg (by decide +kernel)])); try rfl), sqT_kp hx6 k65 hu6, RowsAt.nx hx kx ho⟩
theorem ok_untlinit {f IR : Addr} {fd : FuncData} {c : Clz} {d : Nat} {eT : Addr} (F : FunS P K mg "__init__" "Until.__init__" S_Until__init_ c.untl [] f fd) (T : Txt K mg) (Hc : Hi K mg c) (GG : GT K mg "GOALS_rows" [.str "alike", .str "longer", .str "shorter"]) (C_ndrows : FnC P w K mg base (L2.CX P w) 4 "need_rows" ["rows"] (sp_ndrows K c IR)) (C_lines : FnC P w K mg base CX0 2 "lines_of" ["rows"] (sp_lines K c))
    (C_hasl : FnC P w K mg base CX0 (2 * d + 2) "has_laying" ["rows"] (sp_haslay K c d)) (C_hasm : FnC P w K mg base CX0 (2 * d + 3) "has_make" ["rows"] (sp_hasmake K c d)) (E_InvalidRow : Er1 P w K mg base "InvalidRow" IR "part" "part") (M_pinit : SupC P w K mg base 2 c.untl "__init__" ["self", "script", "used"] (sp_pinit K c) [.ref eT]) (hE : ∀ H, SqT K H eT []) : FnOk P w K mg base (L2.CX P w) (2 * d + 6) f fd ["self", "goal", "rows"] (sp_untl K c IR d) := by
  obtain ⟨ag, hG, sG⟩ := GG.ex
  refine F.ok SC_Until__init_ (fun vs H Q E h => ?_) (fun cda cc fd' oc od osl A outer s H vs Q E hpar lk SK hr h => ?_)
  · obtain ⟨x, dx, a, g, xs, r, rfl, _⟩ := h
    rfl
  · obtain ⟨x, dx, a, g, xs, r, rfl, hx, hg, na, hr1, dp, sz1, sz, ok, bad⟩ := h
    refine ⟨_, (pat_cons (ps_if (PW.pt (pw_or (pt_not (pt_val (pe_callB call_isi (by rfl) T.b_isinstance (by decide +kernel) (pa_cons (pv 1) (pa_cons (pe_bltn (v := .ty "str") (by rfl) T.b_str boot_str rfl) pa_nil))))) (pw_or1 (pt_cmpR op_notIn_seq (pv 1) (pe_glob (v := .ref ag) (by rfl) hG rfl) (by rfl))))) (pss_one (ps_raise1 E_InvalidRow (hr.mono (by omega)) rfl (takes_of rfl rfl rfl rfl) rfl (pa_cons pe_str pa_nil))) pss_nil)
      (pat_cons (ps_fld (pv 0) (pv 1) rfl)
      (pat_cons (ps_fld (pv 0) (pe_callSC C_ndrows (hr.mono (by omega)) (takes_of rfl rfl rfl rfl) rfl (pa_cons (pv 2) pa_nil)) rfl)
      (pat_cons (ps_if (PW.pt (pw_or (pt_not (pt_val (pe_callC C_hasl (hr.mono (by omega)) rfl (pa_cons (pe_fld (pv 0) rfl) pa_nil)))) (pw_or1 (pt_val (pe_callC C_hasm (hr.mono (by omega)) rfl (pa_cons (pe_fld (pv 0) rfl) pa_nil)))))) (pss_one (ps_raise1 E_InvalidRow (hr.mono (by omega)) rfl (takes_of rfl rfl rfl rfl) rfl (pa_cons pe_str pa_nil))) pss_nil)
      (pat_superC M_pinit SK lk hpar (hr.mono (by omega)) (pa_cons (pe_lst (pa_cons (pe_joined (PJ.cons pe_str (PJ.cons (pe_fmt (pv 1)) PJ.nil))) (StX.pa_star (pe_callC C_lines (hr.mono (by omega)) rfl (pa_cons (pe_fld (pv 0) rfl) pa_nil)) (pa_cons pe_str pa_nil)))) pa_nil) pss_nil))))), ?_⟩
    have hgm : g.length ≤ 7 := by
      simp only [inV, List.any_cons, List.any_nil, Bool.or_false, Bool.or_eq_true] at hg
      have key : ∀ z : Str, eqV (.str z) (.str g) = true → z.length ≤ 7 → g.length ≤ 7 := fun z e l => by
        have e : z = g := by simpa [eqV] using e
        rw [← e]; exact l
      rcases hg with h | h | h
      · exact key ("alike" : Str) h (by decide +kernel)
      · exact key ("longer" : Str) h (by decide +kernel)
      · exact key ("shorter" : Str) h (by decide +kernel)
    refine ⟨_, rfl, .str g, _, .type "str", _, _, rfl, .ty _, .base (.str g), rfl, true, rfl, ?_⟩
    refine ifF rfl ?_
    refine ⟨_, rfl, ag, _, rfl, .inr (sG H), rfl, rfl, ?_⟩
    refine ⟨_, rfl, ?_⟩
    rw [if_pos rfl, hg]
    refine ifF rfl ?_
    refine ⟨_, rfl, _, rfl, x, c.untl, dx, _, rfl, hx, Hc.untl.ins.cl, Hc.untl.no "goal" (by simp [fnames]), by show 0 < 1000; decide, ?_⟩
    have k2 : ∀ b o, b ≠ x → H b = some o → (upd H x (.ins c.untl dx (putF ("goal" : Str) (.str g) []))) b = some o := fun b o n e => by rw [upd_ne n]; exact e
    have hx2 : (upd H x (.ins c.untl dx (putF ("goal" : Str) (.str g) []))) x = some (.ins c.untl dx (putF ("goal" : Str) (.str g) [])) := upd_same
    generalize upd H x (.ins c.untl dx (putF ("goal" : Str) (.str g) [])) = H2 at k2 hx2 ⊢
    refine ⟨_, rfl, _, some xs, rfl, SqV.rows Hc (RowsAt.nx hx k2 hr1) (na.nx hx k2), fun xs' e t1 H3 s3 ht1 => ?_, fun e => nomatch e⟩
    cases e
    refine ⟨_, rfl, x, c.untl, dx, _, rfl, s3 _ _ hx2, Hc.untl.ins.cl, Hc.untl.no "rows" (by simp [fnames]), Nat.le_of_ble_eq_true rfl, ?_⟩
    have k4 : ∀ b o, b ≠ x → H b = some o → (upd H3 x (.ins c.untl dx (putF ("rows" : Str) (.ref t1) (putF ("goal" : Str) (.str g) [])))) b = some o := fun b o n e => by rw [upd_ne n]; exact s3 _ _ (k2 b o n e)
    have hx4 : (upd H3 x (.ins c.untl dx (putF ("rows" : Str) (.ref t1) (putF ("goal" : Str) (.str g) [])))) x = some (.ins c.untl dx (putF ("rows" : Str) (.ref t1) (putF ("goal" : Str) (.str g) []))) := upd_same
    have ht4 : SqT K (upd H3 x (.ins c.untl dx (putF ("rows" : Str) (.ref t1) (putF ("goal" : Str) (.str g) [])))) t1 xs := sqT_ins (s3 _ _ hx2) ht1
    generalize upd H3 x (.ins c.untl dx (putF ("rows" : Str) (.ref t1) (putF ("goal" : Str) (.str g) []))) = H4 at k4 hx4 ht4 ⊢
    have hr4 := RowsAt.nx hx k4 hr1
    refine ⟨_, rfl, x, c.untl, dx, _, _, rfl, hx4, Hc.untl.ins.cl, Hc.untl.no "rows" (by simp [fnames]), by ((repeat (rw [lookup_putF]; first | rw [if_pos rfl] | rw [if_neg (by decide +kernel)])); try rfl), t1, xs, r, rfl, .inr ht4, hr4, dp, sz1, fun H5 s5 => ⟨_, rfl, ?_⟩⟩
    by_cases c1 : laysL r = true
    · rw [c1]
      refine ifF rfl ?_
      refine ⟨_, rfl, x, c.untl, dx, _, _, rfl, s5 _ _ hx4, Hc.untl.ins.cl, Hc.untl.no "rows" (by simp [fnames]), by ((repeat (rw [lookup_putF]; first | rw [if_pos rfl] | rw [if_neg (by decide +kernel)])); try rfl), t1, xs, r, rfl, .inr (sqT_tk (TK.same s5) ht4), hr4.tk (TK.same s5), dp, sz1, fun H6 s6 => ⟨_, rfl, ?_⟩⟩
      by_cases c2 : hasMake r = true
      · exact ifT c2 (mk_err1H fun dd hd => bad (by rw [c2, Bool.or_true]) dd H6 (fun b o n e => s6 _ _ (s5 _ _ (k4 b o n e))) hd)
      · rw [Bool.not_eq_true] at c2
        refine ifF c2 ?_
        have s46 := s5.trans s6
        have sz' : sumL ((("until " : Str) ++ g) :: (linesL r ++ [("end" : Str)])) ≤ 1000000 := sz
        have z1 : (linesL r).length + 2 ≤ 1000000 := by
          have := sumL_eq ((("until " : Str) ++ g) :: (linesL r ++ [("end" : Str)]))
          simp only [List.length_cons, List.length_append, List.length_nil] at this
          omega
        refine ⟨x, dx, _, rfl, s46 _ _ hx4, ?_⟩
        refine ⟨_, rfl, by decide +kernel, _, rfl, .inl ⟨g, rfl, szl (by omega), _, rfl, by (refine szl ?_; simp only [app_len, l_e, l_put, l_add, l_sp, l_tell, l_is, l_make, l_not, l_if, l_until, l_end, l_else]; omega), ?_⟩⟩
        rw [app_e]
        refine ⟨_, rfl, x, c.untl, dx, _, _, rfl, s46 _ _ hx4, Hc.untl.ins.cl, Hc.untl.no "rows" (by simp [fnames]), by ((repeat (rw [lookup_putF]; first | rw [if_pos rfl] | rw [if_neg (by decide +kernel)])); try rfl), ?_⟩
        refine ⟨t1, xs, r, rfl, .inr (sqT_tk (TK.same s46) ht4), hr4.tk (TK.same s46), by omega, fun l9 H9 s9 n9 h9 => ?_⟩
        refine ⟨l9, _, rfl, .inr (SqL.of h9), ?_⟩
        refine ⟨szl ?_, fun L nL => ?_⟩
        · simp only [List.length_cons, List.length_append, List.length_nil, List.length_map]
          omega
        have sL := sm_new (o := .lst (V.str (("until " : Str) ++ g) :: ((linesL r).map V.str ++ [V.str ("end" : Str)]))) nL
        have hL : (upd H9 L (.lst (V.str (("until " : Str) ++ g) :: ((linesL r).map V.str ++ [V.str ("end" : Str)])))) L = some (.lst ((Rw1.untl g r).lines.map V.str)) := by
          rw [upd_same]
          show _ = some (HO.lst (((("until " : Str) ++ g) :: (linesL r ++ [("end" : Str)])).map V.str))
          rw [List.map_cons, List.map_append]; rfl
        have s4L := s46.trans (s9.trans sL)
        generalize upd H9 L (.lst (V.str (("until " : Str) ++ g) :: ((linesL r).map V.str ++ [V.str ("end" : Str)]))) = HL at sL hL s4L ⊢
        refine ⟨x, dx, L, eT, c.untl, _, (Rw1.untl g r).lines, [], "until", true, rfl, s4L _ _ hx4, Nat.le_of_ble_eq_true rfl, Hc.untl, .inl (SqL.of hL), .inr (hE _), fun s' u' H5 kp hx5 hs hu => ?_⟩
        have k45 : ∀ b o, b ≠ x → H4 b = some o → H5 b = some o := fun b o n e => kp b o n (s4L _ _ e)
        have kx : ∀ b o, b ≠ x → H b = some o → H5 b = some o := fun b o n e => k45 b o n (k4 b o n e)
        exact ok c1 c2 H5 kx ⟨_, t1, xs, ⟨dx, s', u', hx5, Nat.le_of_ble_eq_true rfl, by ((repeat (rw [lookup_putF]; first | rw [if_pos rfl] | rw [if_neg (by decide +kernel)])); try rfl), hs, by ((repeat (rw [lookup_putF]; first | rw [if_pos rfl] | rw [if_neg (by decide +kernel)])); try rfl), hu, by ((repeat (rw [lookup_putF]; first | rw [if_pos rfl] | rw [if_neg (by decide +kernel)])); try rfl), by ((repeat (rw [lookup_putF]; first | rw [if_pos rfl] | rw [if_neg (by decide +kernel)])); try rfl), by ((repeat (rw [lookup_putF]; first | rw [if_pos rfl] | rw [if_neg (by decide +kernel)])); try rfl)⟩, by ((repeat (rw [lookup_putF]; first | rw [if_pos rfl] | rw [if_neg (by decide +kernel)])); try rfl), by ((repeat (rw [lookup_putF]; first | rw [if_pos rfl] | rw [if_neg (by decide +kernel)])); try rfl), sqT_kp hx4 k45 ht4, RowsAt.nx hx kx hr1⟩
    · rw [Bool.not_eq_true] at c1
      rw [c1]
      exact ifT rfl (mk_err1H fun dd hd => bad (by rw [c1]; rfl) dd H5 (fun b o n e => s5 _ _ (k4 b o n e)) hd)
end

/-! ## parts compared -/
namespace Pg
theorem eqvSs : ∀ (xs ys : List Str), PyData.eqvAll (xs.map PyData.str) (ys.map PyData.str) = decide (xs = ys)
  | [], [] => rfl
  | [], _ :: _ => rfl
  | _ :: _, [] => rfl
  | x :: xs, y :: ys => by
    show (PyData.eqv (.str x) (.str y) && PyData.eqvAll (xs.map PyData.str) (ys.map PyData.str)) = _
    rw [eqvSs xs ys, Bool.eq_iff_iff]
    simp [PyData.eqv]
theorem eqvSt (xs ys : List Str) : PyData.eqv (.tuple (xs.map PyData.str)) (.tuple (ys.map PyData.str)) = decide (xs = ys) := by
  rw [← eqvSs]; rfl
theorem dpStrs {K : PySem.W.Frag} {H : Hp} : ∀ ss : List Str, DpAll K H (ss.map V.str) (ss.map PyData.str)
  | [] => .nil
  | s :: ss => .cons (.str s) (dpStrs ss)
theorem canSs : ∀ {xs : List Str}, (∀ x ∈ xs, PyData.strOk x = true) → PyData.canLayAll0 (xs.map PyData.str) = true
  | [], _ => rfl
  | x :: xs, h => by
    show (PyData.strOk x && PyData.canLayAll0 (xs.map PyData.str)) = true
    rw [h x (.head _), canSs fun y hy => h y (.tail _ hy)]; rfl
theorem depSs : ∀ xs : List Str, PyData.depthAll (xs.map PyData.str) ≤ 1
  | [] => by decide
  | x :: xs => by
    have e := depSs xs
    show max _ (PyData.depthAll (xs.map PyData.str)) ≤ 1
    exact Nat.max_le.mpr ⟨by first | decide | exact Nat.zero_le _, e⟩
theorem shSt {xs : List Str} (h : ∀ x ∈ xs, PyData.strOk x = true) : SeqAt.shaped (.tuple (xs.map PyData.str)) = true := by
  show (PyData.canLayAll0 (xs.map PyData.str) && decide (PyData.depthAll (xs.map PyData.str) + 1 ≤ 64)) = true
  have e := depSs xs
  rw [canSs h, decide_eq_true (show PyData.depthAll (xs.map PyData.str) + 1 ≤ 64 by omega)]; rfl
def sp_peq (K : PySem.W.Frag) (c : Clz) : Sp := fun vs H Q _ => ∃ (p C : Addr) (so : Str) (ir : Bool) (ss us : List Str) (fs : List (Str × V)) (y : V), vs = [.ref p, y] ∧ Ri K c C so ir ∧ PartAt K C H p ss us fs ∧ (∀ z ∈ ss, PyData.strOk z = true) ∧
  ((∃ t, TyX K H y t ∧ PySem.W.kitOne K t (.ref c.part) = some false ∧ Q (.bl false) H) ∨
   (∃ (q D : Addr) (so' : Str) (ir' : Bool) (ss' us' : List Str) (gs : List (Str × V)), y = .ref q ∧ Ri K c D so' ir' ∧ PartAt K D H q ss' us' gs ∧ (∀ z ∈ ss', PyData.strOk z = true) ∧ Q (.bl (decide (so = so') && decide (ss = ss'))) H))
end Pg
open Pg
section
variable {P : Program} {w : World} {K : PySem.W.Frag} {mg : Str → Option Value} {base : Heap}
--@peq
theorem ok_peq {f : Addr} {fd : FuncData} {c : Clz} (F : Fun K "__eq__" "Part.__eq__" S_Part__eq_ f fd) (T : Txt K mg) (Hc : Hi K mg c) : FnOk P w K mg base CX0 1 f fd ["self", "other"] (sp_peq K c) := by
  refine F.ok SC_Part__eq_ (fun vs H Q E h => ?_) (fun cdv A outer s H vs Q E hr h => ?_)
  · obtain ⟨p, C, so, ir, ss, us, fs, y, rfl, _⟩ := h
    rfl
  · obtain ⟨p, C, so, ir, ss, us, fs, y, rfl, ri, pp, ok, k⟩ := h
    refine ⟨_, (pss_one (ps_ret (pe_and (pe_callB call_isi (by rfl) T.b_isinstance (by decide +kernel) (pa_cons (pv 1) (pa_cons (pe_glob (v := .ref c.part) (by rfl) Hc.mgPart rfl) pa_nil))) (pe_and (pe_cmpR op_eq (pe_con (pv 0) rfl) (pe_con (pv 1) rfl) (nomark _)) (pe_one (pe_cmpR (op_eqD hr.units) (pe_fld (pv 0) rfl) (pe_fld (pv 1) rfl) (nomark _))))))), ?_⟩
    obtain ⟨dx, a, b, h1, h2, h3, h4, h5, h6, h7, h8, h9⟩ := pp
    rcases k with ⟨t, ty, kt, k⟩ | ⟨q, D, so', ir', ss', us', gs, rfl, rj, ⟨dy, a', b', g1, g2, g3, g4, g5, g6, g7, g8, g9⟩, ok', k⟩
    · refine ⟨_, rfl, y, _, t, _, false, rfl, .own _, ty, kt, _, rfl, ?_⟩
      exact k
    · refine ⟨_, rfl, .ref q, _, _, _, true, rfl, .own _, .base (.ins g1 rj.ins.cl rj.ins.ha rj.ins.hn rj.ins.htk rj.ins.hm), rj.kp, _, rfl, ?_⟩
      rw [if_pos rfl]
      obtain ⟨u, cu⟩ := ri.so
      obtain ⟨v, cv⟩ := rj.so
      refine ⟨_, rfl, p, C, dx, fs, .str so, u, rfl, h1, ri.ins.cl, cu, h7, ?_⟩
      refine ⟨_, rfl, q, D, dy, gs, .str so', v, rfl, g1, rj.ins.cl, cv, g7, ?_⟩
      refine ⟨rfl, _, rfl, ?_⟩
      have e : decide (V.str so = V.str so') = decide (so = so') := decide_eq_decide.mpr ⟨fun e => by injection e, fun e => by rw [e]⟩
      rw [e]
      by_cases c1 : so = so'
      · rw [decide_eq_true c1] at k ⊢
        rw [if_pos rfl]
        refine ⟨_, rfl, p, C, dx, fs, _, rfl, h1, ri.ins.cl, ri.no _ (.head _), h3, ?_⟩
        refine ⟨_, rfl, q, D, dy, gs, _, rfl, g1, rj.ins.cl, rj.no _ (.head _), g3, ?_⟩
        refine ⟨_, _, .tup h4 (dpStrs ss), .tup g4 (dpStrs ss'), shSt ok, shSt ok', ?_⟩
        rw [eqvSt]
        rw [Bool.true_and] at k
        exact k
      · rw [decide_eq_false c1] at k ⊢
        exact k
--@*
end

/-! ## what the laws over programs draw: names, numbers, changes -/
namespace Pg
def sp_name : Sp := fun vs H Q _ => ∃ B : Bx, vs = [.ref B.1] ∧ BoxAt H B ∧ ∀ (z : Str) (H' : Hp), nameOk z = true → Keep B H H' → BoxAt H' B → Q (.str z) H'
def sp_num : Sp := fun vs H Q _ => ∃ B : Bx, vs = [.ref B.1] ∧ BoxAt H B ∧ ∀ (i : Int) (H' : Hp), 0 ≤ i → i < 1000000 → Keep B H H' → BoxAt H' B → Q (.int i) H'
/-- the changes that are drawn -/
def mats : List Mt := [⟨1, 1, 0, 1⟩, ⟨1, 0, 1, 1⟩, ⟨2, 1, 1, 1⟩, ⟨0, 1, 1, 0⟩, ⟨1, 3, 0, 1⟩, ⟨5, 2, 2, 1⟩, ⟨1, 2, 1, 1⟩, ⟨0, 1, 1, 2⟩, ⟨2, 0, 0, 1⟩, ⟨1, 0, 0, 2⟩, ⟨1, 1, 1, 3⟩, ⟨3, 1, 1, 1⟩, ⟨0, 2, 1, 1⟩, ⟨12, 5, 2, 1⟩, ⟨3, 0, 0, 1⟩, ⟨2, 1, 1, 2⟩, ⟨1, 2, 2, 1⟩, ⟨0, 3, 1, 0⟩, ⟨1, 0, 0, 3⟩]
theorem at_n {α : Type} {xs : List α} {i : Int} (h0 : 0 ≤ i) (h : i.toNat < xs.length) : atI xs i = some xs[i.toNat] := by
  have e : ixN xs.length i = some i.toNat := by
    unfold ixN
    rw [if_pos h0, if_pos (by omega)]
  unfold atI
  rw [e]
  exact List.getElem?_eq_getElem h
theorem join_ones : ∀ cs : List Nat, Txt.join ("" : Str) (cs.map fun c => (⟨#[c]⟩ : Str)) = ⟨cs.toArray⟩
  | [] => rfl
  | [c] => rfl
  | c :: d :: cs => by
    have e := join_ones (d :: cs)
    rw [List.map_cons] at e
    rw [List.map_cons, List.map_cons, join_cons2, e]
    apply st_inj
    rw [app_l, app_l]
    simp [show ("" : Str).cps.toList = [] from by decide +kernel]
theorem ones_sum : ∀ cs : List Nat, ((cs.map fun c => (⟨#[c]⟩ : Str)).map fun x => x.length).sum = cs.length
  | [] => rfl
  | c :: cs => by
    rw [List.map_cons, List.map_cons, List.sum_cons, ones_sum cs, List.length_cons]
    show 1 + _ = _
    omega
theorem name_ones {cs : List Nat} (h0 : 1 ≤ cs.length) (h1 : cs.length ≤ 4) (h2 : inV (.str ⟨cs.toArray⟩) [.str "is", .str "not"] = false) (h3 : ∀ c ∈ cs, c ∈ letters.cps.toList) : nameOk ⟨cs.toArray⟩ = true := by
  have l : (⟨cs.toArray⟩ : Str).length = cs.length := List.size_toArray
  have e : inV (.str ⟨cs.toArray⟩) [.str "not", .str "is"] = false := by
    simp only [inV, List.any_cons, List.any_nil, Bool.or_false, Bool.or_eq_false_iff] at h2 ⊢
    exact ⟨h2.2, h2.1⟩
  unfold nameOk
  rw [l, e, decide_eq_true h0, decide_eq_true h1]
  show (List.all _ _) = true
  rw [List.all_eq_true]
  exact fun c hc => decide_eq_true (h3 c hc)
def mtV (m : Mt) : List V := [.int m.a, .int m.b, .int m.c, .int m.d]
def MtsAt (H : Hp) : List V → List Mt → Prop
  | [], [] => True
  | v :: vs, m :: ms => (∃ q, v = .ref q ∧ H q = some (.tup (mtV m))) ∧ MtsAt H vs ms
  | _, _ => False
theorem MtsAt.tk {H H' : Hp} (s : TK H H') : ∀ {xs : List V} {ms : List Mt}, MtsAt H xs ms → MtsAt H' xs ms
  | [], [], _ => trivial
  | _ :: _, _ :: _, ⟨⟨q, e, h⟩, t⟩ => ⟨⟨q, e, s _ _ rfl h⟩, MtsAt.tk s t⟩
theorem MtsAt.len {H : Hp} : ∀ {xs : List V} {ms : List Mt}, MtsAt H xs ms → xs.length = ms.length
  | [], [], _ => rfl
  | _ :: _, _ :: _, ⟨_, t⟩ => congrArg Nat.succ (MtsAt.len t)
theorem MtsAt.app {H : Hp} : ∀ {xs ys : List V} {ms ns : List Mt}, MtsAt H xs ms → MtsAt H ys ns → MtsAt H (xs ++ ys) (ms ++ ns)
  | [], _, [], _, _, h => h
  | _ :: _, _, _ :: _, _, ⟨a, t⟩, h => ⟨a, MtsAt.app t h⟩
theorem MtsAt.at {H : Hp} : ∀ {xs : List V} {ms : List Mt} {i : Nat} {v : V}, MtsAt H xs ms → xs[i]? = some v → ∃ q m, v = .ref q ∧ m ∈ ms ∧ H q = some (.tup (mtV m))
  | [], [], _, _, _, h => by simp at h
  | v :: vs, m :: ms, i, w, ⟨⟨q, e, h⟩, t⟩, hi => by
    cases i with
    | zero => cases hi; exact ⟨q, m, e, .head _, h⟩
    | succ i =>
      obtain ⟨q', m', e', hm, h'⟩ := MtsAt.at t (by simpa using hi)
      exact ⟨q', m', e', .tail _ hm, h'⟩
def sp_change : Sp := fun vs H Q _ => ∃ B : Bx, vs = [.ref B.1] ∧ BoxAt H B ∧ ∀ (m : Mt) (q : Addr) (H' : Hp), m ∈ mats → H' q = some (.tup (mtV m)) → Keep B H H' → BoxAt H' B → Q (.ref q) H'
end Pg
open Pg
section
variable {P : Program} {w : World} {K : PySem.W.Frag} {mg : Str → Option Value} {base : Heap}
--@name
theorem ok_name {f : Addr} {fd : FuncData} (F : Fun K "_law_name" "_law_name" S__law_name f fd) (T : Txt K mg) (C_draw : FnC P w K mg base CX0 1 "_law_draw" ["_law_deal_here", "_law_many"] sp_draw) (C_pick : FnC P w K mg base CX0 2 "_law_pick" ["_law_deal_here", "_law_some"] (sp_pick K)) : FnOk P w K mg base CX0 3 f fd ["_law_deal_here"] sp_name := by
  refine F.ok SC__law_name (fun vs H Q E h => ?_) (fun cdv A outer s H vs Q E hr h => ?_)
  · obtain ⟨B, rfl, _⟩ := h
    rfl
  · obtain ⟨B, rfl, hb, k⟩ := h
    refine ⟨_, (pss_cons (ps_set (i := 1) SC__law_name.nd rfl (.inl rfl) (pe_callC C_draw (hr.mono (by decide)) rfl (pa_cons (pv 0) (pa_cons pe_int pa_nil))))
      (pss_cons (ps_if (pt_cmpR op_eq (pv 1) pe_int (nomark _)) (pss_one (ps_ret (pe_callC C_pick (hr.mono (by decide)) rfl (pa_cons (pv 0) (pa_cons (pe_lstN (pa_cons pe_str (pa_cons pe_str (pa_cons pe_str (pa_cons pe_str (pa_cons pe_str (pa_cons pe_str (pa_cons pe_str (pa_cons pe_str (pa_cons pe_str (pa_cons pe_str (pa_cons pe_str (pa_cons pe_str pa_nil))))))))))))) pa_nil))))) pss_nil)
      (pss_cons (ps_set (i := 2) SC__law_name.nd rfl (.inr rfl) pe_str)
      (pss_cons (ps_set (i := 3) SC__law_name.nd rfl (.inl rfl) (pe_join pe_str (pe_lc (own := [("_law_k", 4)]) (g := gName 4) (by rfl) SC__law_name.nd (pi_range1 (by rfl) T.b_range (pa_cons (pe_op op_add pe_int (pe_callC C_draw (hr.mono (by decide)) rfl (pa_cons (pv 0) (pa_cons pe_int pa_nil)))) pa_nil)) (blkOk_by (own := [("_law_k", 4)]) (N := N__law_name) (sc := defScope S__law_name) (by decide +kernel)) (fun _ _ _ _ _ => pg_name (i := 4) SC__law_name.nd rfl (Or.inl rfl)) (fun _ _ _ _ _ => pts_nil) (fun _ _ _ _ _ => (pe_ix ix_str (pv 2) (pe_callC C_draw (hr.mono (by decide)) rfl (pa_cons (pv 0) (pa_cons pe_int pa_nil))) (fun _ _ => rfl))))))
      (pss_one (ps_ret (pe_ifExp (pt_cmpR op_in_seq (pv 3) (pe_tupN (pa_cons pe_str (pa_cons pe_str pa_nil))) (by rfl)) pe_str (pv 3)))))))), ?_⟩
    have W0 := Hb.start hb
    refine ⟨_, rfl, B, _, rfl, hb, by decide, by decide, fun f H1 f0 f1 kp1 hb1 => ?_⟩
    have W1 := W0.keep kp1 hb1
    refine ⟨_, rfl, rfl, _, rfl, ?_⟩
    refine ite2 (fun _ => ?_) (fun _ => ?_)
    · refine ⟨_, rfl, by show 12 ≤ 1000000; decide, W1.nw fun p H2 _ _ _ W2 => ?_⟩
      refine ⟨B, p, _, rfl, W2.box, (W2.ne (.head _)).1, (W2.ne (.head _)).2, .inl (SqL.of (W2.get (.head _))), by show 0 < 12; decide, by show 12 ≤ 100000; decide, fun d v H3 hv kp3 hb3 => ?_⟩
      have W3 := W2.keep kp3 hb3
      have hm := List.mem_of_getElem? hv
      simp only [List.mem_cons, List.not_mem_nil, or_false] at hm
      rcases hm with rfl | rfl | rfl | rfl | rfl | rfl | rfl | rfl | rfl | rfl | rfl | rfl <;> exact k _ H3 (by decide +kernel) W3.kp W3.box
    · refine ⟨⟨_, rfl⟩, ?_⟩
      refine ⟨_, rfl, B, _, rfl, hb1, by decide, by decide, fun n H2 n0 n1 kp2 hb2 => ⟨_, _, rfl, rfl, _, rfl, by show -(2 ^ 62) ≤ 1 + n; omega, by show 1 + n < 2 ^ 62; omega, fun D hD => ?_⟩⟩
      have W2 := W1.keep kp2 hb2
      have ll : letters.cps.toList.length = 26 := by decide +kernel
      refine lcR_range (fun i H' => ∃ cs : List Nat, cs.length = i ∧ (∀ c ∈ cs, c ∈ letters.cps.toList) ∧ Hb B H H' [(D, .lst ((cs.map fun c => (⟨#[c]⟩ : Str)).map V.str))]) ⟨[], rfl, fun _ h => (nomatch h), W2.new hD _⟩ (fun i H3 hi m => ?_) (gName_mono _) (fun H3 m => ?_)
      · obtain ⟨cs, hl, hc, W3⟩ := m
        refine ⟨rfl, _, rfl, _, rfl, B, _, rfl, W3.box, by decide, by decide, fun d H4 d0 d1 kp4 hb4 => ?_⟩
        have W4 := W3.keep kp4 hb4
        have hd : d.toNat < letters.cps.toList.length := by omega
        have hat : atI letters.cps.toList d = some letters.cps.toList[d.toNat] := at_n d0 hd
        refine ⟨letters, d, letters.cps.toList[d.toNat], rfl, rfl, szl (by decide +kernel), hat, _, W4.get (.head _), ?_, cs ++ [letters.cps.toList[d.toNat]], by rw [List.length_append, hl]; rfl, fun c hm => ?_, ?_⟩
        · rw [List.length_map, List.length_map]
          exact szs (by omega)
        · rcases List.mem_append.mp hm with h | h
          · exact hc c h
          · rw [List.mem_singleton.mp h]; exact List.getElem_mem hd
        · rw [List.map_append, List.map_append]
          exact W4.set 0 rfl _
      · obtain ⟨cs, hl, hc, W3⟩ := m
        have hl4 : 1 ≤ cs.length ∧ cs.length ≤ 4 := by omega
        refine ⟨_, D, _, rfl, rfl, .inl (SqL.of (W3.get (.head _))), ?_, ?_⟩
        · rw [ones_sum, List.length_map, show ("" : Str).length = 0 by decide +kernel]
          omega
        rw [Pg.join_ones]
        refine ⟨_, rfl, by show 2 ≤ 1000000; decide, W3.nw fun t H4 _ _ _ W4 => ?_⟩
        refine ⟨t, _, rfl, .inr (SqT.of (W4.get (.head _))), rfl, rfl, _, rfl, ?_⟩
        refine ite2 (fun _ => ?_) (fun h => ?_)
        · exact k _ H4 (by decide +kernel) W4.kp W4.box
        · exact ⟨_, rfl, k _ H4 (name_ones hl4.1 hl4.2 (by rw [Bool.not_eq_true] at h; exact h) hc) W4.kp W4.box⟩
--@num
theorem ok_num {f : Addr} {fd : FuncData} (F : Fun K "_law_number" "_law_number" S__law_number f fd) (T : Txt K mg) (C_draw : FnC P w K mg base CX0 1 "_law_draw" ["_law_deal_here", "_law_many"] sp_draw) : FnOk P w K mg base CX0 3 f fd ["_law_deal_here"] sp_num := by
  refine F.ok SC__law_number (fun vs H Q E h => ?_) (fun cdv A outer s H vs Q E hr h => ?_)
  · obtain ⟨B, rfl, _⟩ := h
    rfl
  · obtain ⟨B, rfl, hb, k⟩ := h
    refine ⟨_, (pss_cons (ps_set (i := 1) SC__law_number.nd rfl (.inl rfl) (pe_callC C_draw (hr.mono (by decide)) rfl (pa_cons (pv 0) (pa_cons pe_int pa_nil))))
      (pss_one (ps_ret (pe_ix ix_list (pe_lstN (pa_cons (pe_callC C_draw (hr.mono (by decide)) rfl (pa_cons (pv 0) (pa_cons pe_int pa_nil))) (pa_cons (pe_op op_sub pe_int (pe_callC C_draw (hr.mono (by decide)) rfl (pa_cons (pv 0) (pa_cons pe_int pa_nil)))) (pa_cons (pe_callC C_draw (hr.mono (by decide)) rfl (pa_cons (pv 0) (pa_cons pe_int pa_nil))) pa_nil)))) (pe_callB (call_max2 rfl) (by rfl) T.b_max (by decide +kernel) (pa_cons pe_int (pa_cons (pe_op op_sub (pv 1) pe_int) pa_nil))) (fun _ _ => rfl))))), ?_⟩
    have W0 := Hb.start hb
    refine ⟨_, rfl, B, _, rfl, hb, by decide, by decide, fun f H1 f0 f1 kp1 hb1 => ?_⟩
    refine ⟨_, rfl, B, _, rfl, hb1, by decide, by decide, fun a H2 a0 a1 kp2 hb2 => ?_⟩
    refine ⟨_, rfl, B, _, rfl, hb2, by decide, by decide, fun b H3 b0 b1 kp3 hb3 => ⟨_, _, rfl, rfl, ?_⟩⟩
    refine ⟨_, rfl, B, _, rfl, hb3, by decide, by decide, fun c H4 c0 c1 kp4 hb4 => ?_⟩
    have W4 := (((W0.keep kp1 hb1).keep kp2 hb2).keep kp3 hb3).keep kp4 hb4
    refine ⟨by show 3 ≤ 1000000; decide, W4.nw fun p H5 _ _ _ W5 => ?_⟩
    refine ⟨_, rfl, _, _, rfl, rfl, _, _, rfl, ?_⟩
    have fin : ∀ i : Int, 0 ≤ i → i < 1000000 → Q (.int i) H5 := fun i i0 i1 => k i H5 i0 i1 W5.tl.kp W5.tl.box
    by_cases c3 : f - 3 > 0
    · rw [if_pos c3]
      have : f - 3 = 1 ∨ f - 3 = 2 := by omega
      rcases this with e | e
      · rw [e]
        exact ⟨p, _, 1, .int (999999 - b), rfl, rfl, SqL.of (W5.get (.head _)), rfl, fin _ (by omega) (by omega)⟩
      · rw [e]
        exact ⟨p, _, 2, .int c, rfl, rfl, SqL.of (W5.get (.head _)), rfl, fin _ (by omega) (by omega)⟩
    · rw [if_neg c3]
      exact ⟨p, _, 0, .int a, rfl, rfl, SqL.of (W5.get (.head _)), rfl, fin _ (by omega) (by omega)⟩
--@change
theorem ok_change {f : Addr} {fd : FuncData} (F : Fun K "_law_change" "_law_change" S__law_change f fd) (T : Txt K mg) (C_pick : FnC P w K mg base CX0 2 "_law_pick" ["_law_deal_here", "_law_some"] (sp_pick K)) : FnOk P w K mg base CX0 3 f fd ["_law_deal_here"] sp_change := by
  refine F.ok SC__law_change (fun vs H Q E h => ?_) (fun cdv A outer s H vs Q E hr h => ?_)
  · obtain ⟨B, rfl, _⟩ := h
    rfl
  · obtain ⟨B, rfl, hb, k⟩ := h
    refine ⟨_, (pss_cons (ps_set (i := 1) SC__law_change.nd rfl (.inl rfl) (pe_lstN (pa_cons (pe_tupN (pa_cons pe_int (pa_cons pe_int (pa_cons pe_int (pa_cons pe_int pa_nil))))) (pa_cons (pe_tupN (pa_cons pe_int (pa_cons pe_int (pa_cons pe_int (pa_cons pe_int pa_nil))))) (pa_cons (pe_tupN (pa_cons pe_int (pa_cons pe_int (pa_cons pe_int (pa_cons pe_int pa_nil))))) (pa_cons (pe_tupN (pa_cons pe_int (pa_cons pe_int (pa_cons pe_int (pa_cons pe_int pa_nil))))) (pa_cons (pe_tupN (pa_cons pe_int (pa_cons pe_int (pa_cons pe_int (pa_cons pe_int pa_nil))))) (pa_cons (pe_tupN (pa_cons pe_int (pa_cons pe_int (pa_cons pe_int (pa_cons pe_int pa_nil))))) (pa_cons (pe_tupN (pa_cons pe_int (pa_cons pe_int (pa_cons pe_int (pa_cons pe_int pa_nil))))) pa_nil)))))))))
      (pss_cons (ps_expr (pe_bm PySem.F.plainAttrs_list PySem.F.slot_list_extend PySem.F.type_list_extend mt_extend (pv 1) (pa_cons (pe_lstN (pa_cons (pe_tupN (pa_cons pe_int (pa_cons pe_int (pa_cons pe_int (pa_cons pe_int pa_nil))))) (pa_cons (pe_tupN (pa_cons pe_int (pa_cons pe_int (pa_cons pe_int (pa_cons pe_int pa_nil))))) (pa_cons (pe_tupN (pa_cons pe_int (pa_cons pe_int (pa_cons pe_int (pa_cons pe_int pa_nil))))) (pa_cons (pe_tupN (pa_cons pe_int (pa_cons pe_int (pa_cons pe_int (pa_cons pe_int pa_nil))))) (pa_cons (pe_tupN (pa_cons pe_int (pa_cons pe_int (pa_cons pe_int (pa_cons pe_int pa_nil))))) (pa_cons (pe_tupN (pa_cons pe_int (pa_cons pe_int (pa_cons pe_int (pa_cons pe_int pa_nil))))) (pa_cons (pe_tupN (pa_cons pe_int (pa_cons pe_int (pa_cons pe_int (pa_cons pe_int pa_nil))))) pa_nil)))))))) pa_nil)))
      (pss_cons (ps_expr (pe_bm PySem.F.plainAttrs_list PySem.F.slot_list_extend PySem.F.type_list_extend mt_extend (pv 1) (pa_cons (pe_lstN (pa_cons (pe_tupN (pa_cons pe_int (pa_cons pe_int (pa_cons pe_int (pa_cons pe_int pa_nil))))) (pa_cons (pe_tupN (pa_cons pe_int (pa_cons pe_int (pa_cons pe_int (pa_cons pe_int pa_nil))))) (pa_cons (pe_tupN (pa_cons pe_int (pa_cons pe_int (pa_cons pe_int (pa_cons pe_int pa_nil))))) (pa_cons (pe_tupN (pa_cons pe_int (pa_cons pe_int (pa_cons pe_int (pa_cons pe_int pa_nil))))) (pa_cons (pe_tupN (pa_cons pe_int (pa_cons pe_int (pa_cons pe_int (pa_cons pe_int pa_nil))))) pa_nil)))))) pa_nil)))
      (pss_one (ps_ret (pe_callC C_pick (hr.mono (by decide)) rfl (pa_cons (pv 0) (pa_cons (pe_slice sl_list (pv 1) po_none (po_some (pe_callC C_pick (hr.mono (by decide)) rfl (pa_cons (pv 0) (pa_cons (pe_lstN (pa_cons pe_int (pa_cons pe_int (pa_cons pe_int pa_nil)))) pa_nil))))) pa_nil)))))))), ?_⟩
    have W0 := Hb.start hb
    have le4 : 4 ≤ 1000000 := by decide
    have a0 : MtsAt H [] [] := trivial
    refine ⟨le4, fun aq1 aH1 _ as1 ah1 => ?_⟩
    have a1 := (a0.tk (TK.same as1)).app (show MtsAt aH1 [.ref aq1] [⟨1, 1, 0, 1⟩] from ⟨⟨aq1, rfl, ah1⟩, trivial⟩)
    refine ⟨le4, fun aq2 aH2 _ as2 ah2 => ?_⟩
    have a2 := (a1.tk (TK.same as2)).app (show MtsAt aH2 [.ref aq2] [⟨1, 0, 1, 1⟩] from ⟨⟨aq2, rfl, ah2⟩, trivial⟩)
    refine ⟨le4, fun aq3 aH3 _ as3 ah3 => ?_⟩
    have a3 := (a2.tk (TK.same as3)).app (show MtsAt aH3 [.ref aq3] [⟨2, 1, 1, 1⟩] from ⟨⟨aq3, rfl, ah3⟩, trivial⟩)
    refine ⟨le4, fun aq4 aH4 _ as4 ah4 => ?_⟩
    have a4 := (a3.tk (TK.same as4)).app (show MtsAt aH4 [.ref aq4] [⟨0, 1, 1, 0⟩] from ⟨⟨aq4, rfl, ah4⟩, trivial⟩)
    refine ⟨le4, fun aq5 aH5 _ as5 ah5 => ?_⟩
    have a5 := (a4.tk (TK.same as5)).app (show MtsAt aH5 [.ref aq5] [⟨1, 3, 0, 1⟩] from ⟨⟨aq5, rfl, ah5⟩, trivial⟩)
    refine ⟨le4, fun aq6 aH6 _ as6 ah6 => ?_⟩
    have a6 := (a5.tk (TK.same as6)).app (show MtsAt aH6 [.ref aq6] [⟨5, 2, 2, 1⟩] from ⟨⟨aq6, rfl, ah6⟩, trivial⟩)
    refine ⟨le4, fun aq7 aH7 _ as7 ah7 => ?_⟩
    have a7 := (a6.tk (TK.same as7)).app (show MtsAt aH7 [.ref aq7] [⟨1, 2, 1, 1⟩] from ⟨⟨aq7, rfl, ah7⟩, trivial⟩)
    have sa := (as1.trans (as2.trans (as3.trans (as4.trans (as5.trans (as6.trans as7))))))
    refine ⟨by show 7 ≤ 1000000; decide, (W0.same sa).nw fun l H2 _ _ s2 W2 => ?_⟩
    refine ⟨_, rfl, .inl ⟨rfl, _, SqL.of (W2.get (.head _))⟩, ?_⟩
    have b0 : MtsAt H2 [] [] := trivial
    refine ⟨le4, fun bq1 bH1 _ bs1 bh1 => ?_⟩
    have b1 := (b0.tk (TK.same bs1)).app (show MtsAt bH1 [.ref bq1] [⟨0, 1, 1, 2⟩] from ⟨⟨bq1, rfl, bh1⟩, trivial⟩)
    refine ⟨le4, fun bq2 bH2 _ bs2 bh2 => ?_⟩
    have b2 := (b1.tk (TK.same bs2)).app (show MtsAt bH2 [.ref bq2] [⟨2, 0, 0, 1⟩] from ⟨⟨bq2, rfl, bh2⟩, trivial⟩)
    refine ⟨le4, fun bq3 bH3 _ bs3 bh3 => ?_⟩
    have b3 := (b2.tk (TK.same bs3)).app (show MtsAt bH3 [.ref bq3] [⟨1, 0, 0, 2⟩] from ⟨⟨bq3, rfl, bh3⟩, trivial⟩)
    refine ⟨le4, fun bq4 bH4 _ bs4 bh4 => ?_⟩
    have b4 := (b3.tk (TK.same bs4)).app (show MtsAt bH4 [.ref bq4] [⟨1, 1, 1, 3⟩] from ⟨⟨bq4, rfl, bh4⟩, trivial⟩)
    refine ⟨le4, fun bq5 bH5 _ bs5 bh5 => ?_⟩
    have b5 := (b4.tk (TK.same bs5)).app (show MtsAt bH5 [.ref bq5] [⟨3, 1, 1, 1⟩] from ⟨⟨bq5, rfl, bh5⟩, trivial⟩)
    refine ⟨le4, fun bq6 bH6 _ bs6 bh6 => ?_⟩
    have b6 := (b5.tk (TK.same bs6)).app (show MtsAt bH6 [.ref bq6] [⟨0, 2, 1, 1⟩] from ⟨⟨bq6, rfl, bh6⟩, trivial⟩)
    refine ⟨le4, fun bq7 bH7 _ bs7 bh7 => ?_⟩
    have b7 := (b6.tk (TK.same bs7)).app (show MtsAt bH7 [.ref bq7] [⟨12, 5, 2, 1⟩] from ⟨⟨bq7, rfl, bh7⟩, trivial⟩)
    have sb := (bs1.trans (bs2.trans (bs3.trans (bs4.trans (bs5.trans (bs6.trans bs7))))))
    refine ⟨by show 7 ≤ 1000000; decide, (W2.same sb).nw fun l2 H4 _ _ s4 W4 => ?_⟩
    refine ⟨l, l2, _, _, rfl, rfl, W4.get (.tail _ (.head _)), W4.get (.head _), by show 14 ≤ sizeLine; decide, ?_⟩
    have m4 := ((a7.tk (TK.same s2)).tk (TK.same (sb.trans s4))).app (b7.tk (TK.same s4))
    have W5 := W4.set 1 rfl (.lst ([.ref aq1, .ref aq2, .ref aq3, .ref aq4, .ref aq5, .ref aq6, .ref aq7] ++ [.ref bq1, .ref bq2, .ref bq3, .ref bq4, .ref bq5, .ref bq6, .ref bq7]))
    have m5 := m4.tk (TK.upd (o := .lst ([.ref aq1, .ref aq2, .ref aq3, .ref aq4, .ref aq5, .ref aq6, .ref aq7] ++ [.ref bq1, .ref bq2, .ref bq3, .ref bq4, .ref bq5, .ref bq6, .ref bq7])) (W4.get (.tail _ (.head _))) rfl)
    generalize upd H4 l (.lst ([.ref aq1, .ref aq2, .ref aq3, .ref aq4, .ref aq5, .ref aq6, .ref aq7] ++ [.ref bq1, .ref bq2, .ref bq3, .ref bq4, .ref bq5, .ref bq6, .ref bq7])) = H5 at W5 m5 ⊢
    refine ⟨_, rfl, .inl ⟨rfl, _, SqL.of (W5.get (.tail _ (.head _)))⟩, ?_⟩
    have c0 : MtsAt H5 [] [] := trivial
    refine ⟨le4, fun cq1 cH1 _ cs1 ch1 => ?_⟩
    have c1 := (c0.tk (TK.same cs1)).app (show MtsAt cH1 [.ref cq1] [⟨3, 0, 0, 1⟩] from ⟨⟨cq1, rfl, ch1⟩, trivial⟩)
    refine ⟨le4, fun cq2 cH2 _ cs2 ch2 => ?_⟩
    have c2 := (c1.tk (TK.same cs2)).app (show MtsAt cH2 [.ref cq2] [⟨2, 1, 1, 2⟩] from ⟨⟨cq2, rfl, ch2⟩, trivial⟩)
    refine ⟨le4, fun cq3 cH3 _ cs3 ch3 => ?_⟩
    have c3 := (c2.tk (TK.same cs3)).app (show MtsAt cH3 [.ref cq3] [⟨1, 2, 2, 1⟩] from ⟨⟨cq3, rfl, ch3⟩, trivial⟩)
    refine ⟨le4, fun cq4 cH4 _ cs4 ch4 => ?_⟩
    have c4 := (c3.tk (TK.same cs4)).app (show MtsAt cH4 [.ref cq4] [⟨0, 3, 1, 0⟩] from ⟨⟨cq4, rfl, ch4⟩, trivial⟩)
    refine ⟨le4, fun cq5 cH5 _ cs5 ch5 => ?_⟩
    have c5 := (c4.tk (TK.same cs5)).app (show MtsAt cH5 [.ref cq5] [⟨1, 0, 0, 3⟩] from ⟨⟨cq5, rfl, ch5⟩, trivial⟩)
    have sc := (cs1.trans (cs2.trans (cs3.trans (cs4.trans cs5))))
    refine ⟨by show 5 ≤ 1000000; decide, (W5.same sc).nw fun l3 H7 _ _ s7 W7 => ?_⟩
    refine ⟨l, l3, _, _, rfl, rfl, W7.get (.tail _ (.tail _ (.head _))), W7.get (.head _), by show 19 ≤ sizeLine; decide, ?_⟩
    have m7 := (m5.tk (TK.same (sc.trans s7))).app (c5.tk (TK.same s7))
    have W8 := W7.set 2 rfl (.lst ([.ref aq1, .ref aq2, .ref aq3, .ref aq4, .ref aq5, .ref aq6, .ref aq7] ++ [.ref bq1, .ref bq2, .ref bq3, .ref bq4, .ref bq5, .ref bq6, .ref bq7] ++ [.ref cq1, .ref cq2, .ref cq3, .ref cq4, .ref cq5]))
    have m8 := m7.tk (TK.upd (o := .lst ([.ref aq1, .ref aq2, .ref aq3, .ref aq4, .ref aq5, .ref aq6, .ref aq7] ++ [.ref bq1, .ref bq2, .ref bq3, .ref bq4, .ref bq5, .ref bq6, .ref bq7] ++ [.ref cq1, .ref cq2, .ref cq3, .ref cq4, .ref cq5])) (W7.get (.tail _ (.tail _ (.head _)))) rfl)
    generalize upd H7 l (.lst ([.ref aq1, .ref aq2, .ref aq3, .ref aq4, .ref aq5, .ref aq6, .ref aq7] ++ [.ref bq1, .ref bq2, .ref bq3, .ref bq4, .ref bq5, .ref bq6, .ref bq7] ++ [.ref cq1, .ref cq2, .ref cq3, .ref cq4, .ref cq5])) = H8 at W8 m8 ⊢
    have g8 := W8.get (.tail _ (.tail _ (.head _)))
    have n8 := W8.ne (.tail _ (.tail _ (.head _)))
    have W8 := W8.nil
    clear W7 m7 c5 W5 m5 W4 m4 W2 b7 a7
    have m8 : MtsAt H8 ([.ref aq1, .ref aq2, .ref aq3, .ref aq4, .ref aq5, .ref aq6, .ref aq7] ++ [.ref bq1, .ref bq2, .ref bq3, .ref bq4, .ref bq5, .ref bq6, .ref bq7] ++ [.ref cq1, .ref cq2, .ref cq3, .ref cq4, .ref cq5]) mats := m8
    have l8 : ([.ref aq1, .ref aq2, .ref aq3, .ref aq4, .ref aq5, .ref aq6, .ref aq7] ++ [.ref bq1, .ref bq2, .ref bq3, .ref bq4, .ref bq5, .ref bq6, .ref bq7] ++ [.ref cq1, .ref cq2, .ref cq3, .ref cq4, .ref cq5] : List V).length = 19 := rfl
    generalize ([.ref aq1, .ref aq2, .ref aq3, .ref aq4, .ref aq5, .ref aq6, .ref aq7] ++ [.ref bq1, .ref bq2, .ref bq3, .ref bq4, .ref bq5, .ref bq6, .ref bq7] ++ [.ref cq1, .ref cq2, .ref cq3, .ref cq4, .ref cq5] : List V) = xs at m8 g8 l8
    refine ⟨_, rfl, _, rfl, _, rfl, by show 3 ≤ 1000000; decide, W8.nw fun pl H9 _ _ s9 W9 => ?_⟩
    refine ⟨B, pl, _, rfl, W9.box, (W9.ne (.head _)).1, (W9.ne (.head _)).2, .inl (SqL.of (W9.get (.head _))), by show 0 < 3; decide, by show 3 ≤ 100000; decide, fun d v H10 hv kp10 hb10 => ?_⟩
    have hi : ∃ i : Int, v = .int i ∧ 1 ≤ i := by
      have hm := List.mem_of_getElem? hv
      simp only [List.mem_cons, List.not_mem_nil, or_false] at hm
      rcases hm with rfl | rfl | rfl
      · exact ⟨8, rfl, by decide⟩
      · exact ⟨14, rfl, by decide⟩
      · exact ⟨19, rfl, by decide⟩
    obtain ⟨i, rfl, hi⟩ := hi
    have t10 : TK H8 H10 := (TK.same s9).trans (TK.keep W9.box kp10)
    have W10 := W9.keep kp10 hb10
    refine ⟨i, rfl, l, xs, rfl, SqL.of (kp10 _ _ n8.1 n8.2 (s9 _ _ g8)), fun p hp => ?_⟩
    have W11 := W10.new hp (.lst (cutV xs none (some i)))
    refine ⟨B, p, _, rfl, W11.box, (W11.ne (.head _)).1, (W11.ne (.head _)).2, .inl (SqL.of upd_same), ?_, ?_, fun d' v' H12 hv' kp12 hb12 => ?_⟩
    · have e : HT.sIx xs.length xs.length (some i) = min i.toNat xs.length := if_neg (by omega)
      unfold cutV
      rw [HT.sIx_none, e, List.length_take, List.length_drop]
      omega
    · have := cutV_length xs none (some i)
      omega
    · have hm : v' ∈ xs := List.mem_of_mem_drop (List.mem_of_mem_take (List.mem_of_getElem? hv'))
      obtain ⟨j, hj⟩ := List.mem_iff_getElem?.mp hm
      obtain ⟨q, m, rfl, hmm, hq⟩ := ((m8.tk t10).tk (TK.new hp)).at hj
      have W12 := W11.keep kp12 hb12
      exact k m q H12 hmm (TK.keep W11.box kp12 _ _ rfl hq) W12.kp W12.box
--@*
end

/-! ## what the laws over programs draw: worlds and tests -/
namespace Pg
def Tst.Ok : Tst → Prop
  | .holds n k => nameOk n = true ∧ 0 ≤ k ∧ k < 1000000
  | .not t => t.Ok
  | _ => True
/-- a test as data -/
def TstD (H : Hp) : V → Tst → Prop
  | v, .holds n k => ∃ p, v = .ref p ∧ H p = some (.tup [.str "holds", .str n, .int k])
  | v, .not t => ∃ p u, v = .ref p ∧ H p = some (.tup [.str "not", u]) ∧ TstD H u t
  | v, .longer => ∃ p, v = .ref p ∧ H p = some (.tup [.str "longer"])
  | v, .shorter => ∃ p, v = .ref p ∧ H p = some (.tup [.str "shorter"])
  | v, .alike => ∃ p, v = .ref p ∧ H p = some (.tup [.str "alike"])
theorem TstD.tk {H H' : Hp} (s : TK H H') : ∀ {t : Tst} {v : V}, TstD H v t → TstD H' v t
  | .holds n k, _, ⟨p, e, h⟩ => ⟨p, e, s _ _ rfl h⟩
  | .not t, _, ⟨p, u, e, h, r⟩ => ⟨p, u, e, s _ _ rfl h, TstD.tk s r⟩
  | .longer, _, ⟨p, e, h⟩ => ⟨p, e, s _ _ rfl h⟩
  | .shorter, _, ⟨p, e, h⟩ => ⟨p, e, s _ _ rfl h⟩
  | .alike, _, ⟨p, e, h⟩ => ⟨p, e, s _ _ rfl h⟩
/-- notes as pairs -/
def NotesAt (H : Hp) : List V → List (Str × Int) → Prop
  | [], [] => True
  | v :: vs, m :: ms => (∃ q, v = .ref q ∧ H q = some (.tup [.str m.1, .int m.2]) ∧ nameOk m.1 = true ∧ 0 ≤ m.2 ∧ m.2 < 1000000) ∧ NotesAt H vs ms
  | _, _ => False
theorem NotesAt.tk {H H' : Hp} (s : TK H H') : ∀ {xs : List V} {ms : List (Str × Int)}, NotesAt H xs ms → NotesAt H' xs ms
  | [], [], _ => trivial
  | _ :: _, _ :: _, ⟨⟨q, e, h, r⟩, t⟩ => ⟨⟨q, e, s _ _ rfl h, r⟩, NotesAt.tk s t⟩
theorem NotesAt.len {H : Hp} : ∀ {xs : List V} {ms : List (Str × Int)}, NotesAt H xs ms → xs.length = ms.length
  | [], [], _ => rfl
  | _ :: _, _ :: _, ⟨_, t⟩ => congrArg Nat.succ (NotesAt.len t)
theorem NotesAt.at {H : Hp} : ∀ {xs : List V} {ms : List (Str × Int)} {i : Nat} {v : V}, NotesAt H xs ms → xs[i]? = some v → ∃ q m, v = .ref q ∧ m ∈ ms ∧ H q = some (.tup [.str m.1, .int m.2]) ∧ nameOk m.1 = true ∧ 0 ≤ m.2 ∧ m.2 < 1000000
  | [], [], _, _, _, h => by simp at h
  | v :: vs, m :: ms, i, w, ⟨⟨q, e, h, r⟩, t⟩, hi => by
    cases i with
    | zero => cases hi; exact ⟨q, m, e, .head _, h, r⟩
    | succ i =>
      obtain ⟨q', m', e', hm, h'⟩ := NotesAt.at t (by simpa using hi)
      exact ⟨q', m', e', .tail _ hm, h'⟩
/-- a world: notes and marks -/
def WorldAt (B : Bx) (H : Hp) (w : Addr) (ns : List (Str × Int)) (ms : List Str) : Prop := ∃ a b xs, H w = some (.tup [.ref a, .ref b]) ∧ (a ≠ B.1 ∧ a ≠ B.2) ∧ (b ≠ B.1 ∧ b ≠ B.2) ∧ H a = some (.lst xs) ∧ NotesAt H xs ns ∧ ns.length ≤ 2 ∧ H b = some (.lst (ms.map V.str)) ∧ (∀ z ∈ ms, nameOk z = true) ∧ 1 ≤ ms.length ∧ ms.length ≤ 3
theorem WorldAt.keep {B : Bx} {H H' : Hp} {w : Addr} {ns : List (Str × Int)} {ms : List Str} (hb : BoxAt H B) (s : Keep B H H') (h : WorldAt B H w ns ms) : WorldAt B H' w ns ms := by
  obtain ⟨a, b, xs, h1, h2, h3, h4, h5, h6, h7, h8⟩ := h
  have t := TK.keep hb s
  exact ⟨a, b, xs, t _ _ rfl h1, h2, h3, s _ _ h2.1 h2.2 h4, h5.tk t, h6, s _ _ h3.1 h3.2 h7, h8⟩
theorem okLet {z : Str} (h : ∀ c ∈ z.cps.toList, c < 128) : PyData.strOk z = true := by
  unfold PyData.strOk
  rw [← Array.all_toList, List.all_eq_true]
  intro c hc
  exact decide_eq_true (Nat.lt_trans (h c hc) (by decide))
theorem name_low {z : Str} (h : nameOk z = true) : ∀ c ∈ z.cps.toList, c < 128 := by
  unfold nameOk at h
  simp only [Bool.and_eq_true, List.all_eq_true, decide_eq_true_eq] at h
  intro c hc
  have hm := h.2 c hc
  have key : letters.cps.toList.all (fun c => decide (c < 128)) = true := by decide +kernel
  exact of_decide_eq_true (List.all_eq_true.mp key c hm)
theorem name_str {z : Str} (h : nameOk z = true) : PyData.strOk z = true := okLet (name_low h)
def noteD (m : Str × Int) : PyData := .tuple [.str m.1, .int m.2]
theorem NotesAt.dp {K : PySem.W.Frag} {H : Hp} : ∀ {xs : List V} {ms : List (Str × Int)}, NotesAt H xs ms → DpAll K H xs (ms.map noteD)
  | [], [], _ => .nil
  | _ :: _, m :: _, ⟨⟨q, e, h, _⟩, t⟩ => by subst e; exact .cons (.tup (SqT.of h) (.cons (.str m.1) (.cons (.int m.2) .nil))) (NotesAt.dp t)
theorem NotesAt.can {H : Hp} : ∀ {xs : List V} {ms : List (Str × Int)}, NotesAt H xs ms → PyData.canLayAll0 (ms.map noteD) = true ∧ PyData.depthAll (ms.map noteD) ≤ 4
  | [], [], _ => ⟨rfl, Nat.zero_le _⟩
  | _ :: _, m :: _, ⟨⟨q, e, h, nk, _⟩, t⟩ => by
    have ih := NotesAt.can t
    refine ⟨?_, Nat.max_le.mpr ⟨Nat.le_of_ble_eq_true rfl, ih.2⟩⟩
    show ((PyData.strOk m.1 && (true && true)) && PyData.canLayAll0 _) = true
    rw [name_str nk, ih.1]; rfl
theorem NotesAt.sh {H : Hp} {xs : List V} {ms : List (Str × Int)} (h : NotesAt H xs ms) : SeqAt.shaped (.list (ms.map noteD)) = true := by
  have c := h.can
  show (PyData.canLayAll0 _ && decide (PyData.depthAll _ + 1 ≤ 64)) = true
  rw [c.1, decide_eq_true (by omega)]; rfl
/-- notes as a program takes them -/
def NOk (ns : List (Str × Int)) : Prop := (∀ m ∈ ns, nameOk m.1 = true ∧ 2 ≤ m.2 ∧ m.2 ≤ 4) ∧ (ns.map (·.1)).Nodup
def sp_world : Sp := fun vs H Q _ => ∃ B : Bx, vs = [.ref B.1] ∧ BoxAt H B ∧ ∀ (w : Addr) (ns : List (Str × Int)) (ms : List Str) (H' : Hp), WorldAt B H' w ns ms → NOk ns → Keep B H H' → BoxAt H' B → Q (.ref w) H'
def sp_test : Sp := fun vs H Q _ => ∃ (B : Bx) (w : Addr) (ns : List (Str × Int)) (ms : List Str), vs = [.ref B.1, .ref w] ∧ BoxAt H B ∧ WorldAt B H w ns ms ∧ ∀ (t : Tst) (v : V) (H' : Hp), TstD H' v t → t.Ok → t.deep ≤ 2 → (∀ z ∈ t.uses, z ∈ ns.map (·.1)) → Keep B H H' → BoxAt H' B → Q v H'
end Pg
open Pg
section
variable {P : Program} {w : World} {K : PySem.W.Frag} {mg : Str → Option Value} {base : Heap}
--@world
theorem ok_world {f : Addr} {fd : FuncData} (F : Fun K "_law_world" "_law_world" S__law_world f fd) (T : Txt K mg) (C_draw : FnC P w K mg base CX0 1 "_law_draw" ["_law_deal_here", "_law_many"] sp_draw) (C_name : FnC P w K mg base CX0 3 "_law_name" ["_law_deal_here"] sp_name) : FnOk P w K mg base CX0 4 f fd ["_law_deal_here"] sp_world := by
  refine F.ok SC__law_world (fun vs H Q E h => ?_) (fun cdv A outer s H vs Q E hr h => ?_)
  · obtain ⟨B, rfl, _⟩ := h
    rfl
  · obtain ⟨B, rfl, hb, k⟩ := h
    refine ⟨_, (pss_cons (ps_par (i := 1) (j := 2) (by rfl) SC__law_world.nd rfl rfl (by decide) rfl rfl (pa_cons (pe_callC C_name (hr.mono (by decide)) rfl (pa_cons (pv 0) pa_nil)) (pa_cons (pe_callC C_name (hr.mono (by decide)) rfl (pa_cons (pv 0) pa_nil)) pa_nil)) (by rfl))
      (pss_mid (ps_if (pt_cmpR op_eq (pv 2) (pv 1) (nomark _)) (pss_one (ps_set (i := 2) SC__law_world.nd rfl (.inl rfl) (pe_ifExp (pt_cmpR op_ne (pv 1) pe_str (nomark _)) pe_str pe_str))) pss_nil)
      (pss_cons (ps_set (i := 3) SC__law_world.nd rfl (.inl rfl) (pe_lstN (pa_cons (pe_tupN (pa_cons (pv 1) (pa_cons (pe_op op_add pe_int (pe_callC C_draw (hr.mono (by decide)) rfl (pa_cons (pv 0) (pa_cons pe_int pa_nil)))) pa_nil))) (pa_cons (pe_tupN (pa_cons (pv 2) (pa_cons (pe_op op_add pe_int (pe_callC C_draw (hr.mono (by decide)) rfl (pa_cons (pv 0) (pa_cons pe_int pa_nil)))) pa_nil))) pa_nil))))
      (pss_one (ps_ret (pe_tupN (pa_cons (pe_slice sl_list (pv 3) po_none (po_some (pe_callC C_draw (hr.mono (by decide)) rfl (pa_cons (pv 0) (pa_cons pe_int pa_nil))))) (pa_cons (pe_lc (own := [("_law_k", 4)]) (g := gName 4) (by rfl) SC__law_world.nd (pi_range1 (by rfl) T.b_range (pa_cons (pe_op op_add pe_int (pe_callC C_draw (hr.mono (by decide)) rfl (pa_cons (pv 0) (pa_cons pe_int pa_nil)))) pa_nil)) (blkOk_by (own := [("_law_k", 4)]) (N := N__law_world) (sc := defScope S__law_world) (by decide +kernel)) (fun _ _ _ _ _ => pg_name (i := 4) SC__law_world.nd rfl (Or.inl rfl)) (fun _ _ _ _ _ => pts_nil) (fun _ _ _ _ _ => (pe_callC C_name (hr.mono (by decide)) rfl (pa_cons (pv 0) pa_nil)))) pa_nil)))))))), ?_⟩
    have W0 := Hb.start hb
    refine ⟨_, rfl, B, rfl, hb, fun z1 H1 n1 kp1 hb1 => ?_⟩
    refine ⟨_, rfl, B, rfl, hb1, fun z2 H2 n2 kp2 hb2 => ?_⟩
    have W2 := (W0.keep kp1 hb1).keep kp2 hb2
    refine ⟨_, _, rfl, ?_⟩
    refine ⟨fun σ H' => H' = H2 ∧ ∃ z3, nameOk z3 = true ∧ z3 ≠ z1 ∧ σ = [some (.ref B.1), some (.str z1), some (.str z3), none, none], ?_, fun σ H' m => ?_⟩
    · refine ⟨_, rfl, _, rfl, rfl, _, rfl, ?_⟩
      refine ite2 (fun _ => ?_) (fun c => ⟨rfl, z2, n2, fun e => c (decide_eq_true (congrArg V.str e)), rfl⟩)
      refine ⟨_, rfl, rfl, _, rfl, ?_⟩
      refine ite2 (fun c => ⟨rfl, _, by decide +kernel, fun e => ?_, rfl⟩) (fun c => ⟨rfl, _, by decide +kernel, fun e => ?_, rfl⟩)
      · rw [← e] at c
        exact absurd c (by decide +kernel)
      · rw [← e] at c
        exact c (by decide +kernel)
    · obtain ⟨rfl, z3, n3, n31, rfl⟩ := m
      refine ⟨_, rfl, _, rfl, B, _, rfl, hb2, by decide, by decide, fun d1 H3 p0 p1 kp3 hb3 => ⟨_, _, rfl, rfl, ?_⟩⟩
      refine ⟨by show 2 ≤ 1000000; decide, (W2.keep kp3 hb3).nw fun q1 H4 _ _ s4 W4 => ?_⟩
      refine ⟨_, rfl, _, rfl, B, _, rfl, W4.box, by decide, by decide, fun d2 H5 r0 r1 kp5 hb5 => ⟨_, _, rfl, rfl, ?_⟩⟩
      refine ⟨by show 2 ≤ 1000000; decide, (W4.keep kp5 hb5).nw fun q2 H6 _ _ s6 W6 => ?_⟩
      refine ⟨by show 2 ≤ 1000000; decide, W6.nw fun l H7 _ _ s7 W7 => ?_⟩
      refine ⟨_, rfl, _, rfl, B, _, rfl, W7.box, by decide, by decide, fun c H8 c0 c1 kp8 hb8 => ⟨c, rfl, l, _, rfl, SqL.of ((W7.keep kp8 hb8).get (.head _)), fun a ha => ?_⟩⟩
      have W9 := (W7.keep kp8 hb8).new ha (.lst (cutV [.ref q1, .ref q2] none (some c)))
      refine ⟨_, rfl, B, _, rfl, W9.box, by decide, by decide, fun e H10 e0 e1 kp10 hb10 => ⟨_, _, rfl, rfl, _, rfl, by show -(2 ^ 62) ≤ 1 + e; omega, by show 1 + e < 2 ^ 62; omega, fun D hD => ?_⟩⟩
      have W10 := W9.keep kp10 hb10
      refine lcR_range (fun i H' => ∃ ms : List Str, ms.length = i ∧ (∀ z ∈ ms, nameOk z = true) ∧ Hb B H H' ((D, .lst (ms.map V.str)) :: _)) ⟨[], rfl, fun _ h => (nomatch h), W10.new hD _⟩ (fun i H11 hi m => ?_) (gName_mono _) (fun H11 m => ?_)
      · obtain ⟨ms, hl, hc, W11⟩ := m
        refine ⟨rfl, _, rfl, B, rfl, W11.box, fun z H12 nz kp12 hb12 => ?_⟩
        have W12 := W11.keep kp12 hb12
        refine ⟨_, W12.get (.head _), ?_, ms ++ [z], by rw [List.length_append, hl]; rfl, fun y hy => ?_, ?_⟩
        · rw [List.length_map]
          exact szs (by omega)
        · rcases List.mem_append.mp hy with h | h
          · exact hc y h
          · rw [List.mem_singleton.mp h]; exact nz
        · rw [List.map_append]
          exact W12.set 0 rfl _
      · obtain ⟨ms, hl, hc, W11⟩ := m
        refine ⟨by show 2 ≤ 1000000; decide, W11.nw fun wd H13 _ _ _ W13 => ?_⟩
        have gq1 := W13.get (.tail _ (.tail _ (.tail _ (.tail _ (.tail _ (.head _))))))
        have gq2 := W13.get (.tail _ (.tail _ (.tail _ (.tail _ (.head _)))))
        have na : ∃ ns, NotesAt H13 (cutV [.ref q1, .ref q2] none (some c)) ns ∧ ns.length ≤ 2 ∧ NOk ns := by
          have : c = 0 ∨ c = 1 ∨ c = 2 := by omega
          rcases this with rfl | rfl | rfl
          · exact ⟨[], trivial, by decide, nofun, List.nodup_nil⟩
          · exact ⟨[(z1, 2 + d1)], ⟨⟨q1, rfl, gq1, n1, by show (0 : Int) ≤ 2 + d1; omega, by show 2 + d1 < 1000000; omega⟩, trivial⟩, by show 1 ≤ 2; decide, fun m hm => by rw [List.mem_singleton.mp hm]; exact ⟨n1, by show 2 ≤ 2 + d1; omega, by show 2 + d1 ≤ 4; omega⟩, by simp⟩
          · exact ⟨[(z1, 2 + d1), (z3, 2 + d2)], ⟨⟨q1, rfl, gq1, n1, by show (0 : Int) ≤ 2 + d1; omega, by show 2 + d1 < 1000000; omega⟩, ⟨q2, rfl, gq2, n3, by show (0 : Int) ≤ 2 + d2; omega, by show 2 + d2 < 1000000; omega⟩, trivial⟩, by show 2 ≤ 2; decide, fun m hm => by
              rcases List.mem_cons.mp hm with rfl | hm
              · exact ⟨n1, by show 2 ≤ 2 + d1; omega, by show 2 + d1 ≤ 4; omega⟩
              · rw [List.mem_singleton.mp hm]; exact ⟨n3, by show 2 ≤ 2 + d2; omega, by show 2 + d2 ≤ 4; omega⟩, by simp [Ne.symm n31]⟩
        obtain ⟨ns, hn, ln, nk⟩ := na
        exact k wd ns ms H13 ⟨a, D, _, W13.get (.head _), W13.ne (.tail _ (.tail _ (.head _))), W13.ne (.tail _ (.head _)), W13.get (.tail _ (.tail _ (.head _))), hn, ln, W13.get (.tail _ (.head _)), hc, by omega, by omega⟩ nk W13.kp W13.box
--@test
theorem ok_test {f : Addr} {fd : FuncData} (F : Fun K "_law_test" "_law_test" S__law_test f fd) (T : Txt K mg) (C_draw : FnC P w K mg base CX0 1 "_law_draw" ["_law_deal_here", "_law_many"] sp_draw) (C_pick : FnC P w K mg base CX0 2 "_law_pick" ["_law_deal_here", "_law_some"] (sp_pick K)) (C_num : FnC P w K mg base CX0 3 "_law_number" ["_law_deal_here"] sp_num) : FnOk P w K mg base CX0 4 f fd ["_law_deal_here", "_law_world_here"] sp_test := by
  refine F.ok SC__law_test (fun vs H Q E h => ?_) (fun cdv A outer s H vs Q E hr h => ?_)
  · obtain ⟨B, w, ns, ms, rfl, _⟩ := h
    rfl
  · obtain ⟨B, w, ns, ms, rfl, hb, hw, k⟩ := h
    refine ⟨_, (pss_mid (ps_set (i := 2) SC__law_test.nd rfl (.inl rfl) (pe_callC C_draw (hr.mono (by decide)) rfl (pa_cons (pv 0) (pa_cons (pe_ifExp (pt_cmpR (op_neD hr.units) (pe_ix ix_tup (pv 1) pe_int (fun _ _ => rfl)) (pe_lstN pa_nil) (nomark _)) pe_int pe_int) pa_nil))))
      (pss_mid (ps_set (i := 3) SC__law_test.nd rfl (.inl rfl) (pe_ifExp (pt_cmpR op_lt (pv 2) pe_int (nomark _)) (pe_tupN (pa_cons (pe_ix ix_list (pe_lstN (pa_cons pe_str (pa_cons pe_str (pa_cons pe_str pa_nil)))) (pv 2) (fun _ _ => rfl)) pa_nil)) (pe_tupN pa_nil)))
      (pss_mid (ps_if (pt_cmpR op_ge (pv 2) pe_int (nomark _)) (pss_one (ps_set (i := 3) SC__law_test.nd rfl (.inl rfl) (pe_tupN (pa_cons pe_str (pa_cons (pe_ix ix_tup (pe_callC C_pick (hr.mono (by decide)) rfl (pa_cons (pv 0) (pa_cons (pe_ix ix_tup (pv 1) pe_int (fun _ _ => rfl)) pa_nil))) pe_int (fun _ _ => rfl)) (pa_cons (pe_callC C_num (hr.mono (by decide)) rfl (pa_cons (pv 0) pa_nil)) pa_nil)))))) pss_nil)
      (pss_cons (ps_for PassesOwn.never rfl (pi_range1 (by rfl) T.b_range (pa_cons (pe_ix ix_list (pe_lstN (pa_cons pe_int (pa_cons pe_int (pa_cons pe_int (pa_cons pe_int (pa_cons pe_int pa_nil)))))) (pe_callC C_draw (hr.mono (by decide)) rfl (pa_cons (pv 0) (pa_cons pe_int pa_nil))) (fun _ _ => rfl)) pa_nil)) (pg_name (i := 4) SC__law_test.nd rfl (.inl rfl)) (pss_one (ps_set (i := 3) SC__law_test.nd rfl (.inl rfl) (pe_tupN (pa_cons pe_str (pa_cons (pv 3) pa_nil))))))
      (pss_one (ps_ret (pv 3))))))), ?_⟩
    have W0 := Hb.start hb
    obtain ⟨a, b, xs, hw1, na, nbb, ha, hns, l2, hb', hms, m0, m1⟩ := id hw
    refine ⟨fun σ H' => Hb B H H' [] ∧ ∃ f : Int, 0 ≤ f ∧ (f < 3 ∨ f < 5 ∧ ns ≠ []) ∧ σ = [some (.ref B.1), some (.ref w), some (.int f), none, none], ?_, fun σ H1 m => ?_⟩
    · refine ⟨_, rfl, _, rfl, w, _, 0, .ref a, rfl, rfl, SqT.of hw1, rfl, ?_⟩
      refine ⟨Nat.zero_le _, W0.nw fun e H1 _ _ s1 W1 => ?_⟩
      refine ⟨_, _, .lst (SqL.of (s1 _ _ ha)) (hns.tk (TK.same s1)).dp, .lst (SqL.of (W1.get (.head _))) .nil, hns.sh, rfl, _, rfl, ?_⟩
      rcases ns with _ | ⟨m, ns⟩
      · refine ifF rfl ?_
        exact ⟨B, _, rfl, W1.box, by decide, by decide, fun f H2 f0 f1 kp2 hb2 => ⟨(W1.keep kp2 hb2).tl, f, f0, .inl f1, rfl⟩⟩
      · refine ifT rfl ?_
        exact ⟨B, _, rfl, W1.box, by decide, by decide, fun f H2 f0 f1 kp2 hb2 => ⟨(W1.keep kp2 hb2).tl, f, f0, .inr ⟨f1, by simp⟩, rfl⟩⟩
    · obtain ⟨W1, f, f0, f1, rfl⟩ := m
      refine ⟨fun σ H' => Hb B H H' [] ∧ ∃ p, (f < 3 → ∃ t : Tst, TstD H' (.ref p) t ∧ t.Ok ∧ t.deep = 0 ∧ ∀ z ∈ t.uses, z ∈ ns.map (·.1)) ∧ σ = [some (.ref B.1), some (.ref w), some (.int f), some (.ref p), none], ?_, fun σ H2 m => ?_⟩
      · refine ⟨_, rfl, _, _, rfl, rfl, _, rfl, ?_⟩
        refine ite2 (fun h => ?_) (fun h => ?_)
        · have h : f < 3 := of_decide_eq_true h
          refine ⟨by show 3 ≤ 1000000; decide, W1.nw fun l H2 _ _ s2 W2 => ⟨_, rfl, ?_⟩⟩
          have go : ∀ (z : Str) (t : Tst), (∀ H' p, H' p = some (.tup [.str z]) → TstD H' (.ref p) t) → t.Ok → t.deep = 0 → (∀ z ∈ t.uses, z ∈ ns.map (·.1)) → New H2 (.tup [.str z]) fun v H3 => gName 3 v [some (.ref B.1), some (.ref w), some (.int f), none, none] H3 fun σ H' => Hb B H H' [] ∧ ∃ p, (f < 3 → ∃ t : Tst, TstD H' (.ref p) t ∧ t.Ok ∧ t.deep = 0 ∧ ∀ z ∈ t.uses, z ∈ ns.map (·.1)) ∧ σ = [some (.ref B.1), some (.ref w), some (.int f), some (.ref p), none] :=
            fun z t h1 h2 h3 h4 => W2.nw fun p H3 _ _ _ W3 => ⟨W3.nil, p, fun _ => ⟨t, h1 H3 p (W3.get (.head _)), h2, h3, h4⟩, rfl⟩
          have : f = 0 ∨ f = 1 ∨ f = 2 := by omega
          rcases this with rfl | rfl | rfl
          · exact ⟨l, _, 0, _, rfl, rfl, SqL.of (W2.get (.head _)), rfl, by show 1 ≤ 1000000; decide, go _ .longer (fun H' p h => ⟨p, rfl, h⟩) trivial rfl nofun⟩
          · exact ⟨l, _, 1, _, rfl, rfl, SqL.of (W2.get (.head _)), rfl, by show 1 ≤ 1000000; decide, go _ .shorter (fun H' p h => ⟨p, rfl, h⟩) trivial rfl nofun⟩
          · exact ⟨l, _, 2, _, rfl, rfl, SqL.of (W2.get (.head _)), rfl, by show 1 ≤ 1000000; decide, go _ .alike (fun H' p h => ⟨p, rfl, h⟩) trivial rfl nofun⟩
        · have h : ¬ f < 3 := fun e => h (decide_eq_true e)
          exact ⟨Nat.zero_le _, W1.nw fun p H2 _ _ _ W2 => ⟨W2.nil, p, fun e => absurd e h, rfl⟩⟩
      · obtain ⟨W2, p, hp, rfl⟩ := m
        refine ⟨fun σ H' => Hb B H H' [] ∧ ∃ (v : V) (t : Tst), TstD H' v t ∧ t.Ok ∧ t.deep = 0 ∧ (∀ z ∈ t.uses, z ∈ ns.map (·.1)) ∧ σ = [some (.ref B.1), some (.ref w), some (.int f), some v, none], ?_, fun σ H3 m => ?_⟩
        · refine ⟨_, rfl, _, _, rfl, rfl, _, rfl, ?_⟩
          refine ite2 (fun h => ?_) (fun h => ?_)
          · have h : 3 ≤ f := of_decide_eq_true h
            have nn : ns ≠ [] := f1.elim (fun e => absurd e (by omega)) fun e => e.2
            have lx : xs.length = ns.length := hns.len
            have l0 : 0 < ns.length := List.length_pos_iff.mpr nn
            refine ⟨_, rfl, _, rfl, w, _, 0, .ref a, rfl, rfl, SqT.of (W2.tk _ _ rfl hw1), rfl, ?_⟩
            refine ⟨B, a, xs, rfl, W2.box, na.1, na.2, .inl (SqL.of (W2.kp _ _ na.1 na.2 ha)), by omega, by omega, fun d v H4 hv kp4 hb4 => ?_⟩
            have W4 := W2.keep kp4 hb4
            obtain ⟨q, mm, rfl, hmm, hq, nk, _⟩ := (hns.tk W4.tk).at hv
            refine ⟨q, _, 0, .str mm.1, rfl, rfl, SqT.of hq, rfl, ?_⟩
            refine ⟨_, rfl, B, rfl, hb4, fun i H5 i0 i1 kp5 hb5 => ?_⟩
            refine ⟨by show 3 ≤ 1000000; decide, (W4.keep kp5 hb5).nw fun p' H6 _ _ _ W6 => ?_⟩
            exact ⟨W6.nil, .ref p', .holds mm.1 i, ⟨p', rfl, W6.get (.head _)⟩, ⟨nk, i0, i1⟩, rfl, (fun z hz => by rw [List.mem_singleton.mp hz]; exact List.mem_map.mpr ⟨mm, hmm, rfl⟩), rfl⟩
          · have h : f < 3 := by
              have : ¬ 3 ≤ f := fun e => h (decide_eq_true e)
              omega
            obtain ⟨t, h1, h2, h3, h4⟩ := hp h
            exact ⟨W2, .ref p, t, h1, h2, h3, h4, rfl⟩
        · obtain ⟨W3, v, t, h1, h2, h3, hu, rfl⟩ := m
          refine ⟨by show 5 ≤ 1000000; decide, W3.nw fun l H4 _ _ s4 W4 => ?_⟩
          refine ⟨_, rfl, B, _, rfl, W4.box, by decide, by decide, fun g H5 g0 g1 kp5 hb5 => ?_⟩
          have W5 := W4.keep kp5 hb5
          have hn : ∃ n : Nat, n ≤ 2 ∧ atI [V.int 0, V.int 0, V.int 0, V.int 1, V.int 2] g = some (V.int (n : Nat)) := by
            have : g = 0 ∨ g = 1 ∨ g = 2 ∨ g = 3 ∨ g = 4 := by omega
            rcases this with rfl | rfl | rfl | rfl | rfl
            · exact ⟨0, by decide, rfl⟩
            · exact ⟨0, by decide, rfl⟩
            · exact ⟨0, by decide, rfl⟩
            · exact ⟨1, by decide, rfl⟩
            · exact ⟨2, by decide, rfl⟩
          obtain ⟨n, ln, hat⟩ := hn
          have h5 : TstD H5 v t := (h1.tk (TK.same s4)).tk (TK.keep W4.box kp5)
          refine ⟨l, _, g, _, rfl, rfl, SqL.of (W5.get (.head _)), hat, _, rfl, by omega, by omega, ?_⟩
          refine for_range (lo := 0) (fun i σ H' => Hb B H H' [] ∧ ∃ (v : V) (t : Tst) (y : Option V), TstD H' v t ∧ t.Ok ∧ t.deep ≤ i ∧ (∀ z ∈ t.uses, z ∈ ns.map (·.1)) ∧ σ = [some (.ref B.1), some (.ref w), some (.int f), some v, y]) ⟨W5.nil, v, t, _, h5, h2, by omega, hu, rfl⟩ (fun i σ' H' hi m => ?_) (fun σ' H' m => ?_)
          · obtain ⟨W6, v, t, y, h1, h2, h3, hu, rfl⟩ := m
            refine ⟨_, rfl, by show 2 ≤ 1000000; decide, W6.nw fun p' H7 _ _ s7 W7 => ?_⟩
            exact ⟨W7.nil, .ref p', .not t, _, ⟨p', v, rfl, W7.get (.head _), h1.tk (TK.same s7)⟩, h2, Nat.succ_le_succ h3, hu, rfl⟩
          · obtain ⟨W6, v, t, y, h1, h2, h3, hu, rfl⟩ := m
            exact ⟨_, rfl, k t v H' h1 h2 (by omega) hu W6.kp W6.box⟩
--@*
end

/-! ## rows as they are drawn -/
namespace Pg
def goals : List V := [.str "alike", .str "longer", .str "shorter"]
mutual
def Rw1.Ok : Rw1 → Prop
  | .make m => m ∈ mats
  | .exch => True
  | .lay => True
  | .put n k => nameOk n = true ∧ 0 ≤ k ∧ k < 1000000
  | .add n k => nameOk n = true ∧ 0 ≤ k ∧ k < 1000000
  | .tell m => nameOk m = true
  | .stop => True
  | .ifb t r o => t.Ok ∧ t.deep ≤ 2 ∧ okL r ∧ okL o
  | .untl g r => inV (.str g) goals = true ∧ laysL r = true ∧ hasMake r = false ∧ okL r
def okL : List Rw1 → Prop
  | [] => True
  | r :: rs => r.Ok ∧ okL rs
end
mutual
def RowD (H : Hp) : V → Rw1 → Prop
  | v, .make m => ∃ p q, v = .ref p ∧ H p = some (.tup [.str "make", .ref q]) ∧ H q = some (.tup (mtV m))
  | v, .exch => ∃ p, v = .ref p ∧ H p = some (.tup [.str "exchange"])
  | v, .lay => ∃ p, v = .ref p ∧ H p = some (.tup [.str "lay"])
  | v, .put n k => ∃ p, v = .ref p ∧ H p = some (.tup [.str "put", .str n, .int k])
  | v, .add n k => ∃ p, v = .ref p ∧ H p = some (.tup [.str "add", .str n, .int k])
  | v, .tell m => ∃ p, v = .ref p ∧ H p = some (.tup [.str "tell", .str m])
  | v, .stop => ∃ p, v = .ref p ∧ H p = some (.tup [.str "stop"])
  | v, .ifb t r o => ∃ p u a b xs ys, v = .ref p ∧ H p = some (.tup [.str "if", u, .ref a, .ref b]) ∧ TstD H u t ∧ H a = some (.tup xs) ∧ RowsD H xs r ∧ H b = some (.tup ys) ∧ RowsD H ys o
  | v, .untl g r => ∃ p a xs, v = .ref p ∧ H p = some (.tup [.str "until", .str g, .ref a]) ∧ H a = some (.tup xs) ∧ RowsD H xs r
def RowsD (H : Hp) : List V → List Rw1 → Prop
  | [], [] => True
  | v :: vs, r :: rs => RowD H v r ∧ RowsD H vs rs
  | _, _ => False
end
section
variable {H H' : Hp}
mutual
theorem RowD.tk (s : TK H H') : ∀ {r : Rw1} {v : V}, RowD H v r → RowD H' v r
  | .make m, _, ⟨p, q, e, h, g⟩ => ⟨p, q, e, s _ _ rfl h, s _ _ rfl g⟩
  | .exch, _, ⟨p, e, h⟩ => ⟨p, e, s _ _ rfl h⟩
  | .lay, _, ⟨p, e, h⟩ => ⟨p, e, s _ _ rfl h⟩
  | .put n k, _, ⟨p, e, h⟩ => ⟨p, e, s _ _ rfl h⟩
  | .add n k, _, ⟨p, e, h⟩ => ⟨p, e, s _ _ rfl h⟩
  | .tell m, _, ⟨p, e, h⟩ => ⟨p, e, s _ _ rfl h⟩
  | .stop, _, ⟨p, e, h⟩ => ⟨p, e, s _ _ rfl h⟩
  | .ifb t r o, _, ⟨p, u, a, b, xs, ys, e, h, ht, h2, hr, h3, ho⟩ => ⟨p, u, a, b, xs, ys, e, s _ _ rfl h, ht.tk s, s _ _ rfl h2, RowsD.tk s hr, s _ _ rfl h3, RowsD.tk s ho⟩
  | .untl g r, _, ⟨p, a, xs, e, h, h2, hr⟩ => ⟨p, a, xs, e, s _ _ rfl h, s _ _ rfl h2, RowsD.tk s hr⟩
theorem RowsD.tk (s : TK H H') : ∀ {rs : List Rw1} {vs : List V}, RowsD H vs rs → RowsD H' vs rs
  | [], [], _ => trivial
  | r :: rs, v :: vs, ⟨h, t⟩ => ⟨RowD.tk s h, RowsD.tk s t⟩
end
theorem RowsD.len : ∀ {rs : List Rw1} {vs : List V}, RowsD H vs rs → vs.length = rs.length
  | [], [], _ => rfl
  | _ :: _, _ :: _, ⟨_, t⟩ => congrArg Nat.succ (RowsD.len t)
theorem RowsD.app : ∀ {xs ys : List V} {rs ss : List Rw1}, RowsD H xs rs → RowsD H ys ss → RowsD H (xs ++ ys) (rs ++ ss)
  | [], _, [], _, _, h => h
  | _ :: _, _, _ :: _, _, ⟨a, t⟩, h => ⟨a, RowsD.app t h⟩
theorem RowsD.take : ∀ {xs : List V} {rs : List Rw1} (i : Nat), RowsD H xs rs → RowsD H (xs.take i) (rs.take i)
  | [], [], _, _ => by rw [List.take_nil, List.take_nil]; trivial
  | _ :: _, _ :: _, 0, _ => trivial
  | _ :: _, _ :: _, i + 1, ⟨a, t⟩ => ⟨a, RowsD.take i t⟩
theorem RowsD.drop : ∀ {xs : List V} {rs : List Rw1} (i : Nat), RowsD H xs rs → RowsD H (xs.drop i) (rs.drop i)
  | [], [], _, _ => by rw [List.drop_nil, List.drop_nil]; trivial
  | _ :: _, _ :: _, 0, h => h
  | _ :: _, _ :: _, i + 1, ⟨_, t⟩ => RowsD.drop i t
theorem RowsD.at : ∀ {rs : List Rw1} {vs : List V} {i : Nat} {v : V}, RowsD H vs rs → vs[i]? = some v → ∃ r, rs[i]? = some r ∧ RowD H v r
  | [], [], i, w, _, hi => by simp at hi
  | r :: rs, v :: vs, i, w, ⟨h, t⟩, hi => by
    cases i with
    | zero => cases hi; exact ⟨r, rfl, h⟩
    | succ i => exact RowsD.at (i := i) (v := w) t (by simpa using hi)
end
/-- how many rows there are within one -/
def szR : Nat → Nat
  | 0 => 1
  | d + 1 => 1 + 4 * szR d
theorem szR_pos : ∀ d, 1 ≤ szR d
  | 0 => Nat.le_refl _
  | d + 1 => Nat.le_add_right _ _
theorem laysL_app : ∀ a b : List Rw1, laysL (a ++ b) = (laysL a || laysL b)
  | [], b => rfl
  | r :: a, b => by
    show (r.lays || laysL (a ++ b)) = ((r.lays || laysL a) || laysL b)
    rw [laysL_app a b, Bool.or_assoc]
/-- drawn with this depth -/
structure Drawn (ks : List Str) (d : Nat) (cm : Bool) (r : Rw1) : Prop where
  us : ∀ x ∈ r.inner, ∀ z ∈ x.uses, z ∈ ks
  ok : r.Ok
  dp : r.deep ≤ d
  sz : r.inner.length ≤ szR d
  nm : cm = false → r.inner.any Rw1.isMake = false
def DrawnL (ks : List Str) (d : Nat) (cm : Bool) (rs : List Rw1) : Prop := ∀ r ∈ rs, Drawn ks d cm r
theorem DrawnL.ok {ks : List Str} {d : Nat} {cm : Bool} : ∀ {rs : List Rw1}, DrawnL ks d cm rs → okL rs
  | [], _ => trivial
  | r :: rs, h => ⟨(h r (.head _)).ok, DrawnL.ok fun x hx => h x (.tail _ hx)⟩
theorem DrawnL.us {ks : List Str} {d : Nat} {cm : Bool} : ∀ {rs : List Rw1}, DrawnL ks d cm rs → ∀ x ∈ innerL rs, ∀ z ∈ x.uses, z ∈ ks
  | [], _, _, hx => by cases hx
  | r :: rs, h, x, hx => by
    rcases List.mem_append.mp (show x ∈ r.inner ++ innerL rs from hx) with hx | hx
    · exact (h r (.head _)).us x hx
    · exact DrawnL.us (rs := rs) (fun y hy => h y (.tail _ hy)) x hx
theorem DrawnL.dp {ks : List Str} {d : Nat} {cm : Bool} : ∀ {rs : List Rw1}, DrawnL ks d cm rs → deepL rs ≤ d
  | [], _ => Nat.zero_le _
  | r :: rs, h => Nat.max_le.mpr ⟨(h r (.head _)).dp, DrawnL.dp fun x hx => h x (.tail _ hx)⟩
theorem DrawnL.sz {ks : List Str} {d : Nat} {cm : Bool} : ∀ {rs : List Rw1}, DrawnL ks d cm rs → (innerL rs).length ≤ rs.length * szR d
  | [], _ => Nat.zero_le _
  | r :: rs, h => by
    have h1 := (h r (.head _)).sz
    have h2 := DrawnL.sz (rs := rs) fun x hx => h x (.tail _ hx)
    show (r.inner ++ innerL rs).length ≤ (rs.length + 1) * szR d
    rw [List.length_append, Nat.add_mul]
    omega
theorem DrawnL.nm {ks : List Str} {d : Nat} {cm : Bool} (e : cm = false) : ∀ {rs : List Rw1}, DrawnL ks d cm rs → hasMake rs = false
  | [], _ => rfl
  | r :: rs, h => by
    have h1 := (h r (.head _)).nm e
    have h2 := DrawnL.nm e (rs := rs) fun x hx => h x (.tail _ hx)
    unfold hasMake at h2 ⊢
    show (r.inner ++ innerL rs).any _ = false
    rw [List.any_append, h1, h2]; rfl
theorem Drawn.flat {ks : List Str} {d : Nat} {cm : Bool} {r : Rw1} (ok : r.Ok) (dp : r.deep = 0) (hi : r.inner = [r]) (mk : cm = false → r.isMake = false) (us : ∀ z ∈ r.uses, z ∈ ks) : Drawn ks d cm r := ⟨fun x hx => by rw [hi] at hx; rw [List.mem_singleton.mp hx]; exact us, ok, by omega, by rw [hi]; exact szR_pos d, fun e => by rw [hi]; show (r.isMake || false) = false; rw [mk e]; rfl⟩
theorem Drawn.ifb {ks : List Str} {d : Nat} {cm : Bool} {t : Tst} {r o : List Rw1} (ht : t.Ok) (hd : t.deep ≤ 2) (hr : DrawnL ks d cm r) (ho : DrawnL ks d cm o) (l1 : r.length ≤ 2) (l2 : o.length ≤ 2) (us : ∀ z ∈ t.uses, z ∈ ks) : Drawn ks (d + 1) cm (.ifb t r o) := by
  have s1 := Nat.le_trans hr.sz (Nat.mul_le_mul_right _ l1)
  have s2 := Nat.le_trans ho.sz (Nat.mul_le_mul_right _ l2)
  refine ⟨fun x hx => ?_, ⟨ht, hd, hr.ok, ho.ok⟩, Nat.succ_le_succ (Nat.max_le.mpr ⟨hr.dp, ho.dp⟩), ?_, fun e => ?_⟩
  · rcases List.mem_cons.mp (show x ∈ Rw1.ifb t r o :: (innerL r ++ innerL o) from hx) with rfl | hx
    · exact us
    · rcases List.mem_append.mp hx with hx | hx
      · exact hr.us x hx
      · exact ho.us x hx
  · show (innerL r ++ innerL o).length + 1 ≤ 1 + 4 * szR d
    rw [List.length_append]
    omega
  · have m1 := DrawnL.nm e hr
    have m2 := DrawnL.nm e ho
    unfold hasMake at m1 m2
    show (false || (innerL r ++ innerL o).any _) = false
    rw [List.any_append, m1, m2]; rfl
theorem Drawn.untl {ks : List Str} {d : Nat} {cm : Bool} {g : Str} {r : List Rw1} (hg : inV (.str g) goals = true) (hl : laysL r = true) (hr : DrawnL ks d false r) (l1 : r.length ≤ 4) : Drawn ks (d + 1) cm (.untl g r) := by
  have s1 := Nat.le_trans hr.sz (Nat.mul_le_mul_right _ l1)
  refine ⟨fun x hx => ?_, ⟨hg, hl, DrawnL.nm rfl hr, hr.ok⟩, Nat.succ_le_succ hr.dp, ?_, fun e => ?_⟩
  · rcases List.mem_cons.mp (show x ∈ Rw1.untl g r :: innerL r from hx) with rfl | hx
    · exact nofun
    · exact hr.us x hx
  · show (innerL r).length + 1 ≤ 1 + 4 * szR d
    omega
  · have m1 := DrawnL.nm rfl hr
    unfold hasMake at m1
    show (false || (innerL r).any _) = false
    rw [m1]; rfl
end Pg
open Pg

/-! ## rows drawn -/
namespace Pg
def sp_row (d : Nat) : Sp := fun vs H Q _ => ∃ (B : Bx) (w : Addr) (ns : List (Str × Int)) (ms : List Str) (cm : Bool), vs = [.ref B.1, .ref w, .int (d : Nat), .bl cm] ∧ BoxAt H B ∧ WorldAt B H w ns ms ∧ ∀ (r : Rw1) (v : V) (H' : Hp), RowD H' v r → Drawn (ns.map (·.1)) d cm r → Keep B H H' → BoxAt H' B → Q v H'
def sp_rows (d : Nat) : Sp := fun vs H Q _ => ∃ (B : Bx) (w : Addr) (ns : List (Str × Int)) (ms : List Str) (n : Int) (cm : Bool), vs = [.ref B.1, .ref w, .int n, .int (d : Nat), .bl cm] ∧ BoxAt H B ∧ WorldAt B H w ns ms ∧ 0 ≤ n ∧ n ≤ 10 ∧ ∀ (rs : List Rw1) (p : Addr) (xs : List V) (H' : Hp), H' p = some (.tup xs) → RowsD H' xs rs → rs.length = n.toNat → DrawnL (ns.map (·.1)) d cm rs → Keep B H H' → BoxAt H' B → Q (.ref p) H'
/-- lists of rows drawn -/
def Lists (H : Hp) (ks : List Str) (d : Nat) (cm : Bool) : List V → List (List Rw1) → Prop
  | [], [] => True
  | v :: vs, rs :: rss => (∃ p xs, v = .ref p ∧ H p = some (.tup xs) ∧ RowsD H xs rs ∧ DrawnL ks d cm rs ∧ rs.length ≤ 2) ∧ Lists H ks d cm vs rss
  | _, _ => False
theorem Lists.tk {H H' : Hp} {ks : List Str} {d : Nat} {cm : Bool} (s : TK H H') : ∀ {vs : List V} {rss : List (List Rw1)}, Lists H ks d cm vs rss → Lists H' ks d cm vs rss
  | [], [], _ => trivial
  | _ :: _, _ :: _, ⟨⟨p, xs, e, h, hr, r⟩, t⟩ => ⟨⟨p, xs, e, s _ _ rfl h, hr.tk s, r⟩, Lists.tk s t⟩
theorem Lists.len {H : Hp} {ks : List Str} {d : Nat} {cm : Bool} : ∀ {vs : List V} {rss : List (List Rw1)}, Lists H ks d cm vs rss → vs.length = rss.length
  | [], [], _ => rfl
  | _ :: _, _ :: _, ⟨_, t⟩ => congrArg Nat.succ (Lists.len t)
theorem Lists.app {H : Hp} {ks : List Str} {d : Nat} {cm : Bool} : ∀ {xs ys : List V} {ms ns : List (List Rw1)}, Lists H ks d cm xs ms → Lists H ks d cm ys ns → Lists H ks d cm (xs ++ ys) (ms ++ ns)
  | [], _, [], _, _, h => h
  | _ :: _, _, _ :: _, _, ⟨a, t⟩, h => ⟨a, Lists.app t h⟩
theorem two_of {α : Type} : ∀ {l : List α}, l.length = 2 → ∃ a b, l = [a, b]
  | [a, b], _ => ⟨a, b, rfl⟩
theorem slA {K : PySem.W.Frag} {H : Hp} {a : Addr} {xs : List V} {lo hi : Option Int} {Q : VK} (hx : H a = some (.tup xs)) (k : ∀ p H', Same H H' → H' p = some (.tup (cutV xs lo hi)) → Q (.ref p) H') : rSlA K (.ref a) lo hi H Q := by
  refine ⟨a, xs, rfl, SqT.of hx, fun hw => k a H (Same.refl H) ?_, fun _ p hp => k p _ (sm_new hp) upd_same⟩
  have e : cutV xs lo hi = xs := by
    unfold cutV
    rw [hw.1, hw.2, List.drop_zero, Nat.sub_zero, List.take_length]
  rw [e]; exact hx
theorem catA {K : PySem.W.Frag} {H : Hp} {a b : Addr} {xs ys : List V} {Q : VK} (hx : H a = some (.tup xs)) (hy : H b = some (.tup ys)) (sz : xs.length + ys.length ≤ sizeLine) (k : ∀ p H', Same H H' → H' p = some (.tup (xs ++ ys)) → Q (.ref p) H') : rCatA K (.ref a) (.ref b) H Q := by
  refine ⟨a, b, xs, ys, rfl, rfl, SqT.of hx, SqT.of hy, sz, fun e => ?_, fun _ e => ?_, fun _ _ p hp => k p _ (sm_new hp) upd_same⟩
  · subst e
    exact k b H (Same.refl H) hy
  · subst e
    exact k a H (Same.refl H) (by rw [List.append_nil]; exact hx)
theorem cut_to (xs : List V) {c : Int} (h : 0 ≤ c) : cutV xs none (some c) = xs.take c.toNat := by
  have e : HT.sIx xs.length xs.length (some c) = min c.toNat xs.length := if_neg (by omega)
  unfold cutV
  rw [HT.sIx_none, e, List.drop_zero, Nat.sub_zero]
  by_cases l : c.toNat ≤ xs.length
  · rw [Nat.min_eq_left l]
  · rw [Nat.min_eq_right (by omega), List.take_length, List.take_of_length_le (by omega)]
theorem cut_from (xs : List V) {c : Int} (h : 0 ≤ c) (l : c.toNat ≤ xs.length) : cutV xs (some c) none = xs.drop c.toNat := by
  have e : HT.sIx xs.length 0 (some c) = min c.toNat xs.length := if_neg (by omega)
  unfold cutV
  rw [HT.sIx_none, e, Nat.min_eq_left l]
  exact List.take_of_length_le (by rw [List.length_drop]; omega)
/-- the depth below -/
def sp_rowsP : Nat → Sp
  | 0 => fun _ _ _ _ => False
  | d + 1 => sp_rows d
end Pg
open Pg
section
variable {P : Program} {w : World} {K : PySem.W.Frag} {mg : Str → Option Value} {base : Heap}
--@prow
theorem ok_row {f : Addr} {fd : FuncData} {d : Nat} (F : Fun K "_law_row" "_law_row" S__law_row f fd) (T : Txt K mg) (C_draw : FnC P w K mg base CX0 1 "_law_draw" ["_law_deal_here", "_law_many"] sp_draw) (C_pick : FnC P w K mg base CX0 2 "_law_pick" ["_law_deal_here", "_law_some"] (sp_pick K)) (C_num : FnC P w K mg base CX0 3 "_law_number" ["_law_deal_here"] sp_num) (C_change : FnC P w K mg base CX0 3 "_law_change" ["_law_deal_here"] sp_change) (C_test : FnC P w K mg base CX0 4 "_law_test" ["_law_deal_here", "_law_world_here"] sp_test)
    (C_rows : FnC P w K mg base CX0 (2 * d + 4) "_law_rows" ["_law_deal_here", "_law_world_here", "_law_many", "_law_deep", "_law_can_make"] (sp_rowsP d)) : FnOk P w K mg base CX0 (2 * d + 5) f fd ["_law_deal_here", "_law_world_here", "_law_deep", "_law_can_make"] (sp_row d) := by
  refine F.ok SC__law_row (fun vs H Q E h => ?_) (fun cdv A outer s H vs Q E hr h => ?_)
  · obtain ⟨B, w, ns, ms, cm, rfl, _⟩ := h
    rfl
  · obtain ⟨B, w, ns, ms, cm, rfl, hb, hw, k⟩ := h
    refine ⟨_, (pss_cons (ps_set (i := 4) SC__law_row.nd rfl (.inl rfl) (pe_callC C_draw (hr.mono (by omega)) rfl (pa_cons (pv 0) (pa_cons pe_int pa_nil))))
      (pss_cons (ps_if (pt_cmpR op_lt (pv 4) pe_int (nomark _)) (pss_one (ps_ret (pe_tupN (pa_cons pe_str (pa_cons (pe_callC C_pick (hr.mono (by omega)) rfl (pa_cons (pv 0) (pa_cons (pe_ix ix_tup (pv 1) pe_int (fun _ _ => rfl)) pa_nil))) pa_nil))))) pss_nil)
      (pss_cons (ps_if (pt_cmpR op_lt (pv 4) pe_int (nomark _)) (pss_one (ps_ret (pe_tupN (pa_cons pe_str pa_nil)))) pss_nil)
      (pss_cons (ps_if (pt_cmpR op_eq (pv 4) pe_int (nomark _)) (pss_one (ps_ret (pe_tupN (pa_cons pe_str pa_nil)))) pss_nil)
      (pss_mid (ps_if (PW.pt (pw_and (pt_cmpR op_lt (pv 4) pe_int (nomark _)) (pw_and1 (pt_cmpR (op_neD hr.units) (pe_ix ix_tup (pv 1) pe_int (fun _ _ => rfl)) (pe_lstN pa_nil) (nomark _))))) (pss_one (ps_ret (pe_tupN (pa_cons (pe_ix ix_list (pe_lstN (pa_cons pe_str (pa_cons pe_str pa_nil))) (pe_callTy call_intB (by rfl) T.b_int (by decide +kernel) (pa_cons (pe_cmpR op_gt (pe_callC C_draw (hr.mono (by omega)) rfl (pa_cons (pv 0) (pa_cons pe_int pa_nil))) pe_int (nomark _)) pa_nil)) (fun _ _ => rfl)) (pa_cons (pe_ix ix_tup (pe_callC C_pick (hr.mono (by omega)) rfl (pa_cons (pv 0) (pa_cons (pe_ix ix_tup (pv 1) pe_int (fun _ _ => rfl)) pa_nil))) pe_int (fun _ _ => rfl)) (pa_cons (pe_callC C_num (hr.mono (by omega)) rfl (pa_cons (pv 0) pa_nil)) pa_nil)))))) pss_nil)
      (pss_mid (ps_if (PW.pt (pw_and (pt_cmpR op_eq (pv 4) pe_int (nomark _)) (pw_and1 (pt_val (pv 3))))) (pss_one (ps_ret (pe_tupN (pa_cons pe_str (pa_cons (pe_callC C_change (hr.mono (by omega)) rfl (pa_cons (pv 0) pa_nil)) pa_nil))))) pss_nil)
      (pss_mid (ps_if (PW.pt (pw_and (pt_cmpR op_gt (pv 4) pe_int (nomark _)) (pw_and1 (pt_cmpR op_gt (pv 2) pe_int (nomark _))))) (pss_cons (ps_set (i := 5) SC__law_row.nd rfl (.inl rfl) (pe_callC C_rows (hr.mono (by omega)) rfl (pa_cons (pv 0) (pa_cons (pv 1) (pa_cons (pe_callC C_draw (hr.mono (by omega)) rfl (pa_cons (pv 0) (pa_cons pe_int pa_nil))) (pa_cons (pe_op op_sub (pv 2) pe_int) (pa_cons pe_bl pa_nil)))))))
      (pss_cons (ps_set (i := 6) SC__law_row.nd rfl (.inl rfl) (pe_callC C_draw (hr.mono (by omega)) rfl (pa_cons (pv 0) (pa_cons (pe_op op_add (pe_callB call_len_seq (by rfl) T.b_len (by decide +kernel) (pa_cons (pv 5) pa_nil)) pe_int) pa_nil))))
      (pss_one (ps_ret (pe_tupN (pa_cons pe_str (pa_cons (pe_callC C_pick (hr.mono (by omega)) rfl (pa_cons (pv 0) (pa_cons (pe_lstN (pa_cons pe_str (pa_cons pe_str (pa_cons pe_str (pa_cons pe_str pa_nil))))) pa_nil))) (pa_cons (pe_op op_catA (pe_op op_catA (pe_slice sl_tupA (pv 5) po_none (po_some (pv 6))) (pe_tupN (pa_cons (pe_tupN (pa_cons pe_str pa_nil)) pa_nil))) (pe_slice sl_tupA (pv 5) (po_some (pv 6)) po_none)) pa_nil)))))))) pss_nil)
      (pss_mid (ps_if (PW.pt (pw_and (pt_cmpR op_gt (pv 4) pe_int (nomark _)) (pw_and1 (pt_cmpR op_gt (pv 2) pe_int (nomark _))))) (pss_cons (ps_setLc (i := 5) (own := [("_law_k", 7)]) (g := gName 7) (by rfl) SC__law_row.nd rfl rfl (sw_true rfl rfl rfl (by decide +kernel)) (pi_range1 (by rfl) T.b_range (pa_cons pe_int pa_nil)) (blkOk_by (own := [("_law_k", 7)]) (N := N__law_row) (sc := defScope S__law_row) (by decide +kernel)) (fun _ _ _ _ _ => pg_name (i := 7) SC__law_row.nd rfl (Or.inl rfl)) (fun _ _ _ _ _ => pts_nil) (fun _ _ _ _ _ => (pe_callC C_rows (hr.mono (by omega)) rfl (pa_cons (pv 0) (pa_cons (pv 1) (pa_cons (pe_callC C_draw (hr.mono (by omega)) rfl (pa_cons (pv 0) (pa_cons pe_int pa_nil))) (pa_cons (pe_op op_sub (pv 2) pe_int) (pa_cons (pv 3) pa_nil))))))))
      (pss_one (ps_ret (pe_tupN (pa_cons pe_str (pa_cons (pe_callC C_test (hr.mono (by omega)) rfl (pa_cons (pv 0) (pa_cons (pv 1) pa_nil))) (pa_cons (pe_ix ix_list (pv 5) pe_int (fun _ _ => rfl)) (pa_cons (pe_ix ix_list (pv 5) pe_int (fun _ _ => rfl)) pa_nil)))))))) pss_nil)
      (pss_one (ps_ret (pe_ifExp (pt_cmpR op_eq (pe_callC C_draw (hr.mono (by omega)) rfl (pa_cons (pv 0) (pa_cons pe_int pa_nil))) pe_int (nomark _)) (pe_tupN (pa_cons pe_str pa_nil)) (pe_tupN (pa_cons pe_str (pa_cons (pe_callC C_pick (hr.mono (by omega)) rfl (pa_cons (pv 0) (pa_cons (pe_ix ix_tup (pv 1) pe_int (fun _ _ => rfl)) pa_nil))) pa_nil)))))))))))))), ?_⟩
    have W0 := Hb.start hb
    obtain ⟨a, b, xs, hw1, na, nb, ha, hns, l2, hbm, hms, m0, m1⟩ := id hw
    refine ⟨_, rfl, B, _, rfl, hb, by decide, by decide, fun f H1 f0 f1 kp1 hb1 => ?_⟩
    have W1 := W0.keep kp1 hb1
    clear kp1 hb1
    refine ⟨_, rfl, _, _, rfl, rfl, _, rfl, ?_⟩
    refine ite2 (fun _ => ?_) (fun h1 => ?_)
    · refine ⟨_, rfl, _, rfl, w, _, 1, .ref b, rfl, rfl, SqT.of (W1.tk _ _ rfl hw1), rfl, ?_⟩
      refine ⟨B, b, ms.map V.str, rfl, W1.box, nb.1, nb.2, .inl (SqL.of (W1.kp _ _ nb.1 nb.2 hbm)), by rw [List.length_map]; omega, by rw [List.length_map]; omega, fun d v H2 hv kp2 hb2 => ?_⟩
      obtain ⟨z, hz, rfl⟩ := List.mem_map.mp (List.mem_of_getElem? hv)
      exact ⟨by show 2 ≤ 1000000; decide, (W1.keep kp2 hb2).nw fun p H3 _ _ _ W3 => k (.tell z) (.ref p) H3 ⟨p, rfl, W3.get (.head _)⟩ (.flat (hms z hz) rfl rfl (fun _ => rfl) nofun) W3.kp W3.box⟩
    have h1 : 3 ≤ f := by
      have : ¬ f < 3 := fun e => h1 (decide_eq_true e)
      omega
    refine ⟨_, rfl, _, _, rfl, rfl, _, rfl, ?_⟩
    refine ite2 (fun _ => ?_) (fun h2 => ?_)
    · exact ⟨by show 1 ≤ 1000000; decide, W1.nw fun p H2 _ _ _ W2 => k .lay (.ref p) H2 ⟨p, rfl, W2.get (.head _)⟩ (.flat trivial rfl rfl (fun _ => rfl) nofun) W2.kp W2.box⟩
    refine ⟨_, rfl, rfl, _, rfl, ?_⟩
    refine ite2 (fun _ => ?_) (fun h3 => ?_)
    · exact ⟨by show 1 ≤ 1000000; decide, W1.nw fun p H2 _ _ _ W2 => k .exch (.ref p) H2 ⟨p, rfl, W2.get (.head _)⟩ (.flat trivial rfl rfl (fun _ => rfl) nofun) W2.kp W2.box⟩
    have h4 : 6 ≤ f := by
      have e1 : ¬ f < 5 := fun e => h2 (decide_eq_true e)
      have e2 : ¬ f = 5 := fun e => h3 (by rw [e]; exact decide_eq_true rfl)
      omega
    -- notes
    refine ⟨fun σ H' => Hb B H H' [] ∧ σ = [some (.ref B.1), some (.ref w), some (.int (d : Nat)), some (.bl cm), some (.int f), none, none, none], ?_, fun σ H2 m => ?_⟩
    · refine ⟨_, rfl, _, _, rfl, rfl, _, rfl, ?_⟩
      refine ite2 (fun _ => ?_) (fun _ => ⟨W1, rfl⟩)
      refine ⟨_, rfl, w, _, 0, .ref a, rfl, rfl, SqT.of (W1.tk _ _ rfl hw1), rfl, ?_⟩
      refine ⟨Nat.zero_le _, W1.nw fun e H2 _ _ s2 W2 => ?_⟩
      have hns2 := hns.tk W2.tk
      refine ⟨_, _, .lst (SqL.of (W2.kp _ _ na.1 na.2 ha)) hns2.dp, .lst (SqL.of (W2.get (.head _))) .nil, hns2.sh, rfl, _, rfl, ?_⟩
      rcases ns with _ | ⟨mm, ns⟩
      · exact ifF rfl ⟨W2.tl, rfl⟩
      · refine ifT rfl ?_
        have lx : xs.length = ns.length + 1 := hns.len
        have l2 : ns.length + 1 ≤ 2 := l2
        refine ⟨by show 2 ≤ 1000000; decide, W2.nw fun l H3 _ _ s3 W3 => ?_⟩
        refine ⟨_, rfl, B, _, rfl, W3.box, by decide, by decide, fun g H4 g0 g1 kp4 hb4 => ⟨_, _, rfl, rfl, _, rfl, ?_⟩⟩
        have W4 := W3.keep kp4 hb4
        by_cases cg : decide (0 < g) = true
        · rw [if_pos cg]
          refine ⟨l, _, 1, .str "add", rfl, rfl, SqL.of (W4.get (.head _)), rfl, ?_⟩
          refine ⟨_, rfl, _, rfl, w, _, 0, .ref a, rfl, rfl, SqT.of (W4.tk _ _ rfl hw1), rfl, ?_⟩
          refine ⟨B, a, xs, rfl, W4.box, na.1, na.2, .inl (SqL.of (W4.kp _ _ na.1 na.2 ha)), by omega, by omega, fun d' v H5 hv kp5 hb5 => ?_⟩
          have W5 := W4.keep kp5 hb5
          obtain ⟨q, m2, rfl, hm2, hq, nk, _⟩ := (hns.tk W5.tk).at hv
          refine ⟨q, _, 0, .str m2.1, rfl, rfl, SqT.of hq, rfl, ?_⟩
          refine ⟨_, rfl, B, rfl, hb5, fun i H6 i0 i1 kp6 hb6 => ?_⟩
          exact ⟨by show 3 ≤ 1000000; decide, (W5.keep kp6 hb6).nw fun p H7 _ _ _ W7 => k (.add m2.1 i) (.ref p) H7 ⟨p, rfl, W7.get (.head _)⟩ (.flat ⟨nk, i0, i1⟩ rfl rfl (fun _ => rfl) (fun z hz => by rw [List.mem_singleton.mp hz]; exact List.mem_map.mpr ⟨m2, hm2, rfl⟩)) W7.kp W7.box⟩
        · rw [if_neg cg]
          refine ⟨l, _, 0, .str "put", rfl, rfl, SqL.of (W4.get (.head _)), rfl, ?_⟩
          refine ⟨_, rfl, _, rfl, w, _, 0, .ref a, rfl, rfl, SqT.of (W4.tk _ _ rfl hw1), rfl, ?_⟩
          refine ⟨B, a, xs, rfl, W4.box, na.1, na.2, .inl (SqL.of (W4.kp _ _ na.1 na.2 ha)), by omega, by omega, fun d' v H5 hv kp5 hb5 => ?_⟩
          have W5 := W4.keep kp5 hb5
          obtain ⟨q, m2, rfl, hm2, hq, nk, _⟩ := (hns.tk W5.tk).at hv
          refine ⟨q, _, 0, .str m2.1, rfl, rfl, SqT.of hq, rfl, ?_⟩
          refine ⟨_, rfl, B, rfl, hb5, fun i H6 i0 i1 kp6 hb6 => ?_⟩
          exact ⟨by show 3 ≤ 1000000; decide, (W5.keep kp6 hb6).nw fun p H7 _ _ _ W7 => k (.put m2.1 i) (.ref p) H7 ⟨p, rfl, W7.get (.head _)⟩ (.flat ⟨nk, i0, i1⟩ rfl rfl (fun _ => rfl) (fun z hz => by rw [List.mem_singleton.mp hz]; exact List.mem_map.mpr ⟨m2, hm2, rfl⟩)) W7.kp W7.box⟩
    obtain ⟨W1, rfl⟩ := m
    -- make
    refine ⟨fun σ H' => Hb B H H' [] ∧ σ = [some (.ref B.1), some (.ref w), some (.int (d : Nat)), some (.bl cm), some (.int f), none, none, none], ?_, fun σ H3 m => ?_⟩
    · refine ⟨_, rfl, rfl, _, rfl, ?_⟩
      refine ite2 (fun _ => ?_) (fun _ => ⟨W1, rfl⟩)
      refine ⟨_, rfl, _, rfl, ?_⟩
      cases cm with
      | false => exact ifF rfl ⟨W1, rfl⟩
      | true =>
        refine ifT rfl ?_
        exact ⟨_, rfl, B, rfl, W1.box, fun m q H3 hm hq kp3 hb3 => ⟨by show 2 ≤ 1000000; decide, (W1.keep kp3 hb3).nw fun p H4 _ _ s4 W4 => k (.make m) (.ref p) H4 ⟨p, q, rfl, W4.get (.head _), s4 _ _ hq⟩ (.flat hm rfl rfl nofun nofun) W4.kp W4.box⟩⟩
    obtain ⟨W1, rfl⟩ := m
    -- until
    refine ⟨fun σ H' => Hb B H H' [] ∧ σ = [some (.ref B.1), some (.ref w), some (.int (d : Nat)), some (.bl cm), some (.int f), none, none, none], ?_, fun σ H4 m => ?_⟩
    · refine ⟨_, rfl, _, _, rfl, rfl, _, rfl, ?_⟩
      refine ite2 (fun _ => ?_) (fun _ => ⟨W1, rfl⟩)
      refine ⟨_, rfl, _, _, rfl, rfl, _, rfl, ?_⟩
      cases d with
      | zero => exact ifF rfl ⟨W1, rfl⟩
      | succ d =>
        refine ifT (decide_eq_true (by omega)) ?_
        refine ⟨_, rfl, _, rfl, _, rfl, B, _, rfl, W1.box, by decide, by decide, fun n H5 n0 n1 kp5 hb5 => ?_⟩
        have W5 := W1.keep kp5 hb5
        refine ⟨_, rfl, _, _, rfl, rfl, B, w, ns, ms, n, false, ?_, hb5, hw.keep hb W5.kp, n0, by omega, fun rs p5 xs5 H6 hp hrd hl hdr kp6 hb6 => ?_⟩
        · show [V.ref B.1, V.ref w, V.int n, V.int (((d + 1 : Nat) : Int) - 1), V.bl false] = _
          rw [show (((d + 1 : Nat) : Int) - 1) = ((d : Nat) : Int) by omega]
        have W6 := W5.keep kp6 hb6
        have lx : xs5.length = rs.length := hrd.len
        refine ⟨_, rfl, _, rfl, p5, xs5, rfl, .inr (SqT.of hp), _, _, rfl, rfl, B, _, rfl, hb6, by omega, by omega, fun c H7 c0 c1 kp7 hb7 => ?_⟩
        have t7 := TK.keep W6.box kp7
        have W7 := W6.keep kp7 hb7
        refine ⟨_, rfl, by show 4 ≤ 1000000; decide, W7.nw fun l H8 _ _ s8 W8 => ⟨B, l, _, rfl, W8.box, (W8.ne (.head _)).1, (W8.ne (.head _)).2, .inl (SqL.of (W8.get (.head _))), by show 0 < 4; decide, by show 4 ≤ 100000; decide, fun dd v H9 hv kp9 hb9 => ?_⟩⟩
        have t9 := t7.trans ((TK.same s8).trans (TK.keep W8.box kp9))
        have W9 := (W8.keep kp9 hb9).nil
        have hg : ∃ g : Str, v = .str g ∧ inV (.str g) goals = true := by
          have hm := List.mem_of_getElem? hv
          simp only [List.mem_cons, List.not_mem_nil, or_false] at hm
          rcases hm with rfl | rfl | rfl | rfl <;> exact ⟨_, rfl, by decide +kernel⟩
        obtain ⟨g, rfl, hg⟩ := hg
        have lc : c.toNat ≤ xs5.length := by omega
        refine ⟨_, rfl, _, rfl, c, rfl, slA (t9 _ _ rfl hp) fun pL H10 s10 h10 => ?_⟩
        refine ⟨by show 1 ≤ 1000000; decide, (W9.same s10).nw fun q1 H11 _ _ s11 W11 => ?_⟩
        refine ⟨by show 1 ≤ 1000000; decide, W11.nw fun q2 H12 _ _ s12 W12 => ?_⟩
        refine catA (s12 _ _ (s11 _ _ h10)) (W12.get (.head _)) ?_ fun pM H13 s13 h13 => ?_
        · have := cutV_length xs5 none (some c)
          exact szl (by show _ + 1 ≤ 1000000; omega)
        have h13' := s13 _ _ (s12 _ _ (s11 _ _ (s10 _ _ (t9 _ _ rfl hp))))
        refine ⟨_, rfl, _, rfl, c, rfl, ?_⟩
        dsimp only [tNoPart]
        refine slA h13' fun pR H14 s14 h14 => ?_
        refine catA (s14 _ _ h13) h14 ?_ fun pF H15 s15 h15 => ?_
        · have h1 := cutV_length xs5 none (some c)
          have h2 := cutV_length xs5 (some c) none
          rw [List.length_append]
          exact szl (by show _ + 1 + _ ≤ 1000000; omega)
        refine ⟨by show 3 ≤ 1000000; decide, (((W12.same s13).same s14).same s15).nw fun p H16 _ _ s16 W16 => ?_⟩
        rw [cut_to _ c0, cut_from _ c0 lc] at h15
        have tF : TK H6 H16 := t9.trans (TK.same (s10.trans (s11.trans (s12.trans (s13.trans (s14.trans (s15.trans s16)))))))
        have hrF := hrd.tk tF
        refine k (.untl g (rs.take c.toNat ++ [.lay] ++ rs.drop c.toNat)) (.ref p) H16 ⟨p, pF, _, rfl, W16.get (.head _), s16 _ _ h15, ((hrF.take _).app (ys := [.ref q1]) (ss := [.lay]) ⟨⟨q1, rfl, W16.get (.tail _ (.tail _ (.head _)))⟩, trivial⟩).app (hrF.drop _)⟩ (Drawn.untl hg ?_ (fun r hr => ?_) ?_) W16.kp W16.box
        · rw [laysL_app, laysL_app]
          show ((laysL _ || (true || false)) || laysL _) = true
          rw [Bool.true_or, Bool.or_true, Bool.true_or]
        · rcases List.mem_append.mp hr with h | h
          · rcases List.mem_append.mp h with h | h
            · exact hdr r (List.mem_of_mem_take h)
            · rw [List.mem_singleton.mp h]
              exact .flat trivial rfl rfl (fun _ => rfl) nofun
          · exact hdr r (List.mem_of_mem_drop h)
        · simp only [List.length_append, List.length_take, List.length_drop, List.length_cons, List.length_nil]
          omega
    obtain ⟨W1, rfl⟩ := m
    -- if
    refine ⟨fun σ H' => Hb B H H' [] ∧ σ = [some (.ref B.1), some (.ref w), some (.int (d : Nat)), some (.bl cm), some (.int f), none, none, none], ?_, fun σ H4 m => ?_⟩
    · refine ⟨_, rfl, _, _, rfl, rfl, _, rfl, ?_⟩
      refine ite2 (fun _ => ?_) (fun _ => ⟨W1, rfl⟩)
      refine ⟨_, rfl, _, _, rfl, rfl, _, rfl, ?_⟩
      cases d with
      | zero => exact ifF rfl ⟨W1, rfl⟩
      | succ d =>
        refine ifT (decide_eq_true (by omega)) ?_
        refine ⟨2, rfl, by decide, by decide, fun D hD => ?_⟩
        refine lcR_range (fun i H' => ∃ (ps : List V) (rss : List (List Rw1)), rss.length = i ∧ Lists H' (ns.map (·.1)) d cm ps rss ∧ Hb B H H' [(D, .lst ps)]) ⟨[], [], rfl, trivial, W1.new hD _⟩ (fun i H5 hi m => ?_) (gName_mono _) (fun H5 m => ?_)
        · obtain ⟨ps, rss, hl, hps, W5⟩ := m
          refine ⟨rfl, _, rfl, _, rfl, _, rfl, B, _, rfl, W5.box, by decide, by decide, fun n H6 n0 n1 kp6 hb6 => ?_⟩
          have W6 := W5.keep kp6 hb6
          refine ⟨_, rfl, _, _, rfl, rfl, _, rfl, B, w, ns, ms, n, cm, ?_, hb6, hw.keep hb W6.kp, n0, by omega, fun rs p5 xs5 H7 hp hrd hl5 hdr kp7 hb7 => ?_⟩
          · show [V.ref B.1, V.ref w, V.int n, V.int (((d + 1 : Nat) : Int) - 1), V.bl cm] = _
            rw [show (((d + 1 : Nat) : Int) - 1) = ((d : Nat) : Int) by omega]
          have W7 := W6.keep kp7 hb7
          have t7 : TK H5 H7 := (TK.keep W5.box kp6).trans (TK.keep W6.box kp7)
          have gD := W7.get (.head _)
          have lp := hps.len
          refine ⟨ps, gD, szs (by omega), ps ++ [.ref p5], rss ++ [rs], by rw [List.length_append, hl]; rfl, (((hps.tk t7).app (ys := [.ref p5]) (ns := [rs]) ⟨⟨p5, xs5, rfl, hp, hrd, hdr, by omega⟩, trivial⟩).tk (TK.upd gD rfl)), W7.set 0 rfl _⟩
        · obtain ⟨ps, rss, hl, hps, W5⟩ := m
          refine ⟨_, rfl, _, rfl, B, w, ns, ms, rfl, W5.box, hw.keep hb W5.kp, fun t v H8 ht hok hdp hus kp8 hb8 => ?_⟩
          have W8 := W5.keep kp8 hb8
          have hps8 := hps.tk (TK.keep W5.box kp8)
          obtain ⟨r, o, rfl⟩ := two_of hl
          obtain ⟨v1, v2, rfl⟩ := two_of (hps8.len.trans hl)
          obtain ⟨⟨p1, xs1, rfl, h1, hr1, hd1, l1⟩, ⟨p2, xs2, rfl, h2, hr2, hd2, l2'⟩, _⟩ := hps8
          refine ⟨_, rfl, D, _, 0, .ref p1, rfl, rfl, SqL.of (W8.get (.head _)), rfl, ?_⟩
          refine ⟨_, rfl, D, _, 1, .ref p2, rfl, rfl, SqL.of (W8.get (.head _)), rfl, ?_⟩
          refine ⟨by show 4 ≤ 1000000; decide, W8.nw fun p H9 _ _ s9 W9 => ?_⟩
          have t9 := TK.same s9
          exact k (.ifb t r o) (.ref p) H9 ⟨p, v, p1, p2, xs1, xs2, rfl, W9.get (.head _), ht.tk t9, s9 _ _ h1, hr1.tk t9, s9 _ _ h2, hr2.tk t9⟩ (Drawn.ifb hok hdp hd1 hd2 l1 l2' hus) W9.kp W9.box
    obtain ⟨W1, rfl⟩ := m
    -- stop, tell
    refine ⟨_, rfl, B, _, rfl, W1.box, by decide, by decide, fun g H5 g0 g1 kp5 hb5 => ⟨rfl, _, rfl, ?_⟩⟩
    have W5 := W1.keep kp5 hb5
    refine ite2 (fun _ => ?_) (fun _ => ?_)
    · exact ⟨by show 1 ≤ 1000000; decide, W5.nw fun p H6 _ _ _ W6 => k .stop (.ref p) H6 ⟨p, rfl, W6.get (.head _)⟩ (.flat trivial rfl rfl (fun _ => rfl) nofun) W6.kp W6.box⟩
    · refine ⟨_, rfl, _, rfl, w, _, 1, .ref b, rfl, rfl, SqT.of (W5.tk _ _ rfl hw1), rfl, ?_⟩
      refine ⟨B, b, ms.map V.str, rfl, W5.box, nb.1, nb.2, .inl (SqL.of (W5.kp _ _ nb.1 nb.2 hbm)), by rw [List.length_map]; omega, by rw [List.length_map]; omega, fun d v H2 hv kp2 hb2 => ?_⟩
      obtain ⟨z, hz, rfl⟩ := List.mem_map.mp (List.mem_of_getElem? hv)
      exact ⟨by show 2 ≤ 1000000; decide, (W5.keep kp2 hb2).nw fun p H3 _ _ _ W3 => k (.tell z) (.ref p) H3 ⟨p, rfl, W3.get (.head _)⟩ (.flat (hms z hz) rfl rfl (fun _ => rfl) nofun) W3.kp W3.box⟩
theorem ok_rows {f : Addr} {fd : FuncData} {d : Nat} (F : Fun K "_law_rows" "_law_rows" S__law_rows f fd) (T : Txt K mg) (C_row : FnC P w K mg base CX0 (2 * d + 5) "_law_row" ["_law_deal_here", "_law_world_here", "_law_deep", "_law_can_make"] (sp_row d)) : FnOk P w K mg base CX0 (2 * d + 6) f fd ["_law_deal_here", "_law_world_here", "_law_many", "_law_deep", "_law_can_make"] (sp_rows d) := by
  refine F.ok SC__law_rows (fun vs H Q E h => ?_) (fun cdv A outer s H vs Q E hr h => ?_)
  · obtain ⟨B, w, ns, ms, n, cm, rfl, _⟩ := h
    rfl
  · obtain ⟨B, w, ns, ms, n, cm, rfl, hb, hw, n0, n4, k⟩ := h
    refine ⟨_, (pss_one (ps_ret (pe_callTy call_tuple_of (by rfl) T.b_tuple (by decide +kernel) (pa_cons (pe_lc (own := [("_law_turn", 5)]) (g := gName 5) (by rfl) SC__law_rows.nd (pi_range1 (by rfl) T.b_range (pa_cons (pv 2) pa_nil)) (blkOk_by (own := [("_law_turn", 5)]) (N := N__law_rows) (sc := defScope S__law_rows) (by decide +kernel)) (fun _ _ _ _ _ => pg_name (i := 5) SC__law_rows.nd rfl (Or.inl rfl)) (fun _ _ _ _ _ => pts_nil) (fun _ _ _ _ _ => (pe_callC C_row (hr.mono (by omega)) rfl (pa_cons (pv 0) (pa_cons (pv 1) (pa_cons (pv 3) (pa_cons (pv 4) pa_nil))))))) pa_nil)))), ?_⟩
    have W0 := Hb.start hb
    refine ⟨_, rfl, n, rfl, by show -(2 ^ 62) ≤ n; omega, by show n < 2 ^ 62; omega, fun D hD => ?_⟩
    refine lcR_range (fun i H' => ∃ (ps : List V) (rs : List Rw1), rs.length = i ∧ RowsD H' ps rs ∧ DrawnL (ns.map (·.1)) d cm rs ∧ Hb B H H' [(D, .lst ps)]) ⟨[], [], rfl, trivial, nofun, W0.new hD _⟩ (fun i H5 hi m => ?_) (gName_mono _) (fun H5 m => ?_)
    · obtain ⟨ps, rs, hl, hps, hdr, W5⟩ := m
      refine ⟨rfl, _, rfl, _, rfl, _, rfl, _, rfl, B, w, ns, ms, cm, rfl, W5.box, hw.keep hb W5.kp, fun r v H6 hrd hd kp6 hb6 => ?_⟩
      have W6 := W5.keep kp6 hb6
      have gD := W6.get (.head _)
      have lp := hps.len
      refine ⟨ps, gD, szs (by omega), ps ++ [v], rs ++ [r], by rw [List.length_append, hl]; rfl, (((hps.tk (TK.keep W5.box kp6)).app (ys := [v]) (ss := [r]) ⟨hrd, trivial⟩).tk (TK.upd gD rfl)), fun x hx => ?_, W6.set 0 rfl _⟩
      rcases List.mem_append.mp hx with h | h
      · exact hdr x h
      · rw [List.mem_singleton.mp h]; exact hd
    · obtain ⟨ps, rs, hl, hps, hdr, W5⟩ := m
      refine ⟨D, ps, rfl, .inl ⟨SqL.of (W5.get (.head _)), fun l hl' => ?_⟩⟩
      have W6 := W5.new hl' (.tup ps)
      exact k rs l ps _ upd_same (hps.tk (TK.new hl')) hl hdr W6.kp W6.box
--@*
end
section
variable {P : Program} {w : World} {K : PySem.W.Frag} {mg : Str → Option Value} {base : Heap}
--@prow
/-- rows of any depth drawn -/
theorem rows_all {fR fS : Addr} {dR dS : FuncData} (T : Txt K mg) (FR : Fun K "_law_row" "_law_row" S__law_row fR dR) (FS : Fun K "_law_rows" "_law_rows" S__law_rows fS dS) (C_draw : FnC P w K mg base CX0 1 "_law_draw" ["_law_deal_here", "_law_many"] sp_draw) (C_pick : FnC P w K mg base CX0 2 "_law_pick" ["_law_deal_here", "_law_some"] (sp_pick K)) (C_num : FnC P w K mg base CX0 3 "_law_number" ["_law_deal_here"] sp_num) (C_change : FnC P w K mg base CX0 3 "_law_change" ["_law_deal_here"] sp_change) (C_test : FnC P w K mg base CX0 4 "_law_test" ["_law_deal_here", "_law_world_here"] sp_test)
    (pkR : ∀ {k : Nat} {sp : Sp}, FnOk P w K mg base CX0 k fR dR ["_law_deal_here", "_law_world_here", "_law_deep", "_law_can_make"] sp → FnC P w K mg base CX0 k "_law_row" ["_law_deal_here", "_law_world_here", "_law_deep", "_law_can_make"] sp)
    (pkS : ∀ {k : Nat} {sp : Sp}, FnOk P w K mg base CX0 k fS dS ["_law_deal_here", "_law_world_here", "_law_many", "_law_deep", "_law_can_make"] sp → FnC P w K mg base CX0 k "_law_rows" ["_law_deal_here", "_law_world_here", "_law_many", "_law_deep", "_law_can_make"] sp) :
    ∀ d : Nat, FnC P w K mg base CX0 (2 * d + 6) "_law_rows" ["_law_deal_here", "_law_world_here", "_law_many", "_law_deep", "_law_can_make"] (sp_rows d) := by
  intro d
  induction d with
  | zero => exact pkS (ok_rows FS T (pkR (ok_row (d := 0) FR T C_draw C_pick C_num C_change C_test (pkS fn_false))))
  | succ d ih =>
    have e : 2 * (d + 1) + 4 = 2 * d + 6 := by omega
    exact pkS (ok_rows FS T (pkR (ok_row (d := d + 1) FR T C_draw C_pick C_num C_change C_test (by rw [e]; exact ih))))
--@*
end

/-! ## the texts that are due -/
namespace Pg
def sp_ttext (d : Nat) : Sp := fun vs H Q _ => ∃ (v : V) (t : Tst), vs = [v] ∧ TstD H v t ∧ t.Ok ∧ t.deep < d ∧ d ≤ 10 ∧ Q (.str t.txt) H
theorem txt_len : ∀ {t : Tst}, t.Ok → t.txt.length ≤ 30 + 4 * t.deep
  | .longer, _ => by show ("longer" : Str).length ≤ 30; decide +kernel
  | .shorter, _ => by show ("shorter" : Str).length ≤ 30; decide +kernel
  | .alike, _ => by show ("alike" : Str).length ≤ 30; decide +kernel
  | .holds n k, ⟨h, h0, h1⟩ => by
    show (n ++ " is " ++ st k).length ≤ 30 + 4 * 0
    have a := name_len h
    have b := st_small h0 (by omega)
    rw [app_len, app_len, l_is]
    omega
  | .not t, h => by
    have a := txt_len (t := t) h
    show (("not " : Str) ++ t.txt).length ≤ 30 + 4 * (t.deep + 1)
    rw [app_len, l_not]
    omega
end Pg
open Pg
section
variable {P : Program} {w : World} {K : PySem.W.Frag} {mg : Str → Option Value} {base : Heap}
--@ptext
theorem ok_ttext {f : Addr} {fd : FuncData} {d : Nat} (F : Fun K "_law_test_text" "_law_test_text" S__law_test_text f fd) (T : Txt K mg) (C_ttext : FnC P w K mg base CX0 (d + 1) "_law_test_text" ["_law_test_here"] (sp_ttext d)) : FnOk P w K mg base CX0 (d + 2) f fd ["_law_test_here"] (sp_ttext (d + 1)) := by
  refine F.ok SC__law_test_text (fun vs H Q E h => ?_) (fun cdv A outer s H vs Q E hr h => ?_)
  · obtain ⟨v, t, rfl, _⟩ := h
    rfl
  · obtain ⟨v, t, rfl, ht, hok, dp, d10, k⟩ := h
    refine ⟨_, (pss_cons (ps_if (pt_cmpR op_eq (pe_ix ix_tup (pv 0) pe_int (fun _ _ => rfl)) pe_str (nomark _)) (pss_one (ps_ret (pe_op op_add_str pe_str (pe_callC C_ttext (hr.mono (by omega)) rfl (pa_cons (pe_ix ix_tup (pv 0) pe_int (fun _ _ => rfl)) pa_nil))))) pss_nil)
      (pss_one (ps_ret (pe_ifExp (pt_cmpR op_eq (pe_ix ix_tup (pv 0) pe_int (fun _ _ => rfl)) pe_str (nomark _)) (pe_op op_add_str (pe_op op_add_str (pe_ix ix_tup (pv 0) pe_int (fun _ _ => rfl)) pe_str) (pe_callTy call_str_int (by rfl) T.b_str (by decide +kernel) (pa_cons (pe_ix ix_tup (pv 0) pe_int (fun _ _ => rfl)) pa_nil))) (pe_ix ix_tup (pv 0) pe_int (fun _ _ => rfl)))))), ?_⟩
    cases t with
    | longer =>
      obtain ⟨p, rfl, hp⟩ := ht
      refine ⟨_, rfl, p, _, 0, _, rfl, rfl, SqT.of hp, rfl, rfl, _, rfl, ?_⟩
      refine ifF (by decide +kernel) ?_
      refine ⟨_, rfl, p, _, 0, _, rfl, rfl, SqT.of hp, rfl, rfl, _, rfl, ?_⟩
      refine ifF (by decide +kernel) ?_
      exact ⟨_, rfl, p, _, 0, _, rfl, rfl, SqT.of hp, rfl, k⟩
    | shorter =>
      obtain ⟨p, rfl, hp⟩ := ht
      refine ⟨_, rfl, p, _, 0, _, rfl, rfl, SqT.of hp, rfl, rfl, _, rfl, ?_⟩
      refine ifF (by decide +kernel) ?_
      refine ⟨_, rfl, p, _, 0, _, rfl, rfl, SqT.of hp, rfl, rfl, _, rfl, ?_⟩
      refine ifF (by decide +kernel) ?_
      exact ⟨_, rfl, p, _, 0, _, rfl, rfl, SqT.of hp, rfl, k⟩
    | alike =>
      obtain ⟨p, rfl, hp⟩ := ht
      refine ⟨_, rfl, p, _, 0, _, rfl, rfl, SqT.of hp, rfl, rfl, _, rfl, ?_⟩
      refine ifF (by decide +kernel) ?_
      refine ⟨_, rfl, p, _, 0, _, rfl, rfl, SqT.of hp, rfl, rfl, _, rfl, ?_⟩
      refine ifF (by decide +kernel) ?_
      exact ⟨_, rfl, p, _, 0, _, rfl, rfl, SqT.of hp, rfl, k⟩
    | holds n i =>
      obtain ⟨p, rfl, hp⟩ := ht
      obtain ⟨h, h0, h1⟩ := hok
      have ln := name_len h
      have li := st_small h0 (by omega)
      refine ⟨_, rfl, p, _, 0, _, rfl, rfl, SqT.of hp, rfl, rfl, _, rfl, ?_⟩
      refine ifF (by decide +kernel) ?_
      refine ⟨_, rfl, p, _, 0, _, rfl, rfl, SqT.of hp, rfl, rfl, _, rfl, ?_⟩
      refine ifT (by decide +kernel) ?_
      refine ⟨_, rfl, p, _, 1, _, rfl, rfl, SqT.of hp, rfl, _, _, rfl, rfl, ?_, ?_⟩
      · rw [l_is]
        exact szl (by omega)
      refine ⟨_, rfl, p, _, 2, _, rfl, rfl, SqT.of hp, rfl, i, rfl, st_log h0 (by omega), _, _, rfl, rfl, ?_, k⟩
      rw [app_len, l_is]
      exact szl (by show _ + _ + (st i).length ≤ 1000000; omega)
    | not t =>
      obtain ⟨p, u, rfl, hp, hu⟩ := ht
      have dp : t.deep + 1 < d + 1 := dp
      have lt := txt_len (t := t) hok
      refine ⟨_, rfl, p, _, 0, _, rfl, rfl, SqT.of hp, rfl, rfl, _, rfl, ?_⟩
      refine ifT (by decide +kernel) ?_
      refine ⟨_, rfl, p, _, 1, u, rfl, rfl, SqT.of hp, rfl, u, t, rfl, hu, hok, by omega, by omega, _, _, rfl, rfl, ?_, k⟩
      rw [l_not]
      exact szl (by omega)
--@*
end
section
variable {P : Program} {w : World} {K : PySem.W.Frag} {mg : Str → Option Value} {base : Heap}
--@ptext
theorem ttext_all {fW : Addr} {dW : FuncData} (T : Txt K mg) (F : Fun K "_law_test_text" "_law_test_text" S__law_test_text fW dW) (pk : ∀ {k : Nat} {sp : Sp}, FnOk P w K mg base CX0 k fW dW ["_law_test_here"] sp → FnC P w K mg base CX0 k "_law_test_text" ["_law_test_here"] sp) : ∀ d : Nat, FnC P w K mg base CX0 (d + 1) "_law_test_text" ["_law_test_here"] (sp_ttext d) := by
  intro d
  induction d with
  | zero => exact pk (fn_false.imp fun vs H Q E h => by
      obtain ⟨v, t, _, _, _, dp, _⟩ := h
      exact absurd dp (Nat.not_lt_zero _))
  | succ d ih => exact pk (ok_ttext F T ih)
--@*
end

/-! ## rows as they are drawn: their texts, as data -/
namespace Pg
def Low (z : Str) : Prop := ∀ c ∈ z.cps.toList, c < 128
theorem Low.app {a b : Str} (h : Low a) (g : Low b) : Low (a ++ b) := fun c hc => by
  rw [app_l] at hc
  exact (List.mem_append.mp hc).elim (h c) (g c)
theorem Low.lit {a : Str} (h : (a.cps.toList.all fun c => decide (c < 128)) = true) : Low a := fun c hc => of_decide_eq_true (List.all_eq_true.mp h c hc)
theorem low_st (i : Int) : Low (st i) := fun c hc => by
  unfold Ct.st at hc
  rw [Str.ofString_eq_toList] at hc
  simp only [List.mem_map] at hc
  obtain ⟨ch, hm, rfl⟩ := hc
  rcases PyProof.Rows.int_sign i ch hm with h | h
  · exact PySem.digit_ascii h
  · rw [h]; decide
theorem low_tx (m : Mt) : Low (tx m) := by
  unfold tx
  rw [join_cons2, join_cons2, join_cons2, Pg.join_one]
  have s : Low (" " : Str) := .lit (by decide +kernel)
  exact (((low_st _).app s).app ((((low_st _).app s)).app (((low_st _).app s).app (low_st _))))
theorem goal_of {g : Str} (h : inV (.str g) goals = true) : g = "alike" ∨ g = "longer" ∨ g = "shorter" := by
  simp only [goals, inV, List.any_cons, List.any_nil, Bool.or_false, Bool.or_eq_true] at h
  have key : ∀ z : Str, eqV (.str z) (.str g) = true → g = z := fun z e => by
    have e : z = g := by simpa [eqV] using e
    exact e.symm
  rcases h with h | h | h
  · exact .inl (key _ h)
  · exact .inr (.inl (key _ h))
  · exact .inr (.inr (key _ h))
theorem goal_low {g : Str} (h : inV (.str g) goals = true) : Low g := by
  rcases goal_of h with rfl | rfl | rfl <;> exact .lit (by decide +kernel)
theorem low_txt : ∀ {t : Tst}, t.Ok → Low t.txt
  | .longer, _ => .lit (by decide +kernel)
  | .shorter, _ => .lit (by decide +kernel)
  | .alike, _ => .lit (by decide +kernel)
  | .holds n k, ⟨h, _⟩ => ((show Low n from name_low h).app (b := " is ") (.lit (by decide +kernel))).app (low_st k)
  | .not t, h => (Low.lit (a := "not ") (by decide +kernel)).app (low_txt (t := t) h)
def LowL (ss : List Str) : Prop := ∀ z ∈ ss, Low z
theorem LowL.app {a b : List Str} (h : LowL a) (g : LowL b) : LowL (a ++ b) := fun z hz => (List.mem_append.mp hz).elim (h z) (g z)
theorem LowL.one {z : Str} (h : Low z) : LowL [z] := fun y hy => by rw [List.mem_singleton.mp hy]; exact h
theorem LowL.cons {z : Str} {ss : List Str} (h : Low z) (g : LowL ss) : LowL (z :: ss) := fun y hy => (List.mem_cons.mp hy).elim (fun e => by rw [e]; exact h) (g y)
theorem LowL.els {o : List Rw1} {l : List Str} (h : LowL l) : LowL (elseL o l) := by
  cases o with
  | nil => exact nofun
  | cons _ _ => exact .cons (.lit (by decide +kernel)) h
mutual
theorem low_lines : ∀ {r : Rw1}, r.Ok → LowL r.lines
  | .make m, _ => .one ((Low.lit (a := "make ") (by decide +kernel)).app (low_tx m))
  | .exch, _ => .one (.lit (by decide +kernel))
  | .lay, _ => .one (.lit (by decide +kernel))
  | .put n k, ⟨h, _⟩ => .one ((((Low.lit (a := "put ") (by decide +kernel)).app (show Low n from name_low h)).app (b := " ") (.lit (by decide +kernel))).app (low_st k))
  | .add n k, ⟨h, _⟩ => .one ((((Low.lit (a := "add ") (by decide +kernel)).app (show Low n from name_low h)).app (b := " ") (.lit (by decide +kernel))).app (low_st k))
  | .tell m, h => .one ((Low.lit (a := "tell ") (by decide +kernel)).app (show Low m from name_low h))
  | .stop, _ => .one (.lit (by decide +kernel))
  | .ifb t r o, ⟨ht, _, hr, ho⟩ => .cons ((Low.lit (a := "if ") (by decide +kernel)).app (low_txt ht)) ((low_linesL hr).app ((LowL.els (low_linesL ho)).app (.one (.lit (by decide +kernel)))))
  | .untl g r, ⟨hg, _, _, hr⟩ => .cons ((Low.lit (a := "until ") (by decide +kernel)).app (goal_low hg)) ((low_linesL hr).app (.one (.lit (by decide +kernel))))
theorem low_linesL : ∀ {rs : List Rw1}, okL rs → LowL (linesL rs)
  | [], _ => nofun
  | _ :: _, ⟨h, t⟩ => (low_lines h).app (low_linesL t)
end
theorem ok_strs {rs : List Rw1} (h : okL rs) : ∀ z ∈ linesL rs, PyData.strOk z = true := fun z hz => okLet (low_linesL h z hz)
/-- sizes -/
theorem sum_app (a b : List Str) : sumL (a ++ b) = sumL a + sumL b := by
  simp only [sumL_eq, List.map_append, List.sum_append, List.length_append]
  omega
theorem sum_cons (z : Str) (b : List Str) : sumL (z :: b) = z.length + 1 + sumL b := by
  rw [show z :: b = [z] ++ b from rfl, sum_app, sumL_one]
theorem sum_els (o : List Rw1) (l : List Str) : sumL (elseL o l) ≤ 5 + sumL l := by
  cases o with
  | nil => exact Nat.zero_le _
  | cons _ _ =>
    show sumL (("else" : Str) :: l) ≤ _
    rw [sum_cons, l_else]
    omega
theorem mats_in {m : Mt} (h : m ∈ mats) : m.In 40 := by
  have key : ∀ m ∈ mats, (0 ≤ m.a ∧ m.a < 2 ^ 40) ∧ (0 ≤ m.b ∧ m.b < 2 ^ 40) ∧ (0 ≤ m.c ∧ m.c < 2 ^ 40) ∧ (0 ≤ m.d ∧ m.d < 2 ^ 40) := by
    simp only [mats, List.mem_cons, List.not_mem_nil, or_false]
    rintro m (rfl | rfl | rfl | rfl | rfl | rfl | rfl | rfl | rfl | rfl | rfl | rfl | rfl | rfl | rfl | rfl | rfl | rfl | rfl) <;> decide
  obtain ⟨⟨a, b⟩, ⟨c, d⟩, ⟨e, f⟩, ⟨g, i⟩⟩ := key m h
  exact { a0 := a, a1 := b, b0 := c, b1 := d, c0 := e, c1 := f, d0 := g, d1 := i }
mutual
theorem sum_lines : ∀ {r : Rw1}, r.Ok → sumL r.lines ≤ 100 * r.inner.length
  | .make m, h => by
    have l := tx_len (mats_in h)
    show sumL [("make " : Str) ++ tx m] ≤ 100 * 1
    rw [sumL_one, app_len, l_make]; omega
  | .exch, _ => by show sumL [("exchange" : Str)] ≤ 100; rw [sumL_one]; decide +kernel
  | .lay, _ => by show sumL [("lay" : Str)] ≤ 100; rw [sumL_one]; decide +kernel
  | .put n k, ⟨h, h0, h1⟩ => by
    have a := name_len h
    have b := st_small h0 (by omega)
    show sumL [("put " : Str) ++ n ++ " " ++ st k] ≤ 100 * 1
    rw [sumL_one, app_len, app_len, app_len, l_put, l_sp]; omega
  | .add n k, ⟨h, h0, h1⟩ => by
    have a := name_len h
    have b := st_small h0 (by omega)
    show sumL [("add " : Str) ++ n ++ " " ++ st k] ≤ 100 * 1
    rw [sumL_one, app_len, app_len, app_len, l_add, l_sp]; omega
  | .tell m, h => by
    have a := name_len h
    show sumL [("tell " : Str) ++ m] ≤ 100 * 1
    rw [sumL_one, app_len, l_tell]; omega
  | .stop, _ => by show sumL [("stop" : Str)] ≤ 100; rw [sumL_one]; decide +kernel
  | .ifb t r o, ⟨ht, hd, hr, ho⟩ => by
    have a := txt_len ht
    have b := sum_linesL hr
    have c := sum_linesL ho
    have e := sum_els o (linesL o)
    show sumL ((("if " : Str) ++ t.txt) :: (linesL r ++ (elseL o (linesL o) ++ [("end" : Str)]))) ≤ 100 * (innerL r ++ innerL o).length.succ
    rw [sum_cons, sum_app, sum_app, sumL_one, app_len, l_if, l_end, List.length_append]
    omega
  | .untl g r, ⟨hg, _, _, hr⟩ => by
    have b := sum_linesL hr
    have l : g.length ≤ 7 := by rcases goal_of hg with rfl | rfl | rfl <;> decide +kernel
    show sumL ((("until " : Str) ++ g) :: (linesL r ++ [("end" : Str)])) ≤ 100 * (innerL r).length.succ
    rw [sum_cons, sum_app, sumL_one, app_len, l_until, l_end]
    omega
theorem sum_linesL : ∀ {rs : List Rw1}, okL rs → sumL (linesL rs) ≤ 100 * (innerL rs).length
  | [], _ => Nat.zero_le _
  | r :: rs, ⟨h, t⟩ => by
    have a := sum_lines h
    have b := sum_linesL t
    show sumL (r.lines ++ linesL rs) ≤ 100 * (r.inner ++ innerL rs).length
    rw [sum_app, List.length_append]
    omega
end
theorem len_linesL {rs : List Rw1} (h : okL rs) : (linesL rs).length ≤ 100 * (innerL rs).length := by
  have := sum_linesL h
  rw [sumL_eq] at this
  omega
/-- as data -/
theorem tst_dep : ∀ t : Tst, PyData.depth t.d ≤ t.deep + 2
  | .longer => Nat.le_of_ble_eq_true rfl
  | .shorter => Nat.le_of_ble_eq_true rfl
  | .alike => Nat.le_of_ble_eq_true rfl
  | .holds _ _ => Nat.le_of_ble_eq_true rfl
  | .not t => by
    have a := tst_dep t
    show max 0 (max (PyData.depth t.d) 0) + 1 ≤ t.deep + 1 + 2
    omega
mutual
theorem row_dep : ∀ {r : Rw1}, r.Ok → PyData.depth r.d ≤ 2 * r.deep + 6
  | .make m, _ => Nat.le_of_ble_eq_true rfl
  | .exch, _ => Nat.le_of_ble_eq_true rfl
  | .lay, _ => Nat.le_of_ble_eq_true rfl
  | .put _ _, _ => Nat.le_of_ble_eq_true rfl
  | .add _ _, _ => Nat.le_of_ble_eq_true rfl
  | .tell _, _ => Nat.le_of_ble_eq_true rfl
  | .stop, _ => Nat.le_of_ble_eq_true rfl
  | .ifb t r o, ⟨ht, hd, hr, ho⟩ => by
    have a := tst_dep t
    have b := rows_dep hr
    have c := rows_dep ho
    show max 0 (max (PyData.depth t.d) (max (PyData.depthAll (dL r) + 1) (max (PyData.depthAll (dL o) + 1) 0))) + 1 ≤ 2 * (max (deepL r) (deepL o) + 1) + 6
    omega
  | .untl g r, ⟨hg, _, _, hr⟩ => by
    have b := rows_dep hr
    show max 0 (max 0 (max (PyData.depthAll (dL r) + 1) 0)) + 1 ≤ 2 * (deepL r + 1) + 6
    omega
theorem rows_dep : ∀ {rs : List Rw1}, okL rs → PyData.depthAll (dL rs) ≤ 2 * deepL rs + 6
  | [], _ => Nat.zero_le _
  | r :: rs, ⟨h, t⟩ => by
    have a := row_dep h
    have b := rows_dep t
    show max (PyData.depth r.d) (PyData.depthAll (dL rs)) ≤ 2 * max r.deep (deepL rs) + 6
    omega
end
theorem tst_can : ∀ {t : Tst}, t.Ok → PyData.canLay0 t.d = true
  | .longer, _ => by decide +kernel
  | .shorter, _ => by decide +kernel
  | .alike, _ => by decide +kernel
  | .holds n k, ⟨h, _⟩ => by
    show (PyData.strOk "holds" && (PyData.strOk n && (true && true))) = true
    rw [name_str h]; decide +kernel
  | .not t, h => by
    show (PyData.strOk "not" && (PyData.canLay0 t.d && true)) = true
    rw [tst_can (t := t) h]; decide +kernel
mutual
theorem row_can : ∀ {r : Rw1}, r.Ok → PyData.canLay0 r.d = true
  | .make m, _ => by
    show (PyData.strOk "make" && ((true && (true && (true && (true && true)))) && true)) = true
    decide +kernel
  | .exch, _ => by decide +kernel
  | .lay, _ => by decide +kernel
  | .put n k, ⟨h, _⟩ => by
    show (PyData.strOk "put" && (PyData.strOk n && (true && true))) = true
    rw [name_str h]; decide +kernel
  | .add n k, ⟨h, _⟩ => by
    show (PyData.strOk "add" && (PyData.strOk n && (true && true))) = true
    rw [name_str h]; decide +kernel
  | .tell m, h => by
    show (PyData.strOk "tell" && (PyData.strOk m && true)) = true
    rw [name_str h]; decide +kernel
  | .stop, _ => by decide +kernel
  | .ifb t r o, ⟨ht, hd, hr, ho⟩ => by
    show (PyData.strOk "if" && (PyData.canLay0 t.d && (PyData.canLayAll0 (dL r) && (PyData.canLayAll0 (dL o) && true)))) = true
    rw [tst_can ht, rows_can hr, rows_can ho]; decide +kernel
  | .untl g r, ⟨hg, _, _, hr⟩ => by
    show (PyData.strOk "until" && (PyData.strOk g && (PyData.canLayAll0 (dL r) && true))) = true
    rw [okLet (goal_low hg), rows_can hr]; decide +kernel
theorem rows_can : ∀ {rs : List Rw1}, okL rs → PyData.canLayAll0 (dL rs) = true
  | [], _ => rfl
  | r :: rs, ⟨h, t⟩ => by
    show (PyData.canLay0 r.d && PyData.canLayAll0 (dL rs)) = true
    rw [row_can h, rows_can t]; rfl
end
theorem rows_sh {rs : List Rw1} (h : okL rs) (d : deepL rs ≤ 20) : SeqAt.shaped (.tuple (dL rs)) = true := by
  have a := rows_dep h
  show (PyData.canLayAll0 (dL rs) && decide (PyData.depthAll (dL rs) + 1 ≤ 64)) = true
  rw [rows_can h, decide_eq_true (by omega)]; rfl
section
variable {K : PySem.W.Frag} {H : Hp}
theorem TstD.dp : ∀ {t : Tst} {v : V}, TstD H v t → Dp K H v t.d
  | .longer, _, ⟨p, e, h⟩ => by subst e; exact .tup (SqT.of h) (.cons (.str _) .nil)
  | .shorter, _, ⟨p, e, h⟩ => by subst e; exact .tup (SqT.of h) (.cons (.str _) .nil)
  | .alike, _, ⟨p, e, h⟩ => by subst e; exact .tup (SqT.of h) (.cons (.str _) .nil)
  | .holds n k, _, ⟨p, e, h⟩ => by subst e; exact .tup (SqT.of h) (.cons (.str _) (.cons (.str _) (.cons (.int _) .nil)))
  | .not t, _, ⟨p, u, e, h, r⟩ => by subst e; exact .tup (SqT.of h) (.cons (.str _) (.cons (TstD.dp r) .nil))
mutual
theorem RowD.dp : ∀ {r : Rw1} {v : V}, RowD H v r → Dp K H v r.d
  | .make m, _, ⟨p, q, e, h, g⟩ => by subst e; exact .tup (SqT.of h) (.cons (.str _) (.cons (.tup (SqT.of g) (.cons (.int _) (.cons (.int _) (.cons (.int _) (.cons (.int _) .nil))))) .nil))
  | .exch, _, ⟨p, e, h⟩ => by subst e; exact .tup (SqT.of h) (.cons (.str _) .nil)
  | .lay, _, ⟨p, e, h⟩ => by subst e; exact .tup (SqT.of h) (.cons (.str _) .nil)
  | .put n k, _, ⟨p, e, h⟩ => by subst e; exact .tup (SqT.of h) (.cons (.str _) (.cons (.str _) (.cons (.int _) .nil)))
  | .add n k, _, ⟨p, e, h⟩ => by subst e; exact .tup (SqT.of h) (.cons (.str _) (.cons (.str _) (.cons (.int _) .nil)))
  | .tell m, _, ⟨p, e, h⟩ => by subst e; exact .tup (SqT.of h) (.cons (.str _) (.cons (.str _) .nil))
  | .stop, _, ⟨p, e, h⟩ => by subst e; exact .tup (SqT.of h) (.cons (.str _) .nil)
  | .ifb t r o, _, ⟨p, u, a, b, xs, ys, e, h, ht, h2, hr, h3, ho⟩ => by subst e; exact .tup (SqT.of h) (.cons (.str _) (.cons ht.dp (.cons (.tup (SqT.of h2) (RowsD.dp hr)) (.cons (.tup (SqT.of h3) (RowsD.dp ho)) .nil))))
  | .untl g r, _, ⟨p, a, xs, e, h, h2, hr⟩ => by subst e; exact .tup (SqT.of h) (.cons (.str _) (.cons (.str _) (.cons (.tup (SqT.of h2) (RowsD.dp hr)) .nil)))
theorem RowsD.dp : ∀ {rs : List Rw1} {vs : List V}, RowsD H vs rs → DpAll K H vs (dL rs)
  | [], [], _ => .nil
  | _ :: _, _ :: _, ⟨h, t⟩ => .cons (RowD.dp h) (RowsD.dp t)
end
end
end Pg
open Pg

/-! ## the lines that are due -/
namespace Pg
theorem call_str_is {X : Cx} : CallR X (.type "str") (fun xs H Q => (∃ i : Int, xs = [.int i] ∧ i.natAbs.log2 < 1920 ∧ Q (.str (toString i)) H) ∨ ∃ a, xs = [.str a] ∧ Q (.str a) H) := by
  intro pins s σ H xs us Q I r h
  rcases h with h | ⟨a, rfl, q⟩
  · exact call_str_int pins s σ H xs us Q I r h
  · obtain ⟨u, rfl, t, rfl⟩ := vals1 r
    exact PySem.P.str_of_str ⟨.str a, H, I, ⟨t, rfl⟩, q⟩
/-- parts of a row and their texts -/
def Args : List V → List Str → Prop
  | [], [] => True
  | v :: vs, z :: zs => (v = .str z ∧ z.length ≤ 4 ∨ ∃ i : Int, v = .int i ∧ 0 ≤ i ∧ i < 2 ^ 40 ∧ z = st i) ∧ Args vs zs
  | _, _ => False
theorem Args.len : ∀ {xs : List V} {zs : List Str}, Args xs zs → xs.length = zs.length
  | [], [], _ => rfl
  | _ :: _, _ :: _, ⟨_, t⟩ => congrArg Nat.succ (Args.len t)
theorem Args.at : ∀ {xs : List V} {zs : List Str} {i : Nat} {v : V}, Args xs zs → xs[i]? = some v → ∃ z, zs[i]? = some z ∧ (v = .str z ∧ z.length ≤ 4 ∨ ∃ i : Int, v = .int i ∧ 0 ≤ i ∧ i < 2 ^ 40 ∧ z = st i)
  | [], [], _, _, _, h => by simp at h
  | _ :: _, z :: _, i, v, ⟨a, t⟩, hi => by
    cases i with
    | zero => cases hi; exact ⟨z, rfl, a⟩
    | succ i => exact Args.at (i := i) t (by simpa using hi)
theorem Args.sum : ∀ {xs : List V} {zs : List Str}, Args xs zs → (zs.map fun x => x.length).sum ≤ 13 * zs.length
  | [], [], _ => Nat.zero_le _
  | _ :: _, z :: zs, ⟨a, t⟩ => by
    have ih := Args.sum t
    have l : z.length ≤ 13 := a.elim (fun h => by omega) fun ⟨i, _, h0, h1, e⟩ => by rw [e]; exact st_len h0 h1
    rw [List.map_cons, List.sum_cons, List.length_cons]
    omega
def elsV : List Rw1 → List V
  | [] => []
  | _ :: _ => [.str "else"]
theorem elsV_len (b : List Rw1) : (elsV b).length ≤ 1 := by
  cases b with
  | nil => exact Nat.zero_le _
  | cons _ _ => exact Nat.le_refl _
theorem elsV_app (b : List Rw1) : elsV b ++ (linesL b).map V.str = (elseL b (linesL b)).map V.str := by cases b <;> rfl
/-- a row of one line -/
structure Flat (H : Hp) (v : V) (r : Rw1) : Prop where
  ex : ∃ (p : Addr) (s : Str) (as : List V) (zs : List Str), v = .ref p ∧ H p = some (.tup (.str s :: as)) ∧ decide (V.str s = V.str ("if" : Str)) = false ∧ decide (V.str s = V.str ("until" : Str)) = false ∧ s.length ≤ 10 ∧ zs.length ≤ 4 ∧ r.lines = [Txt.join (" " : Str) (s :: zs)] ∧
    ((decide (V.str s = V.str ("make" : Str)) = true ∧ ∃ q bs, as = [.ref q] ∧ H q = some (.tup bs) ∧ Args bs zs) ∨ (decide (V.str s = V.str ("make" : Str)) = false ∧ Args as zs))
theorem RowD.flat {H : Hp} : ∀ {r : Rw1} {v : V}, RowD H v r → r.Ok → r.plain = true → Flat H v r
  | .make m, _, ⟨p, q, e, h, g⟩, ok, _ => by
    have b := mats_in ok
    refine ⟨p, "make", _, [st m.a, st m.b, st m.c, st m.d], e, h, by decide +kernel, by decide +kernel, by decide +kernel, by show 4 ≤ 4; decide, ?_, .inl ⟨by decide +kernel, q, _, rfl, g, .inr ⟨_, rfl, b.a0, b.a1, rfl⟩, .inr ⟨_, rfl, b.b0, b.b1, rfl⟩, .inr ⟨_, rfl, b.c0, b.c1, rfl⟩, .inr ⟨_, rfl, b.d0, b.d1, rfl⟩, trivial⟩⟩
    show [("make " : Str) ++ tx m] = _
    rw [join_cons2, show ("make " : Str) = "make" ++ " " by decide +kernel]; rfl
  | .exch, _, ⟨p, e, h⟩, _, _ => ⟨p, "exchange", _, [], e, h, by decide +kernel, by decide +kernel, by decide +kernel, Nat.zero_le _, rfl, .inr ⟨by decide +kernel, trivial⟩⟩
  | .lay, _, ⟨p, e, h⟩, _, _ => ⟨p, "lay", _, [], e, h, by decide +kernel, by decide +kernel, by decide +kernel, Nat.zero_le _, rfl, .inr ⟨by decide +kernel, trivial⟩⟩
  | .stop, _, ⟨p, e, h⟩, _, _ => ⟨p, "stop", _, [], e, h, by decide +kernel, by decide +kernel, by decide +kernel, Nat.zero_le _, rfl, .inr ⟨by decide +kernel, trivial⟩⟩
  | .tell m, _, ⟨p, e, h⟩, ok, _ => by
    refine ⟨p, "tell", _, [m], e, h, by decide +kernel, by decide +kernel, by decide +kernel, by show 1 ≤ 4; decide, ?_, .inr ⟨by decide +kernel, .inl ⟨rfl, name_len ok⟩, trivial⟩⟩
    show [("tell " : Str) ++ m] = _
    rw [join_cons2, show ("tell " : Str) = "tell" ++ " " by decide +kernel]; rfl
  | .put n k, _, ⟨p, e, h⟩, ⟨h1, h2, h3⟩, _ => by
    refine ⟨p, "put", _, [n, st k], e, h, by decide +kernel, by decide +kernel, by decide +kernel, by show 2 ≤ 4; decide, ?_, .inr ⟨by decide +kernel, .inl ⟨rfl, name_len h1⟩, .inr ⟨k, rfl, h2, by omega, rfl⟩, trivial⟩⟩
    show [("put " : Str) ++ n ++ " " ++ st k] = _
    rw [join_cons2, join_cons2, show ("put " : Str) = "put" ++ " " by decide +kernel, Pg.join_one]
    simp only [app_assoc]
  | .add n k, _, ⟨p, e, h⟩, ⟨h1, h2, h3⟩, _ => by
    refine ⟨p, "add", _, [n, st k], e, h, by decide +kernel, by decide +kernel, by decide +kernel, by show 2 ≤ 4; decide, ?_, .inr ⟨by decide +kernel, .inl ⟨rfl, name_len h1⟩, .inr ⟨k, rfl, h2, by omega, rfl⟩, trivial⟩⟩
    show [("add " : Str) ++ n ++ " " ++ st k] = _
    rw [join_cons2, join_cons2, show ("add " : Str) = "add" ++ " " by decide +kernel, Pg.join_one]
    simp only [app_assoc]
theorem okL_at : ∀ {rs : List Rw1} {i : Nat} {r : Rw1}, okL rs → rs[i]? = some r → r.Ok
  | [], _, _, _, h => by simp at h
  | _ :: _, 0, _, ⟨h, _⟩, e => by cases e; exact h
  | _ :: _, i + 1, _, ⟨_, t⟩, e => okL_at (i := i) t (by simpa using e)
def sp_dlines (d : Nat) : Sp := fun vs H Q _ => ∃ (p : Addr) (xs : List V) (rs : List Rw1), vs = [.ref p] ∧ H p = some (.tup xs) ∧ RowsD H xs rs ∧ okL rs ∧ deepL rs < d ∧ d ≤ 10 ∧ (innerL rs).length ≤ 1000 ∧ ∀ l H', Same H H' → H l = none → H' l = some (.lst ((linesL rs).map V.str)) → Q (.ref l) H'
end Pg
open Pg
section
variable {P : Program} {w : World} {K : PySem.W.Frag} {mg : Str → Option Value} {base : Heap}
theorem ok_dlines {f : Addr} {fd : FuncData} {d : Nat} (F : Fun K "_law_lines" "_law_lines" S__law_lines f fd) (T : Txt K mg) (C_ttext : FnC P w K mg base CX0 4 "_law_test_text" ["_law_test_here"] (sp_ttext 3)) (C_dlines : FnC P w K mg base CX0 (d + 5) "_law_lines" ["_law_rows_here"] (sp_dlines d)) : FnOk P w K mg base CX0 (d + 6) f fd ["_law_rows_here"] (sp_dlines (d + 1)) := by
  refine F.ok SC__law_lines (fun vs H Q E h => ?_) (fun cdv A outer s H vs Q E hr h => ?_)
  · obtain ⟨p, xs, rs, rfl, _⟩ := h
    rfl
  · obtain ⟨p, xs, rs, rfl, hp, hrs, hok, dp, d10, sz, k⟩ := h
    refine ⟨_, (pss_cons (ps_set (i := 1) SC__law_lines.nd rfl (.inl rfl) (pe_lstN pa_nil))
      (pss_cons (ps_for PassesOwn.never rfl (pi_tup (pv 0)) (pg_name (i := 2) SC__law_lines.nd rfl (.inl rfl)) (pss_one (ps_if (pt_cmpR op_eq (pe_ix ix_tup (pv 2) pe_int (fun _ _ => rfl)) pe_str (nomark _)) (pss_cons (ps_expr (pe_bm PySem.F.plainAttrs_list PySem.F.slot_list_append PySem.F.type_list_append mt_append (pv 1) (pa_cons (pe_op op_add_str pe_str (pe_callC C_ttext (hr.mono (by omega)) rfl (pa_cons (pe_ix ix_tup (pv 2) pe_int (fun _ _ => rfl)) pa_nil))) pa_nil)))
      (pss_cons (ps_expr (pe_bm PySem.F.plainAttrs_list PySem.F.slot_list_extend PySem.F.type_list_extend mt_extend (pv 1) (pa_cons (pe_op op_cat (pe_callC C_dlines (hr.mono (by omega)) rfl (pa_cons (pe_ix ix_tup (pv 2) pe_int (fun _ _ => rfl)) pa_nil)) (pe_op op_rep (pe_lstN (pa_cons pe_str pa_nil)) (pe_callTy call_intB (by rfl) T.b_int (by decide +kernel) (pa_cons (pe_cmpR (op_neD hr.units) (pe_ix ix_tup (pv 2) pe_int (fun _ _ => rfl)) (pe_tupN pa_nil) (nomark _)) pa_nil)))) pa_nil)))
      (pss_one (ps_expr (pe_bm PySem.F.plainAttrs_list PySem.F.slot_list_extend PySem.F.type_list_extend mt_extend (pv 1) (pa_cons (pe_op op_cat (pe_callC C_dlines (hr.mono (by omega)) rfl (pa_cons (pe_ix ix_tup (pv 2) pe_int (fun _ _ => rfl)) pa_nil)) (pe_lstN (pa_cons pe_str pa_nil))) pa_nil)))))) (pss_one (ps_if (pt_cmpR op_eq (pe_ix ix_tup (pv 2) pe_int (fun _ _ => rfl)) pe_str (nomark _)) (pss_one (ps_expr (pe_bm PySem.F.plainAttrs_list PySem.F.slot_list_extend PySem.F.type_list_extend mt_extend (pv 1) (pa_cons (pe_op op_cat (pe_op op_cat (pe_lstN (pa_cons (pe_op op_add_str pe_str (pe_ix ix_tup (pv 2) pe_int (fun _ _ => rfl))) pa_nil)) (pe_callC C_dlines (hr.mono (by omega)) rfl (pa_cons (pe_ix ix_tup (pv 2) pe_int (fun _ _ => rfl)) pa_nil))) (pe_lstN (pa_cons pe_str pa_nil))) pa_nil)))) (pss_mid (ps_set (i := 3) SC__law_lines.nd rfl (.inl rfl) (pe_ifExp (pt_cmpR op_eq (pe_ix ix_tup (pv 2) pe_int (fun _ _ => rfl)) pe_str (nomark _)) (pe_ix ix_tup (pv 2) pe_int (fun _ _ => rfl)) (pe_slice sl_tup (pv 2) (po_some pe_int) po_none)))
      (pss_one (ps_expr (pe_bm PySem.F.plainAttrs_list PySem.F.slot_list_append PySem.F.type_list_append mt_append (pv 1) (pa_cons (pe_join pe_str (pe_op op_cat (pe_lstN (pa_cons (pe_ix ix_tup (pv 2) pe_int (fun _ _ => rfl)) pa_nil)) (pe_lc (own := [("_law_part", 4)]) (g := gName 4) (by rfl) SC__law_lines.nd (pi_tup (pv 3)) (blkOk_by (own := [("_law_part", 4)]) (N := N__law_lines) (sc := defScope S__law_lines) (by decide +kernel)) (fun _ _ _ _ _ => pg_name (i := 4) SC__law_lines.nd rfl (Or.inl rfl)) (fun _ _ _ _ _ => pts_nil) (fun _ _ _ _ _ => (pe_callTy call_str_is (by rfl) T.b_str (by decide +kernel) (pa_cons (pv 4) pa_nil)))))) pa_nil))))))))))
      (pss_one (ps_ret (pv 1))))), ?_⟩
    refine ⟨Nat.zero_le _, fun l H1 n1 s1 h1 => ?_⟩
    refine ⟨_, rfl, p, rfl, ⟨_, SqT.of (s1 _ _ hp)⟩, ?_⟩
    refine for_tup (fun j σ H2 => Hd H H2 [(l, .lst ((linesL (rs.take j)).map V.str))] ∧ ∃ y z u, σ = [some (.ref p), some (.ref l), y, z, u]) ⟨(Hd.start H).got n1 s1 h1, _, _, _, rfl⟩ (fun j σ H2 _ m => SqT.of (m.1.sm _ _ hp)) (fun j x σ H2 hj m => ?_) (fun σ H2 m => ?_)
    · obtain ⟨W, y, z, u, rfl⟩ := m
      obtain ⟨r, hr', hrd⟩ := hrs.at hj
      have ok1 := okL_at hok hr'
      have e1 := linesL_take hr'
      have hrd2 := hrd.tk W.tk
      by_cases hpl : r.plain = true
      · obtain ⟨p', s, as, zs, rfl, hp', n2, n3, ls, lz, el, al⟩ := (hrd2.flat ok1 hpl).ex
        have at0 : atI (V.str s :: as) 0 = some (V.str s) := at_of (j := 0) rfl rfl
        refine ⟨_, rfl, p', _, 0, _, rfl, rfl, SqT.of hp', at0, rfl, _, rfl, ifF n2 ?_⟩
        refine ⟨_, rfl, p', _, 0, _, rfl, rfl, SqT.of hp', at0, rfl, _, rfl, ifF n3 ?_⟩
        refine ⟨fun σ H3 => Hd H H3 [(l, .lst ((linesL (rs.take j)).map V.str))] ∧ H3 p' = some (.tup (.str s :: as)) ∧ ∃ q bs u, H3 q = some (.tup bs) ∧ Args bs zs ∧ σ = [some (.ref p), some (.ref l), some (.ref p'), some (.ref q), u], ?_, fun σ H3 m => ?_⟩
        · refine ⟨_, rfl, p', _, 0, _, rfl, rfl, SqT.of hp', at0, rfl, _, rfl, ?_⟩
          rcases al with ⟨hm, q, bs, rfl, hq, ha⟩ | ⟨hm, ha⟩
          · exact ifT hm ⟨_, rfl, p', _, 1, .ref q, rfl, rfl, SqT.of hp', rfl, W, hp', q, bs, _, hq, ha, rfl⟩
          · refine ifF hm ⟨_, rfl, 1, rfl, p', _, rfl, SqT.of hp', fun e => ?_, fun q hq => ⟨W.call (sm_new hq), sm_new hq _ _ hp', q, as, _, ?_, ha, rfl⟩⟩
            · have e := e.1
              rw [show HT.sIx (V.str s :: as).length 0 (some 1) = min (1 : Int).toNat (V.str s :: as).length from rfl, List.length_cons] at e
              have : (1 : Int).toNat = 1 := rfl
              omega
            · rw [upd_same, cut_from _ (by decide) (by show 1 ≤ as.length + 1; omega)]
              rfl
        obtain ⟨W3, hp3, q, bs, u, hq, ha, rfl⟩ := m
        refine ⟨_, rfl, .inl ⟨rfl, _, SqL.of (W3.get (.head _))⟩, ⟨_, rfl⟩, ?_⟩
        refine ⟨_, rfl, p', _, 0, _, rfl, rfl, SqT.of hp3, at0, by show 1 ≤ 1000000; decide, W3.nw fun l2 H4 _ _ s4 W4 => ?_⟩
        have hq4 := s4 _ _ hq
        refine ⟨_, rfl, q, rfl, ⟨_, SqT.of hq4⟩, fun D hD => ?_⟩
        have lb := ha.len
        refine lcR_tupC (fun i H' => H' q = some (.tup bs) ∧ Hd H H' [(D, .lst ((zs.take i).map V.str)), (l2, .lst [.str s]), (l, .lst ((linesL (rs.take j)).map V.str))]) ⟨sm_new hD _ _ hq4, W4.new hD _⟩ (fun i H' _ m => SqT.of m.1) (fun i x H5 hi m => ?_) (gName_mono _) (fun H5 m => ?_)
        · obtain ⟨hq5, W5⟩ := m
          obtain ⟨z, hz, ax⟩ := ha.at hi
          have fin : ∃ acc, H5 D = some (.lst acc) ∧ acc.length < sizeLine ∧ (upd H5 D (.lst (acc ++ [V.str z]))) q = some (.tup bs) ∧ Hd H (upd H5 D (.lst (acc ++ [V.str z]))) [(D, .lst ((zs.take (i + 1)).map V.str)), (l2, .lst [.str s]), (l, .lst ((linesL (rs.take j)).map V.str))] := by
            refine ⟨_, W5.get (.head _), ?_, ?_, ?_⟩
            · rw [List.length_map, List.length_take]
              exact szs (by omega)
            · rw [upd_ne (fun e => by rw [e, W5.get (.head _)] at hq5; cases hq5)]
              exact hq5
            · rw [List.take_succ, hz, List.map_append]
              exact W5.set 0 rfl _
          rcases ax with ⟨rfl, _⟩ | ⟨n, rfl, n0, n1', rfl⟩
          · exact ⟨rfl, _, rfl, .inr ⟨z, rfl, fin⟩⟩
          · exact ⟨rfl, _, rfl, .inl ⟨n, rfl, st_log n0 n1', fin⟩⟩
        · obtain ⟨hq5, W5⟩ := m
          rw [lb, List.take_length] at W5
          refine ⟨l2, D, _, _, rfl, rfl, W5.get (.tail _ (.head _)), W5.get (.head _), ?_, fun l3 n3 => ?_⟩
          · rw [List.length_map]
            exact szl (by show 1 + zs.length ≤ 1000000; omega)
          have W6 := W5.new n3 (.lst ([V.str s] ++ zs.map V.str))
          have sm := ha.sum
          refine ⟨_, l3, s :: zs, rfl, rfl, .inl (SqL.of upd_same), ?_, ?_⟩
          · rw [List.map_cons, List.sum_cons, List.length_cons, l_sp]
            omega
          refine ⟨l, _, _, rfl, rfl, W6.get (.tail _ (.tail _ (.tail _ (.head _)))), ?_, ?_⟩
          · have h1 := linesL_le (rs := rs) j
            have h2 := len_linesL hok
            rw [List.length_map]
            exact szs (by omega)
          · have W7 := (W6.set 3 rfl (.lst ((linesL (rs.take j)).map V.str ++ [V.str (Txt.join (" " : Str) (s :: zs))]))).tl.tl.tl
            refine ⟨?_, _, _, _, rfl⟩
            rw [e1, el, List.map_append]
            exact W7
      · cases r with
        | ifb t a b =>
          obtain ⟨p', u', qa, qb, xs', ys', rfl, hp', ht, ha, hra, hb, hrb⟩ := hrd2
          refine ⟨_, rfl, p', _, 0, _, rfl, rfl, SqT.of hp', rfl, rfl, _, rfl, ifT (by decide +kernel) ?_⟩
          obtain ⟨ot, od, oa, ob⟩ := ok1
          have dpr : max (deepL a) (deepL b) + 1 ≤ deepL rs := deepL_mem (List.mem_of_getElem? hr')
          have szr : (innerL a ++ innerL b).length + 1 ≤ (innerL rs).length := by
            have e2 := innerL_le (rs := rs) (j + 1)
            rw [innerL_take hr', List.length_append] at e2
            have e3 : (Rw1.ifb t a b).inner.length = (innerL a ++ innerL b).length + 1 := rfl
            omega
          rw [List.length_append] at szr
          have la := len_linesL oa
          have lb := len_linesL ob
          have lr : (linesL (rs.take j)).length ≤ 100000 := by
            have h1 := linesL_le (rs := rs) j
            have h2 := len_linesL hok
            omega
          have tl := txt_len ot
          refine ⟨_, rfl, .inl ⟨rfl, _, SqL.of (W.get (.head _))⟩, ?_⟩
          refine ⟨_, rfl, p', _, 1, u', rfl, rfl, SqT.of hp', rfl, u', t, rfl, ht, ot, by omega, by decide, _, _, rfl, rfl, ?_, ?_⟩
          · rw [l_if]
            exact szl (by omega)
          refine ⟨l, _, _, rfl, rfl, W.get (.head _), ?_, ?_⟩
          · rw [List.length_map]
            exact szs (by omega)
          have Wa := W.set 0 rfl (.lst ((linesL (rs.take j)).map V.str ++ [V.str (("if " : Str) ++ t.txt)]))
          have ta := Wa.tk
          have hpa := hrs.at hj
          obtain ⟨_, _, hrd3⟩ := hpa
          have kx : ∀ b o, b ≠ l → H2 b = some o → (upd H2 l (.lst ((linesL (rs.take j)).map V.str ++ [V.str (("if " : Str) ++ t.txt)]))) b = some o := fun b o n e => by rw [upd_ne n]; exact e
          have tx : TK H2 (upd H2 l (.lst ((linesL (rs.take j)).map V.str ++ [V.str (("if " : Str) ++ t.txt)]))) := TK.upd (W.get (.head _)) rfl
          generalize upd H2 l (.lst ((linesL (rs.take j)).map V.str ++ [V.str (("if " : Str) ++ t.txt)])) = H3 at Wa kx tx ⊢
          refine ⟨_, rfl, .inl ⟨rfl, _, SqL.of (Wa.get (.head _))⟩, ?_⟩
          refine ⟨_, rfl, p', _, 2, .ref qa, rfl, rfl, SqT.of (tx _ _ rfl hp'), rfl, qa, xs', a, rfl, tx _ _ rfl ha, hra.tk tx, oa, by omega, by omega, by omega, fun l2 H4 s4 n4 h4 => ?_⟩
          have W4 := Wa.got n4 s4 h4
          refine ⟨by show 1 ≤ 1000000; decide, W4.nw fun l3 H5 _ _ s5 W5 => ?_⟩
          have t5 := tx.trans (TK.same (s4.trans s5))
          refine ⟨_, rfl, p', _, 3, .ref qb, rfl, rfl, SqT.of (t5 _ _ rfl hp'), rfl, Nat.zero_le _, W5.nw fun e H6 _ _ s6 W6 => ?_⟩
          have t6 := t5.trans (TK.same s6)
          refine ⟨_, _, .tup (SqT.of (t6 _ _ rfl hb)) (hrb.tk t6).dp, .tup (SqT.of (W6.get (.head _))) .nil, rows_sh ob (by omega), rfl, _, rfl, ?_⟩
          have ek : (List.replicate (if (!PyData.eqv (.tuple (dL b)) (.tuple [])) = true then 1 else 0 : Int).toNat [V.str ("else" : Str)]).flatten = elsV b := by cases b <;> rfl
          refine ⟨l3, _, _, rfl, rfl, W6.get (.tail _ (.head _)), ?_, ?_, ?_, fun l4 n7 => ?_⟩
          · split <;> decide
          · split <;> decide
          · split <;> decide
          rw [ek]
          have W7 := W6.new n7 (.lst (elsV b))
          have ls := elsV_len b
          refine ⟨l2, l4, _, _, rfl, rfl, W7.get (.tail _ (.tail _ (.tail _ (.head _)))), upd_same, ?_, fun l5 n8 => ?_⟩
          · rw [List.length_map]
            exact szl (by omega)
          have W8 := W7.new n8 (.lst ((linesL a).map V.str ++ elsV b))
          refine ⟨l, l5, _, _, rfl, rfl, W8.get (.tail _ (.tail _ (.tail _ (.tail _ (.tail _ (.head _)))))), upd_same, ?_, ?_⟩
          · rw [List.length_append, List.length_append, List.length_map, List.length_map]
            exact szl (by show _ + 1 + (_ + _) ≤ 1000000; omega)
          have t8 := (t6.trans (TK.new (o := .lst (elsV b)) n7)).trans (TK.new (o := .lst ((linesL a).map V.str ++ elsV b)) n8)
          have tu := TK.upd (o := .lst ((linesL (rs.take j)).map V.str ++ [V.str (("if " : Str) ++ t.txt)] ++ ((linesL a).map V.str ++ elsV b))) (W8.get (.tail _ (.tail _ (.tail _ (.tail _ (.tail _ (.head _))))))) rfl
          have Wc := (W8.set 5 rfl (.lst ((linesL (rs.take j)).map V.str ++ [V.str (("if " : Str) ++ t.txt)] ++ ((linesL a).map V.str ++ elsV b)))).tl.tl.tl.tl.tl
          have t9 := t8.trans tu
          clear tu t8
          generalize upd (upd (upd H6 l4 (.lst (elsV b))) l5 (.lst ((linesL a).map V.str ++ elsV b))) l (.lst ((linesL (rs.take j)).map V.str ++ [V.str (("if " : Str) ++ t.txt)] ++ ((linesL a).map V.str ++ elsV b))) = H9 at Wc t9 ⊢
          refine ⟨_, rfl, .inl ⟨rfl, _, SqL.of (Wc.get (.head _))⟩, ?_⟩
          refine ⟨_, rfl, p', _, 3, .ref qb, rfl, rfl, SqT.of (t9 _ _ rfl hp'), rfl, qb, ys', b, rfl, t9 _ _ rfl hb, hrb.tk t9, ob, by omega, by omega, by omega, fun l6 H10 s10 n10 h10 => ?_⟩
          have W10 := Wc.got n10 s10 h10
          refine ⟨by show 1 ≤ 1000000; decide, W10.nw fun l7 H11 _ _ s11 W11 => ?_⟩
          refine ⟨l6, l7, _, _, rfl, rfl, W11.get (.tail _ (.head _)), W11.get (.head _), ?_, fun l8 n12 => ?_⟩
          · rw [List.length_map]
            exact szl (by show _ + 1 ≤ 1000000; omega)
          have W12 := W11.new n12 (.lst ((linesL b).map V.str ++ [V.str ("end" : Str)]))
          refine ⟨l, l8, _, _, rfl, rfl, W12.get (.tail _ (.tail _ (.tail _ (.head _)))), upd_same, ?_, ?_⟩
          · simp only [List.length_append, List.length_map, List.length_cons, List.length_nil]
            exact szl (by omega)
          have W13 := (W12.set 3 rfl (.lst ((linesL (rs.take j)).map V.str ++ [V.str (("if " : Str) ++ t.txt)] ++ ((linesL a).map V.str ++ elsV b) ++ ((linesL b).map V.str ++ [V.str ("end" : Str)])))).tl.tl.tl
          refine ⟨?_, _, _, _, rfl⟩
          have ee : (linesL (rs.take (j + 1))).map V.str = (linesL (rs.take j)).map V.str ++ [V.str (("if " : Str) ++ t.txt)] ++ ((linesL a).map V.str ++ elsV b) ++ ((linesL b).map V.str ++ [V.str ("end" : Str)]) := by
            rw [e1, List.map_append]
            show _ ++ ((("if " : Str) ++ t.txt) :: (linesL a ++ (elseL b (linesL b) ++ [("end" : Str)]))).map V.str = _
            rw [List.map_cons, List.map_append, List.map_append, ← elsV_app]
            simp only [List.append_assoc, List.map_cons, List.map_nil, List.cons_append, List.nil_append]
          rw [ee]
          exact W13
        | untl g a =>
          obtain ⟨p', qa, xs', rfl, hp', ha, hra⟩ := hrd2
          refine ⟨_, rfl, p', _, 0, _, rfl, rfl, SqT.of hp', rfl, rfl, _, rfl, ifF (by decide +kernel) ?_⟩
          refine ⟨_, rfl, p', _, 0, _, rfl, rfl, SqT.of hp', rfl, rfl, _, rfl, ifT (by decide +kernel) ?_⟩
          obtain ⟨og, _, _, oa⟩ := ok1
          have dpr : deepL a + 1 ≤ deepL rs := deepL_mem (List.mem_of_getElem? hr')
          have szr : (innerL a).length + 1 ≤ (innerL rs).length := by
            have e2 := innerL_le (rs := rs) (j + 1)
            rw [innerL_take hr', List.length_append] at e2
            have e3 : (Rw1.untl g a).inner.length = (innerL a).length + 1 := rfl
            omega
          have la := len_linesL oa
          have lr : (linesL (rs.take j)).length ≤ 100000 := by
            have h1 := linesL_le (rs := rs) j
            have h2 := len_linesL hok
            omega
          have gl : g.length ≤ 7 := by rcases goal_of og with rfl | rfl | rfl <;> decide +kernel
          refine ⟨_, rfl, .inl ⟨rfl, _, SqL.of (W.get (.head _))⟩, ?_⟩
          refine ⟨_, rfl, p', _, 1, .str g, rfl, rfl, SqT.of hp', rfl, _, _, rfl, rfl, ?_, by show 1 ≤ 1000000; decide, W.nw fun l2 H3 _ _ s3 W3 => ?_⟩
          · rw [l_until]
            exact szl (by omega)
          refine ⟨_, rfl, p', _, 2, .ref qa, rfl, rfl, SqT.of (s3 _ _ hp'), rfl, qa, xs', a, rfl, s3 _ _ ha, hra.tk (TK.same s3), oa, by omega, by omega, by omega, fun l3 H4 s4 n4 h4 => ?_⟩
          have W4 := W3.got n4 s4 h4
          refine ⟨l2, l3, _, _, rfl, rfl, W4.get (.tail _ (.head _)), h4, ?_, fun l4 n5 => ?_⟩
          · rw [List.length_map]
            exact szl (by show 1 + _ ≤ 1000000; omega)
          have W5 := W4.new n5 (.lst ([V.str (("until " : Str) ++ g)] ++ (linesL a).map V.str))
          refine ⟨by show 1 ≤ 1000000; decide, W5.nw fun l5 H6 _ _ s6 W6 => ?_⟩
          refine ⟨l4, l5, _, _, rfl, rfl, W6.get (.tail _ (.head _)), W6.get (.head _), ?_, fun l6 n7 => ?_⟩
          · rw [List.length_append, List.length_map]
            exact szl (by show 1 + _ + 1 ≤ 1000000; omega)
          have W7 := W6.new n7 (.lst ([V.str (("until " : Str) ++ g)] ++ (linesL a).map V.str ++ [V.str ("end" : Str)]))
          refine ⟨l, l6, _, _, rfl, rfl, W7.get (.tail _ (.tail _ (.tail _ (.tail _ (.tail _ (.head _)))))), upd_same, ?_, ?_⟩
          · rw [List.length_append, List.length_append, List.length_map, List.length_map]
            exact szl (by show _ + (1 + _ + 1) ≤ 1000000; omega)
          have W8 := (W7.set 5 rfl (.lst ((linesL (rs.take j)).map V.str ++ ([V.str (("until " : Str) ++ g)] ++ (linesL a).map V.str ++ [V.str ("end" : Str)])))).tl.tl.tl.tl.tl
          refine ⟨?_, _, _, _, rfl⟩
          rw [e1, List.map_append]
          show Hd H _ [(l, .lst ((linesL (rs.take j)).map V.str ++ ((("until " : Str) ++ g) :: (linesL a ++ [("end" : Str)])).map V.str))]
          rw [List.map_cons, List.map_append]
          exact W8
        | _ => exact absurd rfl hpl
    · obtain ⟨W, y, z, u, rfl⟩ := m
      have h2 := W.get (.head _)
      rw [hrs.len, List.take_length] at h2
      exact ⟨_, rfl, k l H2 W.sm n1 h2⟩
end
section
variable {P : Program} {w : World} {K : PySem.W.Frag} {mg : Str → Option Value} {base : Heap}
theorem dlines_all {fW : Addr} {dW : FuncData} (T : Txt K mg) (F : Fun K "_law_lines" "_law_lines" S__law_lines fW dW) (C_ttext : FnC P w K mg base CX0 4 "_law_test_text" ["_law_test_here"] (sp_ttext 3)) (pk : ∀ {k : Nat} {sp : Sp}, FnOk P w K mg base CX0 k fW dW ["_law_rows_here"] sp → FnC P w K mg base CX0 k "_law_lines" ["_law_rows_here"] sp) : ∀ d : Nat, FnC P w K mg base CX0 (d + 5) "_law_lines" ["_law_rows_here"] (sp_dlines d) := by
  intro d
  induction d with
  | zero => exact pk (fn_false.imp fun vs H Q E h => by
      obtain ⟨p, xs, rs, _, _, _, _, dp, _⟩ := h
      exact absurd dp (Nat.not_lt_zero _))
  | succ d ih => exact pk (ok_dlines F T C_ttext ih)
end

/-! ## tests and rows made of data -/
namespace Pg
section
variable {X : Cx} {k : Nat} {x : Str} {C : Addr} {ps : List Str} {sp : Sp} {p pos : Pos}
theorem pe_make0C (F : MkC X.prog X.w X.K X.mg X.base CX0 k C x ps sp) (hr : Room (k + 1) X.A) (hg : Gl X x) (hdb : (x == ("__debug__" : Str)) = false := by decide) : PE X (.Call (.Name x p) [] [] pos) (tMake C sp [] E0 tNil) := by
  obtain ⟨f, fd, hf, M, hm, hb⟩ := F.ex
  exact pe_make0 M hf hr hg hm hb .nil (fun _ _ _ _ _ _ _ z => (show False from z).elim) hdb
end
theorem mk_sm {H H' : Hp} {x dx C : Addr} (nx : H x = none) (nd : H dx = none) (kp : ∀ b o, b ≠ x → (upd (upd H dx (.own x)) x (.ins C dx [])) b = some o → H' b = some o) : Same H H' := Same.made nx nd fun b o e n => kp b o n e
theorem mk_at {H : Hp} {x dx C : Addr} (nx : H x = none) (nd : H dx = none) : Same H (upd (upd H dx (.own x)) x (.ins C dx [])) := fun b o e => by rw [upd_ne (ne_of_none e nx), upd_ne (ne_of_none e nd)]; exact e
theorem mk_nn {K : PySem.W.Frag} {H : Hp} {IR C x dx : Addr} {n : Str} {i : Int} {P : Hp → Addr → Str → Int → Prop} {Q : VK} (nx : H x = none) (nd : H dx = none) (nk : nameOk n = true) (i0 : 0 ≤ i) (i1 : i < 1000000) (k : ∀ H', Same H H' → P H' x n i → Q (.ref x) H') :
    calm (sp_nn K IR C P) (.ref x :: ([.str n, .int i] ++ [])) (upd (upd H dx (.own x)) x (.ins C dx [])) (fun v H2 => v = .non ∧ Q (.ref x) H2) E0 := by
  refine ⟨x, dx, .str n, .int i, rfl, upd_same, ?_, ?_, fun z e => ?_, fun j e _ => ?_, fun z j e1 e2 _ _ H' kp hp => ?_, fun e => ?_, fun _ e => ?_⟩
  · exact Kd.str _
  · exact Kd.int _
  · cases e
    have := name_len nk
    omega
  · cases e
    omega
  · cases e1
    cases e2
    exact ⟨rfl, k H' (mk_sm nx nd kp) hp⟩
  · have e : nameOk n = false := e
    rw [nk] at e
    cases e
  · exact absurd i0 (of_decide_eq_false e)
def sp_tof (K : PySem.W.Frag) (c : Clz) (d : Nat) : Sp := fun vs H Q _ => ∃ (v : V) (t : Tst), vs = [v] ∧ TstD H v t ∧ t.Ok ∧ t.deep < d ∧ d ≤ 10 ∧ ∀ p H', Same H H' → H p = none → TstAt K c H' p t → Q (.ref p) H'
end Pg
open Pg
/-- the classes of tests, as they are made -/
structure MkT (P : Program) (w : World) (K : PySem.W.Frag) (mg : Str → Option Value) (base : Heap) (c : Clz) (IR : Addr) : Prop where
  longer : MkC P w K mg base CX0 4 c.longer "Longer" ["self"] (sp_rinit K c c.longer fun H p => TstAt K c H p .longer)
  shorter : MkC P w K mg base CX0 4 c.shorter "Shorter" ["self"] (sp_rinit K c c.shorter fun H p => TstAt K c H p .shorter)
  alike : MkC P w K mg base CX0 4 c.alike "Alike" ["self"] (sp_rinit K c c.alike fun H p => TstAt K c H p .alike)
  holds : MkC P w K mg base CX0 6 c.holds "Holds" ["self", "note", "number"] (calm (sp_nn K IR c.holds fun H x z i => TstAt K c H x (.holds z i)))
  not : MkC P w K mg base CX0 6 c.not "Not" ["self", "test"] (calm (sp_not K c IR))
section
variable {P : Program} {w : World} {K : PySem.W.Frag} {mg : Str → Option Value} {base : Heap}
--@of
theorem ok_tof {f IR : Addr} {fd : FuncData} {c : Clz} {d : Nat} (F : Fun K "_law_test_of" "_law_test_of" S__law_test_of f fd) (T : Txt K mg) (Hc : Hi K mg c) (Mt : MkT P w K mg base c IR) (C_tof : FnC P w K mg base CX0 (d + 8) "_law_test_of" ["_law_test_here"] (sp_tof K c d)) : FnOk P w K mg base CX0 (d + 9) f fd ["_law_test_here"] (sp_tof K c (d + 1)) := by
  refine F.ok SC__law_test_of (fun vs H Q E h => ?_) (fun cdv A outer s H vs Q E hr h => ?_)
  · obtain ⟨v, t, rfl, _⟩ := h
    rfl
  · obtain ⟨v, t, rfl, ht, hok, dp, d10, k⟩ := h
    refine ⟨_, (pss_cons (ps_set (i := 1) SC__law_test_of.nd rfl (.inl rfl) (pe_ix ix_tup (pv 0) pe_int (fun _ _ => rfl)))
      (pss_cons (ps_if (pt_cmpR op_eq (pv 1) pe_str (nomark _)) (pss_one (ps_ret (pe_makeC Mt.not (hr.mono (by omega)) rfl (pa_cons (pe_callC C_tof (hr.mono (by omega)) rfl (pa_cons (pe_ix ix_tup (pv 0) pe_int (fun _ _ => rfl)) pa_nil)) pa_nil)))) pss_nil)
      (pss_cons (ps_if (pt_cmpR op_eq (pv 1) pe_str (nomark _)) (pss_one (ps_ret (pe_makeC Mt.holds (hr.mono (by omega)) rfl (pa_cons (pe_ix ix_tup (pv 0) pe_int (fun _ _ => rfl)) (pa_cons (pe_ix ix_tup (pv 0) pe_int (fun _ _ => rfl)) pa_nil))))) pss_nil)
      (pss_cons (ps_if (pt_cmpR op_eq (pv 1) pe_str (nomark _)) (pss_one (ps_ret (pe_make0C Mt.longer (hr.mono (by omega)) rfl))) pss_nil)
      (pss_one (ps_ret (pe_ifExp (pt_cmpR op_eq (pv 1) pe_str (nomark _)) (pe_make0C Mt.shorter (hr.mono (by omega)) rfl) (pe_make0C Mt.alike (hr.mono (by omega)) rfl)))))))), ?_⟩
    cases t with
    | longer =>
      obtain ⟨p, rfl, hp⟩ := ht
      refine ⟨_, rfl, p, _, 0, _, rfl, rfl, SqT.of hp, rfl, ?_⟩
      refine ⟨_, rfl, rfl, _, rfl, ifF (by decide +kernel) ?_⟩
      refine ⟨_, rfl, rfl, _, rfl, ifF (by decide +kernel) ?_⟩
      refine ⟨_, rfl, rfl, _, rfl, ifT (by decide +kernel) ?_⟩
      exact fun x dx nx nd ne => ⟨x, dx, rfl, upd_same, fun H' kp hp => ⟨rfl, k x H' (mk_sm nx nd kp) nx hp⟩⟩
    | shorter =>
      obtain ⟨p, rfl, hp⟩ := ht
      refine ⟨_, rfl, p, _, 0, _, rfl, rfl, SqT.of hp, rfl, ?_⟩
      refine ⟨_, rfl, rfl, _, rfl, ifF (by decide +kernel) ?_⟩
      refine ⟨_, rfl, rfl, _, rfl, ifF (by decide +kernel) ?_⟩
      refine ⟨_, rfl, rfl, _, rfl, ifF (by decide +kernel) ?_⟩
      refine ⟨_, rfl, rfl, _, rfl, ifT (by decide +kernel) ?_⟩
      exact fun x dx nx nd ne => ⟨x, dx, rfl, upd_same, fun H' kp hp => ⟨rfl, k x H' (mk_sm nx nd kp) nx hp⟩⟩
    | alike =>
      obtain ⟨p, rfl, hp⟩ := ht
      refine ⟨_, rfl, p, _, 0, _, rfl, rfl, SqT.of hp, rfl, ?_⟩
      refine ⟨_, rfl, rfl, _, rfl, ifF (by decide +kernel) ?_⟩
      refine ⟨_, rfl, rfl, _, rfl, ifF (by decide +kernel) ?_⟩
      refine ⟨_, rfl, rfl, _, rfl, ifF (by decide +kernel) ?_⟩
      refine ⟨_, rfl, rfl, _, rfl, ifF (by decide +kernel) ?_⟩
      exact fun x dx nx nd ne => ⟨x, dx, rfl, upd_same, fun H' kp hp => ⟨rfl, k x H' (mk_sm nx nd kp) nx hp⟩⟩
    | holds n i =>
      obtain ⟨p, rfl, hp⟩ := ht
      obtain ⟨nk, i0, i1⟩ := hok
      refine ⟨_, rfl, p, _, 0, _, rfl, rfl, SqT.of hp, rfl, ?_⟩
      refine ⟨_, rfl, rfl, _, rfl, ifF (by decide +kernel) ?_⟩
      refine ⟨_, rfl, rfl, _, rfl, ifT (by decide +kernel) ?_⟩
      refine ⟨_, rfl, p, _, 1, _, rfl, rfl, SqT.of hp, rfl, _, rfl, p, _, 2, _, rfl, rfl, SqT.of hp, rfl, fun x dx nx nd ne => ?_⟩
      exact mk_nn nx nd nk i0 i1 fun H' s hp => k x H' s nx hp
    | not t =>
      obtain ⟨p, u, rfl, hp, hu⟩ := ht
      have dp : t.deep + 1 < d + 1 := dp
      refine ⟨_, rfl, p, _, 0, _, rfl, rfl, SqT.of hp, rfl, ?_⟩
      refine ⟨_, rfl, rfl, _, rfl, ifT (by decide +kernel) ?_⟩
      refine ⟨_, rfl, p, _, 1, _, rfl, rfl, SqT.of hp, rfl, u, t, rfl, hu, hok, by omega, by omega, fun q H1 s1 n1 hq => fun x dx nx nd ne => ?_⟩
      have lt := txt_len (t := t) hok
      have sm := mk_at (C := c.not) nx nd
      obtain ⟨fs, dq, _, _, g1, _⟩ := (hq.tk (TK.same sm)).part
      refine ⟨x, dx, .ref q, _, true, rfl, upd_same, tyx_ins (Hc.t t).ins g1, (Hc.t t).kt, fun _ => ⟨q, t, rfl, hq.tk (TK.same sm), by omega, fun H' kp hp' => ⟨rfl, k x H' (s1.trans (mk_sm nx nd kp)) (s1.free nx) hp'⟩⟩, nofun⟩
--@*
end
section
variable {P : Program} {w : World} {K : PySem.W.Frag} {mg : Str → Option Value} {base : Heap}
--@of
theorem tof_all {fW IR : Addr} {dW : FuncData} {c : Clz} (T : Txt K mg) (Hc : Hi K mg c) (Mt : MkT P w K mg base c IR) (F : Fun K "_law_test_of" "_law_test_of" S__law_test_of fW dW) (pk : ∀ {k : Nat} {sp : Sp}, FnOk P w K mg base CX0 k fW dW ["_law_test_here"] sp → FnC P w K mg base CX0 k "_law_test_of" ["_law_test_here"] sp) : ∀ d : Nat, FnC P w K mg base CX0 (d + 8) "_law_test_of" ["_law_test_here"] (sp_tof K c d) := by
  intro d
  induction d with
  | zero => exact pk (fn_false.imp fun vs H Q E h => by
      obtain ⟨v, t, _, _, _, dp, _⟩ := h
      exact absurd dp (Nat.not_lt_zero _))
  | succ d ih => exact pk (ok_tof F T Hc Mt ih)
--@*
end
/-! ### rows -/
/-- the classes of rows, as they are made -/
structure MkR (P : Program) (w : World) (K : PySem.W.Frag) (mg : Str → Option Value) (base : Heap) (c : Clz) (IR IC : Addr) : Prop where
  make : MkC P w K mg base CX0 6 c.make "Make" ["self", "change"] (calm (sp_make K c IR))
  exch : MkC P w K mg base CX0 4 c.exch "Exchange" ["self"] (sp_rinit K c c.exch fun H p => RowAt K c H p .exch)
  lay : MkC P w K mg base CX0 4 c.lay "Lay" ["self"] (sp_rinit K c c.lay fun H p => RowAt K c H p .lay)
  stop : MkC P w K mg base CX0 4 c.stop "Stop" ["self"] (sp_rinit K c c.stop fun H p => RowAt K c H p .stop)
  put : MkC P w K mg base CX0 6 c.put "Put" ["self", "note", "number"] (calm (sp_nn K IR c.put fun H x z i => RowAt K c H x (.put z i)))
  add : MkC P w K mg base CX0 6 c.add "Add" ["self", "note", "number"] (calm (sp_nn K IR c.add fun H x z i => RowAt K c H x (.add z i)))
  tell : MkC P w K mg base CX0 6 c.tell "Tell" ["self", "mark"] (calm (sp_mark K c IR))
  ifb : MkC P w K mg base CX0 6 c.ifb "If" ["self", "test", "rows", "others"] (calm (sp_if K c IR))
  untl : MkC P w K mg base CX0 14 c.untl "Until" ["self", "goal", "rows"] (calm (sp_untl K c IR 4))
  change : MkC P w K mg base CX0 4 c.change "Change" ["self", "a", "b", "c", "d"] (calm (sp_chinit c.change IC K))
namespace Pg
theorem mats_det {m : Mt} (h : m ∈ mats) : m.a * m.d ≠ m.b * m.c := by
  have key : ∀ m ∈ mats, m.a * m.d ≠ m.b * m.c := by
    simp only [mats, List.mem_cons, List.not_mem_nil, or_false]
    rintro m (rfl | rfl | rfl | rfl | rfl | rfl | rfl | rfl | rfl | rfl | rfl | rfl | rfl | rfl | rfl | rfl | rfl | rfl | rfl) <;> decide
  exact key m h
theorem nat_lt {i : Int} (h0 : 0 ≤ i) (h : i < 2 ^ 40) : i.natAbs < 2 ^ 1000 := Nat.lt_of_lt_of_le (show i.natAbs < 2 ^ 40 by omega) (by decide)
def sp_rof (K : PySem.W.Frag) (c : Clz) (d : Nat) : Sp := fun vs H Q _ => ∃ (v : V) (r : Rw1), vs = [v] ∧ RowD H v r ∧ r.Ok ∧ r.deep < d ∧ d ≤ 5 ∧ r.inner.length ≤ 1000 ∧ ∀ p H', Same H H' → H p = none → RowAt K c H' p r → Q (.ref p) H'
def sp_rsof (K : PySem.W.Frag) (c : Clz) (d : Nat) : Sp := fun vs H Q _ => ∃ (p : Addr) (xs : List V) (rs : List Rw1), vs = [.ref p] ∧ H p = some (.tup xs) ∧ RowsD H xs rs ∧ okL rs ∧ deepL rs < d ∧ d ≤ 5 ∧ (innerL rs).length ≤ 1000 ∧ ∀ l H' ys, Same H H' → H l = none → H' l = some (.lst ys) → RowsAt K c H' ys rs → Q (.ref l) H'
end Pg
section
variable {P : Program} {w : World} {K : PySem.W.Frag} {mg : Str → Option Value} {base : Heap}
--@of
theorem ok_rsof {f : Addr} {fd : FuncData} {c : Clz} {d : Nat} (F : Fun K "_law_rows_of" "_law_rows_of" S__law_rows_of f fd) (T : Txt K mg) (C_rof : FnC P w K mg base CX0 (2 * d + 15) "_law_row_of" ["_law_row_here"] (sp_rof K c d)) : FnOk P w K mg base CX0 (2 * d + 16) f fd ["_law_rows_here"] (sp_rsof K c d) := by
  refine F.ok SC__law_rows_of (fun vs H Q E h => ?_) (fun cdv A outer s H vs Q E hr h => ?_)
  · obtain ⟨p, xs, rs, rfl, _⟩ := h
    rfl
  · obtain ⟨p, xs, rs, rfl, hp, hrs, hok, dp, d5, sz, k⟩ := h
    refine ⟨_, (pss_one (ps_ret (pe_lc (own := [("_law_row_here", 1)]) (g := gName 1) (by rfl) SC__law_rows_of.nd (pi_tup (pv 0)) (blkOk_by (own := [("_law_row_here", 1)]) (N := N__law_rows_of) (sc := defScope S__law_rows_of) (by decide +kernel)) (fun _ _ _ _ _ => pg_name (i := 1) SC__law_rows_of.nd rfl (Or.inl rfl)) (fun _ _ _ _ _ => pts_nil) (fun _ _ _ _ _ => (pe_callC C_rof (hr.mono (by omega)) rfl (pa_cons (pv 1) pa_nil)))))), ?_⟩
    refine ⟨_, rfl, p, rfl, ⟨_, SqT.of hp⟩, fun D hD => ?_⟩
    refine lcR_tupC (fun i H' => ∃ ys, Hd H H' [(D, .lst ys)] ∧ RowsAt K c H' ys (rs.take i)) ⟨[], (Hd.start H).new hD _, trivial⟩ (fun i H' _ m => SqT.of (m.elim fun _ h => h.1.sm _ _ hp)) (fun i x H5 hi m => ?_) (gName_mono _) (fun H5 m => ?_)
    · obtain ⟨ys, W, hys⟩ := m
      obtain ⟨r, hr', hrd⟩ := hrs.at hi
      have e1 := innerL_take hr'
      have e2 := innerL_le (rs := rs) (i + 1)
      rw [e1, List.length_append] at e2
      have e3 := len_innerL rs
      have e4 := (List.getElem?_eq_some_iff.mp hr').1
      have ly := hys.len
      rw [List.length_take] at ly
      refine ⟨rfl, _, rfl, x, r, rfl, hrd.tk W.tk, okL_at hok hr', Nat.lt_of_le_of_lt (deepL_mem (List.mem_of_getElem? hr')) dp, d5, by omega, fun q H6 s6 n6 hq => ?_⟩
      have W6 := W.call s6
      refine ⟨ys, W6.get (.head _), szs (by omega), ys ++ [.ref q], W6.set 0 rfl _, ?_⟩
      have tu := TK.upd (o := .lst (ys ++ [.ref q])) (W6.get (.head _)) rfl
      rw [List.take_succ, hr']
      exact (hys.tk ((TK.same s6).trans tu)).app (ys := [.ref q]) (ss := [r]) ⟨⟨q, rfl, hq.tk tu⟩, trivial⟩
    · obtain ⟨ys, W, hys⟩ := m
      rw [hrs.len, List.take_length] at hys
      exact k D H5 ys W.sm hD (W.get (.head _)) hys
theorem ok_rof {f IR IC : Addr} {fd : FuncData} {c : Clz} {d : Nat} (F : Fun K "_law_row_of" "_law_row_of" S__law_row_of f fd) (T : Txt K mg) (Hc : Hi K mg c) (Rc : ChT K mg c.change) (Mr : MkR P w K mg base c IR IC) (C_tof : FnC P w K mg base CX0 11 "_law_test_of" ["_law_test_here"] (sp_tof K c 3)) (C_rsof : FnC P w K mg base CX0 (2 * d + 16) "_law_rows_of" ["_law_rows_here"] (sp_rsof K c d)) : FnOk P w K mg base CX0 (2 * d + 17) f fd ["_law_row_here"] (sp_rof K c (d + 1)) := by
  refine F.ok SC__law_row_of (fun vs H Q E h => ?_) (fun cdv A outer s H vs Q E hr h => ?_)
  · obtain ⟨v, r, rfl, _⟩ := h
    rfl
  · obtain ⟨v, r, rfl, hrd, hok, dp, d5, sz, k⟩ := h
    refine ⟨_, (pss_cons (ps_set (i := 1) SC__law_row_of.nd rfl (.inl rfl) (pe_ix ix_tup (pv 0) pe_int (fun _ _ => rfl)))
      (pss_cons (ps_if (pt_cmpR op_eq (pv 1) pe_str (nomark _)) (pss_one (ps_ret (pe_makeC Mr.ifb (hr.mono (by omega)) rfl (pa_cons (pe_callC C_tof (hr.mono (by omega)) rfl (pa_cons (pe_ix ix_tup (pv 0) pe_int (fun _ _ => rfl)) pa_nil)) (pa_cons (pe_callC C_rsof (hr.mono (by omega)) rfl (pa_cons (pe_ix ix_tup (pv 0) pe_int (fun _ _ => rfl)) pa_nil)) (pa_cons (pe_callTy call_tuple_of (by rfl) T.b_tuple (by decide +kernel) (pa_cons (pe_callC C_rsof (hr.mono (by omega)) rfl (pa_cons (pe_ix ix_tup (pv 0) pe_int (fun _ _ => rfl)) pa_nil)) pa_nil)) pa_nil)))))) pss_nil)
      (pss_cons (ps_if (pt_cmpR op_eq (pv 1) pe_str (nomark _)) (pss_one (ps_ret (pe_makeC Mr.untl (hr.mono (by omega)) rfl (pa_cons (pe_ix ix_tup (pv 0) pe_int (fun _ _ => rfl)) (pa_cons (pe_callC C_rsof (hr.mono (by omega)) rfl (pa_cons (pe_ix ix_tup (pv 0) pe_int (fun _ _ => rfl)) pa_nil)) pa_nil))))) pss_nil)
      (pss_cons (ps_if (pt_cmpR op_eq (pv 1) pe_str (nomark _)) (pss_cons (ps_asg (pe_ix ix_tup (pv 0) pe_int (fun _ _ => rfl)) (pg_tup rfl (pgs_cons (pg_name (i := 2) SC__law_row_of.nd rfl (.inl rfl)) (pgs_cons (pg_name (i := 3) SC__law_row_of.nd rfl (.inl rfl)) (pgs_cons (pg_name (i := 4) SC__law_row_of.nd rfl (.inl rfl)) (pgs_cons (pg_name (i := 5) SC__law_row_of.nd rfl (.inl rfl)) pgs_nil))))))
      (pss_one (ps_ret (pe_makeC Mr.make (hr.mono (by omega)) rfl (pa_cons (pe_makeC Mr.change (hr.mono (by omega)) rfl (pa_cons (pv 2) (pa_cons (pv 3) (pa_cons (pv 4) (pa_cons (pv 5) pa_nil))))) pa_nil))))) pss_nil)
      (pss_cons (ps_if (pt_cmpR op_eq (pv 1) pe_str (nomark _)) (pss_one (ps_ret (pe_makeC Mr.put (hr.mono (by omega)) rfl (pa_cons (pe_ix ix_tup (pv 0) pe_int (fun _ _ => rfl)) (pa_cons (pe_ix ix_tup (pv 0) pe_int (fun _ _ => rfl)) pa_nil))))) pss_nil)
      (pss_cons (ps_if (pt_cmpR op_eq (pv 1) pe_str (nomark _)) (pss_one (ps_ret (pe_makeC Mr.add (hr.mono (by omega)) rfl (pa_cons (pe_ix ix_tup (pv 0) pe_int (fun _ _ => rfl)) (pa_cons (pe_ix ix_tup (pv 0) pe_int (fun _ _ => rfl)) pa_nil))))) pss_nil)
      (pss_cons (ps_if (pt_cmpR op_eq (pv 1) pe_str (nomark _)) (pss_one (ps_ret (pe_makeC Mr.tell (hr.mono (by omega)) rfl (pa_cons (pe_ix ix_tup (pv 0) pe_int (fun _ _ => rfl)) pa_nil)))) pss_nil)
      (pss_cons (ps_if (pt_cmpR op_eq (pv 1) pe_str (nomark _)) (pss_one (ps_ret (pe_make0C Mr.lay (hr.mono (by omega)) rfl))) pss_nil)
      (pss_one (ps_ret (pe_ifExp (pt_cmpR op_eq (pv 1) pe_str (nomark _)) (pe_make0C Mr.stop (hr.mono (by omega)) rfl) (pe_make0C Mr.exch (hr.mono (by omega)) rfl)))))))))))), ?_⟩
    cases r with
    | make m =>
      obtain ⟨p, q, rfl, hp, hq⟩ := hrd
      refine ⟨_, rfl, p, _, 0, _, rfl, rfl, SqT.of hp, rfl, ?_⟩
      refine ⟨_, rfl, rfl, _, rfl, ifF (by decide +kernel) ?_⟩
      refine ⟨_, rfl, rfl, _, rfl, ifF (by decide +kernel) ?_⟩
      refine ⟨_, rfl, rfl, _, rfl, ifT (by decide +kernel) ?_⟩
      refine ⟨_, rfl, p, _, 1, _, rfl, rfl, SqT.of hp, rfl, ?_⟩
      have bm := mats_in hok
      have hdet := mats_det hok
      have hnat : nats (.int m.a) (.int m.b) (.int m.c) (.int m.d) = true := by simp [nats, isNat, bm.a0, bm.b0, bm.c0, bm.d0]
      refine ⟨q, _, rfl, SqT.of hq, rfl, ?_⟩
      refine ⟨_, _, rfl, _, _, rfl, _, _, rfl, _, _, rfl, rfl, ?_⟩
      refine ⟨_, rfl, _, rfl, _, rfl, _, rfl, fun xc dc nc ncd nce => ?_⟩
      refine ⟨xc, dc, _, _, _, _, rfl, ⟨Kd.int _, Kd.int _, Kd.int _, Kd.int _⟩, upd_same, fun _ => ⟨m.a, m.b, m.c, m.d, rfl, rfl, rfl, rfl, ⟨nat_lt bm.a0 bm.a1, nat_lt bm.b0 bm.b1, nat_lt bm.c0 bm.c1, nat_lt bm.d0 bm.d1⟩, fun _ H1 kp1 ch => ⟨rfl, ?_⟩, fun e => absurd e hdet⟩, fun e => by rw [hnat] at e; cases e⟩
      have s1 := mk_sm nc ncd kp1
      refine fun x dx nx nd ne => ?_
      have sm := mk_at (C := c.make) nx nd
      have ch2 := ch.same sm
      obtain ⟨dq, qq, g1, _⟩ := id ch2
      exact ⟨x, dx, .ref xc, _, true, rfl, upd_same, Rc.ty g1, Rc.ins.me, fun _ => ⟨xc, m, rfl, ch2, bm, fun H' kp hrow => ⟨rfl, k x H' (s1.trans (mk_sm nx nd kp)) (s1.free nx) hrow⟩⟩, nofun⟩
    | exch =>
      obtain ⟨p, rfl, hp⟩ := hrd
      refine ⟨_, rfl, p, _, 0, _, rfl, rfl, SqT.of hp, rfl, ?_⟩
      refine ⟨_, rfl, rfl, _, rfl, ifF (by decide +kernel) ?_⟩
      refine ⟨_, rfl, rfl, _, rfl, ifF (by decide +kernel) ?_⟩
      refine ⟨_, rfl, rfl, _, rfl, ifF (by decide +kernel) ?_⟩
      refine ⟨_, rfl, rfl, _, rfl, ifF (by decide +kernel) ?_⟩
      refine ⟨_, rfl, rfl, _, rfl, ifF (by decide +kernel) ?_⟩
      refine ⟨_, rfl, rfl, _, rfl, ifF (by decide +kernel) ?_⟩
      refine ⟨_, rfl, rfl, _, rfl, ifF (by decide +kernel) ?_⟩
      refine ⟨_, rfl, rfl, _, rfl, ifF (by decide +kernel) ?_⟩
      exact fun x dx nx nd ne => ⟨x, dx, rfl, upd_same, fun H' kp hp => ⟨rfl, k x H' (mk_sm nx nd kp) nx hp⟩⟩
    | lay =>
      obtain ⟨p, rfl, hp⟩ := hrd
      refine ⟨_, rfl, p, _, 0, _, rfl, rfl, SqT.of hp, rfl, ?_⟩
      refine ⟨_, rfl, rfl, _, rfl, ifF (by decide +kernel) ?_⟩
      refine ⟨_, rfl, rfl, _, rfl, ifF (by decide +kernel) ?_⟩
      refine ⟨_, rfl, rfl, _, rfl, ifF (by decide +kernel) ?_⟩
      refine ⟨_, rfl, rfl, _, rfl, ifF (by decide +kernel) ?_⟩
      refine ⟨_, rfl, rfl, _, rfl, ifF (by decide +kernel) ?_⟩
      refine ⟨_, rfl, rfl, _, rfl, ifF (by decide +kernel) ?_⟩
      refine ⟨_, rfl, rfl, _, rfl, ifT (by decide +kernel) ?_⟩
      exact fun x dx nx nd ne => ⟨x, dx, rfl, upd_same, fun H' kp hp => ⟨rfl, k x H' (mk_sm nx nd kp) nx hp⟩⟩
    | put n i =>
      obtain ⟨p, rfl, hp⟩ := hrd
      obtain ⟨nk, i0, i1⟩ := hok
      refine ⟨_, rfl, p, _, 0, _, rfl, rfl, SqT.of hp, rfl, ?_⟩
      refine ⟨_, rfl, rfl, _, rfl, ifF (by decide +kernel) ?_⟩
      refine ⟨_, rfl, rfl, _, rfl, ifF (by decide +kernel) ?_⟩
      refine ⟨_, rfl, rfl, _, rfl, ifF (by decide +kernel) ?_⟩
      refine ⟨_, rfl, rfl, _, rfl, ifT (by decide +kernel) ?_⟩
      refine ⟨_, rfl, p, _, 1, _, rfl, rfl, SqT.of hp, rfl, _, rfl, p, _, 2, _, rfl, rfl, SqT.of hp, rfl, fun x dx nx nd ne => ?_⟩
      exact mk_nn nx nd nk i0 i1 fun H' s hp => k x H' s nx hp
    | add n i =>
      obtain ⟨p, rfl, hp⟩ := hrd
      obtain ⟨nk, i0, i1⟩ := hok
      refine ⟨_, rfl, p, _, 0, _, rfl, rfl, SqT.of hp, rfl, ?_⟩
      refine ⟨_, rfl, rfl, _, rfl, ifF (by decide +kernel) ?_⟩
      refine ⟨_, rfl, rfl, _, rfl, ifF (by decide +kernel) ?_⟩
      refine ⟨_, rfl, rfl, _, rfl, ifF (by decide +kernel) ?_⟩
      refine ⟨_, rfl, rfl, _, rfl, ifF (by decide +kernel) ?_⟩
      refine ⟨_, rfl, rfl, _, rfl, ifT (by decide +kernel) ?_⟩
      refine ⟨_, rfl, p, _, 1, _, rfl, rfl, SqT.of hp, rfl, _, rfl, p, _, 2, _, rfl, rfl, SqT.of hp, rfl, fun x dx nx nd ne => ?_⟩
      exact mk_nn nx nd nk i0 i1 fun H' s hp => k x H' s nx hp
    | tell n =>
      obtain ⟨p, rfl, hp⟩ := hrd
      have nk : nameOk n = true := hok
      refine ⟨_, rfl, p, _, 0, _, rfl, rfl, SqT.of hp, rfl, ?_⟩
      refine ⟨_, rfl, rfl, _, rfl, ifF (by decide +kernel) ?_⟩
      refine ⟨_, rfl, rfl, _, rfl, ifF (by decide +kernel) ?_⟩
      refine ⟨_, rfl, rfl, _, rfl, ifF (by decide +kernel) ?_⟩
      refine ⟨_, rfl, rfl, _, rfl, ifF (by decide +kernel) ?_⟩
      refine ⟨_, rfl, rfl, _, rfl, ifF (by decide +kernel) ?_⟩
      refine ⟨_, rfl, rfl, _, rfl, ifT (by decide +kernel) ?_⟩
      refine ⟨_, rfl, p, _, 1, _, rfl, rfl, SqT.of hp, rfl, fun x dx nx nd ne => ?_⟩
      refine ⟨x, dx, .str n, rfl, upd_same, Kd.str _, fun z e => ?_, fun z e _ H' kp hp => ?_, fun e => ?_⟩
      · cases e
        have := name_len nk
        omega
      · cases e
        exact ⟨rfl, k x H' (mk_sm nx nd kp) nx hp⟩
      · have e : nameOk n = false := e
        rw [nk] at e
        cases e
    | stop =>
      obtain ⟨p, rfl, hp⟩ := hrd
      refine ⟨_, rfl, p, _, 0, _, rfl, rfl, SqT.of hp, rfl, ?_⟩
      refine ⟨_, rfl, rfl, _, rfl, ifF (by decide +kernel) ?_⟩
      refine ⟨_, rfl, rfl, _, rfl, ifF (by decide +kernel) ?_⟩
      refine ⟨_, rfl, rfl, _, rfl, ifF (by decide +kernel) ?_⟩
      refine ⟨_, rfl, rfl, _, rfl, ifF (by decide +kernel) ?_⟩
      refine ⟨_, rfl, rfl, _, rfl, ifF (by decide +kernel) ?_⟩
      refine ⟨_, rfl, rfl, _, rfl, ifF (by decide +kernel) ?_⟩
      refine ⟨_, rfl, rfl, _, rfl, ifF (by decide +kernel) ?_⟩
      refine ⟨_, rfl, rfl, _, rfl, ifT (by decide +kernel) ?_⟩
      exact fun x dx nx nd ne => ⟨x, dx, rfl, upd_same, fun H' kp hp => ⟨rfl, k x H' (mk_sm nx nd kp) nx hp⟩⟩
    | ifb t r o =>
      obtain ⟨p, u, a, b, xs, ys, rfl, hp, ht, ha, hra, hb, hrb⟩ := hrd
      obtain ⟨ot, od, oa, ob⟩ := id hok
      have dp : max (deepL r) (deepL o) + 1 < d + 1 := dp
      have sz' : (innerL r ++ innerL o).length + 1 ≤ 1000 := sz
      rw [List.length_append] at sz'
      refine ⟨_, rfl, p, _, 0, _, rfl, rfl, SqT.of hp, rfl, ?_⟩
      refine ⟨_, rfl, rfl, _, rfl, ifT (by decide +kernel) ?_⟩
      refine ⟨_, rfl, p, _, 1, u, rfl, rfl, SqT.of hp, rfl, u, t, rfl, ht, ot, by omega, by decide, fun q H1 s1 n1 hq => ?_⟩
      refine ⟨_, rfl, p, _, 2, .ref a, rfl, rfl, SqT.of (s1 _ _ hp), rfl, a, xs, r, rfl, s1 _ _ ha, hra.tk (TK.same s1), oa, by omega, by omega, by omega, fun l1 H2 ys1 s2 n2 h2 hr2 => ?_⟩
      have s12 := s1.trans s2
      refine ⟨_, rfl, p, _, 3, .ref b, rfl, rfl, SqT.of (s12 _ _ hp), rfl, b, ys, o, rfl, s12 _ _ hb, hrb.tk (TK.same s12), ob, by omega, by omega, by omega, fun l2 H3 ys2 s3 n3 h3 hr3 => ?_⟩
      refine ⟨l2, ys2, rfl, .inl ⟨SqL.of h3, fun l3 n4 => ?_⟩⟩
      have s4 := sm_new (o := .tup ys2) n4
      refine fun x dx nx nd ne => ?_
      have sm := mk_at (C := c.ifb) nx nd
      have lt := txt_len ot
      have sl := sum_lines hok
      refine ⟨x, dx, q, l1, l3, t, ys1, ys2, r, o, rfl, upd_same, hq.tk (TK.same (s2.trans (s3.trans (s4.trans sm)))), by omega, .inl (sm _ _ (s4 _ _ (s3 _ _ h2))), hr2.tk (TK.same (s3.trans (s4.trans sm))), .inr (.inl (sm _ _ upd_same)), hr3.tk (TK.same (s4.trans sm)), by omega, fun H' kp hrow => ⟨rfl, k x H' (s12.trans (s3.trans (s4.trans (mk_sm nx nd kp)))) (s12.free (s3.free (s4.free nx))) hrow⟩⟩
    | untl g r =>
      obtain ⟨p, a, xs, rfl, hp, ha, hra⟩ := hrd
      obtain ⟨og, hl, hm, oa⟩ := id hok
      have dp : deepL r + 1 < d + 1 := dp
      have sz' : (innerL r).length + 1 ≤ 1000 := sz
      refine ⟨_, rfl, p, _, 0, _, rfl, rfl, SqT.of hp, rfl, ?_⟩
      refine ⟨_, rfl, rfl, _, rfl, ifF (by decide +kernel) ?_⟩
      refine ⟨_, rfl, rfl, _, rfl, ifT (by decide +kernel) ?_⟩
      refine ⟨_, rfl, p, _, 1, .str g, rfl, rfl, SqT.of hp, rfl, ?_⟩
      refine ⟨_, rfl, p, _, 2, .ref a, rfl, rfl, SqT.of hp, rfl, a, xs, r, rfl, ha, hra, oa, by omega, by omega, by omega, fun l1 H2 ys1 s2 n2 h2 hr2 => ?_⟩
      refine fun x dx nx nd ne => ?_
      have sm := mk_at (C := c.untl) nx nd
      have sl := sum_lines hok
      exact ⟨x, dx, l1, g, ys1, r, rfl, upd_same, og, .inl (sm _ _ h2), hr2.tk (TK.same sm), by omega, by omega, by omega, fun _ _ H' kp hrow => ⟨rfl, k x H' (s2.trans (mk_sm nx nd kp)) (s2.free nx) hrow⟩, fun e => by rw [hl, hm] at e; cases e⟩
--@*
end
section
variable {P : Program} {w : World} {K : PySem.W.Frag} {mg : Str → Option Value} {base : Heap}
--@of
theorem rof_all {fR fS IR IC : Addr} {dR dS : FuncData} {c : Clz} (T : Txt K mg) (Hc : Hi K mg c) (Rc : ChT K mg c.change) (Mr : MkR P w K mg base c IR IC) (FR : Fun K "_law_row_of" "_law_row_of" S__law_row_of fR dR) (FS : Fun K "_law_rows_of" "_law_rows_of" S__law_rows_of fS dS) (C_tof : FnC P w K mg base CX0 11 "_law_test_of" ["_law_test_here"] (sp_tof K c 3))
    (pkR : ∀ {k : Nat} {sp : Sp}, FnOk P w K mg base CX0 k fR dR ["_law_row_here"] sp → FnC P w K mg base CX0 k "_law_row_of" ["_law_row_here"] sp) (pkS : ∀ {k : Nat} {sp : Sp}, FnOk P w K mg base CX0 k fS dS ["_law_rows_here"] sp → FnC P w K mg base CX0 k "_law_rows_of" ["_law_rows_here"] sp) :
    ∀ d : Nat, FnC P w K mg base CX0 (2 * d + 15) "_law_row_of" ["_law_row_here"] (sp_rof K c d) ∧ FnC P w K mg base CX0 (2 * d + 16) "_law_rows_of" ["_law_rows_here"] (sp_rsof K c d) := by
  intro d
  induction d with
  | zero =>
    have r0 : FnC P w K mg base CX0 (2 * 0 + 15) "_law_row_of" ["_law_row_here"] (sp_rof K c 0) := pkR (fn_false.imp fun vs H Q E h => by
      obtain ⟨v, t, _, _, _, dp, _⟩ := h
      exact absurd dp (Nat.not_lt_zero _))
    exact ⟨r0, pkS (ok_rsof FS T r0)⟩
  | succ d ih =>
    have r1 := pkR (ok_rof FR T Hc Rc Mr C_tof ih.2)
    have e : 2 * (d + 1) + 15 = 2 * d + 17 := by omega
    have e2 : 2 * (d + 1) + 16 = 2 * d + 18 := by omega
    have r1 : FnC P w K mg base CX0 (2 * (d + 1) + 15) "_law_row_of" ["_law_row_here"] (sp_rof K c (d + 1)) := by rw [e]; exact r1
    exact ⟨r1, pkS (ok_rsof FS T r1)⟩
--@*
end

/-! ## programs: steps, states, runs (plain) -/
namespace Pg
/-- a step: what is done (0 a row, 1 a test, 2 a look, 3 a way back), the number of the row, the row, where it goes on else -/
structure PSt where
  kind : Nat
  no : Nat
  row : Rw1
  to : Nat
mutual
def stepsR : Rw1 → Nat → Nat → List PSt
  | .ifb t r o, n, s => ⟨1, n, .ifb t r o, s + 2 + (stepsL r (n + 1) (s + 1)).length⟩ :: (stepsL r (n + 1) (s + 1) ++ (⟨3, n, .ifb t r o, s + 2 + (stepsL r (n + 1) (s + 1)).length + (stepsL o (n + 1 + (innerL r).length) (s + 2 + (stepsL r (n + 1) (s + 1)).length)).length⟩ :: stepsL o (n + 1 + (innerL r).length) (s + 2 + (stepsL r (n + 1) (s + 1)).length)))
  | .untl g r, n, s => ⟨2, n, .untl g r, s + 2 + (stepsL r (n + 1) (s + 1)).length⟩ :: (stepsL r (n + 1) (s + 1) ++ [⟨3, n, .untl g r, s⟩])
  | .make m, n, _ => [⟨0, n, .make m, 0⟩]
  | .exch, n, _ => [⟨0, n, .exch, 0⟩]
  | .lay, n, _ => [⟨0, n, .lay, 0⟩]
  | .put z k, n, _ => [⟨0, n, .put z k, 0⟩]
  | .add z k, n, _ => [⟨0, n, .add z k, 0⟩]
  | .tell m, n, _ => [⟨0, n, .tell m, 0⟩]
  | .stop, n, _ => [⟨0, n, .stop, 0⟩]
def stepsL : List Rw1 → Nat → Nat → List PSt
  | [], _, _ => []
  | r :: rs, n, s => stepsR r n s ++ stepsL rs (n + r.inner.length) (s + (stepsR r n s).length)
end
theorem stepsR_flat {r : Rw1} (h : r.plain = true) (n s : Nat) : stepsR r n s = [⟨0, n, r, 0⟩] := by
  cases r <;> first | rfl | cases h
theorem stepsL_app : ∀ (a b : List Rw1) (n s : Nat), stepsL (a ++ b) n s = stepsL a n s ++ stepsL b (n + (innerL a).length) (s + (stepsL a n s).length)
  | [], _, _, _ => rfl
  | r :: a, b, n, s => by
    show stepsR r n s ++ stepsL (a ++ b) _ _ = (stepsR r n s ++ stepsL a _ _) ++ stepsL b (n + (r.inner ++ innerL a).length) (s + (stepsR r n s ++ stepsL a _ _).length)
    rw [stepsL_app a b, List.append_assoc, List.length_append, List.length_append]
    congr 3 <;> omega
mutual
theorem stepsR_len : ∀ (r : Rw1) (n s : Nat), (stepsR r n s).length ≤ 2 * r.inner.length
  | .ifb t r o, n, s => by
    have h1 := stepsL_len r (n + 1) (s + 1)
    have h2 := stepsL_len o (n + 1 + (innerL r).length) (s + 2 + (stepsL r (n + 1) (s + 1)).length)
    show (_ :: (stepsL r (n + 1) (s + 1) ++ (_ :: stepsL o (n + 1 + (innerL r).length) (s + 2 + (stepsL r (n + 1) (s + 1)).length)))).length ≤ 2 * ((innerL r ++ innerL o).length + 1)
    rw [List.length_cons, List.length_append, List.length_cons, List.length_append]
    omega
  | .untl g r, n, s => by
    have h1 := stepsL_len r (n + 1) (s + 1)
    show (_ :: (stepsL r (n + 1) (s + 1) ++ [_])).length ≤ 2 * ((innerL r).length + 1)
    rw [List.length_cons, List.length_append, List.length_singleton]
    omega
  | .make m, _, _ => Nat.le_succ _
  | .exch, _, _ => Nat.le_succ _
  | .lay, _, _ => Nat.le_succ _
  | .put _ _, _, _ => Nat.le_succ _
  | .add _ _, _, _ => Nat.le_succ _
  | .tell _, _, _ => Nat.le_succ _
  | .stop, _, _ => Nat.le_succ _
theorem stepsL_len : ∀ (rs : List Rw1) (n s : Nat), (stepsL rs n s).length ≤ 2 * (innerL rs).length
  | [], _, _ => Nat.le_refl _
  | r :: rs, n, s => by
    have h1 := stepsR_len r n s
    have h2 := stepsL_len rs (n + r.inner.length) (s + (stepsR r n s).length)
    show (stepsR r n s ++ stepsL rs _ _).length ≤ 2 * (r.inner ++ innerL rs).length
    rw [List.length_append, List.length_append]
    omega
end
/-- what happened -/
inductive Ev
  | mark (z : Str) | row (n : Nat) | let_ (z : Str)
/-- a state: rests, rods, events, layings, whether it was stopped -/
structure Rs where
  rests : List Int
  num : Mt
  ev : List Ev
  lay : Nat
  stop : Bool
/-- how the first rod stands to the second one -/
def ordM (m : Mt) : Option Int := if m.a = m.c ∧ m.b = m.d then some 0 else if m.c ≤ m.a ∧ m.d ≤ m.b then some 1 else if m.a ≤ m.c ∧ m.b ≤ m.d then some (-1) else none
def layM (m : Mt) : Mt := if ordM m = some 1 then ⟨m.a - m.c, m.b - m.d, m.c, m.d⟩ else ⟨m.a, m.b, m.c - m.a, m.d - m.b⟩
def layS (s : Rs) : Rs := if ordM s.num = some 0 then s else { s with num := layM s.num, lay := s.lay + 1 }
/-- the place of a note, its modulus -/
def plN (ns : List (Str × Int)) (z : Str) : Nat := ns.findIdx fun m => decide (m.1 = z)
def mdN (ns : List (Str × Int)) (z : Str) : Int := ((ns[plN ns z]?).map (·.2)).getD 1
def heldN (ns : List (Str × Int)) (s : Rs) (z : Str) : Int := (s.rests[plN ns z]?).getD 0
def holdsT (ns : List (Str × Int)) (s : Rs) : Tst → Bool
  | .not t => !holdsT ns s t
  | .holds z k => decide (heldN ns s z = k % mdN ns z)
  | .alike => decide (ordM s.num = some 0)
  | .longer => decide (ordM s.num = some 1)
  | .shorter => decide (ordM s.num = some (-1))
def wantsT : Tst → Bool
  | .not t => wantsT t
  | .holds _ _ => false
  | _ => true
def goalV (g : Str) : Int := if g = "alike" then 0 else if g = "longer" then 1 else -1
/-- a row that is no block -/
def doR (ns : List (Str × Int)) (s : Rs) : Rw1 → Rs
  | .lay => layS s
  | .make m => { s with num := m.mul s.num }
  | .exch => { s with num := (⟨0, 1, 1, 0⟩ : Mt).mul s.num }
  | .tell z => { s with ev := s.ev ++ [.mark z] }
  | .put z k => { s with rests := s.rests.set (plN ns z) (k % mdN ns z) }
  | .add z k => { s with rests := s.rests.set (plN ns z) ((heldN ns s z + k) % mdN ns z) }
  | .stop => { s with stop := true }
  | _ => s
def rowEv (s : Rs) (n : Nat) : Rs := { s with ev := s.ev ++ [.row n] }
def isStop : Rw1 → Bool
  | .stop => true
  | _ => false
def loops (s : Rs) (g : Str) : Bool := decide (ordM s.num = some 0) || decide (ordM s.num = some (goalV g))
/-- one step; n: how many there are -/
def step1 (ns : List (Str × Int)) (n : Nat) (p : PSt) (i : Nat) (s : Rs) : Nat × Rs :=
  match p.kind with
  | 3 => (p.to, s)
  | 1 => match p.row with
    | .ifb t _ _ => (if holdsT ns (rowEv s p.no) t then i + 1 else p.to, rowEv s p.no)
    | _ => (i + 1, rowEv s p.no)
  | 2 => match p.row with
    | .untl g _ => (if loops (rowEv s p.no) g then p.to else i + 1, rowEv s p.no)
    | _ => (i + 1, rowEv s p.no)
  | _ => (if isStop p.row then n else i + 1, doR ns (rowEv s p.no) p.row)
/-- whether the next step waits -/
def waitsAt (ps : List PSt) (i : Nat) (m : Mt) : Bool :=
  if ordM m = none then match ps[i]? with
    | none => true
    | some p => match p.kind with
      | 1 => match p.row with
        | .ifb t _ _ => wantsT t
        | _ => false
      | 2 => true
      | 0 => match p.row with
        | .lay => true
        | _ => false
      | _ => false
  else false
/-- what a state must be for a step -/
structure Rs.Ok (ns : List (Str × Int)) (s : Rs) : Prop where
  len : s.rests.length = ns.length
  num : s.num.In 990
  ev : s.ev.length ≤ 900000
/-- it goes on until it is behind its end, or waits -/
inductive Goes (ns : List (Str × Int)) (ps : List PSt) : Nat → Nat → Rs → Nat → Rs → Prop
  | fin {i : Nat} {s : Rs} (l : i ≤ ps.length) (h : i = ps.length ∨ waitsAt ps i s.num = true) : Goes ns ps 0 i s i s
  | step {n i j : Nat} {s s' : Rs} {p : PSt} (h : ps[i]? = some p) (hw : waitsAt ps i s.num = false) (ok : s.Ok ns) (g : Goes ns ps n (step1 ns ps.length p i s).1 (step1 ns ps.length p i s).2 j s') : Goes ns ps (n + 1) i s j s'
end Pg
open Pg

/-! ## the steps of rows -/
namespace Pg
/-- the module's names of steps -/
structure SG (mg : Str → Option Value) : Prop where
  do_ : GS mg "DO" "do"
  test : GS mg "TEST" "test"
  look : GS mg "LOOK" "look"
  go : GS mg "GO" "go"
def Rw1.rk : Rw1 → Nat
  | .make _ => 0
  | .exch => 1
  | .lay => 2
  | .put _ _ => 3
  | .add _ _ => 4
  | .tell _ => 5
  | .stop => 6
  | .ifb _ _ _ => 7
  | .untl _ _ => 8
def Tst.rk : Tst → Nat
  | .longer => 0
  | .shorter => 1
  | .alike => 2
  | .holds _ _ => 3
  | .not _ => 4
/-- which class a row, a test is of -/
structure Hk (K : PySem.W.Frag) (c : Clz) : Prop where
  make : ∀ r : Rw1, PySem.W.kitOne K (.ref (r.cls c)) (.ref c.make) = some (decide (r.rk = 0))
  exch : ∀ r : Rw1, PySem.W.kitOne K (.ref (r.cls c)) (.ref c.exch) = some (decide (r.rk = 1))
  lay : ∀ r : Rw1, PySem.W.kitOne K (.ref (r.cls c)) (.ref c.lay) = some (decide (r.rk = 2))
  put : ∀ r : Rw1, PySem.W.kitOne K (.ref (r.cls c)) (.ref c.put) = some (decide (r.rk = 3))
  add : ∀ r : Rw1, PySem.W.kitOne K (.ref (r.cls c)) (.ref c.add) = some (decide (r.rk = 4))
  tell : ∀ r : Rw1, PySem.W.kitOne K (.ref (r.cls c)) (.ref c.tell) = some (decide (r.rk = 5))
  stop : ∀ r : Rw1, PySem.W.kitOne K (.ref (r.cls c)) (.ref c.stop) = some (decide (r.rk = 6))
  ifb : ∀ r : Rw1, PySem.W.kitOne K (.ref (r.cls c)) (.ref c.ifb) = some (decide (r.rk = 7))
  untl : ∀ r : Rw1, PySem.W.kitOne K (.ref (r.cls c)) (.ref c.untl) = some (decide (r.rk = 8))
  longer : ∀ t : Tst, PySem.W.kitOne K (.ref (t.cls c)) (.ref c.longer) = some (decide (t.rk = 0))
  alike : ∀ t : Tst, PySem.W.kitOne K (.ref (t.cls c)) (.ref c.alike) = some (decide (t.rk = 2))
  holds : ∀ t : Tst, PySem.W.kitOne K (.ref (t.cls c)) (.ref c.holds) = some (decide (t.rk = 3))
  not : ∀ t : Tst, PySem.W.kitOne K (.ref (t.cls c)) (.ref c.not) = some (decide (t.rk = 4))
/-- .. by name -/
structure Hm (mg : Str → Option Value) (c : Clz) : Prop where
  exch : mg "Exchange" = some (.ref c.exch)
  lay : mg "Lay" = some (.ref c.lay)
  put : mg "Put" = some (.ref c.put)
  add : mg "Add" = some (.ref c.add)
  tell : mg "Tell" = some (.ref c.tell)
  stop : mg "Stop" = some (.ref c.stop)
  ifb : mg "If" = some (.ref c.ifb)
  untl : mg "Until" = some (.ref c.untl)
  longer : mg "Longer" = some (.ref c.longer)
  alike : mg "Alike" = some (.ref c.alike)
  holds : mg "Holds" = some (.ref c.holds)
  not : mg "Not" = some (.ref c.not)
def kindS : Nat → Str
  | 0 => "do"
  | 1 => "test"
  | 2 => "look"
  | _ => "go"
section
variable {K : PySem.W.Frag} {c : Clz} {H H' : Hp}
def PStAt (K : PySem.W.Frag) (c : Clz) (H : Hp) (v : V) (p : PSt) : Prop := ∃ t q, v = .ref t ∧ H t = some (.tup [.str (kindS p.kind), .int (p.no : Nat), .ref q, .int (p.to : Nat)]) ∧ RowAt K c H q p.row
def StepsAt (K : PySem.W.Frag) (c : Clz) (H : Hp) : List V → List PSt → Prop
  | [], [] => True
  | v :: vs, p :: ps => PStAt K c H v p ∧ StepsAt K c H vs ps
  | _, _ => False
theorem PStAt.tk (s : TK H H') {v : V} {p : PSt} (h : PStAt K c H v p) : PStAt K c H' v p := by
  obtain ⟨t, q, e, h1, h2⟩ := h
  exact ⟨t, q, e, s _ _ rfl h1, h2.tk s⟩
theorem StepsAt.tk (s : TK H H') : ∀ {ps : List PSt} {vs : List V}, StepsAt K c H vs ps → StepsAt K c H' vs ps
  | [], [], _ => trivial
  | _ :: _, _ :: _, ⟨h, t⟩ => ⟨h.tk s, StepsAt.tk s t⟩
theorem StepsAt.len : ∀ {ps : List PSt} {vs : List V}, StepsAt K c H vs ps → vs.length = ps.length
  | [], [], _ => rfl
  | _ :: _, _ :: _, ⟨_, t⟩ => congrArg Nat.succ (StepsAt.len t)
theorem StepsAt.app : ∀ {xs ys : List V} {ps qs : List PSt}, StepsAt K c H xs ps → StepsAt K c H ys qs → StepsAt K c H (xs ++ ys) (ps ++ qs)
  | [], _, [], _, _, h => h
  | _ :: _, _, _ :: _, _, ⟨a, t⟩, h => ⟨a, StepsAt.app t h⟩
theorem StepsAt.at : ∀ {ps : List PSt} {vs : List V} {i : Nat} {p : PSt}, StepsAt K c H vs ps → ps[i]? = some p → ∃ v, vs[i]? = some v ∧ PStAt K c H v p
  | [], [], _, _, _, h => by simp at h
  | _ :: _, v :: _, 0, _, ⟨h, _⟩, e => by cases e; exact ⟨v, rfl, h⟩
  | _ :: _, _ :: _, i + 1, _, ⟨_, h⟩, e => StepsAt.at (i := i) h (by simpa using e)
end
def sp_laid (K : PySem.W.Frag) (c : Clz) (d : Nat) : Sp := fun vs H Q _ => ∃ (p : Addr) (n s : Nat) (xs : List V) (rs : List Rw1), vs = [.ref p, .int (n : Nat), .int (s : Nat)] ∧ SqA K H p xs ∧ RowsAt K c H xs rs ∧ deepL rs < d ∧ d ≤ 5 ∧ (innerL rs).length ≤ 100000 ∧ ∀ l H' ws, Same H H' → H l = none → H' l = some (.lst ws) → StepsAt K c H' ws (stepsL rs n s) → Q (.ref l) H'
def sp_srow (K : PySem.W.Frag) (c : Clz) (d : Nat) : Sp := fun vs H Q _ => ∃ (p : Addr) (n s : Nat) (r : Rw1), vs = [.ref p, .int (n : Nat), .int (s : Nat)] ∧ RowAt K c H p r ∧ r.deep < d ∧ d ≤ 5 ∧ r.inner.length ≤ 100000 ∧ ∀ l H' ws, Same H H' → H l = none → H' l = some (.lst ws) → StepsAt K c H' ws (stepsR r n s) → Q (.ref l) H'
def sp_steps (K : PySem.W.Frag) (c : Clz) : Sp := fun vs H Q _ => ∃ (p : Addr) (xs : List V) (rs : List Rw1), vs = [.ref p] ∧ SqA K H p xs ∧ RowsAt K c H xs rs ∧ deepL rs ≤ 4 ∧ (innerL rs).length ≤ 100000 ∧ ∀ l H' ws, Same H H' → H' l = some (.tup ws) → StepsAt K c H' ws (stepsL rs 0 0) → Q (.ref l) H'
theorem stepsL_take {rs : List Rw1} {i : Nat} {r : Rw1} (h : rs[i]? = some r) (n s : Nat) : stepsL (rs.take (i + 1)) n s = stepsL (rs.take i) n s ++ stepsR r (n + (innerL (rs.take i)).length) (s + (stepsL (rs.take i) n s).length) := by
  rw [List.take_succ, h, stepsL_app]
  show _ ++ (stepsR r _ _ ++ []) = _
  rw [List.append_nil]
theorem stepsL_len_take (rs : List Rw1) (i n s : Nat) : (stepsL (rs.take i) n s).length ≤ 2 * (innerL rs).length := Nat.le_trans (stepsL_len _ n s) (by have := innerL_le (rs := rs) i; omega)
end Pg
open Pg
section
variable {P : Program} {w : World} {K : PySem.W.Frag} {mg : Str → Option Value} {base : Heap}
theorem ok_laid {f : Addr} {fd : FuncData} {c : Clz} {d : Nat} (F : Fun K "laid_out" "laid_out" S_laid_out f fd) (T : Txt K mg) (Hc : Hi K mg c) (M_inner : ∀ u : Rw1, MtC P w K mg base CX0 9 (u.cls c) "inner" ["self"] (sp_inner K c 4 (u.cls c))) (C_srow : FnC P w K mg base CX0 (2 * d + 11) "steps_of_row" ["row", "at", "spot"] (sp_srow K c d)) : FnOk P w K mg base CX0 (2 * d + 12) f fd ["rows", "at", "spot"] (sp_laid K c d) := by
  refine F.ok SC_laid_out (fun vs H Q E h => ?_) (fun cdv A outer s H vs Q E hr h => ?_)
  · obtain ⟨p, n, s, xs, rs, rfl, _⟩ := h
    rfl
  · obtain ⟨p, n, s, xs, rs, rfl, hs, hrs, dp, d5, sz, k⟩ := h
    refine ⟨_, (pss_cons (ps_set (i := 3) SC_laid_out.nd rfl (.inl rfl) (pe_lstN pa_nil))
      (pss_cons (ps_for PassesOwn.never rfl (pi_seq (pv 0)) (pg_name (i := 4) SC_laid_out.nd rfl (.inl rfl)) (pss_cons (ps_expr (pe_bm PySem.F.plainAttrs_list PySem.F.slot_list_extend PySem.F.type_list_extend mt_extend (pv 3) (pa_cons (pe_callC C_srow (hr.mono (by omega)) rfl (pa_cons (pv 4) (pa_cons (pv 1) (pa_cons (pe_op op_add (pv 2) (pe_callB call_len_seq (by rfl) T.b_len (by decide +kernel) (pa_cons (pv 3) pa_nil))) pa_nil)))) pa_nil)))
      (pss_one (ps_set (i := 1) SC_laid_out.nd rfl (.inl rfl) (pe_op op_add (pv 1) (pe_callB call_len_seq (by rfl) T.b_len (by decide +kernel) (pa_cons (pe_ex (fun (u : Rw1) (_ : True) => pe_mth0 (M_inner u) (Hc.r u).ins.cl (hr.mono (by omega)) (pv 4))) pa_nil)))))))
      (pss_one (ps_ret (pv 3))))), ?_⟩
    refine ⟨Nat.zero_le _, fun l H1 n1 s1 h1 => ?_⟩
    refine for_seqB (p := p) (xs := xs) (H0 := H) rfl hs (fun j σ H2 => Same H H2 ∧ (∃ ws, H2 l = some (.lst ws) ∧ StepsAt K c H2 ws (stepsL (rs.take j) n s)) ∧ ∃ y, σ = [some (.ref p), some (.int ((n + (innerL (rs.take j)).length : Nat) : Int)), some (.int (s : Nat)), some (.ref l), y]) ⟨s1, ⟨_, h1, trivial⟩, _, rfl⟩ (fun j σ' H2 _ m o e => m.1 _ _ e) (fun j x σ' H2 hj m => ?_) (fun σ' H2 m => ?_)
    · obtain ⟨s2, ⟨ws, h2, hw⟩, y, rfl⟩ := m
      obtain ⟨q, r, rfl, hr', hq⟩ := hrs.at hj
      have hq2 := hq.tk (TK.same s2)
      have e1 := innerL_take hr'
      have e2 := innerL_le (rs := rs) (j + 1)
      have ew := hw.len
      have e3 := stepsL_len_take rs j n s
      have dr := deepL_mem (List.mem_of_getElem? hr')
      rw [e1, List.length_append] at e2
      refine ⟨_, rfl, .inl ⟨rfl, _, SqL.of h2⟩, ?_⟩
      refine ⟨_, rfl, _, rfl, _, rfl, _, rfl, l, ws, rfl, .inl (SqL.of h2), _, _, rfl, rfl, ?_⟩
      refine ⟨q, n + (innerL (rs.take j)).length, s + (stepsL (rs.take j) n s).length, r, by rw [ew, Int.natCast_add s]; rfl, hq2, by omega, d5, by omega, fun l3 H3 ws3 s3 n3 h3 hw3 => ?_⟩
      have ew3 := hw3.len
      have e4 := stepsR_len r (n + (innerL (rs.take j)).length) (s + (stepsL (rs.take j) n s).length)
      refine ⟨l, l3, ws, ws3, rfl, rfl, s3 _ _ h2, h3, szl (by omega), ?_⟩
      have tk3 : TK H3 (upd H3 l (.lst (ws ++ ws3))) := TK.upd (s3 _ _ h2) rfl
      have s5 : Same H (upd H3 l (.lst (ws ++ ws3))) := fun b o e => by rw [upd_ne (ne_of_none e n1)]; exact s3 _ _ (s2 _ _ e)
      have h5 : (upd H3 l (.lst (ws ++ ws3))) l = some (.lst (ws ++ ws3)) := upd_same
      have hq5 := (hq2.tk (TK.same s3)).tk tk3
      have hw5 := (hw.tk ((TK.same s3).trans tk3)).app (hw3.tk tk3)
      generalize upd H3 l (.lst (ws ++ ws3)) = H5 at s5 h5 hq5 hw5 ⊢
      obtain ⟨fs, dx, a, u, g1, g2, g3, g4, g5, g6, g7, g8, g9⟩ := hq5.part
      refine ⟨_, rfl, r, trivial, _, rfl, q, dx, fs, rfl, g1, g8, ?_⟩
      refine ⟨q, r, rfl, hq5, rfl, by omega, by omega, fun l6 H6 ws6 s6 n6 h6 hw6 => ?_⟩
      refine ⟨l6, ws6, rfl, .inl (SqL.of h6), _, _, rfl, rfl, ?_⟩
      refine ⟨s5.trans s6, ⟨_, s6 _ _ h5, ?_⟩, some (.ref q), ?_⟩
      · rw [stepsL_take hr']
        exact hw5.tk (TK.same s6)
      · rw [hw6.len, e1, List.length_append, ← Nat.add_assoc, Int.natCast_add _ r.inner.length]
        rfl
    · obtain ⟨s2, ⟨ws, h2, hw⟩, y, rfl⟩ := m
      rw [hrs.len, List.take_length] at hw
      exact ⟨_, rfl, k l H2 ws s2 n1 h2 hw⟩
theorem ok_srow {f : Addr} {fd : FuncData} {c : Clz} {d : Nat} (F : Fun K "steps_of_row" "steps_of_row" S_steps_of_row f fd) (T : Txt K mg) (Hc : Hi K mg c) (Hk : Hk K c) (Hn : Hm mg c) (Sg : SG mg) (C_irows : FnC P w K mg base CX0 10 "inner_rows" ["rows"] (sp_irows K c 4)) (C_laid : FnC P w K mg base CX0 (2 * d + 12) "laid_out" ["rows", "at", "spot"] (sp_laid K c d)) : FnOk P w K mg base CX0 (2 * d + 13) f fd ["row", "at", "spot"] (sp_srow K c (d + 1)) := by
  refine F.ok SC_steps_of_row (fun vs H Q E h => ?_) (fun cdv A outer s H vs Q E hr h => ?_)
  · obtain ⟨p, n, s, r, rfl, _⟩ := h
    rfl
  · obtain ⟨p, n, s, r, rfl, hp, dp, d5, sz, k⟩ := h
    obtain ⟨tDO, hDO⟩ := Sg.do_.ex
    obtain ⟨tTEST, hTEST⟩ := Sg.test.ex
    obtain ⟨tLOOK, hLOOK⟩ := Sg.look.ex
    obtain ⟨tGO, hGO⟩ := Sg.go.ex
    refine ⟨_, (pss_cons (ps_if (pt_val (pe_callB call_isi (by rfl) T.b_isinstance (by decide +kernel) (pa_cons (pv 0) (pa_cons (pe_glob (v := .ref c.ifb) (by rfl) Hn.ifb rfl) pa_nil)))) (pss_cons (ps_set (i := 3) SC_steps_of_row.nd rfl (.inl rfl) (pe_callC C_laid (hr.mono (by omega)) rfl (pa_cons (pe_fld (pv 0) rfl) (pa_cons (pe_op op_add (pv 1) pe_int) (pa_cons (pe_op op_add (pv 2) pe_int) pa_nil)))))
      (pss_cons (ps_set (i := 4) SC_steps_of_row.nd rfl (.inl rfl) (pe_op op_add (pe_op op_add (pv 2) pe_int) (pe_callB call_len_seq (by rfl) T.b_len (by decide +kernel) (pa_cons (pv 3) pa_nil))))
      (pss_cons (ps_set (i := 5) SC_steps_of_row.nd rfl (.inl rfl) (pe_callC C_laid (hr.mono (by omega)) rfl (pa_cons (pe_fld (pv 0) rfl) (pa_cons (pe_op op_add (pe_op op_add (pv 1) pe_int) (pe_callB call_len_seq (by rfl) T.b_len (by decide +kernel) (pa_cons (pe_callC C_irows (hr.mono (by omega)) rfl (pa_cons (pe_fld (pv 0) rfl) pa_nil)) pa_nil))) (pa_cons (pv 4) pa_nil)))))
      (pss_one (ps_ret (pe_lst (pa_cons (pe_tupN (pa_cons (pe_glob (v := .str "test") (by rfl) hTEST ⟨_, rfl⟩) (pa_cons (pv 1) (pa_cons (pv 0) (pa_cons (pv 4) pa_nil))))) (StX.pa_star (pv 3) (pa_cons (pe_tupN (pa_cons (pe_glob (v := .str "go") (by rfl) hGO ⟨_, rfl⟩) (pa_cons (pv 1) (pa_cons (pv 0) (pa_cons (pe_op op_add (pv 4) (pe_callB call_len_seq (by rfl) T.b_len (by decide +kernel) (pa_cons (pv 5) pa_nil))) pa_nil))))) (StX.pa_star (pv 5) pa_nil)))))))))) pss_nil)
      (pss_cons (ps_if (pt_val (pe_callB call_isi (by rfl) T.b_isinstance (by decide +kernel) (pa_cons (pv 0) (pa_cons (pe_glob (v := .ref c.untl) (by rfl) Hn.untl rfl) pa_nil)))) (pss_cons (ps_set (i := 3) SC_steps_of_row.nd rfl (.inl rfl) (pe_callC C_laid (hr.mono (by omega)) rfl (pa_cons (pe_fld (pv 0) rfl) (pa_cons (pe_op op_add (pv 1) pe_int) (pa_cons (pe_op op_add (pv 2) pe_int) pa_nil)))))
      (pss_one (ps_ret (pe_lst (pa_cons (pe_tupN (pa_cons (pe_glob (v := .str "look") (by rfl) hLOOK ⟨_, rfl⟩) (pa_cons (pv 1) (pa_cons (pv 0) (pa_cons (pe_op op_add (pe_op op_add (pv 2) pe_int) (pe_callB call_len_seq (by rfl) T.b_len (by decide +kernel) (pa_cons (pv 3) pa_nil))) pa_nil))))) (StX.pa_star (pv 3) (pa_cons (pe_tupN (pa_cons (pe_glob (v := .str "go") (by rfl) hGO ⟨_, rfl⟩) (pa_cons (pv 1) (pa_cons (pv 0) (pa_cons (pv 2) pa_nil))))) pa_nil))))))) pss_nil)
      (pss_one (ps_ret (pe_lstN (pa_cons (pe_tupN (pa_cons (pe_glob (v := .str "do") (by rfl) hDO ⟨_, rfl⟩) (pa_cons (pv 1) (pa_cons (pv 0) (pa_cons pe_int pa_nil))))) pa_nil)))))), ?_⟩
    obtain ⟨fs, pq⟩ := hp.part
    obtain ⟨dx, a', u, g1, g2, g3, g4, g5, g6, g7, g8, g9⟩ := id pq
    have ti := tyx_ins (Hc.r r).ins g1
    refine ⟨_, rfl, .ref p, _, _, _, _, rfl, .own _, ti, Hk.ifb r, _, rfl, ?_⟩
    by_cases hpl : r.plain = true
    · refine ifF (by cases r <;> first | rfl | cases hpl) ?_
      refine ⟨_, rfl, .ref p, _, _, _, _, rfl, .own _, ti, Hk.untl r, _, rfl, ?_⟩
      refine ifF (by cases r <;> first | rfl | cases hpl) ?_
      refine ⟨_, rfl, _, rfl, by show 4 ≤ 1000000; decide, fun t H1 n1 s1 h1 => ⟨by show 1 ≤ 1000000; decide, fun l H2 n2 s2 h2 => ?_⟩⟩
      refine k l H2 _ (s1.trans s2) (s1.free n2) h2 ?_
      rw [stepsR_flat hpl]
      exact ⟨⟨t, p, rfl, s2 _ _ h1, hp.tk (TK.same (s1.trans s2))⟩, trivial⟩
    · cases r with
      | ifb t r o =>
        obtain ⟨fs, q, a, b, xs, ys, pq, e1, ht, e2, h2, hr2, e3, h3, ho⟩ := id hp
        obtain ⟨dx, a', u, g1, g2, g3, g4, g5, g6, g7, g8, g9⟩ := id pq
        have dp : max (deepL r) (deepL o) + 1 < d + 1 := dp
        have ei : (Rw1.ifb t r o).inner = .ifb t r o :: (innerL r ++ innerL o) := rfl
        rw [ei, List.length_cons, List.length_append] at sz
        refine ifT rfl ?_
        refine ⟨_, rfl, p, _, dx, fs, _, rfl, g1, Hc.ifb.ins.cl, Hc.ifb.no "rows" (by simp [fnames]), e2, ?_⟩
        refine ⟨_, rfl, _, _, rfl, rfl, _, rfl, _, _, rfl, rfl, a, n + 1, s + 1, xs, r, rfl, .inr h2, hr2, by omega, by omega, by omega, fun l1 H1 ws1 s1 n1 h1 hw1 => ?_⟩
        have f1 := s1 _ _ g1
        have ew1 := hw1.len
        have e4 := stepsL_len r (n + 1) (s + 1)
        refine ⟨_, rfl, _, _, rfl, rfl, _, rfl, l1, ws1, rfl, .inl (SqL.of h1), _, _, rfl, rfl, ?_⟩
        refine ⟨_, rfl, p, _, dx, fs, _, rfl, f1, Hc.ifb.ins.cl, Hc.ifb.no "others" (by simp [fnames]), e3, ?_⟩
        refine ⟨_, rfl, _, _, rfl, rfl, _, rfl, p, _, dx, fs, _, rfl, f1, Hc.ifb.ins.cl, Hc.ifb.no "rows" (by simp [fnames]), e2, ?_⟩
        have h21 := sqT_tk (TK.same s1) h2
        refine ⟨a, xs, r, rfl, .inr h21, hr2.tk (TK.same s1), by omega, by omega, fun l2 H2 ws2 s2 n2 h22 hw2 => ?_⟩
        refine ⟨l2, ws2, rfl, .inl (SqL.of h22), _, _, rfl, rfl, _, rfl, ?_⟩
        have s12 := s1.trans s2
        have ho2 := ho.tk (TK.same s12)
        refine ⟨b, n + 1 + (innerL r).length, s + 2 + (stepsL r (n + 1) (s + 1)).length, ys, o, by rw [hw2.len, ew1, Int.natCast_add (n + 1), Int.natCast_add (s + 2)]; rfl, .inr (sqT_tk (TK.same s12) h3), ho2, by omega, by omega, by omega, fun l3 H3 ws3 s3 n3 h33 hw3 => ?_⟩
        have ew3 := hw3.len
        have e5 := stepsL_len o (n + 1 + (innerL r).length) (s + 2 + (stepsL r (n + 1) (s + 1)).length)
        refine ⟨_, rfl, _, rfl, _, rfl, by show 4 ≤ 1000000; decide, fun t1 H4 n4 s4 h4 => ?_⟩
        have s34 := s3.trans s4
        refine ⟨_, rfl, l1, ws1, rfl, .inr (SqL.of (s34 _ _ (s2 _ _ h1))), ?_⟩
        refine ⟨_, rfl, _, rfl, _, rfl, _, rfl, l3, ws3, rfl, .inl (SqL.of (s4 _ _ h33)), _, _, rfl, rfl, by show 4 ≤ 1000000; decide, fun t2 H5 n5 s5 h5 => ?_⟩
        refine ⟨_, rfl, l3, ws3, rfl, .inr (SqL.of (s5 _ _ (s4 _ _ h33))), ?_⟩
        refine ⟨szl ?_, fun l6 n6 => ?_⟩
        · simp only [List.length_cons, List.length_append, List.length_nil]
          omega
        have s6 := sm_new (o := .lst (V.ref t1 :: (ws1 ++ (V.ref t2 :: (ws3 ++ []))))) n6
        have s15 := s12.trans (s34.trans s5)
        refine k l6 _ _ (s15.trans s6) (s15.free n6) upd_same ?_
        generalize upd H5 l6 (.lst (V.ref t1 :: (ws1 ++ (V.ref t2 :: (ws3 ++ []))))) = H6 at s6 ⊢
        have e6 := s5.trans s6
        have p6 : RowAt K c H6 p (.ifb t r o) := RowAt.tk (TK.same (s15.trans s6)) hp
        rw [List.append_nil]
        refine ⟨⟨t1, p, rfl, ?_, p6⟩, (hw1.tk (TK.same (s2.trans (s34.trans e6)))).app ⟨⟨t2, p, rfl, ?_, p6⟩, hw3.tk (TK.same (s4.trans e6))⟩⟩
        · rw [e6 _ _ h4, ew1, Int.natCast_add (s + 2)]; rfl
        · rw [s6 _ _ h5, ew1, ew3, Int.natCast_add (s + 2 + _), Int.natCast_add (s + 2)]; rfl
      | untl g r =>
        obtain ⟨fs, a, xs, pq, e1, e2, h2, hr2⟩ := id hp
        obtain ⟨dx, a', u, g1, g2, g3, g4, g5, g6, g7, g8, g9⟩ := id pq
        have dp : deepL r + 1 < d + 1 := dp
        have ei : (Rw1.untl g r).inner = .untl g r :: innerL r := rfl
        rw [ei, List.length_cons] at sz
        refine ifF rfl ?_
        refine ⟨_, rfl, .ref p, _, _, _, _, rfl, .own _, ti, Hk.untl _, _, rfl, ?_⟩
        refine ifT rfl ?_
        refine ⟨_, rfl, p, _, dx, fs, _, rfl, g1, Hc.untl.ins.cl, Hc.untl.no "rows" (by simp [fnames]), e2, ?_⟩
        refine ⟨_, rfl, _, _, rfl, rfl, _, rfl, _, _, rfl, rfl, a, n + 1, s + 1, xs, r, rfl, .inr h2, hr2, by omega, by omega, by omega, fun l1 H1 ws1 s1 n1 h1 hw1 => ?_⟩
        have f1 := s1 _ _ g1
        have ew1 := hw1.len
        have e4 := stepsL_len r (n + 1) (s + 1)
        refine ⟨_, rfl, _, rfl, _, rfl, _, _, rfl, rfl, _, rfl, l1, ws1, rfl, .inl (SqL.of h1), _, _, rfl, rfl, by show 4 ≤ 1000000; decide, fun t1 H4 n4 s4 h4 => ?_⟩
        refine ⟨_, rfl, l1, ws1, rfl, .inr (SqL.of (s4 _ _ h1)), ?_⟩
        refine ⟨_, rfl, _, rfl, _, rfl, by show 4 ≤ 1000000; decide, fun t2 H5 n5 s5 h5 => ?_⟩
        refine ⟨szl ?_, fun l6 n6 => ?_⟩
        · simp only [List.length_cons, List.length_append, List.length_nil]
          omega
        have s6 := sm_new (o := .lst (V.ref t1 :: (ws1 ++ [V.ref t2]))) n6
        have s15 := s1.trans (s4.trans s5)
        refine k l6 _ _ (s15.trans s6) (s15.free n6) upd_same ?_
        generalize upd H5 l6 (.lst (V.ref t1 :: (ws1 ++ [V.ref t2]))) = H6 at s6 ⊢
        have e6 := s5.trans s6
        have p6 : RowAt K c H6 p (.untl g r) := RowAt.tk (TK.same (s15.trans s6)) hp
        refine ⟨⟨t1, p, rfl, ?_, p6⟩, (hw1.tk (TK.same (s4.trans e6))).app ⟨⟨t2, p, rfl, ?_, p6⟩, trivial⟩⟩
        · rw [e6 _ _ h4, ew1, Int.natCast_add (s + 2)]; rfl
        · rw [s6 _ _ h5]; rfl
      | _ => exact absurd rfl hpl
theorem ok_steps {f : Addr} {fd : FuncData} {c : Clz} (F : Fun K "steps_of" "steps_of" S_steps_of f fd) (T : Txt K mg) (C_laid : FnC P w K mg base CX0 22 "laid_out" ["rows", "at", "spot"] (sp_laid K c 5)) : FnOk P w K mg base CX0 23 f fd ["rows"] (sp_steps K c) := by
  refine F.ok SC_steps_of (fun vs H Q E h => ?_) (fun cdv A outer s H vs Q E hr h => ?_)
  · obtain ⟨p, xs, rs, rfl, _⟩ := h
    rfl
  · obtain ⟨p, xs, rs, rfl, hs, hrs, dp, sz, k⟩ := h
    refine ⟨_, (pss_one (ps_ret (pe_callTy call_tuple_of (by rfl) T.b_tuple (by decide +kernel) (pa_cons (pe_callC C_laid (hr.mono (by omega)) rfl (pa_cons (pv 0) (pa_cons pe_int (pa_cons pe_int pa_nil)))) pa_nil)))), ?_⟩
    refine ⟨_, rfl, p, 0, 0, xs, rs, rfl, hs, hrs, by omega, by decide, sz, fun l H1 ws s1 n1 h1 hw => ?_⟩
    refine ⟨l, ws, rfl, .inl ⟨SqL.of h1, fun l2 n2 => ?_⟩⟩
    have s2 := sm_new (o := .tup ws) n2
    exact k l2 _ ws (s1.trans s2) upd_same (hw.tk (TK.same s2))
theorem laid_all {fL fR : Addr} {dL dR : FuncData} {c : Clz} (T : Txt K mg) (Hc : Hi K mg c) (Hk : Hk K c) (Hn : Hm mg c) (Sg : SG mg) (FL : Fun K "laid_out" "laid_out" S_laid_out fL dL) (FR : Fun K "steps_of_row" "steps_of_row" S_steps_of_row fR dR) (M_inner : ∀ u : Rw1, MtC P w K mg base CX0 9 (u.cls c) "inner" ["self"] (sp_inner K c 4 (u.cls c))) (C_irows : FnC P w K mg base CX0 10 "inner_rows" ["rows"] (sp_irows K c 4))
    (pkL : ∀ {k : Nat} {sp : Sp}, FnOk P w K mg base CX0 k fL dL ["rows", "at", "spot"] sp → FnC P w K mg base CX0 k "laid_out" ["rows", "at", "spot"] sp) (pkR : ∀ {k : Nat} {sp : Sp}, FnOk P w K mg base CX0 k fR dR ["row", "at", "spot"] sp → FnC P w K mg base CX0 k "steps_of_row" ["row", "at", "spot"] sp) : ∀ d : Nat, FnC P w K mg base CX0 (2 * d + 12) "laid_out" ["rows", "at", "spot"] (sp_laid K c d) := by
  intro d
  induction d with
  | zero => exact pkL (ok_laid FL T Hc M_inner (pkR (fn_false.imp fun vs H Q E h => by
      obtain ⟨p, n, s, r, _, _, dp, _⟩ := h
      exact absurd dp (Nat.not_lt_zero _))))
  | succ d ih => exact pkL (ok_laid FL T Hc M_inner (pkR (ok_srow FR T Hc Hk Hn Sg C_irows ih)))
end

/-! ## programs as objects -/
namespace Pg
theorem pg_tupK {X : Cx} {K : PySem.W.Frag} {es : List Expr} {k : Nat} {t : TGs} {n : Nat} {pos : Pos} (hK : X.K = K) (hc : X.calm = true) (h : PGs X es t)
    (hn : (assignEach es X.env).length = n := by rfl) (hst : (assignEach es X.env).findIdx? (·.1) = none := by rfl) : PG X (.Tuple es k pos) (gTup K n t) := hK ▸ pg_tup hc h hn hst
section
variable {K : PySem.W.Frag} {c : Clz} {C D x dx p : Addr} {H H' : Hp} {ss us : List Str} {fs gs : List (Str × V)}
/-- all but an object that is no row, no change stays -/
theorem sqT_ng (hx : H x = some (.ins C dx gs)) (kp : ∀ b o, b ≠ x → H b = some o → H' b = some o) {q : Addr} {xs : List V} (h : SqT K H q xs) : SqT K H' q xs := h.elim (fun q' => .inl (q'.elim (fun q' => .inl (kp _ _ (fun e => by rw [e, hx] at q'; cases q') q')) fun ⟨o, q'⟩ => .inr ⟨o, kp _ _ (fun e => by rw [e, hx] at q'; cases q') q'⟩)) .inr
theorem part_ng (hx : H x = some (.ins C dx gs)) (n1 : gs.lookup ("script" : Str) = none) (kp : ∀ b o, b ≠ x → H b = some o → H' b = some o) (h : PartAt K D H p ss us fs) : PartAt K D H' p ss us fs := by
  obtain ⟨d, a, u, h1, h2, h3, h4, h5, h6, h7⟩ := h
  have ne : p ≠ x := fun e => by
    rw [e, hx] at h1
    injection Option.some.inj h1 with _ _ e3
    rw [← e3, n1] at h3
    cases h3
  exact ⟨d, a, u, kp _ _ ne h1, h2, h3, sqT_ng hx kp h4, h5, sqT_ng hx kp h6, h7⟩
theorem ChAt.ng {CC : Addr} {i j m n : Int} (hx : H x = some (.ins C dx gs)) (n2 : gs.lookup ("numbers" : Str) = none) (kp : ∀ b o, b ≠ x → H b = some o → H' b = some o) (h : ChAt CC H p i j m n) : ChAt CC H' p i j m n := by
  obtain ⟨dq, a, g1, g2⟩ := h
  have nq : p ≠ x := fun e => by
    rw [e, hx] at g1
    injection Option.some.inj g1 with _ _ e3
    have e4 := cf1 a (i * n - j * m)
    rw [← e3, n2] at e4
    cases e4
  exact ⟨dq, a, kp _ _ nq g1, kp _ _ (fun e => by rw [e, hx] at g2; cases g2) g2⟩
theorem TstAt.ng (hx : H x = some (.ins C dx gs)) (n1 : gs.lookup ("script" : Str) = none) (kp : ∀ b o, b ≠ x → H b = some o → H' b = some o) : ∀ {t : Tst} {p : Addr}, TstAt K c H p t → TstAt K c H' p t
  | .holds n k, _, ⟨fs, h, r⟩ => ⟨fs, part_ng hx n1 kp h, r⟩
  | .not t, _, ⟨fs, q, h, e, r⟩ => ⟨fs, q, part_ng hx n1 kp h, e, TstAt.ng hx n1 kp r⟩
  | .longer, _, ⟨fs, h⟩ => ⟨fs, part_ng hx n1 kp h⟩
  | .shorter, _, ⟨fs, h⟩ => ⟨fs, part_ng hx n1 kp h⟩
  | .alike, _, ⟨fs, h⟩ => ⟨fs, part_ng hx n1 kp h⟩
mutual
theorem RowAt.ng (hx : H x = some (.ins C dx gs)) (n1 : gs.lookup ("script" : Str) = none) (n2 : gs.lookup ("numbers" : Str) = none) (kp : ∀ b o, b ≠ x → H b = some o → H' b = some o) : ∀ {r : Rw1} {p : Addr}, RowAt K c H p r → RowAt K c H' p r
  | .make m, _, ⟨fs, q, h, e, ch⟩ => ⟨fs, q, part_ng hx n1 kp h, e, ChAt.ng hx n2 kp ch⟩
  | .exch, _, ⟨fs, h⟩ => ⟨fs, part_ng hx n1 kp h⟩
  | .lay, _, ⟨fs, h⟩ => ⟨fs, part_ng hx n1 kp h⟩
  | .put n k, _, ⟨fs, h, r⟩ => ⟨fs, part_ng hx n1 kp h, r⟩
  | .add n k, _, ⟨fs, h, r⟩ => ⟨fs, part_ng hx n1 kp h, r⟩
  | .tell m, _, ⟨fs, h, r⟩ => ⟨fs, part_ng hx n1 kp h, r⟩
  | .stop, _, ⟨fs, h⟩ => ⟨fs, part_ng hx n1 kp h⟩
  | .ifb t r o, _, ⟨fs, q, a, b, xs, ys, h, e1, ht, e2, h2, hr, e3, h3, ho⟩ => ⟨fs, q, a, b, xs, ys, part_ng hx n1 kp h, e1, ht.ng hx n1 kp, e2, sqT_ng hx kp h2, RowsAt.ng hx n1 n2 kp hr, e3, sqT_ng hx kp h3, RowsAt.ng hx n1 n2 kp ho⟩
  | .untl g r, _, ⟨fs, a, xs, h, e1, e2, h2, hr⟩ => ⟨fs, a, xs, part_ng hx n1 kp h, e1, e2, sqT_ng hx kp h2, RowsAt.ng hx n1 n2 kp hr⟩
theorem RowsAt.ng (hx : H x = some (.ins C dx gs)) (n1 : gs.lookup ("script" : Str) = none) (n2 : gs.lookup ("numbers" : Str) = none) (kp : ∀ b o, b ≠ x → H b = some o → H' b = some o) : ∀ {rs : List Rw1} {vs : List V}, RowsAt K c H vs rs → RowsAt K c H' vs rs
  | [], [], _ => trivial
  | r :: rs, v :: vs, ⟨⟨p, e, h⟩, t⟩ => ⟨⟨p, e, RowAt.ng hx n1 n2 kp h⟩, RowsAt.ng hx n1 n2 kp t⟩
end
theorem NotesAt.ng (hx : H x = some (.ins C dx gs)) (kp : ∀ b o, b ≠ x → H b = some o → H' b = some o) : ∀ {xs : List V} {ms : List (Str × Int)}, NotesAt H xs ms → NotesAt H' xs ms
  | [], [], _ => trivial
  | _ :: _, _ :: _, ⟨⟨q, e, h, r⟩, t⟩ => ⟨⟨q, e, kp _ _ (fun e => by rw [e, hx] at h; cases h) h, r⟩, NotesAt.ng hx kp t⟩
end
theorem NotesAt.ix {H : Hp} : ∀ {xs : List V} {ms : List (Str × Int)} {i : Nat} {v : V}, NotesAt H xs ms → xs[i]? = some v → ∃ q m, v = .ref q ∧ ms[i]? = some m ∧ H q = some (.tup [.str m.1, .int m.2]) ∧ nameOk m.1 = true ∧ 0 ≤ m.2 ∧ m.2 < 1000000
  | [], [], _, _, _, h => by simp at h
  | v :: vs, m :: ms, i, w, ⟨⟨q, e, h, r⟩, t⟩, hi => by
    cases i with
    | zero => cases hi; exact ⟨q, m, e, rfl, h, r⟩
    | succ i => exact NotesAt.ix (i := i) t (by simpa using hi)
theorem inV_strs {z : Str} : ∀ {zs : List Str}, inV (.str z) (zs.map V.str) = decide (z ∈ zs)
  | [] => rfl
  | y :: zs => by
    have e := inV_strs (z := z) (zs := zs)
    have l : inV (.str z) ((y :: zs).map V.str) = ((y == z) || inV (.str z) (zs.map V.str)) := rfl
    rw [l, e, Bool.eq_iff_iff, Bool.or_eq_true, beq_iff_eq, decide_eq_true_iff, decide_eq_true_iff, List.mem_cons]
    exact ⟨fun h => h.elim (fun h => .inl h.symm) .inr, fun h => h.elim (fun h => .inl h.symm) .inr⟩
theorem flat_strs : ∀ zs : List Str, (zs.map V.str).all flatV = true
  | [] => rfl
  | _ :: zs => flat_strs zs
theorem inV_strs_not {z : Str} {zs : List Str} (h : z ∉ zs) : inV (.str z) (zs.map V.str) = false := by
  rw [inV_strs, decide_eq_false h]
theorem nodup_take {ns : List (Str × Int)} {j : Nat} {m : Str × Int} (h : (ns.map (·.1)).Nodup) (hj : ns[j]? = some m) : m.1 ∉ (ns.take j).map (·.1) := fun hm => by
  obtain ⟨x, hx, e⟩ := List.mem_map.mp hm
  obtain ⟨i, hi⟩ := List.mem_iff_getElem?.mp hx
  have l := (List.getElem?_eq_some_iff.mp hi).1
  rw [List.length_take] at l
  rw [List.getElem?_take, if_pos (by omega)] at hi
  have a : (ns.map (·.1))[i]? = some m.1 := by rw [List.getElem?_map, hi, ← e]; rfl
  have b : (ns.map (·.1))[j]? = some m.1 := by rw [List.getElem?_map, hj]; rfl
  have := nodup_at h a b
  omega
theorem StepsAt.ng {K : PySem.W.Frag} {c : Clz} {C x dx : Addr} {H H' : Hp} {gs : List (Str × V)} (hx : H x = some (.ins C dx gs)) (n1 : gs.lookup ("script" : Str) = none) (n2 : gs.lookup ("numbers" : Str) = none) (kp : ∀ b o, b ≠ x → H b = some o → H' b = some o) : ∀ {ps : List PSt} {vs : List V}, StepsAt K c H vs ps → StepsAt K c H' vs ps
  | [], [], _ => trivial
  | _ :: _, _ :: _, ⟨⟨t, q, e, h1, h2⟩, r⟩ => ⟨⟨t, q, e, kp _ _ (fun e => by rw [e, hx] at h1; cases h1) h1, RowAt.ng hx n1 n2 kp h2⟩, StepsAt.ng hx n1 n2 kp r⟩
/-- what notes must be -/
def NotesOk (ns : List (Str × Int)) : Prop := (∀ m ∈ ns, nameOk m.1 = true ∧ 2 ≤ m.2 ∧ m.2 ≤ 4) ∧ (ns.map (·.1)).Nodup
def sp_isnote : Sp := fun vs H Q _ => ∃ (q : Addr) (n : Str) (m : Int), vs = [.ref q] ∧ H q = some (.tup [.str n, .int m]) ∧ nameOk n = true ∧ 2 ≤ m ∧ m ≤ 4 ∧ ∀ H', Same H H' → Q (.bl true) H'
def sp_ndnotes (K : PySem.W.Frag) : Sp := fun vs H Q _ => ∃ (a : Addr) (xs : List V) (ns : List (Str × Int)), vs = [.ref a] ∧ SqV K H a xs ∧ NotesAt H xs ns ∧ NotesOk ns ∧ xs.length ≤ 1000 ∧ ∀ b H', Same H H' → SqT K H' b xs → Q (.ref b) H'
/-- a program -/
structure PgT (K : PySem.W.Frag) (CP : Addr) : Prop where
  ins : C8.InsC K CP
  no : ∀ f ∈ (["notes", "rows", "numbered", "steps"] : List Str), PySem.W.findIn K (.ref CP) f = some none
/-- no field is called like a method -/
def FsP (fs : List (Str × V)) : Prop := fs.length ≤ 10 ∧ fs.lookup ("need" : Str) = none ∧ fs.lookup ("without" : Str) = none
def ProgAt (K : PySem.W.Frag) (c : Clz) (CP : Addr) (H : Hp) (p : Addr) (ns : List (Str × Int)) (rs : List Rw1) : Prop := ∃ (dx a b u t : Addr) (fs : List (Str × V)) (nvs rvs uvs svs : List V), H p = some (.ins CP dx fs) ∧ FsP fs ∧
  fs.lookup ("notes" : Str) = some (.ref a) ∧ SqT K H a nvs ∧ NotesAt H nvs ns ∧ fs.lookup ("rows" : Str) = some (.ref b) ∧ SqT K H b rvs ∧ RowsAt K c H rvs rs ∧
  fs.lookup ("numbered" : Str) = some (.ref u) ∧ SqT K H u uvs ∧ RowsAt K c H uvs (innerL rs) ∧ fs.lookup ("steps" : Str) = some (.ref t) ∧ SqT K H t svs ∧ StepsAt K c H svs (stepsL rs 0 0)
theorem ProgAt.tk {K : PySem.W.Frag} {c : Clz} {CP p : Addr} {H H' : Hp} {ns : List (Str × Int)} {rs : List Rw1} (s : TK H H') (h : ProgAt K c CP H p ns rs) : ProgAt K c CP H' p ns rs := by
  obtain ⟨dx, a, b, u, t, fs, nvs, rvs, uvs, svs, h1, h2, h3, h4, h5, h6, h7, h8, h9, ha, hb, hc, hd, he⟩ := h
  exact ⟨dx, a, b, u, t, fs, nvs, rvs, uvs, svs, s _ _ rfl h1, h2, h3, sqT_tk s h4, h5.tk s, h6, sqT_tk s h7, h8.tk s, h9, sqT_tk s ha, hb.tk s, hc, sqT_tk s hd, he.tk s⟩
/-- the notes that rows name are there -/
def UsesOk (ns : List (Str × Int)) (rs : List Rw1) : Prop := ∀ r ∈ innerL rs, ∀ z ∈ r.uses, z ∈ ns.map (·.1)
def sp_pginit (K : PySem.W.Frag) (c : Clz) (CP : Addr) : Sp := fun vs H Q _ => ∃ (x dx a b : Addr) (xs ys : List V) (rs : List Rw1) (ns : List (Str × Int)), vs = [.ref x, .ref a, .ref b] ∧ H x = some (.ins CP dx []) ∧ SqV K H a xs ∧ RowsAt K c H xs rs ∧ SqV K H b ys ∧ NotesAt H ys ns ∧ NotesOk ns ∧ UsesOk ns rs ∧
  deepL rs ≤ 4 ∧ (innerL rs).length ≤ 1000 ∧ ns.length ≤ 1000 ∧ ∀ H', (∀ b o, b ≠ x → H b = some o → H' b = some o) → ProgAt K c CP H' x ns rs → Q .non H'
end Pg
open Pg
section
variable {P : Program} {w : World} {K : PySem.W.Frag} {mg : Str → Option Value} {base : Heap}
theorem ok_isnote {f : Addr} {fd : FuncData} (F : Fun K "is_note" "is_note" S_is_note f fd) (T : Txt K mg) (GO : GT K mg "MODULI" [.int 2, .int 3, .int 4]) (C_isname : FnC P w K mg base CX0 1 "is_name" ["value"] (sp_isname K)) (C_isint : FnC P w K mg base CX0 1 "is_integer" ["value"] (sp_isint K)) : FnOk P w K mg base CX0 3 f fd ["value"] sp_isnote := by
  obtain ⟨am, hMod, sM⟩ := GO.ex
  refine F.ok SC_is_note (fun vs H Q E h => ?_) (fun cdv A outer s H vs Q E hr h => ?_)
  · obtain ⟨q, n, m, rfl, _⟩ := h
    rfl
  · obtain ⟨q, n, m, rfl, hq, nk, m0, m1, k⟩ := h
    refine ⟨_, (pss_cons (ps_if (PW.pt (pw_or (pt_not (pt_val (pe_callB call_isi (by rfl) T.b_isinstance (by decide +kernel) (pa_cons (pv 0) (pa_cons (pe_bltn (v := .ty "tuple") (by rfl) T.b_tuple boot_tuple rfl) pa_nil))))) (pw_or1 (pt_cmpR op_ne (pe_callB call_len_seq (by rfl) T.b_len (by decide +kernel) (pa_cons (pv 0) pa_nil)) pe_int (nomark _))))) (pss_one (ps_ret pe_bl)) pss_nil)
      (pss_one (ps_ret (pe_and (pe_callC C_isname (hr.mono (by decide)) rfl (pa_cons (pe_ix ix_tup (pv 0) pe_int (fun _ _ => rfl)) pa_nil)) (pe_and (pe_callC C_isint (hr.mono (by decide)) rfl (pa_cons (pe_ix ix_tup (pv 0) pe_int (fun _ _ => rfl)) pa_nil)) (pe_one (pe_cmpR op_in_seq (pe_ix ix_tup (pv 0) pe_int (fun _ _ => rfl)) (pe_glob (v := .ref am) (by rfl) hMod rfl) (by rfl)))))))), ?_⟩
    refine ⟨_, rfl, .ref q, _, .type "tuple", _, true, rfl, .ty _, .base (.tup hq), by rfl, _, rfl, ?_⟩
    refine ifF rfl ?_
    refine ⟨_, rfl, q, _, rfl, .inr (SqT.of hq), rfl, _, rfl, ?_⟩
    refine ifF (by simp) ?_
    refine ⟨_, rfl, q, _, 0, .str n, rfl, rfl, SqT.of hq, rfl, .str n, rfl, Kd.str _, fun z e => ?_, fun H1 s1 => ?_⟩
    · cases e
      have := name_len nk
      omega
    refine ⟨_, rfl, ?_⟩
    rw [show isName (V.str n) = true from nk, if_pos rfl]
    refine ⟨_, rfl, q, _, 1, .int m, rfl, rfl, SqT.of (s1 _ _ hq), rfl, .int m, rfl, Kd.int _, _, rfl, ?_⟩
    refine ifT rfl ?_
    refine ⟨_, rfl, q, _, 1, .int m, rfl, rfl, SqT.of (s1 _ _ hq), rfl, am, _, rfl, .inr (sM _), rfl, rfl, ?_⟩
    have e : inV (.int m) [.int 2, .int 3, .int 4] = true := by
      have : m = 2 ∨ m = 3 ∨ m = 4 := by omega
      rcases this with rfl | rfl | rfl <;> decide +kernel
    rw [e]
    exact k H1 s1
theorem ok_ndnotes {f IR : Addr} {fd : FuncData} (F : Fun K "need_notes" "need_notes" S_need_notes f fd) (T : Txt K mg) (C_isnote : FnC P w K mg base CX0 3 "is_note" ["value"] sp_isnote) (E_InvalidRow : Er1 P w K mg base "InvalidRow" IR "part" "part") : FnOk P w K mg base (L2.CX P w) 4 f fd ["notes"] (sp_ndnotes K) := by
  refine F.okX SC_need_notes (fun vs H Q E h => ?_) (fun cdv A outer s H vs Q E hr h => ?_)
  · obtain ⟨a, xs, ns, rfl, _⟩ := h
    rfl
  · obtain ⟨a, xs, ns, rfl, hs, hn, ok, sz, k⟩ := h
    refine ⟨_, (pss_cons (ps_if (pt_not (pt_val (pe_callB call_isiT (by rfl) T.b_isinstance (by decide +kernel) (pa_cons (pv 0) (pa_cons (pe_tup (pa_cons (pe_bltn (v := .ty "list") (by rfl) T.b_list boot_list rfl) (pa_cons (pe_bltn (v := .ty "tuple") (by rfl) T.b_tuple boot_tuple rfl) pa_nil))) pa_nil))))) (pss_one (ps_raise1 E_InvalidRow (hr.mono (by decide)) rfl (takes_of rfl rfl rfl rfl) rfl (pa_cons pe_str pa_nil))) pss_nil)
      (pss_cons (ps_set (i := 1) SC_need_notes.nd rfl (.inl rfl) (pe_lstN pa_nil))
      (pss_cons (ps_for (passes_of rfl) rfl (pi_seq (pv 0)) (pg_name (i := 2) SC_need_notes.nd rfl (.inl rfl)) (pss_cons (ps_if (PW.pt (pw_or (pt_not (pt_val (pe_callC C_isnote (hr.mono (by omega)) rfl (pa_cons (pv 2) pa_nil)))) (pw_or1 (pt_cmpR op_in_seq (pe_ix ix_tup (pv 2) pe_int (fun _ _ => rfl)) (pv 1) (by rfl))))) (pss_one (ps_raise1 E_InvalidRow (hr.mono (by decide)) rfl (takes_of rfl rfl rfl rfl) rfl (pa_cons pe_str pa_nil))) pss_nil)
      (pss_one (ps_expr (pe_bm PySem.F.plainAttrs_list PySem.F.slot_list_append PySem.F.type_list_append mt_append (pv 1) (pa_cons (pe_ix ix_tup (pv 2) pe_int (fun _ _ => rfl)) pa_nil))))))
      (pss_one (ps_ret (pe_callTy call_tuple_of (by rfl) T.b_tuple (by decide +kernel) (pa_cons (pv 0) pa_nil))))))), ?_⟩
    obtain ⟨t, ty, kt, hA⟩ : ∃ t, TyX K H (.ref a) t ∧ PySem.W.kitAny K t [.type "list", .type "tuple"] = some true ∧ SqA K H a xs := by
      rcases hs with h | h | ⟨o, its, n, h1, h2, h3, h4, h5⟩ | ⟨o, h⟩
      · exact ⟨_, .base (.lst h), by rfl, .inl (SqL.of h)⟩
      · exact ⟨_, .base (.tup h), by rfl, .inr (SqT.of h)⟩
      · exact ⟨_, .kTuple h1 h2, by rfl, .inr (.inr ⟨o, its, n, h1, h2, h3, h4, h5⟩)⟩
      · exact ⟨_, .fTuple h, by rfl, .inr (.inl (.inr ⟨o, h⟩))⟩
    refine isLT rfl ty kt fun H1 s1 => ⟨_, rfl, ifF rfl ?_⟩
    refine ⟨Nat.zero_le _, fun l H2 n2 s2 h2 => ?_⟩
    have hA1 : SqA K H1 a xs := SqA.at (fun o e => s1 _ _ e) hA
    refine for_seqB (p := a) (xs := xs) (H0 := H1) rfl hA1 (fun j σ H3 => Same H1 H3 ∧ H3 l = some (.lst (((ns.take j).map (·.1)).map V.str)) ∧ ∃ y, σ = [some (.ref a), some (.ref l), y]) ⟨s2, h2, _, rfl⟩ (fun j σ' H3 _ m o e => m.1 _ _ e) (fun j x σ' H3 hj m => ?_) (fun σ' H3 m => ?_)
    · obtain ⟨s3, h3, y, rfl⟩ := m
      obtain ⟨q, mm, rfl, hmm, hq, nk, _⟩ := ((hn.tk (TK.same s1)).tk (TK.same s3)).ix hj
      have ln := hn.len
      have lj := (List.getElem?_eq_some_iff.mp hj).1
      have om := ok.1 mm (List.mem_of_getElem? hmm)
      refine ⟨_, rfl, q, mm.1, mm.2, rfl, hq, nk, om.2.1, om.2.2, fun H4 s4 => ⟨_, rfl, ?_⟩⟩
      refine ifF rfl ?_
      refine ⟨_, rfl, q, _, 0, .str mm.1, rfl, rfl, SqT.of (s4 _ _ hq), rfl, _, rfl, l, _, rfl, .inl (SqL.of (s4 _ _ h3)), rfl, flat_strs _, ?_⟩
      refine ⟨_, rfl, ?_⟩
      refine ifF ?_ ?_
      · rw [if_neg (by decide)]
        exact inV_strs_not (nodup_take ok.2 hmm)
      · refine ⟨_, rfl, .inl ⟨rfl, _, SqL.of (s4 _ _ h3)⟩, _, rfl, q, _, 0, .str mm.1, rfl, rfl, SqT.of (s4 _ _ hq), rfl, l, _, .str mm.1, rfl, rfl, s4 _ _ h3, ?_, ?_⟩
        · simp only [List.length_map, List.length_take]
          exact szs (by omega)
        · refine ⟨fun b o e => by rw [upd_ne (ne_of_none e n2)]; exact s4 _ _ (s3 _ _ e), ?_, _, rfl⟩
          rw [upd_same, List.take_succ, hmm, List.map_append, List.map_append]
          rfl
    · obtain ⟨s3, h3, y, rfl⟩ := m
      refine ⟨_, rfl, a, xs, rfl, ?_⟩
      rcases hA1 with h | h
      · exact .inl ⟨same_sqL s3 h, fun b hb => k b _ ((s1.trans s3).trans (sm_new hb)) (SqT.of upd_same)⟩
      · exact .inr ⟨sqT_tk (TK.same s3) h, k a H3 (s1.trans s3) (sqT_tk (TK.same s3) h)⟩
end
section
variable {P : Program} {w : World} {K : PySem.W.Frag} {mg : Str → Option Value} {base : Heap}
theorem ok_pginit {f CP IR NN : Addr} {fd : FuncData} {c : Clz} {dvs : List V} (F : FunD K "__init__" "Program.__init__" (defArgs S_Program__init_) (defBody S_Program__init_) (defScope S_Program__init_) dvs [] f fd) (T : Txt K mg) (Hc : Hi K mg c) (Pt : PgT K CP) (C_ndnotes : FnC P w K mg base (L2.CX P w) 4 "need_notes" ["notes"] (sp_ndnotes K)) (C_ndrows : FnC P w K mg base (L2.CX P w) 4 "need_rows" ["rows"] (sp_ndrows K c IR)) (C_irows : FnC P w K mg base CX0 10 "inner_rows" ["rows"] (sp_irows K c 4)) (C_steps : FnC P w K mg base CX0 23 "steps_of" ["rows"] (sp_steps K c)) (E_NoNote : Er1 P w K mg base "NoNote" NN "name" "name") : FnOk P w K mg base (L2.CX P w) 24 f fd ["self", "rows", "notes"] (sp_pginit K c CP) := by
  refine F.ok (CX := L2.CX P w) SC_Program__init_ (fun vs H Q E h => ?_) (fun cdv A outer s H vs Q E hr h => ?_)
  · obtain ⟨x, dx, a, b, xs, ys, rs, ns, rfl, _⟩ := h
    rfl
  · obtain ⟨x, dx, a, b, xs, ys, rs, ns, rfl, hx, ha, hrs, hb, hns, nok, uok, dp, sz, sn, k⟩ := h
    refine ⟨_, (pss_cons (ps_fld (pv 0) (pe_callSC C_ndnotes (hr.mono (by omega)) (takes_of rfl rfl rfl rfl) rfl (pa_cons (pv 2) pa_nil)) rfl)
      (pss_cons (ps_fld (pv 0) (pe_callSC C_ndrows (hr.mono (by omega)) (takes_of rfl rfl rfl rfl) rfl (pa_cons (pv 1) pa_nil)) rfl)
      (pss_cons (ps_fld (pv 0) (pe_callTy call_tuple_of (by rfl) T.b_tuple (by decide +kernel) (pa_cons (pe_callC C_irows (hr.mono (by omega)) rfl (pa_cons (pe_fld (pv 0) rfl) pa_nil)) pa_nil)) rfl)
      (pss_cons (ps_fld (pv 0) (pe_callC C_steps (hr.mono (by omega)) rfl (pa_cons (pe_fld (pv 0) rfl) pa_nil)) rfl)
      (pss_cons (ps_setLc (i := 3) (own := [("name", 5), ("modulus", 6)])  (by rfl) SC_Program__init_.nd rfl rfl (sw_true rfl rfl rfl (by decide +kernel)) (pi_tup (pe_fld (pv 0) rfl)) (blkOk_by (own := [("name", 5), ("modulus", 6)]) (N := N_Program__init_) (sc := defScope S_Program__init_) (by decide +kernel)) (fun _ _ _ _ _ => (pg_tupK (K := K) (n := 2) rfl rfl (pgs_cons (pg_name (i := 5) SC_Program__init_.nd rfl (.inl rfl)) (pgs_cons (pg_name (i := 6) SC_Program__init_.nd rfl (.inl rfl)) pgs_nil)))) (fun _ _ _ _ _ => pts_nil) (fun _ _ _ _ _ => (pv 5)))
      (pss_one (ps_for (passes_of rfl) rfl (pi_tup (pe_fld (pv 0) rfl)) (pg_name (i := 4) SC_Program__init_.nd rfl (.inl rfl)) (pss_one (ps_for (passes_of rfl) rfl (pi_tup (pe_fld (pv 4) rfl)) (pg_name (i := 5) SC_Program__init_.nd rfl (.inl rfl)) (pss_one (ps_if (pt_cmpR op_notIn_seq (pv 5) (pv 3) (by rfl)) (pss_one (ps_raise1 E_NoNote (hr.mono (by omega)) rfl (takes_of rfl rfl rfl rfl) rfl (pa_cons (pv 5) pa_nil))) pss_nil))))))))))), ?_⟩
    refine ⟨_, rfl, b, ys, ns, rfl, hb, hns, nok, by rw [hns.len]; exact sn, fun nA H1 s1 hN => ?_⟩
    refine ⟨_, rfl, x, CP, dx, [], rfl, s1 _ _ hx, Pt.ins.cl, Pt.no "notes" (by simp), by decide, ?_⟩
    have k1 : ∀ b o, b ≠ x → H b = some o → (upd H1 x (.ins CP dx (putF ("notes" : Str) (.ref nA) []))) b = some o := fun b o n e => by rw [upd_ne n]; exact s1 _ _ e
    have hx1 : (upd H1 x (.ins CP dx (putF ("notes" : Str) (.ref nA) []))) x = some (.ins CP dx (putF ("notes" : Str) (.ref nA) [])) := upd_same
    have hN1 : SqT K (upd H1 x (.ins CP dx (putF ("notes" : Str) (.ref nA) []))) nA ys := sqT_ins (s1 _ _ hx) hN
    generalize upd H1 x (.ins CP dx (putF ("notes" : Str) (.ref nA) [])) = H2 at k1 hx1 hN1 ⊢
    refine ⟨_, rfl, _, some xs, rfl, SqV.rows Hc (hrs.nx hx k1) (SqV.nx hx k1 ha), fun zs ez T2 H3 s3 hT => ?_, nofun⟩
    cases ez
    refine ⟨_, rfl, x, CP, dx, _, rfl, s3 _ _ hx1, Pt.ins.cl, Pt.no "rows" (by simp), Nat.le_of_ble_eq_true rfl, ?_⟩
    have k3 : ∀ b o, b ≠ x → H b = some o → (upd H3 x (.ins CP dx (putF ("rows" : Str) (.ref T2) (putF ("notes" : Str) (.ref nA) [])))) b = some o := fun b o n e => by rw [upd_ne n]; exact s3 _ _ (k1 b o n e)
    have hx3 : (upd H3 x (.ins CP dx (putF ("rows" : Str) (.ref T2) (putF ("notes" : Str) (.ref nA) [])))) x = some (.ins CP dx (putF ("rows" : Str) (.ref T2) (putF ("notes" : Str) (.ref nA) []))) := upd_same
    have hN3 : SqT K (upd H3 x (.ins CP dx (putF ("rows" : Str) (.ref T2) (putF ("notes" : Str) (.ref nA) [])))) nA ys := sqT_ins (s3 _ _ hx1) (sqT_tk (TK.same s3) hN1)
    have hT3 : SqT K (upd H3 x (.ins CP dx (putF ("rows" : Str) (.ref T2) (putF ("notes" : Str) (.ref nA) [])))) T2 xs := sqT_ins (s3 _ _ hx1) hT
    generalize upd H3 x (.ins CP dx (putF ("rows" : Str) (.ref T2) (putF ("notes" : Str) (.ref nA) []))) = H4 at k3 hx3 hN3 hT3 ⊢
    refine ⟨_, rfl, x, CP, dx, _, _, rfl, hx3, Pt.ins.cl, Pt.no "rows" (by simp), by ((repeat (rw [lookup_putF]; first | rw [if_pos rfl] | rw [if_neg (by decide +kernel)])); try rfl), ?_⟩
    refine ⟨T2, xs, rs, rfl, .inr hT3, hrs.nx hx k3, dp, by omega, fun l H5 ws s5 n5 h5 hw => ?_⟩
    refine ⟨l, ws, rfl, .inl ⟨SqL.of h5, fun u n6 => ?_⟩⟩
    have s6 := sm_new (o := .tup ws) n6
    have s56 := s5.trans s6
    have h6 : (upd H5 u (.tup ws)) u = some (.tup ws) := upd_same
    have hw6 := hw.tk (TK.same s6)
    generalize upd H5 u (.tup ws) = H6 at s56 h6 hw6 s6 ⊢
    refine ⟨_, rfl, x, CP, dx, _, rfl, s56 _ _ hx3, Pt.ins.cl, Pt.no "numbered" (by simp), Nat.le_of_ble_eq_true rfl, ?_⟩
    have n3 : (putF ("numbered" : Str) (.ref u) (putF ("rows" : Str) (.ref T2) (putF ("notes" : Str) (.ref nA) []))).lookup ("script" : Str) = none := by ((repeat (rw [lookup_putF]; first | rw [if_pos rfl] | rw [if_neg (by decide +kernel)])); try rfl)
    have n3' : (putF ("rows" : Str) (.ref T2) (putF ("notes" : Str) (.ref nA) [])).lookup ("script" : Str) = none := by ((repeat (rw [lookup_putF]; first | rw [if_pos rfl] | rw [if_neg (by decide +kernel)])); try rfl)
    have m3' : (putF ("rows" : Str) (.ref T2) (putF ("notes" : Str) (.ref nA) [])).lookup ("numbers" : Str) = none := by ((repeat (rw [lookup_putF]; first | rw [if_pos rfl] | rw [if_neg (by decide +kernel)])); try rfl)
    have k7 : ∀ b o, b ≠ x → H6 b = some o → (upd H6 x (.ins CP dx (putF ("numbered" : Str) (.ref u) (putF ("rows" : Str) (.ref T2) (putF ("notes" : Str) (.ref nA) []))))) b = some o := fun b o n e => by rw [upd_ne n]; exact e
    have hx7 : (upd H6 x (.ins CP dx (putF ("numbered" : Str) (.ref u) (putF ("rows" : Str) (.ref T2) (putF ("notes" : Str) (.ref nA) []))))) x = some (.ins CP dx (putF ("numbered" : Str) (.ref u) (putF ("rows" : Str) (.ref T2) (putF ("notes" : Str) (.ref nA) [])))) := upd_same
    have hx6 := s56 _ _ hx3
    have hw7 := hw6.ng hx6 n3' m3' k7
    have hN7 := sqT_ng hx6 k7 (sqT_tk (TK.same s56) hN3)
    have hT7 := sqT_ng hx6 k7 (sqT_tk (TK.same s56) hT3)
    have hu7 := sqT_ng hx6 k7 (SqT.of (K := K) h6)
    have kH7 : ∀ b o, b ≠ x → H b = some o → (upd H6 x (.ins CP dx (putF ("numbered" : Str) (.ref u) (putF ("rows" : Str) (.ref T2) (putF ("notes" : Str) (.ref nA) []))))) b = some o := fun b o n e => k7 _ _ n (s56 _ _ (k3 _ _ n e))
    generalize upd H6 x (.ins CP dx (putF ("numbered" : Str) (.ref u) (putF ("rows" : Str) (.ref T2) (putF ("notes" : Str) (.ref nA) [])))) = H7 at hx7 hw7 hN7 hT7 hu7 kH7 ⊢
    refine ⟨_, rfl, x, CP, dx, _, _, rfl, hx7, Pt.ins.cl, Pt.no "rows" (by simp), by ((repeat (rw [lookup_putF]; first | rw [if_pos rfl] | rw [if_neg (by decide +kernel)])); try rfl), ?_⟩
    refine ⟨T2, xs, rs, rfl, .inr hT7, hrs.nx hx kH7, dp, by omega, fun st H8 svs s8 h8 hsv => ?_⟩
    refine ⟨_, rfl, x, CP, dx, _, rfl, s8 _ _ hx7, Pt.ins.cl, Pt.no "steps" (by simp), Nat.le_of_ble_eq_true rfl, ?_⟩
    have m7 : (putF ("numbered" : Str) (.ref u) (putF ("rows" : Str) (.ref T2) (putF ("notes" : Str) (.ref nA) []))).lookup ("numbers" : Str) = none := by ((repeat (rw [lookup_putF]; first | rw [if_pos rfl] | rw [if_neg (by decide +kernel)])); try rfl)
    have k9 : ∀ b o, b ≠ x → H8 b = some o → (upd H8 x (.ins CP dx (putF ("steps" : Str) (.ref st) (putF ("numbered" : Str) (.ref u) (putF ("rows" : Str) (.ref T2) (putF ("notes" : Str) (.ref nA) [])))))) b = some o := fun b o n e => by rw [upd_ne n]; exact e
    have hx8 := s8 _ _ hx7
    have hx9 : (upd H8 x (.ins CP dx (putF ("steps" : Str) (.ref st) (putF ("numbered" : Str) (.ref u) (putF ("rows" : Str) (.ref T2) (putF ("notes" : Str) (.ref nA) [])))))) x = some (.ins CP dx (putF ("steps" : Str) (.ref st) (putF ("numbered" : Str) (.ref u) (putF ("rows" : Str) (.ref T2) (putF ("notes" : Str) (.ref nA) []))))) := upd_same
    have hw9 := (hw7.tk (TK.same s8)).ng hx8 n3 m7 k9
    have hN9 := sqT_ng hx8 k9 (sqT_tk (TK.same s8) hN7)
    have hT9 := sqT_ng hx8 k9 (sqT_tk (TK.same s8) hT7)
    have hu9 := sqT_ng hx8 k9 (sqT_tk (TK.same s8) hu7)
    have hS9 := sqT_ng hx8 k9 (SqT.of (K := K) h8)
    have hsv9 := hsv.ng hx8 n3 m7 k9
    have kH9 : ∀ b o, b ≠ x → H b = some o → (upd H8 x (.ins CP dx (putF ("steps" : Str) (.ref st) (putF ("numbered" : Str) (.ref u) (putF ("rows" : Str) (.ref T2) (putF ("notes" : Str) (.ref nA) [])))))) b = some o := fun b o n e => k9 _ _ n (s8 _ _ (kH7 _ _ n e))
    have hns9 := NotesAt.ng hx kH9 hns
    have hrs9 := hrs.nx hx kH9
    generalize upd H8 x (.ins CP dx (putF ("steps" : Str) (.ref st) (putF ("numbered" : Str) (.ref u) (putF ("rows" : Str) (.ref T2) (putF ("notes" : Str) (.ref nA) []))))) = H9 at hx9 hw9 hN9 hT9 hu9 hS9 hsv9 kH9 hns9 hrs9 ⊢
    have hP : ProgAt K c CP H9 x ns rs := ⟨dx, nA, T2, u, st, _, ys, xs, ws, svs, hx9, ⟨Nat.le_of_ble_eq_true rfl, by kernel_rfl, by kernel_rfl⟩, by ((repeat (rw [lookup_putF]; first | rw [if_pos rfl] | rw [if_neg (by decide +kernel)])); try rfl), hN9, hns9, by ((repeat (rw [lookup_putF]; first | rw [if_pos rfl] | rw [if_neg (by decide +kernel)])); try rfl), hT9, hrs9, by ((repeat (rw [lookup_putF]; first | rw [if_pos rfl] | rw [if_neg (by decide +kernel)])); try rfl), hu9, hw9, by ((repeat (rw [lookup_putF]; first | rw [if_pos rfl] | rw [if_neg (by decide +kernel)])); try rfl), hS9, hsv9⟩
    refine ⟨_, rfl, x, CP, dx, _, .ref nA, rfl, hx9, Pt.ins.cl, Pt.no "notes" (by simp), by ((repeat (rw [lookup_putF]; first | rw [if_pos rfl] | rw [if_neg (by decide +kernel)])); try rfl), nA, rfl, ⟨_, hN9⟩, fun D hD => ?_⟩
    refine lc_tup (xs := ys) (fun j H' => Hd H9 H' [(D, .lst (((ns.take j).map (·.1)).map V.str))]) ((Hd.start H9).new hD _) (fun j H' _ m => sqT_tk m.tk hN9) (fun j v H' hj m => ?_) (fun H' m => ?_)
    · obtain ⟨q, mm, rfl, hmm, hq, _⟩ := (hns9.tk m.tk).ix hj
      have ln := hns.len
      have lj := (List.getElem?_eq_some_iff.mp hj).1
      refine ⟨q, _, rfl, SqT.of hq, rfl, _, _, rfl, _, _, rfl, rfl, rfl, ?_⟩
      refine ifT (B := Hd H9 H' [(D, .lst (((ns.take (j + 1)).map (·.1)).map V.str))]) rfl ⟨_, rfl, _, m.get (.head _), ?_, ?_⟩
      · simp only [List.length_map, List.length_take]
        exact szs (by omega)
      · have := m.set 0 rfl (.lst (((ns.take j).map (·.1)).map V.str ++ [V.str mm.1]))
        rw [List.take_succ, hmm, List.map_append, List.map_append]
        exact this
    · have hD' : H' D = some (.lst ((ns.map (·.1)).map V.str)) := by
        have := m.get (.head _)
        rwa [hns.len, List.take_length] at this
      have s9 := m.sm
      refine ⟨_, rfl, x, CP, dx, _, .ref u, rfl, s9 _ _ hx9, Pt.ins.cl, Pt.no "numbered" (by simp), by ((repeat (rw [lookup_putF]; first | rw [if_pos rfl] | rw [if_neg (by decide +kernel)])); try rfl), u, rfl, ⟨_, sqT_tk (TK.same s9) hu9⟩, ?_⟩
      refine for_tup (xs := ws) (fun j σ Hj => Same H' Hj ∧ ∃ y4 y5 : Option V, σ = [some (.ref x), some (.ref a), some (.ref b), some (.ref D), y4, y5, none]) ⟨Same.refl _, _, _, rfl⟩ (fun j σ Hj _ m => sqT_tk (TK.same (s9.trans m.1)) hu9) (fun j v σ Hj hj m => ?_) (fun σ Hj m => ?_)
      · obtain ⟨sj, y4, y5, rfl⟩ := m
        obtain ⟨p, r, rfl, hr', hp⟩ := (hw9.tk (TK.same (s9.trans sj))).at hj
        obtain ⟨fs, dq, sa, ua, g1, g2, g3, g4, g5, g6, g7, g8, g9⟩ := hp.part
        refine ⟨_, rfl, p, _, dq, fs, _, rfl, g1, (Hc.r r).ins.cl, (Hc.r r).no "used" (by simp [fnames]), g5, ua, rfl, ⟨_, g6⟩, ?_⟩
        refine for_tup (xs := r.uses.map V.str) (fun i σ Hi => Same Hj Hi ∧ ∃ y5 : Option V, σ = [some (.ref x), some (.ref a), some (.ref b), some (.ref D), some (.ref p), y5, none]) ⟨Same.refl _, _, rfl⟩ (fun i σ Hi _ m => sqT_tk (TK.same m.1) g6) (fun i v σ Hi hi m => ?_) (fun σ Hi m => ?_)
        · obtain ⟨si, y5, rfl⟩ := m
          rw [List.getElem?_map] at hi
          obtain ⟨z, hz, rfl⟩ := Option.map_eq_some_iff.mp hi
          have hm : z ∈ ns.map (·.1) := uok r (List.mem_of_getElem? hr') z (List.mem_of_getElem? hz)
          refine ⟨_, rfl, _, rfl, D, _, rfl, .inl (SqL.of (si _ _ (sj _ _ hD'))), rfl, flat_strs _, ?_⟩
          refine ⟨_, rfl, ?_⟩
          refine ifF (by rw [if_pos rfl, inV_strs, decide_eq_true hm]; rfl) ⟨si, _, rfl⟩
        · obtain ⟨si, y5, rfl⟩ := m
          exact ⟨sj.trans si, _, _, rfl⟩
      · obtain ⟨sj, y4, y5, rfl⟩ := m
        have s0 := s9.trans sj
        exact k Hj (fun b o n e => s0 _ _ (kH9 _ _ n e)) (hP.tk (TK.same s0))
end

/-! ## C(..) with defaults -/
structure MkD (P : Program) (w : World) (K : PySem.W.Frag) (mg : Str → Option Value) (base : Heap) (CX : CXT) (k : Nat) (C : Addr) (x : Str) (ps : List Str) (sp : Sp) (dvs : List V) : Prop where
  ex : ∃ (f : Addr) (fd : FuncData) (ds : List Value), FnOk P w K mg base CX k f fd ps sp ∧ Mk K C f ∧ mg x = some (.ref C) ∧ Binds K fd ps ds ∧ Vals dvs ds
section
variable {X : Cx} {k : Nat} {x : Str} {C : Addr} {ps : List Str} {sp : Sp} {dvs : List V} {p pos : Pos} {e : Expr} {es : List Expr} {t : TA}
theorem pe_makeD0 (F : MkD X.prog X.w X.K X.mg X.base CX0 k C x ps sp dvs) (hr : Room (k + 1) X.A) (hg : Gl X x) (hdb : (x == ("__debug__" : Str)) = false := by decide) : PE X (.Call (.Name x p) [] [] pos) (tMake C sp dvs E0 tNil) := by
  obtain ⟨f, fd, ds, hf, M, hm, hb, hd⟩ := F.ex
  exact pe_make0 M hf hr hg hm hb hd (fun _ _ _ _ _ _ _ z => (show False from z).elim) hdb
end

/-! ## notes and programs that are refused -/
namespace Pg
/-- a value, and whether it is a note -/
inductive NoteB (K : PySem.W.Frag) (H : Hp) : V → Bool → Prop
  | no {v : V} {t : Value} : TyX K H v t → PySem.W.kitOne K t (.type "tuple") = some false → NoteB K H v false
  | len {q : Addr} {xs : List V} : H q = some (.tup xs) → xs.length ≠ 2 → xs.length ≤ 1000 → NoteB K H (.ref q) false
  | two {q : Addr} {x y : V} : H q = some (.tup [x, y]) → Kd K H x → Kd K H y → (∀ z, x = .str z → z.length ≤ 1000000) → NoteB K H (.ref q) (isName x && ((isI y && !isB y) && inV y [.int 2, .int 3, .int 4]))
def sp_isnoteB (K : PySem.W.Frag) : Sp := fun vs H Q _ => ∃ (v : V) (b : Bool), vs = [v] ∧ NoteB K H v b ∧ ∀ H', Same H H' → Q (.bl b) H'
theorem NoteB.same {K : PySem.W.Frag} {H H' : Hp} {v : V} {b : Bool} (s : Same H H') (h : NoteB K H v b) : NoteB K H' v b := by
  cases h with
  | no ty kt => exact .no (tyX_at ty fun a o _ e => s a o e) kt
  | len hq l1 l2 => exact .len (s _ _ hq) l1 l2
  | two hq kx ky lz => exact .two (s _ _ hq) (kx.same s) (ky.same s) lz
/-- what is no sequence of notes -/
inductive BadN (K : PySem.W.Frag) (H : Hp) : V → Prop
  | no {v : V} {t : Value} : TyX K H v t → PySem.W.kitAny K t [.type "list", .type "tuple"] = some false → BadN K H v
  | at_ {a : Addr} {xs : List V} {ns : List (Str × Int)} {i : Nat} {v : V} : (H a = some (.lst xs) ∨ H a = some (.tup xs)) → xs.length ≤ 1000 → NotesAt H (xs.take i) ns → NotesOk ns → xs[i]? = some v → (NoteB K H v false ∨ ∃ q m, v = .ref q ∧ m ∈ ns.map (·.1) ∧ ∃ k : Int, H q = some (.tup [.str m, .int k]) ∧ nameOk m = true ∧ 2 ≤ k ∧ k ≤ 4) → BadN K H (.ref a)
def sp_ndnotesN (K : PySem.W.Frag) (IR : Addr) : Sp := fun vs H _ E => ∃ v, vs = [v] ∧ BadN K H v ∧ Refd E IR H "notes"
end Pg
open Pg
section
variable {P : Program} {w : World} {K : PySem.W.Frag} {mg : Str → Option Value} {base : Heap}
theorem ok_isnoteB {f : Addr} {fd : FuncData} (F : Fun K "is_note" "is_note" S_is_note f fd) (T : Txt K mg) (GO : GT K mg "MODULI" [.int 2, .int 3, .int 4]) (C_isname : FnC P w K mg base CX0 1 "is_name" ["value"] (sp_isname K)) (C_isint : FnC P w K mg base CX0 1 "is_integer" ["value"] (sp_isint K)) : FnOk P w K mg base CX0 3 f fd ["value"] (sp_isnoteB K) := by
  obtain ⟨am, hMod, sM⟩ := GO.ex
  refine F.ok SC_is_note (fun vs H Q E h => ?_) (fun cdv A outer s H vs Q E hr h => ?_)
  · obtain ⟨v, b, rfl, _⟩ := h
    rfl
  · obtain ⟨v, b, rfl, hv, k⟩ := h
    refine ⟨_, (pss_cons (ps_if (PW.pt (pw_or (pt_not (pt_val (pe_callB call_isi (by rfl) T.b_isinstance (by decide +kernel) (pa_cons (pv 0) (pa_cons (pe_bltn (v := .ty "tuple") (by rfl) T.b_tuple boot_tuple rfl) pa_nil))))) (pw_or1 (pt_cmpR op_ne (pe_callB call_len_seq (by rfl) T.b_len (by decide +kernel) (pa_cons (pv 0) pa_nil)) pe_int (nomark _))))) (pss_one (ps_ret pe_bl)) pss_nil)
      (pss_one (ps_ret (pe_and (pe_callC C_isname (hr.mono (by decide)) rfl (pa_cons (pe_ix ix_tup (pv 0) pe_int (fun _ _ => rfl)) pa_nil)) (pe_and (pe_callC C_isint (hr.mono (by decide)) rfl (pa_cons (pe_ix ix_tup (pv 0) pe_int (fun _ _ => rfl)) pa_nil)) (pe_one (pe_cmpR op_in_seq (pe_ix ix_tup (pv 0) pe_int (fun _ _ => rfl)) (pe_glob (v := .ref am) (by rfl) hMod rfl) (by rfl)))))))), ?_⟩
    cases hv with
    | no ty kt =>
      refine ⟨_, rfl, v, _, _, .type "tuple", false, rfl, .ty _, ty, kt, _, rfl, ?_⟩
      exact ifT rfl (ifT rfl (k H (Same.refl H)))
    | @len q xs hq ln l2 =>
      refine ⟨_, rfl, .ref q, _, .type "tuple", _, true, rfl, .ty _, .base (.tup hq), by rfl, _, rfl, ?_⟩
      refine ifF rfl ?_
      refine ⟨_, rfl, q, _, rfl, .inr (SqT.of hq), rfl, _, rfl, ?_⟩
      exact ifT (by simp; omega) (k H (Same.refl H))
    | @two q x y hq kx ky lz =>
      refine ⟨_, rfl, .ref q, _, .type "tuple", _, true, rfl, .ty _, .base (.tup hq), by rfl, _, rfl, ?_⟩
      refine ifF rfl ?_
      refine ⟨_, rfl, q, _, rfl, .inr (SqT.of hq), rfl, _, rfl, ?_⟩
      refine ifF (by simp) ?_
      refine ⟨_, rfl, q, _, 0, x, rfl, rfl, SqT.of hq, rfl, x, rfl, kx, lz, fun H1 s1 => ?_⟩
      refine ⟨_, rfl, ?_⟩
      have k := k H1 s1
      cases h1 : isName x with
      | false =>
        rw [h1] at k
        exact ifF rfl k
      | true =>
        rw [h1] at k
        refine ifT rfl ?_
        refine ⟨_, rfl, q, _, 1, y, rfl, rfl, SqT.of (s1 _ _ hq), rfl, y, rfl, ky.same s1, _, rfl, ?_⟩
        cases h2 : (isI y && !isB y) with
        | false =>
          rw [h2] at k
          exact ifF rfl k
        | true =>
          rw [h2] at k
          obtain ⟨i, rfl⟩ : ∃ i, y = .int i := by cases y <;> first | exact ⟨_, rfl⟩ | cases h2
          refine ifT rfl ?_
          exact ⟨_, rfl, q, _, 1, .int i, rfl, rfl, SqT.of (s1 _ _ hq), rfl, am, _, rfl, .inr (sM _), rfl, rfl, k⟩
theorem ok_ndnotesN {f IR : Addr} {fd : FuncData} (F : Fun K "need_notes" "need_notes" S_need_notes f fd) (T : Txt K mg) (C_isnote : FnC P w K mg base CX0 3 "is_note" ["value"] (sp_isnoteB K)) (E_InvalidRow : Er1 P w K mg base "InvalidRow" IR "part" "part") : FnOk P w K mg base (L2.CX P w) 4 f fd ["notes"] (sp_ndnotesN K IR) := by
  refine F.okX SC_need_notes (fun vs H Q E h => ?_) (fun cdv A outer s H vs Q E hr h => ?_)
  · obtain ⟨v, rfl, _⟩ := h
    rfl
  · obtain ⟨v, rfl, hv, bad⟩ := h
    refine ⟨_, (pss_cons (ps_if (pt_not (pt_val (pe_callB call_isiT (by rfl) T.b_isinstance (by decide +kernel) (pa_cons (pv 0) (pa_cons (pe_tup (pa_cons (pe_bltn (v := .ty "list") (by rfl) T.b_list boot_list rfl) (pa_cons (pe_bltn (v := .ty "tuple") (by rfl) T.b_tuple boot_tuple rfl) pa_nil))) pa_nil))))) (pss_one (ps_raise1 E_InvalidRow (hr.mono (by decide)) rfl (takes_of rfl rfl rfl rfl) rfl (pa_cons pe_str pa_nil))) pss_nil)
      (pss_cons (ps_set (i := 1) SC_need_notes.nd rfl (.inl rfl) (pe_lstN pa_nil))
      (pss_cons (ps_for (passes_of rfl) rfl (pi_seq (pv 0)) (pg_name (i := 2) SC_need_notes.nd rfl (.inl rfl)) (pss_cons (ps_if (PW.pt (pw_or (pt_not (pt_val (pe_callC C_isnote (hr.mono (by omega)) rfl (pa_cons (pv 2) pa_nil)))) (pw_or1 (pt_cmpR op_in_seq (pe_ix ix_tup (pv 2) pe_int (fun _ _ => rfl)) (pv 1) (by rfl))))) (pss_one (ps_raise1 E_InvalidRow (hr.mono (by decide)) rfl (takes_of rfl rfl rfl rfl) rfl (pa_cons pe_str pa_nil))) pss_nil)
      (pss_one (ps_expr (pe_bm PySem.F.plainAttrs_list PySem.F.slot_list_append PySem.F.type_list_append mt_append (pv 1) (pa_cons (pe_ix ix_tup (pv 2) pe_int (fun _ _ => rfl)) pa_nil))))))
      (pss_one (ps_ret (pe_callTy call_tuple_of (by rfl) T.b_tuple (by decide +kernel) (pa_cons (pv 0) pa_nil))))))), ?_⟩
    cases hv with
    | no ty kt => exact isLT rfl ty kt fun H1 s1 => ⟨_, rfl, ifT rfl (mk_err1H fun dd hd => bad dd H1 s1 hd)⟩
    | @at_ a xs ns i v hs sz hn ok hi hb =>
      obtain ⟨t, ty, kt, hA⟩ : ∃ t, TyX K H (.ref a) t ∧ PySem.W.kitAny K t [.type "list", .type "tuple"] = some true ∧ SqA K H a xs := by
        rcases hs with h | h
        · exact ⟨_, .base (.lst h), by rfl, .inl (SqL.of h)⟩
        · exact ⟨_, .base (.tup h), by rfl, .inr (SqT.of h)⟩
      refine isLT rfl ty kt fun H1 s1 => ⟨_, rfl, ifF rfl ?_⟩
      refine ⟨Nat.zero_le _, fun l H2 n2 s2 h2 => ?_⟩
      have hA1 : SqA K H1 a xs := SqA.at (fun o e => s1 _ _ e) hA
      have li := (List.getElem?_eq_some_iff.mp hi).1
      have ln := hn.len
      rw [List.length_take] at ln
      refine for_seqB (p := a) (xs := xs) (H0 := H1) rfl hA1 (fun j σ H3 => Same H1 H3 ∧ j ≤ i ∧ H3 l = some (.lst (((ns.take j).map (·.1)).map V.str)) ∧ ∃ y, σ = [some (.ref a), some (.ref l), y]) ⟨s2, Nat.zero_le _, h2, _, rfl⟩ (fun j σ' H3 _ m o e => m.1 _ _ e) (fun j x σ' H3 hj m => ?_) (fun σ' H3 m => ?_)
      · obtain ⟨s3, ji, h3, y, rfl⟩ := m
        have s13 := s1.trans s3
        by_cases e : j = i
        · subst e
          rw [hi] at hj
          cases hj
          rw [List.take_of_length_le (by omega)] at h3
          rcases hb with hb | ⟨q, m, rfl, hm, kk, hq, nk, k0, k1⟩
          · refine ⟨_, rfl, v, false, rfl, hb.same s13, fun H4 s4 => ⟨_, rfl, ?_⟩⟩
            exact ifT rfl (ifT rfl (mk_err1H fun dd hd => bad dd H4 (s13.trans s4) hd))
          · refine ⟨_, rfl, .ref q, true, rfl, ?_, fun H4 s4 => ⟨_, rfl, ?_⟩⟩
            · have b : NoteB K H3 (.ref q) _ := .two (s13 _ _ hq) (.str m) (.int kk) (fun z e => by cases e; have := name_len nk; omega)
              have e : (isName (V.str m) && ((isI (.int kk) && !isB (.int kk)) && inV (.int kk) [.int 2, .int 3, .int 4])) = true := by
                rw [show isName (V.str m) = true from nk]
                have : kk = 2 ∨ kk = 3 ∨ kk = 4 := by omega
                rcases this with rfl | rfl | rfl <;> decide +kernel
              rw [e] at b
              exact b
            · refine ifF rfl ?_
              refine ⟨_, rfl, q, _, 0, .str m, rfl, rfl, SqT.of (s4 _ _ (s13 _ _ hq)), rfl, _, rfl, l, _, rfl, .inl (SqL.of (s4 _ _ h3)), rfl, flat_strs _, ?_⟩
              refine ⟨_, rfl, ?_⟩
              refine ifT ?_ (mk_err1H fun dd hd => bad dd H4 (s13.trans s4) hd)
              show inV _ _ = true
              rw [inV_strs, decide_eq_true hm]
        · have hj' : (xs.take i)[j]? = some x := by rw [List.getElem?_take, if_pos (by omega)]; exact hj
          obtain ⟨q, mm, rfl, hmm, hq, nk, _⟩ := (hn.tk (TK.same s13)).ix hj'
          have om := ok.1 mm (List.mem_of_getElem? hmm)
          have lj := (List.getElem?_eq_some_iff.mp hmm).1
          refine ⟨_, rfl, .ref q, true, rfl, ?_, fun H4 s4 => ⟨_, rfl, ?_⟩⟩
          · have b : NoteB K H3 (.ref q) _ := .two hq (.str mm.1) (.int mm.2) (fun z e => by cases e; have := name_len nk; omega)
            have e : (isName (V.str mm.1) && ((isI (.int mm.2) && !isB (.int mm.2)) && inV (.int mm.2) [.int 2, .int 3, .int 4])) = true := by
              rw [show isName (V.str mm.1) = true from nk]
              have : mm.2 = 2 ∨ mm.2 = 3 ∨ mm.2 = 4 := by omega
              rcases this with e | e | e <;> rw [e] <;> decide +kernel
            rw [e] at b
            exact b
          refine ifF rfl ?_
          refine ⟨_, rfl, q, _, 0, .str mm.1, rfl, rfl, SqT.of (s4 _ _ hq), rfl, _, rfl, l, _, rfl, .inl (SqL.of (s4 _ _ h3)), rfl, flat_strs _, ?_⟩
          refine ⟨_, rfl, ?_⟩
          refine ifF ?_ ?_
          · rw [if_neg (by decide)]
            exact inV_strs_not (nodup_take ok.2 hmm)
          · refine ⟨_, rfl, .inl ⟨rfl, _, SqL.of (s4 _ _ h3)⟩, _, rfl, q, _, 0, .str mm.1, rfl, rfl, SqT.of (s4 _ _ hq), rfl, l, _, .str mm.1, rfl, rfl, s4 _ _ h3, ?_, ?_⟩
            · simp only [List.length_map, List.length_take]
              exact szs (by omega)
            · refine ⟨fun b o e => by rw [upd_ne (ne_of_none e n2)]; exact s4 _ _ (s3 _ _ e), by omega, ?_, _, rfl⟩
              rw [upd_same, List.take_succ, hmm, List.map_append, List.map_append]
              rfl
      · have := m.2.1
        omega
end

/-! ## programs with a row whose note is not there -/
namespace Pg
/-- the first name, by the rows' numbers, that no note has -/
def missN (ns : List (Str × Int)) (rs : List Rw1) : Option Str := ((innerL rs).flatMap fun r => r.uses).find? fun z => !decide (z ∈ ns.map (·.1))
theorem missN_no {ns : List (Str × Int)} {rs : List Rw1} (h : ∀ r ∈ innerL rs, ∀ y ∈ r.uses, y ∈ ns.map (·.1)) : missN ns rs = none := by
  refine List.find?_eq_none.mpr fun z hz => ?_
  obtain ⟨r, hr, hz⟩ := List.mem_flatMap.mp hz
  simp [h r hr z hz]
theorem take_split {α : Type} {l : List α} {j : Nat} {a : α} (h : l[j]? = some a) : l = l.take j ++ a :: l.drop (j + 1) := by
  have lj := (List.getElem?_eq_some_iff.mp h).1
  have := List.take_append_drop j l
  have d := List.drop_eq_getElem_cons lj
  rw [(List.getElem?_eq_some_iff.mp h).2] at d
  rw [d] at this
  exact this.symm
theorem missN_at {ns : List (Str × Int)} {rs : List Rw1} {j i : Nat} {r : Rw1} {z : Str} (hr : (innerL rs)[j]? = some r) (pre : ∀ r ∈ (innerL rs).take j, ∀ y ∈ r.uses, y ∈ ns.map (·.1)) (hz : r.uses[i]? = some z) (pre2 : ∀ y ∈ r.uses.take i, y ∈ ns.map (·.1)) (hm : z ∉ ns.map (·.1)) : missN ns rs = some z := by
  unfold missN
  rw [take_split hr, List.flatMap_append, List.flatMap_cons, take_split hz, List.find?_append]
  have e1 : ((List.take j (innerL rs)).flatMap fun r => r.uses).find? (fun z => !decide (z ∈ ns.map (·.1))) = none := by
    refine List.find?_eq_none.mpr fun y hy => ?_
    obtain ⟨r', hr', hy⟩ := List.mem_flatMap.mp hy
    simp [pre r' hr' y hy]
  rw [e1, Option.none_or, List.append_assoc, List.find?_append]
  have e2 : (List.take i r.uses).find? (fun z => !decide (z ∈ ns.map (·.1))) = none := List.find?_eq_none.mpr fun y hy => by simp [pre2 y hy]
  rw [e2, Option.none_or, List.cons_append, List.find?_cons_of_pos (by simp [hm])]
def sp_pginitN (K : PySem.W.Frag) (c : Clz) (CP NN : Addr) : Sp := fun vs H _ E => ∃ (x dx a b : Addr) (xs ys : List V) (rs : List Rw1) (ns : List (Str × Int)) (z : Str), vs = [.ref x, .ref a, .ref b] ∧ H x = some (.ins CP dx []) ∧ SqV K H a xs ∧ RowsAt K c H xs rs ∧ SqV K H b ys ∧ NotesAt H ys ns ∧ NotesOk ns ∧ missN ns rs = some z ∧
  deepL rs ≤ 4 ∧ (innerL rs).length ≤ 1000 ∧ ns.length ≤ 1000 ∧ ∀ (dd : Addr) (H' : Hp), (∀ b o, b ≠ x → H b = some o → H' b = some o) → H' dd = none → E (.ref NN) (some dd) (upd H' dd (.xd [("name", .str z)]))
/-- notes, or rows, that are none -/
def sp_pginitR (K : PySem.W.Frag) (c : Clz) (CP IR : Addr) : Sp := fun vs H _ E => ∃ (x dx : Addr) (v u : V), vs = [.ref x, v, u] ∧ H x = some (.ins CP dx []) ∧
  ((BadN K H u ∧ Refd E IR H "notes") ∨ ∃ (b : Addr) (ys : List V) (ns : List (Str × Int)), u = .ref b ∧ SqV K H b ys ∧ NotesAt H ys ns ∧ NotesOk ns ∧ ns.length ≤ 1000 ∧ (∀ H', (∀ b o, b ≠ x → H b = some o → H' b = some o) → NRows K c H' v none) ∧
    ∀ (dd : Addr) (H' : Hp), (∀ b o, b ≠ x → H b = some o → H' b = some o) → H' dd = none → E (.ref IR) (some dd) (upd H' dd (.xd [("part", .str "row")])))
end Pg
open Pg
section
variable {P : Program} {w : World} {K : PySem.W.Frag} {mg : Str → Option Value} {base : Heap}
theorem ok_pginitN {f CP IR NN : Addr} {fd : FuncData} {c : Clz} {dvs : List V} (F : FunD K "__init__" "Program.__init__" (defArgs S_Program__init_) (defBody S_Program__init_) (defScope S_Program__init_) dvs [] f fd) (T : Txt K mg) (Hc : Hi K mg c) (Pt : PgT K CP) (C_ndnotes : FnC P w K mg base (L2.CX P w) 4 "need_notes" ["notes"] (sp_ndnotes K)) (C_ndrows : FnC P w K mg base (L2.CX P w) 4 "need_rows" ["rows"] (sp_ndrows K c IR)) (C_irows : FnC P w K mg base CX0 10 "inner_rows" ["rows"] (sp_irows K c 4)) (C_steps : FnC P w K mg base CX0 23 "steps_of" ["rows"] (sp_steps K c)) (E_NoNote : Er1 P w K mg base "NoNote" NN "name" "name") : FnOk P w K mg base (L2.CX P w) 24 f fd ["self", "rows", "notes"] (sp_pginitN K c CP NN) := by
  refine F.ok (CX := L2.CX P w) SC_Program__init_ (fun vs H Q E h => ?_) (fun cdv A outer s H vs Q E hr h => ?_)
  · obtain ⟨x, dx, a, b, xs, ys, rs, ns, z, rfl, _⟩ := h
    rfl
  · obtain ⟨x, dx, a, b, xs, ys, rs, ns, z, rfl, hx, ha, hrs, hb, hns, nok, hmiss, dp, sz, sn, k⟩ := h
    refine ⟨_, (pss_cons (ps_fld (pv 0) (pe_callSC C_ndnotes (hr.mono (by omega)) (takes_of rfl rfl rfl rfl) rfl (pa_cons (pv 2) pa_nil)) rfl)
      (pss_cons (ps_fld (pv 0) (pe_callSC C_ndrows (hr.mono (by omega)) (takes_of rfl rfl rfl rfl) rfl (pa_cons (pv 1) pa_nil)) rfl)
      (pss_cons (ps_fld (pv 0) (pe_callTy call_tuple_of (by rfl) T.b_tuple (by decide +kernel) (pa_cons (pe_callC C_irows (hr.mono (by omega)) rfl (pa_cons (pe_fld (pv 0) rfl) pa_nil)) pa_nil)) rfl)
      (pss_cons (ps_fld (pv 0) (pe_callC C_steps (hr.mono (by omega)) rfl (pa_cons (pe_fld (pv 0) rfl) pa_nil)) rfl)
      (pss_cons (ps_setLc (i := 3) (own := [("name", 5), ("modulus", 6)])  (by rfl) SC_Program__init_.nd rfl rfl (sw_true rfl rfl rfl (by decide +kernel)) (pi_tup (pe_fld (pv 0) rfl)) (blkOk_by (own := [("name", 5), ("modulus", 6)]) (N := N_Program__init_) (sc := defScope S_Program__init_) (by decide +kernel)) (fun _ _ _ _ _ => (pg_tupK (K := K) (n := 2) rfl rfl (pgs_cons (pg_name (i := 5) SC_Program__init_.nd rfl (.inl rfl)) (pgs_cons (pg_name (i := 6) SC_Program__init_.nd rfl (.inl rfl)) pgs_nil)))) (fun _ _ _ _ _ => pts_nil) (fun _ _ _ _ _ => (pv 5)))
      (pss_one (ps_for (passes_of rfl) rfl (pi_tup (pe_fld (pv 0) rfl)) (pg_name (i := 4) SC_Program__init_.nd rfl (.inl rfl)) (pss_one (ps_for (passes_of rfl) rfl (pi_tup (pe_fld (pv 4) rfl)) (pg_name (i := 5) SC_Program__init_.nd rfl (.inl rfl)) (pss_one (ps_if (pt_cmpR op_notIn_seq (pv 5) (pv 3) (by rfl)) (pss_one (ps_raise1 E_NoNote (hr.mono (by omega)) rfl (takes_of rfl rfl rfl rfl) rfl (pa_cons (pv 5) pa_nil))) pss_nil))))))))))), ?_⟩
    refine ⟨_, rfl, b, ys, ns, rfl, hb, hns, nok, by rw [hns.len]; exact sn, fun nA H1 s1 hN => ?_⟩
    refine ⟨_, rfl, x, CP, dx, [], rfl, s1 _ _ hx, Pt.ins.cl, Pt.no "notes" (by simp), by decide, ?_⟩
    have k1 : ∀ b o, b ≠ x → H b = some o → (upd H1 x (.ins CP dx (putF ("notes" : Str) (.ref nA) []))) b = some o := fun b o n e => by rw [upd_ne n]; exact s1 _ _ e
    have hx1 : (upd H1 x (.ins CP dx (putF ("notes" : Str) (.ref nA) []))) x = some (.ins CP dx (putF ("notes" : Str) (.ref nA) [])) := upd_same
    have hN1 : SqT K (upd H1 x (.ins CP dx (putF ("notes" : Str) (.ref nA) []))) nA ys := sqT_ins (s1 _ _ hx) hN
    generalize upd H1 x (.ins CP dx (putF ("notes" : Str) (.ref nA) [])) = H2 at k1 hx1 hN1 ⊢
    refine ⟨_, rfl, _, some xs, rfl, SqV.rows Hc (hrs.nx hx k1) (SqV.nx hx k1 ha), fun zs ez T2 H3 s3 hT => ?_, nofun⟩
    cases ez
    refine ⟨_, rfl, x, CP, dx, _, rfl, s3 _ _ hx1, Pt.ins.cl, Pt.no "rows" (by simp), Nat.le_of_ble_eq_true rfl, ?_⟩
    have k3 : ∀ b o, b ≠ x → H b = some o → (upd H3 x (.ins CP dx (putF ("rows" : Str) (.ref T2) (putF ("notes" : Str) (.ref nA) [])))) b = some o := fun b o n e => by rw [upd_ne n]; exact s3 _ _ (k1 b o n e)
    have hx3 : (upd H3 x (.ins CP dx (putF ("rows" : Str) (.ref T2) (putF ("notes" : Str) (.ref nA) [])))) x = some (.ins CP dx (putF ("rows" : Str) (.ref T2) (putF ("notes" : Str) (.ref nA) []))) := upd_same
    have hN3 : SqT K (upd H3 x (.ins CP dx (putF ("rows" : Str) (.ref T2) (putF ("notes" : Str) (.ref nA) [])))) nA ys := sqT_ins (s3 _ _ hx1) (sqT_tk (TK.same s3) hN1)
    have hT3 : SqT K (upd H3 x (.ins CP dx (putF ("rows" : Str) (.ref T2) (putF ("notes" : Str) (.ref nA) [])))) T2 xs := sqT_ins (s3 _ _ hx1) hT
    generalize upd H3 x (.ins CP dx (putF ("rows" : Str) (.ref T2) (putF ("notes" : Str) (.ref nA) []))) = H4 at k3 hx3 hN3 hT3 ⊢
    refine ⟨_, rfl, x, CP, dx, _, _, rfl, hx3, Pt.ins.cl, Pt.no "rows" (by simp), by ((repeat (rw [lookup_putF]; first | rw [if_pos rfl] | rw [if_neg (by decide +kernel)])); try rfl), ?_⟩
    refine ⟨T2, xs, rs, rfl, .inr hT3, hrs.nx hx k3, dp, by omega, fun l H5 ws s5 n5 h5 hw => ?_⟩
    refine ⟨l, ws, rfl, .inl ⟨SqL.of h5, fun u n6 => ?_⟩⟩
    have s6 := sm_new (o := .tup ws) n6
    have s56 := s5.trans s6
    have h6 : (upd H5 u (.tup ws)) u = some (.tup ws) := upd_same
    have hw6 := hw.tk (TK.same s6)
    generalize upd H5 u (.tup ws) = H6 at s56 h6 hw6 s6 ⊢
    refine ⟨_, rfl, x, CP, dx, _, rfl, s56 _ _ hx3, Pt.ins.cl, Pt.no "numbered" (by simp), Nat.le_of_ble_eq_true rfl, ?_⟩
    have n3 : (putF ("numbered" : Str) (.ref u) (putF ("rows" : Str) (.ref T2) (putF ("notes" : Str) (.ref nA) []))).lookup ("script" : Str) = none := by ((repeat (rw [lookup_putF]; first | rw [if_pos rfl] | rw [if_neg (by decide +kernel)])); try rfl)
    have n3' : (putF ("rows" : Str) (.ref T2) (putF ("notes" : Str) (.ref nA) [])).lookup ("script" : Str) = none := by ((repeat (rw [lookup_putF]; first | rw [if_pos rfl] | rw [if_neg (by decide +kernel)])); try rfl)
    have m3' : (putF ("rows" : Str) (.ref T2) (putF ("notes" : Str) (.ref nA) [])).lookup ("numbers" : Str) = none := by ((repeat (rw [lookup_putF]; first | rw [if_pos rfl] | rw [if_neg (by decide +kernel)])); try rfl)
    have k7 : ∀ b o, b ≠ x → H6 b = some o → (upd H6 x (.ins CP dx (putF ("numbered" : Str) (.ref u) (putF ("rows" : Str) (.ref T2) (putF ("notes" : Str) (.ref nA) []))))) b = some o := fun b o n e => by rw [upd_ne n]; exact e
    have hx7 : (upd H6 x (.ins CP dx (putF ("numbered" : Str) (.ref u) (putF ("rows" : Str) (.ref T2) (putF ("notes" : Str) (.ref nA) []))))) x = some (.ins CP dx (putF ("numbered" : Str) (.ref u) (putF ("rows" : Str) (.ref T2) (putF ("notes" : Str) (.ref nA) [])))) := upd_same
    have hx6 := s56 _ _ hx3
    have hw7 := hw6.ng hx6 n3' m3' k7
    have hN7 := sqT_ng hx6 k7 (sqT_tk (TK.same s56) hN3)
    have hT7 := sqT_ng hx6 k7 (sqT_tk (TK.same s56) hT3)
    have hu7 := sqT_ng hx6 k7 (SqT.of (K := K) h6)
    have kH7 : ∀ b o, b ≠ x → H b = some o → (upd H6 x (.ins CP dx (putF ("numbered" : Str) (.ref u) (putF ("rows" : Str) (.ref T2) (putF ("notes" : Str) (.ref nA) []))))) b = some o := fun b o n e => k7 _ _ n (s56 _ _ (k3 _ _ n e))
    generalize upd H6 x (.ins CP dx (putF ("numbered" : Str) (.ref u) (putF ("rows" : Str) (.ref T2) (putF ("notes" : Str) (.ref nA) [])))) = H7 at hx7 hw7 hN7 hT7 hu7 kH7 ⊢
    refine ⟨_, rfl, x, CP, dx, _, _, rfl, hx7, Pt.ins.cl, Pt.no "rows" (by simp), by ((repeat (rw [lookup_putF]; first | rw [if_pos rfl] | rw [if_neg (by decide +kernel)])); try rfl), ?_⟩
    refine ⟨T2, xs, rs, rfl, .inr hT7, hrs.nx hx kH7, dp, by omega, fun st H8 svs s8 h8 hsv => ?_⟩
    refine ⟨_, rfl, x, CP, dx, _, rfl, s8 _ _ hx7, Pt.ins.cl, Pt.no "steps" (by simp), Nat.le_of_ble_eq_true rfl, ?_⟩
    have m7 : (putF ("numbered" : Str) (.ref u) (putF ("rows" : Str) (.ref T2) (putF ("notes" : Str) (.ref nA) []))).lookup ("numbers" : Str) = none := by ((repeat (rw [lookup_putF]; first | rw [if_pos rfl] | rw [if_neg (by decide +kernel)])); try rfl)
    have k9 : ∀ b o, b ≠ x → H8 b = some o → (upd H8 x (.ins CP dx (putF ("steps" : Str) (.ref st) (putF ("numbered" : Str) (.ref u) (putF ("rows" : Str) (.ref T2) (putF ("notes" : Str) (.ref nA) [])))))) b = some o := fun b o n e => by rw [upd_ne n]; exact e
    have hx8 := s8 _ _ hx7
    have hx9 : (upd H8 x (.ins CP dx (putF ("steps" : Str) (.ref st) (putF ("numbered" : Str) (.ref u) (putF ("rows" : Str) (.ref T2) (putF ("notes" : Str) (.ref nA) [])))))) x = some (.ins CP dx (putF ("steps" : Str) (.ref st) (putF ("numbered" : Str) (.ref u) (putF ("rows" : Str) (.ref T2) (putF ("notes" : Str) (.ref nA) []))))) := upd_same
    have hw9 := (hw7.tk (TK.same s8)).ng hx8 n3 m7 k9
    have hN9 := sqT_ng hx8 k9 (sqT_tk (TK.same s8) hN7)
    have hT9 := sqT_ng hx8 k9 (sqT_tk (TK.same s8) hT7)
    have hu9 := sqT_ng hx8 k9 (sqT_tk (TK.same s8) hu7)
    have hS9 := sqT_ng hx8 k9 (SqT.of (K := K) h8)
    have hsv9 := hsv.ng hx8 n3 m7 k9
    have kH9 : ∀ b o, b ≠ x → H b = some o → (upd H8 x (.ins CP dx (putF ("steps" : Str) (.ref st) (putF ("numbered" : Str) (.ref u) (putF ("rows" : Str) (.ref T2) (putF ("notes" : Str) (.ref nA) [])))))) b = some o := fun b o n e => k9 _ _ n (s8 _ _ (kH7 _ _ n e))
    have hns9 := NotesAt.ng hx kH9 hns
    have hrs9 := hrs.nx hx kH9
    generalize upd H8 x (.ins CP dx (putF ("steps" : Str) (.ref st) (putF ("numbered" : Str) (.ref u) (putF ("rows" : Str) (.ref T2) (putF ("notes" : Str) (.ref nA) []))))) = H9 at hx9 hw9 hN9 hT9 hu9 hS9 hsv9 kH9 hns9 hrs9 ⊢
    have hP : ProgAt K c CP H9 x ns rs := ⟨dx, nA, T2, u, st, _, ys, xs, ws, svs, hx9, ⟨Nat.le_of_ble_eq_true rfl, by kernel_rfl, by kernel_rfl⟩, by ((repeat (rw [lookup_putF]; first | rw [if_pos rfl] | rw [if_neg (by decide +kernel)])); try rfl), hN9, hns9, by ((repeat (rw [lookup_putF]; first | rw [if_pos rfl] | rw [if_neg (by decide +kernel)])); try rfl), hT9, hrs9, by ((repeat (rw [lookup_putF]; first | rw [if_pos rfl] | rw [if_neg (by decide +kernel)])); try rfl), hu9, hw9, by ((repeat (rw [lookup_putF]; first | rw [if_pos rfl] | rw [if_neg (by decide +kernel)])); try rfl), hS9, hsv9⟩
    refine ⟨_, rfl, x, CP, dx, _, .ref nA, rfl, hx9, Pt.ins.cl, Pt.no "notes" (by simp), by ((repeat (rw [lookup_putF]; first | rw [if_pos rfl] | rw [if_neg (by decide +kernel)])); try rfl), nA, rfl, ⟨_, hN9⟩, fun D hD => ?_⟩
    refine lc_tup (xs := ys) (fun j H' => Hd H9 H' [(D, .lst (((ns.take j).map (·.1)).map V.str))]) ((Hd.start H9).new hD _) (fun j H' _ m => sqT_tk m.tk hN9) (fun j v H' hj m => ?_) (fun H' m => ?_)
    · obtain ⟨q, mm, rfl, hmm, hq, _⟩ := (hns9.tk m.tk).ix hj
      have ln := hns.len
      have lj := (List.getElem?_eq_some_iff.mp hj).1
      refine ⟨q, _, rfl, SqT.of hq, rfl, _, _, rfl, _, _, rfl, rfl, rfl, ?_⟩
      refine ifT (B := Hd H9 H' [(D, .lst (((ns.take (j + 1)).map (·.1)).map V.str))]) rfl ⟨_, rfl, _, m.get (.head _), ?_, ?_⟩
      · simp only [List.length_map, List.length_take]
        exact szs (by omega)
      · have := m.set 0 rfl (.lst (((ns.take j).map (·.1)).map V.str ++ [V.str mm.1]))
        rw [List.take_succ, hmm, List.map_append, List.map_append]
        exact this
    · have hD' : H' D = some (.lst ((ns.map (·.1)).map V.str)) := by
        have := m.get (.head _)
        rwa [hns.len, List.take_length] at this
      have s9 := m.sm
      refine ⟨_, rfl, x, CP, dx, _, .ref u, rfl, s9 _ _ hx9, Pt.ins.cl, Pt.no "numbered" (by simp), by ((repeat (rw [lookup_putF]; first | rw [if_pos rfl] | rw [if_neg (by decide +kernel)])); try rfl), u, rfl, ⟨_, sqT_tk (TK.same s9) hu9⟩, ?_⟩
      refine for_tup (xs := ws) (fun j σ Hj => Same H' Hj ∧ (∀ r ∈ (innerL rs).take j, ∀ y ∈ r.uses, y ∈ ns.map (·.1)) ∧ ∃ y4 y5 : Option V, σ = [some (.ref x), some (.ref a), some (.ref b), some (.ref D), y4, y5, none]) ⟨Same.refl _, fun r hr => (by rw [List.take_zero] at hr; cases hr), _, _, rfl⟩ (fun j σ Hj _ m => sqT_tk (TK.same (s9.trans m.1)) hu9) (fun j v σ Hj hj m => ?_) (fun σ Hj m => ?_)
      · obtain ⟨sj, pre, y4, y5, rfl⟩ := m
        obtain ⟨p, r, rfl, hr', hp⟩ := (hw9.tk (TK.same (s9.trans sj))).at hj
        obtain ⟨fs, dq, sa, ua, g1, g2, g3, g4, g5, g6, g7, g8, g9⟩ := hp.part
        refine ⟨_, rfl, p, _, dq, fs, _, rfl, g1, (Hc.r r).ins.cl, (Hc.r r).no "used" (by simp [fnames]), g5, ua, rfl, ⟨_, g6⟩, ?_⟩
        refine for_tup (xs := r.uses.map V.str) (fun i σ Hi => Same Hj Hi ∧ (∀ y ∈ r.uses.take i, y ∈ ns.map (·.1)) ∧ ∃ y5 : Option V, σ = [some (.ref x), some (.ref a), some (.ref b), some (.ref D), some (.ref p), y5, none]) ⟨Same.refl _, fun y hy => (by rw [List.take_zero] at hy; cases hy), _, rfl⟩ (fun i σ Hi _ m => sqT_tk (TK.same m.1) g6) (fun i v σ Hi hi m => ?_) (fun σ Hi m => ?_)
        · obtain ⟨si, pre2, y5, rfl⟩ := m
          rw [List.getElem?_map] at hi
          obtain ⟨u, hz, rfl⟩ := Option.map_eq_some_iff.mp hi
          refine ⟨_, rfl, _, rfl, D, _, rfl, .inl (SqL.of (si _ _ (sj _ _ hD'))), rfl, flat_strs _, ?_⟩
          refine ⟨_, rfl, ?_⟩
          by_cases hm : u ∈ ns.map (·.1)
          · refine ifF (by rw [if_pos rfl, inV_strs, decide_eq_true hm]; rfl) ⟨si, fun y hy => ?_, _, rfl⟩
            rw [List.take_succ, hz] at hy
            rcases List.mem_append.mp hy with hy | hy
            · exact pre2 y hy
            · rw [List.mem_singleton.mp hy]; exact hm
          · have ez := missN_at hr' pre hz pre2 hm
            rw [hmiss] at ez
            cases ez
            refine ifT (by rw [if_pos rfl, inV_strs, decide_eq_false hm]; rfl) ⟨_, rfl, mk_err1H fun dd hd => k dd Hi (fun b o n e => si _ _ (sj _ _ (s9 _ _ (kH9 _ _ n e)))) hd⟩
        · obtain ⟨si, pre2, y5, rfl⟩ := m
          refine ⟨sj.trans si, fun r' hr2 => ?_, _, _, rfl⟩
          rw [List.take_succ, hr'] at hr2
          rcases List.mem_append.mp hr2 with hr2 | hr2
          · exact pre r' hr2
          · rw [List.mem_singleton.mp hr2]
            intro y hy
            rw [List.length_map, List.take_length] at pre2
            exact pre2 y hy
      · obtain ⟨sj, pre, y4, y5, rfl⟩ := m
        rw [hw9.len, List.take_length] at pre
        rw [missN_no pre] at hmiss
        cases hmiss
theorem ok_pginitR {f CP IR NN : Addr} {fd : FuncData} {c : Clz} {dvs : List V} (F : FunD K "__init__" "Program.__init__" (defArgs S_Program__init_) (defBody S_Program__init_) (defScope S_Program__init_) dvs [] f fd) (T : Txt K mg) (Hc : Hi K mg c) (Pt : PgT K CP) (C_ndnotes : FnC P w K mg base (L2.CX P w) 4 "need_notes" ["notes"] (sp_ndnotes K)) (C_ndnotesN : FnC P w K mg base (L2.CX P w) 4 "need_notes" ["notes"] (sp_ndnotesN K IR)) (C_ndrows : FnC P w K mg base (L2.CX P w) 4 "need_rows" ["rows"] (sp_ndrows K c IR)) (C_irows : FnC P w K mg base CX0 10 "inner_rows" ["rows"] (sp_irows K c 4)) (C_steps : FnC P w K mg base CX0 23 "steps_of" ["rows"] (sp_steps K c)) (E_NoNote : Er1 P w K mg base "NoNote" NN "name" "name") : FnOk P w K mg base (L2.CX P w) 24 f fd ["self", "rows", "notes"] (sp_pginitR K c CP IR) := by
  refine F.ok (CX := L2.CX P w) SC_Program__init_ (fun vs H Q E h => ?_) (fun cdv A outer s H vs Q E hr h => ?_)
  · obtain ⟨x, dx, v, u, rfl, _⟩ := h
    rfl
  · obtain ⟨x, dx, v, u, rfl, hx, hv⟩ := h
    rcases hv with ⟨bn, bad⟩ | ⟨b, ys, ns, rfl, hb, hns, nok, sn, nr, bad⟩
    · refine ⟨_, (pss_cons (ps_fld (pv 0) (pe_callSC C_ndnotesN (hr.mono (by omega)) (takes_of rfl rfl rfl rfl) rfl (pa_cons (pv 2) pa_nil)) rfl)
      (pss_cons (ps_fld (pv 0) (pe_callSC C_ndrows (hr.mono (by omega)) (takes_of rfl rfl rfl rfl) rfl (pa_cons (pv 1) pa_nil)) rfl)
      (pss_cons (ps_fld (pv 0) (pe_callTy call_tuple_of (by rfl) T.b_tuple (by decide +kernel) (pa_cons (pe_callC C_irows (hr.mono (by omega)) rfl (pa_cons (pe_fld (pv 0) rfl) pa_nil)) pa_nil)) rfl)
      (pss_cons (ps_fld (pv 0) (pe_callC C_steps (hr.mono (by omega)) rfl (pa_cons (pe_fld (pv 0) rfl) pa_nil)) rfl)
      (pss_cons (ps_setLc (i := 3) (own := [("name", 5), ("modulus", 6)])  (by rfl) SC_Program__init_.nd rfl rfl (sw_true rfl rfl rfl (by decide +kernel)) (pi_tup (pe_fld (pv 0) rfl)) (blkOk_by (own := [("name", 5), ("modulus", 6)]) (N := N_Program__init_) (sc := defScope S_Program__init_) (by decide +kernel)) (fun _ _ _ _ _ => (pg_tupK (K := K) (n := 2) rfl rfl (pgs_cons (pg_name (i := 5) SC_Program__init_.nd rfl (.inl rfl)) (pgs_cons (pg_name (i := 6) SC_Program__init_.nd rfl (.inl rfl)) pgs_nil)))) (fun _ _ _ _ _ => pts_nil) (fun _ _ _ _ _ => (pv 5)))
      (pss_one (ps_for (passes_of rfl) rfl (pi_tup (pe_fld (pv 0) rfl)) (pg_name (i := 4) SC_Program__init_.nd rfl (.inl rfl)) (pss_one (ps_for (passes_of rfl) rfl (pi_tup (pe_fld (pv 4) rfl)) (pg_name (i := 5) SC_Program__init_.nd rfl (.inl rfl)) (pss_one (ps_if (pt_cmpR op_notIn_seq (pv 5) (pv 3) (by rfl)) (pss_one (ps_raise1 E_NoNote (hr.mono (by omega)) rfl (takes_of rfl rfl rfl rfl) rfl (pa_cons (pv 5) pa_nil))) pss_nil))))))))))), ?_⟩
      exact ⟨_, rfl, u, rfl, bn, bad⟩
    · refine ⟨_, (pss_cons (ps_fld (pv 0) (pe_callSC C_ndnotes (hr.mono (by omega)) (takes_of rfl rfl rfl rfl) rfl (pa_cons (pv 2) pa_nil)) rfl)
      (pss_cons (ps_fld (pv 0) (pe_callSC C_ndrows (hr.mono (by omega)) (takes_of rfl rfl rfl rfl) rfl (pa_cons (pv 1) pa_nil)) rfl)
      (pss_cons (ps_fld (pv 0) (pe_callTy call_tuple_of (by rfl) T.b_tuple (by decide +kernel) (pa_cons (pe_callC C_irows (hr.mono (by omega)) rfl (pa_cons (pe_fld (pv 0) rfl) pa_nil)) pa_nil)) rfl)
      (pss_cons (ps_fld (pv 0) (pe_callC C_steps (hr.mono (by omega)) rfl (pa_cons (pe_fld (pv 0) rfl) pa_nil)) rfl)
      (pss_cons (ps_setLc (i := 3) (own := [("name", 5), ("modulus", 6)])  (by rfl) SC_Program__init_.nd rfl rfl (sw_true rfl rfl rfl (by decide +kernel)) (pi_tup (pe_fld (pv 0) rfl)) (blkOk_by (own := [("name", 5), ("modulus", 6)]) (N := N_Program__init_) (sc := defScope S_Program__init_) (by decide +kernel)) (fun _ _ _ _ _ => (pg_tupK (K := K) (n := 2) rfl rfl (pgs_cons (pg_name (i := 5) SC_Program__init_.nd rfl (.inl rfl)) (pgs_cons (pg_name (i := 6) SC_Program__init_.nd rfl (.inl rfl)) pgs_nil)))) (fun _ _ _ _ _ => pts_nil) (fun _ _ _ _ _ => (pv 5)))
      (pss_one (ps_for (passes_of rfl) rfl (pi_tup (pe_fld (pv 0) rfl)) (pg_name (i := 4) SC_Program__init_.nd rfl (.inl rfl)) (pss_one (ps_for (passes_of rfl) rfl (pi_tup (pe_fld (pv 4) rfl)) (pg_name (i := 5) SC_Program__init_.nd rfl (.inl rfl)) (pss_one (ps_if (pt_cmpR op_notIn_seq (pv 5) (pv 3) (by rfl)) (pss_one (ps_raise1 E_NoNote (hr.mono (by omega)) rfl (takes_of rfl rfl rfl rfl) rfl (pa_cons (pv 5) pa_nil))) pss_nil))))))))))), ?_⟩
      refine ⟨_, rfl, b, ys, ns, rfl, hb, hns, nok, by rw [hns.len]; exact sn, fun nA H1 s1 hN => ?_⟩
      refine ⟨_, rfl, x, CP, dx, [], rfl, s1 _ _ hx, Pt.ins.cl, Pt.no "notes" (by simp), by decide, ?_⟩
      have k1 : ∀ b o, b ≠ x → H b = some o → (upd H1 x (.ins CP dx (putF ("notes" : Str) (.ref nA) []))) b = some o := fun b o n e => by rw [upd_ne n]; exact s1 _ _ e
      generalize upd H1 x (.ins CP dx (putF ("notes" : Str) (.ref nA) [])) = H2 at k1 ⊢
      exact ⟨_, rfl, v, none, rfl, nr H2 k1, nofun, fun _ dd H3 s3 hd => bad dd H3 (fun b o n e => s3 _ _ (k1 b o n e)) hd⟩
end

/-! ## small things of the reader's texts -/
namespace Rd
theorem gTup_mono {K : PySem.W.Frag} {i j : Nat} : ∀ (x : V) (σ : L2.St) (H : Hp) (Q Q' : L2.St → Hp → Prop), (∀ σ2 H2, Q σ2 H2 → Q' σ2 H2) → gTup K 2 (gCons (gName i) (gCons (gName j) gNil)) x σ H Q → gTup K 2 (gCons (gName i) (gCons (gName j) gNil)) x σ H Q' := fun x σ H Q Q' h q => by
  obtain ⟨a, xs, e1, e2, e3, v, r, e4, v', r', e5, e6, q⟩ := q
  exact ⟨a, xs, e1, e2, e3, v, r, e4, v', r', e5, e6, h _ _ q⟩
structure RefI (E : XK) (IP : Addr) (H : Hp) (k : Int) : Prop where
  e : ∀ (dd : Addr) (H' : Hp), Same H H' → H' dd = none → E (.ref IP) (some dd) (upd H' dd (.xd [("at", .int k)]))
theorem innerL_one (r : Rw1) : innerL [r] = r.inner := by show r.inner ++ [] = _; rw [List.append_nil]
end Rd
open Rd

/-! ## == and != of rows and tests -/
namespace Pg
/-- what the classes must have for == -/
structure Heq (P : Program) (w : World) (K : PySem.W.Frag) (mg : Str → Option Value) (base : Heap) (c : Clz) : Prop where
  eqR : ∀ r : Rw1, MtC P w K mg base CX0 1 (r.cls c) "__eq__" ["self", "other"] (sp_peq K c)
  eqT : ∀ t : Tst, MtC P w K mg base CX0 1 (t.cls c) "__eq__" ["self", "other"] (sp_peq K c)
  neR : ∀ r : Rw1, PySem.W.findIn K (.ref (r.cls c)) "__ne__" = some (some (.builtin "object.__ne__")) ∧ PySem.W.subIn K (.ref (r.cls c)) (.type "object") = some true
  neT : ∀ t : Tst, PySem.W.findIn K (.ref (t.cls c)) "__ne__" = some (some (.builtin "object.__ne__")) ∧ PySem.W.subIn K (.ref (t.cls c)) (.type "object") = some true
  nfRR : ∀ r s : Rw1, PySem.W.notFirst K (r.cls c) (.ref (s.cls c)) = true
  nfTT : ∀ r s : Tst, PySem.W.notFirst K (r.cls c) (.ref (s.cls c)) = true
  nfR : ∀ r : Rw1, PySem.W.notFirst K (r.cls c) (.type "str") = true ∧ PySem.W.notFirst K (r.cls c) (.type "int") = true
  nfT : ∀ t : Tst, PySem.W.notFirst K (t.cls c) (.type "str") = true
end Pg
section
variable {X : Cx} {c : Clz}
end
namespace Pg
/-- the first word of a line -/
def fw (z : Str) : List Nat := z.cps.toList.takeWhile fun c => c != 32
theorem tw_app : ∀ (a b : List Nat), (a.any fun c => c == 32) = true → (a ++ b).takeWhile (fun c => c != 32) = a.takeWhile fun c => c != 32
  | [], _, h => by cases h
  | x :: a, b, h => by
    by_cases e : x = 32
    · subst e; rfl
    · have h' : (a.any fun c => c == 32) = true := by
        rw [List.any_cons, show (x == 32) = false from by simp [e], Bool.false_or] at h
        exact h
      have p : (x != 32) = true := by simp [e]
      rw [List.cons_append, List.takeWhile_cons, List.takeWhile_cons, p]
      simp only [if_true]
      rw [tw_app a b h']
theorem fw_app {a b : Str} (h : (a.cps.toList.any fun c => c == 32) = true) : fw (a ++ b) = fw a := by
  unfold fw
  rw [app_l, tw_app _ _ h]
theorem fw_sort : ∀ r : Rw1, ∃ z rest, r.lines = z :: rest ∧ fw z = r.sort.cps.toList
  | .make m => ⟨_, _, rfl, by rw [fw_app (by decide +kernel)]; simp only [Rw1.sort]; decide +kernel⟩
  | .exch => ⟨_, _, rfl, by simp only [Rw1.sort]; decide +kernel⟩
  | .lay => ⟨_, _, rfl, by simp only [Rw1.sort]; decide +kernel⟩
  | .stop => ⟨_, _, rfl, by simp only [Rw1.sort]; decide +kernel⟩
  | .tell m => ⟨_, _, rfl, by rw [fw_app (by decide +kernel)]; simp only [Rw1.sort]; decide +kernel⟩
  | .put n k => ⟨_, _, rfl, by rw [app_assoc, app_assoc, fw_app (by decide +kernel)]; simp only [Rw1.sort]; decide +kernel⟩
  | .add n k => ⟨_, _, rfl, by rw [app_assoc, app_assoc, fw_app (by decide +kernel)]; simp only [Rw1.sort]; decide +kernel⟩
  | .ifb t r o => ⟨_, _, rfl, by rw [fw_app (by decide +kernel)]; simp only [Rw1.sort]; decide +kernel⟩
  | .untl g r => ⟨_, _, rfl, by rw [fw_app (by decide +kernel)]; simp only [Rw1.sort]; decide +kernel⟩
theorem sort_of {r s : Rw1} (h : r.lines = s.lines) : r.sort = s.sort := by
  obtain ⟨z, l, e1, f1⟩ := fw_sort r
  obtain ⟨y, m, e2, f2⟩ := fw_sort s
  rw [e1, e2] at h
  cases h
  exact st_inj (f1.symm.trans f2)
end Pg
open Pg
/-! ## programs compared, their texts -/
namespace Pg
--@eq
theorem notes_sh {H : Hp} {xs : List V} {ms : List (Str × Int)} (h : NotesAt H xs ms) : SeqAt.shaped (.tuple (ms.map noteD)) = true := by
  obtain ⟨h1, h2⟩ := h.can
  show (PyData.canLayAll0 (ms.map noteD) && decide (PyData.depthAll (ms.map noteD) + 1 ≤ 64)) = true
  rw [h1, decide_eq_true (by omega)]; rfl
--@*
def noteT (m : Str × Int) : Str := ("note " : Str) ++ m.1 ++ " " ++ st m.2
def progT (ns : List (Str × Int)) (rs : List Rw1) : Str := Txt.join ("\n" : Str) (ns.map noteT ++ linesL rs)
--@eq
def sp_pgstr (K : PySem.W.Frag) (c : Clz) (CP : Addr) : Sp := fun vs H Q _ => ∃ (p : Addr) (ns : List (Str × Int)) (rs : List Rw1), vs = [.ref p] ∧ ProgAt K c CP H p ns rs ∧ ns.length ≤ 1000 ∧ sumL (linesL rs) ≤ 900000 ∧ ∀ H', Same H H' → Q (.str (progT ns rs)) H'
--@*
end Pg
--@eq
section
variable {P : Program} {w : World} {K : PySem.W.Frag} {mg : Str → Option Value} {base : Heap}
theorem noteT_len {m : Str × Int} (nk : nameOk m.1 = true) (m0 : 0 ≤ m.2) (m1 : m.2 < 1000000) : (noteT m).length ≤ 40 := by
  have nl1 := name_len nk
  have sl1 := st_len m0 (Int.lt_trans m1 (by decide))
  show (("note " : Str) ++ m.1 ++ " " ++ st m.2).length ≤ 40
  rw [app_len, app_len, app_len, show ("note " : Str).length = 5 by decide +kernel, show (" " : Str).length = 1 by decide +kernel]
  omega
theorem notes_len {H : Hp} : ∀ {xs : List V} {ms : List (Str × Int)}, NotesAt H xs ms → (((ms.map noteT).map fun x => x.length).sum) ≤ 40 * ms.length
  | [], [], _ => Nat.le_refl _
  | _ :: xs, m :: ms, ⟨⟨_, _, _, a, b, c⟩, t⟩ => by
    have h := notes_len t
    have h2 := noteT_len a b c
    show (noteT m).length + (((ms.map noteT).map fun x => x.length).sum) ≤ 40 * (ms.length + 1)
    omega
theorem ok_pgstr {f CP : Addr} {fd : FuncData} {c : Clz} (F : Fun K "__str__" "Program.__str__" S_Program__str_ f fd) (T : Txt K mg) (Pt : PgT K CP) (C_lines : FnC P w K mg base CX0 2 "lines_of" ["rows"] (sp_lines K c)) : FnOk P w K mg base CX0 4 f fd ["self"] (sp_pgstr K c CP) := by
  refine F.ok SC_Program__str_ (fun vs H Q E h => ?_) (fun cdv A outer s H vs Q E hr h => ?_)
  · obtain ⟨_, _, _, rfl, _⟩ := h
    rfl
  · obtain ⟨p, ns, rs, rfl, hp, nl, sz, k⟩ := h
    refine ⟨_, (pss_cons (ps_setLc (i := 1) (own := [("name", 2), ("modulus", 3)])  (by rfl) SC_Program__str_.nd rfl rfl (sw_true rfl rfl rfl (by decide +kernel)) (pi_tup (pe_fld (pv 0) rfl)) (blkOk_by (own := [("name", 2), ("modulus", 3)]) (N := N_Program__str_) (sc := defScope S_Program__str_) (by decide +kernel)) (fun _ _ _ _ _ => (pg_tupK (K := K) (n := 2) rfl rfl (pgs_cons (pg_name (i := 2) SC_Program__str_.nd rfl (.inl rfl)) (pgs_cons (pg_name (i := 3) SC_Program__str_.nd rfl (.inl rfl)) pgs_nil)))) (fun _ _ _ _ _ => pts_nil) (fun _ _ _ _ _ => (pe_joined (PJ.cons pe_str (PJ.cons (pe_fmt (pv 2)) (PJ.cons pe_str (PJ.cons (pe_fmt (pv 3)) PJ.nil)))))))
      (pss_one (ps_ret (pe_join pe_str (pe_lst (StX.pa_star (pv 1) (StX.pa_star (pe_callC C_lines (hr.mono (by omega)) rfl (pa_cons (pe_fld (pv 0) rfl) pa_nil)) pa_nil))))))), ?_⟩
    obtain ⟨dx, a, b, u, t, fs, nvs, rvs, uvs, svs, h1, h2, h3, h4, h5, h6, h7, h8, _⟩ := hp
    refine ⟨_, rfl, p, CP, dx, fs, _, rfl, h1, Pt.ins.cl, Pt.no "notes" (by simp), h3, a, rfl, ⟨_, h4⟩, fun D hD => ?_⟩
    have ln := h5.len
    refine lcR_tup (xs := nvs) (te := fun σ H Q => tJs [tC (V.str (Str.ofString "note ")), tFmt (tVar 2), tC (V.str (Str.ofString " ")), tFmt (tVar 3)] Str.empty σ H fun out H1 => Q (V.str out) H1) (fun i H' => (∀ b o, b ≠ D → H b = some o → H' b = some o) ∧ H' D = some (.lst (((ns.take i).map noteT).map V.str))) ⟨fun b o n e => by rw [upd_ne n]; exact e, upd_same⟩
      (fun i H' _ m => sqT_tk (TK.inD hD m.1) h4) (fun i v H1 hi m => ?_) gTup_mono (fun H1 m => ?_)
    · obtain ⟨kp, hH⟩ := m
      obtain ⟨q, mm, rfl, hmm, hq, nko, m0, m1⟩ := h5.ix hi
      have hq1 := kp _ _ (ne_of_none hq hD) hq
      refine ⟨q, _, rfl, SqT.of hq1, rfl, _, _, rfl, _, _, rfl, rfl, rfl, ?_⟩
      have nl1 := name_len nko
      have sl1 := st_len m0 (Int.lt_trans m1 (by decide))
      have l5 : ("note " : Str).length = 5 := by decide +kernel
      have l1 : (" " : Str).length = 1 := by decide +kernel
      refine ⟨_, rfl, ?_, ⟨_, rfl, .inl ⟨mm.1, rfl, szl (by omega), ⟨_, rfl, ?_, ⟨_, rfl, ?_, ⟨_, rfl, .inr ⟨mm.2, rfl, st_log m0 (Int.lt_trans m1 (by decide)), ⟨_, rfl, ?_, ?_⟩⟩⟩⟩⟩⟩⟩⟩
      · rw [app_e]; exact szl (by rw [l5]; decide)
      · rw [app_e, app_len]; exact szl (by omega)
      · rw [app_e, app_len, app_len]; exact szl (by omega)
      · rw [app_e, app_len, app_len, app_len]
        refine szl ?_
        have sl1 : (Str.ofString (toString mm.2)).length ≤ 13 := sl1
        omega
      · rw [app_e]
        refine ⟨_, hH, ?_, fun b o n e => by rw [upd_ne n]; exact kp b o n e, ?_⟩
        · rw [List.length_map, List.length_map, List.length_take]
          exact szs (by omega)
        · rw [upd_same, List.take_succ, hmm, List.map_append, List.map_append]
          rfl
    · obtain ⟨kp, hH⟩ := m
      rw [ln, List.take_length] at hH
      have sm : Same H H1 := fun b o e => kp b o (ne_of_none e hD) e
      refine ⟨⟨_, rfl⟩, _, rfl, D, _, rfl, .inr (SqL.of hH), _, rfl, p, CP, dx, fs, _, rfl, sm _ _ h1, Pt.ins.cl, Pt.no "rows" (by simp), h6, ?_⟩
      have e0 := sumL_eq (linesL rs)
      refine ⟨b, rvs, rs, rfl, .inr (sqT_tk (TK.same sm) h7), h8.tk (TK.same sm), by omega, fun l H2 s2 n2 h2 => ?_⟩
      refine ⟨l, _, rfl, .inr (SqL.of h2), ?_⟩
      have ez : (ns.map noteT).map V.str ++ ((linesL rs).map V.str ++ []) = (ns.map noteT ++ linesL rs).map V.str := by rw [List.append_nil, List.map_append]
      dsimp only [tNil]
      rw [ez]
      refine ⟨szl ?_, fun p7 n7 => ?_⟩
      · rw [List.length_map, List.length_append, List.length_map]
        omega
      · refine ⟨_, p7, _, rfl, rfl, .inl (SqL.of upd_same), ?_, k _ (sm.trans (s2.trans (sm_new n7)))⟩
        have h5' := notes_len h5
        rw [List.map_append, List.sum_append, List.length_append, List.length_map, show ("\n" : Str).length = 1 by decide +kernel]
        omega
end

/-! ## programs compared, whatever they are -/
namespace Pg
def DRwB (K : PySem.W.Frag) (c : Clz) : EqvB := fun x y H b => ∃ (r s : Rw1) (p q : Addr), x = .ref p ∧ y = .ref q ∧ RowAt K c H p r ∧ RowAt K c H q s ∧ (∀ z ∈ r.lines, PyData.strOk z = true) ∧ (∀ z ∈ s.lines, PyData.strOk z = true) ∧ b = decide (r.lines = s.lines)
theorem monB_rw {K : PySem.W.Frag} {c : Clz} : MonB (DRwB K c) := fun x y H H' b e d => by
  obtain ⟨r, s, p, q, h1, h2, h3, h4, h5, h6, h7⟩ := d
  exact ⟨r, s, p, q, h1, h2, h3.tk (TK.same e), h4.tk (TK.same e), h5, h6, h7⟩
theorem rcB_rw {X : Cx} {c : Clz} (Q : Heq X.prog X.w X.K X.mg X.base c) (Hc : Hi X.K X.mg c) : RcB X 1 (DRwB X.K c) := by
  intro A pins s σ H x y u v b sb I rx ry d
  obtain ⟨r, s', p, q, rfl, rfl, hp, hq, ok1, ok2, rfl⟩ := d
  obtain ⟨fs, pp⟩ := hp.part
  obtain ⟨gs, qq⟩ := hq.part
  obtain ⟨dx, _, _, g1, _⟩ := id pp
  obtain ⟨dy, _, _, g2, _⟩ := id qq
  refine rcB_mt (R := fun a b H e => RowAt X.K c H a r ∧ RowAt X.K c H b s' ∧ e = decide (r.lines = s'.lines)) (Q.eqR r) (fun a b H e Q E h k => ?_) (Q.nfRR r s') (Nat.le_refl _) A pins s σ H _ _ u v _ sb I rx ry ⟨p, q, dx, dy, fs, gs, rfl, rfl, g1, g2, hp, hq, rfl⟩
  obtain ⟨h1, h2, rfl⟩ := h
  obtain ⟨fs', pp'⟩ := h1.part
  obtain ⟨gs', qq'⟩ := h2.part
  refine ⟨a, _, _, _, _, _, fs', .ref b, rfl, Hc.r r, pp', ok1, .inr ⟨b, _, _, _, _, _, gs', rfl, Hc.r s', qq', ok2, ?_⟩⟩
  have e : (decide (r.sort = s'.sort) && decide (r.lines = s'.lines)) = decide (r.lines = s'.lines) := by
    by_cases h : r.lines = s'.lines
    · rw [decide_eq_true h, decide_eq_true (sort_of h)]; rfl
    · rw [decide_eq_false h, Bool.and_false]
  rw [e]
  exact k H (Ext.rfl')
theorem linesL_mem {z : Str} : ∀ {rs : List Rw1} {i : Nat} {r : Rw1}, rs[i]? = some r → z ∈ r.lines → z ∈ linesL rs
  | [], _, _, h, _ => by simp at h
  | x :: rs, 0, r, h, hz => by cases h; exact List.mem_append.mpr (.inl hz)
  | x :: rs, i + 1, r, h, hz => List.mem_append.mpr (.inr (linesL_mem (i := i) (by simpa using h) hz))
theorem strs_uniq {its : List Value} : ∀ {xs ys : List Str}, Vals (xs.map V.str) its → Vals (ys.map V.str) its → xs = ys := by
  induction its with
  | nil =>
    intro xs ys a b
    have la := a.length
    have lb := b.length
    rw [List.length_map] at la lb
    rw [List.length_eq_zero_iff.mp la, List.length_eq_zero_iff.mp lb]
  | cons u us ih =>
    intro xs ys a b
    cases xs with
    | nil => exact absurd a.length (by simp)
    | cons x xs =>
      cases ys with
      | nil => exact absurd b.length (by simp)
      | cons y ys =>
        cases a with
        | cons a1 a2 =>
          cases b with
          | cons b1 b2 =>
            obtain ⟨t1, e1⟩ := a1
            obtain ⟨t2, e2⟩ := b1
            rw [e1] at e2
            injection e2 with e2
            subst e2
            rw [ih a2 b2]
theorem eqB_rw {X : Cx} {c : Clz} (Q : Heq X.prog X.w X.K X.mg X.base c) (Hc : Hi X.K X.mg c) : EqB X 1 (DRwB X.K c) := (rcB_rw Q Hc).eqB (fun x y H b d => let ⟨_, _, p, q, h1, h2, _⟩ := d; ⟨p, q, h1, h2⟩) fun pins σ H s p b I d => by
  obtain ⟨r, s', p', q', e1, e2, hp, hq, _, _, rfl⟩ := d
  cases e1
  cases e2
  obtain ⟨fs, dx, sa, _, g1, _, g3, g4, _⟩ := hp.part
  obtain ⟨gs, dy, sb, _, k1, _, k3, k4, _⟩ := hq.part
  rw [g1] at k1
  injection k1 with k1
  injection k1 with _ _ ef
  subst ef
  rw [g3] at k3
  cases k3
  obtain ⟨its, r1, z1, _⟩ := I.tuple g4
  obtain ⟨its2, r2, z2, _⟩ := I.tuple k4
  obtain ⟨o1, w1, _, n1, d1⟩ := z1
  obtain ⟨o2, w2, _, n2, d2⟩ := z2
  rw [w1] at w2
  cases w2
  rw [d1] at d2
  have e : its = its2 := by
    injection d2 with d2
    simpa using d2
  subst e
  exact decide_eq_true (strs_uniq r1 r2)
/-- alike row by row -/
def rowsE (rs ss : List Rw1) : Bool := decide (rs.map (fun r => r.lines) = ss.map fun r => r.lines)
theorem rowsE_all : ∀ rs ss : List Rw1, ((List.range (min rs.length ss.length)).all (fun i => decide (rs[i]?.map (fun r => r.lines) = ss[i]?.map fun r => r.lines)) && rs.length == ss.length) = rowsE rs ss := fun rs ss => by
  unfold rowsE
  rw [Bool.eq_iff_iff, Bool.and_eq_true, List.all_eq_true, decide_eq_true_iff, beq_iff_eq]
  constructor
  · intro ⟨h, l⟩
    refine List.ext_getElem? fun i => ?_
    rw [List.getElem?_map, List.getElem?_map]
    by_cases c : i < rs.length
    · exact of_decide_eq_true (h i (List.mem_range.mpr (by omega)))
    · rw [List.getElem?_eq_none (by omega), List.getElem?_eq_none (by omega)]
  · intro e
    have l : rs.length = ss.length := by have := congrArg List.length e; simpa using this
    refine ⟨fun i _ => ?_, l⟩
    have := congrArg (fun z => z[i]?) e
    simp only [List.getElem?_map] at this
    exact decide_eq_true this
def sp_pgeqB (K : PySem.W.Frag) (c : Clz) (CP : Addr) : Sp := fun vs H Q _ => ∃ (p : Addr) (y : V) (ns : List (Str × Int)) (rs : List Rw1), vs = [.ref p, y] ∧ ProgAt K c CP H p ns rs ∧ (∀ z ∈ linesL rs, PyData.strOk z = true) ∧
  ((∃ t, TyX K H y t ∧ PySem.W.kitOne K t (.ref CP) = some false ∧ ∀ H', Same H H' → Q (.bl false) H') ∨
   (∃ (q : Addr) (ms : List (Str × Int)) (ss : List Rw1), y = .ref q ∧ ProgAt K c CP H q ms ss ∧ (∀ z ∈ linesL ss, PyData.strOk z = true) ∧ ∀ H', Same H H' → Q (.bl (decide (ns = ms) && rowsE rs ss)) H'))
theorem eqv_notesL : ∀ ns ms : List (Str × Int), PyData.eqvAll (ns.map noteD) (ms.map noteD) = decide (ns = ms)
  | [], [] => rfl
  | [], _ :: _ => rfl
  | _ :: _, [] => rfl
  | n :: ns, m :: ms => by
    show (PyData.eqv (noteD n) (noteD m) && PyData.eqvAll (ns.map noteD) (ms.map noteD)) = _
    rw [eqv_notesL ns ms]
    have e : PyData.eqv (noteD n) (noteD m) = decide (n = m) := by
      show (PyData.eqv (.str n.1) (.str m.1) && (PyData.eqv (.int n.2) (.int m.2) && true)) = _
      by_cases h1 : n.1 = m.1
      · by_cases h2 : n.2 = m.2
        · have : n = m := Prod.ext h1 h2
          subst this
          simp [PyData.eqv]
        · have : n ≠ m := fun e => h2 (e ▸ rfl)
          simp [PyData.eqv, h1, h2, this]
      · have : n ≠ m := fun e => h1 (e ▸ rfl)
        simp [PyData.eqv, h1, this]
    rw [e]
    by_cases h : n = m <;> by_cases h2 : ns = ms <;> simp [h, h2]
end Pg
open Pg
section
variable {P : Program} {w : World} {K : PySem.W.Frag} {mg : Str → Option Value} {base : Heap}
theorem ok_pgeqB {f CP : Addr} {fd : FuncData} {c : Clz} (F : Fun K "__eq__" "Program.__eq__" S_Program__eq_ f fd) (T : Txt K mg) (Hc : Hi K mg c) (Qe : Heq P w K mg base c) (Pt : PgT K CP) (hCP : mg "Program" = some (.ref CP)) : FnOk P w K mg base CX0 4 f fd ["self", "other"] (sp_pgeqB K c CP) := by
  refine F.ok SC_Program__eq_ (fun vs H Q E h => ?_) (fun cdv A outer s H vs Q E hr h => ?_)
  · obtain ⟨_, _, _, _, rfl, _⟩ := h
    rfl
  · obtain ⟨p, y, ns, rs, rfl, hp, ok, h⟩ := h
    refine ⟨_, (pss_one (ps_ret (pe_and (pe_callB call_isi (by rfl) T.b_isinstance (by decide +kernel) (pa_cons (pv 1) (pa_cons (pe_glob (v := .ref CP) (by rfl) hCP rfl) pa_nil))) (pe_and (pe_cmpR (op_eqD hr.units) (pe_fld (pv 0) rfl) (pe_fld (pv 1) rfl) (nomark _)) (pe_one (pe_cmpR (op_eqB (rcB_tup monB_rw (eqB_rw Qe Hc)) (hr.mono (by omega))) (pe_fld (pv 0) rfl) (pe_fld (pv 1) rfl) (nomark _))))))), ?_⟩
    rcases h with ⟨t, ty, kt, k⟩ | ⟨q, ms, ss, rfl, hq, ok2, k⟩
    · exact ⟨_, rfl, y, _, _, _, false, rfl, .own _, ty, kt, _, rfl, k H (Same.refl H)⟩
    obtain ⟨dx, a, b, u, t, fs, nvs, rvs, uvs, svs, h1, h2, h3, h4, h5, h6, h7, h8, _⟩ := hp
    obtain ⟨dy, a', b', u', t', gs, nvs', rvs', uvs', svs', g1, g2, g3, g4, g5, g6, g7, g8, _⟩ := hq
    refine ⟨_, rfl, .ref q, _, _, _, true, rfl, .own _, tyx_ins Pt.ins g1, Pt.ins.me, _, rfl, ?_⟩
    rw [if_pos rfl]
    refine ⟨_, rfl, p, CP, dx, fs, _, rfl, h1, Pt.ins.cl, Pt.no "notes" (by simp), h3, _, rfl, q, CP, dy, gs, _, rfl, g1, Pt.ins.cl, Pt.no "notes" (by simp), g3, _, _, .tup h4 h5.dp, .tup g4 g5.dp, notes_sh h5, notes_sh g5, _, rfl, ?_⟩
    rw [show PyData.eqv (.tuple (ns.map noteD)) (.tuple (ms.map noteD)) = PyData.eqvAll (ns.map noteD) (ms.map noteD) from rfl, eqv_notesL]
    by_cases e : ns = ms
    rotate_left
    · rw [decide_eq_false e] at k ⊢
      rw [if_neg (by decide)]
      exact k H (Same.refl H)
    rw [decide_eq_true e] at k ⊢
    rw [if_pos rfl]
    refine ⟨_, rfl, p, CP, dx, fs, _, rfl, h1, Pt.ins.cl, Pt.no "rows" (by simp), h6, _, rfl, q, CP, dy, gs, _, rfl, g1, Pt.ins.cl, Pt.no "rows" (by simp), g6, _, ⟨b, b', rvs, rvs', fun i => decide (rs[i]?.map (fun r => r.lines) = ss[i]?.map fun r => r.lines), rfl, rfl, h7, g7, fun i x y hx hy => ?_, rfl⟩, fun H' e => ?_⟩
    · obtain ⟨p1, r1, rfl, hr1, hp1⟩ := h8.at hx
      obtain ⟨p2, r2, rfl, hr2, hp2⟩ := g8.at hy
      refine ⟨r1, r2, p1, p2, rfl, rfl, hp1, hp2, fun z hz => ok z (linesL_mem hr1 hz), fun z hz => ok2 z (linesL_mem hr2 hz), ?_⟩
      show decide _ = _
      rw [hr1, hr2]
      simp
    · rw [h8.len, g8.len, rowsE_all]
      exact k H' e
end

/-! ## rows by their numbers -/
namespace Pg
def sp_need (K : PySem.W.Frag) (c : Clz) (CP NR : Addr) : Sp := fun vs H Q E => ∃ (p : Addr) (a : Int) (ns : List (Str × Int)) (rs : List Rw1), vs = [.ref p, .int a] ∧ ProgAt K c CP H p ns rs ∧ (innerL rs).length ≤ 1000 ∧
  (0 ≤ a → a < ((innerL rs).length : Nat) → ∀ H', Same H H' → Q .non H') ∧ (¬ (0 ≤ a ∧ a < ((innerL rs).length : Nat)) → Rd.RefI E NR H a)
end Pg
open Pg
section
variable {P : Program} {w : World} {K : PySem.W.Frag} {mg : Str → Option Value} {base : Heap}
theorem ok_need {f CP NR : Addr} {fd : FuncData} {c : Clz} (F : Fun K "need" "Program.need" S_Program_need f fd) (T : Txt K mg) (Pt : PgT K CP) (C_isint : FnC P w K mg base CX0 1 "is_integer" ["value"] (sp_isint K)) (E_NoRow : Er1 P w K mg base "NoRow" NR "at" "at") : FnOk P w K mg base (L2.CX P w) 4 f fd ["self", "at"] (sp_need K c CP NR) := by
  refine F.okX SC_Program_need (fun vs H Q E h => ?_) (fun cdv A outer s H vs Q E hr h => ?_)
  · obtain ⟨_, _, _, _, rfl, _⟩ := h
    rfl
  · obtain ⟨p, a, ns, rs, rfl, hp, sz, k0, k1⟩ := h
    refine ⟨_, (pss_one (ps_if (PW.pt (pw_or (pt_not (pt_val (pe_callC C_isint (hr.mono (by decide)) rfl (pa_cons (pv 1) pa_nil)))) (pw_or1 (pt_not (pt_chain op_le op_lt pe_int (pv 1) (pe_callB call_len_seq (by rfl) T.b_len (by decide +kernel) (pa_cons (pe_fld (pv 0) rfl) pa_nil))))))) (pss_one (ps_raise1 E_NoRow (hr.mono (by omega)) rfl (takes_of rfl rfl rfl rfl) rfl (pa_cons (pv 1) pa_nil))) pss_nil)), ?_⟩
    obtain ⟨dx, _, _, u, _, fs, _, _, uvs, _, h1, h2, h3, h4, h5, h6, h7, h8, h9, ha, hb, hc, hd, he⟩ := id hp
    have bad : ∀ {H1 : Hp}, Same H H1 → ¬ (0 ≤ a ∧ a < ((innerL rs).length : Nat)) → tMkO NR (sp_err1 NR (Str.ofString "at")) [] (tCons (tVar 1) tNil) (L2.start N_Program_need [V.ref p, V.int a]) H1 fun c d H' => E c d H' := fun {H1} s1 nb =>
      ⟨_, rfl, mk_err1H fun dd hd => (k1 nb).e dd H1 s1 hd⟩
    refine ⟨_, rfl, .int a, rfl, Kd.int _, _, rfl, ifF rfl ?_⟩
    refine ⟨_, rfl, _, _, rfl, rfl, _, rfl, ?_⟩
    by_cases c0 : 0 ≤ a
    rotate_left
    · refine ifF (decide_eq_false c0) ⟨_, rfl, ifT rfl (bad (Same.refl _) fun z => c0 z.1)⟩
    refine ifT (decide_eq_true c0) ?_
    have lu := hb.len
    refine ⟨_, rfl, p, _, dx, fs, _, rfl, h1, Pt.ins.cl, Pt.no "numbered" (by simp), h9, u, uvs, rfl, .inr ha, _, _, rfl, rfl, _, rfl, ?_⟩
    by_cases c2 : a < ((innerL rs).length : Nat)
    · exact ifF (by rw [decide_eq_true (by omega)]; rfl) (k0 c0 c2 H (Same.refl _))
    · exact ifT (by rw [decide_eq_false (by omega)]; rfl) (bad (Same.refl _) fun z => c2 z.2)
end

/-! ## drawn rows: those within, the first that are few -/
namespace Pg
def detA (r : Rw1) : Int := match r with
  | .make m => ((m.a * m.d - m.b * m.c).natAbs : Nat)
  | _ => 1
def madeL (rs : List Rw1) : Int := (innerL rs).foldl (fun x r => x * detA r) 1
def part1 : Rw1 → List Rw1
  | .ifb t a o => .ifb t a o :: innerL a
  | r => r.inner
def part2 : Rw1 → List Rw1
  | .ifb _ _ o => innerL o
  | _ => []
theorem parts_inner (r : Rw1) : part1 r ++ part2 r = r.inner := by cases r <;> first | rfl | exact List.append_nil _
theorem RowD.hd {H : Hp} : ∀ {r : Rw1} {v : V}, RowD H v r → ∃ p as, v = .ref p ∧ H p = some (.tup (.str r.sort :: as))
  | .make _, _, ⟨p, _, e, h, _⟩ => ⟨p, _, e, h⟩
  | .exch, _, ⟨p, e, h⟩ => ⟨p, _, e, h⟩
  | .lay, _, ⟨p, e, h⟩ => ⟨p, _, e, h⟩
  | .put _ _, _, ⟨p, e, h⟩ => ⟨p, _, e, h⟩
  | .add _ _, _, ⟨p, e, h⟩ => ⟨p, _, e, h⟩
  | .tell _, _, ⟨p, e, h⟩ => ⟨p, _, e, h⟩
  | .stop, _, ⟨p, e, h⟩ => ⟨p, _, e, h⟩
  | .ifb _ _ _, _, ⟨p, _, _, _, _, _, e, h, _⟩ => ⟨p, _, e, h⟩
  | .untl _ _, _, ⟨p, _, _, e, h, _⟩ => ⟨p, _, e, h⟩
mutual
theorem inner_okR : ∀ {r : Rw1}, r.Ok → ∀ x ∈ r.inner, x.Ok
  | .ifb t a o, h, x, hx => by
    rcases List.mem_cons.mp (show x ∈ Rw1.ifb t a o :: (innerL a ++ innerL o) from hx) with rfl | hx
    · exact h
    · rcases List.mem_append.mp hx with hx | hx
      · exact inner_ok h.2.2.1 x hx
      · exact inner_ok h.2.2.2 x hx
  | .untl g a, h, x, hx => by
    rcases List.mem_cons.mp (show x ∈ Rw1.untl g a :: innerL a from hx) with rfl | hx
    · exact h
    · exact inner_ok h.2.2.2 x hx
  | .make m, h, x, hx => by rw [List.mem_singleton.mp (show x ∈ [Rw1.make m] from hx)]; exact h
  | .exch, h, x, hx => by rw [List.mem_singleton.mp (show x ∈ [Rw1.exch] from hx)]; exact h
  | .lay, h, x, hx => by rw [List.mem_singleton.mp (show x ∈ [Rw1.lay] from hx)]; exact h
  | .stop, h, x, hx => by rw [List.mem_singleton.mp (show x ∈ [Rw1.stop] from hx)]; exact h
  | .put n k, h, x, hx => by rw [List.mem_singleton.mp (show x ∈ [Rw1.put n k] from hx)]; exact h
  | .add n k, h, x, hx => by rw [List.mem_singleton.mp (show x ∈ [Rw1.add n k] from hx)]; exact h
  | .tell m, h, x, hx => by rw [List.mem_singleton.mp (show x ∈ [Rw1.tell m] from hx)]; exact h
theorem inner_ok : ∀ {rs : List Rw1}, okL rs → ∀ x ∈ innerL rs, x.Ok
  | [], _, _, hx => by cases hx
  | r :: rs, h, x, hx => by
    rcases List.mem_append.mp (show x ∈ r.inner ++ innerL rs from hx) with hx | hx
    · exact inner_okR h.1 x hx
    · exact inner_ok h.2 x hx
end
theorem mats_small {m : Mt} (h : m ∈ mats) : -(2 ^ 64) < detA (.make m) ∧ detA (.make m) < 2 ^ 64 := by
  simp only [mats, List.mem_cons, List.not_mem_nil, or_false] at h
  rcases h with rfl | rfl | rfl | rfl | rfl | rfl | rfl | rfl | rfl | rfl | rfl | rfl | rfl | rfl | rfl | rfl | rfl | rfl | rfl <;> decide
theorem okL_of : ∀ {rs : List Rw1}, (∀ r ∈ rs, r.Ok) → okL rs
  | [], _ => trivial
  | r :: rs, h => ⟨h r (.head _), okL_of fun x hx => h x (.tail _ hx)⟩
theorem okL_mem : ∀ {rs : List Rw1}, okL rs → ∀ r ∈ rs, r.Ok
  | _ :: _, ⟨a, b⟩, r, h => (List.mem_cons.mp h).elim (fun e => by rw [e]; exact a) (okL_mem b r)
theorem deepL_of {d : Nat} : ∀ {rs : List Rw1}, (∀ r ∈ rs, r.deep ≤ d) → deepL rs ≤ d
  | [], _ => Nat.zero_le _
  | r :: rs, h => Nat.max_le.mpr ⟨h r (.head _), deepL_of fun x hx => h x (.tail _ hx)⟩
def sp_linner (d : Nat) : Sp := fun vs H Q _ => ∃ (p : Addr) (xs : List V) (rs : List Rw1), vs = [.ref p] ∧ H p = some (.tup xs) ∧ RowsD H xs rs ∧ deepL rs < d ∧ d ≤ 10 ∧ (innerL rs).length ≤ 1000 ∧ ∀ l ys H', Same H H' → H l = none → H' l = some (.lst ys) → RowsD H' ys (innerL rs) → Q (.ref l) H'
def sp_lmade (d : Nat) : Sp := fun vs H Q _ => ∃ (p : Addr) (xs : List V) (rs : List Rw1), vs = [.ref p] ∧ H p = some (.tup xs) ∧ RowsD H xs rs ∧ okL rs ∧ deepL rs < d ∧ d ≤ 10 ∧ (innerL rs).length ≤ 30 ∧ ∀ H', Same H H' → Q (.int (madeL rs)) H'
def sp_bounded (d : Nat) : Sp := fun vs H Q _ => ∃ (p : Addr) (xs : List V) (rs : List Rw1) (most least : Int), vs = [.ref p, .int most, .int least] ∧ H p = some (.tup xs) ∧ RowsD H xs rs ∧ okL rs ∧ deepL rs < d ∧ d ≤ 10 ∧ (innerL rs).length ≤ 900 ∧ 0 ≤ most ∧ most ≤ 30 ∧ 1 ≤ least ∧
  ∀ q ys rs' H', Same H H' → H' q = some (.tup ys) → RowsD H' ys rs' → rs'.Sublist rs → ((innerL rs').length : Int) ≤ most → madeL rs' ≤ least → Q (.ref q) H'
end Pg
open Pg
section
variable {P : Program} {w : World} {K : PySem.W.Frag} {mg : Str → Option Value} {base : Heap}
theorem ok_linner {f : Addr} {fd : FuncData} {d : Nat} (F : Fun K "_law_inner" "_law_inner" S__law_inner f fd) (T : Txt K mg) (C_linner : FnC P w K mg base CX0 (d + 1) "_law_inner" ["_law_rows_here"] (sp_linner d)) : FnOk P w K mg base CX0 (d + 2) f fd ["_law_rows_here"] (sp_linner (d + 1)) := by
  refine F.ok SC__law_inner (fun vs H Q E h => ?_) (fun cdv A outer s H vs Q E hr h => ?_)
  · obtain ⟨p, xs, rs, rfl, _⟩ := h
    rfl
  · obtain ⟨p, xs, rs, rfl, hp, hrs, dp, d10, sz, k⟩ := h
    refine ⟨_, (pss_cons (ps_set (i := 1) SC__law_inner.nd rfl (.inl rfl) (pe_lstN pa_nil))
      (pss_cons (ps_for PassesOwn.never rfl (pi_tup (pv 0)) (pg_name (i := 2) SC__law_inner.nd rfl (.inl rfl)) (pss_cons (ps_expr (pe_bm PySem.F.plainAttrs_list PySem.F.slot_list_append PySem.F.type_list_append mt_append (pv 1) (pa_cons (pv 2) pa_nil)))
      (pss_mid (ps_if (pt_cmpR op_in_seq (pe_ix ix_tup (pv 2) pe_int (fun _ _ => rfl)) (pe_tupN (pa_cons pe_str (pa_cons pe_str pa_nil))) (by rfl)) (pss_one (ps_expr (pe_bm PySem.F.plainAttrs_list PySem.F.slot_list_extend PySem.F.type_list_extend mt_extend (pv 1) (pa_cons (pe_callC C_linner (hr.mono (by omega)) rfl (pa_cons (pe_ix ix_tup (pv 2) pe_int (fun _ _ => rfl)) pa_nil)) pa_nil)))) pss_nil)
      (pss_one (ps_if (pt_cmpR op_eq (pe_ix ix_tup (pv 2) pe_int (fun _ _ => rfl)) pe_str (nomark _)) (pss_one (ps_expr (pe_bm PySem.F.plainAttrs_list PySem.F.slot_list_extend PySem.F.type_list_extend mt_extend (pv 1) (pa_cons (pe_callC C_linner (hr.mono (by omega)) rfl (pa_cons (pe_ix ix_tup (pv 2) pe_int (fun _ _ => rfl)) pa_nil)) pa_nil)))) pss_nil)))))
      (pss_one (ps_ret (pv 1))))), ?_⟩
    refine ⟨Nat.zero_le _, fun l H1 n1 s1 h1 => ?_⟩
    refine ⟨_, rfl, p, rfl, ⟨_, SqT.of (s1 _ _ hp)⟩, ?_⟩
    refine for_tup (fun j σ H2 => ∃ ys y, Hd H H2 [(l, .lst ys)] ∧ RowsD H2 ys (innerL (rs.take j)) ∧ σ = [some (.ref p), some (.ref l), y]) ⟨[], _, (Hd.start H).got n1 s1 h1, trivial, rfl⟩ (fun j σ H2 _ m => let ⟨_, _, W, _⟩ := m; SqT.of (W.sm _ _ hp)) (fun j x σ H2 hj m => ?_) (fun σ H2 m => ?_)
    · obtain ⟨ys, y, W, hys, rfl⟩ := m
      obtain ⟨r, hr', hrd⟩ := hrs.at hj
      have e1 := innerL_take hr'
      obtain ⟨p', as, rfl, hp'⟩ := hrd.hd
      have lz := hys.len
      have le1 := innerL_le (rs := rs) (j + 1)
      rw [e1, ← parts_inner, List.length_append, List.length_append] at le1
      have dr := deepL_mem (List.mem_of_getElem? hr')
      have pl : 1 ≤ (part1 r).length := by cases r <;> exact Nat.succ_le_succ (Nat.zero_le _)
      refine ⟨_, rfl, .inl ⟨rfl, _, SqL.of (W.get (.head _))⟩, _, rfl, l, _, _, rfl, rfl, W.get (.head _), szs (by omega), ?_⟩
      have W1 := W.set 0 rfl (.lst (ys ++ [.ref p']))
      have hys1 := (hys.app (ys := [.ref p']) (ss := [r]) ⟨hrd.tk W.tk, trivial⟩).tk (TK.upd (o := .lst (ys ++ [.ref p'])) (W.get (.head _)) rfl)
      dsimp only [List.set] at W1
      generalize upd H2 l (.lst (ys ++ [.ref p'])) = H3 at W1 hys1 ⊢
      have lz1 : (ys ++ [V.ref p']).length = (innerL (rs.take j)).length + 1 := by rw [List.length_append, lz]; rfl
      refine ⟨fun σ H3 => ∃ zs, Hd H H3 [(l, .lst zs)] ∧ RowsD H3 zs (innerL (rs.take j) ++ part1 r) ∧ σ = [some (.ref p), some (.ref l), some (.ref p')], ?_, fun σ H4 m => ?_⟩
      · refine ⟨_, rfl, p', _, 0, _, rfl, rfl, SqT.of (W1.sm _ _ hp'), at_of (j := 0) rfl rfl, by show 2 ≤ 1000000; decide, W1.nw fun q H4 _ _ s4 W4 => ?_⟩
        have hys4 := hys1.tk (TK.same s4)
        refine ⟨q, _, rfl, .inr (SqT.of (W4.get (.head _))), rfl, rfl, _, rfl, ?_⟩
        cases r with
        | ifb t a b =>
          refine ifT (by kernel_rfl) ?_
          obtain ⟨p2, u', qa, qb, xs', ys', e, hp2, ht, ha, hra, hb, hrb⟩ := hrd.tk W4.tk
          cases e
          have dp1 : max (deepL a) (deepL b) + 1 ≤ deepL rs := dr
          have sz1 : ((Rw1.ifb t a b) :: innerL a).length + (innerL b).length ≤ 1000 := by
            have e : ((Rw1.ifb t a b) :: innerL a).length + (innerL b).length = (part1 (.ifb t a b)).length + (part2 (.ifb t a b)).length := rfl
            omega
          rw [List.length_cons] at sz1
          refine ⟨_, rfl, .inl ⟨rfl, _, SqL.of (W4.get (.tail _ (.head _)))⟩, _, rfl, p', _, 2, .ref qa, rfl, rfl, SqT.of hp2, rfl, qa, xs', a, rfl, ha, hra, by omega, by omega, by omega, fun l2 ys2 H5 s5 n5 h5 hr5 => ?_⟩
          have W5 := W4.got n5 s5 h5
          have lr5 := hr5.len
          refine ⟨l, l2, _, _, rfl, rfl, W5.get (.tail _ (.tail _ (.head _))), h5, szl (by omega), ?_⟩
          refine ⟨_, (W5.set 2 rfl (.lst ((ys ++ [.ref p']) ++ ys2))).tl.tl, ?_, rfl⟩
          have z := ((hys4.tk (TK.same s5)).app hr5).tk (TK.upd (o := .lst ((ys ++ [.ref p']) ++ ys2)) (W5.get (.tail _ (.tail _ (.head _)))) rfl)
          rw [List.append_assoc (innerL (rs.take j))] at z
          exact z
        | untl g a =>
          refine ifT (by kernel_rfl) ?_
          obtain ⟨p2, qa, xs', e, hp2, ha, hra⟩ := hrd.tk W4.tk
          cases e
          have dp1 : deepL a + 1 ≤ deepL rs := dr
          have sz1 : ((Rw1.untl g a) :: innerL a).length ≤ 1000 := by
            have e : ((Rw1.untl g a) :: innerL a).length = (part1 (.untl g a)).length := rfl
            omega
          rw [List.length_cons] at sz1
          refine ⟨_, rfl, .inl ⟨rfl, _, SqL.of (W4.get (.tail _ (.head _)))⟩, _, rfl, p', _, 2, .ref qa, rfl, rfl, SqT.of hp2, rfl, qa, xs', a, rfl, ha, hra, by omega, by omega, by omega, fun l2 ys2 H5 s5 n5 h5 hr5 => ?_⟩
          have W5 := W4.got n5 s5 h5
          have lr5 := hr5.len
          refine ⟨l, l2, _, _, rfl, rfl, W5.get (.tail _ (.tail _ (.head _))), h5, szl (by omega), ?_⟩
          refine ⟨_, (W5.set 2 rfl (.lst ((ys ++ [.ref p']) ++ ys2))).tl.tl, ?_, rfl⟩
          have z := ((hys4.tk (TK.same s5)).app hr5).tk (TK.upd (o := .lst ((ys ++ [.ref p']) ++ ys2)) (W5.get (.tail _ (.tail _ (.head _)))) rfl)
          rw [List.append_assoc (innerL (rs.take j))] at z
          exact z
        | _ =>
          refine ifF (by kernel_rfl) ?_
          exact ⟨_, W4.tl, hys4, rfl⟩
      · obtain ⟨zs, W4, hzs, rfl⟩ := m
        have lz4 := hzs.len
        rw [List.length_append] at lz4
        refine ⟨_, rfl, p', _, 0, _, rfl, rfl, SqT.of (W4.sm _ _ hp'), at_of (j := 0) rfl rfl, rfl, _, rfl, ?_⟩
        cases r with
        | ifb t a b =>
          refine ifT (by kernel_rfl) ?_
          obtain ⟨p2, u', qa, qb, xs', ys', e, hp2, ht, ha, hra, hb, hrb⟩ := hrd.tk W4.tk
          cases e
          have dp1 : max (deepL a) (deepL b) + 1 ≤ deepL rs := dr
          have sz1 : (part2 (.ifb t a b)).length = (innerL b).length := rfl
          refine ⟨_, rfl, .inl ⟨rfl, _, SqL.of (W4.get (.head _))⟩, _, rfl, p', _, 3, .ref qb, rfl, rfl, SqT.of hp2, rfl, qb, ys', b, rfl, hb, hrb, by omega, by omega, by omega, fun l2 ys2 H5 s5 n5 h5 hr5 => ?_⟩
          have W5 := W4.got n5 s5 h5
          have lr5 := hr5.len
          refine ⟨l, l2, _, _, rfl, rfl, W5.get (.tail _ (.head _)), h5, szl (by omega), ?_⟩
          refine ⟨_, _, (W5.set 1 rfl (.lst (zs ++ ys2))).tl, ?_, rfl⟩
          have z := ((hzs.tk (TK.same s5)).app hr5).tk (TK.upd (o := .lst (zs ++ ys2)) (W5.get (.tail _ (.head _))) rfl)
          rw [e1, ← parts_inner, ← List.append_assoc]
          exact z
        | _ =>
          refine ifF (by kernel_rfl) ⟨_, _, W4, ?_, rfl⟩
          rw [e1, ← parts_inner, ← List.append_assoc]
          exact (List.append_nil _).symm ▸ hzs
    · obtain ⟨ys, y, W, hys, rfl⟩ := m
      rw [hrs.len, List.take_length] at hys
      exact ⟨_, rfl, k l ys H2 W.sm n1 (W.get (.head _)) hys⟩
theorem ok_lmade {f : Addr} {fd : FuncData} {d : Nat} (F : Fun K "_law_made" "_law_made" S__law_made f fd) (T : Txt K mg) (C_linner : FnC P w K mg base CX0 (d + 1) "_law_inner" ["_law_rows_here"] (sp_linner d)) : FnOk P w K mg base CX0 (d + 2) f fd ["_law_rows_here"] (sp_lmade d) := by
  refine F.ok SC__law_made (fun vs H Q E h => ?_) (fun cdv A outer s H vs Q E hr h => ?_)
  · obtain ⟨p, xs, rs, rfl, _⟩ := h
    rfl
  · obtain ⟨p, xs, rs, rfl, hp, hrs, ok, dp, d10, sz, k⟩ := h
    refine ⟨_, (pss_cons (ps_set (i := 1) SC__law_made.nd rfl (.inl rfl) pe_int)
      (pss_cons (ps_for PassesOwn.never rfl (pi_list (pe_callC C_linner (hr.mono (by omega)) rfl (pa_cons (pv 0) pa_nil))) (pg_name (i := 2) SC__law_made.nd rfl (.inl rfl)) (pss_one (ps_if (pt_cmpR op_eq (pe_ix ix_tup (pv 2) pe_int (fun _ _ => rfl)) pe_str (nomark _)) (pss_cons (ps_asg (pe_ix ix_tup (pv 2) pe_int (fun _ _ => rfl)) (pg_tup rfl (pgs_cons (pg_name (i := 3) SC__law_made.nd rfl (.inl rfl)) (pgs_cons (pg_name (i := 4) SC__law_made.nd rfl (.inl rfl)) (pgs_cons (pg_name (i := 5) SC__law_made.nd rfl (.inl rfl)) (pgs_cons (pg_name (i := 6) SC__law_made.nd rfl (.inl rfl)) pgs_nil))))))
      (pss_one (ps_set (i := 1) SC__law_made.nd rfl (.inl rfl) (pe_op op_mul (pv 1) (pe_callB call_abs (by rfl) T.b_abs (by decide +kernel) (pa_cons (pe_op op_sub (pe_op op_mul (pv 3) (pv 6)) (pe_op op_mul (pv 4) (pv 5))) pa_nil)))))) pss_nil)))
      (pss_one (ps_ret (pv 1))))), ?_⟩
    refine ⟨_, rfl, p, xs, rs, rfl, hp, hrs, dp, d10, by omega, fun l ys H1 s1 n1 h1 hys => ⟨l, rfl, ⟨ys, SqL.of h1⟩, ?_⟩⟩
    refine for_list (xs := ys) (fun j σ H2 => Same H1 H2 ∧ ∃ y2 y3 y4 y5 y6, σ = [some (.ref p), some (.int (((innerL rs).take j).foldl (fun x r => x * detA r) 1)), y2, y3, y4, y5, y6]) ⟨Same.refl _, _, _, _, _, _, rfl⟩ (fun j σ H' _ m => SqL.of (m.1 _ _ h1)) (fun j v σ H2 hj m => ?_) (fun σ H2 m => ?_)
    · obtain ⟨s2, y2, y3, y4, y5, y6, rfl⟩ := m
      obtain ⟨r, hr', hrd⟩ := hys.at hj
      have hrd2 := hrd.tk (TK.same s2)
      have ok1 := inner_ok ok r (List.mem_of_getElem? hr')
      have et : (innerL rs).take (j + 1) = (innerL rs).take j ++ [r] := by rw [List.take_succ, hr']; rfl
      have ev : ((innerL rs).take (j + 1)).foldl (fun x r => x * detA r) 1 = ((innerL rs).take j).foldl (fun x r => x * detA r) 1 * detA r := by rw [et, List.foldl_append]; rfl
      obtain ⟨p', as, rfl, hp'⟩ := hrd2.hd
      refine ⟨_, rfl, p', _, 0, _, rfl, rfl, SqT.of hp', at_of (j := 0) rfl rfl, rfl, _, rfl, ?_⟩
      cases r with
      | make m =>
        refine ifT (by kernel_rfl) ?_
        obtain ⟨p2, q, e, hp2, hq⟩ := hrd2
        cases e
        have b := mats_in ok1
        have p40 : (2 : Int) ^ 40 < 2 ^ 64 := by decide
        have c1 : CMul m.a m.d := .inl ⟨by have := b.a0; omega, Int.lt_trans b.a1 p40⟩
        have c2 : CMul m.b m.c := .inl ⟨by have := b.b0; omega, Int.lt_trans b.b1 p40⟩
        have ea : (if m.a * m.d - m.b * m.c < 0 then -(m.a * m.d - m.b * m.c) else m.a * m.d - m.b * m.c) = detA (.make m) := by
          show _ = (((m.a * m.d - m.b * m.c).natAbs : Nat) : Int)
          split <;> omega
        have c3 : CMul (((innerL rs).take j).foldl (fun x r => x * detA r) 1) (detA (.make m)) := .inr (mats_small ok1)
        refine ⟨_, rfl, p', _, 1, .ref q, rfl, rfl, SqT.of hp2, rfl, q, _, rfl, SqT.of hq, rfl, _, _, rfl, _, _, rfl, _, _, rfl, _, _, rfl, rfl, ?_⟩
        refine ⟨_, rfl, _, rfl, _, rfl, _, _, rfl, rfl, c1, _, rfl, _, rfl, _, _, rfl, rfl, c2, _, _, rfl, rfl, _, rfl, _, _, rfl, rfl, ?_, s2, some (.ref p'), some (.int m.a), some (.int m.b), some (.int m.c), some (.int m.d), ?_⟩
        · rw [ea]; exact c3
        · rw [ea, ev]; rfl
      | _ =>
        refine ifF (by kernel_rfl) ⟨s2, some (.ref p'), y3, y4, y5, y6, ?_⟩
        rw [ev, show detA _ = 1 from rfl, Int.mul_one]
        rfl
    · obtain ⟨s2, y2, y3, y4, y5, y6, rfl⟩ := m
      rw [hys.len, List.take_length]
      exact ⟨_, rfl, k H2 (s1.trans s2)⟩
theorem ok_bounded {f : Addr} {fd : FuncData} {d : Nat} (F : Fun K "_law_bounded" "_law_bounded" S__law_bounded f fd) (T : Txt K mg) (C_linner : FnC P w K mg base CX0 (d + 1) "_law_inner" ["_law_rows_here"] (sp_linner d)) (C_lmade : FnC P w K mg base CX0 (d + 2) "_law_made" ["_law_rows_here"] (sp_lmade d)) : FnOk P w K mg base CX0 (d + 3) f fd ["_law_rows_here", "_law_most", "_law_least"] (sp_bounded d) := by
  refine F.ok SC__law_bounded (fun vs H Q E h => ?_) (fun cdv A outer s H vs Q E hr h => ?_)
  · obtain ⟨p, xs, rs, most, least, rfl, _⟩ := h
    rfl
  · obtain ⟨p, xs, rs, most, least, rfl, hp, hrs, ok, dp, d10, sz, m0, m1, l0, k⟩ := h
    refine ⟨_, (pss_cons (ps_set (i := 3) SC__law_bounded.nd rfl (.inl rfl) (pe_tupN pa_nil))
      (pss_cons (ps_for PassesOwn.never rfl (pi_tup (pv 0)) (pg_name (i := 4) SC__law_bounded.nd rfl (.inl rfl)) (pss_one (ps_if (PW.pt (pw_and (pt_cmpR op_le (pe_callB call_len_seq (by rfl) T.b_len (by decide +kernel) (pa_cons (pe_callC C_linner (hr.mono (by omega)) rfl (pa_cons (pe_op op_catA (pv 3) (pe_tupN (pa_cons (pv 4) pa_nil))) pa_nil)) pa_nil)) (pv 1) (nomark _)) (pw_and1 (pt_cmpR op_le (pe_callC C_lmade (hr.mono (by omega)) rfl (pa_cons (pe_op op_catA (pv 3) (pe_tupN (pa_cons (pv 4) pa_nil))) pa_nil)) (pv 2) (nomark _))))) (pss_one (ps_set (i := 3) SC__law_bounded.nd rfl (.inl rfl) (pe_op op_catA (pv 3) (pe_tupN (pa_cons (pv 4) pa_nil))))) pss_nil)))
      (pss_one (ps_ret (pv 3))))), ?_⟩
    refine ⟨Nat.zero_le _, (Hd.start H).nw fun fa H1 _ _ _ W1 => ?_⟩
    refine ⟨_, rfl, p, rfl, ⟨_, SqT.of (W1.sm _ _ hp)⟩, ?_⟩
    refine for_tup (fun j σ H2 => ∃ fa ys fr y, Hd H H2 [] ∧ H2 fa = some (.tup ys) ∧ RowsD H2 ys fr ∧ fr.Sublist (rs.take j) ∧ ((innerL fr).length : Int) ≤ most ∧ madeL fr ≤ least ∧ σ = [some (.ref p), some (.int most), some (.int least), some (.ref fa), y]) ⟨fa, [], [], _, W1.tl, W1.get (.head _), trivial, List.nil_sublist _, m0, l0, rfl⟩ (fun j σ H2 _ m => let ⟨_, _, _, _, W, _⟩ := m; SqT.of (W.sm _ _ hp)) (fun j x σ H2 hj m => ?_) (fun σ H2 m => ?_)
    · obtain ⟨fa, ys, fr, y, W, hfa, hys, hsub, hl, hm, rfl⟩ := m
      obtain ⟨r, hr', hrd⟩ := hrs.at hj
      have et : rs.take (j + 1) = rs.take j ++ [r] := by rw [List.take_succ, hr']; rfl
      have sub1 : (fr ++ [r]).Sublist (rs.take (j + 1)) := by rw [et]; exact hsub.append (List.Sublist.refl _)
      have sub0 : fr.Sublist (rs.take (j + 1)) := by rw [et]; exact hsub.trans (List.sublist_append_left _ _)
      have mem1 : ∀ z ∈ fr ++ [r], z ∈ rs := fun z hz => List.mem_of_mem_take (sub1.subset hz)
      have ok1 : okL (fr ++ [r]) := okL_of fun z hz => okL_mem ok z (mem1 z hz)
      have dp1 : deepL (fr ++ [r]) < d := Nat.lt_of_le_of_lt (deepL_of fun z hz => deepL_mem (mem1 z hz)) dp
      have sz0 := innerL_le (rs := rs) (j + 1)
      rw [innerL_take hr', List.length_append] at sz0
      have sz1 : (innerL (fr ++ [r])).length ≤ 1000 := by
        rw [innerL_app, List.length_append, innerL_one]
        omega
      have lf := len_innerL fr
      have ly := hys.len
      have stop : ∀ H3, Hd H H3 [] → Same H2 H3 → ∃ fb ys fr y, Hd H H3 [] ∧ H3 fb = some (.tup ys) ∧ RowsD H3 ys fr ∧ fr.Sublist (rs.take (j + 1)) ∧ ((innerL fr).length : Int) ≤ most ∧ madeL fr ≤ least ∧ [some (V.ref p), some (V.int most), some (V.int least), some (V.ref fa), some x] = [some (.ref p), some (.int most), some (.int least), some (.ref fb), y] := fun H3 W3 s3 => ⟨fa, ys, fr, _, W3, s3 _ _ hfa, hys.tk (TK.same s3), sub0, hl, hm, rfl⟩
      have more : ∀ {H3 : Hp} {R : VK}, Hd H H3 [] → Same H2 H3 → (∀ q H4, Hd H H4 [] → Same H2 H4 → H4 q = some (.tup (ys ++ [x])) → RowsD H4 (ys ++ [x]) (fr ++ [r]) → R (.ref q) H4) → New H3 (.tup [x]) fun v H4 => rCatA K (.ref fa) v H4 R := fun {H3 R} W3 s3 kk => W3.nw fun q H4 _ _ s4 W4 => catA (s4 _ _ (s3 _ _ hfa)) (W4.get (.head _)) (szl (by show ys.length + 1 ≤ 1000000; omega)) fun q2 H5 s5 h5 => by
        have s25 := s3.trans (s4.trans s5)
        exact kk q2 H5 (W4.tl.call s5) s25 h5 ((hys.tk (TK.same s25)).app (ys := [x]) (ss := [r]) ⟨hrd.tk (W.tk.trans (TK.same s25)), trivial⟩)
      refine ⟨_, rfl, _, rfl, by show 1 ≤ 1000000; decide, more W (Same.refl _) fun q1 H3 W3 s3 h3 hr3 => ?_⟩
      refine ⟨q1, _, _, rfl, h3, hr3, dp1, d10, sz1, fun l zs H4 s4 n4 h4 hz4 => ?_⟩
      have W4 := W3.call s4
      have s24 := s3.trans s4
      refine ⟨l, zs, rfl, .inl (SqL.of h4), _, rfl, _, _, rfl, rfl, _, rfl, ?_⟩
      refine ite2 (fun c1 => ?_) (fun _ => ifF rfl (stop H4 W4 s24))
      have c1 : ((innerL (fr ++ [r])).length : Int) ≤ most := by
        have := of_decide_eq_true c1
        rw [hz4.len] at this
        exact this
      refine ⟨_, rfl, _, rfl, by show 1 ≤ 1000000; decide, more W4 s24 fun q2 H5 W5 s5 h5 hr5 => ?_⟩
      refine ⟨q2, _, _, rfl, h5, hr5, ok1, dp1, d10, by omega, fun H6 s6 => ?_⟩
      have W6 := W5.call s6
      have s26 := s5.trans s6
      refine ⟨_, rfl, _, _, rfl, rfl, _, rfl, ?_⟩
      refine ite2 (fun c2 => ?_) (fun _ => stop H6 W6 s26)
      refine ⟨_, rfl, _, rfl, by show 1 ≤ 1000000; decide, more W6 s26 fun q3 H7 W7 s7 h7 hr7 => ?_⟩
      exact ⟨q3, _, _, _, W7, h7, hr7, sub1, c1, of_decide_eq_true c2, rfl⟩
    · obtain ⟨fa, ys, fr, y, W, hfa, hys, hsub, hl, hm, rfl⟩ := m
      rw [hrs.len, List.take_length] at hsub
      exact ⟨_, rfl, k fa ys fr H2 W.sm hfa hys hsub hl hm⟩
end
section
variable {P : Program} {w : World} {K : PySem.W.Frag} {mg : Str → Option Value} {base : Heap}
theorem linner_all {fW : Addr} {dW : FuncData} (T : Txt K mg) (F : Fun K "_law_inner" "_law_inner" S__law_inner fW dW) (pk : ∀ {k : Nat} {sp : Sp}, FnOk P w K mg base CX0 k fW dW ["_law_rows_here"] sp → FnC P w K mg base CX0 k "_law_inner" ["_law_rows_here"] sp) : ∀ d : Nat, FnC P w K mg base CX0 (d + 1) "_law_inner" ["_law_rows_here"] (sp_linner d) := by
  intro d
  induction d with
  | zero => exact pk (fn_false.imp fun vs H Q E h => by
      obtain ⟨p, xs, rs, _, _, _, dp, _⟩ := h
      exact absurd dp (Nat.not_lt_zero _))
  | succ d ih => exact pk (ok_linner F T ih)
end

/-! ## drawn programs: their texts, the programs -/
namespace Pg
end Pg
open Pg
section
variable {P : Program} {w : World} {K : PySem.W.Frag} {mg : Str → Option Value} {base : Heap}
end

/-! ## rows apart by their lines -/
namespace Pg
def lvc (c d : Nat) : Int := if c = 105 ∨ c = 117 then 1 else if c = 101 ∧ d = 110 then -1 else 0
def lv (z : Str) : Int := match z.cps.toList with
  | c :: d :: _ => lvc c d
  | _ => 0
def bal : List Str → Int
  | [] => 0
  | z :: l => lv z + bal l
theorem bal_app : ∀ a b : List Str, bal (a ++ b) = bal a + bal b
  | [], b => (Int.zero_add _).symm
  | x :: a, b => by
    show lv x + bal (a ++ b) = lv x + bal a + bal b
    rw [bal_app a b]; omega
structure GoodB (l : List Str) : Prop where
  z : bal l = 0
  p : ∀ k, 0 ≤ bal (l.take k)
theorem GoodB.app {a b : List Str} (h : GoodB a) (g : GoodB b) : GoodB (a ++ b) := ⟨by rw [bal_app, h.z, g.z]; rfl, fun k => by
  rw [List.take_append, bal_app]
  have := h.p k
  have := g.p (k - a.length)
  omega⟩
structure GoodR (l : List Str) : Prop where
  n : l ≠ []
  z : bal l = 0
  p : ∀ k, 0 < k → k < l.length → 1 ≤ bal (l.take k)
theorem GoodR.b {l : List Str} (h : GoodR l) : GoodB l := ⟨h.z, fun k => by
  by_cases k0 : k = 0
  · subst k0; exact Int.le_refl 0
  · by_cases k1 : k < l.length
    · have := h.p k (by omega) k1; omega
    · rw [List.take_of_length_le (by omega), h.z]; exact Int.le_refl 0⟩
theorem one_good {z : Str} (h : lv z = 0) : GoodR [z] := ⟨by simp, by show lv z + 0 = 0; omega, fun k a b => by simp at b; omega⟩
theorem blk_good {z : Str} {l : List Str} (h : lv z = 1) (g : GoodB l) : GoodR (z :: (l ++ [("end" : Str)])) := by
  have e : lv ("end" : Str) = -1 := by decide +kernel
  refine ⟨by simp, ?_, fun k k0 k1 => ?_⟩
  · show lv z + bal (l ++ [("end" : Str)]) = 0
    rw [bal_app, g.z, h]
    show 1 + (0 + (lv ("end" : Str) + 0)) = 0
    rw [e]; rfl
  · obtain ⟨j, rfl⟩ : ∃ j, k = j + 1 := ⟨k - 1, by omega⟩
    rw [List.length_cons, List.length_append, List.length_singleton] at k1
    show 1 ≤ lv z + bal ((l ++ [("end" : Str)]).take j)
    rw [List.take_append_of_le_length (by omega), h]
    have := g.p j
    omega
theorem lv_app {a b : Str} {c d : Nat} {t : List Nat} (h : a.cps.toList = c :: d :: t) : lv (a ++ b) = lvc c d := by
  unfold lv
  rw [app_l, h]; rfl
mutual
theorem goodR : ∀ r : Rw1, GoodR r.lines
  | .make m => one_good (lv_app (a := ("make " : Str)) (c := 109) (d := 97) (t := [107, 101, 32]) (by decide +kernel))
  | .exch => one_good (by decide +kernel)
  | .lay => one_good (by decide +kernel)
  | .put n k => one_good (by rw [app_assoc, app_assoc]; exact lv_app (a := ("put " : Str)) (c := 112) (d := 117) (t := [116, 32]) (by decide +kernel))
  | .add n k => one_good (by rw [app_assoc, app_assoc]; exact lv_app (a := ("add " : Str)) (c := 97) (d := 100) (t := [100, 32]) (by decide +kernel))
  | .tell m => one_good (lv_app (a := ("tell " : Str)) (c := 116) (d := 101) (t := [108, 108, 32]) (by decide +kernel))
  | .stop => one_good (by decide +kernel)
  | .ifb t r o => by
    show GoodR ((("if " : Str) ++ t.txt) :: (linesL r ++ (elseL o (linesL o) ++ [("end" : Str)])))
    rw [← List.append_assoc]
    refine blk_good (lv_app (a := ("if " : Str)) (c := 105) (d := 102) (t := [32]) (by decide +kernel)) ((goodL r).app ?_)
    cases o with
    | nil => exact ⟨rfl, fun k => by rw [show elseL [] (linesL []) = [] from rfl, List.take_nil]; exact Int.le_refl 0⟩
    | cons x o => exact ((one_good (z := ("else" : Str)) (by decide +kernel)).b).app (goodL (x :: o))
  | .untl g r => blk_good (lv_app (a := ("until " : Str)) (c := 117) (d := 110) (t := [116, 105, 108, 32]) (by decide +kernel)) (goodL r)
theorem goodL : ∀ rs : List Rw1, GoodB (linesL rs)
  | [] => ⟨rfl, fun k => by rw [show linesL [] = [] from rfl, List.take_nil]; exact Int.le_refl 0⟩
  | r :: rs => (goodR r).b.app (goodL rs)
end
theorem good_uniq {a b x y : List Str} (h : GoodR a) (g : GoodR b) (e : a ++ x = b ++ y) : a = b ∧ x = y := by
  have key : ∀ {a b x y : List Str}, GoodR a → GoodR b → a ++ x = b ++ y → ¬ a.length < b.length := fun {a b x y} h g e l => by
    have p := g.p a.length (List.length_pos_iff.mpr h.n) l
    have t := congrArg (List.take a.length) e
    rw [List.take_append_of_le_length (Nat.le_refl _), List.take_append_of_le_length (by omega), List.take_length] at t
    rw [← t, h.z] at p
    omega
  have l : a.length = b.length := by
    have := key h g e
    have := key g h e.symm
    omega
  exact List.append_inj e l
theorem linesL_flat : ∀ rs : List Rw1, linesL rs = (rs.map fun r => r.lines).flatten
  | [] => rfl
  | r :: rs => by
    show r.lines ++ linesL rs = _
    rw [linesL_flat rs]; rfl
theorem rows_lines : ∀ rs ss : List Rw1, linesL rs = linesL ss → (rs.map fun r => r.lines) = ss.map fun r => r.lines
  | [], [], _ => rfl
  | [], s :: ss, e => absurd (List.append_eq_nil_iff.mp (show s.lines ++ linesL ss = [] from e.symm)).1 (goodR s).n
  | r :: rs, [], e => absurd (List.append_eq_nil_iff.mp (show r.lines ++ linesL rs = [] from e)).1 (goodR r).n
  | r :: rs, s :: ss, e => by
    obtain ⟨a, b⟩ := good_uniq (goodR r) (goodR s) (show r.lines ++ linesL rs = s.lines ++ linesL ss from e)
    show r.lines :: _ = s.lines :: _
    rw [a, rows_lines rs ss b]
theorem rowsE_lines (rs ss : List Rw1) : rowsE rs ss = decide (linesL rs = linesL ss) := by
  unfold rowsE
  by_cases e : linesL rs = linesL ss
  · rw [decide_eq_true e, decide_eq_true (rows_lines rs ss e)]
  · rw [decide_eq_false e, decide_eq_false fun h => e (by rw [linesL_flat, linesL_flat, h])]
/-- the names that rows use, in order -/
def usedL (rs : List Rw1) : List Str := (innerL rs).flatMap fun r => r.uses
theorem missN_used (ns : List (Str × Int)) (rs : List Rw1) : missN ns rs = ((usedL rs).filter fun z => !decide (z ∈ ns.map (·.1))).head? := by
  unfold missN usedL
  rw [List.head?_filter]
end Pg
open Pg

/-! ## how many rows a program has, a row by its number -/
namespace Pg
def sp_plen (K : PySem.W.Frag) (c : Clz) (CP : Addr) : Sp := fun vs H Q _ => ∃ (p : Addr) (ns : List (Str × Int)) (rs : List Rw1), vs = [.ref p] ∧ ProgAt K c CP H p ns rs ∧ ∀ H', Same H H' → Q (.int ((innerL rs).length : Nat)) H'
def sp_pitem (K : PySem.W.Frag) (c : Clz) (CP NR : Addr) : Sp := fun vs H Q E => ∃ (p : Addr) (a : Int) (ns : List (Str × Int)) (rs : List Rw1), vs = [.ref p, .int a] ∧ ProgAt K c CP H p ns rs ∧ (innerL rs).length ≤ 1000 ∧
  (∀ (j : Nat) (r : Rw1), a = j → (innerL rs)[j]? = some r → ∀ q H', Same H H' → RowAt K c H' q r → Q (.ref q) H') ∧ (¬ (0 ≤ a ∧ a < ((innerL rs).length : Nat)) → Rd.RefI E NR H a)
end Pg
section
variable {P : Program} {w : World} {K : PySem.W.Frag} {mg : Str → Option Value} {base : Heap}
theorem ok_plen {f CP : Addr} {fd : FuncData} {c : Clz} (F : Fun K "__len__" "Program.__len__" S_Program__len_ f fd) (T : Txt K mg) (Pt : PgT K CP) : FnOk P w K mg base CX0 2 f fd ["self"] (sp_plen K c CP) := by
  refine F.ok SC_Program__len_ (fun vs H Q E h => ?_) (fun cdv A outer s H vs Q E hr h => ?_)
  · obtain ⟨_, _, _, rfl, _⟩ := h
    rfl
  · obtain ⟨p, ns, rs, rfl, hp, k⟩ := h
    refine ⟨_, (pss_one (ps_ret (pe_callB call_len_seq (by rfl) T.b_len (by decide +kernel) (pa_cons (pe_fld (pv 0) rfl) pa_nil)))), ?_⟩
    obtain ⟨dx, _, _, u, _, fs, _, _, uvs, _, h1, h2, h3, h4, h5, h6, h7, h8, h9, ha, hb, _⟩ := id hp
    refine ⟨_, rfl, p, _, dx, fs, _, rfl, h1, Pt.ins.cl, Pt.no "numbered" (by simp), h9, u, uvs, rfl, .inr ha, ?_⟩
    rw [hb.len]
    exact k H (Same.refl _)
theorem ok_pitem {f CP NR : Addr} {fd : FuncData} {c : Clz} (F : Fun K "__getitem__" "Program.__getitem__" S_Program__getitem_ f fd) (T : Txt K mg) (Pt : PgT K CP) (M_needX : MtC P w K mg base (L2.CX P w) 4 CP "need" ["self", "at"] (sp_need K c CP NR)) : FnOk P w K mg base (L2.CX P w) 8 f fd ["self", "at"] (sp_pitem K c CP NR) := by
  refine F.okX SC_Program__getitem_ (fun vs H Q E h => ?_) (fun cdv A outer s H vs Q E hr h => ?_)
  · obtain ⟨_, _, _, _, rfl, _⟩ := h
    rfl
  · obtain ⟨p, a, ns, rs, rfl, hp, sz, k0, k1⟩ := h
    refine ⟨_, (pss_cons (ps_expr (pe_methSC M_needX Pt.ins.cl (hr.mono (by omega)) (takes_of rfl rfl rfl rfl) (pv 0) (pa_cons (pv 1) pa_nil)))
      (pss_one (ps_ret (pe_ix ix_tup (pe_fld (pv 0) rfl) (pv 1) (fun _ _ => rfl))))), ?_⟩
    obtain ⟨dx, _, _, u, _, fs, _, _, uvs, _, h1, h2, h3, h4, h5, h6, h7, h8, h9, ha, hb, _⟩ := id hp
    by_cases cb : 0 ≤ a ∧ a < ((innerL rs).length : Nat)
    rotate_left
    · exact ⟨_, rfl, p, dx, fs, rfl, h1, h2.2.1, _, rfl, p, a, ns, rs, rfl, hp, sz, fun z0 z1 => absurd ⟨z0, z1⟩ cb, fun _ => k1 cb⟩
    obtain ⟨c0, c1⟩ := cb
    obtain ⟨j, rfl⟩ : ∃ j : Nat, a = j := ⟨a.toNat, by omega⟩
    have lj : j < (innerL rs).length := by omega
    have lu := hb.len
    refine ⟨_, rfl, p, dx, fs, rfl, h1, h2.2.1, _, rfl, p, j, ns, rs, rfl, hp, sz, fun _ _ H1 s1 => ?_, fun z => absurd ⟨c0, c1⟩ z⟩
    have ej : uvs[j]? = some uvs[j] := List.getElem?_eq_getElem (by omega)
    obtain ⟨q, r, e, hr', hq⟩ := hb.at ej
    rw [e] at ej
    refine ⟨_, rfl, p, _, dx, fs, _, rfl, s1 _ _ h1, Pt.ins.cl, Pt.no "numbered" (by simp), h9, _, rfl, u, uvs, (j : Int), .ref q, rfl, rfl, sqT_tk (TK.same s1) ha, at_of (j := j) rfl ej, ?_⟩
    exact k0 j r rfl hr' q H1 s1 (hq.tk (TK.same s1))
end

/-! ## the law's own: names used, what is told -/
namespace Pg
/-- the test of a row, or the empty tuple -/
def TO (H : Hp) (v : V) : Option Tst → Prop
  | none => ∃ e, v = .ref e ∧ H e = some (.tup [])
  | some t => TstD H v t ∧ t.Ok ∧ t.deep ≤ 2
def oD : Option Tst → PyData
  | none => .tuple []
  | some t => t.d
def oU : Option Tst → List Str
  | none => []
  | some t => t.uses
def oN : Option Tst → Nat
  | none => 0
  | some t => t.deep
theorem TO.tk {H H' : Hp} (s : TK H H') {v : V} : ∀ {o : Option Tst}, TO H v o → TO H' v o
  | none, ⟨e, a, h⟩ => ⟨e, a, s _ _ rfl h⟩
  | some _, ⟨h, ok⟩ => ⟨h.tk s, ok⟩
theorem TO.dp {K : PySem.W.Frag} {H : Hp} {v : V} : ∀ {o : Option Tst}, TO H v o → Dp K H v (oD o)
  | none, ⟨e, a, h⟩ => by subst a; exact .tup (SqT.of h) .nil
  | some _, ⟨h, _⟩ => h.dp
theorem TO.sh {H : Hp} {v : V} : ∀ {o : Option Tst}, TO H v o → SeqAt.shaped (oD o) = true
  | none, _ => rfl
  | some t, ⟨_, ok, d⟩ => by
    have a := tst_can ok
    have b := tst_dep t
    show (PyData.canLay0 t.d && decide (PyData.depth t.d ≤ 64)) = true
    rw [a, decide_eq_true (by omega)]; rfl
theorem tstD_ne (t : Tst) : PyData.eqv t.d (.tuple []) = false := by cases t <;> rfl
theorem TstD.hd {H : Hp} : ∀ {t : Tst} {v : V}, TstD H v t → ∃ q as, v = .ref q ∧ H q = some (.tup (.str t.sort :: as))
  | .holds _ _, _, ⟨q, e, h⟩ => ⟨q, _, e, h⟩
  | .not _, _, ⟨q, _, e, h, _⟩ => ⟨q, _, e, h⟩
  | .longer, _, ⟨q, e, h⟩ => ⟨q, _, e, h⟩
  | .shorter, _, ⟨q, e, h⟩ => ⟨q, _, e, h⟩
  | .alike, _, ⟨q, e, h⟩ => ⟨q, _, e, h⟩
def useT : Rw1 → List Str
  | .ifb t _ _ => t.uses
  | _ => []
def useP : Rw1 → List Str
  | .put n _ => [n]
  | .add n _ => [n]
  | _ => []
theorem use_eq (r : Rw1) : r.uses = useP r ++ useT r := by cases r <;> rfl
theorem tuses_len : ∀ t : Tst, t.uses.length ≤ 1
  | .holds _ _ => Nat.le_refl _
  | .not t => tuses_len t
  | .longer => Nat.zero_le _
  | .shorter => Nat.zero_le _
  | .alike => Nat.zero_le _
theorem uses_len (r : Rw1) : r.uses.length ≤ 1 := by
  cases r with
  | ifb t a o => exact tuses_len t
  | _ => first | exact Nat.le_refl _ | exact Nat.zero_le _
abbrev fU (l : List Rw1) : List Str := l.flatMap fun r => r.uses
theorem fU_len : ∀ l : List Rw1, (fU l).length ≤ l.length
  | [] => Nat.le_refl _
  | r :: l => by
    have := fU_len l
    have := uses_len r
    show (r.uses ++ fU l).length ≤ l.length + 1
    rw [List.length_append]
    omega
theorem fU_take {l : List Rw1} {j : Nat} {r : Rw1} (h : l[j]? = some r) : fU (l.take (j + 1)) = fU (l.take j) ++ (useP r ++ useT r) := by
  rw [← use_eq, List.take_succ, h]
  show List.flatMap _ (_ ++ [r]) = _
  rw [List.flatMap_append, List.flatMap_cons, List.flatMap_nil, List.append_nil]
theorem noteD_sh {m : Str × Int} (nk : nameOk m.1 = true) (h0 : 2 ≤ m.2) (h1 : m.2 ≤ 4) : Shw (noteD m) 1 1100 := by
  have a : Shw (.str m.1) 0 10 := Shw.str (by
    refine List.all_eq_true.mpr fun c hc => decide_eq_true ?_
    have := name_low nk c hc
    omega) (by have := name_len nk; omega)
  have b : Shw (.int m.2) 0 1001 := Shw.int (by
    have : m.2 = 2 ∨ m.2 = 3 ∨ m.2 = 4 := by omega
    exact Nat.lt_of_le_of_lt (show m.2.natAbs ≤ 4 by omega) (Nat.lt_of_lt_of_le (show 4 < 2 ^ 10 by decide) (Nat.pow_le_pow_right (by decide) (by decide))))
  have := Shw.tup (ShwL.cons a (ShwL.cons b ShwL.nil))
  exact ⟨this.a, this.b, this.c, this.l, Nat.le_trans this.w (by decide)⟩
theorem notes_shw : ∀ {ns : List (Str × Int)}, (∀ m ∈ ns, nameOk m.1 = true ∧ 2 ≤ m.2 ∧ m.2 ≤ 4) → ShwL (ns.map noteD) 1 (1101 * ns.length)
  | [], _ => ⟨rfl, rfl, Nat.zero_le _, rfl, Nat.le_refl _⟩
  | m :: ns, h => by
    have a := h m (.head _)
    have := ShwL.cons (noteD_sh a.1 a.2.1 a.2.2) (notes_shw (ns := ns) fun x hx => h x (.tail _ hx))
    exact ⟨this.a, this.b, this.c, this.l, Nat.le_trans this.w (by rw [List.length_cons]; omega)⟩
theorem sqT_ty {K : PySem.W.Frag} {H : Hp} {a : Addr} {xs : List V} (h : SqT K H a xs) : TyX K H (.ref a) (.type "tuple") := by
  rcases h with (h | ⟨o, h⟩) | ⟨o, its, n, h, c, _⟩
  · exact .base (.tup h)
  · exact .fTuple h
  · exact .kTuple h c
theorem sIx1 (n : Nat) : HT.sIx n n (some 1) = min 1 n := HT.sIx_nat n n 1
theorem slA1 {K : PySem.W.Frag} {H : Hp} {a : Addr} {xs : List V} {R : VK} (h : H a = some (.tup xs)) (k : ∀ p H', Same H H' → H' p = some (.tup (xs.take 1)) → R (.ref p) H') : rSlA K (.ref a) none (some 1) H R := by
  have e0 : HT.sIx xs.length 0 none = 0 := rfl
  refine ⟨a, xs, rfl, SqT.of h, fun ⟨_, e⟩ => ?_, fun _ p hp => ?_⟩
  · refine k a H (Same.refl _) ?_
    rw [sIx1] at e
    rw [List.take_of_length_le (by omega)]
    exact h
  · refine k p _ (sm_new hp) ?_
    rw [upd_same]
    show some (HO.tup (List.take (HT.sIx xs.length xs.length (some 1) - HT.sIx xs.length 0 none) (List.drop (HT.sIx xs.length 0 none) xs))) = _
    rw [e0, sIx1, List.drop_zero, Nat.sub_zero]
    by_cases c : 1 ≤ xs.length
    · rw [Nat.min_eq_left c]
    · have : xs = [] := List.eq_nil_of_length_eq_zero (by omega)
      subst this
      rfl
theorem rowsAt_app {K : PySem.W.Frag} {c : Clz} {H : Hp} : ∀ {xs ys : List V} {rs ss : List Rw1}, RowsAt K c H xs rs → RowsAt K c H ys ss → RowsAt K c H (xs ++ ys) (rs ++ ss)
  | [], _, [], _, _, h => h
  | _ :: _, _, _ :: _, _, ⟨a, t⟩, h => ⟨a, rowsAt_app t h⟩
def sp_used : Sp := fun vs H Q _ => ∃ (p : Addr) (xs : List V) (rs : List Rw1), vs = [.ref p] ∧ H p = some (.tup xs) ∧ RowsD H xs rs ∧ okL rs ∧ deepL rs < 6 ∧ (innerL rs).length ≤ 1000 ∧ ∀ l H', Same H H' → H l = none → H' l = some (.lst ((usedL rs).map V.str)) → Q (.ref l) H'
def sp_told (K : PySem.W.Frag) (c : Clz) (CP : Addr) : Sp := fun vs H Q _ => ∃ (x a p : Addr) (ws xs : List V) (ns : List (Str × Int)) (rs : List Rw1), vs = [.ref x, .ref a, .ref p] ∧ ProgAt K c CP H x ns rs ∧ H a = some (.lst ws) ∧ NotesAt H ws ns ∧ NotesOk ns ∧ ns.length ≤ 2 ∧ H p = some (.tup xs) ∧ RowsD H xs rs ∧ okL rs ∧ deepL rs ≤ 4 ∧ (innerL rs).length ≤ 30 ∧ ∀ H', Same H H' → Q (.bl true) H'
def sp_twice (K : PySem.W.Frag) : Sp := fun vs H Q _ => ∃ (a p : Addr) (ws xs : List V) (ns : List (Str × Int)) (rs : List Rw1), vs = [.ref a, .ref p] ∧ H a = some (.lst ws) ∧ NotesAt H ws ns ∧ NotesOk ns ∧ ns.length ≤ 2 ∧ H p = some (.tup xs) ∧ RowsD H xs rs ∧ okL rs ∧ UsesOk ns rs ∧ deepL rs ≤ 2 ∧ (innerL rs).length ≤ 30 ∧ ∀ H', Same H H' → Q (.bl true) H'
/-- the text of a row -/
def rt (r : Rw1) : Str := Txt.join ("\n" : Str) r.lines
theorem memJ {s : List Nat} {c : Nat} : ∀ {ps : List (List Nat)}, c ∈ TL.joinL s ps → c ∈ s ∨ ∃ p ∈ ps, c ∈ p
  | [], h => by cases h
  | [p], h => .inr ⟨p, .head _, h⟩
  | p :: q :: r, h => by
    have h : c ∈ p ++ (s ++ TL.joinL s (q :: r)) := h
    rcases List.mem_append.mp h with h | h
    · exact .inr ⟨p, .head _, h⟩
    · rcases List.mem_append.mp h with h | h
      · exact .inl h
      · rcases memJ h with h | ⟨z, hz, hc⟩
        · exact .inl h
        · exact .inr ⟨z, .tail _ hz, hc⟩
theorem rt_ok {r : Rw1} (ok : r.Ok) : PyData.strOk (rt r) = true := okLet fun c hc => by
  have hc : c ∈ TL.tl (Txt.join ("\n" : Str) r.lines) := hc
  rw [TL.join_eq, TL.tl_join] at hc
  rcases memJ hc with hc | ⟨p, hp, hc⟩
  · rw [show TL.tl ("\n" : Str) = [10] by decide +kernel] at hc
    rw [List.mem_singleton.mp hc]; decide
  · obtain ⟨z, hz, rfl⟩ := List.mem_map.mp hp
    exact low_linesL (rs := [r]) ⟨ok, trivial⟩ z (by rw [show linesL [r] = r.lines ++ [] from rfl, List.append_nil]; exact hz) c hc
theorem rts_ok {rs : List Rw1} (ok : ∀ r ∈ rs, r.Ok) : ∀ z ∈ rs.map rt, PyData.strOk z = true := fun z hz => by
  obtain ⟨r, hr, rfl⟩ := List.mem_map.mp hz
  exact rt_ok (ok r hr)
theorem shLs {xs : List Str} (h : ∀ x ∈ xs, PyData.strOk x = true) : SeqAt.shaped (.list (xs.map PyData.str)) = true := by
  show (PyData.canLayAll0 (xs.map PyData.str) && decide (PyData.depthAll (xs.map PyData.str) + 1 ≤ 64)) = true
  have e := depSs xs
  rw [canSs h, decide_eq_true (show PyData.depthAll (xs.map PyData.str) + 1 ≤ 64 by omega)]; rfl
theorem eqvLs (xs : List Str) : PyData.eqv (.list (xs.map PyData.str)) (.list (xs.map PyData.str)) = true := by
  show PyData.eqvAll (xs.map PyData.str) (xs.map PyData.str) = true
  rw [eqvSs, decide_eq_true rfl]
theorem rt_take {l : List Rw1} {j : Nat} {r : Rw1} (h : l[j]? = some r) : ((l.take (j + 1)).map rt).map V.str = ((l.take j).map rt).map V.str ++ [V.str (rt r)] := by
  rw [List.take_succ, h, List.map_append, List.map_append]; rfl
mutual
theorem innerR_deep : ∀ {r x : Rw1}, x ∈ r.inner → x.deep ≤ r.deep ∧ x.inner.length ≤ r.inner.length
  | .ifb t a o, x, hx => by
    show x.deep ≤ max (deepL a) (deepL o) + 1 ∧ x.inner.length ≤ (innerL a ++ innerL o).length + 1
    rw [List.length_append]
    rcases List.mem_cons.mp (show x ∈ Rw1.ifb t a o :: (innerL a ++ innerL o) from hx) with rfl | hx
    · refine ⟨Nat.le_refl _, ?_⟩
      show (innerL a ++ innerL o).length + 1 ≤ _
      rw [List.length_append]; omega
    · rcases List.mem_append.mp hx with hx | hx
      · have := innerL_deep hx
        omega
      · have := innerL_deep hx
        omega
  | .untl g a, x, hx => by
    show x.deep ≤ deepL a + 1 ∧ x.inner.length ≤ (innerL a).length + 1
    rcases List.mem_cons.mp (show x ∈ Rw1.untl g a :: innerL a from hx) with rfl | hx
    · exact ⟨Nat.le_refl _, Nat.le_refl _⟩
    · have := innerL_deep hx
      omega
  | .make m, x, hx => by rw [List.mem_singleton.mp (show x ∈ [Rw1.make m] from hx)]; exact ⟨Nat.le_refl _, Nat.le_refl _⟩
  | .exch, x, hx => by rw [List.mem_singleton.mp (show x ∈ [Rw1.exch] from hx)]; exact ⟨Nat.le_refl _, Nat.le_refl _⟩
  | .lay, x, hx => by rw [List.mem_singleton.mp (show x ∈ [Rw1.lay] from hx)]; exact ⟨Nat.le_refl _, Nat.le_refl _⟩
  | .stop, x, hx => by rw [List.mem_singleton.mp (show x ∈ [Rw1.stop] from hx)]; exact ⟨Nat.le_refl _, Nat.le_refl _⟩
  | .put n k, x, hx => by rw [List.mem_singleton.mp (show x ∈ [Rw1.put n k] from hx)]; exact ⟨Nat.le_refl _, Nat.le_refl _⟩
  | .add n k, x, hx => by rw [List.mem_singleton.mp (show x ∈ [Rw1.add n k] from hx)]; exact ⟨Nat.le_refl _, Nat.le_refl _⟩
  | .tell m, x, hx => by rw [List.mem_singleton.mp (show x ∈ [Rw1.tell m] from hx)]; exact ⟨Nat.le_refl _, Nat.le_refl _⟩
theorem innerL_deep : ∀ {rs : List Rw1} {x : Rw1}, x ∈ innerL rs → x.deep ≤ deepL rs ∧ x.inner.length ≤ (innerL rs).length
  | [], _, hx => nomatch hx
  | r :: rs, x, hx => by
    show x.deep ≤ max r.deep (deepL rs) ∧ x.inner.length ≤ (r.inner ++ innerL rs).length
    rw [List.length_append]
    rcases List.mem_append.mp (show x ∈ r.inner ++ innerL rs from hx) with hx | hx
    · have := innerR_deep hx
      omega
    · have := innerL_deep hx
      omega
end
theorem inner_deep {rs : List Rw1} {x : Rw1} (h : x ∈ innerL rs) : x.deep ≤ deepL rs := (innerL_deep h).1
theorem inner_len {rs : List Rw1} {x : Rw1} (h : x ∈ innerL rs) : x.inner.length ≤ (innerL rs).length := (innerL_deep h).2
/-- what of the text rows' str is read -/
structure Hq (P : Program) (w : World) (K : PySem.W.Frag) (mg : Str → Option Value) (base : Heap) (c : Clz) : Prop where
  str : ∀ r : Rw1, MtC P w K mg base CX0 1 (r.cls c) "__str__" ["self"] (sp_pstr K)
end Pg
section
variable {P : Program} {w : World} {K : PySem.W.Frag} {mg : Str → Option Value} {base : Heap}
theorem ok_used {f : Addr} {fd : FuncData} (F : Fun K "_law_used" "_law_used" S__law_used f fd) (T : Txt K mg) (C_linner : FnC P w K mg base CX0 7 "_law_inner" ["_law_rows_here"] (sp_linner 6)) : FnOk P w K mg base CX0 8 f fd ["_law_rows_here"] sp_used := by
  refine F.ok SC__law_used (fun vs H Q E h => ?_) (fun cdv A outer s H vs Q E hr h => ?_)
  · obtain ⟨_, _, _, rfl, _⟩ := h
    rfl
  · obtain ⟨p, xs, rs, rfl, hp, hrs, ok, dp, sz, k⟩ := h
    refine ⟨_, (pss_cons (ps_set (i := 1) SC__law_used.nd rfl (.inl rfl) (pe_lstN pa_nil))
      (pss_cons (ps_for PassesOwn.never rfl (pi_list (pe_callC C_linner (hr.mono (by omega)) rfl (pa_cons (pv 0) pa_nil))) (pg_name (i := 2) SC__law_used.nd rfl (.inl rfl)) (pss_mid (ps_set (i := 3) SC__law_used.nd rfl (.inl rfl) (pe_ifExp (pt_cmpR op_eq (pe_ix ix_tup (pv 2) pe_int (fun _ _ => rfl)) pe_str (nomark _)) (pe_ix ix_tup (pv 2) pe_int (fun _ _ => rfl)) (pe_tupN pa_nil)))
      (pss_mid (ps_while PassesOwn.never (PW.pt (pw_and (pt_cmpR (op_neD hr.units) (pv 3) (pe_tupN pa_nil) (nomark _)) (pw_and1 (pt_cmpR op_eq (pe_ix ix_tup (pv 3) pe_int (fun _ _ => rfl)) pe_str (nomark _))))) (pss_one (ps_set (i := 3) SC__law_used.nd rfl (.inl rfl) (pe_ix ix_tup (pv 3) pe_int (fun _ _ => rfl)))))
      (pss_mid (ps_if (pt_cmpR op_in_seq (pe_ix ix_tup (pv 2) pe_int (fun _ _ => rfl)) (pe_tupN (pa_cons pe_str (pa_cons pe_str pa_nil))) (by rfl)) (pss_one (ps_expr (pe_bm PySem.F.plainAttrs_list PySem.F.slot_list_append PySem.F.type_list_append mt_append (pv 1) (pa_cons (pe_ix ix_tup (pv 2) pe_int (fun _ _ => rfl)) pa_nil)))) pss_nil)
      (pss_one (ps_if (PW.pt (pw_and (pt_cmpR (op_neD hr.units) (pv 3) (pe_tupN pa_nil) (nomark _)) (pw_and1 (pt_cmpR op_eq (pe_ix ix_tup (pv 3) pe_int (fun _ _ => rfl)) pe_str (nomark _))))) (pss_one (ps_expr (pe_bm PySem.F.plainAttrs_list PySem.F.slot_list_append PySem.F.type_list_append mt_append (pv 1) (pa_cons (pe_ix ix_tup (pv 3) pe_int (fun _ _ => rfl)) pa_nil)))) pss_nil))))))
      (pss_one (ps_ret (pv 1))))), ?_⟩
    refine ⟨Nat.zero_le _, fun l H1 n1 s1 h1 => ?_⟩
    refine ⟨_, rfl, p, xs, rs, rfl, s1 _ _ hp, hrs.tk (TK.same s1), dp, by decide, sz, fun m ys H2 s2 n2 h2 hys => ⟨m, rfl, ⟨ys, SqL.of h2⟩, ?_⟩⟩
    have lys := hys.len
    have okI := inner_ok ok
    refine for_list (xs := ys) (fun j σ H' => ∃ y2 y3, Hd H H' [(m, .lst ys), (l, .lst ((fU ((innerL rs).take j)).map V.str))] ∧ TK H2 H' ∧ σ = [some (.ref p), some (.ref l), y2, y3]) ⟨_, _, ((Hd.start H).got n1 s1 h1).got n2 s2 h2, TK.same (Same.refl _), rfl⟩ (fun j σ H' _ m => let ⟨_, _, W, _⟩ := m; SqL.of (W.get (.head _))) (fun j v σ H3 hj m => ?_) (fun σ H3 m => ?_)
    · obtain ⟨y2, y3, W, t3, rfl⟩ := m
      obtain ⟨r, hr', hrd⟩ := hys.at hj
      have e1 := fU_take hr'
      have lj := (List.getElem?_eq_some_iff.mp hr').1
      have okr := okI r (List.mem_of_getElem? hr')
      obtain ⟨p', as, rfl, hp'⟩ := (hrd.tk t3).hd
      have lz := fU_len ((innerL rs).take j)
      rw [List.length_take] at lz
      have lz1 := fU_len ((innerL rs).take (j + 1))
      rw [e1, List.length_append, List.length_append, List.length_take] at lz1
      refine ⟨fun σ H' => ∃ (v : V) (o : Option Tst), Hd H H' [(m, .lst ys), (l, .lst ((fU ((innerL rs).take j)).map V.str))] ∧ TK H2 H' ∧ TO H' v o ∧ oU o = useT r ∧ σ = [some (.ref p), some (.ref l), some (.ref p'), some v], ?_, fun σ H4 m4 => ?_⟩
      · refine ⟨_, rfl, p', _, 0, _, rfl, rfl, SqT.of hp', at_of (j := 0) rfl rfl, rfl, _, rfl, ?_⟩
        cases r with
        | ifb t b o =>
          refine ifT (by kernel_rfl) ?_
          obtain ⟨p2, u', qa, qb, xs', ys', e, hp2, ht, ha, hra, hb, hrb⟩ := hrd.tk t3
          cases e
          exact ⟨_, rfl, p', _, 1, u', rfl, rfl, SqT.of hp2, rfl, u', some t, W, t3, ⟨ht, okr.1, okr.2.1⟩, rfl, rfl⟩
        | _ =>
          refine ifF (by kernel_rfl) ?_
          exact ⟨Nat.zero_le _, W.nw fun e H5 _ _ s5 W5 => ⟨.ref e, none, W5.tl, t3.trans (TK.same s5), ⟨e, rfl, W5.get (.head _)⟩, rfl, rfl⟩⟩
      obtain ⟨v, o, W4, t4, ho, eo, rfl⟩ := m4
      have hrd4 := hrd.tk t4
      refine ⟨fun σ H' => ∃ (v : V) (o : Option Tst), Hd H H' [(m, .lst ys), (l, .lst ((fU ((innerL rs).take j)).map V.str))] ∧ TK H2 H' ∧ TO H' v o ∧ oU o = useT r ∧ (∀ t, o ≠ some (.not t)) ∧ σ = [some (.ref p), some (.ref l), some (.ref p'), some v], ?_, fun σ H5 m5 => ?_⟩
      · refine ⟨fun n σ H' => ∃ (v : V) (o : Option Tst), n = oN o ∧ Hd H H' [(m, .lst ys), (l, .lst ((fU ((innerL rs).take j)).map V.str))] ∧ TK H2 H' ∧ TO H' v o ∧ oU o = useT r ∧ σ = [some (.ref p), some (.ref l), some (.ref p'), some v], ⟨_, v, o, rfl, W4, t4, ho, eo, rfl⟩, fun n σ H6 w => ?_⟩
        obtain ⟨v, o, rfl, W6, t6, ho6, eo6, rfl⟩ := w
        refine ⟨_, rfl, Nat.zero_le _, W6.nw fun e H7 _ _ s7 W7 => ?_⟩
        have ho7 := ho6.tk (TK.same s7)
        have t7 := t6.trans (TK.same s7)
        refine ⟨_, _, ho7.dp, .tup (SqT.of (W7.get (.head _))) .nil, ho7.sh, rfl, _, rfl, ?_⟩
        cases o with
        | none => exact ifF rfl (ifF rfl ⟨v, none, W7.tl, t7, ho7, eo6, nofun, rfl⟩)
        | some t =>
          refine ifT (by show (!PyData.eqv t.d (.tuple [])) = true; rw [tstD_ne]; rfl) ?_
          obtain ⟨ht7, okt, dt⟩ := ho7
          obtain ⟨q, as', rfl, hq⟩ := ht7.hd
          refine ⟨_, rfl, q, _, 0, _, rfl, rfl, SqT.of hq, at_of (j := 0) rfl rfl, rfl, _, rfl, ?_⟩
          cases t with
          | not t =>
            refine ifT (by kernel_rfl) ⟨_, fun σ' H' z => z, ?_⟩
            obtain ⟨q2, u, e2, hq2, hu⟩ := ht7
            cases e2
            refine ⟨_, rfl, q, _, 1, u, rfl, rfl, SqT.of hq2, rfl, ?_⟩
            exact ⟨oN (some t), Nat.lt_succ_self _, u, some t, rfl, W7.tl, t7, ⟨hu, okt, by have : t.deep + 1 ≤ 2 := dt; omega⟩, eo6, rfl⟩
          | _ => exact ifF (by kernel_rfl) ⟨_, some _, W7.tl, t7, ⟨ht7, okt, dt⟩, eo6, nofun, rfl⟩
      obtain ⟨v, o, W5, t5, ho5, eo5, nn, rfl⟩ := m5
      have hrd5 := hrd.tk t5
      obtain ⟨p6, as6, e6, hp6⟩ := hrd5.hd
      cases e6
      refine ⟨fun σ H' => Hd H H' [(m, .lst ys), (l, .lst ((fU ((innerL rs).take j) ++ useP r).map V.str))] ∧ TK H2 H' ∧ TO H' v o ∧ σ = [some (.ref p), some (.ref l), some (.ref p'), some v], ?_, fun σ H7 m7 => ?_⟩
      · refine ⟨_, rfl, p', _, 0, _, rfl, rfl, SqT.of hp6, at_of (j := 0) rfl rfl, by show 2 ≤ 1000000; decide, W5.nw fun q H6 _ _ s6 W6 => ?_⟩
        have t6 := t5.trans (TK.same s6)
        refine ⟨q, _, rfl, .inr (SqT.of (W6.get (.head _))), rfl, rfl, _, rfl, ?_⟩
        have put : ∀ (q' : Addr) (n : Str) (as : List V), H6 q' = some (.tup (as)) → Hd H (upd H6 l (.lst ((fU ((innerL rs).take j)).map V.str ++ [V.str n]))) [(m, .lst ys), (l, .lst ((fU ((innerL rs).take j)).map V.str ++ [V.str n]))] ∧ TK H2 (upd H6 l (.lst ((fU ((innerL rs).take j)).map V.str ++ [V.str n]))) := fun q' n as _ => ⟨(W6.set 2 rfl (.lst ((fU ((innerL rs).take j)).map V.str ++ [V.str n]))).tl, t6.trans (TK.upd (o := .lst ((fU ((innerL rs).take j)).map V.str ++ [V.str n])) (W6.get (.tail _ (.tail _ (.head _)))) rfl)⟩
        have hrd6 := hrd5.tk (TK.same s6)
        have nul : useP r = [] → Hd H H6 [(m, .lst ys), (l, .lst ((fU ((innerL rs).take j) ++ useP r).map V.str))] ∧ TK H2 H6 ∧ TO H6 v o ∧ [some (V.ref p), some (V.ref l), some (V.ref p'), some v] = [some (.ref p), some (.ref l), some (.ref p'), some v] := fun e => by
          rw [e, List.append_nil]
          exact ⟨W6.tl, t6, ho5.tk (TK.same s6), rfl⟩
        cases r with
        | put n i =>
          obtain ⟨p2, e, hp2⟩ := hrd6
          cases e
          refine ifT (by kernel_rfl) ⟨_, rfl, .inl ⟨rfl, _, SqL.of (W6.get (.tail _ (.tail _ (.head _))))⟩, _, rfl, p', _, 1, .str n, rfl, rfl, SqT.of hp2, rfl, l, _, _, rfl, rfl, W6.get (.tail _ (.tail _ (.head _))), ?_, ?_⟩
          · rw [List.length_map]; exact szs (by omega)
          · obtain ⟨a, b⟩ := put p' n _ hp2
            refine ⟨?_, b, (ho5.tk (TK.same s6)).tk (TK.upd (W6.get (.tail _ (.tail _ (.head _)))) rfl), rfl⟩
            rw [List.map_append]
            exact a
        | add n i =>
          obtain ⟨p2, e, hp2⟩ := hrd6
          cases e
          refine ifT (by kernel_rfl) ⟨_, rfl, .inl ⟨rfl, _, SqL.of (W6.get (.tail _ (.tail _ (.head _))))⟩, _, rfl, p', _, 1, .str n, rfl, rfl, SqT.of hp2, rfl, l, _, _, rfl, rfl, W6.get (.tail _ (.tail _ (.head _))), ?_, ?_⟩
          · rw [List.length_map]; exact szs (by omega)
          · obtain ⟨a, b⟩ := put p' n _ hp2
            refine ⟨?_, b, (ho5.tk (TK.same s6)).tk (TK.upd (W6.get (.tail _ (.tail _ (.head _)))) rfl), rfl⟩
            rw [List.map_append]
            exact a
        | _ => exact ifF (by kernel_rfl) (nul rfl)
      obtain ⟨W7, t7, ho7, rfl⟩ := m7
      have lz2 : (fU ((innerL rs).take j) ++ useP r).length ≤ j + 1 := by rw [List.length_append]; omega
      generalize hA : fU ((innerL rs).take j) ++ useP r = A at *
      refine ⟨_, rfl, Nat.zero_le _, W7.nw fun e H8 _ _ s8 W8 => ?_⟩
      have ho8 := ho7.tk (TK.same s8)
      have t8 := t7.trans (TK.same s8)
      refine ⟨_, _, ho8.dp, .tup (SqT.of (W8.get (.head _))) .nil, ho8.sh, rfl, _, rfl, ?_⟩
      rw [e1, ← List.append_assoc, hA, ← eo5]
      cases o with
      | none =>
        refine ifF rfl (ifF rfl ⟨_, _, ?_, t8, rfl⟩)
        rw [show oU none = [] from rfl, List.append_nil]
        exact W8.tl
      | some t =>
        refine ifT (by show (!PyData.eqv t.d (.tuple [])) = true; rw [tstD_ne]; rfl) ?_
        obtain ⟨ht8, okt, dt⟩ := ho8
        obtain ⟨q, as', rfl, hq⟩ := ht8.hd
        refine ⟨_, rfl, q, _, 0, _, rfl, rfl, SqT.of hq, at_of (j := 0) rfl rfl, rfl, _, rfl, ?_⟩
        cases t with
        | holds n i =>
          obtain ⟨q2, e2, hq2⟩ := ht8
          cases e2
          refine ifT (by kernel_rfl) ⟨_, rfl, .inl ⟨rfl, _, SqL.of (W8.get (.tail _ (.tail _ (.head _))))⟩, _, rfl, q, _, 1, .str n, rfl, rfl, SqT.of hq2, rfl, l, _, _, rfl, rfl, W8.get (.tail _ (.tail _ (.head _))), ?_, ?_⟩
          · rw [List.length_map]; exact szs (by omega)
          · refine ⟨_, _, ?_, t8.trans (TK.upd (W8.get (.tail _ (.tail _ (.head _)))) rfl), rfl⟩
            rw [List.map_append]
            exact (W8.set 2 rfl _).tl
        | not t => exact absurd rfl (nn t)
        | _ =>
          refine ifF (by kernel_rfl) ⟨_, _, ?_, t8, rfl⟩
          rw [show oU (some _) = [] from rfl, List.append_nil]
          exact W8.tl
    · obtain ⟨y2, y3, W, t3, rfl⟩ := m
      rw [lys, List.take_length] at W
      exact ⟨_, rfl, k l H3 W.sm n1 (W.get (.tail _ (.head _)))⟩
theorem ok_told {f CP NR : Addr} {fd : FuncData} {c : Clz} (F : Fun K "_law_told_right" "_law_told_right" S__law_told_right f fd) (T : Txt K mg) (Pt : PgT K CP) (IXP : IxC K CP) (Hc : Hi K mg c) (Hq : Hq P w K mg base c) (M_plen : MtC P w K mg base CX0 2 CP "__len__" ["self"] (sp_plen K c CP)) (M_pitem : MtC P w K mg base CX0 8 CP "__getitem__" ["self", "at"] (calm (sp_pitem K c CP NR))) (C_linner : FnC P w K mg base CX0 7 "_law_inner" ["_law_rows_here"] (sp_linner 6)) (C_dlines : FnC P w K mg base CX0 11 "_law_lines" ["_law_rows_here"] (sp_dlines 6)) : FnOkG P w K mg base CX0 13 f fd ["_law_program_here", "_law_notes", "_law_rows_here"] (sp_told K c CP) := by
  refine okG F SC__law_told_right (fun vs H Q E h => ?_) (fun cdv A outer s H vs Q E hgd hr h => ?_)
  · obtain ⟨_, _, _, _, _, _, _, rfl, _⟩ := h
    rfl
  · obtain ⟨x, a, p, ws, xs, ns, rs, rfl, hx, ha, hns, nok, ln, hp, hrs, ok, dp, sz, k⟩ := h
    refine ⟨_, (pss_cons (ps_set (i := 3) SC__law_told_right.nd rfl (.inl rfl) (pe_callC C_linner (hr.mono (by omega)) rfl (pa_cons (pv 2) pa_nil)))
      (pss_cons (ps_if (PW.pt (pw_or (pt_cmpR op_ne (pe_callB (call_reprW hgd hr) (by rfl) T.b_repr (by decide +kernel) (pa_cons (pe_fld (pv 0) rfl) pa_nil)) (pe_callB (call_reprW hgd hr) (by rfl) T.b_repr (by decide +kernel) (pa_cons (pe_callTy call_tuple_of (by rfl) T.b_tuple (by decide +kernel) (pa_cons (pv 1) pa_nil)) pa_nil)) (nomark _)) (pw_or (pt_not (pt_val (pe_callB call_isi (by rfl) T.b_isinstance (by decide +kernel) (pa_cons (pe_fld (pv 0) rfl) (pa_cons (pe_bltn (v := .ty "tuple") (by rfl) T.b_tuple boot_tuple rfl) pa_nil))))) (pw_or1 (pt_cmpR op_ne (pe_callB (call_lenC M_plen (hr.mono (by omega))) (by rfl) T.b_len (by decide +kernel) (pa_cons (pv 0) pa_nil)) (pe_callB call_len_seq (by rfl) T.b_len (by decide +kernel) (pa_cons (pv 3) pa_nil)) (nomark _)))))) (pss_one (ps_ret pe_bl)) pss_nil)
      (pss_cons (ps_if (pt_cmpR (op_neD hr.units) (pe_lc (own := [("_law_row_here", 4)]) (g := gName 4) (by rfl) SC__law_told_right.nd (pi_tup (pe_fld (pv 0) rfl)) (blkOk_by (own := [("_law_row_here", 4)]) (N := N__law_told_right) (sc := defScope S__law_told_right) (by decide +kernel)) (fun _ _ _ _ _ => pg_name (i := 4) SC__law_told_right.nd rfl (Or.inl rfl)) (fun _ _ _ _ _ => pts_nil) (fun _ _ _ _ _ => (pe_ex (fun (u : Rw1) (_ : True) => pe_callTy (call_strC (Hq.str u) (hr.mono (by omega))) (by rfl) T.b_str (by decide +kernel) (pa_cons (pv 4) pa_nil))))) (pe_lc (own := [("_law_row_here", 4)]) (g := gName 4) (by rfl) SC__law_told_right.nd (pi_tup (pv 2)) (blkOk_by (own := [("_law_row_here", 4)]) (N := N__law_told_right) (sc := defScope S__law_told_right) (by decide +kernel)) (fun _ _ _ _ _ => pg_name (i := 4) SC__law_told_right.nd rfl (Or.inl rfl)) (fun _ _ _ _ _ => pts_nil) (fun _ _ _ _ _ => (pe_joinK (K := K) rfl pe_str (pe_callC C_dlines (hr.mono (by omega)) rfl (pa_cons (pe_tupN (pa_cons (pv 4) pa_nil)) pa_nil))))) (nomark _)) (pss_one (ps_ret pe_bl)) pss_nil)
      (pss_one (ps_ret (pe_cmpR (op_eqD hr.units) (pe_lc (own := [("_law_at", 5)]) (g := gName 5) (by rfl) SC__law_told_right.nd (pi_range1 (by rfl) T.b_range (pa_cons (pe_callB call_len_seq (by rfl) T.b_len (by decide +kernel) (pa_cons (pv 3) pa_nil)) pa_nil)) (blkOk_by (own := [("_law_at", 5)]) (N := N__law_told_right) (sc := defScope S__law_told_right) (by decide +kernel)) (fun _ _ _ _ _ => pg_name (i := 5) SC__law_told_right.nd rfl (Or.inl rfl)) (fun _ _ _ _ _ => pts_nil) (fun _ _ _ _ _ => (pe_ex (fun (u : Rw1) (_ : True) => pe_callTy (call_strC (Hq.str u) (hr.mono (by omega))) (by rfl) T.b_str (by decide +kernel) (pa_cons (pe_ixO M_pitem IXP (hr.mono (by omega)) (pv 0) (pv 5)) pa_nil))))) (pe_lc (own := [("_law_row_here", 4)]) (g := gName 4) (by rfl) SC__law_told_right.nd (pi_list (pv 3)) (blkOk_by (own := [("_law_row_here", 4)]) (N := N__law_told_right) (sc := defScope S__law_told_right) (by decide +kernel)) (fun _ _ _ _ _ => pg_name (i := 4) SC__law_told_right.nd rfl (Or.inl rfl)) (fun _ _ _ _ _ => pts_nil) (fun _ _ _ _ _ => (pe_joinK (K := K) rfl pe_str (pe_callC C_dlines (hr.mono (by omega)) rfl (pa_cons (pe_tupN (pa_cons (pv 4) pa_nil)) pa_nil))))) (nomark _))))))), ?_⟩
    obtain ⟨dx, na, b, u, _, fs, nvs, rvs, uvs, _, h1, h2, h3, h4, h5, h6, h7, h8, h9, hA, hB, _⟩ := id hx
    have shn := (Shw.tup (notes_shw nok.1)).ok (by decide) (by omega)
    have okI := inner_ok ok
    have ok' := okL_mem ok
    have lr := len_innerL rs
    refine ⟨_, rfl, p, xs, rs, rfl, hp, hrs, by omega, by decide, by omega, fun l ys H1 s1 n1 hl hys => ?_⟩
    have lys := hys.len
    refine ⟨_, rfl, x, CP, dx, fs, _, rfl, s1 _ _ h1, Pt.ins.cl, Pt.no "notes" (by simp), h3, _, .tuple (ns.map noteD), rfl, .tup (sqT_tk (TK.same s1) h4) (h5.tk (TK.same s1)).dp, shn, ?_⟩
    refine ⟨_, rfl, a, ws, rfl, .inl ⟨SqL.of (s1 _ _ ha), fun tp ntp => ?_⟩⟩
    have s2 := s1.trans (sm_new (o := .tup ws) ntp)
    have htp : (upd H1 tp (.tup ws)) tp = some (.tup ws) := upd_same
    have hl2 := sm_new (o := .tup ws) ntp _ _ hl
    have hys2 := hys.tk (TK.same (sm_new (o := .tup ws) ntp))
    generalize upd H1 tp (.tup ws) = H2 at *
    refine ⟨_, .tuple (ns.map noteD), rfl, .tup (SqT.of htp) (hns.tk (TK.same s2)).dp, shn, rfl, _, rfl, ifF (by simp) ?_⟩
    refine ⟨_, rfl, x, CP, dx, fs, .ref b, rfl, s2 _ _ h1, Pt.ins.cl, Pt.no "rows" (by simp), h6, .ref b, _, .type "tuple", _, true, rfl, .ty _, sqT_ty (sqT_tk (TK.same s2) h7), by rfl, _, rfl, ?_⟩
    refine ifF rfl ?_
    refine ⟨_, rfl, x, dx, fs, rfl, s2 _ _ h1, x, ns, rs, rfl, hx.tk (TK.same s2), fun H3 s3 => ⟨_, rfl, by omega, by omega, _, rfl, l, ys, rfl, .inl (SqL.of (s3 _ _ hl2)), rfl, _, rfl, ifF (by rw [lys]; simp) ?_⟩⟩
    have s03 := s2.trans s3
    have hys3 := hys2.tk (TK.same s3)
    have hl3 := s3 _ _ hl2
    clear hys2 hl2 hys hl htp
    -- the rows, one by one
    refine ⟨_, rfl, x, CP, dx, fs, .ref b, rfl, s03 _ _ h1, Pt.ins.cl, Pt.no "rows" (by simp), h6, b, rfl, ⟨_, sqT_tk (TK.same s03) h7⟩, fun D hD => ?_⟩
    refine lcR_tup (xs := rvs) (te := fun σ H Q => ∃ i, True ∧ tCB (rSelfStr (Rw1.cls c i) (sp_pstr K)) (tCons (tVar 4) tNil) σ H Q) (fun j H' => Hd H3 H' [(D, .lst (((rs.take j).map rt).map V.str))]) ((Hd.start H3).new hD _) (fun j H' _ m => sqT_tk ((TK.same s03).trans m.tk) h7) (fun j v H' hj m => ?_) (gName_mono _) (fun H4 m => ?_)
    · obtain ⟨q, r, rfl, hr', hq⟩ := (h8.tk ((TK.same s03).trans m.tk)).at hj
      obtain ⟨gs, pq⟩ := hq.part
      obtain ⟨dq, _, _, g1, _⟩ := id pq
      have lj := (List.getElem?_eq_some_iff.mp hr').1
      have sr := sum_lines (ok' r (List.mem_of_getElem? hr'))
      have si : r.inner.length ≤ (innerL rs).length := by
        have e1 := innerL_take hr'
        have e2 := innerL_le (rs := rs) (j + 1)
        rw [e1, List.length_append] at e2
        omega
      refine ⟨rfl, r, trivial, _, rfl, q, dq, gs, rfl, g1, q, _, c, _, _, _, _, gs, rfl, Hc.r r, pq, by omega, fun H5 s5 => ⟨_, rfl, _, (m.call s5).get (.head _), ?_, ?_⟩⟩
      · rw [List.length_map, List.length_map, List.length_take]
        exact szs (by omega)
      · have := (m.call s5).set 0 rfl (.lst (((rs.take j).map rt).map V.str ++ [V.str (rt r)]))
        rw [rt_take hr']
        exact this
    have lr8 := h8.len
    rw [lr8, List.take_length] at m
    have s04 := s03.trans m.sm
    have hD4 := m.get (.head _)
    refine ⟨_, rfl, p, rfl, ⟨_, SqT.of (s04 _ _ hp)⟩, fun D2 hD2 => ?_⟩
    refine lcR_tup (xs := xs) (fun j H' => Hd H4 H' [(D2, .lst (((rs.take j).map rt).map V.str))]) ((Hd.start H4).new hD2 _) (fun j H' _ m => SqT.of (m.sm _ _ (s04 _ _ hp))) (fun j v H' hj m => ?_) (gName_mono _) (fun H5 m5 => ?_)
    · obtain ⟨r, hr', hrd⟩ := hrs.at hj
      have hrd' := hrd.tk ((TK.same s04).trans m.tk)
      have lj := (List.getElem?_eq_some_iff.mp hr').1
      have okr := ok' r (List.mem_of_getElem? hr')
      have sr := sum_lines okr
      have si : r.inner.length ≤ (innerL rs).length := by
        have e1 := innerL_take hr'
        have e2 := innerL_le (rs := rs) (j + 1)
        rw [e1, List.length_append] at e2
        omega
      have dr : r.deep ≤ 4 := Nat.le_trans (deepL_mem (List.mem_of_getElem? hr')) dp
      have e1 : linesL [r] = r.lines := by show r.lines ++ [] = _; rw [List.append_nil]
      have se := sumL_eq r.lines
      refine ⟨rfl, ⟨_, rfl⟩, _, rfl, by show 1 ≤ 1000000; decide, m.nw fun q H6 _ _ s6 W6 => ⟨q, [v], [r], rfl, W6.get (.head _), ⟨hrd'.tk (TK.same s6), trivial⟩, ⟨okr, trivial⟩, by show max r.deep 0 < 6; omega, by decide, by rw [innerL_one]; omega, fun l2 H7 s7 n7 h7 => ?_⟩⟩
      rw [e1] at h7
      refine ⟨_, l2, r.lines, rfl, rfl, .inl (SqL.of h7), ?_, ?_⟩
      · rw [show ("\n" : Str).length = 1 by decide +kernel]
        omega
      · refine ⟨_, ((W6.tl).call s7).get (.head _), ?_, ?_⟩
        · rw [List.length_map, List.length_map, List.length_take]
          exact szs (by omega)
        · have := ((W6.tl).call s7).set 0 rfl (.lst (((rs.take j).map rt).map V.str ++ [V.str (rt r)]))
          rw [rt_take hr']
          exact this
    have lx := hrs.len
    rw [lx, List.take_length] at m5
    refine ⟨_, _, .lst (SqL.of (m5.sm _ _ hD4)) (dpStrs _), .lst (SqL.of (m5.get (.head _))) (dpStrs _), shLs (rts_ok ok'), shLs (rts_ok ok'), _, rfl, ifF (by rw [eqvLs]; rfl) ?_⟩
    have s05 := s04.trans m5.sm
    have s35 := m.sm.trans m5.sm
    have hl5 := s35 _ _ hl3
    have hys5 := hys3.tk (TK.same s35)
    clear hD4 m m5 hys3 hl3
    -- each row by its number
    refine ⟨_, rfl, l, ys, rfl, .inl (SqL.of hl5), _, rfl, by omega, by omega, fun D3 hD3 => ?_⟩
    refine lcR_range (lo := 0) (n := ys.length) (te := fun σ H Q => ∃ i, True ∧ tCB (rSelfStr (Rw1.cls c i) (sp_pstr K)) (tCons (tOp (rOwnIx CP (calm (sp_pitem K c CP NR))) (tVar 0) (tVar 5)) tNil) σ H Q) (fun j H' => Hd H5 H' [(D3, .lst ((((innerL rs).take j).map rt).map V.str))]) ((Hd.start H5).new hD3 _) (fun j H' hj m => ?_) (gName_mono _) (fun H6 m => ?_)
    · have hx' := hx.tk ((TK.same s05).trans m.tk)
      have h1' := (TK.same s05).trans m.tk _ _ rfl h1
      have lj : j < (innerL rs).length := by omega
      have hr' : (innerL rs)[j]? = some (innerL rs)[j] := List.getElem?_eq_getElem lj
      generalize (innerL rs)[j] = r at hr'
      have mr := List.mem_of_getElem? hr'
      have sr := sum_lines (okI r mr)
      have si := inner_len mr
      refine ⟨rfl, r, trivial, _, rfl, _, rfl, x, dx, fs, rfl, h1', x, (0 + (j : Int)), ns, rs, rfl, hx', by omega, fun j' r' ej hr2 q H7 s7 hq => ?_, fun z => absurd ⟨by omega, by omega⟩ z⟩
      have ej : j' = j := by omega
      subst ej
      rw [hr'] at hr2
      cases hr2
      obtain ⟨gs, pq⟩ := hq.part
      obtain ⟨dq, _, _, g1, _⟩ := id pq
      refine ⟨q, dq, gs, rfl, g1, q, _, c, _, _, _, _, gs, rfl, Hc.r r, pq, by omega, fun H8 s8 => ⟨_, rfl, _, (m.call (s7.trans s8)).get (.head _), ?_, ?_⟩⟩
      · rw [List.length_map, List.length_map, List.length_take]
        exact szs (by omega)
      · have := (m.call (s7.trans s8)).set 0 rfl (.lst ((((innerL rs).take j').map rt).map V.str ++ [V.str (rt r)]))
        rw [rt_take hr']
        exact this
    rw [lys, List.take_length] at m
    have s06 := s05.trans m.sm
    have hD6 := m.get (.head _)
    have hl6 := m.sm _ _ hl5
    have hys6 := hys5.tk m.tk
    refine ⟨_, rfl, l, rfl, ⟨_, SqL.of hl6⟩, fun D4 hD4 => ?_⟩
    refine lcR_list (xs := ys) (fun j H' => Hd H6 H' [(D4, .lst ((((innerL rs).take j).map rt).map V.str))]) ((Hd.start H6).new hD4 _) (fun j H' _ m => SqL.of (m.sm _ _ hl6)) (fun j v H' hj m => ?_) (gName_mono _) (fun H7 m7 => ?_)
    · obtain ⟨r, hr', hrd⟩ := hys6.at hj
      have hrd' := hrd.tk m.tk
      have lj := (List.getElem?_eq_some_iff.mp hr').1
      have mr := List.mem_of_getElem? hr'
      have okr := okI r mr
      have sr := sum_lines okr
      have si := inner_len mr
      have dr : r.deep ≤ 4 := Nat.le_trans (inner_deep mr) dp
      have e1 : linesL [r] = r.lines := by show r.lines ++ [] = _; rw [List.append_nil]
      have se := sumL_eq r.lines
      refine ⟨rfl, ⟨_, rfl⟩, _, rfl, by show 1 ≤ 1000000; decide, m.nw fun q H8 _ _ s8 W8 => ⟨q, [v], [r], rfl, W8.get (.head _), ⟨hrd'.tk (TK.same s8), trivial⟩, ⟨okr, trivial⟩, by show max r.deep 0 < 6; omega, by decide, by rw [innerL_one]; omega, fun l2 H9 s9 n9 h9 => ?_⟩⟩
      rw [e1] at h9
      refine ⟨_, l2, r.lines, rfl, rfl, .inl (SqL.of h9), ?_, ?_⟩
      · rw [show ("\n" : Str).length = 1 by decide +kernel]
        omega
      · refine ⟨_, ((W8.tl).call s9).get (.head _), ?_, ?_⟩
        · rw [List.length_map, List.length_map, List.length_take]
          exact szs (by omega)
        · have := ((W8.tl).call s9).set 0 rfl (.lst ((((innerL rs).take j).map rt).map V.str ++ [V.str (rt r)]))
          rw [rt_take hr']
          exact this
    rw [lys, List.take_length] at m7
    refine ⟨_, _, .lst (SqL.of (m7.sm _ _ hD6)) (dpStrs _), .lst (SqL.of (m7.get (.head _))) (dpStrs _), shLs (rts_ok okI), shLs (rts_ok okI), ?_⟩
    rw [eqvLs]
    exact k H7 (s06.trans m7.sm)
theorem ok_twice {f CP : Addr} {fd : FuncData} {c : Clz} (F : Fun K "_law_twice_right" "_law_twice_right" S__law_twice_right f fd) (T : Txt K mg) (C_told : FnG P w K mg base CX0 13 "_law_told_right" ["_law_program_here", "_law_notes", "_law_rows_here"] (sp_told K c CP)) (C_linner : FnC P w K mg base CX0 7 "_law_inner" ["_law_rows_here"] (sp_linner 6)) (C_lmade : FnC P w K mg base CX0 6 "_law_made" ["_law_rows_here"] (sp_lmade 4)) (C_rsof : FnC P w K mg base CX0 24 "_law_rows_of" ["_law_rows_here"] (sp_rsof K c 4)) (Mp : MkC P w K mg base CX0 25 CP "Program" ["self", "rows", "notes"] (calm (sp_pginit K c CP))) : FnOkG P w K mg base CX0 27 f fd ["_law_notes", "_law_rows_here"] (sp_twice K) := by
  refine okG F SC__law_twice_right (fun vs H Q E h => ?_) (fun cdv A outer s H vs Q E hgd hr h => ?_)
  · obtain ⟨_, _, _, _, _, _, rfl, _⟩ := h
    rfl
  · obtain ⟨a, p, ws, xs, ns, rs, rfl, ha, hns, nok, ln, hp, hrs, ok, us, dp, sz, k⟩ := h
    refine ⟨_, (pss_cons (ps_set (i := 2) SC__law_twice_right.nd rfl (.inl rfl) (pe_op op_repTW (pe_slice sl_tupA (pv 1) po_none (po_some pe_int)) pe_int))
      (pss_cons (ps_if (PW.pt (pw_or (pt_cmpR op_gt (pe_callB call_len_seq (by rfl) T.b_len (by decide +kernel) (pa_cons (pe_callC C_linner (hr.mono (by omega)) rfl (pa_cons (pv 2) pa_nil)) pa_nil)) pe_int (nomark _)) (pw_or1 (pt_cmpR op_gt (pe_callC C_lmade (hr.mono (by omega)) rfl (pa_cons (pv 2) pa_nil)) pe_int (nomark _))))) (pss_one (ps_ret pe_bl)) pss_nil)
      (pss_cons (ps_set (i := 3) SC__law_twice_right.nd rfl (.inl rfl) (pe_op op_rep (pe_callC C_rsof (hr.mono (by omega)) rfl (pa_cons (pe_slice sl_tupA (pv 1) po_none (po_some pe_int)) pa_nil)) pe_int))
      (pss_one (ps_ret (pe_callG C_told hgd (hr.mono (by omega)) rfl (pa_cons (pe_makeC Mp (hr.mono (by omega)) rfl (pa_cons (pv 3) (pa_cons (pv 0) pa_nil))) (pa_cons (pv 0) (pa_cons (pv 2) pa_nil))))))))), ?_⟩
    have lx := hrs.len
    have hs1 : RowsD H (xs.take 1) (rs.take 1) := hrs.take 1
    have in1 : (innerL (rs.take 1)).length ≤ (innerL rs).length := innerL_le 1
    have mem1 : ∀ r ∈ rs.take 1, r ∈ rs := fun r hr => List.mem_of_mem_take hr
    have ok1 : okL (rs.take 1) := okL_of fun r hr => okL_mem ok r (mem1 r hr)
    have dp1 : deepL (rs.take 1) ≤ 2 := deepL_of fun r hr => Nat.le_trans (deepL_mem (mem1 r hr)) dp
    have ok2 : okL (rs.take 1 ++ rs.take 1) := okL_of fun r hr => (List.mem_append.mp hr).elim (okL_mem ok1 r) (okL_mem ok1 r)
    have dp2 : deepL (rs.take 1 ++ rs.take 1) ≤ 2 := deepL_of fun r hr => (List.mem_append.mp hr).elim (fun h => Nat.le_trans (deepL_mem h) dp1) (fun h => Nat.le_trans (deepL_mem h) dp1)
    have in2 : (innerL (rs.take 1 ++ rs.take 1)).length = (innerL (rs.take 1)).length + (innerL (rs.take 1)).length := by rw [innerL_app, List.length_append]
    have lin := len_innerL (rs.take 1)
    have us1 : UsesOk ns (rs.take 1) := fun y hy z hz => us y (by
      have e := innerL_app (rs.take 1) (rs.drop 1)
      rw [List.take_append_drop] at e
      rw [e]
      exact List.mem_append.mpr (.inl hy)) z hz
    refine ⟨_, rfl, 1, rfl, slA1 hp fun q1 H1 s1 hq1 => ?_⟩
    have lt1 : (xs.take 1).length ≤ 1 := by rw [List.length_take]; omega
    refine ⟨q1, 2, xs.take 1, rfl, rfl, hq1, by decide, by decide, by omega, fun q2 H2 s2 hq2 => ?_⟩
    have s12 := s1.trans s2
    have e2 : (List.replicate 2 (xs.take 1)).flatten = xs.take 1 ++ xs.take 1 := by
      show xs.take 1 ++ (xs.take 1 ++ []) = _
      rw [List.append_nil]
    rw [e2] at hq2
    have hr2 : RowsD H2 (xs.take 1 ++ xs.take 1) (rs.take 1 ++ rs.take 1) := (hs1.app hs1).tk (TK.same s12)
    clear s1 s2 hq1
    generalize rs.take 1 = r1 at *
    refine ⟨_, rfl, q2, _, _, rfl, hq2, hr2, by omega, by decide, by omega, fun l ys H3 s3 n3 h3 hy3 => ⟨l, ys, rfl, .inl (SqL.of h3), ?_⟩⟩
    have ly := hy3.len
    have s13 := s12.trans s3
    refine ⟨_, _, rfl, rfl, _, rfl, ?_⟩
    refine ite2 (fun _ => k H3 s13) (fun c1 => ?_)
    have c1 : (innerL (r1 ++ r1)).length ≤ 12 := by
      have c1 : ¬ ((12 : Int) < ((ys.length : Nat) : Int)) := fun e => c1 (decide_eq_true e)
      omega
    refine ⟨_, rfl, q2, _, _, rfl, s3 _ _ hq2, hr2.tk (TK.same s3), ok2, by omega, by decide, by omega, fun H4 s4 => ?_⟩
    have s14 := s13.trans s4
    refine ⟨_, _, rfl, rfl, _, rfl, ?_⟩
    refine ite2 (fun _ => k H4 s14) (fun _ => ?_)
    refine ⟨_, rfl, 1, rfl, slA1 (s14 _ _ hp) fun q3 H5 s5 h5 => ⟨q3, xs.take 1, r1, rfl, h5, hs1.tk (TK.same (s14.trans s5)), ok1, by omega, by decide, by omega, fun l2 H6 ws2 s6 n6 h6 hw6 => ⟨l2, 2, ws2, rfl, rfl, h6, by decide, by decide, szl (by have := hw6.len; show ws2.length * 2 ≤ 1000000; omega), fun l3 n7 => ?_⟩⟩⟩
    have e3 : (List.replicate (2 : Int).toNat ws2).flatten = ws2 ++ ws2 := by
      show ws2 ++ (ws2 ++ []) = _
      rw [List.append_nil]
    rw [e3]
    have s47 := s5.trans (s6.trans (sm_new (o := .lst (ws2 ++ ws2)) n7))
    have hw7 : RowsAt K c (upd H6 l3 (.lst (ws2 ++ ws2))) (ws2 ++ ws2) (r1 ++ r1) := (rowsAt_app hw6 hw6).tk (TK.same (sm_new n7))
    have h7 : (upd H6 l3 (.lst (ws2 ++ ws2))) l3 = some (.lst (ws2 ++ ws2)) := upd_same
    generalize upd H6 l3 (.lst (ws2 ++ ws2)) = H7 at *
    have s17 := s14.trans s47
    have us2 : UsesOk ns (r1 ++ r1) := fun y hy z hz => by
      rw [innerL_app] at hy
      exact us1 y ((List.mem_append.mp hy).elim id id) z hz
    refine ⟨_, rfl, _, rfl, fun x dx nx nd ne => ?_⟩
    have sm := mk_at (C := CP) nx nd
    refine ⟨x, dx, l3, a, _, ws, r1 ++ r1, ns, rfl, upd_same, .inl (sm _ _ h7), hw7.tk (TK.same sm), .inl (sm _ _ (s17 _ _ ha)), hns.tk (TK.same (s17.trans sm)), nok, us2, by omega, by omega, by omega, fun H8 kp hpr => ⟨rfl, ?_⟩⟩
    have s78 := mk_sm nx nd kp
    have s18 := s17.trans s78
    have s28 := s3.trans (s4.trans (s47.trans s78))
    exact ⟨_, rfl, _, rfl, x, a, q2, ws, _, ns, _, rfl, hpr, s18 _ _ ha, hns.tk (TK.same s18), nok, ln, s28 _ _ hq2, hr2.tk (TK.same s28), ok2, by omega, by omega, fun H9 s9 => k H9 (s18.trans s9)⟩
end

/-! ## values that are no notes -/
namespace Pg
theorem tyX_ext {K : PySem.W.Frag} {H H' : Hp} {x : V} {t : Value} (e : LamX.ExtN H H') (h : TyX K H x t) : TyX K H' x t := by
  cases h with
  | base b => cases b with
    | non => exact .base .non
    | bl b => exact .base (.bl b)
    | int i => exact .base (.int i)
    | str z => exact .base (.str z)
    | flt z => exact .base (.flt z)
    | lst h => exact .base (.lst (e _ _ h nofun))
    | frz h => exact .base (.frz (e _ _ h nofun))
    | tup h => exact .base (.tup (e _ _ h nofun))
    | dK h => exact .base (.dK (e _ _ h nofun))
    | dT h => exact .base (.dT (e _ _ h nofun))
    | ins h a b c d f => exact .base (.ins (e _ _ h nofun) a b c d f)
  | byt b => exact .byt b
  | set h => exact .set (e _ _ h nofun)
  | kList h c => exact .kList h c
  | kTuple h c => exact .kTuple h c
  | kDict h c => exact .kDict h c
  | fTuple h => exact .fTuple (e _ _ h nofun)
  | fDict h => exact .fDict (e _ _ h nofun)
theorem kd_ext {K : PySem.W.Frag} {H H' : Hp} {x : V} (e : LamX.ExtN H H') (h : Kd K H x) : Kd K H' x := by
  obtain ⟨t, a, b⟩ := h
  exact ⟨t, tyX_ext e a, b⟩
theorem NoteB.ext {K : PySem.W.Frag} {H H' : Hp} {v : V} {b : Bool} (e : LamX.ExtN H H') (h : NoteB K H v b) : NoteB K H' v b := by
  cases h with
  | no ty kt => exact .no (tyX_ext e ty) kt
  | len hq l1 l2 => exact .len (e _ _ hq nofun) l1 l2
  | two hq kx ky lz => exact .two (e _ _ hq nofun) (kd_ext e kx) (kd_ext e ky) lz
theorem notes_ext {H H' : Hp} (e : LamX.ExtN H H') : ∀ {xs : List V} {ms : List (Str × Int)}, NotesAt H xs ms → NotesAt H' xs ms
  | [], [], _ => trivial
  | _ :: _, _ :: _, ⟨⟨q, a, h, r⟩, t⟩ => ⟨⟨q, a, e _ _ h nofun, r⟩, notes_ext e t⟩
theorem BadN.ext {K : PySem.W.Frag} {H H' : Hp} {v : V} (e : LamX.ExtN H H') (h : BadN K H v) : BadN K H' v := by
  cases h with
  | no ty kt => exact .no (tyX_ext e ty) kt
  | at_ hs sz hn ok hi hb =>
    refine .at_ (hs.elim (fun h => .inl (e _ _ h nofun)) (fun h => .inr (e _ _ h nofun))) sz (notes_ext e hn) ok hi (hb.elim (fun h => .inl (h.ext e)) fun ⟨q, m, a, b, k, h, r⟩ => .inr ⟨q, m, a, b, k, e _ _ h nofun, r⟩)
def sp_wrong (K : PySem.W.Frag) : Sp := fun vs H Q _ => ∃ B : Bx, vs = [.ref B.1] ∧ BoxAt H B ∧ ∀ (v : V) (H' : Hp), BadN K H' v → Keep B H H' → BoxAt H' B → Q v H'
theorem okb2 : NotesOk [(("b" : Str), 2)] := ⟨fun m hm => by rw [List.mem_singleton.mp hm]; exact ⟨by decide +kernel, by decide, by decide⟩, by simp⟩
end Pg
section
variable {P : Program} {w : World} {K : PySem.W.Frag} {mg : Str → Option Value} {base : Heap}
theorem ok_wrong {f : Addr} {fd : FuncData} (F : Fun K "_law_wrong_notes" "_law_wrong_notes" S__law_wrong_notes f fd) (T : Txt K mg) (C_draw : FnC P w K mg base CX0 1 "_law_draw" ["_law_deal_here", "_law_many"] sp_draw) (C_pick : FnC P w K mg base CX0 2 "_law_pick" ["_law_deal_here", "_law_some"] (sp_pick K)) : FnOk P w K mg base CX0 4 f fd ["_law_deal_here"] (sp_wrong K) := by
  refine F.ok SC__law_wrong_notes (fun vs H Q E h => ?_) (fun cdv A outer s H vs Q E hr h => ?_)
  · obtain ⟨_, rfl, _⟩ := h
    rfl
  · obtain ⟨B, rfl, hb, k⟩ := h
    refine ⟨_, (pss_cons (ps_set (i := 1) SC__law_wrong_notes.nd rfl (.inl rfl) (pe_lstN (pa_cons (pe_tupN (pa_cons pe_str pa_nil)) (pa_cons (pe_lstN (pa_cons pe_str (pa_cons pe_int pa_nil))) (pa_cons (pe_tupN (pa_cons pe_str (pa_cons pe_int pa_nil))) (pa_cons (pe_tupN (pa_cons pe_str (pa_cons pe_int pa_nil))) (pa_cons (pe_tupN (pa_cons pe_str (pa_cons pe_bl pa_nil))) (pa_cons (pe_tupN (pa_cons pe_str (pa_cons pe_str pa_nil))) (pa_cons (pe_tupN (pa_cons pe_str (pa_cons pe_int pa_nil))) (pa_cons (pe_tupN (pa_cons pe_str (pa_cons pe_int pa_nil))) (pa_cons pe_str (pa_cons pe_non pa_nil))))))))))))
      (pss_cons (ps_set (i := 2) SC__law_wrong_notes.nd rfl (.inl rfl) (pe_op op_cat (pe_op op_rep (pe_lstN (pa_cons (pe_tupN (pa_cons pe_str (pa_cons pe_int pa_nil))) pa_nil)) (pe_callC C_draw (hr.mono (by omega)) rfl (pa_cons (pv 0) (pa_cons pe_int pa_nil)))) (pe_lstN (pa_cons (pe_callC C_pick (hr.mono (by omega)) rfl (pa_cons (pv 0) (pa_cons (pv 1) pa_nil))) pa_nil))))
      (pss_one (ps_ret (pe_callC C_pick (hr.mono (by omega)) rfl (pa_cons (pv 0) (pa_cons (pe_lstN (pa_cons (pv 2) (pa_cons (pe_callTy call_tuple_of (by rfl) T.b_tuple (by decide +kernel) (pa_cons (pv 2) pa_nil)) (pa_cons (pe_lstN (pa_cons (pe_tupN (pa_cons pe_str (pa_cons pe_int pa_nil))) (pa_cons (pe_tupN (pa_cons pe_str (pa_cons pe_int pa_nil))) pa_nil))) (pa_cons pe_non (pa_cons pe_str (pa_cons pe_int (pa_cons pe_str (pa_cons pe_bl pa_nil))))))))) pa_nil))))))), ?_⟩
    have W0 := Hb.start hb
    refine ⟨by show 1 ≤ 1000000; decide, W0.nw fun p1 H1 _ _ _ W1 => ?_⟩
    refine ⟨by show 2 ≤ 1000000; decide, W1.nw fun p2 H2 _ _ _ W2 => ?_⟩
    refine ⟨by show 2 ≤ 1000000; decide, W2.nw fun p3 H3 _ _ _ W3 => ?_⟩
    refine ⟨by show 2 ≤ 1000000; decide, W3.nw fun p4 H4 _ _ _ W4 => ?_⟩
    refine ⟨by show 2 ≤ 1000000; decide, W4.nw fun p5 H5 _ _ _ W5 => ?_⟩
    refine ⟨by show 2 ≤ 1000000; decide, W5.nw fun p6 H6 _ _ _ W6 => ?_⟩
    refine ⟨by show 2 ≤ 1000000; decide, W6.nw fun p7 H7 _ _ _ W7 => ?_⟩
    refine ⟨by show 2 ≤ 1000000; decide, W7.nw fun p8 H8 _ _ _ W8 => ?_⟩
    refine ⟨by show 10 ≤ 1000000; decide, W8.nw fun lo H9 _ _ _ W9 => ?_⟩
    refine ⟨by show 2 ≤ 1000000; decide, W9.nw fun pb H10 _ _ _ W10 => ⟨by show 1 ≤ 1000000; decide, W10.nw fun l1 H11 _ _ _ W11 => ?_⟩⟩
    refine ⟨_, rfl, B, _, rfl, W11.box, by decide, by decide, fun d H12 d0 d1 kp12 hb12 => ?_⟩
    have W12 := W11.keep kp12 hb12
    have ed : (List.replicate d.toNat [V.ref pb]).flatten = List.replicate d.toNat (V.ref pb) := by
      have : d = 0 ∨ d = 1 := by omega
      rcases this with rfl | rfl <;> rfl
    refine ⟨l1, d, _, rfl, rfl, W12.get (.head _), by omega, by omega, szl (by show 1 * d.toNat ≤ 1000000; omega), fun l2 n2 => ?_⟩
    rw [ed]
    have W13 := W12.new n2 (.lst (List.replicate d.toNat (V.ref pb)))
    generalize upd H12 l2 (.lst (List.replicate d.toNat (V.ref pb))) = H13 at *
    refine ⟨_, rfl, _, rfl, B, lo, _, rfl, W13.box, (W13.ne (.tail _ (.tail _ (.tail _ (.head _))))).1, (W13.ne (.tail _ (.tail _ (.tail _ (.head _))))).2, .inl (SqL.of (W13.get (.tail _ (.tail _ (.tail _ (.head _)))))), by show 0 < 10; decide, by show 10 ≤ 100000; decide, fun i v H14 hv kp14 hb14 => ?_⟩
    have W14 := W13.keep kp14 hb14
    have od : ∀ H' : Hp, (∀ x ∈ ([(p8, .tup [.str ("abcde" : Str), .int 3]), (p7, .tup [.str ("not" : Str), .int 2]), (p6, .tup [.str ("a" : Str), .str ("2" : Str)]), (p5, .tup [.str ("a" : Str), .bl true]), (p4, .tup [.str ("a" : Str), .int 1]), (p3, .tup [.str ("a" : Str), .int 5]), (p2, .lst [.str ("a" : Str), .int 2]), (p1, .tup [.str ("a" : Str)])] : List (Addr × HO)), H' x.1 = some x.2) → NoteB K H' v false := by
      intro H' hg
      have hm := List.mem_of_getElem? hv
      simp only [List.mem_cons, List.not_mem_nil, or_false] at hm
      rcases hm with rfl | rfl | rfl | rfl | rfl | rfl | rfl | rfl | rfl | rfl
      · exact .len (hg (p1, _) (.tail _ (.tail _ (.tail _ (.tail _ (.tail _ (.tail _ (.tail _ (.head _))))))))) (by decide) (by decide)
      · exact .no (.base (.lst (hg (p2, _) (.tail _ (.tail _ (.tail _ (.tail _ (.tail _ (.tail _ (.head _)))))))))) (by rfl)
      · have b : NoteB K H' (.ref p3) _ := .two (hg (p3, _) (.tail _ (.tail _ (.tail _ (.tail _ (.tail _ (.head _))))))) (.str _) (.int _) (fun z e => by cases e; decide +kernel)
        rwa [show (isName _ && ((isI _ && !isB _) && inV _ [.int 2, .int 3, .int 4])) = false by decide +kernel] at b
      · have b : NoteB K H' (.ref p4) _ := .two (hg (p4, _) (.tail _ (.tail _ (.tail _ (.tail _ (.head _)))))) (.str _) (.int _) (fun z e => by cases e; decide +kernel)
        rwa [show (isName _ && ((isI _ && !isB _) && inV _ [.int 2, .int 3, .int 4])) = false by decide +kernel] at b
      · have b : NoteB K H' (.ref p5) _ := .two (hg (p5, _) (.tail _ (.tail _ (.tail _ (.head _))))) (.str _) (.bl _) (fun z e => by cases e; decide +kernel)
        rwa [show (isName _ && ((isI _ && !isB _) && inV _ [.int 2, .int 3, .int 4])) = false by decide +kernel] at b
      · have b : NoteB K H' (.ref p6) _ := .two (hg (p6, _) (.tail _ (.tail _ (.head _)))) (.str _) (.str _) (fun z e => by cases e; decide +kernel)
        rwa [show (isName _ && ((isI _ && !isB _) && inV _ [.int 2, .int 3, .int 4])) = false by decide +kernel] at b
      · have b : NoteB K H' (.ref p7) _ := .two (hg (p7, _) (.tail _ (.head _))) (.str _) (.int _) (fun z e => by cases e; decide +kernel)
        rwa [show (isName _ && ((isI _ && !isB _) && inV _ [.int 2, .int 3, .int 4])) = false by decide +kernel] at b
      · have b : NoteB K H' (.ref p8) _ := .two (hg (p8, _) (.head _)) (.str _) (.int _) (fun z e => by cases e; decide +kernel)
        rwa [show (isName _ && ((isI _ && !isB _) && inV _ [.int 2, .int 3, .int 4])) = false by decide +kernel] at b
      · exact .no (.base (.str _)) (by rfl)
      · exact .no (.base .non) (by rfl)
    clear hv
    refine ⟨by show 1 ≤ 1000000; decide, W14.nw fun l3 H15 _ _ s15 W15 => ?_⟩
    refine ⟨l2, l3, _, _, rfl, rfl, W15.get (.tail _ (.head _)), W15.get (.head _), szl (by rw [List.length_replicate]; show d.toNat + 1 ≤ 1000000; omega), fun l4 n4 => ?_⟩
    have W16 := W15.new n4 (.lst (List.replicate d.toNat (V.ref pb) ++ [v]))
    generalize upd H15 l4 (.lst (List.replicate d.toNat (V.ref pb) ++ [v])) = H16 at *
    refine ⟨_, rfl, _, rfl, _, rfl, l4, _, rfl, .inl ⟨SqL.of (W16.get (.head _)), fun tp ntp => ?_⟩⟩
    have W17 := W16.new ntp (.tup (List.replicate d.toNat (V.ref pb) ++ [v]))
    generalize upd H16 tp (.tup (List.replicate d.toNat (V.ref pb) ++ [v])) = H17 at *
    refine ⟨by show 2 ≤ 1000000; decide, W17.nw fun q1 H18 _ _ s18 W18 => ⟨by show 2 ≤ 1000000; decide, W18.nw fun q2 H19 _ _ s19 W19 => ⟨by show 2 ≤ 1000000; decide, W19.nw fun l5 H20 _ _ s20 W20 => ⟨by show 8 ≤ 1000000; decide, W20.nw fun l6 H21 _ _ s21 W21 => ?_⟩⟩⟩⟩
    refine ⟨B, l6, _, rfl, W21.box, (W21.ne (.head _)).1, (W21.ne (.head _)).2, .inl (SqL.of (W21.get (.head _))), by show 0 < 8; decide, by show 8 ≤ 100000; decide, fun i2 v2 H22 hv2 kp22 hb22 => ?_⟩
    have W22 := W21.keep kp22 hb22
    refine k v2 H22 ?_ W22.kp W22.box
    have od22 := od H22 fun x hx => W22.get (.tail _ (.tail _ (.tail _ (.tail _ (.tail _ (.tail _ (.tail _ (.tail _ (.tail _ (.tail _ (.tail _ (hx))))))))))))
    have hpb : H22 pb = some (.tup [.str ("b" : Str), .int 2]) := W22.get (.tail _ (.tail _ (.tail _ (.tail _ (.tail _ (.tail _ (.tail _ (.tail _ (.tail _ (.head _))))))))))
    have nb : nameOk ("b" : Str) = true := by decide +kernel
    have seq : ∀ a, (H22 a = some (.lst (List.replicate d.toNat (V.ref pb) ++ [v])) ∨ H22 a = some (.tup (List.replicate d.toNat (V.ref pb) ++ [v]))) → BadN K H22 (.ref a) := fun a ha => by
      have : d = 0 ∨ d = 1 := by omega
      rcases this with rfl | rfl
      · exact .at_ (i := 0) (ns := []) ha (by show 1 ≤ 1000; decide) trivial ⟨nofun, List.nodup_nil⟩ rfl (.inl od22)
      · exact .at_ (i := 1) (ns := [(("b" : Str), 2)]) ha (by show 2 ≤ 1000; decide) ⟨⟨pb, rfl, hpb, nb, by decide, by decide⟩, trivial⟩ okb2 rfl (.inl od22)
    have hm := List.mem_of_getElem? hv2
    simp only [List.mem_cons, List.not_mem_nil, or_false] at hm
    rcases hm with rfl | rfl | rfl | rfl | rfl | rfl | rfl | rfl
    · exact seq l4 (.inl (W22.get (.tail _ (.tail _ (.tail _ (.tail _ (.tail _ (.head _))))))))
    · exact seq tp (.inr (W22.get (.tail _ (.tail _ (.tail _ (.tail _ (.head _)))))))
    · exact .at_ (i := 1) (ns := [(("b" : Str), 2)]) (.inl (W22.get (.tail _ (.head _)))) (by show 2 ≤ 1000; decide) ⟨⟨q1, rfl, W22.get (.tail _ (.tail _ (.tail _ (.head _)))), nb, by decide, by decide⟩, trivial⟩ okb2 rfl (.inr ⟨q2, _, rfl, .head _, 3, W22.get (.tail _ (.tail _ (.head _))), nb, by decide, by decide⟩)
    · exact .no (.base .non) (by rfl)
    · exact .no (.base (.str _)) (by rfl)
    · exact .no (.base (.int _)) (by rfl)
    · exact .no (.base (.str _)) (by rfl)
    · exact .no (.base (.bl _)) (by rfl)
end

/-! ## the law -/
namespace Pg
/-- what the law's def of refusals makes of a lambda -/
structure TT3 (NR NN IR : Addr) (E : XK) (R Q : VK) : Prop where
  row : ∀ (dd : Addr) (v : V) (H' : Hp), H' dd = none → (∀ t H'', Same (upd H' dd (.xd [("at", v)])) H'' → H'' t = some (.tup [.str "row", v, .bl true]) → Q (.ref t) H'') → E (.ref NR) (some dd) (upd H' dd (.xd [("at", v)]))
  note : ∀ (dd : Addr) (v : V) (H' : Hp), H' dd = none → (∀ t H'', Same (upd H' dd (.xd [("name", v)])) H'' → H'' t = some (.tup [.str "note", v, .bl true]) → Q (.ref t) H'') → E (.ref NN) (some dd) (upd H' dd (.xd [("name", v)]))
  part : ∀ (dd : Addr) (v : V) (H' : Hp), H' dd = none → (∀ t H'', Same (upd H' dd (.xd [("part", v)])) H'' → H'' t = some (.tup [.str "part", v, .bl true]) → Q (.ref t) H'') → E (.ref IR) (some dd) (upd H' dd (.xd [("part", v)]))
  no : ∀ v H', Q .non H' → R v H'
def TTp (NR NN IR : Addr) : (XK → Hp → VK → Prop) → Hp → VK → Prop := fun tl H Q => ∀ (E : XK) (R : VK), TT3 NR NN IR E R Q → tl E H R
def sp_law38 (K : PySem.W.Frag) (PT : Addr) : Sp := fun vs H Q _ => ∃ (a : Addr) (ns : List Int), vs = [.ref a] ∧ H PT = some (.tbl #[]) ∧ SqL K H a (ns.map V.int) ∧ ns.length ≤ 63 ∧ ∀ H', Q (.bl true) H'
abbrev lamT (PT : Addr) : List (Addr × Str) := [(PT, ("law" : Str) ++ ".<locals>." ++ "<lambda>")]
theorem szR_3 {d : Nat} (h : d ≤ 3) : szR d ≤ 85 := by
  have : d = 0 ∨ d = 1 ∨ d = 2 ∨ d = 3 := by omega
  rcases this with rfl | rfl | rfl | rfl <;> decide
theorem tabs_new {PT : Addr} {H : Hp} (h : H PT = some (.tbl #[])) : LamX.Tabs (lamT PT) H := fun p hp => by
  rw [List.mem_singleton.mp hp]
  exact LamX.TabS.nil h
theorem box_ne {B : Bx} {H : Hp} {a : Addr} {o : HO} (hb : BoxAt H B) (h : H a = some o) (n1 : ∀ kv, o ≠ .dK kv) (n2 : ∀ xs, o ≠ .lst xs) : a ≠ B.1 ∧ a ≠ B.2 := by
  obtain ⟨_, _, _, _, q1, q2, _⟩ := hb
  refine ⟨fun e => ?_, fun e => ?_⟩
  · rw [e, q1] at h
    exact n1 _ (Option.some.inj h).symm
  · rw [e, q2] at h
    exact n2 _ (Option.some.inj h).symm
theorem codeO_no {c : Addr} {q : Str} : (∀ kv, LamX.CodeO c q ≠ .dK kv) ∧ ∀ xs, LamX.CodeO c q ≠ .lst xs := ⟨fun kv h => (by unfold LamX.CodeO at h; cases h), fun xs h => (by unfold LamX.CodeO at h; cases h)⟩
theorem tabs_keep {B : Bx} {PT : Addr} {H H' : Hp} (hb : BoxAt H B) (k : Keep B H H') (t : LamX.Tabs (lamT PT) H) : LamX.Tabs (lamT PT) H' := fun p hp => by
  obtain ⟨ps, h1, h2, h3⟩ := t p hp
  have n := box_ne hb h1 nofun nofun
  refine ⟨ps, k _ _ n.1 n.2 h1, h2, fun pos cv hc => ?_⟩
  obtain ⟨c, e1, e2⟩ := h3 pos cv hc
  have m := box_ne hb e2 codeO_no.1 codeO_no.2
  exact ⟨c, e1, k _ _ m.1 m.2 e2⟩
theorem box_ext {B : Bx} {H H' : Hp} (hb : BoxAt H B) (e : LamX.ExtN H H') : BoxAt H' B := by
  obtain ⟨ne, ns, nw, sd, q1, q2, r⟩ := hb
  exact ⟨ne, ns, nw, sd, e _ _ q1 nofun, e _ _ q2 nofun, r⟩
def sp_lprog : Sp := fun vs H Q _ => ∃ (B : Bx) (w : Addr) (ns : List (Str × Int)) (ms : List Str) (m : Int), vs = [.ref B.1, .ref w, .int m] ∧ BoxAt H B ∧ WorldAt B H w ns ms ∧ 1 ≤ m ∧ m ≤ 10 ∧ ∀ (rs : List Rw1) (p : Addr) (xs : List V) (H' : Hp), H' p = some (.tup xs) → RowsD H' xs rs → okL rs → deepL rs ≤ 2 → UsesOk ns rs → ((innerL rs).length : Int) ≤ m → Keep B H H' → BoxAt H' B → Q (.ref p) H'
def sp_pgofV (K : PySem.W.Frag) (c : Clz) (CP : Addr) : Sp := fun vs H Q _ => ∃ (a p : Addr) (ws xs : List V) (ns : List (Str × Int)) (rs : List Rw1), vs = [.ref a, .ref p] ∧ SqV K H a ws ∧ NotesAt H ws ns ∧ NotesOk ns ∧ UsesOk ns rs ∧ ns.length ≤ 100 ∧ H p = some (.tup xs) ∧ RowsD H xs rs ∧ okL rs ∧ deepL rs ≤ 3 ∧ (innerL rs).length ≤ 1000 ∧ ∀ x H', Same H H' → H x = none → ProgAt K c CP H' x ns rs → Q (.ref x) H'
/-- a program made, whatever is handed -/
def sp_pgX (K : PySem.W.Frag) (c : Clz) (CP IR NN : Addr) : Sp := fun vs H Q E => (sp_pginit K c CP vs H Q E ∨ sp_pginitN K c CP NN vs H Q E) ∨ sp_pginitR K c CP IR vs H Q E
/-- all stays but the box and the tables -/
def KN (B : Bx) (H H' : Hp) : Prop := ∀ a o, a ≠ B.1 → a ≠ B.2 → H a = some o → (∀ ps, o ≠ .tbl ps) → H' a = some o
theorem KN.refl (B : Bx) (H : Hp) : KN B H H := fun _ _ _ _ h _ => h
theorem KN.trans {B : Bx} {H H1 H2 : Hp} (a : KN B H H1) (b : KN B H1 H2) : KN B H H2 := fun x o n1 n2 h n => b x o n1 n2 (a x o n1 n2 h n) n
theorem KN.same {B : Bx} {H H' : Hp} (s : Same H H') : KN B H H' := fun _ _ _ _ h _ => s _ _ h
theorem KN.keep {B : Bx} {H H' : Hp} (s : Keep B H H') : KN B H H' := fun _ _ n1 n2 h _ => s _ _ n1 n2 h
theorem KN.ext {B : Bx} {H H' : Hp} (s : LamX.ExtN H H') : KN B H H' := fun _ _ _ _ h n => s _ _ h n
theorem KN.tk {B : Bx} {H H' : Hp} (hb : BoxAt H B) (s : KN B H H') : TK H H' := fun a o m h => by
  have n := box_ne hb h (fun kv e => by rw [e] at m; cases m) (fun xs e => by rw [e] at m; cases m)
  exact s a o n.1 n.2 h fun ps e => by rw [e] at m; cases m
theorem rowsE_self (rs : List Rw1) : rowsE rs rs = true := decide_eq_true rfl
theorem rowsE_len {rs ss : List Rw1} (h : rs.length ≠ ss.length) : rowsE rs ss = false := decide_eq_false fun e => h (by have := congrArg List.length e; simpa using this)
theorem shD {ns : List (Str × Int)} {zs : List Str} (h : PyData.canLayAll0 (ns.map noteD) = true ∧ PyData.depthAll (ns.map noteD) ≤ 4) (g : ∀ z ∈ zs, PyData.strOk z = true) : SeqAt.shaped (.tuple [.list (ns.map noteD), .list (zs.map PyData.str)]) = true := by
  have e := depSs zs
  show ((PyData.canLayAll0 (ns.map noteD) && (PyData.canLayAll0 (zs.map PyData.str) && true)) && decide (max (PyData.depthAll (ns.map noteD) + 1) (max (PyData.depthAll (zs.map PyData.str) + 1) 0) + 1 ≤ 64)) = true
  rw [h.1, canSs g, decide_eq_true (by omega)]; rfl
theorem eqvD (ns ms : List (Str × Int)) (zs ys : List Str) : PyData.eqv (.tuple [.list (ns.map noteD), .list (zs.map PyData.str)]) (.tuple [.list (ms.map noteD), .list (ys.map PyData.str)]) = (decide (ns = ms) && decide (zs = ys)) := by
  show (PyData.eqvAll (ns.map noteD) (ms.map noteD) && (PyData.eqvAll (zs.map PyData.str) (ys.map PyData.str) && true)) = _
  rw [eqv_notesL, eqvSs, Bool.and_true]
theorem sh3 {a : Str} {b : PyData} (ha : PyData.strOk a = true) (hb : PyData.canLay0 b = true) (hd : PyData.depth b ≤ 3) : SeqAt.shaped (.tuple [.str a, b, .bool true]) = true := by
  show ((PyData.strOk a && (PyData.canLay0 b && (true && true))) && decide (max 0 (max (PyData.depth b) (max 0 0)) + 1 ≤ 64)) = true
  rw [ha, hb, decide_eq_true (by omega)]; rfl
theorem mk_nnH {K : PySem.W.Frag} {H : Hp} {IR C x dx : Addr} {n : Str} {i : Int} {P : Hp → Addr → Str → Int → Prop} {R : Hp → Prop} (nx : H x = none) (nd : H dx = none) (nk : nameOk n = true) (i0 : 0 ≤ i) (i1 : i < 1000000) (k : ∀ H', Same H H' → R H') :
    calm (sp_nn K IR C P) (.ref x :: ([.str n, .int i] ++ [])) (upd (upd H dx (.own x)) x (.ins C dx [])) (fun v H2 => v = .non ∧ R H2) E0 := mk_nn (Q := fun _ H => R H) nx nd nk i0 i1 fun H' s _ => k H' s
def missL (L us : List Str) : List Str := us.filter fun z => !decide (z ∈ L)
theorem missL_take {L us : List Str} {j : Nat} {z : Str} (h : us[j]? = some z) : missL L (us.take (j + 1)) = missL L (us.take j) ++ (if z ∈ L then [] else [z]) := by
  unfold missL
  rw [List.take_succ, h, List.filter_append]
  congr 1
  by_cases c : z ∈ L
  · rw [if_pos c]; exact List.filter_cons_of_neg (by simp [c])
  · rw [if_neg c]; exact List.filter_cons_of_pos (by simp [c])
theorem used_ok {rs : List Rw1} (ok : okL rs) : ∀ z ∈ usedL rs, nameOk z = true := fun z hz => by
  obtain ⟨r, hr, hz⟩ := List.mem_flatMap.mp hz
  have h := inner_ok ok r hr
  have tu : ∀ t : Tst, t.Ok → z ∈ t.uses → nameOk z = true := fun t => by
    induction t with
    | holds n k => intro h e; rw [List.mem_singleton.mp e]; exact h.1
    | not t ih => exact ih
    | _ => intro _ e; exact nomatch e
  cases r with
  | put n k => rw [List.mem_singleton.mp hz]; exact h.1
  | add n k => rw [List.mem_singleton.mp hz]; exact h.1
  | ifb t a o => exact tu t h.1 hz
  | _ => exact nomatch hz
theorem rowsAt_left {K : PySem.W.Frag} {c : Clz} {H : Hp} : ∀ {xs ys : List V} {rs ss : List Rw1}, xs.length = rs.length → RowsAt K c H (xs ++ ys) (rs ++ ss) → RowsAt K c H xs rs
  | [], _, [], _, _, _ => trivial
  | [], _, _ :: _, _, e, _ => nomatch e
  | _ :: _, _, [], _, e, _ => nomatch e
  | _ :: _, _, _ :: _, _, e, ⟨a, t⟩ => ⟨a, rowsAt_left (Nat.succ.inj e) t⟩
theorem cutV1 (xs : List V) : cutV xs none (some 1) = xs.take 1 := by
  show List.take (HT.sIx xs.length xs.length (some 1) - HT.sIx xs.length 0 none) (List.drop (HT.sIx xs.length 0 none) xs) = _
  rw [show HT.sIx xs.length 0 none = 0 from rfl, sIx1, List.drop_zero, Nat.sub_zero]
  by_cases c : 1 ≤ xs.length
  · rw [Nat.min_eq_left c]
  · have : xs = [] := List.eq_nil_of_length_eq_zero (by omega)
    subst this
    rfl
theorem cutVm (xs : List V) (v : V) : cutV (xs ++ [v]) none (some (-1)) = xs := by
  show List.take (HT.sIx (xs ++ [v]).length (xs ++ [v]).length (some (-1)) - HT.sIx (xs ++ [v]).length 0 none) (List.drop (HT.sIx (xs ++ [v]).length 0 none) (xs ++ [v])) = _
  have e : HT.sIx (xs ++ [v]).length (xs ++ [v]).length (some (-1)) = xs.length := by
    show (if (-1 : Int) < 0 then ((-1 : Int) + (((xs ++ [v]).length : Nat) : Int)).toNat else min (-1 : Int).toNat (xs ++ [v]).length) = _
    rw [if_pos (by decide), List.length_append, List.length_singleton]
    omega
  have e0 : HT.sIx (xs ++ [v]).length 0 none = 0 := rfl
  rw [e0, e, List.drop_zero, Nat.sub_zero, List.take_left' rfl]
theorem NotesAt.take {H : Hp} : ∀ {xs : List V} {ms : List (Str × Int)} (i : Nat), NotesAt H xs ms → NotesAt H (xs.take i) (ms.take i)
  | [], [], _, _ => by rw [List.take_nil, List.take_nil]; trivial
  | _ :: _, _ :: _, 0, _ => trivial
  | _ :: _, _ :: _, i + 1, ⟨a, t⟩ => ⟨a, NotesAt.take i t⟩
theorem notesOk_take {ns : List (Str × Int)} (i : Nat) (h : NotesOk ns) : NotesOk (ns.take i) := ⟨fun m hm => h.1 m (List.mem_of_mem_take hm), ((List.take_sublist i ns).map _).nodup h.2⟩
def dueV (H : Hp) (v : V) : Option Str → Prop
  | none => v = .non
  | some z => ∃ t, v = .ref t ∧ H t = some (.tup [.str "note", .str z, .bl true])
theorem uses_of {ns : List (Str × Int)} {rs : List Rw1} (h : missN ns rs = none) : UsesOk ns rs := fun r hr z hz => by
  have := List.find?_eq_none.mp h z (List.mem_flatMap.mpr ⟨r, hr, hz⟩)
  simpa using this
end Pg
section
variable {P : Program} {w : World} {K : PySem.W.Frag} {mg : Str → Option Value} {base : Heap}
theorem ok_lprog {f : Addr} {fd : FuncData} (F : Fun K "_law_program" "_law_program" S__law_program f fd) (T : Txt K mg) (C_draw : FnC P w K mg base CX0 1 "_law_draw" ["_law_deal_here", "_law_many"] sp_draw) (C_rowsA : ∀ d : Nat, FnC P w K mg base CX0 (2 * d + 6) "_law_rows" ["_law_deal_here", "_law_world_here", "_law_many", "_law_deep", "_law_can_make"] (sp_rows d)) (C_bounded : FnC P w K mg base CX0 7 "_law_bounded" ["_law_rows_here", "_law_most", "_law_least"] (sp_bounded 4)) : FnOk P w K mg base CX0 12 f fd ["_law_deal_here", "_law_world_here", "_law_most"] sp_lprog := by
  refine F.ok SC__law_program (fun vs H Q E h => ?_) (fun cdv A outer s H vs Q E hr h => ?_)
  · obtain ⟨_, _, _, _, _, rfl, _⟩ := h
    rfl
  · obtain ⟨B, w, ns, ms, m, rfl, hb, hw, m0, m1, k⟩ := h
    refine ⟨_, (pss_one (ps_ret (pe_callC C_bounded (hr.mono (by omega)) rfl (pa_cons (pe_callC (C_rowsA 2) (hr.mono (by omega)) rfl (pa_cons (pv 0) (pa_cons (pv 1) (pa_cons (pe_op op_add pe_int (pe_callC C_draw (hr.mono (by omega)) rfl (pa_cons (pv 0) (pa_cons (pv 2) pa_nil)))) (pa_cons pe_int (pa_cons pe_bl pa_nil)))))) (pa_cons (pv 2) (pa_cons pe_int pa_nil)))))), ?_⟩
    refine ⟨_, rfl, _, rfl, _, rfl, _, rfl, B, m, rfl, hb, by omega, by omega, fun dd H4 e0 e1 kp4 hb4 => ⟨_, _, rfl, rfl, ?_⟩⟩
    refine ⟨B, w, ns, ms, 1 + dd, true, rfl, hb4, hw.keep hb kp4, by omega, by omega, fun rs p xs H5 hp hrd hl hdr kp5 hb5 => ?_⟩
    have dpr := hdr.dp
    have szr : (innerL rs).length ≤ 900 := by
      have h1 := hdr.sz
      have h2 := Nat.mul_le_mul_left rs.length (szR_3 (d := 2) (by omega))
      have h3 : rs.length ≤ 10 := by omega
      have h4 := Nat.mul_le_mul_right 85 h3
      omega
    refine ⟨_, rfl, p, xs, rs, m, 6, rfl, hp, hrd, hdr.ok, by omega, by decide, szr, by omega, by omega, by decide, fun q ys rs' H6 s6 hq hys hsub hin _ => ?_⟩
    have ok' : okL rs' := okL_of fun z hz => okL_mem hdr.ok z (hsub.subset hz)
    have dp' : deepL rs' ≤ 2 := deepL_of fun z hz => Nat.le_trans (deepL_mem (hsub.subset hz)) (by omega)
    have us' : UsesOk ns rs' := DrawnL.us (d := 2) (cm := true) fun z hz => hdr z (hsub.subset hz)
    exact k rs' q ys H6 hq hys ok' dp' us' hin (kp4.trans (kp5.trans (Keep.same s6))) (hb5.same s6)
theorem SqV.sm {K : PySem.W.Frag} {H H' : Hp} (s : Same H H') {p : Addr} {zs : List V} (h : SqV K H p zs) : SqV K H' p zs := by
  rcases h with h | h | h | ⟨o, h⟩
  · exact .inl (s _ _ h)
  · exact .inr (.inl (s _ _ h))
  · exact .inr (.inr (.inl h))
  · exact .inr (.inr (.inr ⟨o, s _ _ h⟩))
theorem ok_pgofV {f CP : Addr} {fd : FuncData} {c : Clz} (F : Fun K "_law_program_of" "_law_program_of" S__law_program_of f fd) (T : Txt K mg) (C_rsof : FnC P w K mg base CX0 24 "_law_rows_of" ["_law_rows_here"] (sp_rsof K c 4)) (Mp2 : MkC P w K mg base CX0 25 CP "Program" ["self", "rows", "notes"] (calm (sp_pginit K c CP))) : FnOk P w K mg base CX0 27 f fd ["_law_notes", "_law_rows_here"] (sp_pgofV K c CP) := by
  refine F.ok SC__law_program_of (fun vs H Q E h => ?_) (fun cdv A outer s H vs Q E hr h => ?_)
  · obtain ⟨a, p, ws, xs, ns, rs, rfl, _⟩ := h
    rfl
  · obtain ⟨a, p, ws, xs, ns, rs, rfl, ha, hns, no, us, nl, hp, hrs, ok, dp, sz, k⟩ := h
    refine ⟨_, (pss_one (ps_ret (pe_makeC Mp2 (hr.mono (by omega)) rfl (pa_cons (pe_callC C_rsof (hr.mono (by omega)) rfl (pa_cons (pv 1) pa_nil)) (pa_cons (pv 0) pa_nil))))), ?_⟩
    refine ⟨_, rfl, p, xs, rs, rfl, hp, hrs, ok, by omega, by decide, sz, fun l H1 ys s1 n1 h1 hr1 => ⟨_, rfl, fun x dx nx nd ne => ?_⟩⟩
    have sm := mk_at (C := CP) nx nd
    refine ⟨x, dx, l, a, ys, ws, rs, ns, rfl, upd_same, .inl (sm _ _ h1), hr1.tk (TK.same sm), (SqV.sm (s1.trans sm) ha), hns.tk (TK.same (s1.trans sm)), no, us, by omega, sz, by omega, fun H2 kp hpr => ⟨rfl, ?_⟩⟩
    exact k x H2 (s1.trans (mk_sm nx nd kp)) (s1.free nx) hpr
theorem lamD_ref {g NR NN IR U : Addr} {fd : FuncData} (F : Fun K "_law_refused" "_law_refused" S__law_refused g fd) (T : Txt K mg) (E_NoRow : Er1 P w K mg base "NoRow" NR "at" "at") (E_NoNote : Er1 P w K mg base "NoNote" NN "name" "name") (E_InvalidRow : Er1 P w K mg base "InvalidRow" IR "part" "part") (E_UnmarkedError : NmC mg "UnmarkedError" U)
    (x1 : ExcC K NR) (x2 : ExcC K NN) (x3 : ExcC K IR) (XF1 : XfC K NR) (XF2 : XfC K NN) (XF3 : XfC K IR) (NF1 : PySem.W.findIn K (.ref NR) "at" = some none) (NF2 : PySem.W.findIn K (.ref NN) "name" = some none) (NF3 : PySem.W.findIn K (.ref IR) "part" = some none)
    (m11 : PySem.W.exmOne K (.ref NR) (.ref NR) = some true) (m21 : PySem.W.exmOne K (.ref NN) (.ref NR) = some false) (m22 : PySem.W.exmOne K (.ref NN) (.ref NN) = some true) (m31 : PySem.W.exmOne K (.ref IR) (.ref NR) = some false) (m32 : PySem.W.exmOne K (.ref IR) (.ref NN) = some false) (m33 : PySem.W.exmOne K (.ref IR) (.ref IR) = some true)
    (k1 : PySem.W.kitOne K (.ref NR) (.ref U) = some true) (k2 : PySem.W.kitOne K (.ref NN) (.ref U) = some true) (k3 : PySem.W.kitOne K (.ref IR) (.ref U) = some true) (hm : mg "_law_refused" = some (.ref g)) (hk : PySem.W.keepIn K (.ref g) = true) (hb : L2.Binds K fd ["_law_work"] []) : LamD P w K mg base 30 "_law_refused" "_law_work" (TTp NR NN IR) := by
  refine ⟨g, S__law_refused, fd, N__law_refused, F, SC__law_refused, hm, hk, hb, rfl, .inl rfl, fun cdv A outer s H f c' q Q tl hr act hc tt => ?_⟩
  refine ⟨_, (pss_cons (ps_set (i := 1) SC__law_refused.nd rfl (.inl rfl) pe_non)
      (pss_cons (ps_tryCl rfl rfl LamX.takes0 (fun W pn xe tk hp => (pss_one (ps_expr (act _ _ _ _ _ tk))))
      (.nm (i := 2) SC__law_refused.nd rfl rfl ⟨by rfl, by decide, .inl E_NoRow.nm⟩ (fun a oe cls d pn hz hf => (pss_one (ps_set (i := 1) SC__law_refused.nd rfl (.inl rfl) (pe_tupN (pa_cons pe_str (pa_cons (pe_xf XF1 NF1 hz hf (pv 2)) (pa_cons (pe_callB (call_isX hz hf) (by rfl) T.b_isinstance (by decide +kernel) (pa_cons (pv 2) (pa_cons (pe_glob (v := .ref _) (by rfl) E_UnmarkedError.nm rfl) pa_nil))) pa_nil)))))))
      (.nm (i := 2) SC__law_refused.nd rfl rfl ⟨by rfl, by decide, .inl E_NoNote.nm⟩ (fun a oe cls d pn hz hf => (pss_one (ps_set (i := 1) SC__law_refused.nd rfl (.inl rfl) (pe_tupN (pa_cons pe_str (pa_cons (pe_xf XF2 NF2 hz hf (pv 2)) (pa_cons (pe_callB (call_isX hz hf) (by rfl) T.b_isinstance (by decide +kernel) (pa_cons (pv 2) (pa_cons (pe_glob (v := .ref _) (by rfl) E_UnmarkedError.nm rfl) pa_nil))) pa_nil)))))))
      (.nm (i := 2) SC__law_refused.nd rfl rfl ⟨by rfl, by decide, .inl E_InvalidRow.nm⟩ (fun a oe cls d pn hz hf => (pss_one (ps_set (i := 1) SC__law_refused.nd rfl (.inl rfl) (pe_tupN (pa_cons pe_str (pa_cons (pe_xf XF3 NF3 hz hf (pv 2)) (pa_cons (pe_callB (call_isX hz hf) (by rfl) T.b_isinstance (by decide +kernel) (pa_cons (pv 2) (pa_cons (pe_glob (v := .ref _) (by rfl) E_UnmarkedError.nm rfl) pa_nil))) pa_nil)))))))
      ClOk.nil))))
      (pss_one (ps_ret (pv 1))))), ?_⟩
  refine ⟨rfl, hc, tt _ _ ⟨fun dd v H1 hd kq => ?_, fun dd v H1 hd kq => ?_, fun dd v H1 hd kq => ?_, fun v H1 kq => ?_⟩⟩
  · refine ⟨true, m11, fun _ at_ hn => ?_, fun h => nomatch h⟩
    refine ⟨_, rfl, rfl, rfl, dd, _, _, rfl, upd_same, rfl, _, rfl, NR, .ref U, .ref U, true, dd, _, rfl, rfl, upd_same, x1, rfl, fun u h => h, k1, by show 3 ≤ 1000000; decide, fun t H2 _ s2 h2 => ?_⟩
    exact ⟨_, rfl, kq t H2 s2 h2⟩
  · refine ⟨false, m21, (fun h => nomatch h), fun _ => ⟨true, m22, fun _ at_ hn => ?_, fun h => nomatch h⟩⟩
    refine ⟨_, rfl, rfl, rfl, dd, _, _, rfl, upd_same, rfl, _, rfl, NN, .ref U, .ref U, true, dd, _, rfl, rfl, upd_same, x2, rfl, fun u h => h, k2, by show 3 ≤ 1000000; decide, fun t H2 _ s2 h2 => ?_⟩
    exact ⟨_, rfl, kq t H2 s2 h2⟩
  · refine ⟨false, m31, (fun h => nomatch h), fun _ => ⟨false, m32, (fun h => nomatch h), fun _ => ⟨true, m33, fun _ at_ hn => ?_, fun h => nomatch h⟩⟩⟩
    refine ⟨_, rfl, rfl, rfl, dd, _, _, rfl, upd_same, rfl, _, rfl, IR, .ref U, .ref U, true, dd, _, rfl, rfl, upd_same, x3, rfl, fun u h => h, k3, by show 3 ≤ 1000000; decide, fun t H2 _ s2 h2 => ?_⟩
    exact ⟨_, rfl, kq t H2 s2 h2⟩
  · exact ⟨_, rfl, kq⟩
theorem ok_law {f CP NR NN IR cL PT eR eP : Addr} {IC : Addr} {fd : FuncData} {c : Clz} (F : Fun K "law" "law" S_law f fd) (T : Txt K mg) (hcL : fd.code = .ref cL) (TB : LamX.TabB base mg cL PT) (Hc : Hi K mg c) (Mt : MkT P w K mg base c IR) (Mr : MkR P w K mg base c IR IC) (Pt : PgT K CP) (IXP : IxC K CP) (hE : ∀ H, SqV K H eP []) (hE2 : ∀ H, SqV K H eR []) (hneP : PySem.W.findIn K (.ref CP) "__ne__" = some (some (.builtin "object.__ne__"))) (hobP : PySem.W.subIn K (.ref CP) (.type "object") = some true) (hnf : PySem.W.notFirst K CP (.ref CP) = true) (hnfs : PySem.W.notFirst K CP (.type "str") = true) (hks : PySem.W.kitOne K (.type "str") (.ref CP) = some false) (M_pgeqB : MtC P w K mg base CX0 4 CP "__eq__" ["self", "other"] (sp_pgeqB K c CP)) (M_pgstr : MtC P w K mg base CX0 4 CP "__str__" ["self"] (sp_pgstr K c CP)) (Mp : MkC P w K mg base CX0 25 CP "Program" ["self", "rows", "notes"] (calm (sp_pginit K c CP))) (Mp0 : MkD P w K mg base CX0 25 CP "Program" ["self", "rows", "notes"] (calm (sp_pginit K c CP)) [.ref eR, .ref eP])
    (Mpx : MkC P w K mg base (L2.CX P w) 25 CP "Program" ["self", "rows", "notes"] (sp_pgX K c CP IR NN)) (M_plen : MtC P w K mg base CX0 2 CP "__len__" ["self"] (sp_plen K c CP)) (M_pitemX : MtC P w K mg base (L2.CX P w) 8 CP "__getitem__" ["self", "at"] (sp_pitem K c CP NR)) (D_ref : LamD P w K mg base 30 "_law_refused" "_law_work" (TTp NR NN IR)) (C_lprog : FnC P w K mg base CX0 12 "_law_program" ["_law_deal_here", "_law_world_here", "_law_most"] sp_lprog)
    (C_deal : FnC P w K mg base CX0 1 "_law_deal" ["_law_script", "_law_base"] (sp_deal K)) (C_pick : FnC P w K mg base CX0 2 "_law_pick" ["_law_deal_here", "_law_some"] (sp_pick K)) (C_world : FnC P w K mg base CX0 4 "_law_world" ["_law_deal_here"] sp_world) (C_rsof : FnC P w K mg base CX0 24 "_law_rows_of" ["_law_rows_here"] (sp_rsof K c 4)) (C_pgofV : FnC P w K mg base CX0 27 "_law_program_of" ["_law_notes", "_law_rows_here"] (sp_pgofV K c CP)) (C_dlines : FnC P w K mg base CX0 11 "_law_lines" ["_law_rows_here"] (sp_dlines 6)) (C_used : FnC P w K mg base CX0 8 "_law_used" ["_law_rows_here"] sp_used) (C_wrong : FnC P w K mg base CX0 4 "_law_wrong_notes" ["_law_deal_here"] (sp_wrong K))
    (C_told : FnG P w K mg base CX0 13 "_law_told_right" ["_law_program_here", "_law_notes", "_law_rows_here"] (sp_told K c CP)) (C_twice : FnG P w K mg base CX0 27 "_law_twice_right" ["_law_notes", "_law_rows_here"] (sp_twice K)) : FnOkG P w K mg base CX0 34 f fd ["_law_script"] (sp_law38 K PT) := by
  refine okTG F SC_law hcL (fun vs H Q E h => ?_) (fun A outer s H vs Q E hgd hr h => ?_)
  · obtain ⟨a, ns, rfl, _⟩ := h
    rfl
  · obtain ⟨a, ns, rfl, hPT, ha, hn, k⟩ := h
    refine ⟨_, (pss_cons (ps_set (i := 1) SC_law.nd rfl (.inl rfl) (pe_callC C_deal (hr.mono (by omega)) rfl (pa_cons (pv 0) (pa_cons pe_int pa_nil))))
      (pss_cons (ps_for (passes_of rfl) rfl (pi_range1 (by rfl) T.b_range (pa_cons pe_int pa_nil)) (pg_name (i := 2) SC_law.nd rfl (.inl rfl)) (pss_cons (ps_asg (pe_tupN (pa_cons (pe_callC C_world (hr.mono (by omega)) rfl (pa_cons (pv 1) pa_nil)) (pa_cons (pe_callC C_world (hr.mono (by omega)) rfl (pa_cons (pv 1) pa_nil)) pa_nil))) (pg_tup rfl (pgs_cons (pg_name (i := 3) SC_law.nd rfl (.inr rfl)) (pgs_cons (pg_name (i := 4) SC_law.nd rfl (.inl rfl)) pgs_nil))))
      (pss_cons (ps_asg (pe_tupN (pa_cons (pe_callC C_lprog (hr.mono (by omega)) rfl (pa_cons (pv 1) (pa_cons (pv 3) (pa_cons pe_int pa_nil)))) (pa_cons (pe_callC C_lprog (hr.mono (by omega)) rfl (pa_cons (pv 1) (pa_cons (pv 4) (pa_cons pe_int pa_nil)))) pa_nil))) (pg_tup rfl (pgs_cons (pg_name (i := 5) SC_law.nd rfl (.inr rfl)) (pgs_cons (pg_name (i := 6) SC_law.nd rfl (.inl rfl)) pgs_nil))))
      (pss_cons (ps_asg (pe_tupN (pa_cons (pe_callC C_rsof (hr.mono (by omega)) rfl (pa_cons (pv 5) pa_nil)) (pa_cons (pe_callTy call_list_of (by rfl) T.b_list (by decide +kernel) (pa_cons (pe_ix ix_tup (pv 3) pe_int (fun _ _ => rfl)) pa_nil)) pa_nil))) (pg_tup rfl (pgs_cons (pg_name (i := 7) SC_law.nd rfl (.inr rfl)) (pgs_cons (pg_name (i := 8) SC_law.nd rfl (.inl rfl)) pgs_nil))))
      (pss_cons (ps_set (i := 9) SC_law.nd rfl (.inr rfl) (pe_makeC Mp (hr.mono (by omega)) rfl (pa_cons (pv 7) (pa_cons (pv 8) pa_nil))))
      (pss_cons (ps_expr (pe_bm PySem.F.plainAttrs_list PySem.F.slot_list_append PySem.F.type_list_append mt_append (pv 7) (pa_cons (pe_make0C Mr.lay (hr.mono (by omega)) rfl) pa_nil)))
      (pss_cons (ps_expr (pe_bm PySem.F.plainAttrs_list PySem.F.slot_list_append PySem.F.type_list_append mt_append (pv 8) (pa_cons (pe_tupN (pa_cons pe_str (pa_cons pe_int pa_nil))) pa_nil)))
      (pss_cons (ps_par (i := 10) (j := 11) (by rfl) SC_law.nd rfl rfl (by decide) rfl rfl (pa_cons (pe_callC C_pgofV (hr.mono (by omega)) rfl (pa_cons (pe_callTy call_tuple_of (by rfl) T.b_tuple (by decide +kernel) (pa_cons (pe_ix ix_tup (pv 3) pe_int (fun _ _ => rfl)) pa_nil)) (pa_cons (pv 5) pa_nil))) (pa_cons (pe_callC C_pgofV (hr.mono (by omega)) rfl (pa_cons (pe_ix ix_tup (pv 4) pe_int (fun _ _ => rfl)) (pa_cons (pv 6) pa_nil))) pa_nil)) (by rfl))
      (pss_cons (ps_if (pt_not (pt_val (pe_callG C_twice hgd (hr.mono (by omega)) rfl (pa_cons (pe_ix ix_tup (pv 3) pe_int (fun _ _ => rfl)) (pa_cons (pv 5) pa_nil))))) (pss_one (ps_ret pe_bl)) pss_nil)
      (pss_cons (ps_if (PW.pt (pw_or (pt_not (pt_val (pe_callG C_told hgd (hr.mono (by omega)) rfl (pa_cons (pv 9) (pa_cons (pe_ix ix_tup (pv 3) pe_int (fun _ _ => rfl)) (pa_cons (pv 5) pa_nil)))))) (pw_or (pt_cmpR (op_neI M_pgeqB hneP hobP (hr.mono (by omega))) (pv 9) (pv 10) (nomark _)) (pw_or1 (pt_cmpR (op_ownI (op := .Eq) (fun _ _ => rfl) M_pgeqB (hr.mono (by omega))) (pv 9) (pe_callTy (call_strC M_pgstr (hr.mono (by omega))) (by rfl) T.b_str (by decide +kernel) (pa_cons (pv 9) pa_nil)) (nomark _)))))) (pss_one (ps_ret pe_bl)) pss_nil)
      (pss_cons (ps_if (pt_cmpR op_ne (pe_cmpR (op_ownI (op := .Eq) (fun _ _ => rfl) M_pgeqB (hr.mono (by omega))) (pv 9) (pv 11) (nomark _)) (pe_cmpR (op_eqD hr.units) (pe_tupN (pa_cons (pe_ix ix_tup (pv 3) pe_int (fun _ _ => rfl)) (pa_cons (pe_callC C_dlines (hr.mono (by omega)) rfl (pa_cons (pv 5) pa_nil)) pa_nil))) (pe_tupN (pa_cons (pe_ix ix_tup (pv 4) pe_int (fun _ _ => rfl)) (pa_cons (pe_callC C_dlines (hr.mono (by omega)) rfl (pa_cons (pv 6) pa_nil)) pa_nil))) (nomark _)) (nomark _)) (pss_one (ps_ret pe_bl)) pss_nil)
      (pss_cons (ps_set (i := 12) SC_law.nd rfl (.inl rfl) (pe_callB (call_lenC M_plen (hr.mono (by omega))) (by rfl) T.b_len (by decide +kernel) (pa_cons (pv 9) pa_nil)))
      (pss_cons (ps_set (i := 13) SC_law.nd rfl (.inr rfl) (pe_callC C_pick (hr.mono (by omega)) rfl (pa_cons (pv 1) (pa_cons (pe_lstN (pa_cons (pv 12) (pa_cons (pe_un un_neg pe_int) (pa_cons (pe_op op_pow pe_int pe_int) (pa_cons (pe_op op_sub (pe_op op_sub pe_int (pv 12)) pe_int) (pa_cons (pe_op op_add (pv 12) pe_int) pa_nil)))))) pa_nil))))
      (pss_cons (ps_if (pt_cmpR (op_neD hr.units) (pe_lamS (m := 28) D_ref rfl TB rfl (hr.mono (by omega)) (by decide) (LamX.lamS_by (sc := defScope S_law) (by decide +kernel)) rfl (fun _ _ _ _ _ => rfl) (fun A outer s H E f c' hr => (pe_ixS M_pitemX IXP (hr.mono (by omega)) (takes_of rfl rfl rfl rfl) (pv 9) (pv 13)))) (pe_tupN (pa_cons pe_str (pa_cons (pv 13) (pa_cons pe_bl pa_nil)))) (nomark _)) (pss_one (ps_ret pe_bl)) pss_nil)
      (pss_cons (ps_set (i := 14) SC_law.nd rfl (.inr rfl) (pe_callC C_wrong (hr.mono (by omega)) rfl (pa_cons (pv 1) pa_nil)))
      (pss_cons (ps_for (passes_of rfl) rfl (pi_tup (pe_tupN (pa_cons (pe_lstN (pa_cons pe_non pa_nil)) (pa_cons (pe_lstN (pa_cons (pe_make0C Mr.lay (hr.mono (by omega)) rfl) pa_nil)) (pa_cons (pe_lstN (pa_cons (pe_makeC Mr.put (hr.mono (by omega)) rfl (pa_cons pe_str (pa_cons pe_int pa_nil))) pa_nil)) (pa_cons pe_str pa_nil)))))) (pg_name (i := 15) SC_law.nd rfl (.inr rfl)) (pss_one (ps_if (pt_cmpR (op_neD hr.units) (pe_lamS (m := 28) D_ref rfl TB rfl (hr.mono (by omega)) (by decide) (LamX.lamS_by (sc := defScope S_law) (by decide +kernel)) rfl (fun _ _ _ _ _ => rfl) (fun A outer s H E f c' hr => (pe_makeS Mpx (hr.mono (by omega)) (takes_of rfl rfl rfl rfl) rfl (pa_cons (pv 15) (pa_cons (pv 14) pa_nil))))) (pe_tupN (pa_cons pe_str (pa_cons pe_str (pa_cons pe_bl pa_nil)))) (nomark _)) (pss_one (ps_ret pe_bl)) pss_nil)))
      (pss_cons (ps_if (pt_cmpR (op_neD hr.units) (pe_lamS (m := 28) D_ref rfl TB rfl (hr.mono (by omega)) (by decide) (LamX.lamS_by (sc := defScope S_law) (by decide +kernel)) rfl (fun _ _ _ _ _ => rfl) (fun A outer s H E f c' hr => (pe_makeS Mpx (hr.mono (by omega)) (takes_of rfl rfl rfl rfl) rfl (pa_cons (pe_op op_cat (pv 7) (pe_lstN (pa_cons (pe_make0C Mt.longer (hr.mono (by omega)) rfl) pa_nil))) (pa_cons (pe_lstN pa_nil) pa_nil))))) (pe_tupN (pa_cons pe_str (pa_cons pe_str (pa_cons pe_bl pa_nil)))) (nomark _)) (pss_one (ps_ret pe_bl)) pss_nil)
      (pss_cons (ps_setLc (i := 16) (own := [("_law_name_here", 18)]) (g := gName 18) (by rfl) SC_law.nd rfl rfl (sw_true rfl rfl rfl (by decide +kernel)) (pi_list (pe_callC C_used (hr.mono (by omega)) rfl (pa_cons (pv 5) pa_nil))) (blkOk_by (own := [("_law_name_here", 18)]) (N := N_law) (sc := defScope S_law) (by decide +kernel)) (fun _ _ _ _ _ => pg_name (i := 18) SC_law.nd rfl (Or.inl rfl)) (fun _ _ _ _ _ => pts_one (pt_cmpR (op_notIn_seqK (K := K) rfl) (pv 18) (pe_lc (own := [("_law_pair", 19)]) (g := gName 19) (by rfl) SC_law.nd (pi_listK (K := K) rfl (pe_slice (sl_listK (K := K) rfl) (pe_ix (ix_tupK (K := K) rfl) (pv 3) pe_int (fun _ _ => rfl)) po_none (po_some pe_int))) (blkOk_by (own := [("_law_pair", 19)]) (N := N_law) (by kernel_rfl)) (fun _ _ _ _ _ => pg_name (i := 19) SC_law.nd rfl (Or.inl rfl)) (fun _ _ _ _ _ => pts_nil) (fun _ _ _ _ _ => (pe_ix (ix_tupK (K := K) rfl) (pv 19) pe_int (fun _ _ => rfl)))) (by rfl))) (fun _ _ _ _ _ => (pv 18)))
      (pss_mid (ps_set (i := 17) SC_law.nd rfl (.inl rfl) (pe_ifExp (pt_cmpR (op_neD hr.units) (pv 16) (pe_lstN pa_nil) (nomark _)) (pe_tupN (pa_cons pe_str (pa_cons (pe_ix ix_list (pv 16) pe_int (fun _ _ => rfl)) (pa_cons pe_bl pa_nil)))) pe_non))
      (pss_mid (ps_if (pt_cmpR (op_neD hr.units) (pe_lamS (m := 28) D_ref rfl TB rfl (hr.mono (by omega)) (by decide) (LamX.lamS_by (sc := defScope S_law) (by decide +kernel)) rfl (fun _ _ _ _ _ => rfl) (fun A outer s H E f c' hr => (pe_makeS Mpx (hr.mono (by omega)) (takes_of rfl rfl rfl rfl) rfl (pa_cons (pe_callC C_rsof (hr.mono (by omega)) rfl (pa_cons (pv 5) pa_nil)) (pa_cons (pe_slice (sl_listK (K := K) rfl) (pe_ix (ix_tupK (K := K) rfl) (pv 3) pe_int (fun _ _ => rfl)) po_none (po_some pe_int)) pa_nil))))) (pv 17) (nomark _)) (pss_one (ps_ret pe_bl)) pss_nil)
      (pss_one (ps_if (PW.pt (pw_or (pt_cmpR (op_ownI (op := .Eq) (fun _ _ => rfl) M_pgeqB (hr.mono (by omega))) (pe_makeC Mp (hr.mono (by omega)) rfl (pa_cons (pv 7) (pa_cons (pe_ix ix_tup (pv 3) pe_int (fun _ _ => rfl)) pa_nil))) (pe_makeC Mp (hr.mono (by omega)) rfl (pa_cons (pe_slice sl_list (pv 7) po_none (po_some (pe_un un_neg pe_int))) (pa_cons (pe_ix ix_tup (pv 3) pe_int (fun _ _ => rfl)) pa_nil))) (nomark _)) (pw_or1 (pt_cmpR (op_neI M_pgeqB hneP hobP (hr.mono (by omega))) (pe_makeD0 Mp0 (hr.mono (by omega)) rfl) (pe_makeC Mp (hr.mono (by omega)) rfl (pa_cons (pe_lstN pa_nil) (pa_cons (pe_lstN pa_nil) pa_nil))) (nomark _))))) (pss_one (ps_ret pe_bl)) pss_nil))))))))))))))))))))))
      (pss_one (ps_ret pe_bl)))), ?_⟩
    refine ⟨_, rfl, a, ns, 0, rfl, by decide, ha, hn, fun B H1 _ _ s1 hb1 => ?_⟩
    refine ⟨5, rfl, by decide, by decide, ?_⟩
    refine for_range (lo := 0) (fun i σ H' => BoxAt H' B ∧ LamX.Tabs (lamT PT) H' ∧ ∃ y2 y3 y4 y5 y6 y7 y8 y9 y10 y11 y12 y13 y14 y15 y16 y17 y18 y19 : Option V, σ = [some (.ref a), some (.ref B.1), y2, y3, y4, y5, y6, y7, y8, y9, y10, y11, y12, y13, y14, y15, y16, y17, y18, y19]) ⟨hb1, tabs_new (s1 _ _ hPT), _, _, _, _, _, _, _, _, _, _, _, _, _, _, _, _, _, _, rfl⟩ (fun i σ H' hi m => ?_) (fun σ H' m => ?_)
    · obtain ⟨hb, tb, y2, y3, y4, y5, y6, y7, y8, y9, y10, y11, y12, y13, y14, y15, y16, y17, y18, y19, rfl⟩ := m
      -- the worlds
      refine ⟨_, rfl, B, rfl, hb, fun wd nt ms H2 hw nok kp2 hb2 => ⟨_, rfl, B, rfl, hb2, fun wm mt ms2 H3 hm mok kp3 hb3 => ⟨by show 2 ≤ 1000000; decide, fun t1 H4 n4 s4 h4 => ?_⟩⟩⟩
      refine ⟨t1, _, rfl, SqT.of h4, rfl, _, _, rfl, _, _, rfl, rfl, ?_⟩
      have hb4 := hb3.same s4
      have hw4 := (hw.keep hb2 kp3).keep hb3 (Keep.same s4)
      have hm4 := hm.keep hb3 (Keep.same s4)
      have tb4 := tabs_keep hb (kp2.trans (kp3.trans (Keep.same s4))) tb
      clear hw hm h4 n4 s4 kp2 kp3 hb2 hb3 hb tb
      -- the rows
      refine ⟨_, rfl, _, rfl, B, wd, nt, ms, 10, rfl, hb4, hw4, by decide, by decide, fun rs p xs H5 hp hrs ok dp us sz kp5 hb5 => ?_⟩
      have hm5 := hm4.keep hb4 kp5
      refine ⟨_, rfl, _, rfl, B, wm, mt, ms2, 3, rfl, hb5, hm5, by decide, by decide, fun ss q ys H6 hq hss oks dps uss sz2 kp6 hb6 => ⟨by show 2 ≤ 1000000; decide, fun t2 H7 n7 s7 h7 => ?_⟩⟩
      refine ⟨t2, _, rfl, SqT.of h7, rfl, _, _, rfl, _, _, rfl, rfl, ?_⟩
      have hb7 := hb6.same s7
      have k67 := kp6.trans (Keep.same s7)
      have k47 := kp5.trans k67
      have t57 := TK.keep hb5 k67
      have hw7 := hw4.keep hb4 k47
      have hm7 := hm4.keep hb4 k47
      have hp7 := t57 _ _ rfl hp
      have hrs7 := hrs.tk t57
      have hq7 := s7 _ _ hq
      have hss7 := hss.tk (TK.same s7)
      have tb7 := tabs_keep hb4 k47 tb4
      obtain ⟨wa, wb, wxs, hwd, na, nb, hwa, hns, l2, _⟩ := id hw7
      obtain ⟨ma, mb, mxs, hmd, nma, nmb, hma, hmx, lm2, _⟩ := id hm7
      have lxs := hrs7.len
      have lr := len_innerL rs
      have lwx := hns.len
      clear hw4 hm4 hm5 hw7 hm7 hp hrs hq hss h7 n7 s7 kp5 kp6 k67 k47 t57 hb4 hb5 hb6 tb4
      dsimp only [List.set_cons_succ, List.set_cons_zero]
      have W7 := Hb.start hb7
      -- the rows as objects, the notes
      refine ⟨_, rfl, p, xs, rs, rfl, hp7, hrs7, ok, by omega, by decide, by omega, fun l H8 zs s8 n8 h8 hz => ?_⟩
      have W8 := W7.got n8 s8 h8
      refine ⟨_, rfl, wd, _, 0, .ref wa, rfl, rfl, SqT.of (s8 _ _ hwd), rfl, wa, wxs, rfl, .inl (SqL.of (s8 _ _ hwa)), fun lh nlh => ?_⟩
      have W9 := W8.new nlh (.lst wxs)
      have t89 : TK H8 (upd H8 lh (.lst wxs)) := TK.same (sm_new nlh)
      generalize upd H8 lh (.lst wxs) = H9 at *
      refine ⟨by show 2 ≤ 1000000; decide, W9.nw fun t3 H10 _ n10 s10 W10 => ?_⟩
      refine ⟨t3, _, rfl, SqT.of (W10.get (.head _)), rfl, _, _, rfl, _, _, rfl, rfl, ?_⟩
      have hz10 := hz.tk (t89.trans (TK.same s10))
      have W10 := W10.tl
      clear hz t89 s10 n10 h8 n8 s8 W8 W9
      have lz := hz10.len
      dsimp only [List.set_cons_succ, List.set_cons_zero]
      -- the program
      refine ⟨_, rfl, _, rfl, fun x dx nx nd ne => ?_⟩
      have sm := mk_at (C := CP) nx nd
      refine ⟨x, dx, l, lh, zs, wxs, rs, nt, rfl, upd_same, .inl (sm _ _ (W10.get (.tail _ (.head _)))), hz10.tk (TK.same sm), .inl (sm _ _ (W10.get (.head _))), (hns.tk W10.tk).tk (TK.same sm), nok, us, by omega, by omega, by omega, fun H11 kp hpr => ⟨rfl, ?_⟩⟩
      have s11 := mk_sm nx nd kp
      have W11 := W10.same s11
      have hz11 := hz10.tk (TK.same s11)
      clear kp sm nx nd ne hz10 W10 s11
      -- a row more, a note more
      refine ⟨_, rfl, .inl ⟨rfl, _, SqL.of (W11.get (.tail _ (.head _)))⟩, fun y dy ny nyd nye => ⟨y, dy, rfl, upd_same, fun H12 kp12 hrow => ⟨rfl, ?_⟩⟩⟩
      have s12 := mk_sm ny nyd kp12
      have W12 := W11.same s12
      refine ⟨l, _, _, rfl, rfl, W12.get (.tail _ (.head _)), by show zs.length < 16777216; omega, ?_⟩
      have W13 := W12.set 1 rfl (.lst (zs ++ [.ref y]))
      have t13 : TK H12 (upd H12 l (.lst (zs ++ [.ref y]))) := TK.upd (W12.get (.tail _ (.head _))) rfl
      have hz13 : RowsAt K c (upd H12 l (.lst (zs ++ [.ref y]))) (zs ++ [.ref y]) (rs ++ [.lay]) := RowsAt.app (hz11.tk ((TK.same s12).trans t13)) ⟨⟨y, rfl, hrow.tk t13⟩, trivial⟩
      have hpr13 := hpr.tk ((TK.same s12).trans t13)
      dsimp only [List.set] at W13
      generalize upd H12 l (.lst (zs ++ [.ref y])) = H13 at *
      refine ⟨_, rfl, .inl ⟨rfl, _, SqL.of (W13.get (.head _))⟩, by show 2 ≤ 1000000; decide, W13.nw fun t4 H14 _ _ s14 W14 => ⟨lh, _, _, rfl, rfl, W14.get (.tail _ (.head _)), by show wxs.length < 16777216; omega, ?_⟩⟩
      have W15 := W14.set 1 rfl (.lst (wxs ++ [.ref t4]))
      have t15 : TK H14 (upd H14 lh (.lst (wxs ++ [.ref t4]))) := TK.upd (W14.get (.tail _ (.head _))) rfl
      have hz15 := hz13.tk ((TK.same s14).trans t15)
      have hpr15 := hpr13.tk ((TK.same s14).trans t15)
      dsimp only [List.set] at W15
      generalize upd H14 lh (.lst (wxs ++ [.ref t4])) = G at *
      have hbG := W15.box
      have tbG := tabs_keep hb7 W15.kp tb7
      have hlG := W15.get (.tail _ (.tail _ (.head _)))
      have nl := W15.ne (.tail _ (.tail _ (.head _)))
      have hwdG := W15.tk _ _ rfl hwd
      have hwaG := W15.kp _ _ na.1 na.2 hwa
      have hnsG := hns.tk W15.tk
      have hmdG := W15.tk _ _ rfl hmd
      have hmaG := W15.kp _ _ nma.1 nma.2 hma
      have hmxG := hmx.tk W15.tk
      have hpG := W15.tk _ _ rfl hp7
      have hrsG := hrs7.tk W15.tk
      have hqG := W15.tk _ _ rfl hq7
      have hssG := hss7.tk W15.tk
      clear W7 W11 W12 W13 W14 W15 hz11 hz13 hpr hpr13 t13 t15 s12 s14 hwd hwa hns hmd hma hmx hp7 hrs7 hq7 hss7 hb7 tb7 hrow kp12 ny nyd nye nlh
      dsimp only [List.set_cons_succ, List.set_cons_zero]
      obtain ⟨dX, _, _, _, _, fX, _, _, _, _, hx, _⟩ := id hpr15
      -- the same again, another one
      refine ⟨_, rfl, wd, _, 0, .ref wa, rfl, rfl, SqT.of hwdG, rfl, wa, wxs, rfl, .inl ⟨SqL.of hwaG, fun tp ntp => ?_⟩⟩
      have s16 := sm_new (o := .tup wxs) ntp
      have htp : (upd G tp (.tup wxs)) tp = some (.tup wxs) := upd_same
      generalize upd G tp (.tup wxs) = H16 at *
      refine ⟨_, rfl, tp, p, wxs, xs, nt, rs, rfl, .inr (.inl htp), hnsG.tk (TK.same s16), nok, us, by omega, s16 _ _ hpG, hrsG.tk (TK.same s16), ok, by omega, by omega, fun xa H17 s17 n17 hpa => ?_⟩
      have sG17 := s16.trans s17
      refine ⟨_, rfl, wm, _, 0, .ref ma, rfl, rfl, SqT.of (sG17 _ _ hmdG), rfl, _, rfl, ma, q, mxs, ys, mt, ss, rfl, .inl (sG17 _ _ hmaG), hmxG.tk (TK.same sG17), mok, uss, by omega, sG17 _ _ hqG, hssG.tk (TK.same sG17), oks, by omega, by omega, fun xb H18 s18 n18 hpb => ⟨_, _, rfl, ?_⟩⟩
      have sG18 := sG17.trans s18
      have hpa18 := hpa.tk (TK.same s18)
      clear s16 htp s17 n17 hpa sG17 s18 n18 ntp
      -- the first row twice
      refine ⟨_, rfl, wd, _, 0, .ref wa, rfl, rfl, SqT.of (sG18 _ _ hwdG), rfl, _, rfl, wa, p, wxs, xs, nt, rs, rfl, sG18 _ _ hwaG, hnsG.tk (TK.same sG18), nok, l2, sG18 _ _ hpG, hrsG.tk (TK.same sG18), ok, us, dp, by omega, fun H19 s19 => ⟨_, rfl, ifF rfl ?_⟩⟩
      have sG19 := sG18.trans s19
      have hpa19 := hpa18.tk (TK.same s19)
      have hpb19 := hpb.tk (TK.same s19)
      obtain ⟨dA, _, _, _, _, fA, _, _, _, _, hxa, _⟩ := id hpa19
      obtain ⟨dB, _, _, _, _, fB, _, _, _, _, hxb, _⟩ := id hpb19
      have sl := sum_linesL ok
      have oks1 := ok_strs ok
      have oks2 := ok_strs oks
      clear hpa18 hpb s19 sG18
      -- what is told
      refine ⟨_, rfl, _, rfl, wd, _, 0, .ref wa, rfl, rfl, SqT.of (sG19 _ _ hwdG), rfl, _, rfl, x, wa, p, wxs, xs, nt, rs, rfl, hpr15.tk (TK.same sG19), sG19 _ _ hwaG, hnsG.tk (TK.same sG19), nok, l2, sG19 _ _ hpG, hrsG.tk (TK.same sG19), ok, by omega, by omega, fun H20 s20 => ⟨_, rfl, ifF rfl ?_⟩⟩
      have sG20 := sG19.trans s20
      refine ⟨_, rfl, _, rfl, x, dX, fX, .ref CP, rfl, sG20 _ _ hx, tyx_ins Pt.ins (s20 _ _ hxa), hnf, x, .ref xa, nt, rs, rfl, hpr15.tk (TK.same sG20), oks1, .inr ⟨xa, nt, rs, rfl, hpa19.tk (TK.same s20), oks1, fun H21 s21 => ⟨_, rfl, _, rfl, ifF (by rw [rowsE_self]; simp) ?_⟩⟩⟩
      have sG21 := sG20.trans s21
      refine ⟨_, rfl, _, rfl, x, dX, fX, rfl, sG21 _ _ hx, x, nt, rs, rfl, hpr15.tk (TK.same sG21), by omega, by omega, fun H22 s22 => ⟨_, rfl, ?_⟩⟩
      have sG22 := sG21.trans s22
      refine ⟨x, dX, fX, .type "str", rfl, sG22 _ _ hx, .base (.str _), hnfs, x, .str _, nt, rs, rfl, hpr15.tk (TK.same sG22), oks1, .inl ⟨_, .base (.str _), hks, fun H23 s23 => ⟨_, rfl, ifF rfl ?_⟩⟩⟩
      have sG23 := sG22.trans s23
      have s19_23 := s20.trans (s21.trans (s22.trans s23))
      clear hpa19 hxa sG20 sG21 sG22 s20 s21 s22 s23
      -- the other one
      refine ⟨_, rfl, _, rfl, x, dX, fX, .ref CP, rfl, sG23 _ _ hx, tyx_ins Pt.ins (s19_23 _ _ hxb), hnf, x, .ref xb, nt, rs, rfl, hpr15.tk (TK.same sG23), oks1, .inr ⟨xb, mt, ss, rfl, hpb19.tk (TK.same s19_23), oks2, fun H24 s24 => ?_⟩⟩
      have sG24 := sG23.trans s24
      refine ⟨_, rfl, wd, _, 0, .ref wa, rfl, rfl, SqT.of (sG24 _ _ hwdG), rfl, _, rfl, p, xs, rs, rfl, sG24 _ _ hpG, hrsG.tk (TK.same sG24), ok, by omega, by decide, by omega, fun l1 H25 s25 n25 h25 => ⟨by show 2 ≤ 1000000; decide, fun u1 H26 n26 s26 h26 => ?_⟩⟩
      have sG26 := sG24.trans (s25.trans s26)
      refine ⟨_, rfl, wm, _, 0, .ref ma, rfl, rfl, SqT.of (sG26 _ _ hmdG), rfl, _, rfl, q, ys, ss, rfl, sG26 _ _ hqG, hssG.tk (TK.same sG26), oks, by omega, by decide, by omega, fun l2 H27 s27 n27 h27 => ⟨by show 2 ≤ 1000000; decide, fun u2 H28 n28 s28 h28 => ?_⟩⟩
      have s2628 := s27.trans s28
      have sG28 := sG26.trans s2628
      refine ⟨_, _, .tup (SqT.of (s2628 _ _ h26)) (.cons (.lst (SqL.of (sG28 _ _ hwaG)) (hnsG.tk (TK.same sG28)).dp) (.cons (.lst (SqL.of ((s26.trans s2628) _ _ h25)) (dpStrs _)) .nil)), .tup (SqT.of h28) (.cons (.lst (SqL.of (sG28 _ _ hmaG)) (hmxG.tk (TK.same sG28)).dp) (.cons (.lst (SqL.of (s28 _ _ h27)) (dpStrs _)) .nil)), shD hnsG.can oks1, shD hmxG.can oks2, rfl, _, rfl, ifF ?_ ?_⟩
      · rw [eqvD, rowsE_lines]
        simp
      clear h25 h26 h27 h28 n25 n26 n27 n28 s25 s26 s27 s28 s2628 sG24 sG26 s24 hpb19 hxb s19_23 sG23 sG19
      dsimp only [List.set_cons_succ, List.set_cons_zero]
      -- a number that no row has
      refine ⟨_, rfl, x, dX, fX, rfl, sG28 _ _ hx, x, nt, rs, rfl, hpr15.tk (TK.same sG28), fun H29 s29 => ?_⟩
      have e63 : (2 : Int) ^ 63 = 9223372036854775808 := by decide +kernel
      have sG29 := sG28.trans s29
      refine ⟨_, rfl, by omega, by omega, ?_⟩
      have hb29 := hbG.same sG29
      have W29 := Hb.start hb29
      refine ⟨_, rfl, _, rfl, _, rfl, _, _, rfl, rfl, ⟨by decide, by decide, by decide⟩, _, rfl, _, _, rfl, rfl, _, _, rfl, rfl, _, rfl, _, _, rfl, rfl, by show 5 ≤ 1000000; decide, W29.nw fun gl H30 _ _ _ W30 => ?_⟩
      refine ⟨B, gl, _, rfl, W30.box, (W30.ne (.head _)).1, (W30.ne (.head _)).2, .inl (SqL.of (W30.get (.head _))), by show 0 < 5; decide, by show 5 ≤ 100000; decide, fun dd1 v H31 hv kp31 hb31 => ?_⟩
      have W31 := (W30.keep kp31 hb31).nil
      generalize hN : (innerL rs).length = N at *
      have hod : ∃ od : Int, v = .int od ∧ ¬ (0 ≤ od ∧ od < (N : Nat)) := by
        have hm := List.mem_of_getElem? hv
        have e20 : (10 : Int) ^ (20 : Int).toNat = 100000000000000000000 := by decide
        simp only [List.mem_cons, List.not_mem_nil, or_false, e20] at hm
        rcases hm with rfl | rfl | rfl | rfl | rfl <;> exact ⟨_, rfl, by omega⟩
      obtain ⟨od, rfl, nod⟩ := hod
      have tb31 := tabs_keep hb29 W31.kp (tbG.ext (fun b o e => sG29 b o e))
      have kG31 : KN B G H31 := (KN.same sG29).trans (KN.keep W31.kp)
      clear W29 W30 W31 hv kp31 sG29 sG28 s29 hb29
      dsimp only [List.set_cons_succ, List.set_cons_zero]
      refine ⟨tb31, fun H32 ext tb32 E2 R2 hT => ?_⟩
      have kG32 := kG31.trans (KN.ext ext)
      have hb32 := box_ext hb31 ext
      have tG32 := kG32.tk hbG
      refine ⟨_, rfl, _, rfl, x, dX, fX, rfl, tG32 _ _ rfl hx, x, od, nt, rs, rfl, hpr15.tk tG32, by omega, fun j r ej hr' => absurd ⟨by omega, by have := (List.getElem?_eq_some_iff.mp hr').1; omega⟩ nod, fun _ => ⟨fun dd H33 s33 hd => hT.row dd (.int od) H33 hd fun t H34 s34 ht => ?_⟩⟩
      refine ⟨_, rfl, by show 3 ≤ 1000000; decide, fun t5 H35 n35 s35 h35 => ?_⟩
      refine ⟨.tuple [.str ("row" : Str), .int od, .bool true], .tuple [.str ("row" : Str), .int od, .bool true], .tup (SqT.of (s35 _ _ ht)) (.cons (.str _) (.cons (.int _) (.cons (.bl _) .nil))), .tup (SqT.of h35) (.cons (.str _) (.cons (.int _) (.cons (.bl _) .nil))), sh3 (by decide +kernel) rfl (Nat.le_of_ble_eq_true rfl), sh3 (by decide +kernel) rfl (Nat.le_of_ble_eq_true rfl), _, rfl, ifF (by simp [PyData.eqv, PyData.eqvAll]) ?_⟩
      have s3235 := s33.trans ((sm_new (o := .xd [("at", .int od)]) hd).trans (s34.trans s35))
      have kG35 := kG32.trans (KN.same s3235)
      have hb35 := hb32.same s3235
      have tb35 := tb32.ext (fun b o e => s3235 b o e)
      clear hT ht h35 n35 s33 s34 s35 hd s3235 tG32 kG32 kG31 ext hb31 hb32 tb31 tb32
      -- wrong notes
      refine ⟨_, rfl, B, rfl, hb35, fun wv H36 bad kp36 hb36 => ?_⟩
      have kG36 := kG35.trans (KN.keep kp36)
      have tb36 := tabs_keep hb35 kp36 tb35
      clear kG35 hb35 tb35 kp36
      refine ⟨by show 1 ≤ 1000000; decide, fun r1 H37 _ s37 _ => fun y1 dy1 ny1 nyd1 nye1 => ⟨y1, dy1, rfl, upd_same, fun H38 kp38 _ => ⟨rfl, by show 1 ≤ 1000000; decide, fun r2 H39 _ s39 _ => fun y2_ dy2 ny2 nyd2 nye2 => ?_⟩⟩⟩
      have s3639 := s37.trans ((mk_sm ny1 nyd1 kp38).trans s39)
      have nq : nameOk ("q" : Str) = true := by decide +kernel
      refine mk_nnH (K := K) (C := c.put) (n := ("q" : Str)) (i := 1) (P := fun H x z i => RowAt K c H x (Rw1.put z i)) ny2 nyd2 nq (by decide) (by decide) fun H40 s40 => ?_
      refine ⟨by show 1 ≤ 1000000; decide, fun r3 H41 _ s41 _ => ⟨by show 4 ≤ 1000000; decide, fun tt H42 n42 s42 htt => ?_⟩⟩
      have sW := s3639.trans (s40.trans (s41.trans s42))
      have bad42 := bad.ext (LamX.ExtN.of fun b o e => sW b o e)
      have kG42 := kG36.trans (KN.same sW)
      have hb42 := hb36.same sW
      have tb42 := tb36.ext (fun b o e => sW b o e)
      clear bad kG36 hb36 tb36 sW s3639 s37 s39 s40 s41 s42 kp38 ny1 nyd1 nye1 ny2 nyd2 nye2
      refine ⟨tt, rfl, ⟨_, SqT.of htt⟩, ?_⟩
      refine for_tup (fun j σ H' => LamX.ExtN H42 H' ∧ LamX.Tabs (lamT PT) H' ∧ ∃ z15, σ = [some (.ref a), some (.ref B.1), some (.int (0 + (i : Int))), some (.ref wd), some (.ref wm), some (.ref p), some (.ref q), some (.ref l), some (.ref lh), some (.ref x), some (.ref xa), some (.ref xb), some (.int (N : Nat)), some (.int od), some wv, z15, y16, y17, y18, y19]) ⟨LamX.ExtN.refl _, tb42, _, rfl⟩ (fun j σ H' _ m => SqT.of (m.1 _ _ htt nofun)) (fun j v σ H' hj m => ?_) (fun σ H43 m => ?_)
      · obtain ⟨e43, tb43, z15, rfl⟩ := m
        refine ⟨tb43, fun H44 ext tb44 E3 R3 hT => ⟨_, rfl, _, rfl, fun x1 dx1 nx1 nd1 ne1 => .inr ?_⟩⟩
        have sm1 := mk_at (C := CP) nx1 nd1
        have bad44 := bad42.ext ((e43.trans ext).trans (LamX.ExtN.of fun b o e => sm1 b o e))
        refine ⟨x1, dx1, v, wv, rfl, upd_same, .inl ⟨bad44, fun dd H45 s45 hd => hT.part dd (.str "notes") H45 hd fun t H46 s46 ht => ?_⟩⟩
        refine ⟨by show 3 ≤ 1000000; decide, fun t6 H47 n47 s47 h47 => ?_⟩
        refine ⟨.tuple [.str ("part" : Str), .str ("notes" : Str), .bool true], .tuple [.str ("part" : Str), .str ("notes" : Str), .bool true], .tup (SqT.of (s47 _ _ ht)) (.cons (.str _) (.cons (.str _) (.cons (.bl _) .nil))), .tup (SqT.of h47) (.cons (.str _) (.cons (.str _) (.cons (.bl _) .nil))), sh3 (by decide +kernel) (by decide +kernel) (Nat.le_of_ble_eq_true rfl), sh3 (by decide +kernel) (by decide +kernel) (Nat.le_of_ble_eq_true rfl), _, rfl, ifF (by decide +kernel) ?_⟩
        have s4447 := sm1.trans (s45.trans ((sm_new (o := .xd [("part", .str "notes")]) hd).trans (s46.trans s47)))
        exact ⟨(e43.trans ext).trans (LamX.ExtN.of fun b o e => s4447 b o e), tb44.ext (fun b o e => s4447 b o e), _, rfl⟩
      obtain ⟨e43, tb43, z15, rfl⟩ := m
      have kG43 := kG42.trans (KN.ext e43)
      have hb43 := box_ext hb42 e43
      clear bad42 kG42 hb42 tb42 htt e43
      -- a row that is none
      refine ⟨tb43, fun H44 ext tb44 E3 R3 hT => ?_⟩
      have kG44 := kG43.trans (KN.ext ext)
      have hb44 := box_ext hb43 ext
      have tG44 := kG44.tk hbG
      have hl44 := kG44 _ _ nl.1 nl.2 hlG nofun
      refine ⟨_, rfl, fun y1 dy1 ny1 nyd1 nye1 => ⟨y1, dy1, rfl, upd_same, fun H45 kp45 hlo => ⟨rfl, by show 1 ≤ 1000000; decide, fun l5 H46 n46 s46 h46 => ?_⟩⟩⟩
      have s4446 := (mk_sm ny1 nyd1 kp45).trans s46
      refine ⟨l, l5, zs ++ [.ref y], [.ref y1], rfl, rfl, s4446 _ _ hl44, h46, szl (by rw [List.length_append]; show zs.length + 1 + 1 ≤ 1000000; omega), fun l6 n6 => ?_⟩
      have h6 : (upd H46 l6 (.lst ((zs ++ [.ref y]) ++ [.ref y1]))) l6 = some (.lst ((zs ++ [.ref y]) ++ [.ref y1])) := upd_same
      have s47 := sm_new (o := .lst ((zs ++ [.ref y]) ++ [.ref y1])) n6
      generalize upd H46 l6 (.lst ((zs ++ [.ref y]) ++ [.ref y1])) = H47 at *
      refine ⟨Nat.zero_le _, fun e5 H48 n48 s48 h48 => fun x1 dx1 nx1 nd1 ne1 => .inr ?_⟩
      have sm1 := mk_at (C := CP) nx1 nd1
      have s4448 := s4446.trans (s47.trans s48)
      have hz48 := hz15.tk (tG44.trans (TK.same (s4448.trans sm1)))
      have hlo48 := hlo.tk (TK.same (s46.trans (s47.trans (s48.trans sm1))))
      refine ⟨x1, dx1, .ref l6, .ref e5, rfl, upd_same, .inr ⟨e5, [], [], rfl, .inl (sm1 _ _ h48), trivial, ⟨nofun, List.nodup_nil⟩, by decide, fun H' kp => ?_, fun dd H49 kp hd => hT.part dd (.str "row") H49 hd fun t H50 s50 ht => ?_⟩⟩
      · have h6' := kp _ _ (ne_of_none (s48 _ _ h6) nx1) (sm1 _ _ (s48 _ _ h6))
        have hz' := RowsAt.nx upd_same kp hz48
        have hlo' := TstAt.nx upd_same kp hlo48
        obtain ⟨fs, pp⟩ := hlo'.part
        obtain ⟨dq, _, _, g1, _⟩ := id pp
        refine NRows.bad (i := (zs ++ [V.ref y]).length) (.base (.lst h6')) (by rfl) (.inl (SqL.of h6')) (fun j w hj hw => ?_) ?_ (tyx_ins (Hc.t .longer).ins g1) (Hc.t .longer).kr
        · rw [List.getElem?_append_left hj] at hw
          obtain ⟨pr, r, rfl, _, hr'⟩ := hz'.at hw
          obtain ⟨gs, qq⟩ := hr'.part
          obtain ⟨dr, _, _, g2, _⟩ := id qq
          exact ⟨_, tyx_ins (Hc.r r).ins g2, (Hc.r r).kr⟩
        · rw [List.getElem?_append_right (Nat.le_refl _), Nat.sub_self]; rfl
      have s4850 : Same H48 H50 := fun b o e => s50 _ _ (sm_new (o := .xd [("part", .str "row")]) hd _ _ (kp _ _ (ne_of_none e nx1) (sm1 _ _ e)))
      refine ⟨by show 3 ≤ 1000000; decide, fun t6 H51 n51 s51 h51 => ?_⟩
      refine ⟨.tuple [.str ("part" : Str), .str ("row" : Str), .bool true], .tuple [.str ("part" : Str), .str ("row" : Str), .bool true], .tup (SqT.of (s51 _ _ ht)) (.cons (.str _) (.cons (.str _) (.cons (.bl _) .nil))), .tup (SqT.of h51) (.cons (.str _) (.cons (.str _) (.cons (.bl _) .nil))), sh3 (by decide +kernel) (by decide +kernel) (Nat.le_of_ble_eq_true rfl), sh3 (by decide +kernel) (by decide +kernel) (Nat.le_of_ble_eq_true rfl), _, rfl, ifF (by decide +kernel) ?_⟩
      have s4451 := s4448.trans (s4850.trans s51)
      have kG51 := kG44.trans (KN.same s4451)
      have hb51 := hb44.same s4451
      have tb51 := tb44.ext (fun b o e => s4451 b o e)
      clear hT ht h51 n51 s51 s50 s4850 hd kp hz48 hlo48 sm1 nx1 nd1 ne1 s48 s47 n6 h6 h48 n48 n46 h46 s46 s4446 s4448 s4451 kp45 hlo ny1 nyd1 nye1 hl44 tG44 kG44 kG43 hb43 hb44 tb43 tb44 ext
      -- the names used
      have tG51 := kG51.tk hbG
      have hwd51 := tG51 _ _ rfl hwdG
      have hwa51 := kG51 _ _ na.1 na.2 hwaG nofun
      have hns51 := hnsG.tk tG51
      have ul := fU_len (innerL rs)
      refine ⟨_, rfl, p, xs, rs, rfl, tG51 _ _ rfl hpG, hrsG.tk tG51, ok, by omega, by omega, fun u5 H52 s52 n52 h52 => ⟨u5, rfl, ⟨_, SqL.of h52⟩, fun D hD => ?_⟩⟩
      have hwd52 := s52 _ _ hwd51
      have hwa52 := s52 _ _ hwa51
      have hns52 := hns51.tk (TK.same s52)
      have leU : (usedL rs).length ≤ N := by rw [← hN]; exact ul
      have oku := used_ok ok
      have em : missN (nt.take 1) rs = (missL ((nt.take 1).map (·.1)) (usedL rs)).head? := missN_used (nt.take 1) rs
      generalize hU : usedL rs = us5 at *
      have hn1 := hns52.take 1
      have hnG1 := hnsG.take 1
      have nok1 := notesOk_take 1 nok
      have lt1 : (nt.take 1).length ≤ 1 := by rw [List.length_take]; omega
      generalize nt.take 1 = n1 at *
      have lw1 := hn1.len
      refine lc_list (xs := us5.map V.str) (fun j H' => Hd H52 H' [(D, .lst ((missL (n1.map (·.1)) (us5.take j)).map V.str))]) ((Hd.start H52).new hD _) (fun j H' _ m => SqL.of (m.sm _ _ h52)) (fun j v H' hj m => ?_) (fun H53 m => ?_)
      · rw [List.getElem?_map] at hj
        obtain ⟨z, hz, rfl⟩ := Option.map_eq_some_iff.mp hj
        have lj := (List.getElem?_eq_some_iff.mp hz).1
        have lf : (missL (n1.map (·.1)) (us5.take j)).length ≤ (us5.take j).length := List.length_filter_le _ _
        rw [List.length_take] at lf
        rw [missL_take hz]
        refine ⟨rfl, _, rfl, _, rfl, wd, _, 0, .ref wa, rfl, rfl, SqT.of (m.sm _ _ hwd52), rfl, 1, rfl, wa, wxs, rfl, SqL.of (m.sm _ _ hwa52), fun s5 ns5 => ?_⟩
        rw [cutV1]
        have m1 := m.new ns5 (.lst (wxs.take 1))
        generalize upd H' s5 (.lst (wxs.take 1)) = H6 at *
        refine ⟨s5, rfl, ⟨_, SqL.of (m1.get (.head _))⟩, fun D2 hD2 => ?_⟩
        have m2 := m1.new hD2 (.lst [])
        refine lcR_list (xs := wxs.take 1) (fun k H' => Hd H52 H' [(D2, .lst (((n1.take k).map (·.1)).map V.str)), (s5, .lst (wxs.take 1)), (D, .lst ((missL (n1.map (·.1)) (us5.take j)).map V.str))]) (by rw [List.take_zero]; exact m2) (fun k H' _ m => SqL.of (m.get (.tail _ (.head _)))) (fun k v H' hk m => ?_) (gName_mono _) (fun H7 m => ?_)
        · obtain ⟨q5, mm, rfl, hmm, hq5, _⟩ := (hn1.tk m.tk).ix hk
          have lk := (List.getElem?_eq_some_iff.mp hk).1
          refine ⟨rfl, _, rfl, q5, _, 0, .str mm.1, rfl, rfl, SqT.of hq5, rfl, _, m.get (.head _), ?_, ?_⟩
          · rw [List.length_map, List.length_map, List.length_take]
            exact szs (by omega)
          · have := m.set 0 rfl (.lst (((n1.take k).map (·.1)).map V.str ++ [V.str mm.1]))
            rw [List.take_succ, hmm, List.map_append, List.map_append]
            exact this
        · rw [lw1, List.take_length] at m
          refine ⟨D2, _, rfl, .inl (SqL.of (m.get (.head _))), rfl, flat_strs _, _, rfl, ?_⟩
          by_cases c : z ∈ n1.map (·.1)
          · rw [if_pos c, List.append_nil]
            exact ifF (by show (!inV _ _) = false; rw [inV_strs, decide_eq_true c]; rfl) m.tl.tl
          · rw [if_neg c]
            refine ifT (by show (!inV _ _) = true; rw [inV_strs_not c]; rfl) ⟨_, rfl, _, m.get (.tail _ (.tail _ (.head _))), ?_, ?_⟩
            · rw [List.length_map]
              exact szs (by omega)
            · have := m.set 2 rfl (.lst ((missL (n1.map (·.1)) (us5.take j)).map V.str ++ [V.str z]))
              rw [List.map_append]
              exact this.tl.tl
      rw [List.length_map, List.take_length] at m
      have s5253 := m.sm
      have hD53 := m.get (.head _)
      have okf : ∀ z ∈ missL (n1.map (·.1)) us5, nameOk z = true := fun z hz => oku z (List.mem_filter.mp hz).1
      clear m hD hU oku lw1 hn1
      generalize missL (n1.map (·.1)) us5 = fl at *
      have kG53 := kG51.trans (KN.same (s52.trans s5253))
      have hb53 := hb51.same (s52.trans s5253)
      have tb53 := tb51.ext (fun b o e => (s52.trans s5253) b o e)
      clear kG51 hb51 tb51 tG51 hwd51 hwa51 hns51 hwd52 hwa52 hns52 h52 n52 s52 s5253
      -- what is due
      refine ⟨fun σ H' => ∃ v, dueV H' v fl.head? ∧ Same H53 H' ∧ σ = [some (.ref a), some (.ref B.1), some (.int (0 + (i : Int))), some (.ref wd), some (.ref wm), some (.ref p), some (.ref q), some (.ref l), some (.ref lh), some (.ref x), some (.ref xa), some (.ref xb), some (.int (N : Nat)), some (.int od), some wv, z15, some (.ref D), some v, y18, y19], ?_, fun σ H54 m => ?_⟩
      · refine ⟨_, rfl, Nat.zero_le _, fun e5 H54 n54 s54 h54 => ?_⟩
        refine ⟨_, .list [], .lst (SqL.of (s54 _ _ hD53)) (dpStrs fl), .lst (SqL.of h54) .nil, shLs (fun z hz => name_str (okf z hz)), rfl, _, rfl, ?_⟩
        rcases fl with _ | ⟨z, fl⟩
        · exact ifF rfl ⟨.non, rfl, s54, rfl⟩
        · refine ifT rfl ⟨_, rfl, D, _, 0, .str z, rfl, rfl, SqL.of (s54 _ _ hD53), at_of (j := 0) rfl rfl, by show 3 ≤ 1000000; decide, fun t7 H55 n55 s55 h55 => ?_⟩
          exact ⟨.ref t7, ⟨t7, rfl, h55⟩, s54.trans s55, rfl⟩
      obtain ⟨dv, hdv, s54, rfl⟩ := m
      have kG54 := kG53.trans (KN.same s54)
      have hb54 := hb53.same s54
      have tb54 := tb53.ext (fun b o e => s54 b o e)
      clear kG53 hb53 tb53 s54 hD53
      -- a note left out
      refine ⟨fun σ H' => KN B G H' ∧ BoxAt H' B ∧ LamX.Tabs (lamT PT) H' ∧ ∃ z16 z17 : Option V, σ = [some (.ref a), some (.ref B.1), some (.int (0 + (i : Int))), some (.ref wd), some (.ref wm), some (.ref p), some (.ref q), some (.ref l), some (.ref lh), some (.ref x), some (.ref xa), some (.ref xb), some (.int (N : Nat)), some (.int od), some wv, z15, z16, z17, y18, y19], ?_, fun σ H60 m => ?_⟩
      rotate_left
      · obtain ⟨kG60, hb60, tb60, z16, z17, rfl⟩ := m
        clear hdv kG54 hb54 tb54 em
        have tG60 := kG60.tk hbG
        have hl60 := kG60 _ _ nl.1 nl.2 hlG nofun
        have hwd60 := tG60 _ _ rfl hwdG
        have hwa60 := kG60 _ _ na.1 na.2 hwaG nofun
        have hns60 := hnsG.tk tG60
        have hz60 := hz15.tk tG60
        have okl : okL (rs ++ [.lay]) := okL_of fun r hr => (List.mem_append.mp hr).elim (okL_mem ok r) (fun h => by rw [List.mem_singleton.mp h]; exact trivial)
        have inl : (innerL (rs ++ [Rw1.lay])).length = N + 1 := by rw [innerL_app, List.length_append, hN]; rfl
        have dpl : deepL (rs ++ [Rw1.lay]) ≤ 3 := deepL_of fun r hr => (List.mem_append.mp hr).elim (fun h => Nat.le_trans (deepL_mem h) (by omega)) (fun h => by rw [List.mem_singleton.mp h]; exact Nat.zero_le _)
        have usl : UsesOk nt (rs ++ [.lay]) := fun r hr z hz => by
          rw [innerL_app] at hr
          rcases List.mem_append.mp hr with hr | hr
          · exact us r hr z hz
          · rw [List.mem_singleton.mp (show r ∈ [Rw1.lay] from hr)] at hz
            exact nomatch hz
        refine ⟨_, rfl, _, rfl, wd, _, 0, .ref wa, rfl, rfl, SqT.of hwd60, rfl, fun x1 dx1 nx1 nd1 ne1 => ?_⟩
        have sm1 := mk_at (C := CP) nx1 nd1
        refine ⟨x1, dx1, l, wa, zs ++ [.ref y], wxs, rs ++ [.lay], nt, rfl, upd_same, .inl (sm1 _ _ hl60), hz60.tk (TK.same sm1), .inl (sm1 _ _ hwa60), hns60.tk (TK.same sm1), nok, usl, by omega, by omega, by omega, fun H61 kp61 h61 => ⟨rfl, ?_⟩⟩
        have s61 := mk_sm nx1 nd1 kp61
        have hl61 := s61 _ _ hl60
        refine ⟨_, rfl, 1, rfl, _, rfl, l, _, rfl, SqL.of hl61, fun s5 ns5 => ?_⟩
        rw [cutVm]
        have h62 : (upd H61 s5 (.lst zs)) s5 = some (.lst zs) := upd_same
        have s62 := sm_new (o := .lst zs) ns5
        generalize upd H61 s5 (.lst zs) = H62 at *
        have s6062 := s61.trans s62
        have hz62 : RowsAt K c H62 zs rs := rowsAt_left lz (hz60.tk (TK.same s6062))
        refine ⟨_, rfl, wd, _, 0, .ref wa, rfl, rfl, SqT.of (s6062 _ _ hwd60), rfl, fun x2 dx2 nx2 nd2 ne2 => ?_⟩
        have sm2 := mk_at (C := CP) nx2 nd2
        refine ⟨x2, dx2, s5, wa, zs, wxs, rs, nt, rfl, upd_same, .inl (sm2 _ _ h62), hz62.tk (TK.same sm2), .inl (sm2 _ _ (s6062 _ _ hwa60)), hns60.tk (TK.same (s6062.trans sm2)), nok, us, by omega, by omega, by omega, fun H63 kp63 h63 => ⟨rfl, ?_⟩⟩
        have s63 := mk_sm nx2 nd2 kp63
        have h61' := h61.tk (TK.same (s62.trans s63))
        obtain ⟨d1, _, _, _, _, f1, _, _, _, _, hx1, _⟩ := id h61'
        obtain ⟨d2, _, _, _, _, f2, _, _, _, _, hx2, _⟩ := id h63
        refine ⟨x1, d1, f1, .ref CP, rfl, hx1, tyx_ins Pt.ins hx2, hnf, x1, .ref x2, nt, rs ++ [.lay], rfl, h61', ok_strs okl, .inr ⟨x2, nt, rs, rfl, h63, oks1, fun H64 s64 => ⟨_, rfl, ifF (by rw [rowsE_len (by rw [List.length_append, List.length_singleton]; omega), Bool.and_false]) ?_⟩⟩⟩
        have s6064 := s6062.trans (s63.trans s64)
        have nilN : NotesOk [] := ⟨nofun, List.nodup_nil⟩
        have nilU : UsesOk [] [] := nofun
        refine fun x3 dx3 nx3 nd3 ne3 => ⟨x3, dx3, eR, eP, [], [], [], [], rfl, upd_same, hE2 _, trivial, hE _, trivial, nilN, nilU, by decide, by decide, by decide, fun H65 kp65 h65 => ⟨rfl, ⟨Nat.zero_le _, fun e1 H66 n66 s66 h66 => ⟨Nat.zero_le _, fun e2 H67 n67 s67 h67 => fun x4 dx4 nx4 nd4 ne4 => ?_⟩⟩⟩⟩
        have s65 := mk_sm nx3 nd3 kp65
        have sm4 := mk_at (C := CP) nx4 nd4
        refine ⟨x4, dx4, e1, e2, [], [], [], [], rfl, upd_same, .inl (sm4 _ _ (s67 _ _ h66)), trivial, .inl (sm4 _ _ h67), trivial, nilN, nilU, by decide, by decide, by decide, fun H68 kp68 h68 => ⟨rfl, ?_⟩⟩
        have s68 := mk_sm nx4 nd4 kp68
        have h65' := h65.tk (TK.same (s66.trans (s67.trans s68)))
        obtain ⟨d3, _, _, _, _, f3, _, _, _, _, hx3, _⟩ := id h65'
        obtain ⟨d4, _, _, _, _, f4, _, _, _, _, hx4, _⟩ := id h68
        refine ⟨x3, d3, f3, .ref CP, rfl, hx3, tyx_ins Pt.ins hx4, hnf, x3, .ref x4, [], [], rfl, h65', nofun, .inr ⟨x4, [], [], rfl, h68, nofun, fun H69 s69 => ⟨_, rfl, _, rfl, ifF rfl ?_⟩⟩⟩
        have sF := s6064.trans (s65.trans (s66.trans (s67.trans (s68.trans s69))))
        exact ⟨hb60.same sF, tb60.ext (fun b o e => sF b o e), _, _, _, _, _, _, _, _, _, _, _, _, _, _, _, _, _, _, rfl⟩
      refine ⟨tb54, fun H55 ext tb55 E4 R4 hT => ?_⟩
      have kG55 := kG54.trans (KN.ext ext)
      have hb55 := box_ext hb54 ext
      have tG55 := kG55.tk hbG
      have hwd55 := tG55 _ _ rfl hwdG
      have hwa55 := kG55 _ _ na.1 na.2 hwaG nofun
      refine ⟨_, rfl, p, xs, rs, rfl, tG55 _ _ rfl hpG, hrsG.tk tG55, ok, by omega, by decide, by omega, fun l5 H56 zs5 s56 n56 h56 hz56 => ?_⟩
      refine ⟨_, rfl, wd, _, 0, .ref wa, rfl, rfl, SqT.of (s56 _ _ hwd55), rfl, 1, rfl, wa, wxs, rfl, SqL.of (s56 _ _ hwa55), fun s5 ns5 => ?_⟩
      rw [cutV1]
      have h57 : (upd H56 s5 (.lst (wxs.take 1))) s5 = some (.lst (wxs.take 1)) := upd_same
      have s57 := sm_new (o := .lst (wxs.take 1)) ns5
      generalize upd H56 s5 (.lst (wxs.take 1)) = H57 at *
      refine fun x1 dx1 nx1 nd1 ne1 => .inl ?_
      have sm1 := mk_at (C := CP) nx1 nd1
      have s5557 := s56.trans s57
      have hns57 := hnG1.tk (tG55.trans (TK.same (s5557.trans sm1)))
      have hz57 := hz56.tk (TK.same (s57.trans sm1))
      rw [← em] at hdv
      cases hmi : missN n1 rs with
      | none =>
        rw [hmi] at hdv
        have hdv : dv = .non := hdv
        subst hdv
        refine .inl ⟨x1, dx1, l5, s5, zs5, wxs.take 1, rs, n1, rfl, upd_same, .inl (sm1 _ _ (s57 _ _ h56)), hz57, .inl (sm1 _ _ h57), hns57, nok1, uses_of hmi, by omega, by omega, by omega, fun H58 kp58 hp58 => ⟨rfl, hT.no _ _ ?_⟩⟩
        refine ⟨_, rfl, .none, .none, .non, .non, rfl, rfl, _, rfl, ifF rfl ?_⟩
        have sF := s5557.trans (mk_sm nx1 nd1 kp58)
        exact ⟨kG55.trans (KN.same sF), hb55.same sF, tb55.ext (fun b o e => sF b o e), _, _, rfl⟩
      | some z =>
        rw [hmi] at hdv
        obtain ⟨t7, rfl, ht7⟩ := hdv
        have okz : nameOk z = true := okf z (by
          rw [hmi] at em
          exact List.mem_of_head? em.symm)
        refine .inr ⟨x1, dx1, l5, s5, zs5, wxs.take 1, rs, n1, z, rfl, upd_same, .inl (sm1 _ _ (s57 _ _ h56)), hz57, .inl (sm1 _ _ h57), hns57, nok1, hmi, by omega, by omega, by omega, fun dd H58 kp hd => hT.note dd (.str z) H58 hd fun t H59 s59 ht => ?_⟩
        have s5559 : Same H55 H59 := fun b o e => s59 _ _ (sm_new (o := .xd [("name", .str z)]) hd _ _ (kp _ _ (ne_of_none (s5557 _ _ e) nx1) (sm1 _ _ (s5557 _ _ e))))
        have ht59 := s5559 _ _ (ext _ _ ht7 nofun)
        refine ⟨_, rfl, .tuple [.str ("note" : Str), .str z, .bool true], .tuple [.str ("note" : Str), .str z, .bool true], .tup (SqT.of ht) (.cons (.str _) (.cons (.str _) (.cons (.bl _) .nil))), .tup (SqT.of ht59) (.cons (.str _) (.cons (.str _) (.cons (.bl _) .nil))), sh3 (by decide +kernel) (name_str okz) (Nat.zero_le _), sh3 (by decide +kernel) (name_str okz) (Nat.zero_le _), _, rfl, ifF (by simp [PyData.eqv, PyData.eqvAll]) ?_⟩
        exact ⟨kG55.trans (KN.same s5559), hb55.same s5559, tb55.ext (fun b o e => s5559 b o e), _, _, rfl⟩
    · exact k H'
end

/-! ## what the head must show of rows and tests -/
namespace Pg
theorem conB_ok {K : PySem.W.Frag} {C : Addr} {z : Str} (h : conB K C z = true) : ∃ u, Con K C "SORT" (.str z) u := by
  unfold conB at h
  split at h
  · rename_i y t e
    obtain ⟨h1, h2⟩ := He.ba h
    have h1 := of_decide_eq_true h1
    subst h1
    exact ⟨_, e, ⟨t, rfl⟩, of_decide_eq_true h2, by decide +kernel⟩
  · cases h
theorem riB_ok {K : PySem.W.Frag} {c : Clz} {C : Addr} {sort : Str} {ir : Bool} (h : riB K c C sort ir = true) : Ri K c C sort ir := by
  unfold riB at h
  obtain ⟨h1, h⟩ := He.ba h
  obtain ⟨h2, h⟩ := He.ba h
  obtain ⟨h3, h⟩ := He.ba h
  obtain ⟨h4, h⟩ := He.ba h
  obtain ⟨h5, h⟩ := He.ba h
  obtain ⟨h6, h⟩ := He.ba h
  obtain ⟨h7, h8⟩ := He.ba h
  exact ⟨insB_ok h1, fun f hf => of_decide_eq_true (List.all_eq_true.mp h2 f hf), conB_ok h3, of_decide_eq_true h4, of_decide_eq_true h5, of_decide_eq_true h6, of_decide_eq_true h7, of_decide_eq_true h8⟩
theorem row_mem (c : Clz) (r : Rw1) : r.cls c ∈ rowCs c := by cases r <;> simp [rowCs, Rw1.cls]
theorem test_mem (c : Clz) (t : Tst) : t.cls c ∈ testCs c := by cases t <;> simp [testCs, Tst.cls]
theorem flat_mem (c : Clz) {r : Rw1} (h : r.plain = true) : r.cls c ∈ flatCs c := by cases r <;> first | (cases h; done) | simp [flatCs, Rw1.cls]
theorem idle_mem (c : Clz) {r : Rw1} (h : r.plain = true) (l : r.lays = false) : r.cls c ∈ idleCs c := by cases r <;> first | (cases h; done) | (cases l; done) | simp [idleCs, Rw1.cls]
theorem meB_ok {K : PySem.W.Frag} {m : Str} {f C : Addr} {Cs : List Addr} (h : meB K m f Cs = true) (hC : C ∈ Cs) : Meth K C m f := mtB_ok (List.all_eq_true.mp h C hC)
theorem neB_ok {K : PySem.W.Frag} {C : Addr} {Cs : List Addr} (h : neB K Cs = true) (hC : C ∈ Cs) : PySem.W.findIn K (.ref C) "__ne__" = some (some (.builtin "object.__ne__")) ∧ PySem.W.subIn K (.ref C) (.type "object") = some true := by
  obtain ⟨h1, h2⟩ := He.ba (List.all_eq_true.mp h C hC)
  exact ⟨of_decide_eq_true h1, of_decide_eq_true h2⟩
theorem nfB_ok {K : PySem.W.Frag} {C : Addr} {Cs : List Addr} (h : nfB K Cs = true) (hC : C ∈ Cs) : PySem.W.notFirst K C (.type "str") = true ∧ PySem.W.notFirst K C (.type "int") = true ∧ ∀ D ∈ Cs, PySem.W.notFirst K C (.ref D) = true := by
  obtain ⟨h1, h2⟩ := He.ba (List.all_eq_true.mp h C hC)
  obtain ⟨h2, h3⟩ := He.ba h2
  exact ⟨h1, h2, fun D hD => List.all_eq_true.mp h3 D hD⟩
theorem fmB_ok {K : PySem.W.Frag} {C : Addr} {Cs : List Addr} (h : fmB K Cs = true) (hC : C ∈ Cs) : FmC K C := by
  obtain ⟨h1, h2⟩ := He.ba (List.all_eq_true.mp h C hC)
  exact ⟨of_decide_eq_true h1, of_decide_eq_true h2⟩
theorem chB_ok {K : PySem.W.Frag} {mg : Str → Option Value} {C : Addr} (h : chB K C = true) (hm : mg "Change" = some (.ref C)) : ChT K mg C := by
  unfold chB at h
  obtain ⟨h1, h⟩ := He.ba h
  obtain ⟨h2, h⟩ := He.ba h
  obtain ⟨h3, h⟩ := He.ba h
  obtain ⟨h4, h5⟩ := He.ba h
  have q := neB_ok h5 (.head _)
  exact ⟨insB_ok h1, of_decide_eq_true (p := PySem.W.findIn K (.ref C) "numbers" = some none) h2, of_decide_eq_true (p := PySem.W.findIn K (.ref C) "turn" = some none) h3, hm, h4, q.1, q.2⟩
section
variable {P : Program} {w : World} {K : PySem.W.Frag} {mg : Str → Option Value} {base : Heap} {c : Clz} {f : Addr} {fd : FuncData}
theorem mt_of {C : Addr} {m : Str} {ps : List Str} {k : Nat} {sp : Sp} (M : Meth K C m f) (b : Binds K fd ps []) (h : FnOk P w K mg base CX0 k f fd ps sp) : MtC P w K mg base CX0 k C m ps sp := ⟨f, fd, h, M, b⟩
theorem heq_of (h : FnOk P w K mg base CX0 1 f fd ["self", "other"] (sp_peq K c)) (b : Binds K fd ["self", "other"] []) (mr : meB K "__eq__" f (rowCs c) = true) (mt : meB K "__eq__" f (testCs c) = true) (nr : neB K (rowCs c) = true) (nt : neB K (testCs c) = true) (fr : nfB K (rowCs c) = true) (ft : nfB K (testCs c) = true) : Heq P w K mg base c :=
  ⟨fun r => mt_of (meB_ok mr (row_mem c r)) b h, fun t => mt_of (meB_ok mt (test_mem c t)) b h, fun r => neB_ok nr (row_mem c r), fun t => neB_ok nt (test_mem c t), fun r s => (nfB_ok fr (row_mem c r)).2.2 _ (row_mem c s), fun r s => (nfB_ok ft (test_mem c r)).2.2 _ (test_mem c s), fun r => ⟨(nfB_ok fr (row_mem c r)).1, (nfB_ok fr (row_mem c r)).2.1⟩, fun t => (nfB_ok ft (test_mem c t)).1⟩
theorem ht_of (h : FnOk P w K mg base CX0 1 f fd ["self"] (sp_pstr K)) (b : Binds K fd ["self"] []) (mt : meB K "__str__" f (testCs c) = true) (ft : fmB K (testCs c) = true) : Ht P w K mg base c := ⟨fun t => mt_of (meB_ok mt (test_mem c t)) b h, fun t => fmB_ok ft (test_mem c t)⟩
theorem hq_of (h : FnOk P w K mg base CX0 1 f fd ["self"] (sp_pstr K)) (b : Binds K fd ["self"] []) (mr : meB K "__str__" f (rowCs c) = true) : Hq P w K mg base c := ⟨fun r => mt_of (meB_ok mr (row_mem c r)) b h⟩
end
end Pg
open Pg
/-! ## defs as the head shows them -/
section
variable {fs : List (PySem.W.Frag → Bool)} {fn : List FY} {P : Program} {K : PySem.W.Frag} {mg : Str → Option Value}
theorem fy_fun (z : SaysY fs fn K) (i : Nat) {d : FY} (h : fn[i]? = some d) (hm : d.mode = 0) (kp : PySem.W.keepIn K (.ref (d.at_ K)) = true) : ∃ kV doc pm an cdv ct, Fun K d.name d.qual d.st (d.at_ K) (PySem.W.fnOf d.name d.qual (defArgs d.st) (defBody d.st) (defScope d.st) .none kV doc pm an cdv ct) := by
  obtain ⟨s, c⟩ := z.at_ i h
  obtain ⟨_, _, _, kV, doc, pm, an, cdv, ct, hl, hc⟩ := fy_ok hm s c
  exact ⟨kV, doc, pm, an, cdv, ct, fun_mk hl hc kp⟩
theorem fy_funS (z : SaysY fs fn K) (i : Nat) {d : FY} (h : fn[i]? = some d) (hm : d.mode = 1) (kp : PySem.W.keepIn K (.ref (d.at_ K)) = true) {D : Addr} (S : SupK P K mg D (d.at_ K) (fyCda K (d.at_ K)) (fyCell K (d.at_ K))) : ∃ fd, FunS P K mg d.name d.qual d.st D [] (d.at_ K) fd := by
  obtain ⟨s, c⟩ := z.at_ i h
  obtain ⟨cl, di, sl, kV, doc, pm, an, ct, hl, hc⟩ := fy_okS hm s c
  exact ⟨_, ⟨cl, di, .none, kV, doc, pm, an, _, _, ct, sl, rfl, hl, hc, S, .inl ⟨rfl, rfl⟩⟩, kp⟩
theorem fy_funE (z : SaysY fs fn K) (i : Nat) {d : FY} (h : fn[i]? = some d) (hm : d.mode = 3) (kp : PySem.W.keepIn K (.ref (d.at_ K)) = true) {D : Addr} (S : SupK P K mg D (d.at_ K) (fyCda K (d.at_ K)) (fyCell K (d.at_ K))) (db : dflB K (d.at_ K) = true) : ∃ fd, FunS P K mg d.name d.qual d.st D [.ref (dfl0 K (d.at_ K))] (d.at_ K) fd := by
  obtain ⟨s, c⟩ := z.at_ i h
  obtain ⟨cl, di, sl, kV, doc, pm, an, ct, hl, hc⟩ := fy_okE hm s c
  exact ⟨_, ⟨cl, di, _, kV, doc, pm, an, _, _, ct, sl, rfl, hl, hc, S, dflB_ok db⟩, kp⟩
theorem fy_funD (z : SaysY fs fn K) (i : Nat) {d : FY} (h : fn[i]? = some d) (hm : d.mode = 2) (kp : PySem.W.keepIn K (.ref (d.at_ K)) = true) (db : dflB K (d.at_ K) = true) : ∃ fd, FunD K d.name d.qual (defArgs d.st) (defBody d.st) (defScope d.st) [.ref (dfl0 K (d.at_ K))] [] (d.at_ K) fd := by
  obtain ⟨s, c⟩ := z.at_ i h
  obtain ⟨cl, di, sl, kV, doc, pm, an, cdv, ct, hl, hc⟩ := fy_okD hm s c
  exact ⟨_, ⟨cl, di, _, kV, doc, pm, an, cdv, ct, sl, rfl, hl, hc, dflB_ok db, .inl rfl⟩, kp⟩
end
theorem funS_bindsN {P : Program} {K : PySem.W.Frag} {mg : Str → Option Value} {x qual : Str} {st : Stmt} {D : Addr} {f : Addr} {fd : FuncData} {ps : List Str} (F : FunS P K mg x qual st D [] f fd)
    (h : ∀ (cc : Addr) (kV doc pm : Value) (an : Option Addr) (cdv ct : Value) (us : List Value), us.length = ps.length → bindArgs (PySem.W.fnX x qual (defArgs st) (defBody st) (defScope st) [("__class__", cc)] .none kV doc pm an cdv ct) ⟨us, []⟩ = pure (ps.zip us)) : Binds K fd ps [] := by
  obtain ⟨oc, od, dV, kV, doc, pm, an, cda, cc, ct, osl, rfl, lk, hcd, _, hD⟩ := F.ex
  rcases hD with ⟨_, rfl⟩ | ⟨e, _⟩
  · exact .all (h cc kV doc pm an _ ct)
  · exact absurd rfl e
theorem gt_strs {K : PySem.W.Frag} {mg : Str → Option Value} {x : Str} {zs : List Str} (h : mg x = some (.ref (He.ga K x))) (t : tupB K (He.ga K x) (isStrs zs) = true) (sz : zs.length ≤ 1000) : GT K mg x (zs.map V.str) := by
  obtain ⟨o, n, s, e, p⟩ := tupB_ok t
  have v := isStrs_ok p
  have l := v.length
  refine gt_of h e rfl rfl ?_ v
  show (tupIt K (He.ga K x)).toArray.size ≤ sizeLine
  rw [List.size_toArray, ← l, List.length_map]
  exact Nat.le_trans sz (by decide)
/-! defaults that are left out or given -/
section
variable {P : Program} {w : World} {K : PySem.W.Frag} {mg : Str → Option Value} {base : Heap} {c : Clz} {f e D : Addr} {fd : FuncData}
theorem pinit_b1 (F : FunD K "__init__" "Part.__init__" (defArgs S_Part__init_) (defBody S_Part__init_) (defScope S_Part__init_) [.ref e] [] f fd) : ∃ ds, Vals [.ref e] ds ∧ Binds K fd ["self", "script", "used"] ds :=
  F.binds1 (ps := ["self", "script", "used"]) 2 0 (by simp) rfl fun _ _ _ _ _ _ _ us its hl hi => match us, its, hl, hi with
    | [_, _], [_], _, _ => ⟨_, rfl, rfl⟩
theorem pinit_b0 (F : FunD K "__init__" "Part.__init__" (defArgs S_Part__init_) (defBody S_Part__init_) (defScope S_Part__init_) [.ref e] [] f fd) : Binds K fd ["self", "script", "used"] [] := by
  obtain ⟨ds, v, b⟩ := F.binds1 (ps := ["self", "script", "used"]) 3 1 (by simp) rfl fun _ _ _ _ _ _ _ us its hl hi => match us, its, hl, hi with
    | [_, _, _], [_], _, _ => ⟨_, rfl, rfl⟩
  cases v
  exact b
theorem sup_1 (F : FunD K "__init__" "Part.__init__" (defArgs S_Part__init_) (defBody S_Part__init_) (defScope S_Part__init_) [.ref e] [] f fd) (T : Txt K mg) (M : SupM K D "__init__" f) : SupC P w K mg base 2 D "__init__" ["self", "script", "used"] (sp_pinit K c) [.ref e] := by
  obtain ⟨ds, v, b⟩ := pinit_b1 F
  exact ⟨f, fd, ds, ok_pinit F T, M, b, v⟩
theorem sup_0 (F : FunD K "__init__" "Part.__init__" (defArgs S_Part__init_) (defBody S_Part__init_) (defScope S_Part__init_) [.ref e] [] f fd) (T : Txt K mg) (M : SupM K D "__init__" f) : SupC P w K mg base 2 D "__init__" ["self", "script", "used"] (sp_pinit K c) [] := ⟨f, fd, [], ok_pinit F T, M, pinit_b0 F, .nil⟩
theorem if_b1 (F : FunS P K mg "__init__" "If.__init__" S_If__init_ D [.ref e] f fd) : ∃ ds, Vals [.ref e] ds ∧ Binds K fd ["self", "test", "rows", "others"] ds :=
  F.binds1 (ps := ["self", "test", "rows", "others"]) 3 0 (by simp) rfl fun _ _ _ _ _ _ _ _ us its hl hi => match us, its, hl, hi with
    | [_, _, _], [_], _, _ => ⟨_, rfl, rfl⟩
theorem if_b0 (F : FunS P K mg "__init__" "If.__init__" S_If__init_ D [.ref e] f fd) : Binds K fd ["self", "test", "rows", "others"] [] := by
  obtain ⟨ds, v, b⟩ := F.binds1 (ps := ["self", "test", "rows", "others"]) 4 1 (by simp) rfl fun _ _ _ _ _ _ _ _ us its hl hi => match us, its, hl, hi with
    | [_, _, _, _], [_], _, _ => ⟨_, rfl, rfl⟩
  cases v
  exact b
theorem mki_of (F : FunS P K mg "__init__" "If.__init__" S_If__init_ D [.ref e] f fd) {sp : Sp} (M : Mk K D f) (hm : mg "If" = some (.ref D)) (h : FnOk P w K mg base CX0 6 f fd ["self", "test", "rows", "others"] sp) : MkD P w K mg base CX0 6 D "If" ["self", "test", "rows", "others"] sp [.ref e] := by
  obtain ⟨ds, v, b⟩ := if_b1 F
  exact ⟨f, fd, ds, h, M, hm, b, v⟩
theorem sqV_e {H : Hp} {ed : Addr} (h : ∃ o n s, K.lookup ed = some ⟨.type "tuple", o, .seq #[] n, s⟩) : SqV K H ed [] := by
  obtain ⟨o, n, s, h⟩ := h
  exact .inr (.inr (.inl ⟨_, #[], n, h, rfl, rfl, by decide, .nil⟩))
end

/-! ## what the head must show for runs (behind phead.tmpl) -/
namespace Pg
theorem ki_ok {K : PySem.W.Frag} {Cs : List Addr} (h : kiB K Cs = true) {i j : Nat} (hi : i < Cs.length) (hj : j < Cs.length) : PySem.W.kitOne K (.ref (Cs.getD i 0)) (.ref (Cs.getD j 0)) = some (decide (i = j)) :=
  of_decide_eq_true (List.all_eq_true.mp (List.all_eq_true.mp h i (List.mem_range.mpr hi)) j (List.mem_range.mpr hj))
theorem cls_rk (c : Clz) (r : Rw1) : r.cls c = (rowCs c).getD r.rk 0 := by cases r <;> rfl
theorem rk_lt (r : Rw1) : r.rk < 9 := by cases r <;> exact Nat.le_of_ble_eq_true rfl
theorem cls_tk (c : Clz) (t : Tst) : t.cls c = (testCs c).getD t.rk 0 := by cases t <;> rfl
theorem tk_lt (t : Tst) : t.rk < 5 := by cases t <;> exact Nat.le_of_ble_eq_true rfl
theorem hk_of {K : PySem.W.Frag} {c : Clz} (h1 : kiB K (rowCs c) = true) (h2 : kiB K (testCs c) = true) : Hk K c := by
  have r : ∀ (u : Rw1) (j : Nat), j < 9 → PySem.W.kitOne K (.ref (u.cls c)) (.ref ((rowCs c).getD j 0)) = some (decide (u.rk = j)) := fun u j hj => by
    rw [cls_rk]
    exact ki_ok h1 (rk_lt u) hj
  have t : ∀ (u : Tst) (j : Nat), j < 5 → PySem.W.kitOne K (.ref (u.cls c)) (.ref ((testCs c).getD j 0)) = some (decide (u.rk = j)) := fun u j hj => by
    rw [cls_tk]
    exact ki_ok h2 (tk_lt u) hj
  exact ⟨fun u => r u 0 (by decide), fun u => r u 1 (by decide), fun u => r u 2 (by decide), fun u => r u 3 (by decide), fun u => r u 4 (by decide), fun u => r u 5 (by decide), fun u => r u 6 (by decide), fun u => r u 7 (by decide), fun u => r u 8 (by decide), fun u => t u 0 (by decide), fun u => t u 2 (by decide), fun u => t u 3 (by decide), fun u => t u 4 (by decide)⟩
theorem insNo_ok {K : PySem.W.Frag} {C : Addr} {fs : List Str} (h : insNoB K C fs = true) : C8.InsC K C ∧ ∀ f ∈ fs, PySem.W.findIn K (.ref C) f = some none := by
  obtain ⟨h1, h2⟩ := Bool.and_eq_true_iff.mp h
  exact ⟨insB_ok h1, fun f hf => of_decide_eq_true (List.all_eq_true.mp h2 f hf)⟩
theorem isIs4_ok : ∀ {is : List Int} {vs : List Value}, isIs4 is vs = true → Vals (is.map V.int) vs
  | [], [], _ => .nil
  | i :: is, .int j t :: vs, h => by
    obtain ⟨h1, h2⟩ := Bool.and_eq_true_iff.mp (show (decide (i = j) && isIs4 is vs) = true from h)
    have e := of_decide_eq_true h1
    subst e
    exact .cons ⟨t, rfl⟩ (isIs4_ok h2)
theorem gt_ints {K : PySem.W.Frag} {mg : Str → Option Value} {x : Str} {is : List Int} (h : mg x = some (.ref (He.ga K x))) (t : tupB K (He.ga K x) (isIs4 is) = true) (sz : is.length ≤ 1000) : GT K mg x (is.map V.int) := by
  obtain ⟨o, n, s, e, p⟩ := tupB_ok t
  have v := isIs4_ok p
  have l := v.length
  refine gt_of h e rfl rfl ?_ v
  show (tupIt K (He.ga K x)).toArray.size ≤ sizeLine
  rw [List.size_toArray, ← l, List.length_map]
  exact Nat.le_trans sz (by decide)
theorem tupE_t {K : PySem.W.Frag} {a : Addr} (h : tupB K a isE = true) : ∃ o n s, K.lookup a = some ⟨.type "tuple", o, .seq #[] n, s⟩ := by
  obtain ⟨o, n, s, e, p⟩ := tupB_ok h
  have : tupIt K a = [] := by
    revert p; generalize tupIt K a = l
    intro p
    cases l with
    | nil => rfl
    | cons _ _ => cases p
  rw [this] at e
  exact ⟨o, n, s, e⟩
theorem dfl2B_t0 {K : PySem.W.Frag} {f : Addr} (h : dfl2B K f = true) : ∃ o n s, K.lookup (dfl0 K f) = some ⟨.type "tuple", o, .seq #[] n, s⟩ := tupE_t (Bool.and_eq_true_iff.mp (Bool.and_eq_true_iff.mp h).2).1
theorem dfl2B_t1 {K : PySem.W.Frag} {f : Addr} (h : dfl2B K f = true) : ∃ o n s, K.lookup (dfl1 K f) = some ⟨.type "tuple", o, .seq #[] n, s⟩ := tupE_t (Bool.and_eq_true_iff.mp (Bool.and_eq_true_iff.mp h).2).2
theorem dfl2B_ok {K : PySem.W.Frag} {f : Addr} (h : dfl2B K f = true) : DflV K (.ref (fyDfl K f)) [.ref (dfl0 K f), .ref (dfl1 K f)] := by
  obtain ⟨h, _⟩ := Bool.and_eq_true_iff.mp h
  obtain ⟨o, n, s, e, p⟩ := tupB_ok h
  have : tupIt K (fyDfl K f) = [.ref (dfl0 K f), .ref (dfl1 K f)] := by
    unfold dfl0 dfl1 tupRef
    revert p; generalize tupIt K (fyDfl K f) = l
    intro p
    match l, p with
    | [.ref x, .ref y], _ => rfl
  rw [this] at e
  exact .inr ⟨by simp, fyDfl K f, _, [.ref (dfl0 K f), .ref (dfl1 K f)], n, rfl, e, rfl, .cons rfl (.cons rfl .nil)⟩
section
variable {P : Program} {w : World} {K : PySem.W.Frag} {mg : Str → Option Value} {base : Heap} {c : Clz} {f e1 e2 D : Addr} {fd : FuncData}
theorem pg_b1 (F : FunD K "__init__" "Program.__init__" (defArgs S_Program__init_) (defBody S_Program__init_) (defScope S_Program__init_) [.ref e1, .ref e2] [] f fd) : ∃ ds, Vals [.ref e2] ds ∧ Binds K fd ["self", "rows", "notes"] ds :=
  F.binds1 (ps := ["self", "rows", "notes"]) 2 1 (by simp) rfl fun _ _ _ _ _ _ _ us its hl hi => match us, its, hl, hi with
    | [_, _], [_, _], _, _ => ⟨_, rfl, rfl⟩
theorem pg_b2 (F : FunD K "__init__" "Program.__init__" (defArgs S_Program__init_) (defBody S_Program__init_) (defScope S_Program__init_) [.ref e1, .ref e2] [] f fd) : ∃ ds, Vals [.ref e1, .ref e2] ds ∧ Binds K fd ["self", "rows", "notes"] ds :=
  F.binds1 (ps := ["self", "rows", "notes"]) 1 0 (by simp) rfl fun _ _ _ _ _ _ _ us its hl hi => match us, its, hl, hi with
    | [_], [_, _], _, _ => ⟨_, rfl, rfl⟩
theorem pg_b0 (F : FunD K "__init__" "Program.__init__" (defArgs S_Program__init_) (defBody S_Program__init_) (defScope S_Program__init_) [.ref e1, .ref e2] [] f fd) : Binds K fd ["self", "rows", "notes"] [] := by
  obtain ⟨ds, v, b⟩ := F.binds1 (ps := ["self", "rows", "notes"]) 3 2 (by simp) rfl fun _ _ _ _ _ _ _ us its hl hi => match us, its, hl, hi with
    | [_, _, _], [_, _], _, _ => ⟨_, rfl, rfl⟩
  cases v
  exact b
theorem mkp_0 (F : FunD K "__init__" "Program.__init__" (defArgs S_Program__init_) (defBody S_Program__init_) (defScope S_Program__init_) [.ref e1, .ref e2] [] f fd) {k : Nat} {sp : Sp} (M : Mk K D f) (hm : mg "Program" = some (.ref D)) (h : FnOk P w K mg base CX0 k f fd ["self", "rows", "notes"] sp) : MkC P w K mg base CX0 k D "Program" ["self", "rows", "notes"] sp := ⟨f, fd, h, M, hm, pg_b0 F⟩
theorem mkp_1 (F : FunD K "__init__" "Program.__init__" (defArgs S_Program__init_) (defBody S_Program__init_) (defScope S_Program__init_) [.ref e1, .ref e2] [] f fd) {k : Nat} {sp : Sp} (M : Mk K D f) (hm : mg "Program" = some (.ref D)) (h : FnOk P w K mg base CX0 k f fd ["self", "rows", "notes"] sp) : MkD P w K mg base CX0 k D "Program" ["self", "rows", "notes"] sp [.ref e2] := by
  obtain ⟨ds, v, b⟩ := pg_b1 F
  exact ⟨f, fd, ds, h, M, hm, b, v⟩
theorem mkp_2 (F : FunD K "__init__" "Program.__init__" (defArgs S_Program__init_) (defBody S_Program__init_) (defScope S_Program__init_) [.ref e1, .ref e2] [] f fd) {k : Nat} {sp : Sp} (M : Mk K D f) (hm : mg "Program" = some (.ref D)) (h : FnOk P w K mg base CX0 k f fd ["self", "rows", "notes"] sp) : MkD P w K mg base CX0 k D "Program" ["self", "rows", "notes"] sp [.ref e1, .ref e2] := by
  obtain ⟨ds, v, b⟩ := pg_b2 F
  exact ⟨f, fd, ds, h, M, hm, b, v⟩
theorem fy_funD2 {fs : List (PySem.W.Frag → Bool)} {fn : List FY} (z : SaysY fs fn K) (i : Nat) {d : FY} (h : fn[i]? = some d) (hm : d.mode = 2) (kp : PySem.W.keepIn K (.ref (d.at_ K)) = true) (db : dfl2B K (d.at_ K) = true) : ∃ fd, FunD K d.name d.qual (defArgs d.st) (defBody d.st) (defScope d.st) [.ref (dfl0 K (d.at_ K)), .ref (dfl1 K (d.at_ K))] [] (d.at_ K) fd := by
  obtain ⟨s, c⟩ := z.at_ i h
  obtain ⟨cl, di, sl, kV, doc, pm, an, cdv, ct, hl, hc⟩ := fy_okD hm s c
  exact ⟨_, ⟨cl, di, _, kV, doc, pm, an, cdv, ct, sl, rfl, hl, hc, dfl2B_ok db, .inl rfl⟩, kp⟩
end
end Pg
open Pg

--@@LATE
theorem zfacts {w : World} {K : PySem.W.Frag} {h : Heap} {mg : Str → Option Value} {fa : Addr} (X : K.In h) (G : h.Ns mainGlobals mg) (hfa : mg "law" = some (.ref fa)) (cu : SaysU zfs zfn zts w K) :
    ∃ (fd : FuncData) (cL PT : Addr), LawTab K "law" cL PT ∧ (∀ (s : Shared) (v : Value), BindsTo s fd ⟨[v], []⟩ [("_law_script", v)]) ∧ ∀ base : Heap, K.In base → base.Ns mainGlobals mg → LamX.TabB base mg cL PT → FnOkG P0 w K mg base CX0 34 fa fd ["_law_script"] (Lw.Pg.sp_law38 K PT) := by
  have c := cu.d
  have T : Txt K mg := ⟨(PySem.W.mg_none_of X G (freeB_ok (c.fact 0 rfl))), (PySem.W.mg_none_of X G (freeB_ok (c.fact 1 rfl))), (PySem.W.mg_none_of X G (freeB_ok (c.fact 2 rfl))), (PySem.W.mg_none_of X G (freeB_ok (c.fact 3 rfl))), (PySem.W.mg_none_of X G (freeB_ok (c.fact 4 rfl))), (PySem.W.mg_none_of X G (freeB_ok (c.fact 5 rfl))), (PySem.W.mg_none_of X G (freeB_ok (c.fact 6 rfl))), (PySem.W.mg_none_of X G (freeB_ok (c.fact 7 rfl))), (PySem.W.mg_none_of X G (freeB_ok (c.fact 8 rfl))), (PySem.W.mg_none_of X G (freeB_ok (c.fact 9 rfl))), (PySem.W.mg_none_of X G (freeB_ok (c.fact 10 rfl))), (PySem.W.mg_none_of X G (freeB_ok (c.fact 11 rfl))), (PySem.W.mg_none_of X G (freeB_ok (c.fact 12 rfl))), (PySem.W.mg_none_of X G (freeB_ok (c.fact 13 rfl))), (PySem.W.mg_none_of X G (freeB_ok (c.fact 14 rfl))), (PySem.W.mg_none_of X G (freeB_ok (c.fact 15 rfl))), (PySem.W.mg_none_of X G (freeB_ok (c.fact 16 rfl))), (PySem.W.mg_none_of X G (freeB_ok (c.fact 17 rfl))), (PySem.W.mg_none_of X G (freeB_ok (c.fact 18 rfl))), (PySem.W.mg_none_of X G (freeB_ok (c.fact 19 rfl)))⟩
  have hsup : mg "super" = none := (PySem.W.mg_none_of X G (freeB_ok (c.fact 17 rfl)))
  have e := hfa.symm.trans (PySem.W.mg_of X G (gloB_ok (c.fact 20 rfl)))
  cases e
  obtain ⟨kV_law, doc_law, pm_law, an_law, cd_law, ct_law, F_law⟩ := fy_fun (d := ⟨fun K => (He.ga K "law"), "law", "law", S_law, 0⟩) c 0 rfl rfl (c.fact 21 rfl)
  have F_law : Fun K "law" "law" S_law (He.ga K "law") (PySem.W.fnOf "law" "law" (defArgs S_law) (defBody S_law) (defScope S_law) .none kV_law doc_law pm_law an_law cd_law ct_law) := F_law
  have b_law := F_law.binds (ps := ["_law_script"]) fun _ _ _ _ _ _ us hl => match us, hl with | [_], _ => rfl
  obtain ⟨cL, PT, LT⟩ := tabB_ok (c.fact 22 rfl)
  have hcL : (PySem.W.fnOf "law" "law" (defArgs S_law) (defBody S_law) (defScope S_law) .none kV_law doc_law pm_law an_law cd_law ct_law).code = .ref cL := by
    obtain ⟨_, _, _, _, _, _, _, _, _, _, lk, _⟩ := F_law.ex
    exact law_codeT X G LT hfa lk rfl
  refine ⟨PySem.W.fnOf "law" "law" (defArgs S_law) (defBody S_law) (defScope S_law) .none kV_law doc_law pm_law an_law cd_law ct_law, cL, PT, LT, fun s v => .of_eq rfl, fun base _ _ TB => ?_⟩
  have Hc : Hi K mg (pclz K) := ⟨riB_ok (c.fact 23 rfl), riB_ok (c.fact 24 rfl), riB_ok (c.fact 25 rfl), riB_ok (c.fact 26 rfl), riB_ok (c.fact 27 rfl), riB_ok (c.fact 28 rfl), riB_ok (c.fact 29 rfl), riB_ok (c.fact 30 rfl), riB_ok (c.fact 31 rfl), riB_ok (c.fact 32 rfl), riB_ok (c.fact 33 rfl), riB_ok (c.fact 34 rfl), riB_ok (c.fact 35 rfl), riB_ok (c.fact 36 rfl), (PySem.W.mg_of X G (gloB_ok (c.fact 37 rfl))), (PySem.W.mg_of X G (gloB_ok (c.fact 38 rfl))), (PySem.W.mg_of X G (gloB_ok (c.fact 39 rfl))), (PySem.W.mg_of X G (gloB_ok (c.fact 40 rfl))), of_decide_eq_true (c.fact 41 rfl)⟩
  have Rc : ChT K mg (pclz K).change := chB_ok (c.fact 42 rfl) (PySem.W.mg_of X G (gloB_ok (c.fact 43 rfl)))
  have GL : GS mg "LETTERS" letters := let ⟨t, h⟩ := strB_ok (c.fact 44 rfl); ⟨t, PySem.W.mg_of X G h⟩
  have GM : GI mg "MOST_LETTERS" 4 := let ⟨t, h⟩ := intB_ok (c.fact 45 rfl); ⟨t, PySem.W.mg_of X G h⟩
  have GB : GT K mg "BARRED" [.str "not", .str "is"] := gt_strs (zs := ["not", "is"]) (PySem.W.mg_of X G (gloB_ok (c.fact 46 rfl))) (c.fact 47 rfl) (by decide)
  have mgU := (PySem.W.mg_of X G (gloB_ok (c.fact 48 rfl)))
  have UE : UeC K (He.ga K "UnmarkedError") := ⟨⟨(c.fact 49 rfl), (of_decide_eq_true (c.fact 50 rfl))⟩, (clsB_ok (c.fact 51 rfl))⟩
  obtain ⟨_, _, _, _, _, _, _, _, _, _, _, _, _, _, x_InvalidRow⟩ := errB_ok (c.fact 52 rfl)
  have O_InvalidRow : OexC K (He.ga K "InvalidRow") := ⟨⟨_, _, _, _, _, _, _, _, _, _, _, _, _, _, _, x_InvalidRow, by rfl⟩, (of_decide_eq_true (c.fact 53 rfl)), (of_decide_eq_true (c.fact 54 rfl)), (of_decide_eq_true (c.fact 55 rfl)), (c.fact 56 rfl)⟩
  obtain ⟨kV_InvalidRow__init_, doc_InvalidRow__init_, pm_InvalidRow__init_, an_InvalidRow__init_, cd_InvalidRow__init_, ct_InvalidRow__init_, F_InvalidRow__init_⟩ := fy_fun (d := ⟨fun K => (He.ma K (He.ga K "InvalidRow") "__init__"), "__init__", "InvalidRow.__init__", S_InvalidRow__init_, 0⟩) c 1 rfl rfl (c.fact 57 rfl)
  have F_InvalidRow__init_ : Fun K "__init__" "InvalidRow.__init__" S_InvalidRow__init_ (He.ma K (He.ga K "InvalidRow") "__init__") (PySem.W.fnOf "__init__" "InvalidRow.__init__" (defArgs S_InvalidRow__init_) (defBody S_InvalidRow__init_) (defScope S_InvalidRow__init_) .none kV_InvalidRow__init_ doc_InvalidRow__init_ pm_InvalidRow__init_ an_InvalidRow__init_ cd_InvalidRow__init_ ct_InvalidRow__init_) := F_InvalidRow__init_
  have b_InvalidRow__init_ := F_InvalidRow__init_.binds (ps := ["self", "part"]) fun _ _ _ _ _ _ us hl => match us, hl with | [_, _], _ => rfl
  have E_InvalidRow : Er1 P0 w K mg base "InvalidRow" (He.ga K "InvalidRow") "part" "part" := ⟨_, _, (ok_err_InvalidRow F_InvalidRow__init_ UE mgU O_InvalidRow (of_decide_eq_true (c.fact 60 rfl))).mono (by decide), O_InvalidRow, (of_decide_eq_true (c.fact 58 rfl)), (of_decide_eq_true (c.fact 59 rfl)), (PySem.W.mg_of X G (gloB_ok (c.fact 61 rfl))), b_InvalidRow__init_⟩
  obtain ⟨_, _, _, _, _, _, _, _, _, _, _, _, _, _, x_InvalidChange⟩ := errB_ok (c.fact 62 rfl)
  have O_InvalidChange : OexC K (He.ga K "InvalidChange") := ⟨⟨_, _, _, _, _, _, _, _, _, _, _, _, _, _, _, x_InvalidChange, by rfl⟩, (of_decide_eq_true (c.fact 63 rfl)), (of_decide_eq_true (c.fact 64 rfl)), (of_decide_eq_true (c.fact 65 rfl)), (c.fact 66 rfl)⟩
  obtain ⟨kV_InvalidChange__init_, doc_InvalidChange__init_, pm_InvalidChange__init_, an_InvalidChange__init_, cd_InvalidChange__init_, ct_InvalidChange__init_, F_InvalidChange__init_⟩ := fy_fun (d := ⟨fun K => (He.ma K (He.ga K "InvalidChange") "__init__"), "__init__", "InvalidChange.__init__", S_InvalidChange__init_, 0⟩) c 2 rfl rfl (c.fact 67 rfl)
  have F_InvalidChange__init_ : Fun K "__init__" "InvalidChange.__init__" S_InvalidChange__init_ (He.ma K (He.ga K "InvalidChange") "__init__") (PySem.W.fnOf "__init__" "InvalidChange.__init__" (defArgs S_InvalidChange__init_) (defBody S_InvalidChange__init_) (defScope S_InvalidChange__init_) .none kV_InvalidChange__init_ doc_InvalidChange__init_ pm_InvalidChange__init_ an_InvalidChange__init_ cd_InvalidChange__init_ ct_InvalidChange__init_) := F_InvalidChange__init_
  have b_InvalidChange__init_ := F_InvalidChange__init_.binds (ps := ["self"]) fun _ _ _ _ _ _ us hl => match us, hl with | [_], _ => rfl
  have E_InvalidChange : ErC P0 w K mg base "InvalidChange" (He.ga K "InvalidChange") := ⟨_, _, (ok_err_InvalidChange F_InvalidChange__init_ UE mgU O_InvalidChange).mono (by decide), O_InvalidChange, (of_decide_eq_true (c.fact 68 rfl)), (of_decide_eq_true (c.fact 69 rfl)), (PySem.W.mg_of X G (gloB_ok (c.fact 70 rfl))), b_InvalidChange__init_⟩
  obtain ⟨kV_is_integer, doc_is_integer, pm_is_integer, an_is_integer, cd_is_integer, ct_is_integer, F_is_integer⟩ := fy_fun (d := ⟨fun K => (He.ga K "is_integer"), "is_integer", "is_integer", S_is_integer, 0⟩) c 3 rfl rfl (c.fact 71 rfl)
  have F_is_integer : Fun K "is_integer" "is_integer" S_is_integer (He.ga K "is_integer") (PySem.W.fnOf "is_integer" "is_integer" (defArgs S_is_integer) (defBody S_is_integer) (defScope S_is_integer) .none kV_is_integer doc_is_integer pm_is_integer an_is_integer cd_is_integer ct_is_integer) := F_is_integer
  have b_is_integer := F_is_integer.binds (ps := ["value"]) fun _ _ _ _ _ _ us hl => match us, hl with | [_], _ => rfl
  have C_isint : FnC P0 w K mg base CX0 1 "is_integer" ["value"] (sp_isint K) := ⟨_, _, ok_isint F_is_integer T , (PySem.W.mg_of X G (gloB_ok (c.fact 72 rfl))), (c.fact 71 rfl), b_is_integer⟩
  obtain ⟨kV_is_name, doc_is_name, pm_is_name, an_is_name, cd_is_name, ct_is_name, F_is_name⟩ := fy_fun (d := ⟨fun K => (He.ga K "is_name"), "is_name", "is_name", S_is_name, 0⟩) c 4 rfl rfl (c.fact 73 rfl)
  have F_is_name : Fun K "is_name" "is_name" S_is_name (He.ga K "is_name") (PySem.W.fnOf "is_name" "is_name" (defArgs S_is_name) (defBody S_is_name) (defScope S_is_name) .none kV_is_name doc_is_name pm_is_name an_is_name cd_is_name ct_is_name) := F_is_name
  have b_is_name := F_is_name.binds (ps := ["value"]) fun _ _ _ _ _ _ us hl => match us, hl with | [_], _ => rfl
  have C_isname : FnC P0 w K mg base CX0 1 "is_name" ["value"] (sp_isname K) := ⟨_, _, ok_isname F_is_name T GL GM GB, (PySem.W.mg_of X G (gloB_ok (c.fact 74 rfl))), (c.fact 73 rfl), b_is_name⟩
  obtain ⟨kV_need_name, doc_need_name, pm_need_name, an_need_name, cd_need_name, ct_need_name, F_need_name⟩ := fy_fun (d := ⟨fun K => (He.ga K "need_name"), "need_name", "need_name", S_need_name, 0⟩) c 5 rfl rfl (c.fact 75 rfl)
  have F_need_name : Fun K "need_name" "need_name" S_need_name (He.ga K "need_name") (PySem.W.fnOf "need_name" "need_name" (defArgs S_need_name) (defBody S_need_name) (defScope S_need_name) .none kV_need_name doc_need_name pm_need_name an_need_name cd_need_name ct_need_name) := F_need_name
  have b_need_name := F_need_name.binds (ps := ["value", "part"]) fun _ _ _ _ _ _ us hl => match us, hl with | [_, _], _ => rfl
  have C_ndname : FnC P0 w K mg base (L2.CX P0 w) 4 "need_name" ["value", "part"] (sp_ndname K (He.ga K "InvalidRow")) := ⟨_, _, ok_ndname F_need_name T C_isname E_InvalidRow, (PySem.W.mg_of X G (gloB_ok (c.fact 76 rfl))), (c.fact 75 rfl), b_need_name⟩
  obtain ⟨kV_need_number, doc_need_number, pm_need_number, an_need_number, cd_need_number, ct_need_number, F_need_number⟩ := fy_fun (d := ⟨fun K => (He.ga K "need_number"), "need_number", "need_number", S_need_number, 0⟩) c 6 rfl rfl (c.fact 77 rfl)
  have F_need_number : Fun K "need_number" "need_number" S_need_number (He.ga K "need_number") (PySem.W.fnOf "need_number" "need_number" (defArgs S_need_number) (defBody S_need_number) (defScope S_need_number) .none kV_need_number doc_need_number pm_need_number an_need_number cd_need_number ct_need_number) := F_need_number
  have b_need_number := F_need_number.binds (ps := ["value"]) fun _ _ _ _ _ _ us hl => match us, hl with | [_], _ => rfl
  have C_ndnum : FnC P0 w K mg base (L2.CX P0 w) 4 "need_number" ["value"] (sp_ndnum K (He.ga K "InvalidRow")) := ⟨_, _, ok_ndnum F_need_number T C_isint E_InvalidRow, (PySem.W.mg_of X G (gloB_ok (c.fact 78 rfl))), (c.fact 77 rfl), b_need_number⟩
  obtain ⟨kV_need_test, doc_need_test, pm_need_test, an_need_test, cd_need_test, ct_need_test, F_need_test⟩ := fy_fun (d := ⟨fun K => (He.ga K "need_test"), "need_test", "need_test", S_need_test, 0⟩) c 7 rfl rfl (c.fact 79 rfl)
  have F_need_test : Fun K "need_test" "need_test" S_need_test (He.ga K "need_test") (PySem.W.fnOf "need_test" "need_test" (defArgs S_need_test) (defBody S_need_test) (defScope S_need_test) .none kV_need_test doc_need_test pm_need_test an_need_test cd_need_test ct_need_test) := F_need_test
  have b_need_test := F_need_test.binds (ps := ["value"]) fun _ _ _ _ _ _ us hl => match us, hl with | [_], _ => rfl
  have C_ndtest : FnC P0 w K mg base (L2.CX P0 w) 4 "need_test" ["value"] (sp_ndtest K (pclz K) (He.ga K "InvalidRow")) := ⟨_, _, ok_ndtest F_need_test T Hc E_InvalidRow, (PySem.W.mg_of X G (gloB_ok (c.fact 80 rfl))), (c.fact 79 rfl), b_need_test⟩
  obtain ⟨kV_need_rows, doc_need_rows, pm_need_rows, an_need_rows, cd_need_rows, ct_need_rows, F_need_rows⟩ := fy_fun (d := ⟨fun K => (He.ga K "need_rows"), "need_rows", "need_rows", S_need_rows, 0⟩) c 8 rfl rfl (c.fact 81 rfl)
  have F_need_rows : Fun K "need_rows" "need_rows" S_need_rows (He.ga K "need_rows") (PySem.W.fnOf "need_rows" "need_rows" (defArgs S_need_rows) (defBody S_need_rows) (defScope S_need_rows) .none kV_need_rows doc_need_rows pm_need_rows an_need_rows cd_need_rows ct_need_rows) := F_need_rows
  have b_need_rows := F_need_rows.binds (ps := ["rows"]) fun _ _ _ _ _ _ us hl => match us, hl with | [_], _ => rfl
  have C_ndrows : FnC P0 w K mg base (L2.CX P0 w) 4 "need_rows" ["rows"] (sp_ndrows K (pclz K) (He.ga K "InvalidRow")) := ⟨_, _, ok_ndrows F_need_rows T Hc E_InvalidRow, (PySem.W.mg_of X G (gloB_ok (c.fact 82 rfl))), (c.fact 81 rfl), b_need_rows⟩
  obtain ⟨fd_Part__init_, F_Part__init_⟩ := fy_funD (d := ⟨fun K => (He.ma K (He.ga K "Part") "__init__"), "__init__", "Part.__init__", S_Part__init_, 2⟩) c 9 rfl rfl (c.fact 83 rfl) (c.fact 84 rfl)
  have F_Part__init_ : FunD K "__init__" "Part.__init__" (defArgs S_Part__init_) (defBody S_Part__init_) (defScope S_Part__init_) [.ref (dfl0 K (He.ma K (He.ga K "Part") "__init__"))] [] (He.ma K (He.ga K "Part") "__init__") fd_Part__init_ := F_Part__init_
  have GG : GT K mg "GOALS_rows" [.str "alike", .str "longer", .str "shorter"] := gt_strs (zs := ["alike", "longer", "shorter"]) (PySem.W.mg_of X G (gloB_ok (c.fact 85 rfl))) (c.fact 86 rfl) (by decide)
  obtain ⟨kV_Part__str_, doc_Part__str_, pm_Part__str_, an_Part__str_, cd_Part__str_, ct_Part__str_, F_Part__str_⟩ := fy_fun (d := ⟨fun K => (He.ma K (He.ga K "Part") "__str__"), "__str__", "Part.__str__", S_Part__str_, 0⟩) c 10 rfl rfl (c.fact 87 rfl)
  have F_Part__str_ : Fun K "__str__" "Part.__str__" S_Part__str_ (He.ma K (He.ga K "Part") "__str__") (PySem.W.fnOf "__str__" "Part.__str__" (defArgs S_Part__str_) (defBody S_Part__str_) (defScope S_Part__str_) .none kV_Part__str_ doc_Part__str_ pm_Part__str_ an_Part__str_ cd_Part__str_ ct_Part__str_) := F_Part__str_
  have b_Part__str_ := F_Part__str_.binds (ps := ["self"]) fun _ _ _ _ _ _ us hl => match us, hl with | [_], _ => rfl
  have Hs : Ht P0 w K mg base (pclz K) := ht_of (ok_pstr F_Part__str_ T) b_Part__str_ (c.fact 88 rfl) (c.fact 89 rfl)
  have S_Exchange__init__ := supB_ok (P := P0) (mg := mg) (D := (He.ga K "Exchange")) (f := (He.ma K (He.ga K "Exchange") "__init__")) (by kernel_rfl) hsup (c.fact 91 rfl)
  obtain ⟨fd_Exchange__init_, F_Exchange__init_⟩ := fy_funS (d := ⟨fun K => (He.ma K (He.ga K "Exchange") "__init__"), "__init__", "Exchange.__init__", S_Exchange__init_, 1⟩) c 11 rfl rfl (c.fact 90 rfl) S_Exchange__init__
  have F_Exchange__init_ : FunS P0 K mg "__init__" "Exchange.__init__" S_Exchange__init_ (He.ga K "Exchange") [] (He.ma K (He.ga K "Exchange") "__init__") fd_Exchange__init_ := F_Exchange__init_
  have b_Exchange__init_ := funS_bindsN F_Exchange__init_ (ps := ["self"]) fun _ _ _ _ _ _ _ us hl => match us, hl with | [_], _ => rfl
  have K_exch : MkC P0 w K mg base CX0 4 (pclz K).exch "Exchange" ["self"] (sp_rinit K (pclz K) (pclz K).exch fun H p => RowAt K (pclz K) H p .exch) := ⟨_, _, ok_exchinit (c := pclz K) F_Exchange__init_ T Hc (sup_1 F_Part__init_ T (supMB_ok (c.fact 92 rfl))) (fun H => dflB_sq (c.fact 84 rfl) H), mkB_ok (c.fact 93 rfl), (PySem.W.mg_of X G (gloB_ok (c.fact 94 rfl))), b_Exchange__init_⟩
  have S_Lay__init__ := supB_ok (P := P0) (mg := mg) (D := (He.ga K "Lay")) (f := (He.ma K (He.ga K "Lay") "__init__")) (by kernel_rfl) hsup (c.fact 96 rfl)
  obtain ⟨fd_Lay__init_, F_Lay__init_⟩ := fy_funS (d := ⟨fun K => (He.ma K (He.ga K "Lay") "__init__"), "__init__", "Lay.__init__", S_Lay__init_, 1⟩) c 12 rfl rfl (c.fact 95 rfl) S_Lay__init__
  have F_Lay__init_ : FunS P0 K mg "__init__" "Lay.__init__" S_Lay__init_ (He.ga K "Lay") [] (He.ma K (He.ga K "Lay") "__init__") fd_Lay__init_ := F_Lay__init_
  have b_Lay__init_ := funS_bindsN F_Lay__init_ (ps := ["self"]) fun _ _ _ _ _ _ _ us hl => match us, hl with | [_], _ => rfl
  have K_lay : MkC P0 w K mg base CX0 4 (pclz K).lay "Lay" ["self"] (sp_rinit K (pclz K) (pclz K).lay fun H p => RowAt K (pclz K) H p .lay) := ⟨_, _, ok_layinit (c := pclz K) F_Lay__init_ T Hc (sup_1 F_Part__init_ T (supMB_ok (c.fact 97 rfl))) (fun H => dflB_sq (c.fact 84 rfl) H), mkB_ok (c.fact 98 rfl), (PySem.W.mg_of X G (gloB_ok (c.fact 99 rfl))), b_Lay__init_⟩
  have S_Stop__init__ := supB_ok (P := P0) (mg := mg) (D := (He.ga K "Stop")) (f := (He.ma K (He.ga K "Stop") "__init__")) (by kernel_rfl) hsup (c.fact 101 rfl)
  obtain ⟨fd_Stop__init_, F_Stop__init_⟩ := fy_funS (d := ⟨fun K => (He.ma K (He.ga K "Stop") "__init__"), "__init__", "Stop.__init__", S_Stop__init_, 1⟩) c 13 rfl rfl (c.fact 100 rfl) S_Stop__init__
  have F_Stop__init_ : FunS P0 K mg "__init__" "Stop.__init__" S_Stop__init_ (He.ga K "Stop") [] (He.ma K (He.ga K "Stop") "__init__") fd_Stop__init_ := F_Stop__init_
  have b_Stop__init_ := funS_bindsN F_Stop__init_ (ps := ["self"]) fun _ _ _ _ _ _ _ us hl => match us, hl with | [_], _ => rfl
  have K_stop : MkC P0 w K mg base CX0 4 (pclz K).stop "Stop" ["self"] (sp_rinit K (pclz K) (pclz K).stop fun H p => RowAt K (pclz K) H p .stop) := ⟨_, _, ok_stopinit (c := pclz K) F_Stop__init_ T Hc (sup_1 F_Part__init_ T (supMB_ok (c.fact 102 rfl))) (fun H => dflB_sq (c.fact 84 rfl) H), mkB_ok (c.fact 103 rfl), (PySem.W.mg_of X G (gloB_ok (c.fact 104 rfl))), b_Stop__init_⟩
  have S_Longer__init__ := supB_ok (P := P0) (mg := mg) (D := (He.ga K "Longer")) (f := (He.ma K (He.ga K "Longer") "__init__")) (by kernel_rfl) hsup (c.fact 106 rfl)
  obtain ⟨fd_Longer__init_, F_Longer__init_⟩ := fy_funS (d := ⟨fun K => (He.ma K (He.ga K "Longer") "__init__"), "__init__", "Longer.__init__", S_Longer__init_, 1⟩) c 14 rfl rfl (c.fact 105 rfl) S_Longer__init__
  have F_Longer__init_ : FunS P0 K mg "__init__" "Longer.__init__" S_Longer__init_ (He.ga K "Longer") [] (He.ma K (He.ga K "Longer") "__init__") fd_Longer__init_ := F_Longer__init_
  have b_Longer__init_ := funS_bindsN F_Longer__init_ (ps := ["self"]) fun _ _ _ _ _ _ _ us hl => match us, hl with | [_], _ => rfl
  have K_longer : MkC P0 w K mg base CX0 4 (pclz K).longer "Longer" ["self"] (sp_rinit K (pclz K) (pclz K).longer fun H p => TstAt K (pclz K) H p .longer) := ⟨_, _, ok_longerinit (c := pclz K) F_Longer__init_ T Hc (sup_1 F_Part__init_ T (supMB_ok (c.fact 107 rfl))) (fun H => dflB_sq (c.fact 84 rfl) H), mkB_ok (c.fact 108 rfl), (PySem.W.mg_of X G (gloB_ok (c.fact 109 rfl))), b_Longer__init_⟩
  have S_Shorter__init__ := supB_ok (P := P0) (mg := mg) (D := (He.ga K "Shorter")) (f := (He.ma K (He.ga K "Shorter") "__init__")) (by kernel_rfl) hsup (c.fact 111 rfl)
  obtain ⟨fd_Shorter__init_, F_Shorter__init_⟩ := fy_funS (d := ⟨fun K => (He.ma K (He.ga K "Shorter") "__init__"), "__init__", "Shorter.__init__", S_Shorter__init_, 1⟩) c 15 rfl rfl (c.fact 110 rfl) S_Shorter__init__
  have F_Shorter__init_ : FunS P0 K mg "__init__" "Shorter.__init__" S_Shorter__init_ (He.ga K "Shorter") [] (He.ma K (He.ga K "Shorter") "__init__") fd_Shorter__init_ := F_Shorter__init_
  have b_Shorter__init_ := funS_bindsN F_Shorter__init_ (ps := ["self"]) fun _ _ _ _ _ _ _ us hl => match us, hl with | [_], _ => rfl
  have K_shorter : MkC P0 w K mg base CX0 4 (pclz K).shorter "Shorter" ["self"] (sp_rinit K (pclz K) (pclz K).shorter fun H p => TstAt K (pclz K) H p .shorter) := ⟨_, _, ok_shorterinit (c := pclz K) F_Shorter__init_ T Hc (sup_1 F_Part__init_ T (supMB_ok (c.fact 112 rfl))) (fun H => dflB_sq (c.fact 84 rfl) H), mkB_ok (c.fact 113 rfl), (PySem.W.mg_of X G (gloB_ok (c.fact 114 rfl))), b_Shorter__init_⟩
  have S_Alike__init__ := supB_ok (P := P0) (mg := mg) (D := (He.ga K "Alike")) (f := (He.ma K (He.ga K "Alike") "__init__")) (by kernel_rfl) hsup (c.fact 116 rfl)
  obtain ⟨fd_Alike__init_, F_Alike__init_⟩ := fy_funS (d := ⟨fun K => (He.ma K (He.ga K "Alike") "__init__"), "__init__", "Alike.__init__", S_Alike__init_, 1⟩) c 16 rfl rfl (c.fact 115 rfl) S_Alike__init__
  have F_Alike__init_ : FunS P0 K mg "__init__" "Alike.__init__" S_Alike__init_ (He.ga K "Alike") [] (He.ma K (He.ga K "Alike") "__init__") fd_Alike__init_ := F_Alike__init_
  have b_Alike__init_ := funS_bindsN F_Alike__init_ (ps := ["self"]) fun _ _ _ _ _ _ _ us hl => match us, hl with | [_], _ => rfl
  have K_alike : MkC P0 w K mg base CX0 4 (pclz K).alike "Alike" ["self"] (sp_rinit K (pclz K) (pclz K).alike fun H p => TstAt K (pclz K) H p .alike) := ⟨_, _, ok_alikeinit (c := pclz K) F_Alike__init_ T Hc (sup_1 F_Part__init_ T (supMB_ok (c.fact 117 rfl))) (fun H => dflB_sq (c.fact 84 rfl) H), mkB_ok (c.fact 118 rfl), (PySem.W.mg_of X G (gloB_ok (c.fact 119 rfl))), b_Alike__init_⟩
  have S_Put__init__ := supB_ok (P := P0) (mg := mg) (D := (He.ga K "Put")) (f := (He.ma K (He.ga K "Put") "__init__")) (by kernel_rfl) hsup (c.fact 121 rfl)
  obtain ⟨fd_Put__init_, F_Put__init_⟩ := fy_funS (d := ⟨fun K => (He.ma K (He.ga K "Put") "__init__"), "__init__", "Put.__init__", S_Put__init_, 1⟩) c 17 rfl rfl (c.fact 120 rfl) S_Put__init__
  have F_Put__init_ : FunS P0 K mg "__init__" "Put.__init__" S_Put__init_ (He.ga K "Put") [] (He.ma K (He.ga K "Put") "__init__") fd_Put__init_ := F_Put__init_
  have b_Put__init_ := funS_bindsN F_Put__init_ (ps := ["self", "note", "number"]) fun _ _ _ _ _ _ _ us hl => match us, hl with | [_, _, _], _ => rfl
  have X_put : MkC P0 w K mg base (L2.CX P0 w) 6 (pclz K).put "Put" ["self", "note", "number"] (sp_nn K (He.ga K "InvalidRow") (pclz K).put fun H x z i => RowAt K (pclz K) H x (.put z i)) := ⟨_, _, ok_putinit (c := pclz K) F_Put__init_ T Hc C_ndname C_ndnum (sup_0 F_Part__init_ T (supMB_ok (c.fact 122 rfl))), mkB_ok (c.fact 123 rfl), (PySem.W.mg_of X G (gloB_ok (c.fact 124 rfl))), b_Put__init_⟩
  have S_Add__init__ := supB_ok (P := P0) (mg := mg) (D := (He.ga K "Add")) (f := (He.ma K (He.ga K "Add") "__init__")) (by kernel_rfl) hsup (c.fact 126 rfl)
  obtain ⟨fd_Add__init_, F_Add__init_⟩ := fy_funS (d := ⟨fun K => (He.ma K (He.ga K "Add") "__init__"), "__init__", "Add.__init__", S_Add__init_, 1⟩) c 18 rfl rfl (c.fact 125 rfl) S_Add__init__
  have F_Add__init_ : FunS P0 K mg "__init__" "Add.__init__" S_Add__init_ (He.ga K "Add") [] (He.ma K (He.ga K "Add") "__init__") fd_Add__init_ := F_Add__init_
  have b_Add__init_ := funS_bindsN F_Add__init_ (ps := ["self", "note", "number"]) fun _ _ _ _ _ _ _ us hl => match us, hl with | [_, _, _], _ => rfl
  have X_add : MkC P0 w K mg base (L2.CX P0 w) 6 (pclz K).add "Add" ["self", "note", "number"] (sp_nn K (He.ga K "InvalidRow") (pclz K).add fun H x z i => RowAt K (pclz K) H x (.add z i)) := ⟨_, _, ok_addinit (c := pclz K) F_Add__init_ T Hc C_ndname C_ndnum (sup_0 F_Part__init_ T (supMB_ok (c.fact 127 rfl))), mkB_ok (c.fact 128 rfl), (PySem.W.mg_of X G (gloB_ok (c.fact 129 rfl))), b_Add__init_⟩
  have S_Holds__init__ := supB_ok (P := P0) (mg := mg) (D := (He.ga K "Holds")) (f := (He.ma K (He.ga K "Holds") "__init__")) (by kernel_rfl) hsup (c.fact 131 rfl)
  obtain ⟨fd_Holds__init_, F_Holds__init_⟩ := fy_funS (d := ⟨fun K => (He.ma K (He.ga K "Holds") "__init__"), "__init__", "Holds.__init__", S_Holds__init_, 1⟩) c 19 rfl rfl (c.fact 130 rfl) S_Holds__init__
  have F_Holds__init_ : FunS P0 K mg "__init__" "Holds.__init__" S_Holds__init_ (He.ga K "Holds") [] (He.ma K (He.ga K "Holds") "__init__") fd_Holds__init_ := F_Holds__init_
  have b_Holds__init_ := funS_bindsN F_Holds__init_ (ps := ["self", "note", "number"]) fun _ _ _ _ _ _ _ us hl => match us, hl with | [_, _, _], _ => rfl
  have X_holds : MkC P0 w K mg base (L2.CX P0 w) 6 (pclz K).holds "Holds" ["self", "note", "number"] (sp_nn K (He.ga K "InvalidRow") (pclz K).holds fun H x z i => TstAt K (pclz K) H x (.holds z i)) := ⟨_, _, ok_holdsinit (c := pclz K) F_Holds__init_ T Hc C_ndname C_ndnum (sup_0 F_Part__init_ T (supMB_ok (c.fact 132 rfl))), mkB_ok (c.fact 133 rfl), (PySem.W.mg_of X G (gloB_ok (c.fact 134 rfl))), b_Holds__init_⟩
  have S_Tell__init__ := supB_ok (P := P0) (mg := mg) (D := (He.ga K "Tell")) (f := (He.ma K (He.ga K "Tell") "__init__")) (by kernel_rfl) hsup (c.fact 137 rfl)
  obtain ⟨fd_Tell__init_, F_Tell__init_⟩ := fy_funS (d := ⟨fun K => (He.ma K (He.ga K "Tell") "__init__"), "__init__", "Tell.__init__", S_Tell__init_, 1⟩) c 20 rfl rfl (c.fact 136 rfl) S_Tell__init__
  have F_Tell__init_ : FunS P0 K mg "__init__" "Tell.__init__" S_Tell__init_ (He.ga K "Tell") [] (He.ma K (He.ga K "Tell") "__init__") fd_Tell__init_ := F_Tell__init_
  have b_Tell__init_ := funS_bindsN F_Tell__init_ (ps := ["self", "mark"]) fun _ _ _ _ _ _ _ us hl => match us, hl with | [_, _], _ => rfl
  have X_tell : MkC P0 w K mg base (L2.CX P0 w) 6 (pclz K).tell "Tell" ["self", "mark"] (sp_mark K (pclz K) (He.ga K "InvalidRow")) := ⟨_, _, ok_tellinit (c := pclz K) F_Tell__init_ T Hc C_ndname (sup_1 F_Part__init_ T (supMB_ok (c.fact 135 rfl))) (fun H => dflB_sq (c.fact 84 rfl) H), mkB_ok (c.fact 138 rfl), (PySem.W.mg_of X G (gloB_ok (c.fact 139 rfl))), b_Tell__init_⟩
  have S_Not__init__ := supB_ok (P := P0) (mg := mg) (D := (He.ga K "Not")) (f := (He.ma K (He.ga K "Not") "__init__")) (by kernel_rfl) hsup (c.fact 142 rfl)
  obtain ⟨fd_Not__init_, F_Not__init_⟩ := fy_funS (d := ⟨fun K => (He.ma K (He.ga K "Not") "__init__"), "__init__", "Not.__init__", S_Not__init_, 1⟩) c 21 rfl rfl (c.fact 141 rfl) S_Not__init__
  have F_Not__init_ : FunS P0 K mg "__init__" "Not.__init__" S_Not__init_ (He.ga K "Not") [] (He.ma K (He.ga K "Not") "__init__") fd_Not__init_ := F_Not__init_
  have b_Not__init_ := funS_bindsN F_Not__init_ (ps := ["self", "test"]) fun _ _ _ _ _ _ _ us hl => match us, hl with | [_, _], _ => rfl
  have X_not : MkC P0 w K mg base (L2.CX P0 w) 6 (pclz K).not "Not" ["self", "test"] (sp_not K (pclz K) (He.ga K "InvalidRow")) := ⟨_, _, ok_notinit (c := pclz K) F_Not__init_ T Hc Hs C_ndtest (sup_0 F_Part__init_ T (supMB_ok (c.fact 140 rfl))), mkB_ok (c.fact 143 rfl), (PySem.W.mg_of X G (gloB_ok (c.fact 144 rfl))), b_Not__init_⟩
  obtain ⟨kV_Change__str_, doc_Change__str_, pm_Change__str_, an_Change__str_, cd_Change__str_, ct_Change__str_, F_Change__str_⟩ := fy_fun (d := ⟨fun K => (He.ma K (He.ga K "Change") "__str__"), "__str__", "Change.__str__", S_Change__str_, 0⟩) c 22 rfl rfl (c.fact 145 rfl)
  have F_Change__str_ : Fun K "__str__" "Change.__str__" S_Change__str_ (He.ma K (He.ga K "Change") "__str__") (PySem.W.fnOf "__str__" "Change.__str__" (defArgs S_Change__str_) (defBody S_Change__str_) (defScope S_Change__str_) .none kV_Change__str_ doc_Change__str_ pm_Change__str_ an_Change__str_ cd_Change__str_ ct_Change__str_) := F_Change__str_
  have b_Change__str_ := F_Change__str_.binds (ps := ["self"]) fun _ _ _ _ _ _ us hl => match us, hl with | [_], _ => rfl
  have M_chstr : MtC P0 w K mg base CX0 1 (He.ga K "Change") "__str__" ["self"] (sp_chstr (pclz K).change) := ⟨_, _, ok_chstr F_Change__str_ T Rc, (mtB_ok (c.fact 146 rfl)), b_Change__str_⟩
  have Fc : FmC K (pclz K).change := fmB_ok (c.fact 147 rfl) (.head _)
  have S_Make__init__ := supB_ok (P := P0) (mg := mg) (D := (He.ga K "Make")) (f := (He.ma K (He.ga K "Make") "__init__")) (by kernel_rfl) hsup (c.fact 150 rfl)
  obtain ⟨fd_Make__init_, F_Make__init_⟩ := fy_funS (d := ⟨fun K => (He.ma K (He.ga K "Make") "__init__"), "__init__", "Make.__init__", S_Make__init_, 1⟩) c 23 rfl rfl (c.fact 149 rfl) S_Make__init__
  have F_Make__init_ : FunS P0 K mg "__init__" "Make.__init__" S_Make__init_ (He.ga K "Make") [] (He.ma K (He.ga K "Make") "__init__") fd_Make__init_ := F_Make__init_
  have b_Make__init_ := funS_bindsN F_Make__init_ (ps := ["self", "change"]) fun _ _ _ _ _ _ _ us hl => match us, hl with | [_, _], _ => rfl
  have X_make : MkC P0 w K mg base (L2.CX P0 w) 6 (pclz K).make "Make" ["self", "change"] (sp_make K (pclz K) (He.ga K "InvalidRow")) := ⟨_, _, ok_makeinit (c := pclz K) F_Make__init_ T Hc Rc M_chstr Fc E_InvalidRow (sup_1 F_Part__init_ T (supMB_ok (c.fact 148 rfl))) (fun H => dflB_sq (c.fact 84 rfl) H), mkB_ok (c.fact 151 rfl), (PySem.W.mg_of X G (gloB_ok (c.fact 40 rfl))), b_Make__init_⟩
  obtain ⟨kV_Change__init_, doc_Change__init_, pm_Change__init_, an_Change__init_, cd_Change__init_, ct_Change__init_, F_Change__init_⟩ := fy_fun (d := ⟨fun K => (He.ma K (He.ga K "Change") "__init__"), "__init__", "Change.__init__", S_Change__init_, 0⟩) c 24 rfl rfl (c.fact 152 rfl)
  have F_Change__init_ : Fun K "__init__" "Change.__init__" S_Change__init_ (He.ma K (He.ga K "Change") "__init__") (PySem.W.fnOf "__init__" "Change.__init__" (defArgs S_Change__init_) (defBody S_Change__init_) (defScope S_Change__init_) .none kV_Change__init_ doc_Change__init_ pm_Change__init_ an_Change__init_ cd_Change__init_ ct_Change__init_) := F_Change__init_
  have b_Change__init_ := F_Change__init_.binds (ps := ["self", "a", "b", "c", "d"]) fun _ _ _ _ _ _ us hl => match us, hl with | [_, _, _, _, _], _ => rfl
  have C_changeX : MkC P0 w K mg base (L2.CX P0 w) 4 (He.ga K "Change") "Change" ["self", "a", "b", "c", "d"] (sp_chinit (pclz K).change (He.ga K "InvalidChange") K) := ⟨_, _, ok_chinit F_Change__init_ T Rc E_InvalidChange C_isint, mkB_ok (c.fact 153 rfl), (PySem.W.mg_of X G (gloB_ok (c.fact 43 rfl))), b_Change__init_⟩
  obtain ⟨kV_lines_of, doc_lines_of, pm_lines_of, an_lines_of, cd_lines_of, ct_lines_of, F_lines_of⟩ := fy_fun (d := ⟨fun K => (He.ga K "lines_of"), "lines_of", "lines_of", S_lines_of, 0⟩) c 25 rfl rfl (c.fact 154 rfl)
  have F_lines_of : Fun K "lines_of" "lines_of" S_lines_of (He.ga K "lines_of") (PySem.W.fnOf "lines_of" "lines_of" (defArgs S_lines_of) (defBody S_lines_of) (defScope S_lines_of) .none kV_lines_of doc_lines_of pm_lines_of an_lines_of cd_lines_of ct_lines_of) := F_lines_of
  have b_lines_of := F_lines_of.binds (ps := ["rows"]) fun _ _ _ _ _ _ us hl => match us, hl with | [_], _ => rfl
  have C_lines : FnC P0 w K mg base CX0 2 "lines_of" ["rows"] (sp_lines K (pclz K)) := ⟨_, _, ok_linesof F_lines_of T Hc, (PySem.W.mg_of X G (gloB_ok (c.fact 155 rfl))), (c.fact 154 rfl), b_lines_of⟩
  obtain ⟨kV_Row_inner, doc_Row_inner, pm_Row_inner, an_Row_inner, cd_Row_inner, ct_Row_inner, F_Row_inner⟩ := fy_fun (d := ⟨fun K => (He.ma K (He.ga K "Row") "inner"), "inner", "Row.inner", S_Row_inner, 0⟩) c 26 rfl rfl (c.fact 156 rfl)
  have F_Row_inner : Fun K "inner" "Row.inner" S_Row_inner (He.ma K (He.ga K "Row") "inner") (PySem.W.fnOf "inner" "Row.inner" (defArgs S_Row_inner) (defBody S_Row_inner) (defScope S_Row_inner) .none kV_Row_inner doc_Row_inner pm_Row_inner an_Row_inner cd_Row_inner ct_Row_inner) := F_Row_inner
  have b_Row_inner := F_Row_inner.binds (ps := ["self"]) fun _ _ _ _ _ _ us hl => match us, hl with | [_], _ => rfl
  obtain ⟨kV_If_inner, doc_If_inner, pm_If_inner, an_If_inner, cd_If_inner, ct_If_inner, F_If_inner⟩ := fy_fun (d := ⟨fun K => (He.ma K (He.ga K "If") "inner"), "inner", "If.inner", S_If_inner, 0⟩) c 27 rfl rfl (c.fact 157 rfl)
  have F_If_inner : Fun K "inner" "If.inner" S_If_inner (He.ma K (He.ga K "If") "inner") (PySem.W.fnOf "inner" "If.inner" (defArgs S_If_inner) (defBody S_If_inner) (defScope S_If_inner) .none kV_If_inner doc_If_inner pm_If_inner an_If_inner cd_If_inner ct_If_inner) := F_If_inner
  have b_If_inner := F_If_inner.binds (ps := ["self"]) fun _ _ _ _ _ _ us hl => match us, hl with | [_], _ => rfl
  obtain ⟨kV_Until_inner, doc_Until_inner, pm_Until_inner, an_Until_inner, cd_Until_inner, ct_Until_inner, F_Until_inner⟩ := fy_fun (d := ⟨fun K => (He.ma K (He.ga K "Until") "inner"), "inner", "Until.inner", S_Until_inner, 0⟩) c 28 rfl rfl (c.fact 158 rfl)
  have F_Until_inner : Fun K "inner" "Until.inner" S_Until_inner (He.ma K (He.ga K "Until") "inner") (PySem.W.fnOf "inner" "Until.inner" (defArgs S_Until_inner) (defBody S_Until_inner) (defScope S_Until_inner) .none kV_Until_inner doc_Until_inner pm_Until_inner an_Until_inner cd_Until_inner ct_Until_inner) := F_Until_inner
  have b_Until_inner := F_Until_inner.binds (ps := ["self"]) fun _ _ _ _ _ _ us hl => match us, hl with | [_], _ => rfl
  obtain ⟨kV_inner_rows, doc_inner_rows, pm_inner_rows, an_inner_rows, cd_inner_rows, ct_inner_rows, F_inner_rows⟩ := fy_fun (d := ⟨fun K => (He.ga K "inner_rows"), "inner_rows", "inner_rows", S_inner_rows, 0⟩) c 29 rfl rfl (c.fact 159 rfl)
  have F_inner_rows : Fun K "inner_rows" "inner_rows" S_inner_rows (He.ga K "inner_rows") (PySem.W.fnOf "inner_rows" "inner_rows" (defArgs S_inner_rows) (defBody S_inner_rows) (defScope S_inner_rows) .none kV_inner_rows doc_inner_rows pm_inner_rows an_inner_rows cd_inner_rows ct_inner_rows) := F_inner_rows
  have b_inner_rows := F_inner_rows.binds (ps := ["rows"]) fun _ _ _ _ _ _ us hl => match us, hl with | [_], _ => rfl
  have M_inner := inner_all (P := P0) (w := w) (base := base) T Hc F_Row_inner F_If_inner F_Until_inner F_inner_rows (fun u hu => fun h => mt_of (meB_ok (c.fact 160 rfl) (flat_mem _ hu)) b_Row_inner h) (fun h => mt_of (mtB_ok (c.fact 161 rfl)) b_If_inner h) (fun h => mt_of (mtB_ok (c.fact 162 rfl)) b_Until_inner h) (fun h => ⟨_, _, h, (PySem.W.mg_of X G (gloB_ok (c.fact 163 rfl))), (c.fact 159 rfl), b_inner_rows⟩)
  have C_irowsA := fun d => (fun h => (⟨_, _, h, (PySem.W.mg_of X G (gloB_ok (c.fact 163 rfl))), (c.fact 159 rfl), b_inner_rows⟩ : FnC P0 w K mg base CX0 (2 * d + 2) "inner_rows" ["rows"] (sp_irows K (pclz K) d))) (ok_irows (d := d) F_inner_rows T Hc (M_inner d))
  obtain ⟨kV_Row_is_laying, doc_Row_is_laying, pm_Row_is_laying, an_Row_is_laying, cd_Row_is_laying, ct_Row_is_laying, F_Row_is_laying⟩ := fy_fun (d := ⟨fun K => (He.ma K (He.ga K "Row") "is_laying"), "is_laying", "Row.is_laying", S_Row_is_laying, 0⟩) c 30 rfl rfl (c.fact 164 rfl)
  have F_Row_is_laying : Fun K "is_laying" "Row.is_laying" S_Row_is_laying (He.ma K (He.ga K "Row") "is_laying") (PySem.W.fnOf "is_laying" "Row.is_laying" (defArgs S_Row_is_laying) (defBody S_Row_is_laying) (defScope S_Row_is_laying) .none kV_Row_is_laying doc_Row_is_laying pm_Row_is_laying an_Row_is_laying cd_Row_is_laying ct_Row_is_laying) := F_Row_is_laying
  have b_Row_is_laying := F_Row_is_laying.binds (ps := ["self"]) fun _ _ _ _ _ _ us hl => match us, hl with | [_], _ => rfl
  obtain ⟨kV_Lay_is_laying, doc_Lay_is_laying, pm_Lay_is_laying, an_Lay_is_laying, cd_Lay_is_laying, ct_Lay_is_laying, F_Lay_is_laying⟩ := fy_fun (d := ⟨fun K => (He.ma K (He.ga K "Lay") "is_laying"), "is_laying", "Lay.is_laying", S_Lay_is_laying, 0⟩) c 31 rfl rfl (c.fact 165 rfl)
  have F_Lay_is_laying : Fun K "is_laying" "Lay.is_laying" S_Lay_is_laying (He.ma K (He.ga K "Lay") "is_laying") (PySem.W.fnOf "is_laying" "Lay.is_laying" (defArgs S_Lay_is_laying) (defBody S_Lay_is_laying) (defScope S_Lay_is_laying) .none kV_Lay_is_laying doc_Lay_is_laying pm_Lay_is_laying an_Lay_is_laying cd_Lay_is_laying ct_Lay_is_laying) := F_Lay_is_laying
  have b_Lay_is_laying := F_Lay_is_laying.binds (ps := ["self"]) fun _ _ _ _ _ _ us hl => match us, hl with | [_], _ => rfl
  obtain ⟨kV_Stop_is_laying, doc_Stop_is_laying, pm_Stop_is_laying, an_Stop_is_laying, cd_Stop_is_laying, ct_Stop_is_laying, F_Stop_is_laying⟩ := fy_fun (d := ⟨fun K => (He.ma K (He.ga K "Stop") "is_laying"), "is_laying", "Stop.is_laying", S_Stop_is_laying, 0⟩) c 32 rfl rfl (c.fact 166 rfl)
  have F_Stop_is_laying : Fun K "is_laying" "Stop.is_laying" S_Stop_is_laying (He.ma K (He.ga K "Stop") "is_laying") (PySem.W.fnOf "is_laying" "Stop.is_laying" (defArgs S_Stop_is_laying) (defBody S_Stop_is_laying) (defScope S_Stop_is_laying) .none kV_Stop_is_laying doc_Stop_is_laying pm_Stop_is_laying an_Stop_is_laying cd_Stop_is_laying ct_Stop_is_laying) := F_Stop_is_laying
  have b_Stop_is_laying := F_Stop_is_laying.binds (ps := ["self"]) fun _ _ _ _ _ _ us hl => match us, hl with | [_], _ => rfl
  obtain ⟨kV_If_is_laying, doc_If_is_laying, pm_If_is_laying, an_If_is_laying, cd_If_is_laying, ct_If_is_laying, F_If_is_laying⟩ := fy_fun (d := ⟨fun K => (He.ma K (He.ga K "If") "is_laying"), "is_laying", "If.is_laying", S_If_is_laying, 0⟩) c 33 rfl rfl (c.fact 167 rfl)
  have F_If_is_laying : Fun K "is_laying" "If.is_laying" S_If_is_laying (He.ma K (He.ga K "If") "is_laying") (PySem.W.fnOf "is_laying" "If.is_laying" (defArgs S_If_is_laying) (defBody S_If_is_laying) (defScope S_If_is_laying) .none kV_If_is_laying doc_If_is_laying pm_If_is_laying an_If_is_laying cd_If_is_laying ct_If_is_laying) := F_If_is_laying
  have b_If_is_laying := F_If_is_laying.binds (ps := ["self"]) fun _ _ _ _ _ _ us hl => match us, hl with | [_], _ => rfl
  obtain ⟨kV_Until_is_laying, doc_Until_is_laying, pm_Until_is_laying, an_Until_is_laying, cd_Until_is_laying, ct_Until_is_laying, F_Until_is_laying⟩ := fy_fun (d := ⟨fun K => (He.ma K (He.ga K "Until") "is_laying"), "is_laying", "Until.is_laying", S_Until_is_laying, 0⟩) c 34 rfl rfl (c.fact 168 rfl)
  have F_Until_is_laying : Fun K "is_laying" "Until.is_laying" S_Until_is_laying (He.ma K (He.ga K "Until") "is_laying") (PySem.W.fnOf "is_laying" "Until.is_laying" (defArgs S_Until_is_laying) (defBody S_Until_is_laying) (defScope S_Until_is_laying) .none kV_Until_is_laying doc_Until_is_laying pm_Until_is_laying an_Until_is_laying cd_Until_is_laying ct_Until_is_laying) := F_Until_is_laying
  have b_Until_is_laying := F_Until_is_laying.binds (ps := ["self"]) fun _ _ _ _ _ _ us hl => match us, hl with | [_], _ => rfl
  obtain ⟨kV_has_laying, doc_has_laying, pm_has_laying, an_has_laying, cd_has_laying, ct_has_laying, F_has_laying⟩ := fy_fun (d := ⟨fun K => (He.ga K "has_laying"), "has_laying", "has_laying", S_has_laying, 0⟩) c 35 rfl rfl (c.fact 169 rfl)
  have F_has_laying : Fun K "has_laying" "has_laying" S_has_laying (He.ga K "has_laying") (PySem.W.fnOf "has_laying" "has_laying" (defArgs S_has_laying) (defBody S_has_laying) (defScope S_has_laying) .none kV_has_laying doc_has_laying pm_has_laying an_has_laying cd_has_laying ct_has_laying) := F_has_laying
  have b_has_laying := F_has_laying.binds (ps := ["rows"]) fun _ _ _ _ _ _ us hl => match us, hl with | [_], _ => rfl
  have M_lays := lays_all (P := P0) (w := w) (base := base) T Hc F_Row_is_laying F_Lay_is_laying F_Stop_is_laying F_If_is_laying F_Until_is_laying F_has_laying (fun u hu hl => fun h => mt_of (meB_ok (c.fact 170 rfl) (idle_mem _ hu hl)) b_Row_is_laying h) (fun h => mt_of (mtB_ok (c.fact 171 rfl)) b_Lay_is_laying h) (fun h => mt_of (mtB_ok (c.fact 172 rfl)) b_Stop_is_laying h) (fun h => mt_of (mtB_ok (c.fact 173 rfl)) b_If_is_laying h) (fun h => mt_of (mtB_ok (c.fact 174 rfl)) b_Until_is_laying h) (fun h => ⟨_, _, h, (PySem.W.mg_of X G (gloB_ok (c.fact 175 rfl))), (c.fact 169 rfl), b_has_laying⟩)
  have C_haslA := fun d => (fun h => (⟨_, _, h, (PySem.W.mg_of X G (gloB_ok (c.fact 175 rfl))), (c.fact 169 rfl), b_has_laying⟩ : FnC P0 w K mg base CX0 (2 * d + 2) "has_laying" ["rows"] (sp_haslay K (pclz K) d))) (ok_haslay (d := d) F_has_laying T Hc (M_lays d))
  obtain ⟨kV_has_make, doc_has_make, pm_has_make, an_has_make, cd_has_make, ct_has_make, F_has_make⟩ := fy_fun (d := ⟨fun K => (He.ga K "has_make"), "has_make", "has_make", S_has_make, 0⟩) c 36 rfl rfl (c.fact 176 rfl)
  have F_has_make : Fun K "has_make" "has_make" S_has_make (He.ga K "has_make") (PySem.W.fnOf "has_make" "has_make" (defArgs S_has_make) (defBody S_has_make) (defScope S_has_make) .none kV_has_make doc_has_make pm_has_make an_has_make cd_has_make ct_has_make) := F_has_make
  have b_has_make := F_has_make.binds (ps := ["rows"]) fun _ _ _ _ _ _ us hl => match us, hl with | [_], _ => rfl
  have C_hasmA := fun d => (fun h => (⟨_, _, h, (PySem.W.mg_of X G (gloB_ok (c.fact 177 rfl))), (c.fact 176 rfl), b_has_make⟩ : FnC P0 w K mg base CX0 (2 * d + 3) "has_make" ["rows"] (sp_hasmake K (pclz K) d))) (ok_hasmake (d := d) F_has_make T Hc (C_irowsA d))
  have S_If__init__ := supB_ok (P := P0) (mg := mg) (D := (He.ga K "If")) (f := (He.ma K (He.ga K "If") "__init__")) (by kernel_rfl) hsup (c.fact 179 rfl)
  obtain ⟨fd_If__init_, F_If__init_⟩ := fy_funE (d := ⟨fun K => (He.ma K (He.ga K "If") "__init__"), "__init__", "If.__init__", S_If__init_, 3⟩) c 37 rfl rfl (c.fact 178 rfl) S_If__init__ (c.fact 180 rfl)
  have F_If__init_ : FunS P0 K mg "__init__" "If.__init__" S_If__init_ (He.ga K "If") [.ref (dfl0 K (He.ma K (He.ga K "If") "__init__"))] (He.ma K (He.ga K "If") "__init__") fd_If__init_ := F_If__init_
  have okif := ok_ifinit (c := pclz K) F_If__init_ T Hc Hs C_ndtest C_ndrows C_lines (sup_0 F_Part__init_ T (supMB_ok (c.fact 181 rfl)))
  have X_ifb : MkC P0 w K mg base (L2.CX P0 w) 6 (pclz K).ifb "If" ["self", "test", "rows", "others"] (sp_if K (pclz K) (He.ga K "InvalidRow")) := ⟨_, _, okif, mkB_ok (c.fact 182 rfl), (PySem.W.mg_of X G (gloB_ok (c.fact 183 rfl))), if_b0 F_If__init_⟩
  have Mi : MkD P0 w K mg base CX0 6 (pclz K).ifb "If" ["self", "test", "rows", "others"] (calm (sp_if K (pclz K) (He.ga K "InvalidRow"))) [.ref (dfl0 K (He.ma K (He.ga K "If") "__init__"))] := mki_of F_If__init_ (mkB_ok (c.fact 182 rfl)) (PySem.W.mg_of X G (gloB_ok (c.fact 183 rfl))) (fn_calm okif)
  have hEi : ∀ H, SqV K H (dfl0 K (He.ma K (He.ga K "If") "__init__")) [] := fun H => sqV_e (dflB_tup (c.fact 180 rfl))
  have S_Until__init__ := supB_ok (P := P0) (mg := mg) (D := (He.ga K "Until")) (f := (He.ma K (He.ga K "Until") "__init__")) (by kernel_rfl) hsup (c.fact 185 rfl)
  obtain ⟨fd_Until__init_, F_Until__init_⟩ := fy_funS (d := ⟨fun K => (He.ma K (He.ga K "Until") "__init__"), "__init__", "Until.__init__", S_Until__init_, 1⟩) c 38 rfl rfl (c.fact 184 rfl) S_Until__init__
  have F_Until__init_ : FunS P0 K mg "__init__" "Until.__init__" S_Until__init_ (He.ga K "Until") [] (He.ma K (He.ga K "Until") "__init__") fd_Until__init_ := F_Until__init_
  have b_Until__init_ := funS_bindsN F_Until__init_ (ps := ["self", "goal", "rows"]) fun _ _ _ _ _ _ _ us hl => match us, hl with | [_, _, _], _ => rfl
  have X_untl : MkC P0 w K mg base (L2.CX P0 w) (2 * 4 + 6) (pclz K).untl "Until" ["self", "goal", "rows"] (sp_untl K (pclz K) (He.ga K "InvalidRow") 4) := ⟨_, _, ok_untlinit (c := pclz K) (d := 4) F_Until__init_ T Hc GG C_ndrows C_lines (C_haslA 4) (C_hasmA 4) E_InvalidRow (sup_1 F_Part__init_ T (supMB_ok (c.fact 186 rfl))) (fun H => dflB_sq (c.fact 84 rfl) H), mkB_ok (c.fact 187 rfl), (PySem.W.mg_of X G (gloB_ok (c.fact 188 rfl))), b_Until__init_⟩
  have Mt : MkT P0 w K mg base (pclz K) (He.ga K "InvalidRow") := ⟨K_longer, K_shorter, K_alike, X_holds.calm, X_not.calm⟩
  have Mr : MkR P0 w K mg base (pclz K) (He.ga K "InvalidRow") (He.ga K "InvalidChange") := ⟨X_make.calm, K_exch, K_lay, K_stop, X_put.calm, X_add.calm, X_tell.calm, X_ifb.calm, X_untl.calm, C_changeX.calm⟩
  obtain ⟨kV_Part__eq_, doc_Part__eq_, pm_Part__eq_, an_Part__eq_, cd_Part__eq_, ct_Part__eq_, F_Part__eq_⟩ := fy_fun (d := ⟨fun K => (He.ma K (He.ga K "Part") "__eq__"), "__eq__", "Part.__eq__", S_Part__eq_, 0⟩) c 39 rfl rfl (c.fact 189 rfl)
  have F_Part__eq_ : Fun K "__eq__" "Part.__eq__" S_Part__eq_ (He.ma K (He.ga K "Part") "__eq__") (PySem.W.fnOf "__eq__" "Part.__eq__" (defArgs S_Part__eq_) (defBody S_Part__eq_) (defScope S_Part__eq_) .none kV_Part__eq_ doc_Part__eq_ pm_Part__eq_ an_Part__eq_ cd_Part__eq_ ct_Part__eq_) := F_Part__eq_
  have b_Part__eq_ := F_Part__eq_.binds (ps := ["self", "other"]) fun _ _ _ _ _ _ us hl => match us, hl with | [_, _], _ => rfl
  have Qe : Heq P0 w K mg base (pclz K) := heq_of (ok_peq F_Part__eq_ T Hc) b_Part__eq_ (c.fact 190 rfl) (c.fact 191 rfl) (c.fact 192 rfl) (c.fact 193 rfl) (c.fact 194 rfl) (c.fact 195 rfl)
  have Hq : Pg.Hq P0 w K mg base (pclz K) := hq_of (ok_pstr F_Part__str_ T) b_Part__str_ (c.fact 196 rfl)
  obtain ⟨kV__law_draw, doc__law_draw, pm__law_draw, an__law_draw, cd__law_draw, ct__law_draw, F__law_draw⟩ := fy_fun (d := ⟨fun K => (He.ga K "_law_draw"), "_law_draw", "_law_draw", S__law_draw, 0⟩) c 40 rfl rfl (c.fact 197 rfl)
  have F__law_draw : Fun K "_law_draw" "_law_draw" S__law_draw (He.ga K "_law_draw") (PySem.W.fnOf "_law_draw" "_law_draw" (defArgs S__law_draw) (defBody S__law_draw) (defScope S__law_draw) .none kV__law_draw doc__law_draw pm__law_draw an__law_draw cd__law_draw ct__law_draw) := F__law_draw
  have b__law_draw := F__law_draw.binds (ps := ["_law_deal_here", "_law_many"]) fun _ _ _ _ _ _ us hl => match us, hl with | [_, _], _ => rfl
  have C_draw : FnC P0 w K mg base CX0 1 "_law_draw" ["_law_deal_here", "_law_many"] sp_draw := ⟨_, _, ok_draw F__law_draw T , (PySem.W.mg_of X G (gloB_ok (c.fact 198 rfl))), (c.fact 197 rfl), b__law_draw⟩
  obtain ⟨kV__law_pick, doc__law_pick, pm__law_pick, an__law_pick, cd__law_pick, ct__law_pick, F__law_pick⟩ := fy_fun (d := ⟨fun K => (He.ga K "_law_pick"), "_law_pick", "_law_pick", S__law_pick, 0⟩) c 41 rfl rfl (c.fact 199 rfl)
  have F__law_pick : Fun K "_law_pick" "_law_pick" S__law_pick (He.ga K "_law_pick") (PySem.W.fnOf "_law_pick" "_law_pick" (defArgs S__law_pick) (defBody S__law_pick) (defScope S__law_pick) .none kV__law_pick doc__law_pick pm__law_pick an__law_pick cd__law_pick ct__law_pick) := F__law_pick
  have b__law_pick := F__law_pick.binds (ps := ["_law_deal_here", "_law_some"]) fun _ _ _ _ _ _ us hl => match us, hl with | [_, _], _ => rfl
  have C_pick : FnC P0 w K mg base CX0 2 "_law_pick" ["_law_deal_here", "_law_some"] (sp_pick K) := ⟨_, _, ok_pick F__law_pick T C_draw, (PySem.W.mg_of X G (gloB_ok (c.fact 200 rfl))), (c.fact 199 rfl), b__law_pick⟩
  obtain ⟨kV__law_deal, doc__law_deal, pm__law_deal, an__law_deal, cd__law_deal, ct__law_deal, F__law_deal⟩ := fy_fun (d := ⟨fun K => (He.ga K "_law_deal"), "_law_deal", "_law_deal", S__law_deal, 0⟩) c 42 rfl rfl (c.fact 201 rfl)
  have F__law_deal : Fun K "_law_deal" "_law_deal" S__law_deal (He.ga K "_law_deal") (PySem.W.fnOf "_law_deal" "_law_deal" (defArgs S__law_deal) (defBody S__law_deal) (defScope S__law_deal) .none kV__law_deal doc__law_deal pm__law_deal an__law_deal cd__law_deal ct__law_deal) := F__law_deal
  have b__law_deal := F__law_deal.binds (ps := ["_law_script", "_law_base"]) fun _ _ _ _ _ _ us hl => match us, hl with | [_, _], _ => rfl
  have C_deal : FnC P0 w K mg base CX0 1 "_law_deal" ["_law_script", "_law_base"] (sp_deal K) := ⟨_, _, ok_deal F__law_deal T , (PySem.W.mg_of X G (gloB_ok (c.fact 202 rfl))), (c.fact 201 rfl), b__law_deal⟩
  obtain ⟨kV__law_name, doc__law_name, pm__law_name, an__law_name, cd__law_name, ct__law_name, F__law_name⟩ := fy_fun (d := ⟨fun K => (He.ga K "_law_name"), "_law_name", "_law_name", S__law_name, 0⟩) c 43 rfl rfl (c.fact 203 rfl)
  have F__law_name : Fun K "_law_name" "_law_name" S__law_name (He.ga K "_law_name") (PySem.W.fnOf "_law_name" "_law_name" (defArgs S__law_name) (defBody S__law_name) (defScope S__law_name) .none kV__law_name doc__law_name pm__law_name an__law_name cd__law_name ct__law_name) := F__law_name
  have b__law_name := F__law_name.binds (ps := ["_law_deal_here"]) fun _ _ _ _ _ _ us hl => match us, hl with | [_], _ => rfl
  have C_name : FnC P0 w K mg base CX0 3 "_law_name" ["_law_deal_here"] sp_name := ⟨_, _, ok_name F__law_name T C_draw C_pick, (PySem.W.mg_of X G (gloB_ok (c.fact 204 rfl))), (c.fact 203 rfl), b__law_name⟩
  obtain ⟨kV__law_number, doc__law_number, pm__law_number, an__law_number, cd__law_number, ct__law_number, F__law_number⟩ := fy_fun (d := ⟨fun K => (He.ga K "_law_number"), "_law_number", "_law_number", S__law_number, 0⟩) c 44 rfl rfl (c.fact 205 rfl)
  have F__law_number : Fun K "_law_number" "_law_number" S__law_number (He.ga K "_law_number") (PySem.W.fnOf "_law_number" "_law_number" (defArgs S__law_number) (defBody S__law_number) (defScope S__law_number) .none kV__law_number doc__law_number pm__law_number an__law_number cd__law_number ct__law_number) := F__law_number
  have b__law_number := F__law_number.binds (ps := ["_law_deal_here"]) fun _ _ _ _ _ _ us hl => match us, hl with | [_], _ => rfl
  have C_num : FnC P0 w K mg base CX0 3 "_law_number" ["_law_deal_here"] sp_num := ⟨_, _, ok_num F__law_number T C_draw, (PySem.W.mg_of X G (gloB_ok (c.fact 206 rfl))), (c.fact 205 rfl), b__law_number⟩
  obtain ⟨kV__law_change, doc__law_change, pm__law_change, an__law_change, cd__law_change, ct__law_change, F__law_change⟩ := fy_fun (d := ⟨fun K => (He.ga K "_law_change"), "_law_change", "_law_change", S__law_change, 0⟩) c 45 rfl rfl (c.fact 207 rfl)
  have F__law_change : Fun K "_law_change" "_law_change" S__law_change (He.ga K "_law_change") (PySem.W.fnOf "_law_change" "_law_change" (defArgs S__law_change) (defBody S__law_change) (defScope S__law_change) .none kV__law_change doc__law_change pm__law_change an__law_change cd__law_change ct__law_change) := F__law_change
  have b__law_change := F__law_change.binds (ps := ["_law_deal_here"]) fun _ _ _ _ _ _ us hl => match us, hl with | [_], _ => rfl
  have C_change : FnC P0 w K mg base CX0 3 "_law_change" ["_law_deal_here"] sp_change := ⟨_, _, ok_change F__law_change T C_pick, (PySem.W.mg_of X G (gloB_ok (c.fact 208 rfl))), (c.fact 207 rfl), b__law_change⟩
  obtain ⟨kV__law_world, doc__law_world, pm__law_world, an__law_world, cd__law_world, ct__law_world, F__law_world⟩ := fy_fun (d := ⟨fun K => (He.ga K "_law_world"), "_law_world", "_law_world", S__law_world, 0⟩) c 46 rfl rfl (c.fact 209 rfl)
  have F__law_world : Fun K "_law_world" "_law_world" S__law_world (He.ga K "_law_world") (PySem.W.fnOf "_law_world" "_law_world" (defArgs S__law_world) (defBody S__law_world) (defScope S__law_world) .none kV__law_world doc__law_world pm__law_world an__law_world cd__law_world ct__law_world) := F__law_world
  have b__law_world := F__law_world.binds (ps := ["_law_deal_here"]) fun _ _ _ _ _ _ us hl => match us, hl with | [_], _ => rfl
  have C_world : FnC P0 w K mg base CX0 4 "_law_world" ["_law_deal_here"] sp_world := ⟨_, _, ok_world F__law_world T C_draw C_name, (PySem.W.mg_of X G (gloB_ok (c.fact 210 rfl))), (c.fact 209 rfl), b__law_world⟩
  obtain ⟨kV__law_test, doc__law_test, pm__law_test, an__law_test, cd__law_test, ct__law_test, F__law_test⟩ := fy_fun (d := ⟨fun K => (He.ga K "_law_test"), "_law_test", "_law_test", S__law_test, 0⟩) c 47 rfl rfl (c.fact 211 rfl)
  have F__law_test : Fun K "_law_test" "_law_test" S__law_test (He.ga K "_law_test") (PySem.W.fnOf "_law_test" "_law_test" (defArgs S__law_test) (defBody S__law_test) (defScope S__law_test) .none kV__law_test doc__law_test pm__law_test an__law_test cd__law_test ct__law_test) := F__law_test
  have b__law_test := F__law_test.binds (ps := ["_law_deal_here", "_law_world_here"]) fun _ _ _ _ _ _ us hl => match us, hl with | [_, _], _ => rfl
  have C_test : FnC P0 w K mg base CX0 4 "_law_test" ["_law_deal_here", "_law_world_here"] sp_test := ⟨_, _, ok_test F__law_test T C_draw C_pick C_num, (PySem.W.mg_of X G (gloB_ok (c.fact 212 rfl))), (c.fact 211 rfl), b__law_test⟩
  obtain ⟨kV__law_row, doc__law_row, pm__law_row, an__law_row, cd__law_row, ct__law_row, F__law_row⟩ := fy_fun (d := ⟨fun K => (He.ga K "_law_row"), "_law_row", "_law_row", S__law_row, 0⟩) c 48 rfl rfl (c.fact 213 rfl)
  have F__law_row : Fun K "_law_row" "_law_row" S__law_row (He.ga K "_law_row") (PySem.W.fnOf "_law_row" "_law_row" (defArgs S__law_row) (defBody S__law_row) (defScope S__law_row) .none kV__law_row doc__law_row pm__law_row an__law_row cd__law_row ct__law_row) := F__law_row
  have b__law_row := F__law_row.binds (ps := ["_law_deal_here", "_law_world_here", "_law_deep", "_law_can_make"]) fun _ _ _ _ _ _ us hl => match us, hl with | [_, _, _, _], _ => rfl
  obtain ⟨kV__law_rows, doc__law_rows, pm__law_rows, an__law_rows, cd__law_rows, ct__law_rows, F__law_rows⟩ := fy_fun (d := ⟨fun K => (He.ga K "_law_rows"), "_law_rows", "_law_rows", S__law_rows, 0⟩) c 49 rfl rfl (c.fact 214 rfl)
  have F__law_rows : Fun K "_law_rows" "_law_rows" S__law_rows (He.ga K "_law_rows") (PySem.W.fnOf "_law_rows" "_law_rows" (defArgs S__law_rows) (defBody S__law_rows) (defScope S__law_rows) .none kV__law_rows doc__law_rows pm__law_rows an__law_rows cd__law_rows ct__law_rows) := F__law_rows
  have b__law_rows := F__law_rows.binds (ps := ["_law_deal_here", "_law_world_here", "_law_many", "_law_deep", "_law_can_make"]) fun _ _ _ _ _ _ us hl => match us, hl with | [_, _, _, _, _], _ => rfl
  have C_rowsA := rows_all (P := P0) (w := w) (base := base) T F__law_row F__law_rows C_draw C_pick C_num C_change C_test (fun h => ⟨_, _, h, (PySem.W.mg_of X G (gloB_ok (c.fact 215 rfl))), (c.fact 213 rfl), b__law_row⟩) (fun h => ⟨_, _, h, (PySem.W.mg_of X G (gloB_ok (c.fact 216 rfl))), (c.fact 214 rfl), b__law_rows⟩)
  obtain ⟨kV__law_test_text, doc__law_test_text, pm__law_test_text, an__law_test_text, cd__law_test_text, ct__law_test_text, F__law_test_text⟩ := fy_fun (d := ⟨fun K => (He.ga K "_law_test_text"), "_law_test_text", "_law_test_text", S__law_test_text, 0⟩) c 50 rfl rfl (c.fact 217 rfl)
  have F__law_test_text : Fun K "_law_test_text" "_law_test_text" S__law_test_text (He.ga K "_law_test_text") (PySem.W.fnOf "_law_test_text" "_law_test_text" (defArgs S__law_test_text) (defBody S__law_test_text) (defScope S__law_test_text) .none kV__law_test_text doc__law_test_text pm__law_test_text an__law_test_text cd__law_test_text ct__law_test_text) := F__law_test_text
  have b__law_test_text := F__law_test_text.binds (ps := ["_law_test_here"]) fun _ _ _ _ _ _ us hl => match us, hl with | [_], _ => rfl
  obtain ⟨kV__law_lines, doc__law_lines, pm__law_lines, an__law_lines, cd__law_lines, ct__law_lines, F__law_lines⟩ := fy_fun (d := ⟨fun K => (He.ga K "_law_lines"), "_law_lines", "_law_lines", S__law_lines, 0⟩) c 51 rfl rfl (c.fact 218 rfl)
  have F__law_lines : Fun K "_law_lines" "_law_lines" S__law_lines (He.ga K "_law_lines") (PySem.W.fnOf "_law_lines" "_law_lines" (defArgs S__law_lines) (defBody S__law_lines) (defScope S__law_lines) .none kV__law_lines doc__law_lines pm__law_lines an__law_lines cd__law_lines ct__law_lines) := F__law_lines
  have b__law_lines := F__law_lines.binds (ps := ["_law_rows_here"]) fun _ _ _ _ _ _ us hl => match us, hl with | [_], _ => rfl
  have C_ttext := ttext_all (P := P0) (w := w) (base := base) T F__law_test_text (fun h => ⟨_, _, h, (PySem.W.mg_of X G (gloB_ok (c.fact 219 rfl))), (c.fact 217 rfl), b__law_test_text⟩) 3
  have C_dlines := dlines_all (P := P0) (w := w) (base := base) T F__law_lines C_ttext (fun h => ⟨_, _, h, (PySem.W.mg_of X G (gloB_ok (c.fact 220 rfl))), (c.fact 218 rfl), b__law_lines⟩) 6
  obtain ⟨kV__law_test_of, doc__law_test_of, pm__law_test_of, an__law_test_of, cd__law_test_of, ct__law_test_of, F__law_test_of⟩ := fy_fun (d := ⟨fun K => (He.ga K "_law_test_of"), "_law_test_of", "_law_test_of", S__law_test_of, 0⟩) c 52 rfl rfl (c.fact 221 rfl)
  have F__law_test_of : Fun K "_law_test_of" "_law_test_of" S__law_test_of (He.ga K "_law_test_of") (PySem.W.fnOf "_law_test_of" "_law_test_of" (defArgs S__law_test_of) (defBody S__law_test_of) (defScope S__law_test_of) .none kV__law_test_of doc__law_test_of pm__law_test_of an__law_test_of cd__law_test_of ct__law_test_of) := F__law_test_of
  have b__law_test_of := F__law_test_of.binds (ps := ["_law_test_here"]) fun _ _ _ _ _ _ us hl => match us, hl with | [_], _ => rfl
  obtain ⟨kV__law_row_of, doc__law_row_of, pm__law_row_of, an__law_row_of, cd__law_row_of, ct__law_row_of, F__law_row_of⟩ := fy_fun (d := ⟨fun K => (He.ga K "_law_row_of"), "_law_row_of", "_law_row_of", S__law_row_of, 0⟩) c 53 rfl rfl (c.fact 222 rfl)
  have F__law_row_of : Fun K "_law_row_of" "_law_row_of" S__law_row_of (He.ga K "_law_row_of") (PySem.W.fnOf "_law_row_of" "_law_row_of" (defArgs S__law_row_of) (defBody S__law_row_of) (defScope S__law_row_of) .none kV__law_row_of doc__law_row_of pm__law_row_of an__law_row_of cd__law_row_of ct__law_row_of) := F__law_row_of
  have b__law_row_of := F__law_row_of.binds (ps := ["_law_row_here"]) fun _ _ _ _ _ _ us hl => match us, hl with | [_], _ => rfl
  obtain ⟨kV__law_rows_of, doc__law_rows_of, pm__law_rows_of, an__law_rows_of, cd__law_rows_of, ct__law_rows_of, F__law_rows_of⟩ := fy_fun (d := ⟨fun K => (He.ga K "_law_rows_of"), "_law_rows_of", "_law_rows_of", S__law_rows_of, 0⟩) c 54 rfl rfl (c.fact 223 rfl)
  have F__law_rows_of : Fun K "_law_rows_of" "_law_rows_of" S__law_rows_of (He.ga K "_law_rows_of") (PySem.W.fnOf "_law_rows_of" "_law_rows_of" (defArgs S__law_rows_of) (defBody S__law_rows_of) (defScope S__law_rows_of) .none kV__law_rows_of doc__law_rows_of pm__law_rows_of an__law_rows_of cd__law_rows_of ct__law_rows_of) := F__law_rows_of
  have b__law_rows_of := F__law_rows_of.binds (ps := ["_law_rows_here"]) fun _ _ _ _ _ _ us hl => match us, hl with | [_], _ => rfl
  have C_tof := tof_all (P := P0) (w := w) (base := base) T Hc Mt F__law_test_of (fun h => ⟨_, _, h, (PySem.W.mg_of X G (gloB_ok (c.fact 224 rfl))), (c.fact 221 rfl), b__law_test_of⟩) 3
  have C_rofA := rof_all (P := P0) (w := w) (base := base) T Hc Rc Mr F__law_row_of F__law_rows_of C_tof (fun h => ⟨_, _, h, (PySem.W.mg_of X G (gloB_ok (c.fact 225 rfl))), (c.fact 222 rfl), b__law_row_of⟩) (fun h => ⟨_, _, h, (PySem.W.mg_of X G (gloB_ok (c.fact 226 rfl))), (c.fact 223 rfl), b__law_rows_of⟩)
  obtain ⟨_, _, _, _, _, _, _, _, _, _, _, _, _, _, x_NoNote⟩ := errB_ok (c.fact 227 rfl)
  have O_NoNote : OexC K (He.ga K "NoNote") := ⟨⟨_, _, _, _, _, _, _, _, _, _, _, _, _, _, _, x_NoNote, by rfl⟩, (of_decide_eq_true (c.fact 228 rfl)), (of_decide_eq_true (c.fact 229 rfl)), (of_decide_eq_true (c.fact 230 rfl)), (c.fact 231 rfl)⟩
  obtain ⟨kV_NoNote__init_, doc_NoNote__init_, pm_NoNote__init_, an_NoNote__init_, cd_NoNote__init_, ct_NoNote__init_, F_NoNote__init_⟩ := fy_fun (d := ⟨fun K => (He.ma K (He.ga K "NoNote") "__init__"), "__init__", "NoNote.__init__", S_NoNote__init_, 0⟩) c 55 rfl rfl (c.fact 232 rfl)
  have F_NoNote__init_ : Fun K "__init__" "NoNote.__init__" S_NoNote__init_ (He.ma K (He.ga K "NoNote") "__init__") (PySem.W.fnOf "__init__" "NoNote.__init__" (defArgs S_NoNote__init_) (defBody S_NoNote__init_) (defScope S_NoNote__init_) .none kV_NoNote__init_ doc_NoNote__init_ pm_NoNote__init_ an_NoNote__init_ cd_NoNote__init_ ct_NoNote__init_) := F_NoNote__init_
  have b_NoNote__init_ := F_NoNote__init_.binds (ps := ["self", "name"]) fun _ _ _ _ _ _ us hl => match us, hl with | [_, _], _ => rfl
  have E_NoNote : Er1 P0 w K mg base "NoNote" (He.ga K "NoNote") "name" "name" := ⟨_, _, (ok_err_NoNote F_NoNote__init_ UE mgU O_NoNote (of_decide_eq_true (c.fact 235 rfl))).mono (by decide), O_NoNote, (of_decide_eq_true (c.fact 233 rfl)), (of_decide_eq_true (c.fact 234 rfl)), (PySem.W.mg_of X G (gloB_ok (c.fact 236 rfl))), b_NoNote__init_⟩
  have Hk0 : Hk K (pclz K) := hk_of (c.fact 237 rfl) (c.fact 238 rfl)
  have Hn : Hm mg (pclz K) := ⟨(PySem.W.mg_of X G (gloB_ok (c.fact 94 rfl))), (PySem.W.mg_of X G (gloB_ok (c.fact 99 rfl))), (PySem.W.mg_of X G (gloB_ok (c.fact 124 rfl))), (PySem.W.mg_of X G (gloB_ok (c.fact 129 rfl))), (PySem.W.mg_of X G (gloB_ok (c.fact 139 rfl))), (PySem.W.mg_of X G (gloB_ok (c.fact 104 rfl))), (PySem.W.mg_of X G (gloB_ok (c.fact 183 rfl))), (PySem.W.mg_of X G (gloB_ok (c.fact 188 rfl))), (PySem.W.mg_of X G (gloB_ok (c.fact 109 rfl))), (PySem.W.mg_of X G (gloB_ok (c.fact 119 rfl))), (PySem.W.mg_of X G (gloB_ok (c.fact 134 rfl))), (PySem.W.mg_of X G (gloB_ok (c.fact 144 rfl)))⟩
  have g_do : GS mg "DO" "do" := let ⟨t, h⟩ := strB_ok (c.fact 239 rfl); ⟨t, PySem.W.mg_of X G h⟩
  have g_test : GS mg "TEST" "test" := let ⟨t, h⟩ := strB_ok (c.fact 240 rfl); ⟨t, PySem.W.mg_of X G h⟩
  have g_look : GS mg "LOOK" "look" := let ⟨t, h⟩ := strB_ok (c.fact 241 rfl); ⟨t, PySem.W.mg_of X G h⟩
  have g_go : GS mg "GO" "go" := let ⟨t, h⟩ := strB_ok (c.fact 242 rfl); ⟨t, PySem.W.mg_of X G h⟩
  have Sg : SG mg := ⟨g_do, g_test, g_look, g_go⟩
  have GO : GT K mg "MODULI" [.int 2, .int 3, .int 4] := gt_ints (is := [2, 3, 4]) (PySem.W.mg_of X G (gloB_ok (c.fact 243 rfl))) (c.fact 244 rfl) (by decide)
  have Pt : PgT K (He.ga K "Program") := ⟨(insNo_ok (c.fact 245 rfl)).1, (insNo_ok (c.fact 245 rfl)).2⟩
  obtain ⟨kV_is_note, doc_is_note, pm_is_note, an_is_note, cd_is_note, ct_is_note, F_is_note⟩ := fy_fun (d := ⟨fun K => (He.ga K "is_note"), "is_note", "is_note", S_is_note, 0⟩) c 56 rfl rfl (c.fact 246 rfl)
  have F_is_note : Fun K "is_note" "is_note" S_is_note (He.ga K "is_note") (PySem.W.fnOf "is_note" "is_note" (defArgs S_is_note) (defBody S_is_note) (defScope S_is_note) .none kV_is_note doc_is_note pm_is_note an_is_note cd_is_note ct_is_note) := F_is_note
  have b_is_note := F_is_note.binds (ps := ["value"]) fun _ _ _ _ _ _ us hl => match us, hl with | [_], _ => rfl
  have C_isnote : FnC P0 w K mg base CX0 3 "is_note" ["value"] sp_isnote := ⟨_, _, ok_isnote F_is_note T GO C_isname C_isint, (PySem.W.mg_of X G (gloB_ok (c.fact 247 rfl))), (c.fact 246 rfl), b_is_note⟩
  obtain ⟨kV_need_notes, doc_need_notes, pm_need_notes, an_need_notes, cd_need_notes, ct_need_notes, F_need_notes⟩ := fy_fun (d := ⟨fun K => (He.ga K "need_notes"), "need_notes", "need_notes", S_need_notes, 0⟩) c 57 rfl rfl (c.fact 248 rfl)
  have F_need_notes : Fun K "need_notes" "need_notes" S_need_notes (He.ga K "need_notes") (PySem.W.fnOf "need_notes" "need_notes" (defArgs S_need_notes) (defBody S_need_notes) (defScope S_need_notes) .none kV_need_notes doc_need_notes pm_need_notes an_need_notes cd_need_notes ct_need_notes) := F_need_notes
  have b_need_notes := F_need_notes.binds (ps := ["notes"]) fun _ _ _ _ _ _ us hl => match us, hl with | [_], _ => rfl
  have C_ndnotes : FnC P0 w K mg base (L2.CX P0 w) 4 "need_notes" ["notes"] (sp_ndnotes K) := ⟨_, _, ok_ndnotes F_need_notes T C_isnote E_InvalidRow, (PySem.W.mg_of X G (gloB_ok (c.fact 249 rfl))), (c.fact 248 rfl), b_need_notes⟩
  obtain ⟨kV_laid_out, doc_laid_out, pm_laid_out, an_laid_out, cd_laid_out, ct_laid_out, F_laid_out⟩ := fy_fun (d := ⟨fun K => (He.ga K "laid_out"), "laid_out", "laid_out", S_laid_out, 0⟩) c 58 rfl rfl (c.fact 250 rfl)
  have F_laid_out : Fun K "laid_out" "laid_out" S_laid_out (He.ga K "laid_out") (PySem.W.fnOf "laid_out" "laid_out" (defArgs S_laid_out) (defBody S_laid_out) (defScope S_laid_out) .none kV_laid_out doc_laid_out pm_laid_out an_laid_out cd_laid_out ct_laid_out) := F_laid_out
  have b_laid_out := F_laid_out.binds (ps := ["rows", "at", "spot"]) fun _ _ _ _ _ _ us hl => match us, hl with | [_, _, _], _ => rfl
  obtain ⟨kV_steps_of_row, doc_steps_of_row, pm_steps_of_row, an_steps_of_row, cd_steps_of_row, ct_steps_of_row, F_steps_of_row⟩ := fy_fun (d := ⟨fun K => (He.ga K "steps_of_row"), "steps_of_row", "steps_of_row", S_steps_of_row, 0⟩) c 59 rfl rfl (c.fact 251 rfl)
  have F_steps_of_row : Fun K "steps_of_row" "steps_of_row" S_steps_of_row (He.ga K "steps_of_row") (PySem.W.fnOf "steps_of_row" "steps_of_row" (defArgs S_steps_of_row) (defBody S_steps_of_row) (defScope S_steps_of_row) .none kV_steps_of_row doc_steps_of_row pm_steps_of_row an_steps_of_row cd_steps_of_row ct_steps_of_row) := F_steps_of_row
  have b_steps_of_row := F_steps_of_row.binds (ps := ["row", "at", "spot"]) fun _ _ _ _ _ _ us hl => match us, hl with | [_, _, _], _ => rfl
  have C_laidA := laid_all (P := P0) (w := w) (base := base) T Hc Hk0 Hn Sg F_laid_out F_steps_of_row (M_inner 4) (C_irowsA 4) (fun h => ⟨_, _, h, (PySem.W.mg_of X G (gloB_ok (c.fact 252 rfl))), (c.fact 250 rfl), b_laid_out⟩) (fun h => ⟨_, _, h, (PySem.W.mg_of X G (gloB_ok (c.fact 253 rfl))), (c.fact 251 rfl), b_steps_of_row⟩)
  obtain ⟨kV_steps_of, doc_steps_of, pm_steps_of, an_steps_of, cd_steps_of, ct_steps_of, F_steps_of⟩ := fy_fun (d := ⟨fun K => (He.ga K "steps_of"), "steps_of", "steps_of", S_steps_of, 0⟩) c 60 rfl rfl (c.fact 254 rfl)
  have F_steps_of : Fun K "steps_of" "steps_of" S_steps_of (He.ga K "steps_of") (PySem.W.fnOf "steps_of" "steps_of" (defArgs S_steps_of) (defBody S_steps_of) (defScope S_steps_of) .none kV_steps_of doc_steps_of pm_steps_of an_steps_of cd_steps_of ct_steps_of) := F_steps_of
  have b_steps_of := F_steps_of.binds (ps := ["rows"]) fun _ _ _ _ _ _ us hl => match us, hl with | [_], _ => rfl
  have C_steps : FnC P0 w K mg base CX0 23 "steps_of" ["rows"] (sp_steps K (pclz K)) := ⟨_, _, ok_steps F_steps_of T (C_laidA 5), (PySem.W.mg_of X G (gloB_ok (c.fact 255 rfl))), (c.fact 254 rfl), b_steps_of⟩
  obtain ⟨fd_Program__init_, F_Program__init_⟩ := fy_funD2 (d := ⟨fun K => (He.ma K (He.ga K "Program") "__init__"), "__init__", "Program.__init__", S_Program__init_, 2⟩) c 61 rfl rfl (c.fact 256 rfl) (c.fact 257 rfl)
  have F_Program__init_ : FunD K "__init__" "Program.__init__" (defArgs S_Program__init_) (defBody S_Program__init_) (defScope S_Program__init_) [.ref (dfl0 K (He.ma K (He.ga K "Program") "__init__")), .ref (dfl1 K (He.ma K (He.ga K "Program") "__init__"))] [] (He.ma K (He.ga K "Program") "__init__") fd_Program__init_ := F_Program__init_
  have okp := (fn_calm (ok_pginit (c := (pclz K)) F_Program__init_ T Hc Pt C_ndnotes C_ndrows (C_irowsA 4) C_steps E_NoNote)).mono (show 24 ≤ 25 by decide)
  have Mp : MkC P0 w K mg base CX0 25 (He.ga K "Program") "Program" ["self", "rows", "notes"] (sp_pginit K (pclz K) (He.ga K "Program")) := mkp_0 F_Program__init_ (mkB_ok (c.fact 258 rfl)) (PySem.W.mg_of X G (gloB_ok (c.fact 259 rfl))) okp
  have Mp1 : MkD P0 w K mg base CX0 25 (He.ga K "Program") "Program" ["self", "rows", "notes"] (sp_pginit K (pclz K) (He.ga K "Program")) [.ref (dfl1 K (He.ma K (He.ga K "Program") "__init__"))] := mkp_1 F_Program__init_ (mkB_ok (c.fact 258 rfl)) (PySem.W.mg_of X G (gloB_ok (c.fact 259 rfl))) okp
  have hEp : ∀ H, SqV K H (dfl1 K (He.ma K (He.ga K "Program") "__init__")) [] := fun H => sqV_e (dfl2B_t1 (c.fact 257 rfl))
  have hEr : ∀ H, SqV K H (dfl0 K (He.ma K (He.ga K "Program") "__init__")) [] := fun H => sqV_e (dfl2B_t0 (c.fact 257 rfl))
  have Mp0 : MkD P0 w K mg base CX0 25 (He.ga K "Program") "Program" ["self", "rows", "notes"] (sp_pginit K (pclz K) (He.ga K "Program")) [.ref (dfl0 K (He.ma K (He.ga K "Program") "__init__")), .ref (dfl1 K (He.ma K (He.ga K "Program") "__init__"))] := mkp_2 F_Program__init_ (mkB_ok (c.fact 258 rfl)) (PySem.W.mg_of X G (gloB_ok (c.fact 259 rfl))) okp
  obtain ⟨kV__law_inner, doc__law_inner, pm__law_inner, an__law_inner, cd__law_inner, ct__law_inner, F__law_inner⟩ := fy_fun (d := ⟨fun K => (He.ga K "_law_inner"), "_law_inner", "_law_inner", S__law_inner, 0⟩) c 62 rfl rfl (c.fact 260 rfl)
  have F__law_inner : Fun K "_law_inner" "_law_inner" S__law_inner (He.ga K "_law_inner") (PySem.W.fnOf "_law_inner" "_law_inner" (defArgs S__law_inner) (defBody S__law_inner) (defScope S__law_inner) .none kV__law_inner doc__law_inner pm__law_inner an__law_inner cd__law_inner ct__law_inner) := F__law_inner
  have b__law_inner := F__law_inner.binds (ps := ["_law_rows_here"]) fun _ _ _ _ _ _ us hl => match us, hl with | [_], _ => rfl
  have C_linnerA := linner_all (P := P0) (w := w) (base := base) T F__law_inner (fun h => ⟨_, _, h, (PySem.W.mg_of X G (gloB_ok (c.fact 261 rfl))), (c.fact 260 rfl), b__law_inner⟩)
  obtain ⟨kV__law_made, doc__law_made, pm__law_made, an__law_made, cd__law_made, ct__law_made, F__law_made⟩ := fy_fun (d := ⟨fun K => (He.ga K "_law_made"), "_law_made", "_law_made", S__law_made, 0⟩) c 63 rfl rfl (c.fact 262 rfl)
  have F__law_made : Fun K "_law_made" "_law_made" S__law_made (He.ga K "_law_made") (PySem.W.fnOf "_law_made" "_law_made" (defArgs S__law_made) (defBody S__law_made) (defScope S__law_made) .none kV__law_made doc__law_made pm__law_made an__law_made cd__law_made ct__law_made) := F__law_made
  have b__law_made := F__law_made.binds (ps := ["_law_rows_here"]) fun _ _ _ _ _ _ us hl => match us, hl with | [_], _ => rfl
  have C_lmade : FnC P0 w K mg base CX0 6 "_law_made" ["_law_rows_here"] (sp_lmade 4) := ⟨_, _, ok_lmade (d := 4) F__law_made T (C_linnerA 4), (PySem.W.mg_of X G (gloB_ok (c.fact 263 rfl))), (c.fact 262 rfl), b__law_made⟩
  obtain ⟨kV__law_bounded, doc__law_bounded, pm__law_bounded, an__law_bounded, cd__law_bounded, ct__law_bounded, F__law_bounded⟩ := fy_fun (d := ⟨fun K => (He.ga K "_law_bounded"), "_law_bounded", "_law_bounded", S__law_bounded, 0⟩) c 64 rfl rfl (c.fact 264 rfl)
  have F__law_bounded : Fun K "_law_bounded" "_law_bounded" S__law_bounded (He.ga K "_law_bounded") (PySem.W.fnOf "_law_bounded" "_law_bounded" (defArgs S__law_bounded) (defBody S__law_bounded) (defScope S__law_bounded) .none kV__law_bounded doc__law_bounded pm__law_bounded an__law_bounded cd__law_bounded ct__law_bounded) := F__law_bounded
  have b__law_bounded := F__law_bounded.binds (ps := ["_law_rows_here", "_law_most", "_law_least"]) fun _ _ _ _ _ _ us hl => match us, hl with | [_, _, _], _ => rfl
  have C_bounded : FnC P0 w K mg base CX0 7 "_law_bounded" ["_law_rows_here", "_law_most", "_law_least"] (sp_bounded 4) := ⟨_, _, ok_bounded (d := 4) F__law_bounded T (C_linnerA 4) C_lmade, (PySem.W.mg_of X G (gloB_ok (c.fact 265 rfl))), (c.fact 264 rfl), b__law_bounded⟩
  have C_isnoteB : FnC P0 w K mg base CX0 3 "is_note" ["value"] (sp_isnoteB K) := ⟨_, _, ok_isnoteB F_is_note T GO C_isname C_isint, (PySem.W.mg_of X G (gloB_ok (c.fact 247 rfl))), (c.fact 246 rfl), b_is_note⟩
  have C_ndnotesN : FnC P0 w K mg base (L2.CX P0 w) 4 "need_notes" ["notes"] (sp_ndnotesN K (He.ga K "InvalidRow")) := ⟨_, _, ok_ndnotesN F_need_notes T C_isnoteB E_InvalidRow, (PySem.W.mg_of X G (gloB_ok (c.fact 249 rfl))), (c.fact 248 rfl), b_need_notes⟩
  have okx : FnOk P0 w K mg base (L2.CX P0 w) 24 (He.ma K (He.ga K "Program") "__init__") fd_Program__init_ ["self", "rows", "notes"] (sp_pgX K (pclz K) (He.ga K "Program") (He.ga K "InvalidRow") (He.ga K "NoNote")) := fn_or (fn_or (ok_pginit (c := (pclz K)) F_Program__init_ T Hc Pt C_ndnotes C_ndrows (C_irowsA 4) C_steps E_NoNote) (ok_pginitN (c := (pclz K)) F_Program__init_ T Hc Pt C_ndnotes C_ndrows (C_irowsA 4) C_steps E_NoNote)) (ok_pginitR (c := (pclz K)) F_Program__init_ T Hc Pt C_ndnotes C_ndnotesN C_ndrows (C_irowsA 4) C_steps E_NoNote)
  have Mpx : MkC P0 w K mg base (L2.CX P0 w) 25 (He.ga K "Program") "Program" ["self", "rows", "notes"] (sp_pgX K (pclz K) (He.ga K "Program") (He.ga K "InvalidRow") (He.ga K "NoNote")) := ⟨_, _, okx.mono (by decide), mkB_ok (c.fact 258 rfl), (PySem.W.mg_of X G (gloB_ok (c.fact 259 rfl))), pg_b0 F_Program__init_⟩
  obtain ⟨kV_Program__eq_, doc_Program__eq_, pm_Program__eq_, an_Program__eq_, cd_Program__eq_, ct_Program__eq_, F_Program__eq_⟩ := fy_fun (d := ⟨fun K => (He.ma K (He.ga K "Program") "__eq__"), "__eq__", "Program.__eq__", S_Program__eq_, 0⟩) c 65 rfl rfl (c.fact 266 rfl)
  have F_Program__eq_ : Fun K "__eq__" "Program.__eq__" S_Program__eq_ (He.ma K (He.ga K "Program") "__eq__") (PySem.W.fnOf "__eq__" "Program.__eq__" (defArgs S_Program__eq_) (defBody S_Program__eq_) (defScope S_Program__eq_) .none kV_Program__eq_ doc_Program__eq_ pm_Program__eq_ an_Program__eq_ cd_Program__eq_ ct_Program__eq_) := F_Program__eq_
  have b_Program__eq_ := F_Program__eq_.binds (ps := ["self", "other"]) fun _ _ _ _ _ _ us hl => match us, hl with | [_, _], _ => rfl
  have M_pgeqB : MtC P0 w K mg base CX0 4 (He.ga K "Program") "__eq__" ["self", "other"] (sp_pgeqB K (pclz K) (He.ga K "Program")) := ⟨_, _, ok_pgeqB F_Program__eq_ T Hc Qe Pt (PySem.W.mg_of X G (gloB_ok (c.fact 259 rfl))), (mtB_ok (c.fact 267 rfl)), b_Program__eq_⟩
  obtain ⟨kV_Program__str_, doc_Program__str_, pm_Program__str_, an_Program__str_, cd_Program__str_, ct_Program__str_, F_Program__str_⟩ := fy_fun (d := ⟨fun K => (He.ma K (He.ga K "Program") "__str__"), "__str__", "Program.__str__", S_Program__str_, 0⟩) c 66 rfl rfl (c.fact 268 rfl)
  have F_Program__str_ : Fun K "__str__" "Program.__str__" S_Program__str_ (He.ma K (He.ga K "Program") "__str__") (PySem.W.fnOf "__str__" "Program.__str__" (defArgs S_Program__str_) (defBody S_Program__str_) (defScope S_Program__str_) .none kV_Program__str_ doc_Program__str_ pm_Program__str_ an_Program__str_ cd_Program__str_ ct_Program__str_) := F_Program__str_
  have b_Program__str_ := F_Program__str_.binds (ps := ["self"]) fun _ _ _ _ _ _ us hl => match us, hl with | [_], _ => rfl
  have M_pgstr : MtC P0 w K mg base CX0 4 (He.ga K "Program") "__str__" ["self"] (sp_pgstr K (pclz K) (He.ga K "Program")) := ⟨_, _, ok_pgstr F_Program__str_ T Pt C_lines, (mtB_ok (c.fact 269 rfl)), b_Program__str_⟩
  have hneP := (neB_ok (c.fact 270 rfl) (.head _)).1
  have hobP := (neB_ok (c.fact 270 rfl) (.head _)).2
  have hnf : PySem.W.notFirst K (He.ga K "Program") (.ref (He.ga K "Program")) = true := (c.fact 271 rfl)
  have hnfs : PySem.W.notFirst K (He.ga K "Program") (.type "str") = true := (c.fact 272 rfl)
  have hks : PySem.W.kitOne K (.type "str") (.ref (He.ga K "Program")) = some false := (of_decide_eq_true (c.fact 273 rfl))
  obtain ⟨_, _, _, _, _, _, _, _, _, _, _, _, _, _, x_NoRow⟩ := errB_ok (c.fact 274 rfl)
  have O_NoRow : OexC K (He.ga K "NoRow") := ⟨⟨_, _, _, _, _, _, _, _, _, _, _, _, _, _, _, x_NoRow, by rfl⟩, (of_decide_eq_true (c.fact 275 rfl)), (of_decide_eq_true (c.fact 276 rfl)), (of_decide_eq_true (c.fact 277 rfl)), (c.fact 278 rfl)⟩
  obtain ⟨kV_NoRow__init_, doc_NoRow__init_, pm_NoRow__init_, an_NoRow__init_, cd_NoRow__init_, ct_NoRow__init_, F_NoRow__init_⟩ := fy_fun (d := ⟨fun K => (He.ma K (He.ga K "NoRow") "__init__"), "__init__", "NoRow.__init__", S_NoRow__init_, 0⟩) c 67 rfl rfl (c.fact 279 rfl)
  have F_NoRow__init_ : Fun K "__init__" "NoRow.__init__" S_NoRow__init_ (He.ma K (He.ga K "NoRow") "__init__") (PySem.W.fnOf "__init__" "NoRow.__init__" (defArgs S_NoRow__init_) (defBody S_NoRow__init_) (defScope S_NoRow__init_) .none kV_NoRow__init_ doc_NoRow__init_ pm_NoRow__init_ an_NoRow__init_ cd_NoRow__init_ ct_NoRow__init_) := F_NoRow__init_
  have b_NoRow__init_ := F_NoRow__init_.binds (ps := ["self", "at"]) fun _ _ _ _ _ _ us hl => match us, hl with | [_, _], _ => rfl
  have E_NoRow : Er1 P0 w K mg base "NoRow" (He.ga K "NoRow") "at" "at" := ⟨_, _, (ok_err_NoRow F_NoRow__init_ UE mgU O_NoRow (of_decide_eq_true (c.fact 282 rfl))).mono (by decide), O_NoRow, (of_decide_eq_true (c.fact 280 rfl)), (of_decide_eq_true (c.fact 281 rfl)), (PySem.W.mg_of X G (gloB_ok (c.fact 283 rfl))), b_NoRow__init_⟩
  have XF_NoRow : XfC K (He.ga K "NoRow") := ⟨(of_decide_eq_true (c.fact 284 rfl)), (of_decide_eq_true (c.fact 285 rfl)), (of_decide_eq_true (c.fact 276 rfl)), (c.fact 286 rfl)⟩
  have X_NoRow : ExcC K (He.ga K "NoRow") := ⟨(of_decide_eq_true (c.fact 284 rfl)), (of_decide_eq_true (c.fact 285 rfl)), (of_decide_eq_true (c.fact 276 rfl)), (c.fact 286 rfl), (of_decide_eq_true (c.fact 287 rfl)), (of_decide_eq_true (c.fact 288 rfl)), (of_decide_eq_true (c.fact 289 rfl)), (of_decide_eq_true (c.fact 290 rfl))⟩
  have XF_NoNote : XfC K (He.ga K "NoNote") := ⟨(of_decide_eq_true (c.fact 291 rfl)), (of_decide_eq_true (c.fact 292 rfl)), (of_decide_eq_true (c.fact 229 rfl)), (c.fact 293 rfl)⟩
  have X_NoNote : ExcC K (He.ga K "NoNote") := ⟨(of_decide_eq_true (c.fact 291 rfl)), (of_decide_eq_true (c.fact 292 rfl)), (of_decide_eq_true (c.fact 229 rfl)), (c.fact 293 rfl), (of_decide_eq_true (c.fact 294 rfl)), (of_decide_eq_true (c.fact 288 rfl)), (of_decide_eq_true (c.fact 289 rfl)), (of_decide_eq_true (c.fact 295 rfl))⟩
  have XF_InvalidRow : XfC K (He.ga K "InvalidRow") := ⟨(of_decide_eq_true (c.fact 296 rfl)), (of_decide_eq_true (c.fact 297 rfl)), (of_decide_eq_true (c.fact 54 rfl)), (c.fact 298 rfl)⟩
  have X_InvalidRow : ExcC K (He.ga K "InvalidRow") := ⟨(of_decide_eq_true (c.fact 296 rfl)), (of_decide_eq_true (c.fact 297 rfl)), (of_decide_eq_true (c.fact 54 rfl)), (c.fact 298 rfl), (of_decide_eq_true (c.fact 299 rfl)), (of_decide_eq_true (c.fact 288 rfl)), (of_decide_eq_true (c.fact 289 rfl)), (of_decide_eq_true (c.fact 300 rfl))⟩
  obtain ⟨kV_Program_need, doc_Program_need, pm_Program_need, an_Program_need, cd_Program_need, ct_Program_need, F_Program_need⟩ := fy_fun (d := ⟨fun K => (He.ma K (He.ga K "Program") "need"), "need", "Program.need", S_Program_need, 0⟩) c 68 rfl rfl (c.fact 301 rfl)
  have F_Program_need : Fun K "need" "Program.need" S_Program_need (He.ma K (He.ga K "Program") "need") (PySem.W.fnOf "need" "Program.need" (defArgs S_Program_need) (defBody S_Program_need) (defScope S_Program_need) .none kV_Program_need doc_Program_need pm_Program_need an_Program_need cd_Program_need ct_Program_need) := F_Program_need
  have b_Program_need := F_Program_need.binds (ps := ["self", "at"]) fun _ _ _ _ _ _ us hl => match us, hl with | [_, _], _ => rfl
  have M_needX : MtC P0 w K mg base (L2.CX P0 w) 4 (He.ga K "Program") "need" ["self", "at"] (Pg.sp_need K (pclz K) (He.ga K "Program") (He.ga K "NoRow")) := ⟨_, _, ok_need F_Program_need T Pt C_isint E_NoRow, (mtB_ok (c.fact 302 rfl)), b_Program_need⟩
  obtain ⟨kV_Program__len_, doc_Program__len_, pm_Program__len_, an_Program__len_, cd_Program__len_, ct_Program__len_, F_Program__len_⟩ := fy_fun (d := ⟨fun K => (He.ma K (He.ga K "Program") "__len__"), "__len__", "Program.__len__", S_Program__len_, 0⟩) c 69 rfl rfl (c.fact 303 rfl)
  have F_Program__len_ : Fun K "__len__" "Program.__len__" S_Program__len_ (He.ma K (He.ga K "Program") "__len__") (PySem.W.fnOf "__len__" "Program.__len__" (defArgs S_Program__len_) (defBody S_Program__len_) (defScope S_Program__len_) .none kV_Program__len_ doc_Program__len_ pm_Program__len_ an_Program__len_ cd_Program__len_ ct_Program__len_) := F_Program__len_
  have b_Program__len_ := F_Program__len_.binds (ps := ["self"]) fun _ _ _ _ _ _ us hl => match us, hl with | [_], _ => rfl
  have M_plen : MtC P0 w K mg base CX0 2 (He.ga K "Program") "__len__" ["self"] (Pg.sp_plen K (pclz K) (He.ga K "Program")) := ⟨_, _, ok_plen F_Program__len_ T Pt, (mtB_ok (c.fact 304 rfl)), b_Program__len_⟩
  obtain ⟨kV_Program__getitem_, doc_Program__getitem_, pm_Program__getitem_, an_Program__getitem_, cd_Program__getitem_, ct_Program__getitem_, F_Program__getitem_⟩ := fy_fun (d := ⟨fun K => (He.ma K (He.ga K "Program") "__getitem__"), "__getitem__", "Program.__getitem__", S_Program__getitem_, 0⟩) c 70 rfl rfl (c.fact 305 rfl)
  have F_Program__getitem_ : Fun K "__getitem__" "Program.__getitem__" S_Program__getitem_ (He.ma K (He.ga K "Program") "__getitem__") (PySem.W.fnOf "__getitem__" "Program.__getitem__" (defArgs S_Program__getitem_) (defBody S_Program__getitem_) (defScope S_Program__getitem_) .none kV_Program__getitem_ doc_Program__getitem_ pm_Program__getitem_ an_Program__getitem_ cd_Program__getitem_ ct_Program__getitem_) := F_Program__getitem_
  have b_Program__getitem_ := F_Program__getitem_.binds (ps := ["self", "at"]) fun _ _ _ _ _ _ us hl => match us, hl with | [_, _], _ => rfl
  have M_pitemX : MtC P0 w K mg base (L2.CX P0 w) 8 (He.ga K "Program") "__getitem__" ["self", "at"] (Pg.sp_pitem K (pclz K) (He.ga K "Program") (He.ga K "NoRow")) := ⟨_, _, ok_pitem F_Program__getitem_ T Pt M_needX, (mtB_ok (c.fact 306 rfl)), b_Program__getitem_⟩
  have M_pitem := M_pitemX.calm
  have IXP : IxC K (He.ga K "Program") := ⟨(He.ma K (He.ga K "Program") "__getitem__"), (of_decide_eq_true (c.fact 307 rfl)), (c.fact 308 rfl)⟩
  have N_U : NmC mg "UnmarkedError" (He.ga K "UnmarkedError") := ⟨mgU⟩
  obtain ⟨kV__law_refused, doc__law_refused, pm__law_refused, an__law_refused, cd__law_refused, ct__law_refused, F__law_refused⟩ := fy_fun (d := ⟨fun K => (He.ga K "_law_refused"), "_law_refused", "_law_refused", S__law_refused, 0⟩) c 71 rfl rfl (c.fact 309 rfl)
  have F__law_refused : Fun K "_law_refused" "_law_refused" S__law_refused (He.ga K "_law_refused") (PySem.W.fnOf "_law_refused" "_law_refused" (defArgs S__law_refused) (defBody S__law_refused) (defScope S__law_refused) .none kV__law_refused doc__law_refused pm__law_refused an__law_refused cd__law_refused ct__law_refused) := F__law_refused
  have b__law_refused := F__law_refused.binds (ps := ["_law_work"]) fun _ _ _ _ _ _ us hl => match us, hl with | [_], _ => rfl
  have D_ref : LamD P0 w K mg base 30 "_law_refused" "_law_work" (TTp (He.ga K "NoRow") (He.ga K "NoNote") (He.ga K "InvalidRow")) := lamD_ref F__law_refused T E_NoRow E_NoNote E_InvalidRow N_U X_NoRow X_NoNote X_InvalidRow XF_NoRow XF_NoNote XF_InvalidRow (of_decide_eq_true (c.fact 282 rfl)) (of_decide_eq_true (c.fact 235 rfl)) (of_decide_eq_true (c.fact 60 rfl)) (of_decide_eq_true (c.fact 310 rfl)) (of_decide_eq_true (c.fact 311 rfl)) (of_decide_eq_true (c.fact 312 rfl)) (of_decide_eq_true (c.fact 313 rfl)) (of_decide_eq_true (c.fact 314 rfl)) (of_decide_eq_true (c.fact 315 rfl)) (of_decide_eq_true (c.fact 316 rfl)) (of_decide_eq_true (c.fact 317 rfl)) (of_decide_eq_true (c.fact 318 rfl)) (PySem.W.mg_of X G (gloB_ok (c.fact 319 rfl))) (c.fact 309 rfl) b__law_refused
  obtain ⟨kV__law_program, doc__law_program, pm__law_program, an__law_program, cd__law_program, ct__law_program, F__law_program⟩ := fy_fun (d := ⟨fun K => (He.ga K "_law_program"), "_law_program", "_law_program", S__law_program, 0⟩) c 72 rfl rfl (c.fact 320 rfl)
  have F__law_program : Fun K "_law_program" "_law_program" S__law_program (He.ga K "_law_program") (PySem.W.fnOf "_law_program" "_law_program" (defArgs S__law_program) (defBody S__law_program) (defScope S__law_program) .none kV__law_program doc__law_program pm__law_program an__law_program cd__law_program ct__law_program) := F__law_program
  have b__law_program := F__law_program.binds (ps := ["_law_deal_here", "_law_world_here", "_law_most"]) fun _ _ _ _ _ _ us hl => match us, hl with | [_, _, _], _ => rfl
  have C_lprog : FnC P0 w K mg base CX0 12 "_law_program" ["_law_deal_here", "_law_world_here", "_law_most"] sp_lprog := ⟨_, _, ok_lprog F__law_program T C_draw C_rowsA C_bounded, (PySem.W.mg_of X G (gloB_ok (c.fact 321 rfl))), (c.fact 320 rfl), b__law_program⟩
  have C_rsof := (C_rofA 4).2
  obtain ⟨kV__law_program_of, doc__law_program_of, pm__law_program_of, an__law_program_of, cd__law_program_of, ct__law_program_of, F__law_program_of⟩ := fy_fun (d := ⟨fun K => (He.ga K "_law_program_of"), "_law_program_of", "_law_program_of", S__law_program_of, 0⟩) c 73 rfl rfl (c.fact 322 rfl)
  have F__law_program_of : Fun K "_law_program_of" "_law_program_of" S__law_program_of (He.ga K "_law_program_of") (PySem.W.fnOf "_law_program_of" "_law_program_of" (defArgs S__law_program_of) (defBody S__law_program_of) (defScope S__law_program_of) .none kV__law_program_of doc__law_program_of pm__law_program_of an__law_program_of cd__law_program_of ct__law_program_of) := F__law_program_of
  have b__law_program_of := F__law_program_of.binds (ps := ["_law_notes", "_law_rows_here"]) fun _ _ _ _ _ _ us hl => match us, hl with | [_, _], _ => rfl
  have C_pgofV : FnC P0 w K mg base CX0 27 "_law_program_of" ["_law_notes", "_law_rows_here"] (sp_pgofV K (pclz K) (He.ga K "Program")) := ⟨_, _, ok_pgofV F__law_program_of T C_rsof Mp, (PySem.W.mg_of X G (gloB_ok (c.fact 323 rfl))), (c.fact 322 rfl), b__law_program_of⟩
  obtain ⟨kV__law_used, doc__law_used, pm__law_used, an__law_used, cd__law_used, ct__law_used, F__law_used⟩ := fy_fun (d := ⟨fun K => (He.ga K "_law_used"), "_law_used", "_law_used", S__law_used, 0⟩) c 74 rfl rfl (c.fact 324 rfl)
  have F__law_used : Fun K "_law_used" "_law_used" S__law_used (He.ga K "_law_used") (PySem.W.fnOf "_law_used" "_law_used" (defArgs S__law_used) (defBody S__law_used) (defScope S__law_used) .none kV__law_used doc__law_used pm__law_used an__law_used cd__law_used ct__law_used) := F__law_used
  have b__law_used := F__law_used.binds (ps := ["_law_rows_here"]) fun _ _ _ _ _ _ us hl => match us, hl with | [_], _ => rfl
  have C_used : FnC P0 w K mg base CX0 8 "_law_used" ["_law_rows_here"] sp_used := ⟨_, _, ok_used F__law_used T (C_linnerA 6), (PySem.W.mg_of X G (gloB_ok (c.fact 325 rfl))), (c.fact 324 rfl), b__law_used⟩
  obtain ⟨kV__law_wrong_notes, doc__law_wrong_notes, pm__law_wrong_notes, an__law_wrong_notes, cd__law_wrong_notes, ct__law_wrong_notes, F__law_wrong_notes⟩ := fy_fun (d := ⟨fun K => (He.ga K "_law_wrong_notes"), "_law_wrong_notes", "_law_wrong_notes", S__law_wrong_notes, 0⟩) c 75 rfl rfl (c.fact 326 rfl)
  have F__law_wrong_notes : Fun K "_law_wrong_notes" "_law_wrong_notes" S__law_wrong_notes (He.ga K "_law_wrong_notes") (PySem.W.fnOf "_law_wrong_notes" "_law_wrong_notes" (defArgs S__law_wrong_notes) (defBody S__law_wrong_notes) (defScope S__law_wrong_notes) .none kV__law_wrong_notes doc__law_wrong_notes pm__law_wrong_notes an__law_wrong_notes cd__law_wrong_notes ct__law_wrong_notes) := F__law_wrong_notes
  have b__law_wrong_notes := F__law_wrong_notes.binds (ps := ["_law_deal_here"]) fun _ _ _ _ _ _ us hl => match us, hl with | [_], _ => rfl
  have C_wrong : FnC P0 w K mg base CX0 4 "_law_wrong_notes" ["_law_deal_here"] (sp_wrong K) := ⟨_, _, ok_wrong F__law_wrong_notes T C_draw C_pick, (PySem.W.mg_of X G (gloB_ok (c.fact 327 rfl))), (c.fact 326 rfl), b__law_wrong_notes⟩
  obtain ⟨kV__law_told_right, doc__law_told_right, pm__law_told_right, an__law_told_right, cd__law_told_right, ct__law_told_right, F__law_told_right⟩ := fy_fun (d := ⟨fun K => (He.ga K "_law_told_right"), "_law_told_right", "_law_told_right", S__law_told_right, 0⟩) c 76 rfl rfl (c.fact 328 rfl)
  have F__law_told_right : Fun K "_law_told_right" "_law_told_right" S__law_told_right (He.ga K "_law_told_right") (PySem.W.fnOf "_law_told_right" "_law_told_right" (defArgs S__law_told_right) (defBody S__law_told_right) (defScope S__law_told_right) .none kV__law_told_right doc__law_told_right pm__law_told_right an__law_told_right cd__law_told_right ct__law_told_right) := F__law_told_right
  have b__law_told_right := F__law_told_right.binds (ps := ["_law_program_here", "_law_notes", "_law_rows_here"]) fun _ _ _ _ _ _ us hl => match us, hl with | [_, _, _], _ => rfl
  have C_told : FnG P0 w K mg base CX0 13 "_law_told_right" ["_law_program_here", "_law_notes", "_law_rows_here"] (sp_told K (pclz K) (He.ga K "Program")) := ⟨_, _, ok_told F__law_told_right T Pt IXP Hc Hq M_plen M_pitem (C_linnerA 6) C_dlines, (PySem.W.mg_of X G (gloB_ok (c.fact 329 rfl))), (c.fact 328 rfl), b__law_told_right⟩
  obtain ⟨kV__law_twice_right, doc__law_twice_right, pm__law_twice_right, an__law_twice_right, cd__law_twice_right, ct__law_twice_right, F__law_twice_right⟩ := fy_fun (d := ⟨fun K => (He.ga K "_law_twice_right"), "_law_twice_right", "_law_twice_right", S__law_twice_right, 0⟩) c 77 rfl rfl (c.fact 330 rfl)
  have F__law_twice_right : Fun K "_law_twice_right" "_law_twice_right" S__law_twice_right (He.ga K "_law_twice_right") (PySem.W.fnOf "_law_twice_right" "_law_twice_right" (defArgs S__law_twice_right) (defBody S__law_twice_right) (defScope S__law_twice_right) .none kV__law_twice_right doc__law_twice_right pm__law_twice_right an__law_twice_right cd__law_twice_right ct__law_twice_right) := F__law_twice_right
  have b__law_twice_right := F__law_twice_right.binds (ps := ["_law_notes", "_law_rows_here"]) fun _ _ _ _ _ _ us hl => match us, hl with | [_, _], _ => rfl
  have C_twice : FnG P0 w K mg base CX0 27 "_law_twice_right" ["_law_notes", "_law_rows_here"] (sp_twice K) := ⟨_, _, ok_twice F__law_twice_right T C_told (C_linnerA 6) C_lmade C_rsof Mp, (PySem.W.mg_of X G (gloB_ok (c.fact 331 rfl))), (c.fact 330 rfl), b__law_twice_right⟩
  exact ok_law F_law T hcL TB Hc Mt Mr Pt IXP hEp hEr hneP hobP hnf hnfs hks M_pgeqB M_pgstr Mp Mp0 Mpx M_plen M_pitemX D_ref C_lprog C_deal C_pick C_world C_rsof C_pgofV C_dlines C_used C_wrong C_told C_twice

end Lw
open PySem PySem.W PyProof.Rows in
set_option maxRecDepth 100000 in
set_option maxHeartbeats 0 in
theorem PySem.Challenge.cw_unmarked_k38_programs_made_holds : PySem.Challenge.rw_unmarked_k38_programs_made.Holds := by
  w_on; o_law
  refine HandSHeadRun.head_any (r := (PySem.W.OpenLaw.row PySem.Challenge.rw_unmarked_k38_programs_made)) (q := view (PySem.W.OpenLaw.row PySem.Challenge.rw_unmarked_k38_programs_made).prog [123]) (H := Lw.zhk) (ob := Lw.zob) (M := 20000) (loose := Lw.zls) (d := (HandSHeadRun.topDef (PySem.W.OpenLaw.row PySem.Challenge.rw_unmarked_k38_programs_made).prog 123)) (kwd := []) Lw.zob_eq
    (by kernel_rfl) (fun s => by kernel_rfl) Lw.zrun (by kernel_rfl) (by kernel_rfl) (by kernel_rfl) (by rfl) (by first | assumption | decide +kernel) (by decide +kernel) ⟨rfl, rfl, rfl, rfl, rfl, by decide +kernel⟩ ?hw ?hc
  case hw => w_witness2
  case hc =>
    refine Kb.walk_ofTGE (l := PySem.Challenge.rw_unmarked_k38_programs_made) (n := 63) (k := 34) (x := "_law_script") rfl (by decide) (by kernel_rfl) ⟨rfl, by decide, by decide⟩ (by kernel_rfl) ?F
    intro w mg fa h Y G hmg0
    obtain ⟨K, KX, c⟩ := Y
    have e : (HandSHeadRun.topDef (PySem.W.OpenLaw.row PySem.Challenge.rw_unmarked_k38_programs_made).prog 123).name = ("law" : PySem.Str) := by kernel_rfl
    have hmg : mg ("law" : PySem.Str) = some (.ref fa) := by
      rw [← e]
      exact hmg0
    obtain ⟨fd, cL, PT, LT, hb, hF⟩ := Lw.zfacts (w := w) KX G hmg c
    exact ⟨K, fd, cL, PT, Lw.Pg.sp_law38 K PT, KX, (by rw [e]; exact LT), hb, fun H a ns hl hT hS => ⟨a, ns, rfl, hT, hS, hl, fun _ => rfl⟩, hF⟩
#print axioms PySem.Challenge.cw_unmarked_k38_programs_made_holds
