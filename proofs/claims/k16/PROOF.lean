import PyProof.Rows.All
import Wide.All
import OpenK.AllK
import Wide.FinOn
import HandS.ForMost
import HandS.Wide
import HandS.IsInst
import HandS.Style
import HandS.FStr
import HandS.Property
import HandS.SlotsOwn
import HandS.ClsMeth
import HandS.NoneIn
import HandS.Codes
import HandS.Walk
import HandS.ExcInit
import HandS.ExcIs
import HandS.ExcOwn
import HandS.ExcField
import HandS.TryMany
import HandS.WordsExc
import HandS.ExcBuiltin
import HandS.MakeKw
import HandS.MakeKwOnly
import HandS.TryOnly
import PyProof.ReprLen
import KE.KOpsOwn
import HandS.TupAny
import HandS.DictTup
import HandS.DictComp
import KE.KDictDisplayH
import PyProof.Rows.SeqRoads
import HandS.Replace
import HandS.Deep
import KE.GoesMore
import KE.GoesEnum
import HandS.SetFor
import HandS.Star
import HandS.HeadEnd
import HandS.HeadHook2
import HandS.Head2
import HandS.CallSlots
import KE.KExcIs
import PySem.Challenge.RW_unmarked_k16_whole_order_of_changed_edge
set_option Elab.async false
set_option linter.all false
set_option maxRecDepth 100000
set_option maxHeartbeats 4000000
namespace Kb
open PySem PySem.Spec PyProof.Rows L2

theorem ifT {c : Bool} {A B : Prop} (hc : c = true) (h : A) : if c = true then A else B := by rw [if_pos hc]; exact h
theorem ifF {c : Bool} {A B : Prop} (hc : c = false) (h : B) : if c = true then A else B := by rw [hc, if_neg Bool.false_ne_true]; exact h
/-! ### a statement, then the rest, joined by a word -/
def tMid (t u : TS) : TS := fun D σ H => ∃ M : L2.St → Hp → Prop, t { D with nx := M } σ H ∧ ∀ σ1 H1, M σ1 H1 → u D σ1 H1
theorem pss_mid {X : Cx} {st : Stmt} {rest : List Stmt} {t u : TS} (a : PS X st t) (b : PSs X rest u) : PSs X (st :: rest) (tMid t u) := by
  refine ⟨fun pins s σ H D I ⟨M, hm, hu⟩ => ?_⟩
  refine wpAny_execs_cons (thn (a.run pins s σ H { D with nx := M } I hm) fun fl s1 z => ?_)
  cases fl with
  | next =>
    obtain ⟨σ1, H1, I1, z⟩ := z
    exact b.run pins s1 σ1 H1 D I1 (hu σ1 H1 z)
  | ret v => exact z
  | brk => exact z
  | cont => exact z
/-! ### what a comprehension's reading asks behind its source -/
def LcR (J : It) (g : TG) (tt : TT) (te : TE) (vs : List Nat) (σ : L2.St) (H1 : Hp) (D : Addr) (Qd : Hp → Prop) : Prop := ∃ W : Nat → Nat → Hp → Prop, (∃ m, W 0 m (upd H1 D (.lst []))) ∧ ∀ i m H, W i m H →
  (J.stop i H ∧ Qd H) ∨ (J.go i H ∧ ∃ Nx : Hp → Prop, (∀ H', Nx H' → ∃ m', m' < m ∧ W (i + 1) m' H') ∧ ∀ x H', J.yld i H x H' → g x (wipe σ vs) H' fun σ2 H2 => wipe σ2 vs = wipe σ vs ∧ tt σ2 H2 fun b H3 =>
    if b = true then te σ2 H3 fun y H4 => ∃ acc, H4 D = some (.lst acc) ∧ acc.length < sizeLine ∧ Nx (upd H4 D (.lst (acc ++ [y]))) else Nx H3)
theorem lcR_range {lo : Int} {n : Nat} {g : TG} {te : TE} {vs : List Nat} {σ : L2.St} {H1 : Hp} {D : Addr} {Qd : Hp → Prop} (M : Nat → Hp → Prop) (h0 : M 0 (upd H1 D (.lst [])))
    (hs : ∀ i H, i < n → M i H → g (.int (lo + i)) (wipe σ vs) H fun σ2 H2 => wipe σ2 vs = wipe σ vs ∧ te σ2 H2 fun y H4 => ∃ acc, H4 D = some (.lst acc) ∧ acc.length < sizeLine ∧ M (i + 1) (upd H4 D (.lst (acc ++ [y]))))
    (hm : ∀ x σ H Q Q', (∀ σ2 H2, Q σ2 H2 → Q' σ2 H2) → g x σ H Q → g x σ H Q') (hd : ∀ H, M n H → Qd H) : LcR (Itr lo n) g tYes te vs σ H1 D Qd :=
  lc_range M h0 (fun i H hi m => hm _ _ _ _ _ (fun σ2 H2 z => ⟨z.1, ifT (B := M (i + 1) H2) rfl z.2⟩) (hs i H hi m)) hd
theorem gName_mono (i : Nat) : ∀ (x : V) (σ : L2.St) (H : Hp) (Q Q' : L2.St → Hp → Prop), (∀ σ2 H2, Q σ2 H2 → Q' σ2 H2) → gName i x σ H Q → gName i x σ H Q' := fun _ _ _ _ _ h q => h _ _ q
theorem szl {n : Nat} (h : n ≤ 1000000) : n ≤ sizeLine := Nat.le_trans h (by decide)
theorem szs {n : Nat} (h : n ≤ 1000000) : n < sizeLine := Nat.lt_of_le_of_lt h (by decide)
/-! ### rules that name the written part: for blocks of comprehensions -/
section
variable {X : Cx} {K : PySem.W.Frag}
end
/-! ### a comprehension over a text -/
theorem lcR_str {z : Str} {g : TG} {te : TE} {vs : List Nat} {σ : L2.St} {H1 : Hp} {D : Addr} {Qd : Hp → Prop} (M : Nat → Hp → Prop) (h0 : M 0 (upd H1 D (.lst [])))
    (hs : ∀ i c H, i < z.cps.size → z.cps[i]? = some c → M i H → g (.str ⟨#[c]⟩) (wipe σ vs) H fun σ2 H2 => wipe σ2 vs = wipe σ vs ∧ te σ2 H2 fun y H4 => ∃ acc, H4 D = some (.lst acc) ∧ acc.length < sizeLine ∧ M (i + 1) (upd H4 D (.lst (acc ++ [y]))))
    (hm : ∀ x σ H Q Q', (∀ σ2 H2, Q σ2 H2 → Q' σ2 H2) → g x σ H Q → g x σ H Q') (hd : ∀ H, M z.cps.size H → Qd H) : LcR (Its z) g tYes te vs σ H1 D Qd :=
  lc_it walk_str M h0 (fun _ _ _ _ => trivial) (fun i x H H' hi m y => by
    obtain ⟨e, c, hc, ex⟩ := y
    subst e; subst ex
    exact hm _ _ _ _ _ (fun σ2 H2 z => ⟨z.1, ifT (B := M (i + 1) H2) rfl z.2⟩) (hs i c _ hi hc m)) hd
/-! ### a comprehension whose every turn makes one object -/
theorem kit_self (K : PySem.W.Frag) (t : Value) (h : (t == t) = true) : PySem.W.kitOne K t t = some true := by
  unfold PySem.W.kitOne
  rw [if_pos h]
/-! ### int of an int, of a truth -/
theorem call_intI {X : Cx} : CallR X (.type "int") (fun xs H Q => ∃ i, xs = [.int i] ∧ Q (.int i) H) := fun pins s σ H xs us Q I r h => call_int1 pins s σ H xs us Q I r (.inl h)
theorem call_intB {X : Cx} : CallR X (.type "int") (fun xs H Q => ∃ k, xs = [.bl k] ∧ Q (.int (if k then 1 else 0)) H) := fun pins s σ H xs us Q I r h => call_int1 pins s σ H xs us Q I r (.inr h)
/-! ### a def that may be called by its name -/
structure FnC (P : Program) (w : World) (K : PySem.W.Frag) (mg : Str → Option Value) (base : Heap) (CX : CXT) (k : Nat) (x : Str) (ps : List Str) (sp : Sp) : Prop where
  ex : ∃ (f : Addr) (fd : FuncData), FnOk P w K mg base CX k f fd ps sp ∧ mg x = some (.ref f) ∧ PySem.W.keepIn K (.ref f) = true ∧ Binds K fd ps []
section
variable {X : Cx} {k : Nat} {x : Str} {ps : List Str} {sp : Sp} {e : Expr} {es : List Expr} {t : TA} {p pos : Pos}
theorem pe_callC (F : FnC X.prog X.w X.K X.mg X.base CX0 k x ps sp) (hr : Room k X.A) (hg : Gl X x) (ha : PA X (e :: es) t) (hdb : (x == ("__debug__" : Str)) = false := by decide)
    (he : starEach (e :: es) X.env = (false, eval e X.env) :: starEach es X.env := by rfl) (hpl : (backTo pos (starEach es X.env)).any (·.1) = false := by rfl) :
    PE X (.Call (.Name x p) (e :: es) [] pos) (tCall sp [] E0 t) := by
  obtain ⟨f, fd, h, hm, hk, hb⟩ := F.ex
  exact pe_call h hr hg hm hk hb .nil pass0 ha hdb he hpl
end

/-! ### texts -/
section
variable {X : Cx}
def repS (z : Str) (n : Nat) : Str := ⟨(List.replicate n z.cps.toList).flatten.toArray⟩
theorem fold_rep (a : Array Nat) : ∀ (n : Nat) (b : Array Nat), (List.replicate n a).foldl (· ++ ·) b = (b.toList ++ (List.replicate n a.toList).flatten).toArray
  | 0, b => by simp
  | n + 1, b => by
    rw [List.replicate_succ, List.foldl_cons, fold_rep a n]
    simp [List.replicate_succ]
theorem repS_eq (z : Str) (n : Nat) : (⟨(List.replicate n z.cps).foldl (· ++ ·) #[]⟩ : Str) = repS z n := by
  rw [fold_rep]; simp [repS]
theorem repS_len (z : Str) (n : Nat) : (repS z n).length = z.length * n := by
  show (List.replicate n z.cps.toList).flatten.toArray.size = z.cps.size * n
  simp [Nat.mul_comm]
def rMulS : R2 := fun x y H Q => ∃ (z : Str) (n : Int), x = .str z ∧ y = .int n ∧ 0 ≤ n ∧ n < 2 ^ 40 ∧ z.length * n.toNat ≤ 1000000 ∧ Q (.str (repS z n.toNat)) H
theorem op_mul_str : OpR X (binaryOp .Mult) rMulS := by
  intro pins s σ H x y v u Q I rx ry h
  obtain ⟨z, n, rfl, rfl, h0, h1, h2, q⟩ := h
  obtain ⟨t, rfl⟩ := rx
  obtain ⟨t', rfl⟩ := ry
  have b1 : ¬ n < -(2 ^ 63 : Int) := by omega
  have b2 : ¬ n ≥ (2 ^ 63 : Int) := by omega
  have hz : z.length * n.toNat ≤ sizeLine := Nat.le_trans h2 (by decide)
  refine PySem.P.mul_str (by rw [decide_eq_false b1, decide_eq_false b2]; rfl) (fun c1 _ => ?_) (fun _ _ => ?_) ?_
  · have hn : 1 ≤ n := by omega
    have hl : z.length ≤ 1000000 := by
      have : 1 ≤ n.toNat := by omega
      calc z.length = z.length * 1 := (Nat.mul_one _).symm
        _ ≤ z.length * n.toNat := Nat.mul_le_mul_left _ this
        _ ≤ 1000000 := h2
    have hd : (1000000 : Int) ≤ (2 ^ 63 - 1) / n := by
      rw [Int.le_ediv_iff_mul_le (by omega)]
      omega
    omega
  · show (decide _) = false
    exact decide_eq_false (by omega)
  · by_cases c1 : n < 1
    · rw [if_pos c1]
      have e : n.toNat = 0 := by omega
      have e2 : repS z n.toNat = Str.empty := by rw [e]; rfl
      rw [e2] at q
      exact ⟨by decide, .str Str.empty, H, I.tok _, ⟨_, rfl⟩, q⟩
    · rw [if_neg c1]
      by_cases c2 : (n == 1 || z.length == 0) = true
      · rw [if_pos c2]
        have e2 : repS z n.toNat = z := by
          rcases Bool.or_eq_true_iff.mp c2 with c | c
          · have : n = 1 := eq_of_beq c
            subst this
            show (⟨(List.replicate 1 z.cps.toList).flatten.toArray⟩ : Str) = z
            simp
          · have c' : z.length = 0 := eq_of_beq c
            have hz0 : z.cps = #[] := Array.eq_empty_of_size_eq_zero c'
            obtain ⟨cps⟩ := z
            simp only at hz0
            subst hz0
            simp [repS]
        rw [e2] at q
        exact ⟨.str z, H, I, ⟨t, rfl⟩, q⟩
      · rw [if_neg c2]
        refine ⟨?_, ?_⟩
        · rw [repS_eq, repS_len]; exact hz
        · rw [repS_eq]
          exact ⟨.str _, H, I.tok _, ⟨_, rfl⟩, q⟩

end
end Kb

/-! ### own comparisons -/
namespace Kb
open PySem PySem.W PySem.Spec PyProof.Rows
section
variable {prog : Program} {w : World} {A : Around} {E : Value → Shared → Prop} {s : Shared} {K : Frag} {x C f L : Addr} {ox : Obj} {od : Option Obj} {h₀ : Heap} {m : Str → Option Value} {tb : Value}
theorem ifBound_B {M : Model} {name : Str} {id : String} {args : List Value} {Q : Option Value → Shared → Prop} (X : K.In s.heap) (I : InstAt s.heap x ox C od) (hs : findIn K (.ref C) name = some (some (.builtin id)))
    (hb : ∀ self, bindSpecial (.builtin id) self = pure (.builtin id, [self]))
    (h : wpAny M A (call (.builtin id) (.ref x :: args)) (fun v => Q (some v)) E s) : wpAny M A (callSpecialIfBound? (.ref x) name args) Q E s := by
  simp only [callSpecialIfBound?, bindSpecialIfBound?]
  refine wpAny_holding (wpAny_bind (wpAny_bind (wpAny_bind (I.type.here ((looks_findIn X hs).here ?_)))))
  refine wpAny_bind (wpAny_askSetting (wpAny_ite ?_))
  have fin : wpAny M A (call (.builtin id) ([.ref x] ++ args) >>= fun v => pure (some v)) Q E s := wpAny_bind (wpAny_mono h (fun v s' z => wpAny_pure z) fun _ _ z => z)
  split
  · exact wpAny_bind ((Looks.of_pure (hb _)).here (wpAny_pure (by exact fin)))
  · exact wpAny_tryCatch (wpAny_bind ((Looks.of_pure (hb _)).here (wpAny_pure (by exact fin))))
theorem check_slotI {i owner n : String} {self : Value} {rest : List Value} {kw : List (Str × Value)} {Q : Unit → Shared → Prop}
    (hk : builtinKind i = some .slot) (hs : splitId i = some (owner, n)) (hi : Looks (model prog w) s.heap (isInstance self (.type owner)) true) (ha : argsOk i ⟨self :: rest, kw⟩) (q : Q () s) :
    wpAny (model prog w) A (checkBuiltinCall i ⟨self :: rest, kw⟩) Q E s := by
  simp only [checkBuiltinCall, hk, hs]
  refine wpAny_bind (hi.here ?_)
  simp only [Bool.not_true, Bool.false_eq_true, if_false]
  cases hsig : Manifest.signature? i with
  | none => exact wpAny_pure q
  | some sig =>
    simp only [argsOk, hsig] at ha
    have h2 : Bind.checkArgs i sig ⟨self :: rest, kw⟩ = pure () := ha
    show wpAny _ A (Bind.checkArgs i sig ⟨self :: rest, kw⟩) Q E s
    rw [h2]; exact wpAny_pure q
theorem cmp_ne {b : Value} {Q : Value → Shared → Prop} (hu : A.units + 1 < cLine) (F : Fr h₀ L s.heap m) (X₀ : K.In h₀) (I : InstAt s.heap x ox C od) (hb : Looks (model prog w) s.heap (typeOf b) tb) (hn : notFirst K C tb = true)
    (hne : findIn K (.ref C) "__ne__" = some (some (.builtin "object.__ne__"))) (hm : subIn K (.ref C) (.type "object") = some true)
    (hs : findIn K (.ref C) "__eq__" = some (some (.ref f))) (hf : isFn K (.ref f) = true)
    (h : wpAny (model prog w) A.in1 (call (.ref f) [.ref x, b]) (fun v s' => ∃ k, v = .bool k ∧ Q (.bool (!k)) s') E s) : wpAny (model prog w) A (richCompare .NotEq (.ref x) b) Q E s := by
  have X := X₀.keeps F.keep
  have bs : ∀ self, bindSpecial (.builtin "object.__ne__") self = pure (.builtin "object.__ne__", [self]) := fun self => by with_unfolding_all rfl
  have isi : Looks (model prog w) s.heap (isInstance (.ref x) (.type "object")) true := by
    unfold isInstance
    exact I.type.andThen (looks_subIn X hm)
  have one : wpAny (model prog w) A (tryCompare (.ref x) (cmpInfo .NotEq).2.1 b) (fun r s' => ∃ v, r = some v ∧ Q v s') E s := by
    unfold tryCompare
    refine wpAny_bind (ifBound_B (id := "object.__ne__") X I hne bs ?_)
    refine wpAny_call (codeAny_call_builtin (by decide +kernel) PySem.F.cmpEntry_ne (check_slotI PySem.F.cmpKind_ne PySem.F.cmpSplit_ne isi (PySem.F.cmpArgs_ne _ _) ?_))
    unfold Builtin.«object.__ne__»
    have hu2 : A.in1.units < cLine := hu
    repeat (first
      | with_reducible refine wpAny_cRoomFor hu2 ?_
      | refine wpAny_bind (m := callSpecialIfBound? (.ref x) (Str.ofString "__eq__") [b]) (ifBound_K X I hs hf (wpAny_mono h (fun r s' hr => ?_) fun _ _ e => e))
      | wp_step)
    obtain ⟨k, rfl, hq⟩ := hr
    repeat (first | exact ⟨_, rfl, wpAny_pure hq⟩ | exact ⟨_, rfl, hq⟩ | exact hq | exact wpAny_pure hq | (refine wpAny_bind (m := truthy (.bool _)) (wpAny_truthy_bool ?_)) | wp_step)
  unfold richCompare
  simp only [oneThing_ref]
  refine wpAny_holding (wpAny_bind (wpAny_cRoomFor (by omega) ?_))
  refine wpAny_bind (I.type.here (wpAny_bind (hb.here ?_)))
  have fin : wpAny (model prog w) A (tryCompare (.ref x) (cmpInfo .NotEq).2.1 b) (fun r s' => ∃ v, r = some v ∧ Q v s') E s := one
  split
  · rename_i q
    have e : subIn K tb (.ref C) = some false := by
      rcases Bool.or_eq_true_iff.mp hn with e | e
      · rw [beq_iff_eq.mp e] at q; simp at q
      · exact beq_iff_eq.mp e
    refine wpAny_bind ((looks_subIn X e).here ?_)
    simp only [Bool.false_eq_true, if_false]
    refine wpAny_bind (wpAny_mono fin (fun r s' z => ?_) fun _ _ e => e)
    obtain ⟨v, rfl, hq⟩ := z
    exact wpAny_pure hq
  · refine wpAny_bind (wpAny_pure ?_)
    simp only [Bool.false_eq_true, if_false]
    refine wpAny_bind (wpAny_mono fin (fun r s' z => ?_) fun _ _ e => e)
    obtain ⟨v, rfl, hq⟩ := z
    exact wpAny_pure hq
end
end Kb

/-! ### methods of own classes, own comparisons, repr, defs that ask for the guards -/
namespace Kb
open PySem PySem.Spec PyProof.Rows L2
/-- a method of the class at C -/
structure MtC (P : Program) (w : World) (K : PySem.W.Frag) (mg : Str → Option Value) (base : Heap) (CX : CXT) (k : Nat) (C : Addr) (m : Str) (ps : List Str) (sp : Sp) : Prop where
  ex : ∃ (f : Addr) (fd : FuncData), FnOk P w K mg base CX k f fd ps sp ∧ Meth K C m f ∧ Binds K fd ps []
/-- how the class at C is made -/
structure MkC (P : Program) (w : World) (K : PySem.W.Frag) (mg : Str → Option Value) (base : Heap) (CX : CXT) (k : Nat) (C : Addr) (x : Str) (ps : List Str) (sp : Sp) : Prop where
  ex : ∃ (f : Addr) (fd : FuncData), FnOk P w K mg base CX k f fd ps sp ∧ Mk K C f ∧ mg x = some (.ref C) ∧ Binds K fd ps []
section
variable {X : Cx} {k : Nat} {x m : Str} {C : Addr} {ps : List Str} {sp : Sp} {e o : Expr} {es : List Expr} {t : TA} {ta : TE} {p pos apos : Pos}
theorem pe_makeC (F : MkC X.prog X.w X.K X.mg X.base CX0 k C x ps sp) (hr : Room (k + 1) X.A) (hg : Gl X x) (ha : PA X (e :: es) t) (hdb : (x == ("__debug__" : Str)) = false := by decide)
    (he : starEach (e :: es) X.env = (false, eval e X.env) :: starEach es X.env := by rfl) (hpl : (backTo pos (starEach es X.env)).any (·.1) = false := by rfl) :
    PE X (.Call (.Name x p) (e :: es) [] pos) (tMake C sp [] E0 t) := by
  obtain ⟨f, fd, h, M, hm, hb⟩ := F.ex
  exact pe_make M h hr hg hm hb .nil pass0 ha hdb he hpl
/-- x op y by the class's own def -/
def rOwnI (K : PySem.W.Frag) (C : Addr) (sp : Sp) (E : XK) : R2 := fun x y H Q => ∃ (a dx : Addr) (fs : List (Str × V)) (t : Value), x = .ref a ∧ H a = some (.ins C dx fs) ∧ TyX K H y t ∧ PySem.W.notFirst K C t = true ∧ sp [x, y] H Q E
theorem op_ownI {op : CmpOp} (hop : ∀ a b, compareOp op a b = richCompare op a b) (F : MtC X.prog X.w X.K X.mg X.base CX0 k C (cmpInfo op).2.1 ps sp) (hr : Room k X.A) : OpR X (compareOp op) (rOwnI X.K C sp E0) := by
  intro pins s σ H x y v u Q I rx ry h
  obtain ⟨a, dx, fs, ty, rfl, ha, hty, hn, q⟩ := h
  obtain ⟨f, fd, hf, M, hb⟩ := F.ex
  cases (show v = Value.ref a from rx)
  obtain ⟨mA, O, _⟩ := ins_get I.hok ha
  obtain ⟨od, J, _⟩ := O.look
  obtain ⟨P, Z, hP, _⟩ := kit_of I ry hty
  obtain ⟨m, hF⟩ := I.fr
  rw [hop]
  refine PySem.W.cmp_K (op := op) (tb := ty) hr.units0 hF I.ok.mod.kin J (Z.ty _ _ I.kIn hP) hn M.at_ M.fn ?_
  refine wpAny_mono (run_fn (us := [.ref a, u]) (vs := [.ref a, y]) hf hr hb .nil pass0 I (.cons rfl (.cons ry .nil)) q) (fun w s' z => ?_) fun _ _ z => z
  obtain ⟨z', H', I', rz, qz⟩ := z
  exact SlX.cmpback rz ⟨z', H', I', rz, qz⟩
/-- x != y by the class's own == alone -/
def rOwnNe (K : PySem.W.Frag) (C : Addr) (sp : Sp) : R2 := fun x y H Q => ∃ (a dx : Addr) (fs : List (Str × V)) (t : Value), x = .ref a ∧ H a = some (.ins C dx fs) ∧ TyX K H y t ∧ PySem.W.notFirst K C t = true ∧ sp [x, y] H (fun z H' => ∃ b, z = .bl b ∧ Q (.bl (!b)) H') E0
theorem op_neI (F : MtC X.prog X.w X.K X.mg X.base CX0 k C "__eq__" ps sp) (hne : PySem.W.findIn X.K (.ref C) "__ne__" = some (some (.builtin "object.__ne__"))) (hm : PySem.W.subIn X.K (.ref C) (.type "object") = some true) (hr : Room (k + 1) X.A) : OpR X (compareOp .NotEq) (rOwnNe X.K C sp) := by
  intro pins s σ H x y v u Q I rx ry h
  obtain ⟨a, dx, fs, ty, rfl, ha, hty, hn, q⟩ := h
  obtain ⟨f, fd, hf, M, hb⟩ := F.ex
  cases (show v = Value.ref a from rx)
  obtain ⟨mA, O, _⟩ := ins_get I.hok ha
  obtain ⟨od, J, _⟩ := O.look
  obtain ⟨P, Z, hP, _⟩ := kit_of I ry hty
  obtain ⟨m, hF⟩ := I.fr
  show wpAny _ _ (richCompare .NotEq (.ref a) u) _ _ _
  refine cmp_ne (tb := ty) (by have := hr.un; omega) hF I.ok.mod.kin J (Z.ty _ _ I.kIn hP) hn hne hm M.at_ M.fn ?_
  have r2 : Vals ([V.ref a, y] ++ []) ([Value.ref a, u] ++ []) := .cons rfl (.cons ry .nil)
  have q' : sp ([V.ref a, y] ++ []) H (fun z H' => ∃ b, z = .bl b ∧ Q (.bl (!b)) H') E0 := q
  have hl : ([Value.ref a, u] ++ []).length = ps.length := by rw [← r2.length]; exact hf.len _ _ _ _ q'
  refine wpAny_call (codeAny_mono (hf.run X.A.in1 X.stack s H ⟨[.ref a, u], []⟩ ([.ref a, u] ++ []) ([.ref a, y] ++ []) _ E0 hr.in1 I.env0.in1 (hb s _ I.kIn hl) r2 q') fun r s' hq => ?_)
  cases r with
  | error e => exact (show False from hq).elim
  | ok fl =>
    cases fl with
    | ret w =>
      obtain ⟨z, H', I', rz, b, eb, qz⟩ := I.after hq
      subst eb
      cases (show w = Value.bool b from rz)
      exact ⟨b, rfl, .bl (!b), H', I', rfl, qz⟩
    | next => exact False.elim hq
    | brk => exact False.elim hq
    | cont => exact False.elim hq
/-! ### repr of data -/
end
end Kb

/-! ### defs that ask that no repr is under way -/
namespace Kb
open PySem PySem.Spec PyProof.Rows L2
structure FnOkG (P : Program) (w : World) (K : PySem.W.Frag) (mg : Str → Option Value) (base : Heap) (CX : CXT) (k : Nat) (f : Addr) (fd : FuncData) (ps : List Str) (sp : Sp) : Prop where
  len : ∀ vs H Q E, sp vs H Q E → vs.length = ps.length
  run : ∀ (A : Around) (outer : List Env) (s : Shared) (H : Hp) (ar : Args) (us : List Value) (vs : List V) (Q : VK) (E : XK), A.guards = some [] → Room k A → Env0 P w K mg base A outer s H → BindsTo s fd ar (ps.zip us) → Vals vs us → sp vs H Q E →
    codeAny (model P w) A (.call (.ref f) ar) (CR CX outer P w H s Q E) s
theorem FnOkG.of {P : Program} {w : World} {K : PySem.W.Frag} {mg : Str → Option Value} {base : Heap} {CX : CXT} {k : Nat} {f : Addr} {fd : FuncData} {ps : List Str} {sp : Sp} (F : FnOk P w K mg base CX k f fd ps sp) : FnOkG P w K mg base CX k f fd ps sp :=
  ⟨F.len, fun A o s H ar us vs Q E _ => F.run A o s H ar us vs Q E⟩
section
variable {CX : CXT} {P : Program} {w : World} {K : PySem.W.Frag} {mg : Str → Option Value} {base : Heap} {k : Nat} {f : Addr} {name qual : Str} {N ps : List Str} {sp : Sp} {st : Stmt} {fd : FuncData}
end
structure FnG (P : Program) (w : World) (K : PySem.W.Frag) (mg : Str → Option Value) (base : Heap) (CX : CXT) (k : Nat) (x : Str) (ps : List Str) (sp : Sp) : Prop where
  ex : ∃ (f : Addr) (fd : FuncData), FnOkG P w K mg base CX k f fd ps sp ∧ mg x = some (.ref f) ∧ PySem.W.keepIn K (.ref f) = true ∧ Binds K fd ps []
section
variable {X : Cx} {CX : CXT} {k : Nat} {x : Str} {ps : List Str} {sp : Sp} {e : Expr} {es : List Expr} {t : TA} {p pos : Pos}
end
/-! ### the end for a law that asks for the guards -/
end Kb

/-! ### own errors, defs that refuse, calls at the slots, clauses with and without a name -/
namespace Kb
open PySem PySem.Spec PyProof.Rows L2 ClX
def calm (sp : Sp) : Sp := fun vs H Q _ => sp vs H Q E0
theorem fn_calm {P : Program} {w : World} {K : PySem.W.Frag} {mg : Str → Option Value} {base : Heap} {k : Nat} {f : Addr} {fd : FuncData} {ps : List Str} {sp : Sp} (F : FnOk P w K mg base (L2.CX P w) k f fd ps sp) : FnOk P w K mg base CX0 k f fd ps (calm sp) := by
  refine ⟨fun vs H Q E h => F.len vs H Q E0 h, fun A outer s H ar us vs Q E hr e0 hb r h => codeAny_mono (F.run A outer s H ar us vs Q E0 hr e0 hb r h) fun rs s' z => ?_⟩
  cases rs with
  | ok fl => cases fl <;> exact z
  | error e =>
    obtain ⟨_, _, _, _, _, _, _, _, _, _, _, _, q⟩ := z
    exact (show False from q).elim
theorem FnC.calm {P : Program} {w : World} {K : PySem.W.Frag} {mg : Str → Option Value} {base : Heap} {k : Nat} {x : Str} {ps : List Str} {sp : Sp} (F : FnC P w K mg base (L2.CX P w) k x ps sp) : FnC P w K mg base CX0 k x ps (Kb.calm sp) :=
  let ⟨f, fd, h, r⟩ := F.ex
  ⟨f, fd, fn_calm h, r⟩
theorem MkC.calm {P : Program} {w : World} {K : PySem.W.Frag} {mg : Str → Option Value} {base : Heap} {k : Nat} {C : Addr} {x : Str} {ps : List Str} {sp : Sp} (F : MkC P w K mg base (L2.CX P w) k C x ps sp) : MkC P w K mg base CX0 k C x ps (Kb.calm sp) :=
  let ⟨f, fd, h, r⟩ := F.ex
  ⟨f, fd, fn_calm h, r⟩
theorem MtC.calm {P : Program} {w : World} {K : PySem.W.Frag} {mg : Str → Option Value} {base : Heap} {k : Nat} {C : Addr} {m : Str} {ps : List Str} {sp : Sp} (F : MtC P w K mg base (L2.CX P w) k C m ps sp) : MtC P w K mg base CX0 k C m ps (Kb.calm sp) :=
  let ⟨f, fd, h, r⟩ := F.ex
  ⟨f, fd, fn_calm h, r⟩

/-! ### calls that may raise, at the slots -/
def tMakeS (C : Addr) (sp : Sp) (E : L2.St → XK) (t : TA) : TE := fun σ H Q => t σ H fun vs H1 => ∀ x dx, H1 x = none → H1 dx = none → dx ≠ x →
  sp (.ref x :: vs) (upd (upd H1 dx (.own x)) x (.ins C dx [])) (fun v H2 => v = .non ∧ Q (.ref x) H2) (E σ)
section
variable {X : Cx} {k : Nat} {x m : Str} {f C : Addr} {fd : FuncData} {ps : List Str} {sp : Sp} {W : WX} {e o : Expr} {es : List Expr} {t : TA} {ta : TE} {p pos apos : Pos}
theorem pe_callSC (F : FnC X.prog X.w X.K X.mg X.base (L2.CX X.prog X.w) k x ps sp) (hr : Room k X.A) (tk : Takes X W) (hg : Gl X x) (ha : PA X (e :: es) t) (hdb : (x == ("__debug__" : Str)) = false := by decide)
    (he : starEach (e :: es) X.env = (false, eval e X.env) :: starEach es X.env := by rfl) (hpl : (backTo pos (starEach es X.env)).any (·.1) = false := by rfl) :
    PE X (.Call (.Name x p) (e :: es) [] pos) (tCallS sp (WE W) t) := by
  obtain ⟨f, fd, h, hm, hk, hb⟩ := F.ex
  exact pe_callS h hr hg hm hk hb (passAt tk) ha hdb he hpl
theorem run_makeS {CX : CXT} {E : XK} {pins : List (Addr × Obj)} {σ : L2.St} {H : Hp} {s : Shared} {Q : VK} {us : List Value} {vs : List V} (M : Mk X.K C f) (F : FnOk X.prog X.w X.K X.mg X.base CX k f fd ps sp) (hr : Room (k + 1) X.A) (hb : Binds X.K fd ps [])
    (hx : ∀ (pins : List (Addr × Obj)) (H' : Hp) (s : Shared) (e : Value) (s' : Shared), Inv X pins σ H' s → CX X.stack H' s E e s' → X.xe e s') (I : Inv X pins σ H s) (r : Vals vs us)
    (h : ∀ x dx, H x = none → H dx = none → dx ≠ x → sp (.ref x :: vs) (upd (upd H dx (.own x)) x (.ins C dx [])) (fun v H2 => v = .non ∧ Q (.ref x) H2) E) :
    wpAny (model X.prog X.w) X.A (call (.ref C) us) (EP X pins σ Q) X.xe s := by
  have hq := h (s.heap.objs.size + 1) s.heap.objs.size (I.hok.fresh (Nat.le_succ _)) (I.hok.fresh (Nat.le_refl _)) (Nat.ne_of_lt (Nat.lt_succ_self _))
  have I2 := Inv.made (C := C) I
  have r2 : Vals (V.ref (s.heap.objs.size + 1) :: vs) (Value.ref (s.heap.objs.size + 1) :: us) := .cons rfl r
  have hl : (Value.ref (s.heap.objs.size + 1) :: us).length = ps.length := by
    have e := r2.length
    rw [F.len _ _ _ _ hq] at e
    exact e.symm
  have b := hb _ (Value.ref (s.heap.objs.size + 1) :: us) I2.kIn (by rw [List.append_nil]; exact hl)
  rw [List.append_nil] at b
  refine wpAny_call (make_map (f := f) I.kIn M.makes M.init (beq_iff_eq.mp M.fn) (codeAny_mono (F.run _ X.stack _ _ ⟨Value.ref (s.heap.objs.size + 1) :: us, []⟩ (Value.ref (s.heap.objs.size + 1) :: us) _ _ E (hr.make C us [])
    (I2.env0.make C us []) b r2 hq) fun r s' hq' => ?_))
  cases r with
  | error e => exact hx pins _ _ e s' I2 hq'
  | ok fl =>
    cases fl with
    | ret u =>
      obtain ⟨v, H', I3, rv, ev, q3⟩ := I2.after hq'
      subst ev
      exact ⟨rv, ⟨V.ref (s.heap.objs.size + 1), H', I3, rfl, q3⟩⟩
    | next => exact False.elim hq'
    | brk => exact False.elim hq'
    | cont => exact False.elim hq'
/-- cls(..), the i-th slot holds the class at C -/
def tMakeL (i : Nat) (C : Addr) (sp : Sp) (E : L2.St → XK) (t : TA) : TE := fun σ H Q => σ[i]? = some (some (.ref C)) ∧ tMakeS C sp E t σ H Q
theorem pe_makeL {i : Nat} {y : Str} (F : MkC X.prog X.w X.K X.mg X.base (L2.CX X.prog X.w) k C y ps sp) (hr : Room (k + 1) X.A) (tk : Takes X W) (hN : X.N[i]? = some x) (hv : Vis X.env.scope x) (ha : PA X (e :: es) t)
    (hdb : (x == ("__debug__" : Str)) = false := by decide) (hcd : (x == ("__classdict__" : Str)) = false := by decide)
    (he : starEach (e :: es) X.env = (false, eval e X.env) :: starEach es X.env := by rfl) (hpl : (backTo pos (starEach es X.env)).any (·.1) = false := by rfl) :
    PE X (.Call (.Name x p) (e :: es) [] pos) (tMakeL i C sp (WE W) t) := by
  obtain ⟨f, fd, h, M, hm, hb⟩ := F.ex
  refine ⟨fun pins s σ H Q I hh => ?_⟩
  obtain ⟨hs, ht⟩ := hh
  refine wpAny_Call_Name_kw (thn ((pe_var (pos := p) hN hv hdb hcd).run pins s σ H (fun v H1 => v = .ref C ∧ H1 = H) I ⟨.ref C, hs, rfl, rfl⟩) fun u s1 ⟨v, H1, I1, r1, q1⟩ => ?_)
  obtain ⟨rfl, rfl⟩ := q1
  cases r1
  refine PySem.W.callWith_K (h₀ := X.base) I.ok.mod.kin M.kp (thn (ha.run pos pins s1 σ _ _ I1 ht) fun us s2 ⟨vs, H2, I2, r, q⟩ => ⟨I2.kIn, ?_⟩) he hpl
  exact run_makeS M h hr hb (fun pins H s e s' I z => passAt tk σ pins H s e s' I z) I2 r q
/-- a classmethod of the class at C, its name x -/
structure CmC (P : Program) (w : World) (K : PySem.W.Frag) (mg : Str → Option Value) (base : Heap) (CX : CXT) (k : Nat) (C : Addr) (x m : Str) (ps : List Str) (sp : Sp) : Prop where
  ex : ∃ (f q : Addr) (fd : FuncData), FnOk P w K mg base CX k f fd ps sp ∧ CRead K C (.type "type") ∧ CMet K C (.type "type") m q f ∧ mg x = some (.ref C) ∧ Binds K fd ps []
theorem CmC.calm {P : Program} {w : World} {K : PySem.W.Frag} {mg : Str → Option Value} {base : Heap} {k : Nat} {C : Addr} {x m : Str} {ps : List Str} {sp : Sp} (F : CmC P w K mg base (L2.CX P w) k C x m ps sp) : CmC P w K mg base CX0 k C x m ps (Kb.calm sp) :=
  let ⟨f, q, fd, h, r⟩ := F.ex
  ⟨f, q, fd, fn_calm h, r⟩
def tCm (C : Addr) (sp : Sp) (E : L2.St → XK) (t : TA) : TE := fun σ H Q => t σ H fun vs H2 => sp (.ref C :: vs) H2 Q (E σ)
theorem pe_cmX {CX : CXT} {E : L2.St → XK} {pl : Sem Bool} (F : CmC X.prog X.w X.K X.mg X.base CX k C x m ps sp) (hr : Room k X.A) (hx : ∀ σ, PassesAt CX X σ (E σ)) (hg : Gl X x) (ha : PA X (e :: es) t) (hdb : (x == ("__debug__" : Str)) = false := by decide)
    (hst : starEach (e :: es) X.env = (false, eval e X.env) :: starEach es X.env := by rfl) (hpl : (backTo pos (starEach es X.env)).any (·.1) = false := by rfl)
    (ht : eval (.Call (.Attribute (.Name x p) m apos) (e :: es) [] pos) X.env = (do
      let ov ← eval (.Name x p) X.env
      standAt apos.atName
      let (f, first) ← holding [ov] (getMethod ov m pl)
      callWith pos f first (backTo pos (starEach (e :: es) X.env)) (backToKw pos (keywordEach [] X.env))) := by rfl) :
    PE X (.Call (.Attribute (.Name x p) m apos) (e :: es) [] pos) (tCm C sp E t) := by
  obtain ⟨f, q, fd, h, r, c, hm, hb⟩ := F.ex
  refine ⟨fun pins s σ H Q I hh => ?_⟩
  refine PySem.W.methodCall_KW (pl := pl) (ld_glob I hg hm ?_ hdb) ht
  refine getmethcm_ok I r c fun s2 I2 => ?_
  refine callwith_cm I2 (base_none I (Nat.le_refl _)) c.fi (thn (ha.run pos _ s2 σ H _ I2 hh) fun us s3 ⟨vs, H2, I3, rv, q2⟩ => ⟨⟨pin_at I3, I3.kIn⟩, ?_⟩) hst hpl
  have hl : (Value.ref C :: us).length = ps.length := by
    rw [← h.len _ _ _ _ q2]
    show us.length + 1 = vs.length + 1
    rw [rv.length]
  have b := hb s3 (.ref C :: us) I3.kIn (by rw [List.append_nil]; exact hl)
  rw [List.append_nil] at b
  have z : wpAny (model X.prog X.w) X.A (call (.ref s.heap.objs.size) us) (EP X ((s.heap.objs.size, PySem.W.methodObj (.ref f) (.ref C)) :: pins) σ Q) X.xe s3 := by
   refine wpAny_call (PySem.W.method_call (pin_at I3) (codeAny_mono (h.run X.A X.stack s3 H2 ⟨.ref C :: us, []⟩ (.ref C :: us) (.ref C :: vs) Q (E σ) hr I3.env0 b (.cons rfl rv) q2) fun r s' hq => ?_))
   cases r with
   | error e => exact hx σ _ H2 s3 e s' I3 hq
   | ok fl =>
    cases fl with
    | ret u => exact I3.after hq
    | next => exact False.elim hq
    | brk => exact False.elim hq
    | cont => exact False.elim hq
  exact thn z fun _ _ y => unpinE y
theorem pe_cmC {pl : Sem Bool} (F : CmC X.prog X.w X.K X.mg X.base CX0 k C x m ps sp) (hr : Room k X.A) (hg : Gl X x) (ha : PA X (e :: es) t) (hdb : (x == ("__debug__" : Str)) = false := by decide)
    (hst : starEach (e :: es) X.env = (false, eval e X.env) :: starEach es X.env := by rfl) (hpl : (backTo pos (starEach es X.env)).any (·.1) = false := by rfl)
    (ht : eval (.Call (.Attribute (.Name x p) m apos) (e :: es) [] pos) X.env = (do
      let ov ← eval (.Name x p) X.env
      standAt apos.atName
      let (f, first) ← holding [ov] (getMethod ov m pl)
      callWith pos f first (backTo pos (starEach (e :: es) X.env)) (backToKw pos (keywordEach [] X.env))) := by rfl) :
    PE X (.Call (.Attribute (.Name x p) m apos) (e :: es) [] pos) (tCm C sp (fun _ => E0) t) := pe_cmX F hr (fun _ _ _ _ _ _ _ z => (show False from z).elim) hg ha hdb hst hpl ht
/-- a property of the class at C -/
structure PrC (P : Program) (w : World) (K : PySem.W.Frag) (mg : Str → Option Value) (base : Heap) (k : Nat) (C : Addr) (m : Str) (sp : Sp) : Prop where
  ex : ∃ (f q : Addr) (fd : FuncData), FnOk P w K mg base CX0 k f fd ["self"] sp ∧ Cls K C ∧ PropOf K C m q f ∧ Binds K fd ["self"] []
theorem pe_propC (F : PrC X.prog X.w X.K X.mg X.base k C m sp) (hr : Room (k + 1) X.A) (he : PE X e ta) (hab : attributeBase e m X.env (eval e X.env) = eval e X.env := by rfl) : PE X (.Attribute e m pos) (tProp C sp [] E0 ta) := by
  obtain ⟨f, q, fd, h, c, hp, hb⟩ := F.ex
  exact pe_prop he c hp h hr hb .nil (fun _ _ _ _ _ _ _ z => (show False from z).elim) hab
end
end Kb

namespace Kb
open PySem PySem.Spec PyProof.Rows L2 ClX
/-! ### an own error that has no fields -/
/-- the class whose own initialiser is called by its name -/
structure UeC (K : PySem.W.Frag) (U : Addr) : Prop where
  rd : CRead K U (.type "type")
  at_ : PySem.W.findCls K (.ref U) (.type "type") "__init__" = some (.val (.builtin "ValueError.__init__"))
section
variable {X : Cx} {o e : Expr} {es : List Expr} {ta : TA} {x : Str} {U : Addr} {p p1 p2 pos : Pos}
theorem pe_uinit {pl : Sem Bool} (hU : UeC X.K U) (hg : Gl X x) (hm : X.mg x = some (.ref U)) (ha : PA X (e :: es) ta) (hdb : (x == ("__debug__" : Str)) = false := by decide)
    (hc : eval (.Call (.Attribute (.Name x p1) "__init__" p2) (e :: es) [] pos) X.env = (do
      let ov ← eval (.Name x p1) X.env
      standAt p2.atName
      let (f, first) ← holding [ov] (getMethod ov "__init__" pl)
      callWith pos f first (backTo pos (starEach (e :: es) X.env)) (backToKw pos (keywordEach [] X.env))) := by rfl)
    (he : starEach (e :: es) X.env = (false, eval e X.env) :: starEach es X.env := by rfl) (hpl : (backTo pos (starEach es X.env)).any (·.1) = false := by rfl) :
    PE X (.Call (.Attribute (.Name x p1) "__init__" p2) (e :: es) [] pos) (tVeI X.K ta) := by
  refine ⟨fun pins s σ H Q I h => ?_⟩
  refine PySem.W.methodCall_KW (ld_glob I hg hm ?_ hdb) hc
  refine PySem.W.method_cls I.kIn hU.rd.ga (PySem.W.cls_value I.kIn hU.rd.rd hU.at_ rfl ?_)
  show wpAny _ _ (callWith pos (Value.builtin "ValueError.__init__") [] (backTo pos (starEach (e :: es) X.env)) []) _ _ _
  refine PyProof.Rows.callWith_method1 (thn (ha.run pos pins _ σ H _ (I.tok _) h) fun us s1 ⟨vs, H1, I1, r1, a, C, ws, ev, hl, T, ea, q⟩ => ?_) he hpl
  subst ev
  cases r1 with
  | @cons _ u0 _ ur ra rw' =>
    obtain rfl : u0 = Value.ref a := ra
    have hlen : ur.length ≤ sizeLine := by
      rw [← Paired.length rw', sizeLine_eq]
      omega
    exact oinit_ok T I1 ea hlen fun s' J => ⟨.non, H1, J, rfl, q⟩
end
def sp_err0 (C : Addr) : Sp := fun vs H Q _ => ∃ a, vs = [.ref a] ∧ H a = some (exo a C none) ∧ Q .non H
theorem mk_endN {X : Cx} {pins : List (Addr × Obj)} {σ : L2.St} {H1 H2 : Hp} {hp hp2 h2 : Heap} {g1 g2 : Array GenState} {d1 d2 : Drawn} {t1 t2 : Nat} {os1 os2 : OsState} {a C : Addr} (I1 : Inv X pins σ H1 ⟨hp, g1, d1, t1, os1⟩)
    (ha : hp.objs.size ≤ a) (k : ∀ b o, hp.get? b = some o → hp2.get? b = some o) (un : Un (frs X.stack) [] (upd H1 a (exo a C none)) H2 hp2 h2) (hok : HOk X.prog X.w H2 h2) (ho : os2 = os1) (hb : AllBare g2)
    (ea : H2 a = some (exo a C none)) :
    ∃ (t0 : Addr) (G : Heap), Inv X pins σ (del H2 a) ⟨G, g2, d2, t2, os2⟩ ∧ (∀ b o, G.get? b = some o → h2.get? b = some o) ∧ G.get? a = none ∧
      h2.get? a = some ({ cls := .ref C, dict := none, data := .fields #[.ref t0, .none, .none, .none, .bool false, .none] } : Obj) ∧ (del H2 a) a = none := by
  obtain ⟨t0, hoe⟩ := exo_at hok ea
  have hn : H1 a = none := I1.hok.fresh ha
  obtain ⟨G, g1', g2'⟩ := restrict h2 fun b => decide (b ≠ a)
  have gk : ∀ b, b ≠ a → G.get? b = h2.get? b := fun b hb => g1' b (decide_eq_true hb)
  have ge : G.get? a = none := g2' a (by simp)
  have nha : ∀ {b : Addr} {o : Obj}, hp.get? b = some o → b ≠ a := fun {b o} z => Nat.ne_of_lt (Nat.lt_of_lt_of_le (Heap.lt_size z) ha)
  have up : ∀ {b : Addr}, b ≠ a → H1 b = none → upd H1 a (exo a C none) b = none := fun {b} hb n => by rw [upd_ne hb]; exact n
  have U : Un (frs X.stack) [] H1 (del H2 a) hp G := {
    keep := fun b o z n hf hx => by
      rw [gk b (nha z)]
      exact un.keep b o (k b o z) (up (nha z) n) hf hx
    slot := fun b o z n hf hx => by
      rw [gk b (nha z)]
      exact un.slot b o (k b o z) (up (nha z) n) hf hx
    free := fun b o z n hx => by
      rw [del_ne (nha z)]
      exact un.free b o (k b o z) (up (nha z) n) hx
    there := fun b o z hx => by
      rw [gk b (nha z)]
      exact un.there b o (k b o z) hx
    tups := fun b xs z => by
      rw [del_ne (ne_of_none z hn)]
      exact un.tups b xs (by rw [upd_ne (ne_of_none z hn)]; exact z)
    frzs := fun b o v z => by
      rw [del_ne (ne_of_none z hn)]
      exact un.frzs b o v (by rw [upd_ne (ne_of_none z hn)]; exact z)
    tbls := fun b ps z => by
      rw [del_ne (ne_of_none z hn)]
      exact un.tbls b ps (by rw [upd_ne (ne_of_none z hn)]; exact z) }
  have hok3 : HOk X.prog X.w (del H2 a) G := fun b o z => by
    have hba : b ≠ a := fun e => by
      rw [e, del_same] at z
      cases z
    rw [del_ne hba] at z
    have noa : ∀ {c : Addr}, H2 c = some (.own b) → c ≠ a := fun {c} hc => at_ne ea hc exo_own
    exact (hok b o z).stay (fun c v hc y => by
        have hca : c ≠ a := by
          rcases hc with hc | hc
          · rw [hc]
            exact hba
          · exact noa hc
        rw [gk c hca]
        exact y)
      (fun c hc => by rw [del_ne (noa hc)]; exact hc) (fun c xs hc => by rw [del_ne (at_ne ea hc exo_tup)]; exact hc)
  have J : Inv X pins σ (del H2 a) ⟨G, g2, d2, t2, os2⟩ := I1.call' (ch := []) ho U hok3 hb (fun b z => absurd z (by simp))
  refine ⟨t0, G, J, fun b o z => ?_, ge, hoe, del_same⟩
  by_cases hba : b = a
  · rw [hba, ge] at z
    cases z
  · exact (gk b hba).symm.trans z
/-- an own error without fields, made by its name -/
structure ErC (P : Program) (w : World) (K : PySem.W.Frag) (mg : Str → Option Value) (base : Heap) (x : Str) (C : Addr) : Prop where
  ex : ∃ (f : Addr) (fd : FuncData), FnOk P w K mg base CX0 2 f fd ["self"] (sp_err0 C) ∧ OexC K C ∧ PySem.W.findIn K (.ref C) "__init__" = some (some (.ref f)) ∧ PySem.W.typeIn K (.ref f) = some (.type "function") ∧ mg x = some (.ref C) ∧ Binds K fd ["self"] []
theorem pmk_err0 {X : Cx} {C : Addr} {x : Str} {p pos : Pos} (F : ErC X.prog X.w X.K X.mg X.base x C) (hr : Room 3 X.A) (hg : Gl X x) (hdb : (x == ("__debug__" : Str)) = false := by decide) :
    PMk X (.Call (.Name x p) [] [] pos) (fun _ H Q => Q (.ref C) none H) := by
  obtain ⟨f, fd, F1, T, iC, tI, hm, hb⟩ := F.ex
  intro pins s σ H Q I h
  obtain ⟨nm, q, N, bs, bm, sn, sub, ab, col, dd, k0, k1, k2, k3, k5, hC, hbm⟩ := T.cls
  refine wpAny_Call_Name_kw (ld_glob I hg hm ?_ hdb)
  refine PySem.W.callWith_K0 I.kIn T.kC ?_
  show wpAny _ _ (call (.ref C) []) _ _ _
  obtain ⟨hp, g, dr, tk, os⟩ := s
  have hsz : hp.objs.size ≤ hp.objs.size + 1 := Nat.le_succ _
  have hn : H (hp.objs.size + 1) = none := I.hok.fresh hsz
  have kk : ∀ b o, hp.get? b = some o → ((hp.push (PySem.W.kdv_tup [])).push (PySem.HandSPX.excO C hp.objs.size)).get? b = some o := fun b o e => Heap.get?_push_of_some _ (Heap.get?_push_of_some _ e)
  have hget : ((hp.push (PySem.W.kdv_tup [])).push (PySem.HandSPX.excO C hp.objs.size)).get? (hp.objs.size + 1) = some (PySem.HandSPX.excO C hp.objs.size) := by heap_get
  have I2 : Inv X pins σ (upd H (hp.objs.size + 1) (exo (hp.objs.size + 1) C none)) ⟨(hp.push (PySem.W.kdv_tup [])).push (PySem.HandSPX.excO C hp.objs.size), g, dr, tk, os⟩ :=
    I.laid (t' := tk) (a := hp.objs.size + 1) (o := exo (hp.objs.size + 1) C none) (h' := (hp.push (PySem.W.kdv_tup [])).push (PySem.HandSPX.excO C hp.objs.size)) kk hsz (exo_ok hget)
  have r2 : Vals [V.ref (hp.objs.size + 1)] [Value.ref (hp.objs.size + 1)] := .cons rfl .nil
  have b := hb _ [Value.ref (hp.objs.size + 1)] I2.kIn rfl
  have hq : sp_err0 C [V.ref (hp.objs.size + 1)] (upd H (hp.objs.size + 1) (exo (hp.objs.size + 1) C none)) (fun v H2 => v = .non ∧ H2 = upd H (hp.objs.size + 1) (exo (hp.objs.size + 1) C none)) E0 := ⟨_, rfl, upd_same, rfl, rfl⟩
  refine wpAny_call (PySem.HandSPX.call_own _root_.PySem.F.excBase_ValueError (fun Y => PySem.HandSPX.refsVE_contains Y bm hbm) (I.kIn _ _ hC) (PySem.W.looks_findIn I.kIn iC) (fun self => PySem.W.bind_fn I.kIn self tI) (Nat.zero_le _)
    (codeAny_mono (F1.run _ X.stack _ _ ⟨[Value.ref (hp.objs.size + 1)], []⟩ [Value.ref (hp.objs.size + 1)] _ _ E0 (hr.make C [] []) (I2.env0.make C [] []) b r2 hq) fun r s' hq' => ?_))
  cases r with
  | error er => exact (show False from hq').elim
  | ok fl =>
    cases fl with
    | ret u =>
      obtain ⟨v, H2, os2, bare2, un2, hok2, rv, ev, eH⟩ := hq'
      subst ev
      subst eH
      obtain ⟨h2, g2, d2, t2, os'⟩ := s'
      have ed : del (upd H (hp.objs.size + 1) (exo (hp.objs.size + 1) C none)) (hp.objs.size + 1) = H := by
        funext b
        by_cases hb : b = hp.objs.size + 1
        · rw [hb, del_same, hn]
        · rw [del_ne hb, upd_ne hb]
      obtain ⟨t0, G, J, kG, ge, hoe, na⟩ := mk_endN (d2 := d2) (t2 := t2) I hsz kk un2 hok2 os2 bare2 upd_same
      rw [ed] at J na
      exact ⟨rv, _, _, _, ⟨G, g2, d2, t2, os'⟩, _, .ref C, none, rfl, J, kG, ge, hoe, ⟨rfl, rfl⟩, rfl, rfl, na, rfl, bare2, raises_own T.exC T.tyC, h⟩
    | next => exact False.elim hq'
    | brk => exact False.elim hq'
    | cont => exact False.elim hq'
theorem ps_raise0 {X : Cx} {W : WX} {C : Addr} {x : Str} {p pos pos' : Pos} (F : ErC X.prog X.w X.K X.mg X.base x C) (hr : Room 3 X.A) (hc : X.calm = true) (tk : Takes X W) (hg : Gl X x) (hdb : (x == ("__debug__" : Str)) = false := by decide) :
    PS X (.Raise (some (.Call (.Name x p) [] [] pos)) none pos') (fun _ σ H => W (.ref C) none σ H) := ps_raise hc tk (pmk_err0 F hr hg hdb)
/-! ### clauses, with a name or without -/
inductive Cl where
  | pl (c : Value) (ts : Addr → Value → Option Addr → TS)
  | nm (c : Value) (i : Nat) (ts : Addr → Value → Option Addr → TS)
inductive ClOk (X : Cx) : List ExceptHandler → List Cl → Prop
  | nil : ClOk X [] []
  | pl {x : Str} {c : Value} {ts : Addr → Value → Option Addr → TS} {b₀ : Stmt} {suite : List Stmt} {np pos' : Pos} {hds : List ExceptHandler} {l : List Cl} (hc : Names X x c)
      (hsu : ∀ (a : Addr) (oe : Obj) (cls : Value) (d : Option Addr) (pn : List (Addr × Obj)), Zc cls d oe → (∃ vs, oe.data = .fields vs) → PSs (X.suite a ((a, oe) :: pn)) (b₀ :: suite) (ts a cls d)) (r : ClOk X hds l) :
      ClOk X (.ExceptHandler (some (.Name x np)) none (b₀ :: suite) pos' :: hds) (.pl c ts :: l)
  | nm {x n : Str} {i : Nat} {c : Value} {ts : Addr → Value → Option Addr → TS} {b₀ : Stmt} {suite : List Stmt} {np pos' : Pos} {hds : List ExceptHandler} {l : List Cl} (hN : X.N.Nodup) (hi : X.N[i]? = some n) (hln : X.env.kindOf n = some .local) (hc : Names X x c)
      (hsu : ∀ (a : Addr) (oe : Obj) (cls : Value) (d : Option Addr) (pn : List (Addr × Obj)), Zc cls d oe → (∃ vs, oe.data = .fields vs) → PSs (X.suite a ((a, oe) :: pn)) (b₀ :: suite) (ts a cls d)) (r : ClOk X hds l) :
      ClOk X (.ExceptHandler (some (.Name x np)) (some n) (b₀ :: suite) pos' :: hds) (.nm c i ts :: l)
section
variable {X : Cx} {body : List Stmt} {h₀ : ExceptHandler} {hds : List ExceptHandler} {l : List Cl} {pos : Pos} {tb : WX → TS} {Wout : WX}
end
/-! ### isinstance of a caught error and several classes -/
end Kb
namespace Kb
open PySem PySem.Spec PyProof.Rows L2 ClX
theorem ErC.nm {P : Program} {w : World} {K : PySem.W.Frag} {mg : Str → Option Value} {base : Heap} {x : Str} {C : Addr} (F : ErC P w K mg base x C) : mg x = some (.ref C) := let ⟨_, _, _, _, _, _, h, _⟩ := F.ex; h
structure NmC (mg : Str → Option Value) (x : Str) (C : Addr) : Prop where
  nm : mg x = some (.ref C)
end Kb
namespace Kb
open PySem PySem.Spec PyProof.Rows L2 ClX
theorem kit_ownF {K : PySem.W.Frag} {t c : Addr} (hr : PySem.W.subIn K (.ref t) (.ref t) = some true) (hd : PySem.W.hasDictIn K c = true) (ht : PySem.W.typeIn K (.ref c) = some (.type "type")) (h : PySem.W.subIn K (.ref t) (.ref c) = some false) : PySem.W.kitOne K (.ref t) (.ref c) = some false := by
  unfold PySem.W.kitOne
  by_cases e : t = c
  · subst e; rw [hr] at h; cases h
  · obtain ⟨cd, hc, _⟩ := PySem.W.any_some hd
    have e2 : ((PySem.W.clsIn K c).isSome && PySem.W.typeIn K (.ref c) == some (.type "type")) = true := by rw [hc, ht] <;> rfl
    rw [if_neg (fun z => e (Value.ref.inj (beq_iff_eq.mp z)))]
    show (if ((PySem.W.clsIn K c).isSome && PySem.W.typeIn K (.ref c) == some (.type "type")) = true then PySem.W.subIn K (.ref t) (.ref c) else none) = some false
    rw [if_pos e2]
    exact h
end Kb

namespace PySem.W
open PySem PySem.Calls PyProof.Rows Builtin
end PySem.W
namespace Kb
open PySem PySem.Spec PyProof.Rows L2 ClX
section
variable {X : Cx} {k : Nat} {C : Addr} {ps : List Str} {sp : Sp}
end
/-! ### an own instance, called -/
section
variable {X : Cx} {CX : CXT} {k i : Nat} {x : Str} {C : Addr} {ps : List Str} {sp : Sp} {E : L2.St → XK} {W : WX} {e : Expr} {es : List Expr} {t : TA} {p pos : Pos}
end
/-! ### an own class made by keywords alone -/
structure MkKC (P : Program) (w : World) (K : PySem.W.Frag) (mg : Str → Option Value) (base : Heap) (k : Nat) (C : Addr) (x : Str) (ps ks : List Str) (gV : List V → List V → List V) (sp : Sp) : Prop where
  ex : ∃ (f : Addr) (fd : FuncData) (g : List Value → List Value → List Value), FnOk P w K mg base CX0 k f fd ps sp ∧ Mk K C f ∧ mg x = some (.ref C) ∧ KBn K fd ps 1 ks g gV
end Kb

/-! ### shown data of ints -/
namespace Kb
open PySem PySem.Spec PyProof.Rows L2 ClX
theorem shown_int {i : Int} (h : i.natAbs < 2 ^ 1000) : (PyData.shown (.int i)).length ≤ 1001 := by
  show (Str.ofString (toString i)).length ≤ 1001
  rw [PySem.ofString_length]
  exact int_text_length_le (by decide) (PySem.Flt.log2_lt_of (by decide) h)
def showsI (i : Int) : Prop := i.natAbs < 2 ^ 1000
theorem weight_int {i : Int} (h : showsI i) : (PyData.int i).weight ≤ 1001 := by
  have := PySem.Flt.log2_lt_of (show 0 < 1000 by decide) h
  show (if i == 0 then 0 else i.natAbs.log2 + 1) ≤ 1001
  split <;> omega
theorem show_int {i : Int} (h : showsI i) : (PyData.int i).showable = true ∧ (PyData.int i).leavesShort 1001 = true := by
  refine ⟨decide_eq_true ?_, decide_eq_true (shown_int h)⟩
  exact Nat.lt_of_lt_of_le (PySem.Flt.log2_lt_of (by decide) h) (by decide)
structure ShOk (d : PyData) : Prop where
  a : d.showable = true
  b : d.hasDict = false
  c : d.depth ≤ 100
  d : d.shown.length ≤ sizeLine
theorem shOk {d : PyData} (h1 : d.showable = true) (h2 : d.hasDict = false) (h3 : d.depth ≤ 100) (h4 : d.leavesShort 1001 = true) (h5 : 1003 * d.weight + 1001 ≤ sizeLine) : ShOk d := ⟨h1, h2, h3, Nat.le_trans (PyData.shown_le 1001 (by decide) d h4) h5⟩
end Kb

/-! ### own operators, classmethods without arguments -/
namespace PySem.W
open PySem PySem.Calls PyProof.Rows
section
variable {prog : Program} {w : World} {M : Model} {A : Around} {E : Value → Shared → Prop} {s : Shared} {K : Frag} {x C D L f : Addr} {h₀ : Heap} {m : Str → Option Value} {ox : Obj} {od : Option Obj} {nm : String}
def plainMro (K : Frag) (C : Addr) : Bool := (clsIn K C).any fun cd => cd.mro == [.ref C, .type "object"]
end
end PySem.W
namespace Kb
open PySem PySem.Spec PyProof.Rows L2 ClX
/-- the class at C carries the operator -/
structure OpC (K : PySem.W.Frag) (C : Addr) (op : Operator) : Prop where
  sf : PySem.W.selfFirst K C = true
  r : PySem.W.findIn K (.ref C) (dunderR op.info.2) = some none
/-- the class at D doesn't -/
structure OpNo (K : PySem.W.Frag) (D : Addr) (op : Operator) : Prop where
  pm : PySem.W.plainMro K D = true
  h1 : PySem.W.findIn K (.ref D) (PySem.dunder op.info.2) = some none
  h2 : PySem.W.findIn K (.ref D) (dunderR op.info.2) = some none
  h3 : PySem.W.findIn K (.type "object") (PySem.dunder op.info.2) = some none
  h4 : PySem.W.findIn K (.type "object") (dunderR op.info.2) = some none
structure OpInt (K : PySem.W.Frag) (C : Addr) (op : Operator) : Prop where
  h1 : ∃ fo, PySem.W.findIn K (.type "int") (PySem.dunder op.info.2) = some fo
  h2 : ∃ ro, PySem.W.findIn K (.type "int") (dunderR op.info.2) = some ro
  sb : PySem.W.subIn K (.type "int") (.ref C) = some false
structure OpIn (K : PySem.W.Frag) (C : Addr) (op : Operator) : Prop where
  pm : PySem.W.plainMro K C = true
  i1 : PySem.W.findIn K (.ref C) (dunderI op.info.2) = some none
  i2 : PySem.W.findIn K (.type "object") (dunderI op.info.2) = some none
def rBinC (C : Addr) (sp : Sp) : R2 := fun x y H Q => ∃ (a dx : Addr) (fs : List (Str × V)) (b dy : Addr) (gs : List (Str × V)), x = .ref a ∧ y = .ref b ∧ H a = some (.ins C dx fs) ∧ H b = some (.ins C dy gs) ∧ sp [x, y] H Q E0
section
variable {X : Cx} {k : Nat} {C D : Addr} {ps : List Str} {sp : Sp} {op : Operator}
theorem run_bin {pins : List (Addr × Obj)} {σ : L2.St} {H : Hp} {s : Shared} {a : Addr} {y : V} {u : Value} {f : Addr} {fd : FuncData} {Q : VK} (I : Inv X pins σ H s) (hf : FnOk X.prog X.w X.K X.mg X.base CX0 k f fd ps sp) (hr : Room k X.A) (hb : Binds X.K fd ps []) (ry : RelV y u) (q : sp [.ref a, y] H Q E0) :
    wpAny (model X.prog X.w) X.A (call (.ref f) [.ref a, u]) (PySem.W.CmpBack (EP X pins σ Q)) X.xe s := by
  refine wpAny_mono (run_fn (us := [.ref a, u]) (vs := [.ref a, y]) hf hr hb .nil pass0 I (.cons rfl (.cons ry .nil)) q) (fun w s' z => ?_) fun _ _ z => z
  obtain ⟨z', H', I', rz, qz⟩ := z
  exact SlX.cmpback rz ⟨z', H', I', rz, qz⟩
theorem op_binC {m : Str} (F : MtC X.prog X.w X.K X.mg X.base CX0 k C m ps sp) (c : OpC X.K C op) (hr : Room k X.A) (hm : PySem.dunder op.info.2 = m := by decide +kernel) : OpR X (binaryOp op) (rBinC C sp) := by
  subst hm
  intro pins s σ H x y v u Q I rx ry h
  obtain ⟨a, dx, fs, b, dy, gs, rfl, rfl, ha, hb', q⟩ := h
  obtain ⟨f, fd, hf, M, hb⟩ := F.ex
  cases (show v = Value.ref a from rx)
  cases (show u = Value.ref b from ry)
  obtain ⟨_, O, _⟩ := ins_get I.hok ha
  obtain ⟨od, J, _⟩ := O.look
  obtain ⟨_, O', _⟩ := ins_get I.hok hb'
  obtain ⟨od', J', _⟩ := O'.look
  obtain ⟨m, hF⟩ := I.fr
  exact PySem.W.binop_K hF I.ok.mod.kin J J'.type c.sf M.at_ M.fn (run_bin (y := .ref b) I hf hr hb (by exact rfl) q)
end
/-! ### C.m(), m a classmethod -/
section
variable {X : Cx} {k : Nat} {C : Addr} {x m : Str} {ps : List Str} {sp : Sp} {W : WX} {p pos apos : Pos}
theorem pe_cm0X {CX : CXT} {E : L2.St → XK} {pl : Sem Bool} (F : CmC X.prog X.w X.K X.mg X.base CX k C x m ps sp) (hr : Room k X.A) (hx : ∀ σ, PassesAt CX X σ (E σ)) (hg : Gl X x) (hdb : (x == ("__debug__" : Str)) = false := by decide)
    (ht : eval (.Call (.Attribute (.Name x p) m apos) [] [] pos) X.env = (do
      let ov ← eval (.Name x p) X.env
      standAt apos.atName
      let (f, first) ← holding [ov] (getMethod ov m pl)
      callWith pos f first (backTo pos (starEach [] X.env)) (backToKw pos (keywordEach [] X.env))) := by rfl) :
    PE X (.Call (.Attribute (.Name x p) m apos) [] [] pos) (tCm C sp E tNil) := by
  obtain ⟨f, q, fd, h, r, c, hm, hb⟩ := F.ex
  refine ⟨fun pins s σ H Q I hh => ?_⟩
  refine PySem.W.methodCall_KW (pl := pl) (ld_glob I hg hm ?_ hdb) ht
  refine getmethcm_ok I r c fun s2 I2 => ?_
  refine PySem.W.callWith_M0 (K := X.K) (first := []) ⟨pin_at I2, I2.kIn⟩ c.fi ?_
  have hl : ([Value.ref C] : List Value).length = ps.length := by
    rw [← h.len _ _ _ _ hh]; rfl
  have b := hb s2 [.ref C] I2.kIn (by rw [List.append_nil]; exact hl)
  rw [List.append_nil] at b
  have z : wpAny (model X.prog X.w) X.A (call (.ref s.heap.objs.size) []) (EP X ((s.heap.objs.size, PySem.W.methodObj (.ref f) (.ref C)) :: pins) σ Q) X.xe s2 := by
   refine wpAny_call (PySem.W.method_call (pin_at I2) (codeAny_mono (h.run X.A X.stack s2 H ⟨[.ref C], []⟩ [.ref C] [.ref C] Q (E σ) hr I2.env0 b (.cons rfl .nil) hh) fun r s' hq => ?_))
   cases r with
   | error e => exact hx σ _ H s2 e s' I2 hq
   | ok fl =>
    cases fl with
    | ret u => exact I2.after hq
    | next => exact False.elim hq
    | brk => exact False.elim hq
    | cont => exact False.elim hq
  exact thn z fun _ _ y => unpinE y
theorem pe_cm0C {pl : Sem Bool} (F : CmC X.prog X.w X.K X.mg X.base CX0 k C x m ps sp) (hr : Room k X.A) (hg : Gl X x) (hdb : (x == ("__debug__" : Str)) = false := by decide)
    (ht : eval (.Call (.Attribute (.Name x p) m apos) [] [] pos) X.env = (do
      let ov ← eval (.Name x p) X.env
      standAt apos.atName
      let (f, first) ← holding [ov] (getMethod ov m pl)
      callWith pos f first (backTo pos (starEach [] X.env)) (backToKw pos (keywordEach [] X.env))) := by rfl) :
    PE X (.Call (.Attribute (.Name x p) m apos) [] [] pos) (tCm C sp (fun _ => E0) tNil) := pe_cm0X F hr (fun _ _ _ _ _ _ _ z => (show False from z).elim) hg hdb ht
end
end Kb

/-! ### new objects at an abstract heap, repr of data, what stands in the heap -/
namespace Kb
open PySem PySem.Spec PyProof.Rows L2 ClX
theorem isIte {c A B : Prop} {i : Decidable c} (h : @ite Prop c i A B) : @ite Prop c i A B := h
theorem iteNSI {c A B : Prop} {i : Decidable c} {j : Decidable ((!(@decide c i)) = true)} (hc : c) (h : B) : @ite Prop ((!(@decide c i)) = true) j A B := by
  rw [if_neg (by simp [hc])]; exact h
theorem iteTI {A B : Prop} {j : Decidable (true = true)} (h : A) : @ite Prop (true = true) j A B := by
  rw [if_pos rfl]; exact h
theorem iteFI {A B : Prop} {j : Decidable (false = true)} (h : B) : @ite Prop (false = true) j A B := by
  rw [if_neg Bool.false_ne_true]; exact h
/-- a new object o: whatever heap holds it and all that stood -/
def New (H : Hp) (o : HO) (Q : VK) : Prop := ∀ p H', H p = none → Same H H' → H' p = some o → Q (.ref p) H'
theorem sm_new {H : Hp} {p : Addr} {o : HO} (h : H p = none) : Same H (upd H p o) := fun a u e => by rw [upd_ne (ne_of_none e h)]; exact e
theorem New.at {H : Hp} {o : HO} {Q : VK} (h : New H o Q) {p : Addr} (hp : H p = none) : Q (.ref p) (upd H p o) := h p _ hp (sm_new hp) upd_same
def tTupN (t : TA) : TE := fun σ H Q => t σ H fun xs H1 => xs.length ≤ 1000000 ∧ New H1 (.tup xs) Q
def tLstN (t : TA) : TE := fun σ H Q => t σ H fun xs H1 => xs.length ≤ 1000000 ∧ New H1 (.lst xs) Q
section
variable {X : Cx} {es : List Expr} {t : TA} {pos : Pos}
theorem pe_tupN {x1} (h : PA X es t) : PE X (.Tuple es x1 pos) (tTupN t) := by
  refine ⟨fun pins s σ H Q I hq => ?_⟩
  refine wpAny_Tuple_spliced (thn (h.run pos pins s σ H _ I hq) fun us s1 ⟨xs, H1, I1, r, z, q⟩ => ⟨by rw [← r.length]; exact szl z, ?_⟩)
  have hf : H1 s1.heap.objs.size = none := I1.hok.fresh (Nat.le_refl _)
  refine ⟨.ref s1.heap.objs.size, upd H1 s1.heap.objs.size (.tup xs), I1.laid (t' := s1.toks) (fun b u e => Heap.get?_push_of_some _ e) (Nat.le_refl _) ?_, rfl, q.at hf⟩
  exact ⟨szl z, us, r, ⟨_, Heap.get?_push_size _ rfl, rfl, _, rfl⟩⟩
theorem pe_lstN (h : PA X es t) : PE X (.List es pos) (tLstN t) := by
  refine ⟨fun pins s σ H Q I hq => ?_⟩
  refine wpAny_List_spliced (thn (h.run pos pins s σ H _ I hq) fun us s1 ⟨xs, H1, I1, r, z, q⟩ => ⟨by rw [← r.length]; exact szl z, ?_⟩)
  have hf : H1 s1.heap.objs.size = none := I1.hok.fresh (Nat.le_refl _)
  refine ⟨.ref s1.heap.objs.size, upd H1 s1.heap.objs.size (.lst xs), I1.laid (t' := s1.toks) (fun b u e => Heap.get?_push_of_some _ e) (Nat.le_refl _) ?_, rfl, q.at hf⟩
  exact ⟨szl z, us, 0, r, Heap.get?_push_size _ rfl⟩
end
/-! ### repr -/
structure Shw (d : PyData) (n w : Nat) : Prop where
  a : d.showable = true
  b : d.hasDict = false
  c : d.depth ≤ n
  l : d.leavesShort 1001 = true
  w : d.weight ≤ w
structure ShwL (ds : List PyData) (n w : Nat) : Prop where
  a : PyData.showableAll ds = true
  b : PyData.hasDictAll ds = false
  c : PyData.depthAll ds ≤ n
  l : PyData.leavesShortAll 1001 ds = true
  w : PyData.weightAll ds ≤ w
theorem Shw.int {i : Int} (h : showsI i) : Shw (.int i) 0 1001 := ⟨(show_int h).1, rfl, Nat.le_refl _, (show_int h).2, weight_int h⟩
theorem Shw.bool (b : Bool) : Shw (.bool b) 0 0 := ⟨rfl, rfl, Nat.le_refl _, rfl, Nat.le_refl _⟩
theorem Shw.none : Shw .none 0 0 := ⟨rfl, rfl, Nat.le_refl _, rfl, Nat.le_refl _⟩
theorem Shw.str {z : Str} {m : Nat} (h : z.cps.toList.all (fun c => decide (c < 16 ^ 8)) = true) (hm : z.length ≤ m) : Shw (.str z) 0 m := ⟨rfl, rfl, Nat.le_refl _, h, hm⟩
theorem ShwL.nil : ShwL [] 0 0 := ⟨rfl, rfl, Nat.le_refl _, rfl, Nat.le_refl _⟩
theorem ShwL.cons {d : PyData} {ds : List PyData} {n w n' w' : Nat} (h : Shw d n w) (hs : ShwL ds n' w') : ShwL (d :: ds) (max n n') (w + 1 + w') := by
  refine ⟨?_, ?_, ?_, ?_, ?_⟩
  · show (d.showable && PyData.showableAll ds) = true
    rw [h.a, hs.a]; rfl
  · show (d.hasDict || PyData.hasDictAll ds) = false
    rw [h.b, hs.b]; rfl
  · show max d.depth (PyData.depthAll ds) ≤ _
    have := h.c
    have := hs.c
    omega
  · show (d.leavesShort 1001 && PyData.leavesShortAll 1001 ds) = true
    rw [h.l, hs.l]; rfl
  · show d.weight + 1 + PyData.weightAll ds ≤ _
    have := h.w
    have := hs.w
    omega
theorem Shw.tup {ds : List PyData} {n w : Nat} (h : ShwL ds n w) : Shw (.tuple ds) (n + 1) w := ⟨h.a, h.b, Nat.succ_le_succ h.c, h.l, h.w⟩
theorem Shw.lst {ds : List PyData} {n w : Nat} (h : ShwL ds n w) : Shw (.list ds) (n + 1) w := ⟨h.a, h.b, Nat.succ_le_succ h.c, h.l, h.w⟩
theorem Shw.ok {d : PyData} {n w : Nat} (h : Shw d n w) (hn : n ≤ 100) (hw : 1003 * w + 1001 ≤ 16000000) : ShOk d := shOk h.a h.b (Nat.le_trans h.c hn) h.l (by
  have := h.w
  have e : 1003 * d.weight ≤ 1003 * w := Nat.mul_le_mul_left _ this
  exact Nat.le_trans (show 1003 * d.weight + 1001 ≤ 16000000 by omega) (by decide))
section
variable {X : Cx} {k : Nat}
end
end Kb

/-! ### tuples put together and cut, at an abstract heap -/
namespace Kb
open PySem PySem.Spec PyProof.Rows L2 ClX
section
variable {X : Cx}
end
end Kb

/-! ### NotImplemented told by the left operand's method, the right operand's own reflected operator -/
namespace PySem.W
open PySem PySem.Calls PyProof.Rows
section
variable {prog : Program} {w : World} {M : Model} {A : Around} {E : Value → Shared → Prop} {s : Shared} {K : Frag} {x y C D L f g : Addr} {h₀ : Heap} {m : Str → Option Value} {ox oy : Obj} {od od' : Option Obj} {nm : String}
theorem fills_R {h : Heap} {cd : ClassData} {rest : List Value} (X : K.In h) (hc : clsIn K C = some cd) (hm : cd.mro = .ref C :: rest) (h1 : findIn K (.ref C) (PySem.dunder nm) = some none) (hs : findIn K (.ref C) (dunderR nm) = some (some (.ref f))) : Looks M h (fillsNumberSlot (.ref C) nm) true := by
  intro A Q E s k q
  unfold fillsNumberSlot
  refine wpAny_bind ((looks_clsIn X hc).andThen (f := fun cd => pure cd.mro) .now A _ E s k ?_)
  rw [hm, List.anyM_cons]
  refine wpAny_bind ?_
  show wpAny M A (List.anyM _ [PySem.dunder nm, dunderR nm]) _ _ _
  rw [List.anyM_cons]
  refine wpAny_bind (wpAny_bind (looks_findIn X h1 A _ E s k (wpAny_pure ?_)))
  rw [if_neg Bool.false_ne_true, List.anyM_cons]
  refine wpAny_bind (wpAny_bind (looks_findIn X hs A _ E s k ?_))
  dsimp only
  rw [if_pos (show (!ownNameWrapper (.ref f) (dunderR nm)) = true from rfl)]
  refine wpAny_pure ?_
  rw [if_pos rfl]
  refine wpAny_pure ?_
  rw [if_pos rfl]
  exact wpAny_pure q
theorem inPy_R {h : Heap} (X : K.In h) (h1 : findIn K (.ref C) (PySem.dunder nm) = some none) (hs : findIn K (.ref C) (dunderR nm) = some (some (.ref f))) : Looks M h (numberSlotInPython (.ref C) nm) true := by
  intro A Q E s k q
  obtain ⟨hh, g, d, tt, os⟩ := s
  have X' : K.In hh := X.keeps k
  have L1 : Looks M hh (typeLookup (.ref C) (PySem.dunder nm)) none := looks_findIn X' h1
  have L2 : Looks M hh (typeLookup (.ref C) (dunderR nm)) (some (.ref f)) := looks_findIn X' hs
  unfold numberSlotInPython
  repeat lk
  exact q
theorem try_no {Q : Shared → Prop} {name : Str} {b : Value} (X : K.In s.heap) (I : InstAt s.heap x ox C od) (hs : findIn K (.ref C) name = some (some (.ref f))) (hf : isFn K (.ref f) = true)
    (h : wpAny M A (call (.ref f) [.ref x, b]) (fun v s' => v = .notImplemented ∧ Q s') E s) : wpAny M A (tryMethod (.ref x) name b) (fun r s' => r = none ∧ Q s') E s := by
  unfold tryMethod
  refine wpAny_bind (special_fn X I hs (beq_iff_eq.mp hf) (wpAny_mono h (fun v s' hv => ?_) fun _ _ e => e))
  obtain ⟨rfl, hv⟩ := hv
  exact wpAny_pure ⟨rfl, hv⟩
/-- x op y: the left one's method doesn't know the right one, whose own reflected one answers -/
theorem binop_R {op : Operator} {Q : Value → Shared → Prop} {R : Shared → Prop} (F : Fr h₀ L s.heap m) (X₀ : K.In h₀) (I : InstAt s.heap x ox C od) (J : InstAt s.heap y oy D od') (hne : C ≠ D) (hc : selfFirst K C = true) (hd : selfFirst K D = true) (hsub : subIn K (.ref D) (.ref C) = some false)
    (hs : findIn K (.ref C) (PySem.dunder op.info.2) = some (some (.ref f))) (hf : isFn K (.ref f) = true) (hr : findIn K (.ref C) (dunderR op.info.2) = some none)
    (gs : findIn K (.ref D) (PySem.dunder op.info.2) = some none) (gr : findIn K (.ref D) (dunderR op.info.2) = some (some (.ref g))) (hg : isFn K (.ref g) = true)
    (h : wpAny (model prog w) A (call (.ref f) [.ref x, .ref y]) (fun v s' => v = .notImplemented ∧ R s') E s)
    (h2 : ∀ s', R s' → K.In s'.heap ∧ (∃ ox od, InstAt s'.heap x ox C od) ∧ (∃ oy od', InstAt s'.heap y oy D od') ∧ wpAny (model prog w) A (call (.ref g) [.ref y, .ref x]) (CmpBack Q) E s') : wpAny (model prog w) A (binaryOp op (.ref x) (.ref y)) Q E s := by
  have X := X₀.keeps F.keep
  obtain ⟨cd, rest, hcd, hm⟩ := ksp_first hc
  obtain ⟨ce, rest', hce, hm'⟩ := ksp_first hd
  have hn : (Value.ref C == Value.ref D) = false := Bool.eq_false_iff.mpr fun q => hne (Value.ref.inj (beq_iff_eq.mp q))
  have one := try_no (b := .ref y) (M := model prog w) X I hs hf h
  have L3 : Looks (model prog w) s.heap (fillsNumberSlot (.ref C) op.info.2) true := fills_K X hcd hm hs
  have L4 : Looks (model prog w) s.heap (fillsNumberSlot (.ref D) op.info.2) true := fills_R X hce hm' gs gr
  have L5 : Looks (model prog w) s.heap (isSubtype (.ref D) (.ref C)) false := looks_subIn X hsub
  have L6 : Looks (model prog w) s.heap (numberSlotInPython (.ref C) op.info.2) true := ksp_inPy X hs hr (.inl rfl)
  have L7 : Looks (model prog w) s.heap (numberSlotInPython (.ref D) op.info.2) true := inPy_R X gs gr
  unfold binaryOp
  refine wpAny_holding (wpAny_bind ?_)
  unfold binaryOp1
  refine wpAny_bind (I.type.here (wpAny_bind (J.type.here (wpAny_bind (L3.here ?_)))))
  simp only [hn, Bool.false_eq_true, if_false]
  refine wpAny_bind (L4.here ?_)
  simp only [Bool.and_self, if_true]
  refine wpAny_bind (L5.here ?_)
  simp only [Bool.false_eq_true, if_false]
  refine wpAny_bind (L6.here ?_)
  simp only [if_true]
  refine wpAny_bind (L7.here ?_)
  simp only [Bool.not_true, Bool.false_eq_true, if_false]
  refine wpAny_bind (m := tryMethod (.ref x) _ _) (wpAny_mono one (fun r s' hr => ?_) fun _ _ e => e)
  obtain ⟨rfl, hR⟩ := hr
  obtain ⟨X', ⟨_, _, I'⟩, ⟨_, _, J'⟩, h3⟩ := h2 s' hR
  dsimp only
  have two := ksp_try X' J' gr hg h3
  refine wpAny_bind (I'.type.here (wpAny_bind (J'.type.here ?_)))
  simp only [hn, Bool.false_eq_true, if_false]
  refine wpAny_bind (m := tryMethod (.ref y) _ _) (wpAny_mono two (fun r s' hr => ?_) fun _ _ e => e)
  obtain ⟨v, rfl, hv⟩ := hr
  obtain ⟨hh, gg, d, tt, os⟩ := s'
  ksp_lk
  exact hv
end
end PySem.W
namespace Kb
open PySem PySem.Spec PyProof.Rows L2 ClX
/-- a function that answers NotImplemented and leaves the heap as it was -/
structure FnNi (P : Program) (w : World) (K : PySem.W.Frag) (mg : Str → Option Value) (base : Heap) (k : Nat) (f : Addr) (fd : FuncData) (ps : List Str) (sn : List V → Hp → Prop) : Prop where
  len : ∀ vs H, sn vs H → vs.length = ps.length
  run : ∀ (A : Around) (outer : List Env) (s : Shared) (H : Hp) (args : Args) (us : List Value) (vs : List V), Room k A → Env0 P w K mg base A outer s H → BindsTo s fd args (ps.zip us) → Vals vs us → sn vs H →
    codeAny (model P w) A (.call (.ref f) args) (fun r s' => r = .ok (.ret .notImplemented) ∧ CE outer P w H s (fun _ H' => H' = H) .none s') s
structure PSn (X : Cx) (st : List Stmt) (t : L2.St → Hp → Prop) : Prop where
  run : ∀ (pins : List (Addr × Obj)) (s : Shared) (σ : L2.St) (H : Hp), Inv X pins σ H s → t σ H → wpAny (model X.prog X.w) X.A (execs st X.env) (fun f s' => f = .ret .notImplemented ∧ Inv X pins σ H s') X.xe s
section
variable {X : Cx}
theorem psn_ret {pos p : Pos} (hg : Gl X "NotImplemented") (hm : X.mg "NotImplemented" = none) : PSn X [.Return (some (.Name "NotImplemented" p)) pos] (fun _ _ => True) := by
  refine ⟨fun pins s σ H I _ => ?_⟩
  refine wpAny_execs_cons (wpAny_Return_some (ld_blt I hg hm (show bootBuiltins "NotImplemented" = some .notImplemented by decide +kernel) ⟨rfl, I⟩))
theorem psn_if {c : Expr} {a : List Stmt} {rest : List Stmt} {pos : Pos} {tc : TT} {u : L2.St → Hp → Prop} (hc : PT X c tc) (hr : PSn X rest u) : PSn X (.If c a [] pos :: rest) (fun σ H => tc σ H fun b H1 => b = false ∧ H1 = H ∧ u σ H) := by
  refine ⟨fun pins s σ H I h => ?_⟩
  refine wpAny_execs_cons (wpAny_If (thn (hc.run pins s σ H _ I h) fun d s1 ⟨H1, I1, e, e1, q1⟩ => ?_))
  subst e e1
  exact wpAny_execs_nil (hr.run pins s1 σ _ I1 q1)
end
section
variable {P : Program} {w : World} {K : PySem.W.Frag} {mg : Str → Option Value} {base : Heap}
theorem fn_ofN {k : Nat} {f : Addr} {name qual : Str} {params : Arguments} {body : List Stmt} {scope : Scope} {dV kV doc pm cdv ct oc : Value} {an od : Option Addr} {osl : Array (Option Value)} {N ps : List Str} {sn : List V → Hp → Prop}
    (lk : K.lookup f = some ⟨oc, od, .func (PySem.W.fnOf name qual params body scope dV kV doc pm an cdv ct), osl⟩) (hcd : PySem.W.codeIn K cdv qual = true) (S : FnScope N ps scope) (len : ∀ vs H, sn vs H → vs.length = ps.length)
    (hbody : ∀ (A : Around) (outer : List Env) (s : Shared) (H : Hp) (vs : List V), Room k (A.deeper (envOfC qual scope s.heap.objs.size f cdv)) → sn vs H →
      ∃ t, PSn (cxOf CX0 P w K mg base N qual scope f cdv A outer s H E0).nox body t ∧ t (start N vs) H) :
    FnNi P w K mg base (k + 1) f (PySem.W.fnOf name qual params body scope dV kV doc pm an cdv ct) ps sn := by
  refine ⟨len, fun A outer s H args us vs hr e0 hb r hsp => ?_⟩
  have hl := len _ _ hsp
  have KX : K.In s.heap := e0.mod.kin.keeps fun b o e => (e0.bs b o e).1
  have lim : s.heap.NoLimit := e0.mod.nolimit.keeps fun b o e => (e0.bs b o e).1
  have hkind : ∀ y ∈ ps.zip us, scope.names.lookup y.1 = some .local ∨ (scope.names.lookup y.1 = some .cell ∧ ((cellsFrom (s.heap.objs.size + 1) scope.names []).lookup y.1).isSome = true) := fun ⟨n, v⟩ hy => by
    rcases S.par n (List.of_mem_zip hy).1 with q | q
    · exact .inl q
    · exact .inr ⟨q, PySem.W.cellsFrom_some _ _ _ (.inl q)⟩
  refine codeAny_call_function hr.depth (KX _ _ lk) rfl S.co S.gen rfl (PySem.W.codeRec_of KX hcd) (hb _ _ _ _ ?_)
  refine wpAny_newFunctionEnv_cells S.kind hkind fun env he s1 x => ?_
  subst he
  refine ⟨lim.keeps x.toInCall.keep, codeAny_func ?_⟩
  obtain ⟨t, ht, hq⟩ := hbody A outer s H vs (hr.deeper _) hsp
  have I : Inv (cxOf CX0 P w K mg base N qual scope f cdv A outer s H E0) [] (start N vs) H s1 := inv_start S hr.hd e0 hl r x
  refine wpAny_mono (ht.run [] s1 (start N vs) H (I.wish _) hq) (fun fl s' hs => ?_) fun e s' hs => False.elim hs
  obtain ⟨rfl, J0⟩ := hs
  have J := J0.unwish
  exact ⟨rfl, V.non, _, J.os, J.bare, J.base, J.hok, rfl, rfl⟩
/-- a method that answers NotImplemented -/
structure MtNi (P : Program) (w : World) (K : PySem.W.Frag) (mg : Str → Option Value) (base : Heap) (k : Nat) (C : Addr) (m : Str) (ps : List Str) (sn : List V → Hp → Prop) : Prop where
  ex : ∃ (f : Addr) (fd : FuncData), FnNi P w K mg base k f fd ps sn ∧ Meth K C m f ∧ Binds K fd ps []
theorem Fun.okN {x qual : Str} {st : Stmt} {f : Addr} {fd : FuncData} {N ps : List Str} {k : Nat} {sn : List V → Hp → Prop} (F : Fun K x qual st f fd) (S : FnScope N ps (defScope st)) (len : ∀ vs H, sn vs H → vs.length = ps.length)
    (hbody : ∀ (cdv : Value) (A : Around) (outer : List Env) (s : Shared) (H : Hp) (vs : List V), Room k (A.deeper (envOfC qual (defScope st) s.heap.objs.size f cdv)) → sn vs H →
      ∃ t, PSn (cxOf CX0 P w K mg base N qual (defScope st) f cdv A outer s H E0).nox (defBody st) t ∧ t (start N vs) H) : FnNi P w K mg base (k + 1) f fd ps sn := by
  obtain ⟨oc, od, kV, doc, pm, an, cdv, ct, osl, rfl, lk, hcd⟩ := F.ex
  exact fn_ofN lk hcd S len fun A outer s H vs hr hsp => hbody cdv A outer s H vs hr hsp
end
/-- both classes stand in the order that the reflected operator wants -/
structure OpR2 (K : PySem.W.Frag) (C D : Addr) (op : Operator) : Prop where
  ne : C ≠ D
  sf : PySem.W.selfFirst K C = true
  sg : PySem.W.selfFirst K D = true
  sub : PySem.W.subIn K (.ref D) (.ref C) = some false
  r : PySem.W.findIn K (.ref C) (dunderR op.info.2) = some none
  no : PySem.W.findIn K (.ref D) (PySem.dunder op.info.2) = some none
def rBinR (C D : Addr) (sn : List V → Hp → Prop) (sp : Sp) : R2 := fun x y H Q => ∃ (a dx : Addr) (fs : List (Str × V)) (b dy : Addr) (gs : List (Str × V)), x = .ref a ∧ y = .ref b ∧ H a = some (.ins C dx fs) ∧ H b = some (.ins D dy gs) ∧ sn [x, y] H ∧ sp [y, x] H Q E0
section
variable {X : Cx} {k j : Nat} {C D : Addr} {ps ps' : List Str} {sn : List V → Hp → Prop} {sp : Sp} {op : Operator}
theorem op_binR {m m' : Str} (F : MtNi X.prog X.w X.K X.mg X.base j C m ps' sn) (G : MtC X.prog X.w X.K X.mg X.base CX0 k D m' ps sp) (c : OpR2 X.K C D op) (hr : Room j X.A) (hr' : Room k X.A) (hm : PySem.dunder op.info.2 = m := by decide +kernel) (hm' : dunderR op.info.2 = m' := by decide +kernel) : OpR X (binaryOp op) (rBinR C D sn sp) := by
  subst hm hm'
  intro pins s σ H x y v u Q I rx ry h
  obtain ⟨a, dx, fs, b, dy, gs, rfl, rfl, ha, hb', qn, q⟩ := h
  obtain ⟨f, fd, hf, M, hb⟩ := F.ex
  obtain ⟨g, gd, hg, N, hb2⟩ := G.ex
  cases (show v = Value.ref a from rx)
  cases (show u = Value.ref b from ry)
  obtain ⟨_, O, _⟩ := ins_get I.hok ha
  obtain ⟨od, J, _⟩ := O.look
  obtain ⟨_, O', _⟩ := ins_get I.hok hb'
  obtain ⟨od', J', _⟩ := O'.look
  obtain ⟨m, hF⟩ := I.fr
  refine PySem.W.binop_R hF I.ok.mod.kin J J' c.ne c.sf c.sg c.sub M.at_ M.fn c.r c.no N.at_ N.fn (R := fun s' => Inv X pins σ H s') ?_ fun s' I' => ?_
  · refine wpAny_call (codeAny_mono (hf.run X.A X.stack s H ⟨[.ref a, .ref b], []⟩ [.ref a, .ref b] [.ref a, .ref b] hr I.env0 (by
      have := hb s [.ref a, .ref b] I.kIn (by have := hf.len _ _ qn; exact this)
      rwa [List.append_nil] at this) (.cons rfl (.cons rfl .nil)) qn) fun r s' hq => ?_)
    obtain ⟨rfl, z⟩ := hq
    obtain ⟨_, H', I', _, e⟩ := I.after z
    subst e
    exact ⟨rfl, I'⟩
  · obtain ⟨_, O, _⟩ := ins_get I'.hok ha
    obtain ⟨od, J, _⟩ := O.look
    obtain ⟨_, O', _⟩ := ins_get I'.hok hb'
    obtain ⟨od', J', _⟩ := O'.look
    exact ⟨I'.kIn, ⟨_, _, J⟩, ⟨_, _, J'⟩, run_bin (y := .ref a) I' hg hr' hb2 (by exact rfl) q⟩
end
end Kb
/-! ### the slots made plain -/
namespace Kb
open PySem PySem.Spec PyProof.Rows L2 ClX
abbrev tNrm (t : TS) : TS := fun D σ H => ∀ σ', σ = σ' → t D σ' H
theorem pss_nrm {X : Cx} {st : List Stmt} {t : TS} (h : PSs X st t) : PSs X st (tNrm t) := ⟨fun pins s σ H D I q => h.run pins s σ H D I (q σ rfl)⟩
theorem nrm_of {T : L2.St → Prop} {σ σ' : L2.St} (e : σ = σ') (h : T σ') : ∀ σ'', σ = σ'' → T σ'' := fun _ e' => e' ▸ e ▸ h
end Kb

/-! ### own `in`, own truth, displays of dicts with a tuple as key -/
namespace Kb
open PySem PySem.Spec PyProof.Rows L2 ClX
section
variable {X : Cx} {k : Nat} {m : Str} {C : Addr} {ps : List Str} {sp : Sp} {e : Expr} {te : TE} {pos : Pos}
/-! ### {k: v} with a tuple as key -/
end
/-! ### for i, x in enumerate(xs) -/
/-! ### x in a tuple of data, a walk over a list or a tuple -/
section
variable {X : Cx}
def rInDT (K : PySem.W.Frag) : R2 := fun x y H Q => ∃ d ds, Dp K H x d ∧ Dp K H y (.tuple ds) ∧ SeqAt.shaped d = true ∧ SeqAt.shaped (.tuple ds) = true ∧ Q (.bl (ds.any fun z => PyData.eqv z d)) H
theorem op_inDT (hu : X.A.units + 65 < cLine) : OpR X (compareOp .In) (rInDT X.K) := by
  intro pins s σ H x y v u Q I rx ry h
  obtain ⟨d, ds, hd, he, sd, se, q⟩ := h
  obtain ⟨as, r1⟩ := Dp.reads I d x v hd rx
  obtain ⟨bs, r2⟩ := Dp.reads I (.tuple ds) y u he ry
  exact SeqAt.in_tuple_reads r2 r1 (SeqAt.canLay_of_shaped se) (SeqAt.canLay_of_shaped sd) (room_in_shaped sd hu) ⟨.bl _, H, I, rfl, q⟩
end
theorem lcR_tup {K : PySem.W.Frag} {a : Addr} {xs : List V} {g : TG} {te : TE} {vs : List Nat} {σ : L2.St} {H1 : Hp} {D : Addr} {Qd : Hp → Prop} (M : Nat → Hp → Prop) (h0 : M 0 (upd H1 D (.lst []))) (hl : ∀ i H, i ≤ xs.length → M i H → SqT K H a xs)
    (hs : ∀ i x H, xs[i]? = some x → M i H → g x (wipe σ vs) H fun σ2 H2 => wipe σ2 vs = wipe σ vs ∧ te σ2 H2 fun y H4 => ∃ acc, H4 D = some (.lst acc) ∧ acc.length < sizeLine ∧ M (i + 1) (upd H4 D (.lst (acc ++ [y]))))
    (hm : ∀ x σ H Q Q', (∀ σ2 H2, Q σ2 H2 → Q' σ2 H2) → g x σ H Q → g x σ H Q') (hd : ∀ H, M xs.length H → Qd H) : LcR (Itt K a) g tYes te vs σ H1 D Qd :=
  lc_tup M h0 hl (fun i x H hi m => hm _ _ _ _ _ (fun σ2 H2 z => ⟨z.1, ifT (B := M (i + 1) H2) rfl z.2⟩) (hs i x H hi m)) hd
theorem hu65 {A : Around} {k : Nat} (hr : Room k A) : A.units + 65 < cLine := by have := hr.un; omega
end Kb

/-! ### enumerate of a text, of a tuple -/
namespace Kb
open PySem PySem.Spec PyProof.Rows L2 ClX
section
variable {prog : Program} {w : World} {A : Around} {E : Value → Shared → Prop} {s : Shared}
end
/-- the items of the iterator within, as the reading has them -/
structure EnD (P : Program) (w : World) (K : PySem.W.Frag) (it : Addr) (n : Hp → Nat → Prop) (val : Hp → Nat → V → Prop) (St : Nat → Heap → Prop) : Prop where
  run : ∀ (X : Cx), X.prog = P → X.w = w → X.K = K → X.calm = true → ∀ (pins : List (Addr × Obj)) (s : Shared) (σ : L2.St) (H : Hp) (m : Nat), Inv X pins σ H s → n H m →
    ∃ (fp : List Addr) (P' : Nat → Value → Prop) (St' : Nat → Heap → Prop), Draws P w X.A.in1 it fp m P' St' ∧ (∀ i, St i s.heap → St' i s.heap) ∧ (∀ i h, St' i h → St i h) ∧ (∀ i u, P' i u → ∃ x, RelV x u ∧ val H i x) ∧ ∀ e, (∃ b old i, IsEnum s.heap e b i old) → e ≠ it → e ∉ fp
/-! texts -/
/-! tuples -/
end Kb

/-! ### a list of truths: count; a comprehension over an enumerate -/
namespace Kb
open PySem PySem.Spec PyProof.Rows L2 ClX
section
variable {X : Cx}
end
end Kb

/-! ### is True, is not True -/
namespace Kb
open PySem PySem.Spec PyProof.Rows L2 ClX
section
variable {X : Cx}
end
end Kb

/-! ### ~x of an own instance; a promise that nothing meets -/
namespace Kb
open PySem PySem.Spec PyProof.Rows L2 ClX
section
variable {X : Cx} {k : Nat} {C : Addr} {ps : List Str} {sp : Sp}
end
end Kb

/-! ### rules that name the written part, for blocks of comprehensions -/
namespace Kb
open PySem PySem.Spec PyProof.Rows L2 ClX
section
variable {X : Cx} {K : PySem.W.Frag}
end
end Kb

/-! ### a builtin value on the left, an own object on the right whose class has the reflected operator -/
namespace PySem.W
open PySem PySem.Calls PyProof.Rows
section
variable {prog : Program} {w : World} {M : Model} {A : Around} {E : Value → Shared → Prop} {s : Shared} {K : Frag} {y D L g : Addr} {h₀ : Heap} {m : Str → Option Value} {oy : Obj} {od : Option Obj} {nm T : String}
end
end PySem.W

/-! ### the head by one run of the top: the facts are looked at in the run -/
namespace Kb
open PySem PySem.Spec PyProof.Rows L2 ClX
/-- a def: where it stands, its name, qualified name, parameters, body, scope -/
structure FZ where
  at_ : PySem.W.Frag → Addr
  name : Str
  qual : Str
  st : Stmt
def FZ.val (d : FZ) : He.FnV := some (d.name, d.qual, defArgs d.st, .stmts (defBody d.st), defScope d.st, mainGlobals, [], .none, builtinsNs)
def fzObs (K : PySem.W.Frag) (a : Addr) : He.FnV := match K.lookup a with
  | some ⟨_, _, .func fd, _⟩ => some (fd.name, fd.qualname, fd.params, fd.body, fd.scope, fd.globals, fd.closure, fd.defaults, fd.builtins)
  | _ => none
def fzCode (K : PySem.W.Frag) (a : Addr) (q : Str) : Bool := match K.lookup a with
  | some ⟨_, _, .func fd, _⟩ => PySem.W.codeIn K fd.code q
  | _ => false
theorem fz_ok {K : PySem.W.Frag} {d : FZ} (seen : fzObs K (d.at_ K) = d.val) (coded : fzCode K (d.at_ K) d.qual = true) :
    ∃ cl di sl kw dc md an cv cm, K.lookup (d.at_ K) = some ⟨cl, di, .func (PySem.W.fnOf d.name d.qual (defArgs d.st) (defBody d.st) (defScope d.st) .none kw dc md an cv cm), sl⟩ ∧ PySem.W.codeIn K cv d.qual = true := by
  unfold fzCode at coded
  unfold fzObs FZ.val at seen
  split at coded
  · rename_i cl di fun_ sl here
    rw [here] at seen
    cases fun_ with
    | mk nm qn pa bo sc gl clo df kw dc md an cv cm bn =>
      have same := Option.some.inj seen
      simp only [Prod.mk.injEq] at same
      rcases same with ⟨rfl, rfl, rfl, rfl, rfl, rfl, rfl, rfl, rfl⟩
      exact ⟨cl, di, sl, kw, dc, md, an, cv, cm, here, coded⟩
  · cases coded
abbrev AlZ : Type := Bool × List He.FnV
def obsZ (fs : List (PySem.W.Frag → Bool)) (fn : List FZ) (K : PySem.W.Frag) : AlZ := ((fs.all fun f => f K) && fn.all fun d => fzCode K (d.at_ K) d.qual, fn.map fun d => fzObs K (d.at_ K))
def valZ (fn : List FZ) : AlZ := (true, fn.map FZ.val)
def SaysZ (fs : List (PySem.W.Frag → Bool)) (fn : List FZ) (K : PySem.W.Frag) : Prop := obsZ fs fn K = valZ fn
/-- what an object of the text names -/
def refsZ (o : Obj) : List Addr := match o.data with
  | .seq its _ => its.toList.flatMap He.refV
  | .dict es _ => es.toList.flatMap fun e => He.refV e.val
  | .func fd => He.refV fd.code
  | .cls cd => [cd.ns]
  | .fields vs => vs.toList.flatMap He.refV
  | _ => []
def stepZ (g : Addr → Option Obj) (as : List Addr) : List Addr := as.flatMap fun a => match g a with
  | some o => refsZ o
  | none => []
def lvZ (g : Addr → Option Obj) : Nat → List Addr → List Addr
  | 0, as => as
  | n + 1, as => as ++ lvZ g n (stepZ g as)
def asZ (g : Addr → Option Obj) (n : Nat) : List Addr := lvZ g n [mainGlobals] ++ [cStatics]
def obsZG (n : Nat) (fs : List (PySem.W.Frag → Bool)) (fn : List FZ) (g : Addr → Option Obj) : AlZ := obsZ fs fn (He.frG g (asZ g n))
def hookZ (n : Nat) (fs : List (PySem.W.Frag → Bool)) (fn : List FZ) : PySem.W.Hook :=
  ⟨AlZ, fun s => obsZG n fs fn s.heap.get?, fun _ => valZ fn, fun _ h => ∃ F : PySem.W.Frag, F.In h ∧ SaysZ fs fn F, fun _ s z => ⟨He.frG s.heap.get? (asZ s.heap.get? n), He.frG_in, z⟩, fun _ _ _ said more => said.elim fun F z => ⟨F, PySem.W.Frag.In.keeps z.1 more, z.2⟩⟩
theorem obsZG_eq {n : Nat} {fs : List (PySem.W.Frag → Bool)} {fn : List FZ} {g : Addr → Option Obj} {s : Shared} (h : ∀ a, g a = s.heap.get? a) : obsZG n fs fn g = (hookZ n fs fn).obs s := congrArg (obsZG n fs fn) (funext h)
section
variable {fs : List (PySem.W.Frag → Bool)} {fn : List FZ} {K : PySem.W.Frag}
theorem SaysZ.parts (z : SaysZ fs fn K) : (∀ f ∈ fs, f K = true) ∧ (∀ d ∈ fn, fzCode K (d.at_ K) d.qual = true) ∧ ∀ d ∈ fn, fzObs K (d.at_ K) = d.val := by
  obtain ⟨zb, zl⟩ := Prod.mk.inj (show ((fs.all fun f => f K) && fn.all fun d => fzCode K (d.at_ K) d.qual, fn.map fun d => fzObs K (d.at_ K)) = (true, fn.map FZ.val) from z)
  rw [Bool.and_eq_true, List.all_eq_true, List.all_eq_true] at zb
  exact ⟨zb.1, zb.2, fun d hd => List.map_inj_left.mp zl d hd⟩
theorem SaysZ.fact (z : SaysZ fs fn K) (i : Nat) {f : PySem.W.Frag → Bool} (h : fs[i]? = some f) : f K = true := z.parts.1 f (List.mem_iff_getElem?.mpr ⟨i, h⟩)
theorem SaysZ.def_ (z : SaysZ fs fn K) (i : Nat) {d : FZ} (h : fn[i]? = some d) :
    ∃ cl di sl kw dc md an cv cm, K.lookup (d.at_ K) = some ⟨cl, di, .func (PySem.W.fnOf d.name d.qual (defArgs d.st) (defBody d.st) (defScope d.st) .none kw dc md an cv cm), sl⟩ ∧ PySem.W.codeIn K cv d.qual = true :=
  have hd := List.mem_iff_getElem?.mpr ⟨i, h⟩
  fz_ok (z.parts.2.2 d hd) (z.parts.2.1 d hd)
end
/-! addresses and facts by names -/
section
variable {K : PySem.W.Frag}
def gloB (K : PySem.W.Frag) (x : Str) : Bool := match PySem.W.nsIn K mainGlobals x with
  | some (some (.ref _)) => true
  | _ => false
theorem gloB_ok {x : Str} (h : gloB K x = true) : PySem.W.nsIn K mainGlobals x = some (some (.ref (He.ga K x))) := by
  unfold gloB at h
  unfold He.ga
  split at h
  · rename_i a e; rw [e]
  · cases h
def freeB (K : PySem.W.Frag) (x : Str) : Bool := match PySem.W.nsIn K mainGlobals x with
  | some none => true
  | _ => false
theorem freeB_ok {x : Str} (h : freeB K x = true) : PySem.W.nsIn K mainGlobals x = some none := by
  unfold freeB at h
  split at h
  · assumption
  · cases h
def methB (K : PySem.W.Frag) (C : Addr) (m : Str) : Bool := match PySem.W.findIn K (.ref C) m with
  | some (some (.ref _)) => true
  | _ => false
theorem methB_ok {C : Addr} {m : Str} (h : methB K C m = true) : PySem.W.findIn K (.ref C) m = some (some (.ref (He.ma K C m))) := by
  unfold methB at h
  unfold He.ma
  split at h
  · rename_i a e; rw [e]
  · cases h
/-- what a property, a class method holds -/
def rcA (K : PySem.W.Frag) (p : Addr) (T : String) : Addr := match PySem.W.recIn K p T with
  | some (.ref f :: _) => f
  | _ => 0
def rcB (K : PySem.W.Frag) (p : Addr) (T : String) : Bool := match PySem.W.recIn K p T with
  | some (.ref _ :: _) => true
  | _ => false
theorem rcB_ok {p : Addr} {T : String} (h : rcB K p T = true) : ∃ rc, PySem.W.recIn K p T = some (.ref (rcA K p T) :: rc) := by
  unfold rcB at h
  unfold rcA
  split at h
  · rename_i f rc e; exact ⟨rc, by rw [e]⟩
  · cases h
def cmA (K : PySem.W.Frag) (C : Addr) (m : Str) : Addr := match PySem.W.findCls K (.ref C) (.type "type") m with
  | some (.get _ (.ref p) _ _) => p
  | _ => 0
def cmB (K : PySem.W.Frag) (C : Addr) (m : Str) : Bool := match PySem.W.findCls K (.ref C) (.type "type") m with
  | some (.get g (.ref _) o t) => decide (g = .builtin "classmethod.__get__") && (decide (o = .none) && decide (t = .ref C))
  | _ => false
theorem cmB_ok {C : Addr} {m : Str} (h : cmB K C m = true) : PySem.W.findCls K (.ref C) (.type "type") m = some (.get (.builtin "classmethod.__get__") (.ref (cmA K C m)) .none (.ref C)) := by
  unfold cmB at h
  unfold cmA
  split at h
  · rename_i g p o t e
    obtain ⟨h1, h2⟩ := He.ba h
    obtain ⟨h2, h3⟩ := He.ba h2
    have h1 := of_decide_eq_true h1
    have h2 := of_decide_eq_true h2
    have h3 := of_decide_eq_true h3
    subst h1 h2 h3
    rw [e]
  · cases h
def clsB (K : PySem.W.Frag) (C : Addr) (m : Str) (v : Value) : Bool := match PySem.W.findCls K (.ref C) (.type "type") m with
  | some (.val u) => decide (u = v)
  | _ => false
theorem clsB_ok {C : Addr} {m : Str} {v : Value} (h : clsB K C m v = true) : PySem.W.findCls K (.ref C) (.type "type") m = some (.val v) := by
  unfold clsB at h
  split at h
  · rename_i u e; rw [e, of_decide_eq_true h]
  · cases h
/-- a constant tuple: its items -/
def tupIt (K : PySem.W.Frag) (a : Addr) : List Value := match K.lookup a with
  | some ⟨.type _, _, .seq its _, _⟩ => its.toList
  | _ => []
def tupB (K : PySem.W.Frag) (a : Addr) (p : List Value → Bool) : Bool := match K.lookup a with
  | some ⟨.type t, _, .seq its _, _⟩ => decide (t = "tuple") && p its.toList
  | _ => false
theorem tupB_ok {a : Addr} {p : List Value → Bool} (h : tupB K a p = true) : ∃ o n s, K.lookup a = some ⟨.type "tuple", o, .seq (tupIt K a).toArray n, s⟩ ∧ p (tupIt K a) = true := by
  unfold tupB at h
  unfold tupIt
  split at h
  · rename_i t o its n s e
    obtain ⟨h1, h2⟩ := He.ba h
    have h1 := of_decide_eq_true h1
    subst h1
    refine ⟨o, n, s, ?_, ?_⟩
    · rw [e]
    · exact h2
  · cases h
def isInts : List Int → List Value → Bool
  | [], [] => true
  | i :: is, .int j _ :: vs => decide (i = j) && isInts is vs
  | _, _ => false
theorem isInts_cons {i : Int} {is : List Int} {vs : List Value} (h : isInts (i :: is) vs = true) : ∃ t r, vs = .int i t :: r ∧ isInts is r = true := by
  cases vs with
  | nil => cases h
  | cons v vs =>
    cases v <;> first
      | (cases h; done)
      | (rename_i j t
         simp only [isInts, Bool.and_eq_true, decide_eq_true_eq] at h
         obtain ⟨rfl, h⟩ := h
         exact ⟨t, vs, rfl, h⟩)
theorem isInts_nil {vs : List Value} (h : isInts [] vs = true) : vs = [] := by
  cases vs with
  | nil => rfl
  | cons v vs => cases v <;> cases h
theorem isInts4 {i j k l : Int} {vs : List Value} (h : isInts [i, j, k, l] vs = true) : ∃ a b c d, vs = [.int i a, .int j b, .int k c, .int l d] := by
  obtain ⟨a, r1, e1, h1⟩ := isInts_cons h
  obtain ⟨b, r2, e2, h2⟩ := isInts_cons h1
  obtain ⟨c, r3, e3, h3⟩ := isInts_cons h2
  obtain ⟨d, r4, e4, h4⟩ := isInts_cons h3
  exact ⟨a, b, c, d, by rw [e1, e2, e3, e4, isInts_nil h4]⟩
theorem ints4_ok {a : Addr} {i j k l : Int} (h : tupB K a (isInts [i, j, k, l]) = true) : ∃ o n s t1 t2 t3 t4, K.lookup a = some ⟨.type "tuple", o, .seq #[.int i t1, .int j t2, .int k t3, .int l t4] n, s⟩ := by
  obtain ⟨o, n, s, e, p⟩ := tupB_ok h
  obtain ⟨t1, t2, t3, t4, hz⟩ := isInts4 p
  rw [hz] at e
  exact ⟨o, n, s, t1, t2, t3, t4, e⟩
/-- an error's class -/
def errB (K : PySem.W.Frag) (C U : Addr) : Bool := match K.lookup C with
  | some ⟨.type t, _, .cls cd, sl⟩ => decide (t = "type") && (decide (cd.mro = [.ref C, .ref U, .type "ValueError", .type "Exception", .type "BaseException", .type "object"]) && (cd.hasDict && (!cd.hasDel && (match sl.toList with
    | [_, _, _, _, some (.builtin n), _] => decide (n = "ValueError.__new__")
    | _ => false))))
  | _ => false
theorem errB_ok {C U : Addr} (h : errB K C U = true) : ∃ nm q N bs sn sub ab col dd m0 m1 m2 m3 m5, K.lookup C = some (excClassObj nm q C N bs [.ref U, .type "ValueError", .type "Exception", .type "BaseException", .type "object"] true sn sub ab col dd m0 m1 m2 m3 m5 "ValueError.__new__") := by
  unfold errB at h
  split at h
  · rename_i t dd cd sl e
    obtain ⟨hA, hB⟩ := He.ba h
    obtain ⟨hC, hD⟩ := He.ba hB
    obtain ⟨hE, hF⟩ := He.ba hD
    obtain ⟨hG, hI⟩ := He.ba hF
    clear h hB hD hF
    have hA := of_decide_eq_true hA
    have hC := of_decide_eq_true hC
    split at hI
    · rename_i k0 k1 k2 k3 n k5 es
      have hJ := of_decide_eq_true hI
      have esl : sl = #[k0, k1, k2, k3, some (.builtin n), k5] := by cases sl; exact congrArg Array.mk es
      obtain ⟨nm, bs, mro, N, q, hd, sn, sub, ab, col, del⟩ := cd
      have hH : (!del) = true := hG
      have hL : del = false := by cases del <;> first | rfl | cases hH
      clear hG hH
      have hE : hd = true := hE
      have hC : mro = _ := hC
      subst hA hJ hC hE hL esl
      exact ⟨nm, q, N, bs, sn, sub, ab, col, dd, k0, k1, k2, k3, k5, e⟩
    · cases hI
  · cases h
end
end Kb

/-! ### a method called, a builtin value + an own object, where the def may raise; a value or another by a test -/
namespace PySem.W
open PySem PySem.Calls PyProof.Rows
section
variable {prog : Program} {w : World} {M : Model} {A : Around} {E : Value → Shared → Prop} {s : Shared} {K : Frag} {y D L g : Addr} {h₀ : Heap} {m : Str → Option Value} {oy : Obj} {od : Option Obj} {nm T : String}
end
end PySem.W
namespace Kb
open PySem PySem.Spec PyProof.Rows L2 ClX
/-- what the class at D must have for a builtin value + its instance -/
structure RaC (K : PySem.W.Frag) (D : Addr) : Prop where
  sf : PySem.W.selfFirst K D = true
  no : PySem.W.findIn K (.ref D) "__add__" = some none
  s1 : PySem.W.findIn K (.type "str") "__add__" = some (some (.builtin "str.__add__"))
  s2 : PySem.W.findIn K (.type "str") "__radd__" = some none
  l1 : PySem.W.findIn K (.type "list") "__add__" = some (some (.builtin "list.__add__"))
  l2 : PySem.W.findIn K (.type "list") "__radd__" = some none
  t1 : PySem.W.findIn K (.type "tuple") "__add__" = some (some (.builtin "tuple.__add__"))
  t2 : PySem.W.findIn K (.type "tuple") "__radd__" = some none
  n1 : PySem.W.findIn K (.type "NoneType") "__add__" = some none
  n2 : PySem.W.findIn K (.type "NoneType") "__radd__" = some none
  si : PySem.W.subIn K (.ref D) (.type "int") = some false
/-- a value that may stand on the left -/
inductive Lf (H : Hp) : V → Prop
  | non : Lf H .non
  | int (i : Int) : Lf H (.int i)
  | str (z : Str) : Lf H (.str z)
  | tup {p : Addr} {xs : List V} (h : H p = some (.tup xs)) : Lf H (.ref p)
  | lst {p : Addr} {xs : List V} (h : H p = some (.lst xs)) : Lf H (.ref p)
section
variable {X : Cx} {CX : CXT} {k : Nat} {C : Addr} {m : Str} {ps : List Str} {sp : Sp} {E : L2.St → XK} {W : WX} {a b o e : Expr} {es : List Expr} {ta tb te : TE} {t : TA} {pos apos : Pos}
end
end Kb

/-! ### x[i] by the class's own `__getitem__` -/
namespace Kb
open PySem PySem.Spec PyProof.Rows L2 ClX
structure IxC (K : PySem.W.Frag) (C : Addr) : Prop where
  ex : ∃ f : Addr, PySem.W.findIn K (.ref C) "__getitem__" = some (some (.ref f)) ∧ PySem.W.fnIn K f = true
section
variable {X : Cx} {k : Nat} {C : Addr} {ps : List Str} {sp : Sp} {a b : Expr} {ta tb : TE} {pos : Pos}
end
end Kb

/-! ### an own error with one field; isinstance of a caught error that has fields; x[i] by an own `__getitem__` that may raise -/
namespace Kb
open PySem PySem.Spec PyProof.Rows L2 ClX
def sp_err1 (C : Addr) (fl : Str) : Sp := fun vs H Q _ => ∃ (a : Addr) (v : V), vs = [.ref a, v] ∧ H a = some (exo a C none) ∧ ∀ dx, H dx = none → dx ≠ a → Q .non (upd (upd H dx (exd dx [(fl, v)])) a (exo a C (some dx)))
/-- an own error with one field, made by its name -/
structure Er1 (P : Program) (w : World) (K : PySem.W.Frag) (mg : Str → Option Value) (base : Heap) (x : Str) (C : Addr) (par fl : Str) : Prop where
  ex : ∃ (f : Addr) (fd : FuncData), FnOk P w K mg base CX0 2 f fd ["self", par] (sp_err1 C fl) ∧ OexC K C ∧ PySem.W.findIn K (.ref C) "__init__" = some (some (.ref f)) ∧ PySem.W.typeIn K (.ref f) = some (.type "function") ∧ mg x = some (.ref C) ∧ Binds K fd ["self", par] []
theorem Er1.nm {P : Program} {w : World} {K : PySem.W.Frag} {mg : Str → Option Value} {base : Heap} {x : Str} {C : Addr} {par fl : Str} (F : Er1 P w K mg base x C par fl) : mg x = some (.ref C) := let ⟨_, _, _, _, _, _, h, _⟩ := F.ex; h
section
variable {X : Cx} {CX : CXT} {k : Nat} {C : Addr} {ps : List Str} {sp : Sp} {E : L2.St → XK} {W : WX} {a b : Expr} {ta tb : TE} {pos : Pos}
end
end Kb

namespace Lw
open PySem PySem.Spec PyProof.Rows L2 ClX Kb
def top (i : Nat) : Stmt := PySem.Challenge.pw_unmarked_k16_whole_order_of_changed_edge.main.body.getD i (.Pass ⟨0, 0, 0, 0⟩)
abbrev S__law_take : Stmt := (top 48)
abbrev N__law_take : List Str := ["_law_box_here", "_law_many", "_law_digit", "_law_one"]
theorem SC__law_take : FnScope N__law_take ["_law_box_here", "_law_many"] (defScope S__law_take) := ⟨rfl, rfl, rfl, by decide +kernel, rfl, by decide +kernel, by decide +kernel⟩
abbrev S__law_box : Stmt := (top 47)
abbrev N__law_box : List Str := ["_law_script", "_law_k", "_law_cell", "_law_seed"]
theorem SC__law_box : FnScope N__law_box ["_law_script", "_law_k"] (defScope S__law_box) := ⟨rfl, rfl, rfl, by decide +kernel, rfl, by decide +kernel, by decide +kernel⟩
abbrev S_is_integer : Stmt := (top 11)
abbrev N_is_integer : List Str := ["value"]
theorem SC_is_integer : FnScope N_is_integer ["value"] (defScope S_is_integer) := ⟨rfl, rfl, rfl, by decide +kernel, rfl, by decide +kernel, by decide +kernel⟩
abbrev S_is_length : Stmt := (top 12)
abbrev N_is_length : List Str := ["value"]
theorem SC_is_length : FnScope N_is_length ["value"] (defScope S_is_length) := ⟨rfl, rfl, rfl, by decide +kernel, rfl, by decide +kernel, by decide +kernel⟩
abbrev S_need_word : Stmt := (top 13)
abbrev N_need_word : List Str := ["value", "letter"]
theorem SC_need_word : FnScope N_need_word ["value"] (defScope S_need_word) := ⟨rfl, rfl, rfl, by decide +kernel, rfl, by decide +kernel, by decide +kernel⟩
abbrev S_common_length : Stmt := (top 16)
abbrev N_common_length : List Str := ["first", "second"]
theorem SC_common_length : FnScope N_common_length ["first", "second"] (defScope S_common_length) := ⟨rfl, rfl, rfl, by decide +kernel, rfl, by decide +kernel, by decide +kernel⟩
abbrev S_word_of_lengths : Stmt := (top 17)
abbrev N_word_of_lengths : List Str := ["first", "second", "parts", "many"]
theorem SC_word_of_lengths : FnScope N_word_of_lengths ["first", "second"] (defScope S_word_of_lengths) := ⟨rfl, rfl, rfl, by decide +kernel, rfl, by decide +kernel, by decide +kernel⟩
abbrev S_InvalidWord__init_ : Stmt := (inClass (top 3) 0)
abbrev N_InvalidWord__init_ : List Str := ["self"]
theorem SC_InvalidWord__init_ : FnScope N_InvalidWord__init_ ["self"] (defScope S_InvalidWord__init_) := ⟨rfl, rfl, rfl, by decide +kernel, rfl, by decide +kernel, by decide +kernel⟩
abbrev S_InvalidRatio__init_ : Stmt := (inClass (top 4) 0)
abbrev N_InvalidRatio__init_ : List Str := ["self"]
theorem SC_InvalidRatio__init_ : FnScope N_InvalidRatio__init_ ["self"] (defScope S_InvalidRatio__init_) := ⟨rfl, rfl, rfl, by decide +kernel, rfl, by decide +kernel, by decide +kernel⟩
abbrev S_InvalidChange__init_ : Stmt := (inClass (top 5) 0)
abbrev N_InvalidChange__init_ : List Str := ["self"]
theorem SC_InvalidChange__init_ : FnScope N_InvalidChange__init_ ["self"] (defScope S_InvalidChange__init_) := ⟨rfl, rfl, rfl, by decide +kernel, rfl, by decide +kernel, by decide +kernel⟩
abbrev S_InvalidEdge__init_ : Stmt := (inClass (top 6) 0)
abbrev N_InvalidEdge__init_ : List Str := ["self"]
theorem SC_InvalidEdge__init_ : FnScope N_InvalidEdge__init_ ["self"] (defScope S_InvalidEdge__init_) := ⟨rfl, rfl, rfl, by decide +kernel, rfl, by decide +kernel, by decide +kernel⟩
abbrev S_Ratio__init_ : Stmt := (inClass (top 18) 0)
abbrev N_Ratio__init_ : List Str := ["self", "first", "second", "unit"]
theorem SC_Ratio__init_ : FnScope N_Ratio__init_ ["self", "first", "second"] (defScope S_Ratio__init_) := ⟨rfl, rfl, rfl, by decide +kernel, rfl, by decide +kernel, by decide +kernel⟩
abbrev S_Ratio_word : Stmt := (inClass (top 18) 3)
abbrev N_Ratio_word : List Str := ["self"]
theorem SC_Ratio_word : FnScope N_Ratio_word ["self"] (defScope S_Ratio_word) := ⟨rfl, rfl, rfl, by decide +kernel, rfl, by decide +kernel, by decide +kernel⟩
abbrev S_lengths_made : Stmt := (top 21)
abbrev N_lengths_made : List Str := ["numbers", "first", "second", "a", "b", "c", "d"]
theorem SC_lengths_made : FnScope N_lengths_made ["numbers", "first", "second"] (defScope S_lengths_made) := ⟨rfl, rfl, rfl, by decide +kernel, rfl, by decide +kernel, by decide +kernel⟩
abbrev S_numbers_behind : Stmt := (top 22)
abbrev N_numbers_behind : List Str := ["numbers", "letter", "a", "b", "c", "d"]
theorem SC_numbers_behind : FnScope N_numbers_behind ["numbers", "letter"] (defScope S_numbers_behind) := ⟨rfl, rfl, rfl, by decide +kernel, rfl, by decide +kernel, by decide +kernel⟩
abbrev S_numbers_of_word : Stmt := (top 23)
abbrev N_numbers_of_word : List Str := ["word", "found", "letter"]
theorem SC_numbers_of_word : FnScope N_numbers_of_word ["word"] (defScope S_numbers_of_word) := ⟨rfl, rfl, rfl, by decide +kernel, rfl, by decide +kernel, by decide +kernel⟩
abbrev S_numbers_joined : Stmt := (top 24)
abbrev N_numbers_joined : List Str := ["one", "other", "a", "b", "c", "d", "e", "f", "g", "h"]
theorem SC_numbers_joined : FnScope N_numbers_joined ["one", "other"] (defScope S_numbers_joined) := ⟨rfl, rfl, rfl, by decide +kernel, rfl, by decide +kernel, by decide +kernel⟩
abbrev S_Change__init_ : Stmt := (inClass (top 25) 0)
abbrev N_Change__init_ : List Str := ["self", "a", "b", "c", "d", "numbers", "number"]
theorem SC_Change__init_ : FnScope N_Change__init_ ["self", "a", "b", "c", "d"] (defScope S_Change__init_) := ⟨rfl, rfl, rfl, by decide +kernel, rfl, by decide +kernel, by decide +kernel⟩
abbrev S_Change_of_word : Stmt := (inClass (top 25) 3)
abbrev N_Change_of_word : List Str := ["cls", "word", "a", "b", "c", "d"]
theorem SC_Change_of_word : FnScope N_Change_of_word ["cls", "word"] (defScope S_Change_of_word) := ⟨rfl, rfl, rfl, by decide +kernel, rfl, by decide +kernel, by decide +kernel⟩
abbrev S_Change__mul_ : Stmt := (inClass (top 25) 6)
abbrev N_Change__mul_ : List Str := ["self", "other", "a", "b", "c", "d", "first", "second"]
theorem SC_Change__mul_ : FnScope N_Change__mul_ ["self", "other"] (defScope S_Change__mul_) := ⟨rfl, rfl, rfl, by decide +kernel, rfl, by decide +kernel, by decide +kernel⟩
abbrev S_common : Stmt := (top 27)
abbrev N_common : List Str := ["one", "other"]
theorem SC_common : FnScope N_common ["one", "other"] (defScope S_common) := ⟨rfl, rfl, rfl, by decide +kernel, rfl, by decide +kernel, by decide +kernel⟩
abbrev S_sign_of : Stmt := (top 28)
abbrev N_sign_of : List Str := ["number"]
theorem SC_sign_of : FnScope N_sign_of ["number"] (defScope S_sign_of) := ⟨rfl, rfl, rfl, by decide +kernel, rfl, by decide +kernel, by decide +kernel⟩
abbrev S_whole_root : Stmt := (top 29)
abbrev N_whole_root : List Str := ["number", "found", "less"]
theorem SC_whole_root : FnScope N_whole_root ["number"] (defScope S_whole_root) := ⟨rfl, rfl, rfl, by decide +kernel, rfl, by decide +kernel, by decide +kernel⟩
abbrev S_sign_with_root : Stmt := (top 30)
abbrev N_sign_with_root : List Str := ["one", "times", "inner", "left", "right"]
theorem SC_sign_with_root : FnScope N_sign_with_root ["one", "times", "inner"] (defScope S_sign_with_root) := ⟨rfl, rfl, rfl, by decide +kernel, rfl, by decide +kernel, by decide +kernel⟩
abbrev S_lowered : Stmt := (top 32)
abbrev N_lowered : List Str := ["a", "b", "c", "side", "factor"]
theorem SC_lowered : FnScope N_lowered ["a", "b", "c", "side"] (defScope S_lowered) := ⟨rfl, rfl, rfl, by decide +kernel, rfl, by decide +kernel, by decide +kernel⟩
abbrev S_inner_of : Stmt := (top 33)
abbrev N_inner_of : List Str := ["root"]
theorem SC_inner_of : FnScope N_inner_of ["root"] (defScope S_inner_of) := ⟨rfl, rfl, rfl, by decide +kernel, rfl, by decide +kernel, by decide +kernel⟩
abbrev S_Edge__init_ : Stmt := (inClass (top 44) 0)
abbrev N_Edge__init_ : List Str := ["self", "place"]
theorem SC_Edge__init_ : FnScope N_Edge__init_ ["self", "place"] (defScope S_Edge__init_) := ⟨rfl, rfl, rfl, by decide +kernel, rfl, by decide +kernel, by decide +kernel⟩
abbrev S_Edge_of : Stmt := (inClass (top 44) 3)
abbrev N_Edge_of : List Str := ["cls", "ratio"]
theorem SC_Edge_of : FnScope N_Edge_of ["cls", "ratio"] (defScope S_Edge_of) := ⟨rfl, rfl, rfl, by decide +kernel, rfl, by decide +kernel, by decide +kernel⟩
abbrev S_Edge_zero : Stmt := (inClass (top 44) 1)
abbrev N_Edge_zero : List Str := ["cls"]
theorem SC_Edge_zero : FnScope N_Edge_zero ["cls"] (defScope S_Edge_zero) := ⟨rfl, rfl, rfl, by decide +kernel, rfl, by decide +kernel, by decide +kernel⟩
abbrev S_Edge_endless : Stmt := (inClass (top 44) 2)
abbrev N_Edge_endless : List Str := ["cls"]
theorem SC_Edge_endless : FnScope N_Edge_endless ["cls"] (defScope S_Edge_endless) := ⟨rfl, rfl, rfl, by decide +kernel, rfl, by decide +kernel, by decide +kernel⟩
abbrev S_Edge__eq_ : Stmt := (inClass (top 44) 12)
abbrev N_Edge__eq_ : List Str := ["self", "other"]
theorem SC_Edge__eq_ : FnScope N_Edge__eq_ ["self", "other"] (defScope S_Edge__eq_) := ⟨rfl, rfl, rfl, by decide +kernel, rfl, by decide +kernel, by decide +kernel⟩
abbrev S_Edge_ratio : Stmt := (inClass (top 44) 7)
abbrev N_Edge_ratio : List Str := ["self"]
theorem SC_Edge_ratio : FnScope N_Edge_ratio ["self"] (defScope S_Edge_ratio) := ⟨rfl, rfl, rfl, by decide +kernel, rfl, by decide +kernel, by decide +kernel⟩
abbrev S_Edge_root : Stmt := (inClass (top 44) 4)
abbrev N_Edge_root : List Str := ["cls", "p", "q", "d", "r", "whole", "top", "factor", "value"]
theorem SC_Edge_root : FnScope N_Edge_root ["cls", "p", "q", "d", "r"] (defScope S_Edge_root) := ⟨rfl, rfl, rfl, by decide +kernel, rfl, by decide +kernel, by decide +kernel⟩
abbrev S_changed : Stmt := (top 35)
abbrev N_changed : List Str := ["root", "numbers", "a", "b", "c", "side", "m", "n", "s", "t", "first", "second", "third", "turn"]
theorem SC_changed : FnScope N_changed ["root", "numbers"] (defScope S_changed) := ⟨rfl, rfl, rfl, by decide +kernel, rfl, by decide +kernel, by decide +kernel⟩
abbrev S_place_behind : Stmt := (top 45)
abbrev N_place_behind : List Str := ["numbers", "place", "a", "b", "c", "d", "first", "second", "factor"]
theorem SC_place_behind : FnScope N_place_behind ["numbers", "place"] (defScope S_place_behind) := ⟨rfl, rfl, rfl, by decide +kernel, rfl, by decide +kernel, by decide +kernel⟩
abbrev S_Edge_turned : Stmt := (inClass (top 44) 8)
abbrev N_Edge_turned : List Str := ["self"]
theorem SC_Edge_turned : FnScope N_Edge_turned ["self"] (defScope S_Edge_turned) := ⟨rfl, rfl, rfl, by decide +kernel, rfl, by decide +kernel, by decide +kernel⟩
abbrev S_Edge__rmul_ : Stmt := (inClass (top 44) 11)
abbrev N_Edge__rmul_ : List Str := ["self", "change"]
theorem SC_Edge__rmul_ : FnScope N_Edge__rmul_ ["self", "change"] (defScope S_Edge__rmul_) := ⟨rfl, rfl, rfl, by decide +kernel, rfl, by decide +kernel, by decide +kernel⟩
abbrev S_sign_with_roots : Stmt := (top 31)
abbrev N_sign_with_roots : List Str := ["one", "times", "inner", "again", "other", "left", "right", "squares"]
theorem SC_sign_with_roots : FnScope N_sign_with_roots ["one", "times", "inner", "again", "other"] (defScope S_sign_with_roots) := ⟨rfl, rfl, rfl, by decide +kernel, rfl, by decide +kernel, by decide +kernel⟩
abbrev S_compared : Stmt := (top 34)
abbrev N_compared : List Str := ["one", "other", "top", "under", "last", "below", "plain"]
theorem SC_compared : FnScope N_compared ["one", "other"] (defScope S_compared) := ⟨rfl, rfl, rfl, by decide +kernel, rfl, by decide +kernel, by decide +kernel⟩
abbrev S_Edge__lt_ : Stmt := (inClass (top 44) 13)
abbrev N_Edge__lt_ : List Str := ["self", "other"]
theorem SC_Edge__lt_ : FnScope N_Edge__lt_ ["self", "other"] (defScope S_Edge__lt_) := ⟨rfl, rfl, rfl, by decide +kernel, rfl, by decide +kernel, by decide +kernel⟩
abbrev S_Edge__le_ : Stmt := (inClass (top 44) 14)
abbrev N_Edge__le_ : List Str := ["self", "other"]
theorem SC_Edge__le_ : FnScope N_Edge__le_ ["self", "other"] (defScope S_Edge__le_) := ⟨rfl, rfl, rfl, by decide +kernel, rfl, by decide +kernel, by decide +kernel⟩
abbrev S_Edge__gt_ : Stmt := (inClass (top 44) 15)
abbrev N_Edge__gt_ : List Str := ["self", "other"]
theorem SC_Edge__gt_ : FnScope N_Edge__gt_ ["self", "other"] (defScope S_Edge__gt_) := ⟨rfl, rfl, rfl, by decide +kernel, rfl, by decide +kernel, by decide +kernel⟩
abbrev S_fixed : Stmt := (top 36)
abbrev N_fixed : List Str := ["numbers", "m", "n", "s", "t"]
theorem SC_fixed : FnScope N_fixed ["numbers"] (defScope S_fixed) := ⟨rfl, rfl, rfl, by decide +kernel, rfl, by decide +kernel, by decide +kernel⟩
abbrev S_step : Stmt := (top 37)
abbrev N_step : List Str := ["root"]
theorem SC_step : FnScope N_step ["root"] (defScope S_step) := ⟨rfl, rfl, rfl, by decide +kernel, rfl, by decide +kernel, by decide +kernel⟩
abbrev S_first_letters : Stmt := (top 38)
abbrev N_first_letters : List Str := ["root", "count", "letters", "turn", "letter"]
theorem SC_first_letters : FnScope N_first_letters ["root", "count"] (defScope S_first_letters) := ⟨rfl, rfl, rfl, by decide +kernel, rfl, by decide +kernel, by decide +kernel⟩
abbrev S_Edge_letters : Stmt := (inClass (top 44) 10)
abbrev N_Edge_letters : List Str := ["self", "count"]
theorem SC_Edge_letters : FnScope N_Edge_letters ["self", "count"] (defScope S_Edge_letters) := ⟨rfl, rfl, rfl, by decide +kernel, rfl, by decide +kernel, by decide +kernel⟩
abbrev S_Edge_of_parts : Stmt := (inClass (top 44) 5)
abbrev N_Edge_of_parts : List Str := ["cls", "lead", "cycle", "found"]
theorem SC_Edge_of_parts : FnScope N_Edge_of_parts ["cls", "lead", "cycle"] (defScope S_Edge_of_parts) := ⟨rfl, rfl, rfl, by decide +kernel, rfl, by decide +kernel, by decide +kernel⟩
abbrev S__law_sign : Stmt := (top 49)
abbrev N__law_sign : List Str := ["_law_number"]
theorem SC__law_sign : FnScope N__law_sign ["_law_number"] (defScope S__law_sign) := ⟨rfl, rfl, rfl, by decide +kernel, rfl, by decide +kernel, by decide +kernel⟩
abbrev S__law_sign_root : Stmt := (top 50)
abbrev N__law_sign_root : List Str := ["_law_one", "_law_times", "_law_inner", "_law_left", "_law_right_here"]
theorem SC__law_sign_root : FnScope N__law_sign_root ["_law_one", "_law_times", "_law_inner"] (defScope S__law_sign_root) := ⟨rfl, rfl, rfl, by decide +kernel, rfl, by decide +kernel, by decide +kernel⟩
abbrev S__law_root : Stmt := (top 54)
abbrev N__law_root : List Str := ["_law_box_here", "_law_most", "_law_p", "_law_q", "_law_d", "_law_r"]
theorem SC__law_root : FnScope N__law_root ["_law_box_here", "_law_most"] (defScope S__law_root) := ⟨rfl, rfl, rfl, by decide +kernel, rfl, by decide +kernel, by decide +kernel⟩
abbrev S__law_change : Stmt := (top 58)
abbrev N__law_change : List Str := ["_law_box_here", "_law_found", "_law_turn"]
theorem SC__law_change : FnScope N__law_change ["_law_box_here"] (defScope S__law_change) := ⟨rfl, rfl, rfl, by decide +kernel, rfl, by decide +kernel, by decide +kernel⟩
abbrev S__law_edge : Stmt := (top 59)
abbrev N__law_edge : List Str := ["_law_box_here", "_law_form", "_law_p", "_law_q", "_law_d", "_law_r", "_law_words", "_law_turn", "_law_k"]
theorem SC__law_edge : FnScope N__law_edge ["_law_box_here"] (defScope S__law_edge) := ⟨rfl, rfl, rfl, by decide +kernel, rfl, by decide +kernel, by decide +kernel⟩
abbrev S__law_order : Stmt := (top 60)
abbrev N__law_order : List Str := ["_law_one", "_law_other"]
theorem SC__law_order : FnScope N__law_order ["_law_one", "_law_other"] (defScope S__law_order) := ⟨rfl, rfl, rfl, by decide +kernel, rfl, by decide +kernel, by decide +kernel⟩
abbrev S__law_right : Stmt := (top 61)
abbrev N__law_right : List Str := ["_law_change_here", "_law_beside", "_law_one", "_law_other", "_law_way", "_law_words", "_law_edge_here"]
theorem SC__law_right : FnScope N__law_right ["_law_change_here", "_law_beside", "_law_one", "_law_other"] (defScope S__law_right) := ⟨rfl, rfl, rfl, by decide +kernel, rfl, by decide +kernel, by decide +kernel⟩
abbrev S_law : Stmt := (top 62)
abbrev N_law : List Str := ["_law_script", "_law_k", "_law_box_here", "_law_change_here", "_law_beside", "_law_edges", "_law_one", "_law_other", "_law_turn"]
theorem SC_law : FnScope N_law ["_law_script"] (defScope S_law) := ⟨rfl, rfl, rfl, by decide +kernel, rfl, by decide +kernel, by decide +kernel⟩
structure Txt (K : PySem.W.Frag) (mg : Str → Option Value) : Prop where
  b_NotImplemented : mg "NotImplemented" = none
  b_ValueError : mg "ValueError" = none
  b_abs : mg "abs" = none
  b_all : mg "all" = none
  b_any : mg "any" = none
  b_bool : mg "bool" = none
  b_enumerate : mg "enumerate" = none
  b_int : mg "int" = none
  b_isinstance : mg "isinstance" = none
  b_len : mg "len" = none
  b_list : mg "list" = none
  b_max : mg "max" = none
  b_min : mg "min" = none
  b_range : mg "range" = none
  b_repr : mg "repr" = none
  b_sorted : mg "sorted" = none
  b_str : mg "str" = none
  b_sum : mg "sum" = none
  b_tuple : mg "tuple" = none
  b_zip : mg "zip" = none
/-! ## words -/
namespace Wd
def cd (b : Bool) : Nat := if b then 114 else 108
/-- the text of a word: true is r -/
def enc (u : List Bool) : Str := ⟨(u.map cd).toArray⟩
theorem enc_cps (u : List Bool) : (enc u).cps.toList = u.map cd := by simp [enc]
theorem enc_len (u : List Bool) : (enc u).length = u.length := by show (u.map cd).toArray.size = _; simp
theorem enc_app (u v : List Bool) : enc u ++ enc v = enc (u ++ v) := by
  show (⟨(enc u).cps ++ (enc v).cps⟩ : Str) = _
  simp [enc]
theorem cd_inj {a b : Bool} (h : cd a = cd b) : a = b := by revert h; cases a <;> cases b <;> decide
theorem map_cd_inj : ∀ {u v : List Bool}, u.map cd = v.map cd → u = v
  | [], [], _ => rfl
  | [], _ :: _, h => by simp at h
  | _ :: _, [], h => by simp at h
  | a :: u, b :: v, h => by
    rw [List.map_cons, List.map_cons, List.cons.injEq] at h
    rw [cd_inj h.1, map_cd_inj h.2]
theorem enc_inj {u v : List Bool} (h : enc u = enc v) : u = v := map_cd_inj (by rw [← enc_cps, ← enc_cps, h])
theorem enc_rep (b : Bool) (n : Nat) : repS (enc [b]) n = enc (List.replicate n b) := by
  unfold repS
  rw [enc_cps]
  simp only [enc, List.map_replicate, List.map_cons, List.map_nil]
  congr 2
  induction n with
  | zero => rfl
  | succ n ih => rw [List.replicate_succ, List.flatten_cons, ih]; rfl
theorem enc_take (u : List Bool) {k : Int} (h : 0 ≤ k) : cutS (enc u) none (some k) = enc (u.take k.toNat) := by
  unfold cutS
  rw [enc_cps, enc_len]
  have e1 : HT.sIx u.length 0 none = 0 := rfl
  have e2 : HT.sIx u.length u.length (some k) = min k.toNat u.length := by
    unfold HT.sIx
    first | omega | (simp; omega) | (split <;> omega) | (simp only; split <;> omega)
  rw [e1, e2, List.drop_zero, Nat.sub_zero]
  unfold enc
  rw [List.map_take, List.take_eq_take_iff.mpr]
  simp
theorem lit_l : ("l" : Str) = enc [false] := by decide +kernel
theorem lit_r : ("r" : Str) = enc [true] := by decide +kernel
theorem lit_e : ("" : Str) = enc [] := by decide +kernel
theorem foldl_cps : ∀ (ps : List Str) (a : Array Nat), (ps.foldl (fun acc p => acc ++ (#[] : Array Nat) ++ p.cps) a).toList = a.toList ++ (ps.map (·.cps.toList)).flatten
  | [], a => by simp
  | p :: ps, a => by
    rw [List.foldl_cons, foldl_cps ps]
    simp
theorem join_cps (ys : List Str) : Txt.join ("" : Str) ys = ⟨(ys.map (·.cps.toList)).flatten.toArray⟩ := by
  cases ys with
  | nil => rfl
  | cons y ys =>
    show (⟨(ys.foldl (fun acc p => acc ++ (#[] : Array Nat) ++ p.cps) y.cps)⟩ : Str) = _
    have e := foldl_cps ys y.cps
    refine congrArg Str.mk (Array.toList_inj.mp ?_)
    rw [e]
    simp
theorem join_enc (us : List (List Bool)) : Txt.join ("" : Str) (us.map enc) = enc us.flatten := by
  rw [join_cps, List.map_map]
  have e : (us.map ((fun y : Str => y.cps.toList) ∘ enc)) = us.map (List.map cd) := List.map_congr_left fun u _ => enc_cps u
  rw [e]
  simp [enc, List.map_flatten]
theorem empty_len : ("" : Str).length = 0 := by decide +kernel
theorem enc_at {u : List Bool} {i c : Nat} (h : (enc u).cps[i]? = some c) : ∃ b, u[i]? = some b ∧ c = cd b := by
  rw [← Array.getElem?_toList, enc_cps, List.getElem?_map] at h
  cases e : u[i]? with
  | none => rw [e] at h; cases h
  | some b => rw [e] at h; exact ⟨b, rfl, (Option.some.inj h).symm⟩
/-- the lengths of a word -/
def pr : List Bool → Nat × Nat
  | [] => (1, 1)
  | b :: u => if b then ((pr u).1 + (pr u).2, (pr u).2) else ((pr u).1, (pr u).1 + (pr u).2)
theorem pr_pos (u : List Bool) : 0 < (pr u).1 ∧ 0 < (pr u).2 := by
  induction u with
  | nil => decide
  | cons b u ih => unfold pr; cases b <;> simp <;> omega
theorem pr_le (u : List Bool) : (pr u).1 + (pr u).2 ≤ 2 ^ (u.length + 1) := by
  induction u with
  | nil => decide
  | cons b u ih =>
    have := pr_pos u
    have e : 2 ^ (u.length + 1 + 1) = 2 * 2 ^ (u.length + 1) := by rw [Nat.pow_succ]; omega
    cases b <;> simp only [pr, List.length_cons, Bool.false_eq_true, if_false, if_true] <;> omega
end Wd
open Wd

local macro_rules | `(tactic| walk_at "kbs") => `(tactic| first | omega | decide | exact .inl ⟨by omega, by omega⟩ | exact .inr ⟨by omega, by omega⟩ | exact ⟨by omega, by omega⟩ | exact ⟨by decide, by decide, by decide⟩ | assumption | exact szl (by simp only [enc_len, List.length_cons, List.length_nil, List.length_append, List.length_replicate, List.length_take]; omega))
local macro_rules | `(tactic| walk_at "kb1") => `(tactic| first
  | refine ⟨_, rfl, ?_⟩
  | (refine ⟨_, _, rfl, rfl, ?_⟩; try refine And.intro (by walk_at "kbs") ?_)
  | refine ⟨_, _, _, _, rfl, rfl, (by first | assumption | exact SqL.of (by assumption) | exact SqT.of (by assumption)), rfl, ?_⟩
  | refine ⟨_, _, rfl, (show SqL _ _ _ _ ∨ SqT _ _ _ _ from by first | assumption | exact .inl (by assumption) | exact .inr (by assumption) | exact .inl (SqL.of (by assumption)) | exact .inr (SqT.of (by assumption))), ?_⟩
  | refine ⟨_, _, rfl, ?_⟩
  | refine And.intro (show scal _ _ = true from rfl) ?_
  | refine And.intro (by walk_at "kbs") ?_
  | refine And.intro ⟨_, rfl⟩ ?_)
local macro_rules | `(tactic| walk_at "kb") => `(tactic| repeat (walk_at "kb1"))

/-! ## draws -/
namespace Dr
def BoxAt (H : Hp) (b : Addr) : Prop := ∃ c s n : Int, H b = some (.lst [.int c, .int s, .int n]) ∧ 0 ≤ c ∧ 0 ≤ s ∧ s < 4294967296
def Keep (b : Addr) (H H' : Hp) : Prop := ∀ a o, a ≠ b → H a = some o → H' a = some o
theorem Keep.refl (b : Addr) (H : Hp) : Keep b H H := fun _ _ _ h => h
theorem Keep.trans {b : Addr} {H H1 H2 : Hp} (x : Keep b H H1) (y : Keep b H1 H2) : Keep b H H2 := fun a o n h => y a o n (x a o n h)
theorem Keep.same {b : Addr} {H H' : Hp} (x : Same H H') : Keep b H H' := fun a o _ h => x a o h
theorem Keep.upd (b : Addr) (H : Hp) (o : HO) : Keep b H (upd H b o) := fun a u n h => by rw [upd_ne n]; exact h
theorem Keep.new {b p : Addr} {H : Hp} {o : HO} (h : H p = none) : Keep b H (L2.upd H p o) := fun a u n e => by rw [upd_ne (ne_of_none e h)]; exact e
theorem Keep.put {b p : Addr} {H H1 : Hp} {o : HO} (x : Keep b H H1) (h : H p = none) : Keep b H (L2.upd H1 p o) := fun a u n e => by rw [upd_ne (ne_of_none e h)]; exact x a u n e
theorem BoxAt.ne {H : Hp} {b p : Addr} (x : BoxAt H b) (h : H p = none) : p ≠ b := fun e => by
  obtain ⟨c, s, n, q, _⟩ := x
  rw [e, q] at h; cases h
theorem BoxAt.lst {H : Hp} {b : Addr} (x : BoxAt H b) : ∃ xs, H b = some (.lst xs) := let ⟨_, _, _, q, _⟩ := x; ⟨_, q⟩
theorem BoxAt.keep {H H' : Hp} {b : Addr} (x : BoxAt H b) (h : ∀ o, H b = some o → H' b = some o) : BoxAt H' b := by
  obtain ⟨c, s, n, q, z⟩ := x
  exact ⟨c, s, n, h _ q, z⟩
theorem BoxAt.same {H H' : Hp} {b : Addr} (x : BoxAt H b) (h : Same H H') : BoxAt H' b := x.keep fun o => h b o
theorem BoxAt.new {H : Hp} {b p : Addr} {o : HO} (x : BoxAt H b) (h : H p = none) : BoxAt (upd H p o) b := x.keep fun u e => by rw [upd_ne (ne_of_none e h)]; exact e
/-- what stood nowhere ahead stands nowhere behind a smaller heap -/
theorem Keep.free {b p : Addr} {H H' : Hp} (x : Keep b H H') (hb : ∃ o, H' b = some o) (h : H' p = none) : H p = none := by
  cases e : H p with
  | none => rfl
  | some o =>
    by_cases c : p = b
    · obtain ⟨u, hu⟩ := hb
      rw [c, hu] at h; cases h
    · rw [x p o c e] at h; cases h
theorem BoxAt.any {H : Hp} {b : Addr} (x : BoxAt H b) : ∃ o, H b = some o := let ⟨_, q⟩ := x.lst; ⟨_, q⟩

def sp_take : Sp := fun vs H Q _ => ∃ (b : Addr) (m : Int), vs = [.ref b, .int m] ∧ BoxAt H b ∧ 0 < m ∧ m ≤ 1000000000000 ∧ ∀ (d : Int) (H' : Hp), 0 ≤ d → d < m → Keep b H H' → BoxAt H' b → Q (.int d) H'
def sp_box2 (K : PySem.W.Frag) : Sp := fun vs H Q _ => ∃ (a : Addr) (ns : List Int) (k : Int), vs = [.ref a, .int k] ∧ SqL K H a (ns.map V.int) ∧ ns.length ≤ 63 ∧ 0 ≤ k ∧ ∀ (p : Addr) (H' : Hp), H p = none → Same H H' → BoxAt H' p → Q (.ref p) H'
end Dr
open Dr
section
variable {P : Program} {w : World} {K : PySem.W.Frag} {mg : Str → Option Value} {base : Heap}
theorem ok_take {f : Addr} {fd : FuncData} (F : Fun K "_law_take" "_law_take" S__law_take f fd) (T : Txt K mg) : FnOk P w K mg base CX0 1 f fd ["_law_box_here", "_law_many"] sp_take := by
  refine F.ok SC__law_take (fun vs H Q E h => ?_) (fun cdv A outer s H vs Q E hr h => ?_)
  · obtain ⟨b, m, rfl, _⟩ := h
    rfl
  · obtain ⟨b, m, rfl, ⟨c, sd, n, hb, hc, hs0, hs1⟩, m0, m1, k⟩ := h
    refine ⟨_, (pss_cons (ps_if (pt_cmpR op_gt (pe_ix ix_list (pv 0) pe_int (fun _ _ => rfl)) pe_int (nomark _)) (pss_cons (ps_set (i := 2) SC__law_take.nd rfl (.inl rfl) (pe_op op_mod (pe_callTy call_intI (by rfl) T.b_int (by decide +kernel) (pa_cons (pe_ix ix_list (pv 0) pe_int (fun _ _ => rfl)) pa_nil)) (pv 1)))
      (pss_cons (ps_asg (pe_op op_fdivW (pe_ix ix_list (pv 0) pe_int (fun _ _ => rfl)) (pv 1)) (pg_sub (pv 0) pe_int set_list))
      (pss_one (ps_ret (pv 2))))) pss_nil)
      (pss_cons (ps_asg (pe_op op_add (pe_ix ix_list (pv 0) pe_int (fun _ _ => rfl)) pe_int) (pg_sub (pv 0) pe_int set_list))
      (pss_cons (ps_set (i := 3) SC__law_take.nd rfl (.inl rfl) (pe_op op_mod (pe_callTy call_intI (by rfl) T.b_int (by decide +kernel) (pa_cons (pe_op op_mul (pe_op op_add (pe_ix ix_list (pv 0) pe_int (fun _ _ => rfl)) (pe_op op_mul pe_int (pe_ix ix_list (pv 0) pe_int (fun _ _ => rfl)))) pe_int) pa_nil)) pe_int))
      (pss_cons (ps_asg (pe_op op_add (pe_op op_mod (pe_callTy call_intI (by rfl) T.b_int (by decide +kernel) (pa_cons (pe_op op_add (pe_op op_mul (pv 3) pe_int) pe_int) pa_nil)) pe_int) pe_int) (pg_sub (pv 0) pe_int set_list))
      (pss_one (ps_ret (pe_op op_mod (pe_callTy call_intI (by rfl) T.b_int (by decide +kernel) (pa_cons (pe_op op_fdiv (pe_op op_add (pe_op op_mul (pv 3) pe_int) (pe_ix ix_list (pv 0) pe_int (fun _ _ => rfl))) pe_int) pa_nil)) (pv 1)))))))), ?_⟩
    refine ⟨_, rfl, b, _, 0, _, rfl, rfl, SqL.of hb, rfl, _, _, rfl, rfl, _, rfl, ite2 (fun h => ?_) fun h => ?_⟩
    · have hc0 : 0 < c := of_decide_eq_true h
      refine ⟨_, rfl, b, _, 0, _, rfl, rfl, SqL.of hb, rfl, _, rfl, _, rfl, _, _, rfl, rfl, m0, ?_⟩
      refine ⟨_, rfl, b, _, 0, _, rfl, rfl, SqL.of hb, rfl, _, rfl, _, _, rfl, rfl, ⟨m0, ?_⟩, _, rfl, b, _, 0, 0, rfl, rfl, hb, rfl, ?_⟩
      · have q : m.natAbs < 2 ^ 64 := by omega
        exact Nat.lt_of_lt_of_le (PySem.Flt.log2_lt_of (by decide) q) (by decide)
      · refine ⟨_, rfl, k (c % m) _ (Int.emod_nonneg _ (by omega)) (Int.emod_lt_of_pos _ m0) (Keep.upd _ _ _) ⟨c / m, sd, n, upd_same, Int.ediv_nonneg hc (by omega), hs0, hs1⟩⟩
    · refine ⟨_, rfl, b, _, 2, _, rfl, rfl, SqL.of hb, rfl, _, _, rfl, rfl, _, rfl, b, _, 2, 2, rfl, rfl, hb, rfl, ?_⟩
      have hb1 : (upd H b (.lst ([V.int c, V.int sd, V.int n].set 2 (V.int (n + 1))))) b = some (.lst [.int c, .int sd, .int (n + 1)]) := upd_same
      refine ⟨_, rfl, b, _, 1, _, rfl, rfl, SqL.of hb1, rfl, _, rfl, b, _, 2, _, rfl, rfl, SqL.of hb1, rfl, _, _, rfl, rfl, .inl ⟨by decide, by decide⟩, _, _, rfl, rfl, _, _, rfl, rfl, .inr ⟨by decide, by decide⟩, _, rfl, _, _, rfl, rfl, (by show (0 : Int) < 2147483647; decide), ?_⟩
      refine ⟨_, rfl, _, _, rfl, rfl, .inr ⟨by decide, by decide⟩, _, _, rfl, rfl, _, rfl, _, _, rfl, rfl, (by show (0 : Int) < 2147483629; decide), _, _, rfl, rfl, _, rfl, b, _, 1, 1, rfl, rfl, hb1, rfl, ?_⟩
      have hb2 : ∀ y : Int, (upd (upd H b (.lst ([V.int c, V.int sd, V.int n].set 2 (V.int (n + 1))))) b (.lst ([V.int c, V.int sd, V.int (n + 1)].set 1 (V.int y)))) b = some (.lst [.int c, .int y, .int (n + 1)]) := fun _ => upd_same
      refine ⟨_, rfl, _, _, rfl, rfl, .inr ⟨by decide, by decide⟩, _, rfl, b, _, 1, _, rfl, rfl, SqL.of (hb2 _), rfl, _, _, rfl, rfl, _, _, rfl, rfl, ⟨by decide, by decide⟩, _, rfl, _, rfl, _, _, rfl, rfl, m0, ?_⟩
      exact k _ _ (Int.emod_nonneg _ (by omega)) (Int.emod_lt_of_pos _ m0) ((Keep.upd _ _ _).trans (Keep.upd _ _ _)) ⟨c, _, n + 1, hb2 _, hc, by omega, by omega⟩
theorem ok_box {f : Addr} {fd : FuncData} (F : Fun K "_law_box" "_law_box" S__law_box f fd) (T : Txt K mg) : FnOk P w K mg base CX0 1 f fd ["_law_script", "_law_k"] (sp_box2 K) := by
  refine F.ok SC__law_box (fun vs H Q E h => ?_) (fun cdv A outer s H vs Q E hr h => ?_)
  · obtain ⟨a, ns, k, rfl, _⟩ := h
    rfl
  · obtain ⟨a, ns, k, rfl, hS, hlen, hk, q⟩ := h
    refine ⟨_, (pss_cons (ps_set (i := 2) SC__law_box.nd rfl (.inl rfl) (pe_op op_add (pe_op op_mul pe_int (pv 1)) pe_int))
      (pss_mid (ps_if (pt_cmpR op_lt (pv 1) (pe_callB call_len_seq (by rfl) T.b_len (by decide +kernel) (pa_cons (pv 0) pa_nil)) (nomark _)) (pss_one (ps_set (i := 2) SC__law_box.nd rfl (.inl rfl) (pe_ix ix_list (pv 0) (pv 1) (fun _ _ => rfl)))) (pss_one (ps_if (pt_cmpR op_gt (pe_callB call_len_seq (by rfl) T.b_len (by decide +kernel) (pa_cons (pv 0) pa_nil)) pe_int (nomark _)) (pss_one (ps_set (i := 2) SC__law_box.nd rfl (.inl rfl) (pe_op op_add (pv 2) (pe_op op_mul (pe_op op_mod (pe_callTy call_intI (by rfl) T.b_int (by decide +kernel) (pa_cons (pe_ix ix_list (pv 0) (pe_op op_mod (pe_callTy call_intI (by rfl) T.b_int (by decide +kernel) (pa_cons (pv 1) pa_nil)) (pe_callB call_len_seq (by rfl) T.b_len (by decide +kernel) (pa_cons (pv 0) pa_nil))) (fun _ _ => rfl)) pa_nil)) pe_int) pe_int)))) pss_nil)))
      (pss_cons (ps_set (i := 3) SC__law_box.nd rfl (.inl rfl) (pe_op op_add (pe_op op_mod (pe_callTy call_intI (by rfl) T.b_int (by decide +kernel) (pa_cons (pe_op op_add (pe_op op_add (pe_op op_mul (pe_op op_mod (pe_callTy call_intI (by rfl) T.b_int (by decide +kernel) (pa_cons (pv 2) pa_nil)) pe_int) pe_int) (pe_op op_mul pe_int (pv 1))) pe_int) pa_nil)) pe_int) pe_int))
      (pss_one (ps_ret (pe_lst (pa_cons (pe_ix ix_list (pe_lst (pa_cons pe_int (pa_cons (pv 2) pa_nil))) (pe_callTy call_intB (by rfl) T.b_int (by decide +kernel) (pa_cons (pe_cmpR op_ge (pv 2) (pe_op op_pow pe_int pe_int) (nomark _)) pa_nil)) (fun _ _ => rfl)) (pa_cons (pv 3) (pa_cons pe_int pa_nil))))))))), ?_⟩
    walk_at "kb"
    refine ⟨fun σ' H' => H' = H ∧ ∃ c : Int, σ' = [some (.ref a), some (.int k), some (.int c), none], ?_, fun σ1 H1 z => ?_⟩
    · have hl : ((ns.map V.int).length : Int) = ns.length := by rw [List.length_map]
      walk_at "kb"
      refine ite2 (fun h => ?_) (fun h => ?_)
      · have h1 : k < (ns.length : Int) := by have := of_decide_eq_true h; omega
        have h2 : k.toNat < ns.length := by omega
        refine ⟨_, rfl, _, rfl, a, _, k, _, rfl, rfl, hS, at_of (j := k.toNat) (by omega) (by rw [List.getElem?_map, List.getElem?_eq_getElem h2]; rfl), ?_⟩
        walk_at "kb"
        exact ⟨rfl, _, rfl⟩
      · walk_at "kb"
        refine ite2 (fun h' => ?_) (fun h' => ?_)
        · have h0 : 0 < (ns.length : Int) := by have := of_decide_eq_true h'; omega
          walk_at "kb"
          have m0 := Int.emod_nonneg k (show ((ns.map V.int).length : Int) ≠ 0 by omega)
          have m1 := Int.emod_lt_of_pos k (show (0 : Int) < ((ns.map V.int).length : Int) by omega)
          have h2 : (k % ((ns.map V.int).length : Int)).toNat < ns.length := by omega
          refine ⟨a, _, _, _, rfl, rfl, hS, at_of (j := (k % ((ns.map V.int).length : Int)).toNat) (by omega) (by rw [List.getElem?_map, List.getElem?_eq_getElem h2]; rfl), ?_⟩
          walk_at "kb"
          exact ⟨rfl, _, rfl⟩
        · exact ⟨rfl, _, rfl⟩
    · obtain ⟨rfl, c, rfl⟩ := z
      walk_at "kb"
      intro l hl
      walk_at "kb"
      have hB : SqL K (upd H1 l (.lst [.int 0, .int c])) l [.int 0, .int c] := SqL.of upd_same
      have hi : ∃ v : Int, 0 ≤ v ∧ atI [V.int 0, V.int c] (if decide ((10 : Int) ^ (18 : Int).toNat ≤ c) = true then 1 else 0) = some (.int v) := by
        by_cases hd : (10 : Int) ^ (18 : Int).toNat ≤ c
        · rw [if_pos (decide_eq_true hd)]
          exact ⟨c, Int.le_trans (by decide) hd, atI_nat (j := 1) rfl⟩
        · rw [if_neg fun z => hd (of_decide_eq_true z)]
          exact ⟨0, Int.le_refl 0, atI_nat (j := 0) rfl⟩
      obtain ⟨v, hv, hi⟩ := hi
      refine ⟨l, _, _, _, rfl, rfl, hB, hi, ?_⟩
      walk_at "kb"
      intro p hp
      have hp1 : H1 p = none := by
        have hne : p ≠ l := fun e => by rw [e, upd_same] at hp; cases hp
        rw [upd_ne hne] at hp; exact hp
      refine q p _ hp1 (fun b o e => ?_) ⟨v, _, 0, upd_same, hv, ?_, ?_⟩
      · rw [upd_ne (ne_of_none e hp1), upd_ne (ne_of_none e hl)]; exact e
      · omega
      · omega
end

/-! ## drawn words -/
namespace Dw
theorem join_bits (bits : List Bool) : Txt.join ("" : Str) (bits.map fun x => enc [x]) = enc bits := by
  have h := join_enc (bits.map fun x => [x])
  have e : (bits.map fun x => [x]).flatten = bits := by induction bits with
    | nil => rfl
    | cons x r ih => rw [List.map_cons, List.flatten_cons, ih (join_enc _)]; rfl
  rw [List.map_map, e] at h
  exact h
theorem sum_ones (bits : List Bool) : ((bits.map fun x => enc [x]).map (·.length)).sum = bits.length := by
  induction bits with
  | nil => rfl
  | cons x r ih => rw [List.map_cons, List.map_cons, List.sum_cons, ih, enc_len]; simp; omega
theorem rJ1 {K : PySem.W.Frag} {p : Addr} {bits : List Bool} {H : Hp} (h : H p = some (.lst (bits.map fun x => V.str (enc [x])))) : SqL K H p ((bits.map fun x => enc [x]).map V.str) := SqL.of (by rw [List.map_map]; exact h)
theorem rJ2 {bits : List Bool} (hl : bits.length ≤ 1000) : ((bits.map fun x => enc [x]).map (·.length)).sum + (bits.map fun x => enc [x]).length * ("" : Str).length ≤ 16777216 := by
  rw [sum_ones]
  have e : ("" : Str).length = 0 := by decide +kernel
  rw [e]
  omega
end Dw
open Dw

section
variable {P : Program} {w : World} {K : PySem.W.Frag} {mg : Str → Option Value} {base : Heap}
end

/-! ## words in order -/
namespace Wd
theorem pr_cop (u : List Bool) : Nat.gcd (pr u).1 (pr u).2 = 1 := by
  induction u with
  | nil => rfl
  | cons b u ih =>
    cases b
    · show Nat.gcd (pr u).1 ((pr u).1 + (pr u).2) = 1
      rw [Nat.gcd_self_add_right]; exact ih
    · show Nat.gcd ((pr u).1 + (pr u).2) (pr u).2 = 1
      rw [Nat.gcd_add_self_left]; exact ih
/-- the sign of a letter in the order of words: the end between l and r -/
def pc (b : Bool) : Nat := if b then 99 else 97
end Wd

/-! ## errors -/
section
variable {P : Program} {w : World} {K : PySem.W.Frag} {mg : Str → Option Value} {base : Heap}
theorem ok_err_InvalidWord {f C U : Addr} {fd : FuncData} (F : Fun K "__init__" "InvalidWord.__init__" S_InvalidWord__init_ f fd) (hU : UeC K U) (hm : mg "UnmarkedError" = some (.ref U)) (O : OexC K C) : FnOk P w K mg base CX0 1 f fd ["self"] (sp_err0 C) := by
  refine F.ok SC_InvalidWord__init_ (fun vs H Q E h => ?_) (fun cdv A outer s H vs Q E hr h => ?_)
  · obtain ⟨a, rfl, _⟩ := h
    rfl
  · obtain ⟨a, rfl, ha, q⟩ := h
    refine ⟨_, (pss_one (ps_expr (pe_uinit hU rfl hm (pa_cons (pv 0) (pa_cons pe_str pa_nil))))), ?_⟩
    exact ⟨_, rfl, a, C, _, rfl, by decide, O, ha, q⟩
theorem ok_err_InvalidRatio {f C U : Addr} {fd : FuncData} (F : Fun K "__init__" "InvalidRatio.__init__" S_InvalidRatio__init_ f fd) (hU : UeC K U) (hm : mg "UnmarkedError" = some (.ref U)) (O : OexC K C) : FnOk P w K mg base CX0 1 f fd ["self"] (sp_err0 C) := by
  refine F.ok SC_InvalidRatio__init_ (fun vs H Q E h => ?_) (fun cdv A outer s H vs Q E hr h => ?_)
  · obtain ⟨a, rfl, _⟩ := h
    rfl
  · obtain ⟨a, rfl, ha, q⟩ := h
    refine ⟨_, (pss_one (ps_expr (pe_uinit hU rfl hm (pa_cons (pv 0) (pa_cons pe_str pa_nil))))), ?_⟩
    exact ⟨_, rfl, a, C, _, rfl, by decide, O, ha, q⟩
theorem ok_err_InvalidChange {f C U : Addr} {fd : FuncData} (F : Fun K "__init__" "InvalidChange.__init__" S_InvalidChange__init_ f fd) (hU : UeC K U) (hm : mg "UnmarkedError" = some (.ref U)) (O : OexC K C) : FnOk P w K mg base CX0 1 f fd ["self"] (sp_err0 C) := by
  refine F.ok SC_InvalidChange__init_ (fun vs H Q E h => ?_) (fun cdv A outer s H vs Q E hr h => ?_)
  · obtain ⟨a, rfl, _⟩ := h
    rfl
  · obtain ⟨a, rfl, ha, q⟩ := h
    refine ⟨_, (pss_one (ps_expr (pe_uinit hU rfl hm (pa_cons (pv 0) (pa_cons pe_str pa_nil))))), ?_⟩
    exact ⟨_, rfl, a, C, _, rfl, by decide, O, ha, q⟩
theorem ok_err_InvalidEdge {f C U : Addr} {fd : FuncData} (F : Fun K "__init__" "InvalidEdge.__init__" S_InvalidEdge__init_ f fd) (hU : UeC K U) (hm : mg "UnmarkedError" = some (.ref U)) (O : OexC K C) : FnOk P w K mg base CX0 1 f fd ["self"] (sp_err0 C) := by
  refine F.ok SC_InvalidEdge__init_ (fun vs H Q E h => ?_) (fun cdv A outer s H vs Q E hr h => ?_)
  · obtain ⟨a, rfl, _⟩ := h
    rfl
  · obtain ⟨a, rfl, ha, q⟩ := h
    refine ⟨_, (pss_one (ps_expr (pe_uinit hU rfl hm (pa_cons (pv 0) (pa_cons pe_str pa_nil))))), ?_⟩
    exact ⟨_, rfl, a, C, _, rfl, by decide, O, ha, q⟩
end

/-! ## lengths and ratios -/
namespace Rt
def isI : V → Bool | .int _ => true | .bl _ => true | _ => false
def isB : V → Bool | .bl _ => true | _ => false
def isS : V → Bool | .str _ => true | _ => false
def isLen : V → Bool | .int i => decide (1 ≤ i) | _ => false
/-- what isinstance tells of a value against int, bool and str -/
structure Kd (K : PySem.W.Frag) (H : Hp) (x : V) : Prop where
  ex : ∃ t, TyX K H x t ∧ PySem.W.kitOne K t (.type "int") = some (isI x) ∧ PySem.W.kitOne K t (.type "bool") = some (isB x) ∧ PySem.W.kitOne K t (.type "str") = some (isS x)
theorem Kd.int {K : PySem.W.Frag} {H : Hp} (i : Int) : Kd K H (.int i) := ⟨_, .base (.int i), kit_ty (show kitB "int" "int" = some true by decide +kernel), kit_ty (show kitB "int" "bool" = some false by decide +kernel), kit_ty (show kitB "int" "str" = some false by decide +kernel)⟩
theorem Kd.bl {K : PySem.W.Frag} {H : Hp} (i : Bool) : Kd K H (.bl i) := ⟨_, .base (.bl i), kit_ty (show kitB "bool" "int" = some true by decide +kernel), kit_ty (show kitB "bool" "bool" = some true by decide +kernel), kit_ty (show kitB "bool" "str" = some false by decide +kernel)⟩
theorem Kd.str {K : PySem.W.Frag} {H : Hp} (i : Str) : Kd K H (.str i) := ⟨_, .base (.str i), kit_ty (show kitB "str" "int" = some false by decide +kernel), kit_ty (show kitB "str" "bool" = some false by decide +kernel), kit_ty (show kitB "str" "str" = some true by decide +kernel)⟩
theorem Kd.non {K : PySem.W.Frag} {H : Hp} : Kd K H .non := ⟨_, .base .non, kit_ty (show kitB "NoneType" "int" = some false by decide +kernel), kit_ty (show kitB "NoneType" "bool" = some false by decide +kernel), kit_ty (show kitB "NoneType" "str" = some false by decide +kernel)⟩
theorem Kd.lst {K : PySem.W.Frag} {H : Hp} {p : Addr} {xs : List V} (h : H p = some (.lst xs)) : Kd K H (.ref p) := ⟨_, .base (.lst h), kit_ty (show kitB "list" "int" = some false by decide +kernel), kit_ty (show kitB "list" "bool" = some false by decide +kernel), kit_ty (show kitB "list" "str" = some false by decide +kernel)⟩
theorem Kd.tup {K : PySem.W.Frag} {H : Hp} {p : Addr} {xs : List V} (h : H p = some (.tup xs)) : Kd K H (.ref p) := ⟨_, .base (.tup h), kit_ty (show kitB "tuple" "int" = some false by decide +kernel), kit_ty (show kitB "tuple" "bool" = some false by decide +kernel), kit_ty (show kitB "tuple" "str" = some false by decide +kernel)⟩
theorem tyX_at {K : PySem.W.Frag} {H H' : Hp} {x : V} {t : Value} (h : TyX K H x t) (s : ∀ a o, x = .ref a → H a = some o → H' a = some o) : TyX K H' x t := by
  cases h with
  | base h => exact .base (by
      cases h with
      | non => exact .non
      | bl x => exact .bl x
      | int i => exact .int i
      | str x => exact .str x
      | flt x => exact .flt x
      | lst e => exact .lst (s _ _ rfl e)
      | frz e => exact .frz (s _ _ rfl e)
      | tup e => exact .tup (s _ _ rfl e)
      | dK e => exact .dK (s _ _ rfl e)
      | dT e => exact .dT (s _ _ rfl e)
      | ins e cl ha hn htk hm => exact .ins (s _ _ rfl e) cl ha hn htk hm)
  | byt b => exact .byt b
  | set e => exact .set (s _ _ rfl e)
  | kList e c => exact .kList e c
  | kTuple e c => exact .kTuple e c
  | kDict e c => exact .kDict e c
  | fTuple e => exact .fTuple (s _ _ rfl e)
  | fDict e => exact .fDict (s _ _ rfl e)
theorem Kd.at {K : PySem.W.Frag} {H H' : Hp} {x : V} (h : Kd K H x) (s : ∀ a o, x = .ref a → H a = some o → H' a = some o) : Kd K H' x := let ⟨t, ty, r⟩ := h.ex; ⟨t, tyX_at ty s, r⟩
theorem Kd.same {K : PySem.W.Frag} {H H' : Hp} {x : V} (h : Kd K H x) (s : Same H H') : Kd K H' x := h.at fun a o _ => s a o
def sp_isint (K : PySem.W.Frag) : Sp := fun vs H Q _ => ∃ x, vs = [x] ∧ Kd K H x ∧ Q (.bl (isI x && !isB x)) H
def sp_islen (K : PySem.W.Frag) : Sp := fun vs H Q _ => ∃ x, vs = [x] ∧ Kd K H x ∧ Q (.bl (isLen x)) H
def sp_common : Sp := fun vs H Q _ => ∃ i j : Int, vs = [.int i, .int j] ∧ 0 < i ∧ 0 < j ∧ Q (.int (Int.gcd i j)) H
/-- the attributes of a ratio -/
def rf (a b : Int) : List (Str × V) := putF "second" (.int b) (putF "first" (.int a) [])
theorem n_fs : ¬ (("first" : Str) = "second") := by decide +kernel
theorem rf1 (a b : Int) : (rf a b).lookup ("first" : Str) = some (.int a) := by
  unfold rf; rw [lookup_putF, if_neg n_fs, lookup_putF, if_pos rfl]
theorem rf2 (a b : Int) : (rf a b).lookup ("second" : Str) = some (.int b) := by
  unfold rf; rw [lookup_putF, if_pos rfl]
def RatAt (C : Addr) (H : Hp) (p : Addr) (a b : Int) : Prop := ∃ dx, H p = some (.ins C dx (rf a b))
theorem RatAt.same {C : Addr} {H H' : Hp} {p : Addr} {a b : Int} (x : RatAt C H p a b) (s : Same H H') : RatAt C H' p a b := let ⟨d, h⟩ := x; ⟨d, s _ _ h⟩
structure RatT (K : PySem.W.Frag) (mg : Str → Option Value) (C : Addr) : Prop where
  ins : C8.InsC K C
  n1 : NoAttr K C "first"
  n2 : NoAttr K C "second"
  mgC : mg "Ratio" = some (.ref C)
  nf : PySem.W.notFirst K C (.ref C) = true
  ne : PySem.W.findIn K (.ref C) "__ne__" = some (some (.builtin "object.__ne__"))
  so : PySem.W.subIn K (.ref C) (.type "object") = some true
theorem RatT.cl {K : PySem.W.Frag} {mg : Str → Option Value} {C : Addr} (T : RatT K mg C) : Cls K C := T.ins.cl
theorem RatT.ty {K : PySem.W.Frag} {mg : Str → Option Value} {C : Addr} (T : RatT K mg C) {H : Hp} {p dx : Addr} {fs : List (Str × V)} (h : H p = some (.ins C dx fs)) : TyX K H (.ref p) (.ref C) := .base (.ins h T.ins.cl T.ins.ha T.ins.hn T.ins.htk T.ins.hm)
/-- Ratio(first, second): made, or refused -/
def sp_init (C IR : Addr) (K : PySem.W.Frag) : Sp := fun vs H Q E => ∃ (x dx : Addr) (u v : V), vs = [.ref x, u, v] ∧ Kd K H u ∧ Kd K H v ∧ H x = some (.ins C dx []) ∧
  (isLen u = true → isLen v = true → ∃ i j : Int, u = .int i ∧ v = .int j ∧ i.natAbs < 2 ^ 1000 ∧ j.natAbs < 2 ^ 1000 ∧ ∀ H' : Hp, (∀ a o, a ≠ x → H a = some o → H' a = some o) → RatAt C H' x (i / (Int.gcd i j : Nat)) (j / (Int.gcd i j : Nat)) → Q .non H') ∧
  ((isLen u && isLen v) = false → E (.ref IR) none H)
/-- a comparison of two ratios -/
def sp_cmp (C : Addr) (r : Int → Int → Int → Int → Bool) : Sp := fun vs H Q _ => ∃ (p q : Addr) (a b c d : Int), vs = [.ref p, .ref q] ∧ RatAt C H p a b ∧ RatAt C H q c d ∧ a.natAbs < 2 ^ 1000 ∧ b.natAbs < 2 ^ 1000 ∧ c.natAbs < 2 ^ 1000 ∧ d.natAbs < 2 ^ 1000 ∧ Q (.bl (r a b c d)) H
theorem gcd_step {x y : Int} (hx : 0 ≤ x) (hy : 0 ≤ y) : Int.gcd y (x % y) = Int.gcd x y := by
  obtain ⟨a, rfl⟩ := Int.eq_ofNat_of_zero_le hx
  obtain ⟨b, rfl⟩ := Int.eq_ofNat_of_zero_le hy
  show Nat.gcd b ((a : Int) % (b : Int)).natAbs = Nat.gcd a b
  have e : ((a : Int) % (b : Int)).natAbs = a % b := by
    rw [← Int.natCast_emod, Int.natAbs_natCast]
  rw [e, Nat.gcd_comm b, ← Nat.gcd_rec, Nat.gcd_comm]
theorem wm {i j : Int} (h1 : i.natAbs < 2 ^ 1000) (h2 : j.natAbs < 2 ^ 1000) : CMulW i j := wide_mul h1 h2 (by decide) (by decide) (by decide)
/-- a text of l and r alone -/
def goodC (z : Str) : Bool := (z.cps.toList.map fun c => decide (c ∈ ("lr" : Str).cps.toList)).all id
def goodW : V → Bool | .str z => goodC z | _ => false
theorem lr_cps : ("lr" : Str).cps.toList = [108, 114] := by decide +kernel
theorem good_enc (u : List Bool) : goodC (enc u) = true := by
  unfold goodC
  rw [enc_cps, List.map_map, List.all_eq_true]
  intro x hx
  obtain ⟨b, _, rfl⟩ := List.mem_map.mp hx
  cases b <;> decide +kernel
theorem good_is {z : Str} (h : goodC z = true) : ∃ u, z = enc u := by
  have hm : ∀ c ∈ z.cps.toList, c = 108 ∨ c = 114 := fun c hc => by
    unfold goodC at h
    rw [List.all_eq_true] at h
    have e := h _ (List.mem_map.mpr ⟨c, hc, rfl⟩)
    have e := of_decide_eq_true (show decide (c ∈ ("lr" : Str).cps.toList) = true from e)
    rw [lr_cps] at e
    simpa using e
  refine ⟨z.cps.toList.map fun c => decide (c = 114), ?_⟩
  obtain ⟨cps⟩ := z
  unfold enc
  rw [List.map_map]
  congr 1
  have : ∀ l : List Nat, (∀ c ∈ l, c = 108 ∨ c = 114) → l.map (cd ∘ fun c => decide (c = 114)) = l := by
    intro l
    induction l with
    | nil => intro _; rfl
    | cons c l ih =>
      intro h
      rw [List.map_cons, ih fun c hc => h c (List.mem_cons_of_mem _ hc)]
      rcases h c (List.mem_cons_self) with rfl | rfl <;> rfl
  rw [this _ hm]
def sp_need (IW : Addr) (K : PySem.W.Frag) : Sp := fun vs H Q E => ∃ x, vs = [x] ∧ Kd K H x ∧ (∀ z, x = .str z → z.length ≤ 100000) ∧ (goodW x = true → ∀ H', Same H H' → Q .non H') ∧ (goodW x = false → ∀ H', Same H H' → E (.ref IW) none H')
def sp_wol : Sp := fun vs H Q _ => ∃ u : List Bool, vs = [.int (pr u).1, .int (pr u).2] ∧ u.length ≤ 900 ∧ ∀ H', Same H H' → Q (.str (enc u)) H'
def sp_word (C : Addr) : Sp := fun vs H Q _ => ∃ (p : Addr) (u : List Bool), vs = [.ref p] ∧ RatAt C H p (pr u).1 (pr u).2 ∧ u.length ≤ 900 ∧ ∀ H', Same H H' → Q (.str (enc u)) H'
theorem pr_small {u : List Bool} (h : u.length ≤ 900) : ((pr u).1 : Int).natAbs < 2 ^ 1000 ∧ ((pr u).2 : Int).natAbs < 2 ^ 1000 := by
  have q := pr_le u
  have p := pr_pos u
  have e : 2 ^ (u.length + 1) ≤ 2 ^ 1000 := Nat.pow_le_pow_right (by decide) (by omega)
  rw [Int.natAbs_natCast, Int.natAbs_natCast]
  omega
theorem pr_div (u : List Bool) : ((pr u).1 : Int) / ((Int.gcd ((pr u).1 : Int) ((pr u).2 : Int) : Nat) : Int) = (pr u).1 ∧ ((pr u).2 : Int) / ((Int.gcd ((pr u).1 : Int) ((pr u).2 : Int) : Nat) : Int) = (pr u).2 := by
  have e : Int.gcd ((pr u).1 : Int) ((pr u).2 : Int) = 1 := pr_cop u
  rw [e]
  simp
theorem pr_eq {u : List Bool} (h : (pr u).1 = (pr u).2) : u = [] := by
  cases u with
  | nil => rfl
  | cons b u => have := pr_pos u; cases b <;> simp only [pr, Bool.false_eq_true, if_false, if_true] at h <;> omega
/-- a run of r ahead -/
theorem pr_run_r (u : List Bool) (h : (pr u).2 < (pr u).1) : ∃ u' : List Bool, u = List.replicate (((pr u).1 - 1) / (pr u).2) true ++ u' ∧ pr u' = ((pr u).1 - (((pr u).1 - 1) / (pr u).2) * (pr u).2, (pr u).2) := by
  induction u with
  | nil => exact absurd h (by decide)
  | cons b u ih =>
    have p := pr_pos u
    cases b with
    | false => simp only [pr, Bool.false_eq_true, if_false] at h; omega
    | true =>
      simp only [pr, if_true] at h ⊢
      generalize hx : (pr u).1 = x at *
      generalize hy : (pr u).2 = y at *
      have d1 : (x + y - 1) / y = (x - 1) / y + 1 := by
        rw [show x + y - 1 = (x - 1) + y by omega, Nat.add_div_right _ p.2]
      by_cases c : y < x
      · obtain ⟨u', e1, e2⟩ := ih c
        refine ⟨u', ?_, ?_⟩
        · rw [d1, List.replicate_succ, List.cons_append, ← e1]
        · rw [d1, e2, Nat.add_mul]
          congr 1
          omega
      · have z : (x - 1) / y = 0 := Nat.div_eq_of_lt (by omega)
        refine ⟨u, ?_, ?_⟩
        · rw [d1, z]; rfl
        · rw [d1, z]
          rw [← hx, ← hy]
          simp
theorem pr_run_l (u : List Bool) (h : (pr u).1 < (pr u).2) : ∃ u' : List Bool, u = List.replicate (((pr u).2 - 1) / (pr u).1) false ++ u' ∧ pr u' = ((pr u).1, (pr u).2 - (((pr u).2 - 1) / (pr u).1) * (pr u).1) := by
  induction u with
  | nil => exact absurd h (by decide)
  | cons b u ih =>
    have p := pr_pos u
    cases b with
    | true => simp only [pr, if_true] at h; omega
    | false =>
      simp only [pr, Bool.false_eq_true, if_false] at h ⊢
      generalize hx : (pr u).1 = x at *
      generalize hy : (pr u).2 = y at *
      have d1 : (x + y - 1) / x = (y - 1) / x + 1 := by
        rw [show x + y - 1 = (y - 1) + x by omega, Nat.add_div_right _ p.1]
      by_cases c : x < y
      · obtain ⟨u', e1, e2⟩ := ih c
        refine ⟨u', ?_, ?_⟩
        · rw [d1, List.replicate_succ, List.cons_append, ← e1]
        · rw [d1, e2, Nat.add_mul]
          congr 1
          omega
      · have z : (y - 1) / x = 0 := Nat.div_eq_of_lt (by omega)
        refine ⟨u, ?_, ?_⟩
        · rw [d1, z]; rfl
        · rw [d1, z]
          rw [← hx, ← hy]
          simp
end Rt
open Rt

section
variable {P : Program} {w : World} {K : PySem.W.Frag} {mg : Str → Option Value} {base : Heap}
theorem ok_isint {f : Addr} {fd : FuncData} (F : Fun K "is_integer" "is_integer" S_is_integer f fd) (T : Txt K mg) : FnOk P w K mg base CX0 1 f fd ["value"] (sp_isint K) := by
  refine F.ok SC_is_integer (fun vs H Q E h => ?_) (fun cdv A outer s H vs Q E hr h => ?_)
  · obtain ⟨x, rfl, _⟩ := h
    rfl
  · obtain ⟨x, rfl, ⟨t, ty, h1, h2, _⟩, q⟩ := h
    refine ⟨_, (pss_one (ps_ret (pe_and (pe_callB call_isi (by rfl) T.b_isinstance (by decide +kernel) (pa_cons (pv 0) (pa_cons (pe_bltn (v := .ty "int") (by rfl) T.b_int boot_int rfl) pa_nil))) (pe_one (pe_not (pe_callB call_isi (by rfl) T.b_isinstance (by decide +kernel) (pa_cons (pv 0) (pa_cons (pe_bltn (v := .ty "bool") (by rfl) T.b_bool boot_bool rfl) pa_nil)))))))), ?_⟩
    refine ⟨_, rfl, x, _, t, _, _, rfl, .ty _, ty, h1, isI x, rfl, ?_⟩
    by_cases c : isI x = true
    · rw [c] at q ⊢
      refine ifT rfl ?_
      refine ⟨_, rfl, x, _, t, _, _, rfl, .ty _, ty, h2, isB x, rfl, q⟩
    · rw [Bool.not_eq_true] at c
      rw [c] at q ⊢
      exact ifF rfl q
--@len
theorem ok_islen {f : Addr} {fd : FuncData} (F : Fun K "is_length" "is_length" S_is_length f fd) (T : Txt K mg) (C_isint : FnC P w K mg base CX0 1 "is_integer" ["value"] (sp_isint K)) : FnOk P w K mg base CX0 2 f fd ["value"] (sp_islen K) := by
  refine F.ok SC_is_length (fun vs H Q E h => ?_) (fun cdv A outer s H vs Q E hr h => ?_)
  · obtain ⟨x, rfl, _⟩ := h
    rfl
  · obtain ⟨x, rfl, kd, q⟩ := h
    refine ⟨_, (pss_one (ps_ret (pe_and (pe_callC C_isint hr rfl (pa_cons (pv 0) pa_nil)) (pe_one (pe_cmpR op_ge (pv 0) pe_int (nomark _)))))), ?_⟩
    refine ⟨_, rfl, x, rfl, kd, _, rfl, ?_⟩
    cases x with
    | int i =>
      refine ifT rfl ?_
      walk_at "kb"
      exact q
    | bl b => exact ifF rfl q
    | non => exact ifF rfl q
    | str z => exact ifF rfl q
    | byt z => exact ifF rfl q
    | flt z => exact ifF rfl q
    | ref z => exact ifF rfl q
    | ty z => exact ifF rfl q
theorem ok_common {f : Addr} {fd : FuncData} (F : Fun K "common_length" "common_length" S_common_length f fd) (T : Txt K mg) : FnOk P w K mg base CX0 1 f fd ["first", "second"] sp_common := by
  refine F.ok SC_common_length (fun vs H Q E h => ?_) (fun cdv A outer s H vs Q E hr h => ?_)
  · obtain ⟨i, j, rfl, _⟩ := h
    rfl
  · obtain ⟨i, j, rfl, h1, h2, q⟩ := h
    refine ⟨_, (pss_cons (ps_while PassesOwn.never (pt_cmpR op_ne (pv 1) pe_int (nomark _)) (pss_one (ps_par (i := 0) (j := 1) (by rfl) SC_common_length.nd rfl rfl (by decide) rfl rfl (pa_cons (pv 1) (pa_cons (pe_op op_mod (pv 0) (pv 1)) pa_nil)) (by rfl))))
      (pss_one (ps_ret (pv 0)))), ?_⟩
    refine while_by (fun σ H' => H' = H ∧ ∃ x y : Int, 0 < x ∧ 0 ≤ y ∧ Int.gcd x y = Int.gcd i j ∧ σ = [some (.int x), some (.int y)]) (fun σ _ => match σ with | [_, some (.int y)] => y.toNat | _ => 0)
      ⟨rfl, i, j, h1, Int.le_of_lt h2, rfl, rfl⟩ (fun σ H1 hP => ?_) (fun σ H Q Q' h q => ?_)
    · obtain ⟨rfl, x, y, hx, hy, hg, rfl⟩ := hP
      walk_at "kb"
      refine ite2 (fun h => ?_) (fun h => ?_)
      · have hy0 : y ≠ 0 := fun e => by subst e; exact absurd h (by decide)
        walk_at "kb"
        refine ⟨⟨rfl, y, x % y, by omega, Int.emod_nonneg _ hy0, ?_, rfl⟩, ?_⟩
        · rw [← hg]; exact gcd_step (Int.le_of_lt hx) hy
        · show (x % y).toNat < y.toNat
          have := Int.emod_lt_of_pos x (show 0 < y by omega)
          omega
      · have hy0 : y = 0 := by
          have : decide (V.int y = V.int 0) = true := by simpa using h
          exact V.int.inj (of_decide_eq_true this)
        subst hy0
        refine ⟨_, rfl, ?_⟩
        have e : x = ((Int.gcd i j : Nat) : Int) := by rw [← hg, Int.gcd_zero_right]; omega
        rw [e]
        exact q
    · obtain ⟨v, h1, e, v2, e2, q⟩ := q
      exact ⟨v, h1, e, v2, e2, h _ _ q⟩
theorem ok_init {f C IR : Addr} {fd : FuncData} (F : Fun K "__init__" "Ratio.__init__" S_Ratio__init_ f fd) (T : Txt K mg) (R : RatT K mg C) (E_InvalidRatio : ErC P w K mg base "InvalidRatio" IR) (C_islen : FnC P w K mg base CX0 2 "is_length" ["value"] (sp_islen K)) (C_common : FnC P w K mg base CX0 1 "common_length" ["first", "second"] sp_common) :
    FnOk P w K mg base (L2.CX P w) 4 f fd ["self", "first", "second"] (sp_init C IR K) := by
  refine F.okX SC_Ratio__init_ (fun vs H Q E h => ?_) (fun cdv A outer s H vs Q E hr h => ?_)
  · obtain ⟨x, dx, u, v, rfl, _⟩ := h
    rfl
  · obtain ⟨x, dx, u, v, rfl, ku, kv, hx, ok, bad⟩ := h
    refine ⟨_, (pss_cons (ps_if (PW.pt (pw_or (pt_not (pt_val (pe_callC C_islen (hr.mono (by decide)) rfl (pa_cons (pv 1) pa_nil)))) (pw_or1 (pt_not (pt_val (pe_callC C_islen (hr.mono (by decide)) rfl (pa_cons (pv 2) pa_nil))))))) (pss_one (ps_raise0 E_InvalidRatio (hr.mono (by decide)) rfl (takes_of rfl rfl rfl rfl) rfl)) pss_nil)
      (pss_cons (ps_set (i := 3) SC_Ratio__init_.nd rfl (.inl rfl) (pe_callC C_common (hr.mono (by decide)) rfl (pa_cons (pv 1) (pa_cons (pv 2) pa_nil))))
      (pss_cons (ps_fld (pv 0) (pe_op op_fdivW (pv 1) (pv 3)) rfl)
      (pss_one (ps_fld (pv 0) (pe_op op_fdivW (pv 2) (pv 3)) rfl))))), ?_⟩
    refine ⟨_, rfl, _, rfl, ku, isLen u, rfl, ?_⟩
    by_cases lu : isLen u = true
    · rw [lu]
      refine ifF rfl ⟨_, rfl, _, rfl, kv, isLen v, rfl, ?_⟩
      by_cases lv : isLen v = true
      · rw [lv]
        refine ifF rfl ?_
        obtain ⟨i, j, rfl, rfl, i1, j1, q⟩ := ok lu lv
        have i0 : 0 < i := by have := of_decide_eq_true lu; omega
        have j0 : 0 < j := by have := of_decide_eq_true lv; omega
        have g0 : 0 < ((Int.gcd i j : Nat) : Int) := by have := Int.gcd_pos_of_ne_zero_left j (show i ≠ 0 by omega); omega
        have g1 : ((Int.gcd i j : Nat) : Int) ≤ i := Int.le_of_dvd i0 (Int.gcd_dvd_left _ _)
        have hd : CDivW i ((Int.gcd i j : Nat) : Int) := wide_div (b := 1000) g0 (by omega) (by decide) (by decide)
        have hd2 : CDivW j ((Int.gcd i j : Nat) : Int) := hd
        walk_at "kb"
        refine ⟨x, C, dx, _, rfl, hx, R.ins.cl, R.n1, by show 0 < 1000; decide, ?_⟩
        walk_at "kb"
        refine ⟨x, C, dx, _, rfl, upd_same, R.ins.cl, R.n2, by show 1 < 1000; decide, ?_⟩
        refine q _ (fun a o n e => by rw [upd_ne n, upd_ne n]; exact e) ⟨dx, by rw [upd_same]; rfl⟩
      · rw [Bool.not_eq_true] at lv
        rw [lv]
        refine ifT rfl ?_
        exact bad (by rw [lv, Bool.and_false])
    · rw [Bool.not_eq_true] at lu
      rw [lu]
      refine ifT rfl ?_
      exact bad (by rw [lu]; rfl)
theorem ok_need {f IW : Addr} {fd : FuncData} (F : Fun K "need_word" "need_word" S_need_word f fd) (T : Txt K mg) (E_InvalidWord : ErC P w K mg base "InvalidWord" IW) : FnOk P w K mg base (L2.CX P w) 4 f fd ["value"] (sp_need IW K) := by
  refine F.okX SC_need_word (fun vs H Q E h => ?_) (fun cdv A outer s H vs Q E hr h => ?_)
  · obtain ⟨x, rfl, _⟩ := h
    rfl
  · obtain ⟨x, rfl, ⟨t, ty, _, _, h3⟩, hz, ok, bad⟩ := h
    refine ⟨_, (pss_one (ps_if (PW.pt (pw_or (pt_not (pt_val (pe_callB call_isi (by rfl) T.b_isinstance (by decide +kernel) (pa_cons (pv 0) (pa_cons (pe_bltn (v := .ty "str") (by rfl) T.b_str boot_str rfl) pa_nil))))) (pw_or1 (pt_not (pt_val (pe_callB (cr_all rfl) (by rfl) T.b_all (by decide +kernel) (pa_cons (pe_lc (own := [("letter", 1)]) (g := gName 1) (by rfl) SC_need_word.nd (pi_str (pv 0)) (blkOk_by (own := [("letter", 1)]) (N := N_need_word) (sc := defScope S_need_word) (by decide +kernel)) (fun _ _ _ _ _ => pg_name (i := 1) SC_need_word.nd rfl (Or.inl rfl)) (fun _ _ _ _ _ => pts_nil) (fun _ _ _ _ _ => (pe_cmpR op_in_sign (pv 1) pe_str rfl))) pa_nil))))))) (pss_one (ps_raise0 E_InvalidWord (hr.mono (by decide)) rfl (takes_of rfl rfl rfl rfl) rfl)) pss_nil)), ?_⟩
    refine ⟨_, rfl, x, _, t, _, _, rfl, .ty _, ty, h3, isS x, rfl, ?_⟩
    by_cases c : isS x = true
    · rw [c]
      obtain ⟨z, rfl⟩ : ∃ z, x = .str z := by cases x <;> first | exact ⟨_, rfl⟩ | cases c
      have hl := hz z rfl
      refine ifF rfl ?_
      walk_at "kb"
      intro D hD
      refine lcR_str (z := z) (fun i H' => (∀ b o, b ≠ D → H b = some o → H' b = some o) ∧ H' D = some (.lst (((z.cps.toList.take i).map fun c => decide (c ∈ ("lr" : Str).cps.toList)).map V.bl))) ⟨fun b o n e => by rw [upd_ne n]; exact e, upd_same⟩ (fun i c H1 hi hc m => ?_) (gName_mono _) (fun H1 m => ?_)
      · obtain ⟨kp, hH⟩ := m
        have hc' : z.cps.toList[i]? = some c := by rw [Array.getElem?_toList]; exact hc
        refine ⟨rfl, _, rfl, c, _, rfl, rfl, _, hH, ?_, fun b o n e => by rw [upd_ne n]; exact kp b o n e, ?_⟩
        · rw [List.length_map, List.length_map, List.length_take]
          exact szs (by have : i < z.length := hi; omega)
        · rw [upd_same, List.take_succ, hc', List.map_append, List.map_append]; rfl
      · obtain ⟨kp, hH⟩ := m
        have hz' : z.cps.size = z.cps.toList.length := by simp
        rw [hz', List.take_length] at hH
        have sm : Same H H1 := fun b o e => kp b o (ne_of_none e hD) e
        refine ⟨_, _, rfl, SqL.of hH, _, rfl, ?_⟩
        show if (!(goodC z)) = true then _ else _
        by_cases g : goodC z = true
        · rw [g]
          exact ifF rfl (ok g H1 sm)
        · rw [Bool.not_eq_true] at g
          rw [g]
          exact ifT rfl (bad g H1 sm)
    · rw [Bool.not_eq_true] at c
      rw [c]
      refine ifT rfl ?_
      refine bad ?_ H (Same.refl H)
      cases x <;> first | rfl | cases c
--@*
end

namespace Rt
theorem sum_enc (ys : List (List Bool)) : ((ys.map enc).map (·.length)).sum = ys.flatten.length := by
  induction ys with
  | nil => rfl
  | cons y r ih => rw [List.map_cons, List.map_cons, List.sum_cons, ih, enc_len, List.flatten_cons, List.length_append]
theorem wd {i j : Int} (h : 0 < j) (h1 : j.natAbs < 2 ^ 1000) : CDivW i j := wide_div (b := 1000) h h1 (by decide) (by decide)
theorem int_run {a b : Nat} (h : b < a) (hb : 0 < b) : ((a : Int) - 1) / (b : Int) = (((a - 1) / b : Nat) : Int) := by
  rw [show ((a : Int) - 1) = ((a - 1 : Nat) : Int) by omega, ← Int.natCast_ediv]
theorem int_sub {a b : Nat} (h : b < a) : (a : Int) - (((a - 1) / b : Nat) : Int) * (b : Int) = ((a - (a - 1) / b * b : Nat) : Int) := by
  have e : (a - 1) / b * b ≤ a - 1 := Nat.div_mul_le_self _ _
  rw [Int.natCast_sub (by omega), Int.natCast_mul]
theorem run_pos {a b : Nat} (h : b < a) (hb : 0 < b) : 1 ≤ (a - 1) / b := (Nat.le_div_iff_mul_le hb).mpr (by omega)
end Rt
section
variable {P : Program} {w : World} {K : PySem.W.Frag} {mg : Str → Option Value} {base : Heap}
theorem ok_wol {f : Addr} {fd : FuncData} (F : Fun K "word_of_lengths" "word_of_lengths" S_word_of_lengths f fd) (T : Txt K mg) : FnOk P w K mg base CX0 1 f fd ["first", "second"] sp_wol := by
  refine F.ok SC_word_of_lengths (fun vs H Q E h => ?_) (fun cdv A outer s H vs Q E hr h => ?_)
  · obtain ⟨u, rfl, _⟩ := h
    rfl
  · obtain ⟨u, rfl, hu, q⟩ := h
    refine ⟨_, (pss_cons (ps_set (i := 2) SC_word_of_lengths.nd rfl (.inl rfl) (pe_lst pa_nil))
      (pss_cons (ps_while PassesOwn.never (pt_cmpR op_ne (pv 0) (pv 1) (nomark _)) (pss_one (ps_if (pt_cmpR op_gt (pv 0) (pv 1) (nomark _)) (pss_cons (ps_set (i := 3) SC_word_of_lengths.nd rfl (.inl rfl) (pe_op op_fdivW (pe_op op_sub (pv 0) pe_int) (pv 1)))
      (pss_cons (ps_expr (pe_bm PySem.F.plainAttrs_list PySem.F.slot_list_append PySem.F.type_list_append mt_append (pv 2) (pa_cons (pe_op op_mul_str pe_str (pv 3)) pa_nil)))
      (pss_one (ps_set (i := 0) SC_word_of_lengths.nd rfl (.inl rfl) (pe_op op_sub (pv 0) (pe_op op_mulW (pv 3) (pv 1))))))) (pss_cons (ps_set (i := 3) SC_word_of_lengths.nd rfl (.inl rfl) (pe_op op_fdivW (pe_op op_sub (pv 1) pe_int) (pv 0)))
      (pss_cons (ps_expr (pe_bm PySem.F.plainAttrs_list PySem.F.slot_list_append PySem.F.type_list_append mt_append (pv 2) (pa_cons (pe_op op_mul_str pe_str (pv 3)) pa_nil)))
      (pss_one (ps_set (i := 1) SC_word_of_lengths.nd rfl (.inl rfl) (pe_op op_sub (pv 1) (pe_op op_mulW (pv 3) (pv 0))))))))))
      (pss_one (ps_ret (pe_join pe_str (pv 2)))))), ?_⟩
    refine ⟨by show 0 ≤ sizeLine; decide, fun D hD => ?_⟩
    refine while_by (fun σ H' => (∀ b o, b ≠ D → H b = some o → H' b = some o) ∧ ∃ (ys : List (List Bool)) (v : List Bool) (x : Option V), ys.flatten ++ v = u ∧ ys.length + v.length ≤ u.length ∧ H' D = some (.lst (ys.map fun y => V.str (enc y))) ∧ σ = [some (.int (pr v).1), some (.int (pr v).2), some (.ref D), x])
      (fun σ _ => match σ with | [some (.int a), some (.int b), _, _] => (a + b).toNat | _ => 0) ⟨fun b o n e => by rw [upd_ne n]; exact e, [], u, none, rfl, by simp, upd_same, rfl⟩ (fun σ H1 hP => ?_) (fun σ H Q Q' h q => ?_)
    · obtain ⟨kp, ys, v, x, hf, hl, hH, rfl⟩ := hP
      have p := pr_pos v
      have hvl : v.length ≤ 900 := by omega
      have hyl : ys.length ≤ 900 := by omega
      have sm := pr_small hvl
      have n1 : (pr v).1 < 2 ^ 1000 := by have := sm.1; rwa [Int.natAbs_natCast] at this
      have n2 : (pr v).2 < 2 ^ 1000 := by have := sm.2; rwa [Int.natAbs_natCast] at this
      walk_at "kb"
      refine ite2 (fun h => ?_) (fun h => ?_)
      · walk_at "kb"
        refine ite2 (fun h2 => ?_) (fun h2 => ?_)
        · have lt : (pr v).2 < (pr v).1 := by have := of_decide_eq_true h2; omega
          obtain ⟨v', e1, e2⟩ := pr_run_r v lt
          have m1 := run_pos lt p.2
          have ml : ((pr v).1 - 1) / (pr v).2 ≤ v.length := by have := congrArg List.length e1; rw [List.length_append, List.length_replicate] at this; omega
          walk_at "kb"
          refine ⟨wd (by omega) sm.2, _, rfl, .inl ⟨rfl, _, SqL.of hH⟩, ?_⟩
          dsimp only
          rw [int_run lt p.2]
          walk_at "kb"
          refine ⟨by rw [show ("r" : Str).length = 1 by decide +kernel]; omega, ?_⟩
          refine ⟨D, _, _, rfl, rfl, hH, by rw [List.length_map]; exact szs (by omega), ?_⟩
          walk_at "kb"
          refine ⟨wm (by rw [Int.natAbs_natCast]; exact Nat.lt_of_le_of_lt (Nat.le_trans ml hvl) (by decide)) sm.2, ?_⟩
          refine ⟨_, _, rfl, rfl, ?_⟩
          dsimp only
          rw [int_sub lt]
          have l1 : (ys ++ [List.replicate (((pr v).1 - 1) / (pr v).2) true]).length = ys.length + 1 := by rw [List.length_append]; rfl
          have l2 : v.length = ((pr v).1 - 1) / (pr v).2 + v'.length := by have := congrArg List.length e1; rwa [List.length_append, List.length_replicate] at this
          refine ⟨⟨fun b o n e => by rw [upd_ne n]; exact kp b o n e, ys ++ [List.replicate (((pr v).1 - 1) / (pr v).2) true], v', some (.int (((pr v).1 - 1) / (pr v).2 : Nat)), ?_, by omega, ?_, ?_⟩, ?_⟩
          · rw [List.flatten_append, List.flatten_cons, List.flatten_nil, List.append_nil, List.append_assoc, ← e1]; exact hf
          · rw [upd_same, List.map_append, List.map_cons, List.map_nil, ← enc_rep, ← lit_r]; rfl
          · rw [e2]; rfl
          · have e3 : ((pr v).1 - 1) / (pr v).2 * (pr v).2 ≤ (pr v).1 - 1 := Nat.div_mul_le_self _ _
            have e4 : (pr v).2 ≤ ((pr v).1 - 1) / (pr v).2 * (pr v).2 := Nat.le_mul_of_pos_left _ m1
            show (((pr v).1 - ((pr v).1 - 1) / (pr v).2 * (pr v).2 : Nat) + ((pr v).2 : Int)).toNat < (((pr v).1 : Int) + (pr v).2).toNat
            omega
        · have ne : (pr v).1 ≠ (pr v).2 := fun e => by
            rw [e] at h
            simp at h
          have h3 : ¬ ((pr v).2 : Int) < (pr v).1 := fun z => h2 (decide_eq_true z)
          have lt : (pr v).1 < (pr v).2 := by omega
          obtain ⟨v', e1, e2⟩ := pr_run_l v lt
          have m1 := run_pos lt p.1
          have ml : ((pr v).2 - 1) / (pr v).1 ≤ v.length := by have := congrArg List.length e1; rw [List.length_append, List.length_replicate] at this; omega
          walk_at "kb"
          refine ⟨wd (by omega) sm.1, _, rfl, .inl ⟨rfl, _, SqL.of hH⟩, ?_⟩
          dsimp only
          rw [int_run lt p.1]
          walk_at "kb"
          refine ⟨by rw [show ("l" : Str).length = 1 by decide +kernel]; omega, ?_⟩
          refine ⟨D, _, _, rfl, rfl, hH, by rw [List.length_map]; exact szs (by omega), ?_⟩
          walk_at "kb"
          refine ⟨wm (by rw [Int.natAbs_natCast]; exact Nat.lt_of_le_of_lt (Nat.le_trans ml hvl) (by decide)) sm.1, ?_⟩
          refine ⟨_, _, rfl, rfl, ?_⟩
          dsimp only
          rw [int_sub lt]
          have l1 : (ys ++ [List.replicate (((pr v).2 - 1) / (pr v).1) false]).length = ys.length + 1 := by rw [List.length_append]; rfl
          have l2 : v.length = ((pr v).2 - 1) / (pr v).1 + v'.length := by have := congrArg List.length e1; rwa [List.length_append, List.length_replicate] at this
          refine ⟨⟨fun b o n e => by rw [upd_ne n]; exact kp b o n e, ys ++ [List.replicate (((pr v).2 - 1) / (pr v).1) false], v', some (.int (((pr v).2 - 1) / (pr v).1 : Nat)), ?_, by omega, ?_, ?_⟩, ?_⟩
          · rw [List.flatten_append, List.flatten_cons, List.flatten_nil, List.append_nil, List.append_assoc, ← e1]; exact hf
          · rw [upd_same, List.map_append, List.map_cons, List.map_nil, ← enc_rep, ← lit_l]; rfl
          · rw [e2]; rfl
          · have e3 : ((pr v).2 - 1) / (pr v).1 * (pr v).1 ≤ (pr v).2 - 1 := Nat.div_mul_le_self _ _
            have e4 : (pr v).1 ≤ ((pr v).2 - 1) / (pr v).1 * (pr v).1 := Nat.le_mul_of_pos_left _ m1
            show (((pr v).1 : Int) + ((pr v).2 - ((pr v).2 - 1) / (pr v).1 * (pr v).1 : Nat)).toNat < (((pr v).1 : Int) + (pr v).2).toNat
            omega
      · have ev : v = [] := pr_eq (by
          have z : decide (V.int (pr v).1 = V.int (pr v).2) = true := by simpa using h
          have := V.int.inj (of_decide_eq_true z)
          omega)
        subst ev
        walk_at "kb"
        refine ⟨_, _, ys.map enc, rfl, rfl, .inl (SqL.of (by rw [List.map_map]; exact hH)), ?_, ?_⟩
        · rw [sum_enc, empty_len]
          have := congrArg List.length hf
          rw [List.length_append] at this
          simp only [List.length_nil] at this
          omega
        · rw [join_enc]
          rw [List.append_nil] at hf
          rw [hf]
          exact q H1 fun b o e => kp b o (ne_of_none e hD) e
    · obtain ⟨v1, e1, v2, e2, z, b, eb, q⟩ := q
      exact ⟨v1, e1, v2, e2, z, b, eb, h _ _ q⟩
theorem ok_word {f C : Addr} {fd : FuncData} (F : Fun K "word" "Ratio.word" S_Ratio_word f fd) (T : Txt K mg) (R : RatT K mg C) (C_wol : FnC P w K mg base CX0 1 "word_of_lengths" ["first", "second"] sp_wol) : FnOk P w K mg base CX0 2 f fd ["self"] (sp_word C) := by
  refine F.ok SC_Ratio_word (fun vs H Q E h => ?_) (fun cdv A outer s H vs Q E hr h => ?_)
  · obtain ⟨p, u, rfl, _⟩ := h
    rfl
  · obtain ⟨p, u, rfl, ⟨dx, hp⟩, hu, q⟩ := h
    refine ⟨_, (pss_one (ps_ret (pe_callC C_wol hr rfl (pa_cons (pe_fld (pv 0) rfl) (pa_cons (pe_fld (pv 0) rfl) pa_nil))))), ?_⟩
    exact ⟨_, rfl, p, C, dx, _, _, rfl, hp, R.ins.cl, R.n1, rf1 _ _, _, rfl, p, C, dx, _, _, rfl, hp, R.ins.cl, R.n2, rf2 _ _, u, rfl, hu, q⟩
end

/-! ## changes -/
namespace Ch
def isNat : V → Bool | .int i => decide (0 ≤ i) | _ => false
def cf (q : Addr) (t : Int) : List (Str × V) := putF "turn" (.int t) (putF "numbers" (.ref q) [])
theorem n_nt : ¬ (("numbers" : Str) = "turn") := by decide +kernel
theorem cf1 (q : Addr) (t : Int) : (cf q t).lookup ("numbers" : Str) = some (.ref q) := by
  unfold cf; rw [lookup_putF, if_neg n_nt, lookup_putF, if_pos rfl]
theorem cf2 (q : Addr) (t : Int) : (cf q t).lookup ("turn" : Str) = some (.int t) := by
  unfold cf; rw [lookup_putF, if_pos rfl]
def ChAt (CC : Addr) (H : Hp) (p : Addr) (a b c d : Int) : Prop := ∃ dx q, H p = some (.ins CC dx (cf q (a * d - b * c))) ∧ H q = some (.tup [.int a, .int b, .int c, .int d])
theorem ChAt.same {C : Addr} {H H' : Hp} {p : Addr} {a b c d : Int} (x : ChAt C H p a b c d) (s : Same H H') : ChAt C H' p a b c d := let ⟨d, q, h, k⟩ := x; ⟨d, q, s _ _ h, s _ _ k⟩
structure ChT (K : PySem.W.Frag) (mg : Str → Option Value) (C : Addr) : Prop where
  ins : C8.InsC K C
  n1 : NoAttr K C "numbers"
  n2 : NoAttr K C "turn"
  mgC : mg "Change" = some (.ref C)
  nf : PySem.W.notFirst K C (.ref C) = true
  ne : PySem.W.findIn K (.ref C) "__ne__" = some (some (.builtin "object.__ne__"))
  so : PySem.W.subIn K (.ref C) (.type "object") = some true
theorem ChT.cl {K : PySem.W.Frag} {mg : Str → Option Value} {C : Addr} (T : ChT K mg C) : Cls K C := T.ins.cl
theorem ChT.ty {K : PySem.W.Frag} {mg : Str → Option Value} {C : Addr} (T : ChT K mg C) {H : Hp} {p dx : Addr} {fs : List (Str × V)} (h : H p = some (.ins C dx fs)) : TyX K H (.ref p) (.ref C) := .base (.ins h T.ins.cl T.ins.ha T.ins.hn T.ins.htk T.ins.hm)
def nats (u1 u2 u3 u4 : V) : Bool := isNat u1 && isNat u2 && isNat u3 && isNat u4
/-- Change(a, b, c, d): made, or refused -/
def sp_chinit (CC IC : Addr) (K : PySem.W.Frag) : Sp := fun vs H Q E => ∃ (x dx : Addr) (u1 u2 u3 u4 : V), vs = [.ref x, u1, u2, u3, u4] ∧ (Kd K H u1 ∧ Kd K H u2 ∧ Kd K H u3 ∧ Kd K H u4) ∧ H x = some (.ins CC dx []) ∧
  (nats u1 u2 u3 u4 = true → ∃ i j m n : Int, u1 = .int i ∧ u2 = .int j ∧ u3 = .int m ∧ u4 = .int n ∧ (i.natAbs < 2 ^ 1000 ∧ j.natAbs < 2 ^ 1000 ∧ m.natAbs < 2 ^ 1000 ∧ n.natAbs < 2 ^ 1000) ∧
    (i * n ≠ j * m → ∀ H', (∀ a o, a ≠ x → H a = some o → H' a = some o) → ChAt CC H' x i j m n → Q .non H') ∧ (i * n = j * m → ∀ H', Same H H' → E (.ref IC) none H')) ∧
  (nats u1 u2 u3 u4 = false → ∀ H', Same H H' → E (.ref IC) none H')
theorem lcR_tupC {K : PySem.W.Frag} {a : Addr} {xs : List V} {g : TG} {te : TE} {vs : List Nat} {σ : L2.St} {H1 : Hp} {D : Addr} {Qd : Hp → Prop} (M : Nat → Hp → Prop) (h0 : M 0 (upd H1 D (.lst []))) (hl : ∀ i H, i ≤ xs.length → M i H → SqT K H a xs)
    (hs : ∀ i x H, xs[i]? = some x → M i H → g x (wipe σ vs) H fun σ2 H2 => wipe σ2 vs = wipe σ vs ∧ te σ2 H2 fun y H4 => ∃ acc, H4 D = some (.lst acc) ∧ acc.length < sizeLine ∧ M (i + 1) (upd H4 D (.lst (acc ++ [y]))))
    (hm : ∀ x σ H Q Q', (∀ σ2 H2, Q σ2 H2 → Q' σ2 H2) → g x σ H Q → g x σ H Q') (hd : ∀ H, M xs.length H → Qd H) : LcR (Itt K a) g tYes te vs σ H1 D Qd :=
  lc_it walk_tup M h0 hl (fun i x H H' hi m y => by
    obtain ⟨e, hx⟩ := y
    subst e
    exact hm _ _ _ _ _ (fun σ2 H2 z => ⟨z.1, ifT (B := M (i + 1) H2) rfl z.2⟩) (hs i x _ hx m)) hd
def sp_lm : Sp := fun vs H Q _ => ∃ (q : Addr) (a b c d x y : Int), vs = [.ref q, .int x, .int y] ∧ H q = some (.tup [.int a, .int b, .int c, .int d]) ∧ (a.natAbs < 2 ^ 1000 ∧ b.natAbs < 2 ^ 1000 ∧ c.natAbs < 2 ^ 1000 ∧ d.natAbs < 2 ^ 1000 ∧ x.natAbs < 2 ^ 1000 ∧ y.natAbs < 2 ^ 1000) ∧
  ∀ (p : Addr) (H' : Hp), H p = none → Same H H' → H' p = some (.tup [.int (a * x + b * y), .int (c * x + d * y)]) → Q (.ref p) H'
end Ch
open Ch
section
variable {P : Program} {w : World} {K : PySem.W.Frag} {mg : Str → Option Value} {base : Heap}
theorem ok_chinit {f CC IC : Addr} {fd : FuncData} (F : Fun K "__init__" "Change.__init__" S_Change__init_ f fd) (T : Txt K mg) (Rc : ChT K mg CC) (E_InvalidChange : ErC P w K mg base "InvalidChange" IC) (C_isint : FnC P w K mg base CX0 1 "is_integer" ["value"] (sp_isint K)) :
    FnOk P w K mg base (L2.CX P w) 4 f fd ["self", "a", "b", "c", "d"] (sp_chinit CC IC K) := by
  refine F.okX SC_Change__init_ (fun vs H Q E h => ?_) (fun cdv A outer s H vs Q E hr h => ?_)
  · obtain ⟨x, dx, u1, u2, u3, u4, rfl, _⟩ := h
    rfl
  · obtain ⟨x, dx, u1, u2, u3, u4, rfl, ⟨k1, k2, k3, k4⟩, hx, ok, bad⟩ := h
    refine ⟨_, (pss_cons (ps_set (i := 5) SC_Change__init_.nd rfl (.inl rfl) (pe_tup (pa_cons (pv 1) (pa_cons (pv 2) (pa_cons (pv 3) (pa_cons (pv 4) pa_nil))))))
      (pss_cons (ps_if (PW.pt (pw_or (pt_not (pt_val (pe_callB (cr_all rfl) (by rfl) T.b_all (by decide +kernel) (pa_cons (pe_lc (own := [("number", 6)]) (g := gName 6) (by rfl) SC_Change__init_.nd (pi_tup (pv 5)) (blkOk_by (own := [("number", 6)]) (N := N_Change__init_) (sc := defScope S_Change__init_) (by decide +kernel)) (fun _ _ _ _ _ => pg_name (i := 6) SC_Change__init_.nd rfl (Or.inl rfl)) (fun _ _ _ _ _ => pts_nil) (fun _ _ _ _ _ => (pe_and (pe_callC C_isint (hr.mono (by decide)) rfl (pa_cons (pv 6) pa_nil)) (pe_one (pe_cmpR op_ge (pv 6) pe_int (nomark _)))))) pa_nil)))) (pw_or1 (pt_cmpR op_eq (pe_op op_mulW (pv 1) (pv 4)) (pe_op op_mulW (pv 2) (pv 3)) (nomark _))))) (pss_one (ps_raise0 E_InvalidChange (hr.mono (by decide)) rfl (takes_of rfl rfl rfl rfl) rfl)) pss_nil)
      (pss_cons (ps_fld (pv 0) (pv 5) rfl)
      (pss_one (ps_fld (pv 0) (pe_op op_sub (pe_op op_mulW (pv 1) (pv 4)) (pe_op op_mulW (pv 2) (pv 3))) rfl))))), ?_⟩
    walk_at "kb"
    intro q hq
    have sq : Same H (upd H q (.tup [u1, u2, u3, u4])) := fun a o e => by rw [upd_ne (ne_of_none e hq)]; exact e
    walk_at "kb"
    refine ⟨⟨_, SqT.of upd_same⟩, fun D hD => ?_⟩
    have qD : q ≠ D := ne_of_none upd_same hD
    have each : ∀ (i : Nat) v, [u1, u2, u3, u4][i]? = some v → Kd K H v := fun i v h => by
      match i, h with
      | 0, h => cases h; exact k1
      | 1, h => cases h; exact k2
      | 2, h => cases h; exact k3
      | 3, h => cases h; exact k4
      | i + 4, h => simp at h
    refine lcR_tupC (xs := [u1, u2, u3, u4]) (fun i H' => (∀ b o, b ≠ D → (upd H q (.tup [u1, u2, u3, u4])) b = some o → H' b = some o) ∧ H' D = some (.lst ((([u1, u2, u3, u4].take i).map isNat).map V.bl))) ⟨fun b o n e => by rw [upd_ne n]; exact e, upd_same⟩
      (fun i H' _ m => SqT.of (m.1 q _ qD upd_same)) (fun i v H1 hi m => ?_) (gName_mono _) (fun H1 m => ?_)
    · obtain ⟨kp, hH⟩ := m
      have kd := (each i v hi).same sq
      have kd1 : Kd K H1 v := kd.at fun a o e h => kp a o (ne_of_none h hD) h
      have hilt : i < 4 := (List.getElem?_eq_some_iff.mp hi).1
      have fin : ∃ acc, H1 D = some (.lst acc) ∧ acc.length < sizeLine ∧ ((∀ b o, b ≠ D → (upd H q (.tup [u1, u2, u3, u4])) b = some o → (upd H1 D (.lst (acc ++ [.bl (isNat v)]))) b = some o) ∧ (upd H1 D (.lst (acc ++ [.bl (isNat v)]))) D = some (.lst ((([u1, u2, u3, u4].take (i + 1)).map isNat).map V.bl))) := by
        refine ⟨_, hH, ?_, fun b o n e => by rw [upd_ne n]; exact kp b o n e, ?_⟩
        · rw [List.length_map, List.length_map, List.length_take]
          exact szs (by show min i 4 ≤ _; omega)
        · rw [upd_same, List.take_succ, hi, List.map_append, List.map_append]; rfl
      refine ⟨rfl, _, rfl, v, rfl, kd1, _, rfl, ?_⟩
      cases v with
      | int j => exact ifT rfl ⟨_, rfl, _, _, rfl, rfl, fin⟩
      | bl b => exact ifF rfl fin
      | non => exact ifF rfl fin
      | str z => exact ifF rfl fin
      | byt z => exact ifF rfl fin
      | flt z => exact ifF rfl fin
      | ref z => exact ifF rfl fin
      | ty z => exact ifF rfl fin
    · obtain ⟨kp, hH⟩ := m
      have sm1 : Same H H1 := fun b o e => kp b o (ne_of_none (sq b o e) hD) (sq b o e)
      have hq1 : H1 q = some (.tup [u1, u2, u3, u4]) := kp q _ qD upd_same
      refine ⟨_, _, rfl, SqL.of hH, _, rfl, ?_⟩
      have en : ((List.map isNat (List.take [u1, u2, u3, u4].length [u1, u2, u3, u4])).all id) = nats u1 u2 u3 u4 := by
        show (isNat u1 && (isNat u2 && (isNat u3 && (isNat u4 && true)))) = _
        unfold nats
        cases isNat u1 <;> cases isNat u2 <;> cases isNat u3 <;> cases isNat u4 <;> rfl
      rw [en]
      by_cases hn : nats u1 u2 u3 u4 = true
      · rw [hn]
        refine ifF rfl ?_
        obtain ⟨i, j, m, n, rfl, rfl, rfl, rfl, ⟨b1, b2, b3, b4⟩, yes, no⟩ := ok hn
        refine ⟨_, rfl, _, rfl, _, _, rfl, rfl, wm b1 b4, _, rfl, _, rfl, _, _, rfl, rfl, wm b2 b3, ?_⟩
        walk_at "kb"
        refine ite2 (fun h => ?_) (fun h => ?_)
        · exact no (V.int.inj (of_decide_eq_true h)) H1 sm1
        · have hne : i * n ≠ j * m := fun e => h (decide_eq_true (congrArg V.int e))
          have nqx : q ≠ x := fun e => by rw [e] at hq1; have := sm1 x _ hx; rw [hq1] at this; cases this
          walk_at "kb"
          refine ⟨x, CC, dx, _, rfl, sm1 x _ hx, Rc.ins.cl, Rc.n1, by show 0 < 1000; decide, ?_⟩
          walk_at "kb"
          refine ⟨wm b1 b4, _, rfl, _, rfl, _, _, rfl, rfl, wm b2 b3, _, _, rfl, rfl, ?_⟩
          refine ⟨_, rfl, x, CC, dx, _, rfl, upd_same, Rc.ins.cl, Rc.n2, by show 1 < 1000; decide, ?_⟩
          exact yes hne _ (fun a o nn e => by rw [upd_ne nn, upd_ne nn]; exact sm1 a o e) ⟨dx, q, by rw [upd_same]; rfl, by rw [upd_ne nqx, upd_ne nqx]; exact hq1⟩
      · rw [Bool.not_eq_true] at hn
        rw [hn]
        exact ifT rfl (bad hn H1 sm1)
theorem ok_lm {f : Addr} {fd : FuncData} (F : Fun K "lengths_made" "lengths_made" S_lengths_made f fd) (T : Txt K mg) : FnOk P w K mg base CX0 1 f fd ["numbers", "first", "second"] sp_lm := by
  refine F.ok SC_lengths_made (fun vs H Q E h => ?_) (fun cdv A outer s H vs Q E hr h => ?_)
  · obtain ⟨q, a, b, c, d, x, y, rfl, _⟩ := h
    rfl
  · obtain ⟨q, a, b, c, d, x, y, rfl, hq, ⟨b1, b2, b3, b4, b5, b6⟩, k⟩ := h
    refine ⟨_, (pss_cons (ps_asg (pv 0) (pg_tup rfl (pgs_cons (pg_name (i := 3) SC_lengths_made.nd rfl (.inl rfl)) (pgs_cons (pg_name (i := 4) SC_lengths_made.nd rfl (.inl rfl)) (pgs_cons (pg_name (i := 5) SC_lengths_made.nd rfl (.inl rfl)) (pgs_cons (pg_name (i := 6) SC_lengths_made.nd rfl (.inl rfl)) pgs_nil))))))
      (pss_one (ps_ret (pe_tup (pa_cons (pe_op op_add (pe_op op_mulW (pv 3) (pv 1)) (pe_op op_mulW (pv 4) (pv 2))) (pa_cons (pe_op op_add (pe_op op_mulW (pv 5) (pv 1)) (pe_op op_mulW (pv 6) (pv 2))) pa_nil)))))), ?_⟩
    refine ⟨_, rfl, q, _, rfl, SqT.of hq, rfl, _, _, rfl, _, _, rfl, _, _, rfl, _, _, rfl, rfl, ?_⟩
    refine ⟨_, rfl, _, rfl, _, _, rfl, rfl, wm b1 b5, _, rfl, _, rfl, _, _, rfl, rfl, wm b2 b6, _, _, rfl, rfl, ?_⟩
    refine ⟨_, rfl, _, rfl, _, _, rfl, rfl, wm b3 b5, _, rfl, _, rfl, _, _, rfl, rfl, wm b4 b6, _, _, rfl, rfl, ?_⟩
    exact ⟨by show 2 ≤ sizeLine; decide, fun p hp => k p _ hp (fun o u e => by rw [upd_ne (ne_of_none e hp)]; exact e) upd_same⟩
end

/-! ## what stands in the heap, kept as a list -/
namespace Wl
structure Wo (B : Addr) (H0 H : Hp) (L : List (Addr × HO)) : Prop where
  box : BoxAt H B
  kp : Keep B H0 H
  at_ : ∀ x ∈ L, x.1 ≠ B ∧ H x.1 = some x.2
structure Ho (H0 H : Hp) (L : List (Addr × HO)) : Prop where
  sm : Same H0 H
  at_ : ∀ x ∈ L, H x.1 = some x.2
section
variable {B p : Addr} {o : HO} {H0 H H' : Hp} {L L' : List (Addr × HO)}
theorem Wo.get (w : Wo B H0 H L) (h : (p, o) ∈ L) : H p = some o := (w.at_ _ h).2
theorem Ho.get (w : Ho H0 H L) (h : (p, o) ∈ L) : H p = some o := w.at_ _ h
theorem Wo.ne (w : Wo B H0 H L) (h : (p, o) ∈ L) : p ≠ B := (w.at_ _ h).1
theorem Wo.same (w : Wo B H0 H L) (s : Same H H') : Wo B H0 H' L := ⟨w.box.same s, w.kp.trans (Keep.same s), fun x h => ⟨(w.at_ x h).1, s _ _ (w.at_ x h).2⟩⟩
theorem Ho.same (w : Ho H0 H L) (s : Same H H') : Ho H0 H' L := ⟨w.sm.trans s, fun x h => s _ _ (w.at_ x h)⟩
theorem Wo.keep (w : Wo B H0 H L) (k : Keep B H H') (b : BoxAt H' B) : Wo B H0 H' L := ⟨b, w.kp.trans k, fun x h => ⟨(w.at_ x h).1, k _ _ (w.at_ x h).1 (w.at_ x h).2⟩⟩
theorem Wo.add (w : Wo B H0 H L) (h : H p = some o) (n : p ≠ B) : Wo B H0 H ((p, o) :: L) := ⟨w.box, w.kp, fun x hx => by
  rcases List.mem_cons.mp hx with rfl | hx
  · exact ⟨n, h⟩
  · exact w.at_ x hx⟩
theorem Ho.add (w : Ho H0 H L) (h : H p = some o) : Ho H0 H ((p, o) :: L) := ⟨w.sm, fun x hx => by
  rcases List.mem_cons.mp hx with rfl | hx
  · exact h
  · exact w.at_ x hx⟩
/-- an object that is no list isn't the box -/
theorem Wo.addN (w : Wo B H0 H L) (h : H p = some o) (n : ∀ xs, o ≠ .lst xs) : Wo B H0 H ((p, o) :: L) := w.add h fun e => by
  obtain ⟨xs, q⟩ := w.box.lst
  rw [← e, h] at q
  exact n xs (Option.some.inj q)
theorem Wo.tup {vs : List V} (w : Wo B H0 H L) (h : H p = some (.tup vs)) : Wo B H0 H ((p, .tup vs) :: L) := w.addN h (fun _ e => nomatch e)
theorem Wo.insA {C dx : Addr} {fs : List (Str × V)} (w : Wo B H0 H L) (h : H p = some (.ins C dx fs)) : Wo B H0 H ((p, .ins C dx fs) :: L) := w.addN h (fun _ e => nomatch e)
theorem Wo.fresh (w : Wo B H0 H L) (h : H p = none) : p ≠ B := w.box.ne h
theorem Wo.call (w : Wo B H0 H L) (hn : H p = none) (s : Same H H') (h : H' p = some o) : Wo B H0 H' ((p, o) :: L) := (w.same s).add h (w.fresh hn)
theorem Ho.call (w : Ho H0 H L) (s : Same H H') (h : H' p = some o) : Ho H0 H' ((p, o) :: L) := (w.same s).add h
theorem Wo.sub (w : Wo B H0 H L) (h : ∀ x ∈ L', x ∈ L) : Wo B H0 H L' := ⟨w.box, w.kp, fun x hx => w.at_ x (h x hx)⟩
theorem Wo.free (w : Wo B H0 H L) (h : H p = none) : H0 p = none := w.kp.free w.box.any h
theorem Wo.nw {Q : VK} (w : Wo B H0 H L) (k : ∀ p H', H0 p = none → Wo B H0 H' ((p, o) :: L) → Q (.ref p) H') : New H o Q := fun p H' hn s h => k p H' (w.free hn) (w.call hn s h)
theorem Ho.nw {Q : VK} (w : Ho H0 H L) (k : ∀ p H', H0 p = none → Ho H0 H' ((p, o) :: L) → Q (.ref p) H') : New H o Q := fun p H' hn s h => k p H' (w.sm.free hn) (w.call s h)
def isLst : HO → Bool
  | .lst _ => true
  | _ => false
/-- a list of one's own is changed -/
theorem Wo.set {l : Addr} {xs : List V} (w : Wo B H0 H L) (hl : H l = some (.lst xs)) (n : l ≠ B) (hf : H0 l = none) (o : HO) : Wo B H0 (upd H l o) ((l, o) :: L.filter fun x => !isLst x.2) := by
  have ne : ∀ x ∈ L.filter (fun x => !isLst x.2), x.1 ≠ l := fun x hx e => by
    have h1 := (List.mem_filter.mp hx)
    have h2 := (w.at_ x h1.1).2
    rw [e, hl] at h2
    have h3 : isLst x.2 = true := by rw [← Option.some.inj h2]; rfl
    rw [h3] at h1
    cases h1.2
  refine ⟨w.box.keep fun u e => by rw [upd_ne n.symm]; exact e, fun a u na e => by rw [upd_ne (ne_of_none e hf)]; exact w.kp a u na e, fun x hx => ?_⟩
  rcases List.mem_cons.mp hx with rfl | hx
  · exact ⟨n, upd_same⟩
  · refine ⟨(w.at_ x (List.mem_filter.mp hx).1).1, ?_⟩
    rw [upd_ne (ne x hx)]
    exact (w.at_ x (List.mem_filter.mp hx).1).2
theorem Ho.set {l : Addr} {xs : List V} (w : Ho H0 H L) (hl : H l = some (.lst xs)) (hf : H0 l = none) (o : HO) : Ho H0 (upd H l o) ((l, o) :: L.filter fun x => !isLst x.2) := by
  have ne : ∀ x ∈ L.filter (fun x => !isLst x.2), x.1 ≠ l := fun x hx e => by
    have h1 := (List.mem_filter.mp hx)
    have h2 := w.at_ x h1.1
    rw [e, hl] at h2
    have h3 : isLst x.2 = true := by rw [← Option.some.inj h2]; rfl
    rw [h3] at h1
    cases h1.2
  refine ⟨fun a u e => by rw [upd_ne (ne_of_none e hf)]; exact w.sm a u e, fun x hx => ?_⟩
  rcases List.mem_cons.mp hx with rfl | hx
  · exact upd_same
  · rw [upd_ne (ne x hx)]
    exact w.at_ x (List.mem_filter.mp hx).1
theorem Wo.tl {x : Addr × HO} (w : Wo B H0 H (x :: L)) : Wo B H0 H L := w.sub fun _ hx => .tail _ hx
theorem Wo.one {x : Addr × HO} (w : Wo B H0 H (x :: L)) : Wo B H0 H [x] := w.sub fun z hz => by cases List.mem_singleton.mp hz; exact .head _
theorem Wo.nil (w : Wo B H0 H L) : Wo B H0 H [] := w.sub fun z hz => nomatch hz
theorem Ho.one {x : Addr × HO} (w : Ho H0 H (x :: L)) : Ho H0 H [x] := ⟨w.sm, fun z hz => by cases List.mem_singleton.mp hz; exact w.at_ _ (.head _)⟩
theorem Ho.tl {x : Addr × HO} (w : Ho H0 H (x :: L)) : Ho H0 H L := ⟨w.sm, fun z hz => w.at_ _ (.tail _ hz)⟩
theorem Ho.nil (w : Ho H0 H L) : Ho H0 H [] := ⟨w.sm, fun z hz => nomatch hz⟩
/-- within a list being made at a new place D -/
theorem Wo.inD {D : Addr} (w : Wo B H0 H L) (hD : H D = none) (k : ∀ b o, b ≠ D → H b = some o → H' b = some o) : Wo B H0 H' L :=
  ⟨w.box.keep fun o e => k _ _ (w.fresh hD).symm e, fun a o n e => k a o (ne_of_none (w.kp a o n e) hD) (w.kp a o n e), fun x h => ⟨(w.at_ x h).1, k _ _ (ne_of_none (w.at_ x h).2 hD) (w.at_ x h).2⟩⟩
theorem Ho.inD {D : Addr} (w : Ho H0 H L) (hD : H D = none) (k : ∀ b o, b ≠ D → H b = some o → H' b = some o) : Ho H0 H' L :=
  ⟨fun a o e => k a o (ne_of_none (w.sm a o e) hD) (w.sm a o e), fun x h => k _ _ (ne_of_none (w.at_ x h) hD) (w.at_ x h)⟩
theorem Ho.start (H : Hp) : Ho H H [] := ⟨Same.refl H, fun _ h => nomatch h⟩
theorem Wo.start (b : BoxAt H B) : Wo B H H [] := ⟨b, Keep.refl _ _, fun _ h => nomatch h⟩
/-- the draws -/
theorem Wo.take {m : Int} {Q : VK} {E : XK} (w : Wo B H0 H L) (m0 : 0 < m) (m1 : m ≤ 1000000000000) (k : ∀ d H', 0 ≤ d → d < m → Wo B H0 H' L → Q (.int d) H') : sp_take [.ref B, .int m] H Q E :=
  ⟨B, m, by rfl, w.box, m0, m1, fun d H' d0 d1 kp hb => k d H' d0 d1 (w.keep kp hb)⟩
end
end Wl
open Wl

local macro_rules | `(tactic| walk_at "mem") => `(tactic| first | exact List.Mem.head _ | (refine List.Mem.tail _ ?_; walk_at "mem"))
local macro_rules | `(tactic| walk_at "hp") => `(tactic| first | assumption | exact Wo.get (by assumption) (by walk_at "mem") | exact Ho.get (by assumption) (by walk_at "mem") | exact upd_same)
local macro_rules | `(tactic| walk_at "seq") => `(tactic| first | assumption | exact SqL.of (by walk_at "hp") | exact SqT.of (by walk_at "hp"))
local macro_rules | `(tactic| walk_at "sqo") => `(tactic| first | assumption | exact .inl (by walk_at "seq") | exact .inr (by walk_at "seq"))
local macro_rules | `(tactic| walk_at "dp") => `(tactic| first | exact .int _ | exact .str _ | exact .bl _ | exact .non | exact .tup (SqT.of (by walk_at "hp")) (by walk_at "dps") | exact .lst (SqL.of (by walk_at "hp")) (by walk_at "dps"))
local macro_rules | `(tactic| walk_at "dps") => `(tactic| first | exact .nil | exact .cons (by walk_at "dp") (by walk_at "dps"))
local macro_rules | `(tactic| walk_at "shw") => `(tactic| first | exact Shw.int (by assumption) | exact Shw.int (by unfold showsI; decide) | exact Shw.tup (by walk_at "shwl") | exact Shw.lst (by walk_at "shwl") | exact Shw.bool _ | exact Shw.none | exact Shw.str (by decide +kernel) (Nat.le_refl _))
local macro_rules | `(tactic| walk_at "shwl") => `(tactic| first | exact ShwL.nil | exact ShwL.cons (by walk_at "shw") (by walk_at "shwl"))
local macro_rules | `(tactic| walk_at "sho") => `(tactic| first | assumption | (refine' Shw.ok ?shwa ?shwb ?shwc; (case shwa => walk_at "shw"); (case shwb => decide); (case shwc => decide)))
local macro_rules | `(tactic| walk_at "cls") => `(tactic| first | assumption | exact ChT.cl (by assumption) | exact RatT.cl (by assumption))
local macro_rules | `(tactic| walk_at "noat") => `(tactic| first | assumption | exact ChT.n1 (by assumption) | exact ChT.n2 (by assumption) | exact RatT.n1 (by assumption) | exact RatT.n2 (by assumption))
local macro_rules | `(tactic| walk_at "flk") => `(tactic| first | exact cf1 _ _ | exact cf2 _ _ | exact rf1 _ _ | exact rf2 _ _)
local macro_rules | `(tactic| walk_at "new") => `(tactic| first | refine Wo.nw (by assumption) fun _ _ _ _ => ?_ | refine Ho.nw (by assumption) fun _ _ _ _ => ?_)
local macro_rules | `(tactic| walk_at "kws") => `(tactic| first | exact wm (by assumption) (by assumption) | exact Nat.le_of_ble_eq_true rfl | exact szl (by omega) | walk_at "kbs")
local macro_rules | `(tactic| walk_at "kw1") => `(tactic| first
  | refine And.intro (show scal _ _ = true from rfl) ?_
  | refine ⟨_, rfl, ?_⟩
  | (refine ⟨_, _, rfl, rfl, ?_⟩; try refine And.intro (by walk_at "kws") ?_)
  | refine ⟨_, _, _, _, rfl, rfl, (by walk_at "seq"), rfl, ?_⟩
  | refine ⟨_, _, _, _, _, rfl, (by walk_at "hp"), (by walk_at "cls"), (by walk_at "noat"), (by walk_at "flk"), ?_⟩
  | refine ⟨_, _, rfl, (show SqL _ _ _ _ ∨ SqT _ _ _ _ from by walk_at "sqo"), ?_⟩
  | refine ⟨_, _, rfl, (show SqT _ _ _ _ from by walk_at "seq"), rfl, ?_⟩
  | refine ⟨_, _, rfl, (show Dp _ _ _ _ from by walk_at "dp"), (show ShOk _ from by walk_at "sho"), ?_⟩
  | refine ⟨_, _, (show Dp _ _ _ _ from by walk_at "dp"), (show Dp _ _ _ _ from by walk_at "dp"), (by first | rfl | decide +kernel), (by first | rfl | decide +kernel), ?_⟩
  | refine ⟨_, _, rfl, ?_⟩
  | refine And.intro (show _ ≤ 1000000 by walk_at "kws") ?_
  | walk_at "new"
  | refine And.intro (by walk_at "kws") ?_
  | refine And.intro ⟨_, rfl⟩ ?_
  | refine And.intro (show _ = some (some _) from rfl) ?_)
local macro_rules | `(tactic| walk_at "kw") => `(tactic| repeat (first | ((with_reducible refine iteNSI ?_ ?_); (with_reducible rfl)) | (with_reducible refine iteTI ?_) | (with_reducible refine iteFI ?_) | ((fail_if_success (with_reducible refine isIte ?_)); walk_at "kw1")))

local macro_rules | `(tactic| walk_at "kw1") => `(tactic| refine ⟨_, _, rfl, (show SqL _ _ _ _ from by walk_at "seq"), rfl, ?_⟩)
local macro_rules | `(tactic| walk_at "kw1") => `(tactic| ((refine' nrm_of ?nre ?nrg); (case nre => ((try simp only [L2.start, List.map, List.length_cons, List.length_nil, Nat.reduceAdd, Nat.reduceSub, Nat.zero_add, List.reduceReplicate, List.cons_append, List.nil_append, List.set_cons_succ, List.set_cons_zero]); exact rfl))))
local macro_rules | `(tactic| walk_at "nrm") => `(tactic| ((show ∀ sl : L2.St, _ = sl → _); (refine' nrm_of ?nre ?nrg); (case nre => ((try simp only [L2.start, List.map, List.length_cons, List.length_nil, Nat.reduceAdd, Nat.reduceSub, Nat.zero_add, List.reduceReplicate, List.cons_append, List.nil_append, List.set_cons_succ, List.set_cons_zero]); exact rfl))))

namespace Rt
theorem mk_ratH' {H : Hp} {C IR : Addr} {K : PySem.W.Frag} {R : Hp → Prop} {E : XK} {i j : Int} (hi : 1 ≤ i) (hj : 1 ≤ j) (bi : i.natAbs < 2 ^ 1000) (bj : j.natAbs < 2 ^ 1000) {x dx : Addr} (hx : H x = none) (hdx : H dx = none) (hne : dx ≠ x) (k : ∀ H', Same H H' → RatAt C H' x (i / (Int.gcd i j : Nat)) (j / (Int.gcd i j : Nat)) → R H') :
    sp_init C IR K (.ref x :: [.int i, .int j]) (upd (upd H dx (.own x)) x (.ins C dx [])) (fun v H2 => v = .non ∧ R H2) E := by
  have sm : Same H (upd (upd H dx (.own x)) x (.ins C dx [])) := (sm_new hdx).trans (sm_new (by rw [upd_ne (Ne.symm hne)]; exact hx))
  refine ⟨x, dx, _, _, rfl, .int _, .int _, upd_same, fun _ _ => ⟨_, _, rfl, rfl, bi, bj, fun H' k' ch => ⟨rfl, ?_⟩⟩, fun g => ?_⟩
  · exact k H' (fun a o e => k' a o (ne_of_none e hx) (sm a o e)) ch
  · have b1 : isLen (.int i) = true := decide_eq_true hi
    have b2 : isLen (.int j) = true := decide_eq_true hj
    rw [b1, b2] at g
    cases g
end Rt

/-! ## changes as four numbers -/
namespace Mx
structure Mt where
  a : Int
  b : Int
  c : Int
  d : Int
def Mt.mul (m n : Mt) : Mt := ⟨m.a * n.a + m.b * n.c, m.a * n.b + m.b * n.d, m.c * n.a + m.d * n.c, m.c * n.b + m.d * n.d⟩
def Mt.det (m : Mt) : Int := m.a * m.d - m.b * m.c
def Mt.one : Mt := ⟨1, 0, 0, 1⟩
def Mt.tl (m : Mt) : List V := [.int m.a, .int m.b, .int m.c, .int m.d]
theorem Mt.ext' {m n : Mt} (h1 : m.a = n.a) (h2 : m.b = n.b) (h3 : m.c = n.c) (h4 : m.d = n.d) : m = n := by cases m; cases n; simp_all
theorem Mt.det_mul (m n : Mt) : (m.mul n).det = m.det * n.det := by
  obtain ⟨a, b, c, d⟩ := m
  obtain ⟨e, f, g, h⟩ := n
  show (a * e + b * g) * (c * f + d * h) - (a * f + b * h) * (c * e + d * g) = (a * d - b * c) * (e * h - f * g)
  grind
theorem Mt.mul_assoc (m n k : Mt) : (m.mul n).mul k = m.mul (n.mul k) := by
  obtain ⟨a, b, c, d⟩ := m
  obtain ⟨e, f, g, h⟩ := n
  obtain ⟨i, j, p, q⟩ := k
  refine Mt.ext' ?_ ?_ ?_ ?_
  · show (a * e + b * g) * i + (a * f + b * h) * p = a * (e * i + f * p) + b * (g * i + h * p)
    grind
  · show (a * e + b * g) * j + (a * f + b * h) * q = a * (e * j + f * q) + b * (g * j + h * q)
    grind
  · show (c * e + d * g) * i + (c * f + d * h) * p = c * (e * i + f * p) + d * (g * i + h * p)
    grind
  · show (c * e + d * g) * j + (c * f + d * h) * q = c * (e * j + f * q) + d * (g * j + h * q)
    grind
theorem Mt.one_mul (m : Mt) : Mt.one.mul m = m := by
  obtain ⟨a, b, c, d⟩ := m
  refine Mt.ext' ?_ ?_ ?_ ?_
  · show 1 * a + 0 * c = a; omega
  · show 1 * b + 0 * d = b; omega
  · show 0 * a + 1 * c = c; omega
  · show 0 * b + 1 * d = d; omega
/-- none below 0, all below 2 ^ n -/
structure Mt.In (m : Mt) (n : Nat) : Prop where
  a0 : 0 ≤ m.a
  b0 : 0 ≤ m.b
  c0 : 0 ≤ m.c
  d0 : 0 ≤ m.d
  a1 : m.a < 2 ^ n
  b1 : m.b < 2 ^ n
  c1 : m.c < 2 ^ n
  d1 : m.d < 2 ^ n
theorem pw_mul {x y : Int} {i j : Nat} (hx : 0 ≤ x) (hy : 0 ≤ y) (h1 : x < 2 ^ i) (h2 : y < 2 ^ j) : x * y < 2 ^ (i + j) := by
  rw [Int.pow_add]
  have e : x * y ≤ x * 2 ^ j := Int.mul_le_mul_of_nonneg_left (Int.le_of_lt h2) hx
  have e2 : x * 2 ^ j < 2 ^ i * 2 ^ j := Int.mul_lt_mul_of_pos_right h1 (Int.pow_pos (by decide))
  exact Int.lt_of_le_of_lt e e2
theorem pw_sum {x y : Int} {i : Nat} (h1 : x < 2 ^ i) (h2 : y < 2 ^ i) : x + y < 2 ^ (i + 1) := by
  rw [Int.pow_succ]; omega
theorem Mt.In.mul {m n : Mt} {i j : Nat} (x : m.In i) (y : n.In j) : (m.mul n).In (i + j + 1) :=
  ⟨Int.add_nonneg (Int.mul_nonneg x.a0 y.a0) (Int.mul_nonneg x.b0 y.c0), Int.add_nonneg (Int.mul_nonneg x.a0 y.b0) (Int.mul_nonneg x.b0 y.d0),
   Int.add_nonneg (Int.mul_nonneg x.c0 y.a0) (Int.mul_nonneg x.d0 y.c0), Int.add_nonneg (Int.mul_nonneg x.c0 y.b0) (Int.mul_nonneg x.d0 y.d0),
   pw_sum (pw_mul x.a0 y.a0 x.a1 y.a1) (pw_mul x.b0 y.c0 x.b1 y.c1), pw_sum (pw_mul x.a0 y.b0 x.a1 y.b1) (pw_mul x.b0 y.d0 x.b1 y.d1),
   pw_sum (pw_mul x.c0 y.a0 x.c1 y.a1) (pw_mul x.d0 y.c0 x.d1 y.c1), pw_sum (pw_mul x.c0 y.b0 x.c1 y.b1) (pw_mul x.d0 y.d0 x.d1 y.d1)⟩
theorem pw_le {i j : Nat} (h : i ≤ j) : (2 : Int) ^ i ≤ 2 ^ j := by
  have := Nat.pow_le_pow_right (show 0 < 2 by decide) h
  exact_mod_cast this
theorem Mt.In.mono {m : Mt} {i j : Nat} (x : m.In i) (h : i ≤ j) : m.In j :=
  have e := pw_le h
  ⟨x.a0, x.b0, x.c0, x.d0, Int.lt_of_lt_of_le x.a1 e, Int.lt_of_lt_of_le x.b1 e, Int.lt_of_lt_of_le x.c1 e, Int.lt_of_lt_of_le x.d1 e⟩
theorem abs_lt {x : Int} {n : Nat} (h0 : 0 ≤ x) (h : x < 2 ^ n) : x.natAbs < 2 ^ n := by
  have e : ((x.natAbs : Nat) : Int) = x := by omega
  have : ((x.natAbs : Nat) : Int) < ((2 ^ n : Nat) : Int) := by rw [e]; exact_mod_cast h
  exact Int.ofNat_lt.mp this
theorem In1000 {m : Mt} (x : m.In 1000) : m.a.natAbs < 2 ^ 1000 ∧ m.b.natAbs < 2 ^ 1000 ∧ m.c.natAbs < 2 ^ 1000 ∧ m.d.natAbs < 2 ^ 1000 := ⟨abs_lt x.a0 x.a1, abs_lt x.b0 x.b1, abs_lt x.c0 x.c1, abs_lt x.d0 x.d1⟩
/-! ### powers -/
/-! ### words -/
def lt (x : Bool) : Mt := if x then ⟨1, 1, 0, 1⟩ else ⟨1, 0, 1, 1⟩
def wf (m : Mt) (u : List Bool) : Mt := u.foldl (fun m x => m.mul (lt x)) m
def wmx (u : List Bool) : Mt := wf Mt.one u
theorem wf_snoc (m : Mt) (u : List Bool) (x : Bool) : wf m (u ++ [x]) = (wf m u).mul (lt x) := by unfold wf; rw [List.foldl_append]; rfl
theorem wf_app : ∀ (u : List Bool) (m : Mt), (wf m u).a * 1 + (wf m u).b * 1 = m.a * (pr u).1 + m.b * (pr u).2 ∧ (wf m u).c * 1 + (wf m u).d * 1 = m.c * (pr u).1 + m.d * (pr u).2
  | [], m => ⟨rfl, rfl⟩
  | x :: u, m => by
    have h := wf_app u (m.mul (lt x))
    have e : wf m (x :: u) = wf (m.mul (lt x)) u := rfl
    rw [e, h.1, h.2]
    obtain ⟨a, b, c, d⟩ := m
    cases x
    · have p1 : ((pr (false :: u)).1 : Int) = (pr u).1 := rfl
      have p2 : ((pr (false :: u)).2 : Int) = (pr u).1 + (pr u).2 := by show (((pr u).1 + (pr u).2 : Nat) : Int) = _; omega
      rw [p1, p2]
      constructor
      · show (a * 1 + b * 1) * _ + (a * 0 + b * 1) * _ = _
        grind
      · show (c * 1 + d * 1) * _ + (c * 0 + d * 1) * _ = _
        grind
    · have p1 : ((pr (true :: u)).1 : Int) = (pr u).1 + (pr u).2 := by show (((pr u).1 + (pr u).2 : Nat) : Int) = _; omega
      have p2 : ((pr (true :: u)).2 : Int) = (pr u).2 := rfl
      rw [p1, p2]
      constructor
      · show (a * 1 + b * 0) * _ + (a * 1 + b * 1) * _ = _
        grind
      · show (c * 1 + d * 0) * _ + (c * 1 + d * 1) * _ = _
        grind
theorem wm_app (u : List Bool) : (wmx u).a + (wmx u).b = (pr u).1 ∧ (wmx u).c + (wmx u).d = (pr u).2 := by
  have h := wf_app u Mt.one
  have e1 : (Mt.one).a * ((pr u).1 : Int) + (Mt.one).b * (pr u).2 = (pr u).1 := by show 1 * _ + 0 * _ = _; omega
  have e2 : (Mt.one).c * ((pr u).1 : Int) + (Mt.one).d * (pr u).2 = (pr u).2 := by show 0 * _ + 1 * _ = _; omega
  rw [e1, e2] at h
  unfold wmx
  omega
theorem wf_det : ∀ (u : List Bool) (m : Mt), (wf m u).det = m.det
  | [], m => rfl
  | x :: u, m => by
    show (wf (m.mul (lt x)) u).det = _
    rw [wf_det u, Mt.det_mul]
    have : (lt x).det = 1 := by cases x <;> rfl
    rw [this, Int.mul_one]
theorem wm_det (u : List Bool) : (wmx u).det = 1 := wf_det u _
theorem lt_in (x : Bool) : 0 ≤ (lt x).a ∧ 0 ≤ (lt x).b ∧ 0 ≤ (lt x).c ∧ 0 ≤ (lt x).d := by cases x <;> decide
theorem wf_pos : ∀ (u : List Bool) (m : Mt), (0 ≤ m.a ∧ 0 ≤ m.b ∧ 0 ≤ m.c ∧ 0 ≤ m.d) → 0 ≤ (wf m u).a ∧ 0 ≤ (wf m u).b ∧ 0 ≤ (wf m u).c ∧ 0 ≤ (wf m u).d
  | [], m, h => h
  | x :: u, m, h => wf_pos u _ (by
    have l := lt_in x
    exact ⟨Int.add_nonneg (Int.mul_nonneg h.1 l.1) (Int.mul_nonneg h.2.1 l.2.2.1), Int.add_nonneg (Int.mul_nonneg h.1 l.2.1) (Int.mul_nonneg h.2.1 l.2.2.2), Int.add_nonneg (Int.mul_nonneg h.2.2.1 l.1) (Int.mul_nonneg h.2.2.2 l.2.2.1), Int.add_nonneg (Int.mul_nonneg h.2.2.1 l.2.1) (Int.mul_nonneg h.2.2.2 l.2.2.2)⟩)
theorem wm_in (u : List Bool) : (wmx u).In (u.length + 1) := by
  have p := wf_pos u Mt.one (by decide)
  have e := wm_app u
  have q := pr_le u
  have r := pr_pos u
  have h : ((pr u).1 : Int) + (pr u).2 ≤ 2 ^ (u.length + 1) := by exact_mod_cast q
  obtain ⟨p1, p2, p3, p4⟩ := (show 0 ≤ (wmx u).a ∧ 0 ≤ (wmx u).b ∧ 0 ≤ (wmx u).c ∧ 0 ≤ (wmx u).d from p)
  exact ⟨p1, p2, p3, p4, by omega, by omega, by omega, by omega⟩
theorem mul_l (m : Mt) : (m.mul (lt false)).tl = [.int (m.a + m.b), .int m.b, .int (m.c + m.d), .int m.d] := by
  have e : m.mul (lt false) = ⟨m.a + m.b, m.b, m.c + m.d, m.d⟩ := by
    refine Mt.ext' ?_ ?_ ?_ ?_
    · show m.a * 1 + m.b * 1 = m.a + m.b; omega
    · show m.a * 0 + m.b * 1 = m.b; omega
    · show m.c * 1 + m.d * 1 = m.c + m.d; omega
    · show m.c * 0 + m.d * 1 = m.d; omega
  rw [e]; rfl
theorem mul_r (m : Mt) : (m.mul (lt true)).tl = [.int m.a, .int (m.a + m.b), .int m.c, .int (m.c + m.d)] := by
  have e : m.mul (lt true) = ⟨m.a, m.a + m.b, m.c, m.c + m.d⟩ := by
    refine Mt.ext' ?_ ?_ ?_ ?_
    · show m.a * 1 + m.b * 0 = m.a; omega
    · show m.a * 1 + m.b * 1 = m.a + m.b; omega
    · show m.c * 1 + m.d * 0 = m.c; omega
    · show m.c * 1 + m.d * 1 = m.c + m.d; omega
  rw [e]; rfl
theorem ap_pos {m : Mt} {n : Nat} (h : m.In n) (hd : m.det ≠ 0) {x y : Int} (hx : 1 ≤ x) (hy : 1 ≤ y) : 1 ≤ m.a * x + m.b * y ∧ 1 ≤ m.c * x + m.d * y := by
  obtain ⟨a, b, c, d⟩ := m
  have h0 := h.a0
  have h1 := h.b0
  have h2 := h.c0
  have h3 := h.d0
  simp only at h0 h1 h2 h3
  have hd' : a * d - b * c ≠ 0 := hd
  have pos : ∀ u v : Int, 0 ≤ u → 0 ≤ v → (u ≠ 0 ∨ v ≠ 0) → 1 ≤ u * x + v * y := fun u v hu hv z => by
    have e1 := Int.mul_nonneg hu (show 0 ≤ x by omega)
    have e2 := Int.mul_nonneg hv (show 0 ≤ y by omega)
    rcases z with z | z
    · have := Int.mul_pos (show 0 < u by omega) (show 0 < x by omega)
      omega
    · have := Int.mul_pos (show 0 < v by omega) (show 0 < y by omega)
      omega
  refine ⟨pos a b h0 h1 (Classical.byContradiction fun z => ?_), pos c d h2 h3 (Classical.byContradiction fun z => ?_)⟩
  · have : a = 0 ∧ b = 0 := by omega
    apply hd'
    rw [this.1, this.2]; omega
  · have : c = 0 ∧ d = 0 := by omega
    apply hd'
    rw [this.1, this.2]; omega
end Mx
open Mx

/-! ## changes: products, powers, of words -/
namespace Cm
structure GT (K : PySem.W.Frag) (mg : Str → Option Value) (x : Str) (vs : List V) : Prop where
  ex : ∃ a, mg x = some (.ref a) ∧ ∀ H, SqT K H a vs
theorem gt_of {K : PySem.W.Frag} {mg : Str → Option Value} {x : Str} {vs : List V} {a : Addr} {o : Obj} {its : Array Value} {n : Nat} (h : mg x = some (.ref a)) (l : K.lookup a = some o) (c : o.cls = .type "tuple") (d : o.data = .seq its n) (z : its.size ≤ sizeLine) (v : Vals vs its.toList) : GT K mg x vs :=
  ⟨a, h, fun _ => .inr ⟨o, its, n, l, c, d, z, v⟩⟩
def ChM (CC : Addr) (H : Hp) (p : Addr) (m : Mt) : Prop := ChAt CC H p m.a m.b m.c m.d
theorem ChM.same {C : Addr} {H H' : Hp} {p : Addr} {m : Mt} (x : ChM C H p m) (s : Same H H') : ChM C H' p m := ChAt.same x s
theorem mk_chH {H : Hp} {CC IC : Addr} {K : PySem.W.Frag} {R : Hp → Prop} {E : XK} (m : Mt) (hm : m.In 1000) (hd : m.det ≠ 0) {x dx : Addr} (hx : H x = none) (hdx : H dx = none) (hne : dx ≠ x) (k : ∀ H', Same H H' → ChM CC H' x m → R H') :
    sp_chinit CC IC K (.ref x :: [.int m.a, .int m.b, .int m.c, .int m.d]) (upd (upd H dx (.own x)) x (.ins CC dx [])) (fun v H2 => v = .non ∧ R H2) E := by
  have sm : Same H (upd (upd H dx (.own x)) x (.ins CC dx [])) := (sm_new hdx).trans (sm_new (by rw [upd_ne (Ne.symm hne)]; exact hx))
  have hn : m.a * m.d ≠ m.b * m.c := fun e => hd (by unfold Mt.det; omega)
  have nat : nats (.int m.a) (.int m.b) (.int m.c) (.int m.d) = true := by
    have e : ∀ i : Int, 0 ≤ i → isNat (.int i) = true := fun i h => decide_eq_true h
    unfold nats
    rw [e _ hm.a0, e _ hm.b0, e _ hm.c0, e _ hm.d0]; rfl
  refine ⟨x, dx, _, _, _, _, rfl, ⟨.int _, .int _, .int _, .int _⟩, upd_same, fun _ => ⟨_, _, _, _, rfl, rfl, rfl, rfl, In1000 hm, fun _ H' k' ch => ⟨rfl, ?_⟩, fun e => absurd e hn⟩, fun g => by rw [nat] at g; cases g⟩
  exact k H' (fun a o e => k' a o (ne_of_none e hx) (sm a o e)) ch
theorem mk_ch {H : Hp} {CC IC : Addr} {K : PySem.W.Frag} {Q : VK} {E : XK} (m : Mt) (hm : m.In 1000) (hd : m.det ≠ 0) (k : ∀ r H', H r = none → Same H H' → ChM CC H' r m → Q (.ref r) H') (x dx : Addr) (hx : H x = none) (hdx : H dx = none) (hne : dx ≠ x) :
    sp_chinit CC IC K (.ref x :: [.int m.a, .int m.b, .int m.c, .int m.d]) (upd (upd H dx (.own x)) x (.ins CC dx [])) (fun v H2 => v = .non ∧ Q (.ref x) H2) E := mk_chH m hm hd hx hdx hne fun H' s c => k x H' hx s c
theorem mk_ratH {H : Hp} {C IR : Addr} {K : PySem.W.Frag} {R : Hp → Prop} {E : XK} {i j : Int} (hi : 1 ≤ i) (hj : 1 ≤ j) (bi : i.natAbs < 2 ^ 1000) (bj : j.natAbs < 2 ^ 1000) {x dx : Addr} (hx : H x = none) (hdx : H dx = none) (hne : dx ≠ x) (k : ∀ H', Same H H' → RatAt C H' x (i / (Int.gcd i j : Nat)) (j / (Int.gcd i j : Nat)) → R H') :
    sp_init C IR K (.ref x :: [.int i, .int j]) (upd (upd H dx (.own x)) x (.ins C dx [])) (fun v H2 => v = .non ∧ R H2) E := by
  have sm : Same H (upd (upd H dx (.own x)) x (.ins C dx [])) := (sm_new hdx).trans (sm_new (by rw [upd_ne (Ne.symm hne)]; exact hx))
  refine ⟨x, dx, _, _, rfl, .int _, .int _, upd_same, fun _ _ => ⟨_, _, rfl, rfl, bi, bj, fun H' k' ch => ⟨rfl, ?_⟩⟩, fun g => ?_⟩
  · exact k H' (fun a o e => k' a o (ne_of_none e hx) (sm a o e)) ch
  · have b1 : isLen (.int i) = true := decide_eq_true hi
    have b2 : isLen (.int j) = true := decide_eq_true hj
    rw [b1, b2] at g
    cases g
theorem mk_rat {H : Hp} {C IR : Addr} {K : PySem.W.Frag} {Q : VK} {E : XK} {i j : Int} (hi : 1 ≤ i) (hj : 1 ≤ j) (bi : i.natAbs < 2 ^ 1000) (bj : j.natAbs < 2 ^ 1000) (k : ∀ r H', H r = none → Same H H' → RatAt C H' r (i / (Int.gcd i j : Nat)) (j / (Int.gcd i j : Nat)) → Q (.ref r) H') (x dx : Addr) (hx : H x = none) (hdx : H dx = none) (hne : dx ≠ x) :
    sp_init C IR K (.ref x :: [.int i, .int j]) (upd (upd H dx (.own x)) x (.ins C dx [])) (fun v H2 => v = .non ∧ Q (.ref x) H2) E := mk_ratH hi hj bi bj hx hdx hne fun H' s c => k x H' hx s c
theorem Wo.ch {B r CC : Addr} {H0 H H' : Hp} {L : List (Addr × HO)} {m : Mt} (w : Wo B H0 H L) (s : Same H H') (c : ChM CC H' r m) : ∃ dx q, Wo B H0 H' ((r, .ins CC dx (cf q m.det)) :: (q, .tup m.tl) :: L) := by
  obtain ⟨dx, q, h1, h2⟩ := c
  exact ⟨dx, q, ((w.same s).tup h2).insA h1⟩
def sp_nb (K : PySem.W.Frag) : Sp := fun vs H Q _ => ∃ (q : Addr) (m : Mt) (x : Bool), vs = [.ref q, .str (enc [x])] ∧ SqT K H q m.tl ∧ New H (.tup (m.mul (lt x)).tl) Q
def sp_now (K : PySem.W.Frag) : Sp := fun vs H Q _ => ∃ u : List Bool, vs = [.str (enc u)] ∧ u.length ≤ 900 ∧ ∀ p H', Same H H' → SqT K H' p (wmx u).tl → Q (.ref p) H'
def sp_joined (K : PySem.W.Frag) : Sp := fun vs H Q _ => ∃ (p q : Addr) (m n : Mt), vs = [.ref p, .ref q] ∧ SqT K H p m.tl ∧ SqT K H q n.tl ∧ m.In 1000 ∧ n.In 1000 ∧ New H (.tup (m.mul n).tl) Q
def sp_chw (CC IW : Addr) (K : PySem.W.Frag) : Sp := fun vs H Q E => ∃ x, vs = [.ref CC, x] ∧ Kd K H x ∧ (∀ z, x = .str z → z.length ≤ 900) ∧ (∀ u, x = .str (enc u) → ∀ r H', H r = none → Same H H' → ChM CC H' r (wmx u) → Q (.ref r) H') ∧ (goodW x = false → ∀ H', Same H H' → E (.ref IW) none H')
def sp_mul (CC C : Addr) : Sp := fun vs H Q _ => ∃ (p q : Addr) (m : Mt), vs = [.ref p, .ref q] ∧ ChM CC H p m ∧ m.In 400 ∧ m.det ≠ 0 ∧
  ((∃ n : Mt, ChM CC H q n ∧ n.In 400 ∧ n.det ≠ 0 ∧ ∀ r H', H r = none → Same H H' → ChM CC H' r (m.mul n) → Q (.ref r) H') ∨
   (∃ x y : Int, RatAt C H q x y ∧ 1 ≤ x ∧ 1 ≤ y ∧ x < 2 ^ 400 ∧ y < 2 ^ 400 ∧ ∀ r H', H r = none → Same H H' → RatAt C H' r ((m.a * x + m.b * y) / (Int.gcd (m.a * x + m.b * y) (m.c * x + m.d * y) : Nat)) ((m.c * x + m.d * y) / (Int.gcd (m.a * x + m.b * y) (m.c * x + m.d * y) : Nat)) → Q (.ref r) H'))
theorem enc_l {x : Bool} (h : decide (V.str (enc [x]) = V.str ("l" : Str)) = true) : x = false := by
  have e := V.str.inj (of_decide_eq_true h)
  rw [lit_l] at e
  exact (List.cons.inj (enc_inj e)).1
theorem enc_r {x : Bool} (h : ¬ decide (V.str (enc [x]) = V.str ("l" : Str)) = true) : x = true := by
  cases x with
  | true => rfl
  | false => exact absurd (decide_eq_true (congrArg V.str lit_l.symm)) h
theorem at_word {u : List Bool} {i c : Nat} (h : (enc u).cps[i]? = some c) : ∃ b, u[i]? = some b ∧ V.str ⟨#[c]⟩ = V.str (enc [b]) := by
  obtain ⟨b, hb, rfl⟩ := enc_at h
  exact ⟨b, hb, rfl⟩
theorem wmx_take {u : List Bool} {i : Nat} {b : Bool} (h : u[i]? = some b) : wmx (u.take (i + 1)) = (wmx (u.take i)).mul (lt b) := by
  rw [List.take_succ, h]
  exact wf_snoc _ _ _
end Cm
open Cm
section
variable {P : Program} {w : World} {K : PySem.W.Frag} {mg : Str → Option Value} {base : Heap}
theorem ok_nb {f : Addr} {fd : FuncData} (F : Fun K "numbers_behind" "numbers_behind" S_numbers_behind f fd) (T : Txt K mg) : FnOk P w K mg base CX0 1 f fd ["numbers", "letter"] (sp_nb K) := by
  refine F.ok SC_numbers_behind (fun vs H Q E h => ?_) (fun cdv A outer s H vs Q E hr h => ?_)
  · obtain ⟨q, m, x, rfl, _⟩ := h
    rfl
  · obtain ⟨q, m, x, rfl, hq, k⟩ := h
    refine ⟨_, (pss_cons (ps_asg (pv 0) (pg_tup rfl (pgs_cons (pg_name (i := 2) SC_numbers_behind.nd rfl (.inl rfl)) (pgs_cons (pg_name (i := 3) SC_numbers_behind.nd rfl (.inl rfl)) (pgs_cons (pg_name (i := 4) SC_numbers_behind.nd rfl (.inl rfl)) (pgs_cons (pg_name (i := 5) SC_numbers_behind.nd rfl (.inl rfl)) pgs_nil))))))
      (pss_one (ps_ret (pe_ifExp (pt_cmpR op_eq (pv 1) pe_str (nomark _)) (pe_tupN (pa_cons (pe_op op_add (pv 2) (pv 3)) (pa_cons (pv 3) (pa_cons (pe_op op_add (pv 4) (pv 5)) (pa_cons (pv 5) pa_nil))))) (pe_tupN (pa_cons (pv 2) (pa_cons (pe_op op_add (pv 2) (pv 3)) (pa_cons (pv 4) (pa_cons (pe_op op_add (pv 4) (pv 5)) pa_nil))))))))), ?_⟩
    walk_at "kw"
    refine ite2 (fun h => ?_) (fun h => ?_)
    · cases enc_l h
      rw [mul_l] at k
      walk_at "kw"
      exact k
    · cases enc_r h
      rw [mul_r] at k
      walk_at "kw"
      exact k
theorem ok_now {f : Addr} {fd : FuncData} (F : Fun K "numbers_of_word" "numbers_of_word" S_numbers_of_word f fd) (T : Txt K mg) (G_SAME : GT K mg "SAME" Mt.one.tl) (C_nb : FnC P w K mg base CX0 1 "numbers_behind" ["numbers", "letter"] (sp_nb K)) : FnOk P w K mg base CX0 2 f fd ["word"] (sp_now K) := by
  refine F.ok SC_numbers_of_word (fun vs H Q E h => ?_) (fun cdv A outer s H vs Q E hr h => ?_)
  · obtain ⟨u, rfl, _⟩ := h
    rfl
  · obtain ⟨u, rfl, hu, k⟩ := h
    obtain ⟨aS, mS, sS⟩ := G_SAME.ex
    refine ⟨_, (pss_cons (ps_set (i := 1) SC_numbers_of_word.nd rfl (.inl rfl) (pe_glob (v := .ref aS) (by rfl) mS rfl))
      (pss_cons (ps_for PassesOwn.never rfl (pi_str (pv 0)) (pg_name (i := 2) SC_numbers_of_word.nd rfl (.inl rfl)) (pss_one (ps_set (i := 1) SC_numbers_of_word.nd rfl (.inl rfl) (pe_callC C_nb hr rfl (pa_cons (pv 1) (pa_cons (pv 2) pa_nil))))))
      (pss_one (ps_ret (pv 1))))), ?_⟩
    have hz : (enc u).cps.size = u.length := enc_len u
    refine ⟨_, rfl, enc u, rfl, for_it (walk_str (z := enc u)) (fun i σ H' => Same H H' ∧ ∃ (p : Addr) (x : Option V), SqT K H' p (wmx (u.take i)).tl ∧ σ = [some (.str (enc u)), some (.ref p), x])
      ⟨Same.refl H, aS, none, sS H, rfl⟩ (fun _ _ _ _ _ => trivial) (fun i v σ H1 H2 hi hP hY => ?_) (fun σ H1 hP => ?_)⟩
    · obtain ⟨sm, p, x, hp, rfl⟩ := hP
      obtain ⟨rfl, c, hc, rfl⟩ := hY
      obtain ⟨b, hb, eb⟩ := at_word hc
      rw [eb]
      refine ⟨_, rfl, _, rfl, p, _, b, rfl, hp, fun r H' _ s hr' => ?_⟩
      exact ⟨sm.trans s, r, _, by rw [wmx_take hb]; exact SqT.of hr', rfl⟩
    · obtain ⟨sm, p, x, hp, rfl⟩ := hP
      rw [hz, List.take_of_length_le (Nat.le_refl _)] at hp
      exact ⟨_, rfl, k p H1 sm hp⟩
theorem ok_joined {f : Addr} {fd : FuncData} (F : Fun K "numbers_joined" "numbers_joined" S_numbers_joined f fd) (T : Txt K mg) : FnOk P w K mg base CX0 1 f fd ["one", "other"] (sp_joined K) := by
  refine F.ok SC_numbers_joined (fun vs H Q E h => ?_) (fun cdv A outer s H vs Q E hr h => ?_)
  · obtain ⟨p, q, m, n, rfl, _⟩ := h
    rfl
  · obtain ⟨p, q, m, n, rfl, hp, hq, bm, bn, k⟩ := h
    obtain ⟨m1, m2, m3, m4⟩ := In1000 bm
    obtain ⟨n1, n2, n3, n4⟩ := In1000 bn
    refine ⟨_, (pss_cons (ps_asg (pv 0) (pg_tup rfl (pgs_cons (pg_name (i := 2) SC_numbers_joined.nd rfl (.inl rfl)) (pgs_cons (pg_name (i := 3) SC_numbers_joined.nd rfl (.inl rfl)) (pgs_cons (pg_name (i := 4) SC_numbers_joined.nd rfl (.inl rfl)) (pgs_cons (pg_name (i := 5) SC_numbers_joined.nd rfl (.inl rfl)) pgs_nil))))))
      (pss_cons (ps_asg (pv 1) (pg_tup rfl (pgs_cons (pg_name (i := 6) SC_numbers_joined.nd rfl (.inl rfl)) (pgs_cons (pg_name (i := 7) SC_numbers_joined.nd rfl (.inl rfl)) (pgs_cons (pg_name (i := 8) SC_numbers_joined.nd rfl (.inl rfl)) (pgs_cons (pg_name (i := 9) SC_numbers_joined.nd rfl (.inl rfl)) pgs_nil))))))
      (pss_one (ps_ret (pe_tupN (pa_cons (pe_op op_add (pe_op op_mulW (pv 2) (pv 6)) (pe_op op_mulW (pv 3) (pv 8))) (pa_cons (pe_op op_add (pe_op op_mulW (pv 2) (pv 7)) (pe_op op_mulW (pv 3) (pv 9))) (pa_cons (pe_op op_add (pe_op op_mulW (pv 4) (pv 6)) (pe_op op_mulW (pv 5) (pv 8))) (pa_cons (pe_op op_add (pe_op op_mulW (pv 4) (pv 7)) (pe_op op_mulW (pv 5) (pv 9))) pa_nil))))))))), ?_⟩
    walk_at "kw"
    exact k
end

section
variable {P : Program} {w : World} {K : PySem.W.Frag} {mg : Str → Option Value} {base : Heap}
theorem ok_chw {f CC IC IW : Addr} {fd : FuncData} (F : Fun K "of_word" "Change.of_word" S_Change_of_word f fd) (T : Txt K mg) (C_need : FnC P w K mg base (L2.CX P w) 4 "need_word" ["value"] (sp_need IW K)) (C_now : FnC P w K mg base CX0 2 "numbers_of_word" ["word"] (sp_now K))
    (C_changeX : MkC P w K mg base (L2.CX P w) 4 CC "Change" ["self", "a", "b", "c", "d"] (sp_chinit CC IC K)) : FnOk P w K mg base (L2.CX P w) 6 f fd ["cls", "word"] (sp_chw CC IW K) := by
  refine F.okX SC_Change_of_word (fun vs H Q E h => ?_) (fun cdv A outer s H vs Q E hr h => ?_)
  · obtain ⟨x, rfl, _⟩ := h
    rfl
  · obtain ⟨x, rfl, kd, hz, ok, bad⟩ := h
    refine ⟨_, (pss_cons (ps_expr (pe_callSC C_need (hr.mono (by decide)) (takes_of rfl rfl rfl rfl) rfl (pa_cons (pv 1) pa_nil)))
      (pss_cons (ps_asg (pe_callC C_now (hr.mono (by decide)) rfl (pa_cons (pv 1) pa_nil)) (pg_tup rfl (pgs_cons (pg_name (i := 2) SC_Change_of_word.nd rfl (.inl rfl)) (pgs_cons (pg_name (i := 3) SC_Change_of_word.nd rfl (.inl rfl)) (pgs_cons (pg_name (i := 4) SC_Change_of_word.nd rfl (.inl rfl)) (pgs_cons (pg_name (i := 5) SC_Change_of_word.nd rfl (.inl rfl)) pgs_nil))))))
      (pss_one (ps_ret (pe_makeL (i := 0) C_changeX (hr.mono (by decide)) (takes_of rfl rfl rfl rfl) rfl (.inl rfl) (pa_cons (pv 2) (pa_cons (pv 3) (pa_cons (pv 4) (pa_cons (pv 5) pa_nil))))))))), ?_⟩
    refine ⟨_, rfl, x, rfl, kd, fun z e => Nat.le_trans (hz z e) (by decide), fun g H1 sm1 => ?_, fun g H1 sm1 => bad g H1 sm1⟩
    obtain ⟨u, rfl⟩ : ∃ u, x = .str (enc u) := by
      cases x with
      | str z => obtain ⟨u, rfl⟩ := good_is g; exact ⟨u, rfl⟩
      | _ => cases g
    have hu : u.length ≤ 900 := by have := hz _ rfl; rwa [enc_len] at this
    refine ⟨_, rfl, u, rfl, hu, fun p H2 s2 hp => ?_⟩
    refine ⟨p, _, rfl, hp, rfl, ?_⟩
    walk_at "kw"
    exact mk_ch (wmx u) ((wm_in u).mono (by omega)) (by rw [wm_det]; decide) fun r H' hn s c => ok u rfl r H' ((sm1.trans s2).free hn) ((sm1.trans s2).trans s) c
theorem ok_mul {f CC C IC IR : Addr} {fd : FuncData} (F : Fun K "__mul__" "Change.__mul__" S_Change__mul_ f fd) (T : Txt K mg) (Rc : ChT K mg CC) (R : RatT K mg C) (kn : PySem.W.kitOne K (.ref C) (.ref CC) = some false) (C_joined : FnC P w K mg base CX0 1 "numbers_joined" ["one", "other"] (sp_joined K)) (C_lm : FnC P w K mg base CX0 1 "lengths_made" ["numbers", "first", "second"] sp_lm)
    (C_change : MkC P w K mg base CX0 4 CC "Change" ["self", "a", "b", "c", "d"] (Kb.calm (sp_chinit CC IC K))) (C_ratio : MkC P w K mg base CX0 4 C "Ratio" ["self", "first", "second"] (Kb.calm (sp_init C IR K))) : FnOk P w K mg base CX0 6 f fd ["self", "other"] (sp_mul CC C) := by
  refine F.ok SC_Change__mul_ (fun vs H Q E h => ?_) (fun cdv A outer s H vs Q E hr h => ?_)
  · obtain ⟨p, q, m, rfl, _⟩ := h
    rfl
  · obtain ⟨p, q, m, rfl, ⟨dx, q1, h1, h2⟩, bm, dm, k⟩ := h
    refine ⟨_, (pss_cons (ps_if (pt_val (pe_callB call_isi (by rfl) T.b_isinstance (by decide +kernel) (pa_cons (pv 1) (pa_cons (pe_glob (v := .ref CC) (by rfl) Rc.mgC rfl) pa_nil)))) (pss_cons (ps_asg (pe_callC C_joined (hr.mono (by decide)) rfl (pa_cons (pe_fld (pv 0) rfl) (pa_cons (pe_fld (pv 1) rfl) pa_nil))) (pg_tup rfl (pgs_cons (pg_name (i := 2) SC_Change__mul_.nd rfl (.inl rfl)) (pgs_cons (pg_name (i := 3) SC_Change__mul_.nd rfl (.inl rfl)) (pgs_cons (pg_name (i := 4) SC_Change__mul_.nd rfl (.inl rfl)) (pgs_cons (pg_name (i := 5) SC_Change__mul_.nd rfl (.inl rfl)) pgs_nil))))))
      (pss_one (ps_ret (pe_makeC C_change (hr.mono (by decide)) rfl (pa_cons (pv 2) (pa_cons (pv 3) (pa_cons (pv 4) (pa_cons (pv 5) pa_nil)))))))) pss_nil)
      (pss_cons (ps_if (pt_val (pe_callB call_isi (by rfl) T.b_isinstance (by decide +kernel) (pa_cons (pv 1) (pa_cons (pe_glob (v := .ref C) (by rfl) R.mgC rfl) pa_nil)))) (pss_cons (ps_asg (pe_callC C_lm (hr.mono (by decide)) rfl (pa_cons (pe_fld (pv 0) rfl) (pa_cons (pe_fld (pv 1) rfl) (pa_cons (pe_fld (pv 1) rfl) pa_nil)))) (pg_tup rfl (pgs_cons (pg_name (i := 6) SC_Change__mul_.nd rfl (.inl rfl)) (pgs_cons (pg_name (i := 7) SC_Change__mul_.nd rfl (.inl rfl)) pgs_nil))))
      (pss_one (ps_ret (pe_makeC C_ratio (hr.mono (by decide)) rfl (pa_cons (pv 6) (pa_cons (pv 7) pa_nil)))))) pss_nil)
      (pss_one ps_never))), ?_⟩
    rcases k with ⟨n, ⟨dy, q2, h3, h4⟩, bn, dn, k⟩ | ⟨x, y, ⟨dy, h3⟩, hx, hy, bx, b_y, k⟩
    · refine ⟨_, rfl, .ref q, _, .ref CC, _, true, rfl, .own CC, Rc.ty h3, Rc.ins.me, _, rfl, ifT rfl ?_⟩
      walk_at "kw"
      refine ⟨q1, q2, m, n, rfl, SqT.of h2, SqT.of h4, bm.mono (by decide), bn.mono (by decide), fun r H1 hn s1 hr1 => ?_⟩
      walk_at "kw"
      exact mk_ch (m.mul n) ((bm.mul bn).mono (by decide)) (by rw [Mt.det_mul]; exact Int.mul_ne_zero dm dn) fun r H' hn' s c => k r H' (s1.free hn') (s1.trans s) c
    · refine ⟨_, rfl, .ref q, _, .ref C, _, false, rfl, .own CC, R.ty h3, kn, _, rfl, ifF rfl ?_⟩
      refine ⟨_, rfl, .ref q, _, .ref C, _, true, rfl, .own C, R.ty h3, R.ins.me, _, rfl, ifT rfl ?_⟩
      walk_at "kw"
      have b5 := abs_lt (show 0 ≤ x by omega) bx
      have b6 := abs_lt (show 0 ≤ y by omega) b_y
      have c5 : x.natAbs < 2 ^ 1000 := Nat.lt_of_lt_of_le b5 (Nat.pow_le_pow_right (by decide) (by decide))
      have c6 : y.natAbs < 2 ^ 1000 := Nat.lt_of_lt_of_le b6 (Nat.pow_le_pow_right (by decide) (by decide))
      obtain ⟨m1, m2, m3, m4⟩ := In1000 (bm.mono (show 400 ≤ 1000 by decide))
      refine ⟨q1, m.a, m.b, m.c, m.d, x, y, rfl, h2, ⟨m1, m2, m3, m4, c5, c6⟩, fun r H1 hn s1 hr1 => ?_⟩
      walk_at "kw"
      have pos := ap_pos bm dm hx hy
      have p1 : m.a * x + m.b * y < 2 ^ (400 + 400 + 1) := pw_sum (pw_mul bm.a0 (by omega) bm.a1 bx) (pw_mul bm.b0 (by omega) bm.b1 b_y)
      have p2 : m.c * x + m.d * y < 2 ^ (400 + 400 + 1) := pw_sum (pw_mul bm.c0 (by omega) bm.c1 bx) (pw_mul bm.d0 (by omega) bm.d1 b_y)
      exact mk_rat pos.1 pos.2 (abs_lt (by omega) (Int.lt_trans p1 (by decide))) (abs_lt (by omega) (Int.lt_trans p2 (by decide))) fun r H' hn' s c => k r H' (s1.free hn') (s1.trans s) c
end

/-! ## how great ints are -/
theorem pe_never {X : Cx} {e : Expr} : PE X e (fun _ _ _ => False) := ⟨fun _ _ _ _ _ _ h => h.elim⟩
namespace Ro
theorem lcR_tp {K : PySem.W.Frag} {a : Addr} {xs : List V} {g : TG} {te : TE} {vs : List Nat} {σ : L2.St} {H1 : Hp} {D : Addr} {Qd : Hp → Prop} (M : Nat → Hp → Prop) (h0 : M 0 (upd H1 D (.lst []))) (hl : ∀ i H, i ≤ xs.length → M i H → SqT K H a xs)
    (hs : ∀ i x H, xs[i]? = some x → M i H → g x (wipe σ vs) H fun σ2 H2 => wipe σ2 vs = wipe σ vs ∧ te σ2 H2 fun y H4 => ∃ acc, H4 D = some (.lst acc) ∧ acc.length < sizeLine ∧ M (i + 1) (upd H4 D (.lst (acc ++ [y]))))
    (hm : ∀ x σ H Q Q', (∀ σ2 H2, Q σ2 H2 → Q' σ2 H2) → g x σ H Q → g x σ H Q') (hd : ∀ H, M xs.length H → Qd H) : LcR (Itt K a) g tYes te vs σ H1 D Qd :=
  lc_it walk_tup M h0 hl (fun i x H H' hi m y => by
    obtain ⟨e, hx⟩ := y
    subst e
    exact hm _ _ _ _ _ (fun σ2 H2 z => ⟨z.1, ifT (B := M (i + 1) H2) rfl z.2⟩) (hs i x _ hx m)) hd
def Bd (n : Nat) (i : Int) : Prop := i.natAbs < 2 ^ n
theorem Bd.mono {n m : Nat} {i : Int} (h : Bd n i) (e : n ≤ m) : Bd m i := Nat.lt_of_lt_of_le h (Nat.pow_le_pow_right (by decide) e)
theorem Bd.lit {i : Int} (h : decide (i.natAbs < 18446744073709551616) = true) : Bd 64 i := Nat.lt_of_lt_of_le (of_decide_eq_true (p := i.natAbs < 18446744073709551616) h) (by decide)
theorem Bd.mul {n m : Nat} {i j : Int} (h : Bd n i) (g : Bd m j) : Bd (n + m) (i * j) := by
  unfold Bd at *
  rw [Int.natAbs_mul, Nat.pow_add]
  exact Nat.mul_lt_mul'' h g
theorem two_max (n m : Nat) : 2 ^ n + 2 ^ m ≤ 2 ^ (max n m + 1) := by
  have h1 : 2 ^ n ≤ 2 ^ max n m := Nat.pow_le_pow_right (by decide) (Nat.le_max_left ..)
  have h2 : 2 ^ m ≤ 2 ^ max n m := Nat.pow_le_pow_right (by decide) (Nat.le_max_right ..)
  rw [Nat.pow_succ]
  omega
theorem Bd.add {n m : Nat} {i j : Int} (h : Bd n i) (g : Bd m j) : Bd (max n m + 1) (i + j) := by
  have := two_max n m
  unfold Bd at *
  generalize 2 ^ n = a at *
  generalize 2 ^ m = b at *
  omega
theorem Bd.sub {n m : Nat} {i j : Int} (h : Bd n i) (g : Bd m j) : Bd (max n m + 1) (i - j) := by
  have := two_max n m
  unfold Bd at *
  generalize 2 ^ n = a at *
  generalize 2 ^ m = b at *
  omega
theorem Bd.neg {n : Nat} {i : Int} (h : Bd n i) : Bd n (-i) := by unfold Bd at *; omega
theorem Bd.gcd {n m : Nat} {i j : Int} (h : Bd n i) (g : Bd m j) : Bd (max n m) ((Int.gcd i j : Nat) : Int) := by
  unfold Bd at *
  rw [Int.natAbs_natCast]
  have h1 : 2 ^ n ≤ 2 ^ max n m := Nat.pow_le_pow_right (by decide) (Nat.le_max_left ..)
  have h2 : 2 ^ m ≤ 2 ^ max n m := Nat.pow_le_pow_right (by decide) (Nat.le_max_right ..)
  by_cases hi : i = 0
  · subst hi
    rw [Int.gcd_zero_left]
    omega
  · have : Int.gcd i j ≤ i.natAbs := Int.gcd_le_natAbs_left _ (by omega)
    omega
theorem Bd.div {n : Nat} {i : Int} (j : Int) (h : Bd n i) : Bd n (i / j) := by
  unfold Bd at *
  exact Nat.lt_of_le_of_lt (Int.natAbs_ediv_le_natAbs _ _) h
theorem Bd.fdiv {n : Nat} {i : Int} (j : Int) (h : Bd n i) : Bd (n + 1) (Int.fdiv i j) := by
  have e := two_max n 0
  have : (Int.fdiv i j).natAbs ≤ i.natAbs + 1 := by
    rw [Int.fdiv_eq_ediv]
    have := Int.natAbs_ediv_le_natAbs i j
    split <;> omega
  unfold Bd at *
  rw [Nat.max_zero] at e
  generalize 2 ^ n = a at *
  generalize 2 ^ (n + 1) = b at *
  omega
theorem Bd.cm {n m : Nat} {i j : Int} (h : Bd n i) (g : Bd m j) (e : n + m ≤ 900000) : CMulW i j := wide_mul (h.mono (Nat.le_succ n)) (g.mono (Nat.le_succ m)) (Nat.succ_pos _) (Nat.succ_pos _) (by omega)
theorem Bd.lg {n : Nat} {j : Int} (g : Bd n j) (e : n ≤ 8999) : j.natAbs.log2 < 9000 := Nat.lt_of_lt_of_le (PySem.Flt.log2_lt_of (Nat.succ_pos n) (g.mono (Nat.le_succ n))) (by omega)
theorem Bd.cd {n : Nat} {i j : Int} (p : 0 < j) (g : Bd n j) (e : n ≤ 8999) : CDivW i j := ⟨p, g.lg e⟩
def CDivG (_ j : Int) : Prop := j ≠ 0 ∧ j.natAbs.log2 < 9000
theorem Bd.cg {n : Nat} {i j : Int} (p : j ≠ 0) (g : Bd n j) (e : n ≤ 8999) : CDivG i j := ⟨p, g.lg e⟩
theorem op_fdivG {X : Cx} : OpR X (binaryOp .FloorDiv) (rI CDivG fun i j => .int (Int.fdiv i j)) := opI fun i j _ _ _ _ _ hc q => floordiv_int hc.1 q (.inl (PyProof.noPylong_of_log2 hc.2))
/-- the sign of a number, as programs tell it -/
def sg (i : Int) : Int := (if decide (0 < i) = true then 1 else 0) - (if decide (i < 0) = true then 1 else 0)
theorem sg_p {i : Int} (h : 0 < i) : sg i = 1 := by unfold sg; simp [h]; omega
theorem sg_n {i : Int} (h : i < 0) : sg i = -1 := by unfold sg; simp [h]; omega
theorem sg_z : sg 0 = 0 := rfl
theorem sg_c (i : Int) : (0 < i ∧ sg i = 1) ∨ (i = 0 ∧ sg i = 0) ∨ (i < 0 ∧ sg i = -1) := by
  rcases Int.lt_trichotomy i 0 with h | h | h
  · exact .inr (.inr ⟨h, sg_n h⟩)
  · subst h; exact .inr (.inl ⟨rfl, rfl⟩)
  · exact .inl ⟨h, sg_p h⟩
theorem Bd.sg (i : Int) : Bd 2 (sg i) := by
  unfold Bd
  rcases sg_c i with ⟨_, h⟩ | ⟨_, h⟩ | ⟨_, h⟩ <;> rw [h] <;> decide
theorem sg_mul (i j : Int) : sg (i * j) = sg i * sg j := by
  rcases sg_c i with ⟨hi, h⟩ | ⟨hi, h⟩ | ⟨hi, h⟩ <;> rcases sg_c j with ⟨hj, g⟩ | ⟨hj, g⟩ | ⟨hj, g⟩ <;> rw [h, g]
  · exact sg_p (Int.mul_pos hi hj)
  · rw [hj, Int.mul_zero]; rfl
  · exact sg_n (Int.mul_neg_of_pos_of_neg hi hj)
  · rw [hi, Int.zero_mul]; rfl
  · rw [hi, Int.zero_mul]; rfl
  · rw [hi, Int.zero_mul]; rfl
  · exact sg_n (Int.mul_neg_of_neg_of_pos hi hj)
  · rw [hj, Int.mul_zero]; rfl
  · exact sg_p (Int.mul_pos_of_neg_of_neg hi hj)
/-- the sign of one + times * root of inner -/
def swr (a b c : Int) : Int := if sg a = sg b * sg c ∨ sg b * sg c = 0 then sg a else if sg a = 0 then sg b * sg c else sg a * sg (a * a - b * b * c)
theorem Bd.swr (a b c : Int) : Bd 4 (swr a b c) := by
  unfold Ro.swr
  split
  · exact (Bd.sg a).mono (by decide)
  · split
    · exact (Bd.sg b).mul (Bd.sg c)
    · exact (Bd.sg a).mul (Bd.sg _)
end Ro
open Ro

local macro_rules | `(tactic| walk_at "bd") => `(tactic| first | assumption | exact Bd.lit (by decide) | exact Bd.add (by walk_at "bd") (by walk_at "bd") | exact Bd.sub (by walk_at "bd") (by walk_at "bd") | exact Bd.mul (by walk_at "bd") (by walk_at "bd") | exact Bd.neg (by walk_at "bd") | exact Bd.sg _ | exact Bd.swr _ _ _ | exact Bd.gcd (by walk_at "bd") (by walk_at "bd") | exact Bd.div _ (by walk_at "bd") | exact Bd.fdiv _ (by walk_at "bd"))
local macro_rules | `(tactic| walk_at "kw1") => `(tactic| first
  | ((with_reducible refine And.intro (a := CMulW _ _) ?cw ?_); (case cw => exact Bd.cm (by walk_at "bd") (by walk_at "bd") (Nat.le_of_ble_eq_true rfl)))
  | ((with_reducible refine And.intro (a := CDivW _ _) ?cw ?_); (case cw => exact Bd.cd (by first | assumption | omega) (by walk_at "bd") (Nat.le_of_ble_eq_true rfl)))
  | ((with_reducible refine And.intro (a := CDivG _ _) ?cw ?_); (case cw => exact Bd.cg (by first | assumption | omega) (by walk_at "bd") (Nat.le_of_ble_eq_true rfl)))
  | ((refine ⟨_, _, _, rfl, (?cw : Bd _ _), ?_⟩); (case cw => exact Bd.mono (by walk_at "bd") (Nat.le_of_ble_eq_true rfl)))
  | ((refine ⟨_, _, _, _, rfl, (?cw : Bd _ _), ?_⟩); (case cw => exact Bd.mono (by walk_at "bd") (Nat.le_of_ble_eq_true rfl)))
  | ((with_reducible refine And.intro (a := Bd _ _) ?cw ?_); (case cw => exact Bd.mono (by walk_at "bd") (Nat.le_of_ble_eq_true rfl))))

/-! ## numbers with roots -/
namespace Ro
def sp_sign : Sp := fun vs H Q _ => ∃ i : Int, vs = [.int i] ∧ Q (.int (sg i)) H
def sp_com : Sp := fun vs H Q _ => ∃ i j : Int, vs = [.int i, .int j] ∧ Q (.int (Int.gcd i j)) H
def sp_wr : Sp := fun vs H Q _ => ∃ n : Int, vs = [.int n] ∧ 0 ≤ n ∧ Bd (400) n ∧ ∀ s : Int, 0 ≤ s → s * s ≤ n → n < (s + 1) * (s + 1) → Q (.int s) H
def sp_swr : Sp := fun vs H Q _ => ∃ a b c : Int, vs = [.int a, .int b, .int c] ∧ Bd 400 a ∧ Bd 400 b ∧ Bd 400 c ∧ Q (.int (swr a b c)) H
/-- the root of an equation, without a common factor -/
def lwf (a b c : Int) : Int := if a < 0 then 0 - (Int.gcd (Int.gcd a b) c : Int) else (Int.gcd (Int.gcd a b) c : Int)
def lwd (a b c s : Int) : List Int := [Int.fdiv a (lwf a b c), Int.fdiv b (lwf a b c), Int.fdiv c (lwf a b c), s]
def sp_low : Sp := fun vs H Q _ => ∃ a b c s : Int, vs = [.int a, .int b, .int c, .int s] ∧ a ≠ 0 ∧ Bd 800 a ∧ Bd 800 b ∧ Bd 800 c ∧ New H (.tup ((lwd a b c s).map V.int)) Q
def sp_inner (K : PySem.W.Frag) : Sp := fun vs H Q _ => ∃ (p : Addr) (a b c s : Int), vs = [.ref p] ∧ H p = some (.tup [.int a, .int b, .int c, .int s]) ∧ Bd 800 a ∧ Bd 800 b ∧ Bd 800 c ∧ Q (.int (b * b - 4 * a * c)) H
theorem lwf_ne {a b c : Int} (h : a ≠ 0) : lwf a b c ≠ 0 := by
  have g : Int.gcd a b ≠ 0 := fun e => h (Int.gcd_eq_zero_iff.mp e).1
  have g2 : Int.gcd (Int.gcd a b : Int) c ≠ 0 := fun e => by
    have := (Int.gcd_eq_zero_iff.mp e).1
    omega
  unfold lwf
  split <;> omega
theorem root_step {n x y t : Int} (hx : 1 ≤ x) (ht : t = n / x) (hy : y = (x + t) / 2) (hn : 0 ≤ n) : n < (y + 1) * (y + 1) := by
  have h1 : n < (t + 1) * x := by
    have := Int.lt_ediv_add_one_mul_self n (show 0 < x by omega)
    rw [← ht] at this
    exact this
  have h2 : x + t + 1 ≤ 2 * (y + 1) := by omega
  have t0 : 0 ≤ t := by rw [ht]; exact Int.ediv_nonneg hn (by omega)
  have h3 : (x + (t + 1)) * (x + (t + 1)) ≤ (2 * (y + 1)) * (2 * (y + 1)) := Int.mul_le_mul (by omega) (by omega) (by omega) (by omega)
  have h4 : 0 ≤ (x - (t + 1)) * (x - (t + 1)) := by
    rcases Int.le_total 0 (x - (t + 1)) with h | h
    · exact Int.mul_nonneg h h
    · exact Int.mul_nonneg_of_nonpos_of_nonpos h h
  have h5 : (x + (t + 1)) * (x + (t + 1)) = (x - (t + 1)) * (x - (t + 1)) + 4 * ((t + 1) * x) := by grind
  have h6 : (2 * (y + 1)) * (2 * (y + 1)) = 4 * ((y + 1) * (y + 1)) := by grind
  omega
end Ro
section
variable {P : Program} {w : World} {K : PySem.W.Frag} {mg : Str → Option Value} {base : Heap}
theorem ok_sign {f : Addr} {fd : FuncData} (F : Fun K "sign_of" "sign_of" S_sign_of f fd) (T : Txt K mg) : FnOk P w K mg base CX0 1 f fd ["number"] sp_sign := by
  refine F.ok SC_sign_of (fun vs H Q E h => ?_) (fun cdv A outer s H vs Q E hr h => ?_)
  · obtain ⟨i, rfl, _⟩ := h
    rfl
  · obtain ⟨i, rfl, q⟩ := h
    refine ⟨_, (pss_one (ps_ret (pe_op op_sub (pe_callTy call_intB (by rfl) T.b_int (by decide +kernel) (pa_cons (pe_cmpR op_gt (pv 0) pe_int (nomark _)) pa_nil)) (pe_callTy call_intB (by rfl) T.b_int (by decide +kernel) (pa_cons (pe_cmpR op_lt (pv 0) pe_int (nomark _)) pa_nil))))), ?_⟩
    walk_at "kw"
    exact q
theorem ok_com {f : Addr} {fd : FuncData} (F : Fun K "common" "common" S_common f fd) (T : Txt K mg) : FnOk P w K mg base CX0 1 f fd ["one", "other"] sp_com := by
  refine F.ok SC_common (fun vs H Q E h => ?_) (fun cdv A outer s H vs Q E hr h => ?_)
  · obtain ⟨i, j, rfl, _⟩ := h
    rfl
  · obtain ⟨i, j, rfl, q⟩ := h
    refine ⟨_, (pss_cons (ps_par (i := 0) (j := 1) (by rfl) SC_common.nd rfl rfl (by decide) rfl rfl (pa_cons (pe_callB call_abs (by rfl) T.b_abs (by decide +kernel) (pa_cons (pv 0) pa_nil)) (pa_cons (pe_callB call_abs (by rfl) T.b_abs (by decide +kernel) (pa_cons (pv 1) pa_nil)) pa_nil)) (by rfl))
      (pss_cons (ps_while PassesOwn.never (pt_cmpR op_ne (pv 1) pe_int (nomark _)) (pss_one (ps_par (i := 0) (j := 1) (by rfl) SC_common.nd rfl rfl (by decide) rfl rfl (pa_cons (pv 1) (pa_cons (pe_op op_mod (pe_callTy call_intI (by rfl) T.b_int (by decide +kernel) (pa_cons (pv 0) pa_nil)) (pv 1)) pa_nil)) (by rfl))))
      (pss_one (ps_ret (pv 0))))), ?_⟩
    walk_at "kw"
    refine while_by (fun σ H' => H' = H ∧ ∃ x y : Int, 0 ≤ x ∧ 0 ≤ y ∧ Int.gcd x y = Int.gcd i j ∧ σ = [some (.int x), some (.int y)]) (fun σ _ => match σ with | [_, some (.int y)] => y.toNat | _ => 0)
      ⟨rfl, _, _, by omega, by omega, by show Nat.gcd _ _ = Nat.gcd _ _; congr 1 <;> split <;> omega, rfl⟩ (fun σ H1 hP => ?_) (fun σ H Q Q' h q => ?_)
    · obtain ⟨rfl, x, y, hx, hy, hg, rfl⟩ := hP
      walk_at "kw"
      refine ite2 (fun h => ?_) (fun h => ?_)
      · have hy0 : 0 < y := by
          have : y ≠ 0 := fun e => by subst e; exact absurd h (by decide)
          omega
        walk_at "kw"
        refine ⟨⟨rfl, y, x % y, by omega, Int.emod_nonneg _ (by omega), ?_, rfl⟩, ?_⟩
        · rw [← hg]; exact gcd_step hx hy
        · show (x % y).toNat < y.toNat
          have := Int.emod_lt_of_pos x hy0
          omega
      · have hy0 : y = 0 := by
          have : decide (V.int y = V.int 0) = true := by simpa using h
          exact V.int.inj (of_decide_eq_true this)
        subst hy0
        refine ⟨_, rfl, ?_⟩
        have e : x = ((Int.gcd i j : Nat) : Int) := by rw [← hg, Int.gcd_zero_right]; omega
        rw [e]
        exact q
    · obtain ⟨v, h1, e, v2, e2, q⟩ := q
      exact ⟨v, h1, e, v2, e2, h _ _ q⟩
--@wr
theorem ok_wr {f : Addr} {fd : FuncData} (F : Fun K "whole_root" "whole_root" S_whole_root f fd) (T : Txt K mg) : FnOk P w K mg base CX0 1 f fd ["number"] sp_wr := by
  refine F.ok SC_whole_root (fun vs H Q E h => ?_) (fun cdv A outer s H vs Q E hr h => ?_)
  · obtain ⟨n, rfl, _⟩ := h
    rfl
  · obtain ⟨n, rfl, n0, bn, q⟩ := h
    refine ⟨_, (pss_cons (ps_if (pt_cmpR op_lt (pv 0) pe_int (nomark _)) (pss_one (ps_ret (pv 0))) pss_nil)
      (pss_cons (ps_set (i := 1) SC_whole_root.nd rfl (.inl rfl) (pv 0))
      (pss_cons (ps_set (i := 2) SC_whole_root.nd rfl (.inl rfl) (pe_op op_fdivW (pe_op op_add (pv 1) pe_int) pe_int))
      (pss_cons (ps_while PassesOwn.never (pt_cmpR op_lt (pv 2) (pv 1) (nomark _)) (pss_cons (ps_set (i := 1) SC_whole_root.nd rfl (.inl rfl) (pv 2))
      (pss_one (ps_set (i := 2) SC_whole_root.nd rfl (.inl rfl) (pe_op op_fdivW (pe_op op_add (pv 1) (pe_op op_fdivW (pv 0) (pv 1))) pe_int)))))
      (pss_one (ps_ret (pv 1))))))), ?_⟩
    walk_at "kw"
    refine ite2 (fun h => ?_) (fun h => ?_)
    · have h2 : n < 2 := of_decide_eq_true h
      refine ⟨_, rfl, ?_⟩
      have : n = 0 ∨ n = 1 := by omega
      rcases this with rfl | rfl
      · exact q 0 (by decide) (by decide) (by decide)
      · exact q 1 (by decide) (by decide) (by decide)
    have h2 : 2 ≤ n := by have : ¬ n < 2 := fun z => h (decide_eq_true z)
                          omega
    walk_at "kw"
    refine while_by (fun σ H' => H' = H ∧ ∃ x : Int, 1 ≤ x ∧ x ≤ n ∧ n < (x + 1) * (x + 1) ∧ σ = [some (.int n), some (.int x), some (.int ((x + n / x) / 2))]) (fun σ _ => match σ with | [_, some (.int x), _] => x.toNat | _ => 0)
      ⟨rfl, n, by omega, by omega, ?_, ?_⟩ (fun σ H1 hP => ?_) (fun σ H Q Q' h q => ?_)
    · have : n * 1 ≤ n * n := Int.mul_le_mul_of_nonneg_left (by omega) (by omega)
      have e : (n + 1) * (n + 1) = n * n + 2 * n + 1 := by grind
      omega
    · rw [Int.ediv_self (by omega)]; rfl
    · obtain ⟨rfl, x, x1, xn, hx, rfl⟩ := hP
      have bx : Bd (400) x := by unfold Bd at bn ⊢; generalize 2 ^ 400 = z at bn ⊢; omega
      walk_at "kw"
      refine ite2 (fun h => ?_) (fun h => ?_)
      · have hlt : (x + n / x) / 2 < x := of_decide_eq_true h
        have q0 : 0 ≤ n / x := Int.ediv_nonneg n0 (by omega)
        have hy1 : 1 ≤ (x + n / x) / 2 := by
          have : 1 ≤ n / x := (Int.le_ediv_iff_mul_le (by omega)).mpr (by omega)
          omega
        have by_ : Bd (400) ((x + n / x) / 2) := by unfold Bd at bx ⊢; generalize 2 ^ 400 = z at bx ⊢; omega
        have st := root_step (n := n) x1 rfl rfl n0
        walk_at "kw"
        refine ⟨⟨rfl, _, hy1, by omega, st, rfl⟩, ?_⟩
        show ((x + n / x) / 2).toNat < x.toNat
        omega
      · have hge : ¬ (x + n / x) / 2 < x := fun z => h (decide_eq_true z)
        walk_at "kw"
        refine q x (by omega) ?_ hx
        have : x ≤ n / x := by omega
        exact (Int.le_ediv_iff_mul_le (by omega)).mp this
    · obtain ⟨v, h1, v2, h2, i, j, e1, e2, k, e3, q⟩ := q
      exact ⟨v, h1, v2, h2, i, j, e1, e2, k, e3, h _ _ q⟩
--@*
theorem ok_swr {f : Addr} {fd : FuncData} (F : Fun K "sign_with_root" "sign_with_root" S_sign_with_root f fd) (T : Txt K mg) (C_sign : FnC P w K mg base CX0 1 "sign_of" ["number"] sp_sign) : FnOk P w K mg base CX0 2 f fd ["one", "times", "inner"] sp_swr := by
  refine F.ok SC_sign_with_root (fun vs H Q E h => ?_) (fun cdv A outer s H vs Q E hr h => ?_)
  · obtain ⟨a, b, c, rfl, _⟩ := h
    rfl
  · obtain ⟨a, b, c, rfl, ba, bb, bc, q⟩ := h
    refine ⟨_, (pss_cons (ps_par (i := 3) (j := 4) (by rfl) SC_sign_with_root.nd rfl rfl (by decide) rfl rfl (pa_cons (pe_callC C_sign (hr.mono (by decide)) rfl (pa_cons (pv 0) pa_nil)) (pa_cons (pe_op op_mulW (pe_callC C_sign (hr.mono (by decide)) rfl (pa_cons (pv 1) pa_nil)) (pe_callC C_sign (hr.mono (by decide)) rfl (pa_cons (pv 2) pa_nil))) pa_nil)) (by rfl))
      (pss_cons (ps_if (PW.pt (pw_or (pt_cmpR op_eq (pv 3) (pv 4) (nomark _)) (pw_or1 (pt_cmpR op_eq (pv 4) pe_int (nomark _))))) (pss_one (ps_ret (pv 3))) pss_nil)
      (pss_cons (ps_if (pt_cmpR op_eq (pv 3) pe_int (nomark _)) (pss_one (ps_ret (pv 4))) pss_nil)
      (pss_one (ps_ret (pe_op op_mulW (pv 3) (pe_callC C_sign (hr.mono (by decide)) rfl (pa_cons (pe_op op_sub (pe_op op_mulW (pv 0) (pv 0)) (pe_op op_mulW (pe_op op_mulW (pv 1) (pv 1)) (pv 2))) pa_nil)))))))), ?_⟩
    unfold swr at q
    walk_at "kw"
    refine ite2 (fun h => ?_) (fun h => ?_)
    · rw [if_pos (.inl (V.int.inj (of_decide_eq_true h)))] at q
      exact ⟨_, rfl, q⟩
    have n1 : ¬ sg a = sg b * sg c := fun e => h (decide_eq_true (congrArg V.int e))
    walk_at "kw"
    refine ite2 (fun h => ?_) (fun h => ?_)
    · rw [if_pos (.inr (V.int.inj (of_decide_eq_true h)))] at q
      exact ⟨_, rfl, q⟩
    have n2 : ¬ sg b * sg c = 0 := fun e => h (decide_eq_true (congrArg V.int e))
    rw [if_neg (fun z => z.elim n1 n2)] at q
    walk_at "kw"
    refine ite2 (fun h => ?_) (fun h => ?_)
    · rw [if_pos (V.int.inj (of_decide_eq_true h))] at q
      exact ⟨_, rfl, q⟩
    rw [if_neg (fun e => h (decide_eq_true (congrArg V.int e)))] at q
    walk_at "kw"
    exact q
theorem ok_low {f : Addr} {fd : FuncData} (F : Fun K "lowered" "lowered" S_lowered f fd) (T : Txt K mg) (C_com : FnC P w K mg base CX0 1 "common" ["one", "other"] sp_com) : FnOk P w K mg base CX0 2 f fd ["a", "b", "c", "side"] sp_low := by
  refine F.ok SC_lowered (fun vs H Q E h => ?_) (fun cdv A outer s H vs Q E hr h => ?_)
  · obtain ⟨a, b, c, s, rfl, _⟩ := h
    rfl
  · obtain ⟨a, b, c, s, rfl, a0, ba, bb, bc, q⟩ := h
    refine ⟨_, (pss_cons (ps_set (i := 4) SC_lowered.nd rfl (.inl rfl) (pe_callC C_com hr rfl (pa_cons (pe_callC C_com hr rfl (pa_cons (pv 0) (pa_cons (pv 1) pa_nil))) (pa_cons (pv 2) pa_nil))))
      (pss_mid (ps_if (pt_cmpR op_lt (pv 0) pe_int (nomark _)) (pss_one (ps_set (i := 4) SC_lowered.nd rfl (.inl rfl) (pe_op op_sub pe_int (pv 4)))) pss_nil)
      (pss_one (ps_ret (pe_tupN (pa_cons (pe_op op_fdivG (pv 0) (pv 4)) (pa_cons (pe_op op_fdivG (pv 1) (pv 4)) (pa_cons (pe_op op_fdivG (pv 2) (pv 4)) (pa_cons (pv 3) pa_nil))))))))), ?_⟩
    have f0 := lwf_ne (b := b) (c := c) a0
    have bf : Bd 801 (lwf a b c) := by
      have g := Bd.gcd (Bd.gcd ba bb) bc
      unfold lwf
      split
      · exact (Bd.sub (Bd.lit (i := 0) (by decide)) g).mono (by decide)
      · exact g.mono (by decide)


    walk_at "kw"
    refine ⟨fun σ' H' => H' = H ∧ σ' = [some (.int a), some (.int b), some (.int c), some (.int s), some (.int (lwf a b c))], ?_, fun σ1 H1 z => ?_⟩
    · walk_at "kw"
      refine ite2 (fun h => ?_) (fun h => ?_)
      · have h' : a < 0 := of_decide_eq_true h
        walk_at "kw"
        exact ⟨rfl, by unfold lwf; rw [if_pos h']; rfl⟩
      · have h' : ¬ a < 0 := fun e => h (decide_eq_true e)
        exact ⟨rfl, by unfold lwf; rw [if_neg h']; rfl⟩
    obtain ⟨rfl, rfl⟩ := z
    walk_at "kw"
    exact q
theorem ok_inner {f : Addr} {fd : FuncData} (F : Fun K "inner_of" "inner_of" S_inner_of f fd) (T : Txt K mg) : FnOk P w K mg base CX0 1 f fd ["root"] (sp_inner K) := by
  refine F.ok SC_inner_of (fun vs H Q E h => ?_) (fun cdv A outer s H vs Q E hr h => ?_)
  · obtain ⟨p, a, b, c, s, rfl, _⟩ := h
    rfl
  · obtain ⟨p, a, b, c, s, rfl, hp, ba, bb, bc, q⟩ := h
    have W := (Ho.start H).call (Same.refl H) hp
    refine ⟨_, (pss_one (ps_ret (pe_op op_sub (pe_op op_mulW (pe_ix ix_tup (pv 0) pe_int (fun _ _ => rfl)) (pe_ix ix_tup (pv 0) pe_int (fun _ _ => rfl))) (pe_op op_mulW (pe_op op_mulW pe_int (pe_ix ix_tup (pv 0) pe_int (fun _ _ => rfl))) (pe_ix ix_tup (pv 0) pe_int (fun _ _ => rfl)))))), ?_⟩
    walk_at "kw"
    exact q
end

/-! ## edges -/
namespace Ed
structure EdgT (K : PySem.W.Frag) (mg : Str → Option Value) (C : Addr) : Prop where
  ins : C8.InsC K C
  n1 : NoAttr K C "place"
  n2 : NoAttr K C "numbers"
  mgC : mg "Edge" = some (.ref C)
  nf : PySem.W.notFirst K C (.ref C) = true
  ne : PySem.W.findIn K (.ref C) "__ne__" = some (some (.builtin "object.__ne__"))
  so : PySem.W.subIn K (.ref C) (.type "object") = some true
theorem EdgT.cl {K : PySem.W.Frag} {mg : Str → Option Value} {C : Addr} (T : EdgT K mg C) : Cls K C := T.ins.cl
theorem EdgT.ty {K : PySem.W.Frag} {mg : Str → Option Value} {C : Addr} (T : EdgT K mg C) {H : Hp} {p dx : Addr} {fs : List (Str × V)} (h : H p = some (.ins C dx fs)) : TyX K H (.ref p) (.ref C) := .base (.ins h T.ins.cl T.ins.ha T.ins.hn T.ins.htk T.ins.hm)
theorem n_ln : ¬ (("letters" : Str) = "numbers") := by decide +kernel
theorem n_lp : ¬ (("letters" : Str) = "place") := by decide +kernel
theorem n_pn : ¬ (("place" : Str) = "numbers") := by decide +kernel
def ef (p n : V) : List (Str × V) := putF "numbers" n (putF "place" p [])
def ef' (p n : V) : List (Str × V) := putF "numbers" n (putF "numbers" .non (putF "place" p []))
theorem ef1 (p n : V) : (ef p n).lookup ("place" : Str) = some p := by unfold ef; rw [lookup_putF, if_neg n_pn, lookup_putF, if_pos rfl]
theorem ef2 (p n : V) : (ef p n).lookup ("numbers" : Str) = some n := by unfold ef; rw [lookup_putF, if_pos rfl]
theorem ef1' (p n : V) : (ef' p n).lookup ("place" : Str) = some p := by unfold ef'; rw [lookup_putF, if_neg n_pn, lookup_putF, if_neg n_pn, lookup_putF, if_pos rfl]
theorem ef2' (p n : V) : (ef' p n).lookup ("numbers" : Str) = some n := by unfold ef'; rw [lookup_putF, if_pos rfl]
/-- the numbers of a place with a root -/
def nmr (a b c s : Int) : List Int := [0 - b, s, b * b - 4 * a * c, 2 * a]
def EdgeAt (CE : Addr) (H : Hp) (e : Addr) : List Int → Prop
  | [a, b] => ∃ (dx t : Addr) (fs : List (Str × V)), H e = some (.ins CE dx fs) ∧ fs.lookup ("place" : Str) = some (.ref t) ∧ (fs.lookup ("numbers" : Str) = some .non ∧ fs.lookup ("letters" : Str) = none) ∧ H t = some (.tup [.int a, .int b])
  | [a, b, c, s] => ∃ (dx t m : Addr) (fs : List (Str × V)), H e = some (.ins CE dx fs) ∧ fs.lookup ("place" : Str) = some (.ref t) ∧ (fs.lookup ("numbers" : Str) = some (.ref m) ∧ fs.lookup ("letters" : Str) = none) ∧ H t = some (.tup [.int a, .int b, .int c, .int s]) ∧ H m = some (.tup ((nmr a b c s).map V.int))
  | _ => False
theorem EdgeAt.at {CE : Addr} {H : Hp} {e : Addr} {pl : List Int} (h : EdgeAt CE H e pl) : ∃ (dx t : Addr) (fs : List (Str × V)), H e = some (.ins CE dx fs) ∧ fs.lookup ("place" : Str) = some (.ref t) ∧ H t = some (.tup (pl.map V.int)) := by
  unfold EdgeAt at h
  split at h
  · obtain ⟨dx, t, fs, h1, h2, _, h3⟩ := h
    exact ⟨dx, t, fs, h1, h2, h3⟩
  · obtain ⟨dx, t, m, fs, h1, h2, _, h3, _⟩ := h
    exact ⟨dx, t, fs, h1, h2, h3⟩
  · exact h.elim
theorem EdgeAt.same {CE : Addr} {H H' : Hp} {e : Addr} {pl : List Int} (h : EdgeAt CE H e pl) (s : Same H H') : EdgeAt CE H' e pl := by
  unfold EdgeAt at h ⊢
  split at h
  · obtain ⟨dx, t, fs, h1, h2, h2', h3⟩ := h
    exact ⟨dx, t, fs, s _ _ h1, h2, h2', s _ _ h3⟩
  · obtain ⟨dx, t, m, fs, h1, h2, h2', h3, h4⟩ := h
    exact ⟨dx, t, m, fs, s _ _ h1, h2, h2', s _ _ h3, s _ _ h4⟩
  · exact h.elim
/-- what an edge needs to stand in another heap: its box is none of its objects -/
theorem EdgeAt.keep {CE B : Addr} {H H' : Hp} {e : Addr} {pl : List Int} (h : EdgeAt CE H e pl) (hb : BoxAt H B) (k : Keep B H H') : EdgeAt CE H' e pl := by
  obtain ⟨c, sd, n, hB, _⟩ := hb
  have ne1 : ∀ {a C dx : Addr} {fs : List (Str × V)}, H a = some (.ins C dx fs) → H' a = some (.ins C dx fs) := fun {a C dx fs} q => k a _ (fun e => by rw [e, hB] at q; cases q) q
  have ne2 : ∀ {a : Addr} {xs : List V}, H a = some (.tup xs) → H' a = some (.tup xs) := fun {a xs} q => k a _ (fun e => by rw [e, hB] at q; cases q) q
  unfold EdgeAt at h ⊢
  split at h
  · obtain ⟨dx, t, fs, h1, h2, h2', h3⟩ := h
    exact ⟨dx, t, fs, ne1 h1, h2, h2', ne2 h3⟩
  · obtain ⟨dx, t, m, fs, h1, h2, h2', h3, h4⟩ := h
    exact ⟨dx, t, m, fs, ne1 h1, h2, h2', ne2 h3, ne2 h4⟩
  · exact h.elim
def plOk (pl : List Int) : Prop := (∃ a b, pl = [a, b]) ∨ (∃ a b c s, pl = [a, b, c, s] ∧ Bd 800 a ∧ Bd 800 b ∧ Bd 800 c)
def sp_einit (CE : Addr) : Sp := fun vs H Q _ => ∃ (x dx t : Addr) (pl : List Int), vs = [.ref x, .ref t] ∧ H x = some (.ins CE dx []) ∧ H t = some (.tup (pl.map V.int)) ∧ plOk pl ∧ ∀ H', (∀ a o, a ≠ x → H a = some o → H' a = some o) → EdgeAt CE H' x pl → Q .non H'
def sp_ecm (CE : Addr) (pl : List Int) : Sp := fun vs H Q _ => vs = [.ref CE] ∧ ∀ r H', H r = none → Same H H' → EdgeAt CE H' r pl → Q (.ref r) H'
def sp_eof (C CE : Addr) : Sp := fun vs H Q _ => ∃ (p : Addr) (a b : Int), vs = [.ref CE, .ref p] ∧ RatAt C H p a b ∧ ∀ r H', H r = none → Same H H' → EdgeAt CE H' r [a, b] → Q (.ref r) H'
def sp_eratio (C CE : Addr) : Sp := fun vs H Q _ => ∃ (e : Addr) (pl : List Int), vs = [.ref e] ∧ EdgeAt CE H e pl ∧
  (∀ a b, pl = [a, b] → a ≠ 0 → b ≠ 0 → 1 ≤ a ∧ 1 ≤ b ∧ Bd 1000 a ∧ Bd 1000 b ∧ ∀ r H', H r = none → Same H H' → RatAt C H' r (a / (Int.gcd a b : Nat)) (b / (Int.gcd a b : Nat)) → Q (.ref r) H') ∧
  ((∀ a b, pl = [a, b] → a = 0 ∨ b = 0) → ∀ H', Same H H' → Q .non H')
def sp_eeq (CE : Addr) : Sp := fun vs H Q _ => ∃ (e g : Addr) (pl pl' : List Int), vs = [.ref e, .ref g] ∧ EdgeAt CE H e pl ∧ EdgeAt CE H g pl' ∧ Q (.bl (decide (pl = pl'))) H
theorem dpIs {K : PySem.W.Frag} {H : Hp} {p : Addr} {ns : List Int} (h : H p = some (.tup (ns.map V.int))) : Dp K H (.ref p) (.tuple (ns.map PyData.int)) := .tup (SqT.of h) (by
  clear h
  induction ns with
  | nil => exact .nil
  | cons n ns ih => exact .cons (.int n) ih)
theorem canIs : ∀ ns : List Int, PyData.canLayAll0 (ns.map PyData.int) = true
  | [] => rfl
  | n :: ns => by
    show ((PyData.int n).canLay0 && PyData.canLayAll0 (ns.map PyData.int)) = true
    rw [canIs ns]; rfl
theorem depIs : ∀ ns : List Int, PyData.depthAll (ns.map PyData.int) = 0
  | [] => rfl
  | n :: ns => by
    show max 0 (PyData.depthAll (ns.map PyData.int)) = 0
    rw [depIs ns]; rfl
theorem shIs (ns : List Int) : SeqAt.shaped (.tuple (ns.map PyData.int)) = true := by
  show (PyData.canLayAll0 (ns.map PyData.int) && decide (PyData.depthAll (ns.map PyData.int) + 1 ≤ 64)) = true
  rw [canIs, depIs]; rfl
theorem eqvIs : ∀ (xs ys : List Int), PyData.eqvAll (xs.map PyData.int) (ys.map PyData.int) = decide (xs = ys)
  | [], [] => rfl
  | [], _ :: _ => rfl
  | _ :: _, [] => rfl
  | x :: xs, y :: ys => by
    show (PyData.eqv (.int x) (.int y) && PyData.eqvAll (xs.map PyData.int) (ys.map PyData.int)) = _
    rw [eqvIs xs ys, Bool.eq_iff_iff]
    simp [PyData.eqv]
theorem eqvT (xs ys : List Int) : PyData.eqv (.tuple (xs.map PyData.int)) (.tuple (ys.map PyData.int)) = decide (xs = ys) := by
  rw [← eqvIs]; rfl
theorem mk_edge {H : Hp} {CE t : Addr} {pl : List Int} {R : Hp → Prop} {E : XK} (ht : H t = some (.tup (pl.map V.int))) (ok : plOk pl) {x dx : Addr} (hx : H x = none) (hdx : H dx = none) (hne : dx ≠ x) (k : ∀ H', Same H H' → EdgeAt CE H' x pl → R H') :
    sp_einit CE (.ref x :: [.ref t]) (upd (upd H dx (.own x)) x (.ins CE dx [])) (fun v H2 => v = .non ∧ R H2) E := by
  have sm : Same H (upd (upd H dx (.own x)) x (.ins CE dx [])) := (sm_new hdx).trans (sm_new (by rw [upd_ne (Ne.symm hne)]; exact hx))
  exact ⟨x, dx, t, pl, rfl, upd_same, sm _ _ ht, ok, fun H' k' h' => ⟨rfl, k H' (fun a o e => k' a o (ne_of_none e hx) (sm a o e)) h'⟩⟩
end Ed
open Ed
section
variable {P : Program} {w : World} {K : PySem.W.Frag} {mg : Str → Option Value} {base : Heap}
theorem ok_einit {f CE : Addr} {fd : FuncData} (F : Fun K "__init__" "Edge.__init__" S_Edge__init_ f fd) (T : Txt K mg) (Re : EdgT K mg CE) (C_inner : FnC P w K mg base CX0 1 "inner_of" ["root"] (sp_inner K)) : FnOk P w K mg base (L2.CX P w) 2 f fd ["self", "place"] (sp_einit CE) := by
  refine F.okX SC_Edge__init_ (fun vs H Q E h => ?_) (fun cdv A outer s H vs Q E hr h => ?_)
  · obtain ⟨x, dx, t, pl, rfl, _⟩ := h
    rfl
  · obtain ⟨x, dx, t, pl, rfl, hx, ht, ok, k⟩ := h
    refine ⟨_, (pss_cons (ps_fld (pv 0) (pv 1) rfl)
      (pss_cons (ps_fld (pv 0) pe_non rfl)
      (pss_one (ps_if (pt_cmpR op_eq (pe_callB call_len_seq (by rfl) T.b_len (by decide +kernel) (pa_cons (pv 1) pa_nil)) pe_int (nomark _)) (pss_one (ps_fld (pv 0) (pe_tupN (pa_cons (pe_op op_sub pe_int (pe_ix ix_tup (pv 1) pe_int (fun _ _ => rfl))) (pa_cons (pe_ix ix_tup (pv 1) pe_int (fun _ _ => rfl)) (pa_cons (pe_callC C_inner (hr.mono (by decide)) rfl (pa_cons (pv 1) pa_nil)) (pa_cons (pe_op op_mulW pe_int (pe_ix ix_tup (pv 1) pe_int (fun _ _ => rfl))) pa_nil))))) rfl)) pss_nil)))), ?_⟩
    have ne : t ≠ x := fun e => by rw [e, hx] at ht; cases ht
    walk_at "kb"
    refine ⟨x, CE, dx, _, rfl, hx, Re.ins.cl, Re.n1, by show 0 < 1000; decide, ?_⟩
    walk_at "kb"
    refine ⟨x, CE, dx, _, rfl, upd_same, Re.ins.cl, Re.n2, by show 1 < 1000; decide, ?_⟩
    have ht' : ∀ o1 o2, (upd (upd H x o1) x o2) t = some (.tup (pl.map V.int)) := fun o1 o2 => by rw [upd_ne ne, upd_ne ne]; exact ht
    have kpx : ∀ o1 o2 a o, a ≠ x → H a = some o → (upd (upd H x o1) x o2) a = some o := fun o1 o2 a o n e => by rw [upd_ne n, upd_ne n]; exact e
    refine ⟨_, rfl, t, pl.map V.int, rfl, .inr (SqT.of (ht' _ _)), ?_⟩
    walk_at "kb"
    rcases ok with ⟨a, b, rfl⟩ | ⟨a, b, c, sd, rfl, ba, bb, bc⟩
    · refine ifF rfl ?_
      exact k _ (kpx _ _) ⟨dx, t, _, upd_same, ef1 _ _, ⟨ef2 _ _, by simp only [lookup_putF]; rw [if_neg n_ln, if_neg n_lp]; rfl⟩, ht' _ _⟩
    · refine ifT rfl ?_
      have W := (Ho.start (upd (upd H x (.ins CE dx (putF "place" (.ref t) []))) x (.ins CE dx (putF "numbers" .non (putF "place" (.ref t) []))))).call (Same.refl _) (ht' _ _)
      have W2 := W.add (p := x) upd_same
      clear W
      walk_at "kw"
      refine ⟨t, a, b, c, sd, rfl, W2.get (o := .tup [.int a, .int b, .int c, .int sd]) (.tail _ (.head _)), ba, bb, bc, ?_⟩
      walk_at "kw"
      rename_i m H3 f3 W3
      refine ⟨x, CE, dx, _, rfl, W3.get (.tail _ (.head _)), Re.ins.cl, Re.n2, by show 2 < 1000; decide, ?_⟩
      have xm : x ≠ m := fun e => by
        have h1 := W3.get (.head _)
        have h2 := W3.get (.tail _ (.head _))
        rw [← e, h2] at h1
        cases h1
      refine k _ (fun a o n e => by rw [upd_ne n]; exact W3.sm _ _ (kpx _ _ a o n e)) ⟨dx, t, m, _, upd_same, ef1' _ _, ⟨ef2' _ _, by simp only [lookup_putF]; rw [if_neg n_ln, if_neg n_ln, if_neg n_lp]; rfl⟩, ?_, ?_⟩
      · rw [upd_ne ne]
        exact W3.get (.tail _ (.tail _ (.head _)))
      · rw [upd_ne (Ne.symm xm)]
        exact W3.get (.head _)
theorem ok_eof {f C CE : Addr} {fd : FuncData} (F : Fun K "of" "Edge.of" S_Edge_of f fd) (T : Txt K mg) (R : RatT K mg C) (C_edgeX : MkC P w K mg base (L2.CX P w) 2 CE "Edge" ["self", "place"] (sp_einit CE)) : FnOk P w K mg base (L2.CX P w) 4 f fd ["cls", "ratio"] (sp_eof C CE) := by
  refine F.okX SC_Edge_of (fun vs H Q E h => ?_) (fun cdv A outer s H vs Q E hr h => ?_)
  · obtain ⟨p, a, b, rfl, _⟩ := h
    rfl
  · obtain ⟨p, a, b, rfl, ⟨dp, hp⟩, k⟩ := h
    refine ⟨_, (pss_one (ps_ret (pe_makeL (i := 0) C_edgeX (hr.mono (by decide)) (takes_of rfl rfl rfl rfl) rfl (.inl rfl) (pa_cons (pe_tupN (pa_cons (pe_fld (pv 1) rfl) (pa_cons (pe_fld (pv 1) rfl) pa_nil))) pa_nil)))), ?_⟩
    refine ⟨rfl, _, rfl, p, C, dp, _, _, rfl, hp, R.ins.cl, R.n1, rf1 _ _, _, rfl, p, C, dp, _, _, rfl, hp, R.ins.cl, R.n2, rf2 _ _, by show 2 ≤ 1000000; decide, fun t H1 ht s1 ht1 => ?_⟩
    exact fun x dx hx hdx hne => mk_edge (pl := [a, b]) ht1 (.inl ⟨_, _, rfl⟩) hx hdx hne fun H' s' h' => k x H' (s1.free hx) (s1.trans s') h'
theorem ok_zero {f CE : Addr} {fd : FuncData} (F : Fun K "zero" "Edge.zero" S_Edge_zero f fd) (T : Txt K mg) (C_edgeX : MkC P w K mg base (L2.CX P w) 2 CE "Edge" ["self", "place"] (sp_einit CE)) : FnOk P w K mg base (L2.CX P w) 4 f fd ["cls"] (sp_ecm CE [0, 1]) := by
  refine F.okX SC_Edge_zero (fun vs H Q E h => ?_) (fun cdv A outer s H vs Q E hr h => ?_)
  · obtain ⟨rfl, _⟩ := h
    rfl
  · obtain ⟨rfl, k⟩ := h
    refine ⟨_, (pss_one (ps_ret (pe_makeL (i := 0) C_edgeX (hr.mono (by decide)) (takes_of rfl rfl rfl rfl) rfl (.inl rfl) (pa_cons (pe_tupN (pa_cons pe_int (pa_cons pe_int pa_nil))) pa_nil)))), ?_⟩
    refine ⟨rfl, by show 2 ≤ 1000000; decide, fun t H1 ht s1 ht1 => ?_⟩
    exact fun x dx hx hdx hne => mk_edge (pl := [0, 1]) ht1 (.inl ⟨_, _, rfl⟩) hx hdx hne fun H' s' h' => k x H' (s1.free hx) (s1.trans s') h'
theorem ok_endless {f CE : Addr} {fd : FuncData} (F : Fun K "endless" "Edge.endless" S_Edge_endless f fd) (T : Txt K mg) (C_edgeX : MkC P w K mg base (L2.CX P w) 2 CE "Edge" ["self", "place"] (sp_einit CE)) : FnOk P w K mg base (L2.CX P w) 4 f fd ["cls"] (sp_ecm CE [1, 0]) := by
  refine F.okX SC_Edge_endless (fun vs H Q E h => ?_) (fun cdv A outer s H vs Q E hr h => ?_)
  · obtain ⟨rfl, _⟩ := h
    rfl
  · obtain ⟨rfl, k⟩ := h
    refine ⟨_, (pss_one (ps_ret (pe_makeL (i := 0) C_edgeX (hr.mono (by decide)) (takes_of rfl rfl rfl rfl) rfl (.inl rfl) (pa_cons (pe_tupN (pa_cons pe_int (pa_cons pe_int pa_nil))) pa_nil)))), ?_⟩
    refine ⟨rfl, by show 2 ≤ 1000000; decide, fun t H1 ht s1 ht1 => ?_⟩
    exact fun x dx hx hdx hne => mk_edge (pl := [1, 0]) ht1 (.inl ⟨_, _, rfl⟩) hx hdx hne fun H' s' h' => k x H' (s1.free hx) (s1.trans s') h'
theorem ok_eeq {f CE : Addr} {fd : FuncData} (F : Fun K "__eq__" "Edge.__eq__" S_Edge__eq_ f fd) (T : Txt K mg) (Re : EdgT K mg CE) : FnOk P w K mg base CX0 1 f fd ["self", "other"] (sp_eeq CE) := by
  refine F.ok SC_Edge__eq_ (fun vs H Q E h => ?_) (fun cdv A outer s H vs Q E hr h => ?_)
  · obtain ⟨e, g, pl, pl', rfl, _⟩ := h
    rfl
  · obtain ⟨e, g, pl, pl', rfl, he, hg, k⟩ := h
    obtain ⟨dx, t, fs, h1, h2, h3⟩ := he.at
    obtain ⟨dy, t', fs', g1, g2, g3⟩ := hg.at
    refine ⟨_, (pss_one (ps_ret (pe_and (pe_callB call_isi (by rfl) T.b_isinstance (by decide +kernel) (pa_cons (pv 1) (pa_cons (pe_glob (v := .ref CE) (by rfl) Re.mgC rfl) pa_nil))) (pe_one (pe_cmpR (op_eqD hr.units) (pe_fld (pv 0) rfl) (pe_fld (pv 1) rfl) (nomark _)))))), ?_⟩
    refine ⟨_, rfl, .ref g, _, .ref CE, _, true, rfl, .own CE, Re.ty g1, Re.ins.me, _, rfl, ifT rfl ?_⟩
    refine ⟨_, rfl, e, CE, dx, _, _, rfl, h1, Re.ins.cl, Re.n1, h2, _, rfl, g, CE, dy, _, _, rfl, g1, Re.ins.cl, Re.n1, g2, ?_⟩
    refine ⟨_, _, dpIs h3, dpIs g3, shIs _, shIs _, ?_⟩
    rw [eqvT]
    exact k
theorem ok_eratio {f C CE IR : Addr} {fd : FuncData} (F : Fun K "ratio" "Edge.ratio" S_Edge_ratio f fd) (T : Txt K mg) (Re : EdgT K mg CE) (C_ratio : MkC P w K mg base CX0 4 C "Ratio" ["self", "first", "second"] (Kb.calm (sp_init C IR K))) : FnOk P w K mg base CX0 6 f fd ["self"] (sp_eratio C CE) := by
  refine F.ok SC_Edge_ratio (fun vs H Q E h => ?_) (fun cdv A outer s H vs Q E hr h => ?_)
  · obtain ⟨e, pl, rfl, _⟩ := h
    rfl
  · obtain ⟨e, pl, rfl, he, yes, no⟩ := h
    obtain ⟨dx, t, fs, h1, h2, h3⟩ := he.at
    refine ⟨_, (pss_one (ps_ret (pe_ifExp (PW.pt (pw_and (pt_cmpR op_eq (pe_callB call_len_seq (by rfl) T.b_len (by decide +kernel) (pa_cons (pe_fld (pv 0) rfl) pa_nil)) pe_int (nomark _)) (pw_and1 (pt_cmpR op_notIn_seq pe_int (pe_fld (pv 0) rfl) (by rfl))))) (pe_makeC C_ratio (hr.mono (by decide)) rfl (pa_cons (pe_ix ix_tup (pe_fld (pv 0) rfl) pe_int (fun _ _ => rfl)) (pa_cons (pe_ix ix_tup (pe_fld (pv 0) rfl) pe_int (fun _ _ => rfl)) pa_nil))) pe_non))), ?_⟩
    refine ⟨_, rfl, e, CE, dx, _, _, rfl, h1, Re.ins.cl, Re.n1, h2, ?_⟩
    refine ⟨t, _, rfl, .inr (SqT.of h3), ?_⟩
    walk_at "kb"
    have hc : (∃ a b, pl = [a, b]) ∨ (∃ a b c sd, pl = [a, b, c, sd]) := by
      unfold EdgeAt at he
      split at he
      · exact .inl ⟨_, _, rfl⟩
      · exact .inr ⟨_, _, _, _, rfl⟩
      · exact he.elim
    rcases hc with ⟨a, b, rfl⟩ | ⟨a, b, c, sd, rfl⟩
    · refine ifT rfl ?_
      refine ⟨_, rfl, e, CE, dx, _, _, rfl, h1, Re.ins.cl, Re.n1, h2, t, _, rfl, .inr (SqT.of h3), rfl, rfl, ?_⟩
      have hi : inV (V.int 0) ([a, b].map V.int) = decide (a = 0 ∨ b = 0) := by
        show (decide (a = 0) || (decide (b = 0) || false)) = _
        rw [Bool.eq_iff_iff]; simp
      refine ⟨_, rfl, ?_⟩
      show if (!inV (V.int 0) ([a, b].map V.int)) = true then _ else _
      rw [hi]
      by_cases hz : a = 0 ∨ b = 0
      · rw [decide_eq_true hz]
        refine ifF rfl ?_
        exact no (fun a' b' e => by cases e; exact hz) H (Same.refl H)
      · rw [decide_eq_false hz]
        refine ifT rfl ?_
        obtain ⟨a1, b1, ba, bb, k⟩ := yes a b rfl (fun e => hz (.inl e)) (fun e => hz (.inr e))
        refine ⟨_, rfl, e, CE, dx, _, _, rfl, h1, Re.ins.cl, Re.n1, h2, t, _, 0, _, rfl, rfl, SqT.of h3, rfl, _, rfl, e, CE, dx, _, _, rfl, h1, Re.ins.cl, Re.n1, h2, t, _, 1, _, rfl, rfl, SqT.of h3, rfl, ?_⟩
        exact fun x dx hx hdx hne => mk_ratH' a1 b1 ba bb hx hdx hne fun H' s' c => k x H' hx s' c
    · refine ifF rfl ?_
      exact no (fun a b e => by cases e) H (Same.refl H)
end

local macro_rules | `(tactic| walk_at "flk") => `(tactic| first | assumption)
local macro_rules | `(tactic| walk_at "cls") => `(tactic| first | exact EdgT.cl (by assumption))
local macro_rules | `(tactic| walk_at "noat") => `(tactic| first | exact EdgT.n1 (by assumption) | exact EdgT.n2 (by assumption))

/-! ## the edge at a number with a root -/
namespace Ed
def isIi (v : V) : Bool := isI v && !isB v
theorem isIi_int {v : V} (h : isIi v = true) : ∃ i, v = .int i := by cases v <;> first | exact ⟨_, rfl⟩ | cases h
def nrm (r p : Int) : Int := if r < 0 then -p else p
def rootPl (p q d r s : Int) : List Int := if q = 0 ∨ s * s = d then [(p + q * s) / (Int.gcd (p + q * s) r : Nat), r / (Int.gcd (p + q * s) r : Nat)] else lwd (r * r) (-2 * p * r) (p * p - q * q * d) (if 0 < q then 1 else -1)
def sp_eroot (CE IE : Addr) (K : PySem.W.Frag) : Sp := fun vs H Q E => ∃ u1 u2 u3 u4 : V, vs = [.ref CE, u1, u2, u3, u4] ∧ (Kd K H u1 ∧ Kd K H u2 ∧ Kd K H u3 ∧ Kd K H u4) ∧
  (∀ p q d r, u1 = .int p → u2 = .int q → u3 = .int d → u4 = .int r → (Bd 100 p ∧ Bd 100 q ∧ Bd 100 d ∧ Bd 100 r) ∧ ((d < 0 ∨ r = 0 ∨ swr (nrm r p) (nrm r q) d ≤ 0) → ∀ H', Same H H' → E (.ref IE) none H') ∧
    (0 ≤ d → r ≠ 0 → 0 < swr (nrm r p) (nrm r q) d → ∀ s, 0 ≤ s → s * s ≤ d → d < (s + 1) * (s + 1) → ∀ e H', H e = none → Same H H' → EdgeAt CE H' e (rootPl (nrm r p) (nrm r q) d (nrm r r) s) → Q (.ref e) H')) ∧
  ((isIi u1 && isIi u2 && isIi u3 && isIi u4) = false → ∀ H', Same H H' → E (.ref IE) none H')
theorem Bd.nrm {n : Nat} {r p : Int} (h : Bd n p) : Bd n (nrm r p) := by
  unfold Ed.nrm
  split
  · exact h.neg
  · exact h
theorem sq_bd {s d : Int} (h0 : 0 ≤ s) (h : s * s ≤ d) (bd : Bd 100 d) : Bd 100 s := by
  have : s * 1 ≤ s * s ∨ s = 0 := by
    by_cases e : s = 0
    · exact .inr e
    · exact .inl (Int.mul_le_mul_of_nonneg_left (by omega) h0)
  unfold Bd at *
  generalize 2 ^ 100 = z at *
  rcases this with h1 | h1 <;> omega
end Ed
--@walks
section
variable {P : Program} {w : World} {K : PySem.W.Frag} {mg : Str → Option Value} {base : Heap}
theorem ok_eroot {f CE IE : Addr} {fd : FuncData} (F : Fun K "root" "Edge.root" S_Edge_root f fd) (T : Txt K mg) (E_InvalidEdge : ErC P w K mg base "InvalidEdge" IE) (C_isint : FnC P w K mg base CX0 1 "is_integer" ["value"] (sp_isint K)) (C_swr : FnC P w K mg base CX0 2 "sign_with_root" ["one", "times", "inner"] sp_swr)
    (C_wr : FnC P w K mg base CX0 1 "whole_root" ["number"] sp_wr) (C_com : FnC P w K mg base CX0 1 "common" ["one", "other"] sp_com) (C_low : FnC P w K mg base CX0 2 "lowered" ["a", "b", "c", "side"] sp_low) (C_edgeX : MkC P w K mg base (L2.CX P w) 2 CE "Edge" ["self", "place"] (sp_einit CE)) :
    FnOk P w K mg base (L2.CX P w) 4 f fd ["cls", "p", "q", "d", "r"] (sp_eroot CE IE K) := by
  refine F.okX SC_Edge_root (fun vs H Q E h => ?_) (fun cdv A outer s H vs Q E hr h => ?_)
  · obtain ⟨u1, u2, u3, u4, rfl, _⟩ := h
    rfl
  · obtain ⟨u1, u2, u3, u4, rfl, ⟨k1, k2, k3, k4⟩, ok, bad⟩ := h
    refine ⟨_, (pss_cons (ps_if (PW.pt (pw_or (pt_not (pt_val (pe_callB (cr_all rfl) (by rfl) T.b_all (by decide +kernel) (pa_cons (pe_lc (own := [("value", 8)]) (g := gName 8) (by rfl) SC_Edge_root.nd (pi_tup (pe_tupN (pa_cons (pv 1) (pa_cons (pv 2) (pa_cons (pv 3) (pa_cons (pv 4) pa_nil)))))) (blkOk_by (own := [("value", 8)]) (N := N_Edge_root) (sc := defScope S_Edge_root) (by decide +kernel)) (fun _ _ _ _ _ => pg_name (i := 8) SC_Edge_root.nd rfl (Or.inl rfl)) (fun _ _ _ _ _ => pts_nil) (fun _ _ _ _ _ => (pe_callC C_isint (hr.mono (by decide)) rfl (pa_cons (pv 8) pa_nil)))) pa_nil)))) (pw_or (pt_cmpR op_lt (pv 3) pe_int (nomark _)) (pw_or1 (pt_cmpR op_eq (pv 4) pe_int (nomark _)))))) (pss_one (ps_raise0 E_InvalidEdge (hr.mono (by decide)) rfl (takes_of rfl rfl rfl rfl) rfl)) pss_nil)
      (pss_mid (ps_if (pt_cmpR op_lt (pv 4) pe_int (nomark _)) (pss_one (ps_par3 (i := 1) (j := 2) (l := 4) (by rfl) SC_Edge_root.nd rfl rfl rfl (by decide) (by decide) (by decide) rfl rfl rfl (pa_cons (pe_un un_neg (pv 1)) (pa_cons (pe_un un_neg (pv 2)) (pa_cons (pe_un un_neg (pv 4)) pa_nil))) (by rfl))) pss_nil)
      (pss_cons (ps_if (pt_cmpR op_le (pe_callC C_swr (hr.mono (by decide)) rfl (pa_cons (pv 1) (pa_cons (pv 2) (pa_cons (pv 3) pa_nil)))) pe_int (nomark _)) (pss_one (ps_raise0 E_InvalidEdge (hr.mono (by decide)) rfl (takes_of rfl rfl rfl rfl) rfl)) pss_nil)
      (pss_cons (ps_set (i := 5) SC_Edge_root.nd rfl (.inl rfl) (pe_callC C_wr (hr.mono (by decide)) rfl (pa_cons (pv 3) pa_nil)))
      (pss_cons (ps_if (PW.pt (pw_or (pt_cmpR op_eq (pv 2) pe_int (nomark _)) (pw_or1 (pt_cmpR op_eq (pe_op op_mulW (pv 5) (pv 5)) (pv 3) (nomark _))))) (pss_cons (ps_set (i := 6) SC_Edge_root.nd rfl (.inl rfl) (pe_op op_add (pv 1) (pe_op op_mulW (pv 2) (pv 5))))
      (pss_cons (ps_set (i := 7) SC_Edge_root.nd rfl (.inl rfl) (pe_callC C_com (hr.mono (by decide)) rfl (pa_cons (pv 6) (pa_cons (pv 4) pa_nil))))
      (pss_one (ps_ret (pe_makeL (i := 0) C_edgeX (hr.mono (by decide)) (takes_of rfl rfl rfl rfl) rfl (.inl rfl) (pa_cons (pe_tupN (pa_cons (pe_op op_fdivW (pv 6) (pv 7)) (pa_cons (pe_op op_fdivW (pv 4) (pv 7)) pa_nil))) pa_nil)))))) pss_nil)
      (pss_one (ps_ret (pe_makeL (i := 0) C_edgeX (hr.mono (by decide)) (takes_of rfl rfl rfl rfl) rfl (.inl rfl) (pa_cons (pe_callC C_low (hr.mono (by decide)) rfl (pa_cons (pe_op op_mulW (pv 4) (pv 4)) (pa_cons (pe_op op_mulW (pe_op op_mulW (pe_un un_neg pe_int) (pv 1)) (pv 4)) (pa_cons (pe_op op_sub (pe_op op_mulW (pv 1) (pv 1)) (pe_op op_mulW (pe_op op_mulW (pv 2) (pv 2)) (pv 3))) (pa_cons (pe_ifExp (pt_cmpR op_gt (pv 2) pe_int (nomark _)) pe_int (pe_un un_neg pe_int)) pa_nil))))) pa_nil))))))))), ?_⟩
    walk_at "kw"
    refine Ho.nw (Ho.start H) fun q1 H1 f1 W1 => ?_
    walk_at "kw"
    refine ⟨⟨_, SqT.of (W1.get (.head _))⟩, fun D hD => ?_⟩
    have qD : q1 ≠ D := ne_of_none (W1.get (.head _)) hD
    have each : ∀ (i : Nat) v, [u1, u2, u3, u4][i]? = some v → Kd K H1 v := fun i v h => by
      match i, h with
      | 0, h => cases h; exact k1.same W1.sm
      | 1, h => cases h; exact k2.same W1.sm
      | 2, h => cases h; exact k3.same W1.sm
      | 3, h => cases h; exact k4.same W1.sm
      | i + 4, h => simp at h
    refine lcR_tp (xs := [u1, u2, u3, u4]) (fun i H' => (∀ b o, b ≠ D → H1 b = some o → H' b = some o) ∧ H' D = some (.lst ((([u1, u2, u3, u4].take i).map isIi).map V.bl))) ⟨fun b o n e => by rw [upd_ne n]; exact e, upd_same⟩
      (fun i H' _ m => SqT.of (m.1 q1 _ qD (W1.get (.head _)))) (fun i v H2 hi m => ?_) (gName_mono _) (fun H2 m => ?_)
    · obtain ⟨kp, hH⟩ := m
      have kd1 : Kd K H2 v := (each i v hi).at fun a o e h => kp a o (ne_of_none h hD) h
      refine ⟨rfl, _, rfl, v, rfl, kd1, _, hH, ?_, fun b o n e => by rw [upd_ne n]; exact kp b o n e, ?_⟩
      · rw [List.length_map, List.length_map, List.length_take]
        exact szs (Nat.le_trans (Nat.min_le_right _ _) (by show 4 ≤ 1000000; decide))
      · rw [upd_same, List.take_succ, hi, List.map_append, List.map_append]; rfl
    · obtain ⟨kp, hH⟩ := m
      have W2 : Ho H H2 [] := ⟨(W1.inD hD kp).sm, fun _ h => nomatch h⟩
      have hH' : H2 D = some (.lst (([u1, u2, u3, u4].map isIi).map V.bl)) := hH
      clear hH
      refine ⟨_, _, rfl, SqL.of hH', ?_⟩
      refine ⟨_, rfl, ?_⟩
      show if (!(([u1, u2, u3, u4].map isIi).all id)) = true then _ else _
      have eall : ([u1, u2, u3, u4].map isIi).all id = (isIi u1 && isIi u2 && isIi u3 && isIi u4) := by
        show (isIi u1 && (isIi u2 && (isIi u3 && (isIi u4 && true)))) = _
        cases isIi u1 <;> cases isIi u2 <;> cases isIi u3 <;> cases isIi u4 <;> rfl
      rw [eall]
      by_cases g : (isIi u1 && isIi u2 && isIi u3 && isIi u4) = true
      · rw [g]
        refine ifF rfl ?_
        have gg := g
        simp only [Bool.and_eq_true] at gg
        obtain ⟨p, rfl⟩ := isIi_int gg.1.1.1
        obtain ⟨q, rfl⟩ := isIi_int gg.1.1.2
        obtain ⟨d, rfl⟩ := isIi_int gg.1.2
        obtain ⟨r, rfl⟩ := isIi_int gg.2
        obtain ⟨⟨bp, bq, bd, br⟩, bad', good⟩ := ok p q d r rfl rfl rfl rfl
        clear each k1 k2 k3 k4 g gg eall ok bad
        walk_at "kw"
        refine ite2 (fun h => ?_) (fun h => ?_)
        · exact bad' (.inl (of_decide_eq_true h)) _ W2.sm
        have d0 : 0 ≤ d := by have : ¬ d < 0 := fun e => h (decide_eq_true e)
                              omega
        clear h
        walk_at "kw"
        refine ite2 (fun h => ?_) (fun h => ?_)
        · exact bad' (.inr (.inl (V.int.inj (of_decide_eq_true h)))) _ W2.sm
        have r0 : r ≠ 0 := fun e => h (decide_eq_true (congrArg V.int e))
        clear h
        refine ⟨fun σ' H' => H' = H2 ∧ σ' = [some (.ref CE), some (.int (nrm r p)), some (.int (nrm r q)), some (.int d), some (.int (nrm r r)), none, none, none, none], ?_, fun σ1 H3 z => ?_⟩
        · walk_at "kw"
          unfold nrm
          refine ite2 (fun h => ?_) (fun h => ?_)
          · have h' : r < 0 := of_decide_eq_true h
            rw [if_pos h', if_pos h', if_pos h']
            walk_at "kw"
            exact ⟨_, _, _, rfl, rfl, rfl⟩
          · have h' : ¬ r < 0 := fun e => h (decide_eq_true e)
            rw [if_neg h', if_neg h', if_neg h']
            exact ⟨rfl, rfl⟩
        obtain ⟨rfl, rfl⟩ := z
        have r1 : 0 < nrm r r := by unfold nrm; split <;> omega
        have bp' := Bd.nrm (r := r) bp
        have bq' := Bd.nrm (r := r) bq
        have br' := Bd.nrm (r := r) br
        generalize nrm r p = p' at *
        generalize nrm r q = q' at *
        generalize nrm r r = r' at *
        walk_at "kw"
        refine ite2 (fun h => ?_) (fun h => ?_)
        · exact bad' (.inr (.inr (of_decide_eq_true h))) _ W2.sm
        have w0 : 0 < swr p' q' d := by have : ¬ swr p' q' d ≤ 0 := fun e => h (decide_eq_true e)
                                        omega
        clear h
        walk_at "kw"
        refine fun sq s0 s1 s2 => ?_
        have bs := sq_bd s0 s1 bd
        have fin := good d0 r0 w0 sq s0 s1 s2
        clear good
        unfold rootPl at fin
        walk_at "kw"
        have b1' : Bd 400 (r' * r') := (br'.mul br').mono (by decide)
        have b2' : Bd 400 (-2 * p' * r') := (((Bd.lit (i := -2) (by decide)).mul bp').mul br').mono (by decide)
        have b3' : Bd 400 (p' * p' - q' * q' * d) := ((bp'.mul bp').sub ((bq'.mul bq').mul bd)).mono (by decide)
        have b1 := b1'.mono (show 400 ≤ 800 by decide)
        have b2 := b2'.mono (show 400 ≤ 800 by decide)
        have b3 := b3'.mono (show 400 ≤ 800 by decide)
        refine ite2 (fun h => ?_) (fun h => ?_)
        · have hz' : q' = 0 ∨ sq * sq = d := .inl (V.int.inj (of_decide_eq_true h))
          rw [if_pos hz'] at fin
          have g0 : 0 < ((Int.gcd (p' + q' * sq) r' : Nat) : Int) := by
            have := Int.gcd_pos_of_ne_zero_right (p' + q' * sq) (show r' ≠ 0 by omega)
            omega
          walk_at "kw"
          rename_i t3 H3' f3 W3
          exact fun x dx hx hdx hne => mk_edge (W3.get (.head _)) (.inl ⟨_, _, rfl⟩) hx hdx hne fun H' s' h' => fin x H' (W3.sm.free hx) (W3.sm.trans s') h'
        have hq0 : q' ≠ 0 := fun e => h (decide_eq_true (congrArg V.int e))
        clear h
        walk_at "kw"
        refine ite2 (fun h => ?_) (fun h => ?_)
        · have hz' : q' = 0 ∨ sq * sq = d := .inr (V.int.inj (of_decide_eq_true h))
          rw [if_pos hz'] at fin
          have g0 : 0 < ((Int.gcd (p' + q' * sq) r' : Nat) : Int) := by
            have := Int.gcd_pos_of_ne_zero_right (p' + q' * sq) (show r' ≠ 0 by omega)
            omega
          walk_at "kw"
          rename_i t3 H3' f3 W3
          exact fun x dx hx hdx hne => mk_edge (W3.get (.head _)) (.inl ⟨_, _, rfl⟩) hx hdx hne fun H' s' h' => fin x H' (W3.sm.free hx) (W3.sm.trans s') h'
        have hs0 : sq * sq ≠ d := fun e => h (decide_eq_true (congrArg V.int e))
        clear h
        rw [if_neg (fun z => z.elim hq0 hs0)] at fin
        walk_at "kw"
        refine ite2 (fun h => ?_) (fun h => ?_)
        · rw [if_pos (of_decide_eq_true h)] at fin
          walk_at "kw"
          · skip
            refine ⟨_, _, _, _, rfl, Int.ne_of_gt (Int.mul_pos r1 r1), b1, b2, b3, ?_⟩
            refine Ho.nw W2 fun t3 H3' f3 W3 => ?_
            walk_at "kw"
            exact fun x dx hx hdx hne => mk_edge (pl := lwd _ _ _ _) (W3.get (.head _)) (.inr ⟨_, _, _, _, rfl, (Bd.fdiv _ b1').mono (by decide), (Bd.fdiv _ b2').mono (by decide), (Bd.fdiv _ b3').mono (by decide)⟩) hx hdx hne fun H' s' h' => fin x H' (W3.sm.free hx) (W3.sm.trans s') h'
        · rw [if_neg (fun e => h (decide_eq_true e))] at fin
          walk_at "kw"
          · skip
            refine ⟨_, _, _, _, rfl, Int.ne_of_gt (Int.mul_pos r1 r1), b1, b2, b3, ?_⟩
            refine Ho.nw W2 fun t3 H3' f3 W3 => ?_
            walk_at "kw"
            exact fun x dx hx hdx hne => mk_edge (pl := lwd _ _ _ _) (W3.get (.head _)) (.inr ⟨_, _, _, _, rfl, (Bd.fdiv _ b1').mono (by decide), (Bd.fdiv _ b2').mono (by decide), (Bd.fdiv _ b3').mono (by decide)⟩) hx hdx hne fun H' s' h' => fin x H' (W3.sm.free hx) (W3.sm.trans s') h'
      · rw [Bool.not_eq_true] at g
        rw [g]
        refine ifT rfl ?_
        exact bad g _ W2.sm
end
--@*

/-! ## changed edges -/
namespace Ed
def c1 (s t A B C : Int) : Int := A * t * t - B * t * s + C * s * s
def c2 (m n s t A B C : Int) : Int := B * (t * m + n * s) - 2 * A * t * n - 2 * C * m * s
def c3 (m n A B C : Int) : Int := A * n * n - B * n * m + C * m * m
/-- the place to which a change brings a place -/
def bhPl (m n s t : Int) : List Int → List Int
  | [x, y] => [(m * x + n * y) / (Int.gcd (m * x + n * y) (s * x + t * y) : Nat), (s * x + t * y) / (Int.gcd (m * x + n * y) (s * x + t * y) : Nat)]
  | [A, B, C, sd] => lwd (c1 s t A B C) (c2 m n s t A B C) (c3 m n A B C) (sd * (sg (m * t - n * s) * sg (c1 s t A B C)))
  | _ => []
def sp_changed (K : PySem.W.Frag) : Sp := fun vs H Q _ => ∃ (r q : Addr) (A B C sd m n s t : Int), vs = [.ref r, .ref q] ∧ H r = some (.tup [.int A, .int B, .int C, .int sd]) ∧ H q = some (.tup [.int m, .int n, .int s, .int t]) ∧
  (Bd 290 A ∧ Bd 290 B ∧ Bd 290 C ∧ Bd 4 sd) ∧ (Bd 200 m ∧ Bd 200 n ∧ Bd 200 s ∧ Bd 200 t) ∧ c1 s t A B C ≠ 0 ∧ New H (.tup ((bhPl m n s t [A, B, C, sd]).map V.int)) Q
/-- what a change wants of a place -/
inductive PlC (m n s t : Int) : List Int → Prop
  | two {x y : Int} (bx : Bd 290 x) (b_y : Bd 290 y) (h : m * x + n * y ≠ 0 ∨ s * x + t * y ≠ 0) : PlC m n s t [x, y]
  | four {A B C sd : Int} (ba : Bd 290 A) (bb : Bd 290 B) (bc : Bd 290 C) (bs : Bd 4 sd) (h : c1 s t A B C ≠ 0) : PlC m n s t [A, B, C, sd]
def sp_pb (K : PySem.W.Frag) : Sp := fun vs H Q _ => ∃ (q p : Addr) (m n s t : Int) (pl : List Int), vs = [.ref q, .ref p] ∧ H q = some (.tup [.int m, .int n, .int s, .int t]) ∧ H p = some (.tup (pl.map V.int)) ∧
  (Bd 200 m ∧ Bd 200 n ∧ Bd 200 s ∧ Bd 200 t) ∧ PlC m n s t pl ∧ New H (.tup ((bhPl m n s t pl).map V.int)) Q
def sp_eturned (CE : Addr) : Sp := fun vs H Q _ => ∃ (e : Addr) (pl : List Int), vs = [.ref e] ∧ EdgeAt CE H e pl ∧ PlC 0 1 1 0 pl ∧ ∀ r H', H r = none → Same H H' → EdgeAt CE H' r (bhPl 0 1 1 0 pl) → Q (.ref r) H'
def sp_ermul (CE CC : Addr) : Sp := fun vs H Q _ => ∃ (e c : Addr) (pl : List Int) (M : Mt), vs = [.ref e, .ref c] ∧ EdgeAt CE H e pl ∧ ChM CC H c M ∧ (Bd 200 M.a ∧ Bd 200 M.b ∧ Bd 200 M.c ∧ Bd 200 M.d) ∧ PlC M.a M.b M.c M.d pl ∧ ∀ r H', H r = none → Same H H' → EdgeAt CE H' r (bhPl M.a M.b M.c M.d pl) → Q (.ref r) H'
def sn_mul (CC CE : Addr) : List V → Hp → Prop := fun vs H => ∃ (c e dx dy : Addr) (fs gs : List (Str × V)), vs = [.ref c, .ref e] ∧ H c = some (.ins CC dx fs) ∧ H e = some (.ins CE dy gs)
theorem Bd.sd {i : Int} (h : i = 1 ∨ i = -1) : Bd 4 i := by rcases h with rfl | rfl <;> exact (show Int.natAbs _ < 2 ^ 4 by decide)
theorem c1_bd {s t A B C : Int} (ba : Bd 290 A) (bb : Bd 290 B) (bc : Bd 290 C) (bs : Bd 200 s) (bt : Bd 200 t) : Bd 700 (c1 s t A B C) :=
  ((((ba.mul bt).mul bt).sub ((bb.mul bt).mul bs)).add ((bc.mul bs).mul bs)).mono (by decide)
theorem c2_bd {m n s t A B C : Int} (ba : Bd 290 A) (bb : Bd 290 B) (bc : Bd 290 C) (bm : Bd 200 m) (bn : Bd 200 n) (bs : Bd 200 s) (bt : Bd 200 t) : Bd 780 (c2 m n s t A B C) :=
  (((bb.mul ((bt.mul bm).add (bn.mul bs))).sub ((((Bd.lit (i := 2) (by decide)).mul ba).mul bt).mul bn)).sub ((((Bd.lit (i := 2) (by decide)).mul bc).mul bm).mul bs)).mono (by decide)
theorem c3_bd {m n A B C : Int} (ba : Bd 290 A) (bb : Bd 290 B) (bc : Bd 290 C) (bm : Bd 200 m) (bn : Bd 200 n) : Bd 700 (c3 m n A B C) :=
  ((((ba.mul bn).mul bn).sub ((bb.mul bn).mul bm)).add ((bc.mul bm).mul bm)).mono (by decide)
theorem plOk_bh {m n s t : Int} {pl : List Int} (h : PlC m n s t pl) (bm : Bd 200 m) (bn : Bd 200 n) (bs : Bd 200 s) (bt : Bd 200 t) : plOk (bhPl m n s t pl) := by
  cases h with
  | two bx b_y h => exact .inl ⟨_, _, rfl⟩
  | four ba bb bc _ h => exact .inr ⟨_, _, _, _, rfl, (Bd.fdiv _ (c1_bd ba bb bc bs bt)).mono (by decide), (Bd.fdiv _ (c2_bd ba bb bc bm bn bs bt)).mono (by decide), (Bd.fdiv _ (c3_bd ba bb bc bm bn)).mono (by decide)⟩
end Ed
section
variable {P : Program} {w : World} {K : PySem.W.Frag} {mg : Str → Option Value} {base : Heap}
theorem ok_changed {f : Addr} {fd : FuncData} (F : Fun K "changed" "changed" S_changed f fd) (T : Txt K mg) (C_sign : FnC P w K mg base CX0 1 "sign_of" ["number"] sp_sign) (C_low : FnC P w K mg base CX0 2 "lowered" ["a", "b", "c", "side"] sp_low) : FnOk P w K mg base CX0 3 f fd ["root", "numbers"] (sp_changed K) := by
  refine F.ok SC_changed (fun vs H Q E h => ?_) (fun cdv A outer s H vs Q E hr h => ?_)
  · obtain ⟨r, q, A, B, C, sd, m, n, s, t, rfl, _⟩ := h
    rfl
  · obtain ⟨r, q, A, B, C, sd, m, n, s, t, rfl, hr1, hq1, ⟨ba, bb, bc, bsd⟩, ⟨bm, bn, bs, bt⟩, hne, k⟩ := h
    refine ⟨_, (pss_cons (ps_asg (pv 0) (pg_tup rfl (pgs_cons (pg_name (i := 2) SC_changed.nd rfl (.inl rfl)) (pgs_cons (pg_name (i := 3) SC_changed.nd rfl (.inl rfl)) (pgs_cons (pg_name (i := 4) SC_changed.nd rfl (.inl rfl)) (pgs_cons (pg_name (i := 5) SC_changed.nd rfl (.inl rfl)) pgs_nil))))))
      (pss_nrm (pss_cons (ps_asg (pv 1) (pg_tup rfl (pgs_cons (pg_name (i := 6) SC_changed.nd rfl (.inl rfl)) (pgs_cons (pg_name (i := 7) SC_changed.nd rfl (.inl rfl)) (pgs_cons (pg_name (i := 8) SC_changed.nd rfl (.inl rfl)) (pgs_cons (pg_name (i := 9) SC_changed.nd rfl (.inl rfl)) pgs_nil))))))
      (pss_nrm (pss_cons (ps_set (i := 10) SC_changed.nd rfl (.inl rfl) (pe_op op_add (pe_op op_sub (pe_op op_mulW (pe_op op_mulW (pv 2) (pv 9)) (pv 9)) (pe_op op_mulW (pe_op op_mulW (pv 3) (pv 9)) (pv 8))) (pe_op op_mulW (pe_op op_mulW (pv 4) (pv 8)) (pv 8))))
      (pss_cons (ps_set (i := 11) SC_changed.nd rfl (.inl rfl) (pe_op op_sub (pe_op op_sub (pe_op op_mulW (pv 3) (pe_op op_add (pe_op op_mulW (pv 9) (pv 6)) (pe_op op_mulW (pv 7) (pv 8)))) (pe_op op_mulW (pe_op op_mulW (pe_op op_mulW pe_int (pv 2)) (pv 9)) (pv 7))) (pe_op op_mulW (pe_op op_mulW (pe_op op_mulW pe_int (pv 4)) (pv 6)) (pv 8))))
      (pss_cons (ps_set (i := 12) SC_changed.nd rfl (.inl rfl) (pe_op op_add (pe_op op_sub (pe_op op_mulW (pe_op op_mulW (pv 2) (pv 7)) (pv 7)) (pe_op op_mulW (pe_op op_mulW (pv 3) (pv 7)) (pv 6))) (pe_op op_mulW (pe_op op_mulW (pv 4) (pv 6)) (pv 6))))
      (pss_nrm (pss_cons (ps_set (i := 13) SC_changed.nd rfl (.inl rfl) (pe_op op_mulW (pe_callC C_sign (hr.mono (by decide)) rfl (pa_cons (pe_op op_sub (pe_op op_mulW (pv 6) (pv 9)) (pe_op op_mulW (pv 7) (pv 8))) pa_nil)) (pe_callC C_sign (hr.mono (by decide)) rfl (pa_cons (pv 10) pa_nil))))
      (pss_one (ps_ret (pe_callC C_low (hr.mono (by decide)) rfl (pa_cons (pv 10) (pa_cons (pv 11) (pa_cons (pv 12) (pa_cons (pe_op op_mulW (pv 5) (pv 13)) pa_nil)))))))))))))))), ?_⟩
    have W := ((Ho.start H).call (Same.refl H) hr1).call (Same.refl H) hq1
    have b1 := (c1_bd ba bb bc bs bt).mono (show 700 ≤ 800 by decide)
    have b2 := (c2_bd ba bb bc bm bn bs bt).mono (show 780 ≤ 800 by decide)
    have b3 := (c3_bd ba bb bc bm bn).mono (show 700 ≤ 800 by decide)
    walk_at "kw"
    refine ⟨c1 s t A B C, c2 m n s t A B C, c3 m n A B C, _, rfl, hne, b1, b2, b3, ?_⟩
    exact k
theorem ok_pb {f : Addr} {fd : FuncData} (F : Fun K "place_behind" "place_behind" S_place_behind f fd) (T : Txt K mg) (C_changed : FnC P w K mg base CX0 3 "changed" ["root", "numbers"] (sp_changed K)) (C_com : FnC P w K mg base CX0 1 "common" ["one", "other"] sp_com) : FnOk P w K mg base CX0 4 f fd ["numbers", "place"] (sp_pb K) := by
  refine F.ok SC_place_behind (fun vs H Q E h => ?_) (fun cdv A outer s H vs Q E hr h => ?_)
  · obtain ⟨q, p, m, n, s, t, pl, rfl, _⟩ := h
    rfl
  · obtain ⟨q, p, m, n, s, t, pl, rfl, hq, hp, ⟨bm, bn, bs, bt⟩, hpl, k⟩ := h
    refine ⟨_, (pss_cons (ps_if (pt_cmpR op_eq (pe_callB call_len_seq (by rfl) T.b_len (by decide +kernel) (pa_cons (pv 1) pa_nil)) pe_int (nomark _)) (pss_one (ps_ret (pe_callC C_changed (hr.mono (by decide)) rfl (pa_cons (pv 1) (pa_cons (pv 0) pa_nil))))) pss_nil)
      (pss_cons (ps_asg (pv 0) (pg_tup rfl (pgs_cons (pg_name (i := 2) SC_place_behind.nd rfl (.inl rfl)) (pgs_cons (pg_name (i := 3) SC_place_behind.nd rfl (.inl rfl)) (pgs_cons (pg_name (i := 4) SC_place_behind.nd rfl (.inl rfl)) (pgs_cons (pg_name (i := 5) SC_place_behind.nd rfl (.inl rfl)) pgs_nil))))))
      (pss_nrm (pss_cons (ps_par (i := 6) (j := 7) (by rfl) SC_place_behind.nd rfl rfl (by decide) rfl rfl (pa_cons (pe_op op_add (pe_op op_mulW (pv 2) (pe_ix ix_tup (pv 1) pe_int (fun _ _ => rfl))) (pe_op op_mulW (pv 3) (pe_ix ix_tup (pv 1) pe_int (fun _ _ => rfl)))) (pa_cons (pe_op op_add (pe_op op_mulW (pv 4) (pe_ix ix_tup (pv 1) pe_int (fun _ _ => rfl))) (pe_op op_mulW (pv 5) (pe_ix ix_tup (pv 1) pe_int (fun _ _ => rfl)))) pa_nil)) (by rfl))
      (pss_cons (ps_set (i := 8) SC_place_behind.nd rfl (.inl rfl) (pe_callC C_com (hr.mono (by decide)) rfl (pa_cons (pv 6) (pa_cons (pv 7) pa_nil))))
      (pss_nrm (pss_one (ps_ret (pe_tupN (pa_cons (pe_op op_fdivW (pv 6) (pv 8)) (pa_cons (pe_op op_fdivW (pv 7) (pv 8)) pa_nil))))))))))), ?_⟩
    cases hpl with
    | two bx b_y h =>
      rename_i x y
      have W := ((Ho.start H).call (Same.refl H) hq).call (o := .tup [.int x, .int y]) (Same.refl H) hp
      walk_at "kw"
      refine ifF rfl ?_
      have g0 : 0 < ((Int.gcd (m * x + n * y) (s * x + t * y) : Nat) : Int) := by
        have : Int.gcd (m * x + n * y) (s * x + t * y) ≠ 0 := fun e => by
          have := Int.gcd_eq_zero_iff.mp e
          omega
        omega
      walk_at "kw"
      rename_i t3 H3 f3 W3
      exact k t3 H3 f3 W3.sm (W3.get (.head _))
    | four ba bb bc bsd h =>
      rename_i A B C sd
      have W := ((Ho.start H).call (Same.refl H) hq).call (o := .tup [.int A, .int B, .int C, .int sd]) (Same.refl H) hp
      walk_at "kw"
      refine ifT rfl ?_
      walk_at "kw"
      exact ⟨p, q, A, B, C, sd, m, n, s, t, rfl, hp, hq, ⟨ba, bb, bc, bsd⟩, ⟨bm, bn, bs, bt⟩, h, k⟩
--@turned
theorem ok_eturned {f CE : Addr} {fd : FuncData} (F : Fun K "turned" "Edge.turned" S_Edge_turned f fd) (T : Txt K mg) (Re : EdgT K mg CE) (C_pb : FnC P w K mg base CX0 4 "place_behind" ["numbers", "place"] (sp_pb K)) (C_edge : MkC P w K mg base CX0 2 CE "Edge" ["self", "place"] (Kb.calm (sp_einit CE))) : FnOk P w K mg base CX0 6 f fd ["self"] (sp_eturned CE) := by
  refine F.ok SC_Edge_turned (fun vs H Q E h => ?_) (fun cdv A outer s H vs Q E hr h => ?_)
  · obtain ⟨e, pl, rfl, _⟩ := h
    rfl
  · obtain ⟨e, pl, rfl, he, hpl, k⟩ := h
    obtain ⟨dx, t, fs, h1, h2, h3⟩ := he.at
    refine ⟨_, (pss_one (ps_ret (pe_makeC C_edge (hr.mono (by decide)) rfl (pa_cons (pe_callC C_pb (hr.mono (by decide)) rfl (pa_cons (pe_tupN (pa_cons pe_int (pa_cons pe_int (pa_cons pe_int (pa_cons pe_int pa_nil))))) (pa_cons (pe_fld (pv 0) rfl) pa_nil))) pa_nil)))), ?_⟩
    have W := ((Ho.start H).call (Same.refl H) h1).call (Same.refl H) h3
    walk_at "kw"
    rename_i q1 H1 f1 W1
    refine ⟨q1, t, 0, 1, 1, 0, pl, rfl, W1.get (.head _), W1.get (.tail _ (.head _)), ⟨(Bd.lit (by decide)).mono (by decide), (Bd.lit (by decide)).mono (by decide), (Bd.lit (by decide)).mono (by decide), (Bd.lit (by decide)).mono (by decide)⟩, hpl, ?_⟩
    refine Ho.nw W1 fun t3 H3' f3 W3 => ?_
    exact fun x dx hx hdx hne => mk_edge (W3.get (.head _)) (plOk_bh hpl ((Bd.lit (by decide)).mono (by decide)) ((Bd.lit (by decide)).mono (by decide)) ((Bd.lit (by decide)).mono (by decide)) ((Bd.lit (by decide)).mono (by decide))) hx hdx hne fun H' s' h' => k x H' (W3.sm.free hx) (W3.sm.trans s') h'
--@rmul
theorem ok_ermul {f CE CC : Addr} {fd : FuncData} (F : Fun K "__rmul__" "Edge.__rmul__" S_Edge__rmul_ f fd) (T : Txt K mg) (Re : EdgT K mg CE) (Rc : ChT K mg CC) (C_pb : FnC P w K mg base CX0 4 "place_behind" ["numbers", "place"] (sp_pb K)) (C_edge : MkC P w K mg base CX0 2 CE "Edge" ["self", "place"] (Kb.calm (sp_einit CE))) : FnOk P w K mg base CX0 6 f fd ["self", "change"] (sp_ermul CE CC) := by
  refine F.ok SC_Edge__rmul_ (fun vs H Q E h => ?_) (fun cdv A outer s H vs Q E hr h => ?_)
  · obtain ⟨e, c, pl, M, rfl, _⟩ := h
    rfl
  · obtain ⟨e, c, pl, M, rfl, he, ⟨dc, q, g1, g2⟩, ⟨bm, bn, bs, bt⟩, hpl, k⟩ := h
    obtain ⟨dx, t, fs, h1, h2, h3⟩ := he.at
    refine ⟨_, (pss_one (ps_ret (pe_makeC C_edge (hr.mono (by decide)) rfl (pa_cons (pe_callC C_pb (hr.mono (by decide)) rfl (pa_cons (pe_fld (pv 1) rfl) (pa_cons (pe_fld (pv 0) rfl) pa_nil))) pa_nil)))), ?_⟩
    refine ⟨_, rfl, c, CC, dc, _, _, rfl, g1, Rc.ins.cl, Rc.n1, cf1 _ _, _, rfl, e, CE, dx, _, _, rfl, h1, Re.ins.cl, Re.n1, h2, ?_⟩
    refine ⟨q, t, M.a, M.b, M.c, M.d, pl, rfl, g2, h3, ⟨bm, bn, bs, bt⟩, hpl, ?_⟩
    refine Ho.nw (Ho.start H) fun t3 H3' f3 W3 => ?_
    exact fun x dx hx hdx hne => mk_edge (W3.get (.head _)) (plOk_bh hpl bm bn bs bt) hx hdx hne fun H' s' h' => k x H' (W3.sm.free hx) (W3.sm.trans s') h'
--@mulN
theorem ok_mulN {f CC C CE : Addr} {fd : FuncData} (F : Fun K "__mul__" "Change.__mul__" S_Change__mul_ f fd) (T : Txt K mg) (Rc : ChT K mg CC) (R : RatT K mg C) (Re : EdgT K mg CE) (k1 : PySem.W.kitOne K (.ref CE) (.ref CC) = some false) (k2 : PySem.W.kitOne K (.ref CE) (.ref C) = some false) : Kb.FnNi P w K mg base 2 f fd ["self", "other"] (sn_mul CC CE) := by
  refine Kb.Fun.okN F SC_Change__mul_ (fun vs H h => ?_) (fun cdv A outer s H vs hr h => ?_)
  · obtain ⟨c, e, dx, dy, fs, gs, rfl, _⟩ := h
    rfl
  · obtain ⟨c, e, dx, dy, fs, gs, rfl, hc, he⟩ := h
    refine ⟨_, Kb.psn_if (pt_val (pe_callB call_isi (by rfl) T.b_isinstance (by decide +kernel) (pa_cons (pv 1) (pa_cons (pe_glob (v := .ref CC) (by rfl) Rc.mgC rfl) pa_nil)))) (Kb.psn_if (pt_val (pe_callB call_isi (by rfl) T.b_isinstance (by decide +kernel) (pa_cons (pv 1) (pa_cons (pe_glob (v := .ref C) (by rfl) R.mgC rfl) pa_nil)))) (Kb.psn_ret (by rfl) T.b_NotImplemented)), ?_⟩
    exact ⟨_, rfl, .ref e, _, .ref CE, _, false, rfl, .own CC, Re.ty he, k1, _, rfl, rfl, rfl, _, rfl, .ref e, _, .ref CE, _, false, rfl, .own C, Re.ty he, k2, _, rfl, rfl, rfl, trivial⟩
--@*
end

/-! ## the law's own numbers with roots -/
namespace Lr
def sp_lsr : Sp := fun vs H Q _ => ∃ a b c : Int, vs = [.int a, .int b, .int c] ∧ Bd 400 a ∧ Bd 400 b ∧ Bd 400 c ∧ 0 ≤ c ∧ Q (.int (swr a b c)) H
def isq (n : Int) : Prop := ∃ s : Int, 0 ≤ s ∧ s * s = n
def sp_lroot : Sp := fun vs H Q _ => ∃ (b : Addr) (m : Int), vs = [.ref b, .int m] ∧ BoxAt H b ∧ 0 < m ∧ m ≤ 1000 ∧ ∀ (t : Addr) (H' : Hp) (p q d r : Int), H t = none → t ≠ b → Keep b H H' → BoxAt H' b → H' t = some (.tup [.int p, .int q, .int d, .int r]) →
  -(m + 1) ≤ p → p ≤ m + 1 → -4 ≤ q → q ≤ 4 → 0 ≤ d → d ≤ 20 → 1 ≤ r → r ≤ 6 → 0 < swr p q d → Q (.ref t) H'
def lst (p q d r : Int) : Prop := (q = 1 ∨ q = -1) ∧ 2 ≤ r ∧ r % 2 = 0 ∧ 2 ≤ d ∧ ¬ isq d ∧ (p * p - d) % (2 * r) = 0 ∧ Int.gcd (Int.gcd (r / 2) p) ((p * p - d) / (2 * r)) = 1
theorem sq_un {s t n : Int} (s0 : 0 ≤ s) (s1 : s * s ≤ n) (s2 : n < (s + 1) * (s + 1)) (t0 : 0 ≤ t) (t1 : t * t = n) : s * s = n := by
  rcases Int.lt_trichotomy s t with h | h | h
  · have : (s + 1) * (s + 1) ≤ t * t := Int.mul_le_mul (by omega) (by omega) (by omega) (by omega)
    omega
  · rw [h, t1]
  · have : (t + 1) * (t + 1) ≤ s * s := Int.mul_le_mul (by omega) (by omega) (by omega) (by omega)
    have e : (t + 1) * (t + 1) = t * t + 2 * t + 1 := by grind
    omega
end Lr
open Lr
--@walks
section
variable {P : Program} {w : World} {K : PySem.W.Frag} {mg : Str → Option Value} {base : Heap}
theorem ok_lsign {f : Addr} {fd : FuncData} (F : Fun K "_law_sign" "_law_sign" S__law_sign f fd) (T : Txt K mg) : FnOk P w K mg base CX0 1 f fd ["_law_number"] sp_sign := by
  refine F.ok SC__law_sign (fun vs H Q E h => ?_) (fun cdv A outer s H vs Q E hr h => ?_)
  · obtain ⟨i, rfl, _⟩ := h
    rfl
  · obtain ⟨i, rfl, q⟩ := h
    refine ⟨_, (pss_one (ps_ret (pe_op op_sub (pe_callTy call_intB (by rfl) T.b_int (by decide +kernel) (pa_cons (pe_cmpR op_gt (pv 0) pe_int (nomark _)) pa_nil)) (pe_callTy call_intB (by rfl) T.b_int (by decide +kernel) (pa_cons (pe_cmpR op_lt (pv 0) pe_int (nomark _)) pa_nil))))), ?_⟩
    walk_at "kw"
    exact q
theorem ok_lsr {f : Addr} {fd : FuncData} (F : Fun K "_law_sign_root" "_law_sign_root" S__law_sign_root f fd) (T : Txt K mg) (C_lsign : FnC P w K mg base CX0 1 "_law_sign" ["_law_number"] sp_sign) : FnOk P w K mg base CX0 2 f fd ["_law_one", "_law_times", "_law_inner"] sp_lsr := by
  refine F.ok SC__law_sign_root (fun vs H Q E h => ?_) (fun cdv A outer s H vs Q E hr h => ?_)
  · obtain ⟨a, b, c, rfl, _⟩ := h
    rfl
  · obtain ⟨a, b, c, rfl, ba, bb, bc, c0, q⟩ := h
    refine ⟨_, (pss_cons (ps_par (i := 3) (j := 4) (by rfl) SC__law_sign_root.nd rfl rfl (by decide) rfl rfl (pa_cons (pe_callC C_lsign hr rfl (pa_cons (pv 0) pa_nil)) (pa_cons (pe_op op_mulW (pe_callC C_lsign hr rfl (pa_cons (pv 1) pa_nil)) (pe_callTy call_intB (by rfl) T.b_int (by decide +kernel) (pa_cons (pe_cmpR op_gt (pv 2) pe_int (nomark _)) pa_nil))) pa_nil)) (by rfl))
      (pss_cons (ps_if (PW.pt (pw_or (pt_cmpR op_eq (pv 3) (pv 4) (nomark _)) (pw_or1 (pt_cmpR op_eq (pv 4) pe_int (nomark _))))) (pss_one (ps_ret (pv 3))) pss_nil)
      (pss_cons (ps_if (pt_cmpR op_eq (pv 3) pe_int (nomark _)) (pss_one (ps_ret (pv 4))) pss_nil)
      (pss_one (ps_ret (pe_op op_mulW (pv 3) (pe_callC C_lsign hr rfl (pa_cons (pe_op op_sub (pe_op op_mulW (pv 0) (pv 0)) (pe_op op_mulW (pe_op op_mulW (pv 1) (pv 1)) (pv 2))) pa_nil)))))))), ?_⟩
    have ec : sg c = (if decide (0 < c) = true then 1 else 0) := by
      rcases sg_c c with ⟨h1, h2⟩ | ⟨h1, h2⟩ | ⟨h1, h2⟩
      · rw [h2, decide_eq_true h1]; rfl
      · rw [h2, h1]; rfl
      · omega
    have b01 : Bd 64 (if decide (0 < c) = true then 1 else 0 : Int) := by split <;> exact Bd.lit (by decide)
    unfold swr at q
    rw [ec] at q
    walk_at "kw"
    refine ite2 (fun h => ?_) (fun h => ?_)
    · rw [if_pos (.inl (V.int.inj (of_decide_eq_true h)))] at q
      exact ⟨_, rfl, q⟩
    have n1 : ¬ sg a = sg b * (if decide (0 < c) = true then 1 else 0) := fun e => h (decide_eq_true (congrArg V.int e))
    walk_at "kw"
    refine ite2 (fun h => ?_) (fun h => ?_)
    · rw [if_pos (.inr (V.int.inj (of_decide_eq_true h)))] at q
      exact ⟨_, rfl, q⟩
    have n2 : ¬ sg b * (if decide (0 < c) = true then 1 else 0) = 0 := fun e => h (decide_eq_true (congrArg V.int e))
    rw [if_neg (fun z => z.elim n1 n2)] at q
    walk_at "kw"
    refine ite2 (fun h => ?_) (fun h => ?_)
    · rw [if_pos (V.int.inj (of_decide_eq_true h))] at q
      exact ⟨_, rfl, q⟩
    rw [if_neg (fun e => h (decide_eq_true (congrArg V.int e)))] at q
    walk_at "kw"
    exact q
end
--@*

namespace Lr
theorem ds14 {k : Int} (h0 : 0 ≤ k) (h : k < 14) : ∃ v : Int, atI [V.int 2, .int 3, .int 5, .int 6, .int 7, .int 8, .int 10, .int 12, .int 13, .int 20, .int 0, .int 1, .int 4, .int 9] k = some (.int v) ∧ 0 ≤ v ∧ v ≤ 20 := by
  have : k = 0 ∨ k = 1 ∨ k = 2 ∨ k = 3 ∨ k = 4 ∨ k = 5 ∨ k = 6 ∨ k = 7 ∨ k = 8 ∨ k = 9 ∨ k = 10 ∨ k = 11 ∨ k = 12 ∨ k = 13 := by omega
  rcases this with rfl | rfl | rfl | rfl | rfl | rfl | rfl | rfl | rfl | rfl | rfl | rfl | rfl | rfl <;> exact ⟨_, rfl, by decide, by decide⟩
theorem swr_pos {p q d : Int} (hp : 0 < p) (hq : 0 ≤ q) (hd : 0 ≤ d) : 0 < swr p q d := by
  unfold swr
  rw [sg_p hp]
  rcases sg_c q with ⟨h1, h2⟩ | ⟨h1, h2⟩ | ⟨h1, h2⟩
  · rcases sg_c d with ⟨g1, g2⟩ | ⟨g1, g2⟩ | ⟨g1, g2⟩
    · rw [h2, g2, if_pos (.inl rfl)]; decide
    · rw [h2, g2, if_pos (.inr rfl)]; decide
    · omega
  · rw [h2, Int.zero_mul, if_pos (.inr rfl)]; decide
  · omega
theorem bd_small {i : Int} (h0 : -100000 ≤ i) (h1 : i ≤ 100000) : Bd 60 i := by
  have : i.natAbs < 2 ^ 60 := Nat.lt_of_lt_of_le (show i.natAbs < 1000000 by omega) (by decide)
  exact this
end Lr
--@walks
section
variable {P : Program} {w : World} {K : PySem.W.Frag} {mg : Str → Option Value} {base : Heap}
theorem ok_lroot {f : Addr} {fd : FuncData} (F : Fun K "_law_root" "_law_root" S__law_root f fd) (T : Txt K mg) (C_take : FnC P w K mg base CX0 1 "_law_take" ["_law_box_here", "_law_many"] sp_take) (C_lsr : FnC P w K mg base CX0 2 "_law_sign_root" ["_law_one", "_law_times", "_law_inner"] sp_lsr) : FnOk P w K mg base CX0 3 f fd ["_law_box_here", "_law_most"] sp_lroot := by
  refine F.ok SC__law_root (fun vs H Q E h => ?_) (fun cdv A outer s H vs Q E hr h => ?_)
  · obtain ⟨b, m, rfl, _⟩ := h
    rfl
  · obtain ⟨b, m, rfl, hb, m0, m1, k⟩ := h
    refine ⟨_, (pss_cons (ps_par (i := 2) (j := 3) (by rfl) SC__law_root.nd rfl rfl (by decide) rfl rfl (pa_cons (pe_op op_sub (pe_callC C_take (hr.mono (by decide)) rfl (pa_cons (pv 0) (pa_cons (pe_op op_add (pe_op op_mulW pe_int (pv 1)) pe_int) pa_nil))) (pv 1)) (pa_cons (pe_op op_sub (pe_callC C_take (hr.mono (by decide)) rfl (pa_cons (pv 0) (pa_cons pe_int pa_nil))) pe_int) pa_nil)) (by rfl))
      (pss_cons (ps_par (i := 4) (j := 5) (by rfl) SC__law_root.nd rfl rfl (by decide) rfl rfl (pa_cons (pe_ix ix_list (pe_lstN (pa_cons pe_int (pa_cons pe_int (pa_cons pe_int (pa_cons pe_int (pa_cons pe_int (pa_cons pe_int (pa_cons pe_int (pa_cons pe_int (pa_cons pe_int (pa_cons pe_int (pa_cons pe_int (pa_cons pe_int (pa_cons pe_int (pa_cons pe_int pa_nil))))))))))))))) (pe_callC C_take (hr.mono (by decide)) rfl (pa_cons (pv 0) (pa_cons pe_int pa_nil))) (fun _ _ => rfl)) (pa_cons (pe_op op_add pe_int (pe_callC C_take (hr.mono (by decide)) rfl (pa_cons (pv 0) (pa_cons pe_int pa_nil)))) pa_nil)) (by rfl))
      (pss_mid (ps_if (pt_cmpR op_le (pe_callC C_lsr (hr.mono (by decide)) rfl (pa_cons (pv 2) (pa_cons (pv 3) (pa_cons (pv 4) pa_nil)))) pe_int (nomark _)) (pss_one (ps_par (i := 2) (j := 3) (by rfl) SC__law_root.nd rfl rfl (by decide) rfl rfl (pa_cons (pe_op op_add (pe_callB call_abs (by rfl) T.b_abs (by decide +kernel) (pa_cons (pv 2) pa_nil)) pe_int) (pa_cons (pe_callB call_abs (by rfl) T.b_abs (by decide +kernel) (pa_cons (pv 3) pa_nil)) pa_nil)) (by rfl))) pss_nil)
      (pss_one (ps_ret (pe_tupN (pa_cons (pv 2) (pa_cons (pv 3) (pa_cons (pv 4) (pa_cons (pv 5) pa_nil)))))))))), ?_⟩
    have W0 := Wo.start hb
    have c2 : (-(2 ^ 64 : Int) < 2 ∧ (2 : Int) < 2 ^ 64) ∧ (-(2 ^ 64 : Int) < m ∧ m < 2 ^ 64) := by omega
    have bm : Bd 60 m := bd_small (by omega) (by omega)
    walk_at "kw"
    intro d1 H1 d10 d11 kp1 hb1
    have W1 := W0.keep kp1 hb1
    walk_at "kw"
    intro d2 H2 d20 d21 kp2 hb2
    have W2 := W1.keep kp2 hb2
    walk_at "kw"
    rename_i t3 H3 f3 W3
    refine ⟨W3.box, by decide, by decide, fun d4 H4 d40 d41 kp4 hb4 => ?_⟩
    have W4 := W3.keep kp4 hb4
    obtain ⟨d, hat, d0, d1'⟩ := ds14 d40 d41
    refine ⟨t3, _, d4, _, rfl, rfl, SqL.of (W4.get (.head _)), hat, ?_⟩
    walk_at "kw"
    intro d5 H5 d50 d51 kp5 hb5
    have W5 := W4.tl.keep kp5 hb5
    walk_at "kw"
    have bp : Bd 60 (d1 - m) := bd_small (by omega) (by omega)
    have bq : Bd 60 (d2 - 4) := bd_small (by omega) (by omega)
    have bd : Bd 60 d := bd_small (by omega) (by omega)
    refine ⟨fun σ' H' => H' = H5 ∧ ∃ p q : Int, (-(m + 1) ≤ p ∧ p ≤ m + 1) ∧ (-4 ≤ q ∧ q ≤ 4) ∧ 0 < swr p q d ∧ σ' = [some (.ref b), some (.int m), some (.int p), some (.int q), some (.int d), some (.int (1 + d5))], ?_, fun σ1 H6 z => ?_⟩
    · walk_at "kw"
      refine ite2 (fun h => ?_) (fun h => ?_)
      · walk_at "kw"
        refine ⟨_, _, ⟨?_, ?_⟩, ⟨?_, ?_⟩, ?_, rfl⟩
        · split <;> omega
        · split <;> omega
        · split <;> omega
        · split <;> omega
        · refine swr_pos ?_ ?_ d0
          · split <;> omega
          · split <;> omega
      · have h' : ¬ swr (d1 - m) (d2 - 4) d ≤ 0 := fun e => h (decide_eq_true e)
        walk_at "kw"
        exact ⟨rfl, _, _, ⟨by omega, by omega⟩, ⟨by omega, by omega⟩, by omega, rfl⟩
    obtain ⟨rfl, p, q, ⟨p0, p1⟩, ⟨q0, q1⟩, w0, rfl⟩ := z
    walk_at "kw"
    rename_i t7 H7 f7 W7
    exact k t7 H7 p q d (1 + d5) f7 (W7.ne (.head _)) W7.kp W7.box (W7.get (.head _)) p0 p1 q0 q1 d0 d1' (by omega) (by omega) w0
end
--@*

/-! ## the one form of a number with a root -/
namespace K10
theorem isq_mul {m n : Int} (hm : m ≠ 0) (h : isq (m * m * n)) (hn : 0 ≤ n) : isq n := by
  obtain ⟨s, s0, hs⟩ := h
  have hd : m * m ∣ s * s := ⟨n, hs⟩
  have hd2 : m.natAbs * m.natAbs ∣ s.natAbs * s.natAbs := by
    have := Int.natAbs_dvd_natAbs.mpr hd
    rwa [Int.natAbs_mul, Int.natAbs_mul] at this
  have hd3 : m.natAbs ∣ s.natAbs := by
    have := (Nat.pow_dvd_pow_iff (a := m.natAbs) (b := s.natAbs) (n := 2) (by decide)).mp (by rw [Nat.pow_two, Nat.pow_two]; exact hd2)
    exact this
  obtain ⟨k, hk⟩ := hd3
  refine ⟨(k : Int), Int.natCast_nonneg _, ?_⟩
  have e1 : s * s = m * m * ((k : Int) * k) := by
    have h1 : ((s.natAbs : Int)) * s.natAbs = s * s := Int.natAbs_mul_self' s |>.trans rfl
    have h2 : ((m.natAbs : Int)) * m.natAbs = m * m := Int.natAbs_mul_self' m |>.trans rfl
    have h3 : (s.natAbs : Int) = m.natAbs * k := by rw [hk]; exact Int.natCast_mul _ _
    rw [← h1, ← h2, h3]
    grind
  have hm2 : m * m ≠ 0 := fun e => hm (by
    rcases Int.mul_eq_zero.mp e with h | h <;> exact h)
  exact Int.eq_of_mul_eq_mul_left hm2 (by rw [← e1, hs])
structure Red (A B C a b c : Int) (f : Int) : Prop where
  f0 : 0 < f
  ha : f * a = A
  hb : f * b = B
  hc : f * c = C
  g : Int.gcd (Int.gcd a b) c = 1
theorem red {A B C : Int} (hA : A ≠ 0) : ∃ f : Int, 0 < f ∧ (Int.gcd (Int.gcd A B) C : Int) = f ∧ Red A B C (A / f) (B / f) (C / f) f := by
  have g0 : Int.gcd A B ≠ 0 := fun e => hA (Int.gcd_eq_zero_iff.mp e).1
  have f0 : 0 < (Int.gcd (Int.gcd A B : Int) C : Int) := by
    have : Int.gcd (Int.gcd A B : Int) C ≠ 0 := fun e => by
      have := (Int.gcd_eq_zero_iff.mp e).1
      omega
    omega
  refine ⟨_, f0, rfl, f0, ?_, ?_, ?_, ?_⟩
  · exact Int.mul_ediv_cancel' (Int.dvd_trans (Int.gcd_dvd_left _ _) (Int.gcd_dvd_left _ _))
  · exact Int.mul_ediv_cancel' (Int.dvd_trans (Int.gcd_dvd_left _ _) (Int.gcd_dvd_right _ _))
  · exact Int.mul_ediv_cancel' (Int.gcd_dvd_right _ _)
  · have hd : (Int.gcd (Int.gcd A B : Int) C : Int) ∣ (Int.gcd A B : Int) := Int.gcd_dvd_left _ _
    have hc : (Int.gcd (Int.gcd A B : Int) C : Int) ∣ C := Int.gcd_dvd_right _ _
    have e1 := Int.gcd_ediv (Int.dvd_trans hd (Int.gcd_dvd_left A B)) (Int.dvd_trans hd (Int.gcd_dvd_right A B))
    rw [e1]
    rw [Int.natAbs_natCast, Int.natCast_ediv]
    have e2 := Int.gcd_ediv hd hc
    rw [e2, Int.natAbs_natCast]
    exact Nat.div_self (by omega)
theorem lwd_pos {A B C s : Int} (hA : 0 < A) : ∃ a b c f : Int, Red A B C a b c f ∧ ((∀ n, Bd n A → Bd n a) ∧ (∀ n, Bd n B → Bd n b) ∧ (∀ n, Bd n C → Bd n c)) ∧ lwd A B C s = [a, b, c, s] := by
  obtain ⟨f, f0, e, r⟩ := red (A := A) (B := B) (C := C) (by omega)
  refine ⟨_, _, _, f, r, ⟨fun n h => h.div f, fun n h => h.div f, fun n h => h.div f⟩, ?_⟩
  unfold lwd lwf
  rw [if_neg (by omega), e, Int.fdiv_eq_ediv_of_nonneg A (by omega), Int.fdiv_eq_ediv_of_nonneg B (by omega), Int.fdiv_eq_ediv_of_nonneg C (by omega)]
theorem mul_can {f x y : Int} (h : 0 < f) (e : f * x = f * y) : x = y := Int.eq_of_mul_eq_mul_left (by omega) e
theorem same {p q d r a b c f : Int} (h : Red (r * r) (-2 * p * r) (p * p - q * q * d) a b c f) (r0 : 0 < r) (q0 : q ≠ 0) :
    (0 - b) * r = p * (2 * a) ∧ sg (if 0 < q then 1 else -1) * sg (2 * a) = sg q * sg r ∧ (if 0 < q then 1 else -1) * (if 0 < q then 1 else -1) * (b * b - 4 * a * c) * r * r = q * q * d * (2 * a) * (2 * a) := by
  have h1 := h.ha
  have h2 := h.hb
  have h3 := h.hc
  have rr : 0 < r * r := Int.mul_pos r0 r0
  have a1 : 0 < a := Int.pos_of_mul_pos_right (by rw [h.ha]; exact rr) h.f0 |> fun h => h
  refine ⟨mul_can h.f0 ?_, ?_, mul_can (Int.mul_pos h.f0 h.f0) ?_⟩
  · have e : f * ((0 - b) * r) = -((f * b) * r) := by grind
    have e2 : f * (p * (2 * a)) = 2 * p * (f * a) := by grind
    rw [e, e2, h1, h2]
    grind
  · rw [sg_p (show 0 < 2 * a by omega), sg_p r0]
    rcases Int.lt_trichotomy q 0 with hq | hq | hq
    · rw [if_neg (by omega), sg_n hq]; rfl
    · exact absurd hq q0
    · rw [if_pos hq, sg_p hq]; rfl
  · have es : (if 0 < q then (1 : Int) else -1) * (if 0 < q then 1 else -1) = 1 := by split <;> rfl
    rw [es]
    have e : f * f * (1 * (b * b - 4 * a * c) * r * r) = ((f * b) * (f * b) - 4 * (f * a) * (f * c)) * r * r := by grind
    have e2 : f * f * (q * q * d * (2 * a) * (2 * a)) = q * q * d * 4 * (f * a) * (f * a) := by grind
    rw [e, e2, h1, h2, h3]
    grind
/-- a number that is a fraction is above 0 -/
theorem swr_frac {p q d s : Int} (h : 0 < swr p q d) (hz : q = 0 ∨ s * s = d) (s0 : 0 ≤ s) : 0 < p + q * s := by
  unfold swr at h
  rcases hz with hz | hz
  · rw [hz, sg_z, Int.zero_mul, if_pos (.inr rfl)] at h
    rw [hz, Int.zero_mul]
    rcases sg_c p with ⟨h1, h2⟩ | ⟨h1, h2⟩ | ⟨h1, h2⟩
    · omega
    · rw [h2] at h; omega
    · rw [h2] at h; omega
  · rcases Int.lt_or_eq_of_le s0 with s0 | s0
    · have hd : sg d = 1 := sg_p (by rw [← hz]; exact Int.mul_pos s0 s0)
      rw [hd, Int.mul_one] at h
      have ef : p * p - q * q * d = (p - q * s) * (p + q * s) := by rw [← hz]; grind
      rcases sg_c p with ⟨h1, h2⟩ | ⟨h1, h2⟩ | ⟨h1, h2⟩ <;> rcases sg_c q with ⟨g1, g2⟩ | ⟨g1, g2⟩ | ⟨g1, g2⟩
      · have := Int.mul_pos g1 s0
        omega
      · rw [g1, Int.zero_mul]; omega
      · rw [h2, g2, if_neg (by decide), if_neg (by decide), Int.one_mul, ef] at h
        have hqs : q * s < 0 := Int.mul_neg_of_neg_of_pos g1 s0
        rcases sg_c ((p - q * s) * (p + q * s)) with ⟨k1, k2⟩ | ⟨k1, k2⟩ | ⟨k1, k2⟩
        · rcases Int.lt_or_le 0 (p + q * s) with z | z
          · exact z
          · have := Int.mul_nonpos_of_nonneg_of_nonpos (show 0 ≤ p - q * s by omega) z
            omega
        · rw [k2] at h; omega
        · rw [k2] at h; omega
      · have := Int.mul_pos g1 s0
        omega
      · rw [h2, g2, if_pos (.inl rfl)] at h; omega
      · rw [h2, g2, if_neg (by decide), if_pos rfl] at h; omega
      · rw [h2, g2, if_neg (by decide), if_neg (by decide), ef] at h
        have hqs : 0 < q * s := Int.mul_pos g1 s0
        rcases sg_c ((p - q * s) * (p + q * s)) with ⟨k1, k2⟩ | ⟨k1, k2⟩ | ⟨k1, k2⟩
        · rw [k2] at h; omega
        · rw [k2] at h; omega
        · rcases Int.lt_or_le 0 (p + q * s) with z | z
          · exact z
          · have := Int.mul_nonneg_of_nonpos_of_nonpos (show p - q * s ≤ 0 by omega) z
            omega
      · rw [h2, g2, if_pos (.inr rfl)] at h; omega
      · rw [h2, g2, if_pos (.inl rfl)] at h; omega
    · have hd : d = 0 := by rw [← hz, ← s0]; rfl
      rw [hd, sg_z, Int.mul_zero, if_pos (.inr rfl)] at h
      rw [← s0, Int.mul_zero]
      rcases sg_c p with ⟨h1, h2⟩ | ⟨h1, h2⟩ | ⟨h1, h2⟩
      · omega
      · rw [h2] at h; omega
      · rw [h2] at h; omega
theorem nrm_pos {r p : Int} (h : 0 < r) : nrm r p = p := by unfold nrm; rw [if_neg (by omega)]
/-- a fraction in lowest terms -/
theorem frac_low {x r : Int} (hx : 0 < x) (hr : 0 < r) : 1 ≤ x / (Int.gcd x r : Nat) ∧ 1 ≤ r / (Int.gcd x r : Nat) ∧ Int.gcd (x / (Int.gcd x r : Nat)) (r / (Int.gcd x r : Nat)) = 1 := by
  have g0 : 0 < Int.gcd x r := Int.gcd_pos_of_ne_zero_left r (by omega)
  have h1 := Int.mul_ediv_cancel' (a := ((Int.gcd x r : Nat) : Int)) (b := x) (Int.gcd_dvd_left _ _)
  have h2 := Int.mul_ediv_cancel' (a := ((Int.gcd x r : Nat) : Int)) (b := r) (Int.gcd_dvd_right _ _)
  refine ⟨?_, ?_, ?_⟩
  · have : 0 < x / (Int.gcd x r : Nat) := Int.pos_of_mul_pos_right (by rw [h1]; exact hx) (by omega) |> fun h => h
    omega
  · have : 0 < r / (Int.gcd x r : Nat) := Int.pos_of_mul_pos_right (by rw [h2]; exact hr) (by omega) |> fun h => h
    omega
  · rw [Int.gcd_ediv (Int.gcd_dvd_left _ _) (Int.gcd_dvd_right _ _), Int.natAbs_natCast]
    exact Nat.div_self g0
end K10
open K10
namespace K10
def sp_law (K : PySem.W.Frag) : Sp := fun vs H Q _ => ∃ (a : Addr) (ns : List Int), vs = [.ref a] ∧ SqL K H a (ns.map V.int) ∧ ns.length ≤ 63 ∧ ∀ H', Q (.bl true) H'
/-- Edge.root of four right numbers -/
theorem erootH {CE IE : Addr} {K : PySem.W.Frag} {H : Hp} {Q : VK} {E : XK} {p q d r : Int} (b : Bd 100 p ∧ Bd 100 q ∧ Bd 100 d ∧ Bd 100 r) (d0 : 0 ≤ d) (r0 : r ≠ 0) (w : 0 < swr (nrm r p) (nrm r q) d)
    (k : ∀ s, 0 ≤ s → s * s ≤ d → d < (s + 1) * (s + 1) → ∀ e H', H e = none → Same H H' → EdgeAt CE H' e (rootPl (nrm r p) (nrm r q) d (nrm r r) s) → Q (.ref e) H') : Kb.calm (sp_eroot CE IE K) [.ref CE, .int p, .int q, .int d, .int r] H Q E := by
  refine ⟨_, _, _, _, rfl, ⟨.int _, .int _, .int _, .int _⟩, fun p' q' d' r' h1 h2 h3 h4 => ?_, fun h => nomatch h⟩
  cases h1; cases h2; cases h3; cases h4
  exact ⟨b, fun hb => absurd hb (by omega), fun _ _ _ => k⟩
end K10
/-! ## operators of edges, in short -/
namespace Eh
theorem chE {CC CE c e : Addr} {M : Mt} {pl : List Int} {H : Hp} {Q : VK} (hc : ChM CC H c M) (he : EdgeAt CE H e pl) (b : Bd 200 M.a ∧ Bd 200 M.b ∧ Bd 200 M.c ∧ Bd 200 M.d) (hp : PlC M.a M.b M.c M.d pl)
    (k : ∀ r H', H r = none → Same H H' → EdgeAt CE H' r (bhPl M.a M.b M.c M.d pl) → Q (.ref r) H') : Kb.rBinR CC CE (sn_mul CC CE) (sp_ermul CE CC) (.ref c) (.ref e) H Q := by
  have hc0 := hc
  obtain ⟨dc, q, h1, h2⟩ := hc
  obtain ⟨dx, t, fs, g1, g2, g3⟩ := he.at
  exact ⟨c, dc, _, e, dx, fs, rfl, rfl, h1, g1, ⟨c, e, dc, dx, _, fs, rfl, h1, g1⟩, e, c, pl, M, rfl, he, hc0, b, hp, k⟩
section
variable {K : PySem.W.Frag} {mg : Str → Option Value} {CE e g : Addr} {pl pl' : List Int} {H : Hp} {Q : VK}
theorem neE (Re : EdgT K mg CE) (he : EdgeAt CE H e pl) (hg : EdgeAt CE H g pl') (k : Q (.bl (!decide (pl = pl'))) H) : rOwnNe K CE (sp_eeq CE) (.ref e) (.ref g) H Q := by
  obtain ⟨dx, t, fs, h1, h2, h3⟩ := he.at
  obtain ⟨dy, u, gs, g1, g2, g3⟩ := hg.at
  exact ⟨e, dx, fs, .ref CE, rfl, h1, Re.ty g1, Re.nf, e, g, _, _, rfl, he, hg, _, rfl, k⟩
theorem eqE (Re : EdgT K mg CE) (he : EdgeAt CE H e pl) (hg : EdgeAt CE H g pl') (k : Q (.bl (decide (pl = pl'))) H) : rOwnI K CE (sp_eeq CE) E0 (.ref e) (.ref g) H Q := by
  obtain ⟨dx, t, fs, h1, h2, h3⟩ := he.at
  obtain ⟨dy, u, gs, g1, g2, g3⟩ := hg.at
  exact ⟨e, dx, fs, .ref CE, rfl, h1, Re.ty g1, Re.nf, e, g, _, _, rfl, he, hg, k⟩
end
theorem Bd.lt {n : Nat} {x : Int} (h : Bd n x) : x < 2 ^ n := by
  have h' : x.natAbs < 2 ^ n := h
  have : ((x.natAbs : Nat) : Int) < ((2 ^ n : Nat) : Int) := by exact_mod_cast h'
  have e : ((2 ^ n : Nat) : Int) = (2 : Int) ^ n := by simp
  omega
end Eh
open Eh

/-! ## what a change makes of a number with a root -/
namespace K15
open K10
theorem lwd_any {A B C s : Int} (hA : A ≠ 0) : ∃ a b c g : Int, g ≠ 0 ∧ 0 < a ∧ (g * a = A ∧ g * b = B ∧ g * c = C) ∧ sg g = sg A ∧ Int.gcd (Int.gcd a b) c = 1 ∧ ((∀ n, Bd n A → Bd n a) ∧ (∀ n, Bd n B → Bd n b) ∧ (∀ n, Bd n C → Bd n c)) ∧ lwd A B C s = [a, b, c, s] := by
  obtain ⟨f, f0, e, r⟩ := red (A := A) (B := B) (C := C) hA
  have ha := r.ha
  have hb := r.hb
  have hc := r.hc
  have hg := r.g
  have bd : ∀ (X : Int) n, Bd n X → Bd n (X / f) := fun X n h => h.div f
  have bA := bd A
  have bB := bd B
  have bC := bd C
  generalize A / f = a at *
  generalize B / f = b at *
  generalize C / f = c at *
  by_cases h : A < 0
  · refine ⟨-a, -b, -c, -f, by omega, ?_, ⟨by rw [Int.neg_mul_neg]; exact ha, by rw [Int.neg_mul_neg]; exact hb, by rw [Int.neg_mul_neg]; exact hc⟩, ?_, ?_, ⟨fun n h => (bA n h).neg, fun n h => (bB n h).neg, fun n h => (bC n h).neg⟩, ?_⟩
    · rcases Int.lt_or_le a 0 with z | z
      · omega
      · have := Int.mul_nonneg (Int.le_of_lt f0) z
        omega
    · rw [sg_n h, sg_n (by omega)]
    · rw [Int.neg_gcd, Int.gcd_neg, Int.gcd_neg]
      exact hg
    · unfold lwd lwf
      rw [if_pos h, e, Int.zero_sub]
      have n0 : -f ≠ 0 := by omega
      rw [Int.fdiv_eq_of_eq_mul_right n0 (show A = -f * -a by rw [Int.neg_mul_neg]; exact ha.symm), Int.fdiv_eq_of_eq_mul_right n0 (show B = -f * -b by rw [Int.neg_mul_neg]; exact hb.symm), Int.fdiv_eq_of_eq_mul_right n0 (show C = -f * -c by rw [Int.neg_mul_neg]; exact hc.symm)]
  · have hp : 0 < A := by omega
    refine ⟨a, b, c, f, by omega, ?_, ⟨ha, hb, hc⟩, by rw [sg_p f0, sg_p hp], hg, ⟨bA, bB, bC⟩, ?_⟩
    · rcases Int.lt_or_le 0 a with z | z
      · exact z
      · have := Int.mul_nonpos_of_nonneg_of_nonpos (Int.le_of_lt f0) z
        omega
    · unfold lwd lwf
      rw [if_neg h, e]
      have n0 : f ≠ 0 := by omega
      rw [Int.fdiv_eq_of_eq_mul_right n0 ha.symm, Int.fdiv_eq_of_eq_mul_right n0 hb.symm, Int.fdiv_eq_of_eq_mul_right n0 hc.symm]
theorem sq_pos {x : Int} (h : x ≠ 0) : 0 < x * x := by
  rcases Int.lt_trichotomy x 0 with z | z | z
  · exact Int.mul_pos_of_neg_of_neg z z
  · exact absurd z h
  · exact Int.mul_pos z z
theorem mul_can' {f x y : Int} (h : f ≠ 0) (e : f * x = f * y) : x = y := Int.eq_of_mul_eq_mul_left h e
theorem sg_nz {x : Int} (h : x ≠ 0) : sg x = 1 ∨ sg x = -1 := by
  rcases sg_c x with ⟨_, e⟩ | ⟨z, _⟩ | ⟨_, e⟩
  · exact .inl e
  · exact absurd z h
  · exact .inr e
end K15
open K15

/-! ## signs of numbers with roots, as of ordered rings -/
namespace Sg
 open Lean.Grind
class SgR (R : Type) [CommRing R] where
  s : R → Int
  tri : ∀ a, s a = 1 ∨ s a = 0 ∨ s a = -1
  neg : ∀ a, s (-a) = - s a
  mul : ∀ a b, s (a * b) = s a * s b
  one : s 1 = 1
  add : ∀ a b, s a = 1 → s b = 1 → s (a + b) = 1
  add0 : ∀ a b, s a = 0 → s (a + b) = s b
section
variable {R : Type} [CommRing R] [SgR R]
 open SgR
theorem s_zero : s (0 : R) = 0 := by
  have h := neg (0 : R)
  rw [show -(0 : R) = 0 by grind] at h
  omega
theorem s_two : s (2 : R) = 1 := by
  rw [show (2 : R) = 1 + 1 by grind]
  exact add _ _ one one
theorem s_addN (a b : R) (h1 : s a = -1) (h2 : s b = -1) : s (a + b) = -1 := by
  have := add (-a) (-b) (by rw [neg, h1]; rfl) (by rw [neg, h2]; rfl)
  rw [show -a + -b = -(a + b) by grind, neg] at this
  omega
theorem s_sub0 (a b : R) (h : s (a - b) = 0) : s a = s b := by
  have := add0 (a - b) b h
  rwa [show a - b + b = a by grind] at this
theorem s_addr0 (a b : R) (h : s b = 0) : s (a + b) = s a := by
  rw [show a + b = b + a by grind]; exact add0 _ _ h
theorem s_add1 (a b : R) (h1 : s a = 1) (h2 : s b = 1 ∨ s b = 0) : s (a + b) = 1 := by
  rcases h2 with h | h
  · exact add _ _ h1 h
  · rw [s_addr0 _ _ h, h1]
theorem dom (u v : R) (h : s (u * u - v * v) = 1) : s (u + v) = s u ∧ (s u = 1 ∨ s u = -1) := by
  rw [show u * u - v * v = (u + v) * (u - v) by grind, mul] at h
  have e : (u + v) + (u - v) = 2 * u := by grind
  rcases tri (u + v) with h1 | h1 | h1
  · rcases tri (u - v) with h2 | h2 | h2
    · have := add _ _ h1 h2
      rw [e, mul, s_two] at this
      exact ⟨by omega, by omega⟩
    · rw [h1, h2] at h; omega
    · rw [h1, h2] at h; omega
  · rw [h1] at h; omega
  · rcases tri (u - v) with h2 | h2 | h2
    · rw [h1, h2] at h; omega
    · rw [h1, h2] at h; omega
    · have := s_addN _ _ h1 h2
      rw [e, mul, s_two] at this
      exact ⟨by omega, by omega⟩
end
/-- numbers a + b * root of c -/
structure Qx {R : Type} (c : R) where
  a : R
  b : R
namespace Qx
variable {R : Type} [CommRing R] {c : R}
@[ext] theorem ext' {x y : Qx c} (h1 : x.a = y.a) (h2 : x.b = y.b) : x = y := by cases x; cases y; simp_all
instance : Add (Qx c) := ⟨fun x y => ⟨x.a + y.a, x.b + y.b⟩⟩
instance : Mul (Qx c) := ⟨fun x y => ⟨x.a * y.a + x.b * y.b * c, x.a * y.b + x.b * y.a⟩⟩
instance : Neg (Qx c) := ⟨fun x => ⟨-x.a, -x.b⟩⟩
instance : Sub (Qx c) := ⟨fun x y => ⟨x.a - y.a, x.b - y.b⟩⟩
def of (r : R) : Qx c := ⟨r, 0⟩
def nc (R : Type) [CommRing R] (n : Nat) : R := (Semiring.natCast (α := R)).natCast n
def ic (R : Type) [CommRing R] (n : Int) : R := (Ring.intCast (α := R)).intCast n
def pw (x : Qx c) : Nat → Qx c
  | 0 => of 1
  | n + 1 => pw x n * x
def on (R : Type) [CommRing R] (n : Nat) : R := (Semiring.ofNat (α := R) n).ofNat
theorem on_succ (n : Nat) : on R (n + 1) = on R n + 1 := Semiring.ofNat_succ n
theorem on_nc (n : Nat) : on R n = nc R n := Semiring.ofNat_eq_natCast n
theorem on_0 : on R 0 = 0 := rfl
theorem mulc (x y : Qx c) : x * y = y * x := by
  apply ext'
  · show x.a * y.a + x.b * y.b * c = y.a * x.a + y.b * x.b * c
    grind
  · show x.a * y.b + x.b * y.a = y.a * x.b + y.b * x.a
    grind
theorem mul1 (x : Qx c) : x * of 1 = x := by
  apply ext'
  · show x.a * 1 + x.b * 0 * c = x.a
    grind
  · show x.a * 0 + x.b * 1 = x.b
    grind
theorem mul0 (x : Qx c) : x * of 0 = of 0 := by
  apply ext'
  · show x.a * 0 + x.b * 0 * c = 0
    grind
  · show x.a * 0 + x.b * 0 = 0
    grind
theorem dist (x y z : Qx c) : x * (y + z) = x * y + x * z := by
  apply ext'
  · show x.a * (y.a + z.a) + x.b * (y.b + z.b) * c = x.a * y.a + x.b * y.b * c + (x.a * z.a + x.b * z.b * c)
    grind
  · show x.a * (y.b + z.b) + x.b * (y.a + z.a) = x.a * y.b + x.b * y.a + (x.a * z.b + x.b * z.a)
    grind
instance ring : CommRing (Qx c) where
  natCast := ⟨fun n => of (nc R n)⟩
  ofNat n := ⟨of (on R n)⟩
  nsmul := ⟨fun n x => of (nc R n) * x⟩
  npow := ⟨pw⟩
  add_zero x := by apply ext' <;> (show _ + on R 0 = _; rw [on_0]; grind)
  add_comm x y := by apply ext' <;> (show _ + _ = _ + _; grind)
  add_assoc x y z := by apply ext' <;> (show _ + _ + _ = _ + (_ + _); grind)
  mul_assoc x y z := by
    apply ext'
    · show (x.a * y.a + x.b * y.b * c) * z.a + (x.a * y.b + x.b * y.a) * z.b * c = x.a * (y.a * z.a + y.b * z.b * c) + x.b * (y.a * z.b + y.b * z.a) * c
      grind
    · show (x.a * y.a + x.b * y.b * c) * z.b + (x.a * y.b + x.b * y.a) * z.a = x.a * (y.a * z.b + y.b * z.a) + x.b * (y.a * z.a + y.b * z.b * c)
      grind
  mul_comm := mulc
  mul_one := mul1
  one_mul x := (mulc _ _).trans (mul1 x)
  left_distrib := dist
  right_distrib x y z := by rw [mulc (x + y) z, dist, mulc z x, mulc z y]
  zero_mul x := (mulc _ _).trans (mul0 x)
  mul_zero := mul0
  pow_zero x := rfl
  pow_succ x n := rfl
  ofNat_succ n := by
    apply ext'
    · show on R (n + 1) = on R n + on R 1
      rw [on_succ]; rfl
    · show (0 : R) = 0 + 0
      grind
  ofNat_eq_natCast n := by
    apply ext'
    · show on R n = nc R n
      exact on_nc n
    · rfl
  nsmul_eq_natCast_mul n x := rfl
  intCast := ⟨fun n => of (ic R n)⟩
  zsmul := ⟨fun n x => of (ic R n) * x⟩
  neg_add_cancel x := by apply ext' <;> (show -_ + _ = on R 0; rw [on_0]; grind)
  sub_eq_add_neg x y := by apply ext' <;> (show _ - _ = _ + -_; grind)
  neg_zsmul i x := by
    have h : ic R (-i) = - ic R i := Ring.intCast_neg i
    apply ext'
    · show ic R (-i) * x.a + 0 * x.b * c = -(ic R i * x.a + 0 * x.b * c)
      rw [h]; grind
    · show ic R (-i) * x.b + 0 * x.a = -(ic R i * x.b + 0 * x.a)
      rw [h]; grind
  zsmul_natCast_eq_nsmul n x := by
    have h : ic R (n : Int) = nc R n := by
      have := Ring.intCast_ofNat (α := R) n
      exact this.trans (on_nc n)
    show of (ic R (n : Int)) * x = of (nc R n) * x
    rw [h]
  intCast_ofNat n := by
    apply ext'
    · show ic R (OfNat.ofNat n) = on R n
      exact Ring.intCast_ofNat n
    · rfl
  intCast_neg i := by
    apply ext'
    · show ic R (-i) = -(ic R i)
      exact Ring.intCast_neg i
    · show (0 : R) = -0
      grind
section
variable [SgR R]
 open SgR
def nm (x : Qx c) : R := x.a * x.a - x.b * x.b * c
/-- the sign of a + b * root of c -/
def sq (x : Qx c) : Int := if s c = 0 then s x.a else if s (nm x) = 1 then s x.a else if s (nm x) = -1 then s x.b else if s x.a = s x.b then s x.a else 0
theorem nm_mul (x y : Qx c) : nm (x * y) = nm x * nm y := by
  show (x.a * y.a + x.b * y.b * c) * (x.a * y.a + x.b * y.b * c) - (x.a * y.b + x.b * y.a) * (x.a * y.b + x.b * y.a) * c = _
  unfold nm
  grind
theorem nm_neg (x : Qx c) : nm (-x) = nm x := by
  show (-x.a) * (-x.a) - (-x.b) * (-x.b) * c = _
  unfold nm
  grind
theorem sq_neg (x : Qx c) : sq (-x) = - sq x := by
  unfold sq
  rw [nm_neg, show (-x).a = -x.a from rfl, show (-x).b = -x.b from rfl, neg, neg]
  repeat' split
  all_goals omega
theorem sq_tri (x : Qx c) : sq x = 1 ∨ sq x = 0 ∨ sq x = -1 := by
  unfold sq
  have h1 := tri x.a
  have h2 := tri x.b
  repeat' split
  all_goals first | assumption | exact .inr (.inl rfl)
theorem s_ca (hc : s c = 1) (a : R) : s (a * c) = s a := by rw [mul, hc, Int.mul_one]
/-- the sign of a sum whose first part has the greater square -/
theorem dom' (u v : R) {m : Int} (h : s (u * u - v * v) = m) (hm : m = 1) : s (u + v) = s u := by subst hm; exact (dom u v h).1
theorem nz_a (hc : s c = 1) (x : Qx c) (h : s (nm x) = 1) : s x.a = 1 ∨ s x.a = -1 := by
  rcases tri x.a with e | e | e
  · exact .inl e
  · exfalso
    unfold nm at h
    have z : s (x.a * x.a) = 0 := by rw [mul, e]; rfl
    rw [show x.a * x.a - x.b * x.b * c = x.a * x.a + -(x.b * x.b * c) by grind, add0 _ _ z, neg, mul, mul, hc] at h
    rcases tri x.b with e | e | e <;> rw [e] at h <;> omega
  · exact .inr e
theorem nz_b (hc : s c = 1) (x : Qx c) (h : s (nm x) = -1) : s x.b = 1 ∨ s x.b = -1 := by
  rcases tri x.b with e | e | e
  · exact .inl e
  · exfalso
    unfold nm at h
    have z : s (-(x.b * x.b * c)) = 0 := by rw [neg, mul, mul, e]; omega
    rw [show x.a * x.a - x.b * x.b * c = x.a * x.a + -(x.b * x.b * c) by grind, s_addr0 _ _ z, mul] at h
    rcases tri x.a with e | e | e <;> rw [e] at h <;> omega
  · exact .inr e
theorem eq_ab (hc : s c = 1) (x : Qx c) (h : s (nm x) = 0) : s x.a = s x.b ∨ s x.a = - s x.b := by
  have := s_sub0 _ _ (show s (x.a * x.a - x.b * x.b * c) = 0 from h)
  rw [mul, mul, mul, hc] at this
  rcases tri x.a with e | e | e <;> rcases tri x.b with g | g | g <;> rw [e, g] at this ⊢ <;> omega
theorem sgn_sq {a : R} (h : s a = 1 ∨ s a = -1) : s (a * a) = 1 := by rw [mul]; rcases h with h | h <;> rw [h] <;> rfl
theorem sgn_sq0 (a : R) : s (a * a) = 1 ∨ s (a * a) = 0 := by rw [mul]; rcases tri a with h | h | h <;> rw [h] <;> omega
theorem s_add1' (a b : R) (h1 : s a = 1 ∨ s a = 0) (h2 : s b = 1) : s (a + b) = 1 := by
  rw [show a + b = b + a by grind]; exact s_add1 _ _ h2 h1
section
variable (hc : s c = 1) (x y : Qx c)
include hc
theorem mul_pp (h1 : s (nm x) = 1) (h2 : s (nm y) = 1) : s (x.a * y.a + x.b * y.b * c) = s x.a * s y.a := by
  rw [← mul]
  refine dom' _ _ (m := 1) ?_ rfl
  rw [show (x.a * y.a) * (x.a * y.a) - (x.b * y.b * c) * (x.b * y.b * c) = x.a * x.a * nm y + y.b * y.b * c * nm x by unfold nm; grind]
  refine s_add1 _ _ ?_ ?_
  · rw [mul, sgn_sq (nz_a hc x h1), h2]; rfl
  · rw [mul, mul, hc, h1]
    rcases sgn_sq0 y.b with e | e <;> rw [e] <;> omega
theorem mul_pn (h1 : s (nm x) = 1) (h2 : s (nm y) = -1) : s (x.a * y.b + x.b * y.a) = s x.a * s y.b := by
  rw [← mul]
  refine dom' _ _ (m := 1) ?_ rfl
  rw [show (x.a * y.b) * (x.a * y.b) - (x.b * y.a) * (x.b * y.a) = y.b * y.b * nm x + x.b * x.b * -nm y by unfold nm; grind]
  refine s_add1 _ _ ?_ ?_
  · rw [mul, sgn_sq (nz_b hc y h2), h1]; rfl
  · rw [mul, neg, h2]
    rcases sgn_sq0 x.b with e | e <;> rw [e] <;> omega
theorem mul_nn (h1 : s (nm x) = -1) (h2 : s (nm y) = -1) : s (x.a * y.a + x.b * y.b * c) = s x.b * s y.b := by
  rw [← mul, ← s_ca hc (x.b * y.b), show x.a * y.a + x.b * y.b * c = x.b * y.b * c + x.a * y.a by grind]
  refine dom' _ _ (m := 1) ?_ rfl
  rw [show (x.b * y.b * c) * (x.b * y.b * c) - (x.a * y.a) * (x.a * y.a) = x.a * x.a * -nm y + y.b * y.b * c * -nm x by unfold nm; grind]
  refine s_add1' _ _ ?_ ?_
  · rw [mul, neg, h2]
    rcases sgn_sq0 x.a with e | e <;> rw [e] <;> omega
  · rw [mul, mul, hc, neg, h1, sgn_sq (nz_b hc y h2)]; rfl
theorem mul_01 (h1 : s (nm x) = 0) (a1 : s x.a = 1) (eb : s x.b = 1) : s (x.a * y.a + x.b * y.b * c) = sq y ∧ s (x.a * y.a + x.b * y.b * c) = s (x.a * y.b + x.b * y.a) := by
  have n0 : ¬ s c = 0 := by omega
  have r1 : s (x.a * y.b + x.b * y.a) * s x.a = s (x.a * y.a + x.b * y.b * c) * s x.b := by
    rw [← mul, ← mul]
    refine s_sub0 _ _ ?_
    rw [show (x.a * y.b + x.b * y.a) * x.a - (x.a * y.a + x.b * y.b * c) * x.b = y.b * nm x by unfold nm; grind, mul, h1]
    omega
  have i1 : (x.a * y.a) * (x.a * y.a) - (x.b * y.b * c) * (x.b * y.b * c) = x.a * x.a * nm y + y.b * y.b * c * nm x := by unfold nm; grind
  have z1 : s (y.b * y.b * c * nm x) = 0 := by rw [mul, h1]; omega
  have sv : s (x.b * y.b * c) = s x.b * s y.b := by rw [mul, mul, hc, Int.mul_one]
  refine ⟨?_, by rw [a1, eb] at r1; omega⟩
  unfold sq
  rw [if_neg n0]
  rcases tri (nm y) with m | m | m
  · rw [if_pos m]
    rw [dom' (x.a * y.a) (x.b * y.b * c) (m := 1) (by rw [i1, s_addr0 _ _ z1, mul, mul, a1, m]; rfl) rfl, mul, a1, Int.one_mul]
  · rw [if_neg (by omega), if_neg (by omega)]
    rcases eq_ab hc y m with g | g
    · rw [if_pos g]
      rcases tri y.a with k | k | k
      · rw [k, add _ _ (by rw [mul, a1, k]; rfl) (by rw [sv, eb, ← g, k]; rfl)]
      · rw [k, add0 _ _ (by rw [mul, a1, k]; rfl), sv, ← g, k]; omega
      · rw [k, s_addN _ _ (by rw [mul, a1, k]; rfl) (by rw [sv, eb, ← g, k]; rfl)]
    · by_cases k : s y.a = s y.b
      · have : s y.a = 0 := by omega
        rw [if_pos k, this, add0 _ _ (by rw [mul, this]; omega), sv, ← k, this]; omega
      · rw [if_neg k]
        have p : s (x.a * y.a + x.b * y.b * c) * s (x.a * y.a - x.b * y.b * c) = 0 := by
          rw [← mul, show (x.a * y.a + x.b * y.b * c) * (x.a * y.a - x.b * y.b * c) = x.a * x.a * nm y + y.b * y.b * c * nm x by rw [← i1]; grind, s_addr0 _ _ z1, mul, m]; omega
        have q : s (x.a * y.a - x.b * y.b * c) ≠ 0 := by
          rw [show x.a * y.a - x.b * y.b * c = x.a * y.a + -(x.b * y.b * c) by grind]
          rcases tri y.a with k | k | k
          · rw [add _ _ (by rw [mul, a1, k]; rfl) (by rw [neg, sv, eb]; omega)]; omega
          · exfalso; omega
          · rw [s_addN _ _ (by rw [mul, a1, k]; rfl) (by rw [neg, sv, eb]; omega)]; omega
        rcases Int.mul_eq_zero.mp p with p | p
        · exact p
        · exact absurd p q
  · rw [if_neg (by omega), if_pos m, show x.a * y.a + x.b * y.b * c = x.b * y.b * c + x.a * y.a by grind, dom' (x.b * y.b * c) (x.a * y.a) (m := 1) ?_ rfl, sv, eb, Int.one_mul]
    rw [show (x.b * y.b * c) * (x.b * y.b * c) - (x.a * y.a) * (x.a * y.a) = x.a * x.a * -nm y + -(y.b * y.b * c * nm x) by unfold nm; grind, s_addr0 _ _ (by rw [neg, z1]; rfl), mul, neg, mul, a1, m]; rfl
theorem mul_0 (h1 : s (nm x) = 0) : (if s (x.a * y.a + x.b * y.b * c) = s (x.a * y.b + x.b * y.a) then s (x.a * y.a + x.b * y.b * c) else 0) = (if s x.a = s x.b then s x.a else 0) * sq y := by
  have n0 : ¬ s c = 0 := by omega
  have r1 : s (x.a * y.b + x.b * y.a) * s x.a = s (x.a * y.a + x.b * y.b * c) * s x.b := by
    rw [← mul, ← mul]
    refine s_sub0 _ _ ?_
    rw [show (x.a * y.b + x.b * y.a) * x.a - (x.a * y.a + x.b * y.b * c) * x.b = y.b * nm x by unfold nm; grind, mul, h1]
    omega
  have sv : s (x.b * y.b * c) = s x.b * s y.b := by rw [mul, mul, hc, Int.mul_one]
  rcases eq_ab hc x h1 with e | e
  · rw [if_pos e]
    rcases tri x.a with a1 | a0 | a1
    · obtain ⟨p, q⟩ := mul_01 hc x y h1 a1 (by omega)
      rw [if_pos q, p, a1, Int.one_mul]
    · have b0 : s x.b = 0 := by omega
      have X0 : s (x.a * y.a + x.b * y.b * c) = 0 := by rw [add0 _ _ (by rw [mul, a0]; omega), sv, b0]; omega
      rw [X0, a0]
      split <;> omega
    · obtain ⟨p, q⟩ := mul_01 hc (-x) y (by rw [nm_neg]; exact h1) (by show s (-x.a) = 1; rw [neg, a1]; rfl) (by show s (-x.b) = 1; rw [neg, ← e, a1]; rfl)
      have p : s (-x.a * y.a + -x.b * y.b * c) = sq y := p
      have q : s (-x.a * y.a + -x.b * y.b * c) = s (-x.a * y.b + -x.b * y.a) := q
      rw [show -x.a * y.a + -x.b * y.b * c = -(x.a * y.a + x.b * y.b * c) by grind, neg] at p q
      rw [show -x.a * y.b + -x.b * y.a = -(x.a * y.b + x.b * y.a) by grind, neg] at q
      rw [if_pos (by omega), a1]
      omega
  · by_cases g : s x.a = s x.b
    · have a0 : s x.a = 0 := by omega
      have b0 : s x.b = 0 := by omega
      have X0 : s (x.a * y.a + x.b * y.b * c) = 0 := by rw [add0 _ _ (by rw [mul, a0]; omega), sv, b0]; omega
      rw [X0, a0]
      split <;> split <;> omega
    · rw [if_neg g, Int.zero_mul]
      split
      · rename_i w
        rw [← w] at r1
        rcases tri (x.a * y.a + x.b * y.b * c) with t | t | t
        · rw [t] at r1; omega
        · exact t
        · rw [t] at r1; omega
      · rfl
end
theorem sq_mul (hc : s c = 1 ∨ s c = 0) (x y : Qx c) : sq (x * y) = sq x * sq y := by
  rcases hc with hc | hc
  · have n0 : ¬ s c = 0 := by omega
    have eS : s (nm (x * y)) = s (nm x) * s (nm y) := by rw [nm_mul, mul]
    have ea : (x * y).a = x.a * y.a + x.b * y.b * c := rfl
    have eb : (x * y).b = x.a * y.b + x.b * y.a := rfl
    have go : ∀ x y : Qx c, s (nm x) = 0 → sq (x * y) = sq x * sq y := fun x y h => by
      have e2 : sq x = if s x.a = s x.b then s x.a else 0 := by unfold sq; rw [if_neg n0, if_neg (by omega), if_neg (by omega)]
      rw [e2, ← mul_0 hc x y h]
      have eS : s (nm (x * y)) = 0 := by rw [nm_mul, mul, h]; omega
      unfold sq
      rw [if_neg n0, if_neg (by omega), if_neg (by omega)]; rfl
    rcases tri (nm x) with h1 | h1 | h1
    · rcases tri (nm y) with h2 | h2 | h2
      · unfold sq
        rw [if_neg n0, if_neg n0, if_neg n0, eS, h1, h2, if_pos (by decide), if_pos rfl, if_pos rfl, ea]
        exact mul_pp hc x y h1 h2
      · rw [mulc, go y x h2, Int.mul_comm]
      · unfold sq
        rw [if_neg n0, if_neg n0, if_neg n0, eS, h1, h2, if_neg (by decide), if_pos (by decide), if_pos rfl, if_neg (by decide), if_pos rfl, eb]
        exact mul_pn hc x y h1 h2
    · exact go x y h1
    · rcases tri (nm y) with h2 | h2 | h2
      · unfold sq
        rw [if_neg n0, if_neg n0, if_neg n0, eS, h1, h2, if_neg (by decide), if_pos (by decide), if_pos rfl, if_neg (by decide), if_pos rfl, eb]
        rw [show x.a * y.b + x.b * y.a = y.a * x.b + y.b * x.a by grind, mul_pn hc y x h2 h1, Int.mul_comm]
      · rw [mulc, go y x h2, Int.mul_comm]
      · unfold sq
        rw [if_neg n0, if_neg n0, if_neg n0, eS, h1, h2, if_pos (by decide), if_neg (by decide), if_pos rfl, ea]
        exact mul_nn hc x y h1 h2
  · unfold sq
    rw [if_pos hc, if_pos hc, if_pos hc, ← mul]
    exact s_addr0 _ _ (by rw [mul, hc]; omega)
theorem sq_small (hc : s c = 1) (u v : R) (y : Qx c) (hu : s u = 0) (hv : s v = 0) : sq (⟨u, v⟩ + y) = sq y := by
  have ea : s (u + y.a) = s y.a := add0 _ _ hu
  have eb : s (v + y.b) = s y.b := add0 _ _ hv
  have en : s (nm ((⟨u, v⟩ : Qx c) + y)) = s (nm y) := by
    show s ((u + y.a) * (u + y.a) - (v + y.b) * (v + y.b) * c) = _
    unfold nm
    rw [show (u + y.a) * (u + y.a) - (v + y.b) * (v + y.b) * c = u * (u + 2 * y.a) + (-(v * ((v + 2 * y.b) * c)) + (y.a * y.a - y.b * y.b * c)) by grind, add0 _ _ (by rw [mul, hu]; omega), add0 _ _ (by rw [neg, mul, hv]; omega)]
  show (if s c = 0 then s (u + y.a) else if s (nm (⟨u, v⟩ + y)) = 1 then s (u + y.a) else if s (nm (⟨u, v⟩ + y)) = -1 then s (v + y.b) else if s (u + y.a) = s (v + y.b) then s (u + y.a) else 0) = _
  rw [ea, eb, en]
  rfl
theorem sq_null (hc : s c = 1) (z : Qx c) (h : sq z = 0) : s (nm z) = 0 ∧ s z.a = - s z.b := by
  unfold sq at h
  rw [if_neg (by omega)] at h
  rcases tri (nm z) with n | n | n
  · rw [if_pos n] at h
    have := nz_a hc z n
    omega
  · rw [if_neg (by omega), if_neg (by omega)] at h
    refine ⟨n, ?_⟩
    rcases eq_ab hc z n with e | e
    · rw [if_pos e] at h; omega
    · exact e
  · rw [if_neg (by omega), if_pos n] at h
    have := nz_b hc z n
    omega
theorem sq_add0 (hc : s c = 1 ∨ s c = 0) (z y : Qx c) (h : sq z = 0) : sq (z + y) = sq y := by
  rcases hc with hc | hc
  · obtain ⟨n, e⟩ := sq_null hc z h
    by_cases z0 : s z.b = 0
    · exact sq_small hc z.a z.b y (by omega) z0
    · have w1 : sq (⟨z.a, -z.b⟩ : Qx c) = s z.a := by
        have nn : s (nm (⟨z.a, -z.b⟩ : Qx c)) = 0 := by
          rw [← n]
          show s (z.a * z.a - (-z.b) * (-z.b) * c) = s (z.a * z.a - z.b * z.b * c)
          rw [show z.a * z.a - (-z.b) * (-z.b) * c = z.a * z.a - z.b * z.b * c by grind]
        unfold sq
        rw [if_neg (by omega), if_neg (by omega), if_neg (by omega), if_pos (show s z.a = s (-z.b) by rw [neg]; exact e)]
      have ez : (⟨z.a, -z.b⟩ : Qx c) * (z + y) = ⟨nm z, 0⟩ + (⟨z.a, -z.b⟩ : Qx c) * y := by
        apply ext'
        · show z.a * (z.a + y.a) + -z.b * (z.b + y.b) * c = (z.a * z.a - z.b * z.b * c) + (z.a * y.a + -z.b * y.b * c)
          grind
        · show z.a * (z.b + y.b) + -z.b * (z.a + y.a) = 0 + (z.a * y.b + -z.b * y.a)
          grind
      have := congrArg sq ez
      rw [sq_small hc _ _ _ n s_zero, sq_mul (.inl hc), sq_mul (.inl hc)] at this
      exact Int.eq_of_mul_eq_mul_left (by omega) this
  · unfold sq at h ⊢
    rw [if_pos hc] at h
    rw [if_pos hc, if_pos hc]
    exact add0 _ _ h
/-- above 0 -/
inductive Po (x : Qx c) : Prop
  | A (a : s x.a = 1) (n : s (nm x) = 1) : Po x
  | B (b : s x.b = 1) (n : s (nm x) = -1) : Po x
  | C (a : s x.a = 1) (b : s x.b = 1) (n : s (nm x) = 0) : Po x
theorem po_of (hc : s c = 1) (x : Qx c) (h : sq x = 1) : Po x := by
  unfold sq at h
  rw [if_neg (by omega)] at h
  rcases tri (nm x) with n | n | n
  · rw [if_pos n] at h; exact .A h n
  · rw [if_neg (by omega), if_neg (by omega)] at h
    by_cases e : s x.a = s x.b
    · rw [if_pos e] at h; exact .C h (by omega) n
    · rw [if_neg e] at h; omega
  · rw [if_neg (by omega), if_pos n] at h; exact .B h n
theorem po_sq (hc : s c = 1) (x : Qx c) (h : Po x) : sq x = 1 := by
  unfold sq
  rw [if_neg (by omega)]
  cases h with
  | A a n => rw [if_pos n]; exact a
  | B b n => rw [if_neg (by omega), if_pos n]; exact b
  | C a b n => rw [if_neg (by omega), if_neg (by omega), if_pos (by omega)]; exact a
theorem nm_add (x y : Qx c) : nm (x + y) = nm x + (nm y + 2 * (x.a * y.a + -(x.b * y.b * c))) := by
  show (x.a + y.a) * (x.a + y.a) - (x.b + y.b) * (x.b + y.b) * c = _
  unfold nm
  grind
theorem s_two_mul (u : R) : s (2 * u) = s u := by rw [mul, s_two]; omega
theorem po_AX (hc : s c = 1) {x y : Qx c} (a : s x.a = 1) (n : s (nm x) = 1) (a' : s y.a = 1) (n' : s (nm y) = 1 ∨ s (nm y) = 0) : s (x + y).a = 1 ∧ s (nm (x + y)) = 1 := by
  refine ⟨add _ _ a a', ?_⟩
  have d : s (x.a * y.a + -(x.b * y.b * c)) = 1 := by
    rw [dom' (x.a * y.a) (-(x.b * y.b * c)) (m := 1) ?_ rfl, mul, a, a']; rfl
    rw [show (x.a * y.a) * (x.a * y.a) - (-(x.b * y.b * c)) * (-(x.b * y.b * c)) = y.a * y.a * nm x + x.b * x.b * c * nm y by unfold nm; grind]
    refine s_add1 _ _ (by rw [mul, mul, a', n]; rfl) ?_
    rw [mul, mul, hc]
    rcases sgn_sq0 x.b with e | e <;> rcases n' with g | g <;> rw [e, g] <;> omega
  rw [nm_add]
  exact s_add1 _ _ n (.inl (s_add1' _ _ n' (by rw [s_two_mul]; exact d)))
theorem po_BX (hc : s c = 1) {x y : Qx c} (b : s x.b = 1) (n : s (nm x) = -1) (b' : s y.b = 1) (n' : s (nm y) = -1 ∨ s (nm y) = 0) : s (x + y).b = 1 ∧ s (nm (x + y)) = -1 := by
  refine ⟨add _ _ b b', ?_⟩
  have d : s (x.b * y.b * c + -(x.a * y.a)) = 1 := by
    rw [dom' (x.b * y.b * c) (-(x.a * y.a)) (m := 1) ?_ rfl, mul, mul, b, b', hc]; rfl
    rw [show (x.b * y.b * c) * (x.b * y.b * c) - (-(x.a * y.a)) * (-(x.a * y.a)) = y.b * y.b * c * -nm x + x.a * x.a * -nm y by unfold nm; grind]
    refine s_add1 _ _ (by rw [mul, mul, mul, b', hc, neg, n]; rfl) ?_
    rw [mul, neg]
    rcases sgn_sq0 x.a with e | e <;> rcases n' with g | g <;> rw [e, g] <;> omega
  have : s (-nm (x + y)) = 1 := by
    rw [show -nm (x + y) = -nm x + (-nm y + 2 * (x.b * y.b * c + -(x.a * y.a))) by rw [nm_add]; grind]
    exact s_add1 _ _ (by rw [neg, n]; rfl) (.inl (s_add1' _ _ (by rw [neg]; omega) (by rw [s_two_mul]; exact d)))
  rw [neg] at this
  omega
theorem po_CC (hc : s c = 1) {x y : Qx c} (a : s x.a = 1) (b : s x.b = 1) (n : s (nm x) = 0) (a' : s y.a = 1) (b' : s y.b = 1) (n' : s (nm y) = 0) : Po (x + y) := by
  refine .C (add _ _ a a') (add _ _ b b') ?_
  have d : s (x.a * y.a + -(x.b * y.b * c)) = 0 := by
    have p : s (x.a * y.a + x.b * y.b * c) * s (x.a * y.a + -(x.b * y.b * c)) = 0 := by
      rw [← mul, show (x.a * y.a + x.b * y.b * c) * (x.a * y.a + -(x.b * y.b * c)) = y.a * y.a * nm x + x.b * x.b * c * nm y by unfold nm; grind, add0 _ _ (by rw [mul, n]; omega), mul, n']; omega
    rw [add _ _ (by rw [mul, a, a']; rfl) (by rw [mul, mul, b, b', hc]; rfl)] at p
    omega
  rw [nm_add, add0 _ _ n, add0 _ _ n', s_two_mul]
  exact d
theorem addc (x y : Qx c) : x + y = y + x := by grind
theorem sq_add (hc : s c = 1 ∨ s c = 0) (x y : Qx c) (hx : sq x = 1) (hy : sq y = 1) : sq (x + y) = 1 := by
  rcases hc with hc | hc
  · have go : ∀ x y : Qx c, s x.a = 1 → s (nm x) = 1 → s y.b = 1 → s (nm y) = -1 → sq x = 1 → sq y = 1 → sq (x + y) = 1 := fun x y a n b m hx hy => by
      rcases sq_tri (x + y) with h | h | h
      · exact h
      · exfalso
        have h' : sq (-(x + y)) = 0 := by rw [sq_neg, h]; rfl
        have := sq_add0 (.inl hc) _ x h'
        rw [show -(x + y) + x = -y by grind, sq_neg] at this
        omega
      · exfalso
        have h' : sq (-(x + y)) = 1 := by rw [sq_neg, h]; rfl
        have e1 : -(x + y) + x = -y := by grind
        have e2 : -(x + y) + y = -x := by grind
        cases po_of hc _ h' with
        | A a' n' =>
          have := (po_AX hc a' n' a (.inl n)).2
          rw [e1, nm_neg] at this; omega
        | B b' n' =>
          have := (po_BX hc b' n' b (.inl m)).2
          rw [e2, nm_neg] at this; omega
        | C a' b' n' =>
          have := (po_AX hc a n a' (.inr n')).2
          rw [addc, e1, nm_neg] at this; omega
    cases po_of hc x hx with
    | A a n =>
      cases po_of hc y hy with
      | A a' n' => obtain ⟨p, q⟩ := po_AX hc a n a' (.inl n'); exact po_sq hc _ (.A p q)
      | B b' n' => exact go x y a n b' n' hx hy
      | C a' b' n' => obtain ⟨p, q⟩ := po_AX hc a n a' (.inr n'); exact po_sq hc _ (.A p q)
    | B b n =>
      cases po_of hc y hy with
      | A a' n' => rw [addc]; exact go y x a' n' b n hy hx
      | B b' n' => obtain ⟨p, q⟩ := po_BX hc b n b' (.inl n'); exact po_sq hc _ (.B p q)
      | C a' b' n' => obtain ⟨p, q⟩ := po_BX hc b n b' (.inr n'); exact po_sq hc _ (.B p q)
    | C a b n =>
      rw [addc]
      cases po_of hc y hy with
      | A a' n' => obtain ⟨p, q⟩ := po_AX hc a' n' a (.inr n); exact po_sq hc _ (.A p q)
      | B b' n' => obtain ⟨p, q⟩ := po_BX hc b' n' b (.inr n); exact po_sq hc _ (.B p q)
      | C a' b' n' => exact po_sq hc _ (po_CC hc a' b' n' a b n)
  · unfold sq at hx hy ⊢
    rw [if_pos hc] at hx hy ⊢
    exact add _ _ hx hy
theorem sq_one : sq (1 : Qx c) = 1 := by
  have e1 : (1 : Qx c).a = 1 := rfl
  have e2 : (1 : Qx c).b = 0 := rfl
  unfold sq
  rw [e1, e2, show nm (1 : Qx c) = 1 by unfold nm; rw [e1, e2]; grind, one]
  repeat' split
  all_goals first | rfl | omega
def sg (hc : s c = 1 ∨ s c = 0) : SgR (Qx c) := ⟨sq, sq_tri, sq_neg, sq_mul hc, sq_one, sq_add hc, sq_add0 hc⟩
end
end Qx
end Sg

/-! ## numbers with roots in order -/
namespace Or
 open Sg Sg.SgR Sg.Qx
instance sgI : SgR Int where
  s := sg
  tri a := by rcases sg_c a with ⟨_, h⟩ | ⟨_, h⟩ | ⟨_, h⟩ <;> omega
  neg a := by rcases sg_c a with ⟨z, h⟩ | ⟨z, h⟩ | ⟨z, h⟩ <;> rcases sg_c (-a) with ⟨w, g⟩ | ⟨w, g⟩ | ⟨w, g⟩ <;> omega
  mul a b := sg_mul a b
  one := rfl
  add a b ha hb := by
    rcases sg_c a with ⟨z, h⟩ | ⟨z, h⟩ | ⟨z, h⟩ <;> rcases sg_c b with ⟨w, g⟩ | ⟨w, g⟩ | ⟨w, g⟩ <;> first | exact sg_p (by omega) | omega
  add0 a b ha := by
    rcases sg_c a with ⟨z, h⟩ | ⟨z, h⟩ | ⟨z, h⟩
    · omega
    · rw [z, Int.zero_add]
    · omega
theorem sI (a : Int) : s a = sg a := rfl
/-- the sign of one + times * root of inner + again * root of other, as programs tell it -/
def swrs (x y d z c : Int) : Int := if swr x y d = sg z * sg c ∨ sg z * sg c = 0 then swr x y d else if swr x y d = 0 then sg z * sg c else swr x y d * swr (x * x + y * y * d - z * z * c) (2 * x * y) d
theorem Bd.swrs (x y d z c : Int) : Bd 8 (swrs x y d z c) := by
  unfold Or.swrs
  split
  · exact (Bd.swr _ _ _).mono (by decide)
  · split
    · exact ((Bd.sg z).mul (Bd.sg c)).mono (by decide)
    · exact ((Bd.swr _ _ _).mul (Bd.swr _ _ _)).mono (by decide)
section
variable {R : Type} [Lean.Grind.CommRing R] [SgR R]
/-- the sign of a sum by the signs of its parts and of the difference of their squares -/
theorem s_sum (u v : R) : s (u + v) = if s u = s v ∨ s v = 0 then s u else if s u = 0 then s v else s u * s (u * u - v * v) := by
  split
  · rename_i h
    rcases h with h | h
    · rcases tri u with e | e | e
      · rw [e, add _ _ e (by omega)]
      · rw [e, add0 _ _ e]; omega
      · rw [e, s_addN _ _ e (by omega)]
    · exact s_addr0 _ _ h
  · rename_i h
    split
    · rename_i e
      exact add0 _ _ e
    · rename_i e
      have hv : s (-v) = s u := by
        rw [neg]
        rcases tri u with a | a | a <;> rcases tri v with b | b | b <;> omega
      have h2 : s (u - v) = s u := by
        rw [show u - v = u + -v by grind]
        rcases tri u with a | a | a
        · rw [a, add _ _ a (by omega)]
        · omega
        · rw [a, s_addN _ _ a (by omega)]
      rw [show u * u - v * v = (u + v) * (u - v) by grind, mul, h2]
      rcases tri u with a | a | a <;> rw [a] <;> omega
end
theorem d_ok {d : Int} (h : 0 ≤ d) : s d = 1 ∨ s d = 0 := by
  rcases sg_c d with ⟨z, e⟩ | ⟨z, e⟩ | ⟨z, e⟩
  · exact .inl e
  · exact .inr e
  · omega
/-- the ring with both roots -/
abbrev R1 (d : Int) := Qx d
abbrev up {d : Int} (c : Int) : R1 d := ⟨c, 0⟩
abbrev T (d c : Int) := Qx (up c : R1 d)
theorem nm_up {d : Int} (c : Int) : nm (up c : R1 d) = c * c := by show c * c - 0 * 0 * d = c * c; grind
theorem sq_up {d : Int} (c : Int) : sq (up c : R1 d) = sg c := by
  unfold sq
  rw [nm_up]
  rcases sg_c c with ⟨z, e⟩ | ⟨z, e⟩ | ⟨z, e⟩
  all_goals simp only [sI, sg_mul, e, sg_z]
  all_goals repeat' split
  all_goals omega
section
variable {d c : Int}
def I1 (hd : 0 ≤ d) : SgR (R1 d) := Qx.sg (d_ok hd)
theorem c_ok (hd : 0 ≤ d) (hc : 0 ≤ c) : (I1 hd).s (up c : R1 d) = 1 ∨ (I1 hd).s (up c : R1 d) = 0 := by
  show sq (up c : R1 d) = 1 ∨ sq (up c : R1 d) = 0
  rw [sq_up]; exact d_ok hc
def I2 (hd : 0 ≤ d) (hc : 0 ≤ c) : SgR (T d c) := @Qx.sg _ _ (up c) (I1 hd) (c_ok hd hc)
/-- an integer, the roots -/
def ii (x : Int) : T d c := ⟨⟨x, 0⟩, ⟨0, 0⟩⟩
def rd : T d c := ⟨⟨0, 1⟩, ⟨0, 0⟩⟩
def rc : T d c := ⟨⟨0, 0⟩, ⟨1, 0⟩⟩
theorem x2 {x y : T d c} (h1 : x.a.a = y.a.a) (h2 : x.a.b = y.a.b) (h3 : x.b.a = y.b.a) (h4 : x.b.b = y.b.b) : x = y := ext' (ext' h1 h2) (ext' h3 h4)
theorem add_p (x y : T d c) : (x + y).a.a = x.a.a + y.a.a ∧ (x + y).a.b = x.a.b + y.a.b ∧ (x + y).b.a = x.b.a + y.b.a ∧ (x + y).b.b = x.b.b + y.b.b := ⟨rfl, rfl, rfl, rfl⟩
theorem mul_p (x y : T d c) : (x * y).a.a = x.a.a * y.a.a + x.a.b * y.a.b * d + ((x.b.a * y.b.a + x.b.b * y.b.b * d) * c + (x.b.a * y.b.b + x.b.b * y.b.a) * 0 * d) ∧ (x * y).a.b = x.a.a * y.a.b + x.a.b * y.a.a + ((x.b.a * y.b.a + x.b.b * y.b.b * d) * 0 + (x.b.a * y.b.b + x.b.b * y.b.a) * c) ∧
    (x * y).b.a = x.a.a * y.b.a + x.a.b * y.b.b * d + (x.b.a * y.a.a + x.b.b * y.a.b * d) ∧ (x * y).b.b = x.a.a * y.b.b + x.a.b * y.b.a + (x.b.a * y.a.b + x.b.b * y.a.a) := ⟨rfl, rfl, rfl, rfl⟩
theorem ii_add (x y : Int) : (ii (x + y) : T d c) = ii x + ii y := by apply x2 <;> simp only [add_p, ii] <;> omega
theorem ii_mul (x y : Int) : (ii (x * y) : T d c) = ii x * ii y := by apply x2 <;> (simp only [mul_p, ii]; grind)
theorem ii_neg (x : Int) : (ii (-x) : T d c) = -ii x := by
  apply x2
  · rfl
  · show (0 : Int) = -0; rfl
  · show (0 : Int) = -0; rfl
  · show (0 : Int) = -0; rfl
theorem ii_sub (x y : Int) : (ii (x - y) : T d c) = ii x - ii y := by
  rw [show x - y = x + -y by omega, ii_add, ii_neg]; grind
theorem rd2 : (rd * rd : T d c) = ii d := by apply x2 <;> (simp only [mul_p, rd, ii]; grind)
theorem rc2 : (rc * rc : T d c) = ii c := by apply x2 <;> (simp only [mul_p, rc, ii]; grind)
end
theorem sq_base {R : Type} [Lean.Grind.CommRing R] [SgR R] {c : R} (r : R) : sq (⟨r, 0⟩ : Qx c) = s r := by
  unfold sq
  rw [show nm (⟨r, 0⟩ : Qx c) = r * r by show r * r - 0 * 0 * c = r * r; grind, mul, s_zero]
  rcases tri r with e | e | e <;> simp only [e] <;> repeat' split
  all_goals omega
section
variable {d c : Int} (hd : 0 ≤ d) (hc : 0 ≤ c)
theorem s_ii (x : Int) : (I2 hd hc).s (ii x : T d c) = sg x := (@sq_base _ _ (I1 hd) (up c) ⟨x, 0⟩).trans (sq_base (c := d) x)
theorem s_rd : (I2 hd hc).s (rd : T d c) = sg d := by
  refine (@sq_base _ _ (I1 hd) (up c) ⟨0, 1⟩).trans ?_
  show sq (⟨0, 1⟩ : Qx d) = sg d
  unfold sq
  have e : nm (⟨0, 1⟩ : Qx d) = -d := by show 0 * 0 - 1 * 1 * d = -d; omega
  rw [e]
  rcases sg_c d with ⟨z, h⟩ | ⟨z, h⟩ | ⟨z, h⟩
  · rw [sI, h, show s (-d) = -1 from sg_n (by omega)]; rfl
  · rw [sI, h, if_pos rfl]; rfl
  · omega
theorem s_rc : (I2 hd hc).s (rc : T d c) = sg c := by
  letI := I1 hd
  show sq (⟨⟨0, 0⟩, ⟨1, 0⟩⟩ : T d c) = sg c
  have e : nm (⟨⟨0, 0⟩, ⟨1, 0⟩⟩ : T d c) = -(up c) := by
    show (⟨0, 0⟩ : R1 d) * ⟨0, 0⟩ - (⟨1, 0⟩ : R1 d) * ⟨1, 0⟩ * ⟨c, 0⟩ = -⟨c, 0⟩
    apply ext'
    · show 0 * 0 + 0 * 0 * d - ((1 * 1 + 0 * 0 * d) * c + (1 * 0 + 0 * 1) * 0 * d) = -c
      grind
    · show 0 * 0 + 0 * 0 - ((1 * 1 + 0 * 0 * d) * 0 + (1 * 0 + 0 * 1) * c) = -0
      grind
  have h0 : s (up c : R1 d) = sg c := sq_up c
  have h1 : s (⟨1, 0⟩ : R1 d) = 1 := sq_base (c := d) (1 : Int)
  have h2 : s (⟨0, 0⟩ : R1 d) = 0 := sq_base (c := d) (0 : Int)
  unfold sq
  rw [e, neg, h0]
  show (if sg c = 0 then s (⟨0, 0⟩ : R1 d) else if -sg c = 1 then s (⟨0, 0⟩ : R1 d) else if -sg c = -1 then s (⟨1, 0⟩ : R1 d) else if s (⟨0, 0⟩ : R1 d) = s (⟨1, 0⟩ : R1 d) then s (⟨0, 0⟩ : R1 d) else 0) = sg c
  rw [h1, h2]
  rcases sg_c c with ⟨z, h⟩ | ⟨z, h⟩ | ⟨z, h⟩
  · rw [h]; rfl
  · rw [h]; rfl
  · omega
theorem s_d (x y : Int) : (I2 hd hc).s (ii x + ii y * rd : T d c) = swr x y d := by
  letI := I2 hd hc
  have e : (ii x : T d c) * ii x - ii y * rd * (ii y * rd) = ii (x * x - y * y * d) := by
    rw [ii_sub, ii_mul, ii_mul, ii_mul, ← rd2]; grind
  have := s_sum (ii x : T d c) (ii y * rd)
  rw [e, mul, show s (ii x : T d c) = sg x from s_ii hd hc x, show s (ii y : T d c) = sg y from s_ii hd hc y, show s (rd : T d c) = sg d from s_rd hd hc, show s (ii (x * x - y * y * d) : T d c) = _ from s_ii hd hc _] at this
  exact this
theorem s_c (x z : Int) : (I2 hd hc).s (ii x + ii z * rc : T d c) = swr x z c := by
  letI := I2 hd hc
  have e : (ii x : T d c) * ii x - ii z * rc * (ii z * rc) = ii (x * x - z * z * c) := by
    rw [ii_sub, ii_mul, ii_mul, ii_mul, ← rc2]; grind
  have := s_sum (ii x : T d c) (ii z * rc)
  rw [e, mul, show s (ii x : T d c) = sg x from s_ii hd hc x, show s (ii z : T d c) = sg z from s_ii hd hc z, show s (rc : T d c) = sg c from s_rc hd hc, show s (ii (x * x - z * z * c) : T d c) = _ from s_ii hd hc _] at this
  exact this
theorem s_dc (x y z : Int) : (I2 hd hc).s (ii x + ii y * rd + ii z * rc : T d c) = swrs x y d z c := by
  letI := I2 hd hc
  have e : (ii x + ii y * rd : T d c) * (ii x + ii y * rd) - ii z * rc * (ii z * rc) = ii (x * x + y * y * d - z * z * c) + ii (2 * x * y) * rd := by
    rw [ii_sub, ii_add, ii_mul, ii_mul, ii_mul, ii_mul, ii_mul, ii_mul, ii_mul, ← rc2, ← rd2, show (ii 2 : T d c) = 2 from rfl]; grind
  have := s_sum (ii x + ii y * rd : T d c) (ii z * rc)
  rw [e, mul, show s (ii x + ii y * rd : T d c) = swr x y d from s_d hd hc x y, show s (ii z : T d c) = sg z from s_ii hd hc z, show s (rc : T d c) = sg c from s_rc hd hc, show s (ii (x * x + y * y * d - z * z * c) + ii (2 * x * y) * rd : T d c) = _ from s_d hd hc _ _] at this
  exact this
theorem s_cd (x y z : Int) : (I2 hd hc).s (ii x + ii y * rd + ii z * rc : T d c) = swrs x z c y d := by
  letI := I2 hd hc
  have e : (ii x + ii z * rc : T d c) * (ii x + ii z * rc) - ii y * rd * (ii y * rd) = ii (x * x + z * z * c - y * y * d) + ii (2 * x * z) * rc := by
    rw [ii_sub, ii_add, ii_mul, ii_mul, ii_mul, ii_mul, ii_mul, ii_mul, ii_mul, ← rc2, ← rd2, show (ii 2 : T d c) = 2 from rfl]; grind
  have := s_sum (ii x + ii z * rc : T d c) (ii y * rd)
  rw [e, mul, show s (ii x + ii z * rc : T d c) = swr x z c from s_c hd hc x z, show s (ii y : T d c) = sg y from s_ii hd hc y, show s (rd : T d c) = sg d from s_rd hd hc, show s (ii (x * x + z * z * c - y * y * d) + ii (2 * x * z) * rc : T d c) = _ from s_c hd hc _ _] at this
  rw [show (ii x + ii y * rd + ii z * rc : T d c) = ii x + ii z * rc + ii y * rd by grind]
  exact this
theorem null_c {t : Int} (t0 : 0 ≤ t) (ht : t * t = c) : (I2 hd hc).s (rc - ii t : T d c) = 0 := by
  letI := I2 hd hc
  have p : s ((rc + ii t) * (rc - ii t) : T d c) = 0 := by
    rw [show (rc + ii t) * (rc - ii t) = (ii (c - t * t) : T d c) by rw [ii_sub, ii_mul, ← rc2]; grind, show s (ii (c - t * t) : T d c) = _ from s_ii hd hc _, show c - t * t = 0 by omega]; rfl
  rw [mul] at p
  by_cases h : t = 0
  · rw [h] at ht ⊢
    rw [show (rc - ii 0 : T d c) = rc by apply x2 <;> rfl]
    rw [show s (rc : T d c) = _ from s_rc hd hc, ← ht]; rfl
  · have h1 : s (rc + ii t : T d c) = 1 := add _ _ (by rw [show s (rc : T d c) = _ from s_rc hd hc]; exact sg_p (by have := Int.mul_pos (show 0 < t by omega) (show 0 < t by omega); omega)) (by rw [show s (ii t : T d c) = _ from s_ii hd hc t]; exact sg_p (by omega))
    rw [h1] at p
    omega
theorem repl_c {t : Int} (t0 : 0 ≤ t) (ht : t * t = c) (x y : T d c) : (I2 hd hc).s (x + y * rc) = (I2 hd hc).s (x + y * ii t) := by
  letI := I2 hd hc
  rw [show x + y * rc = y * (rc - ii t) + (x + y * ii t) by grind]
  exact add0 _ _ (by rw [mul, show s (rc - ii t : T d c) = _ from null_c hd hc t0 ht, Int.mul_zero])
include hd hc in
theorem swrs_symm (x y z : Int) : swrs x y d z c = swrs x z c y d := (s_dc hd hc x y z).symm.trans (s_cd hd hc x y z)
include hd hc in
theorem swrs_sqc {t : Int} (t0 : 0 ≤ t) (ht : t * t = c) (x y z : Int) : swrs x y d z c = swr (x + z * t) y d := by
  rw [← s_dc hd hc, repl_c hd hc t0 ht, ← ii_mul, show (ii x + ii y * rd + ii (z * t) : T d c) = ii (x + z * t) + ii y * rd by rw [ii_add]; grind]
  exact s_d hd hc _ _
include hd in
theorem swr_sq {t : Int} (t0 : 0 ≤ t) (ht : t * t = d) (x y : Int) : swr x y d = sg (x + y * t) := by
  have h := swrs_sqc (d := 0) (c := d) (by decide) hd t0 ht x 0 y
  have h2 := swrs_symm (d := 0) (c := d) (by decide) hd x 0 y
  have e1 : swrs x y d 0 0 = swr x y d := by unfold swrs; rw [if_pos (.inr (by rw [sg_z]; rfl))]
  have e2 : swr (x + y * t) 0 0 = sg (x + y * t) := by unfold swr; rw [if_pos (.inr (by rw [sg_z]; rfl))]
  rw [← e1, ← h2, h, e2]
end
theorem swr_0 (x d : Int) : swr x 0 d = sg x := by unfold swr; rw [if_pos (.inr (by rw [sg_z, Int.zero_mul]))]
end Or
open Or

/-! ## places in order -/
namespace Or
 open K10
/-- the sign of the difference of two places -/
def cmp4 (A B C s : Int) : List Int → Int
  | [u, v] => swr ((0 - B) * v - u * (2 * A)) (s * v) (B * B - 4 * A * C)
  | [a, b, c, t] => swrs ((0 - B) * (2 * a) - (0 - b) * (2 * A)) (s * (2 * a)) (B * B - 4 * A * C) (0 - t * (2 * A)) (b * b - 4 * a * c)
  | _ => 0
def cmpPl : List Int → List Int → Int
  | [x, y], [u, v] => sg (x * v - u * y)
  | [A, B, C, s], pl => cmp4 A B C s pl
  | [x, y], [a, b, c, t] => 0 - cmp4 a b c t [x, y]
  | _, _ => 0
/-- four numbers (p + q * root of d) / r -/
structure G4 where
  p : Int
  q : Int
  d : Int
  r : Int
def gap (g h : G4) : Int := swrs (g.p * h.r - h.p * g.r) (g.q * h.r) g.d (0 - h.q * g.r) h.d
/-- a place is the one of four numbers -/
inductive Rep (g : G4) : List Int → Prop
  | two {x y t : Int} (d0 : 0 ≤ g.d) (r0 : 0 < g.r) (t0 : 0 ≤ t) (ht : g.q = 0 ∨ t * t = g.d) (y0 : 0 ≤ y) (x0 : 0 ≤ x) (y1 : 0 < y) (e : (g.p + g.q * t) * y = x * g.r) (co : Int.gcd x y = 1) : Rep g [x, y]
  | four {A B C f s : Int} (d0 : 0 ≤ g.d) (r0 : 0 < g.r) (q0 : g.q ≠ 0) (dn : ¬ isq g.d) (h : Red (g.r * g.r) (-2 * g.p * g.r) (g.p * g.p - g.q * g.q * g.d) A B C f) (hs : s = sg g.q) : Rep g [A, B, C, s]
theorem red_A {g : G4} {A B C f : Int} (r0 : 0 < g.r) (h : Red (g.r * g.r) (-2 * g.p * g.r) (g.p * g.p - g.q * g.q * g.d) A B C f) : 0 < A := by
  have rr : 0 < g.r * g.r := Int.mul_pos r0 r0
  exact Int.pos_of_mul_pos_right (by rw [h.ha]; exact rr) h.f0 |> fun h => h
theorem red_D {g : G4} {A B C f : Int} (h : Red (g.r * g.r) (-2 * g.p * g.r) (g.p * g.p - g.q * g.q * g.d) A B C f) : f * f * (B * B - 4 * A * C) = 4 * (g.q * g.q) * (g.r * g.r) * g.d := by
  have : f * f * (B * B - 4 * A * C) = (f * B) * (f * B) - 4 * (f * A) * (f * C) := by grind
  rw [this, h.ha, h.hb, h.hc]; grind
theorem nsq_pos {d : Int} (d0 : 0 ≤ d) (dn : ¬ isq d) : 0 < d := by
  rcases Int.lt_or_eq_of_le d0 with h | h
  · exact h
  · exact absurd ⟨0, by decide, by rw [← h]; rfl⟩ dn
theorem red_Dp {g : G4} {A B C f : Int} (r0 : 0 < g.r) (d0 : 0 ≤ g.d) (q0 : g.q ≠ 0) (dn : ¬ isq g.d) (h : Red (g.r * g.r) (-2 * g.p * g.r) (g.p * g.p - g.q * g.q * g.d) A B C f) : 0 < B * B - 4 * A * C := by
  have ff : 0 < f * f := Int.mul_pos h.f0 h.f0
  have e := red_D h
  have : 0 < f * f * (B * B - 4 * A * C) := by
    rw [e]
    have h1 := K15.sq_pos q0
    have h2 := Int.mul_pos r0 r0
    exact Int.mul_pos (Int.mul_pos (by omega) h2) (nsq_pos d0 dn)
  exact Int.pos_of_mul_pos_right this ff |> fun h => h
theorem prim_un {m n A B C a b c : Int} (m0 : 0 < m) (n0 : 0 < n) (h1 : m * A = n * a) (h2 : m * B = n * b) (h3 : m * C = n * c) (g : Int.gcd (Int.gcd A B) C = 1) (g' : Int.gcd (Int.gcd a b) c = 1) : A = a ∧ B = b ∧ C = c := by
  have e1 : Int.gcd (Int.gcd (m * A) (m * B)) (m * C) = m.natAbs := by
    rw [Int.gcd_mul_left, Int.natCast_mul, show ((m.natAbs : Nat) : Int) = m by omega, Int.gcd_mul_left, g, Nat.mul_one]
  have e2 : Int.gcd (Int.gcd (n * a) (n * b)) (n * c) = n.natAbs := by
    rw [Int.gcd_mul_left, Int.natCast_mul, show ((n.natAbs : Nat) : Int) = n by omega, Int.gcd_mul_left, g', Nat.mul_one]
  have e : m = n := by
    rw [h1, h2, h3, e2] at e1
    omega
  subst e
  exact ⟨K15.mul_can' (by omega) h1, K15.mul_can' (by omega) h2, K15.mul_can' (by omega) h3⟩
theorem frac_un {x y u v : Int} (y0 : 0 < y) (v0 : 0 < v) (g : Int.gcd x y = 1) (g' : Int.gcd u v = 1) (e : x * v = u * y) : x = u ∧ y = v := by
  have dv : ∀ x y v : Int, Int.gcd x y = 1 → y ∣ x * v → y ∣ v := fun x y v g h => by
    have h1 := Int.natAbs_dvd_natAbs.mpr h
    rw [Int.natAbs_mul] at h1
    exact Int.natAbs_dvd_natAbs.mp (Nat.Coprime.dvd_of_dvd_mul_left (show Nat.Coprime y.natAbs x.natAbs by rw [Nat.coprime_comm]; exact g) h1)
  have d1 : y ∣ v := dv x y v g (by rw [e]; exact Int.dvd_mul_left _ _)
  have d2 : v ∣ y := dv u v y g' (by rw [← e]; exact Int.dvd_mul_left _ _)
  have e1 : y = v := Int.dvd_antisymm (by omega) (by omega) d1 d2
  subst e1
  exact ⟨Int.eq_of_mul_eq_mul_right (by omega) e, rfl⟩
end Or

/-! ## edges in order -/
namespace Eo
open Or
def sp_swrs : Sp := fun vs H Q _ => ∃ x y d z c : Int, vs = [.int x, .int y, .int d, .int z, .int c] ∧ (Bd 190 x ∧ Bd 100 y ∧ Bd 190 d ∧ Bd 100 z ∧ Bd 190 c) ∧ Q (.int (swrs x y d z c)) H
inductive PlO : List Int → Prop
  | two {x y : Int} (bx : Bd 90 x) (b_y : Bd 90 y) : PlO [x, y]
  | four {A B C s : Int} (ba : Bd 90 A) (bb : Bd 90 B) (bc : Bd 90 C) (bs : Bd 4 s) : PlO [A, B, C, s]
def sp_cmp4 (K : PySem.W.Frag) : Sp := fun vs H Q _ => ∃ (p q : Addr) (A B C s : Int) (pl : List Int), vs = [.ref p, .ref q] ∧ H p = some (.tup [.int A, .int B, .int C, .int s]) ∧ H q = some (.tup (pl.map V.int)) ∧ PlO [A, B, C, s] ∧ PlO pl ∧ ∀ H', Same H H' → Q (.int (cmp4 A B C s pl)) H'
def sp_cmp (K : PySem.W.Frag) : Sp := fun vs H Q _ => ∃ (p q : Addr) (pl pl' : List Int), vs = [.ref p, .ref q] ∧ H p = some (.tup (pl.map V.int)) ∧ H q = some (.tup (pl'.map V.int)) ∧ PlO pl ∧ PlO pl' ∧ ∀ H', Same H H' → Q (.int (cmpPl pl pl')) H'
def sp_ecmp (CE : Addr) (r : Int → Bool) : Sp := fun vs H Q _ => ∃ (e g : Addr) (pl pl' : List Int), vs = [.ref e, .ref g] ∧ EdgeAt CE H e pl ∧ EdgeAt CE H g pl' ∧ PlO pl ∧ PlO pl' ∧ ∀ H', Same H H' → Q (.bl (r (cmpPl pl pl'))) H'
theorem D_bd {A B C : Int} (ba : Bd 90 A) (bb : Bd 90 B) (bc : Bd 90 C) : Bd 190 (B * B - 4 * A * C) := ((bb.mul bb).sub (((show Bd 3 4 from (show Int.natAbs 4 < 2 ^ 3 by decide)).mul ba).mul bc)).mono (by decide)
theorem two_bd {A : Int} {n : Nat} (ba : Bd n A) : Bd (n + 2) (2 * A) := ((show Bd 2 2 from (show Int.natAbs 2 < 2 ^ 2 by decide)).mul ba).mono (by omega)
theorem neg_bd {A : Int} {n : Nat} (ba : Bd n A) : Bd n (0 - A) := by unfold Bd at *; omega
end Eo
open Or Eo
section
variable {P : Program} {w : World} {K : PySem.W.Frag} {mg : Str → Option Value} {base : Heap}
theorem ok_swrs {f : Addr} {fd : FuncData} (F : Fun K "sign_with_roots" "sign_with_roots" S_sign_with_roots f fd) (T : Txt K mg) (C_sign : FnC P w K mg base CX0 1 "sign_of" ["number"] sp_sign) (C_swr : FnC P w K mg base CX0 2 "sign_with_root" ["one", "times", "inner"] sp_swr) : FnOk P w K mg base CX0 3 f fd ["one", "times", "inner", "again", "other"] sp_swrs := by
  refine F.ok SC_sign_with_roots (fun vs H Q E h => ?_) (fun cdv A outer s H vs Q E hr h => ?_)
  · obtain ⟨x, y, d, z, c, rfl, _⟩ := h
    rfl
  · obtain ⟨x, y, d, z, c, rfl, ⟨bx, b_y, bd, bz, bc⟩, q⟩ := h
    refine ⟨_, (pss_cons (ps_par (i := 5) (j := 6) (by rfl) SC_sign_with_roots.nd rfl rfl (by decide) rfl rfl (pa_cons (pe_callC C_swr (hr.mono (by decide)) rfl (pa_cons (pv 0) (pa_cons (pv 1) (pa_cons (pv 2) pa_nil)))) (pa_cons (pe_op op_mulW (pe_callC C_sign (hr.mono (by decide)) rfl (pa_cons (pv 3) pa_nil)) (pe_callC C_sign (hr.mono (by decide)) rfl (pa_cons (pv 4) pa_nil))) pa_nil)) (by rfl))
      (pss_cons (ps_if (PW.pt (pw_or (pt_cmpR op_eq (pv 5) (pv 6) (nomark _)) (pw_or1 (pt_cmpR op_eq (pv 6) pe_int (nomark _))))) (pss_one (ps_ret (pv 5))) pss_nil)
      (pss_cons (ps_if (pt_cmpR op_eq (pv 5) pe_int (nomark _)) (pss_one (ps_ret (pv 6))) pss_nil)
      (pss_cons (ps_set (i := 7) SC_sign_with_roots.nd rfl (.inl rfl) (pe_op op_sub (pe_op op_add (pe_op op_mulW (pv 0) (pv 0)) (pe_op op_mulW (pe_op op_mulW (pv 1) (pv 1)) (pv 2))) (pe_op op_mulW (pe_op op_mulW (pv 3) (pv 3)) (pv 4))))
      (pss_nrm (pss_one (ps_ret (pe_op op_mulW (pv 5) (pe_callC C_swr (hr.mono (by decide)) rfl (pa_cons (pv 7) (pa_cons (pe_op op_mulW (pe_op op_mulW pe_int (pv 0)) (pv 1)) (pa_cons (pv 2) pa_nil)))))))))))), ?_⟩
    unfold swrs at q
    walk_at "kw"
    refine ite2 (fun h => ?_) (fun h => ?_)
    · rw [if_pos (.inl (V.int.inj (of_decide_eq_true h)))] at q
      exact ⟨_, rfl, q⟩
    have n1 : ¬ swr x y d = sg z * sg c := fun e => h (decide_eq_true (congrArg V.int e))
    walk_at "kw"
    refine ite2 (fun h => ?_) (fun h => ?_)
    · rw [if_pos (.inr (V.int.inj (of_decide_eq_true h)))] at q
      exact ⟨_, rfl, q⟩
    have n2 : ¬ sg z * sg c = 0 := fun e => h (decide_eq_true (congrArg V.int e))
    rw [if_neg (fun z => z.elim n1 n2)] at q
    walk_at "kw"
    refine ite2 (fun h => ?_) (fun h => ?_)
    · rw [if_pos (V.int.inj (of_decide_eq_true h))] at q
      exact ⟨_, rfl, q⟩
    rw [if_neg (fun e => h (decide_eq_true (congrArg V.int e)))] at q
    have k1 : Bd 400 (x * x + y * y * d - z * z * c) := (((bx.mul bx).add ((b_y.mul b_y).mul bd)).sub ((bz.mul bz).mul bc)).mono (by decide)
    have k2 : Bd 400 (2 * x * y) := ((two_bd bx).mul b_y).mono (by decide)
    have k3 : Bd 400 d := bd.mono (by decide)
    walk_at "kw"
    exact q
theorem ok_cmp4 {f : Addr} {fd : FuncData} (F : Fun K "compared" "compared" S_compared f fd) (T : Txt K mg) (C_sign : FnC P w K mg base CX0 1 "sign_of" ["number"] sp_sign) (C_swr : FnC P w K mg base CX0 2 "sign_with_root" ["one", "times", "inner"] sp_swr) (C_swrs : FnC P w K mg base CX0 3 "sign_with_roots" ["one", "times", "inner", "again", "other"] sp_swrs) (C_inner : FnC P w K mg base CX0 1 "inner_of" ["root"] (sp_inner K)) : FnOk P w K mg base CX0 4 f fd ["one", "other"] (sp_cmp4 K) := by
  refine F.ok SC_compared (fun vs H Q E h => ?_) (fun cdv A outer s H vs Q E hr h => ?_)
  · obtain ⟨p, q, A, B, C, s, pl, rfl, _⟩ := h
    rfl
  · obtain ⟨p, q, A, B, C, sd, pl, rfl, hp, hq, ho, ho', k⟩ := h
    refine ⟨_, (pss_cons (ps_if (PW.pt (pw_and (pt_cmpR op_eq (pe_callB call_len_seq (by rfl) T.b_len (by decide +kernel) (pa_cons (pv 0) pa_nil)) pe_int (nomark _)) (pw_and1 (pt_cmpR op_eq (pe_callB call_len_seq (by rfl) T.b_len (by decide +kernel) (pa_cons (pv 1) pa_nil)) pe_int (nomark _))))) (pss_one (ps_ret (pe_callC C_sign (hr.mono (by decide)) rfl (pa_cons (pe_op op_sub (pe_op op_mulW (pe_ix ix_tup (pv 0) pe_int (fun _ _ => rfl)) (pe_ix ix_tup (pv 1) pe_int (fun _ _ => rfl))) (pe_op op_mulW (pe_ix ix_tup (pv 1) pe_int (fun _ _ => rfl)) (pe_ix ix_tup (pv 0) pe_int (fun _ _ => rfl)))) pa_nil)))) pss_nil)
      (pss_cons (ps_if (pt_cmpR op_eq (pe_callB call_len_seq (by rfl) T.b_len (by decide +kernel) (pa_cons (pv 0) pa_nil)) pe_int (nomark _)) (pss_one (ps_ret (pe_op op_sub pe_int pe_never))) pss_nil)
      (pss_cons (ps_par (i := 2) (j := 3) (by rfl) SC_compared.nd rfl rfl (by decide) rfl rfl (pa_cons (pe_op op_sub pe_int (pe_ix ix_tup (pv 0) pe_int (fun _ _ => rfl))) (pa_cons (pe_op op_mulW pe_int (pe_ix ix_tup (pv 0) pe_int (fun _ _ => rfl))) pa_nil)) (by rfl))
      (pss_cons (ps_if (pt_cmpR op_eq (pe_callB call_len_seq (by rfl) T.b_len (by decide +kernel) (pa_cons (pv 1) pa_nil)) pe_int (nomark _)) (pss_one (ps_ret (pe_callC C_swr (hr.mono (by decide)) rfl (pa_cons (pe_op op_sub (pe_op op_mulW (pv 2) (pe_ix ix_tup (pv 1) pe_int (fun _ _ => rfl))) (pe_op op_mulW (pe_ix ix_tup (pv 1) pe_int (fun _ _ => rfl)) (pv 3))) (pa_cons (pe_op op_mulW (pe_ix ix_tup (pv 0) pe_int (fun _ _ => rfl)) (pe_ix ix_tup (pv 1) pe_int (fun _ _ => rfl))) (pa_cons (pe_callC C_inner (hr.mono (by decide)) rfl (pa_cons (pv 0) pa_nil)) pa_nil)))))) pss_nil)
      (pss_cons (ps_par (i := 4) (j := 5) (by rfl) SC_compared.nd rfl rfl (by decide) rfl rfl (pa_cons (pe_op op_sub pe_int (pe_ix ix_tup (pv 1) pe_int (fun _ _ => rfl))) (pa_cons (pe_op op_mulW pe_int (pe_ix ix_tup (pv 1) pe_int (fun _ _ => rfl))) pa_nil)) (by rfl))
      (pss_nrm (pss_cons (ps_set (i := 6) SC_compared.nd rfl (.inl rfl) (pe_op op_sub (pe_op op_mulW (pv 2) (pv 5)) (pe_op op_mulW (pv 4) (pv 3))))
      (pss_one (ps_ret (pe_callC C_swrs (hr.mono (by decide)) rfl (pa_cons (pv 6) (pa_cons (pe_op op_mulW (pe_ix ix_tup (pv 0) pe_int (fun _ _ => rfl)) (pv 5)) (pa_cons (pe_callC C_inner (hr.mono (by decide)) rfl (pa_cons (pv 0) pa_nil)) (pa_cons (pe_op op_sub pe_int (pe_op op_mulW (pe_ix ix_tup (pv 1) pe_int (fun _ _ => rfl)) (pv 3))) (pa_cons (pe_callC C_inner (hr.mono (by decide)) rfl (pa_cons (pv 1) pa_nil)) pa_nil))))))))))))))), ?_⟩
    cases ho with
    | four ba bb bc bs =>
      have bD := D_bd ba bb bc
      have i1 : Bd 800 A := ba.mono (by decide)
      have i2 : Bd 800 B := bb.mono (by decide)
      have i3 : Bd 800 C := bc.mono (by decide)
      cases ho' with
      | two bu bv =>
        rename_i u v
        have W := ((Ho.start H).call (Same.refl H) hp).call (o := .tup [.int u, .int v]) (Same.refl H) hq
        have e1 : Bd 400 ((0 - B) * v - u * (2 * A)) := (((neg_bd bb).mul bv).sub (bu.mul (two_bd ba))).mono (by decide)
        have e2 : Bd 400 (sd * v) := (bs.mul bv).mono (by decide)
        have e3 := bD.mono (show 190 ≤ 400 by decide)
        walk_at "kw"
        refine ifF rfl (ifF rfl ?_)
        walk_at "kw"
        refine ifF rfl ?_
        walk_at "kw"
        refine ifT rfl ?_
        walk_at "kw"
        exact k H W.sm
      | four ca cb cc cs =>
        rename_i a b c t
        have W := ((Ho.start H).call (Same.refl H) hp).call (o := .tup [.int a, .int b, .int c, .int t]) (Same.refl H) hq
        have cD := D_bd ca cb cc
        have j1 : Bd 800 a := ca.mono (by decide)
        have j2 : Bd 800 b := cb.mono (by decide)
        have j3 : Bd 800 c := cc.mono (by decide)
        have e1 : Bd 190 ((0 - B) * (2 * a) - (0 - b) * (2 * A)) := (((neg_bd bb).mul (two_bd ca)).sub ((neg_bd cb).mul (two_bd ba))).mono (by decide)
        have e2 : Bd 100 (sd * (2 * a)) := (bs.mul (two_bd ca)).mono (by decide)
        have e3 : Bd 100 (0 - t * (2 * A)) := neg_bd ((cs.mul (two_bd ba)).mono (by decide))
        walk_at "kw"
        refine ifF rfl (ifF rfl ?_)
        walk_at "kw"
        refine ifF rfl ?_
        walk_at "kw"
        refine ifF rfl ?_
        walk_at "kw"
        exact ⟨_, _, _, _, _, rfl, ⟨e1, e2, bD, e3, cD⟩, k H W.sm⟩
--@cmp
theorem ok_cmp {f : Addr} {fd : FuncData} (F : Fun K "compared" "compared" S_compared f fd) (T : Txt K mg) (C_sign : FnC P w K mg base CX0 1 "sign_of" ["number"] sp_sign) (C_swr : FnC P w K mg base CX0 2 "sign_with_root" ["one", "times", "inner"] sp_swr) (C_swrs : FnC P w K mg base CX0 3 "sign_with_roots" ["one", "times", "inner", "again", "other"] sp_swrs) (C_inner : FnC P w K mg base CX0 1 "inner_of" ["root"] (sp_inner K)) (C_cmp4 : FnC P w K mg base CX0 4 "compared" ["one", "other"] (sp_cmp4 K)) : FnOk P w K mg base CX0 6 f fd ["one", "other"] (sp_cmp K) := by
  refine F.ok SC_compared (fun vs H Q E h => ?_) (fun cdv A outer s H vs Q E hr h => ?_)
  · obtain ⟨p, q, pl, pl', rfl, _⟩ := h
    rfl
  · obtain ⟨p, q, pl, pl', rfl, hp, hq, ho, ho', k⟩ := h
    refine ⟨_, (pss_cons (ps_if (PW.pt (pw_and (pt_cmpR op_eq (pe_callB call_len_seq (by rfl) T.b_len (by decide +kernel) (pa_cons (pv 0) pa_nil)) pe_int (nomark _)) (pw_and1 (pt_cmpR op_eq (pe_callB call_len_seq (by rfl) T.b_len (by decide +kernel) (pa_cons (pv 1) pa_nil)) pe_int (nomark _))))) (pss_one (ps_ret (pe_callC C_sign (hr.mono (by decide)) rfl (pa_cons (pe_op op_sub (pe_op op_mulW (pe_ix ix_tup (pv 0) pe_int (fun _ _ => rfl)) (pe_ix ix_tup (pv 1) pe_int (fun _ _ => rfl))) (pe_op op_mulW (pe_ix ix_tup (pv 1) pe_int (fun _ _ => rfl)) (pe_ix ix_tup (pv 0) pe_int (fun _ _ => rfl)))) pa_nil)))) pss_nil)
      (pss_cons (ps_if (pt_cmpR op_eq (pe_callB call_len_seq (by rfl) T.b_len (by decide +kernel) (pa_cons (pv 0) pa_nil)) pe_int (nomark _)) (pss_one (ps_ret (pe_op op_sub pe_int (pe_callC C_cmp4 (hr.mono (by decide)) rfl (pa_cons (pv 1) (pa_cons (pv 0) pa_nil)))))) pss_nil)
      (pss_cons (ps_par (i := 2) (j := 3) (by rfl) SC_compared.nd rfl rfl (by decide) rfl rfl (pa_cons (pe_op op_sub pe_int (pe_ix ix_tup (pv 0) pe_int (fun _ _ => rfl))) (pa_cons (pe_op op_mulW pe_int (pe_ix ix_tup (pv 0) pe_int (fun _ _ => rfl))) pa_nil)) (by rfl))
      (pss_cons (ps_if (pt_cmpR op_eq (pe_callB call_len_seq (by rfl) T.b_len (by decide +kernel) (pa_cons (pv 1) pa_nil)) pe_int (nomark _)) (pss_one (ps_ret (pe_callC C_swr (hr.mono (by decide)) rfl (pa_cons (pe_op op_sub (pe_op op_mulW (pv 2) (pe_ix ix_tup (pv 1) pe_int (fun _ _ => rfl))) (pe_op op_mulW (pe_ix ix_tup (pv 1) pe_int (fun _ _ => rfl)) (pv 3))) (pa_cons (pe_op op_mulW (pe_ix ix_tup (pv 0) pe_int (fun _ _ => rfl)) (pe_ix ix_tup (pv 1) pe_int (fun _ _ => rfl))) (pa_cons (pe_callC C_inner (hr.mono (by decide)) rfl (pa_cons (pv 0) pa_nil)) pa_nil)))))) pss_nil)
      (pss_cons (ps_par (i := 4) (j := 5) (by rfl) SC_compared.nd rfl rfl (by decide) rfl rfl (pa_cons (pe_op op_sub pe_int (pe_ix ix_tup (pv 1) pe_int (fun _ _ => rfl))) (pa_cons (pe_op op_mulW pe_int (pe_ix ix_tup (pv 1) pe_int (fun _ _ => rfl))) pa_nil)) (by rfl))
      (pss_nrm (pss_cons (ps_set (i := 6) SC_compared.nd rfl (.inl rfl) (pe_op op_sub (pe_op op_mulW (pv 2) (pv 5)) (pe_op op_mulW (pv 4) (pv 3))))
      (pss_one (ps_ret (pe_callC C_swrs (hr.mono (by decide)) rfl (pa_cons (pv 6) (pa_cons (pe_op op_mulW (pe_ix ix_tup (pv 0) pe_int (fun _ _ => rfl)) (pv 5)) (pa_cons (pe_callC C_inner (hr.mono (by decide)) rfl (pa_cons (pv 0) pa_nil)) (pa_cons (pe_op op_sub pe_int (pe_op op_mulW (pe_ix ix_tup (pv 1) pe_int (fun _ _ => rfl)) (pv 3))) (pa_cons (pe_callC C_inner (hr.mono (by decide)) rfl (pa_cons (pv 1) pa_nil)) pa_nil))))))))))))))), ?_⟩
    have h4 : ∀ {A B C s : Int} {pl : List Int}, H p = some (.tup [.int A, .int B, .int C, .int s]) → PlO [A, B, C, s] → H q = some (.tup (pl.map V.int)) → PlO pl → (∀ H', Same H H' → Q (.int (cmp4 A B C s pl)) H') → True := fun _ _ _ _ _ => trivial
    cases ho with
    | two bx b_y =>
      rename_i x y
      cases ho' with
      | two bu bv =>
        rename_i u v
        have W := ((Ho.start H).call (o := .tup [.int x, .int y]) (Same.refl H) hp).call (o := .tup [.int u, .int v]) (Same.refl H) hq
        walk_at "kw"
        refine ifT rfl ?_
        walk_at "kw"
        refine ifT rfl ?_
        walk_at "kw"
        exact k H W.sm
      | four ca cb cc cs =>
        rename_i a b c t
        have W := ((Ho.start H).call (o := .tup [.int x, .int y]) (Same.refl H) hp).call (o := .tup [.int a, .int b, .int c, .int t]) (Same.refl H) hq
        walk_at "kw"
        refine ifT rfl ?_
        walk_at "kw"
        refine ifF rfl ?_
        walk_at "kw"
        refine ifT rfl ?_
        walk_at "kw"
        refine ⟨q, p, a, b, c, t, [x, y], rfl, W.get (.head _), W.get (.tail _ (.head _)), .four ca cb cc cs, .two bx b_y, fun H1 s1 => ?_⟩
        walk_at "kw"
        exact k H1 s1
    | four ba bb bc bs =>
      rename_i A B C sd
      have bD := D_bd ba bb bc
      have i1 : Bd 800 A := ba.mono (by decide)
      have i2 : Bd 800 B := bb.mono (by decide)
      have i3 : Bd 800 C := bc.mono (by decide)
      cases ho' with
      | two bu bv =>
        rename_i u v
        have W := ((Ho.start H).call (o := .tup [.int A, .int B, .int C, .int sd]) (Same.refl H) hp).call (o := .tup [.int u, .int v]) (Same.refl H) hq
        have e1 : Bd 400 ((0 - B) * v - u * (2 * A)) := (((neg_bd bb).mul bv).sub (bu.mul (two_bd ba))).mono (by decide)
        have e2 : Bd 400 (sd * v) := (bs.mul bv).mono (by decide)
        have e3 := bD.mono (show 190 ≤ 400 by decide)
        walk_at "kw"
        refine ifF rfl (ifF rfl ?_)
        walk_at "kw"
        refine ifF rfl ?_
        walk_at "kw"
        refine ifT rfl ?_
        walk_at "kw"
        exact k H W.sm
      | four ca cb cc cs =>
        rename_i a b c t
        have W := ((Ho.start H).call (o := .tup [.int A, .int B, .int C, .int sd]) (Same.refl H) hp).call (o := .tup [.int a, .int b, .int c, .int t]) (Same.refl H) hq
        have cD := D_bd ca cb cc
        have j1 : Bd 800 a := ca.mono (by decide)
        have j2 : Bd 800 b := cb.mono (by decide)
        have j3 : Bd 800 c := cc.mono (by decide)
        have e1 : Bd 190 ((0 - B) * (2 * a) - (0 - b) * (2 * A)) := (((neg_bd bb).mul (two_bd ca)).sub ((neg_bd cb).mul (two_bd ba))).mono (by decide)
        have e2 : Bd 100 (sd * (2 * a)) := (bs.mul (two_bd ca)).mono (by decide)
        have e3 : Bd 100 (0 - t * (2 * A)) := neg_bd ((cs.mul (two_bd ba)).mono (by decide))
        walk_at "kw"
        refine ifF rfl (ifF rfl ?_)
        walk_at "kw"
        refine ifF rfl ?_
        walk_at "kw"
        refine ifF rfl ?_
        walk_at "kw"
        exact ⟨_, _, _, _, _, rfl, ⟨e1, e2, bD, e3, cD⟩, k H W.sm⟩
--@ords,lt
theorem ok_elt {f CE : Addr} {fd : FuncData} (F : Fun K "__lt__" "Edge.__lt__" S_Edge__lt_ f fd) (T : Txt K mg) (Re : EdgT K mg CE) (C_cmp : FnC P w K mg base CX0 6 "compared" ["one", "other"] (sp_cmp K)) : FnOk P w K mg base CX0 7 f fd ["self", "other"] (sp_ecmp CE fun i => decide (i < 0)) := by
  refine F.ok SC_Edge__lt_ (fun vs H Q E h => ?_) (fun cdv A outer s H vs Q E hr h => ?_)
  · obtain ⟨e, g, pl, pl', rfl, _⟩ := h
    rfl
  · obtain ⟨e, g, pl, pl', rfl, he, hg, ho, ho', k⟩ := h
    obtain ⟨dx, t, fs, h1, h2, h3⟩ := he.at
    obtain ⟨dy, t', fs', g1, g2, g3⟩ := hg.at
    refine ⟨_, (pss_one (ps_ret (pe_cmpR op_lt (pe_callC C_cmp (hr.mono (by decide)) rfl (pa_cons (pe_fld (pv 0) rfl) (pa_cons (pe_fld (pv 1) rfl) pa_nil))) pe_int (nomark _)))), ?_⟩
    refine ⟨_, rfl, e, CE, dx, _, _, rfl, h1, Re.ins.cl, Re.n1, h2, _, rfl, g, CE, dy, _, _, rfl, g1, Re.ins.cl, Re.n1, g2, ?_⟩
    refine ⟨t, t', pl, pl', rfl, h3, g3, ho, ho', fun H1 s1 => ?_⟩
    walk_at "kw"
    exact k H1 s1
--@ords,le
theorem ok_ele {f CE : Addr} {fd : FuncData} (F : Fun K "__le__" "Edge.__le__" S_Edge__le_ f fd) (T : Txt K mg) (Re : EdgT K mg CE) (C_cmp : FnC P w K mg base CX0 6 "compared" ["one", "other"] (sp_cmp K)) : FnOk P w K mg base CX0 7 f fd ["self", "other"] (sp_ecmp CE fun i => decide (i ≤ 0)) := by
  refine F.ok SC_Edge__le_ (fun vs H Q E h => ?_) (fun cdv A outer s H vs Q E hr h => ?_)
  · obtain ⟨e, g, pl, pl', rfl, _⟩ := h
    rfl
  · obtain ⟨e, g, pl, pl', rfl, he, hg, ho, ho', k⟩ := h
    obtain ⟨dx, t, fs, h1, h2, h3⟩ := he.at
    obtain ⟨dy, t', fs', g1, g2, g3⟩ := hg.at
    refine ⟨_, (pss_one (ps_ret (pe_cmpR op_le (pe_callC C_cmp (hr.mono (by decide)) rfl (pa_cons (pe_fld (pv 0) rfl) (pa_cons (pe_fld (pv 1) rfl) pa_nil))) pe_int (nomark _)))), ?_⟩
    refine ⟨_, rfl, e, CE, dx, _, _, rfl, h1, Re.ins.cl, Re.n1, h2, _, rfl, g, CE, dy, _, _, rfl, g1, Re.ins.cl, Re.n1, g2, ?_⟩
    refine ⟨t, t', pl, pl', rfl, h3, g3, ho, ho', fun H1 s1 => ?_⟩
    walk_at "kw"
    exact k H1 s1
--@ords,gt
theorem ok_egt {f CE : Addr} {fd : FuncData} (F : Fun K "__gt__" "Edge.__gt__" S_Edge__gt_ f fd) (T : Txt K mg) (Re : EdgT K mg CE) (C_cmp : FnC P w K mg base CX0 6 "compared" ["one", "other"] (sp_cmp K)) : FnOk P w K mg base CX0 7 f fd ["self", "other"] (sp_ecmp CE fun i => decide (i > 0)) := by
  refine F.ok SC_Edge__gt_ (fun vs H Q E h => ?_) (fun cdv A outer s H vs Q E hr h => ?_)
  · obtain ⟨e, g, pl, pl', rfl, _⟩ := h
    rfl
  · obtain ⟨e, g, pl, pl', rfl, he, hg, ho, ho', k⟩ := h
    obtain ⟨dx, t, fs, h1, h2, h3⟩ := he.at
    obtain ⟨dy, t', fs', g1, g2, g3⟩ := hg.at
    refine ⟨_, (pss_one (ps_ret (pe_cmpR op_gt (pe_callC C_cmp (hr.mono (by decide)) rfl (pa_cons (pe_fld (pv 0) rfl) (pa_cons (pe_fld (pv 1) rfl) pa_nil))) pe_int (nomark _)))), ?_⟩
    refine ⟨_, rfl, e, CE, dx, _, _, rfl, h1, Re.ins.cl, Re.n1, h2, _, rfl, g, CE, dy, _, _, rfl, g1, Re.ins.cl, Re.n1, g2, ?_⟩
    refine ⟨t, t', pl, pl', rfl, h3, g3, ho, ho', fun H1 s1 => ?_⟩
    walk_at "kw"
    exact k H1 s1
--@ords,ge
--@eq2
--@*
end

/-! ## places as pairs in a ring with signs -/
namespace Pj
 open Sg Sg.SgR Lean.Grind
open K10 Or
/-- a ring with signs that holds the integers -/
class Em (R : Type) [CommRing R] extends SgR R where
  i : Int → R
  i_add : ∀ x y, i (x + y) = i x + i y
  i_mul : ∀ x y, i (x * y) = i x * i y
  i_one : i 1 = 1
  i_s : ∀ x, s (i x) = sg x
section
variable {R : Type} [CommRing R] [Em R]
 open Em
theorem i_zero : (i 0 : R) = 0 := by
  have h : (i (0 + 0) : R) = i 0 + i 0 := i_add 0 0
  rw [show (0 : Int) + 0 = 0 from rfl] at h
  grind
theorem i_neg (x : Int) : (i (-x) : R) = - i x := by
  have h : (i (x + -x) : R) = i x + i (-x) := i_add _ _
  rw [show x + -x = 0 by omega, i_zero] at h
  grind
theorem i_sub (x y : Int) : (i (x - y) : R) = i x - i y := by
  rw [show x - y = x + -y by omega, i_add, i_neg]; grind
theorem i_two : (i 2 : R) = 2 := by
  rw [show (2 : Int) = 1 + 1 from rfl, i_add, i_one]; grind
theorem i_four : (i 4 : R) = 4 := by
  rw [show (4 : Int) = 2 + 2 from rfl, i_add, i_two]; grind
/-- null elements -/
theorem nu_add {a b : R} (h : s a = 0) (g : s b = 0) : s (a + b) = 0 := (add0 _ _ h).trans g
theorem nu_mul {a : R} (h : s a = 0) (b : R) : s (a * b) = 0 := by rw [mul, h, Int.zero_mul]
theorem nu_mul' {a : R} (h : s a = 0) (b : R) : s (b * a) = 0 := by rw [mul, h, Int.mul_zero]
theorem nu_neg {a : R} (h : s a = 0) : s (-a) = 0 := by rw [neg, h]; rfl
theorem nu_sub {a b : R} (h : s a = 0) (g : s b = 0) : s (a - b) = 0 := by rw [show a - b = a + -b by grind]; exact nu_add h (nu_neg g)
theorem pos_mul {a b : R} (h : s a = 1) : s (a * b) = s b := by rw [mul, h, Int.one_mul]
inductive RepR (N D : R) : List Int → Prop
  | two {x y : Int} (x0 : 0 ≤ x) (y0 : 0 ≤ y) (co : Int.gcd x y = 1) (e : s (N * i y - i x * D) = 0) (p : s (i x * N + i y * D) = 1) : RepR N D [x, y]
  | four {A B C sd : Int} (A0 : 0 < A) (g : Int.gcd (Int.gcd A B) C = 1) (dp : 0 ≤ B * B - 4 * A * C) (dn : ¬ isq (B * B - 4 * A * C)) (e : s (i A * (N * N) + i B * (N * D) + i C * (D * D)) = 0) (d0 : s D = 1) (hs : s (2 * i A * N + i B * D) = sd) : RepR N D [A, B, C, sd]
theorem co_nz {x y : Int} (co : Int.gcd x y = 1) : 0 < x * x + y * y := by
  rcases Int.lt_trichotomy x 0 with h | h | h
  · have := Int.mul_pos_of_neg_of_neg h h
    have := K15.sg_nz (show x ≠ 0 by omega)
    have : 0 ≤ y * y := by rcases Int.le_total 0 y with z | z; exact Int.mul_nonneg z z; exact Int.mul_nonneg_of_nonpos_of_nonpos z z
    omega
  · subst h
    have : y ≠ 0 := fun e => by subst e; exact absurd co (by decide)
    have := K15.sq_pos this
    omega
  · have := Int.mul_pos h h
    have : 0 ≤ y * y := by rcases Int.le_total 0 y with z | z; exact Int.mul_nonneg z z; exact Int.mul_nonneg_of_nonpos_of_nonpos z z
    omega
/-- the pair of a fraction -/
theorem two_pair {N D : R} {x y : Int} (e : s (N * i y - i x * D) = 0) : s (i (x * x + y * y) * N - i x * (i x * N + i y * D)) = 0 ∧ s (i (x * x + y * y) * D - i y * (i x * N + i y * D)) = 0 := by
  constructor
  · rw [show i (x * x + y * y) * N - i x * (i x * N + i y * D) = i y * (N * i y - i x * D) by rw [i_add, i_mul, i_mul]; grind]
    exact nu_mul' e _
  · rw [show i (x * x + y * y) * D - i y * (i x * N + i y * D) = -(i x * (N * i y - i x * D)) by rw [i_add, i_mul, i_mul]; grind]
    exact nu_neg (nu_mul' e _)
theorem disc {N D : R} {A B C : Int} (e : s (i A * (N * N) + i B * (N * D) + i C * (D * D)) = 0) : s ((2 * i A * N + i B * D) * (2 * i A * N + i B * D) - i (B * B - 4 * A * C) * (D * D)) = 0 := by
  rw [show (2 * i A * N + i B * D) * (2 * i A * N + i B * D) - i (B * B - 4 * A * C) * (D * D) = 4 * i A * (i A * (N * N) + i B * (N * D) + i C * (D * D)) by rw [i_sub, i_mul, i_mul, i_mul, i_four]; grind]
  exact nu_mul' e _
theorem s_i2 : s (2 : R) = 1 := by rw [← i_two, i_s]; rfl
theorem sd_pm {N D : R} {A B C sd : Int} (dp : 0 ≤ B * B - 4 * A * C) (dn : ¬ isq (B * B - 4 * A * C)) (e : s (i A * (N * N) + i B * (N * D) + i C * (D * D)) = 0) (d0 : s D = 1) (hs : s (2 * i A * N + i B * D) = sd) : sd = 1 ∨ sd = -1 := by
  have h := s_sub0 _ _ (disc e)
  rw [mul, mul, mul, i_s, d0, sg_p (nsq_pos dp dn), hs] at h
  have := tri (2 * i A * N + i B * D)
  rw [hs] at this
  rcases this with z | z | z
  · exact .inl z
  · rw [z] at h; omega
  · exact .inr z
/-- a number with a root beside a fraction -/
theorem cmp_f {N D : R} {A B C sd : Int} (A0 : 0 < A) (dp : 0 ≤ B * B - 4 * A * C) (dn : ¬ isq (B * B - 4 * A * C)) (e : s (i A * (N * N) + i B * (N * D) + i C * (D * D)) = 0) (d0 : s D = 1) (hs : s (2 * i A * N + i B * D) = sd) (u v : Int) :
    cmp4 A B C sd [u, v] = s (i v * N - i u * D) := by
  have hpm := sd_pm dp dn e d0 hs
  have dd := sg_p (nsq_pos dp dn)
  have sA : s (2 * i A : R) = 1 := by rw [mul, s_i2, i_s, sg_p A0]; rfl
  have e1 : s (i v * N - i u * D) = s (i ((0 - B) * v - u * (2 * A)) * D + i v * (2 * i A * N + i B * D)) := by
    rw [← pos_mul (b := i v * N - i u * D) sA]
    congr 1
    rw [i_sub, i_mul, i_mul, i_mul, i_sub, i_zero, i_two]; grind
  have e2 : s (i ((0 - B) * v - u * (2 * A)) * D) = sg ((0 - B) * v - u * (2 * A)) := by rw [mul, d0, i_s, Int.mul_one]
  have e3 : s (i v * (2 * i A * N + i B * D)) = sg (sd * v) * sg (B * B - 4 * A * C) := by
    rw [mul, hs, i_s, dd, Int.mul_one, sg_mul]
    rcases hpm with h | h <;> rw [h]
    · rw [show sg 1 = 1 from rfl]; omega
    · rw [show sg (-1) = -1 from rfl]; omega
  have e4 : s (i ((0 - B) * v - u * (2 * A)) * D * (i ((0 - B) * v - u * (2 * A)) * D) - i v * (2 * i A * N + i B * D) * (i v * (2 * i A * N + i B * D))) = sg (((0 - B) * v - u * (2 * A)) * ((0 - B) * v - u * (2 * A)) - sd * v * (sd * v) * (B * B - 4 * A * C)) := by
    have ss : sd * v * (sd * v) = v * v := by rcases hpm with h | h <;> rw [h] <;> grind
    rw [ss]
    generalize (0 - B) * v - u * (2 * A) = X
    have : s (i X * D * (i X * D) - i v * (2 * i A * N + i B * D) * (i v * (2 * i A * N + i B * D))) = s (D * D * i (X * X - v * v * (B * B - 4 * A * C))) := by
      refine s_sub0 _ _ ?_
      rw [show i X * D * (i X * D) - i v * (2 * i A * N + i B * D) * (i v * (2 * i A * N + i B * D)) - D * D * i (X * X - v * v * (B * B - 4 * A * C)) = -(i v * i v * ((2 * i A * N + i B * D) * (2 * i A * N + i B * D) - i (B * B - 4 * A * C) * (D * D))) by
        rw [i_sub (X * X), i_mul (v * v), i_mul X, i_mul v]; grind]
      exact nu_neg (nu_mul' (disc e) _)
    rw [this, mul, mul, d0, i_s, Int.one_mul, Int.one_mul]
  rw [e1, s_sum, e2, e3, e4]
  rfl
/-- two numbers with roots -/
theorem cmp_r {N D M E : R} {A B C sd a b c td : Int} (h : RepR N D [A, B, C, sd]) (h' : RepR M E [a, b, c, td]) : cmp4 A B C sd [a, b, c, td] = s (N * E - M * D) := by
  cases h with
  | four A0 g dp dn e d0 hs =>
  cases h' with
  | four a0 g' cp cn e' d0' hs' =>
  have hpm := sd_pm dp dn e d0 hs
  have hpm' := sd_pm cp cn e' d0' hs'
  have dd := sg_p (nsq_pos dp dn)
  have cc := sg_p (nsq_pos cp cn)
  have sA : s (2 * i A : R) = 1 := by rw [mul, s_i2, i_s, sg_p A0]; rfl
  have sa : s (2 * i a : R) = 1 := by rw [mul, s_i2, i_s, sg_p a0]; rfl
  have q1 := disc e
  have q2 := disc e'
  show swrs ((0 - B) * (2 * a) - (0 - b) * (2 * A)) (sd * (2 * a)) (B * B - 4 * A * C) (0 - td * (2 * A)) (b * b - 4 * a * c) = _
  have X1 : (i ((0 - B) * (2 * a) - (0 - b) * (2 * A)) : R) = -(i B) * (2 * i a) + i b * (2 * i A) := by
    rw [i_sub, i_mul, i_mul, i_mul, i_mul, i_sub, i_sub, i_zero, i_two]; grind
  generalize hX : (0 - B) * (2 * a) - (0 - b) * (2 * A) = X at *
  generalize hF : 2 * i A * N + i B * D = F at *
  generalize hG : 2 * i a * M + i b * E = G at *
  have e1 : s (N * E - M * D) = s (i X * (D * E) + 2 * i a * F * E + -(2 * i A * G * D)) := by
    rw [← pos_mul (b := N * E - M * D) sA, ← pos_mul (b := 2 * i A * (N * E - M * D)) sa]
    congr 1
    rw [X1, ← hF, ← hG]; grind
  have sD : s (D * E) = 1 := by rw [mul, d0, d0']; rfl
  have f1 : s (i X * (D * E)) = sg X := by rw [mul, sD, i_s, Int.mul_one]
  have f2 : s (2 * i a * F * E) = sg (sd * (2 * a)) * sg (B * B - 4 * A * C) := by
    rw [mul, mul, sa, hs, d0', dd, sg_mul, sg_p (show 0 < 2 * a by omega)]
    rcases hpm with h | h <;> rw [h] <;> rfl
  have ss : sd * sd = 1 := by rcases hpm with h | h <;> rw [h] <;> rfl
  have tt : td * td = 1 := by rcases hpm' with h | h <;> rw [h] <;> rfl
  have f3 : s (i X * (D * E) * (i X * (D * E)) - 2 * i a * F * E * (2 * i a * F * E)) = sg (X * X - sd * (2 * a) * (sd * (2 * a)) * (B * B - 4 * A * C)) := by
    rw [show sd * (2 * a) * (sd * (2 * a)) = 2 * a * (2 * a) by
      have : sd * (2 * a) * (sd * (2 * a)) = sd * sd * (2 * a * (2 * a)) := by grind
      rw [this, ss]; omega]
    have : s (i X * (D * E) * (i X * (D * E)) - 2 * i a * F * E * (2 * i a * F * E)) = s (D * E * (D * E) * i (X * X - 2 * a * (2 * a) * (B * B - 4 * A * C))) := by
      refine s_sub0 _ _ ?_
      rw [show i X * (D * E) * (i X * (D * E)) - 2 * i a * F * E * (2 * i a * F * E) - D * E * (D * E) * i (X * X - 2 * a * (2 * a) * (B * B - 4 * A * C)) = -(2 * i a * E * (2 * i a * E) * (F * F - i (B * B - 4 * A * C) * (D * D))) by
        rw [i_sub (X * X), i_mul (2 * a * (2 * a)), i_mul X, i_mul (2 * a), i_mul 2 a, i_two]; grind]
      exact nu_neg (nu_mul' q1 _)
    rw [this, mul, mul, sD, i_s]; omega
  have f4 : s (i X * (D * E) + 2 * i a * F * E) = swr X (sd * (2 * a)) (B * B - 4 * A * C) := by
    rw [s_sum, f1, f2, f3]; rfl
  have f5 : s (-(2 * i A * G * D)) = sg (0 - td * (2 * A)) * sg (b * b - 4 * a * c) := by
    rw [neg, mul, mul, sA, hs', d0, cc, show 0 - td * (2 * A) = (-1) * (td * (2 * A)) by omega, sg_mul, sg_mul, sg_p (show 0 < 2 * A by omega)]
    rcases hpm' with h | h <;> rw [h] <;> rfl
  have f6 : s ((i X * (D * E) + 2 * i a * F * E) * (i X * (D * E) + 2 * i a * F * E) - -(2 * i A * G * D) * -(2 * i A * G * D)) = swr (X * X + sd * (2 * a) * (sd * (2 * a)) * (B * B - 4 * A * C) - (0 - td * (2 * A)) * (0 - td * (2 * A)) * (b * b - 4 * a * c)) (2 * X * (sd * (2 * a))) (B * B - 4 * A * C) := by
    rw [show sd * (2 * a) * (sd * (2 * a)) = 2 * a * (2 * a) by
      have : sd * (2 * a) * (sd * (2 * a)) = sd * sd * (2 * a * (2 * a)) := by grind
      rw [this, ss]; omega, show (0 - td * (2 * A)) * (0 - td * (2 * A)) = 2 * A * (2 * A) by
      have : (0 - td * (2 * A)) * (0 - td * (2 * A)) = td * td * (2 * A * (2 * A)) := by grind
      rw [this, tt]; omega]
    have Y1 : (i (X * X + 2 * a * (2 * a) * (B * B - 4 * A * C) - 2 * A * (2 * A) * (b * b - 4 * a * c)) : R) = i X * i X + 2 * i a * (2 * i a) * i (B * B - 4 * A * C) - 2 * i A * (2 * i A) * i (b * b - 4 * a * c) := by
      rw [i_sub, i_add, i_mul (2 * a * (2 * a)), i_mul (2 * A * (2 * A)), i_mul X, i_mul (2 * a), i_mul (2 * A), i_mul 2 a, i_mul 2 A, i_two]
    generalize hY : X * X + 2 * a * (2 * a) * (B * B - 4 * A * C) - 2 * A * (2 * A) * (b * b - 4 * a * c) = Y at *
    have : s ((i X * (D * E) + 2 * i a * F * E) * (i X * (D * E) + 2 * i a * F * E) - -(2 * i A * G * D) * -(2 * i A * G * D)) = s (D * E * E * (i Y * D + 2 * i X * (2 * i a) * F)) := by
      refine s_sub0 _ _ ?_
      rw [show (i X * (D * E) + 2 * i a * F * E) * (i X * (D * E) + 2 * i a * F * E) - -(2 * i A * G * D) * -(2 * i A * G * D) - D * E * E * (i Y * D + 2 * i X * (2 * i a) * F) = 2 * i a * E * (2 * i a * E) * (F * F - i (B * B - 4 * A * C) * (D * D)) + -(2 * i A * D * (2 * i A * D) * (G * G - i (b * b - 4 * a * c) * (E * E))) by rw [Y1]; grind]
      exact nu_add (nu_mul' q1 _) (nu_neg (nu_mul' q2 _))
    rw [this, pos_mul (by rw [mul, sD, d0']; rfl)]
    have g1 : s (i Y * D) = sg Y := by rw [mul, d0, i_s, Int.mul_one]
    have g2 : s (2 * i X * (2 * i a) * F) = sg (2 * X * (sd * (2 * a))) * sg (B * B - 4 * A * C) := by
      rw [mul, mul, mul, s_i2, sa, hs, i_s, dd, sg_mul, sg_mul, sg_mul, sg_p (show 0 < 2 * a by omega), show sg 2 = 1 from rfl]
      rcases hpm with h | h <;> rw [h] <;> (first | rw [show sg 1 = 1 from rfl] | rw [show sg (-1) = -1 from rfl]) <;> omega
    have g3 : s (i Y * D * (i Y * D) - 2 * i X * (2 * i a) * F * (2 * i X * (2 * i a) * F)) = sg (Y * Y - 2 * X * (sd * (2 * a)) * (2 * X * (sd * (2 * a))) * (B * B - 4 * A * C)) := by
      rw [show 2 * X * (sd * (2 * a)) * (2 * X * (sd * (2 * a))) = 2 * X * (2 * a) * (2 * X * (2 * a)) by
        have : 2 * X * (sd * (2 * a)) * (2 * X * (sd * (2 * a))) = sd * sd * (2 * X * (2 * a) * (2 * X * (2 * a))) := by grind
        rw [this, ss]; omega]
      have : s (i Y * D * (i Y * D) - 2 * i X * (2 * i a) * F * (2 * i X * (2 * i a) * F)) = s (D * D * i (Y * Y - 2 * X * (2 * a) * (2 * X * (2 * a)) * (B * B - 4 * A * C))) := by
        refine s_sub0 _ _ ?_
        rw [show i Y * D * (i Y * D) - 2 * i X * (2 * i a) * F * (2 * i X * (2 * i a) * F) - D * D * i (Y * Y - 2 * X * (2 * a) * (2 * X * (2 * a)) * (B * B - 4 * A * C)) = -(2 * i X * (2 * i a) * (2 * i X * (2 * i a)) * (F * F - i (B * B - 4 * A * C) * (D * D))) by
          rw [i_sub (Y * Y), i_mul (2 * X * (2 * a) * (2 * X * (2 * a))), i_mul Y, i_mul (2 * X * (2 * a)), i_mul (2 * X), i_mul 2 X, i_mul 2 a, i_two]; grind]
        exact nu_neg (nu_mul' q1 _)
      rw [this, mul, mul, d0, i_s]; omega
    rw [s_sum, g1, g2, g3]; rfl
  rw [e1, s_sum, f4, f5, f6]
  rfl
/-- two fractions beside one another -/
theorem two_two {N D M E : R} {x y u v : Int} (h : RepR N D [x, y]) (h' : RepR M E [u, v]) : s (N * E - M * D) = sg (x * v - u * y) := by
  cases h with
  | two x0 y0 co e p =>
  cases h' with
  | two u0 v0 co' e' p' =>
  obtain ⟨n1, n2⟩ := two_pair e
  obtain ⟨m1, m2⟩ := two_pair e'
  have k1 := co_nz co
  have k2 := co_nz co'
  have s1 : s (i (x * x + y * y) : R) = 1 := by rw [i_s]; exact sg_p k1
  have s2 : s (i (u * u + v * v) : R) = 1 := by rw [i_s]; exact sg_p k2
  rw [← pos_mul (b := N * E - M * D) s1, ← pos_mul (b := i (x * x + y * y) * (N * E - M * D)) s2]
  generalize hL : i x * N + i y * D = L at *
  generalize hM : i u * M + i v * E = L' at *
  have : s (i (u * u + v * v) * (i (x * x + y * y) * (N * E - M * D))) = s (L * L' * i (x * v - u * y)) := by
    refine s_sub0 _ _ ?_
    generalize (i (x * x + y * y) : R) = K1 at *
    generalize (i (u * u + v * v) : R) = K2 at *
    rw [show K2 * (K1 * (N * E - M * D)) - L * L' * i (x * v - u * y) = (K1 * N - i x * L) * (K2 * E) + i x * L * (K2 * E - i v * L') - ((K1 * D - i y * L) * (K2 * M) + i y * L * (K2 * M - i u * L')) by rw [i_sub, i_mul, i_mul]; grind]
    exact nu_sub (nu_add (nu_mul n1 _) (nu_mul' m2 _)) (nu_add (nu_mul n2 _) (nu_mul' m1 _))
  rw [this, mul, mul, p, p', i_s]; omega
theorem four_two {N D M E : R} {A B C sd u v : Int} (h : RepR N D [A, B, C, sd]) (h' : RepR M E [u, v]) : cmp4 A B C sd [u, v] = s (N * E - M * D) := by
  cases h with
  | four A0 g dp dn e d0 hs =>
  cases h' with
  | two u0 v0 co' e' p' =>
  rw [cmp_f A0 dp dn e d0 hs u v]
  obtain ⟨m1, m2⟩ := two_pair e'
  have k2 := co_nz co'
  have s2 : s (i (u * u + v * v) : R) = 1 := by rw [i_s]; exact sg_p k2
  rw [← pos_mul (b := N * E - M * D) s2]
  generalize hM : i u * M + i v * E = L' at *
  have : s (i (u * u + v * v) * (N * E - M * D)) = s (L' * (i v * N - i u * D)) := by
    refine s_sub0 _ _ ?_
    generalize (i (u * u + v * v) : R) = K2 at *
    rw [show K2 * (N * E - M * D) - L' * (i v * N - i u * D) = N * (K2 * E - i v * L') - D * (K2 * M - i u * L') by grind]
    exact nu_sub (nu_mul' m2 _) (nu_mul' m1 _)
  rw [this, pos_mul p']
/-- places lie as their pairs -/
theorem cmpR {N D M E : R} {pl pl' : List Int} (h : RepR N D pl) (h' : RepR M E pl') : cmpPl pl pl' = s (N * E - M * D) := by
  have h0 := h
  have h0' := h'
  cases h with
  | two x0 y0 co e p =>
    cases h' with
    | two u0 v0 co' e' p' => exact (two_two h0 h0').symm
    | four a0 g' cp cn e' d0' hs' =>
      show 0 - cmp4 _ _ _ _ _ = _
      rw [four_two h0' h0, show N * E - M * D = -(M * D - N * E) by grind, neg]; omega
  | four A0 g dp dn e d0 hs =>
    cases h' with
    | two u0 v0 co' e' p' => exact four_two h0 h0'
    | four a0 g' cp cn e' d0' hs' => exact cmp_r h0 h0'
theorem frac_un0 {x y u v : Int} (x0 : 0 ≤ x) (y0 : 0 ≤ y) (u0 : 0 ≤ u) (v0 : 0 ≤ v) (g : Int.gcd x y = 1) (g' : Int.gcd u v = 1) (e : x * v = u * y) : x = u ∧ y = v := by
  by_cases hy : y = 0
  · subst hy
    rw [Int.gcd_zero_right] at g
    have : x = 1 := by omega
    subst this
    have : v = 0 := by omega
    subst this
    rw [Int.gcd_zero_right] at g'
    exact ⟨by omega, rfl⟩
  · by_cases hv : v = 0
    · subst hv
      rw [Int.gcd_zero_right] at g'
      have : u = 1 := by omega
      subst this
      omega
    · exact frac_un (by omega) (by omega) g g' e
/-- no number with a root solves a linear equation -/
theorem no_lin {N D : R} {A B C X Y : Int} (A0 : 0 < A) (dp : 0 ≤ B * B - 4 * A * C) (dn : ¬ isq (B * B - 4 * A * C)) (e : s (i A * (N * N) + i B * (N * D) + i C * (D * D)) = 0) (d0 : s D = 1) (h : s (i X * N + i Y * D) = 0) : X = 0 := by
  rcases Int.lt_trichotomy X 0 with z | z | z
  case inr.inl => exact z
  all_goals
    exfalso
    have nz : X ≠ 0 := by omega
    have q := disc e
    have h2 : s (i X * (2 * i A * N + i B * D) - i (X * B - 2 * A * Y) * D) = 0 := by
      rw [show i X * (2 * i A * N + i B * D) - i (X * B - 2 * A * Y) * D = 2 * i A * (i X * N + i Y * D) by rw [i_sub, i_mul, i_mul, i_mul, i_two]; grind]
      exact nu_mul' h _
    have h3 : s (D * D * i (X * X * (B * B - 4 * A * C) - (X * B - 2 * A * Y) * (X * B - 2 * A * Y))) = 0 := by
      generalize X * B - 2 * A * Y = W at *
      generalize hF : 2 * i A * N + i B * D = F at *
      rw [show D * D * i (X * X * (B * B - 4 * A * C) - W * W) = (i X * F - i W * D) * (i X * F + i W * D) + -(i X * i X * (F * F - i (B * B - 4 * A * C) * (D * D))) by rw [i_sub (X * X * (B * B - 4 * A * C)), i_mul (X * X), i_mul X, i_mul W]; grind]
      exact nu_add (nu_mul h2 _) (nu_neg (nu_mul' q _))
    rw [mul, mul, d0, i_s] at h3
    have h4 : X * X * (B * B - 4 * A * C) = (X * B - 2 * A * Y) * (X * B - 2 * A * Y) := by
      rcases sg_c (X * X * (B * B - 4 * A * C) - (X * B - 2 * A * Y) * (X * B - 2 * A * Y)) with ⟨_, k⟩ | ⟨k, _⟩ | ⟨_, k⟩
      · rw [k] at h3; omega
      · omega
      · rw [k] at h3; omega
    refine dn (isq_mul nz ?_ dp)
    rw [h4]
    rcases Int.le_total 0 (X * B - 2 * A * Y) with k | k
    · exact ⟨_, k, rfl⟩
    · exact ⟨-(X * B - 2 * A * Y), by omega, by rw [Int.neg_mul_neg]⟩
/-- alike places are those of alike pairs -/
theorem eqR {N D M E : R} {pl pl' : List Int} (h : RepR N D pl) (h' : RepR M E pl') : s (N * E - M * D) = 0 ↔ pl = pl' := by
  constructor
  · intro z
    have h0 := h
    have h0' := h'
    cases h with
    | two x0 y0 co e p =>
      cases h' with
      | two u0 v0 co' e' p' =>
        rename_i x y u v
        rw [two_two h0 h0'] at z
        have : x * v = u * y := by rcases sg_c (x * v - u * y) with ⟨_, k⟩ | ⟨k, _⟩ | ⟨_, k⟩ <;> omega
        obtain ⟨rfl, rfl⟩ := frac_un0 x0 y0 u0 v0 co co' this
        rfl
      | four a0 g' cp cn e' d0' hs' =>
        exfalso
        rename_i x y a b c td
        have z2 : s (M * D - N * E) = 0 := by rw [show M * D - N * E = -(N * E - M * D) by grind, neg, z]; rfl
        rw [← four_two h0' h0, cmp_f a0 cp cn e' d0' hs'] at z2
        have y1 := no_lin (X := y) (Y := -x) a0 cp cn e' d0' (by rw [i_neg, show i y * M + -i x * E = i y * M - i x * E by grind]; exact z2)
        subst y1
        rw [i_zero, show (0 : R) * M - i x * E = -(i x * E) by grind, neg, mul, d0', i_s] at z2
        rw [Int.gcd_zero_right] at co
        have : x = 1 := by omega
        subst this
        exact absurd z2 (by decide)
    | four A0 g dp dn e d0 hs =>
      cases h' with
      | two u0 v0 co' e' p' =>
        exfalso
        rename_i A B C sd u v
        rw [← four_two h0 h0', cmp_f A0 dp dn e d0 hs] at z
        have y1 := no_lin (X := v) (Y := -u) A0 dp dn e d0 (by rw [i_neg, show i v * N + -i u * D = i v * N - i u * D by grind]; exact z)
        subst y1
        rw [i_zero, show (0 : R) * N - i u * D = -(i u * D) by grind, neg, mul, d0, i_s] at z
        rw [Int.gcd_zero_right] at co'
        have : u = 1 := by omega
        subst this
        exact absurd z (by decide)
      | four a0 g' cp cn e' d0' hs' =>
        rename_i A B C sd a b c td
        have l1 : s (i (a * B - A * b) * N + i (a * C - A * c) * D) = 0 := by
          have w : s (D * (E * E) * (i (a * B - A * b) * N + i (a * C - A * c) * D)) = 0 := by
            rw [show D * (E * E) * (i (a * B - A * b) * N + i (a * C - A * c) * D) = E * E * i a * (i A * (N * N) + i B * (N * D) + i C * (D * D)) + -(D * D * i A * (i a * (M * M) + i b * (M * E) + i c * (E * E))) + -((N * E - M * D) * (i A * i a * (N * E + M * D) + i A * i b * (D * E))) by
              rw [i_sub, i_sub, i_mul, i_mul, i_mul, i_mul]; grind]
            exact nu_add (nu_add (nu_mul' e _) (nu_neg (nu_mul' e' _))) (nu_neg (nu_mul z _))
          rwa [pos_mul (by rw [mul, mul, d0, d0']; rfl)] at w
        have x1 := no_lin A0 dp dn e d0 l1
        rw [x1, i_zero, show (0 : R) * N + i (a * C - A * c) * D = i (a * C - A * c) * D by grind, mul, d0, i_s, Int.mul_one] at l1
        have x2 : a * C - A * c = 0 := by rcases sg_c (a * C - A * c) with ⟨_, k⟩ | ⟨k, _⟩ | ⟨_, k⟩ <;> omega
        obtain ⟨rfl, rfl, rfl⟩ := prim_un a0 A0 (Int.mul_comm a A) (show a * B = A * b by omega) (show a * C = A * c by omega) g g'
        have l2 : s ((2 * i A * N + i B * D) * E) = s ((2 * i A * M + i B * E) * D) := by
          refine s_sub0 _ _ ?_
          rw [show (2 * i A * N + i B * D) * E - (2 * i A * M + i B * E) * D = 2 * i A * (N * E - M * D) by grind]
          exact nu_mul' z _
        rw [mul, mul, hs, hs', d0, d0'] at l2
        have : sd = td := by omega
        rw [this]
  · intro z
    subst z
    have a1 := cmpR h h'
    have a2 := cmpR h' h
    have : s (M * D - N * E) = - s (N * E - M * D) := by rw [← neg]; congr 1; grind
    omega
end
end Pj

/-! ## changed places as pairs -/
namespace Pj
 open Sg Sg.SgR Lean.Grind
 open Em
section
variable {R : Type} [CommRing R] [Em R]
theorem sgn_pm {x : Int} (h : x ≠ 0) : sg x = 1 ∨ sg x = -1 := K15.sg_nz h
theorem s_nz {x : Int} {a : R} (h : x ≠ 0) (e : s (i x * a) = 0) : s a = 0 := by
  rw [mul, i_s] at e
  rcases sgn_pm h with z | z <;> rw [z] at e <;> omega
theorem c1_nz {A B C m n k l : Int} (A0 : 0 < A) (dp : 0 ≤ B * B - 4 * A * C) (dn : ¬ isq (B * B - 4 * A * C)) (hd : m * l - n * k ≠ 0) : c1 k l A B C ≠ 0 := fun e => by
  unfold c1 at e
  by_cases hk : k = 0
  · subst hk
    have : A * l * l = 0 := by
      have : A * l * l - B * l * 0 + C * 0 * 0 = A * l * l := by grind
      omega
    rcases Int.mul_eq_zero.mp this with h | h
    · rcases Int.mul_eq_zero.mp h with h | h
      · omega
      · rw [h] at hd; simp at hd
    · rw [h] at hd; simp at hd
  · refine dn (isq_mul hk ?_ dp)
    have : k * k * (B * B - 4 * A * C) = (2 * A * l - B * k) * (2 * A * l - B * k) := by
      have h4 : 4 * A * (A * l * l - B * l * k + C * k * k) = 0 := by rw [e]; omega
      have : (2 * A * l - B * k) * (2 * A * l - B * k) - k * k * (B * B - 4 * A * C) = 4 * A * (A * l * l - B * l * k + C * k * k) := by grind
      omega
    rw [this]
    rcases Int.le_total 0 (2 * A * l - B * k) with z | z
    · exact ⟨_, z, rfl⟩
    · exact ⟨-(2 * A * l - B * k), by omega, by rw [Int.neg_mul_neg]⟩
theorem i_c1 (k l A B C : Int) : (i (c1 k l A B C) : R) = i A * i l * i l - i B * i l * i k + i C * i k * i k := by unfold c1; rw [i_add, i_sub, i_mul, i_mul, i_mul, i_mul, i_mul, i_mul]
theorem i_c2 (m n k l A B C : Int) : (i (c2 m n k l A B C) : R) = i B * (i l * i m + i n * i k) - 2 * i A * i l * i n - 2 * i C * i m * i k := by
  unfold c2; rw [i_sub, i_sub, i_mul, i_add, i_mul, i_mul, i_mul, i_mul, i_mul, i_mul, i_mul, i_mul, i_two]
theorem i_c3 (m n A B C : Int) : (i (c3 m n A B C) : R) = i A * i n * i n - i B * i n * i m + i C * i m * i m := by unfold c3; rw [i_add, i_sub, i_mul, i_mul, i_mul, i_mul, i_mul, i_mul]
theorem rep_ch4 {N D : R} {A B C sd m n k l : Int} (h : RepR N D [A, B, C, sd]) (hd : m * l - n * k ≠ 0) (p : s (i k * N + i l * D) = 1) : c1 k l A B C ≠ 0 ∧ RepR (i m * N + i n * D) (i k * N + i l * D) (bhPl m n k l [A, B, C, sd]) := by
  cases h with
  | four A0 g dp dn e d0 hs =>
  have c0 := c1_nz A0 dp dn hd
  have hpm := sd_pm dp dn e d0 hs
  refine ⟨c0, ?_⟩
  show RepR _ _ (lwd (c1 k l A B C) (c2 m n k l A B C) (c3 m n A B C) (sd * (sg (m * l - n * k) * sg (c1 k l A B C))))
  obtain ⟨a, b, c, f, f0, a0, ⟨fa, fb, fc⟩, sgf, gcd1, _, el⟩ := K15.lwd_any (B := c2 m n k l A B C) (C := c3 m n A B C) (s := sd * (sg (m * l - n * k) * sg (c1 k l A B C))) c0
  rw [el]
  have ff : 0 < f * f := K15.sq_pos f0
  have eD : f * f * (b * b - 4 * a * c) = (m * l - n * k) * (m * l - n * k) * (B * B - 4 * A * C) := by
    have : f * f * (b * b - 4 * a * c) = (f * b) * (f * b) - 4 * (f * a) * (f * c) := by grind
    rw [this, fa, fb, fc]
    unfold c1 c2 c3
    grind
  have dpos := nsq_pos dp dn
  have Dp : 0 < b * b - 4 * a * c := by
    have : 0 < f * f * (b * b - 4 * a * c) := by rw [eD]; exact Int.mul_pos (K15.sq_pos hd) dpos
    exact Int.pos_of_mul_pos_right this ff |> fun h => h
  have Dn : ¬ isq (b * b - 4 * a * c) := fun ⟨t, t0, ht⟩ => by
    refine dn (isq_mul hd ?_ dp)
    rw [← eD, ← ht]
    rcases Int.le_total 0 f with z | z
    · exact ⟨f * t, Int.mul_nonneg z t0, by grind⟩
    · exact ⟨-f * t, Int.mul_nonneg (by omega) t0, by grind⟩
  have ga : (i f : R) * i a = i (c1 k l A B C) := by rw [← i_mul, fa]
  have gb : (i f : R) * i b = i (c2 m n k l A B C) := by rw [← i_mul, fb]
  have gc : (i f : R) * i c = i (c3 m n A B C) := by rw [← i_mul, fc]
  refine .four a0 gcd1 (by omega) Dn ?_ p ?_
  · refine s_nz f0 ?_
    rw [show i f * (i a * ((i m * N + i n * D) * (i m * N + i n * D)) + i b * ((i m * N + i n * D) * (i k * N + i l * D)) + i c * ((i k * N + i l * D) * (i k * N + i l * D))) = (i f * i a) * ((i m * N + i n * D) * (i m * N + i n * D)) + (i f * i b) * ((i m * N + i n * D) * (i k * N + i l * D)) + (i f * i c) * ((i k * N + i l * D) * (i k * N + i l * D)) by grind, ga, gb, gc, i_c1, i_c2, i_c3,
      show (i A * i l * i l - i B * i l * i k + i C * i k * i k) * ((i m * N + i n * D) * (i m * N + i n * D)) + (i B * (i l * i m + i n * i k) - 2 * i A * i l * i n - 2 * i C * i m * i k) * ((i m * N + i n * D) * (i k * N + i l * D)) + (i A * i n * i n - i B * i n * i m + i C * i m * i m) * ((i k * N + i l * D) * (i k * N + i l * D)) = (i m * i l - i n * i k) * (i m * i l - i n * i k) * (i A * (N * N) + i B * (N * D) + i C * (D * D)) by grind]
    exact nu_mul' e _
  · have h1 : s (D * (i f * (2 * i a * (i m * N + i n * D) + i b * (i k * N + i l * D)))) = s (i (m * l - n * k) * (2 * i A * N + i B * D) * (i k * N + i l * D)) := by
      refine s_sub0 _ _ ?_
      rw [show D * (i f * (2 * i a * (i m * N + i n * D) + i b * (i k * N + i l * D))) = D * (2 * (i f * i a) * (i m * N + i n * D) + (i f * i b) * (i k * N + i l * D)) by grind, ga, gb, i_c1, i_c2, i_sub, i_mul, i_mul,
        show D * (2 * (i A * i l * i l - i B * i l * i k + i C * i k * i k) * (i m * N + i n * D) + (i B * (i l * i m + i n * i k) - 2 * i A * i l * i n - 2 * i C * i m * i k) * (i k * N + i l * D)) - (i m * i l - i n * i k) * (2 * i A * N + i B * D) * (i k * N + i l * D) = -(2 * i k * (i m * i l - i n * i k) * (i A * (N * N) + i B * (N * D) + i C * (D * D))) by grind]
      exact nu_neg (nu_mul' e _)
    rw [mul, mul, mul (i (m * l - n * k) * (2 * i A * N + i B * D)), mul (i (m * l - n * k)), d0, i_s, i_s, hs, p, sgf] at h1
    generalize s (2 * i a * (i m * N + i n * D) + i b * (i k * N + i l * D)) = z at *
    rcases sgn_pm hd with q | q <;> rcases sgn_pm c0 with r | r <;> rw [q, r] at h1 ⊢ <;> omega
theorem rep_ch2 {N D : R} {x y m n k l : Int} (h : RepR N D [x, y]) (m0 : 0 ≤ m) (n0 : 0 ≤ n) (k0 : 0 ≤ k) (l0 : 0 ≤ l) (hd : m * l - n * k ≠ 0) : (m * x + n * y ≠ 0 ∨ k * x + l * y ≠ 0) ∧ RepR (i m * N + i n * D) (i k * N + i l * D) (bhPl m n k l [x, y]) := by
  cases h with
  | two x0 y0 co e p =>
  have nz : m * x + n * y ≠ 0 ∨ k * x + l * y ≠ 0 := by
    by_cases h1 : m * x + n * y = 0
    · by_cases h2 : k * x + l * y = 0
      · exfalso
        have e1 : (m * l - n * k) * x = 0 := by
          have : (m * l - n * k) * x = l * (m * x + n * y) - n * (k * x + l * y) := by grind
          rw [this, h1, h2]; omega
        have e2 : (m * l - n * k) * y = 0 := by
          have : (m * l - n * k) * y = m * (k * x + l * y) - k * (m * x + n * y) := by grind
          rw [this, h1, h2]; omega
        rcases Int.mul_eq_zero.mp e1 with h | h
        · exact hd h
        · rcases Int.mul_eq_zero.mp e2 with g | g
          · exact hd g
          · rw [h, g] at co; exact absurd co (by decide)
      · exact .inr h2
    · exact .inl h1
  refine ⟨nz, ?_⟩
  have f0 : 0 ≤ m * x + n * y := Int.add_nonneg (Int.mul_nonneg m0 x0) (Int.mul_nonneg n0 y0)
  have s0 : 0 ≤ k * x + l * y := Int.add_nonneg (Int.mul_nonneg k0 x0) (Int.mul_nonneg l0 y0)
  show RepR _ _ [(m * x + n * y) / (Int.gcd (m * x + n * y) (k * x + l * y) : Nat), (k * x + l * y) / (Int.gcd (m * x + n * y) (k * x + l * y) : Nat)]
  have g0 : 0 < ((Int.gcd (m * x + n * y) (k * x + l * y) : Nat) : Int) := by
    have : Int.gcd (m * x + n * y) (k * x + l * y) ≠ 0 := fun e => by
      have := Int.gcd_eq_zero_iff.mp e
      omega
    omega
  have h1 := Int.mul_ediv_cancel' (a := ((Int.gcd (m * x + n * y) (k * x + l * y) : Nat) : Int)) (b := m * x + n * y) (Int.gcd_dvd_left _ _)
  have h2 := Int.mul_ediv_cancel' (a := ((Int.gcd (m * x + n * y) (k * x + l * y) : Nat) : Int)) (b := k * x + l * y) (Int.gcd_dvd_right _ _)
  have h3 : Int.gcd ((m * x + n * y) / (Int.gcd (m * x + n * y) (k * x + l * y) : Nat)) ((k * x + l * y) / (Int.gcd (m * x + n * y) (k * x + l * y) : Nat)) = 1 := by
    rw [Int.gcd_ediv (Int.gcd_dvd_left _ _) (Int.gcd_dvd_right _ _), Int.natAbs_natCast]
    exact Nat.div_self (by omega)
  have u0 := Int.ediv_nonneg f0 (Int.le_of_lt g0)
  have v0 := Int.ediv_nonneg s0 (Int.le_of_lt g0)
  generalize ((Int.gcd (m * x + n * y) (k * x + l * y) : Nat) : Int) = g at *
  generalize (m * x + n * y) / g = u at *
  generalize (k * x + l * y) / g = v at *
  have iu : (i g : R) * i u = i m * i x + i n * i y := by rw [← i_mul, h1, i_add, i_mul, i_mul]
  have iv : (i g : R) * i v = i k * i x + i l * i y := by rw [← i_mul, h2, i_add, i_mul, i_mul]
  obtain ⟨n1, n2⟩ := two_pair e
  refine .two u0 v0 h3 ?_ ?_
  · refine s_nz (x := g) (by omega) ?_
    rw [show i g * ((i m * N + i n * D) * i v - i u * (i k * N + i l * D)) = (i m * N + i n * D) * (i g * i v) - (i g * i u) * (i k * N + i l * D) by grind, iu, iv, show (i m * N + i n * D) * (i k * i x + i l * i y) - (i m * i x + i n * i y) * (i k * N + i l * D) = (i m * i l - i n * i k) * (N * i y - i x * D) by grind]
    exact nu_mul' e _
  · have kk := co_nz co
    have sk : s (i (x * x + y * y) : R) = 1 := by rw [i_s]; exact sg_p kk
    have sg1 : s (i g : R) = 1 := by rw [i_s]; exact sg_p g0
    have pos : 0 < u * u + v * v := co_nz h3
    have e1 : s (i (x * x + y * y) * (i u * (i m * N + i n * D) + i v * (i k * N + i l * D))) = s (i g * (i x * N + i y * D) * i (u * u + v * v)) := by
      refine s_sub0 _ _ ?_
      generalize hL : i x * N + i y * D = L at *
      generalize (i (x * x + y * y) : R) = K at *
      rw [show K * (i u * (i m * N + i n * D) + i v * (i k * N + i l * D)) - i g * L * i (u * u + v * v) = (K * N - i x * L) * (i u * i m + i v * i k) + (K * D - i y * L) * (i u * i n + i v * i l) by
        rw [i_add, i_mul, i_mul, show i g * L * (i u * i u + i v * i v) = (i g * i u) * i u * L + (i g * i v) * i v * L by grind, iu, iv]; grind]
      exact nu_add (nu_mul n1 _) (nu_mul n2 _)
    rw [pos_mul sk] at e1
    rw [e1, mul, mul, sg1, p, i_s, sg_p pos]; rfl
end
end Pj

/-! ## the rings of one root and of two -/
namespace Pj
 open Sg Sg.SgR Lean.Grind Sg.Qx
 open Em
section
variable {R R' : Type} [CommRing R] [Em R] [CommRing R'] [Em R']
/-- what keeps sums, products, integers and signs -/
structure Hom (f : R → R') : Prop where
  a : ∀ x y, f (x + y) = f x + f y
  m : ∀ x y, f (x * y) = f x * f y
  i : ∀ x, f (i x) = i x
  s : ∀ x, s (f x) = s x
theorem Hom.two {f : R → R'} (h : Hom f) : f 2 = 2 := by rw [← i_two, h.i, i_two]
theorem Hom.n {f : R → R'} (h : Hom f) (x : R) : f (-x) = -f x := by
  have e : f (-x + x) = f (-x) + f x := h.a _ _
  rw [show -x + x = (Em.i 0 : R) by rw [i_zero]; grind, h.i, i_zero] at e
  grind
theorem Hom.u {f : R → R'} (h : Hom f) (x y : R) : f (x - y) = f x - f y := by
  rw [show x - y = x + -y by grind, h.a, h.n]; grind
theorem RepR.map {f : R → R'} (h : Hom f) {N D : R} {pl : List Int} (r : RepR N D pl) : RepR (f N) (f D) pl := by
  cases r with
  | two x0 y0 co e p =>
    rename_i x y
    refine .two x0 y0 co ?_ ?_
    · rw [← h.i, ← h.i, ← h.m, ← h.m, ← h.u, h.s]; exact e
    · rw [← h.i, ← h.i, ← h.m, ← h.m, ← h.a, h.s]; exact p
  | four A0 g dp dn e d0 hs =>
    refine .four A0 g dp dn ?_ (by rw [h.s]; exact d0) ?_
    · rw [← h.i, ← h.i, ← h.i, ← h.m, ← h.m, ← h.m, ← h.m, ← h.m, ← h.m, ← h.a, ← h.a, h.s]; exact e
    · rw [← h.two, ← h.i, ← h.i, ← h.m, ← h.m, ← h.m, ← h.a, h.s]; exact hs
end
def E0' : Em Int := { sgI with i := fun x => x, i_add := fun _ _ => rfl, i_mul := fun _ _ => rfl, i_one := rfl, i_s := fun _ => rfl }
def E1 {d : Int} (hd : 0 ≤ d) : Em (R1 d) := { I1 hd with
  i := fun x => ⟨x, 0⟩
  i_add := fun x y => by apply ext' <;> rfl
  i_mul := fun x y => by
    apply ext'
    · show x * y = x * y + 0 * 0 * d
      grind
    · show (0 : Int) = x * 0 + 0 * y
      omega
  i_one := rfl
  i_s := fun x => sq_base (c := d) x }
def E2 {d c : Int} (hd : 0 ≤ d) (hc : 0 ≤ c) : Em (T d c) := { I2 hd hc with
  i := ii
  i_add := ii_add
  i_mul := ii_mul
  i_one := rfl
  i_s := s_ii hd hc }
theorem sq_swr {d : Int} (hd : 0 ≤ d) (x y : Int) : (I1 hd).s (⟨x, y⟩ : R1 d) = swr x y d := by
  have h := s_d hd hd x y
  rw [← h]
  have e : (ii x + ii y * rd : T d d) = ⟨⟨x, y⟩, ⟨0, 0⟩⟩ := by
    apply x2
    · show x + (y * 0 + 0 * 1 * d + ((0 * 0 + 0 * 0 * d) * d + (0 * 0 + 0 * 0) * 0 * d)) = x
      grind
    · show 0 + (y * 1 + 0 * 0 + ((0 * 0 + 0 * 0 * d) * 0 + (0 * 0 + 0 * 0) * d)) = y
      grind
    · show 0 + (y * 0 + 0 * 0 * d + (0 * 0 + 0 * 1 * d)) = 0
      grind
    · show 0 + (y * 0 + 0 * 0 + (0 * 1 + 0 * 0)) = 0
      grind
  rw [e]
  exact (@sq_base _ _ (I1 hd) (up d) ⟨x, y⟩).symm
/-- the first ring within the tower, the second one within it -/
def fst {d c : Int} (x : R1 d) : T d c := ⟨x, ⟨0, 0⟩⟩
def snd {d c : Int} (x : R1 c) : T d c := ii x.a + ii x.b * rc
theorem hom_fst {d c : Int} (hd : 0 ≤ d) (hc : 0 ≤ c) : @Hom (R1 d) (T d c) _ (E1 hd) _ (E2 hd hc) fst := by
  letI := E1 hd
  letI := E2 hd hc
  refine ⟨fun x y => ?_, fun x y => ?_, fun x => rfl, fun x => @sq_base _ _ (I1 hd) (up c) x⟩
  · apply x2 <;> rfl
  · apply x2
    · show x.a * y.a + x.b * y.b * d = x.a * y.a + x.b * y.b * d + ((0 * 0 + 0 * 0 * d) * c + (0 * 0 + 0 * 0) * 0 * d)
      grind
    · show x.a * y.b + x.b * y.a = x.a * y.b + x.b * y.a + ((0 * 0 + 0 * 0 * d) * 0 + (0 * 0 + 0 * 0) * c)
      grind
    · show 0 = x.a * 0 + x.b * 0 * d + (0 * y.a + 0 * y.b * d)
      grind
    · show 0 = x.a * 0 + x.b * 0 + (0 * y.b + 0 * y.a)
      grind
theorem hom_snd {d c : Int} (hd : 0 ≤ d) (hc : 0 ≤ c) : @Hom (R1 c) (T d c) _ (E1 hc) _ (E2 hd hc) snd := by
  letI := E1 hc
  letI := E2 hd hc
  refine ⟨fun x y => ?_, fun x y => ?_, fun x => ?_, fun x => ?_⟩
  · show ii (x.a + y.a) + ii (x.b + y.b) * rc = ii x.a + ii x.b * rc + (ii y.a + ii y.b * rc)
    rw [ii_add, ii_add]; grind
  · show ii (x.a * y.a + x.b * y.b * c) + ii (x.a * y.b + x.b * y.a) * rc = (ii x.a + ii x.b * rc) * (ii y.a + ii y.b * rc)
    rw [ii_add, ii_add, ii_mul, ii_mul, ii_mul, ii_mul, ii_mul, ← rc2]; grind
  · show ii x + ii 0 * rc = ii x
    rw [show (ii 0 : T d c) = 0 from rfl]; grind
  · show (I2 hd hc).s (ii x.a + ii x.b * rc) = (I1 hc).s x
    rw [s_c hd hc]
    exact (sq_swr hc x.a x.b).symm
/-- the place of (p + q root d) / r as a pair -/
theorem rep_pair {g : G4} {pl : List Int} (d0 : 0 ≤ g.d) (h : Rep g pl) (w : 0 < swr g.p g.q g.d) : @RepR (R1 g.d) _ (E1 d0) ⟨g.p, g.q⟩ ⟨g.r, 0⟩ pl := by
  letI := E1 d0
  have is : ∀ x : Int, (i x : R1 g.d) = ⟨x, 0⟩ := fun x => rfl
  have sw : ∀ x y : Int, s (⟨x, y⟩ : R1 g.d) = swr x y g.d := fun x y => sq_swr d0 x y
  cases h with
  | two d0' r0 t0 ht y0 x0 y1 e co =>
    rename_i x y t
    have ev : ∀ X Y : Int, g.q = 0 → Y = g.q * y → swr X Y g.d = sg X := fun X Y hq hY => by rw [hY, hq, Int.zero_mul, swr_0]
    have val : ∀ X Y : Int, (g.q = 0 → Y = 0) → swr X Y g.d = sg (X + Y * t) := fun X Y hY => by
      rcases ht with ht | ht
      · rw [hY ht, swr_0, Int.zero_mul, Int.add_zero]
      · exact swr_sq d0 t0 ht _ _
    have wp : 0 < g.p + g.q * t := by
      rw [val g.p g.q fun h => h] at w
      rcases sg_c (g.p + g.q * t) with ⟨k, _⟩ | ⟨_, k⟩ | ⟨_, k⟩ <;> omega
    refine .two x0 y0 co ?_ ?_
    · have : (⟨g.p, g.q⟩ : R1 g.d) * i y - i x * ⟨g.r, 0⟩ = ⟨g.p * y - x * g.r, g.q * y⟩ := by
        apply ext'
        · show g.p * y + g.q * 0 * g.d - (x * g.r + 0 * 0 * g.d) = g.p * y - x * g.r
          grind
        · show g.p * 0 + g.q * y - (x * 0 + 0 * g.r) = g.q * y
          grind
      rw [this, sw, val _ _ (fun h => by rw [h, Int.zero_mul])]
      have : g.p * y - x * g.r + g.q * y * t = 0 := by
        have : g.p * y - x * g.r + g.q * y * t = (g.p + g.q * t) * y - x * g.r := by grind
        rw [this, e]; omega
      rw [this]; rfl
    · have : (i x : R1 g.d) * ⟨g.p, g.q⟩ + i y * ⟨g.r, 0⟩ = ⟨x * g.p + y * g.r, x * g.q⟩ := by
        apply ext'
        · show x * g.p + 0 * g.q * g.d + (y * g.r + 0 * 0 * g.d) = x * g.p + y * g.r
          grind
        · show x * g.q + 0 * g.p + (y * 0 + 0 * g.r) = x * g.q
          grind
      rw [this, sw, val _ _ (fun h => by rw [h, Int.mul_zero])]
      refine sg_p ?_
      have e1 : x * g.p + y * g.r + x * g.q * t = x * (g.p + g.q * t) + y * g.r := by grind
      rw [e1]
      have h1 := Int.mul_nonneg x0 (Int.le_of_lt wp)
      have h2 := Int.mul_pos y1 r0
      omega
  | four d0' r0 q0 dn red hs =>
    rename_i A B C f sd
    have A0 := red_A r0 red
    have Dp := red_Dp r0 d0 q0 dn red
    have eD := red_D red
    refine .four A0 red.g (by omega) ?_ ?_ ?_ ?_
    · intro ⟨t, t1, t2⟩
      refine dn (K10.isq_mul (m := 2 * g.q * g.r) (fun e => ?_) ⟨f * t, Int.mul_nonneg (Int.le_of_lt red.f0) t1, ?_⟩ d0)
      · rcases Int.mul_eq_zero.mp e with e | e
        · rcases Int.mul_eq_zero.mp e with e | e <;> omega
        · omega
      · have : f * t * (f * t) = f * f * (t * t) := by grind
        rw [this, t2, eD]; grind
    · have f0 : f ≠ 0 := by have := red.f0; omega
      refine s_nz f0 ?_
      have : (i f : R1 g.d) * (i A * ((⟨g.p, g.q⟩ : R1 g.d) * ⟨g.p, g.q⟩) + i B * ((⟨g.p, g.q⟩ : R1 g.d) * ⟨g.r, 0⟩) + i C * ((⟨g.r, 0⟩ : R1 g.d) * ⟨g.r, 0⟩)) = 0 := by
        have e1 : (i f : R1 g.d) * (i A * ((⟨g.p, g.q⟩ : R1 g.d) * ⟨g.p, g.q⟩) + i B * ((⟨g.p, g.q⟩ : R1 g.d) * ⟨g.r, 0⟩) + i C * ((⟨g.r, 0⟩ : R1 g.d) * ⟨g.r, 0⟩)) = i (f * A) * ((⟨g.p, g.q⟩ : R1 g.d) * ⟨g.p, g.q⟩) + i (f * B) * ((⟨g.p, g.q⟩ : R1 g.d) * ⟨g.r, 0⟩) + i (f * C) * ((⟨g.r, 0⟩ : R1 g.d) * ⟨g.r, 0⟩) := by rw [i_mul, i_mul, i_mul]; grind
        rw [e1, red.ha, red.hb, red.hc]
        apply ext'
        · show g.r * g.r * (g.p * g.p + g.q * g.q * g.d) + 0 * (g.p * g.q + g.q * g.p) * g.d + (-2 * g.p * g.r * (g.p * g.r + g.q * 0 * g.d) + 0 * (g.p * 0 + g.q * g.r) * g.d) + ((g.p * g.p - g.q * g.q * g.d) * (g.r * g.r + 0 * 0 * g.d) + 0 * (g.r * 0 + 0 * g.r) * g.d) = 0
          grind
        · show g.r * g.r * (g.p * g.q + g.q * g.p) + 0 * (g.p * g.p + g.q * g.q * g.d) + (-2 * g.p * g.r * (g.p * 0 + g.q * g.r) + 0 * (g.p * g.r + g.q * 0 * g.d)) + ((g.p * g.p - g.q * g.q * g.d) * (g.r * 0 + 0 * g.r) + 0 * (g.r * g.r + 0 * 0 * g.d)) = 0
          grind
      rw [this]; exact s_zero
    · rw [sw, swr_0]; exact sg_p r0
    · have : s (i f * (2 * i A * (⟨g.p, g.q⟩ : R1 g.d) + i B * ⟨g.r, 0⟩)) = sg g.q := by
        have e1 : (i f : R1 g.d) * (2 * i A * (⟨g.p, g.q⟩ : R1 g.d) + i B * ⟨g.r, 0⟩) = ⟨0, 2 * (g.r * g.r) * g.q⟩ := by
          have e2 : (i f : R1 g.d) * (2 * i A * (⟨g.p, g.q⟩ : R1 g.d) + i B * ⟨g.r, 0⟩) = 2 * i (f * A) * (⟨g.p, g.q⟩ : R1 g.d) + i (f * B) * ⟨g.r, 0⟩ := by rw [i_mul, i_mul]; grind
          rw [e2, red.ha, red.hb, ← i_two, ← i_mul]
          apply ext'
          · show 2 * (g.r * g.r) * g.p + 0 * g.q * g.d + (-2 * g.p * g.r * g.r + 0 * 0 * g.d) = 0
            grind
          · show 2 * (g.r * g.r) * g.q + 0 * g.p + (-2 * g.p * g.r * 0 + 0 * g.r) = 2 * (g.r * g.r) * g.q
            grind
        rw [e1, sw]
        have dpos := sg_p (nsq_pos d0 dn)
        have rr : 0 < 2 * (g.r * g.r) := by have := Int.mul_pos r0 r0; omega
        unfold swr
        rw [dpos, Int.mul_one, sg_mul, sg_p rr, Int.one_mul, sg_z]
        rcases K15.sg_nz q0 with h | h <;> rw [h] <;> rfl
      rw [pos_mul (by rw [i_s]; exact sg_p red.f0)] at this
      rw [this, hs]
end Pj

/-! ## the words of pairs -/
namespace Pj
 open Sg Sg.SgR Lean.Grind
 open Em
section
variable {R : Type} [CommRing R] [Em R]
/-- the first letters of N / D (true: r) -/
def wdp : Nat → R → R → List Bool
  | 0, _, _ => []
  | n + 1, N, D => if s (N - D) = 0 then [] else if s (N - D) < 0 then false :: wdp n N (D - N) else true :: wdp n (N - D) D
/-- words with the end between l and r -/
def wcmp : List Bool → List Bool → Int
  | [], [] => 0
  | [], false :: _ => 1
  | [], true :: _ => -1
  | false :: _, [] => -1
  | true :: _, [] => 1
  | false :: u, false :: v => wcmp u v
  | true :: u, true :: v => wcmp u v
  | false :: _, true :: _ => -1
  | true :: _, false :: _ => 1
/-- a pair from 0 to endless -/
structure Pr (N D : R) : Prop where
  n : s N = 1 ∨ s N = 0
  d : s D = 1 ∨ s D = 0
  p : s N = 1 ∨ s D = 1
theorem Pr.l {N D : R} (h : Pr N D) (e : s (N - D) < 0) : Pr N (D - N) := by
  have e1 : s (D - N) = 1 := by
    rw [show D - N = -(N - D) by grind, neg]
    rcases tri (N - D) with z | z | z <;> omega
  exact ⟨h.n, .inl e1, .inr e1⟩
theorem Pr.r {N D : R} (h : Pr N D) (e0 : s (N - D) ≠ 0) (e : ¬ s (N - D) < 0) : Pr (N - D) D := by
  have e1 : s (N - D) = 1 := by rcases tri (N - D) with z | z | z <;> omega
  exact ⟨.inl e1, h.d, .inl e1⟩
theorem s_lt {N D : R} (h : Pr N D) (e : s (N - D) < 0) : s D = 1 := by
  rcases h.d with z | z
  · exact z
  · have : s N = 1 := by rcases h.p with p | p <;> omega
    rw [show N - D = N + -D by grind, s_addr0 _ _ (by rw [neg, z]; rfl), this] at e
    omega
/-- words in the order of their numbers -/
theorem ord_wdp : ∀ (n : Nat) (N D M E : R), Pr N D → Pr M E → wcmp (wdp n N D) (wdp n M E) = 0 ∨ wcmp (wdp n N D) (wdp n M E) = s (N * E - M * D)
  | 0, _, _, _, _, _, _ => .inl rfl
  | n + 1, N, D, M, E, h, g => by
    have key : ∀ {N D M E : R}, Pr N D → Pr M E → s (N - D) ≤ 0 → 0 ≤ s (M - E) → (s (N - D) < 0 ∨ 0 < s (M - E)) → s (N * E - M * D) = -1 := fun {N D M E} h g a b c => by
      have e : N * E - M * D = -((D - N) * E + (M - E) * D) := by grind
      have sd : s (D - N) = - s (N - D) := by rw [← neg]; congr 1; grind
      have a1 : s ((D - N) * E) = 1 ∨ s ((D - N) * E) = 0 := by
        rw [mul, sd]
        rcases tri (N - D) with z | z | z <;> rcases g.d with w | w <;> rw [z, w] <;> omega
      have a2 : s ((M - E) * D) = 1 ∨ s ((M - E) * D) = 0 := by
        rw [mul]
        rcases tri (M - E) with z | z | z <;> rcases h.d with w | w <;> rw [z, w] <;> omega
      have a3 : s ((D - N) * E) = 1 ∨ s ((M - E) * D) = 1 := by
        rw [mul, mul, sd]
        rcases c with c | c
        · have d1 := s_lt h c
          rcases tri (N - D) with z | z | z
          · omega
          · omega
          · rcases g.d with w | w
            · exact .inl (by rw [z, w]; rfl)
            · have m1 : s M = 1 := by rcases g.p with p | p <;> omega
              have : s (M - E) = 1 := by rw [show M - E = M + -E by grind, s_addr0 _ _ (by rw [neg, w]; rfl), m1]
              exact .inr (by rw [this, d1]; rfl)
        · have c1 : s (M - E) = 1 := by rcases tri (M - E) with z | z | z <;> omega
          rcases h.d with w | w
          · exact .inr (by rw [c1, w]; rfl)
          · have n1 : s N = 1 := by rcases h.p with p | p <;> omega
            have : s (N - D) = 1 := by rw [show N - D = N + -D by grind, s_addr0 _ _ (by rw [neg, w]; rfl), n1]
            omega
      rw [e, neg]
      rcases a3 with z | z
      · rw [s_add1 _ _ z a2]
      · rw [Qx.s_add1' _ _ a1 z]
    have anti : s (N * E - M * D) = - s (M * D - N * E) := by rw [← neg]; congr 1; grind
    unfold wdp
    by_cases p0 : s (N - D) = 0
    · rw [if_pos p0]
      by_cases q0 : s (M - E) = 0
      · rw [if_pos q0]; exact .inl rfl
      · rw [if_neg q0]
        by_cases q1 : s (M - E) < 0
        · rw [if_pos q1, anti, key g h (by omega) (by omega) (.inl q1)]
          exact .inr rfl
        · rw [if_neg q1, key h g (by omega) (by omega) (.inr (by omega))]
          exact .inr rfl
    · rw [if_neg p0]
      by_cases p1 : s (N - D) < 0
      · rw [if_pos p1]
        by_cases q0 : s (M - E) = 0
        · rw [if_pos q0, key h g (by omega) (by omega) (.inl p1)]
          exact .inr rfl
        · rw [if_neg q0]
          by_cases q1 : s (M - E) < 0
          · rw [if_pos q1]
            have := ord_wdp n N (D - N) M (E - M) (h.l p1) (g.l q1)
            rw [show N * (E - M) - M * (D - N) = N * E - M * D by grind] at this
            exact this
          · rw [if_neg q1, key h g (by omega) (by omega) (.inl p1)]
            exact .inr rfl
      · rw [if_neg p1]
        by_cases q0 : s (M - E) = 0
        · rw [if_pos q0, anti, key g h (by omega) (by omega) (.inr (by omega))]
          exact .inr rfl
        · rw [if_neg q0]
          by_cases q1 : s (M - E) < 0
          · rw [if_pos q1, anti, key g h (by omega) (by omega) (.inl q1)]
            exact .inr rfl
          · rw [if_neg q1]
            have := ord_wdp n (N - D) D (M - E) E (h.r p0 p1) (g.r q0 q1)
            rw [show (N - D) * E - (M - E) * D = N * E - M * D by grind] at this
            exact this
end
end Pj

/-! ## the forms along a word stay small -/
namespace Fo
open Or K10
inductive Fm (K A B C : Int) : Prop
  | sep (A0 : 0 < A) (C0 : C < 0) : Fm K A B C
  | both (A0 : 0 < A) (C0 : 0 < C) (B0 : B < 0) (a : A ≤ K) (b : -B ≤ K) (c : C ≤ K) : Fm K A B C
theorem Fm.pos {K A B C : Int} (h : Fm K A B C) : 0 < A := by cases h <;> assumption
theorem fm_bd {K A B C : Int} (h : Fm K A B C) (hL : B * B - 4 * A * C ≤ K) : A ≤ K ∧ -K ≤ B ∧ B ≤ K ∧ -K ≤ C ∧ C ≤ K := by
  cases h with
  | sep A0 C0 =>
    have h1 : A * 1 ≤ A * (-C) := Int.mul_le_mul_of_nonneg_left (by omega) (by omega)
    have h2 : 1 * (-C) ≤ A * (-C) := Int.mul_le_mul_of_nonneg_right (by omega) (by omega)
    have e : 4 * A * C = -(4 * (A * (-C))) := by grind
    have b0 : 0 ≤ B * B := by rcases Int.le_total 0 B with z | z; exact Int.mul_nonneg z z; exact Int.mul_nonneg_of_nonpos_of_nonpos z z
    have b1 : B ≤ B * B ∧ -B ≤ B * B := by
      rcases Int.lt_trichotomy B 0 with z | z | z
      · have := Int.mul_le_mul_of_nonneg_left (show 1 ≤ -B by omega) (show 0 ≤ -B by omega)
        have e2 : -B * -B = B * B := Int.neg_mul_neg B B
        omega
      · subst z; omega
      · have := Int.mul_le_mul_of_nonneg_left (show 1 ≤ B by omega) (show 0 ≤ B by omega)
        omega
    omega
  | both A0 C0 B0 a b c => omega
/-- on which side of 1 a number with a root lies -/
theorem side {A B C sd : Int} (A0 : 0 < A) (dp : 0 < B * B - 4 * A * C) (hs : sd = 1 ∨ sd = -1) : (0 < A + B + C → cmp4 A B C sd [1, 1] = sg (-B - 2 * A)) ∧ (A + B + C < 0 → cmp4 A B C sd [1, 1] = sd) := by
  have e : cmp4 A B C sd [1, 1] = swr (-B - 2 * A) sd (B * B - 4 * A * C) := by
    show swr ((0 - B) * 1 - 1 * (2 * A)) (sd * 1) (B * B - 4 * A * C) = _
    congr 1 <;> omega
  have ss : sd * sd = 1 := by rcases hs with h | h <;> rw [h] <;> rfl
  have gap : (-B - 2 * A) * (-B - 2 * A) - sd * sd * (B * B - 4 * A * C) = 4 * A * (A + B + C) := by rw [ss]; grind
  have s1 : sg sd = sd := by rcases hs with h | h <;> rw [h] <;> rfl
  rw [e]
  unfold swr
  rw [gap, sg_p dp, Int.mul_one, s1, sg_mul, sg_p (show 0 < 4 * A by omega), Int.one_mul]
  constructor
  · intro q
    rw [sg_p q]
    rcases sg_c (-B - 2 * A) with ⟨z, h⟩ | ⟨z, h⟩ | ⟨z, h⟩ <;> rw [h]
    · split <;> simp
    · exfalso
      have : 4 * A * (A + B + C) = (-B - 2 * A) * (-B - 2 * A) - (B * B - 4 * A * C) := by rw [← gap, ss]; omega
      rw [z] at this
      have := Int.mul_pos (show 0 < 4 * A by omega) q
      omega
    · split <;> simp
  · intro q
    rw [sg_n q]
    rcases sg_c (-B - 2 * A) with ⟨z, h⟩ | ⟨z, h⟩ | ⟨z, h⟩ <;> rw [h] <;> rcases hs with g | g <;> rw [g] <;> rfl
end Fo
namespace Fo
open Or K10
/-- the next form, by the letter -/
theorem fm_next {K A B C sd : Int} (h : Fm K A B C) (dp : 0 < B * B - 4 * A * C) (hs : sd = 1 ∨ sd = -1) (hz : C < 0 → sd = 1) (q0 : A + B + C ≠ 0) :
    (cmp4 A B C sd [1, 1] < 0 → (0 < A + B + C ∧ Fm K (A + B + C) (B + 2 * C) C) ∨ (A + B + C < 0 ∧ Fm K (-(A + B + C)) (-(B + 2 * C)) (-C))) ∧
    (¬ cmp4 A B C sd [1, 1] < 0 → Fm K A (B + 2 * A) (A + B + C)) := by
  obtain ⟨hp, hn⟩ := side h.pos dp hs
  cases h with
  | sep A0 C0 =>
    have s1 := hz C0
    constructor
    · intro c
      rcases Int.lt_or_gt_of_ne q0 with q | q
      · exfalso
        have := hn q
        omega
      · left; exact ⟨q, .sep q C0⟩
    · intro c
      rcases Int.lt_or_gt_of_ne q0 with q | q
      · exact .sep A0 q
      · exfalso
        have := hp q
        rw [sg_n (by omega)] at this
        omega
  | both A0 C0 B0 a b c0 =>
    constructor
    · intro c
      rcases Int.lt_or_gt_of_ne q0 with q | q
      · right; exact ⟨q, .sep (by omega) (by omega)⟩
      · left
        rw [hp q] at c
        have h1 : -B - 2 * A < 0 := by rcases sg_c (-B - 2 * A) with ⟨z, e⟩ | ⟨z, e⟩ | ⟨z, e⟩ <;> omega
        have h2 : 2 * C < -B := by
          rcases Int.lt_or_le (2 * C) (-B) with z | z
          · exact z
          · exfalso
            have h3 : -B * -B ≤ 2 * A * (2 * C) := Int.mul_le_mul (by omega) z (by omega) (by omega)
            rw [Int.neg_mul_neg] at h3
            have : 2 * A * (2 * C) = 4 * A * C := by grind
            omega
        exact ⟨q, .both q C0 (by omega) (by omega) (by omega) c0⟩
    · intro c
      rcases Int.lt_or_gt_of_ne q0 with q | q
      · exact .sep A0 q
      · rw [hp q] at c
        have h1 : 0 ≤ -B - 2 * A := by rcases sg_c (-B - 2 * A) with ⟨z, e⟩ | ⟨z, e⟩ | ⟨z, e⟩ <;> omega
        have h2 : B + 2 * A ≠ 0 := fun e => by
          have eB : B = -(2 * A) := by omega
          subst eB
          have : -(2 * A) * -(2 * A) - 4 * A * C = 4 * (A * (A - C)) := by grind
          rw [this] at dp
          have : A * (A - C) ≤ 0 := Int.mul_nonpos_of_nonneg_of_nonpos (by omega) (by omega)
          omega
        exact .both A0 q (by omega) a (by omega) (by omega)
end Fo

/-! ## the places along a word -/
namespace Fo
open Or K10
/-- a place of a number with a root, small -/
structure Sm (K A B C sd : Int) : Prop where
  f : Fm K A B C
  dp : 0 < B * B - 4 * A * C
  dk : B * B - 4 * A * C ≤ K
  dn : ¬ isq (B * B - 4 * A * C)
  s : sd = 1 ∨ sd = -1
  z : C < 0 → sd = 1
  g : Int.gcd (Int.gcd A B) C = 1
def nextPl (pl : List Int) : List Int := if cmpPl pl [1, 1] < 0 then bhPl 1 0 (-1) 1 pl else bhPl 1 (-1) 0 1 pl
def flw : Nat → List Int → List Bool
  | 0, _ => []
  | n + 1, pl => decide (¬ cmpPl pl [1, 1] < 0) :: flw n (nextPl pl)
theorem lwd_1 {X Y Z u : Int} (hX : X ≠ 0) (hg : Int.gcd (Int.gcd X Y) Z = 1) : lwd X Y Z u = [sg X * X, sg X * Y, sg X * Z, u] := by
  unfold lwd lwf
  rw [hg]
  by_cases h : X < 0
  · rw [if_pos h, sg_n h]
    have n0 : (0 - ((1 : Nat) : Int)) ≠ 0 := by decide
    rw [Int.fdiv_eq_of_eq_mul_right n0 (show X = (0 - ((1 : Nat) : Int)) * (-1 * X) by grind), Int.fdiv_eq_of_eq_mul_right n0 (show Y = (0 - ((1 : Nat) : Int)) * (-1 * Y) by grind), Int.fdiv_eq_of_eq_mul_right n0 (show Z = (0 - ((1 : Nat) : Int)) * (-1 * Z) by grind)]
  · rw [if_neg h, sg_p (show 0 < X by omega)]
    have n0 : ((1 : Nat) : Int) ≠ 0 := by decide
    rw [Int.fdiv_eq_of_eq_mul_right n0 (show X = ((1 : Nat) : Int) * (1 * X) by grind), Int.fdiv_eq_of_eq_mul_right n0 (show Y = ((1 : Nat) : Int) * (1 * Y) by grind), Int.fdiv_eq_of_eq_mul_right n0 (show Z = ((1 : Nat) : Int) * (1 * Z) by grind)]
/-- what divides the new numbers divides the old ones -/
theorem gcd_next {A B C X Y Z : Int} (g : Int.gcd (Int.gcd A B) C = 1) (h : ∀ k : Int, k ∣ X → k ∣ Y → k ∣ Z → k ∣ A ∧ k ∣ B ∧ k ∣ C) : Int.gcd (Int.gcd X Y) Z = 1 := by
  have h1 : (Int.gcd (Int.gcd X Y : Int) Z : Int) ∣ (Int.gcd X Y : Int) := Int.gcd_dvd_left _ _
  obtain ⟨a, b, c⟩ := h _ (Int.dvd_trans h1 (Int.gcd_dvd_left _ _)) (Int.dvd_trans h1 (Int.gcd_dvd_right _ _)) (Int.gcd_dvd_right _ _)
  have d1 := Int.dvd_gcd a b
  have d2 := Int.dvd_gcd (Int.natCast_dvd_natCast.mpr d1) c
  rw [g] at d2
  exact Nat.dvd_one.mp d2
theorem Sm.q0 {K A B C sd : Int} (h : Sm K A B C sd) : A + B + C ≠ 0 := fun e => by
  refine h.dn ?_
  have eB : B = -(A + C) := by omega
  subst eB
  have : -(A + C) * -(A + C) - 4 * A * C = (A - C) * (A - C) := by grind
  rw [this]
  rcases Int.le_total 0 (A - C) with z | z
  · exact ⟨_, z, rfl⟩
  · exact ⟨-(A - C), by omega, by rw [Int.neg_mul_neg]⟩
theorem next_l (A B C sd : Int) : bhPl 1 0 (-1) 1 [A, B, C, sd] = lwd (A + B + C) (B + 2 * C) C (sd * sg (A + B + C)) := by
  have x1 : c1 (-1) 1 A B C = A + B + C := by unfold c1; grind
  have x2 : c2 1 0 (-1) 1 A B C = B + 2 * C := by unfold c2; grind
  have x3 : c3 1 0 A B C = C := by unfold c3; grind
  show lwd (c1 (-1) 1 A B C) (c2 1 0 (-1) 1 A B C) (c3 1 0 A B C) (sd * (sg (1 * 1 - 0 * -1) * sg (c1 (-1) 1 A B C))) = _
  rw [x1, x2, x3, show sg (1 * 1 - 0 * -1) = 1 from rfl, Int.one_mul]
theorem next_r {A B C sd : Int} (A0 : 0 < A) : bhPl 1 (-1) 0 1 [A, B, C, sd] = lwd A (B + 2 * A) (A + B + C) sd := by
  have x1 : c1 0 1 A B C = A := by unfold c1; grind
  have x2 : c2 1 (-1) 0 1 A B C = B + 2 * A := by unfold c2; grind
  have x3 : c3 1 (-1) A B C = A + B + C := by unfold c3; grind
  show lwd (c1 0 1 A B C) (c2 1 (-1) 0 1 A B C) (c3 1 (-1) A B C) (sd * (sg (1 * 1 - -1 * 0) * sg (c1 0 1 A B C))) = _
  rw [x1, x2, x3, show sg (1 * 1 - -1 * 0) = 1 from rfl, Int.one_mul, sg_p A0, Int.mul_one]
theorem Sm.next {K A B C sd : Int} (h : Sm K A B C sd) : ∃ A' B' C' sd' : Int, nextPl [A, B, C, sd] = [A', B', C', sd'] ∧ Sm K A' B' C' sd' := by
  have q0 := h.q0
  have A0 := h.f.pos
  obtain ⟨fl, fr⟩ := fm_next h.f h.dp h.s h.z q0
  obtain ⟨hp, hn⟩ := side (A := A) (B := B) (C := C) A0 h.dp h.s
  show ∃ A' B' C' sd' : Int, (if cmp4 A B C sd [1, 1] < 0 then bhPl 1 0 (-1) 1 [A, B, C, sd] else bhPl 1 (-1) 0 1 [A, B, C, sd]) = _ ∧ _
  by_cases c : cmp4 A B C sd [1, 1] < 0
  · rw [if_pos c, next_l]
    have g : Int.gcd (Int.gcd (A + B + C) (B + 2 * C)) C = 1 := gcd_next h.g fun k ⟨x, hx⟩ ⟨y, hy⟩ ⟨z, hz⟩ => ⟨⟨x - y + z, by rw [Int.mul_add, Int.mul_sub, ← hx, ← hy, ← hz]; omega⟩, ⟨y - 2 * z, by
      have : k * (2 * z) = 2 * (k * z) := by grind
      rw [Int.mul_sub, this, ← hy, ← hz]; omega⟩, ⟨z, hz⟩⟩
    rw [lwd_1 q0 g]
    have eD : (B + 2 * C) * (B + 2 * C) - 4 * (A + B + C) * C = B * B - 4 * A * C := by grind
    rcases fl c with ⟨q, f⟩ | ⟨q, f⟩
    · rw [sg_p q]
      refine ⟨_, _, _, _, rfl, ?_⟩
      rw [Int.one_mul, Int.one_mul, Int.one_mul, Int.mul_one]
      exact ⟨f, by rw [eD]; exact h.dp, by rw [eD]; exact h.dk, by rw [eD]; exact h.dn, h.s, h.z, g⟩
    · have s1 : sd = -1 := by have := hn q; have := h.s; omega
      rw [sg_n q, s1]
      refine ⟨_, _, _, _, rfl, ?_⟩
      have n1 : ∀ x : Int, -1 * x = -x := fun x => by omega
      rw [n1, n1, n1]
      have eD' : -(B + 2 * C) * -(B + 2 * C) - 4 * -(A + B + C) * -C = B * B - 4 * A * C := by grind
      exact ⟨f, by rw [eD']; exact h.dp, by rw [eD']; exact h.dk, by rw [eD']; exact h.dn, .inl rfl, fun _ => rfl, by rw [Int.neg_gcd, Int.gcd_neg, Int.gcd_neg]; exact g⟩
  · rw [if_neg c, next_r A0]
    have g : Int.gcd (Int.gcd A (B + 2 * A)) (A + B + C) = 1 := gcd_next h.g fun k ⟨x, hx⟩ ⟨y, hy⟩ ⟨z, hz⟩ => ⟨⟨x, hx⟩, ⟨y - 2 * x, by
      have : k * (2 * x) = 2 * (k * x) := by grind
      rw [Int.mul_sub, this, ← hx, ← hy]; omega⟩, ⟨z - y + x, by rw [Int.mul_add, Int.mul_sub, ← hx, ← hy, ← hz]; omega⟩⟩
    rw [lwd_1 (by omega) g, sg_p A0]
    have eD : (B + 2 * A) * (B + 2 * A) - 4 * A * (A + B + C) = B * B - 4 * A * C := by grind
    refine ⟨_, _, _, _, rfl, ?_⟩
    rw [Int.one_mul, Int.one_mul, Int.one_mul]
    refine ⟨fr c, by rw [eD]; exact h.dp, by rw [eD]; exact h.dk, by rw [eD]; exact h.dn, h.s, fun q => ?_, g⟩
    have := hn q
    have := h.s
    omega
theorem Sm.bd {K A B C sd : Int} {n : Nat} (h : Sm K A B C sd) (hK : K < 2 ^ n) : Bd n A ∧ Bd n B ∧ Bd n C := by
  obtain ⟨a, b1, b2, c1, c2⟩ := fm_bd h.f h.dk
  have A0 := h.f.pos
  have k0 : 0 < K := by have := h.dp; have := h.dk; omega
  have go : ∀ x : Int, -K ≤ x → x ≤ K → Bd n x := fun x h0 h1 => by
    have : ((x.natAbs : Nat) : Int) < 2 ^ n := by omega
    show x.natAbs < 2 ^ n
    exact_mod_cast this
  exact ⟨go _ (by omega) a, go _ b1 b2, go _ c1 c2⟩
end Fo

/-! ## the letters of edges -/
namespace Lt
open Or Pj Eo
/-- a step from a number with a root -/
inductive PlS : List Int → Prop
  | four {A B C s : Int} (ba : Bd 90 A) (bb : Bd 90 B) (bc : Bd 90 C) (bs : Bd 4 s) : PlS [A, B, C, s]
def sp_step (K : PySem.W.Frag) : Sp := fun vs H Q _ => ∃ (p : Addr) (A B C sd : Int), vs = [.ref p] ∧ H p = some (.tup [.int A, .int B, .int C, .int sd]) ∧ PlS [A, B, C, sd] ∧ c1 (if cmp4 A B C sd [1, 1] < 0 then -1 else 0) 1 A B C ≠ 0 ∧
  ∀ (t r : Addr) (H' : Hp), Same H H' → H' r = some (.tup ((if cmp4 A B C sd [1, 1] < 0 then bhPl 1 0 (-1) 1 [A, B, C, sd] else bhPl 1 (-1) 0 1 [A, B, C, sd]).map V.int)) → H' t = some (.tup [.str (enc [decide (¬ cmp4 A B C sd [1, 1] < 0)]), .ref r]) → Q (.ref t) H'
end Lt
open Lt
section
variable {P : Program} {w : World} {K : PySem.W.Frag} {mg : Str → Option Value} {base : Heap}
theorem ok_step {f : Addr} {fd : FuncData} (F : Fun K "step" "step" S_step f fd) (T : Txt K mg) (C_cmp4 : FnC P w K mg base CX0 4 "compared" ["one", "other"] (sp_cmp4 K)) (C_changed : FnC P w K mg base CX0 3 "changed" ["root", "numbers"] (sp_changed K)) : FnOk P w K mg base CX0 6 f fd ["root"] (sp_step K) := by
  refine F.ok SC_step (fun vs H Q E h => ?_) (fun cdv A outer s H vs Q E hr h => ?_)
  · obtain ⟨p, A, B, C, sd, rfl, _⟩ := h
    rfl
  · obtain ⟨p, A, B, C, sd, rfl, hp, ho, hc, k⟩ := h
    refine ⟨_, (pss_cons (ps_if (pt_cmpR op_lt (pe_callC C_cmp4 (hr.mono (by decide)) rfl (pa_cons (pv 0) (pa_cons (pe_tupN (pa_cons pe_int (pa_cons pe_int pa_nil))) pa_nil))) pe_int (nomark _)) (pss_one (ps_ret (pe_tupN (pa_cons pe_str (pa_cons (pe_callC C_changed (hr.mono (by decide)) rfl (pa_cons (pv 0) (pa_cons (pe_tupN (pa_cons pe_int (pa_cons pe_int (pa_cons (pe_un un_neg pe_int) (pa_cons pe_int pa_nil))))) pa_nil))) pa_nil))))) pss_nil)
      (pss_one (ps_ret (pe_tupN (pa_cons pe_str (pa_cons (pe_callC C_changed (hr.mono (by decide)) rfl (pa_cons (pv 0) (pa_cons (pe_tupN (pa_cons pe_int (pa_cons (pe_un un_neg pe_int) (pa_cons pe_int (pa_cons pe_int pa_nil))))) pa_nil))) pa_nil)))))), ?_⟩
    have W := (Ho.start H).call (Same.refl H) hp
    cases ho with
    | four ba bb bc bs =>
      have po1 : PlO [1, 1] := .two ((Bd.lit (by decide)).mono (by decide)) ((Bd.lit (by decide)).mono (by decide))
      have l0 : Bd 200 0 := (Bd.lit (by decide)).mono (by decide)
      have l1 : Bd 200 1 := (Bd.lit (by decide)).mono (by decide)
      have ln : Bd 200 (-1) := (Bd.lit (by decide)).mono (by decide)
      walk_at "kw"
      rename_i q1 H1 f1 W1
      refine ⟨p, q1, A, B, C, sd, [1, 1], rfl, W1.get (.tail _ (.head _)), W1.get (.head _), PlO.four (ba.mono (by decide)) (bb.mono (by decide)) (bc.mono (by decide)) bs, po1, fun H2 s2 => ?_⟩
      have W2 := W1.same s2
      walk_at "kw"
      refine ite2 (fun h => ?_) (fun h => ?_)
      · have hl : cmp4 A B C sd [1, 1] < 0 := of_decide_eq_true h
        rw [if_pos hl] at hc
        walk_at "kw"
        rename_i q3 H3 f3 W3
        refine ⟨p, q3, A, B, C, sd, 1, 0, -1, 1, rfl, W3.get (.tail _ (.tail _ (.head _))), W3.get (.head _), ⟨ba.mono (by decide), bb.mono (by decide), bc.mono (by decide), bs⟩, ⟨l1, l0, ln, l1⟩, hc, ?_⟩
        refine Ho.nw W3 fun r4 H4 f4 W4 => ?_
        walk_at "kw"
        rename_i t5 H5 f5 W5
        exact k t5 r4 H5 W5.sm (by rw [if_pos hl]; exact W5.get (.tail _ (.head _))) (by rw [decide_eq_false (fun z => z hl)]; exact W5.get (.head _))
      · have hl : ¬ cmp4 A B C sd [1, 1] < 0 := fun e => h (decide_eq_true e)
        rw [if_neg hl] at hc
        walk_at "kw"
        rename_i q3 H3 f3 W3
        refine ⟨p, q3, A, B, C, sd, 1, -1, 0, 1, rfl, W3.get (.tail _ (.tail _ (.head _))), W3.get (.head _), ⟨ba.mono (by decide), bb.mono (by decide), bc.mono (by decide), bs⟩, ⟨l1, ln, l0, l1⟩, hc, ?_⟩
        refine Ho.nw W3 fun r4 H4 f4 W4 => ?_
        walk_at "kw"
        rename_i t5 H5 f5 W5
        exact k t5 r4 H5 W5.sm (by rw [if_neg hl]; exact W5.get (.tail _ (.head _))) (by rw [decide_eq_true hl]; exact W5.get (.head _))
end
--@fl
namespace Lt
open Fo
def sp_fl : Sp := fun vs H Q _ => ∃ (p : Addr) (A B C sd K n : Int), vs = [.ref p, .int n] ∧ H p = some (.tup [.int A, .int B, .int C, .int sd]) ∧ Sm K A B C sd ∧ K < 2 ^ 88 ∧ 0 ≤ n ∧ n ≤ 400 ∧ ∀ H', Same H H' → Q (.str (enc (flw n.toNat [A, B, C, sd]))) H'
theorem Sm.plo {K A B C sd : Int} (h : Sm K A B C sd) (hK : K < 2 ^ 88) : PlS [A, B, C, sd] := by
  obtain ⟨a, b, c⟩ := h.bd (n := 88) hK
  exact .four (a.mono (by decide)) (b.mono (by decide)) (c.mono (by decide)) (Bd.sd h.s)
end Lt
namespace Lt
open Fo
def itPl : Nat → List Int → List Int
  | 0, pl => pl
  | n + 1, pl => nextPl (itPl n pl)
theorem itPl_s : ∀ (n : Nat) (pl : List Int), itPl n (nextPl pl) = nextPl (itPl n pl)
  | 0, _ => rfl
  | n + 1, pl => by show nextPl (itPl n (nextPl pl)) = _; rw [itPl_s n]; rfl
theorem flw_it : ∀ (n : Nat) (pl : List Int), flw (n + 1) pl = flw n pl ++ [decide (¬ cmpPl (itPl n pl) [1, 1] < 0)]
  | 0, _ => rfl
  | n + 1, pl => by
    show decide (¬ cmpPl pl [1, 1] < 0) :: flw (n + 1) (nextPl pl) = _
    rw [flw_it n, itPl_s]; rfl
theorem flw_len : ∀ (n : Nat) (pl : List Int), (flw n pl).length = n
  | 0, _ => rfl
  | n + 1, pl => by show (flw n (nextPl pl)).length + 1 = n + 1; rw [flw_len n]
end Lt
section
variable {P : Program} {w : World} {K : PySem.W.Frag} {mg : Str → Option Value} {base : Heap}
open Fo
theorem ok_fl {f : Addr} {fd : FuncData} (F : Fun K "first_letters" "first_letters" S_first_letters f fd) (T : Txt K mg) (C_step : FnC P w K mg base CX0 6 "step" ["root"] (sp_step K)) : FnOk P w K mg base CX0 7 f fd ["root", "count"] sp_fl := by
  refine F.ok SC_first_letters (fun vs H Q E h => ?_) (fun cdv A outer s H vs Q E hr h => ?_)
  · obtain ⟨p, A, B, C, sd, K, n, rfl, _⟩ := h
    rfl
  · obtain ⟨p, A, B, C, sd, KK, n, rfl, hp, hs, hK, n0, n1, k⟩ := h
    refine ⟨_, (pss_cons (ps_set (i := 2) SC_first_letters.nd rfl (.inl rfl) (pe_lstN pa_nil))
      (pss_cons (ps_for PassesOwn.never rfl (pi_range1 (by rfl) T.b_range (pa_cons (pv 1) pa_nil)) (pg_name (i := 3) SC_first_letters.nd rfl (.inl rfl)) (pss_cons (ps_asg (pe_callC C_step (hr.mono (by decide)) rfl (pa_cons (pv 0) pa_nil)) (pg_tup rfl (pgs_cons (pg_name (i := 4) SC_first_letters.nd rfl (.inl rfl)) (pgs_cons (pg_name (i := 0) SC_first_letters.nd rfl (.inl rfl)) pgs_nil))))
      (pss_one (ps_expr (pe_bm PySem.F.plainAttrs_list PySem.F.slot_list_append PySem.F.type_list_append mt_append (pv 2) (pa_cons (pv 4) pa_nil))))))
      (pss_one (ps_ret (pe_join pe_str (pv 2)))))), ?_⟩
    have W := (Ho.start H).call (Same.refl H) hp
    walk_at "kw"
    rename_i L H1 f1 W1
    refine for_range (lo := 0) (fun i σ H' => ∃ (p' : Addr) (A' B' C' sd' : Int) (y3 y4 : Option V), itPl i [A, B, C, sd] = [A', B', C', sd'] ∧ Sm KK A' B' C' sd' ∧ Ho H H' [(L, .lst ((flw i [A, B, C, sd]).map fun x => V.str (enc [x]))), (p', .tup [.int A', .int B', .int C', .int sd'])] ∧ σ = [some (.ref p'), some (.int n), some (.ref L), y3, y4])
      ⟨p, A, B, C, sd, none, none, rfl, hs, W1, rfl⟩ (fun i σ H2 hi hP => ?_) (fun σ H2 hP => ?_)
    · obtain ⟨p', A', B', C', sd', y3, y4, e, hs', W2, rfl⟩ := hP
      have po := Lt.Sm.plo hs' hK
      obtain ⟨A2, B2, C2, sd2, e2, hs2⟩ := hs'.next
      have A0 := hs'.f.pos
      have cn : c1 (if cmp4 A' B' C' sd' [1, 1] < 0 then -1 else 0) 1 A' B' C' ≠ 0 := by
        split
        · have : c1 (-1) 1 A' B' C' = A' + B' + C' := by unfold c1; grind
          rw [this]; exact hs'.q0
        · have : c1 0 1 A' B' C' = A' := by unfold c1; grind
          rw [this]; omega
      have e3 : (if cmp4 A' B' C' sd' [1, 1] < 0 then bhPl 1 0 (-1) 1 [A', B', C', sd'] else bhPl 1 (-1) 0 1 [A', B', C', sd']) = [A2, B2, C2, sd2] := e2
      walk_at "kw"
      refine ⟨p', A', B', C', sd', rfl, W2.get (.tail _ (.head _)), po, cn, fun t r H3 s3 hr3 ht3 => ?_⟩
      rw [e3] at hr3
      have W3 := (((W2.same s3).add hr3).add ht3)
      walk_at "kw"
      have hL := W3.get (.tail _ (.tail _ (.head _)))
      have W4 : Ho H H3 [(L, .lst ((flw i [A, B, C, sd]).map fun x => V.str (enc [x]))), (r, .tup [.int A2, .int B2, .int C2, .int sd2])] := ⟨W3.sm, fun x hx => by
        rcases List.mem_cons.mp hx with rfl | hx
        · exact hL
        · cases List.mem_singleton.mp hx
          exact W3.get (.tail _ (.head _))⟩
      refine ⟨.inl ⟨rfl, _, SqL.of hL⟩, ?_⟩
      walk_at "kw"
      refine ⟨L, _, _, rfl, rfl, hL, by rw [List.length_map, Lt.flw_len]; exact szs (by omega), ?_⟩
      refine ⟨r, A2, B2, C2, sd2, _, _, by show Fo.nextPl (Lt.itPl i _) = _; rw [e]; exact e2, hs2, ?_, rfl⟩
      rw [Lt.flw_it, List.map_append, e]
      exact W4.set hL f1 _
    · obtain ⟨p', A', B', C', sd', y3, y4, e, hs', W2, rfl⟩ := hP
      have hH := W2.get (.head _)
      walk_at "kw"
      refine ⟨_, _, _, rfl, rfl, .inl (rJ1 hH), rJ2 (by rw [Lt.flw_len]; omega), ?_⟩
      rw [join_bits]
      exact k H2 W2.sm
end
--@*

/-! ## the root that a change leaves where it is -/
namespace Bl
open Ed
def sp_fixed : Sp := fun vs H Q _ => ∃ (p : Addr) (m : Mt), vs = [.ref p] ∧ H p = some (.tup m.tl) ∧ m.c ≠ 0 ∧ (Bd 700 m.a ∧ Bd 700 m.b ∧ Bd 700 m.c ∧ Bd 700 m.d) ∧ New H (.tup ((lwd m.c (m.d - m.a) (0 - m.b) 1).map V.int)) Q
end Bl
open Bl Ed
section
variable {P : Program} {w : World} {K : PySem.W.Frag} {mg : Str → Option Value} {base : Heap}
theorem ok_fixed {f : Addr} {fd : FuncData} (F : Fun K "fixed" "fixed" S_fixed f fd) (T : Txt K mg) (C_low : FnC P w K mg base CX0 2 "lowered" ["a", "b", "c", "side"] sp_low) : FnOk P w K mg base CX0 3 f fd ["numbers"] sp_fixed := by
  refine F.ok SC_fixed (fun vs H Q E h => ?_) (fun cdv A outer s H vs Q E hr h => ?_)
  · obtain ⟨p, m, rfl, _⟩ := h
    rfl
  · obtain ⟨p, m, rfl, hp, m0, bd, k⟩ := h
    refine ⟨_, (pss_cons (ps_asg (pv 0) (pg_tup rfl (pgs_cons (pg_name (i := 1) SC_fixed.nd rfl (.inl rfl)) (pgs_cons (pg_name (i := 2) SC_fixed.nd rfl (.inl rfl)) (pgs_cons (pg_name (i := 3) SC_fixed.nd rfl (.inl rfl)) (pgs_cons (pg_name (i := 4) SC_fixed.nd rfl (.inl rfl)) pgs_nil))))))
      (pss_nrm (pss_one (ps_ret (pe_callC C_low (hr.mono (by decide)) rfl (pa_cons (pv 3) (pa_cons (pe_op op_sub (pv 4) (pv 1)) (pa_cons (pe_op op_sub pe_int (pv 2)) (pa_cons pe_int pa_nil))))))))), ?_⟩
    refine ⟨_, rfl, p, _, rfl, SqT.of hp, rfl, _, _, rfl, _, _, rfl, _, _, rfl, _, _, rfl, rfl, ?_⟩
    obtain ⟨ba, bb, bc, bd'⟩ := bd
    walk_at "kw"
    exact ⟨m.c, m.d - m.a, 0 - m.b, 1, rfl, m0, bc.mono (by decide), (bd'.sub ba).mono (by decide), ((Bd.lit (i := 0) (by decide)).sub bb).mono (by decide), k⟩
end

/-! ## edges as pairs, by words -/
namespace Ep
 open Sg Sg.SgR Lean.Grind Sg.Qx
 open Pj Pj.Em
open Pj Mx K10 Or
section
variable {R : Type} [CommRing R] [Em R]
def act (M : Mt) (x : R × R) : R × R := (i M.a * x.1 + i M.b * x.2, i M.c * x.1 + i M.d * x.2)
def crs (x y : R × R) : R := x.1 * y.2 - y.1 * x.2
theorem act_mul (M N : Mt) (x : R × R) : act (M.mul N) x = act M (act N x) := by
  unfold act Mt.mul
  simp only [i_add, i_mul]
  refine Prod.ext ?_ ?_ <;> (simp only; grind)
theorem act_one (x : R × R) : act Mt.one x = x := by
  unfold act Mt.one
  simp only [i_one, i_zero]
  refine Prod.ext ?_ ?_ <;> (simp only; grind)
theorem crs_act (M : Mt) (x y : R × R) : crs (act M x) (act M y) = i M.det * crs x y := by
  unfold crs act Mt.det
  simp only [i_sub, i_mul]
  grind
theorem wf_mul (m : Mt) : ∀ (u : List Bool) (n : Mt), wf (m.mul n) u = m.mul (wf n u)
  | [], _ => rfl
  | b :: u, n => by
    show wf ((m.mul n).mul (lt b)) u = m.mul (wf (n.mul (lt b)) u)
    rw [Mt.mul_assoc, wf_mul m u (n.mul (lt b))]
theorem mul_one (m : Mt) : m.mul Mt.one = m := by
  refine Mt.ext' ?_ ?_ ?_ ?_ <;> simp [Mt.mul, Mt.one]
theorem wmx_cons (b : Bool) (u : List Bool) : wmx (b :: u) = (lt b).mul (wmx u) := by
  show wf (Mt.one.mul (lt b)) u = (lt b).mul (wf Mt.one u)
  rw [Mt.one_mul, ← wf_mul (lt b) u Mt.one, mul_one]
def pt (w : List Bool) : R × R := (i ((pr w).1 : Nat), i ((pr w).2 : Nat))
/-- both not below 0, not both 0 -/
structure Nn (x : R × R) : Prop where
  a : s x.1 = 1 ∨ s x.1 = 0
  b : s x.2 = 1 ∨ s x.2 = 0
  c : s x.1 = 1 ∨ s x.2 = 1
theorem s_addr1 (a b : R) (h1 : s a = 1 ∨ s a = 0) (h2 : s b = 1) : s (a + b) = 1 := by
  rw [show a + b = b + a by grind]
  exact s_add1 b a h2 h1
theorem Nn.sum {x : R × R} (h : Nn x) : s (x.1 + x.2) = 1 := by
  rcases h.c with c | c
  · exact s_add1 _ _ c h.b
  · exact s_addr1 _ _ h.a c
theorem act_l (x : R × R) : act (lt false) x = (x.1, x.1 + x.2) := by
  unfold act lt
  simp only [Bool.false_eq_true, if_false, i_one, i_zero]
  refine Prod.ext ?_ ?_ <;> (simp only; grind)
theorem act_r (x : R × R) : act (lt true) x = (x.1 + x.2, x.2) := by
  unfold act lt
  simp only [if_true, i_one, i_zero]
  refine Prod.ext ?_ ?_ <;> (simp only; grind)
theorem Nn.lt {x : R × R} (h : Nn x) (b : Bool) : Nn (act (lt b) x) := by
  cases b
  · rw [act_l]; exact ⟨h.a, .inl h.sum, .inr h.sum⟩
  · rw [act_r]; exact ⟨.inl h.sum, h.b, .inl h.sum⟩
theorem Nn.act {x : R × R} (h : Nn x) : ∀ u : List Bool, Nn (act (wmx u) x)
  | [] => by
    rw [show wmx [] = Mt.one from rfl, act_one]; exact h
  | b :: u => by
    rw [wmx_cons, act_mul]
    exact (Nn.act h u).lt b
theorem snd_lt {x : R × R} (h : Nn x) (g : s x.2 = 1) (b : Bool) : s (act (lt b) x).2 = 1 := by
  cases b
  · rw [act_l]; exact h.sum
  · rw [act_r]; exact g
theorem snd_act {x : R × R} (h : Nn x) (g : s x.2 = 1) : ∀ u : List Bool, s (act (wmx u) x).2 = 1
  | [] => by rw [show wmx [] = Mt.one from rfl, act_one]; exact g
  | b :: u => by rw [wmx_cons, act_mul]; exact snd_lt (h.act u) (snd_act h g u) b
/-- the same place -/
def Sim (x y : R × R) : Prop := ∃ a b : R, s a = 1 ∧ s b = 1 ∧ a * x.1 = b * y.1 ∧ a * x.2 = b * y.2
theorem Sim.refl (x : R × R) : Sim x x := ⟨1, 1, one, one, rfl, rfl⟩
theorem Sim.trans {x y z : R × R} (h : Sim x y) (g : Sim y z) : Sim x z := by
  obtain ⟨a, b, a1, b1, h1, h2⟩ := h
  obtain ⟨c, d, c1, d1, g1, g2⟩ := g
  refine ⟨c * a, b * d, by rw [mul, a1, c1]; rfl, by rw [mul, b1, d1]; rfl, ?_, ?_⟩
  · rw [show c * a * x.1 = c * (a * x.1) by grind, h1, show c * (b * y.1) = b * (c * y.1) by grind, g1]; grind
  · rw [show c * a * x.2 = c * (a * x.2) by grind, h2, show c * (b * y.2) = b * (c * y.2) by grind, g2]; grind
theorem Sim.act {x y : R × R} (h : Sim x y) (M : Mt) : Sim (act M x) (act M y) := by
  obtain ⟨a, b, a1, b1, h1, h2⟩ := h
  refine ⟨a, b, a1, b1, ?_, ?_⟩
  · show a * (i M.a * x.1 + i M.b * x.2) = b * (i M.a * y.1 + i M.b * y.2)
    rw [show a * (i M.a * x.1 + i M.b * x.2) = i M.a * (a * x.1) + i M.b * (a * x.2) by grind, h1, h2]; grind
  · show a * (i M.c * x.1 + i M.d * x.2) = b * (i M.c * y.1 + i M.d * y.2)
    rw [show a * (i M.c * x.1 + i M.d * x.2) = i M.c * (a * x.1) + i M.d * (a * x.2) by grind, h1, h2]; grind
end
end Ep

/-! ## the edge of a beginning and a row that is repeated -/
namespace Ep
 open Sg Sg.SgR Lean.Grind Sg.Qx
 open Pj Pj.Em
open Pj Mx K10 Or
theorem wmx_pos : ∀ u : List Bool, 0 ≤ (wmx u).a ∧ 0 ≤ (wmx u).b ∧ 0 ≤ (wmx u).c ∧ 0 ≤ (wmx u).d ∧ 1 ≤ (wmx u).a ∧ 1 ≤ (wmx u).d ∧ (true ∈ u → 1 ≤ (wmx u).b) ∧ (false ∈ u → 1 ≤ (wmx u).c) ∧ (true ∉ u → (wmx u).a = 1 ∧ (wmx u).b = 0 ∧ (wmx u).d = 1) ∧ (false ∉ u → (wmx u).a = 1 ∧ (wmx u).c = 0 ∧ (wmx u).d = 1)
  | [] => by
    refine ⟨by decide, by decide, by decide, by decide, by decide, by decide, (fun h => nomatch h), (fun h => nomatch h), fun _ => ⟨rfl, rfl, rfl⟩, fun _ => ⟨rfl, rfl, rfl⟩⟩
  | b :: u => by
    obtain ⟨h1, h2, h3, h4, h5, h6, h7, h8, h9, h10⟩ := wmx_pos u
    rw [wmx_cons]
    generalize wmx u = M at *
    obtain ⟨p, q, r, t⟩ := M
    simp only at *
    cases b
    · show 0 ≤ 1 * p + 0 * r ∧ 0 ≤ 1 * q + 0 * t ∧ 0 ≤ 1 * p + 1 * r ∧ 0 ≤ 1 * q + 1 * t ∧ 1 ≤ 1 * p + 0 * r ∧ 1 ≤ 1 * q + 1 * t ∧ (true ∈ false :: u → 1 ≤ 1 * q + 0 * t) ∧ (false ∈ false :: u → 1 ≤ 1 * p + 1 * r) ∧ (true ∉ false :: u → 1 * p + 0 * r = 1 ∧ 1 * q + 0 * t = 0 ∧ 1 * q + 1 * t = 1) ∧ (false ∉ false :: u → 1 * p + 0 * r = 1 ∧ 1 * p + 1 * r = 0 ∧ 1 * q + 1 * t = 1)
      refine ⟨by omega, by omega, by omega, by omega, by omega, by omega, fun h => ?_, fun _ => by omega, fun h => ?_, fun h => absurd (List.mem_cons_self) h⟩
      · have := h7 (by simpa using h); omega
      · have := h9 (fun z => h (List.mem_cons_of_mem _ z)); omega
    · show 0 ≤ 1 * p + 1 * r ∧ 0 ≤ 1 * q + 1 * t ∧ 0 ≤ 0 * p + 1 * r ∧ 0 ≤ 0 * q + 1 * t ∧ 1 ≤ 1 * p + 1 * r ∧ 1 ≤ 0 * q + 1 * t ∧ (true ∈ true :: u → 1 ≤ 1 * q + 1 * t) ∧ (false ∈ true :: u → 1 ≤ 0 * p + 1 * r) ∧ (true ∉ true :: u → 1 * p + 1 * r = 1 ∧ 1 * q + 1 * t = 0 ∧ 0 * q + 1 * t = 1) ∧ (false ∉ true :: u → 1 * p + 1 * r = 1 ∧ 0 * p + 1 * r = 0 ∧ 0 * q + 1 * t = 1)
      refine ⟨by omega, by omega, by omega, by omega, by omega, by omega, fun _ => by omega, fun h => ?_, fun h => absurd (List.mem_cons_self) h, fun h => ?_⟩
      · have := h8 (by simpa using h); omega
      · have := h10 (fun z => h (List.mem_cons_of_mem _ z)); omega
/-- the place of a row that is repeated -/
def plY (v : List Bool) : List Int := if true ∈ v then (if false ∈ v then lwd (wmx v).c ((wmx v).d - (wmx v).a) (0 - (wmx v).b) 1 else [1, 0]) else [0, 1]
def plG (u v : List Bool) : List Int := bhPl (wmx u).a (wmx u).b (wmx u).c (wmx u).d (plY v)
/-- a pair for it -/
structure Cyc (R : Type) [CommRing R] [Em R] (v : List Bool) (p : R × R) : Prop where
  nn : Nn p
  rp : RepR p.1 p.2 (plY v)
  sm : Sim p (act (wmx v) p)
  r : true ∈ v → s p.1 = 1
  l : false ∈ v → s p.2 = 1
theorem nsq {T : Int} (h : 3 ≤ T) : ¬ Lr.isq (T * T - 4) := fun ⟨s, s0, e⟩ => by
  have h1 : s < T := by
    by_cases z : s < T
    · exact z
    · have z : T ≤ s := by omega
      have : T * T ≤ s * s := Int.mul_le_mul z z (by omega) (by omega)
      omega
  have h2 : s * s ≤ (T - 1) * (T - 1) := Int.mul_le_mul (by omega) (by omega) s0 (by omega)
  have : (T - 1) * (T - 1) = T * T - 2 * T + 1 := by grind
  omega
theorem cyc_mixed {v : List Bool} (hr : true ∈ v) (hl : false ∈ v) : ∃ (d : Int) (hd : 0 ≤ d) (p : R1 d × R1 d), @Cyc (R1 d) _ (E1 hd) v p := by
  obtain ⟨h1, h2, h3, h4, h5, h6, h7, h8, _⟩ := wmx_pos v
  have b1 := h7 hr
  have c1 := h8 hl
  have dt := wm_det v
  unfold Mt.det at dt
  have epl : plY v = lwd (wmx v).c ((wmx v).d - (wmx v).a) (0 - (wmx v).b) 1 := by unfold plY; rw [if_pos hr, if_pos hl]
  obtain ⟨M, hM⟩ : ∃ M, wmx v = M := ⟨_, rfl⟩
  rw [hM] at h1 h2 h3 h4 h5 h6 b1 c1 dt epl
  clear h7 h8
  obtain ⟨m, n, k, t⟩ := M
  simp only at h1 h2 h3 h4 h5 h6 b1 c1 dt epl
  have mt : m * t = 1 + n * k := by omega
  have nk : 1 ≤ n * k := by
    have := Int.mul_le_mul b1 c1 (by decide) h2
    omega
  have T3 : 3 ≤ m + t := by
    by_cases z : 3 ≤ m + t
    · exact z
    · have m1 : m = 1 := by omega
      have t1 : t = 1 := by omega
      rw [m1, t1] at mt; omega
  have TT : 9 ≤ (m + t) * (m + t) := Int.mul_le_mul (show (3 : Int) ≤ m + t by omega) T3 (by decide) (by omega) |> fun h => by omega
  have d0 : 0 ≤ (m + t) * (m + t) - 4 := by omega
  have dd : (m + t) * (m + t) - 4 = (m - t) * (m - t) + 4 * (n * k) := by
    have : (m + t) * (m + t) = (m - t) * (m - t) + 4 * (m * t) := by grind
    omega
  obtain ⟨f, f0, fe, rd⟩ := red (A := k) (B := t - m) (C := 0 - n) (by omega)
  have el : lwd k (t - m) (0 - n) 1 = [k / f, (t - m) / f, (0 - n) / f, 1] := by
    have := K15.lwd_any (A := k) (B := t - m) (C := 0 - n) (s := 1) (by omega)
    obtain ⟨a, b, c, g, g0, a0, ⟨ga, gb, gc⟩, sgg, gg, _, e⟩ := this
    rw [e]
    have gp : 0 < g := by
      rcases sg_c g with ⟨z, _⟩ | ⟨z, _⟩ | ⟨z, w⟩
      · exact z
      · omega
      · rcases sg_c k with ⟨_, y⟩ | ⟨y, _⟩ | ⟨y, _⟩
        · rw [w, y] at sgg; omega
        · omega
        · omega
    obtain ⟨e1, e2, e3⟩ := prim_un (m := g) (n := f) gp f0 (ga.trans rd.ha.symm) (gb.trans rd.hb.symm) (gc.trans rd.hc.symm) gg rd.g
    rw [e1, e2, e3]
  have swp : 0 < swr (m - t) 1 ((m + t) * (m + t) - 4) := by
    unfold swr
    have s1 : sg 1 = 1 := rfl
    have sd : sg ((m + t) * (m + t) - 4) = 1 := sg_p (by omega)
    rw [s1, sd]
    rcases sg_c (m - t) with ⟨z, w⟩ | ⟨z, w⟩ | ⟨z, w⟩
    · rw [w, if_pos (.inl rfl)]; decide
    · rw [w, if_neg (by decide), if_pos rfl]; decide
    · rw [w, if_neg (by decide), if_neg (by decide)]
      have : (m - t) * (m - t) - 1 * 1 * ((m + t) * (m + t) - 4) < 0 := by rw [dd]; omega
      rcases sg_c ((m - t) * (m - t) - 1 * 1 * ((m + t) * (m + t) - 4)) with ⟨z, _⟩ | ⟨z, _⟩ | ⟨z, w⟩
      · omega
      · omega
      · rw [w]; decide
  have R4 : Rep ⟨m - t, 1, (m + t) * (m + t) - 4, 2 * k⟩ [k / f, (t - m) / f, (0 - n) / f, 1] := by
    refine .four (f := 4 * k * f) d0 (by show 0 < 2 * k; omega) (by show (1 : Int) ≠ 0; decide) (nsq T3) ?_ rfl
    have ha := rd.ha
    have hb := rd.hb
    have hc := rd.hc
    refine ⟨Int.mul_pos (by omega) f0, ?_, ?_, ?_, rd.g⟩
    · show 4 * k * f * (k / f) = 2 * k * (2 * k)
      rw [Int.mul_assoc, ha]; grind
    · show 4 * k * f * ((t - m) / f) = -2 * (m - t) * (2 * k)
      rw [Int.mul_assoc, hb]; grind
    · show 4 * k * f * ((0 - n) / f) = (m - t) * (m - t) - 1 * 1 * ((m + t) * (m + t) - 4)
      rw [Int.mul_assoc, hc, dd]; grind
  letI := E1 d0
  have sw : ∀ x y : Int, s (⟨x, y⟩ : R1 ((m + t) * (m + t) - 4)) = swr x y ((m + t) * (m + t) - 4) := fun x y => sq_swr d0 x y
  have n1 : s (⟨m - t, 1⟩ : R1 ((m + t) * (m + t) - 4)) = 1 := by
    rcases tri (⟨m - t, 1⟩ : R1 ((m + t) * (m + t) - 4)) with h | h | h
    · exact h
    · rw [sw] at h; omega
    · rw [sw] at h; omega
  have n2 : s (⟨2 * k, 0⟩ : R1 ((m + t) * (m + t) - 4)) = 1 := by
    rw [sw, swr_0]; exact sg_p (by omega)
  have n3 : s (⟨m + t, 1⟩ : R1 ((m + t) * (m + t) - 4)) = 1 := by
    rw [sw]
    have := Lr.swr_pos (p := m + t) (q := 1) (d := (m + t) * (m + t) - 4) (by omega) (by decide) d0
    rw [← sw] at this ⊢
    rcases tri (⟨m + t, 1⟩ : R1 ((m + t) * (m + t) - 4)) with h | h | h <;> omega
  refine ⟨_, d0, (⟨m - t, 1⟩, ⟨2 * k, 0⟩), ⟨.inl n1, .inl n2, .inl n1⟩, ?_, ?_, fun _ => n1, fun _ => n2⟩
  · rw [epl, el]
    exact rep_pair (g := ⟨m - t, 1, (m + t) * (m + t) - 4, 2 * k⟩) d0 R4 swp
  · rw [hM]
    refine ⟨⟨m + t, 1⟩, ⟨2, 0⟩, n3, ?_, ?_, ?_⟩
    · rw [sw, swr_0]; rfl
    · apply ext'
      · show (m + t) * (m - t) + 1 * 1 * ((m + t) * (m + t) - 4) = 2 * ((m * (m - t) + 0 * 1 * ((m + t) * (m + t) - 4)) + (n * (2 * k) + 0 * 0 * ((m + t) * (m + t) - 4))) + 0 * ((m * 1 + 0 * (m - t)) + (n * 0 + 0 * (2 * k))) * ((m + t) * (m + t) - 4)
        grind
      · show (m + t) * 1 + 1 * (m - t) = 2 * ((m * 1 + 0 * (m - t)) + (n * 0 + 0 * (2 * k))) + 0 * ((m * (m - t) + 0 * 1 * ((m + t) * (m + t) - 4)) + (n * (2 * k) + 0 * 0 * ((m + t) * (m + t) - 4)))
        grind
    · apply ext'
      · show (m + t) * (2 * k) + 1 * 0 * ((m + t) * (m + t) - 4) = 2 * ((k * (m - t) + 0 * 1 * ((m + t) * (m + t) - 4)) + (t * (2 * k) + 0 * 0 * ((m + t) * (m + t) - 4))) + 0 * ((k * 1 + 0 * (m - t)) + (t * 0 + 0 * (2 * k))) * ((m + t) * (m + t) - 4)
        grind
      · show (m + t) * 0 + 1 * (2 * k) = 2 * ((k * 1 + 0 * (m - t)) + (t * 0 + 0 * (2 * k))) + 0 * ((k * (m - t) + 0 * 1 * ((m + t) * (m + t) - 4)) + (t * (2 * k) + 0 * 0 * ((m + t) * (m + t) - 4)))
        grind
theorem cyc_ex (v : List Bool) : ∃ (R : Type) (_ : CommRing R) (_ : Em R) (p : R × R), Cyc R v p := by
  by_cases hr : true ∈ v
  · by_cases hl : false ∈ v
    · obtain ⟨d, hd, p, h⟩ := cyc_mixed hr hl
      exact ⟨R1 d, inferInstance, E1 hd, p, h⟩
    · refine ⟨Int, inferInstance, E0', (1, 0), ?_⟩
      letI := E0'
      obtain ⟨_, _, _, _, _, _, _, _, _, h10⟩ := wmx_pos v
      obtain ⟨a1, c0, _⟩ := h10 hl
      have one_ : s (1 : Int) = 1 := rfl
      have zero_ : s (0 : Int) = 0 := rfl
      refine ⟨⟨.inl one_, .inr zero_, .inl one_⟩, ?_, ?_, fun _ => one_, fun h => absurd h hl⟩
      · have : plY v = [1, 0] := by unfold plY; rw [if_pos hr, if_neg hl]
        rw [this]
        exact .two (by decide) (by decide) (by decide) rfl rfl
      · have : act (wmx v) ((1 : Int), (0 : Int)) = (1, 0) := by
          unfold act
          rw [a1, c0]
          refine Prod.ext ?_ ?_
          · show (1 : Int) * 1 + (wmx v).b * 0 = 1
            omega
          · show (0 : Int) * 1 + (wmx v).d * 0 = 0
            omega
        rw [this]
        exact Sim.refl _
  · refine ⟨Int, inferInstance, E0', (0, 1), ?_⟩
    letI := E0'
    obtain ⟨_, _, _, _, _, _, _, _, h9, _⟩ := wmx_pos v
    obtain ⟨_, b0, d1⟩ := h9 hr
    have one_ : s (1 : Int) = 1 := rfl
    have zero_ : s (0 : Int) = 0 := rfl
    refine ⟨⟨.inr zero_, .inl one_, .inr one_⟩, ?_, ?_, fun h => absurd h hr, fun _ => one_⟩
    · have : plY v = [0, 1] := by unfold plY; rw [if_neg hr]
      rw [this]
      exact .two (by decide) (by decide) (by decide) rfl rfl
    · have : act (wmx v) ((0 : Int), (1 : Int)) = (0, 1) := by
        unfold act
        rw [b0, d1]
        refine Prod.ext ?_ ?_
        · show (wmx v).a * 0 + (0 : Int) * 1 = 0
          omega
        · show (wmx v).c * 0 + (1 : Int) * 1 = 1
          omega
      rw [this]
      exact Sim.refl _
end Ep

/-! ## the edge of a beginning and a row: its bounds, and words beside it -/
namespace Ep
 open Sg Sg.SgR Lean.Grind Sg.Qx
 open Pj Pj.Em
open Pj Mx K10 Or Ed Eo
/-- what stands for a row -/
theorem plY_form (v : List Bool) : plY v = [0, 1] ∨ plY v = [1, 0] ∨ (true ∈ v ∧ false ∈ v ∧ ∃ A B C : Int, plY v = [A, B, C, 1] ∧ (∀ n, v.length + 2 ≤ n → Bd n A ∧ Bd n B ∧ Bd n C)) := by
  unfold plY
  by_cases hr : true ∈ v
  · rw [if_pos hr]
    by_cases hl : false ∈ v
    · rw [if_pos hl]
      obtain ⟨h1, h2, h3, h4, h5, h6, h7, h8, _⟩ := wmx_pos v
      have c1 := h8 hl
      obtain ⟨a, b, c, g, g0, a0, _, _, _, ⟨ba, bb, bc⟩, e⟩ := K15.lwd_any (A := (wmx v).c) (B := (wmx v).d - (wmx v).a) (C := 0 - (wmx v).b) (s := 1) (by omega)
      have w := wm_in v
      refine .inr (.inr ⟨hr, hl, a, b, c, e, fun n hn => ?_⟩)
      have p1 : (2 : Int) ^ (v.length + 1) ≤ 2 ^ n := by
        exact_mod_cast Nat.pow_le_pow_right (show 0 < 2 by decide) (show v.length + 1 ≤ n by omega)
      have w1 := w.a1
      have w2 := w.b1
      have w3 := w.c1
      have w4 := w.d1
      have up : ∀ z : Int, -(2 ^ n) < z → z < 2 ^ n → Bd n z := fun z z1 z2 => by
        unfold Bd
        have : (z.natAbs : Int) < ((2 ^ n : Nat) : Int) := by
          rw [Int.natCast_pow]
          show (z.natAbs : Int) < (2 : Int) ^ n
          omega
        exact_mod_cast this
      exact ⟨ba n (up _ (by omega) (by omega)), bb n (up _ (by omega) (by omega)), bc n (up _ (by omega) (by omega))⟩
    · rw [if_neg hl]; exact .inr (.inl rfl)
  · rw [if_neg hr]; exact .inl rfl
theorem wm_bd {u : List Bool} {n : Nat} (h : u.length + 1 ≤ n) : Bd n (wmx u).a ∧ Bd n (wmx u).b ∧ Bd n (wmx u).c ∧ Bd n (wmx u).d := by
  have w := wm_in u
  have p1 : (2 : Int) ^ (u.length + 1) ≤ 2 ^ n := by
    exact_mod_cast Nat.pow_le_pow_right (show 0 < 2 by decide) h
  have up : ∀ z : Int, 0 ≤ z → z < 2 ^ (u.length + 1) → Bd n z := fun z z1 z2 => by
    unfold Bd
    have : (z.natAbs : Int) < ((2 ^ n : Nat) : Int) := by
      rw [Int.natCast_pow]
      show (z.natAbs : Int) < (2 : Int) ^ n
      omega
    exact_mod_cast this
  exact ⟨up _ w.a0 w.a1, up _ w.b0 w.b1, up _ w.c0 w.c1, up _ w.d0 w.d1⟩
theorem plY_four {v : List Bool} {A B C sd : Int} {R : Type} [CommRing R] [Em R] {p : R × R} (c : Cyc R v p) (e : plY v = [A, B, C, sd]) (u : List Bool) : c1 (wmx u).c (wmx u).d A B C ≠ 0 ∧ RepR (act (wmx u) p).1 (act (wmx u) p).2 (plG u v) := by
  have rp := c.rp
  rw [e] at rp
  have q : true ∈ v ∧ false ∈ v := by
    rcases plY_form v with h | h | ⟨h1, h2, _⟩
    · rw [h] at e; cases e
    · rw [h] at e; cases e
    · exact ⟨h1, h2⟩
  have h := snd_act c.nn (c.l q.2) u
  have dt := wm_det u
  unfold Mt.det at dt
  have := rep_ch4 (m := (wmx u).a) (n := (wmx u).b) (k := (wmx u).c) (l := (wmx u).d) rp (by rw [dt]; decide) h
  refine ⟨this.1, ?_⟩
  unfold plG
  rw [e]
  exact this.2
theorem plC_ok {u v : List Bool} (h : u.length + v.length ≤ 30) : PlC (wmx u).a (wmx u).b (wmx u).c (wmx u).d (plY v) := by
  obtain ⟨R, i1, i2, p, c⟩ := cyc_ex v
  have wp := wmx_pos u
  have two : ∀ x y : Int, plY v = [x, y] → Bd 64 x → Bd 64 y → (wmx u).a * x + (wmx u).b * y ≠ 0 ∨ (wmx u).c * x + (wmx u).d * y ≠ 0 → PlC (wmx u).a (wmx u).b (wmx u).c (wmx u).d (plY v) := fun x y e b1 b2 nz => by
    rw [e]
    exact .two (b1.mono (by decide)) (b2.mono (by decide)) nz
  rcases plY_form v with e | e | ⟨_, _, A, B, C, e, bd⟩
  · exact two _ _ e (Bd.lit (by decide)) (Bd.lit (by decide)) (.inr (by have := wp.2.2.2.2.2.1; omega))
  · exact two _ _ e (Bd.lit (by decide)) (Bd.lit (by decide)) (.inl (by have := wp.2.2.2.2.1; omega))
  · obtain ⟨b1, b2, b3⟩ := bd 60 (by omega)
    have := (plY_four c e u).1
    rw [e]
    exact .four (b1.mono (by decide)) (b2.mono (by decide)) (b3.mono (by decide)) (show Int.natAbs 1 < 2 ^ 4 by decide) this
end Ep

/-! ## Edge.of_parts of any beginning and row -/
namespace Ep
open Ed Eo
def sp_eofG (CE : Addr) : Sp := fun vs H Q _ => ∃ (u v : List Bool), vs = [.ref CE, .str (enc u), .str (enc v)] ∧ u.length + v.length ≤ 30 ∧ v ≠ [] ∧ ∀ e H', H e = none → Same H H' → EdgeAt CE H' e (plG u v) → Q (.ref e) H'
theorem cd_mem (b : Bool) (v : List Bool) : (cd b ∈ (enc v).cps.toList) ↔ b ∈ v := by
  have e : (enc v).cps.toList = v.map cd := by
    rw [enc_cps]
  rw [e, List.mem_map]
  constructor
  · rintro ⟨c, hc, e⟩
    have : c = b := by cases c <;> cases b <;> first | rfl | (exact absurd e (by decide))
    exact this ▸ hc
  · exact fun h => ⟨b, h, rfl⟩
end Ep
open Ep
section
variable {P : Program} {w : World} {K : PySem.W.Frag} {mg : Str → Option Value} {base : Heap}
theorem ok_eofG {f CE CC IW : Addr} {fd : FuncData} (F : Fun K "of_parts" "Edge.of_parts" S_Edge_of_parts f fd) (T : Txt K mg) (Re : EdgT K mg CE) (Rc : ChT K mg CC) (C_need : FnC P w K mg base (L2.CX P w) 4 "need_word" ["value"] (sp_need IW K)) (M_chw : CmC P w K mg base CX0 6 CC "Change" "of_word" ["cls", "word"] (Kb.calm (sp_chw CC IW K)))
    (C_fixed : FnC P w K mg base CX0 3 "fixed" ["numbers"] sp_fixed) (C_pb : FnC P w K mg base CX0 4 "place_behind" ["numbers", "place"] (sp_pb K)) (C_edgeX : MkC P w K mg base (L2.CX P w) 2 CE "Edge" ["self", "place"] (sp_einit CE)) (IWe : ErC P w K mg base "InvalidWord" IW) : FnOk P w K mg base (L2.CX P w) 8 f fd ["cls", "lead", "cycle"] (sp_eofG CE) := by
  refine F.okX SC_Edge_of_parts (fun vs H Q E h => ?_) (fun cdv A outer s H vs Q E hr h => ?_)
  · obtain ⟨u, v, rfl, _⟩ := h
    rfl
  · obtain ⟨u, v, rfl, huv, ne, k⟩ := h
    have E_InvalidWord := IWe
    refine ⟨_, (pss_cons (ps_expr (pe_callSC C_need (hr.mono (by decide)) (takes_of rfl rfl rfl rfl) rfl (pa_cons (pv 1) pa_nil)))
      (pss_cons (ps_expr (pe_callSC C_need (hr.mono (by decide)) (takes_of rfl rfl rfl rfl) rfl (pa_cons (pv 2) pa_nil)))
      (pss_cons (ps_if (pt_cmpR op_eq (pv 2) pe_str (nomark _)) (pss_one (ps_raise0 E_InvalidWord (hr.mono (by decide)) rfl (takes_of rfl rfl rfl rfl) rfl)) pss_nil)
      (pss_mid (ps_if (pt_cmpR op_notIn_sign pe_str (pv 2) rfl) (pss_one (ps_set (i := 3) SC_Edge_of_parts.nd rfl (.inl rfl) (pe_makeL (i := 0) C_edgeX (hr.mono (by decide)) (takes_of rfl rfl rfl rfl) rfl (.inl rfl) (pa_cons (pe_tupN (pa_cons pe_int (pa_cons pe_int pa_nil))) pa_nil)))) (pss_one (ps_if (pt_cmpR op_notIn_sign pe_str (pv 2) rfl) (pss_one (ps_set (i := 3) SC_Edge_of_parts.nd rfl (.inl rfl) (pe_makeL (i := 0) C_edgeX (hr.mono (by decide)) (takes_of rfl rfl rfl rfl) rfl (.inl rfl) (pa_cons (pe_tupN (pa_cons pe_int (pa_cons pe_int pa_nil))) pa_nil)))) (pss_one (ps_set (i := 3) SC_Edge_of_parts.nd rfl (.inl rfl) (pe_makeL (i := 0) C_edgeX (hr.mono (by decide)) (takes_of rfl rfl rfl rfl) rfl (.inl rfl) (pa_cons (pe_callC C_fixed (hr.mono (by decide)) rfl (pa_cons (pe_fld (pe_cmC M_chw (hr.mono (by decide)) rfl (pa_cons (pv 2) pa_nil)) rfl) pa_nil)) pa_nil)))))))
      (pss_one (ps_ret (pe_makeL (i := 0) C_edgeX (hr.mono (by decide)) (takes_of rfl rfl rfl rfl) rfl (.inl rfl) (pa_cons (pe_callC C_pb (hr.mono (by decide)) rfl (pa_cons (pe_fld (pe_cmC M_chw (hr.mono (by decide)) rfl (pa_cons (pv 1) pa_nil)) rfl) (pa_cons (pe_fld (pv 3) rfl) pa_nil))) pa_nil)))))))), ?_⟩
    have gd : ∀ x : List Bool, goodW (V.str (enc x)) = false → False := fun x g => by rw [show goodW (V.str (enc x)) = true from good_enc x] at g; cases g
    refine ⟨_, rfl, .str (enc u), rfl, .str _, fun z e => by cases e; rw [enc_len]; exact Nat.le_trans (show u.length ≤ 60 by omega) (by decide), fun _ H1 s1 => ?_, fun g => (gd u g).elim⟩
    refine ⟨_, rfl, .str (enc v), rfl, .str _, fun z e => by cases e; rw [enc_len]; exact Nat.le_trans (show v.length ≤ 60 by omega) (by decide), fun _ H2 s2 => ?_, fun g => (gd v g).elim⟩
    have nv : decide (V.str (enc v) = V.str "") = false := by
      rw [lit_e]
      exact decide_eq_false fun e => ne (enc_inj (V.str.inj e))
    refine ⟨_, rfl, rfl, _, rfl, ?_⟩
    rw [nv]
    refine ifF rfl ?_
    have hs := s1.trans s2
    have pc := plC_ok huv
    have b2 : Bd 200 (wmx u).a ∧ Bd 200 (wmx u).b ∧ Bd 200 (wmx u).c ∧ Bd 200 (wmx u).d := wm_bd (by omega)
    have bv : Bd 200 (wmx v).a ∧ Bd 200 (wmx v).b ∧ Bd 200 (wmx v).c ∧ Bd 200 (wmx v).d := wm_bd (by omega)
    refine ⟨fun σ' H' => ∃ e1 : Addr, EdgeAt CE H' e1 (plY v) ∧ Same H H' ∧ σ' = [some (.ref CE), some (.str (enc u)), some (.str (enc v)), some (.ref e1)], ?_, fun σ1 H3 z => ?_⟩
    · refine ⟨_, rfl, cd true, enc v, rfl, rfl, _, rfl, ?_⟩
      by_cases hr' : true ∈ v
      · rw [decide_eq_true ((cd_mem true v).mpr hr')]
        refine ifF rfl ⟨_, rfl, cd false, enc v, rfl, rfl, _, rfl, ?_⟩
        by_cases hl' : false ∈ v
        · rw [decide_eq_true ((cd_mem false v).mpr hl')]
          refine ifF rfl ?_
          have epl : plY v = lwd (wmx v).c ((wmx v).d - (wmx v).a) (0 - (wmx v).b) 1 := by unfold plY; rw [if_pos hr', if_pos hl']
          have c1 := (wmx_pos v).2.2.2.2.2.2.2.1 hl'
          refine ⟨rfl, _, rfl, .str (enc v), rfl, .str _, fun z e => by cases e; rw [enc_len]; omega, fun v' ev r H3 hn s3 c => ?_, fun g => (gd v g).elim⟩
          cases enc_inj (V.str.inj ev)
          obtain ⟨dx, q, h1, h2⟩ := c
          refine ⟨r, CC, dx, _, _, rfl, h1, Rc.ins.cl, Rc.n1, cf1 _ _, q, wmx v, rfl, h2, by omega, ?_, fun t H4 nt s4 ht => ?_⟩
          · exact ⟨bv.1.mono (by decide), bv.2.1.mono (by decide), bv.2.2.1.mono (by decide), bv.2.2.2.mono (by decide)⟩
          · rw [← epl] at ht
            refine fun x dx hx hdx hne => mk_edge ht ?_ hx hdx hne fun H' s' h' => ⟨x, h', ((hs.trans s3).trans s4).trans s', rfl⟩
            rcases plY_form v with e | e | ⟨_, _, A, B, C, e, bd⟩
            · rw [e]; exact .inl ⟨_, _, rfl⟩
            · rw [e]; exact .inl ⟨_, _, rfl⟩
            · obtain ⟨b1, b2, b3⟩ := bd 60 (by omega)
              rw [e]
              exact .inr ⟨_, _, _, _, rfl, b1.mono (by decide), b2.mono (by decide), b3.mono (by decide)⟩
        · rw [decide_eq_false (fun h => hl' ((cd_mem false v).mp h))]
          refine ifT rfl ?_
          have epl : plY v = [1, 0] := by unfold plY; rw [if_pos hr', if_neg hl']
          rw [epl]
          refine ⟨rfl, by show 2 ≤ 1000000; decide, fun t H3 nt s3 ht => ?_⟩
          exact fun x dx hx hdx hne => mk_edge (pl := [1, 0]) ht (.inl ⟨_, _, rfl⟩) hx hdx hne fun H' s' h' => ⟨x, h', (hs.trans s3).trans s', rfl⟩
      · rw [decide_eq_false (fun h => hr' ((cd_mem true v).mp h))]
        refine ifT rfl ?_
        have epl : plY v = [0, 1] := by unfold plY; rw [if_neg hr']
        rw [epl]
        refine ⟨rfl, by show 2 ≤ 1000000; decide, fun t H3 nt s3 ht => ?_⟩
        exact fun x dx hx hdx hne => mk_edge (pl := [0, 1]) ht (.inl ⟨_, _, rfl⟩) hx hdx hne fun H' s' h' => ⟨x, h', (hs.trans s3).trans s', rfl⟩
    · obtain ⟨e1, he1, s3, rfl⟩ := z
      refine ⟨rfl, _, rfl, .str (enc u), rfl, .str _, fun z e => by cases e; rw [enc_len]; omega, fun u' eu r H4 hn s4 c => ?_, fun g => (gd u g).elim⟩
      cases enc_inj (V.str.inj eu)
      obtain ⟨dx, q, h1, h2⟩ := c
      obtain ⟨de, te, fs, g1, g2, g3⟩ := (he1.same s4).at
      refine ⟨r, CC, dx, _, _, rfl, h1, Rc.ins.cl, Rc.n1, cf1 _ _, _, rfl, e1, CE, de, _, _, rfl, g1, Re.ins.cl, Re.n1, g2, q, te, _, _, _, _, _, rfl, h2, g3, b2, pc, fun t H5 nt s5 ht => ?_⟩
      exact fun x dx hx hdx hne => mk_edge ht (plOk_bh pc b2.1 b2.2.1 b2.2.2.1 b2.2.2.2) hx hdx hne fun H' s' h' => k x H' (((s3.trans s4).trans s5).free hx) (((s3.trans s4).trans s5).trans s') h'
end

/-! ## objects kept -/
namespace Mw
theorem lt_at {α : Type} {xs : List α} {i : Nat} {x : α} (h : xs[i]? = some x) : i < xs.length := (List.getElem?_eq_some_iff.mp h).1
theorem nodup_at {α : Type} {xs : List α} (h : xs.Nodup) {i j : Nat} {x : α} (hi : xs[i]? = some x) (hj : xs[j]? = some x) : i = j := by
  exact (List.getElem?_inj (lt_at hi) h).mp (hi.trans hj.symm)
def isMu : HO → Bool
  | .lst _ => true
  | .dK _ => true
  | .dT _ => true
  | .ext _ => true
  | _ => false
def isTF : HO → Bool
  | .tup _ => true
  | .frz _ _ => true
  | _ => false
/-- what is a tuple, what is no list and no dict, stays -/
def TT (H H' : Hp) : Prop := ∀ a o, isTF o = true → H a = some o → H' a = some o
def TK (H H' : Hp) : Prop := ∀ a o, isMu o = false → H a = some o → H' a = some o
theorem tf_mu {o : HO} (h : isTF o = true) : isMu o = false := by
  cases o with
  | tup _ => rfl
  | frz _ _ => rfl
  | _ => cases h
theorem TK.tt {H H' : Hp} (t : TK H H') : TT H H' := fun a o h e => t a o (tf_mu h) e
theorem TK.refl (H : Hp) : TK H H := fun _ _ _ h => h
theorem TK.trans {H H1 H2 : Hp} (x : TK H H1) (y : TK H1 H2) : TK H H2 := fun a o m h => y a o m (x a o m h)
theorem TK.same {H H' : Hp} (s : Same H H') : TK H H' := fun a o _ h => s a o h
theorem TK.upd {H : Hp} {p : Addr} {u o : HO} (h : H p = some u) (m : isMu u = true) : TK H (upd H p o) := fun a v n q => by
  have ne : a ≠ p := fun e => by
    subst e
    rw [h] at q; cases q
    rw [m] at n; cases n
  rw [upd_ne ne]; exact q
theorem TK.new {H : Hp} {p : Addr} {o : HO} (h : H p = none) : TK H (L2.upd H p o) := TK.same (sm_new h)
theorem TK.inD {H H' : Hp} {D : Addr} (h : H D = none) (k : ∀ b o, b ≠ D → H b = some o → H' b = some o) : TK H H' := fun a v _ q => k _ _ (ne_of_none q h) q
theorem TK.keep {b : Addr} {H H' : Hp} (hb : BoxAt H b) (s : Keep b H H') : TK H H' := fun a v n q => s a v (fun z => by
  obtain ⟨xs, hx⟩ := hb.lst
  rw [z, hx] at q
  cases q; cases n) q
structure Hd (H0 H : Hp) (L : List (Addr × HO)) : Prop where
  sm : Same H0 H
  nd : (L.map (·.1)).Nodup
  at_ : ∀ x ∈ L, H0 x.1 = none ∧ H x.1 = some x.2
section
variable {H0 H H' : Hp} {L : List (Addr × HO)} {p : Addr} {o u : HO}
theorem Hd.start (H : Hp) : Hd H H [] := ⟨Same.refl H, List.nodup_nil, fun _ h => (nomatch h)⟩
theorem Hd.get (w : Hd H0 H L) (h : (p, o) ∈ L) : H p = some o := (w.at_ _ h).2
theorem Hd.fr (w : Hd H0 H L) (h : (p, o) ∈ L) : H0 p = none := (w.at_ _ h).1
theorem Hd.call (w : Hd H0 H L) (s : Same H H') : Hd H0 H' L := ⟨w.sm.trans s, w.nd, fun x h => ⟨(w.at_ x h).1, s _ _ (w.at_ x h).2⟩⟩
theorem free_of {H H' : Hp} (s : Same H H') (h : H' p = none) : H p = none := by
  cases e : H p with
  | none => rfl
  | some o => rw [s _ _ e] at h; cases h
theorem Hd.got (w : Hd H0 H L) (n : H p = none) (s : Same H H') (h : H' p = some o) : Hd H0 H' ((p, o) :: L) := by
  refine ⟨w.sm.trans s, List.nodup_cons.mpr ⟨fun m => ?_, w.nd⟩, fun x hx => ?_⟩
  · obtain ⟨x, hx, e⟩ := List.mem_map.mp m
    have := (w.at_ x hx).2
    rw [show x.1 = p from e, n] at this
    cases this
  · rcases List.mem_cons.mp hx with rfl | hx
    · exact ⟨free_of w.sm n, h⟩
    · exact ⟨(w.at_ x hx).1, s _ _ (w.at_ x hx).2⟩
theorem Hd.new (w : Hd H0 H L) (n : H p = none) (o : HO) : Hd H0 (upd H p o) ((p, o) :: L) := w.got n (sm_new n) upd_same
theorem Hd.nw {Q : VK} (w : Hd H0 H L) (k : ∀ p H', H0 p = none → H p = none → Same H H' → Hd H0 H' ((p, o) :: L) → Q (.ref p) H') : New H o Q := fun p H' hn s h => k p H' (free_of w.sm hn) hn s (w.got hn s h)
theorem map_set_fst : ∀ (L : List (Addr × HO)) (i : Nat) (x : Addr × HO), L[i]?.map (·.1) = some x.1 → (L.set i x).map (·.1) = L.map (·.1)
  | [], _, _, h => by cases h
  | y :: L, 0, x, h => by
    have : y.1 = x.1 := Option.some.inj h
    show x.1 :: L.map (·.1) = y.1 :: L.map (·.1)
    rw [this]
  | y :: L, i + 1, x, h => by
    show y.1 :: (L.set i x).map (·.1) = y.1 :: L.map (·.1)
    rw [map_set_fst L i x h]
theorem Hd.set (w : Hd H0 H L) (i : Nat) (h : L[i]? = some (p, u)) (o : HO) : Hd H0 (upd H p o) (L.set i (p, o)) := by
  have hm : (p, u) ∈ L := List.mem_iff_getElem?.mpr ⟨i, h⟩
  have n0 := (w.at_ _ hm).1
  refine ⟨fun a v e => by rw [upd_ne (ne_of_none e n0)]; exact w.sm a v e, ?_, fun x hx => ?_⟩
  · rw [map_set_fst L i (p, o) (by rw [h]; rfl)]; exact w.nd
  · obtain ⟨j, hj⟩ := List.mem_iff_getElem?.mp hx
    by_cases c : i = j
    · subst c
      rw [List.getElem?_set_self (lt_at h)] at hj
      cases hj
      exact ⟨n0, upd_same⟩
    · rw [List.getElem?_set_ne c] at hj
      have hx' := w.at_ x (List.mem_iff_getElem?.mpr ⟨j, hj⟩)
      refine ⟨hx'.1, ?_⟩
      have ne : x.1 ≠ p := fun e => c (by
        have h1 : (L.map (·.1))[i]? = some p := by rw [List.getElem?_map, h]; rfl
        have h2 : (L.map (·.1))[j]? = some p := by rw [List.getElem?_map, hj, ← e]; rfl
        exact nodup_at w.nd h1 h2)
      rw [upd_ne ne]; exact hx'.2
theorem Hd.sub {L' : List (Addr × HO)} (w : Hd H0 H L) (h : L'.Sublist L) : Hd H0 H L' := ⟨w.sm, (h.map _).nodup w.nd, fun x hx => w.at_ x (h.subset hx)⟩
theorem Hd.tl {x : Addr × HO} (w : Hd H0 H (x :: L)) : Hd H0 H L := w.sub (List.sublist_cons_self _ _)
/-- within a list being made at D, one of one's own -/
theorem Hd.inD {D : Addr} (w : Hd H0 H L) (h : H D = none) (k : ∀ b o, b ≠ D → H b = some o → H' b = some o) : Hd H0 H' L :=
  ⟨fun a o e => k a o (ne_of_none (w.sm a o e) h) (w.sm a o e), w.nd, fun x hx => ⟨(w.at_ x hx).1, k _ _ (ne_of_none (w.at_ x hx).2 h) (w.at_ x hx).2⟩⟩
theorem Hd.tk (w : Hd H0 H L) : TK H0 H := TK.same w.sm
end
theorem same_sqL {K : PySem.W.Frag} {H H' : Hp} {a : Addr} {xs : List V} (s : Same H H') (h : SqL K H a xs) : SqL K H' a xs :=
  h.elim (fun q => .inl (q.elim (fun q => .inl (s _ _ q)) fun ⟨o, q⟩ => .inr ⟨o, s _ _ q⟩)) .inr
theorem big {n : Nat} (h : n ≤ 16000000) : n < sizeLine := Nat.lt_of_le_of_lt h (by decide)
end Mw
open Mw

local macro_rules | `(tactic| walk_at "new") => `(tactic| first | refine Hd.nw (by assumption) fun _ _ _ _ _ _ => ?_)
local macro_rules | `(tactic| walk_at "hp") => `(tactic| first | exact Hd.get (by assumption) (by walk_at "mem"))
local macro_rules | `(tactic| walk_at "kw1") => `(tactic| first
  | refine ⟨_, _, rfl, (show SqT _ _ _ _ from by walk_at "seq"), rfl, ?_⟩
  | refine ⟨_, _, rfl, _, _, rfl, rfl, rfl, ?_⟩)

/-! ## expressions that come to values, lists -/
namespace Sx
def VE (te : TE) (σ : L2.St) (H0 : Hp) (v : V) : Prop := ∀ H, Same H0 H → ∀ Q : VK, (∀ H', Same H H' → Q v H') → te σ H Q
def BE (tt : TT) (σ : L2.St) (H0 : Hp) (b : Bool) : Prop := ∀ H, Same H0 H → ∀ Q : Bool → Hp → Prop, (∀ H', Same H H' → Q b H') → tt σ H Q
def VL (te : TE) (σ : L2.St) (H0 : Hp) (xs : List V) : Prop := ∀ H, Same H0 H → ∀ Q : VK, (∀ (D : Addr) (H' : Hp), Same H H' → H' D = some (.lst xs) → Q (.ref D) H') → te σ H Q
def VN (te : TE) (σ : L2.St) (H0 : Hp) (xs : List V) : Prop := ∀ H, Same H0 H → ∀ Q : VK, (∀ (D : Addr) (H' : Hp), H D = none → Same H H' → H' D = some (.lst xs) → Q (.ref D) H') → te σ H Q
section
variable {K : PySem.W.Frag} {σ : L2.St} {H0 H1 : Hp} {ta tb te : TE} {tt tu : TT} {xs ys : List V} {p : Addr} {i j : Nat} {vs : List Nat}
theorem BE.val {b : Bool} (h : VE ta σ H0 (.bl b)) : BE (tTest ta) σ H0 b := fun H s Q q => h H s _ fun H' s' => ⟨b, rfl, q H' s'⟩
theorem BE.or {a b : Bool} (h : BE tt σ H0 a) (g : BE tu σ H0 b) : BE (tOr tt tu) σ H0 (a || b) := fun H s Q q => h H s _ fun H' s' => by
  cases a with
  | true => exact ifT rfl (q H' s')
  | false => exact ifF rfl (g H' (s.trans s') _ fun H'' s'' => q H'' (s'.trans s''))
theorem BE.and {a b : Bool} (h : BE tt σ H0 a) (g : BE tu σ H0 b) : BE (tAnd tt tu) σ H0 (a && b) := fun H s Q q => h H s _ fun H' s' => by
  cases a with
  | true => exact ifT rfl (g H' (s.trans s') _ fun H'' s'' => q H'' (s'.trans s''))
  | false => exact ifF rfl (q H' s')
theorem BE.or2 (h : BE tt σ H0 false) (g : BE tu σ H0 false) : BE (tOr tt tu) σ H0 false := BE.or h g
theorem BE.not {b : Bool} (h : BE tt σ H0 b) : BE (tNot tt) σ H0 (!b) := fun H s Q q => h H s _ fun H' s' => q H' s'
theorem BE.to {b c : Bool} (h : BE tt σ H0 b) (e : b = c) : BE tt σ H0 c := e ▸ h
theorem VE.to {v w : V} (h : VE ta σ H0 v) (e : v = w) : VE ta σ H0 w := e ▸ h
theorem VE.var {i : Nat} {v : V} (hσ : σ[i]? = some (some v)) : VE (tVar i) σ H0 v := fun H s Q q => ⟨_, hσ, q H (Same.refl H)⟩
theorem VE.c {v : V} : VE (tC v) σ H0 v := fun H s Q q => q H (Same.refl H)
theorem VE.not {b : Bool} (h : VE ta σ H0 (.bl b)) : VE (tNotV ta) σ H0 (.bl (!b)) := fun H s Q q => h H s _ fun H' s' => ⟨b, rfl, q H' s'⟩
theorem VE.and {a b : Bool} (h : VE ta σ H0 (.bl a)) (g : VE tb σ H0 (.bl b)) : VE (tAndV ta tb) σ H0 (.bl (a && b)) := fun H s Q q => h H s _ fun H' s' => ⟨a, rfl, by
  cases a with
  | true => exact ifT rfl (g H' (s.trans s') _ fun H'' s'' => q H'' (s'.trans s''))
  | false => exact ifF rfl (q H' s')⟩
theorem VE.neI {a b : Int} (h : VE ta σ H0 (.int a)) (g : VE tb σ H0 (.int b)) : VE (tOp rNe ta tb) σ H0 (.bl (!decide (a = b))) := fun H s Q q => h H s _ fun H' s' => g H' (s.trans s') _ fun H'' s'' => ⟨rfl, by
  rw [show decide (V.int a = V.int b) = decide (a = b) from by rw [Bool.eq_iff_iff, decide_eq_true_eq, decide_eq_true_eq]; exact ⟨V.int.inj, fun e => by rw [e]⟩]
  exact q H'' (s'.trans s'')⟩
theorem VE.add {a b : Int} (h : VE ta σ H0 (.int a)) (g : VE tb σ H0 (.int b)) : VE (tOp (rI0 fun i j => V.int (i + j)) ta tb) σ H0 (.int (a + b)) := fun H s Q q => h H s _ fun H' s' => g H' (s.trans s') _ fun H'' s'' => ⟨_, _, rfl, rfl, q H'' (s'.trans s'')⟩
theorem if_next {c : TT} {t : TS} {D : Ends} {H : Hp} (h : BE c σ H0 false) (s : Same H0 H) (k : ∀ H', Same H H' → D.nx σ H') : tIfS c t tNext D σ H := h H s _ fun H' s' => ifF rfl (k H' s')
theorem seq_if {c : TT} {t u : TS} {D : Ends} {H : Hp} (h : BE c σ H0 false) (s : Same H0 H) (k : ∀ H', Same H H' → u D σ H') : tSeq (tIfS c t tNext) u D σ H := h H s _ fun H' s' => ifF rfl (k H' s')
theorem VN.to (h : VN te σ H0 xs) (e : xs = ys) : VN te σ H0 ys := e ▸ h
theorem VL.to (h : VL te σ H0 xs) (e : xs = ys) : VL te σ H0 ys := e ▸ h
theorem VL.var (hσ : σ[i]? = some (some (.ref p))) (hp : H0 p = some (.lst xs)) : VL (tVar i) σ H0 xs := fun H s Q q => ⟨_, hσ, q p H (Same.refl H) (s _ _ hp)⟩
theorem VE.eqV {v w : V} (h : VE ta σ H0 v) (g : VE tb σ H0 w) (sc : scal v w = true) : VE (tOp rEq ta tb) σ H0 (.bl (decide (v = w))) := fun H s Q q => h H s _ fun H' s' => g H' (s.trans s') _ fun H'' s'' => ⟨sc, q H'' (s'.trans s'')⟩
end
end Sx
open Sx

/-! ## k16: places, their pairs and words (plain) -/
namespace K16
 open Sg Sg.SgR Lean.Grind Sg.Qx
 open Pj Pj.Em
open Mx K10 Or Ed Eo Ep
section
variable {R : Type} [CommRing R] [Em R]
theorem nn_mul {z : Int} {x : R} (hz : 0 ≤ z) (hx : s x = 1 ∨ s x = 0) : s (i z * x) = 1 ∨ s (i z * x) = 0 := by
  rw [mul, i_s]
  rcases sg_c z with ⟨_, e⟩ | ⟨_, e⟩ | ⟨q, _⟩
  · rw [e]; rcases hx with g | g <;> rw [g] <;> simp
  · rw [e]; rcases hx with g | g <;> rw [g] <;> simp
  · omega
theorem nn_add {x y : R} (hx : s x = 1 ∨ s x = 0) (hy : s y = 1 ∨ s y = 0) : s (x + y) = 1 ∨ s (x + y) = 0 := by
  rcases hx with g | g
  · exact .inl (s_add1 _ _ g hy)
  · rw [add0 _ _ g]; exact hy
theorem pr_act {N D : R} (h : Pr N D) {M : Mt} (a0 : 0 ≤ M.a) (b0 : 0 ≤ M.b) (c0 : 0 ≤ M.c) (d0 : 0 ≤ M.d) (hd : M.det ≠ 0) : Pr (act M (N, D)).1 (act M (N, D)).2 := by
  have n1 := nn_add (nn_mul a0 h.n) (nn_mul b0 h.d)
  have n2 := nn_add (nn_mul c0 h.n) (nn_mul d0 h.d)
  refine ⟨n1, n2, ?_⟩
  rcases n1 with z | z
  · exact .inl z
  rcases n2 with w | w
  · exact .inr w
  exfalso
  have e1 : s (i M.det * N) = 0 := by
    rw [show i M.det * N = i M.d * (i M.a * N + i M.b * D) - i M.b * (i M.c * N + i M.d * D) by unfold Mt.det; rw [i_sub, i_mul, i_mul]; grind]
    exact nu_sub (nu_mul' z _) (nu_mul' w _)
  have e2 : s (i M.det * D) = 0 := by
    rw [show i M.det * D = i M.a * (i M.c * N + i M.d * D) - i M.c * (i M.a * N + i M.b * D) by unfold Mt.det; rw [i_sub, i_mul, i_mul]; grind]
    exact nu_sub (nu_mul' w _) (nu_mul' z _)
  have f1 := s_nz hd e1
  have f2 := s_nz hd e2
  rcases h.p with p | p <;> omega
theorem four_pos {N D : R} {A B C sd : Int} (h : RepR N D [A, B, C, sd]) (p : Pr N D) : s N = 1 ∧ s D = 1 := by
  cases h with
  | four A0 g dp dn e d0 hs =>
    refine ⟨?_, d0⟩
    rcases p.n with z | z
    · exact z
    exfalso
    have e2 : s (i C * (D * D)) = 0 := by
      have q : s (i A * (N * N) + i B * (N * D)) = 0 := nu_add (nu_mul' (nu_mul z _) _) (nu_mul' (nu_mul z _) _)
      rwa [add0 _ _ q] at e
    rw [mul, mul, d0, i_s] at e2
    have c0 : C = 0 := by rcases sg_c C with ⟨_, k⟩ | ⟨k, _⟩ | ⟨_, k⟩ <;> omega
    subst c0
    refine dn ?_
    have : B * B - 4 * A * 0 = B * B := by omega
    rw [this]
    rcases Int.le_total 0 B with k | k
    · exact ⟨B, k, rfl⟩
    · exact ⟨-B, by omega, Int.neg_mul_neg B B⟩
/-- numbers of a place, small -/
inductive PlB (n : Nat) : List Int → Prop
  | two {x y : Int} (bx : Bd n x) (b_y : Bd n y) : PlB n [x, y]
  | four {A B C sd : Int} (ba : Bd n A) (bb : Bd n B) (bc : Bd n C) (hs : sd = 1 ∨ sd = -1) : PlB n [A, B, C, sd]
structure MOk (k : Nat) (M : Mt) : Prop where
  a0 : 0 ≤ M.a
  b0 : 0 ≤ M.b
  c0 : 0 ≤ M.c
  d0 : 0 ≤ M.d
  hd : M.det ≠ 0
  ba : Bd k M.a
  bb : Bd k M.b
  bc : Bd k M.c
  bd : Bd k M.d
theorem pos_den {N D : R} (n1 : s N = 1) (d1 : s D = 1) {M : Mt} {k : Nat} (h : MOk k M) : s (i M.c * N + i M.d * D) = 1 := by
  have c0 := h.c0
  have d0 := h.d0
  by_cases c : M.c = 0
  · have d : 0 < M.d := by
      by_cases z : 0 < M.d
      · exact z
      · exfalso
        refine h.hd ?_
        unfold Mt.det
        rw [c, show M.d = 0 by omega]; omega
    exact s_addr1 _ _ (nn_mul c0 (.inl n1)) (by rw [mul, i_s, sg_p d, d1]; rfl)
  · exact s_add1 _ _ (by rw [mul, i_s, sg_p (by omega), n1]; rfl) (nn_mul d0 (.inl d1))
/-- a change of a place -/
theorem rep_act {N D : R} {pl : List Int} {n k : Nat} {M : Mt} (h : RepR N D pl) (p : Pr N D) (m : MOk k M) (b : PlB n pl) (hn : n ≤ 290) : PlC M.a M.b M.c M.d pl ∧ RepR (act M (N, D)).1 (act M (N, D)).2 (bhPl M.a M.b M.c M.d pl) ∧ Pr (act M (N, D)).1 (act M (N, D)).2 := by
  have pa := pr_act p m.a0 m.b0 m.c0 m.d0 m.hd
  have hd : M.a * M.d - M.b * M.c ≠ 0 := m.hd
  cases b with
  | two bx b_y =>
    obtain ⟨nz, r⟩ := rep_ch2 h m.a0 m.b0 m.c0 m.d0 hd
    exact ⟨.two (bx.mono hn) (b_y.mono hn) nz, r, pa⟩
  | four ba bb bc hs =>
    obtain ⟨n1, d1⟩ := four_pos h p
    obtain ⟨nz, r⟩ := rep_ch4 (m := M.a) (n := M.b) (k := M.c) (l := M.d) h hd (pos_den n1 d1 m)
    exact ⟨.four (ba.mono hn) (bb.mono hn) (bc.mono hn) (Bd.sd hs) nz, r, pa⟩
theorem sd_rep {N D : R} {A B C sd : Int} (h : RepR N D [A, B, C, sd]) : sd = 1 ∨ sd = -1 := by
  cases h with
  | four A0 g dp dn e d0 hs => exact sd_pm dp dn e d0 hs
theorem bd_act {N D : R} {pl : List Int} {M : Mt} (h : RepR N D pl) (p : Pr N D) {k : Nat} (m : MOk k M) {n n' : Nat} (b : PlB n pl) (hn : n + 2 * k + 5 ≤ n') (h2 : n' ≤ 290) : PlB n' (bhPl M.a M.b M.c M.d pl) := by
  obtain ⟨pc, r, _⟩ := rep_act h p m b (by omega)
  cases b with
  | two bx b_y =>
    exact .two ((Bd.div _ ((m.ba.mul bx).add (m.bb.mul b_y))).mono (by omega)) ((Bd.div _ ((m.bc.mul bx).add (m.bd.mul b_y))).mono (by omega))
  | four ba bb bc hs =>
    rename_i A B C sd
    cases pc with
    | four _ _ _ _ nz =>
    obtain ⟨a', b', c', g, g0, a0, _, _, _, ⟨qa, qb, qc⟩, el⟩ := K15.lwd_any (B := c2 M.a M.b M.c M.d A B C) (C := c3 M.a M.b A B C) (s := sd * (sg (M.a * M.d - M.b * M.c) * sg (c1 M.c M.d A B C))) nz
    have e : bhPl M.a M.b M.c M.d [A, B, C, sd] = [a', b', c', sd * (sg (M.a * M.d - M.b * M.c) * sg (c1 M.c M.d A B C))] := el
    rw [e] at r ⊢
    have two_ : Bd 2 2 := show Int.natAbs 2 < 2 ^ 2 by decide
    refine .four (qa _ ?_) (qb _ ?_) (qc _ ?_) (sd_rep r)
    · exact ((((ba.mul m.bd).mul m.bd).sub ((bb.mul m.bd).mul m.bc)).add ((bc.mul m.bc).mul m.bc)).mono (by omega)
    · exact (((bb.mul ((m.bd.mul m.ba).add (m.bb.mul m.bc))).sub (((two_.mul ba).mul m.bd).mul m.bb)).sub (((two_.mul bc).mul m.ba).mul m.bc)).mono (by omega)
    · exact ((((ba.mul m.bb).mul m.bb).sub ((bb.mul m.bb).mul m.ba)).add ((bc.mul m.ba).mul m.ba)).mono (by omega)
theorem rep_one : RepR (1 : R) 1 [1, 1] := by
  refine .two (by decide) (by decide) (by decide) ?_ ?_
  · rw [i_one, show (1 : R) * 1 - 1 * 1 = 0 by grind]; exact s_zero
  · rw [i_one, show (1 : R) * 1 + 1 * 1 = 2 by grind]; exact s_i2
theorem cmp_one {N D : R} {pl : List Int} (h : RepR N D pl) : cmpPl pl [1, 1] = s (N - D) := by
  rw [cmpR h rep_one]; congr 1; grind
/-- the first letters of a place -/
inductive LtE : List Int → List Bool → Prop
  | zero : LtE [0, 1] (List.replicate 40 false)
  | endl : LtE [1, 0] (List.replicate 40 true)
  | frac {u : List Bool} (hu : u.length ≤ 200) : LtE [((pr u).1 : Int), ((pr u).2 : Int)] (u.take 40)
  | root {K A B C sd : Int} (h : Fo.Sm K A B C sd) (hK : K < 2 ^ 88) : LtE [A, B, C, sd] (Fo.flw 40 [A, B, C, sd])
theorem wdp_zero : ∀ (n : Nat) {N D : R}, s N = 0 → s D = 1 → wdp n N D = List.replicate n false
  | 0, _, _, _, _ => rfl
  | n + 1, N, D, h, g => by
    have e : s (N - D) = -1 := by rw [show N - D = N + -D by grind, add0 _ _ h, neg, g]
    have e2 : s (D - N) = 1 := by rw [show D - N = -(N - D) by grind, neg, e]; rfl
    unfold wdp
    rw [if_neg (by omega), if_pos (by omega), wdp_zero n h e2]; rfl
theorem wdp_endl : ∀ (n : Nat) {N D : R}, s N = 1 → s D = 0 → wdp n N D = List.replicate n true
  | 0, _, _, _, _ => rfl
  | n + 1, N, D, h, g => by
    have e : s (N - D) = 1 := by rw [show N - D = N + -D by grind, s_addr0 _ _ (by rw [neg, g]; rfl), h]
    unfold wdp
    rw [if_neg (by omega), if_neg (by omega), wdp_endl n e g]; rfl
theorem wdp_frac : ∀ (u : List Bool) (n : Nat) {N D : R}, RepR N D [((pr u).1 : Int), ((pr u).2 : Int)] → Pr N D → wdp n N D = u.take n
  | _, 0, _, _, _, _ => by rw [List.take_zero]; rfl
  | [], n + 1, N, D, h, p => by
    have e : s (N - D) = 0 := by
      have := cmp_one h
      rw [← this]; rfl
    unfold wdp
    rw [if_pos e]; rfl
  | b :: u, n + 1, N, D, h, p => by
    have pp := pr_pos u
    have e : s (N - D) = sg (((pr (b :: u)).1 : Int) * 1 - 1 * ((pr (b :: u)).2 : Int)) := (cmp_one h).symm
    cases b with
    | false =>
      have e1 : (pr (false :: u)).1 = (pr u).1 := rfl
      have e2 : (pr (false :: u)).2 = (pr u).1 + (pr u).2 := rfl
      rw [e1, e2] at e
      rw [sg_n (by omega)] at e
      have pl := p.l (by omega)
      unfold wdp
      rw [if_neg (by omega), if_pos (by omega), wdp_frac u n (N := N) (D := D - N) ?_ pl]
      · rfl
      cases h with
      | two x0 y0 co ee ps =>
        rw [e1, e2] at ee
        refine .two (by omega) (by omega) (by rw [Int.gcd_natCast_natCast]; exact pr_cop u) ?_ ?_
        · rw [show (((pr u).1 + (pr u).2 : Nat) : Int) = ((pr u).1 : Int) + ((pr u).2 : Int) by omega, i_add] at ee
          rw [show N * i ((pr u).2 : Int) - i ((pr u).1 : Int) * (D - N) = N * (i ((pr u).1 : Int) + i ((pr u).2 : Int)) - i ((pr u).1 : Int) * D by grind]
          exact ee
        · have dn : s (D - N) = 1 := by rw [show D - N = -(N - D) by grind, neg, e]; rfl
          exact s_addr1 _ _ (nn_mul (by omega) p.n) (by rw [mul, i_s, sg_p (by omega), dn]; rfl)
    | true =>
      have e1 : (pr (true :: u)).1 = (pr u).1 + (pr u).2 := rfl
      have e2 : (pr (true :: u)).2 = (pr u).2 := rfl
      rw [e1, e2] at e
      rw [sg_p (by omega)] at e
      have pl := p.r (by omega) (by omega)
      unfold wdp
      rw [if_neg (by omega), if_neg (by omega), wdp_frac u n (N := N - D) (D := D) ?_ pl]
      · rfl
      cases h with
      | two x0 y0 co ee ps =>
        rw [e1, e2] at ee
        refine .two (by omega) (by omega) (by rw [Int.gcd_natCast_natCast]; exact pr_cop u) ?_ ?_
        · rw [show (((pr u).1 + (pr u).2 : Nat) : Int) = ((pr u).1 : Int) + ((pr u).2 : Int) by omega, i_add] at ee
          rw [show (N - D) * i ((pr u).2 : Int) - i ((pr u).1 : Int) * D = N * i ((pr u).2 : Int) - (i ((pr u).1 : Int) + i ((pr u).2 : Int)) * D by grind]
          exact ee
        · exact s_add1 _ _ (by rw [mul, i_s, sg_p (by omega), e]; rfl) (nn_mul (by omega) p.d)
theorem wdp_root : ∀ (n : Nat) {N D : R} {A B C sd : Int}, RepR N D [A, B, C, sd] → Pr N D → wdp n N D = Fo.flw n [A, B, C, sd]
  | 0, _, _, _, _, _, _, _, _ => rfl
  | n + 1, N, D, A, B, C, sd, h, p => by
    have e := cmp_one h
    have nz : s (N - D) ≠ 0 := fun z => by
      have := (eqR h rep_one).mp (by rw [show N * 1 - 1 * D = N - D by grind]; exact z)
      cases this
    obtain ⟨n1, d1⟩ := four_pos h p
    have four : ∀ {N' D' : R} {pl : List Int}, RepR N' D' pl → Pr N' D' → pl.length = 4 → wdp n N' D' = Fo.flw n pl := fun {N' D' pl} r q hl => by
      cases r with
      | two => cases hl
      | four A0 g dp dn ee d0 hs => exact wdp_root n (.four A0 g dp dn ee d0 hs) q
    unfold wdp
    rw [if_neg nz]
    show _ = decide (¬ cmpPl [A, B, C, sd] [1, 1] < 0) :: Fo.flw n (Fo.nextPl [A, B, C, sd])
    unfold Fo.nextPl
    rw [e]
    by_cases c : s (N - D) < 0
    · rw [if_pos c, if_pos c, decide_eq_false (by omega)]
      have pl := p.l c
      have e3 : (i 1 * N + i 0 * D : R) = N := by rw [i_one, i_zero]; grind
      have e4 : (i (-1) * N + i 1 * D : R) = D - N := by rw [i_neg, i_one]; grind
      have dn : s (D - N) = 1 := by rcases tri (D - N) with z | z | z; exact z; all_goals (rw [show N - D = -(D - N) by grind, neg] at c nz; omega)
      obtain ⟨_, r⟩ := rep_ch4 (m := 1) (n := 0) (k := -1) (l := 1) h (by decide) (by rw [e4]; exact dn)
      rw [e3, e4] at r
      rw [four r pl rfl]
    · rw [if_neg c, if_neg c, decide_eq_true (by omega)]
      have pl := p.r nz c
      have e3 : (i 1 * N + i (-1) * D : R) = N - D := by rw [i_neg, i_one]; grind
      have e4 : (i 0 * N + i 1 * D : R) = D := by rw [i_one, i_zero]; grind
      obtain ⟨_, r⟩ := rep_ch4 (m := 1) (n := -1) (k := 0) (l := 1) h (by decide) (by rw [e4]; exact d1)
      rw [e3, e4] at r
      rw [four r pl rfl]
theorem wdp_lt {N D : R} {pl : List Int} {W : List Bool} (l : LtE pl W) (h : RepR N D pl) (p : Pr N D) : wdp 40 N D = W := by
  cases l with
  | zero =>
    have e : s N = 0 := by
      have := (cmpR h (rep_one (R := R)))
      cases h with
      | two x0 y0 co e ps =>
        rw [i_one, i_zero, show N * 1 - 0 * D = N by grind] at e
        exact e
    refine wdp_zero 40 e ?_
    rcases p.p with q | q
    · rw [e] at q; cases q
    · exact q
  | endl =>
    have e : s D = 0 := by
      cases h with
      | two x0 y0 co e ps =>
        rw [i_one, i_zero, show N * 0 - 1 * D = -D by grind, neg] at e
        omega
    refine wdp_endl 40 ?_ e
    rcases p.p with q | q
    · exact q
    · rw [e] at q; cases q
  | frac hu => exact wdp_frac _ 40 h p
  | root hs hK => exact wdp_root 40 h p
def mL (u : List Bool) : List Nat := u.map cd ++ [109]
/-- the order of words, the end between l and r -/
theorem wcmp_lt : ∀ u v : List Bool, (wcmp u v = 0 ↔ u = v) ∧ (wcmp u v = -1 ↔ mL u < mL v) ∧ (wcmp u v = 0 ∨ wcmp u v = 1 ∨ wcmp u v = -1)
  | [], [] => ⟨⟨fun _ => rfl, fun _ => rfl⟩, ⟨fun h => (nomatch h), fun h => absurd h (List.lt_irrefl _)⟩, .inl rfl⟩
  | [], false :: x => ⟨⟨fun h => (nomatch h), fun h => (nomatch h)⟩, ⟨fun h => (nomatch h), fun h => by
      have h : [109] < 108 :: mL x := h
      rcases List.cons_lt_cons_iff.mp h with z | ⟨z, _⟩ <;> omega⟩, .inr (.inl rfl)⟩
  | [], true :: x => ⟨⟨fun h => (nomatch h), fun h => (nomatch h)⟩, ⟨fun _ => show [109] < 114 :: mL x from List.cons_lt_cons_iff.mpr (.inl (by decide)), fun _ => rfl⟩, .inr (.inr rfl)⟩
  | false :: x, [] => ⟨⟨fun h => (nomatch h), fun h => (nomatch h)⟩, ⟨fun _ => show 108 :: mL x < [109] from List.cons_lt_cons_iff.mpr (.inl (by decide)), fun _ => rfl⟩, .inr (.inr rfl)⟩
  | true :: x, [] => ⟨⟨fun h => (nomatch h), fun h => (nomatch h)⟩, ⟨fun h => (nomatch h), fun h => by
      have h : 114 :: mL x < [109] := h
      rcases List.cons_lt_cons_iff.mp h with z | ⟨z, _⟩ <;> omega⟩, .inr (.inl rfl)⟩
  | false :: u, false :: v => by
    obtain ⟨h1, h2, h3⟩ := wcmp_lt u v
    refine ⟨h1.trans ⟨fun e => by rw [e], fun e => (List.cons.inj e).2⟩, h2.trans ?_, h3⟩
    show mL u < mL v ↔ 108 :: mL u < 108 :: mL v
    rw [List.cons_lt_cons_iff]
    exact ⟨fun h => .inr ⟨rfl, h⟩, fun h => h.elim (fun z => absurd z (by omega)) fun z => z.2⟩
  | true :: u, true :: v => by
    obtain ⟨h1, h2, h3⟩ := wcmp_lt u v
    refine ⟨h1.trans ⟨fun e => by rw [e], fun e => (List.cons.inj e).2⟩, h2.trans ?_, h3⟩
    show mL u < mL v ↔ 114 :: mL u < 114 :: mL v
    rw [List.cons_lt_cons_iff]
    exact ⟨fun h => .inr ⟨rfl, h⟩, fun h => h.elim (fun z => absurd z (by omega)) fun z => z.2⟩
  | false :: u, true :: v => ⟨⟨fun h => (nomatch h), fun h => (nomatch h)⟩, ⟨fun _ => show 108 :: mL u < 114 :: mL v from List.cons_lt_cons_iff.mpr (.inl (by decide)), fun _ => rfl⟩, .inr (.inr rfl)⟩
  | true :: u, false :: v => ⟨⟨fun h => (nomatch h), fun h => (nomatch h)⟩, ⟨fun h => (nomatch h), fun h => by
      have h : 114 :: mL u < 108 :: mL v := h
      rcases List.cons_lt_cons_iff.mp h with z | ⟨z, _⟩ <;> omega⟩, .inr (.inl rfl)⟩
end
/-- a place of the law -/
structure Gd (pl : List Int) (W : List Bool) : Prop where
  ex : ∃ (d : Int) (hd : 0 ≤ d) (N D : R1 d), @RepR (R1 d) _ (E1 hd) N D pl ∧ @Pr (R1 d) _ (E1 hd) N D
  lt : LtE pl W
  bd : PlB 40 pl
theorem two_in {pl pl' : List Int} {W W' : List Bool} (h : Gd pl W) (g : Gd pl' W') : ∃ (R : Type) (_ : CommRing R) (_ : Em R) (N D M E : R), RepR N D pl ∧ Pr N D ∧ RepR M E pl' ∧ Pr M E := by
  obtain ⟨d, hd, N, D, h1, h2⟩ := h.ex
  obtain ⟨c, hc, M, E, g1, g2⟩ := g.ex
  letI := E1 hd
  letI := E1 hc
  letI := E2 hd hc
  have f1 := hom_fst hd hc
  have f2 := hom_snd hd hc
  refine ⟨T d c, inferInstance, E2 hd hc, fst N, fst D, snd M, snd E, RepR.map f1 h1, ⟨by rw [f1.s]; exact h2.n, by rw [f1.s]; exact h2.d, by rw [f1.s, f1.s]; exact h2.p⟩, @RepR.map _ _ _ (E1 hc) _ _ _ f2 _ _ _ g1, ?_⟩
  exact ⟨(f2.s M).symm ▸ g2.n, (f2.s E).symm ▸ g2.d, (f2.s M).symm ▸ (f2.s E).symm ▸ g2.p⟩
theorem exch_ok : MOk 4 ⟨0, 1, 1, 0⟩ := ⟨by decide, by decide, by decide, by decide, by decide, show Int.natAbs 0 < 2 ^ 4 by decide, show Int.natAbs 1 < 2 ^ 4 by decide, show Int.natAbs 1 < 2 ^ 4 by decide, show Int.natAbs 0 < 2 ^ 4 by decide⟩
/-- what the law asks of two places -/
structure Two (M B : Mt) (pl pl' : List Int) (W W' : List Bool) : Prop where
  tri : cmpPl pl pl' = 1 ∨ cmpPl pl pl' = 0 ∨ cmpPl pl pl' = -1
  c1 : PlC M.a M.b M.c M.d pl
  c2 : PlC M.a M.b M.c M.d pl'
  c3 : PlC B.a B.b B.c B.d pl
  c4 : PlC M.a M.b M.c M.d (bhPl B.a B.b B.c B.d pl)
  c5 : PlC (M.mul B).a (M.mul B).b (M.mul B).c (M.mul B).d pl
  c6 : PlC 0 1 1 0 pl
  c7 : PlC 0 1 1 0 pl'
  c8 : PlC 0 1 1 0 (bhPl 0 1 1 0 pl)
  o0 : PlO pl
  o0' : PlO pl'
  o1 : PlO (bhPl M.a M.b M.c M.d pl)
  o2 : PlO (bhPl M.a M.b M.c M.d pl')
  o3 : PlO (bhPl 0 1 1 0 pl)
  o4 : PlO (bhPl 0 1 1 0 pl')
  way : cmpPl (bhPl M.a M.b M.c M.d pl) (bhPl M.a M.b M.c M.d pl') = sg M.det * cmpPl pl pl'
  prod : bhPl (M.mul B).a (M.mul B).b (M.mul B).c (M.mul B).d pl = bhPl M.a M.b M.c M.d (bhPl B.a B.b B.c B.d pl)
  turn : cmpPl (bhPl 0 1 1 0 pl) (bhPl 0 1 1 0 pl') = 0 - cmpPl pl pl'
  back : bhPl 0 1 1 0 (bhPl 0 1 1 0 pl) = pl
  low : cmpPl [0, 1] pl ≤ 0
  high : cmpPl pl [1, 0] ≤ 0
  eq : cmpPl pl pl' = 0 ↔ pl = pl'
  wd : W ≠ W' → cmpPl pl pl' = if mL W < mL W' then -1 else 1
theorem plo_of {n : Nat} {pl : List Int} (h : PlB n pl) (hn : n ≤ 90) : PlO pl := by
  cases h with
  | two bx b_y => exact .two (bx.mono hn) (b_y.mono hn)
  | four ba bb bc hs => exact .four (ba.mono hn) (bb.mono hn) (bc.mono hn) (Bd.sd hs)
theorem mul_ok {M B : Mt} (m : MOk 4 M) (b : MOk 4 B) : MOk 9 (M.mul B) := by
  refine ⟨?_, ?_, ?_, ?_, ?_, ?_, ?_, ?_, ?_⟩
  · exact Int.add_nonneg (Int.mul_nonneg m.a0 b.a0) (Int.mul_nonneg m.b0 b.c0)
  · exact Int.add_nonneg (Int.mul_nonneg m.a0 b.b0) (Int.mul_nonneg m.b0 b.d0)
  · exact Int.add_nonneg (Int.mul_nonneg m.c0 b.a0) (Int.mul_nonneg m.d0 b.c0)
  · exact Int.add_nonneg (Int.mul_nonneg m.c0 b.b0) (Int.mul_nonneg m.d0 b.d0)
  · have : (M.mul B).det = M.det * B.det := by
      unfold Mt.mul Mt.det
      simp only
      grind
    rw [this]
    exact fun z => (Int.mul_eq_zero.mp z).elim m.hd b.hd
  · exact ((m.ba.mul b.ba).add (m.bb.mul b.bc)).mono (by decide)
  · exact ((m.ba.mul b.bb).add (m.bb.mul b.bd)).mono (by decide)
  · exact ((m.bc.mul b.ba).add (m.bd.mul b.bc)).mono (by decide)
  · exact ((m.bc.mul b.bb).add (m.bd.mul b.bd)).mono (by decide)
theorem two_law {M B : Mt} {pl pl' : List Int} {W W' : List Bool} (m : MOk 4 M) (b : MOk 4 B) (h : Gd pl W) (g : Gd pl' W') : Two M B pl pl' W W' := by
  obtain ⟨R, i1, i2, N, D, N', D', h1, h2, g1, g2⟩ := two_in h g
  have hb := h.bd
  have gb := g.bd
  obtain ⟨c1, r1, p1⟩ := rep_act h1 h2 m hb (by decide)
  obtain ⟨c2, r2, p2⟩ := rep_act g1 g2 m gb (by decide)
  obtain ⟨c3, r3, p3⟩ := rep_act h1 h2 b hb (by decide)
  have b3 := bd_act h1 h2 b hb (n' := 53) (by decide) (by decide)
  obtain ⟨c4, r4, p4⟩ := rep_act r3 p3 m b3 (by decide)
  obtain ⟨c5, r5, p5⟩ := rep_act h1 h2 (mul_ok m b) hb (by decide)
  obtain ⟨c6, r6, p6⟩ := rep_act h1 h2 exch_ok hb (by decide)
  obtain ⟨c7, r7, p7⟩ := rep_act g1 g2 exch_ok gb (by decide)
  have b6 := bd_act h1 h2 exch_ok hb (n' := 53) (by decide) (by decide)
  have b7 := bd_act g1 g2 exch_ok gb (n' := 53) (by decide) (by decide)
  obtain ⟨c8, r8, p8⟩ := rep_act r6 p6 exch_ok b6 (by decide)
  have e0 := cmpR h1 g1
  have anyM : ∀ (Q : Mt), (act Q (N, D)).1 * (act Q (N', D')).2 - (act Q (N', D')).1 * (act Q (N, D)).2 = i Q.det * (N * D' - N' * D) := fun Q => crs_act Q (N, D) (N', D')
  have bk : act ⟨0, 1, 1, 0⟩ (act ⟨0, 1, 1, 0⟩ (N, D)) = (N, D) := by
    rw [← act_mul]
    exact act_one (N, D)
  refine { tri := by rw [e0]; exact tri _, c1 := c1, c2 := c2, c3 := c3, c4 := c4, c5 := c5, c6 := c6, c7 := c7, c8 := c8, o0 := plo_of hb (by decide), o0' := plo_of gb (by decide), o1 := plo_of (bd_act h1 h2 m hb (n' := 53) (by decide) (by decide)) (by decide), o2 := plo_of (bd_act g1 g2 m gb (n' := 53) (by decide) (by decide)) (by decide), o3 := plo_of b6 (by decide), o4 := plo_of b7 (by decide), way := ?_, prod := ?_, turn := ?_, back := ?_, low := ?_, high := ?_, eq := ?_, wd := ?_ }
  · rw [cmpR r1 r2, anyM, mul, i_s, e0]
  · refine (eqR r5 r4).mp ?_
    rw [act_mul]
    rw [show ∀ x y : R, x * y - x * y = 0 from fun x y => by grind]
    exact s_zero
  · have := cmpR r6 r7
    rw [anyM, mul, i_s] at this
    rw [e0]
    refine this.trans ?_
    show sg (0 * 0 - 1 * 1) * _ = _
    rw [show sg (0 * 0 - 1 * 1) = -1 from rfl]; omega
  · have e8 : (act ⟨0, 1, 1, 0⟩ ((act ⟨0, 1, 1, 0⟩ (N, D)).1, (act ⟨0, 1, 1, 0⟩ (N, D)).2)) = (N, D) := bk
    rw [e8] at r8
    refine (eqR r8 h1).mp ?_
    rw [show N * D - N * D = 0 from by grind]
    exact s_zero
  · have z : RepR (0 : R) 1 [0, 1] := by
      refine .two (by decide) (by decide) (by decide) ?_ ?_
      · rw [i_one, i_zero, show (0 : R) * 1 - 0 * 1 = 0 by grind]; exact s_zero
      · rw [i_one, i_zero, show (0 : R) * 0 + 1 * 1 = 1 by grind]; exact one
    rw [cmpR z h1, show 0 * D - N * 1 = -N by grind, neg]
    rcases h2.n with q | q <;> omega
  · have z : RepR (1 : R) 0 [1, 0] := by
      refine .two (by decide) (by decide) (by decide) ?_ ?_
      · rw [i_one, i_zero, show (1 : R) * 0 - 1 * 0 = 0 by grind]; exact s_zero
      · rw [i_one, i_zero, show (1 : R) * 1 + 0 * 0 = 1 by grind]; exact one
    rw [cmpR h1 z, show N * 0 - 1 * D = -D by grind, neg]
    rcases h2.d with q | q <;> omega
  · rw [e0]; exact eqR h1 g1
  · intro ne
    have w1 := wdp_lt h.lt h1 h2
    have w2 := wdp_lt g.lt g1 g2
    have o := ord_wdp 40 N D N' D' h2 g2
    rw [w1, w2] at o
    obtain ⟨k1, k2, k3⟩ := wcmp_lt W W'
    have ne0 : wcmp W W' ≠ 0 := fun z => ne (k1.mp z)
    have e1 : wcmp W W' = s (N * D' - N' * D) := o.resolve_left ne0
    rw [e0, ← e1]
    by_cases c : mL W < mL W'
    · rw [if_pos c]; exact k2.mpr c
    · rw [if_neg c]
      have : wcmp W W' ≠ -1 := fun z => c (k2.mp z)
      omega
theorem pr_ex : ∀ (n x y : Nat), x + y ≤ n → 0 < x → 0 < y → Nat.gcd x y = 1 → ∃ u : List Bool, pr u = (x, y) ∧ u.length ≤ n
  | 0, x, y, h, x0, _, _ => by omega
  | n + 1, x, y, h, x0, y0, g => by
    by_cases e : x = y
    · subst e
      rw [Nat.gcd_self] at g
      subst g
      exact ⟨[], rfl, Nat.zero_le _⟩
    · by_cases l : x < y
      · obtain ⟨u, hu, hl⟩ := pr_ex n x (y - x) (by omega) x0 (by omega) (by rw [Nat.gcd_sub_self_right (Nat.le_of_lt l)]; exact g)
        refine ⟨false :: u, ?_, by rw [List.length_cons]; omega⟩
        show ((pr u).1, (pr u).1 + (pr u).2) = _
        rw [hu]
        exact Prod.ext rfl (by show x + (y - x) = y; omega)
      · obtain ⟨u, hu, hl⟩ := pr_ex n (x - y) y (by omega) (by omega) y0 (by rw [Nat.gcd_sub_self_left (by omega)]; exact g)
        refine ⟨true :: u, ?_, by rw [List.length_cons]; omega⟩
        show ((pr u).1 + (pr u).2, (pr u).2) = _
        rw [hu]
        exact Prod.ext (by show x - y + y = x; omega) rfl
theorem lt_two {x y : Int} (x0 : 0 ≤ x) (y0 : 0 ≤ y) (co : Int.gcd x y = 1) (hx : x ≤ 100) (hy : y ≤ 100) : ∃ W, LtE [x, y] W := by
  by_cases h1 : x = 0
  · subst h1
    rw [Int.gcd_zero_left] at co
    have : y = 1 := by omega
    subst this
    exact ⟨_, .zero⟩
  · by_cases h2 : y = 0
    · subst h2
      rw [Int.gcd_zero_right] at co
      have : x = 1 := by omega
      subst this
      exact ⟨_, .endl⟩
    · obtain ⟨u, hu, hl⟩ := pr_ex 200 x.toNat y.toNat (by omega) (by omega) (by omega) (by
        have : Int.gcd (x.toNat : Int) (y.toNat : Int) = 1 := by rw [Int.toNat_of_nonneg x0, Int.toNat_of_nonneg y0]; exact co
        exact this)
      have := LtE.frac hl
      rw [hu] at this
      simp only at this
      rw [Int.toNat_of_nonneg x0, Int.toNat_of_nonneg y0] at this
      exact ⟨_, this⟩
theorem lt_four {R : Type} [CommRing R] [Em R] {N D : R} {A B C sd : Int} (h : RepR N D [A, B, C, sd]) (p : Pr N D) (b : PlB 40 [A, B, C, sd]) : ∃ W, LtE [A, B, C, sd] W := by
  obtain ⟨n1, d1⟩ := four_pos h p
  have hs := sd_rep h
  cases b with
  | four ba bb bc _ =>
  cases h with
  | four A0 g dp dn e d0 hsd =>
  have dpos := nsq_pos dp dn
  have up : ∀ {z : Int} {n : Nat}, Bd n z → n ≤ 86 → z < 2 ^ 86 ∧ -(2 ^ 86) < z := fun {z n} hz hn => by
    have h1 : z.natAbs < 2 ^ 86 := Nat.lt_of_lt_of_le hz (Nat.pow_le_pow_right (by decide) hn)
    have h2 : (z.natAbs : Int) < 2 ^ 86 := by exact_mod_cast h1
    omega
  have bD : Bd 84 (B * B - 4 * A * C) := ((bb.mul bb).sub (((show Bd 3 4 from (show Int.natAbs 4 < 2 ^ 3 by decide)).mul ba).mul bc)).mono (by decide)
  have c0 : C ≠ 0 := fun z => by
    subst z
    refine dn ?_
    have : B * B - 4 * A * 0 = B * B := by omega
    rw [this]
    rcases Int.le_total 0 B with k | k
    · exact ⟨B, k, rfl⟩
    · exact ⟨-B, by omega, Int.neg_mul_neg B B⟩
  have sA : s (i A : R) = 1 := by rw [i_s]; exact sg_p A0
  have k1 := up ba (by decide)
  have k2 := up bb (by decide)
  have k3 := up bc (by decide)
  have k4 := up bD (by decide)
  have fm : Fo.Fm (2 ^ 86) A B C := by
    rcases Int.lt_or_gt_of_ne c0 with q | q
    · exact .sep A0 q
    · refine .both A0 q ?_ (by omega) (by omega) (by omega)
      by_cases b0 : B < 0
      · exact b0
      · exfalso
        have t1 : s (i A * (N * N)) = 1 := by rw [mul, mul, sA, n1]; rfl
        have t2 : s (i B * (N * D)) = 1 ∨ s (i B * (N * D)) = 0 := nn_mul (by omega) (.inl (by rw [mul, n1, d1]; rfl))
        have t3 : s (i C * (D * D)) = 1 ∨ s (i C * (D * D)) = 0 := nn_mul (by omega) (.inl (by rw [mul, d1]; rfl))
        have := s_add1 _ _ (s_add1 _ _ t1 t2) t3
        omega
  refine ⟨_, .root (K := 2 ^ 86) ⟨fm, dpos, by omega, dn, hs, fun q => ?_, g⟩ (by decide)⟩
  -- C below 0: the greater one
  have t3 : s (-(i C * (D * D))) = 1 := by rw [neg, mul, mul, d1, i_s, sg_n q]; rfl
  have e2 : s (N * (i A * N + i B * D)) = 1 := by
    rw [← t3]
    refine s_sub0 _ _ ?_
    rw [show N * (i A * N + i B * D) - -(i C * (D * D)) = i A * (N * N) + i B * (N * D) + i C * (D * D) by grind]
    exact e
  rw [mul, n1, Int.one_mul] at e2
  have : s (2 * i A * N + i B * D) = 1 := by
    rw [show 2 * i A * N + i B * D = i A * N + (i A * N + i B * D) by grind]
    exact add _ _ (by rw [mul, sA, n1]; rfl) e2
  rw [← hsd, this]
/-- a place of a pair, with its word -/
theorem gd_of {pl : List Int} {d : Int} (hd : 0 ≤ d) {N D : R1 d} (h : @RepR (R1 d) _ (E1 hd) N D pl) (p : @Pr (R1 d) _ (E1 hd) N D) (b : PlB 40 pl) (small : ∀ x y, pl = [x, y] → x ≤ 100 ∧ y ≤ 100) : ∃ W, Gd pl W := by
  letI := E1 hd
  have : ∃ W, LtE pl W := by
    cases b with
    | two bx b_y =>
      obtain ⟨h1, h2⟩ := small _ _ rfl
      cases h with
      | two x0 y0 co e ps => exact lt_two x0 y0 co h1 h2
    | four ba bb bc hs => exact lt_four h p (.four ba bb bc hs)
  obtain ⟨W, l⟩ := this
  exact ⟨W, ⟨d, hd, N, D, h, p⟩, l, b⟩
theorem gd_two {x y : Int} (x0 : 0 ≤ x) (y0 : 0 ≤ y) (co : Int.gcd x y = 1) (hx : x ≤ 100) (hy : y ≤ 100) : ∃ W, Gd [x, y] W := by
  have hd : (0 : Int) ≤ 0 := by decide
  letI := E1 hd
  have up : ∀ z : Int, 0 ≤ z → z ≤ 100 → Bd 40 z := fun z h1 h2 => Nat.lt_of_lt_of_le (show z.natAbs < 1000 by omega) (by decide)
  have nz := co_nz co
  have nn : ∀ z : Int, 0 ≤ z → s (i z : R1 0) = 1 ∨ s (i z : R1 0) = 0 := fun z hz => by
    rw [i_s]
    rcases sg_c z with ⟨_, e⟩ | ⟨_, e⟩ | ⟨q, _⟩ <;> omega
  refine gd_of hd (N := i x) (D := i y) (.two x0 y0 co ?_ ?_) ⟨nn x x0, nn y y0, ?_⟩ (.two (up x x0 hx) (up y y0 hy)) (fun a b e => ?_)
  · rw [show (i x : R1 0) * i y - i x * i y = 0 by grind]; exact s_zero
  · rw [← i_mul, ← i_mul, ← i_add, i_s]; exact sg_p nz
  · rw [i_s, i_s]
    rcases sg_c x with ⟨_, e⟩ | ⟨z, e⟩ | ⟨q, _⟩
    · exact .inl e
    · subst z
      rw [Int.gcd_zero_left] at co
      exact .inr (sg_p (by omega))
    · omega
  · injection e with e1 e
    injection e with e2 _
    subst e1 e2
    exact ⟨hx, hy⟩
theorem gd_parts {u v : List Bool} (hu : u.length ≤ 5) (hv : v.length ≤ 7) (hr : true ∈ v) (hl : false ∈ v) : ∃ W, Gd (plG u v) W := by
  obtain ⟨d, hd, p, c⟩ := cyc_mixed hr hl
  letI := E1 hd
  obtain ⟨a0, b0, c0, d0, _⟩ := wmx_pos u
  have dt := wm_det u
  obtain ⟨w1, w2, w3, w4⟩ := wm_bd (u := u) (n := 6) (by omega)
  have m : MOk 6 (wmx u) := ⟨a0, b0, c0, d0, by rw [dt]; decide, w1, w2, w3, w4⟩
  have pp : Pr p.1 p.2 := ⟨c.nn.a, c.nn.b, c.nn.c⟩
  rcases plY_form v with e | e | ⟨_, _, A, B, C, e, bd⟩
  · unfold plY at e; rw [if_pos hr, if_pos hl] at e
    exact absurd (congrArg List.length e) (by show 4 ≠ 2; decide)
  · unfold plY at e; rw [if_pos hr, if_pos hl] at e
    exact absurd (congrArg List.length e) (by show 4 ≠ 2; decide)
  · have rp := c.rp
    obtain ⟨b1, b2, b3⟩ := bd 9 (by omega)
    have b : PlB 9 (plY v) := by rw [e]; exact .four b1 b2 b3 (.inl rfl)
    obtain ⟨_, r, q⟩ := rep_act rp pp m b (by decide)
    have bb := bd_act rp pp m b (n' := 40) (by decide) (by decide)
    refine gd_of hd r q bb fun x y z => ?_
    unfold plG at z
    rw [e] at z
    exact absurd (congrArg List.length z) (by show 4 ≠ 2; decide)
theorem gd_root {p q d r s0 : Int} (hp : -10 ≤ p ∧ p ≤ 10) (hq : -4 ≤ q ∧ q ≤ 4) (hd : 0 ≤ d ∧ d ≤ 20) (hr : 1 ≤ r ∧ r ≤ 6) (w : 0 < swr p q d) (t0 : 0 ≤ s0) (t1 : s0 * s0 ≤ d) (t2 : d < (s0 + 1) * (s0 + 1)) : ∃ W, Gd (rootPl p q d r s0) W := by
  letI := E1 hd.1
  have f1 : 0 < r := by omega
  have rr : 0 < r * r := Int.mul_pos f1 f1
  have s5 : s0 ≤ 4 := by
    by_cases z : s0 ≤ 4
    · exact z
    · have : 5 * 5 ≤ s0 * s0 := Int.mul_le_mul (by omega) (by omega) (by decide) t0
      omega
  have up : ∀ z : Int, -1000 ≤ z → z ≤ 1000 → Bd 10 z := fun z h1 h2 => (show z.natAbs < 1024 by omega)
  have fin : ∀ pl, Rep ⟨p, q, d, r⟩ pl → PlB 40 pl → (∀ x y, pl = [x, y] → x ≤ 100 ∧ y ≤ 100) → ∃ W, Gd pl W := fun pl h b sm => by
    have rp := rep_pair (g := ⟨p, q, d, r⟩) hd.1 h w
    refine gd_of hd.1 rp ?_ b sm
    have n1 : s (⟨p, q⟩ : R1 d) = 1 := by
      have := sq_swr hd.1 p q
      rcases tri (⟨p, q⟩ : R1 d) with z | z | z
      · exact z
      · exact absurd (this.symm.trans z) (by omega)
      · exact absurd (this.symm.trans z) (by omega)
    have n2 : s (⟨r, 0⟩ : R1 d) = 1 := (sq_swr hd.1 r 0).trans (by rw [swr_0]; exact sg_p f1)
    exact ⟨.inl n1, .inl n2, .inl n1⟩
  unfold rootPl
  by_cases hz : q = 0 ∨ s0 * s0 = d
  · rw [if_pos hz]
    have x0 := K10.swr_frac w hz t0
    obtain ⟨a1, b1, g1⟩ := K10.frac_low x0 f1
    have h1 := Int.mul_ediv_cancel' (a := ((Int.gcd (p + q * s0) r : Nat) : Int)) (b := p + q * s0) (Int.gcd_dvd_left _ _)
    have h2 := Int.mul_ediv_cancel' (a := ((Int.gcd (p + q * s0) r : Nat) : Int)) (b := r) (Int.gcd_dvd_right _ _)
    have g0 : 0 < Int.gcd (p + q * s0) r := Int.gcd_pos_of_ne_zero_left _ (by omega)
    have qs : q * s0 ≤ 4 * 4 := Int.le_trans (Int.mul_le_mul_of_nonneg_right hq.2 t0) (Int.mul_le_mul_of_nonneg_left s5 (by decide))
    have le : ∀ {k z w : Int}, 0 < k → k * z = w → 0 < z → z ≤ w := fun {k z w} hk e hz => by
      rw [← e]
      have : 1 * z ≤ k * z := Int.mul_le_mul_of_nonneg_right (by omega) (by omega)
      omega
    have xle := le (show (0 : Int) < ((Int.gcd (p + q * s0) r : Nat) : Int) by omega) h1 (by omega)
    have yle := le (show (0 : Int) < ((Int.gcd (p + q * s0) r : Nat) : Int) by omega) h2 (by omega)
    refine fin _ (.two hd.1 f1 t0 hz (by omega) (by omega) (by omega) ?_ g1) (.two ((up _ (by omega) (by omega)).mono (by decide)) ((up _ (by omega) (by omega)).mono (by decide))) fun x y e => ?_
    · generalize ((Int.gcd (p + q * s0) r : Nat) : Int) = k at *
      generalize (p + q * s0) / k = x at *
      generalize r / k = y at *
      show (p + q * s0) * y = x * r
      rw [← h1, ← h2]; grind
    · injection e with e1 e
      injection e with e2 _
      subst e1 e2
      exact ⟨by omega, by omega⟩
  · rw [if_neg hz]
    have q0 : q ≠ 0 := fun z => hz (.inl z)
    have dn : ¬ isq d := fun ⟨t, u0, ht⟩ => hz (.inr (Lr.sq_un t0 t1 t2 u0 ht))
    obtain ⟨a, b, c, f, red, ⟨qa, qb, qc⟩, e4⟩ := K10.lwd_pos (A := r * r) (B := -2 * p * r) (C := p * p - q * q * d) (s := if 0 < q then 1 else -1) rr
    rw [e4]
    have sd : (if 0 < q then (1 : Int) else -1) = sg q := by
      rcases Int.lt_trichotomy q 0 with z | z | z
      · rw [if_neg (by omega), sg_n z]
      · exact absurd z q0
      · rw [if_pos z, sg_p z]
    have bp := up p (by omega) (by omega)
    have bq := up q (by omega) (by omega)
    have bd := up d (by omega) (by omega)
    have br := up r (by omega) (by omega)
    refine fin _ (.four hd.1 f1 q0 dn red sd) (.four ((qa 20 (br.mul br)).mono (by decide)) ((qb 25 ((((show Bd 2 (-2) from (show Int.natAbs (-2) < 2 ^ 2 by decide)).mul bp).mul br).mono (by decide))).mono (by decide)) ((qc 35 (((bp.mul bp).sub ((bq.mul bq).mul bd)).mono (by decide))).mono (by decide)) (by split <;> simp)) fun x y e => by cases e
end K16

/-! ## k16: the law's own -/
open K16 Ed Eo Eh Sx
namespace Sx
theorem pe_methC {X : Cx} {k : Nat} {C : Addr} {ps : List Str} {sp : Sp} {m : Str} {o a : Expr} {es : List Expr} {ta : TE} {t : TA} {pos apos : Pos} {pl : Sem Bool} (F : MtC X.prog X.w X.K X.mg X.base CX0 k C m ps sp) (c : Cls X.K C) (hr : Room k X.A) (he : PE X o ta) (ha : PA X (a :: es) t)
    (hst : starEach (a :: es) X.env = (false, eval a X.env) :: starEach es X.env := by rfl) (hpl : (backTo pos (starEach es X.env)).any (·.1) = false := by rfl)
    (ht : eval (.Call (.Attribute o m apos) (a :: es) [] pos) X.env = (do
      let ov ← eval o X.env
      standAt apos.atName
      let (f, first) ← holding [ov] (getMethod ov m pl)
      callWith pos f first (backTo pos (starEach (a :: es) X.env)) (backToKw pos (keywordEach [] X.env))) := by rfl) : PE X (.Call (.Attribute o m apos) (a :: es) [] pos) (tMeth C m sp [] E0 ta t) := by
  obtain ⟨f, fd, h, M, hb⟩ := F.ex
  exact pe_meth (pl := pl) he c M h hr hb .nil pass0 ha hst hpl ht
end Sx
theorem pe_joinK {X : Cx} {K : PySem.W.Frag} {o e : Expr} {to te : TE} {apos pos : Pos} (h : X.K = K) (ho : PE X o to) (he : PE X e te) (hs : starEach [e] X.env = [(false, eval e X.env)] := by rfl) (hbase : attributeBase o "join" X.env (eval o X.env) = eval o X.env := by rfl) (hline : (apos.endLine == pos.line) = true := by rfl) :
    PE X (.Call (.Attribute o "join" apos) [e] [] pos) (tM1 (fun x xs H Q => ∃ a p, ∃ ys : List Str, x = .str a ∧ xs = [.ref p] ∧ (SqL K H p (ys.map V.str) ∨ SqT K H p (ys.map V.str)) ∧
      (ys.map (·.length)).sum + ys.length * a.length ≤ 16777216 ∧ Q (.str (Txt.join a ys)) H) to te) := by
  subst h
  exact pe_join ho he hs hbase hline
namespace K16
open Or Pj Mx
theorem gN_go {σ : L2.St} {i : Nat} {v : V} {H : Hp} {Q : L2.St → Hp → Prop} (h : Q (σ.set i (some v)) H) : gName i v σ H Q := h
def EE (CE : Addr) (te : TE) (σ : L2.St) (H0 : Hp) (pl : List Int) : Prop := ∀ H, Same H0 H → ∀ Q : VK, (∀ (e : Addr) (H' : Hp), Same H H' → EdgeAt CE H' e pl → Q (.ref e) H') → te σ H Q
def CM (CC : Addr) (te : TE) (σ : L2.St) (H0 : Hp) (M : Mt) : Prop := ∀ H, Same H0 H → ∀ Q : VK, (∀ (e : Addr) (H' : Hp), Same H H' → ChM CC H' e M → Q (.ref e) H') → te σ H Q
def sp_lchange (CC : Addr) : Sp := fun vs H Q _ => ∃ b : Addr, vs = [.ref b] ∧ BoxAt H b ∧ ∀ (r : Addr) (H' : Hp) (M : Mt), MOk 4 M → ChM CC H' r M → Keep b H H' → BoxAt H' b → Q (.ref r) H'
def sp_ledge (CE : Addr) : Sp := fun vs H Q _ => ∃ b : Addr, vs = [.ref b] ∧ BoxAt H b ∧ ∀ (e : Addr) (H' : Hp) (pl : List Int) (W : List Bool), Gd pl W → EdgeAt CE H' e pl → Keep b H H' → BoxAt H' b → Q (.ref e) H'
def sp_lorder (CE : Addr) : Sp := fun vs H Q _ => ∃ (e g : Addr) (pl pl' : List Int), vs = [.ref e, .ref g] ∧ EdgeAt CE H e pl ∧ EdgeAt CE H g pl' ∧ PlO pl ∧ PlO pl' ∧ (cmpPl pl pl' = 1 ∨ cmpPl pl pl' = 0 ∨ cmpPl pl pl' = -1) ∧ ∀ H', Same H H' → Q (.int (cmpPl pl pl')) H'
def sp_letters (CE : Addr) : Sp := fun vs H Q _ => ∃ (e : Addr) (pl : List Int) (W : List Bool), vs = [.ref e, .int 40] ∧ EdgeAt CE H e pl ∧ LtE pl W ∧ ∀ H', Same H H' → Q (.str (enc W)) H'
def sp_right (CC CE : Addr) : Sp := fun vs H Q _ => ∃ (c d e g : Addr) (M B : Mt) (pl pl' : List Int) (W W' : List Bool), vs = [.ref c, .ref d, .ref e, .ref g] ∧ ChM CC H c M ∧ ChM CC H d B ∧ MOk 4 M ∧ MOk 4 B ∧ EdgeAt CE H e pl ∧ EdgeAt CE H g pl' ∧ Gd pl W ∧ Gd pl' W' ∧ ∀ H', Same H H' → Q (.bl true) H'
theorem edge_let {CE : Addr} {H : Hp} {e : Addr} {pl : List Int} (h : EdgeAt CE H e pl) : ∃ dx fs, H e = some (.ins CE dx fs) ∧ fs.lookup ("letters" : Str) = none := by
  unfold EdgeAt at h
  split at h
  · obtain ⟨dx, t, fs, h1, h2, h2', h3⟩ := h
    exact ⟨dx, fs, h1, h2'.2⟩
  · obtain ⟨dx, t, m, fs, h1, h2, h2', h3, h4⟩ := h
    exact ⟨dx, fs, h1, h2'.2⟩
  · exact h.elim
section
variable {K : PySem.W.Frag} {mg : Str → Option Value} {C CC CE : Addr} {σ : L2.St} {H0 H1 H H' : Hp} {te ta tb tc : TE} {tt : TT} {pl pl' pl'' : List Int} {M N : Mt} {W : List Bool}
theorem EE.var {i : Nat} {e : Addr} (hσ : σ[i]? = some (some (.ref e))) (he : EdgeAt CE H0 e pl) : EE CE (tVar i) σ H0 pl := fun H s Q q => ⟨_, hσ, q e H (Same.refl H) (he.same s)⟩
theorem EE.con : EE CE (tCm CE (Kb.calm (sp_ecm CE pl)) (fun _ => E0) tNil) σ H0 pl := fun H s Q q => ⟨rfl, fun e H' _ s' he => q e H' s' he⟩
theorem CM.var {i : Nat} {e : Addr} (hσ : σ[i]? = some (some (.ref e))) (he : ChM CC H0 e M) : CM CC (tVar i) σ H0 M := fun H s Q q => ⟨_, hσ, q e H (Same.refl H) (he.same s)⟩
theorem m200 {k : Nat} (h : MOk k M) (hk : k ≤ 200) : Bd 200 M.a ∧ Bd 200 M.b ∧ Bd 200 M.c ∧ Bd 200 M.d := ⟨h.ba.mono hk, h.bb.mono hk, h.bc.mono hk, h.bd.mono hk⟩
theorem in_of {k : Nat} (h : MOk k M) {n : Nat} (hk : k ≤ n) : M.In n := by
  have up : ∀ {z : Int}, Bd k z → z < 2 ^ n := fun {z} hz => by
    have h1 : z.natAbs < 2 ^ n := Nat.lt_of_lt_of_le hz (Nat.pow_le_pow_right (by decide) hk)
    have h2 : (z.natAbs : Int) < ((2 ^ n : Nat) : Int) := by exact_mod_cast h1
    rw [Int.natCast_pow] at h2
    have : ((2 : Nat) : Int) = 2 := rfl
    rw [this] at h2
    omega
  exact ⟨h.a0, h.b0, h.c0, h.d0, up h.ba, up h.bb, up h.bc, up h.bd⟩
theorem EE.mul {k : Nat} (h : CM CC ta σ H0 M) (g : EE CE tb σ H0 pl) (m : MOk k M) (hk : k ≤ 200) (p : PlC M.a M.b M.c M.d pl) : EE CE (tOp (Kb.rBinR CC CE (sn_mul CC CE) (sp_ermul CE CC)) ta tb) σ H0 (bhPl M.a M.b M.c M.d pl) := fun H s Q q => h H s _ fun c H1 s1 hc => g H1 (s.trans s1) _ fun e H2 s2 he => chE (hc.same s2) he (m200 m hk) p fun r H3 _ s3 hr => q r H3 (s1.trans (s2.trans s3)) hr
theorem CM.mul {k : Nat} (h : CM CC ta σ H0 M) (g : CM CC tb σ H0 N) (m : MOk k M) (n : MOk k N) (hk : k ≤ 400) : CM CC (tOp (Kb.rBinC CC (sp_mul CC C)) ta tb) σ H0 (M.mul N) := fun H s Q q => h H s _ fun c H1 s1 hc => g H1 (s.trans s1) _ fun d H2 s2 hd => by
  have hc2 := ChAt.same hc s2
  obtain ⟨dx, p, h1, h2⟩ := id hc2
  obtain ⟨dy, p', g1, g2⟩ := id hd
  exact ⟨c, dx, _, d, dy, _, rfl, rfl, h1, g1, c, d, M, rfl, hc2, in_of m hk, m.hd, .inl ⟨N, hd, in_of n hk, n.hd, fun r H3 _ s3 hr => q r H3 (s1.trans (s2.trans s3)) hr⟩⟩
theorem EE.turned (h : EE CE ta σ H0 pl) (p : PlC 0 1 1 0 pl) : EE CE (tProp CE (sp_eturned CE) [] E0 ta) σ H0 (bhPl 0 1 1 0 pl) := fun H s Q q => h H s _ fun e H1 s1 he => by
  obtain ⟨dx, t, fs, h1, _⟩ := he.at
  exact ⟨e, dx, fs, rfl, h1, e, pl, rfl, he, p, fun r H2 _ s2 hr => q r H2 (s1.trans s2) hr⟩
theorem VE.order (h : EE CE ta σ H0 pl) (g : EE CE tb σ H0 pl') (o : PlO pl) (o' : PlO pl') (t : cmpPl pl pl' = 1 ∨ cmpPl pl pl' = 0 ∨ cmpPl pl pl' = -1) : VE (tCall (sp_lorder CE) [] E0 (tCons ta (tCons tb tNil))) σ H0 (.int (cmpPl pl pl')) := fun H s Q q => h H s _ fun e H1 s1 he => g H1 (s.trans s1) _ fun e' H2 s2 he' => ⟨e, e', pl, pl', rfl, he.same s2, he', o, o', t, fun H3 s3 => q H3 (s1.trans (s2.trans s3))⟩
theorem VE.neE (Re : EdgT K mg CE) (h : EE CE ta σ H0 pl) (g : EE CE tb σ H0 pl') : VE (tOp (rOwnNe K CE (sp_eeq CE)) ta tb) σ H0 (.bl (!decide (pl = pl'))) := fun H s Q q => h H s _ fun e H1 s1 he => g H1 (s.trans s1) _ fun e' H2 s2 he' => Eh.neE Re (he.same s2) he' (q H2 (s1.trans s2))
theorem VE.eqE (Re : EdgT K mg CE) (h : EE CE ta σ H0 pl) (g : EE CE tb σ H0 pl') : VE (tOp (rOwnI K CE (sp_eeq CE) E0) ta tb) σ H0 (.bl (decide (pl = pl'))) := fun H s Q q => h H s _ fun e H1 s1 he => g H1 (s.trans s1) _ fun e' H2 s2 he' => Eh.eqE Re (he.same s2) he' (q H2 (s1.trans s2))
theorem VE.mulW {a b : Int} (h : VE ta σ H0 (.int a)) (g : VE tb σ H0 (.int b)) (c : CMulW a b) : VE (tOp (rI CMulW fun i j => V.int (i * j)) ta tb) σ H0 (.int (a * b)) := fun H s Q q => h H s _ fun H' s' => g H' (s.trans s') _ fun H'' s'' => ⟨_, _, rfl, rfl, c, q H'' (s'.trans s'')⟩
theorem VE.sub {a b : Int} (h : VE ta σ H0 (.int a)) (g : VE tb σ H0 (.int b)) : VE (tOp (rI0 fun i j => V.int (i - j)) ta tb) σ H0 (.int (a - b)) := fun H s Q q => h H s _ fun H' s' => g H' (s.trans s') _ fun H'' s'' => ⟨_, _, rfl, rfl, q H'' (s'.trans s'')⟩
theorem VE.neB {a b : Bool} (h : VE ta σ H0 (.bl a)) (g : VE tb σ H0 (.bl b)) : VE (tOp rNe ta tb) σ H0 (.bl (!decide (a = b))) := fun H s Q q => h H s _ fun H' s' => g H' (s.trans s') _ fun H'' s'' => ⟨rfl, by
  rw [show decide (V.bl a = V.bl b) = decide (a = b) from by rw [Bool.eq_iff_iff, decide_eq_true_eq, decide_eq_true_eq]; exact ⟨V.bl.inj, fun e => by rw [e]⟩]
  exact q H'' (s'.trans s'')⟩
theorem cmE {e g : Addr} {Q : VK} (Re : EdgT K mg CE) {r : Int → Bool} (he : EdgeAt CE H e pl) (hg : EdgeAt CE H g pl') (o : PlO pl) (o' : PlO pl') (k : ∀ H', Same H H' → Q (.bl (r (cmpPl pl pl'))) H') : rOwnI K CE (sp_ecmp CE r) E0 (.ref e) (.ref g) H Q := by
  obtain ⟨dx, t, fs, h1, h2, h3⟩ := he.at
  obtain ⟨dy, u, gs, g1, g2, g3⟩ := hg.at
  exact ⟨e, dx, fs, .ref CE, rfl, h1, Re.ty g1, Re.nf, e, g, _, _, rfl, he, hg, o, o', k⟩
theorem BE.chain (Re : EdgT K mg CE) {r r' : Int → Bool} (ha : EE CE ta σ H0 pl) (hb : EE CE tb σ H0 pl') (hc : EE CE tc σ H0 pl'') (oa : PlO pl) (ob : PlO pl') (oc : PlO pl'') :
    BE (tTest (tChain (rOwnI K CE (sp_ecmp CE r) E0) (rOwnI K CE (sp_ecmp CE r') E0) ta tb tc)) σ H0 (r (cmpPl pl pl') && r' (cmpPl pl' pl'')) := fun H s Q q =>
  ha H s _ fun e1 H1 s1 h1 => hb H1 (s.trans s1) _ fun e2 H2 s2 h2 => cmE Re (h1.same s2) h2 oa ob fun H3 s3 => ⟨_, rfl, by
    have s13 := s1.trans (s2.trans s3)
    cases hr : r (cmpPl pl pl') with
    | false =>
      rw [if_neg (by decide)]
      refine ⟨_, rfl, ?_⟩
      have := q H3 s13
      rw [hr] at this
      exact this
    | true =>
      rw [if_pos rfl]
      refine hc H3 (s.trans s13) _ fun e3 H4 s4 h3 => cmE Re ((h2.same s3).same s4) h3 ob oc fun H5 s5 => ⟨_, rfl, ?_⟩
      have := q H5 (s13.trans (s4.trans s5))
      rw [hr] at this
      exact this⟩
end
end K16
section
variable {P : Program} {w : World} {K : PySem.W.Frag} {mg : Str → Option Value} {base : Heap}
theorem ok_letters {f C CE : Addr} {fd : FuncData} (F : Fun K "letters" "Edge.letters" S_Edge_letters f fd) (T : Txt K mg) (R : RatT K mg C) (Re : EdgT K mg CE) (P_eratio : PrC P w K mg base 6 CE "ratio" (sp_eratio C CE)) (P_word : PrC P w K mg base 2 C "word" (sp_word C)) (C_fl : FnC P w K mg base CX0 7 "first_letters" ["root", "count"] sp_fl) : FnOk P w K mg base CX0 8 f fd ["self", "count"] (sp_letters CE) := by
  refine F.ok SC_Edge_letters (fun vs H Q E h => ?_) (fun cdv A outer s H vs Q E hr h => ?_)
  · obtain ⟨e, pl, W, rfl, _⟩ := h
    rfl
  · obtain ⟨e, pl, W, rfl, he, l, k⟩ := h
    refine ⟨_, (pss_cons (ps_if (pt_cmpR (op_inDT (hu65 hr)) (pe_fld (pv 0) rfl) (pe_tupN (pa_cons (pe_tupN (pa_cons pe_int (pa_cons pe_int pa_nil))) (pa_cons (pe_tupN (pa_cons pe_int (pa_cons pe_int pa_nil))) pa_nil))) (by rfl)) (pss_one (ps_ret (pe_op op_mul_str (pe_ix ix_str pe_str (pe_ix ix_tup (pe_fld (pv 0) rfl) pe_int (fun _ _ => rfl)) (fun _ _ => rfl)) (pv 1)))) pss_nil)
      (pss_cons (ps_if (pt_cmpR op_eq (pe_callB call_len_seq (by rfl) T.b_len (by decide +kernel) (pa_cons (pe_fld (pv 0) rfl) pa_nil)) pe_int (nomark _)) (pss_one (ps_ret (pe_slice sl_str (pe_propC P_word (hr.mono (by decide)) (pe_propC P_eratio (hr.mono (by decide)) (pv 0))) po_none (po_some (pv 1))))) pss_nil)
      (pss_one (ps_ret (pe_callC C_fl (hr.mono (by decide)) rfl (pa_cons (pe_fld (pv 0) rfl) (pa_cons (pv 1) pa_nil))))))), ?_⟩
    obtain ⟨dx, t, fs, h1, h2, h3⟩ := he.at
    refine ⟨_, rfl, e, CE, dx, _, _, rfl, h1, Re.ins.cl, Re.n1, h2, ?_⟩
    refine ⟨by show 2 ≤ 1000000; decide, fun t1 H1 n1 s1 k1 => ⟨by show 2 ≤ 1000000; decide, fun t2 H2 n2 s2 k2 => ⟨by show 2 ≤ 1000000; decide, fun t3 H3 n3 s3 k3 => ?_⟩⟩⟩
    have s13 := s1.trans (s2.trans s3)
    have d1 : Dp K H3 (.ref t1) (.tuple [.int 0, .int 1]) := .tup (SqT.of (s3 _ _ (s2 _ _ k1))) (.cons (.int 0) (.cons (.int 1) .nil))
    have d2 : Dp K H3 (.ref t2) (.tuple [.int 1, .int 0]) := .tup (SqT.of (s3 _ _ k2)) (.cons (.int 1) (.cons (.int 0) .nil))
    refine ⟨.tuple (pl.map PyData.int), [.tuple [.int 0, .int 1], .tuple [.int 1, .int 0]], dpIs (s13 _ _ h3), .tup (SqT.of k3) (.cons d1 (.cons d2 .nil)), shIs pl, rfl, _, rfl, ?_⟩
    have ev : ([.tuple [.int 0, .int 1], .tuple [.int 1, .int 0]] : List PyData).any (fun z => PyData.eqv z (.tuple (pl.map PyData.int))) = (decide ([0, 1] = pl) || decide ([1, 0] = pl)) := by
      have a1 := eqvT [0, 1] pl
      have a2 := eqvT [1, 0] pl
      show (PyData.eqv (.tuple [.int 0, .int 1]) _ || (PyData.eqv (.tuple [.int 1, .int 0]) _ || false)) = _
      rw [Bool.or_false, ← a1, ← a2]; rfl
    rw [ev]
    have g3 := s13 _ _ h3
    have h13 := s13 _ _ h1
    cases l with
    | zero =>
      refine ifT rfl ?_
      refine ⟨_, rfl, e, CE, dx, _, _, rfl, h13, Re.ins.cl, Re.n1, h2, ?_⟩
      refine ⟨t, _, 0, _, rfl, rfl, SqT.of g3, atI_nat (j := 0) rfl, _, 0, cd false, rfl, rfl, by show ("lr" : Str).length ≤ sizeLine; rw [sizeLine_eq]; decide +kernel, by decide +kernel, _, rfl, _, 40, rfl, rfl, by decide, by decide, by decide +kernel, ?_⟩
      have := k H3 s13
      rw [show enc (List.replicate 40 false) = repS ⟨#[cd false]⟩ (40 : Int).toNat by decide +kernel] at this
      exact this
    | endl =>
      refine ifT rfl ?_
      refine ⟨_, rfl, e, CE, dx, _, _, rfl, h13, Re.ins.cl, Re.n1, h2, ?_⟩
      refine ⟨t, _, 0, _, rfl, rfl, SqT.of g3, atI_nat (j := 0) rfl, _, 1, cd true, rfl, rfl, by show ("lr" : Str).length ≤ sizeLine; rw [sizeLine_eq]; decide +kernel, by decide +kernel, _, rfl, _, 40, rfl, rfl, by decide, by decide, by decide +kernel, ?_⟩
      have := k H3 s13
      rw [show enc (List.replicate 40 true) = repS ⟨#[cd true]⟩ (40 : Int).toNat by decide +kernel] at this
      exact this
    | frac hu =>
      rename_i u
      have pp := pr_pos u
      refine ifF ?_ ?_
      · rw [Bool.or_eq_false_iff]
        refine ⟨decide_eq_false fun z => ?_, decide_eq_false fun z => ?_⟩
        · injection z with z1 _; omega
        · injection z with _ z2; injection z2 with z2 _; omega
      refine ⟨_, rfl, e, CE, dx, _, _, rfl, h13, Re.ins.cl, Re.n1, h2, t, _, rfl, .inr (SqT.of g3), rfl, _, rfl, ifT rfl ?_⟩
      have ps := pr_small (u := u) (by omega)
      refine ⟨_, rfl, e, dx, _, rfl, h13, e, _, rfl, he.same s13, fun a b eq a0 b0 => ?_, fun z => ?_⟩
      · injection eq with e1 eq
        injection eq with e2 _
        subst e1 e2
        refine ⟨by omega, by omega, ps.1, ps.2, fun r H4 nr s4 hr => ?_⟩
        rw [(pr_div u).1, (pr_div u).2] at hr
        obtain ⟨dy, hy⟩ := id hr
        refine ⟨r, dy, _, rfl, hy, r, u, rfl, hr, by omega, fun H5 s5 => ?_⟩
        refine ⟨_, rfl, 40, rfl, enc u, rfl, by rw [enc_len]; exact Nat.le_trans (show u.length ≤ 900 by omega) (by rw [sizeLine_eq]; decide), ?_⟩
        have := k H5 (s13.trans (s4.trans s5))
        rw [← show ((40 : Int).toNat) = 40 from rfl, ← enc_take u (k := 40) (by decide)] at this
        exact this
      · have := z _ _ rfl
        omega
    | root hs hK =>
      rename_i KK A B C' sd
      refine ifF ?_ ?_
      · rw [Bool.or_eq_false_iff]
        exact ⟨decide_eq_false fun z => (by have := congrArg List.length z; cases this), decide_eq_false fun z => (by have := congrArg List.length z; cases this)⟩
      refine ⟨_, rfl, e, CE, dx, _, _, rfl, h13, Re.ins.cl, Re.n1, h2, t, _, rfl, .inr (SqT.of g3), rfl, _, rfl, ifF rfl ?_⟩
      refine ⟨_, rfl, e, CE, dx, _, _, rfl, h13, Re.ins.cl, Re.n1, h2, _, rfl, t, A, B, C', sd, KK, 40, rfl, g3, hs, hK, by decide, by decide, fun H4 s4 => k H4 (s13.trans s4)⟩
theorem ok_lorder {f CE : Addr} {fd : FuncData} (F : Fun K "_law_order" "_law_order" S__law_order f fd) (T : Txt K mg) (Re : EdgT K mg CE) (M_elt : MtC P w K mg base CX0 7 CE "__lt__" ["self", "other"] (sp_ecmp CE fun i => decide (i < 0))) (M_egt : MtC P w K mg base CX0 7 CE "__gt__" ["self", "other"] (sp_ecmp CE fun i => decide (i > 0))) : FnOk P w K mg base CX0 8 f fd ["_law_one", "_law_other"] (sp_lorder CE) := by
  refine F.ok SC__law_order (fun vs H Q E h => ?_) (fun cdv A outer s H vs Q E hr h => ?_)
  · obtain ⟨e, g, pl, pl', rfl, _⟩ := h
    rfl
  · obtain ⟨e, g, pl, pl', rfl, he, hg, o, o', t, k⟩ := h
    refine ⟨_, (pss_one (ps_ret (pe_op op_sub (pe_callTy call_intB (by rfl) T.b_int (by decide +kernel) (pa_cons (pe_cmpR (op_ownI (op := .Gt) (fun _ _ => rfl) M_egt (hr.mono (by decide))) (pv 0) (pv 1) (nomark _)) pa_nil)) (pe_callTy call_intB (by rfl) T.b_int (by decide +kernel) (pa_cons (pe_cmpR (op_ownI (op := .Lt) (fun _ _ => rfl) M_elt (hr.mono (by decide))) (pv 0) (pv 1) (nomark _)) pa_nil))))), ?_⟩
    refine ⟨_, rfl, _, rfl, cmE Re he hg o o' fun H1 s1 => ⟨_, rfl, _, rfl, _, rfl, cmE Re (he.same s1) (hg.same s1) o o' fun H2 s2 => ⟨_, rfl, _, _, rfl, rfl, ?_⟩⟩⟩
    have e : ((if decide (Or.cmpPl pl pl' > 0) = true then 1 else 0 : Int) - (if decide (Or.cmpPl pl pl' < 0) = true then 1 else 0)) = Or.cmpPl pl pl' := by
      rcases t with t | t | t <;> rw [t] <;> decide
    have := k H2 (s1.trans s2)
    rw [← e] at this
    exact this
theorem ok_lchange {f CC IC : Addr} {fd : FuncData} (F : Fun K "_law_change" "_law_change" S__law_change f fd) (T : Txt K mg) (C_take : FnC P w K mg base CX0 1 "_law_take" ["_law_box_here", "_law_many"] sp_take) (C_change : MkC P w K mg base CX0 4 CC "Change" ["self", "a", "b", "c", "d"] (Kb.calm (sp_chinit CC IC K))) : FnOk P w K mg base CX0 6 f fd ["_law_box_here"] (sp_lchange CC) := by
  refine F.ok SC__law_change (fun vs H Q E h => ?_) (fun cdv A outer s H vs Q E hr h => ?_)
  · obtain ⟨b, rfl, _⟩ := h
    rfl
  · obtain ⟨b, rfl, hb, q⟩ := h
    refine ⟨_, (pss_cons (ps_setLc (i := 1) (own := [("_law_turn", 2)]) (g := gName 2) (by rfl) SC__law_change.nd rfl rfl (sw_true rfl rfl rfl (by decide +kernel)) (pi_range1 (by rfl) T.b_range (pa_cons pe_int pa_nil)) (blkOk_by (own := [("_law_turn", 2)]) (N := N__law_change) (sc := defScope S__law_change) (by decide +kernel)) (fun _ _ _ _ _ => pg_name (i := 2) SC__law_change.nd rfl (Or.inl rfl)) (fun _ _ _ _ _ => pts_nil) (fun _ _ _ _ _ => (pe_callC C_take (hr.mono (by decide)) rfl (pa_cons (pv 0) (pa_cons pe_int pa_nil)))))
      (pss_mid (ps_if (pt_cmpR op_eq (pe_op op_mulW (pe_ix ix_list (pv 1) pe_int (fun _ _ => rfl)) (pe_ix ix_list (pv 1) pe_int (fun _ _ => rfl))) (pe_op op_mulW (pe_ix ix_list (pv 1) pe_int (fun _ _ => rfl)) (pe_ix ix_list (pv 1) pe_int (fun _ _ => rfl))) (nomark _)) (pss_one (ps_set (i := 1) SC__law_change.nd rfl (.inl rfl) (pe_lstN (pa_cons pe_int (pa_cons (pe_op op_add (pe_ix ix_list (pv 1) pe_int (fun _ _ => rfl)) pe_int) (pa_cons (pe_op op_add (pe_ix ix_list (pv 1) pe_int (fun _ _ => rfl)) pe_int) (pa_cons (pe_ix ix_list (pv 1) pe_int (fun _ _ => rfl)) pa_nil))))))) pss_nil)
      (pss_one (ps_ret (pe_makeC C_change (hr.mono (by decide)) rfl (pa_cons (pe_ix ix_list (pv 1) pe_int (fun _ _ => rfl)) (pa_cons (pe_ix ix_list (pv 1) pe_int (fun _ _ => rfl)) (pa_cons (pe_ix ix_list (pv 1) pe_int (fun _ _ => rfl)) (pa_cons (pe_ix ix_list (pv 1) pe_int (fun _ _ => rfl)) pa_nil))))))))), ?_⟩
    have W0 := Wo.start hb
    walk_at "kw"
    intro D hD
    have hDb : D ≠ b := hb.ne hD
    refine lcR_range (lo := 0) (fun i H' => Keep b H H' ∧ BoxAt H' b ∧ ∃ ns : List Int, ns.length = i ∧ (∀ x ∈ ns, 0 ≤ x ∧ x ≤ 9) ∧ H' D = some (.lst (ns.map V.int)))
      ⟨Keep.new hD, hb.new hD, [], rfl, fun x h => (List.not_mem_nil h).elim, upd_same⟩ (fun i H3 hi m => ?_) (gName_mono _) (fun H3 m => ?_)
    · obtain ⟨kp, hb', ns, hl, hn, hH⟩ := m
      refine ⟨rfl, _, rfl, b, 10, rfl, hb', by decide, by decide, fun d H4 d0 d1 kp' hb4 => ?_⟩
      have hH' : H4 D = some (.lst (ns.map V.int)) := kp' D _ hDb hH
      refine ⟨_, hH', by rw [List.length_map]; exact szs (by omega), fun a o n e => by rw [upd_ne (ne_of_none e hD)]; exact (kp.trans kp') a o n e, hb4.keep fun o e => by rw [upd_ne hDb.symm]; exact e, ns ++ [d], by simp [hl], fun x hx => ?_, by rw [upd_same]; simp⟩
      rcases List.mem_append.mp hx with h | h
      · exact hn x h
      · cases List.mem_singleton.mp h
        omega
    · obtain ⟨kp, hb3, ns, hl, hn, hH⟩ := m
      obtain ⟨i, j, m, n, rfl⟩ : ∃ i j m n, ns = [i, j, m, n] := by
        match ns, hl with
        | [i, j, m, n], _ => exact ⟨i, j, m, n, rfl⟩
      have bi := hn i (by simp)
      have bj := hn j (by simp)
      have bm := hn m (by simp)
      have bn := hn n (by simp)
      have W3 : Wo b H H3 [(D, .lst [.int i, .int j, .int m, .int n])] := Wo.add ⟨hb3, kp, fun _ h => nomatch h⟩ hH hDb
      have c1 : (-(2 ^ 64 : Int) < i ∧ i < 2 ^ 64) ∧ (-(2 ^ 64 : Int) < j ∧ j < 2 ^ 64) := by omega
      have bi' : Bd 60 i := Lr.bd_small (by omega) (by omega)
      have bj' : Bd 60 j := Lr.bd_small (by omega) (by omega)
      have bm' : Bd 60 m := Lr.bd_small (by omega) (by omega)
      have bn' : Bd 60 n := Lr.bd_small (by omega) (by omega)
      refine ⟨fun σ' H' => ∃ (D' : Addr) (i j m n : Int), Wo b H H' [(D', .lst [.int i, .int j, .int m, .int n])] ∧ (0 ≤ i ∧ i ≤ 10) ∧ (0 ≤ j ∧ j ≤ 10) ∧ (0 ≤ m ∧ m ≤ 10) ∧ (0 ≤ n ∧ n ≤ 10) ∧ i * n ≠ j * m ∧ σ' = [some (.ref b), some (.ref D'), none], ?_, fun σ1 H4 z => ?_⟩
      · walk_at "kw"
        refine ite2 (fun h => ?_) (fun h => ?_)
        · walk_at "kw"
          rename_i D2 H5 f5 W5
          refine ⟨D2, _, _, _, _, W5.one, ⟨?_, ?_⟩, ⟨?_, ?_⟩, ⟨?_, ?_⟩, ⟨?_, ?_⟩, ?_, rfl⟩
          all_goals first | omega | skip
          rw [Int.zero_mul]
          exact Int.ne_of_lt (Int.mul_pos (by omega) (by omega))
        · exact ⟨D, i, j, m, n, W3, ⟨by omega, by omega⟩, ⟨by omega, by omega⟩, ⟨by omega, by omega⟩, ⟨by omega, by omega⟩, fun e => h (decide_eq_true (congrArg V.int e)), rfl⟩
      · obtain ⟨D', i, j, m, n, W4, bi, bj, bm, bn, hne, rfl⟩ := z
        walk_at "kw"
        have up : ∀ z : Int, 0 ≤ z → z ≤ 10 → Bd 4 z := fun z h1 h2 => (show z.natAbs < 16 by omega)
        have mo : MOk 4 ⟨i, j, m, n⟩ := ⟨bi.1, bj.1, bm.1, bn.1, by show i * n - j * m ≠ 0; omega, up i bi.1 bi.2, up j bj.1 bj.2, up m bm.1 bm.2, up n bn.1 bn.2⟩
        refine fun x dx hx hdx hnx => Cm.mk_chH ⟨i, j, m, n⟩ (in_of mo (by decide)) mo.hd hx hdx hnx fun H5 s5 c5 => ?_
        have W5 := W4.same s5
        exact q x H5 _ mo c5 W5.kp W5.box
end

/-! ## k16: edges drawn, what the law asks of two -/
open K16 Ed Eo Eh Sx
section
variable {P : Program} {w : World} {K : PySem.W.Frag} {mg : Str → Option Value} {base : Heap}
theorem ok_right {f CC C CE : Addr} {fd : FuncData} (F : Fun K "_law_right" "_law_right" S__law_right f fd) (T : Txt K mg) (Rc : ChT K mg CC) (Re : EdgT K mg CE) (OR : Kb.OpR2 K CC CE .Mult) (OM : OpC K CC .Mult) (C_lsign : FnC P w K mg base CX0 1 "_law_sign" ["_law_number"] sp_sign) (C_lorder : FnC P w K mg base CX0 8 "_law_order" ["_law_one", "_law_other"] (sp_lorder CE))
    (N_mul : Kb.MtNi P w K mg base 2 CC "__mul__" ["self", "other"] (sn_mul CC CE)) (M_mul : MtC P w K mg base CX0 6 CC "__mul__" ["self", "other"] (sp_mul CC C)) (M_ermul : MtC P w K mg base CX0 6 CE "__rmul__" ["self", "change"] (sp_ermul CE CC)) (M_eeq : MtC P w K mg base CX0 1 CE "__eq__" ["self", "other"] (sp_eeq CE)) (M_ele : MtC P w K mg base CX0 7 CE "__le__" ["self", "other"] (sp_ecmp CE fun i => decide (i ≤ 0)))
    (P_eturned : PrC P w K mg base 6 CE "turned" (sp_eturned CE)) (M_letters : MtC P w K mg base CX0 8 CE "letters" ["self", "count"] (sp_letters CE)) (M_ezero : CmC P w K mg base CX0 4 CE "Edge" "zero" ["cls"] (Kb.calm (sp_ecm CE [0, 1]))) (M_eendless : CmC P w K mg base CX0 4 CE "Edge" "endless" ["cls"] (Kb.calm (sp_ecm CE [1, 0]))) : FnOk P w K mg base CX0 9 f fd ["_law_change_here", "_law_beside", "_law_one", "_law_other"] (sp_right CC CE) := by
  refine F.ok SC__law_right (fun vs H Q E h => ?_) (fun cdv A outer s H vs Q E hr h => ?_)
  · obtain ⟨c, d, e, g, M, B, pl, pl', W, W', rfl, _⟩ := h
    rfl
  · obtain ⟨c, d, e, g, M, B, pl, pl', W, W', rfl, hc, hd, mo, bo, he, hg, gd, gd', k⟩ := h
    refine ⟨_, (pss_cons (ps_set (i := 4) SC__law_right.nd rfl (.inl rfl) (pe_callC C_lsign (hr.mono (by decide)) rfl (pa_cons (pe_fld (pv 0) rfl) pa_nil)))
      (pss_cons (ps_if (pt_cmpR op_ne (pe_callC C_lorder (hr.mono (by decide)) rfl (pa_cons (pe_op (op_binR (op := .Mult) N_mul M_ermul OR (hr.mono (by decide)) (hr.mono (by decide))) (pv 0) (pv 2)) (pa_cons (pe_op (op_binR (op := .Mult) N_mul M_ermul OR (hr.mono (by decide)) (hr.mono (by decide))) (pv 0) (pv 3)) pa_nil))) (pe_op op_mulW (pv 4) (pe_callC C_lorder (hr.mono (by decide)) rfl (pa_cons (pv 2) (pa_cons (pv 3) pa_nil)))) (nomark _)) (pss_one (ps_ret pe_bl)) pss_nil)
      (pss_cons (ps_if (pt_cmpR (op_neI M_eeq Re.ne Re.so (hr.mono (by decide))) (pe_op (op_binR (op := .Mult) N_mul M_ermul OR (hr.mono (by decide)) (hr.mono (by decide))) (pe_op (op_binC M_mul OM (hr.mono (by decide))) (pv 0) (pv 1)) (pv 2)) (pe_op (op_binR (op := .Mult) N_mul M_ermul OR (hr.mono (by decide)) (hr.mono (by decide))) (pv 0) (pe_op (op_binR (op := .Mult) N_mul M_ermul OR (hr.mono (by decide)) (hr.mono (by decide))) (pv 1) (pv 2))) (nomark _)) (pss_one (ps_ret pe_bl)) pss_nil)
      (pss_cons (ps_if (PW.pt (pw_or (pt_cmpR op_ne (pe_callC C_lorder (hr.mono (by decide)) rfl (pa_cons (pe_propC P_eturned (hr.mono (by decide)) (pv 2)) (pa_cons (pe_propC P_eturned (hr.mono (by decide)) (pv 3)) pa_nil))) (pe_op op_sub pe_int (pe_callC C_lorder (hr.mono (by decide)) rfl (pa_cons (pv 2) (pa_cons (pv 3) pa_nil)))) (nomark _)) (pw_or1 (pt_cmpR (op_neI M_eeq Re.ne Re.so (hr.mono (by decide))) (pe_propC P_eturned (hr.mono (by decide)) (pe_propC P_eturned (hr.mono (by decide)) (pv 2))) (pv 2) (nomark _))))) (pss_one (ps_ret pe_bl)) pss_nil)
      (pss_cons (ps_if (PW.pt (pw_or (pt_not (pt_chain (op_ownI (op := .LtE) (fun _ _ => rfl) M_ele (hr.mono (by decide))) (op_ownI (op := .LtE) (fun _ _ => rfl) M_ele (hr.mono (by decide))) (pe_cm0C M_ezero (hr.mono (by decide)) rfl) (pv 2) (pe_cm0C M_eendless (hr.mono (by decide)) rfl))) (pw_or1 (pt_cmpR op_ne (pe_cmpR (op_ownI (op := .Eq) (fun _ _ => rfl) M_eeq (hr.mono (by decide))) (pv 2) (pv 3) (nomark _)) (pe_cmpR op_eq (pe_callC C_lorder (hr.mono (by decide)) rfl (pa_cons (pv 2) (pa_cons (pv 3) pa_nil))) pe_int (nomark _)) (nomark _))))) (pss_one (ps_ret pe_bl)) pss_nil)
      (pss_cons (ps_setLc (i := 5) (own := [("_law_edge_here", 6)]) (g := gName 6) (by rfl) SC__law_right.nd rfl rfl (sw_true rfl rfl rfl (by decide +kernel)) (pi_tup (pe_tupN (pa_cons (pv 2) (pa_cons (pv 3) pa_nil)))) (blkOk_by (own := [("_law_edge_here", 6)]) (N := N__law_right) (sc := defScope S__law_right) (by decide +kernel)) (fun _ _ _ _ _ => pg_name (i := 6) SC__law_right.nd rfl (Or.inl rfl)) (fun _ _ _ _ _ => pts_nil) (fun _ _ _ _ _ => (pe_op op_add_str (pe_methC M_letters Re.ins.cl (hr.mono (by decide)) (pv 6) (pa_cons pe_int pa_nil)) pe_str)))
      (pss_cons (ps_if (pt_cmpR op_eq (pe_ix ix_list (pv 5) pe_int (fun _ _ => rfl)) (pe_ix ix_list (pv 5) pe_int (fun _ _ => rfl)) (nomark _)) (pss_one (ps_ret pe_bl)) pss_nil)
      (pss_one (ps_ret (pe_cmpR op_eq (pe_callC C_lorder (hr.mono (by decide)) rfl (pa_cons (pv 2) (pa_cons (pv 3) pa_nil))) (pe_ix ix_list (pe_lstN (pa_cons pe_int (pa_cons (pe_un un_neg pe_int) pa_nil))) (pe_callTy call_intB (by rfl) T.b_int (by decide +kernel) (pa_cons (pe_cmpR op_lt_str (pe_ix ix_list (pv 5) pe_int (fun _ _ => rfl)) (pe_ix ix_list (pv 5) pe_int (fun _ _ => rfl)) (nomark _)) pa_nil)) (fun _ _ => rfl)) (nomark _))))))))))), ?_⟩
    have t2 := two_law mo bo gd gd'
    obtain ⟨dx, q0, g1, g2⟩ := id hc
    refine ⟨_, rfl, c, CC, dx, _, _, rfl, g1, Rc.ins.cl, Rc.n2, cf2 _ _, _, rfl, ?_⟩
    refine gN_go ?_
    dsimp only [List.set_cons_succ, List.set_cons_zero]
    have cv : CM CC (tVar 0) [some (.ref c), some (.ref d), some (.ref e), some (.ref g), some (.int (sg M.det)), none, none] H M := CM.var rfl hc
    have dv : CM CC (tVar 1) [some (.ref c), some (.ref d), some (.ref e), some (.ref g), some (.int (sg M.det)), none, none] H B := CM.var rfl hd
    have ev : EE CE (tVar 2) [some (.ref c), some (.ref d), some (.ref e), some (.ref g), some (.int (sg M.det)), none, none] H pl := EE.var rfl he
    have gv : EE CE (tVar 3) [some (.ref c), some (.ref d), some (.ref e), some (.ref g), some (.int (sg M.det)), none, none] H pl' := EE.var rfl hg
    have ord := VE.order ev gv t2.o0 t2.o0' t2.tri
    have sgt : sg M.det = 1 ∨ sg M.det = -1 := K15.sg_nz mo.hd
    have tri1 : Or.cmpPl (Ed.bhPl M.a M.b M.c M.d pl) (Ed.bhPl M.a M.b M.c M.d pl') = 1 ∨ Or.cmpPl (Ed.bhPl M.a M.b M.c M.d pl) (Ed.bhPl M.a M.b M.c M.d pl') = 0 ∨ Or.cmpPl (Ed.bhPl M.a M.b M.c M.d pl) (Ed.bhPl M.a M.b M.c M.d pl') = -1 := by
      rw [t2.way]
      rcases sgt with z | z <;> rcases t2.tri with y | y | y <;> rw [z, y] <;> decide
    have tri2 : Or.cmpPl (Ed.bhPl 0 1 1 0 pl) (Ed.bhPl 0 1 1 0 pl') = 1 ∨ Or.cmpPl (Ed.bhPl 0 1 1 0 pl) (Ed.bhPl 0 1 1 0 pl') = 0 ∨ Or.cmpPl (Ed.bhPl 0 1 1 0 pl) (Ed.bhPl 0 1 1 0 pl') = -1 := by
      rw [t2.turn]
      rcases t2.tri with y | y | y <;> rw [y] <;> decide
    have cw : CMulW (sg M.det) (Or.cmpPl pl pl') := by
      rcases sgt with z | z <;> rcases t2.tri with y | y | y <;> rw [z, y] <;> (unfold CMulW; decide +kernel)
    have o1 := VE.order (EE.mul cv ev mo (by decide) t2.c1) (EE.mul cv gv mo (by decide) t2.c2) t2.o1 t2.o2 tri1
    have b1 : BE _ _ H false := BE.val ((VE.neI o1 (VE.mulW (VE.var (i := 4) rfl) ord cw)).to (by rw [t2.way]; simp))
    refine seq_if b1 (Same.refl H) fun H2 s2 => ?_
    have b2 : BE _ _ H false := BE.val ((VE.neE Re (EE.mul (CM.mul (C := C) cv dv mo bo (by decide)) ev (mul_ok mo bo) (by decide) t2.c5) (EE.mul cv (EE.mul dv ev bo (by decide) t2.c3) mo (by decide) t2.c4)).to (by rw [t2.prod]; simp))
    refine seq_if b2 s2 fun H3 s3 => ?_
    have o3 := VE.order (EE.turned ev t2.c6) (EE.turned gv t2.c7) t2.o3 t2.o4 tri2
    have b3 : BE _ _ H false := BE.or2 (BE.val ((VE.neI o3 (VE.sub (VE.c (v := .int 0)) ord)).to (by rw [t2.turn]; simp))) (BE.val ((VE.neE Re (EE.turned (EE.turned ev t2.c6) t2.c8) ev).to (by rw [t2.back]; simp)))
    refine seq_if b3 (s2.trans s3) fun H4 s4 => ?_
    have z01 : PlO [0, 1] := .two (show Int.natAbs 0 < 2 ^ 90 by decide) (show Int.natAbs 1 < 2 ^ 90 by decide)
    have z10 : PlO [1, 0] := .two (show Int.natAbs 1 < 2 ^ 90 by decide) (show Int.natAbs 0 < 2 ^ 90 by decide)
    have b4 : BE _ _ H false := BE.or2 ((BE.not (BE.chain Re (r := fun i => decide (i ≤ 0)) (r' := fun i => decide (i ≤ 0)) (EE.con (pl := [0, 1])) ev (EE.con (pl := [1, 0])) z01 t2.o0 z10)).to (by show (!(decide (Or.cmpPl [0, 1] pl ≤ 0) && decide (Or.cmpPl pl [1, 0] ≤ 0))) = false; rw [decide_eq_true t2.low, decide_eq_true t2.high]; rfl)) (BE.val ((VE.neB (VE.eqE Re ev gv) (VE.eqV ord (VE.c (v := .int 0)) rfl)).to (by
      by_cases q : pl = pl'
      · have := t2.eq.mpr q
        rw [this, decide_eq_true q]; rfl
      · have : Or.cmpPl pl pl' ≠ 0 := fun z => q (t2.eq.mp z)
        rw [decide_eq_false q, decide_eq_false (fun z => this (V.int.inj z))]; rfl)))
    refine seq_if b4 (s2.trans (s3.trans s4)) fun H5 s5 => ?_
    have s25 := s2.trans (s3.trans (s4.trans s5))
    have he5 := he.same s25
    have hg5 := hg.same s25
    show tSeq (tAsg (tLc (iTup K _) _ _ _ _) (gName 5)) _ _ [some (.ref c), some (.ref d), some (.ref e), some (.ref g), some (.int (sg M.det)), none, none] H5
    refine ⟨_, rfl, _, rfl, by show 2 ≤ 1000000; decide, fun t6 H6 n6 s6 h6 => ⟨t6, rfl, ⟨_, SqT.of h6⟩, fun D hD => ?_⟩⟩
    have sizeW : ∀ W : List Bool, W.length ≤ 40 → (enc W).length + ("m" : Str).length ≤ sizeLine := fun W hW => by
      rw [enc_len, sizeLine_eq, show ("m" : Str).length = 1 by decide +kernel]; omega
    have ltl : ∀ {pl : List Int} {W : List Bool}, LtE pl W → W.length ≤ 40 := fun {pl W} l => by
      cases l with
      | zero => simp
      | endl => simp
      | frac hu => rw [List.length_take]; omega
      | root hs hK => rw [Lt.flw_len]; exact Nat.le_refl _
    have turn : ∀ (H' : Hp) (x : Addr) (px : List Int) (Wx : List Bool) (Q' : VK), Same H6 H' → EdgeAt CE H6 x px → Gd px Wx → (∀ H'', Same H' H'' → Q' (.str (enc Wx ++ "m")) H'') →
        tOp (fun x y H Q => ∃ i j, x = V.str i ∧ y = V.str j ∧ i.length + j.length ≤ sizeLine ∧ Q (V.str (i ++ j)) H) (tMeth CE (Str.ofString "letters") (sp_letters CE) [] E0 (tVar 6) (tCons (tC (V.int 40)) tNil)) (tC (V.str (Str.ofString "m"))) [some (.ref c), some (.ref d), some (.ref e), some (.ref g), some (.int (sg M.det)), none, some (.ref x)] H' Q' := fun H' x px Wx Q' s' hx gx q' => by
      have hx' := hx.same s'
      obtain ⟨dx, fs, a1, a2⟩ := edge_let hx'
      exact ⟨_, rfl, x, dx, fs, rfl, a1, a2, x, px, Wx, rfl, hx', gx.lt, fun H'' s'' => ⟨_, _, rfl, rfl, sizeW Wx (ltl gx.lt), q' H'' s''⟩⟩
    refine lcR_tup (xs := [.ref e, .ref g]) (fun j H' => (∀ b o, b ≠ D → H6 b = some o → H' b = some o) ∧ H' D = some (.lst (([V.str (enc W ++ "m"), V.str (enc W' ++ "m")]).take j))) ⟨fun b o n e => by rw [upd_ne n]; exact e, upd_same⟩ (fun j H' _ m => SqT.of (m.1 _ _ (ne_of_none h6 hD) h6)) (fun j v H' hj m => ?_) (gName_mono _) (fun H7 m => ?_)
    · obtain ⟨kp, hl⟩ := m
      have sm' : Same H6 H' := fun b o e => kp b o (ne_of_none e hD) e
      match j, hj with
      | 0, hj =>
        cases hj
        refine ⟨rfl, turn H' e pl W _ sm' (he5.same s6) gd fun H'' s'' => ⟨_, s'' _ _ hl, big (by show 0 ≤ 16000000; decide), fun b o n e => by rw [upd_ne n]; exact s'' _ _ (kp b o n e), upd_same⟩⟩
      | 1, hj =>
        cases hj
        refine ⟨rfl, turn H' g pl' W' _ sm' (hg5.same s6) gd' fun H'' s'' => ⟨_, s'' _ _ hl, big (by show 1 ≤ 16000000; decide), fun b o n e => by rw [upd_ne n]; exact s'' _ _ (kp b o n e), upd_same⟩⟩
    · obtain ⟨kp, hl⟩ := m
      have s7 : Same H6 H7 := fun b o e => kp b o (ne_of_none e hD) e
      have s57 := s6.trans s7
      have hl : H7 D = some (.lst [V.str (enc W ++ "m"), V.str (enc W' ++ "m")]) := hl
      refine gN_go ?_
      show tSeq _ _ _ [some (.ref c), some (.ref d), some (.ref e), some (.ref g), some (.int (sg M.det)), some (.ref D), none] H7
      have lst : ∀ X : List Bool, (enc X ++ ("m" : Str)).cps.toList = mL X := fun X => by
        show ((enc X).cps ++ ("m" : Str).cps).toList = _
        rw [Array.toList_append]
        have e : ("m" : Str).cps.toList = [109] := by decide +kernel
        rw [e]
        unfold mL
        simp [enc]
      have inj : enc W ++ ("m" : Str) = enc W' ++ ("m" : Str) ↔ W = W' := by
        refine ⟨fun e => ?_, fun e => by rw [e]⟩
        have := congrArg (fun z : Str => z.cps.toList) e
        simp only [lst] at this
        unfold mL at this
        have h2 := List.append_cancel_right this
        have key : ∀ u v : List Bool, u.map cd = v.map cd → u = v := fun u => by
          induction u with
          | nil => intro v h; cases v with
            | nil => rfl
            | cons _ _ => cases h
          | cons a u ih => intro v h; cases v with
            | nil => cases h
            | cons b v =>
              have h' := List.cons.inj h
              rw [ih v h'.2]
              have : a = b := by have := h'.1; cases a <;> cases b <;> first | rfl | (exact absurd this (by decide))
              rw [this]
        exact key W W' h2
      have ix : ∀ (n : Int) (v : V), atI [V.str (enc W ++ "m"), V.str (enc W' ++ "m")] n = some v → VE (tOp (rIxL K) (tVar 5) (tC (.int n))) [some (.ref c), some (.ref d), some (.ref e), some (.ref g), some (.int (sg M.det)), some (.ref D), none] H7 v := fun n v h H s Q q => ⟨_, rfl, D, _, n, v, rfl, rfl, SqL.of (s _ _ hl), h, q H (Same.refl H)⟩
      have i0 := ix 0 (.str (enc W ++ "m")) (atI_nat (j := 0) rfl)
      have i1 := ix 1 (.str (enc W' ++ "m")) (atI_nat (j := 1) rfl)
      have tst : BE (tTest (tOp rEq (tOp (rIxL K) (tVar 5) (tC (.int 0))) (tOp (rIxL K) (tVar 5) (tC (.int 1))))) [some (.ref c), some (.ref d), some (.ref e), some (.ref g), some (.int (sg M.det)), some (.ref D), none] H7 (decide (W = W')) := (BE.val (VE.eqV i0 i1 rfl)).to (by
        rw [Bool.eq_iff_iff, decide_eq_true_eq, decide_eq_true_eq]
        exact ⟨fun e => inj.mp (V.str.inj e), fun e => congrArg V.str (inj.mpr e)⟩)
      refine tst H7 (Same.refl H7) _ fun H8 s8 => ?_
      have s58 := s57.trans s8
      by_cases ww : W = W'
      · refine ifT (decide_eq_true ww) ?_
        exact k H8 (s25.trans s58)
      · refine ifF (decide_eq_false ww) ?_
        have ord8 : VE (tCall (sp_lorder CE) [] E0 (tCons (tVar 2) (tCons (tVar 3) tNil))) [some (.ref c), some (.ref d), some (.ref e), some (.ref g), some (.int (sg M.det)), some (.ref D), none] H7 _ := VE.order (EE.var rfl (he5.same s57)) (EE.var rfl (hg5.same s57)) t2.o0 t2.o0' t2.tri
        refine ord8 H8 s8 _ fun H9 s9 => ?_
        refine ⟨_, rfl, by show 2 ≤ 1000000; decide, fun L H10 n10 s10 h10 => ?_⟩
        refine (i0 H10 (s8.trans (s9.trans s10)) _ fun H11 s11 => i1 H11 ((s8.trans (s9.trans s10)).trans s11) _ fun H12 s12 => ⟨_, _, rfl, rfl, _, rfl, L, _, _, .int (if mL W < mL W' then -1 else 1), rfl, rfl, SqL.of (s12 _ _ (s11 _ _ h10)), ?_, rfl, ?_⟩)
        · rw [lst, lst]
          by_cases c2 : mL W < mL W'
          · rw [if_pos c2, decide_eq_true c2, if_pos rfl]
            exact atI_nat (j := 1) rfl
          · rw [if_neg c2, decide_eq_false c2, if_neg (by decide)]
            exact atI_nat (j := 0) rfl
        · rw [← t2.wd ww, decide_eq_true rfl]
          exact k H12 (s25.trans (s58.trans (s9.trans (s10.trans (s11.trans s12)))))
end

/-! ## k16: edges drawn, the law -/
open K16 Ed Eo Eh Sx Mw
namespace K16
def sp_lawE (K : PySem.W.Frag) : Sp := fun vs H Q _ => ∃ (a : Addr) (ns : List Int), vs = [.ref a] ∧ SqL K H a (ns.map V.int) ∧ ns.length ≤ 63 ∧ ∀ H', Q (.bl true) H'
theorem sum_b (bits : List Bool) : ((bits.map fun x => enc [x]).map (·.length)).sum = bits.length := by
  induction bits with
  | nil => rfl
  | cons x r ih => rw [List.map_cons, List.map_cons, List.sum_cons, ih, enc_len, List.length_cons, List.length_cons, List.length_nil]; omega
theorem at_lr (c : Bool) : atI ("lr" : Str).cps.toList ((if c = true then 1 else 0 : Nat) : Int) = some (cd c) := by cases c <;> decide +kernel
theorem lr_len : ("lr" : Str).length ≤ sizeLine := by decide +kernel
theorem edge_tk {CE : Addr} {H H' : Hp} {e : Addr} {pl : List Int} (h : EdgeAt CE H e pl) (k : Mw.TK H H') : EdgeAt CE H' e pl := by
  unfold EdgeAt at h ⊢
  split at h
  · obtain ⟨dx, t, fs, h1, h2, h2', h3⟩ := h
    exact ⟨dx, t, fs, k _ _ rfl h1, h2, h2', k _ _ rfl h3⟩
  · obtain ⟨dx, t, m, fs, h1, h2, h2', h3, h4⟩ := h
    exact ⟨dx, t, m, fs, k _ _ rfl h1, h2, h2', k _ _ rfl h3, k _ _ rfl h4⟩
  · exact h.elim
theorem keepB {CC B : Addr} {H H' : Hp} {c : Addr} {M : Mt} (h : ChM CC H c M) (hb : BoxAt H B) (k : Keep B H H') : ChM CC H' c M := by
  obtain ⟨dx, q, h1, h2⟩ := h
  obtain ⟨x, sd, n, hB, _⟩ := hb
  exact ⟨dx, q, k _ _ (fun e => by rw [e, hB] at h1; cases h1) h1, k _ _ (fun e => by rw [e, hB] at h2; cases h2) h2⟩
/-- edges of a list -/
def EdgesAt (CE : Addr) (H : Hp) (xs : List V) : Prop := ∀ v ∈ xs, ∃ (e : Addr) (pl : List Int) (W : List Bool), v = .ref e ∧ EdgeAt CE H e pl ∧ Gd pl W
end K16
section
variable {P : Program} {w : World} {K : PySem.W.Frag} {mg : Str → Option Value} {base : Heap}
theorem ok_ledge {f C CE IE IR : Addr} {fd : FuncData} (F : Fun K "_law_edge" "_law_edge" S__law_edge f fd) (T : Txt K mg) (C_take : FnC P w K mg base CX0 1 "_law_take" ["_law_box_here", "_law_many"] sp_take) (C_lroot : FnC P w K mg base CX0 3 "_law_root" ["_law_box_here", "_law_most"] sp_lroot) (C_ratio : MkC P w K mg base CX0 4 C "Ratio" ["self", "first", "second"] (Kb.calm (sp_init C IR K)))
    (M_ezero : CmC P w K mg base CX0 4 CE "Edge" "zero" ["cls"] (Kb.calm (sp_ecm CE [0, 1]))) (M_eendless : CmC P w K mg base CX0 4 CE "Edge" "endless" ["cls"] (Kb.calm (sp_ecm CE [1, 0]))) (M_eof : CmC P w K mg base CX0 4 CE "Edge" "of" ["cls", "ratio"] (Kb.calm (sp_eof C CE))) (M_eroot : CmC P w K mg base CX0 4 CE "Edge" "root" ["cls", "p", "q", "d", "r"] (Kb.calm (sp_eroot CE IE K))) (M_eofp : CmC P w K mg base CX0 8 CE "Edge" "of_parts" ["cls", "lead", "cycle"] (Kb.calm (Ep.sp_eofG CE))) : FnOk P w K mg base CX0 9 f fd ["_law_box_here"] (sp_ledge CE) := by
  refine F.ok SC__law_edge (fun vs H Q E h => ?_) (fun cdv A outer s H vs Q E hr h => ?_)
  · obtain ⟨b, rfl, _⟩ := h
    rfl
  · obtain ⟨b, rfl, hb, q⟩ := h
    refine ⟨_, (pss_cons (ps_set (i := 1) SC__law_edge.nd rfl (.inl rfl) (pe_callC C_take (hr.mono (by decide)) rfl (pa_cons (pv 0) (pa_cons pe_int pa_nil))))
      (pss_cons (ps_if (pt_cmpR op_eq (pv 1) pe_int (nomark _)) (pss_one (ps_ret (pe_ix ix_list (pe_lstN (pa_cons (pe_cm0C M_ezero (hr.mono (by decide)) rfl) (pa_cons (pe_cm0C M_eendless (hr.mono (by decide)) rfl) pa_nil))) (pe_callC C_take (hr.mono (by decide)) rfl (pa_cons (pv 0) (pa_cons pe_int pa_nil))) (fun _ _ => rfl)))) pss_nil)
      (pss_cons (ps_if (pt_cmpR op_eq (pv 1) pe_int (nomark _)) (pss_one (ps_ret (pe_cmC M_eof (hr.mono (by decide)) rfl (pa_cons (pe_makeC C_ratio (hr.mono (by decide)) rfl (pa_cons (pe_op op_add pe_int (pe_callC C_take (hr.mono (by decide)) rfl (pa_cons (pv 0) (pa_cons pe_int pa_nil)))) (pa_cons (pe_op op_add pe_int (pe_callC C_take (hr.mono (by decide)) rfl (pa_cons (pv 0) (pa_cons pe_int pa_nil)))) pa_nil))) pa_nil)))) pss_nil)
      (pss_cons (ps_if (pt_cmpR op_eq (pv 1) pe_int (nomark _)) (pss_cons (ps_asg (pe_callC C_lroot (hr.mono (by decide)) rfl (pa_cons (pv 0) (pa_cons pe_int pa_nil))) (pg_tup rfl (pgs_cons (pg_name (i := 2) SC__law_edge.nd rfl (.inl rfl)) (pgs_cons (pg_name (i := 3) SC__law_edge.nd rfl (.inl rfl)) (pgs_cons (pg_name (i := 4) SC__law_edge.nd rfl (.inl rfl)) (pgs_cons (pg_name (i := 5) SC__law_edge.nd rfl (.inl rfl)) pgs_nil))))))
      (pss_nrm (pss_one (ps_ret (pe_cmC M_eroot (hr.mono (by decide)) rfl (pa_cons (pv 2) (pa_cons (pv 3) (pa_cons (pv 4) (pa_cons (pv 5) pa_nil))))))))) pss_nil)
      (pss_cons (ps_setLc (i := 6) (own := [("_law_turn", 7)]) (g := gName 7) (by rfl) SC__law_edge.nd rfl rfl (sw_true rfl rfl rfl (by decide +kernel)) (pi_range1 (by rfl) T.b_range (pa_cons pe_int pa_nil)) (blkOk_by (own := [("_law_turn", 7)]) (N := N__law_edge) (sc := defScope S__law_edge) (by decide +kernel)) (fun _ _ _ _ _ => pg_name (i := 7) SC__law_edge.nd rfl (Or.inl rfl)) (fun _ _ _ _ _ => pts_nil) (fun _ _ _ _ _ => (pe_joinK (K := K) rfl pe_str (pe_lc (own := [("_law_k", 8)]) (g := gName 8) (by rfl) SC__law_edge.nd (pi_range1 (by rfl) T.b_range (pa_cons (pe_op op_add pe_int (pe_callC C_take (hr.mono (by decide)) rfl (pa_cons (pv 0) (pa_cons pe_int pa_nil)))) pa_nil)) (blkOk_by (own := [("_law_k", 8)]) (N := N__law_edge) (by kernel_rfl)) (fun _ _ _ _ _ => pg_name (i := 8) SC__law_edge.nd rfl (Or.inl rfl)) (fun _ _ _ _ _ => pts_nil) (fun _ _ _ _ _ => (pe_ix ix_str pe_str (pe_callC C_take (hr.mono (by decide)) rfl (pa_cons (pv 0) (pa_cons pe_int pa_nil))) (fun _ _ => rfl)))))))
      (pss_one (ps_ret (pe_cmC M_eofp (hr.mono (by decide)) rfl (pa_cons (pe_ix ix_list (pv 6) pe_int (fun _ _ => rfl)) (pa_cons (pe_op op_add_str (pe_ix ix_list (pv 6) pe_int (fun _ _ => rfl)) pe_str) pa_nil)))))))))), ?_⟩
    have W0 := Wo.start hb
    refine ⟨_, rfl, b, 5, rfl, hb, by decide, by decide, fun x H1 x0 x1 kp1 hb1 => ?_⟩
    have gco : ∀ i j : Int, 1 ≤ i → 1 ≤ j → i ≤ 20 → j ≤ 20 → ∃ W, Gd [i / (Int.gcd i j : Nat), j / (Int.gcd i j : Nat)] W := fun i j i1 j1 i2 j2 => by
      obtain ⟨a1, b1, g1⟩ := K10.frac_low (show 0 < i by omega) (show 0 < j by omega)
      have dv : ∀ z : Int, 0 ≤ z → z ≤ 20 → z / ((Int.gcd i j : Nat) : Int) ≤ 20 := fun z z0 z1 => by
        have g0 : 0 < Int.gcd i j := Int.gcd_pos_of_ne_zero_left _ (by omega)
        exact Int.le_trans (Int.ediv_le_self _ z0) z1
      exact gd_two (by omega) (by omega) g1 (Int.le_trans (dv i (by omega) i2) (by decide)) (Int.le_trans (dv j (by omega) j2) (by decide))
    refine gN_go ?_
    dsimp only [List.set_cons_succ, List.set_cons_zero]
    refine ⟨_, rfl, rfl, _, rfl, ite2 (fun h => ?_) (fun h => ?_)⟩
    · refine ⟨rfl, fun e1 H2 n2 s2 h1 => ⟨rfl, fun e2 H3 n3 s3 h2 => ⟨by show 2 ≤ 1000000; decide, fun L H4 n4 s4 hL => ?_⟩⟩⟩
      have hb4 := hb1.same (s2.trans (s3.trans s4))
      have neL : L ≠ b := (hb1.same (s2.trans s3)).ne n4
      refine ⟨_, rfl, b, 2, rfl, hb4, by decide, by decide, fun y H5 y0 y1 kp5 hb5 => ?_⟩
      have kk : Keep b H H5 := kp1.trans ((Keep.same (s2.trans (s3.trans s4))).trans kp5)
      obtain ⟨w1, g1⟩ := gd_two (x := 0) (y := 1) (by decide) (by decide) (by decide) (by decide) (by decide)
      obtain ⟨w2, g2⟩ := gd_two (x := 1) (y := 0) (by decide) (by decide) (by decide) (by decide) (by decide)
      rcases (show y = 0 ∨ y = 1 by omega) with rfl | rfl
      · exact ⟨L, _, _, _, rfl, rfl, SqL.of (kp5 L _ neL hL), atI_nat (j := 0) rfl, q e1 H5 _ _ g1 (((h1.same s3).same s4).keep hb4 kp5) kk hb5⟩
      · exact ⟨L, _, _, _, rfl, rfl, SqL.of (kp5 L _ neL hL), atI_nat (j := 1) rfl, q e2 H5 _ _ g2 ((h2.same s4).keep hb4 kp5) kk hb5⟩
    refine ⟨_, rfl, rfl, _, rfl, ite2 (fun h => ?_) (fun h => ?_)⟩
    · refine ⟨_, rfl, b, 20, rfl, hb1, by decide, by decide, fun x2 H2 x20 x21 kp2 hb2 => ⟨_, _, rfl, rfl, _, rfl, b, 20, rfl, hb2, by decide, by decide, fun x3 H3 x30 x31 kp3 hb3 => ⟨_, _, rfl, rfl, ?_⟩⟩⟩
      have sm : ∀ z : Int, 0 ≤ z → z < 20 → (1 + z).natAbs < 2 ^ 1000 := fun z z0 z1 => Nat.lt_of_lt_of_le (show (1 + z).natAbs < 64 by omega) (Nat.pow_le_pow_right (show 0 < 2 by decide) (show 6 ≤ 1000 by decide))
      obtain ⟨W, gd⟩ := gco (1 + x2) (1 + x3) (by omega) (by omega) (by omega) (by omega)
      refine fun x dx hx hdx hne => Rt.mk_ratH' (i := 1 + x2) (j := 1 + x3) (by omega) (by omega) (sm _ x20 x21) (sm _ x30 x31) hx hdx hne fun H4 s4 hr => ⟨x, _, _, rfl, hr, fun e H5 n5 s5 he => ?_⟩
      exact q e H5 _ W gd he (kp1.trans (kp2.trans (kp3.trans (Keep.same (s4.trans s5))))) (hb3.same (s4.trans s5))
    refine ⟨_, rfl, rfl, _, rfl, ite2 (fun h => ?_) (fun h => ?_)⟩
    · refine ⟨_, rfl, b, 9, rfl, hb1, by decide, by decide, fun t H2 p q' d r nt tb kp2 hb2 ht p0 p1 q0 q1 d0 d1 r0 r1 w0 => ?_⟩
      refine ⟨t, _, rfl, SqT.of ht, rfl, _, _, rfl, _, _, rfl, _, _, rfl, _, _, rfl, rfl, ?_⟩
      walk_at "nrm"
      walk_at "kw"
      have up : ∀ z : Int, -1000 ≤ z → z ≤ 1000 → Bd 100 z := fun z h1 h2 => Nat.lt_of_lt_of_le (show z.natAbs < 1024 by omega) (by decide)
      have f1 : 0 < r := by omega
      refine K10.erootH (E := E0) (p := p) (q := q') (d := d) (r := r) ⟨up p (by omega) (by omega), up q' (by omega) (by omega), up d (by omega) (by omega), up r (by omega) (by omega)⟩ d0 (by omega) (by rw [K10.nrm_pos f1, K10.nrm_pos f1]; exact w0) fun s s0 s1 s2 e3 H3 n3 s3 he3 => ?_
      rw [K10.nrm_pos f1, K10.nrm_pos f1, K10.nrm_pos f1] at he3
      obtain ⟨W, gd⟩ := gd_root (p := p) (q := q') (d := d) (r := r) (s0 := s) ⟨by omega, by omega⟩ ⟨q0, q1⟩ ⟨d0, d1⟩ ⟨r0, r1⟩ w0 s0 s1 s2
      exact q e3 H3 _ W gd he3 (kp1.trans (kp2.trans (Keep.same s3))) (hb2.same s3)
    · refine ⟨_, rfl, by omega, by omega, fun D hD => ?_⟩
      have hDb : D ≠ b := hb1.ne hD
      refine lcR_range (lo := 0) (fun j H' => Keep b H1 H' ∧ BoxAt H' b ∧ ∃ ws : List (List Bool), ws.length = j ∧ (∀ w ∈ ws, w.length ≤ 5) ∧ H' D = some (.lst (ws.map fun u => V.str (enc u)))) ⟨Keep.new hD, hb1.new hD, [], rfl, fun v h => (nomatch h), upd_same⟩ (fun j H2 hj m => ?_) (gName_mono _) (fun H2 m => ?_)
      · obtain ⟨kp2, hb2, ws, wl, wle, hH⟩ := m
        refine ⟨rfl, ⟨_, rfl⟩, ?_⟩
        refine ⟨_, rfl, b, 5, rfl, hb2, by decide, by decide, fun x5 H3 x50 x51 kp3 hb3 => ⟨_, _, rfl, rfl, _, rfl, by omega, by omega, fun D2 hD2 => ?_⟩⟩
        refine lcR_range (lo := 0) (fun i H' => Keep b H3 H' ∧ BoxAt H' b ∧ ∃ us : List Bool, us.length = i ∧ H' D2 = some (.lst (us.map fun x => V.str (enc [x]))))
          ⟨Keep.new hD2, hb3.new hD2, [], rfl, upd_same⟩ (fun i H4 hi m => ?_) (gName_mono _) (fun H4 m => ?_)
        · obtain ⟨kp4, hb4, us, hl, hU⟩ := m
          refine ⟨rfl, _, rfl, b, 2, rfl, hb4, by decide, by decide, fun y H5 y0 y1 kp5 hb5 => ?_⟩
          have hU5 := kp5 D2 _ (hb3.ne hD2) hU
          obtain ⟨c, hc⟩ : ∃ c : Bool, y = (if c then 1 else 0 : Nat) := by
            rcases (show y = 0 ∨ y = 1 by omega) with rfl | rfl
            · exact ⟨false, rfl⟩
            · exact ⟨true, rfl⟩
          subst hc
          refine ⟨_, _, _, rfl, rfl, lr_len, at_lr c, ?_⟩
          refine ⟨_, hU5, by rw [List.length_map]; exact Nat.lt_of_le_of_lt (show us.length ≤ 1000 by omega) (by decide), fun a o n e => by rw [upd_ne (ne_of_none e hD2)]; exact (kp4.trans kp5) a o n e, hb5.keep fun o e => by rw [upd_ne (hb3.ne hD2).symm]; exact e, us ++ [c], by simp [hl], by rw [upd_same, List.map_append]; rfl⟩
        · obtain ⟨kp4, hb4, us, hl, hU⟩ := m
          have hH4 := kp4 D _ hDb (kp3 D _ hDb hH)
          refine ⟨"", D2, us.map fun x => enc [x], rfl, rfl, .inl (SqL.of (by rw [List.map_map]; exact hU)), ?_, ?_⟩
          · rw [sum_b, empty_len]
            omega
          · rw [join_bits]
            refine ⟨_, hH4, by rw [List.length_map, wl]; exact Nat.lt_of_le_of_lt (show j ≤ 1000 by omega) (by decide), fun a o n e => by rw [upd_ne (ne_of_none e hD)]; exact (kp2.trans (kp3.trans kp4)) a o n e, hb4.keep fun o e => by rw [upd_ne hDb.symm]; exact e, ws ++ [us], by simp [wl], fun w hw => ?_, by rw [upd_same, List.map_append]; rfl⟩
            rcases List.mem_append.mp hw with h | h
            · exact wle w h
            · cases List.mem_singleton.mp h; omega
      · obtain ⟨kp2, hb2, ws, wl, wle, hH⟩ := m
        obtain ⟨u, v, rfl⟩ : ∃ u v, ws = [u, v] := by
          match ws, wl with
          | [u, v], _ => exact ⟨u, v, rfl⟩
        have lu := wle u (by simp)
        have lv := wle v (by simp)
        refine gN_go ?_
        dsimp only [List.set_cons_succ, List.set_cons_zero]
        have lr2 : ("lr" : Str) = enc [false, true] := by decide +kernel
        have cat : enc v ++ ("lr" : Str) = enc (v ++ [false, true]) := by rw [lr2, enc_app]
        refine ⟨_, rfl, D, _, _, _, rfl, rfl, SqL.of hH, atI_nat (j := 0) rfl, _, rfl, D, _, _, _, rfl, rfl, SqL.of hH, atI_nat (j := 1) rfl, _, _, rfl, rfl, ?_, u, v ++ [false, true], ?_, ?_, by simp, fun e3 H3 n3 s3 he3 => ?_⟩
        · rw [enc_len, show ("lr" : Str).length = 2 by decide +kernel, sizeLine_eq]; omega
        · rw [← cat]
        · rw [List.length_append]; show u.length + (v.length + 2) ≤ 30; omega
        · obtain ⟨W, gd⟩ := gd_parts (u := u) (v := v ++ [false, true]) lu (by rw [List.length_append]; show v.length + 2 ≤ 7; omega) (by simp) (by simp)
          exact q e3 H3 _ W gd he3 (kp1.trans (kp2.trans (Keep.same s3))) (hb2.same s3)
theorem ok_law {f CC CE : Addr} {fd : FuncData} (F : Fun K "law" "law" S_law f fd) (T : Txt K mg) (C_box : FnC P w K mg base CX0 1 "_law_box" ["_law_script", "_law_k"] (sp_box2 K)) (C_lchange : FnC P w K mg base CX0 6 "_law_change" ["_law_box_here"] (sp_lchange CC)) (C_ledge : FnC P w K mg base CX0 9 "_law_edge" ["_law_box_here"] (K16.sp_ledge CE)) (C_right : FnC P w K mg base CX0 9 "_law_right" ["_law_change_here", "_law_beside", "_law_one", "_law_other"] (K16.sp_right CC CE)) : FnOk P w K mg base CX0 10 f fd ["_law_script"] (K16.sp_lawE K) := by
  refine F.ok SC_law (fun vs H Q E h => ?_) (fun cdv A outer s H vs Q E hr h => ?_)
  · obtain ⟨a, ns, rfl, _⟩ := h
    rfl
  · obtain ⟨a, ns, rfl, hS, hlen, q⟩ := h
    refine ⟨_, (pss_cons (ps_for PassesOwn.never rfl (pi_range1 (by rfl) T.b_range (pa_cons (pe_callB (call_max2 rfl) (by rfl) T.b_max (by decide +kernel) (pa_cons pe_int (pa_cons (pe_callB (call_min2 rfl) (by rfl) T.b_min (by decide +kernel) (pa_cons (pe_callB call_len_seq (by rfl) T.b_len (by decide +kernel) (pa_cons (pv 0) pa_nil)) (pa_cons pe_int pa_nil))) pa_nil))) pa_nil)) (pg_name (i := 1) SC_law.nd rfl (.inl rfl)) (pss_cons (ps_set (i := 2) SC_law.nd rfl (.inr rfl) (pe_callC C_box (hr.mono (by decide)) rfl (pa_cons (pv 0) (pa_cons (pv 1) pa_nil))))
      (pss_cons (ps_par (i := 3) (j := 4) (by rfl) SC_law.nd rfl rfl (by decide) rfl rfl (pa_cons (pe_callC C_lchange (hr.mono (by decide)) rfl (pa_cons (pv 2) pa_nil)) (pa_cons (pe_callC C_lchange (hr.mono (by decide)) rfl (pa_cons (pv 2) pa_nil)) pa_nil)) (by rfl))
      (pss_nrm (pss_cons (ps_setLc (i := 5) (own := [("_law_turn", 8)]) (g := gName 8) (by rfl) SC_law.nd rfl rfl (sw_true rfl rfl rfl (by decide +kernel)) (pi_range1 (by rfl) T.b_range (pa_cons pe_int pa_nil)) (blkOk_by (own := [("_law_turn", 8)]) (N := N_law) (sc := defScope S_law) (by decide +kernel)) (fun _ _ _ _ _ => pg_name (i := 8) SC_law.nd rfl (Or.inl rfl)) (fun _ _ _ _ _ => pts_nil) (fun _ _ _ _ _ => (pe_callC C_ledge (hr.mono (by decide)) rfl (pa_cons (pv 2) pa_nil))))
      (pss_one (ps_for PassesOwn.never rfl (pi_list (pv 5)) (pg_name (i := 6) SC_law.nd rfl (.inl rfl)) (pss_one (ps_for PassesOwn.never rfl (pi_list (pv 5)) (pg_name (i := 7) SC_law.nd rfl (.inl rfl)) (pss_one (ps_if (pt_not (pt_val (pe_callC C_right (hr.mono (by decide)) rfl (pa_cons (pv 3) (pa_cons (pv 4) (pa_cons (pv 6) (pa_cons (pv 7) pa_nil))))))) (pss_one (ps_ret pe_bl)) pss_nil)))))))))))
      (pss_one (ps_ret pe_bl))), ?_⟩
    walk_at "kw"
    refine for_range (lo := 0) (fun i σ H' => Same H H' ∧ ∃ y1 y2 y3 y4 y5 y6 y7 y8 : Option V, σ = [some (.ref a), y1, y2, y3, y4, y5, y6, y7, y8])
      ⟨Same.refl H, none, none, none, none, none, none, none, none, rfl⟩ (fun i σ H1 hi hP => ?_) (fun σ H1 hP => ?_)
    · obtain ⟨sm, y1, y2, y3, y4, y5, y6, y7, y8, rfl⟩ := hP
      walk_at "kw"
      refine ⟨a, ns, _, rfl, same_sqL sm hS, hlen, by omega, fun B H2 hB sm2 hb2 => ?_⟩
      refine ⟨_, rfl, B, rfl, hb2, fun c H3 M mo hc kp3 hb3 => ⟨_, rfl, B, rfl, hb3, fun d H4 N no hd kp4 hb4 => ?_⟩⟩
      refine ⟨_, _, rfl, ?_⟩
      walk_at "nrm"
      refine ⟨_, rfl, by omega, by omega, fun D hD => ?_⟩
      have hDb : D ≠ B := hb4.ne hD
      have hc4 : ChM CC H4 c M := keepB hc hb3 kp4
      refine lcR_range (lo := 0) (fun j H' => Keep B H4 H' ∧ BoxAt H' B ∧ ∃ xs : List V, xs.length = j ∧ H' D = some (.lst xs) ∧ EdgesAt CE H' xs) ⟨Keep.new hD, hb4.new hD, [], rfl, upd_same, fun v h => (nomatch h)⟩ (fun j H5 hj m => ?_) (gName_mono _) (fun H5 m => ?_)
      · obtain ⟨kp5, hb5, xs, hl, hH, hx⟩ := m
        refine ⟨rfl, _, rfl, B, rfl, hb5, fun e H6 pl W gd he kp6 hb6 => ?_⟩
        have hH6 := kp6 D _ hDb hH
        have tk : TK H6 (upd H6 D (.lst (xs ++ [.ref e]))) := TK.upd hH6 rfl
        refine ⟨_, hH6, by rw [hl]; exact Nat.lt_of_le_of_lt (show j ≤ 1000 by omega) (by decide), fun a o n e => by rw [upd_ne (ne_of_none e hD)]; exact (kp5.trans kp6) a o n e, hb6.keep fun o e => by rw [upd_ne hDb.symm]; exact e, xs ++ [.ref e], by simp [hl], upd_same, fun v hv => ?_⟩
        rcases List.mem_append.mp hv with h | h
        · obtain ⟨e', pl', W', rfl, he', gd'⟩ := hx v h
          exact ⟨e', pl', W', rfl, edge_tk (he'.keep hb5 kp6) tk, gd'⟩
        · cases List.mem_singleton.mp h
          exact ⟨e, pl, W, rfl, edge_tk he tk, gd⟩
      obtain ⟨kp5, hb5, xs, hl, hH, hx⟩ := m
      have hc5 : ChM CC H5 c M := keepB hc4 hb4 kp5
      have hd5 : ChM CC H5 d N := keepB hd hb4 kp5
      refine gN_go ?_
      dsimp only [List.set_cons_succ, List.set_cons_zero]
      have sm5 : Same H H5 := fun b o e => by
        have := sm2 b o (sm b o e)
        exact (kp3.trans (kp4.trans kp5)) b o (ne_of_none (sm b o e) hB) this
      refine ⟨_, rfl, D, rfl, ⟨_, SqL.of hH⟩, ?_⟩
      refine for_list (xs := xs) (fun j σ H' => Same H5 H' ∧ ∃ y6 y7 y8 : Option V, σ = [some (.ref a), some (.int (0 + (i : Int))), some (.ref B), some (.ref c), some (.ref d), some (.ref D), y6, y7, y8]) ⟨Same.refl _, _, _, _, rfl⟩ (fun j σ H' _ m => SqL.of (m.1 _ _ hH)) (fun j v σ H6 hj hP => ?_) (fun σ H6 hP => ?_)
      · obtain ⟨s6, y6, y7, y8, rfl⟩ := hP
        obtain ⟨e, pl, W, rfl, he, gd⟩ := hx v (List.mem_iff_getElem?.mpr ⟨_, hj⟩)
        refine gN_go ?_
        dsimp only [List.set_cons_succ, List.set_cons_zero]
        refine ⟨_, rfl, D, rfl, ⟨_, SqL.of (s6 _ _ hH)⟩, ?_⟩
        refine for_list (xs := xs) (fun j σ H' => Same H5 H' ∧ ∃ y7 y8 : Option V, σ = [some (.ref a), some (.int (0 + (i : Int))), some (.ref B), some (.ref c), some (.ref d), some (.ref D), some (.ref e), y7, y8]) ⟨s6, _, _, rfl⟩ (fun j σ H' _ m => SqL.of (m.1 _ _ hH)) (fun j' v' σ H7 hj' hP => ?_) (fun σ H7 hP => ?_)
        · obtain ⟨s7, y7, y8, rfl⟩ := hP
          obtain ⟨e', pl', W', rfl, he', gd'⟩ := hx v' (List.mem_iff_getElem?.mpr ⟨_, hj'⟩)
          refine gN_go ?_
          dsimp only [List.set_cons_succ, List.set_cons_zero]
          refine if_next (H0 := H7) (BE.not (b := true) fun H s Q' q' => ⟨_, rfl, _, rfl, _, rfl, _, rfl, c, d, e, e', M, N, pl, pl', W, W', rfl, ChAt.same (ChAt.same hc5 s7) s, ChAt.same (ChAt.same hd5 s7) s, mo, no, (he.same s7).same s, (he'.same s7).same s, gd, gd', fun H' s' => ⟨true, rfl, q' H' s'⟩⟩) (Same.refl H7) fun H8 s8 => ?_
          exact ⟨s7.trans s8, _, _, rfl⟩
        · obtain ⟨s7, y7, y8, rfl⟩ := hP
          exact ⟨s7, _, _, _, rfl⟩
      · obtain ⟨s6, y6, y7, y8, rfl⟩ := hP
        exact ⟨sm5.trans s6, _, _, _, _, _, _, _, _, rfl⟩
    · walk_at "kw"
      exact q H1
end

theorem all_mk {l : PySem.W.OpenLaw} {w : World} {K : PySem.W.Frag} {h : Heap} {mg : Str → Option Value} {fa : Addr} {cUnmarkedError : Addr} {cInvalidWord NInvalidWord : Addr} {nmInvalidWord qInvalidWord : Str} {bsInvalidWord : List Value} {snInvalidWord : List Str} {subInvalidWord : List Value} {abInvalidWord : Bool} {colInvalidWord : Option Bool} {ddInvalidWord : Option Addr} {m0InvalidWord m1InvalidWord m2InvalidWord m3InvalidWord m5InvalidWord : Option Value} {cInvalidRatio NInvalidRatio : Addr} {nmInvalidRatio qInvalidRatio : Str} {bsInvalidRatio : List Value} {snInvalidRatio : List Str} {subInvalidRatio : List Value} {abInvalidRatio : Bool} {colInvalidRatio : Option Bool} {ddInvalidRatio : Option Addr} {m0InvalidRatio m1InvalidRatio m2InvalidRatio m3InvalidRatio m5InvalidRatio : Option Value} {cInvalidChange NInvalidChange : Addr} {nmInvalidChange qInvalidChange : Str} {bsInvalidChange : List Value} {snInvalidChange : List Str} {subInvalidChange : List Value} {abInvalidChange : Bool} {colInvalidChange : Option Bool} {ddInvalidChange : Option Addr} {m0InvalidChange m1InvalidChange m2InvalidChange m3InvalidChange m5InvalidChange : Option Value} {cInvalidEdge NInvalidEdge : Addr} {nmInvalidEdge qInvalidEdge : Str} {bsInvalidEdge : List Value} {snInvalidEdge : List Str} {subInvalidEdge : List Value} {abInvalidEdge : Bool} {colInvalidEdge : Option Bool} {ddInvalidEdge : Option Addr} {m0InvalidEdge m1InvalidEdge m2InvalidEdge m3InvalidEdge m5InvalidEdge : Option Value} {C : Addr} {CC : Addr} {CE : Addr} {f1 : Addr} {od1 an1 : Option Addr} {sl1 : Array (Option Value)} {oc1 kV1 dc1 pm1 cd1 ct1 : Value} {f2 : Addr} {od2 an2 : Option Addr} {sl2 : Array (Option Value)} {oc2 kV2 dc2 pm2 cd2 ct2 : Value} {f3 : Addr} {od3 an3 : Option Addr} {sl3 : Array (Option Value)} {oc3 kV3 dc3 pm3 cd3 ct3 : Value} {f4 : Addr} {od4 an4 : Option Addr} {sl4 : Array (Option Value)} {oc4 kV4 dc4 pm4 cd4 ct4 : Value} {f5 : Addr} {od5 an5 : Option Addr} {sl5 : Array (Option Value)} {oc5 kV5 dc5 pm5 cd5 ct5 : Value} {f6 : Addr} {od6 an6 : Option Addr} {sl6 : Array (Option Value)} {oc6 kV6 dc6 pm6 cd6 ct6 : Value} {f7 : Addr} {od7 an7 : Option Addr} {sl7 : Array (Option Value)} {oc7 kV7 dc7 pm7 cd7 ct7 : Value} {f8 : Addr} {od8 an8 : Option Addr} {sl8 : Array (Option Value)} {oc8 kV8 dc8 pm8 cd8 ct8 : Value} {f9 : Addr} {od9 an9 : Option Addr} {sl9 : Array (Option Value)} {oc9 kV9 dc9 pm9 cd9 ct9 : Value} {f10 : Addr} {od10 an10 : Option Addr} {sl10 : Array (Option Value)} {oc10 kV10 dc10 pm10 cd10 ct10 : Value} {f11 : Addr} {od11 an11 : Option Addr} {sl11 : Array (Option Value)} {oc11 kV11 dc11 pm11 cd11 ct11 : Value} {f12 : Addr} {od12 an12 : Option Addr} {sl12 : Array (Option Value)} {oc12 kV12 dc12 pm12 cd12 ct12 : Value} {f13 : Addr} {od13 an13 : Option Addr} {sl13 : Array (Option Value)} {oc13 kV13 dc13 pm13 cd13 ct13 : Value} {p13 : Addr} {rc13 : List Value} {f14 : Addr} {od14 an14 : Option Addr} {sl14 : Array (Option Value)} {oc14 kV14 dc14 pm14 cd14 ct14 : Value} {f15 : Addr} {od15 an15 : Option Addr} {sl15 : Array (Option Value)} {oc15 kV15 dc15 pm15 cd15 ct15 : Value} {f16 : Addr} {od16 an16 : Option Addr} {sl16 : Array (Option Value)} {oc16 kV16 dc16 pm16 cd16 ct16 : Value} {f17 : Addr} {od17 an17 : Option Addr} {sl17 : Array (Option Value)} {oc17 kV17 dc17 pm17 cd17 ct17 : Value} {f18 : Addr} {od18 an18 : Option Addr} {sl18 : Array (Option Value)} {oc18 kV18 dc18 pm18 cd18 ct18 : Value} {f19 : Addr} {od19 an19 : Option Addr} {sl19 : Array (Option Value)} {oc19 kV19 dc19 pm19 cd19 ct19 : Value} {p19 : Addr} {rc19 : List Value} {f20 : Addr} {od20 an20 : Option Addr} {sl20 : Array (Option Value)} {oc20 kV20 dc20 pm20 cd20 ct20 : Value} {f21 : Addr} {od21 an21 : Option Addr} {sl21 : Array (Option Value)} {oc21 kV21 dc21 pm21 cd21 ct21 : Value} {f22 : Addr} {od22 an22 : Option Addr} {sl22 : Array (Option Value)} {oc22 kV22 dc22 pm22 cd22 ct22 : Value} {f23 : Addr} {od23 an23 : Option Addr} {sl23 : Array (Option Value)} {oc23 kV23 dc23 pm23 cd23 ct23 : Value} {f24 : Addr} {od24 an24 : Option Addr} {sl24 : Array (Option Value)} {oc24 kV24 dc24 pm24 cd24 ct24 : Value} {f25 : Addr} {od25 an25 : Option Addr} {sl25 : Array (Option Value)} {oc25 kV25 dc25 pm25 cd25 ct25 : Value} {f26 : Addr} {od26 an26 : Option Addr} {sl26 : Array (Option Value)} {oc26 kV26 dc26 pm26 cd26 ct26 : Value} {f27 : Addr} {od27 an27 : Option Addr} {sl27 : Array (Option Value)} {oc27 kV27 dc27 pm27 cd27 ct27 : Value} {f28 : Addr} {od28 an28 : Option Addr} {sl28 : Array (Option Value)} {oc28 kV28 dc28 pm28 cd28 ct28 : Value} {p28 : Addr} {rc28 : List Value} {f29 : Addr} {od29 an29 : Option Addr} {sl29 : Array (Option Value)} {oc29 kV29 dc29 pm29 cd29 ct29 : Value} {p29 : Addr} {rc29 : List Value} {f30 : Addr} {od30 an30 : Option Addr} {sl30 : Array (Option Value)} {oc30 kV30 dc30 pm30 cd30 ct30 : Value} {p30 : Addr} {rc30 : List Value} {f31 : Addr} {od31 an31 : Option Addr} {sl31 : Array (Option Value)} {oc31 kV31 dc31 pm31 cd31 ct31 : Value} {f32 : Addr} {od32 an32 : Option Addr} {sl32 : Array (Option Value)} {oc32 kV32 dc32 pm32 cd32 ct32 : Value} {p32 : Addr} {rc32 : List Value} {f33 : Addr} {od33 an33 : Option Addr} {sl33 : Array (Option Value)} {oc33 kV33 dc33 pm33 cd33 ct33 : Value} {f34 : Addr} {od34 an34 : Option Addr} {sl34 : Array (Option Value)} {oc34 kV34 dc34 pm34 cd34 ct34 : Value} {f35 : Addr} {od35 an35 : Option Addr} {sl35 : Array (Option Value)} {oc35 kV35 dc35 pm35 cd35 ct35 : Value} {p35 : Addr} {rc35 : List Value} {f36 : Addr} {od36 an36 : Option Addr} {sl36 : Array (Option Value)} {oc36 kV36 dc36 pm36 cd36 ct36 : Value} {f37 : Addr} {od37 an37 : Option Addr} {sl37 : Array (Option Value)} {oc37 kV37 dc37 pm37 cd37 ct37 : Value} {f38 : Addr} {od38 an38 : Option Addr} {sl38 : Array (Option Value)} {oc38 kV38 dc38 pm38 cd38 ct38 : Value} {f39 : Addr} {od39 an39 : Option Addr} {sl39 : Array (Option Value)} {oc39 kV39 dc39 pm39 cd39 ct39 : Value} {f40 : Addr} {od40 an40 : Option Addr} {sl40 : Array (Option Value)} {oc40 kV40 dc40 pm40 cd40 ct40 : Value} {f41 : Addr} {od41 an41 : Option Addr} {sl41 : Array (Option Value)} {oc41 kV41 dc41 pm41 cd41 ct41 : Value} {f42 : Addr} {od42 an42 : Option Addr} {sl42 : Array (Option Value)} {oc42 kV42 dc42 pm42 cd42 ct42 : Value} {f43 : Addr} {od43 an43 : Option Addr} {sl43 : Array (Option Value)} {oc43 kV43 dc43 pm43 cd43 ct43 : Value} {f44 : Addr} {od44 an44 : Option Addr} {sl44 : Array (Option Value)} {oc44 kV44 dc44 pm44 cd44 ct44 : Value} {f45 : Addr} {od45 an45 : Option Addr} {sl45 : Array (Option Value)} {oc45 kV45 dc45 pm45 cd45 ct45 : Value} {p45 : Addr} {rc45 : List Value} {f46 : Addr} {od46 an46 : Option Addr} {sl46 : Array (Option Value)} {oc46 kV46 dc46 pm46 cd46 ct46 : Value} {p46 : Addr} {rc46 : List Value} {f47 : Addr} {od47 an47 : Option Addr} {sl47 : Array (Option Value)} {oc47 kV47 dc47 pm47 cd47 ct47 : Value} {f48 : Addr} {od48 an48 : Option Addr} {sl48 : Array (Option Value)} {oc48 kV48 dc48 pm48 cd48 ct48 : Value} {f49 : Addr} {od49 an49 : Option Addr} {sl49 : Array (Option Value)} {oc49 kV49 dc49 pm49 cd49 ct49 : Value} {f50 : Addr} {od50 an50 : Option Addr} {sl50 : Array (Option Value)} {oc50 kV50 dc50 pm50 cd50 ct50 : Value} {f51 : Addr} {od51 an51 : Option Addr} {sl51 : Array (Option Value)} {oc51 kV51 dc51 pm51 cd51 ct51 : Value} {f52 : Addr} {od52 an52 : Option Addr} {sl52 : Array (Option Value)} {oc52 kV52 dc52 pm52 cd52 ct52 : Value} {f53 : Addr} {od53 an53 : Option Addr} {sl53 : Array (Option Value)} {oc53 kV53 dc53 pm53 cd53 ct53 : Value} {f54 : Addr} {od54 an54 : Option Addr} {sl54 : Array (Option Value)} {oc54 kV54 dc54 pm54 cd54 ct54 : Value} {f55 : Addr} {od55 an55 : Option Addr} {sl55 : Array (Option Value)} {oc55 kV55 dc55 pm55 cd55 ct55 : Value} {aSame : Addr} {oSame : Option Addr} {nSame : Nat} {sSame : Array (Option Value)} {tS0 tS1 tS2 tS3 : Tok} (X : K.In h) (G : h.Ns mainGlobals mg) (hfa : mg "law" = some (.ref fa))
    (aU : PySem.W.nsIn K mainGlobals "UnmarkedError" = some (some (.ref cUnmarkedError)))
    (rdU : PySem.W.readsIn K cUnmarkedError (.type "type") = true)
    (gaU : PySem.W.specialIn K (.ref cUnmarkedError) "__getattribute__" = some (some (.builtin "type.__getattribute__")))
    (inU : PySem.W.findCls K (.ref cUnmarkedError) (.type "type") "__init__" = some (.val (.builtin "ValueError.__init__")))
    (aInvalidWord : PySem.W.nsIn K mainGlobals "InvalidWord" = some (some (.ref cInvalidWord)))
    (xInvalidWord : K.lookup cInvalidWord = some (excClassObj nmInvalidWord qInvalidWord cInvalidWord NInvalidWord bsInvalidWord [.ref cUnmarkedError, .type "ValueError", .type "Exception", .type "BaseException", .type "object"] true snInvalidWord subInvalidWord abInvalidWord colInvalidWord ddInvalidWord m0InvalidWord m1InvalidWord m2InvalidWord m3InvalidWord m5InvalidWord "ValueError.__new__"))
    (sInvalidWord : PySem.W.findIn K (.ref cInvalidWord) "__setattr__" = some (some (.builtin "object.__setattr__")))
    (bInvalidWord : PySem.W.subIn K (.ref cInvalidWord) (.type "BaseException") = some true)
    (tInvalidWord : PySem.W.typeIn K (.ref cInvalidWord) = some (.type "type"))
    (kInvalidWord : PySem.W.keepIn K (.ref cInvalidWord) = true)
    (aInvalidRatio : PySem.W.nsIn K mainGlobals "InvalidRatio" = some (some (.ref cInvalidRatio)))
    (xInvalidRatio : K.lookup cInvalidRatio = some (excClassObj nmInvalidRatio qInvalidRatio cInvalidRatio NInvalidRatio bsInvalidRatio [.ref cUnmarkedError, .type "ValueError", .type "Exception", .type "BaseException", .type "object"] true snInvalidRatio subInvalidRatio abInvalidRatio colInvalidRatio ddInvalidRatio m0InvalidRatio m1InvalidRatio m2InvalidRatio m3InvalidRatio m5InvalidRatio "ValueError.__new__"))
    (sInvalidRatio : PySem.W.findIn K (.ref cInvalidRatio) "__setattr__" = some (some (.builtin "object.__setattr__")))
    (bInvalidRatio : PySem.W.subIn K (.ref cInvalidRatio) (.type "BaseException") = some true)
    (tInvalidRatio : PySem.W.typeIn K (.ref cInvalidRatio) = some (.type "type"))
    (kInvalidRatio : PySem.W.keepIn K (.ref cInvalidRatio) = true)
    (aInvalidChange : PySem.W.nsIn K mainGlobals "InvalidChange" = some (some (.ref cInvalidChange)))
    (xInvalidChange : K.lookup cInvalidChange = some (excClassObj nmInvalidChange qInvalidChange cInvalidChange NInvalidChange bsInvalidChange [.ref cUnmarkedError, .type "ValueError", .type "Exception", .type "BaseException", .type "object"] true snInvalidChange subInvalidChange abInvalidChange colInvalidChange ddInvalidChange m0InvalidChange m1InvalidChange m2InvalidChange m3InvalidChange m5InvalidChange "ValueError.__new__"))
    (sInvalidChange : PySem.W.findIn K (.ref cInvalidChange) "__setattr__" = some (some (.builtin "object.__setattr__")))
    (bInvalidChange : PySem.W.subIn K (.ref cInvalidChange) (.type "BaseException") = some true)
    (tInvalidChange : PySem.W.typeIn K (.ref cInvalidChange) = some (.type "type"))
    (kInvalidChange : PySem.W.keepIn K (.ref cInvalidChange) = true)
    (aInvalidEdge : PySem.W.nsIn K mainGlobals "InvalidEdge" = some (some (.ref cInvalidEdge)))
    (xInvalidEdge : K.lookup cInvalidEdge = some (excClassObj nmInvalidEdge qInvalidEdge cInvalidEdge NInvalidEdge bsInvalidEdge [.ref cUnmarkedError, .type "ValueError", .type "Exception", .type "BaseException", .type "object"] true snInvalidEdge subInvalidEdge abInvalidEdge colInvalidEdge ddInvalidEdge m0InvalidEdge m1InvalidEdge m2InvalidEdge m3InvalidEdge m5InvalidEdge "ValueError.__new__"))
    (sInvalidEdge : PySem.W.findIn K (.ref cInvalidEdge) "__setattr__" = some (some (.builtin "object.__setattr__")))
    (bInvalidEdge : PySem.W.subIn K (.ref cInvalidEdge) (.type "BaseException") = some true)
    (tInvalidEdge : PySem.W.typeIn K (.ref cInvalidEdge) = some (.type "type"))
    (kInvalidEdge : PySem.W.keepIn K (.ref cInvalidEdge) = true)
    (hdUnmarkedError : PySem.W.hasDictIn K cUnmarkedError = true)
    (bUnmarkedError : PySem.W.subIn K (.ref cUnmarkedError) (.type "BaseException") = some true)
    (tUnmarkedError : PySem.W.typeIn K (.ref cUnmarkedError) = some (.type "type"))
    (hdInvalidWord : PySem.W.hasDictIn K cInvalidWord = true)
    (hdInvalidRatio : PySem.W.hasDictIn K cInvalidRatio = true)
    (hdInvalidChange : PySem.W.hasDictIn K cInvalidChange = true)
    (hdInvalidEdge : PySem.W.hasDictIn K cInvalidEdge = true)
    (aC : PySem.W.nsIn K mainGlobals "Ratio" = some (some (.ref C)))
    (pgC : PySem.W.plainGet K C Str.empty = true)
    (hdC : PySem.W.hasDictIn K C = true)
    (poC : PySem.W.plainOver K C = true)
    (saC : PySem.W.findIn K (.ref C) "__setattr__" = some (some (.builtin "object.__setattr__")))
    (mkC : PySem.W.makesIn K C = true)
    (kcC : PySem.W.keepIn K (.ref C) = true)
    (haC : PySem.W.findIn K (.ref C) "__class__" = some (some (.builtin "object.__class__")))
    (hnC : PySem.W.specialIn K (.builtin "object.__class__") "__get__" = some (some (.builtin "getset_descriptor.__get__")))
    (htC : PySem.W.takesIn K (.builtin "object.__class__") = some true)
    (hmC : PySem.W.mroIn K C (.type "object") = some true)
    (n1 : PySem.W.findIn K (.ref C) "first" = some none)
    (n2 : PySem.W.findIn K (.ref C) "second" = some none)
    (nf : PySem.W.notFirst K C (.ref C) = true)
    (ne : PySem.W.findIn K (.ref C) "__ne__" = some (some (.builtin "object.__ne__")))
    (so : PySem.W.subIn K (.ref C) (.type "object") = some true)
    (aCC : PySem.W.nsIn K mainGlobals "Change" = some (some (.ref CC)))
    (pgCC : PySem.W.plainGet K CC Str.empty = true)
    (hdCC : PySem.W.hasDictIn K CC = true)
    (poCC : PySem.W.plainOver K CC = true)
    (saCC : PySem.W.findIn K (.ref CC) "__setattr__" = some (some (.builtin "object.__setattr__")))
    (mkCC : PySem.W.makesIn K CC = true)
    (kcCC : PySem.W.keepIn K (.ref CC) = true)
    (haCC : PySem.W.findIn K (.ref CC) "__class__" = some (some (.builtin "object.__class__")))
    (hnCC : PySem.W.specialIn K (.builtin "object.__class__") "__get__" = some (some (.builtin "getset_descriptor.__get__")))
    (htCC : PySem.W.takesIn K (.builtin "object.__class__") = some true)
    (hmCC : PySem.W.mroIn K CC (.type "object") = some true)
    (rdcCC : PySem.W.readsIn K CC (.type "type") = true)
    (gacCC : PySem.W.specialIn K (.ref CC) "__getattribute__" = some (some (.builtin "type.__getattribute__")))
    (cn1 : PySem.W.findIn K (.ref CC) "numbers" = some none)
    (cn2 : PySem.W.findIn K (.ref CC) "turn" = some none)
    (cnf : PySem.W.notFirst K CC (.ref CC) = true)
    (cne : PySem.W.findIn K (.ref CC) "__ne__" = some (some (.builtin "object.__ne__")))
    (cso : PySem.W.subIn K (.ref CC) (.type "object") = some true)
    (ctt : PySem.W.typeIn K (.ref CC) = some (.type "type"))
    (aCE : PySem.W.nsIn K mainGlobals "Edge" = some (some (.ref CE)))
    (pgCE : PySem.W.plainGet K CE Str.empty = true)
    (hdCE : PySem.W.hasDictIn K CE = true)
    (poCE : PySem.W.plainOver K CE = true)
    (saCE : PySem.W.findIn K (.ref CE) "__setattr__" = some (some (.builtin "object.__setattr__")))
    (mkCE : PySem.W.makesIn K CE = true)
    (kcCE : PySem.W.keepIn K (.ref CE) = true)
    (haCE : PySem.W.findIn K (.ref CE) "__class__" = some (some (.builtin "object.__class__")))
    (hnCE : PySem.W.specialIn K (.builtin "object.__class__") "__get__" = some (some (.builtin "getset_descriptor.__get__")))
    (htCE : PySem.W.takesIn K (.builtin "object.__class__") = some true)
    (hmCE : PySem.W.mroIn K CE (.type "object") = some true)
    (rdcCE : PySem.W.readsIn K CE (.type "type") = true)
    (gacCE : PySem.W.specialIn K (.ref CE) "__getattribute__" = some (some (.builtin "type.__getattribute__")))
    (en1 : PySem.W.findIn K (.ref CE) "place" = some none)
    (en2 : PySem.W.findIn K (.ref CE) "numbers" = some none)
    (enf : PySem.W.notFirst K CE (.ref CE) = true)
    (ene : PySem.W.findIn K (.ref CE) "__ne__" = some (some (.builtin "object.__ne__")))
    (eso : PySem.W.subIn K (.ref CE) (.type "object") = some true)
    (a1 : PySem.W.nsIn K mainGlobals "_law_take" = some (some (.ref f1)))
    (l1 : K.lookup f1 = some ⟨oc1, od1, .func (PySem.W.fnOf "_law_take" "_law_take" (defArgs S__law_take) (defBody S__law_take) (defScope S__law_take) .none kV1 dc1 pm1 an1 cd1 ct1), sl1⟩)
    (c1 : PySem.W.codeIn K cd1 "_law_take" = true)
    (k1 : PySem.W.keepIn K (.ref f1) = true)
    (a2 : PySem.W.nsIn K mainGlobals "_law_box" = some (some (.ref f2)))
    (l2 : K.lookup f2 = some ⟨oc2, od2, .func (PySem.W.fnOf "_law_box" "_law_box" (defArgs S__law_box) (defBody S__law_box) (defScope S__law_box) .none kV2 dc2 pm2 an2 cd2 ct2), sl2⟩)
    (c2 : PySem.W.codeIn K cd2 "_law_box" = true)
    (k2 : PySem.W.keepIn K (.ref f2) = true)
    (a3 : PySem.W.nsIn K mainGlobals "is_integer" = some (some (.ref f3)))
    (l3 : K.lookup f3 = some ⟨oc3, od3, .func (PySem.W.fnOf "is_integer" "is_integer" (defArgs S_is_integer) (defBody S_is_integer) (defScope S_is_integer) .none kV3 dc3 pm3 an3 cd3 ct3), sl3⟩)
    (c3 : PySem.W.codeIn K cd3 "is_integer" = true)
    (k3 : PySem.W.keepIn K (.ref f3) = true)
    (a4 : PySem.W.nsIn K mainGlobals "is_length" = some (some (.ref f4)))
    (l4 : K.lookup f4 = some ⟨oc4, od4, .func (PySem.W.fnOf "is_length" "is_length" (defArgs S_is_length) (defBody S_is_length) (defScope S_is_length) .none kV4 dc4 pm4 an4 cd4 ct4), sl4⟩)
    (c4 : PySem.W.codeIn K cd4 "is_length" = true)
    (k4 : PySem.W.keepIn K (.ref f4) = true)
    (a5 : PySem.W.nsIn K mainGlobals "common_length" = some (some (.ref f5)))
    (l5 : K.lookup f5 = some ⟨oc5, od5, .func (PySem.W.fnOf "common_length" "common_length" (defArgs S_common_length) (defBody S_common_length) (defScope S_common_length) .none kV5 dc5 pm5 an5 cd5 ct5), sl5⟩)
    (c5 : PySem.W.codeIn K cd5 "common_length" = true)
    (k5 : PySem.W.keepIn K (.ref f5) = true)
    (a6 : PySem.W.findIn K (.ref cInvalidWord) "__init__" = some (some (.ref f6)))
    (i6 : PySem.W.typeIn K (.ref f6) = some (.type "function"))
    (l6 : K.lookup f6 = some ⟨oc6, od6, .func (PySem.W.fnOf "__init__" "InvalidWord.__init__" (defArgs S_InvalidWord__init_) (defBody S_InvalidWord__init_) (defScope S_InvalidWord__init_) .none kV6 dc6 pm6 an6 cd6 ct6), sl6⟩)
    (c6 : PySem.W.codeIn K cd6 "InvalidWord.__init__" = true)
    (k6 : PySem.W.keepIn K (.ref f6) = true)
    (a7 : PySem.W.findIn K (.ref cInvalidRatio) "__init__" = some (some (.ref f7)))
    (i7 : PySem.W.typeIn K (.ref f7) = some (.type "function"))
    (l7 : K.lookup f7 = some ⟨oc7, od7, .func (PySem.W.fnOf "__init__" "InvalidRatio.__init__" (defArgs S_InvalidRatio__init_) (defBody S_InvalidRatio__init_) (defScope S_InvalidRatio__init_) .none kV7 dc7 pm7 an7 cd7 ct7), sl7⟩)
    (c7 : PySem.W.codeIn K cd7 "InvalidRatio.__init__" = true)
    (k7 : PySem.W.keepIn K (.ref f7) = true)
    (a8 : PySem.W.findIn K (.ref cInvalidChange) "__init__" = some (some (.ref f8)))
    (i8 : PySem.W.typeIn K (.ref f8) = some (.type "function"))
    (l8 : K.lookup f8 = some ⟨oc8, od8, .func (PySem.W.fnOf "__init__" "InvalidChange.__init__" (defArgs S_InvalidChange__init_) (defBody S_InvalidChange__init_) (defScope S_InvalidChange__init_) .none kV8 dc8 pm8 an8 cd8 ct8), sl8⟩)
    (c8 : PySem.W.codeIn K cd8 "InvalidChange.__init__" = true)
    (k8 : PySem.W.keepIn K (.ref f8) = true)
    (a9 : PySem.W.findIn K (.ref cInvalidEdge) "__init__" = some (some (.ref f9)))
    (i9 : PySem.W.typeIn K (.ref f9) = some (.type "function"))
    (l9 : K.lookup f9 = some ⟨oc9, od9, .func (PySem.W.fnOf "__init__" "InvalidEdge.__init__" (defArgs S_InvalidEdge__init_) (defBody S_InvalidEdge__init_) (defScope S_InvalidEdge__init_) .none kV9 dc9 pm9 an9 cd9 ct9), sl9⟩)
    (c9 : PySem.W.codeIn K cd9 "InvalidEdge.__init__" = true)
    (k9 : PySem.W.keepIn K (.ref f9) = true)
    (a10 : PySem.W.findIn K (.ref C) "__init__" = some (some (.ref f10)))
    (i10 : PySem.W.isFn K (.ref f10) = true)
    (l10 : K.lookup f10 = some ⟨oc10, od10, .func (PySem.W.fnOf "__init__" "Ratio.__init__" (defArgs S_Ratio__init_) (defBody S_Ratio__init_) (defScope S_Ratio__init_) .none kV10 dc10 pm10 an10 cd10 ct10), sl10⟩)
    (c10 : PySem.W.codeIn K cd10 "Ratio.__init__" = true)
    (k10 : PySem.W.keepIn K (.ref f10) = true)
    (a11 : PySem.W.nsIn K mainGlobals "need_word" = some (some (.ref f11)))
    (l11 : K.lookup f11 = some ⟨oc11, od11, .func (PySem.W.fnOf "need_word" "need_word" (defArgs S_need_word) (defBody S_need_word) (defScope S_need_word) .none kV11 dc11 pm11 an11 cd11 ct11), sl11⟩)
    (c11 : PySem.W.codeIn K cd11 "need_word" = true)
    (k11 : PySem.W.keepIn K (.ref f11) = true)
    (a12 : PySem.W.nsIn K mainGlobals "word_of_lengths" = some (some (.ref f12)))
    (l12 : K.lookup f12 = some ⟨oc12, od12, .func (PySem.W.fnOf "word_of_lengths" "word_of_lengths" (defArgs S_word_of_lengths) (defBody S_word_of_lengths) (defScope S_word_of_lengths) .none kV12 dc12 pm12 an12 cd12 ct12), sl12⟩)
    (c12 : PySem.W.codeIn K cd12 "word_of_lengths" = true)
    (k12 : PySem.W.keepIn K (.ref f12) = true)
    (a13 : PySem.W.findIn K (.ref C) "word" = some (some (.ref p13)))
    (g13 : PySem.W.specialIn K (.ref p13) "__get__" = some (some (.builtin "property.__get__")))
    (h13 : PySem.W.takesIn K (.ref p13) = some true)
    (r13 : PySem.W.recIn K p13 "property" = some (.ref f13 :: rc13))
    (l13 : K.lookup f13 = some ⟨oc13, od13, .func (PySem.W.fnOf "word" "Ratio.word" (defArgs S_Ratio_word) (defBody S_Ratio_word) (defScope S_Ratio_word) .none kV13 dc13 pm13 an13 cd13 ct13), sl13⟩)
    (c13 : PySem.W.codeIn K cd13 "Ratio.word" = true)
    (k13 : PySem.W.keepIn K (.ref f13) = true)
    (a14 : PySem.W.nsIn K mainGlobals "lengths_made" = some (some (.ref f14)))
    (l14 : K.lookup f14 = some ⟨oc14, od14, .func (PySem.W.fnOf "lengths_made" "lengths_made" (defArgs S_lengths_made) (defBody S_lengths_made) (defScope S_lengths_made) .none kV14 dc14 pm14 an14 cd14 ct14), sl14⟩)
    (c14 : PySem.W.codeIn K cd14 "lengths_made" = true)
    (k14 : PySem.W.keepIn K (.ref f14) = true)
    (a15 : PySem.W.findIn K (.ref CC) "__init__" = some (some (.ref f15)))
    (i15 : PySem.W.isFn K (.ref f15) = true)
    (l15 : K.lookup f15 = some ⟨oc15, od15, .func (PySem.W.fnOf "__init__" "Change.__init__" (defArgs S_Change__init_) (defBody S_Change__init_) (defScope S_Change__init_) .none kV15 dc15 pm15 an15 cd15 ct15), sl15⟩)
    (c15 : PySem.W.codeIn K cd15 "Change.__init__" = true)
    (k15 : PySem.W.keepIn K (.ref f15) = true)
    (a16 : PySem.W.nsIn K mainGlobals "numbers_joined" = some (some (.ref f16)))
    (l16 : K.lookup f16 = some ⟨oc16, od16, .func (PySem.W.fnOf "numbers_joined" "numbers_joined" (defArgs S_numbers_joined) (defBody S_numbers_joined) (defScope S_numbers_joined) .none kV16 dc16 pm16 an16 cd16 ct16), sl16⟩)
    (c16 : PySem.W.codeIn K cd16 "numbers_joined" = true)
    (k16 : PySem.W.keepIn K (.ref f16) = true)
    (a17 : PySem.W.nsIn K mainGlobals "numbers_behind" = some (some (.ref f17)))
    (l17 : K.lookup f17 = some ⟨oc17, od17, .func (PySem.W.fnOf "numbers_behind" "numbers_behind" (defArgs S_numbers_behind) (defBody S_numbers_behind) (defScope S_numbers_behind) .none kV17 dc17 pm17 an17 cd17 ct17), sl17⟩)
    (c17 : PySem.W.codeIn K cd17 "numbers_behind" = true)
    (k17 : PySem.W.keepIn K (.ref f17) = true)
    (a18 : PySem.W.nsIn K mainGlobals "numbers_of_word" = some (some (.ref f18)))
    (l18 : K.lookup f18 = some ⟨oc18, od18, .func (PySem.W.fnOf "numbers_of_word" "numbers_of_word" (defArgs S_numbers_of_word) (defBody S_numbers_of_word) (defScope S_numbers_of_word) .none kV18 dc18 pm18 an18 cd18 ct18), sl18⟩)
    (c18 : PySem.W.codeIn K cd18 "numbers_of_word" = true)
    (k18 : PySem.W.keepIn K (.ref f18) = true)
    (a19 : PySem.W.findCls K (.ref CC) (.type "type") "of_word" = some (.get (.builtin "classmethod.__get__") (.ref p19) .none (.ref CC)))
    (r19 : PySem.W.recIn K p19 "classmethod" = some (.ref f19 :: rc19))
    (i19 : PySem.W.fnIn K f19 = true)
    (l19 : K.lookup f19 = some ⟨oc19, od19, .func (PySem.W.fnOf "of_word" "Change.of_word" (defArgs S_Change_of_word) (defBody S_Change_of_word) (defScope S_Change_of_word) .none kV19 dc19 pm19 an19 cd19 ct19), sl19⟩)
    (c19 : PySem.W.codeIn K cd19 "Change.of_word" = true)
    (k19 : PySem.W.keepIn K (.ref f19) = true)
    (a20 : PySem.W.findIn K (.ref CC) "__mul__" = some (some (.ref f20)))
    (i20 : PySem.W.isFn K (.ref f20) = true)
    (l20 : K.lookup f20 = some ⟨oc20, od20, .func (PySem.W.fnOf "__mul__" "Change.__mul__" (defArgs S_Change__mul_) (defBody S_Change__mul_) (defScope S_Change__mul_) .none kV20 dc20 pm20 an20 cd20 ct20), sl20⟩)
    (c20 : PySem.W.codeIn K cd20 "Change.__mul__" = true)
    (k20 : PySem.W.keepIn K (.ref f20) = true)
    (a21 : PySem.W.nsIn K mainGlobals "common" = some (some (.ref f21)))
    (l21 : K.lookup f21 = some ⟨oc21, od21, .func (PySem.W.fnOf "common" "common" (defArgs S_common) (defBody S_common) (defScope S_common) .none kV21 dc21 pm21 an21 cd21 ct21), sl21⟩)
    (c21 : PySem.W.codeIn K cd21 "common" = true)
    (k21 : PySem.W.keepIn K (.ref f21) = true)
    (a22 : PySem.W.nsIn K mainGlobals "sign_of" = some (some (.ref f22)))
    (l22 : K.lookup f22 = some ⟨oc22, od22, .func (PySem.W.fnOf "sign_of" "sign_of" (defArgs S_sign_of) (defBody S_sign_of) (defScope S_sign_of) .none kV22 dc22 pm22 an22 cd22 ct22), sl22⟩)
    (c22 : PySem.W.codeIn K cd22 "sign_of" = true)
    (k22 : PySem.W.keepIn K (.ref f22) = true)
    (a23 : PySem.W.nsIn K mainGlobals "whole_root" = some (some (.ref f23)))
    (l23 : K.lookup f23 = some ⟨oc23, od23, .func (PySem.W.fnOf "whole_root" "whole_root" (defArgs S_whole_root) (defBody S_whole_root) (defScope S_whole_root) .none kV23 dc23 pm23 an23 cd23 ct23), sl23⟩)
    (c23 : PySem.W.codeIn K cd23 "whole_root" = true)
    (k23 : PySem.W.keepIn K (.ref f23) = true)
    (a24 : PySem.W.nsIn K mainGlobals "sign_with_root" = some (some (.ref f24)))
    (l24 : K.lookup f24 = some ⟨oc24, od24, .func (PySem.W.fnOf "sign_with_root" "sign_with_root" (defArgs S_sign_with_root) (defBody S_sign_with_root) (defScope S_sign_with_root) .none kV24 dc24 pm24 an24 cd24 ct24), sl24⟩)
    (c24 : PySem.W.codeIn K cd24 "sign_with_root" = true)
    (k24 : PySem.W.keepIn K (.ref f24) = true)
    (a25 : PySem.W.nsIn K mainGlobals "lowered" = some (some (.ref f25)))
    (l25 : K.lookup f25 = some ⟨oc25, od25, .func (PySem.W.fnOf "lowered" "lowered" (defArgs S_lowered) (defBody S_lowered) (defScope S_lowered) .none kV25 dc25 pm25 an25 cd25 ct25), sl25⟩)
    (c25 : PySem.W.codeIn K cd25 "lowered" = true)
    (k25 : PySem.W.keepIn K (.ref f25) = true)
    (a26 : PySem.W.nsIn K mainGlobals "inner_of" = some (some (.ref f26)))
    (l26 : K.lookup f26 = some ⟨oc26, od26, .func (PySem.W.fnOf "inner_of" "inner_of" (defArgs S_inner_of) (defBody S_inner_of) (defScope S_inner_of) .none kV26 dc26 pm26 an26 cd26 ct26), sl26⟩)
    (c26 : PySem.W.codeIn K cd26 "inner_of" = true)
    (k26 : PySem.W.keepIn K (.ref f26) = true)
    (a27 : PySem.W.findIn K (.ref CE) "__init__" = some (some (.ref f27)))
    (i27 : PySem.W.isFn K (.ref f27) = true)
    (l27 : K.lookup f27 = some ⟨oc27, od27, .func (PySem.W.fnOf "__init__" "Edge.__init__" (defArgs S_Edge__init_) (defBody S_Edge__init_) (defScope S_Edge__init_) .none kV27 dc27 pm27 an27 cd27 ct27), sl27⟩)
    (c27 : PySem.W.codeIn K cd27 "Edge.__init__" = true)
    (k27 : PySem.W.keepIn K (.ref f27) = true)
    (a28 : PySem.W.findCls K (.ref CE) (.type "type") "of" = some (.get (.builtin "classmethod.__get__") (.ref p28) .none (.ref CE)))
    (r28 : PySem.W.recIn K p28 "classmethod" = some (.ref f28 :: rc28))
    (i28 : PySem.W.fnIn K f28 = true)
    (l28 : K.lookup f28 = some ⟨oc28, od28, .func (PySem.W.fnOf "of" "Edge.of" (defArgs S_Edge_of) (defBody S_Edge_of) (defScope S_Edge_of) .none kV28 dc28 pm28 an28 cd28 ct28), sl28⟩)
    (c28 : PySem.W.codeIn K cd28 "Edge.of" = true)
    (k28 : PySem.W.keepIn K (.ref f28) = true)
    (a29 : PySem.W.findCls K (.ref CE) (.type "type") "zero" = some (.get (.builtin "classmethod.__get__") (.ref p29) .none (.ref CE)))
    (r29 : PySem.W.recIn K p29 "classmethod" = some (.ref f29 :: rc29))
    (i29 : PySem.W.fnIn K f29 = true)
    (l29 : K.lookup f29 = some ⟨oc29, od29, .func (PySem.W.fnOf "zero" "Edge.zero" (defArgs S_Edge_zero) (defBody S_Edge_zero) (defScope S_Edge_zero) .none kV29 dc29 pm29 an29 cd29 ct29), sl29⟩)
    (c29 : PySem.W.codeIn K cd29 "Edge.zero" = true)
    (k29 : PySem.W.keepIn K (.ref f29) = true)
    (a30 : PySem.W.findCls K (.ref CE) (.type "type") "endless" = some (.get (.builtin "classmethod.__get__") (.ref p30) .none (.ref CE)))
    (r30 : PySem.W.recIn K p30 "classmethod" = some (.ref f30 :: rc30))
    (i30 : PySem.W.fnIn K f30 = true)
    (l30 : K.lookup f30 = some ⟨oc30, od30, .func (PySem.W.fnOf "endless" "Edge.endless" (defArgs S_Edge_endless) (defBody S_Edge_endless) (defScope S_Edge_endless) .none kV30 dc30 pm30 an30 cd30 ct30), sl30⟩)
    (c30 : PySem.W.codeIn K cd30 "Edge.endless" = true)
    (k30 : PySem.W.keepIn K (.ref f30) = true)
    (a31 : PySem.W.findIn K (.ref CE) "__eq__" = some (some (.ref f31)))
    (i31 : PySem.W.isFn K (.ref f31) = true)
    (l31 : K.lookup f31 = some ⟨oc31, od31, .func (PySem.W.fnOf "__eq__" "Edge.__eq__" (defArgs S_Edge__eq_) (defBody S_Edge__eq_) (defScope S_Edge__eq_) .none kV31 dc31 pm31 an31 cd31 ct31), sl31⟩)
    (c31 : PySem.W.codeIn K cd31 "Edge.__eq__" = true)
    (k31 : PySem.W.keepIn K (.ref f31) = true)
    (a32 : PySem.W.findCls K (.ref CE) (.type "type") "root" = some (.get (.builtin "classmethod.__get__") (.ref p32) .none (.ref CE)))
    (r32 : PySem.W.recIn K p32 "classmethod" = some (.ref f32 :: rc32))
    (i32 : PySem.W.fnIn K f32 = true)
    (l32 : K.lookup f32 = some ⟨oc32, od32, .func (PySem.W.fnOf "root" "Edge.root" (defArgs S_Edge_root) (defBody S_Edge_root) (defScope S_Edge_root) .none kV32 dc32 pm32 an32 cd32 ct32), sl32⟩)
    (c32 : PySem.W.codeIn K cd32 "Edge.root" = true)
    (k32 : PySem.W.keepIn K (.ref f32) = true)
    (a33 : PySem.W.nsIn K mainGlobals "changed" = some (some (.ref f33)))
    (l33 : K.lookup f33 = some ⟨oc33, od33, .func (PySem.W.fnOf "changed" "changed" (defArgs S_changed) (defBody S_changed) (defScope S_changed) .none kV33 dc33 pm33 an33 cd33 ct33), sl33⟩)
    (c33 : PySem.W.codeIn K cd33 "changed" = true)
    (k33 : PySem.W.keepIn K (.ref f33) = true)
    (a34 : PySem.W.nsIn K mainGlobals "place_behind" = some (some (.ref f34)))
    (l34 : K.lookup f34 = some ⟨oc34, od34, .func (PySem.W.fnOf "place_behind" "place_behind" (defArgs S_place_behind) (defBody S_place_behind) (defScope S_place_behind) .none kV34 dc34 pm34 an34 cd34 ct34), sl34⟩)
    (c34 : PySem.W.codeIn K cd34 "place_behind" = true)
    (k34 : PySem.W.keepIn K (.ref f34) = true)
    (a35 : PySem.W.findIn K (.ref CE) "turned" = some (some (.ref p35)))
    (g35 : PySem.W.specialIn K (.ref p35) "__get__" = some (some (.builtin "property.__get__")))
    (h35 : PySem.W.takesIn K (.ref p35) = some true)
    (r35 : PySem.W.recIn K p35 "property" = some (.ref f35 :: rc35))
    (l35 : K.lookup f35 = some ⟨oc35, od35, .func (PySem.W.fnOf "turned" "Edge.turned" (defArgs S_Edge_turned) (defBody S_Edge_turned) (defScope S_Edge_turned) .none kV35 dc35 pm35 an35 cd35 ct35), sl35⟩)
    (c35 : PySem.W.codeIn K cd35 "Edge.turned" = true)
    (k35 : PySem.W.keepIn K (.ref f35) = true)
    (a36 : PySem.W.findIn K (.ref CE) "__rmul__" = some (some (.ref f36)))
    (i36 : PySem.W.isFn K (.ref f36) = true)
    (l36 : K.lookup f36 = some ⟨oc36, od36, .func (PySem.W.fnOf "__rmul__" "Edge.__rmul__" (defArgs S_Edge__rmul_) (defBody S_Edge__rmul_) (defScope S_Edge__rmul_) .none kV36 dc36 pm36 an36 cd36 ct36), sl36⟩)
    (c36 : PySem.W.codeIn K cd36 "Edge.__rmul__" = true)
    (k36 : PySem.W.keepIn K (.ref f36) = true)
    (a37 : PySem.W.nsIn K mainGlobals "sign_with_roots" = some (some (.ref f37)))
    (l37 : K.lookup f37 = some ⟨oc37, od37, .func (PySem.W.fnOf "sign_with_roots" "sign_with_roots" (defArgs S_sign_with_roots) (defBody S_sign_with_roots) (defScope S_sign_with_roots) .none kV37 dc37 pm37 an37 cd37 ct37), sl37⟩)
    (c37 : PySem.W.codeIn K cd37 "sign_with_roots" = true)
    (k37 : PySem.W.keepIn K (.ref f37) = true)
    (a38 : PySem.W.nsIn K mainGlobals "compared" = some (some (.ref f38)))
    (l38 : K.lookup f38 = some ⟨oc38, od38, .func (PySem.W.fnOf "compared" "compared" (defArgs S_compared) (defBody S_compared) (defScope S_compared) .none kV38 dc38 pm38 an38 cd38 ct38), sl38⟩)
    (c38 : PySem.W.codeIn K cd38 "compared" = true)
    (k38 : PySem.W.keepIn K (.ref f38) = true)
    (a39 : PySem.W.findIn K (.ref CE) "__lt__" = some (some (.ref f39)))
    (i39 : PySem.W.isFn K (.ref f39) = true)
    (l39 : K.lookup f39 = some ⟨oc39, od39, .func (PySem.W.fnOf "__lt__" "Edge.__lt__" (defArgs S_Edge__lt_) (defBody S_Edge__lt_) (defScope S_Edge__lt_) .none kV39 dc39 pm39 an39 cd39 ct39), sl39⟩)
    (c39 : PySem.W.codeIn K cd39 "Edge.__lt__" = true)
    (k39 : PySem.W.keepIn K (.ref f39) = true)
    (a40 : PySem.W.findIn K (.ref CE) "__le__" = some (some (.ref f40)))
    (i40 : PySem.W.isFn K (.ref f40) = true)
    (l40 : K.lookup f40 = some ⟨oc40, od40, .func (PySem.W.fnOf "__le__" "Edge.__le__" (defArgs S_Edge__le_) (defBody S_Edge__le_) (defScope S_Edge__le_) .none kV40 dc40 pm40 an40 cd40 ct40), sl40⟩)
    (c40 : PySem.W.codeIn K cd40 "Edge.__le__" = true)
    (k40 : PySem.W.keepIn K (.ref f40) = true)
    (a41 : PySem.W.findIn K (.ref CE) "__gt__" = some (some (.ref f41)))
    (i41 : PySem.W.isFn K (.ref f41) = true)
    (l41 : K.lookup f41 = some ⟨oc41, od41, .func (PySem.W.fnOf "__gt__" "Edge.__gt__" (defArgs S_Edge__gt_) (defBody S_Edge__gt_) (defScope S_Edge__gt_) .none kV41 dc41 pm41 an41 cd41 ct41), sl41⟩)
    (c41 : PySem.W.codeIn K cd41 "Edge.__gt__" = true)
    (k41 : PySem.W.keepIn K (.ref f41) = true)
    (a42 : PySem.W.nsIn K mainGlobals "step" = some (some (.ref f42)))
    (l42 : K.lookup f42 = some ⟨oc42, od42, .func (PySem.W.fnOf "step" "step" (defArgs S_step) (defBody S_step) (defScope S_step) .none kV42 dc42 pm42 an42 cd42 ct42), sl42⟩)
    (c42 : PySem.W.codeIn K cd42 "step" = true)
    (k42 : PySem.W.keepIn K (.ref f42) = true)
    (a43 : PySem.W.nsIn K mainGlobals "first_letters" = some (some (.ref f43)))
    (l43 : K.lookup f43 = some ⟨oc43, od43, .func (PySem.W.fnOf "first_letters" "first_letters" (defArgs S_first_letters) (defBody S_first_letters) (defScope S_first_letters) .none kV43 dc43 pm43 an43 cd43 ct43), sl43⟩)
    (c43 : PySem.W.codeIn K cd43 "first_letters" = true)
    (k43 : PySem.W.keepIn K (.ref f43) = true)
    (a44 : PySem.W.nsIn K mainGlobals "fixed" = some (some (.ref f44)))
    (l44 : K.lookup f44 = some ⟨oc44, od44, .func (PySem.W.fnOf "fixed" "fixed" (defArgs S_fixed) (defBody S_fixed) (defScope S_fixed) .none kV44 dc44 pm44 an44 cd44 ct44), sl44⟩)
    (c44 : PySem.W.codeIn K cd44 "fixed" = true)
    (k44 : PySem.W.keepIn K (.ref f44) = true)
    (a45 : PySem.W.findIn K (.ref CE) "ratio" = some (some (.ref p45)))
    (g45 : PySem.W.specialIn K (.ref p45) "__get__" = some (some (.builtin "property.__get__")))
    (h45 : PySem.W.takesIn K (.ref p45) = some true)
    (r45 : PySem.W.recIn K p45 "property" = some (.ref f45 :: rc45))
    (l45 : K.lookup f45 = some ⟨oc45, od45, .func (PySem.W.fnOf "ratio" "Edge.ratio" (defArgs S_Edge_ratio) (defBody S_Edge_ratio) (defScope S_Edge_ratio) .none kV45 dc45 pm45 an45 cd45 ct45), sl45⟩)
    (c45 : PySem.W.codeIn K cd45 "Edge.ratio" = true)
    (k45 : PySem.W.keepIn K (.ref f45) = true)
    (a46 : PySem.W.findCls K (.ref CE) (.type "type") "of_parts" = some (.get (.builtin "classmethod.__get__") (.ref p46) .none (.ref CE)))
    (r46 : PySem.W.recIn K p46 "classmethod" = some (.ref f46 :: rc46))
    (i46 : PySem.W.fnIn K f46 = true)
    (l46 : K.lookup f46 = some ⟨oc46, od46, .func (PySem.W.fnOf "of_parts" "Edge.of_parts" (defArgs S_Edge_of_parts) (defBody S_Edge_of_parts) (defScope S_Edge_of_parts) .none kV46 dc46 pm46 an46 cd46 ct46), sl46⟩)
    (c46 : PySem.W.codeIn K cd46 "Edge.of_parts" = true)
    (k46 : PySem.W.keepIn K (.ref f46) = true)
    (a47 : PySem.W.findIn K (.ref CE) "letters" = some (some (.ref f47)))
    (i47 : PySem.W.isFn K (.ref f47) = true)
    (l47 : K.lookup f47 = some ⟨oc47, od47, .func (PySem.W.fnOf "letters" "Edge.letters" (defArgs S_Edge_letters) (defBody S_Edge_letters) (defScope S_Edge_letters) .none kV47 dc47 pm47 an47 cd47 ct47), sl47⟩)
    (c47 : PySem.W.codeIn K cd47 "Edge.letters" = true)
    (k47 : PySem.W.keepIn K (.ref f47) = true)
    (a48 : PySem.W.nsIn K mainGlobals "_law_sign" = some (some (.ref f48)))
    (l48 : K.lookup f48 = some ⟨oc48, od48, .func (PySem.W.fnOf "_law_sign" "_law_sign" (defArgs S__law_sign) (defBody S__law_sign) (defScope S__law_sign) .none kV48 dc48 pm48 an48 cd48 ct48), sl48⟩)
    (c48 : PySem.W.codeIn K cd48 "_law_sign" = true)
    (k48 : PySem.W.keepIn K (.ref f48) = true)
    (a49 : PySem.W.nsIn K mainGlobals "_law_sign_root" = some (some (.ref f49)))
    (l49 : K.lookup f49 = some ⟨oc49, od49, .func (PySem.W.fnOf "_law_sign_root" "_law_sign_root" (defArgs S__law_sign_root) (defBody S__law_sign_root) (defScope S__law_sign_root) .none kV49 dc49 pm49 an49 cd49 ct49), sl49⟩)
    (c49 : PySem.W.codeIn K cd49 "_law_sign_root" = true)
    (k49 : PySem.W.keepIn K (.ref f49) = true)
    (a50 : PySem.W.nsIn K mainGlobals "_law_root" = some (some (.ref f50)))
    (l50 : K.lookup f50 = some ⟨oc50, od50, .func (PySem.W.fnOf "_law_root" "_law_root" (defArgs S__law_root) (defBody S__law_root) (defScope S__law_root) .none kV50 dc50 pm50 an50 cd50 ct50), sl50⟩)
    (c50 : PySem.W.codeIn K cd50 "_law_root" = true)
    (k50 : PySem.W.keepIn K (.ref f50) = true)
    (a51 : PySem.W.nsIn K mainGlobals "_law_change" = some (some (.ref f51)))
    (l51 : K.lookup f51 = some ⟨oc51, od51, .func (PySem.W.fnOf "_law_change" "_law_change" (defArgs S__law_change) (defBody S__law_change) (defScope S__law_change) .none kV51 dc51 pm51 an51 cd51 ct51), sl51⟩)
    (c51 : PySem.W.codeIn K cd51 "_law_change" = true)
    (k51 : PySem.W.keepIn K (.ref f51) = true)
    (a52 : PySem.W.nsIn K mainGlobals "_law_edge" = some (some (.ref f52)))
    (l52 : K.lookup f52 = some ⟨oc52, od52, .func (PySem.W.fnOf "_law_edge" "_law_edge" (defArgs S__law_edge) (defBody S__law_edge) (defScope S__law_edge) .none kV52 dc52 pm52 an52 cd52 ct52), sl52⟩)
    (c52 : PySem.W.codeIn K cd52 "_law_edge" = true)
    (k52 : PySem.W.keepIn K (.ref f52) = true)
    (a53 : PySem.W.nsIn K mainGlobals "_law_order" = some (some (.ref f53)))
    (l53 : K.lookup f53 = some ⟨oc53, od53, .func (PySem.W.fnOf "_law_order" "_law_order" (defArgs S__law_order) (defBody S__law_order) (defScope S__law_order) .none kV53 dc53 pm53 an53 cd53 ct53), sl53⟩)
    (c53 : PySem.W.codeIn K cd53 "_law_order" = true)
    (k53 : PySem.W.keepIn K (.ref f53) = true)
    (a54 : PySem.W.nsIn K mainGlobals "_law_right" = some (some (.ref f54)))
    (l54 : K.lookup f54 = some ⟨oc54, od54, .func (PySem.W.fnOf "_law_right" "_law_right" (defArgs S__law_right) (defBody S__law_right) (defScope S__law_right) .none kV54 dc54 pm54 an54 cd54 ct54), sl54⟩)
    (c54 : PySem.W.codeIn K cd54 "_law_right" = true)
    (k54 : PySem.W.keepIn K (.ref f54) = true)
    (a55 : PySem.W.nsIn K mainGlobals "law" = some (some (.ref f55)))
    (l55 : K.lookup f55 = some ⟨oc55, od55, .func (PySem.W.fnOf "law" "law" (defArgs S_law) (defBody S_law) (defScope S_law) .none kV55 dc55 pm55 an55 cd55 ct55), sl55⟩)
    (c55 : PySem.W.codeIn K cd55 "law" = true)
    (k55 : PySem.W.keepIn K (.ref f55) = true)
    (z_NotImplemented : PySem.W.nsIn K mainGlobals "NotImplemented" = some none)
    (z_ValueError : PySem.W.nsIn K mainGlobals "ValueError" = some none)
    (z_abs : PySem.W.nsIn K mainGlobals "abs" = some none)
    (z_all : PySem.W.nsIn K mainGlobals "all" = some none)
    (z_any : PySem.W.nsIn K mainGlobals "any" = some none)
    (z_bool : PySem.W.nsIn K mainGlobals "bool" = some none)
    (z_enumerate : PySem.W.nsIn K mainGlobals "enumerate" = some none)
    (z_int : PySem.W.nsIn K mainGlobals "int" = some none)
    (z_isinstance : PySem.W.nsIn K mainGlobals "isinstance" = some none)
    (z_len : PySem.W.nsIn K mainGlobals "len" = some none)
    (z_list : PySem.W.nsIn K mainGlobals "list" = some none)
    (z_max : PySem.W.nsIn K mainGlobals "max" = some none)
    (z_min : PySem.W.nsIn K mainGlobals "min" = some none)
    (z_range : PySem.W.nsIn K mainGlobals "range" = some none)
    (z_repr : PySem.W.nsIn K mainGlobals "repr" = some none)
    (z_sorted : PySem.W.nsIn K mainGlobals "sorted" = some none)
    (z_str : PySem.W.nsIn K mainGlobals "str" = some none)
    (z_sum : PySem.W.nsIn K mainGlobals "sum" = some none)
    (z_tuple : PySem.W.nsIn K mainGlobals "tuple" = some none)
    (z_zip : PySem.W.nsIn K mainGlobals "zip" = some none)
    (see : PySem.W.subIn K (.ref CE) (.ref CE) = some true)
    (sec : PySem.W.subIn K (.ref CE) (.ref CC) = some false)
    (ser : PySem.W.subIn K (.ref CE) (.ref C) = some false)
    (rtt : PySem.W.typeIn K (.ref C) = some (.type "type"))
    (sfC : PySem.W.selfFirst K CC = true)
    (sfE : PySem.W.selfFirst K CE = true)
    (rmC : PySem.W.findIn K (.ref CC) "__rmul__" = some none)
    (muE : PySem.W.findIn K (.ref CE) "__mul__" = some none)
    (src : PySem.W.subIn K (.ref C) (.ref CC) = some false)
    (scc : PySem.W.subIn K (.ref C) (.ref C) = some true)
    (same0 : PySem.W.nsIn K mainGlobals "SAME" = some (some (.ref aSame)))
    (same1 : K.lookup aSame = some ⟨.type "tuple", oSame, .seq #[.int 1 tS0, .int 0 tS1, .int 0 tS2, .int 1 tS3] nSame, sSame⟩) :
    ∃ fd : FuncData, (∀ (s : Shared) (v : Value), BindsTo s fd ⟨[v], []⟩ [("_law_script", v)]) ∧ ∀ base : Heap, K.In base → base.Ns mainGlobals mg → FnOk l.prog w K mg base CX0 10 fa fd ["_law_script"] (sp_law K) := by
  have e := hfa.symm.trans (PySem.W.mg_of X G a55)
  cases e
  have T : Txt K mg := ⟨PySem.W.mg_none_of X G z_NotImplemented, PySem.W.mg_none_of X G z_ValueError, PySem.W.mg_none_of X G z_abs, PySem.W.mg_none_of X G z_all, PySem.W.mg_none_of X G z_any, PySem.W.mg_none_of X G z_bool, PySem.W.mg_none_of X G z_enumerate, PySem.W.mg_none_of X G z_int, PySem.W.mg_none_of X G z_isinstance, PySem.W.mg_none_of X G z_len, PySem.W.mg_none_of X G z_list, PySem.W.mg_none_of X G z_max, PySem.W.mg_none_of X G z_min, PySem.W.mg_none_of X G z_range, PySem.W.mg_none_of X G z_repr, PySem.W.mg_none_of X G z_sorted, PySem.W.mg_none_of X G z_str, PySem.W.mg_none_of X G z_sum, PySem.W.mg_none_of X G z_tuple, PySem.W.mg_none_of X G z_zip⟩
  have mgU := PySem.W.mg_of X G aU
  have UE : UeC K cUnmarkedError := ⟨⟨rdU, gaU⟩, inU⟩
  have N_UnmarkedError : NmC mg "UnmarkedError" cUnmarkedError := ⟨mgU⟩
  have N_InvalidWord : NmC mg "InvalidWord" cInvalidWord := ⟨PySem.W.mg_of X G aInvalidWord⟩
  have N_InvalidRatio : NmC mg "InvalidRatio" cInvalidRatio := ⟨PySem.W.mg_of X G aInvalidRatio⟩
  have N_InvalidChange : NmC mg "InvalidChange" cInvalidChange := ⟨PySem.W.mg_of X G aInvalidChange⟩
  have N_InvalidEdge : NmC mg "InvalidEdge" cInvalidEdge := ⟨PySem.W.mg_of X G aInvalidEdge⟩
  have O_InvalidWord : OexC K cInvalidWord := ⟨⟨_, _, _, _, _, _, _, _, _, _, _, _, _, _, _, xInvalidWord, by rfl⟩, sInvalidWord, bInvalidWord, tInvalidWord, kInvalidWord⟩
  have O_InvalidRatio : OexC K cInvalidRatio := ⟨⟨_, _, _, _, _, _, _, _, _, _, _, _, _, _, _, xInvalidRatio, by rfl⟩, sInvalidRatio, bInvalidRatio, tInvalidRatio, kInvalidRatio⟩
  have O_InvalidChange : OexC K cInvalidChange := ⟨⟨_, _, _, _, _, _, _, _, _, _, _, _, _, _, _, xInvalidChange, by rfl⟩, sInvalidChange, bInvalidChange, tInvalidChange, kInvalidChange⟩
  have O_InvalidEdge : OexC K cInvalidEdge := ⟨⟨_, _, _, _, _, _, _, _, _, _, _, _, _, _, _, xInvalidEdge, by rfl⟩, sInvalidEdge, bInvalidEdge, tInvalidEdge, kInvalidEdge⟩
  have INSC : C8.InsC K C := ⟨⟨pgC, hdC, poC, saC⟩, haC, hnC, htC, hmC, kit_self _ _ (beq_self_eq_true _)⟩
  have R : RatT K mg C := ⟨INSC, n1, n2, PySem.W.mg_of X G aC, nf, ne, so⟩
  have INSCC : C8.InsC K CC := ⟨⟨pgCC, hdCC, poCC, saCC⟩, haCC, hnCC, htCC, hmCC, kit_self _ _ (beq_self_eq_true _)⟩
  have Rc : ChT K mg CC := ⟨INSCC, cn1, cn2, PySem.W.mg_of X G aCC, cnf, cne, cso⟩
  have INSCE : C8.InsC K CE := ⟨⟨pgCE, hdCE, poCE, saCE⟩, haCE, hnCE, htCE, hmCE, kit_self _ _ (beq_self_eq_true _)⟩
  have Re : EdgT K mg CE := ⟨INSCE, en1, en2, PySem.W.mg_of X G aCE, enf, ene, eso⟩
  have F1 := fun_mk (st := S__law_take) l1 c1 k1
  have b1 := F1.binds (ps := ["_law_box_here", "_law_many"]) fun _ _ _ _ _ _ us hl => match us, hl with | [_, _], _ => rfl
  have F2 := fun_mk (st := S__law_box) l2 c2 k2
  have b2 := F2.binds (ps := ["_law_script", "_law_k"]) fun _ _ _ _ _ _ us hl => match us, hl with | [_, _], _ => rfl
  have F3 := fun_mk (st := S_is_integer) l3 c3 k3
  have b3 := F3.binds (ps := ["value"]) fun _ _ _ _ _ _ us hl => match us, hl with | [_], _ => rfl
  have F4 := fun_mk (st := S_is_length) l4 c4 k4
  have b4 := F4.binds (ps := ["value"]) fun _ _ _ _ _ _ us hl => match us, hl with | [_], _ => rfl
  have F5 := fun_mk (st := S_common_length) l5 c5 k5
  have b5 := F5.binds (ps := ["first", "second"]) fun _ _ _ _ _ _ us hl => match us, hl with | [_, _], _ => rfl
  have F6 := fun_mk (st := S_InvalidWord__init_) l6 c6 k6
  have b6 := F6.binds (ps := ["self"]) fun _ _ _ _ _ _ us hl => match us, hl with | [_], _ => rfl
  have F7 := fun_mk (st := S_InvalidRatio__init_) l7 c7 k7
  have b7 := F7.binds (ps := ["self"]) fun _ _ _ _ _ _ us hl => match us, hl with | [_], _ => rfl
  have F8 := fun_mk (st := S_InvalidChange__init_) l8 c8 k8
  have b8 := F8.binds (ps := ["self"]) fun _ _ _ _ _ _ us hl => match us, hl with | [_], _ => rfl
  have F9 := fun_mk (st := S_InvalidEdge__init_) l9 c9 k9
  have b9 := F9.binds (ps := ["self"]) fun _ _ _ _ _ _ us hl => match us, hl with | [_], _ => rfl
  have F10 := fun_mk (st := S_Ratio__init_) l10 c10 k10
  have b10 := F10.binds (ps := ["self", "first", "second"]) fun _ _ _ _ _ _ us hl => match us, hl with | [_, _, _], _ => rfl
  have F11 := fun_mk (st := S_need_word) l11 c11 k11
  have b11 := F11.binds (ps := ["value"]) fun _ _ _ _ _ _ us hl => match us, hl with | [_], _ => rfl
  have F12 := fun_mk (st := S_word_of_lengths) l12 c12 k12
  have b12 := F12.binds (ps := ["first", "second"]) fun _ _ _ _ _ _ us hl => match us, hl with | [_, _], _ => rfl
  have F13 := fun_mk (st := S_Ratio_word) l13 c13 k13
  have b13 := F13.binds (ps := ["self"]) fun _ _ _ _ _ _ us hl => match us, hl with | [_], _ => rfl
  have F14 := fun_mk (st := S_lengths_made) l14 c14 k14
  have b14 := F14.binds (ps := ["numbers", "first", "second"]) fun _ _ _ _ _ _ us hl => match us, hl with | [_, _, _], _ => rfl
  have F15 := fun_mk (st := S_Change__init_) l15 c15 k15
  have b15 := F15.binds (ps := ["self", "a", "b", "c", "d"]) fun _ _ _ _ _ _ us hl => match us, hl with | [_, _, _, _, _], _ => rfl
  have F16 := fun_mk (st := S_numbers_joined) l16 c16 k16
  have b16 := F16.binds (ps := ["one", "other"]) fun _ _ _ _ _ _ us hl => match us, hl with | [_, _], _ => rfl
  have F17 := fun_mk (st := S_numbers_behind) l17 c17 k17
  have b17 := F17.binds (ps := ["numbers", "letter"]) fun _ _ _ _ _ _ us hl => match us, hl with | [_, _], _ => rfl
  have F18 := fun_mk (st := S_numbers_of_word) l18 c18 k18
  have b18 := F18.binds (ps := ["word"]) fun _ _ _ _ _ _ us hl => match us, hl with | [_], _ => rfl
  have F19 := fun_mk (st := S_Change_of_word) l19 c19 k19
  have b19 := F19.binds (ps := ["cls", "word"]) fun _ _ _ _ _ _ us hl => match us, hl with | [_, _], _ => rfl
  have F20 := fun_mk (st := S_Change__mul_) l20 c20 k20
  have b20 := F20.binds (ps := ["self", "other"]) fun _ _ _ _ _ _ us hl => match us, hl with | [_, _], _ => rfl
  have F21 := fun_mk (st := S_common) l21 c21 k21
  have b21 := F21.binds (ps := ["one", "other"]) fun _ _ _ _ _ _ us hl => match us, hl with | [_, _], _ => rfl
  have F22 := fun_mk (st := S_sign_of) l22 c22 k22
  have b22 := F22.binds (ps := ["number"]) fun _ _ _ _ _ _ us hl => match us, hl with | [_], _ => rfl
  have F23 := fun_mk (st := S_whole_root) l23 c23 k23
  have b23 := F23.binds (ps := ["number"]) fun _ _ _ _ _ _ us hl => match us, hl with | [_], _ => rfl
  have F24 := fun_mk (st := S_sign_with_root) l24 c24 k24
  have b24 := F24.binds (ps := ["one", "times", "inner"]) fun _ _ _ _ _ _ us hl => match us, hl with | [_, _, _], _ => rfl
  have F25 := fun_mk (st := S_lowered) l25 c25 k25
  have b25 := F25.binds (ps := ["a", "b", "c", "side"]) fun _ _ _ _ _ _ us hl => match us, hl with | [_, _, _, _], _ => rfl
  have F26 := fun_mk (st := S_inner_of) l26 c26 k26
  have b26 := F26.binds (ps := ["root"]) fun _ _ _ _ _ _ us hl => match us, hl with | [_], _ => rfl
  have F27 := fun_mk (st := S_Edge__init_) l27 c27 k27
  have b27 := F27.binds (ps := ["self", "place"]) fun _ _ _ _ _ _ us hl => match us, hl with | [_, _], _ => rfl
  have F28 := fun_mk (st := S_Edge_of) l28 c28 k28
  have b28 := F28.binds (ps := ["cls", "ratio"]) fun _ _ _ _ _ _ us hl => match us, hl with | [_, _], _ => rfl
  have F29 := fun_mk (st := S_Edge_zero) l29 c29 k29
  have b29 := F29.binds (ps := ["cls"]) fun _ _ _ _ _ _ us hl => match us, hl with | [_], _ => rfl
  have F30 := fun_mk (st := S_Edge_endless) l30 c30 k30
  have b30 := F30.binds (ps := ["cls"]) fun _ _ _ _ _ _ us hl => match us, hl with | [_], _ => rfl
  have F31 := fun_mk (st := S_Edge__eq_) l31 c31 k31
  have b31 := F31.binds (ps := ["self", "other"]) fun _ _ _ _ _ _ us hl => match us, hl with | [_, _], _ => rfl
  have F32 := fun_mk (st := S_Edge_root) l32 c32 k32
  have b32 := F32.binds (ps := ["cls", "p", "q", "d", "r"]) fun _ _ _ _ _ _ us hl => match us, hl with | [_, _, _, _, _], _ => rfl
  have F33 := fun_mk (st := S_changed) l33 c33 k33
  have b33 := F33.binds (ps := ["root", "numbers"]) fun _ _ _ _ _ _ us hl => match us, hl with | [_, _], _ => rfl
  have F34 := fun_mk (st := S_place_behind) l34 c34 k34
  have b34 := F34.binds (ps := ["numbers", "place"]) fun _ _ _ _ _ _ us hl => match us, hl with | [_, _], _ => rfl
  have F35 := fun_mk (st := S_Edge_turned) l35 c35 k35
  have b35 := F35.binds (ps := ["self"]) fun _ _ _ _ _ _ us hl => match us, hl with | [_], _ => rfl
  have F36 := fun_mk (st := S_Edge__rmul_) l36 c36 k36
  have b36 := F36.binds (ps := ["self", "change"]) fun _ _ _ _ _ _ us hl => match us, hl with | [_, _], _ => rfl
  have F37 := fun_mk (st := S_sign_with_roots) l37 c37 k37
  have b37 := F37.binds (ps := ["one", "times", "inner", "again", "other"]) fun _ _ _ _ _ _ us hl => match us, hl with | [_, _, _, _, _], _ => rfl
  have F38 := fun_mk (st := S_compared) l38 c38 k38
  have b38 := F38.binds (ps := ["one", "other"]) fun _ _ _ _ _ _ us hl => match us, hl with | [_, _], _ => rfl
  have F39 := fun_mk (st := S_Edge__lt_) l39 c39 k39
  have b39 := F39.binds (ps := ["self", "other"]) fun _ _ _ _ _ _ us hl => match us, hl with | [_, _], _ => rfl
  have F40 := fun_mk (st := S_Edge__le_) l40 c40 k40
  have b40 := F40.binds (ps := ["self", "other"]) fun _ _ _ _ _ _ us hl => match us, hl with | [_, _], _ => rfl
  have F41 := fun_mk (st := S_Edge__gt_) l41 c41 k41
  have b41 := F41.binds (ps := ["self", "other"]) fun _ _ _ _ _ _ us hl => match us, hl with | [_, _], _ => rfl
  have F42 := fun_mk (st := S_step) l42 c42 k42
  have b42 := F42.binds (ps := ["root"]) fun _ _ _ _ _ _ us hl => match us, hl with | [_], _ => rfl
  have F43 := fun_mk (st := S_first_letters) l43 c43 k43
  have b43 := F43.binds (ps := ["root", "count"]) fun _ _ _ _ _ _ us hl => match us, hl with | [_, _], _ => rfl
  have F44 := fun_mk (st := S_fixed) l44 c44 k44
  have b44 := F44.binds (ps := ["numbers"]) fun _ _ _ _ _ _ us hl => match us, hl with | [_], _ => rfl
  have F45 := fun_mk (st := S_Edge_ratio) l45 c45 k45
  have b45 := F45.binds (ps := ["self"]) fun _ _ _ _ _ _ us hl => match us, hl with | [_], _ => rfl
  have F46 := fun_mk (st := S_Edge_of_parts) l46 c46 k46
  have b46 := F46.binds (ps := ["cls", "lead", "cycle"]) fun _ _ _ _ _ _ us hl => match us, hl with | [_, _, _], _ => rfl
  have F47 := fun_mk (st := S_Edge_letters) l47 c47 k47
  have b47 := F47.binds (ps := ["self", "count"]) fun _ _ _ _ _ _ us hl => match us, hl with | [_, _], _ => rfl
  have F48 := fun_mk (st := S__law_sign) l48 c48 k48
  have b48 := F48.binds (ps := ["_law_number"]) fun _ _ _ _ _ _ us hl => match us, hl with | [_], _ => rfl
  have F49 := fun_mk (st := S__law_sign_root) l49 c49 k49
  have b49 := F49.binds (ps := ["_law_one", "_law_times", "_law_inner"]) fun _ _ _ _ _ _ us hl => match us, hl with | [_, _, _], _ => rfl
  have F50 := fun_mk (st := S__law_root) l50 c50 k50
  have b50 := F50.binds (ps := ["_law_box_here", "_law_most"]) fun _ _ _ _ _ _ us hl => match us, hl with | [_, _], _ => rfl
  have F51 := fun_mk (st := S__law_change) l51 c51 k51
  have b51 := F51.binds (ps := ["_law_box_here"]) fun _ _ _ _ _ _ us hl => match us, hl with | [_], _ => rfl
  have F52 := fun_mk (st := S__law_edge) l52 c52 k52
  have b52 := F52.binds (ps := ["_law_box_here"]) fun _ _ _ _ _ _ us hl => match us, hl with | [_], _ => rfl
  have F53 := fun_mk (st := S__law_order) l53 c53 k53
  have b53 := F53.binds (ps := ["_law_one", "_law_other"]) fun _ _ _ _ _ _ us hl => match us, hl with | [_, _], _ => rfl
  have F54 := fun_mk (st := S__law_right) l54 c54 k54
  have b54 := F54.binds (ps := ["_law_change_here", "_law_beside", "_law_one", "_law_other"]) fun _ _ _ _ _ _ us hl => match us, hl with | [_, _, _, _], _ => rfl
  have F55 := fun_mk (st := S_law) l55 c55 k55
  refine ⟨PySem.W.fnOf "law" "law" (defArgs S_law) (defBody S_law) (defScope S_law) .none kV55 dc55 pm55 an55 cd55 ct55, fun s v => .of_eq rfl, fun base _ _ => ?_⟩
  have G_SAME : GT K mg "SAME" Mt.one.tl := gt_of (PySem.W.mg_of X G same0) same1 rfl rfl (by show 4 ≤ sizeLine; decide) (.cons ⟨_, rfl⟩ (.cons ⟨_, rfl⟩ (.cons ⟨_, rfl⟩ (.cons ⟨_, rfl⟩ .nil))))
  have OM : OpC K CC .Mult := ⟨sfC, (show PySem.dunderR "mul" = "__rmul__" by decide +kernel) ▸ rmC⟩
  have OR : Kb.OpR2 K CC CE .Mult := ⟨fun e => by (rw [← e] at sec see; rw [see] at sec; cases sec), sfC, sfE, sec, (show PySem.dunderR "mul" = "__rmul__" by decide +kernel) ▸ rmC, (show PySem.dunder "mul" = "__mul__" by decide +kernel) ▸ muE⟩
  have kec : PySem.W.kitOne K (.ref CE) (.ref CC) = some false := kit_ownF see hdCC ctt sec
  have ker : PySem.W.kitOne K (.ref CE) (.ref C) = some false := kit_ownF see hdC rtt ser
  have kn : PySem.W.kitOne K (.ref C) (.ref CC) = some false := kit_ownF scc hdCC ctt src
  have C_take : FnC l.prog w K mg base CX0 1 "_law_take" ["_law_box_here", "_law_many"] sp_take := ⟨_, _, ok_take F1 T , PySem.W.mg_of X G a1, k1, b1⟩
  have C_box : FnC l.prog w K mg base CX0 1 "_law_box" ["_law_script", "_law_k"] (sp_box2 K) := ⟨_, _, ok_box F2 T , PySem.W.mg_of X G a2, k2, b2⟩
  have C_isint : FnC l.prog w K mg base CX0 1 "is_integer" ["value"] (sp_isint K) := ⟨_, _, ok_isint F3 T , PySem.W.mg_of X G a3, k3, b3⟩
  have C_islen : FnC l.prog w K mg base CX0 2 "is_length" ["value"] (sp_islen K) := ⟨_, _, ok_islen F4 T C_isint, PySem.W.mg_of X G a4, k4, b4⟩
  have C_common : FnC l.prog w K mg base CX0 1 "common_length" ["first", "second"] sp_common := ⟨_, _, ok_common F5 T , PySem.W.mg_of X G a5, k5, b5⟩
  have E_InvalidWord : ErC l.prog w K mg base "InvalidWord" cInvalidWord := ⟨_, _, (ok_err_InvalidWord F6 UE mgU O_InvalidWord).mono (by decide), O_InvalidWord, a6, i6, PySem.W.mg_of X G aInvalidWord, b6⟩
  have E_InvalidRatio : ErC l.prog w K mg base "InvalidRatio" cInvalidRatio := ⟨_, _, (ok_err_InvalidRatio F7 UE mgU O_InvalidRatio).mono (by decide), O_InvalidRatio, a7, i7, PySem.W.mg_of X G aInvalidRatio, b7⟩
  have E_InvalidChange : ErC l.prog w K mg base "InvalidChange" cInvalidChange := ⟨_, _, (ok_err_InvalidChange F8 UE mgU O_InvalidChange).mono (by decide), O_InvalidChange, a8, i8, PySem.W.mg_of X G aInvalidChange, b8⟩
  have E_InvalidEdge : ErC l.prog w K mg base "InvalidEdge" cInvalidEdge := ⟨_, _, (ok_err_InvalidEdge F9 UE mgU O_InvalidEdge).mono (by decide), O_InvalidEdge, a9, i9, PySem.W.mg_of X G aInvalidEdge, b9⟩
  have C_ratioX : MkC l.prog w K mg base (L2.CX l.prog w) 4 C "Ratio" ["self", "first", "second"] (sp_init C cInvalidRatio K) := ⟨_, _, ok_init F10 T R E_InvalidRatio C_islen C_common, ⟨mkC, a10, i10, kcC⟩, PySem.W.mg_of X G aC, b10⟩
  have C_need : FnC l.prog w K mg base (L2.CX l.prog w) 4 "need_word" ["value"] (sp_need cInvalidWord K) := ⟨_, _, ok_need F11 T E_InvalidWord, PySem.W.mg_of X G a11, k11, b11⟩
  have C_wol : FnC l.prog w K mg base CX0 1 "word_of_lengths" ["first", "second"] sp_wol := ⟨_, _, ok_wol F12 T , PySem.W.mg_of X G a12, k12, b12⟩
  have P_word : PrC l.prog w K mg base 2 C "word" (sp_word C) := ⟨_, _, _, ok_word F13 T R C_wol, ⟨pgC, hdC, poC, saC⟩, ⟨a13, g13, h13, ⟨_, r13⟩⟩, b13⟩
  have C_lm : FnC l.prog w K mg base CX0 1 "lengths_made" ["numbers", "first", "second"] sp_lm := ⟨_, _, ok_lm F14 T , PySem.W.mg_of X G a14, k14, b14⟩
  have C_changeX : MkC l.prog w K mg base (L2.CX l.prog w) 4 CC "Change" ["self", "a", "b", "c", "d"] (sp_chinit CC cInvalidChange K) := ⟨_, _, ok_chinit F15 T Rc E_InvalidChange C_isint, ⟨mkCC, a15, i15, kcCC⟩, PySem.W.mg_of X G aCC, b15⟩
  have C_joined : FnC l.prog w K mg base CX0 1 "numbers_joined" ["one", "other"] (sp_joined K) := ⟨_, _, ok_joined F16 T , PySem.W.mg_of X G a16, k16, b16⟩
  have C_nb : FnC l.prog w K mg base CX0 1 "numbers_behind" ["numbers", "letter"] (sp_nb K) := ⟨_, _, ok_nb F17 T , PySem.W.mg_of X G a17, k17, b17⟩
  have C_now : FnC l.prog w K mg base CX0 2 "numbers_of_word" ["word"] (sp_now K) := ⟨_, _, ok_now F18 T G_SAME C_nb, PySem.W.mg_of X G a18, k18, b18⟩
  have M_chwX : CmC l.prog w K mg base (L2.CX l.prog w) 6 CC "Change" "of_word" ["cls", "word"] (sp_chw CC cInvalidWord K) := ⟨_, _, _, ok_chw F19 T C_need C_now C_changeX, ⟨rdcCC, gacCC⟩, ⟨a19, ⟨_, r19⟩, i19⟩, PySem.W.mg_of X G aCC, b19⟩
  have M_mul : MtC l.prog w K mg base CX0 6 CC "__mul__" ["self", "other"] (sp_mul CC C) := ⟨_, _, ok_mul F20 T Rc R kn C_joined C_lm C_changeX.calm C_ratioX.calm, ⟨a20, i20, k20⟩, b20⟩
  have N_mul : Kb.MtNi l.prog w K mg base 2 CC "__mul__" ["self", "other"] (sn_mul CC CE) := ⟨_, _, ok_mulN F20 T Rc R Re kec ker, ⟨a20, i20, k20⟩, b20⟩
  have C_com : FnC l.prog w K mg base CX0 1 "common" ["one", "other"] sp_com := ⟨_, _, ok_com F21 T , PySem.W.mg_of X G a21, k21, b21⟩
  have C_sign : FnC l.prog w K mg base CX0 1 "sign_of" ["number"] sp_sign := ⟨_, _, ok_sign F22 T , PySem.W.mg_of X G a22, k22, b22⟩
  have C_wr : FnC l.prog w K mg base CX0 1 "whole_root" ["number"] sp_wr := ⟨_, _, ok_wr F23 T , PySem.W.mg_of X G a23, k23, b23⟩
  have C_swr : FnC l.prog w K mg base CX0 2 "sign_with_root" ["one", "times", "inner"] sp_swr := ⟨_, _, ok_swr F24 T C_sign, PySem.W.mg_of X G a24, k24, b24⟩
  have C_low : FnC l.prog w K mg base CX0 2 "lowered" ["a", "b", "c", "side"] sp_low := ⟨_, _, ok_low F25 T C_com, PySem.W.mg_of X G a25, k25, b25⟩
  have C_inner : FnC l.prog w K mg base CX0 1 "inner_of" ["root"] (sp_inner K) := ⟨_, _, ok_inner F26 T , PySem.W.mg_of X G a26, k26, b26⟩
  have C_edgeX : MkC l.prog w K mg base (L2.CX l.prog w) 2 CE "Edge" ["self", "place"] (sp_einit CE) := ⟨_, _, ok_einit F27 T Re C_inner, ⟨mkCE, a27, i27, kcCE⟩, PySem.W.mg_of X G aCE, b27⟩
  have M_eofX : CmC l.prog w K mg base (L2.CX l.prog w) 4 CE "Edge" "of" ["cls", "ratio"] (sp_eof C CE) := ⟨_, _, _, ok_eof F28 T R C_edgeX, ⟨rdcCE, gacCE⟩, ⟨a28, ⟨_, r28⟩, i28⟩, PySem.W.mg_of X G aCE, b28⟩
  have M_ezeroX : CmC l.prog w K mg base (L2.CX l.prog w) 4 CE "Edge" "zero" ["cls"] (sp_ecm CE [0, 1]) := ⟨_, _, _, ok_zero F29 T C_edgeX, ⟨rdcCE, gacCE⟩, ⟨a29, ⟨_, r29⟩, i29⟩, PySem.W.mg_of X G aCE, b29⟩
  have M_eendlessX : CmC l.prog w K mg base (L2.CX l.prog w) 4 CE "Edge" "endless" ["cls"] (sp_ecm CE [1, 0]) := ⟨_, _, _, ok_endless F30 T C_edgeX, ⟨rdcCE, gacCE⟩, ⟨a30, ⟨_, r30⟩, i30⟩, PySem.W.mg_of X G aCE, b30⟩
  have M_eeq : MtC l.prog w K mg base CX0 1 CE "__eq__" ["self", "other"] (sp_eeq CE) := ⟨_, _, ok_eeq F31 T Re, ⟨a31, i31, k31⟩, b31⟩
  have M_erootX : CmC l.prog w K mg base (L2.CX l.prog w) 4 CE "Edge" "root" ["cls", "p", "q", "d", "r"] (sp_eroot CE cInvalidEdge K) := ⟨_, _, _, ok_eroot F32 T E_InvalidEdge C_isint C_swr C_wr C_com C_low C_edgeX, ⟨rdcCE, gacCE⟩, ⟨a32, ⟨_, r32⟩, i32⟩, PySem.W.mg_of X G aCE, b32⟩
  have C_changed : FnC l.prog w K mg base CX0 3 "changed" ["root", "numbers"] (sp_changed K) := ⟨_, _, ok_changed F33 T C_sign C_low, PySem.W.mg_of X G a33, k33, b33⟩
  have C_pb : FnC l.prog w K mg base CX0 4 "place_behind" ["numbers", "place"] (sp_pb K) := ⟨_, _, ok_pb F34 T C_changed C_com, PySem.W.mg_of X G a34, k34, b34⟩
  have P_eturned : PrC l.prog w K mg base 6 CE "turned" (sp_eturned CE) := ⟨_, _, _, ok_eturned F35 T Re C_pb C_edgeX.calm, ⟨pgCE, hdCE, poCE, saCE⟩, ⟨a35, g35, h35, ⟨_, r35⟩⟩, b35⟩
  have M_ermul : MtC l.prog w K mg base CX0 6 CE "__rmul__" ["self", "change"] (sp_ermul CE CC) := ⟨_, _, ok_ermul F36 T Re Rc C_pb C_edgeX.calm, ⟨a36, i36, k36⟩, b36⟩
  have C_swrs : FnC l.prog w K mg base CX0 3 "sign_with_roots" ["one", "times", "inner", "again", "other"] sp_swrs := ⟨_, _, ok_swrs F37 T C_sign C_swr, PySem.W.mg_of X G a37, k37, b37⟩
  have C_cmp4 : FnC l.prog w K mg base CX0 4 "compared" ["one", "other"] (sp_cmp4 K) := ⟨_, _, ok_cmp4 F38 T C_sign C_swr C_swrs C_inner, PySem.W.mg_of X G a38, k38, b38⟩
  have C_cmp : FnC l.prog w K mg base CX0 6 "compared" ["one", "other"] (sp_cmp K) := ⟨_, _, ok_cmp F38 T C_sign C_swr C_swrs C_inner C_cmp4, PySem.W.mg_of X G a38, k38, b38⟩
  have M_elt : MtC l.prog w K mg base CX0 7 CE "__lt__" ["self", "other"] (sp_ecmp CE fun i => decide (i < 0)) := ⟨_, _, ok_elt F39 T Re C_cmp, ⟨a39, i39, k39⟩, b39⟩
  have M_ele : MtC l.prog w K mg base CX0 7 CE "__le__" ["self", "other"] (sp_ecmp CE fun i => decide (i ≤ 0)) := ⟨_, _, ok_ele F40 T Re C_cmp, ⟨a40, i40, k40⟩, b40⟩
  have M_egt : MtC l.prog w K mg base CX0 7 CE "__gt__" ["self", "other"] (sp_ecmp CE fun i => decide (i > 0)) := ⟨_, _, ok_egt F41 T Re C_cmp, ⟨a41, i41, k41⟩, b41⟩
  have C_step : FnC l.prog w K mg base CX0 6 "step" ["root"] (sp_step K) := ⟨_, _, ok_step F42 T C_cmp4 C_changed, PySem.W.mg_of X G a42, k42, b42⟩
  have C_fl : FnC l.prog w K mg base CX0 7 "first_letters" ["root", "count"] sp_fl := ⟨_, _, ok_fl F43 T C_step, PySem.W.mg_of X G a43, k43, b43⟩
  have C_fixed : FnC l.prog w K mg base CX0 3 "fixed" ["numbers"] sp_fixed := ⟨_, _, ok_fixed F44 T C_low, PySem.W.mg_of X G a44, k44, b44⟩
  have P_eratio : PrC l.prog w K mg base 6 CE "ratio" (sp_eratio C CE) := ⟨_, _, _, ok_eratio F45 T Re C_ratioX.calm, ⟨pgCE, hdCE, poCE, saCE⟩, ⟨a45, g45, h45, ⟨_, r45⟩⟩, b45⟩
  have M_eofGX : CmC l.prog w K mg base (L2.CX l.prog w) 8 CE "Edge" "of_parts" ["cls", "lead", "cycle"] (Ep.sp_eofG CE) := ⟨_, _, _, ok_eofG F46 T Re Rc C_need M_chwX.calm C_fixed C_pb C_edgeX E_InvalidWord, ⟨rdcCE, gacCE⟩, ⟨a46, ⟨_, r46⟩, i46⟩, PySem.W.mg_of X G aCE, b46⟩
  have M_letters : MtC l.prog w K mg base CX0 8 CE "letters" ["self", "count"] (K16.sp_letters CE) := ⟨_, _, ok_letters F47 T R Re P_eratio P_word C_fl, ⟨a47, i47, k47⟩, b47⟩
  have C_lsign : FnC l.prog w K mg base CX0 1 "_law_sign" ["_law_number"] sp_sign := ⟨_, _, ok_lsign F48 T , PySem.W.mg_of X G a48, k48, b48⟩
  have C_lsr : FnC l.prog w K mg base CX0 2 "_law_sign_root" ["_law_one", "_law_times", "_law_inner"] sp_lsr := ⟨_, _, ok_lsr F49 T C_lsign, PySem.W.mg_of X G a49, k49, b49⟩
  have C_lroot : FnC l.prog w K mg base CX0 3 "_law_root" ["_law_box_here", "_law_most"] sp_lroot := ⟨_, _, ok_lroot F50 T C_take C_lsr, PySem.W.mg_of X G a50, k50, b50⟩
  have C_lchange : FnC l.prog w K mg base CX0 6 "_law_change" ["_law_box_here"] (K16.sp_lchange CC) := ⟨_, _, ok_lchange F51 T C_take C_changeX.calm, PySem.W.mg_of X G a51, k51, b51⟩
  have C_ledge : FnC l.prog w K mg base CX0 9 "_law_edge" ["_law_box_here"] (K16.sp_ledge CE) := ⟨_, _, ok_ledge F52 T C_take C_lroot C_ratioX.calm M_ezeroX.calm M_eendlessX.calm M_eofX.calm M_erootX.calm M_eofGX.calm, PySem.W.mg_of X G a52, k52, b52⟩
  have C_lorder : FnC l.prog w K mg base CX0 8 "_law_order" ["_law_one", "_law_other"] (K16.sp_lorder CE) := ⟨_, _, ok_lorder F53 T Re M_elt M_egt, PySem.W.mg_of X G a53, k53, b53⟩
  have C_right : FnC l.prog w K mg base CX0 9 "_law_right" ["_law_change_here", "_law_beside", "_law_one", "_law_other"] (K16.sp_right CC CE) := ⟨_, _, ok_right F54 T Rc Re OR OM C_lsign C_lorder N_mul M_mul M_ermul M_eeq M_ele P_eturned M_letters M_ezeroX.calm M_eendlessX.calm, PySem.W.mg_of X G a54, k54, b54⟩
  exact ok_law F55 T C_box C_lchange C_ledge C_right
def zf0 : List (PySem.W.Frag → Bool) := [fun K => gloB K "UnmarkedError",
  fun K => PySem.W.readsIn K (He.ga K "UnmarkedError") (.type "type"),
  fun K => decide (PySem.W.specialIn K (.ref (He.ga K "UnmarkedError")) "__getattribute__" = some (some (.builtin "type.__getattribute__"))),
  fun K => clsB K (He.ga K "UnmarkedError") "__init__" (.builtin "ValueError.__init__"),
  fun K => gloB K "InvalidWord",
  fun K => errB K (He.ga K "InvalidWord") (He.ga K "UnmarkedError"),
  fun K => decide (PySem.W.findIn K (.ref (He.ga K "InvalidWord")) "__setattr__" = some (some (.builtin "object.__setattr__"))),
  fun K => decide (PySem.W.subIn K (.ref (He.ga K "InvalidWord")) (.type "BaseException") = some true),
  fun K => decide (PySem.W.typeIn K (.ref (He.ga K "InvalidWord")) = some (.type "type")),
  fun K => PySem.W.keepIn K (.ref (He.ga K "InvalidWord")),
  fun K => gloB K "InvalidRatio",
  fun K => errB K (He.ga K "InvalidRatio") (He.ga K "UnmarkedError"),
  fun K => decide (PySem.W.findIn K (.ref (He.ga K "InvalidRatio")) "__setattr__" = some (some (.builtin "object.__setattr__"))),
  fun K => decide (PySem.W.subIn K (.ref (He.ga K "InvalidRatio")) (.type "BaseException") = some true),
  fun K => decide (PySem.W.typeIn K (.ref (He.ga K "InvalidRatio")) = some (.type "type")),
  fun K => PySem.W.keepIn K (.ref (He.ga K "InvalidRatio")),
  fun K => gloB K "InvalidChange",
  fun K => errB K (He.ga K "InvalidChange") (He.ga K "UnmarkedError"),
  fun K => decide (PySem.W.findIn K (.ref (He.ga K "InvalidChange")) "__setattr__" = some (some (.builtin "object.__setattr__"))),
  fun K => decide (PySem.W.subIn K (.ref (He.ga K "InvalidChange")) (.type "BaseException") = some true),
  fun K => decide (PySem.W.typeIn K (.ref (He.ga K "InvalidChange")) = some (.type "type")),
  fun K => PySem.W.keepIn K (.ref (He.ga K "InvalidChange")),
  fun K => gloB K "InvalidEdge",
  fun K => errB K (He.ga K "InvalidEdge") (He.ga K "UnmarkedError"),
  fun K => decide (PySem.W.findIn K (.ref (He.ga K "InvalidEdge")) "__setattr__" = some (some (.builtin "object.__setattr__"))),
  fun K => decide (PySem.W.subIn K (.ref (He.ga K "InvalidEdge")) (.type "BaseException") = some true),
  fun K => decide (PySem.W.typeIn K (.ref (He.ga K "InvalidEdge")) = some (.type "type")),
  fun K => PySem.W.keepIn K (.ref (He.ga K "InvalidEdge")),
  fun K => PySem.W.hasDictIn K (He.ga K "UnmarkedError"),
  fun K => decide (PySem.W.subIn K (.ref (He.ga K "UnmarkedError")) (.type "BaseException") = some true),
  fun K => decide (PySem.W.typeIn K (.ref (He.ga K "UnmarkedError")) = some (.type "type")),
  fun K => PySem.W.hasDictIn K (He.ga K "InvalidWord"),
  fun K => PySem.W.hasDictIn K (He.ga K "InvalidRatio"),
  fun K => PySem.W.hasDictIn K (He.ga K "InvalidChange"),
  fun K => PySem.W.hasDictIn K (He.ga K "InvalidEdge"),
  fun K => gloB K "Ratio",
  fun K => PySem.W.plainGet K (He.ga K "Ratio") Str.empty,
  fun K => PySem.W.hasDictIn K (He.ga K "Ratio"),
  fun K => PySem.W.plainOver K (He.ga K "Ratio"),
  fun K => decide (PySem.W.findIn K (.ref (He.ga K "Ratio")) "__setattr__" = some (some (.builtin "object.__setattr__")))]
def zf1 : List (PySem.W.Frag → Bool) := [fun K => PySem.W.makesIn K (He.ga K "Ratio"),
  fun K => PySem.W.keepIn K (.ref (He.ga K "Ratio")),
  fun K => decide (PySem.W.findIn K (.ref (He.ga K "Ratio")) "__class__" = some (some (.builtin "object.__class__"))),
  fun K => decide (PySem.W.specialIn K (.builtin "object.__class__") "__get__" = some (some (.builtin "getset_descriptor.__get__"))),
  fun K => decide (PySem.W.takesIn K (.builtin "object.__class__") = some true),
  fun K => decide (PySem.W.mroIn K (He.ga K "Ratio") (.type "object") = some true),
  fun K => decide (PySem.W.findIn K (.ref (He.ga K "Ratio")) "first" = some none),
  fun K => decide (PySem.W.findIn K (.ref (He.ga K "Ratio")) "second" = some none),
  fun K => PySem.W.notFirst K (He.ga K "Ratio") (.ref (He.ga K "Ratio")),
  fun K => decide (PySem.W.findIn K (.ref (He.ga K "Ratio")) "__ne__" = some (some (.builtin "object.__ne__"))),
  fun K => decide (PySem.W.subIn K (.ref (He.ga K "Ratio")) (.type "object") = some true),
  fun K => gloB K "Change",
  fun K => PySem.W.plainGet K (He.ga K "Change") Str.empty,
  fun K => PySem.W.hasDictIn K (He.ga K "Change"),
  fun K => PySem.W.plainOver K (He.ga K "Change"),
  fun K => decide (PySem.W.findIn K (.ref (He.ga K "Change")) "__setattr__" = some (some (.builtin "object.__setattr__"))),
  fun K => PySem.W.makesIn K (He.ga K "Change"),
  fun K => PySem.W.keepIn K (.ref (He.ga K "Change")),
  fun K => decide (PySem.W.findIn K (.ref (He.ga K "Change")) "__class__" = some (some (.builtin "object.__class__"))),
  fun K => decide (PySem.W.mroIn K (He.ga K "Change") (.type "object") = some true),
  fun K => PySem.W.readsIn K (He.ga K "Change") (.type "type"),
  fun K => decide (PySem.W.specialIn K (.ref (He.ga K "Change")) "__getattribute__" = some (some (.builtin "type.__getattribute__"))),
  fun K => decide (PySem.W.findIn K (.ref (He.ga K "Change")) "numbers" = some none),
  fun K => decide (PySem.W.findIn K (.ref (He.ga K "Change")) "turn" = some none),
  fun K => PySem.W.notFirst K (He.ga K "Change") (.ref (He.ga K "Change")),
  fun K => decide (PySem.W.findIn K (.ref (He.ga K "Change")) "__ne__" = some (some (.builtin "object.__ne__"))),
  fun K => decide (PySem.W.subIn K (.ref (He.ga K "Change")) (.type "object") = some true),
  fun K => decide (PySem.W.typeIn K (.ref (He.ga K "Change")) = some (.type "type")),
  fun K => gloB K "Edge",
  fun K => PySem.W.plainGet K (He.ga K "Edge") Str.empty,
  fun K => PySem.W.hasDictIn K (He.ga K "Edge"),
  fun K => PySem.W.plainOver K (He.ga K "Edge"),
  fun K => decide (PySem.W.findIn K (.ref (He.ga K "Edge")) "__setattr__" = some (some (.builtin "object.__setattr__"))),
  fun K => PySem.W.makesIn K (He.ga K "Edge"),
  fun K => PySem.W.keepIn K (.ref (He.ga K "Edge")),
  fun K => decide (PySem.W.findIn K (.ref (He.ga K "Edge")) "__class__" = some (some (.builtin "object.__class__"))),
  fun K => decide (PySem.W.mroIn K (He.ga K "Edge") (.type "object") = some true),
  fun K => PySem.W.readsIn K (He.ga K "Edge") (.type "type"),
  fun K => decide (PySem.W.specialIn K (.ref (He.ga K "Edge")) "__getattribute__" = some (some (.builtin "type.__getattribute__"))),
  fun K => decide (PySem.W.findIn K (.ref (He.ga K "Edge")) "place" = some none)]
def zf2 : List (PySem.W.Frag → Bool) := [fun K => decide (PySem.W.findIn K (.ref (He.ga K "Edge")) "numbers" = some none),
  fun K => PySem.W.notFirst K (He.ga K "Edge") (.ref (He.ga K "Edge")),
  fun K => decide (PySem.W.findIn K (.ref (He.ga K "Edge")) "__ne__" = some (some (.builtin "object.__ne__"))),
  fun K => decide (PySem.W.subIn K (.ref (He.ga K "Edge")) (.type "object") = some true),
  fun K => gloB K "_law_take",
  fun K => PySem.W.keepIn K (.ref (He.ga K "_law_take")),
  fun K => gloB K "_law_box",
  fun K => PySem.W.keepIn K (.ref (He.ga K "_law_box")),
  fun K => gloB K "is_integer",
  fun K => PySem.W.keepIn K (.ref (He.ga K "is_integer")),
  fun K => gloB K "is_length",
  fun K => PySem.W.keepIn K (.ref (He.ga K "is_length")),
  fun K => gloB K "common_length",
  fun K => PySem.W.keepIn K (.ref (He.ga K "common_length")),
  fun K => methB K (He.ga K "InvalidWord") "__init__",
  fun K => decide (PySem.W.typeIn K (.ref (He.ma K (He.ga K "InvalidWord") "__init__")) = some (.type "function")),
  fun K => PySem.W.keepIn K (.ref (He.ma K (He.ga K "InvalidWord") "__init__")),
  fun K => methB K (He.ga K "InvalidRatio") "__init__",
  fun K => decide (PySem.W.typeIn K (.ref (He.ma K (He.ga K "InvalidRatio") "__init__")) = some (.type "function")),
  fun K => PySem.W.keepIn K (.ref (He.ma K (He.ga K "InvalidRatio") "__init__")),
  fun K => methB K (He.ga K "InvalidChange") "__init__",
  fun K => decide (PySem.W.typeIn K (.ref (He.ma K (He.ga K "InvalidChange") "__init__")) = some (.type "function")),
  fun K => PySem.W.keepIn K (.ref (He.ma K (He.ga K "InvalidChange") "__init__")),
  fun K => methB K (He.ga K "InvalidEdge") "__init__",
  fun K => decide (PySem.W.typeIn K (.ref (He.ma K (He.ga K "InvalidEdge") "__init__")) = some (.type "function")),
  fun K => PySem.W.keepIn K (.ref (He.ma K (He.ga K "InvalidEdge") "__init__")),
  fun K => methB K (He.ga K "Ratio") "__init__",
  fun K => PySem.W.isFn K (.ref (He.ma K (He.ga K "Ratio") "__init__")),
  fun K => PySem.W.keepIn K (.ref (He.ma K (He.ga K "Ratio") "__init__")),
  fun K => gloB K "need_word",
  fun K => PySem.W.keepIn K (.ref (He.ga K "need_word")),
  fun K => gloB K "word_of_lengths",
  fun K => PySem.W.keepIn K (.ref (He.ga K "word_of_lengths")),
  fun K => methB K (He.ga K "Ratio") "word",
  fun K => decide (PySem.W.specialIn K (.ref (He.ma K (He.ga K "Ratio") "word")) "__get__" = some (some (.builtin "property.__get__"))),
  fun K => decide (PySem.W.takesIn K (.ref (He.ma K (He.ga K "Ratio") "word")) = some true),
  fun K => rcB K (He.ma K (He.ga K "Ratio") "word") "property",
  fun K => PySem.W.keepIn K (.ref (rcA K (He.ma K (He.ga K "Ratio") "word") "property")),
  fun K => gloB K "lengths_made",
  fun K => PySem.W.keepIn K (.ref (He.ga K "lengths_made"))]
def zf3 : List (PySem.W.Frag → Bool) := [fun K => methB K (He.ga K "Change") "__init__",
  fun K => PySem.W.isFn K (.ref (He.ma K (He.ga K "Change") "__init__")),
  fun K => PySem.W.keepIn K (.ref (He.ma K (He.ga K "Change") "__init__")),
  fun K => gloB K "numbers_joined",
  fun K => PySem.W.keepIn K (.ref (He.ga K "numbers_joined")),
  fun K => gloB K "numbers_behind",
  fun K => PySem.W.keepIn K (.ref (He.ga K "numbers_behind")),
  fun K => gloB K "numbers_of_word",
  fun K => PySem.W.keepIn K (.ref (He.ga K "numbers_of_word")),
  fun K => cmB K (He.ga K "Change") "of_word",
  fun K => rcB K (cmA K (He.ga K "Change") "of_word") "classmethod",
  fun K => PySem.W.fnIn K (rcA K (cmA K (He.ga K "Change") "of_word") "classmethod"),
  fun K => PySem.W.keepIn K (.ref (rcA K (cmA K (He.ga K "Change") "of_word") "classmethod")),
  fun K => methB K (He.ga K "Change") "__mul__",
  fun K => PySem.W.isFn K (.ref (He.ma K (He.ga K "Change") "__mul__")),
  fun K => PySem.W.keepIn K (.ref (He.ma K (He.ga K "Change") "__mul__")),
  fun K => gloB K "common",
  fun K => PySem.W.keepIn K (.ref (He.ga K "common")),
  fun K => gloB K "sign_of",
  fun K => PySem.W.keepIn K (.ref (He.ga K "sign_of")),
  fun K => gloB K "whole_root",
  fun K => PySem.W.keepIn K (.ref (He.ga K "whole_root")),
  fun K => gloB K "sign_with_root",
  fun K => PySem.W.keepIn K (.ref (He.ga K "sign_with_root")),
  fun K => gloB K "lowered",
  fun K => PySem.W.keepIn K (.ref (He.ga K "lowered")),
  fun K => gloB K "inner_of",
  fun K => PySem.W.keepIn K (.ref (He.ga K "inner_of")),
  fun K => methB K (He.ga K "Edge") "__init__",
  fun K => PySem.W.isFn K (.ref (He.ma K (He.ga K "Edge") "__init__")),
  fun K => PySem.W.keepIn K (.ref (He.ma K (He.ga K "Edge") "__init__")),
  fun K => cmB K (He.ga K "Edge") "of",
  fun K => rcB K (cmA K (He.ga K "Edge") "of") "classmethod",
  fun K => PySem.W.fnIn K (rcA K (cmA K (He.ga K "Edge") "of") "classmethod"),
  fun K => PySem.W.keepIn K (.ref (rcA K (cmA K (He.ga K "Edge") "of") "classmethod")),
  fun K => cmB K (He.ga K "Edge") "zero",
  fun K => rcB K (cmA K (He.ga K "Edge") "zero") "classmethod",
  fun K => PySem.W.fnIn K (rcA K (cmA K (He.ga K "Edge") "zero") "classmethod"),
  fun K => PySem.W.keepIn K (.ref (rcA K (cmA K (He.ga K "Edge") "zero") "classmethod")),
  fun K => cmB K (He.ga K "Edge") "endless"]
def zf4 : List (PySem.W.Frag → Bool) := [fun K => rcB K (cmA K (He.ga K "Edge") "endless") "classmethod",
  fun K => PySem.W.fnIn K (rcA K (cmA K (He.ga K "Edge") "endless") "classmethod"),
  fun K => PySem.W.keepIn K (.ref (rcA K (cmA K (He.ga K "Edge") "endless") "classmethod")),
  fun K => methB K (He.ga K "Edge") "__eq__",
  fun K => PySem.W.isFn K (.ref (He.ma K (He.ga K "Edge") "__eq__")),
  fun K => PySem.W.keepIn K (.ref (He.ma K (He.ga K "Edge") "__eq__")),
  fun K => cmB K (He.ga K "Edge") "root",
  fun K => rcB K (cmA K (He.ga K "Edge") "root") "classmethod",
  fun K => PySem.W.fnIn K (rcA K (cmA K (He.ga K "Edge") "root") "classmethod"),
  fun K => PySem.W.keepIn K (.ref (rcA K (cmA K (He.ga K "Edge") "root") "classmethod")),
  fun K => gloB K "changed",
  fun K => PySem.W.keepIn K (.ref (He.ga K "changed")),
  fun K => gloB K "place_behind",
  fun K => PySem.W.keepIn K (.ref (He.ga K "place_behind")),
  fun K => methB K (He.ga K "Edge") "turned",
  fun K => decide (PySem.W.specialIn K (.ref (He.ma K (He.ga K "Edge") "turned")) "__get__" = some (some (.builtin "property.__get__"))),
  fun K => decide (PySem.W.takesIn K (.ref (He.ma K (He.ga K "Edge") "turned")) = some true),
  fun K => rcB K (He.ma K (He.ga K "Edge") "turned") "property",
  fun K => PySem.W.keepIn K (.ref (rcA K (He.ma K (He.ga K "Edge") "turned") "property")),
  fun K => methB K (He.ga K "Edge") "__rmul__",
  fun K => PySem.W.isFn K (.ref (He.ma K (He.ga K "Edge") "__rmul__")),
  fun K => PySem.W.keepIn K (.ref (He.ma K (He.ga K "Edge") "__rmul__")),
  fun K => gloB K "sign_with_roots",
  fun K => PySem.W.keepIn K (.ref (He.ga K "sign_with_roots")),
  fun K => gloB K "compared",
  fun K => PySem.W.keepIn K (.ref (He.ga K "compared")),
  fun K => methB K (He.ga K "Edge") "__lt__",
  fun K => PySem.W.isFn K (.ref (He.ma K (He.ga K "Edge") "__lt__")),
  fun K => PySem.W.keepIn K (.ref (He.ma K (He.ga K "Edge") "__lt__")),
  fun K => methB K (He.ga K "Edge") "__le__",
  fun K => PySem.W.isFn K (.ref (He.ma K (He.ga K "Edge") "__le__")),
  fun K => PySem.W.keepIn K (.ref (He.ma K (He.ga K "Edge") "__le__")),
  fun K => methB K (He.ga K "Edge") "__gt__",
  fun K => PySem.W.isFn K (.ref (He.ma K (He.ga K "Edge") "__gt__")),
  fun K => PySem.W.keepIn K (.ref (He.ma K (He.ga K "Edge") "__gt__")),
  fun K => gloB K "step",
  fun K => PySem.W.keepIn K (.ref (He.ga K "step")),
  fun K => gloB K "first_letters",
  fun K => PySem.W.keepIn K (.ref (He.ga K "first_letters")),
  fun K => gloB K "fixed"]
def zf5 : List (PySem.W.Frag → Bool) := [fun K => PySem.W.keepIn K (.ref (He.ga K "fixed")),
  fun K => methB K (He.ga K "Edge") "ratio",
  fun K => decide (PySem.W.specialIn K (.ref (He.ma K (He.ga K "Edge") "ratio")) "__get__" = some (some (.builtin "property.__get__"))),
  fun K => decide (PySem.W.takesIn K (.ref (He.ma K (He.ga K "Edge") "ratio")) = some true),
  fun K => rcB K (He.ma K (He.ga K "Edge") "ratio") "property",
  fun K => PySem.W.keepIn K (.ref (rcA K (He.ma K (He.ga K "Edge") "ratio") "property")),
  fun K => cmB K (He.ga K "Edge") "of_parts",
  fun K => rcB K (cmA K (He.ga K "Edge") "of_parts") "classmethod",
  fun K => PySem.W.fnIn K (rcA K (cmA K (He.ga K "Edge") "of_parts") "classmethod"),
  fun K => PySem.W.keepIn K (.ref (rcA K (cmA K (He.ga K "Edge") "of_parts") "classmethod")),
  fun K => methB K (He.ga K "Edge") "letters",
  fun K => PySem.W.isFn K (.ref (He.ma K (He.ga K "Edge") "letters")),
  fun K => PySem.W.keepIn K (.ref (He.ma K (He.ga K "Edge") "letters")),
  fun K => gloB K "_law_sign",
  fun K => PySem.W.keepIn K (.ref (He.ga K "_law_sign")),
  fun K => gloB K "_law_sign_root",
  fun K => PySem.W.keepIn K (.ref (He.ga K "_law_sign_root")),
  fun K => gloB K "_law_root",
  fun K => PySem.W.keepIn K (.ref (He.ga K "_law_root")),
  fun K => gloB K "_law_change",
  fun K => PySem.W.keepIn K (.ref (He.ga K "_law_change")),
  fun K => gloB K "_law_edge",
  fun K => PySem.W.keepIn K (.ref (He.ga K "_law_edge")),
  fun K => gloB K "_law_order",
  fun K => PySem.W.keepIn K (.ref (He.ga K "_law_order")),
  fun K => gloB K "_law_right",
  fun K => PySem.W.keepIn K (.ref (He.ga K "_law_right")),
  fun K => gloB K "law",
  fun K => PySem.W.keepIn K (.ref (He.ga K "law")),
  fun K => freeB K "NotImplemented",
  fun K => freeB K "ValueError",
  fun K => freeB K "abs",
  fun K => freeB K "all",
  fun K => freeB K "any",
  fun K => freeB K "bool",
  fun K => freeB K "enumerate",
  fun K => freeB K "int",
  fun K => freeB K "isinstance",
  fun K => freeB K "len",
  fun K => freeB K "list"]
def zf6 : List (PySem.W.Frag → Bool) := [fun K => freeB K "max",
  fun K => freeB K "min",
  fun K => freeB K "range",
  fun K => freeB K "repr",
  fun K => freeB K "sorted",
  fun K => freeB K "str",
  fun K => freeB K "sum",
  fun K => freeB K "tuple",
  fun K => freeB K "zip",
  fun K => decide (PySem.W.subIn K (.ref (He.ga K "Edge")) (.ref (He.ga K "Edge")) = some true),
  fun K => decide (PySem.W.subIn K (.ref (He.ga K "Edge")) (.ref (He.ga K "Change")) = some false),
  fun K => decide (PySem.W.subIn K (.ref (He.ga K "Edge")) (.ref (He.ga K "Ratio")) = some false),
  fun K => decide (PySem.W.typeIn K (.ref (He.ga K "Ratio")) = some (.type "type")),
  fun K => PySem.W.selfFirst K (He.ga K "Change"),
  fun K => PySem.W.selfFirst K (He.ga K "Edge"),
  fun K => decide (PySem.W.findIn K (.ref (He.ga K "Change")) "__rmul__" = some none),
  fun K => decide (PySem.W.findIn K (.ref (He.ga K "Edge")) "__mul__" = some none),
  fun K => decide (PySem.W.subIn K (.ref (He.ga K "Ratio")) (.ref (He.ga K "Change")) = some false),
  fun K => decide (PySem.W.subIn K (.ref (He.ga K "Ratio")) (.ref (He.ga K "Ratio")) = some true),
  fun K => gloB K "SAME",
  fun K => tupB K (He.ga K "SAME") (isInts [1, 0, 0, 1])]
def zfs : List (PySem.W.Frag → Bool) := zf0 ++ (zf1 ++ (zf2 ++ (zf3 ++ (zf4 ++ (zf5 ++ (zf6))))))
def zfF0 : List (PySem.W.Frag → Bool) := zf0 ++ (zf1 ++ (zf2 ++ (zf3)))
def zfF1 : List (PySem.W.Frag → Bool) := zf4 ++ (zf5 ++ (zf6))
theorem zfs_eq : zfs = List.flatten [zfF0, zfF1] := by rfl
def zfD0 : List FZ := [⟨fun K => (He.ga K "_law_take"), "_law_take", "_law_take", S__law_take⟩,
  ⟨fun K => (He.ga K "_law_box"), "_law_box", "_law_box", S__law_box⟩,
  ⟨fun K => (He.ga K "is_integer"), "is_integer", "is_integer", S_is_integer⟩,
  ⟨fun K => (He.ga K "is_length"), "is_length", "is_length", S_is_length⟩,
  ⟨fun K => (He.ga K "common_length"), "common_length", "common_length", S_common_length⟩,
  ⟨fun K => (He.ma K (He.ga K "InvalidWord") "__init__"), "__init__", "InvalidWord.__init__", S_InvalidWord__init_⟩,
  ⟨fun K => (He.ma K (He.ga K "InvalidRatio") "__init__"), "__init__", "InvalidRatio.__init__", S_InvalidRatio__init_⟩,
  ⟨fun K => (He.ma K (He.ga K "InvalidChange") "__init__"), "__init__", "InvalidChange.__init__", S_InvalidChange__init_⟩,
  ⟨fun K => (He.ma K (He.ga K "InvalidEdge") "__init__"), "__init__", "InvalidEdge.__init__", S_InvalidEdge__init_⟩,
  ⟨fun K => (He.ma K (He.ga K "Ratio") "__init__"), "__init__", "Ratio.__init__", S_Ratio__init_⟩,
  ⟨fun K => (He.ga K "need_word"), "need_word", "need_word", S_need_word⟩,
  ⟨fun K => (He.ga K "word_of_lengths"), "word_of_lengths", "word_of_lengths", S_word_of_lengths⟩,
  ⟨fun K => (rcA K (He.ma K (He.ga K "Ratio") "word") "property"), "word", "Ratio.word", S_Ratio_word⟩,
  ⟨fun K => (He.ga K "lengths_made"), "lengths_made", "lengths_made", S_lengths_made⟩,
  ⟨fun K => (He.ma K (He.ga K "Change") "__init__"), "__init__", "Change.__init__", S_Change__init_⟩,
  ⟨fun K => (He.ga K "numbers_joined"), "numbers_joined", "numbers_joined", S_numbers_joined⟩,
  ⟨fun K => (He.ga K "numbers_behind"), "numbers_behind", "numbers_behind", S_numbers_behind⟩,
  ⟨fun K => (He.ga K "numbers_of_word"), "numbers_of_word", "numbers_of_word", S_numbers_of_word⟩]
def zfD1 : List FZ := [⟨fun K => (rcA K (cmA K (He.ga K "Change") "of_word") "classmethod"), "of_word", "Change.of_word", S_Change_of_word⟩,
  ⟨fun K => (He.ma K (He.ga K "Change") "__mul__"), "__mul__", "Change.__mul__", S_Change__mul_⟩,
  ⟨fun K => (He.ga K "common"), "common", "common", S_common⟩,
  ⟨fun K => (He.ga K "sign_of"), "sign_of", "sign_of", S_sign_of⟩,
  ⟨fun K => (He.ga K "whole_root"), "whole_root", "whole_root", S_whole_root⟩,
  ⟨fun K => (He.ga K "sign_with_root"), "sign_with_root", "sign_with_root", S_sign_with_root⟩,
  ⟨fun K => (He.ga K "lowered"), "lowered", "lowered", S_lowered⟩,
  ⟨fun K => (He.ga K "inner_of"), "inner_of", "inner_of", S_inner_of⟩,
  ⟨fun K => (He.ma K (He.ga K "Edge") "__init__"), "__init__", "Edge.__init__", S_Edge__init_⟩,
  ⟨fun K => (rcA K (cmA K (He.ga K "Edge") "of") "classmethod"), "of", "Edge.of", S_Edge_of⟩,
  ⟨fun K => (rcA K (cmA K (He.ga K "Edge") "zero") "classmethod"), "zero", "Edge.zero", S_Edge_zero⟩,
  ⟨fun K => (rcA K (cmA K (He.ga K "Edge") "endless") "classmethod"), "endless", "Edge.endless", S_Edge_endless⟩,
  ⟨fun K => (He.ma K (He.ga K "Edge") "__eq__"), "__eq__", "Edge.__eq__", S_Edge__eq_⟩,
  ⟨fun K => (rcA K (cmA K (He.ga K "Edge") "root") "classmethod"), "root", "Edge.root", S_Edge_root⟩,
  ⟨fun K => (He.ga K "changed"), "changed", "changed", S_changed⟩,
  ⟨fun K => (He.ga K "place_behind"), "place_behind", "place_behind", S_place_behind⟩,
  ⟨fun K => (rcA K (He.ma K (He.ga K "Edge") "turned") "property"), "turned", "Edge.turned", S_Edge_turned⟩,
  ⟨fun K => (He.ma K (He.ga K "Edge") "__rmul__"), "__rmul__", "Edge.__rmul__", S_Edge__rmul_⟩]
def zfD2 : List FZ := [⟨fun K => (He.ga K "sign_with_roots"), "sign_with_roots", "sign_with_roots", S_sign_with_roots⟩,
  ⟨fun K => (He.ga K "compared"), "compared", "compared", S_compared⟩,
  ⟨fun K => (He.ma K (He.ga K "Edge") "__lt__"), "__lt__", "Edge.__lt__", S_Edge__lt_⟩,
  ⟨fun K => (He.ma K (He.ga K "Edge") "__le__"), "__le__", "Edge.__le__", S_Edge__le_⟩,
  ⟨fun K => (He.ma K (He.ga K "Edge") "__gt__"), "__gt__", "Edge.__gt__", S_Edge__gt_⟩,
  ⟨fun K => (He.ga K "step"), "step", "step", S_step⟩,
  ⟨fun K => (He.ga K "first_letters"), "first_letters", "first_letters", S_first_letters⟩,
  ⟨fun K => (He.ga K "fixed"), "fixed", "fixed", S_fixed⟩,
  ⟨fun K => (rcA K (He.ma K (He.ga K "Edge") "ratio") "property"), "ratio", "Edge.ratio", S_Edge_ratio⟩,
  ⟨fun K => (rcA K (cmA K (He.ga K "Edge") "of_parts") "classmethod"), "of_parts", "Edge.of_parts", S_Edge_of_parts⟩,
  ⟨fun K => (He.ma K (He.ga K "Edge") "letters"), "letters", "Edge.letters", S_Edge_letters⟩,
  ⟨fun K => (He.ga K "_law_sign"), "_law_sign", "_law_sign", S__law_sign⟩,
  ⟨fun K => (He.ga K "_law_sign_root"), "_law_sign_root", "_law_sign_root", S__law_sign_root⟩,
  ⟨fun K => (He.ga K "_law_root"), "_law_root", "_law_root", S__law_root⟩,
  ⟨fun K => (He.ga K "_law_change"), "_law_change", "_law_change", S__law_change⟩,
  ⟨fun K => (He.ga K "_law_edge"), "_law_edge", "_law_edge", S__law_edge⟩,
  ⟨fun K => (He.ga K "_law_order"), "_law_order", "_law_order", S__law_order⟩,
  ⟨fun K => (He.ga K "_law_right"), "_law_right", "_law_right", S__law_right⟩,
  ⟨fun K => (He.ga K "law"), "law", "law", S_law⟩]
def zfn : List FZ := [⟨fun K => (He.ga K "_law_take"), "_law_take", "_law_take", S__law_take⟩,
  ⟨fun K => (He.ga K "_law_box"), "_law_box", "_law_box", S__law_box⟩,
  ⟨fun K => (He.ga K "is_integer"), "is_integer", "is_integer", S_is_integer⟩,
  ⟨fun K => (He.ga K "is_length"), "is_length", "is_length", S_is_length⟩,
  ⟨fun K => (He.ga K "common_length"), "common_length", "common_length", S_common_length⟩,
  ⟨fun K => (He.ma K (He.ga K "InvalidWord") "__init__"), "__init__", "InvalidWord.__init__", S_InvalidWord__init_⟩,
  ⟨fun K => (He.ma K (He.ga K "InvalidRatio") "__init__"), "__init__", "InvalidRatio.__init__", S_InvalidRatio__init_⟩,
  ⟨fun K => (He.ma K (He.ga K "InvalidChange") "__init__"), "__init__", "InvalidChange.__init__", S_InvalidChange__init_⟩,
  ⟨fun K => (He.ma K (He.ga K "InvalidEdge") "__init__"), "__init__", "InvalidEdge.__init__", S_InvalidEdge__init_⟩,
  ⟨fun K => (He.ma K (He.ga K "Ratio") "__init__"), "__init__", "Ratio.__init__", S_Ratio__init_⟩,
  ⟨fun K => (He.ga K "need_word"), "need_word", "need_word", S_need_word⟩,
  ⟨fun K => (He.ga K "word_of_lengths"), "word_of_lengths", "word_of_lengths", S_word_of_lengths⟩,
  ⟨fun K => (rcA K (He.ma K (He.ga K "Ratio") "word") "property"), "word", "Ratio.word", S_Ratio_word⟩,
  ⟨fun K => (He.ga K "lengths_made"), "lengths_made", "lengths_made", S_lengths_made⟩,
  ⟨fun K => (He.ma K (He.ga K "Change") "__init__"), "__init__", "Change.__init__", S_Change__init_⟩,
  ⟨fun K => (He.ga K "numbers_joined"), "numbers_joined", "numbers_joined", S_numbers_joined⟩,
  ⟨fun K => (He.ga K "numbers_behind"), "numbers_behind", "numbers_behind", S_numbers_behind⟩,
  ⟨fun K => (He.ga K "numbers_of_word"), "numbers_of_word", "numbers_of_word", S_numbers_of_word⟩,
  ⟨fun K => (rcA K (cmA K (He.ga K "Change") "of_word") "classmethod"), "of_word", "Change.of_word", S_Change_of_word⟩,
  ⟨fun K => (He.ma K (He.ga K "Change") "__mul__"), "__mul__", "Change.__mul__", S_Change__mul_⟩,
  ⟨fun K => (He.ga K "common"), "common", "common", S_common⟩,
  ⟨fun K => (He.ga K "sign_of"), "sign_of", "sign_of", S_sign_of⟩,
  ⟨fun K => (He.ga K "whole_root"), "whole_root", "whole_root", S_whole_root⟩,
  ⟨fun K => (He.ga K "sign_with_root"), "sign_with_root", "sign_with_root", S_sign_with_root⟩,
  ⟨fun K => (He.ga K "lowered"), "lowered", "lowered", S_lowered⟩,
  ⟨fun K => (He.ga K "inner_of"), "inner_of", "inner_of", S_inner_of⟩,
  ⟨fun K => (He.ma K (He.ga K "Edge") "__init__"), "__init__", "Edge.__init__", S_Edge__init_⟩,
  ⟨fun K => (rcA K (cmA K (He.ga K "Edge") "of") "classmethod"), "of", "Edge.of", S_Edge_of⟩,
  ⟨fun K => (rcA K (cmA K (He.ga K "Edge") "zero") "classmethod"), "zero", "Edge.zero", S_Edge_zero⟩,
  ⟨fun K => (rcA K (cmA K (He.ga K "Edge") "endless") "classmethod"), "endless", "Edge.endless", S_Edge_endless⟩,
  ⟨fun K => (He.ma K (He.ga K "Edge") "__eq__"), "__eq__", "Edge.__eq__", S_Edge__eq_⟩,
  ⟨fun K => (rcA K (cmA K (He.ga K "Edge") "root") "classmethod"), "root", "Edge.root", S_Edge_root⟩,
  ⟨fun K => (He.ga K "changed"), "changed", "changed", S_changed⟩,
  ⟨fun K => (He.ga K "place_behind"), "place_behind", "place_behind", S_place_behind⟩,
  ⟨fun K => (rcA K (He.ma K (He.ga K "Edge") "turned") "property"), "turned", "Edge.turned", S_Edge_turned⟩,
  ⟨fun K => (He.ma K (He.ga K "Edge") "__rmul__"), "__rmul__", "Edge.__rmul__", S_Edge__rmul_⟩,
  ⟨fun K => (He.ga K "sign_with_roots"), "sign_with_roots", "sign_with_roots", S_sign_with_roots⟩,
  ⟨fun K => (He.ga K "compared"), "compared", "compared", S_compared⟩,
  ⟨fun K => (He.ma K (He.ga K "Edge") "__lt__"), "__lt__", "Edge.__lt__", S_Edge__lt_⟩,
  ⟨fun K => (He.ma K (He.ga K "Edge") "__le__"), "__le__", "Edge.__le__", S_Edge__le_⟩,
  ⟨fun K => (He.ma K (He.ga K "Edge") "__gt__"), "__gt__", "Edge.__gt__", S_Edge__gt_⟩,
  ⟨fun K => (He.ga K "step"), "step", "step", S_step⟩,
  ⟨fun K => (He.ga K "first_letters"), "first_letters", "first_letters", S_first_letters⟩,
  ⟨fun K => (He.ga K "fixed"), "fixed", "fixed", S_fixed⟩,
  ⟨fun K => (rcA K (He.ma K (He.ga K "Edge") "ratio") "property"), "ratio", "Edge.ratio", S_Edge_ratio⟩,
  ⟨fun K => (rcA K (cmA K (He.ga K "Edge") "of_parts") "classmethod"), "of_parts", "Edge.of_parts", S_Edge_of_parts⟩,
  ⟨fun K => (He.ma K (He.ga K "Edge") "letters"), "letters", "Edge.letters", S_Edge_letters⟩,
  ⟨fun K => (He.ga K "_law_sign"), "_law_sign", "_law_sign", S__law_sign⟩,
  ⟨fun K => (He.ga K "_law_sign_root"), "_law_sign_root", "_law_sign_root", S__law_sign_root⟩,
  ⟨fun K => (He.ga K "_law_root"), "_law_root", "_law_root", S__law_root⟩,
  ⟨fun K => (He.ga K "_law_change"), "_law_change", "_law_change", S__law_change⟩,
  ⟨fun K => (He.ga K "_law_edge"), "_law_edge", "_law_edge", S__law_edge⟩,
  ⟨fun K => (He.ga K "_law_order"), "_law_order", "_law_order", S__law_order⟩,
  ⟨fun K => (He.ga K "_law_right"), "_law_right", "_law_right", S__law_right⟩,
  ⟨fun K => (He.ga K "law"), "law", "law", S_law⟩]
theorem zfn_eq : zfn = List.flatten [zfD0, zfD1, zfD2] := by rfl
/-- the run looked at in parts -/
theorem zparts {S B : Type} {X : Option S} {lk : S → Bool} {sn : S → B} {Kf : S → PySem.W.Frag} {good : B} {fs : List (PySem.W.Frag → Bool)} {fn : List FZ} {Fs : List (List (PySem.W.Frag → Bool))} {Ds : List (List FZ)} (ef : fs = Fs.flatten) (ed : fn = Ds.flatten)
    (h1 : X.map (fun s => (lk s, sn s)) = some (true, good)) (h2 : ∀ F ∈ Fs, X.map (fun s => F.all fun f => f (Kf s)) = some true) (h3 : ∀ D ∈ Ds, X.map (fun s => (D.all (fun d => fzCode (Kf s) (d.at_ (Kf s)) d.qual), D.map fun d => fzObs (Kf s) (d.at_ (Kf s)))) = some (true, D.map FZ.val)) :
    X.map (fun s => (lk s, sn s, obsZ fs fn (Kf s))) = some (true, good, valZ fn) := by
  subst ef
  subst ed
  cases X with
  | none => cases h1
  | some s =>
    have e1 := Prod.mk.inj (Option.some.inj h1)
    have e2 : (Fs.flatten.all fun f => f (Kf s)) = true := by
      rw [List.all_eq_true]
      intro f hf
      obtain ⟨F, hF, hm⟩ := List.mem_flatten.mp hf
      exact List.all_eq_true.mp (Option.some.inj (h2 F hF)) f hm
    have e3 : (Ds.flatten.all fun d => fzCode (Kf s) (d.at_ (Kf s)) d.qual) = true := by
      rw [List.all_eq_true]
      intro d hd
      obtain ⟨D, hD, hm⟩ := List.mem_flatten.mp hd
      exact List.all_eq_true.mp (Prod.mk.inj (Option.some.inj (h3 D hD))).1 d hm
    have e4 : (Ds.flatten.map fun d => fzObs (Kf s) (d.at_ (Kf s))) = Ds.flatten.map FZ.val := List.map_congr_left fun d hd => by
      obtain ⟨D, hD, hm⟩ := List.mem_flatten.mp hd
      exact List.map_inj_left.mp (Prod.mk.inj (Option.some.inj (h3 D hD))).2 d hm
    show some (lk s, sn s, obsZ Fs.flatten Ds.flatten (Kf s)) = _
    unfold obsZ valZ
    rw [e1.1, e1.2, e2, e3, e4]
    rfl
def zl0 : List PySem.Str := ["_wall", "__name__", "UnmarkedError", "InvalidWord", "InvalidRatio", "InvalidChange", "InvalidEdge", "NoPair", "DIGITS", "MOST_DIGITS", "is_integer", "is_length", "need_word", "number_of", "common_length", "word_of_lengths", "Ratio", "SAME", "lengths_made", "numbers_behind", "numbers_of_word", "numbers_joined", "Change", "common", "sign_of", "whole_root", "sign_with_root", "sign_with_roots", "lowered", "inner_of"]
def zl1 : List PySem.Str := ["compared", "changed", "fixed", "step", "first_letters", "parts_of", "FIGURES", "integer_told", "root_told", "Edge", "place_behind", "_law_box", "_law_take", "_law_sign", "_law_sign_root", "_law_whole_root", "_law_is_square", "_law_gcd", "_law_root", "_law_fraction", "_law_is_same", "_law_is_least", "_law_change", "_law_edge", "_law_order", "_law_right"]
def zls : List PySem.Str := zl0 ++ (zl1)
abbrev zhk : PySem.W.Hook := hookZ 5 zfs zfn
def zob (s : PySem.W.SharedT) : AlZ := obsZG 5 zfs zfn (HandSHeadRun.getT s)
theorem zob_eq (s : PySem.W.SharedT) : zob s = zhk.obs s.abs := obsZG_eq (HandSHeadRun.getT_eq s)
abbrev zK (s : PySem.W.SharedT) : PySem.W.Frag := He.frG (HandSHeadRun.getT s) (asZ (HandSHeadRun.getT s) 5)
theorem zpair {S A B : Type} {X : Option S} {f : S → A} {g : S → B} {a : A} {b : B} (h1 : X.map f = some a) (h2 : X.map g = some b) : X.map (fun s => (f s, g s)) = some (a, b) := by
  cases X with
  | none => cases h1
  | some s => exact congrArg some (Prod.ext (Option.some.inj h1) (Option.some.inj h2))
open PySem.W PySem.Calls in
theorem zrunL (w : World) (os : OsState) : (HandSHeadRun.endF (HandSHeadRun.stepQ (HandSHeadRun.denQ HandSHeadRun.tabQ) (PySem.W.OpenLaw.row PySem.Challenge.rw_unmarked_k16_whole_order_of_changed_edge).prog w) 20000 (PySem.W.OpenLaw.row PySem.Challenge.rw_unmarked_k16_whole_order_of_changed_edge).prog w os).map (fun s => HandSHeadRun.looksF (PySem.W.OpenLaw.row PySem.Challenge.rw_unmarked_k16_whole_order_of_changed_edge).prog (boot_heap w.params) s.abs) = some true := by
  kernel_rfl
open PySem.W PySem.Calls in
theorem zrunS (w : World) (os : OsState) : (HandSHeadRun.endF (HandSHeadRun.stepQ (HandSHeadRun.denQ HandSHeadRun.tabQ) (PySem.W.OpenLaw.row PySem.Challenge.rw_unmarked_k16_whole_order_of_changed_edge).prog w) 20000 (PySem.W.OpenLaw.row PySem.Challenge.rw_unmarked_k16_whole_order_of_changed_edge).prog w os).map (fun s => HandSHeadRun.seenQ (view (PySem.W.OpenLaw.row PySem.Challenge.rw_unmarked_k16_whole_order_of_changed_edge).prog [62]) zls (importedModules (PySem.W.OpenLaw.row PySem.Challenge.rw_unmarked_k16_whole_order_of_changed_edge).prog.main.body) (fun s => xlAt (view (PySem.W.OpenLaw.row PySem.Challenge.rw_unmarked_k16_whole_order_of_changed_edge).prog [62]) [] s && recOk (PySem.W.OpenLaw.row PySem.Challenge.rw_unmarked_k16_whole_order_of_changed_edge).toRowW.records s) s.abs) = some (openGood (view (PySem.W.OpenLaw.row PySem.Challenge.rw_unmarked_k16_whole_order_of_changed_edge).prog [62]) zls) := by
  kernel_rfl
open PySem.W PySem.Calls in
theorem zrun1 (w : World) (os : OsState) : (HandSHeadRun.endF (HandSHeadRun.stepQ (HandSHeadRun.denQ HandSHeadRun.tabQ) (PySem.W.OpenLaw.row PySem.Challenge.rw_unmarked_k16_whole_order_of_changed_edge).prog w) 20000 (PySem.W.OpenLaw.row PySem.Challenge.rw_unmarked_k16_whole_order_of_changed_edge).prog w os).map (fun s => (HandSHeadRun.looksF (PySem.W.OpenLaw.row PySem.Challenge.rw_unmarked_k16_whole_order_of_changed_edge).prog (boot_heap w.params) s.abs, HandSHeadRun.seenQ (view (PySem.W.OpenLaw.row PySem.Challenge.rw_unmarked_k16_whole_order_of_changed_edge).prog [62]) zls (importedModules (PySem.W.OpenLaw.row PySem.Challenge.rw_unmarked_k16_whole_order_of_changed_edge).prog.main.body) (fun s => xlAt (view (PySem.W.OpenLaw.row PySem.Challenge.rw_unmarked_k16_whole_order_of_changed_edge).prog [62]) [] s && recOk (PySem.W.OpenLaw.row PySem.Challenge.rw_unmarked_k16_whole_order_of_changed_edge).toRowW.records s) s.abs)) = some (true, openGood (view (PySem.W.OpenLaw.row PySem.Challenge.rw_unmarked_k16_whole_order_of_changed_edge).prog [62]) zls) := zpair (zrunL w os) (zrunS w os)
theorem zrunF0 (w : World) (os : OsState) : (HandSHeadRun.endF (HandSHeadRun.stepQ (HandSHeadRun.denQ HandSHeadRun.tabQ) (PySem.W.OpenLaw.row PySem.Challenge.rw_unmarked_k16_whole_order_of_changed_edge).prog w) 20000 (PySem.W.OpenLaw.row PySem.Challenge.rw_unmarked_k16_whole_order_of_changed_edge).prog w os).map (fun s => zfF0.all fun f => f (zK s)) = some true := by
  kernel_rfl
theorem zrunF1 (w : World) (os : OsState) : (HandSHeadRun.endF (HandSHeadRun.stepQ (HandSHeadRun.denQ HandSHeadRun.tabQ) (PySem.W.OpenLaw.row PySem.Challenge.rw_unmarked_k16_whole_order_of_changed_edge).prog w) 20000 (PySem.W.OpenLaw.row PySem.Challenge.rw_unmarked_k16_whole_order_of_changed_edge).prog w os).map (fun s => zfF1.all fun f => f (zK s)) = some true := by
  kernel_rfl
theorem zrunD0 (w : World) (os : OsState) : (HandSHeadRun.endF (HandSHeadRun.stepQ (HandSHeadRun.denQ HandSHeadRun.tabQ) (PySem.W.OpenLaw.row PySem.Challenge.rw_unmarked_k16_whole_order_of_changed_edge).prog w) 20000 (PySem.W.OpenLaw.row PySem.Challenge.rw_unmarked_k16_whole_order_of_changed_edge).prog w os).map (fun s => (zfD0.all (fun d => fzCode (zK s) (d.at_ (zK s)) d.qual), zfD0.map fun d => fzObs (zK s) (d.at_ (zK s)))) = some (true, zfD0.map FZ.val) := by
  kernel_rfl
theorem zrunD1 (w : World) (os : OsState) : (HandSHeadRun.endF (HandSHeadRun.stepQ (HandSHeadRun.denQ HandSHeadRun.tabQ) (PySem.W.OpenLaw.row PySem.Challenge.rw_unmarked_k16_whole_order_of_changed_edge).prog w) 20000 (PySem.W.OpenLaw.row PySem.Challenge.rw_unmarked_k16_whole_order_of_changed_edge).prog w os).map (fun s => (zfD1.all (fun d => fzCode (zK s) (d.at_ (zK s)) d.qual), zfD1.map fun d => fzObs (zK s) (d.at_ (zK s)))) = some (true, zfD1.map FZ.val) := by
  kernel_rfl
theorem zrunD2 (w : World) (os : OsState) : (HandSHeadRun.endF (HandSHeadRun.stepQ (HandSHeadRun.denQ HandSHeadRun.tabQ) (PySem.W.OpenLaw.row PySem.Challenge.rw_unmarked_k16_whole_order_of_changed_edge).prog w) 20000 (PySem.W.OpenLaw.row PySem.Challenge.rw_unmarked_k16_whole_order_of_changed_edge).prog w os).map (fun s => (zfD2.all (fun d => fzCode (zK s) (d.at_ (zK s)) d.qual), zfD2.map fun d => fzObs (zK s) (d.at_ (zK s)))) = some (true, zfD2.map FZ.val) := by
  kernel_rfl
set_option maxHeartbeats 0 in
theorem zrun (w : World) : HandSHeadRun.RunEq (PySem.W.OpenLaw.row PySem.Challenge.rw_unmarked_k16_whole_order_of_changed_edge) (PySem.W.view (PySem.W.OpenLaw.row PySem.Challenge.rw_unmarked_k16_whole_order_of_changed_edge).prog [62]) zhk zob 20000 zls w := by
  intro os
  have h := zparts (Kf := zK) zfs_eq zfn_eq (zrun1 w os) (List.forall_mem_cons.mpr ⟨zrunF0 w os, (List.forall_mem_cons.mpr ⟨zrunF1 w os, (fun _ h => nomatch h)⟩)⟩) (List.forall_mem_cons.mpr ⟨zrunD0 w os, (List.forall_mem_cons.mpr ⟨zrunD1 w os, (List.forall_mem_cons.mpr ⟨zrunD2 w os, (fun _ h => nomatch h)⟩)⟩)⟩)
  exact h
theorem zfacts {w : World} {K : PySem.W.Frag} {h : Heap} {mg : Str → Option Value} {fa : Addr} (X : K.In h) (G : h.Ns mainGlobals mg) (hfa : mg "law" = some (.ref fa)) (c : SaysZ zfs zfn K) :
    ∃ fd : FuncData, (∀ (s : Shared) (v : Value), BindsTo s fd ⟨[v], []⟩ [("_law_script", v)]) ∧ ∀ base : Heap, K.In base → base.Ns mainGlobals mg → FnOk (PySem.Challenge.rw_unmarked_k16_whole_order_of_changed_edge).prog w K mg base CX0 10 fa fd ["_law_script"] (Lw.K16.sp_lawE K) := by
  obtain ⟨_, _, _, _, _, _, _, _, _, _, _, _, _, _, h_xInvalidWord⟩ := errB_ok (c.fact 5 rfl)
  obtain ⟨_, _, _, _, _, _, _, _, _, _, _, _, _, _, h_xInvalidRatio⟩ := errB_ok (c.fact 11 rfl)
  obtain ⟨_, _, _, _, _, _, _, _, _, _, _, _, _, _, h_xInvalidChange⟩ := errB_ok (c.fact 17 rfl)
  obtain ⟨_, _, _, _, _, _, _, _, _, _, _, _, _, _, h_xInvalidEdge⟩ := errB_ok (c.fact 23 rfl)
  obtain ⟨_, _, _, _, _, _, _, _, _, h_l1, h_c1⟩ := c.def_ 0 rfl
  obtain ⟨_, _, _, _, _, _, _, _, _, h_l2, h_c2⟩ := c.def_ 1 rfl
  obtain ⟨_, _, _, _, _, _, _, _, _, h_l3, h_c3⟩ := c.def_ 2 rfl
  obtain ⟨_, _, _, _, _, _, _, _, _, h_l4, h_c4⟩ := c.def_ 3 rfl
  obtain ⟨_, _, _, _, _, _, _, _, _, h_l5, h_c5⟩ := c.def_ 4 rfl
  obtain ⟨_, _, _, _, _, _, _, _, _, h_l6, h_c6⟩ := c.def_ 5 rfl
  obtain ⟨_, _, _, _, _, _, _, _, _, h_l7, h_c7⟩ := c.def_ 6 rfl
  obtain ⟨_, _, _, _, _, _, _, _, _, h_l8, h_c8⟩ := c.def_ 7 rfl
  obtain ⟨_, _, _, _, _, _, _, _, _, h_l9, h_c9⟩ := c.def_ 8 rfl
  obtain ⟨_, _, _, _, _, _, _, _, _, h_l10, h_c10⟩ := c.def_ 9 rfl
  obtain ⟨_, _, _, _, _, _, _, _, _, h_l11, h_c11⟩ := c.def_ 10 rfl
  obtain ⟨_, _, _, _, _, _, _, _, _, h_l12, h_c12⟩ := c.def_ 11 rfl
  obtain ⟨_, h_r13⟩ := rcB_ok (c.fact 116 rfl)
  obtain ⟨_, _, _, _, _, _, _, _, _, h_l13, h_c13⟩ := c.def_ 12 rfl
  obtain ⟨_, _, _, _, _, _, _, _, _, h_l14, h_c14⟩ := c.def_ 13 rfl
  obtain ⟨_, _, _, _, _, _, _, _, _, h_l15, h_c15⟩ := c.def_ 14 rfl
  obtain ⟨_, _, _, _, _, _, _, _, _, h_l16, h_c16⟩ := c.def_ 15 rfl
  obtain ⟨_, _, _, _, _, _, _, _, _, h_l17, h_c17⟩ := c.def_ 16 rfl
  obtain ⟨_, _, _, _, _, _, _, _, _, h_l18, h_c18⟩ := c.def_ 17 rfl
  obtain ⟨_, h_r19⟩ := rcB_ok (c.fact 130 rfl)
  obtain ⟨_, _, _, _, _, _, _, _, _, h_l19, h_c19⟩ := c.def_ 18 rfl
  obtain ⟨_, _, _, _, _, _, _, _, _, h_l20, h_c20⟩ := c.def_ 19 rfl
  obtain ⟨_, _, _, _, _, _, _, _, _, h_l21, h_c21⟩ := c.def_ 20 rfl
  obtain ⟨_, _, _, _, _, _, _, _, _, h_l22, h_c22⟩ := c.def_ 21 rfl
  obtain ⟨_, _, _, _, _, _, _, _, _, h_l23, h_c23⟩ := c.def_ 22 rfl
  obtain ⟨_, _, _, _, _, _, _, _, _, h_l24, h_c24⟩ := c.def_ 23 rfl
  obtain ⟨_, _, _, _, _, _, _, _, _, h_l25, h_c25⟩ := c.def_ 24 rfl
  obtain ⟨_, _, _, _, _, _, _, _, _, h_l26, h_c26⟩ := c.def_ 25 rfl
  obtain ⟨_, _, _, _, _, _, _, _, _, h_l27, h_c27⟩ := c.def_ 26 rfl
  obtain ⟨_, h_r28⟩ := rcB_ok (c.fact 152 rfl)
  obtain ⟨_, _, _, _, _, _, _, _, _, h_l28, h_c28⟩ := c.def_ 27 rfl
  obtain ⟨_, h_r29⟩ := rcB_ok (c.fact 156 rfl)
  obtain ⟨_, _, _, _, _, _, _, _, _, h_l29, h_c29⟩ := c.def_ 28 rfl
  obtain ⟨_, h_r30⟩ := rcB_ok (c.fact 160 rfl)
  obtain ⟨_, _, _, _, _, _, _, _, _, h_l30, h_c30⟩ := c.def_ 29 rfl
  obtain ⟨_, _, _, _, _, _, _, _, _, h_l31, h_c31⟩ := c.def_ 30 rfl
  obtain ⟨_, h_r32⟩ := rcB_ok (c.fact 167 rfl)
  obtain ⟨_, _, _, _, _, _, _, _, _, h_l32, h_c32⟩ := c.def_ 31 rfl
  obtain ⟨_, _, _, _, _, _, _, _, _, h_l33, h_c33⟩ := c.def_ 32 rfl
  obtain ⟨_, _, _, _, _, _, _, _, _, h_l34, h_c34⟩ := c.def_ 33 rfl
  obtain ⟨_, h_r35⟩ := rcB_ok (c.fact 177 rfl)
  obtain ⟨_, _, _, _, _, _, _, _, _, h_l35, h_c35⟩ := c.def_ 34 rfl
  obtain ⟨_, _, _, _, _, _, _, _, _, h_l36, h_c36⟩ := c.def_ 35 rfl
  obtain ⟨_, _, _, _, _, _, _, _, _, h_l37, h_c37⟩ := c.def_ 36 rfl
  obtain ⟨_, _, _, _, _, _, _, _, _, h_l38, h_c38⟩ := c.def_ 37 rfl
  obtain ⟨_, _, _, _, _, _, _, _, _, h_l39, h_c39⟩ := c.def_ 38 rfl
  obtain ⟨_, _, _, _, _, _, _, _, _, h_l40, h_c40⟩ := c.def_ 39 rfl
  obtain ⟨_, _, _, _, _, _, _, _, _, h_l41, h_c41⟩ := c.def_ 40 rfl
  obtain ⟨_, _, _, _, _, _, _, _, _, h_l42, h_c42⟩ := c.def_ 41 rfl
  obtain ⟨_, _, _, _, _, _, _, _, _, h_l43, h_c43⟩ := c.def_ 42 rfl
  obtain ⟨_, _, _, _, _, _, _, _, _, h_l44, h_c44⟩ := c.def_ 43 rfl
  obtain ⟨_, h_r45⟩ := rcB_ok (c.fact 204 rfl)
  obtain ⟨_, _, _, _, _, _, _, _, _, h_l45, h_c45⟩ := c.def_ 44 rfl
  obtain ⟨_, h_r46⟩ := rcB_ok (c.fact 207 rfl)
  obtain ⟨_, _, _, _, _, _, _, _, _, h_l46, h_c46⟩ := c.def_ 45 rfl
  obtain ⟨_, _, _, _, _, _, _, _, _, h_l47, h_c47⟩ := c.def_ 46 rfl
  obtain ⟨_, _, _, _, _, _, _, _, _, h_l48, h_c48⟩ := c.def_ 47 rfl
  obtain ⟨_, _, _, _, _, _, _, _, _, h_l49, h_c49⟩ := c.def_ 48 rfl
  obtain ⟨_, _, _, _, _, _, _, _, _, h_l50, h_c50⟩ := c.def_ 49 rfl
  obtain ⟨_, _, _, _, _, _, _, _, _, h_l51, h_c51⟩ := c.def_ 50 rfl
  obtain ⟨_, _, _, _, _, _, _, _, _, h_l52, h_c52⟩ := c.def_ 51 rfl
  obtain ⟨_, _, _, _, _, _, _, _, _, h_l53, h_c53⟩ := c.def_ 52 rfl
  obtain ⟨_, _, _, _, _, _, _, _, _, h_l54, h_c54⟩ := c.def_ 53 rfl
  obtain ⟨_, _, _, _, _, _, _, _, _, h_l55, h_c55⟩ := c.def_ 54 rfl
  obtain ⟨_, _, _, _, _, _, _, h_same1⟩ := ints4_ok (c.fact 260 rfl)
  exact all_mk X G hfa
    (gloB_ok (c.fact 0 rfl))
    (c.fact 1 rfl)
    (of_decide_eq_true (c.fact 2 rfl))
    (clsB_ok (c.fact 3 rfl))
    (gloB_ok (c.fact 4 rfl))
    h_xInvalidWord
    (of_decide_eq_true (c.fact 6 rfl))
    (of_decide_eq_true (c.fact 7 rfl))
    (of_decide_eq_true (c.fact 8 rfl))
    (c.fact 9 rfl)
    (gloB_ok (c.fact 10 rfl))
    h_xInvalidRatio
    (of_decide_eq_true (c.fact 12 rfl))
    (of_decide_eq_true (c.fact 13 rfl))
    (of_decide_eq_true (c.fact 14 rfl))
    (c.fact 15 rfl)
    (gloB_ok (c.fact 16 rfl))
    h_xInvalidChange
    (of_decide_eq_true (c.fact 18 rfl))
    (of_decide_eq_true (c.fact 19 rfl))
    (of_decide_eq_true (c.fact 20 rfl))
    (c.fact 21 rfl)
    (gloB_ok (c.fact 22 rfl))
    h_xInvalidEdge
    (of_decide_eq_true (c.fact 24 rfl))
    (of_decide_eq_true (c.fact 25 rfl))
    (of_decide_eq_true (c.fact 26 rfl))
    (c.fact 27 rfl)
    (c.fact 28 rfl)
    (of_decide_eq_true (c.fact 29 rfl))
    (of_decide_eq_true (c.fact 30 rfl))
    (c.fact 31 rfl)
    (c.fact 32 rfl)
    (c.fact 33 rfl)
    (c.fact 34 rfl)
    (gloB_ok (c.fact 35 rfl))
    (c.fact 36 rfl)
    (c.fact 37 rfl)
    (c.fact 38 rfl)
    (of_decide_eq_true (c.fact 39 rfl))
    (c.fact 40 rfl)
    (c.fact 41 rfl)
    (of_decide_eq_true (c.fact 42 rfl))
    (of_decide_eq_true (c.fact 43 rfl))
    (of_decide_eq_true (c.fact 44 rfl))
    (of_decide_eq_true (c.fact 45 rfl))
    (of_decide_eq_true (c.fact 46 rfl))
    (of_decide_eq_true (c.fact 47 rfl))
    (c.fact 48 rfl)
    (of_decide_eq_true (c.fact 49 rfl))
    (of_decide_eq_true (c.fact 50 rfl))
    (gloB_ok (c.fact 51 rfl))
    (c.fact 52 rfl)
    (c.fact 53 rfl)
    (c.fact 54 rfl)
    (of_decide_eq_true (c.fact 55 rfl))
    (c.fact 56 rfl)
    (c.fact 57 rfl)
    (of_decide_eq_true (c.fact 58 rfl))
    (of_decide_eq_true (c.fact 43 rfl))
    (of_decide_eq_true (c.fact 44 rfl))
    (of_decide_eq_true (c.fact 59 rfl))
    (c.fact 60 rfl)
    (of_decide_eq_true (c.fact 61 rfl))
    (of_decide_eq_true (c.fact 62 rfl))
    (of_decide_eq_true (c.fact 63 rfl))
    (c.fact 64 rfl)
    (of_decide_eq_true (c.fact 65 rfl))
    (of_decide_eq_true (c.fact 66 rfl))
    (of_decide_eq_true (c.fact 67 rfl))
    (gloB_ok (c.fact 68 rfl))
    (c.fact 69 rfl)
    (c.fact 70 rfl)
    (c.fact 71 rfl)
    (of_decide_eq_true (c.fact 72 rfl))
    (c.fact 73 rfl)
    (c.fact 74 rfl)
    (of_decide_eq_true (c.fact 75 rfl))
    (of_decide_eq_true (c.fact 43 rfl))
    (of_decide_eq_true (c.fact 44 rfl))
    (of_decide_eq_true (c.fact 76 rfl))
    (c.fact 77 rfl)
    (of_decide_eq_true (c.fact 78 rfl))
    (of_decide_eq_true (c.fact 79 rfl))
    (of_decide_eq_true (c.fact 80 rfl))
    (c.fact 81 rfl)
    (of_decide_eq_true (c.fact 82 rfl))
    (of_decide_eq_true (c.fact 83 rfl))
    (gloB_ok (c.fact 84 rfl))
    h_l1
    h_c1
    (c.fact 85 rfl)
    (gloB_ok (c.fact 86 rfl))
    h_l2
    h_c2
    (c.fact 87 rfl)
    (gloB_ok (c.fact 88 rfl))
    h_l3
    h_c3
    (c.fact 89 rfl)
    (gloB_ok (c.fact 90 rfl))
    h_l4
    h_c4
    (c.fact 91 rfl)
    (gloB_ok (c.fact 92 rfl))
    h_l5
    h_c5
    (c.fact 93 rfl)
    (methB_ok (c.fact 94 rfl))
    (of_decide_eq_true (c.fact 95 rfl))
    h_l6
    h_c6
    (c.fact 96 rfl)
    (methB_ok (c.fact 97 rfl))
    (of_decide_eq_true (c.fact 98 rfl))
    h_l7
    h_c7
    (c.fact 99 rfl)
    (methB_ok (c.fact 100 rfl))
    (of_decide_eq_true (c.fact 101 rfl))
    h_l8
    h_c8
    (c.fact 102 rfl)
    (methB_ok (c.fact 103 rfl))
    (of_decide_eq_true (c.fact 104 rfl))
    h_l9
    h_c9
    (c.fact 105 rfl)
    (methB_ok (c.fact 106 rfl))
    (c.fact 107 rfl)
    h_l10
    h_c10
    (c.fact 108 rfl)
    (gloB_ok (c.fact 109 rfl))
    h_l11
    h_c11
    (c.fact 110 rfl)
    (gloB_ok (c.fact 111 rfl))
    h_l12
    h_c12
    (c.fact 112 rfl)
    (methB_ok (c.fact 113 rfl))
    (of_decide_eq_true (c.fact 114 rfl))
    (of_decide_eq_true (c.fact 115 rfl))
    h_r13
    h_l13
    h_c13
    (c.fact 117 rfl)
    (gloB_ok (c.fact 118 rfl))
    h_l14
    h_c14
    (c.fact 119 rfl)
    (methB_ok (c.fact 120 rfl))
    (c.fact 121 rfl)
    h_l15
    h_c15
    (c.fact 122 rfl)
    (gloB_ok (c.fact 123 rfl))
    h_l16
    h_c16
    (c.fact 124 rfl)
    (gloB_ok (c.fact 125 rfl))
    h_l17
    h_c17
    (c.fact 126 rfl)
    (gloB_ok (c.fact 127 rfl))
    h_l18
    h_c18
    (c.fact 128 rfl)
    (cmB_ok (c.fact 129 rfl))
    h_r19
    (c.fact 131 rfl)
    h_l19
    h_c19
    (c.fact 132 rfl)
    (methB_ok (c.fact 133 rfl))
    (c.fact 134 rfl)
    h_l20
    h_c20
    (c.fact 135 rfl)
    (gloB_ok (c.fact 136 rfl))
    h_l21
    h_c21
    (c.fact 137 rfl)
    (gloB_ok (c.fact 138 rfl))
    h_l22
    h_c22
    (c.fact 139 rfl)
    (gloB_ok (c.fact 140 rfl))
    h_l23
    h_c23
    (c.fact 141 rfl)
    (gloB_ok (c.fact 142 rfl))
    h_l24
    h_c24
    (c.fact 143 rfl)
    (gloB_ok (c.fact 144 rfl))
    h_l25
    h_c25
    (c.fact 145 rfl)
    (gloB_ok (c.fact 146 rfl))
    h_l26
    h_c26
    (c.fact 147 rfl)
    (methB_ok (c.fact 148 rfl))
    (c.fact 149 rfl)
    h_l27
    h_c27
    (c.fact 150 rfl)
    (cmB_ok (c.fact 151 rfl))
    h_r28
    (c.fact 153 rfl)
    h_l28
    h_c28
    (c.fact 154 rfl)
    (cmB_ok (c.fact 155 rfl))
    h_r29
    (c.fact 157 rfl)
    h_l29
    h_c29
    (c.fact 158 rfl)
    (cmB_ok (c.fact 159 rfl))
    h_r30
    (c.fact 161 rfl)
    h_l30
    h_c30
    (c.fact 162 rfl)
    (methB_ok (c.fact 163 rfl))
    (c.fact 164 rfl)
    h_l31
    h_c31
    (c.fact 165 rfl)
    (cmB_ok (c.fact 166 rfl))
    h_r32
    (c.fact 168 rfl)
    h_l32
    h_c32
    (c.fact 169 rfl)
    (gloB_ok (c.fact 170 rfl))
    h_l33
    h_c33
    (c.fact 171 rfl)
    (gloB_ok (c.fact 172 rfl))
    h_l34
    h_c34
    (c.fact 173 rfl)
    (methB_ok (c.fact 174 rfl))
    (of_decide_eq_true (c.fact 175 rfl))
    (of_decide_eq_true (c.fact 176 rfl))
    h_r35
    h_l35
    h_c35
    (c.fact 178 rfl)
    (methB_ok (c.fact 179 rfl))
    (c.fact 180 rfl)
    h_l36
    h_c36
    (c.fact 181 rfl)
    (gloB_ok (c.fact 182 rfl))
    h_l37
    h_c37
    (c.fact 183 rfl)
    (gloB_ok (c.fact 184 rfl))
    h_l38
    h_c38
    (c.fact 185 rfl)
    (methB_ok (c.fact 186 rfl))
    (c.fact 187 rfl)
    h_l39
    h_c39
    (c.fact 188 rfl)
    (methB_ok (c.fact 189 rfl))
    (c.fact 190 rfl)
    h_l40
    h_c40
    (c.fact 191 rfl)
    (methB_ok (c.fact 192 rfl))
    (c.fact 193 rfl)
    h_l41
    h_c41
    (c.fact 194 rfl)
    (gloB_ok (c.fact 195 rfl))
    h_l42
    h_c42
    (c.fact 196 rfl)
    (gloB_ok (c.fact 197 rfl))
    h_l43
    h_c43
    (c.fact 198 rfl)
    (gloB_ok (c.fact 199 rfl))
    h_l44
    h_c44
    (c.fact 200 rfl)
    (methB_ok (c.fact 201 rfl))
    (of_decide_eq_true (c.fact 202 rfl))
    (of_decide_eq_true (c.fact 203 rfl))
    h_r45
    h_l45
    h_c45
    (c.fact 205 rfl)
    (cmB_ok (c.fact 206 rfl))
    h_r46
    (c.fact 208 rfl)
    h_l46
    h_c46
    (c.fact 209 rfl)
    (methB_ok (c.fact 210 rfl))
    (c.fact 211 rfl)
    h_l47
    h_c47
    (c.fact 212 rfl)
    (gloB_ok (c.fact 213 rfl))
    h_l48
    h_c48
    (c.fact 214 rfl)
    (gloB_ok (c.fact 215 rfl))
    h_l49
    h_c49
    (c.fact 216 rfl)
    (gloB_ok (c.fact 217 rfl))
    h_l50
    h_c50
    (c.fact 218 rfl)
    (gloB_ok (c.fact 219 rfl))
    h_l51
    h_c51
    (c.fact 220 rfl)
    (gloB_ok (c.fact 221 rfl))
    h_l52
    h_c52
    (c.fact 222 rfl)
    (gloB_ok (c.fact 223 rfl))
    h_l53
    h_c53
    (c.fact 224 rfl)
    (gloB_ok (c.fact 225 rfl))
    h_l54
    h_c54
    (c.fact 226 rfl)
    (gloB_ok (c.fact 227 rfl))
    h_l55
    h_c55
    (c.fact 228 rfl)
    (freeB_ok (c.fact 229 rfl))
    (freeB_ok (c.fact 230 rfl))
    (freeB_ok (c.fact 231 rfl))
    (freeB_ok (c.fact 232 rfl))
    (freeB_ok (c.fact 233 rfl))
    (freeB_ok (c.fact 234 rfl))
    (freeB_ok (c.fact 235 rfl))
    (freeB_ok (c.fact 236 rfl))
    (freeB_ok (c.fact 237 rfl))
    (freeB_ok (c.fact 238 rfl))
    (freeB_ok (c.fact 239 rfl))
    (freeB_ok (c.fact 240 rfl))
    (freeB_ok (c.fact 241 rfl))
    (freeB_ok (c.fact 242 rfl))
    (freeB_ok (c.fact 243 rfl))
    (freeB_ok (c.fact 244 rfl))
    (freeB_ok (c.fact 245 rfl))
    (freeB_ok (c.fact 246 rfl))
    (freeB_ok (c.fact 247 rfl))
    (freeB_ok (c.fact 248 rfl))
    (of_decide_eq_true (c.fact 249 rfl))
    (of_decide_eq_true (c.fact 250 rfl))
    (of_decide_eq_true (c.fact 251 rfl))
    (of_decide_eq_true (c.fact 252 rfl))
    (c.fact 253 rfl)
    (c.fact 254 rfl)
    (of_decide_eq_true (c.fact 255 rfl))
    (of_decide_eq_true (c.fact 256 rfl))
    (of_decide_eq_true (c.fact 257 rfl))
    (of_decide_eq_true (c.fact 258 rfl))
    (gloB_ok (c.fact 259 rfl))
    h_same1
end Lw
open PySem PySem.W PyProof.Rows in
set_option maxRecDepth 100000 in
set_option maxHeartbeats 0 in
theorem PySem.Challenge.cw_unmarked_k16_whole_order_of_changed_edge_holds : PySem.Challenge.rw_unmarked_k16_whole_order_of_changed_edge.Holds := by
  w_on; o_law
  refine HandSHeadRun.head_any (r := (PySem.W.OpenLaw.row PySem.Challenge.rw_unmarked_k16_whole_order_of_changed_edge)) (q := view (PySem.W.OpenLaw.row PySem.Challenge.rw_unmarked_k16_whole_order_of_changed_edge).prog [62]) (H := Lw.zhk) (ob := Lw.zob) (M := 20000) (loose := Lw.zls) (d := (HandSHeadRun.topDef (PySem.W.OpenLaw.row PySem.Challenge.rw_unmarked_k16_whole_order_of_changed_edge).prog 62)) (kwd := []) Lw.zob_eq
    (by kernel_rfl) (fun s => by kernel_rfl) Lw.zrun (by kernel_rfl) (by kernel_rfl) (by kernel_rfl) (by rfl) (by first | assumption | decide +kernel) (by decide +kernel) ⟨rfl, rfl, rfl, rfl, rfl, by decide +kernel⟩ ?hw ?hc
  case hw => w_witness2
  case hc =>
    refine L2.walk_ofE (l := PySem.Challenge.rw_unmarked_k16_whole_order_of_changed_edge) (n := 63) (k := 10) (x := "_law_script") (CX := L2.CX0) rfl (by decide) (by kernel_rfl) ⟨rfl, by decide, by decide⟩ ?F (fun _ _ _ _ z => z)
    intro w mg fa h Y G hmg0
    obtain ⟨K, KX, c⟩ := Y
    have hmg : mg ("law" : PySem.Str) = some (.ref fa) := by
      have e : (HandSHeadRun.topDef (PySem.W.OpenLaw.row PySem.Challenge.rw_unmarked_k16_whole_order_of_changed_edge).prog 62).name = ("law" : PySem.Str) := by kernel_rfl
      rw [← e]
      exact hmg0
    obtain ⟨fd, hb, hF⟩ := Lw.zfacts (w := w) KX G hmg c
    exact ⟨K, fd, Lw.K16.sp_lawE K, KX, hb, fun H a ns hl _ hS => ⟨a, ns, rfl, hS, hl, fun _ => rfl⟩, hF⟩
#print axioms PySem.Challenge.cw_unmarked_k16_whole_order_of_changed_edge_holds
