import PyProof.Rows.All
import Wide.All
import OpenK.AllK
import Wide.FinOn
import HandS.ForMost
import HandS.Wide
import HandS.IsInst
import HandS.Style
import HandS.FStr
import HandS.Property
import HandS.SlotsOwn
import HandS.ClsMeth
import HandS.NoneIn
import HandS.Codes
import HandS.Walk
import HandS.ExcInit
import HandS.ExcIs
import HandS.ExcOwn
import HandS.ExcField
import HandS.TryMany
import HandS.WordsExc
import HandS.ExcBuiltin
import HandS.MakeKw
import HandS.MakeKwOnly
import HandS.TryOnly
import PyProof.ReprLen
import KE.KOpsOwn
import HandS.TupAny
import HandS.DictTup
import HandS.DictComp
import KE.KDictDisplayH
import PyProof.Rows.SeqRoads
import HandS.Replace
import HandS.Deep
import KE.GoesMore
import KE.GoesEnum
import HandS.SetFor
import HandS.Star
import HandS.HeadEnd
import HandS.HeadHook2
import HandS.Head2
import HandS.CallSlots
import KE.KExcIs
import PySem.Challenge.RW_unmarked_k13_endless_words
set_option Elab.async false
set_option linter.all false
set_option maxRecDepth 100000
set_option maxHeartbeats 4000000
namespace Kb
open PySem PySem.Spec PyProof.Rows L2

theorem ifT {c : Bool} {A B : Prop} (hc : c = true) (h : A) : if c = true then A else B := by rw [if_pos hc]; exact h
theorem ifF {c : Bool} {A B : Prop} (hc : c = false) (h : B) : if c = true then A else B := by rw [hc, if_neg Bool.false_ne_true]; exact h
/-! ### a statement, then the rest, joined by a word -/
def tMid (t u : TS) : TS := fun D σ H => ∃ M : L2.St → Hp → Prop, t { D with nx := M } σ H ∧ ∀ σ1 H1, M σ1 H1 → u D σ1 H1
theorem pss_mid {X : Cx} {st : Stmt} {rest : List Stmt} {t u : TS} (a : PS X st t) (b : PSs X rest u) : PSs X (st :: rest) (tMid t u) := by
  refine ⟨fun pins s σ H D I ⟨M, hm, hu⟩ => ?_⟩
  refine wpAny_execs_cons (thn (a.run pins s σ H { D with nx := M } I hm) fun fl s1 z => ?_)
  cases fl with
  | next =>
    obtain ⟨σ1, H1, I1, z⟩ := z
    exact b.run pins s1 σ1 H1 D I1 (hu σ1 H1 z)
  | ret v => exact z
  | brk => exact z
  | cont => exact z
/-! ### what a comprehension's reading asks behind its source -/
def LcR (J : It) (g : TG) (tt : TT) (te : TE) (vs : List Nat) (σ : L2.St) (H1 : Hp) (D : Addr) (Qd : Hp → Prop) : Prop := ∃ W : Nat → Nat → Hp → Prop, (∃ m, W 0 m (upd H1 D (.lst []))) ∧ ∀ i m H, W i m H →
  (J.stop i H ∧ Qd H) ∨ (J.go i H ∧ ∃ Nx : Hp → Prop, (∀ H', Nx H' → ∃ m', m' < m ∧ W (i + 1) m' H') ∧ ∀ x H', J.yld i H x H' → g x (wipe σ vs) H' fun σ2 H2 => wipe σ2 vs = wipe σ vs ∧ tt σ2 H2 fun b H3 =>
    if b = true then te σ2 H3 fun y H4 => ∃ acc, H4 D = some (.lst acc) ∧ acc.length < sizeLine ∧ Nx (upd H4 D (.lst (acc ++ [y]))) else Nx H3)
theorem gName_mono (i : Nat) : ∀ (x : V) (σ : L2.St) (H : Hp) (Q Q' : L2.St → Hp → Prop), (∀ σ2 H2, Q σ2 H2 → Q' σ2 H2) → gName i x σ H Q → gName i x σ H Q' := fun _ _ _ _ _ h q => h _ _ q
theorem szl {n : Nat} (h : n ≤ 1000000) : n ≤ sizeLine := Nat.le_trans h (by decide)
theorem szs {n : Nat} (h : n ≤ 1000000) : n < sizeLine := Nat.lt_of_le_of_lt h (by decide)
/-! ### rules that name the written part: for blocks of comprehensions -/
section
variable {X : Cx} {K : PySem.W.Frag}
end
/-! ### a comprehension over a text -/
theorem lcR_str {z : Str} {g : TG} {te : TE} {vs : List Nat} {σ : L2.St} {H1 : Hp} {D : Addr} {Qd : Hp → Prop} (M : Nat → Hp → Prop) (h0 : M 0 (upd H1 D (.lst [])))
    (hs : ∀ i c H, i < z.cps.size → z.cps[i]? = some c → M i H → g (.str ⟨#[c]⟩) (wipe σ vs) H fun σ2 H2 => wipe σ2 vs = wipe σ vs ∧ te σ2 H2 fun y H4 => ∃ acc, H4 D = some (.lst acc) ∧ acc.length < sizeLine ∧ M (i + 1) (upd H4 D (.lst (acc ++ [y]))))
    (hm : ∀ x σ H Q Q', (∀ σ2 H2, Q σ2 H2 → Q' σ2 H2) → g x σ H Q → g x σ H Q') (hd : ∀ H, M z.cps.size H → Qd H) : LcR (Its z) g tYes te vs σ H1 D Qd :=
  lc_it walk_str M h0 (fun _ _ _ _ => trivial) (fun i x H H' hi m y => by
    obtain ⟨e, c, hc, ex⟩ := y
    subst e; subst ex
    exact hm _ _ _ _ _ (fun σ2 H2 z => ⟨z.1, ifT (B := M (i + 1) H2) rfl z.2⟩) (hs i c _ hi hc m)) hd
/-! ### a comprehension whose every turn makes one object -/
theorem kit_self (K : PySem.W.Frag) (t : Value) (h : (t == t) = true) : PySem.W.kitOne K t t = some true := by
  unfold PySem.W.kitOne
  rw [if_pos h]
/-! ### int of an int, of a truth -/
theorem call_intI {X : Cx} : CallR X (.type "int") (fun xs H Q => ∃ i, xs = [.int i] ∧ Q (.int i) H) := fun pins s σ H xs us Q I r h => call_int1 pins s σ H xs us Q I r (.inl h)
theorem call_intB {X : Cx} : CallR X (.type "int") (fun xs H Q => ∃ k, xs = [.bl k] ∧ Q (.int (if k then 1 else 0)) H) := fun pins s σ H xs us Q I r h => call_int1 pins s σ H xs us Q I r (.inr h)
/-! ### a def that may be called by its name -/
structure FnC (P : Program) (w : World) (K : PySem.W.Frag) (mg : Str → Option Value) (base : Heap) (CX : CXT) (k : Nat) (x : Str) (ps : List Str) (sp : Sp) : Prop where
  ex : ∃ (f : Addr) (fd : FuncData), FnOk P w K mg base CX k f fd ps sp ∧ mg x = some (.ref f) ∧ PySem.W.keepIn K (.ref f) = true ∧ Binds K fd ps []
section
variable {X : Cx} {k : Nat} {x : Str} {ps : List Str} {sp : Sp} {e : Expr} {es : List Expr} {t : TA} {p pos : Pos}
theorem pe_callC (F : FnC X.prog X.w X.K X.mg X.base CX0 k x ps sp) (hr : Room k X.A) (hg : Gl X x) (ha : PA X (e :: es) t) (hdb : (x == ("__debug__" : Str)) = false := by decide)
    (he : starEach (e :: es) X.env = (false, eval e X.env) :: starEach es X.env := by rfl) (hpl : (backTo pos (starEach es X.env)).any (·.1) = false := by rfl) :
    PE X (.Call (.Name x p) (e :: es) [] pos) (tCall sp [] E0 t) := by
  obtain ⟨f, fd, h, hm, hk, hb⟩ := F.ex
  exact pe_call h hr hg hm hk hb .nil pass0 ha hdb he hpl
end

/-! ### texts -/
section
variable {X : Cx}
def repS (z : Str) (n : Nat) : Str := ⟨(List.replicate n z.cps.toList).flatten.toArray⟩
theorem fold_rep (a : Array Nat) : ∀ (n : Nat) (b : Array Nat), (List.replicate n a).foldl (· ++ ·) b = (b.toList ++ (List.replicate n a.toList).flatten).toArray
  | 0, b => by simp
  | n + 1, b => by
    rw [List.replicate_succ, List.foldl_cons, fold_rep a n]
    simp [List.replicate_succ]
theorem repS_eq (z : Str) (n : Nat) : (⟨(List.replicate n z.cps).foldl (· ++ ·) #[]⟩ : Str) = repS z n := by
  rw [fold_rep]; simp [repS]
theorem repS_len (z : Str) (n : Nat) : (repS z n).length = z.length * n := by
  show (List.replicate n z.cps.toList).flatten.toArray.size = z.cps.size * n
  simp [Nat.mul_comm]
def rMulS : R2 := fun x y H Q => ∃ (z : Str) (n : Int), x = .str z ∧ y = .int n ∧ 0 ≤ n ∧ n < 2 ^ 40 ∧ z.length * n.toNat ≤ 1000000 ∧ Q (.str (repS z n.toNat)) H
theorem op_mul_str : OpR X (binaryOp .Mult) rMulS := by
  intro pins s σ H x y v u Q I rx ry h
  obtain ⟨z, n, rfl, rfl, h0, h1, h2, q⟩ := h
  obtain ⟨t, rfl⟩ := rx
  obtain ⟨t', rfl⟩ := ry
  have b1 : ¬ n < -(2 ^ 63 : Int) := by omega
  have b2 : ¬ n ≥ (2 ^ 63 : Int) := by omega
  have hz : z.length * n.toNat ≤ sizeLine := Nat.le_trans h2 (by decide)
  refine PySem.P.mul_str (by rw [decide_eq_false b1, decide_eq_false b2]; rfl) (fun c1 _ => ?_) (fun _ _ => ?_) ?_
  · have hn : 1 ≤ n := by omega
    have hl : z.length ≤ 1000000 := by
      have : 1 ≤ n.toNat := by omega
      calc z.length = z.length * 1 := (Nat.mul_one _).symm
        _ ≤ z.length * n.toNat := Nat.mul_le_mul_left _ this
        _ ≤ 1000000 := h2
    have hd : (1000000 : Int) ≤ (2 ^ 63 - 1) / n := by
      rw [Int.le_ediv_iff_mul_le (by omega)]
      omega
    omega
  · show (decide _) = false
    exact decide_eq_false (by omega)
  · by_cases c1 : n < 1
    · rw [if_pos c1]
      have e : n.toNat = 0 := by omega
      have e2 : repS z n.toNat = Str.empty := by rw [e]; rfl
      rw [e2] at q
      exact ⟨by decide, .str Str.empty, H, I.tok _, ⟨_, rfl⟩, q⟩
    · rw [if_neg c1]
      by_cases c2 : (n == 1 || z.length == 0) = true
      · rw [if_pos c2]
        have e2 : repS z n.toNat = z := by
          rcases Bool.or_eq_true_iff.mp c2 with c | c
          · have : n = 1 := eq_of_beq c
            subst this
            show (⟨(List.replicate 1 z.cps.toList).flatten.toArray⟩ : Str) = z
            simp
          · have c' : z.length = 0 := eq_of_beq c
            have hz0 : z.cps = #[] := Array.eq_empty_of_size_eq_zero c'
            obtain ⟨cps⟩ := z
            simp only at hz0
            subst hz0
            simp [repS]
        rw [e2] at q
        exact ⟨.str z, H, I, ⟨t, rfl⟩, q⟩
      · rw [if_neg c2]
        refine ⟨?_, ?_⟩
        · rw [repS_eq, repS_len]; exact hz
        · rw [repS_eq]
          exact ⟨.str _, H, I.tok _, ⟨_, rfl⟩, q⟩

end
end Kb

/-! ### own comparisons -/
namespace Kb
open PySem PySem.W PySem.Spec PyProof.Rows
section
variable {prog : Program} {w : World} {A : Around} {E : Value → Shared → Prop} {s : Shared} {K : Frag} {x C f L : Addr} {ox : Obj} {od : Option Obj} {h₀ : Heap} {m : Str → Option Value} {tb : Value}
end
end Kb

/-! ### methods of own classes, own comparisons, repr, defs that ask for the guards -/
namespace Kb
open PySem PySem.Spec PyProof.Rows L2
/-- a method of the class at C -/
structure MtC (P : Program) (w : World) (K : PySem.W.Frag) (mg : Str → Option Value) (base : Heap) (CX : CXT) (k : Nat) (C : Addr) (m : Str) (ps : List Str) (sp : Sp) : Prop where
  ex : ∃ (f : Addr) (fd : FuncData), FnOk P w K mg base CX k f fd ps sp ∧ Meth K C m f ∧ Binds K fd ps []
/-- how the class at C is made -/
structure MkC (P : Program) (w : World) (K : PySem.W.Frag) (mg : Str → Option Value) (base : Heap) (CX : CXT) (k : Nat) (C : Addr) (x : Str) (ps : List Str) (sp : Sp) : Prop where
  ex : ∃ (f : Addr) (fd : FuncData), FnOk P w K mg base CX k f fd ps sp ∧ Mk K C f ∧ mg x = some (.ref C) ∧ Binds K fd ps []
section
variable {X : Cx} {k : Nat} {x m : Str} {C : Addr} {ps : List Str} {sp : Sp} {e o : Expr} {es : List Expr} {t : TA} {ta : TE} {p pos apos : Pos}
theorem pe_makeC (F : MkC X.prog X.w X.K X.mg X.base CX0 k C x ps sp) (hr : Room (k + 1) X.A) (hg : Gl X x) (ha : PA X (e :: es) t) (hdb : (x == ("__debug__" : Str)) = false := by decide)
    (he : starEach (e :: es) X.env = (false, eval e X.env) :: starEach es X.env := by rfl) (hpl : (backTo pos (starEach es X.env)).any (·.1) = false := by rfl) :
    PE X (.Call (.Name x p) (e :: es) [] pos) (tMake C sp [] E0 t) := by
  obtain ⟨f, fd, h, M, hm, hb⟩ := F.ex
  exact pe_make M h hr hg hm hb .nil pass0 ha hdb he hpl
/-- x op y by the class's own def -/
def rOwnI (K : PySem.W.Frag) (C : Addr) (sp : Sp) (E : XK) : R2 := fun x y H Q => ∃ (a dx : Addr) (fs : List (Str × V)) (t : Value), x = .ref a ∧ H a = some (.ins C dx fs) ∧ TyX K H y t ∧ PySem.W.notFirst K C t = true ∧ sp [x, y] H Q E
theorem op_ownI {op : CmpOp} (hop : ∀ a b, compareOp op a b = richCompare op a b) (F : MtC X.prog X.w X.K X.mg X.base CX0 k C (cmpInfo op).2.1 ps sp) (hr : Room k X.A) : OpR X (compareOp op) (rOwnI X.K C sp E0) := by
  intro pins s σ H x y v u Q I rx ry h
  obtain ⟨a, dx, fs, ty, rfl, ha, hty, hn, q⟩ := h
  obtain ⟨f, fd, hf, M, hb⟩ := F.ex
  cases (show v = Value.ref a from rx)
  obtain ⟨mA, O, _⟩ := ins_get I.hok ha
  obtain ⟨od, J, _⟩ := O.look
  obtain ⟨P, Z, hP, _⟩ := kit_of I ry hty
  obtain ⟨m, hF⟩ := I.fr
  rw [hop]
  refine PySem.W.cmp_K (op := op) (tb := ty) hr.units0 hF I.ok.mod.kin J (Z.ty _ _ I.kIn hP) hn M.at_ M.fn ?_
  refine wpAny_mono (run_fn (us := [.ref a, u]) (vs := [.ref a, y]) hf hr hb .nil pass0 I (.cons rfl (.cons ry .nil)) q) (fun w s' z => ?_) fun _ _ z => z
  obtain ⟨z', H', I', rz, qz⟩ := z
  exact SlX.cmpback rz ⟨z', H', I', rz, qz⟩
/-! ### repr of data -/
end
end Kb

/-! ### defs that ask that no repr is under way -/
namespace Kb
open PySem PySem.Spec PyProof.Rows L2
structure FnOkG (P : Program) (w : World) (K : PySem.W.Frag) (mg : Str → Option Value) (base : Heap) (CX : CXT) (k : Nat) (f : Addr) (fd : FuncData) (ps : List Str) (sp : Sp) : Prop where
  len : ∀ vs H Q E, sp vs H Q E → vs.length = ps.length
  run : ∀ (A : Around) (outer : List Env) (s : Shared) (H : Hp) (ar : Args) (us : List Value) (vs : List V) (Q : VK) (E : XK), A.guards = some [] → Room k A → Env0 P w K mg base A outer s H → BindsTo s fd ar (ps.zip us) → Vals vs us → sp vs H Q E →
    codeAny (model P w) A (.call (.ref f) ar) (CR CX outer P w H s Q E) s
theorem FnOkG.of {P : Program} {w : World} {K : PySem.W.Frag} {mg : Str → Option Value} {base : Heap} {CX : CXT} {k : Nat} {f : Addr} {fd : FuncData} {ps : List Str} {sp : Sp} (F : FnOk P w K mg base CX k f fd ps sp) : FnOkG P w K mg base CX k f fd ps sp :=
  ⟨F.len, fun A o s H ar us vs Q E _ => F.run A o s H ar us vs Q E⟩
section
variable {CX : CXT} {P : Program} {w : World} {K : PySem.W.Frag} {mg : Str → Option Value} {base : Heap} {k : Nat} {f : Addr} {name qual : Str} {N ps : List Str} {sp : Sp} {st : Stmt} {fd : FuncData}
end
structure FnG (P : Program) (w : World) (K : PySem.W.Frag) (mg : Str → Option Value) (base : Heap) (CX : CXT) (k : Nat) (x : Str) (ps : List Str) (sp : Sp) : Prop where
  ex : ∃ (f : Addr) (fd : FuncData), FnOkG P w K mg base CX k f fd ps sp ∧ mg x = some (.ref f) ∧ PySem.W.keepIn K (.ref f) = true ∧ Binds K fd ps []
section
variable {X : Cx} {CX : CXT} {k : Nat} {x : Str} {ps : List Str} {sp : Sp} {e : Expr} {es : List Expr} {t : TA} {p pos : Pos}
end
/-! ### the end for a law that asks for the guards -/
end Kb

/-! ### own errors, defs that refuse, calls at the slots, clauses with and without a name -/
namespace Kb
open PySem PySem.Spec PyProof.Rows L2 ClX
def calm (sp : Sp) : Sp := fun vs H Q _ => sp vs H Q E0
theorem fn_calm {P : Program} {w : World} {K : PySem.W.Frag} {mg : Str → Option Value} {base : Heap} {k : Nat} {f : Addr} {fd : FuncData} {ps : List Str} {sp : Sp} (F : FnOk P w K mg base (L2.CX P w) k f fd ps sp) : FnOk P w K mg base CX0 k f fd ps (calm sp) := by
  refine ⟨fun vs H Q E h => F.len vs H Q E0 h, fun A outer s H ar us vs Q E hr e0 hb r h => codeAny_mono (F.run A outer s H ar us vs Q E0 hr e0 hb r h) fun rs s' z => ?_⟩
  cases rs with
  | ok fl => cases fl <;> exact z
  | error e =>
    obtain ⟨_, _, _, _, _, _, _, _, _, _, _, _, q⟩ := z
    exact (show False from q).elim
theorem FnC.calm {P : Program} {w : World} {K : PySem.W.Frag} {mg : Str → Option Value} {base : Heap} {k : Nat} {x : Str} {ps : List Str} {sp : Sp} (F : FnC P w K mg base (L2.CX P w) k x ps sp) : FnC P w K mg base CX0 k x ps (Kb.calm sp) :=
  let ⟨f, fd, h, r⟩ := F.ex
  ⟨f, fd, fn_calm h, r⟩
theorem MkC.calm {P : Program} {w : World} {K : PySem.W.Frag} {mg : Str → Option Value} {base : Heap} {k : Nat} {C : Addr} {x : Str} {ps : List Str} {sp : Sp} (F : MkC P w K mg base (L2.CX P w) k C x ps sp) : MkC P w K mg base CX0 k C x ps (Kb.calm sp) :=
  let ⟨f, fd, h, r⟩ := F.ex
  ⟨f, fd, fn_calm h, r⟩
theorem MtC.calm {P : Program} {w : World} {K : PySem.W.Frag} {mg : Str → Option Value} {base : Heap} {k : Nat} {C : Addr} {m : Str} {ps : List Str} {sp : Sp} (F : MtC P w K mg base (L2.CX P w) k C m ps sp) : MtC P w K mg base CX0 k C m ps (Kb.calm sp) :=
  let ⟨f, fd, h, r⟩ := F.ex
  ⟨f, fd, fn_calm h, r⟩

/-! ### calls that may raise, at the slots -/
def tMakeS (C : Addr) (sp : Sp) (E : L2.St → XK) (t : TA) : TE := fun σ H Q => t σ H fun vs H1 => ∀ x dx, H1 x = none → H1 dx = none → dx ≠ x →
  sp (.ref x :: vs) (upd (upd H1 dx (.own x)) x (.ins C dx [])) (fun v H2 => v = .non ∧ Q (.ref x) H2) (E σ)
section
variable {X : Cx} {k : Nat} {x m : Str} {f C : Addr} {fd : FuncData} {ps : List Str} {sp : Sp} {W : WX} {e o : Expr} {es : List Expr} {t : TA} {ta : TE} {p pos apos : Pos}
theorem pe_callSC (F : FnC X.prog X.w X.K X.mg X.base (L2.CX X.prog X.w) k x ps sp) (hr : Room k X.A) (tk : Takes X W) (hg : Gl X x) (ha : PA X (e :: es) t) (hdb : (x == ("__debug__" : Str)) = false := by decide)
    (he : starEach (e :: es) X.env = (false, eval e X.env) :: starEach es X.env := by rfl) (hpl : (backTo pos (starEach es X.env)).any (·.1) = false := by rfl) :
    PE X (.Call (.Name x p) (e :: es) [] pos) (tCallS sp (WE W) t) := by
  obtain ⟨f, fd, h, hm, hk, hb⟩ := F.ex
  exact pe_callS h hr hg hm hk hb (passAt tk) ha hdb he hpl
theorem run_makeS {CX : CXT} {E : XK} {pins : List (Addr × Obj)} {σ : L2.St} {H : Hp} {s : Shared} {Q : VK} {us : List Value} {vs : List V} (M : Mk X.K C f) (F : FnOk X.prog X.w X.K X.mg X.base CX k f fd ps sp) (hr : Room (k + 1) X.A) (hb : Binds X.K fd ps [])
    (hx : ∀ (pins : List (Addr × Obj)) (H' : Hp) (s : Shared) (e : Value) (s' : Shared), Inv X pins σ H' s → CX X.stack H' s E e s' → X.xe e s') (I : Inv X pins σ H s) (r : Vals vs us)
    (h : ∀ x dx, H x = none → H dx = none → dx ≠ x → sp (.ref x :: vs) (upd (upd H dx (.own x)) x (.ins C dx [])) (fun v H2 => v = .non ∧ Q (.ref x) H2) E) :
    wpAny (model X.prog X.w) X.A (call (.ref C) us) (EP X pins σ Q) X.xe s := by
  have hq := h (s.heap.objs.size + 1) s.heap.objs.size (I.hok.fresh (Nat.le_succ _)) (I.hok.fresh (Nat.le_refl _)) (Nat.ne_of_lt (Nat.lt_succ_self _))
  have I2 := Inv.made (C := C) I
  have r2 : Vals (V.ref (s.heap.objs.size + 1) :: vs) (Value.ref (s.heap.objs.size + 1) :: us) := .cons rfl r
  have hl : (Value.ref (s.heap.objs.size + 1) :: us).length = ps.length := by
    have e := r2.length
    rw [F.len _ _ _ _ hq] at e
    exact e.symm
  have b := hb _ (Value.ref (s.heap.objs.size + 1) :: us) I2.kIn (by rw [List.append_nil]; exact hl)
  rw [List.append_nil] at b
  refine wpAny_call (make_map (f := f) I.kIn M.makes M.init (beq_iff_eq.mp M.fn) (codeAny_mono (F.run _ X.stack _ _ ⟨Value.ref (s.heap.objs.size + 1) :: us, []⟩ (Value.ref (s.heap.objs.size + 1) :: us) _ _ E (hr.make C us [])
    (I2.env0.make C us []) b r2 hq) fun r s' hq' => ?_))
  cases r with
  | error e => exact hx pins _ _ e s' I2 hq'
  | ok fl =>
    cases fl with
    | ret u =>
      obtain ⟨v, H', I3, rv, ev, q3⟩ := I2.after hq'
      subst ev
      exact ⟨rv, ⟨V.ref (s.heap.objs.size + 1), H', I3, rfl, q3⟩⟩
    | next => exact False.elim hq'
    | brk => exact False.elim hq'
    | cont => exact False.elim hq'
/-- cls(..), the i-th slot holds the class at C -/
def tMakeL (i : Nat) (C : Addr) (sp : Sp) (E : L2.St → XK) (t : TA) : TE := fun σ H Q => σ[i]? = some (some (.ref C)) ∧ tMakeS C sp E t σ H Q
theorem pe_makeL {i : Nat} {y : Str} (F : MkC X.prog X.w X.K X.mg X.base (L2.CX X.prog X.w) k C y ps sp) (hr : Room (k + 1) X.A) (tk : Takes X W) (hN : X.N[i]? = some x) (hv : Vis X.env.scope x) (ha : PA X (e :: es) t)
    (hdb : (x == ("__debug__" : Str)) = false := by decide) (hcd : (x == ("__classdict__" : Str)) = false := by decide)
    (he : starEach (e :: es) X.env = (false, eval e X.env) :: starEach es X.env := by rfl) (hpl : (backTo pos (starEach es X.env)).any (·.1) = false := by rfl) :
    PE X (.Call (.Name x p) (e :: es) [] pos) (tMakeL i C sp (WE W) t) := by
  obtain ⟨f, fd, h, M, hm, hb⟩ := F.ex
  refine ⟨fun pins s σ H Q I hh => ?_⟩
  obtain ⟨hs, ht⟩ := hh
  refine wpAny_Call_Name_kw (thn ((pe_var (pos := p) hN hv hdb hcd).run pins s σ H (fun v H1 => v = .ref C ∧ H1 = H) I ⟨.ref C, hs, rfl, rfl⟩) fun u s1 ⟨v, H1, I1, r1, q1⟩ => ?_)
  obtain ⟨rfl, rfl⟩ := q1
  cases r1
  refine PySem.W.callWith_K (h₀ := X.base) I.ok.mod.kin M.kp (thn (ha.run pos pins s1 σ _ _ I1 ht) fun us s2 ⟨vs, H2, I2, r, q⟩ => ⟨I2.kIn, ?_⟩) he hpl
  exact run_makeS M h hr hb (fun pins H s e s' I z => passAt tk σ pins H s e s' I z) I2 r q
/-- a classmethod of the class at C, its name x -/
structure CmC (P : Program) (w : World) (K : PySem.W.Frag) (mg : Str → Option Value) (base : Heap) (CX : CXT) (k : Nat) (C : Addr) (x m : Str) (ps : List Str) (sp : Sp) : Prop where
  ex : ∃ (f q : Addr) (fd : FuncData), FnOk P w K mg base CX k f fd ps sp ∧ CRead K C (.type "type") ∧ CMet K C (.type "type") m q f ∧ mg x = some (.ref C) ∧ Binds K fd ps []
theorem CmC.calm {P : Program} {w : World} {K : PySem.W.Frag} {mg : Str → Option Value} {base : Heap} {k : Nat} {C : Addr} {x m : Str} {ps : List Str} {sp : Sp} (F : CmC P w K mg base (L2.CX P w) k C x m ps sp) : CmC P w K mg base CX0 k C x m ps (Kb.calm sp) :=
  let ⟨f, q, fd, h, r⟩ := F.ex
  ⟨f, q, fd, fn_calm h, r⟩
def tCm (C : Addr) (sp : Sp) (E : L2.St → XK) (t : TA) : TE := fun σ H Q => t σ H fun vs H2 => sp (.ref C :: vs) H2 Q (E σ)
theorem pe_cmX {CX : CXT} {E : L2.St → XK} {pl : Sem Bool} (F : CmC X.prog X.w X.K X.mg X.base CX k C x m ps sp) (hr : Room k X.A) (hx : ∀ σ, PassesAt CX X σ (E σ)) (hg : Gl X x) (ha : PA X (e :: es) t) (hdb : (x == ("__debug__" : Str)) = false := by decide)
    (hst : starEach (e :: es) X.env = (false, eval e X.env) :: starEach es X.env := by rfl) (hpl : (backTo pos (starEach es X.env)).any (·.1) = false := by rfl)
    (ht : eval (.Call (.Attribute (.Name x p) m apos) (e :: es) [] pos) X.env = (do
      let ov ← eval (.Name x p) X.env
      standAt apos.atName
      let (f, first) ← holding [ov] (getMethod ov m pl)
      callWith pos f first (backTo pos (starEach (e :: es) X.env)) (backToKw pos (keywordEach [] X.env))) := by rfl) :
    PE X (.Call (.Attribute (.Name x p) m apos) (e :: es) [] pos) (tCm C sp E t) := by
  obtain ⟨f, q, fd, h, r, c, hm, hb⟩ := F.ex
  refine ⟨fun pins s σ H Q I hh => ?_⟩
  refine PySem.W.methodCall_KW (pl := pl) (ld_glob I hg hm ?_ hdb) ht
  refine getmethcm_ok I r c fun s2 I2 => ?_
  refine callwith_cm I2 (base_none I (Nat.le_refl _)) c.fi (thn (ha.run pos _ s2 σ H _ I2 hh) fun us s3 ⟨vs, H2, I3, rv, q2⟩ => ⟨⟨pin_at I3, I3.kIn⟩, ?_⟩) hst hpl
  have hl : (Value.ref C :: us).length = ps.length := by
    rw [← h.len _ _ _ _ q2]
    show us.length + 1 = vs.length + 1
    rw [rv.length]
  have b := hb s3 (.ref C :: us) I3.kIn (by rw [List.append_nil]; exact hl)
  rw [List.append_nil] at b
  have z : wpAny (model X.prog X.w) X.A (call (.ref s.heap.objs.size) us) (EP X ((s.heap.objs.size, PySem.W.methodObj (.ref f) (.ref C)) :: pins) σ Q) X.xe s3 := by
   refine wpAny_call (PySem.W.method_call (pin_at I3) (codeAny_mono (h.run X.A X.stack s3 H2 ⟨.ref C :: us, []⟩ (.ref C :: us) (.ref C :: vs) Q (E σ) hr I3.env0 b (.cons rfl rv) q2) fun r s' hq => ?_))
   cases r with
   | error e => exact hx σ _ H2 s3 e s' I3 hq
   | ok fl =>
    cases fl with
    | ret u => exact I3.after hq
    | next => exact False.elim hq
    | brk => exact False.elim hq
    | cont => exact False.elim hq
  exact thn z fun _ _ y => unpinE y
theorem pe_cmC {pl : Sem Bool} (F : CmC X.prog X.w X.K X.mg X.base CX0 k C x m ps sp) (hr : Room k X.A) (hg : Gl X x) (ha : PA X (e :: es) t) (hdb : (x == ("__debug__" : Str)) = false := by decide)
    (hst : starEach (e :: es) X.env = (false, eval e X.env) :: starEach es X.env := by rfl) (hpl : (backTo pos (starEach es X.env)).any (·.1) = false := by rfl)
    (ht : eval (.Call (.Attribute (.Name x p) m apos) (e :: es) [] pos) X.env = (do
      let ov ← eval (.Name x p) X.env
      standAt apos.atName
      let (f, first) ← holding [ov] (getMethod ov m pl)
      callWith pos f first (backTo pos (starEach (e :: es) X.env)) (backToKw pos (keywordEach [] X.env))) := by rfl) :
    PE X (.Call (.Attribute (.Name x p) m apos) (e :: es) [] pos) (tCm C sp (fun _ => E0) t) := pe_cmX F hr (fun _ _ _ _ _ _ _ z => (show False from z).elim) hg ha hdb hst hpl ht
/-- a property of the class at C -/
structure PrC (P : Program) (w : World) (K : PySem.W.Frag) (mg : Str → Option Value) (base : Heap) (k : Nat) (C : Addr) (m : Str) (sp : Sp) : Prop where
  ex : ∃ (f q : Addr) (fd : FuncData), FnOk P w K mg base CX0 k f fd ["self"] sp ∧ Cls K C ∧ PropOf K C m q f ∧ Binds K fd ["self"] []
theorem pe_propC (F : PrC X.prog X.w X.K X.mg X.base k C m sp) (hr : Room (k + 1) X.A) (he : PE X e ta) (hab : attributeBase e m X.env (eval e X.env) = eval e X.env := by rfl) : PE X (.Attribute e m pos) (tProp C sp [] E0 ta) := by
  obtain ⟨f, q, fd, h, c, hp, hb⟩ := F.ex
  exact pe_prop he c hp h hr hb .nil (fun _ _ _ _ _ _ _ z => (show False from z).elim) hab
end
end Kb

namespace Kb
open PySem PySem.Spec PyProof.Rows L2 ClX
/-! ### an own error that has no fields -/
/-- the class whose own initialiser is called by its name -/
structure UeC (K : PySem.W.Frag) (U : Addr) : Prop where
  rd : CRead K U (.type "type")
  at_ : PySem.W.findCls K (.ref U) (.type "type") "__init__" = some (.val (.builtin "ValueError.__init__"))
section
variable {X : Cx} {o e : Expr} {es : List Expr} {ta : TA} {x : Str} {U : Addr} {p p1 p2 pos : Pos}
theorem pe_uinit {pl : Sem Bool} (hU : UeC X.K U) (hg : Gl X x) (hm : X.mg x = some (.ref U)) (ha : PA X (e :: es) ta) (hdb : (x == ("__debug__" : Str)) = false := by decide)
    (hc : eval (.Call (.Attribute (.Name x p1) "__init__" p2) (e :: es) [] pos) X.env = (do
      let ov ← eval (.Name x p1) X.env
      standAt p2.atName
      let (f, first) ← holding [ov] (getMethod ov "__init__" pl)
      callWith pos f first (backTo pos (starEach (e :: es) X.env)) (backToKw pos (keywordEach [] X.env))) := by rfl)
    (he : starEach (e :: es) X.env = (false, eval e X.env) :: starEach es X.env := by rfl) (hpl : (backTo pos (starEach es X.env)).any (·.1) = false := by rfl) :
    PE X (.Call (.Attribute (.Name x p1) "__init__" p2) (e :: es) [] pos) (tVeI X.K ta) := by
  refine ⟨fun pins s σ H Q I h => ?_⟩
  refine PySem.W.methodCall_KW (ld_glob I hg hm ?_ hdb) hc
  refine PySem.W.method_cls I.kIn hU.rd.ga (PySem.W.cls_value I.kIn hU.rd.rd hU.at_ rfl ?_)
  show wpAny _ _ (callWith pos (Value.builtin "ValueError.__init__") [] (backTo pos (starEach (e :: es) X.env)) []) _ _ _
  refine PyProof.Rows.callWith_method1 (thn (ha.run pos pins _ σ H _ (I.tok _) h) fun us s1 ⟨vs, H1, I1, r1, a, C, ws, ev, hl, T, ea, q⟩ => ?_) he hpl
  subst ev
  cases r1 with
  | @cons _ u0 _ ur ra rw' =>
    obtain rfl : u0 = Value.ref a := ra
    have hlen : ur.length ≤ sizeLine := by
      rw [← Paired.length rw', sizeLine_eq]
      omega
    exact oinit_ok T I1 ea hlen fun s' J => ⟨.non, H1, J, rfl, q⟩
end
def sp_err0 (C : Addr) : Sp := fun vs H Q _ => ∃ a, vs = [.ref a] ∧ H a = some (exo a C none) ∧ Q .non H
theorem mk_endN {X : Cx} {pins : List (Addr × Obj)} {σ : L2.St} {H1 H2 : Hp} {hp hp2 h2 : Heap} {g1 g2 : Array GenState} {d1 d2 : Drawn} {t1 t2 : Nat} {os1 os2 : OsState} {a C : Addr} (I1 : Inv X pins σ H1 ⟨hp, g1, d1, t1, os1⟩)
    (ha : hp.objs.size ≤ a) (k : ∀ b o, hp.get? b = some o → hp2.get? b = some o) (un : Un (frs X.stack) [] (upd H1 a (exo a C none)) H2 hp2 h2) (hok : HOk X.prog X.w H2 h2) (ho : os2 = os1) (hb : AllBare g2)
    (ea : H2 a = some (exo a C none)) :
    ∃ (t0 : Addr) (G : Heap), Inv X pins σ (del H2 a) ⟨G, g2, d2, t2, os2⟩ ∧ (∀ b o, G.get? b = some o → h2.get? b = some o) ∧ G.get? a = none ∧
      h2.get? a = some ({ cls := .ref C, dict := none, data := .fields #[.ref t0, .none, .none, .none, .bool false, .none] } : Obj) ∧ (del H2 a) a = none := by
  obtain ⟨t0, hoe⟩ := exo_at hok ea
  have hn : H1 a = none := I1.hok.fresh ha
  obtain ⟨G, g1', g2'⟩ := restrict h2 fun b => decide (b ≠ a)
  have gk : ∀ b, b ≠ a → G.get? b = h2.get? b := fun b hb => g1' b (decide_eq_true hb)
  have ge : G.get? a = none := g2' a (by simp)
  have nha : ∀ {b : Addr} {o : Obj}, hp.get? b = some o → b ≠ a := fun {b o} z => Nat.ne_of_lt (Nat.lt_of_lt_of_le (Heap.lt_size z) ha)
  have up : ∀ {b : Addr}, b ≠ a → H1 b = none → upd H1 a (exo a C none) b = none := fun {b} hb n => by rw [upd_ne hb]; exact n
  have U : Un (frs X.stack) [] H1 (del H2 a) hp G := {
    keep := fun b o z n hf hx => by
      rw [gk b (nha z)]
      exact un.keep b o (k b o z) (up (nha z) n) hf hx
    slot := fun b o z n hf hx => by
      rw [gk b (nha z)]
      exact un.slot b o (k b o z) (up (nha z) n) hf hx
    free := fun b o z n hx => by
      rw [del_ne (nha z)]
      exact un.free b o (k b o z) (up (nha z) n) hx
    there := fun b o z hx => by
      rw [gk b (nha z)]
      exact un.there b o (k b o z) hx
    tups := fun b xs z => by
      rw [del_ne (ne_of_none z hn)]
      exact un.tups b xs (by rw [upd_ne (ne_of_none z hn)]; exact z)
    frzs := fun b o v z => by
      rw [del_ne (ne_of_none z hn)]
      exact un.frzs b o v (by rw [upd_ne (ne_of_none z hn)]; exact z)
    tbls := fun b ps z => by
      rw [del_ne (ne_of_none z hn)]
      exact un.tbls b ps (by rw [upd_ne (ne_of_none z hn)]; exact z) }
  have hok3 : HOk X.prog X.w (del H2 a) G := fun b o z => by
    have hba : b ≠ a := fun e => by
      rw [e, del_same] at z
      cases z
    rw [del_ne hba] at z
    have noa : ∀ {c : Addr}, H2 c = some (.own b) → c ≠ a := fun {c} hc => at_ne ea hc exo_own
    exact (hok b o z).stay (fun c v hc y => by
        have hca : c ≠ a := by
          rcases hc with hc | hc
          · rw [hc]
            exact hba
          · exact noa hc
        rw [gk c hca]
        exact y)
      (fun c hc => by rw [del_ne (noa hc)]; exact hc) (fun c xs hc => by rw [del_ne (at_ne ea hc exo_tup)]; exact hc)
  have J : Inv X pins σ (del H2 a) ⟨G, g2, d2, t2, os2⟩ := I1.call' (ch := []) ho U hok3 hb (fun b z => absurd z (by simp))
  refine ⟨t0, G, J, fun b o z => ?_, ge, hoe, del_same⟩
  by_cases hba : b = a
  · rw [hba, ge] at z
    cases z
  · exact (gk b hba).symm.trans z
/-- an own error without fields, made by its name -/
structure ErC (P : Program) (w : World) (K : PySem.W.Frag) (mg : Str → Option Value) (base : Heap) (x : Str) (C : Addr) : Prop where
  ex : ∃ (f : Addr) (fd : FuncData), FnOk P w K mg base CX0 2 f fd ["self"] (sp_err0 C) ∧ OexC K C ∧ PySem.W.findIn K (.ref C) "__init__" = some (some (.ref f)) ∧ PySem.W.typeIn K (.ref f) = some (.type "function") ∧ mg x = some (.ref C) ∧ Binds K fd ["self"] []
theorem pmk_err0 {X : Cx} {C : Addr} {x : Str} {p pos : Pos} (F : ErC X.prog X.w X.K X.mg X.base x C) (hr : Room 3 X.A) (hg : Gl X x) (hdb : (x == ("__debug__" : Str)) = false := by decide) :
    PMk X (.Call (.Name x p) [] [] pos) (fun _ H Q => Q (.ref C) none H) := by
  obtain ⟨f, fd, F1, T, iC, tI, hm, hb⟩ := F.ex
  intro pins s σ H Q I h
  obtain ⟨nm, q, N, bs, bm, sn, sub, ab, col, dd, k0, k1, k2, k3, k5, hC, hbm⟩ := T.cls
  refine wpAny_Call_Name_kw (ld_glob I hg hm ?_ hdb)
  refine PySem.W.callWith_K0 I.kIn T.kC ?_
  show wpAny _ _ (call (.ref C) []) _ _ _
  obtain ⟨hp, g, dr, tk, os⟩ := s
  have hsz : hp.objs.size ≤ hp.objs.size + 1 := Nat.le_succ _
  have hn : H (hp.objs.size + 1) = none := I.hok.fresh hsz
  have kk : ∀ b o, hp.get? b = some o → ((hp.push (PySem.W.kdv_tup [])).push (PySem.HandSPX.excO C hp.objs.size)).get? b = some o := fun b o e => Heap.get?_push_of_some _ (Heap.get?_push_of_some _ e)
  have hget : ((hp.push (PySem.W.kdv_tup [])).push (PySem.HandSPX.excO C hp.objs.size)).get? (hp.objs.size + 1) = some (PySem.HandSPX.excO C hp.objs.size) := by heap_get
  have I2 : Inv X pins σ (upd H (hp.objs.size + 1) (exo (hp.objs.size + 1) C none)) ⟨(hp.push (PySem.W.kdv_tup [])).push (PySem.HandSPX.excO C hp.objs.size), g, dr, tk, os⟩ :=
    I.laid (t' := tk) (a := hp.objs.size + 1) (o := exo (hp.objs.size + 1) C none) (h' := (hp.push (PySem.W.kdv_tup [])).push (PySem.HandSPX.excO C hp.objs.size)) kk hsz (exo_ok hget)
  have r2 : Vals [V.ref (hp.objs.size + 1)] [Value.ref (hp.objs.size + 1)] := .cons rfl .nil
  have b := hb _ [Value.ref (hp.objs.size + 1)] I2.kIn rfl
  have hq : sp_err0 C [V.ref (hp.objs.size + 1)] (upd H (hp.objs.size + 1) (exo (hp.objs.size + 1) C none)) (fun v H2 => v = .non ∧ H2 = upd H (hp.objs.size + 1) (exo (hp.objs.size + 1) C none)) E0 := ⟨_, rfl, upd_same, rfl, rfl⟩
  refine wpAny_call (PySem.HandSPX.call_own _root_.PySem.F.excBase_ValueError (fun Y => PySem.HandSPX.refsVE_contains Y bm hbm) (I.kIn _ _ hC) (PySem.W.looks_findIn I.kIn iC) (fun self => PySem.W.bind_fn I.kIn self tI) (Nat.zero_le _)
    (codeAny_mono (F1.run _ X.stack _ _ ⟨[Value.ref (hp.objs.size + 1)], []⟩ [Value.ref (hp.objs.size + 1)] _ _ E0 (hr.make C [] []) (I2.env0.make C [] []) b r2 hq) fun r s' hq' => ?_))
  cases r with
  | error er => exact (show False from hq').elim
  | ok fl =>
    cases fl with
    | ret u =>
      obtain ⟨v, H2, os2, bare2, un2, hok2, rv, ev, eH⟩ := hq'
      subst ev
      subst eH
      obtain ⟨h2, g2, d2, t2, os'⟩ := s'
      have ed : del (upd H (hp.objs.size + 1) (exo (hp.objs.size + 1) C none)) (hp.objs.size + 1) = H := by
        funext b
        by_cases hb : b = hp.objs.size + 1
        · rw [hb, del_same, hn]
        · rw [del_ne hb, upd_ne hb]
      obtain ⟨t0, G, J, kG, ge, hoe, na⟩ := mk_endN (d2 := d2) (t2 := t2) I hsz kk un2 hok2 os2 bare2 upd_same
      rw [ed] at J na
      exact ⟨rv, _, _, _, ⟨G, g2, d2, t2, os'⟩, _, .ref C, none, rfl, J, kG, ge, hoe, ⟨rfl, rfl⟩, rfl, rfl, na, rfl, bare2, raises_own T.exC T.tyC, h⟩
    | next => exact False.elim hq'
    | brk => exact False.elim hq'
    | cont => exact False.elim hq'
theorem ps_raise0 {X : Cx} {W : WX} {C : Addr} {x : Str} {p pos pos' : Pos} (F : ErC X.prog X.w X.K X.mg X.base x C) (hr : Room 3 X.A) (hc : X.calm = true) (tk : Takes X W) (hg : Gl X x) (hdb : (x == ("__debug__" : Str)) = false := by decide) :
    PS X (.Raise (some (.Call (.Name x p) [] [] pos)) none pos') (fun _ σ H => W (.ref C) none σ H) := ps_raise hc tk (pmk_err0 F hr hg hdb)
/-! ### clauses, with a name or without -/
inductive Cl where
  | pl (c : Value) (ts : Addr → Value → Option Addr → TS)
  | nm (c : Value) (i : Nat) (ts : Addr → Value → Option Addr → TS)
inductive ClOk (X : Cx) : List ExceptHandler → List Cl → Prop
  | nil : ClOk X [] []
  | pl {x : Str} {c : Value} {ts : Addr → Value → Option Addr → TS} {b₀ : Stmt} {suite : List Stmt} {np pos' : Pos} {hds : List ExceptHandler} {l : List Cl} (hc : Names X x c)
      (hsu : ∀ (a : Addr) (oe : Obj) (cls : Value) (d : Option Addr) (pn : List (Addr × Obj)), Zc cls d oe → (∃ vs, oe.data = .fields vs) → PSs (X.suite a ((a, oe) :: pn)) (b₀ :: suite) (ts a cls d)) (r : ClOk X hds l) :
      ClOk X (.ExceptHandler (some (.Name x np)) none (b₀ :: suite) pos' :: hds) (.pl c ts :: l)
  | nm {x n : Str} {i : Nat} {c : Value} {ts : Addr → Value → Option Addr → TS} {b₀ : Stmt} {suite : List Stmt} {np pos' : Pos} {hds : List ExceptHandler} {l : List Cl} (hN : X.N.Nodup) (hi : X.N[i]? = some n) (hln : X.env.kindOf n = some .local) (hc : Names X x c)
      (hsu : ∀ (a : Addr) (oe : Obj) (cls : Value) (d : Option Addr) (pn : List (Addr × Obj)), Zc cls d oe → (∃ vs, oe.data = .fields vs) → PSs (X.suite a ((a, oe) :: pn)) (b₀ :: suite) (ts a cls d)) (r : ClOk X hds l) :
      ClOk X (.ExceptHandler (some (.Name x np)) (some n) (b₀ :: suite) pos' :: hds) (.nm c i ts :: l)
section
variable {X : Cx} {body : List Stmt} {h₀ : ExceptHandler} {hds : List ExceptHandler} {l : List Cl} {pos : Pos} {tb : WX → TS} {Wout : WX}
end
/-! ### isinstance of a caught error and several classes -/
end Kb
namespace Kb
open PySem PySem.Spec PyProof.Rows L2 ClX
theorem ErC.nm {P : Program} {w : World} {K : PySem.W.Frag} {mg : Str → Option Value} {base : Heap} {x : Str} {C : Addr} (F : ErC P w K mg base x C) : mg x = some (.ref C) := let ⟨_, _, _, _, _, _, h, _⟩ := F.ex; h
structure NmC (mg : Str → Option Value) (x : Str) (C : Addr) : Prop where
  nm : mg x = some (.ref C)
end Kb
namespace Kb
open PySem PySem.Spec PyProof.Rows L2 ClX
end Kb

namespace PySem.W
open PySem PySem.Calls PyProof.Rows Builtin
end PySem.W
namespace Kb
open PySem PySem.Spec PyProof.Rows L2 ClX
section
variable {X : Cx} {k : Nat} {C : Addr} {ps : List Str} {sp : Sp}
end
/-! ### an own instance, called -/
section
variable {X : Cx} {CX : CXT} {k i : Nat} {x : Str} {C : Addr} {ps : List Str} {sp : Sp} {E : L2.St → XK} {W : WX} {e : Expr} {es : List Expr} {t : TA} {p pos : Pos}
end
/-! ### an own class made by keywords alone -/
structure MkKC (P : Program) (w : World) (K : PySem.W.Frag) (mg : Str → Option Value) (base : Heap) (k : Nat) (C : Addr) (x : Str) (ps ks : List Str) (gV : List V → List V → List V) (sp : Sp) : Prop where
  ex : ∃ (f : Addr) (fd : FuncData) (g : List Value → List Value → List Value), FnOk P w K mg base CX0 k f fd ps sp ∧ Mk K C f ∧ mg x = some (.ref C) ∧ KBn K fd ps 1 ks g gV
end Kb

/-! ### shown data of ints -/
namespace Kb
open PySem PySem.Spec PyProof.Rows L2 ClX
theorem shown_int {i : Int} (h : i.natAbs < 2 ^ 1000) : (PyData.shown (.int i)).length ≤ 1001 := by
  show (Str.ofString (toString i)).length ≤ 1001
  rw [PySem.ofString_length]
  exact int_text_length_le (by decide) (PySem.Flt.log2_lt_of (by decide) h)
def showsI (i : Int) : Prop := i.natAbs < 2 ^ 1000
theorem weight_int {i : Int} (h : showsI i) : (PyData.int i).weight ≤ 1001 := by
  have := PySem.Flt.log2_lt_of (show 0 < 1000 by decide) h
  show (if i == 0 then 0 else i.natAbs.log2 + 1) ≤ 1001
  split <;> omega
theorem show_int {i : Int} (h : showsI i) : (PyData.int i).showable = true ∧ (PyData.int i).leavesShort 1001 = true := by
  refine ⟨decide_eq_true ?_, decide_eq_true (shown_int h)⟩
  exact Nat.lt_of_lt_of_le (PySem.Flt.log2_lt_of (by decide) h) (by decide)
structure ShOk (d : PyData) : Prop where
  a : d.showable = true
  b : d.hasDict = false
  c : d.depth ≤ 100
  d : d.shown.length ≤ sizeLine
theorem shOk {d : PyData} (h1 : d.showable = true) (h2 : d.hasDict = false) (h3 : d.depth ≤ 100) (h4 : d.leavesShort 1001 = true) (h5 : 1003 * d.weight + 1001 ≤ sizeLine) : ShOk d := ⟨h1, h2, h3, Nat.le_trans (PyData.shown_le 1001 (by decide) d h4) h5⟩
theorem sh2 {a b : Int} (ha : showsI a) (hb : showsI b) : ShOk (.tuple [.int a, .int b]) := by
  have sa := show_int ha
  have sb := show_int hb
  refine shOk ?_ rfl (by show 1 ≤ 100; decide) ?_ ?_
  · show ((PyData.int a).showable && ((PyData.int b).showable && true)) = true
    rw [sa.1, sb.1]; rfl
  · show ((PyData.int a).leavesShort 1001 && ((PyData.int b).leavesShort 1001 && true)) = true
    rw [sa.2, sb.2]; rfl
  · have wa := weight_int ha
    have wb := weight_int hb
    show 1003 * ((PyData.int a).weight + 1 + ((PyData.int b).weight + 1 + 0)) + 1001 ≤ sizeLine
    rw [sizeLine_eq]; omega
end Kb

/-! ### own operators, classmethods without arguments -/
namespace PySem.W
open PySem PySem.Calls PyProof.Rows
section
variable {prog : Program} {w : World} {M : Model} {A : Around} {E : Value → Shared → Prop} {s : Shared} {K : Frag} {x C D L f : Addr} {h₀ : Heap} {m : Str → Option Value} {ox : Obj} {od : Option Obj} {nm : String}
def plainMro (K : Frag) (C : Addr) : Bool := (clsIn K C).any fun cd => cd.mro == [.ref C, .type "object"]
end
end PySem.W
namespace Kb
open PySem PySem.Spec PyProof.Rows L2 ClX
/-- the class at C carries the operator -/
structure OpC (K : PySem.W.Frag) (C : Addr) (op : Operator) : Prop where
  sf : PySem.W.selfFirst K C = true
  r : PySem.W.findIn K (.ref C) (dunderR op.info.2) = some none
/-- the class at D doesn't -/
structure OpNo (K : PySem.W.Frag) (D : Addr) (op : Operator) : Prop where
  pm : PySem.W.plainMro K D = true
  h1 : PySem.W.findIn K (.ref D) (PySem.dunder op.info.2) = some none
  h2 : PySem.W.findIn K (.ref D) (dunderR op.info.2) = some none
  h3 : PySem.W.findIn K (.type "object") (PySem.dunder op.info.2) = some none
  h4 : PySem.W.findIn K (.type "object") (dunderR op.info.2) = some none
structure OpInt (K : PySem.W.Frag) (C : Addr) (op : Operator) : Prop where
  h1 : ∃ fo, PySem.W.findIn K (.type "int") (PySem.dunder op.info.2) = some fo
  h2 : ∃ ro, PySem.W.findIn K (.type "int") (dunderR op.info.2) = some ro
  sb : PySem.W.subIn K (.type "int") (.ref C) = some false
structure OpIn (K : PySem.W.Frag) (C : Addr) (op : Operator) : Prop where
  pm : PySem.W.plainMro K C = true
  i1 : PySem.W.findIn K (.ref C) (dunderI op.info.2) = some none
  i2 : PySem.W.findIn K (.type "object") (dunderI op.info.2) = some none
section
variable {X : Cx} {k : Nat} {C D : Addr} {ps : List Str} {sp : Sp} {op : Operator}
end
/-! ### C.m(), m a classmethod -/
section
variable {X : Cx} {k : Nat} {C : Addr} {x m : Str} {ps : List Str} {sp : Sp} {W : WX} {p pos apos : Pos}
theorem pe_cm0X {CX : CXT} {E : L2.St → XK} {pl : Sem Bool} (F : CmC X.prog X.w X.K X.mg X.base CX k C x m ps sp) (hr : Room k X.A) (hx : ∀ σ, PassesAt CX X σ (E σ)) (hg : Gl X x) (hdb : (x == ("__debug__" : Str)) = false := by decide)
    (ht : eval (.Call (.Attribute (.Name x p) m apos) [] [] pos) X.env = (do
      let ov ← eval (.Name x p) X.env
      standAt apos.atName
      let (f, first) ← holding [ov] (getMethod ov m pl)
      callWith pos f first (backTo pos (starEach [] X.env)) (backToKw pos (keywordEach [] X.env))) := by rfl) :
    PE X (.Call (.Attribute (.Name x p) m apos) [] [] pos) (tCm C sp E tNil) := by
  obtain ⟨f, q, fd, h, r, c, hm, hb⟩ := F.ex
  refine ⟨fun pins s σ H Q I hh => ?_⟩
  refine PySem.W.methodCall_KW (pl := pl) (ld_glob I hg hm ?_ hdb) ht
  refine getmethcm_ok I r c fun s2 I2 => ?_
  refine PySem.W.callWith_M0 (K := X.K) (first := []) ⟨pin_at I2, I2.kIn⟩ c.fi ?_
  have hl : ([Value.ref C] : List Value).length = ps.length := by
    rw [← h.len _ _ _ _ hh]; rfl
  have b := hb s2 [.ref C] I2.kIn (by rw [List.append_nil]; exact hl)
  rw [List.append_nil] at b
  have z : wpAny (model X.prog X.w) X.A (call (.ref s.heap.objs.size) []) (EP X ((s.heap.objs.size, PySem.W.methodObj (.ref f) (.ref C)) :: pins) σ Q) X.xe s2 := by
   refine wpAny_call (PySem.W.method_call (pin_at I2) (codeAny_mono (h.run X.A X.stack s2 H ⟨[.ref C], []⟩ [.ref C] [.ref C] Q (E σ) hr I2.env0 b (.cons rfl .nil) hh) fun r s' hq => ?_))
   cases r with
   | error e => exact hx σ _ H s2 e s' I2 hq
   | ok fl =>
    cases fl with
    | ret u => exact I2.after hq
    | next => exact False.elim hq
    | brk => exact False.elim hq
    | cont => exact False.elim hq
  exact thn z fun _ _ y => unpinE y
theorem pe_cm0C {pl : Sem Bool} (F : CmC X.prog X.w X.K X.mg X.base CX0 k C x m ps sp) (hr : Room k X.A) (hg : Gl X x) (hdb : (x == ("__debug__" : Str)) = false := by decide)
    (ht : eval (.Call (.Attribute (.Name x p) m apos) [] [] pos) X.env = (do
      let ov ← eval (.Name x p) X.env
      standAt apos.atName
      let (f, first) ← holding [ov] (getMethod ov m pl)
      callWith pos f first (backTo pos (starEach [] X.env)) (backToKw pos (keywordEach [] X.env))) := by rfl) :
    PE X (.Call (.Attribute (.Name x p) m apos) [] [] pos) (tCm C sp (fun _ => E0) tNil) := pe_cm0X F hr (fun _ _ _ _ _ _ _ z => (show False from z).elim) hg hdb ht
end
end Kb

/-! ### new objects at an abstract heap, repr of data, what stands in the heap -/
namespace Kb
open PySem PySem.Spec PyProof.Rows L2 ClX
theorem isIte {c A B : Prop} {i : Decidable c} (h : @ite Prop c i A B) : @ite Prop c i A B := h
theorem iteNSI {c A B : Prop} {i : Decidable c} {j : Decidable ((!(@decide c i)) = true)} (hc : c) (h : B) : @ite Prop ((!(@decide c i)) = true) j A B := by
  rw [if_neg (by simp [hc])]; exact h
theorem iteTI {A B : Prop} {j : Decidable (true = true)} (h : A) : @ite Prop (true = true) j A B := by
  rw [if_pos rfl]; exact h
theorem iteFI {A B : Prop} {j : Decidable (false = true)} (h : B) : @ite Prop (false = true) j A B := by
  rw [if_neg Bool.false_ne_true]; exact h
/-- a new object o: whatever heap holds it and all that stood -/
def New (H : Hp) (o : HO) (Q : VK) : Prop := ∀ p H', H p = none → Same H H' → H' p = some o → Q (.ref p) H'
theorem sm_new {H : Hp} {p : Addr} {o : HO} (h : H p = none) : Same H (upd H p o) := fun a u e => by rw [upd_ne (ne_of_none e h)]; exact e
theorem New.at {H : Hp} {o : HO} {Q : VK} (h : New H o Q) {p : Addr} (hp : H p = none) : Q (.ref p) (upd H p o) := h p _ hp (sm_new hp) upd_same
def tTupN (t : TA) : TE := fun σ H Q => t σ H fun xs H1 => xs.length ≤ 1000000 ∧ New H1 (.tup xs) Q
def tLstN (t : TA) : TE := fun σ H Q => t σ H fun xs H1 => xs.length ≤ 1000000 ∧ New H1 (.lst xs) Q
section
variable {X : Cx} {es : List Expr} {t : TA} {pos : Pos}
theorem pe_tupN {x1} (h : PA X es t) : PE X (.Tuple es x1 pos) (tTupN t) := by
  refine ⟨fun pins s σ H Q I hq => ?_⟩
  refine wpAny_Tuple_spliced (thn (h.run pos pins s σ H _ I hq) fun us s1 ⟨xs, H1, I1, r, z, q⟩ => ⟨by rw [← r.length]; exact szl z, ?_⟩)
  have hf : H1 s1.heap.objs.size = none := I1.hok.fresh (Nat.le_refl _)
  refine ⟨.ref s1.heap.objs.size, upd H1 s1.heap.objs.size (.tup xs), I1.laid (t' := s1.toks) (fun b u e => Heap.get?_push_of_some _ e) (Nat.le_refl _) ?_, rfl, q.at hf⟩
  exact ⟨szl z, us, r, ⟨_, Heap.get?_push_size _ rfl, rfl, _, rfl⟩⟩
theorem pe_lstN (h : PA X es t) : PE X (.List es pos) (tLstN t) := by
  refine ⟨fun pins s σ H Q I hq => ?_⟩
  refine wpAny_List_spliced (thn (h.run pos pins s σ H _ I hq) fun us s1 ⟨xs, H1, I1, r, z, q⟩ => ⟨by rw [← r.length]; exact szl z, ?_⟩)
  have hf : H1 s1.heap.objs.size = none := I1.hok.fresh (Nat.le_refl _)
  refine ⟨.ref s1.heap.objs.size, upd H1 s1.heap.objs.size (.lst xs), I1.laid (t' := s1.toks) (fun b u e => Heap.get?_push_of_some _ e) (Nat.le_refl _) ?_, rfl, q.at hf⟩
  exact ⟨szl z, us, 0, r, Heap.get?_push_size _ rfl⟩
end
/-! ### repr -/
structure Shw (d : PyData) (n w : Nat) : Prop where
  a : d.showable = true
  b : d.hasDict = false
  c : d.depth ≤ n
  l : d.leavesShort 1001 = true
  w : d.weight ≤ w
structure ShwL (ds : List PyData) (n w : Nat) : Prop where
  a : PyData.showableAll ds = true
  b : PyData.hasDictAll ds = false
  c : PyData.depthAll ds ≤ n
  l : PyData.leavesShortAll 1001 ds = true
  w : PyData.weightAll ds ≤ w
theorem Shw.int {i : Int} (h : showsI i) : Shw (.int i) 0 1001 := ⟨(show_int h).1, rfl, Nat.le_refl _, (show_int h).2, weight_int h⟩
theorem Shw.bool (b : Bool) : Shw (.bool b) 0 0 := ⟨rfl, rfl, Nat.le_refl _, rfl, Nat.le_refl _⟩
theorem Shw.none : Shw .none 0 0 := ⟨rfl, rfl, Nat.le_refl _, rfl, Nat.le_refl _⟩
theorem Shw.str {z : Str} {m : Nat} (h : z.cps.toList.all (fun c => decide (c < 16 ^ 8)) = true) (hm : z.length ≤ m) : Shw (.str z) 0 m := ⟨rfl, rfl, Nat.le_refl _, h, hm⟩
theorem ShwL.nil : ShwL [] 0 0 := ⟨rfl, rfl, Nat.le_refl _, rfl, Nat.le_refl _⟩
theorem ShwL.cons {d : PyData} {ds : List PyData} {n w n' w' : Nat} (h : Shw d n w) (hs : ShwL ds n' w') : ShwL (d :: ds) (max n n') (w + 1 + w') := by
  refine ⟨?_, ?_, ?_, ?_, ?_⟩
  · show (d.showable && PyData.showableAll ds) = true
    rw [h.a, hs.a]; rfl
  · show (d.hasDict || PyData.hasDictAll ds) = false
    rw [h.b, hs.b]; rfl
  · show max d.depth (PyData.depthAll ds) ≤ _
    have := h.c
    have := hs.c
    omega
  · show (d.leavesShort 1001 && PyData.leavesShortAll 1001 ds) = true
    rw [h.l, hs.l]; rfl
  · show d.weight + 1 + PyData.weightAll ds ≤ _
    have := h.w
    have := hs.w
    omega
theorem Shw.tup {ds : List PyData} {n w : Nat} (h : ShwL ds n w) : Shw (.tuple ds) (n + 1) w := ⟨h.a, h.b, Nat.succ_le_succ h.c, h.l, h.w⟩
theorem Shw.lst {ds : List PyData} {n w : Nat} (h : ShwL ds n w) : Shw (.list ds) (n + 1) w := ⟨h.a, h.b, Nat.succ_le_succ h.c, h.l, h.w⟩
theorem Shw.ok {d : PyData} {n w : Nat} (h : Shw d n w) (hn : n ≤ 100) (hw : 1003 * w + 1001 ≤ 16000000) : ShOk d := shOk h.a h.b (Nat.le_trans h.c hn) h.l (by
  have := h.w
  have e : 1003 * d.weight ≤ 1003 * w := Nat.mul_le_mul_left _ this
  exact Nat.le_trans (show 1003 * d.weight + 1001 ≤ 16000000 by omega) (by decide))
section
variable {X : Cx} {k : Nat}
end
end Kb

/-! ### tuples put together and cut, at an abstract heap -/
namespace Kb
open PySem PySem.Spec PyProof.Rows L2 ClX
section
variable {X : Cx}
end
end Kb

/-! ### NotImplemented told by the left operand's method, the right operand's own reflected operator -/
namespace PySem.W
open PySem PySem.Calls PyProof.Rows
section
variable {prog : Program} {w : World} {M : Model} {A : Around} {E : Value → Shared → Prop} {s : Shared} {K : Frag} {x y C D L f g : Addr} {h₀ : Heap} {m : Str → Option Value} {ox oy : Obj} {od od' : Option Obj} {nm : String}
end
end PySem.W
namespace Kb
open PySem PySem.Spec PyProof.Rows L2 ClX
/-- a function that answers NotImplemented and leaves the heap as it was -/
structure FnNi (P : Program) (w : World) (K : PySem.W.Frag) (mg : Str → Option Value) (base : Heap) (k : Nat) (f : Addr) (fd : FuncData) (ps : List Str) (sn : List V → Hp → Prop) : Prop where
  len : ∀ vs H, sn vs H → vs.length = ps.length
  run : ∀ (A : Around) (outer : List Env) (s : Shared) (H : Hp) (args : Args) (us : List Value) (vs : List V), Room k A → Env0 P w K mg base A outer s H → BindsTo s fd args (ps.zip us) → Vals vs us → sn vs H →
    codeAny (model P w) A (.call (.ref f) args) (fun r s' => r = .ok (.ret .notImplemented) ∧ CE outer P w H s (fun _ H' => H' = H) .none s') s
structure PSn (X : Cx) (st : List Stmt) (t : L2.St → Hp → Prop) : Prop where
  run : ∀ (pins : List (Addr × Obj)) (s : Shared) (σ : L2.St) (H : Hp), Inv X pins σ H s → t σ H → wpAny (model X.prog X.w) X.A (execs st X.env) (fun f s' => f = .ret .notImplemented ∧ Inv X pins σ H s') X.xe s
section
variable {X : Cx}
end
section
variable {P : Program} {w : World} {K : PySem.W.Frag} {mg : Str → Option Value} {base : Heap}
/-- a method that answers NotImplemented -/
structure MtNi (P : Program) (w : World) (K : PySem.W.Frag) (mg : Str → Option Value) (base : Heap) (k : Nat) (C : Addr) (m : Str) (ps : List Str) (sn : List V → Hp → Prop) : Prop where
  ex : ∃ (f : Addr) (fd : FuncData), FnNi P w K mg base k f fd ps sn ∧ Meth K C m f ∧ Binds K fd ps []
end
/-- both classes stand in the order that the reflected operator wants -/
structure OpR2 (K : PySem.W.Frag) (C D : Addr) (op : Operator) : Prop where
  ne : C ≠ D
  sf : PySem.W.selfFirst K C = true
  sg : PySem.W.selfFirst K D = true
  sub : PySem.W.subIn K (.ref D) (.ref C) = some false
  r : PySem.W.findIn K (.ref C) (dunderR op.info.2) = some none
  no : PySem.W.findIn K (.ref D) (PySem.dunder op.info.2) = some none
section
variable {X : Cx} {k j : Nat} {C D : Addr} {ps ps' : List Str} {sn : List V → Hp → Prop} {sp : Sp} {op : Operator}
end
end Kb
/-! ### the slots made plain -/
namespace Kb
open PySem PySem.Spec PyProof.Rows L2 ClX
abbrev tNrm (t : TS) : TS := fun D σ H => ∀ σ', σ = σ' → t D σ' H
theorem pss_nrm {X : Cx} {st : List Stmt} {t : TS} (h : PSs X st t) : PSs X st (tNrm t) := ⟨fun pins s σ H D I q => h.run pins s σ H D I (q σ rfl)⟩
theorem nrm_of {T : L2.St → Prop} {σ σ' : L2.St} (e : σ = σ') (h : T σ') : ∀ σ'', σ = σ'' → T σ'' := fun _ e' => e' ▸ e ▸ h
end Kb

/-! ### own `in`, own truth, displays of dicts with a tuple as key -/
namespace Kb
open PySem PySem.Spec PyProof.Rows L2 ClX
section
variable {X : Cx} {k : Nat} {m : Str} {C : Addr} {ps : List Str} {sp : Sp} {e : Expr} {te : TE} {pos : Pos}
/-! ### {k: v} with a tuple as key -/
end
/-! ### for i, x in enumerate(xs) -/
/-! ### x in a tuple of data, a walk over a list or a tuple -/
section
variable {X : Cx}
def rInDT (K : PySem.W.Frag) : R2 := fun x y H Q => ∃ d ds, Dp K H x d ∧ Dp K H y (.tuple ds) ∧ SeqAt.shaped d = true ∧ SeqAt.shaped (.tuple ds) = true ∧ Q (.bl (ds.any fun z => PyData.eqv z d)) H
theorem op_inDT (hu : X.A.units + 65 < cLine) : OpR X (compareOp .In) (rInDT X.K) := by
  intro pins s σ H x y v u Q I rx ry h
  obtain ⟨d, ds, hd, he, sd, se, q⟩ := h
  obtain ⟨as, r1⟩ := Dp.reads I d x v hd rx
  obtain ⟨bs, r2⟩ := Dp.reads I (.tuple ds) y u he ry
  exact SeqAt.in_tuple_reads r2 r1 (SeqAt.canLay_of_shaped se) (SeqAt.canLay_of_shaped sd) (room_in_shaped sd hu) ⟨.bl _, H, I, rfl, q⟩
end
theorem hu65 {A : Around} {k : Nat} (hr : Room k A) : A.units + 65 < cLine := by have := hr.un; omega
end Kb

/-! ### enumerate of a text, of a tuple -/
namespace Kb
open PySem PySem.Spec PyProof.Rows L2 ClX
section
variable {prog : Program} {w : World} {A : Around} {E : Value → Shared → Prop} {s : Shared}
end
/-- the items of the iterator within, as the reading has them -/
structure EnD (P : Program) (w : World) (K : PySem.W.Frag) (it : Addr) (n : Hp → Nat → Prop) (val : Hp → Nat → V → Prop) (St : Nat → Heap → Prop) : Prop where
  run : ∀ (X : Cx), X.prog = P → X.w = w → X.K = K → X.calm = true → ∀ (pins : List (Addr × Obj)) (s : Shared) (σ : L2.St) (H : Hp) (m : Nat), Inv X pins σ H s → n H m →
    ∃ (fp : List Addr) (P' : Nat → Value → Prop) (St' : Nat → Heap → Prop), Draws P w X.A.in1 it fp m P' St' ∧ (∀ i, St i s.heap → St' i s.heap) ∧ (∀ i h, St' i h → St i h) ∧ (∀ i u, P' i u → ∃ x, RelV x u ∧ val H i x) ∧ ∀ e, (∃ b old i, IsEnum s.heap e b i old) → e ≠ it → e ∉ fp
/-! texts -/
/-! tuples -/
end Kb

/-! ### a list of truths: count; a comprehension over an enumerate -/
namespace Kb
open PySem PySem.Spec PyProof.Rows L2 ClX
section
variable {X : Cx}
end
end Kb

/-! ### is True, is not True -/
namespace Kb
open PySem PySem.Spec PyProof.Rows L2 ClX
section
variable {X : Cx}
end
end Kb

/-! ### ~x of an own instance; a promise that nothing meets -/
namespace Kb
open PySem PySem.Spec PyProof.Rows L2 ClX
section
variable {X : Cx} {k : Nat} {C : Addr} {ps : List Str} {sp : Sp}
end
end Kb

/-! ### rules that name the written part, for blocks of comprehensions -/
namespace Kb
open PySem PySem.Spec PyProof.Rows L2 ClX
section
variable {X : Cx} {K : PySem.W.Frag}
end
end Kb

/-! ### a builtin value on the left, an own object on the right whose class has the reflected operator -/
namespace PySem.W
open PySem PySem.Calls PyProof.Rows
section
variable {prog : Program} {w : World} {M : Model} {A : Around} {E : Value → Shared → Prop} {s : Shared} {K : Frag} {y D L g : Addr} {h₀ : Heap} {m : Str → Option Value} {oy : Obj} {od : Option Obj} {nm T : String}
end
end PySem.W

/-! ### the head by one run of the top: the facts are looked at in the run -/
namespace Kb
open PySem PySem.Spec PyProof.Rows L2 ClX
/-- a def: where it stands, its name, qualified name, parameters, body, scope -/
structure FZ where
  at_ : PySem.W.Frag → Addr
  name : Str
  qual : Str
  st : Stmt
def FZ.val (d : FZ) : He.FnV := some (d.name, d.qual, defArgs d.st, .stmts (defBody d.st), defScope d.st, mainGlobals, [], .none, builtinsNs)
def fzObs (K : PySem.W.Frag) (a : Addr) : He.FnV := match K.lookup a with
  | some ⟨_, _, .func fd, _⟩ => some (fd.name, fd.qualname, fd.params, fd.body, fd.scope, fd.globals, fd.closure, fd.defaults, fd.builtins)
  | _ => none
def fzCode (K : PySem.W.Frag) (a : Addr) (q : Str) : Bool := match K.lookup a with
  | some ⟨_, _, .func fd, _⟩ => PySem.W.codeIn K fd.code q
  | _ => false
theorem fz_ok {K : PySem.W.Frag} {d : FZ} (seen : fzObs K (d.at_ K) = d.val) (coded : fzCode K (d.at_ K) d.qual = true) :
    ∃ cl di sl kw dc md an cv cm, K.lookup (d.at_ K) = some ⟨cl, di, .func (PySem.W.fnOf d.name d.qual (defArgs d.st) (defBody d.st) (defScope d.st) .none kw dc md an cv cm), sl⟩ ∧ PySem.W.codeIn K cv d.qual = true := by
  unfold fzCode at coded
  unfold fzObs FZ.val at seen
  split at coded
  · rename_i cl di fun_ sl here
    rw [here] at seen
    cases fun_ with
    | mk nm qn pa bo sc gl clo df kw dc md an cv cm bn =>
      have same := Option.some.inj seen
      simp only [Prod.mk.injEq] at same
      rcases same with ⟨rfl, rfl, rfl, rfl, rfl, rfl, rfl, rfl, rfl⟩
      exact ⟨cl, di, sl, kw, dc, md, an, cv, cm, here, coded⟩
  · cases coded
abbrev AlZ : Type := Bool × List He.FnV
def obsZ (fs : List (PySem.W.Frag → Bool)) (fn : List FZ) (K : PySem.W.Frag) : AlZ := ((fs.all fun f => f K) && fn.all fun d => fzCode K (d.at_ K) d.qual, fn.map fun d => fzObs K (d.at_ K))
def valZ (fn : List FZ) : AlZ := (true, fn.map FZ.val)
def SaysZ (fs : List (PySem.W.Frag → Bool)) (fn : List FZ) (K : PySem.W.Frag) : Prop := obsZ fs fn K = valZ fn
/-- what an object of the text names -/
def refsZ (o : Obj) : List Addr := match o.data with
  | .seq its _ => its.toList.flatMap He.refV
  | .dict es _ => es.toList.flatMap fun e => He.refV e.val
  | .func fd => He.refV fd.code
  | .cls cd => [cd.ns]
  | .fields vs => vs.toList.flatMap He.refV
  | _ => []
def stepZ (g : Addr → Option Obj) (as : List Addr) : List Addr := as.flatMap fun a => match g a with
  | some o => refsZ o
  | none => []
def lvZ (g : Addr → Option Obj) : Nat → List Addr → List Addr
  | 0, as => as
  | n + 1, as => as ++ lvZ g n (stepZ g as)
def asZ (g : Addr → Option Obj) (n : Nat) : List Addr := lvZ g n [mainGlobals] ++ [cStatics]
def obsZG (n : Nat) (fs : List (PySem.W.Frag → Bool)) (fn : List FZ) (g : Addr → Option Obj) : AlZ := obsZ fs fn (He.frG g (asZ g n))
def hookZ (n : Nat) (fs : List (PySem.W.Frag → Bool)) (fn : List FZ) : PySem.W.Hook :=
  ⟨AlZ, fun s => obsZG n fs fn s.heap.get?, fun _ => valZ fn, fun _ h => ∃ F : PySem.W.Frag, F.In h ∧ SaysZ fs fn F, fun _ s z => ⟨He.frG s.heap.get? (asZ s.heap.get? n), He.frG_in, z⟩, fun _ _ _ said more => said.elim fun F z => ⟨F, PySem.W.Frag.In.keeps z.1 more, z.2⟩⟩
theorem obsZG_eq {n : Nat} {fs : List (PySem.W.Frag → Bool)} {fn : List FZ} {g : Addr → Option Obj} {s : Shared} (h : ∀ a, g a = s.heap.get? a) : obsZG n fs fn g = (hookZ n fs fn).obs s := congrArg (obsZG n fs fn) (funext h)
section
variable {fs : List (PySem.W.Frag → Bool)} {fn : List FZ} {K : PySem.W.Frag}
theorem SaysZ.parts (z : SaysZ fs fn K) : (∀ f ∈ fs, f K = true) ∧ (∀ d ∈ fn, fzCode K (d.at_ K) d.qual = true) ∧ ∀ d ∈ fn, fzObs K (d.at_ K) = d.val := by
  obtain ⟨zb, zl⟩ := Prod.mk.inj (show ((fs.all fun f => f K) && fn.all fun d => fzCode K (d.at_ K) d.qual, fn.map fun d => fzObs K (d.at_ K)) = (true, fn.map FZ.val) from z)
  rw [Bool.and_eq_true, List.all_eq_true, List.all_eq_true] at zb
  exact ⟨zb.1, zb.2, fun d hd => List.map_inj_left.mp zl d hd⟩
theorem SaysZ.fact (z : SaysZ fs fn K) (i : Nat) {f : PySem.W.Frag → Bool} (h : fs[i]? = some f) : f K = true := z.parts.1 f (List.mem_iff_getElem?.mpr ⟨i, h⟩)
theorem SaysZ.def_ (z : SaysZ fs fn K) (i : Nat) {d : FZ} (h : fn[i]? = some d) :
    ∃ cl di sl kw dc md an cv cm, K.lookup (d.at_ K) = some ⟨cl, di, .func (PySem.W.fnOf d.name d.qual (defArgs d.st) (defBody d.st) (defScope d.st) .none kw dc md an cv cm), sl⟩ ∧ PySem.W.codeIn K cv d.qual = true :=
  have hd := List.mem_iff_getElem?.mpr ⟨i, h⟩
  fz_ok (z.parts.2.2 d hd) (z.parts.2.1 d hd)
end
/-! addresses and facts by names -/
section
variable {K : PySem.W.Frag}
def gloB (K : PySem.W.Frag) (x : Str) : Bool := match PySem.W.nsIn K mainGlobals x with
  | some (some (.ref _)) => true
  | _ => false
theorem gloB_ok {x : Str} (h : gloB K x = true) : PySem.W.nsIn K mainGlobals x = some (some (.ref (He.ga K x))) := by
  unfold gloB at h
  unfold He.ga
  split at h
  · rename_i a e; rw [e]
  · cases h
def freeB (K : PySem.W.Frag) (x : Str) : Bool := match PySem.W.nsIn K mainGlobals x with
  | some none => true
  | _ => false
theorem freeB_ok {x : Str} (h : freeB K x = true) : PySem.W.nsIn K mainGlobals x = some none := by
  unfold freeB at h
  split at h
  · assumption
  · cases h
def methB (K : PySem.W.Frag) (C : Addr) (m : Str) : Bool := match PySem.W.findIn K (.ref C) m with
  | some (some (.ref _)) => true
  | _ => false
theorem methB_ok {C : Addr} {m : Str} (h : methB K C m = true) : PySem.W.findIn K (.ref C) m = some (some (.ref (He.ma K C m))) := by
  unfold methB at h
  unfold He.ma
  split at h
  · rename_i a e; rw [e]
  · cases h
/-- what a property, a class method holds -/
def rcA (K : PySem.W.Frag) (p : Addr) (T : String) : Addr := match PySem.W.recIn K p T with
  | some (.ref f :: _) => f
  | _ => 0
def rcB (K : PySem.W.Frag) (p : Addr) (T : String) : Bool := match PySem.W.recIn K p T with
  | some (.ref _ :: _) => true
  | _ => false
theorem rcB_ok {p : Addr} {T : String} (h : rcB K p T = true) : ∃ rc, PySem.W.recIn K p T = some (.ref (rcA K p T) :: rc) := by
  unfold rcB at h
  unfold rcA
  split at h
  · rename_i f rc e; exact ⟨rc, by rw [e]⟩
  · cases h
def cmA (K : PySem.W.Frag) (C : Addr) (m : Str) : Addr := match PySem.W.findCls K (.ref C) (.type "type") m with
  | some (.get _ (.ref p) _ _) => p
  | _ => 0
def cmB (K : PySem.W.Frag) (C : Addr) (m : Str) : Bool := match PySem.W.findCls K (.ref C) (.type "type") m with
  | some (.get g (.ref _) o t) => decide (g = .builtin "classmethod.__get__") && (decide (o = .none) && decide (t = .ref C))
  | _ => false
theorem cmB_ok {C : Addr} {m : Str} (h : cmB K C m = true) : PySem.W.findCls K (.ref C) (.type "type") m = some (.get (.builtin "classmethod.__get__") (.ref (cmA K C m)) .none (.ref C)) := by
  unfold cmB at h
  unfold cmA
  split at h
  · rename_i g p o t e
    obtain ⟨h1, h2⟩ := He.ba h
    obtain ⟨h2, h3⟩ := He.ba h2
    have h1 := of_decide_eq_true h1
    have h2 := of_decide_eq_true h2
    have h3 := of_decide_eq_true h3
    subst h1 h2 h3
    rw [e]
  · cases h
def clsB (K : PySem.W.Frag) (C : Addr) (m : Str) (v : Value) : Bool := match PySem.W.findCls K (.ref C) (.type "type") m with
  | some (.val u) => decide (u = v)
  | _ => false
theorem clsB_ok {C : Addr} {m : Str} {v : Value} (h : clsB K C m v = true) : PySem.W.findCls K (.ref C) (.type "type") m = some (.val v) := by
  unfold clsB at h
  split at h
  · rename_i u e; rw [e, of_decide_eq_true h]
  · cases h
/-- a constant tuple: its items -/
def tupIt (K : PySem.W.Frag) (a : Addr) : List Value := match K.lookup a with
  | some ⟨.type _, _, .seq its _, _⟩ => its.toList
  | _ => []
def tupB (K : PySem.W.Frag) (a : Addr) (p : List Value → Bool) : Bool := match K.lookup a with
  | some ⟨.type t, _, .seq its _, _⟩ => decide (t = "tuple") && p its.toList
  | _ => false
theorem tupB_ok {a : Addr} {p : List Value → Bool} (h : tupB K a p = true) : ∃ o n s, K.lookup a = some ⟨.type "tuple", o, .seq (tupIt K a).toArray n, s⟩ ∧ p (tupIt K a) = true := by
  unfold tupB at h
  unfold tupIt
  split at h
  · rename_i t o its n s e
    obtain ⟨h1, h2⟩ := He.ba h
    have h1 := of_decide_eq_true h1
    subst h1
    refine ⟨o, n, s, ?_, ?_⟩
    · rw [e]
    · exact h2
  · cases h
def isInts : List Int → List Value → Bool
  | [], [] => true
  | i :: is, .int j _ :: vs => decide (i = j) && isInts is vs
  | _, _ => false
theorem isInts_cons {i : Int} {is : List Int} {vs : List Value} (h : isInts (i :: is) vs = true) : ∃ t r, vs = .int i t :: r ∧ isInts is r = true := by
  cases vs with
  | nil => cases h
  | cons v vs =>
    cases v <;> first
      | (cases h; done)
      | (rename_i j t
         simp only [isInts, Bool.and_eq_true, decide_eq_true_eq] at h
         obtain ⟨rfl, h⟩ := h
         exact ⟨t, vs, rfl, h⟩)
theorem isInts_nil {vs : List Value} (h : isInts [] vs = true) : vs = [] := by
  cases vs with
  | nil => rfl
  | cons v vs => cases v <;> cases h
theorem isInts4 {i j k l : Int} {vs : List Value} (h : isInts [i, j, k, l] vs = true) : ∃ a b c d, vs = [.int i a, .int j b, .int k c, .int l d] := by
  obtain ⟨a, r1, e1, h1⟩ := isInts_cons h
  obtain ⟨b, r2, e2, h2⟩ := isInts_cons h1
  obtain ⟨c, r3, e3, h3⟩ := isInts_cons h2
  obtain ⟨d, r4, e4, h4⟩ := isInts_cons h3
  exact ⟨a, b, c, d, by rw [e1, e2, e3, e4, isInts_nil h4]⟩
theorem ints4_ok {a : Addr} {i j k l : Int} (h : tupB K a (isInts [i, j, k, l]) = true) : ∃ o n s t1 t2 t3 t4, K.lookup a = some ⟨.type "tuple", o, .seq #[.int i t1, .int j t2, .int k t3, .int l t4] n, s⟩ := by
  obtain ⟨o, n, s, e, p⟩ := tupB_ok h
  obtain ⟨t1, t2, t3, t4, hz⟩ := isInts4 p
  rw [hz] at e
  exact ⟨o, n, s, t1, t2, t3, t4, e⟩
/-- an error's class -/
def errB (K : PySem.W.Frag) (C U : Addr) : Bool := match K.lookup C with
  | some ⟨.type t, _, .cls cd, sl⟩ => decide (t = "type") && (decide (cd.mro = [.ref C, .ref U, .type "ValueError", .type "Exception", .type "BaseException", .type "object"]) && (cd.hasDict && (!cd.hasDel && (match sl.toList with
    | [_, _, _, _, some (.builtin n), _] => decide (n = "ValueError.__new__")
    | _ => false))))
  | _ => false
theorem errB_ok {C U : Addr} (h : errB K C U = true) : ∃ nm q N bs sn sub ab col dd m0 m1 m2 m3 m5, K.lookup C = some (excClassObj nm q C N bs [.ref U, .type "ValueError", .type "Exception", .type "BaseException", .type "object"] true sn sub ab col dd m0 m1 m2 m3 m5 "ValueError.__new__") := by
  unfold errB at h
  split at h
  · rename_i t dd cd sl e
    obtain ⟨hA, hB⟩ := He.ba h
    obtain ⟨hC, hD⟩ := He.ba hB
    obtain ⟨hE, hF⟩ := He.ba hD
    obtain ⟨hG, hI⟩ := He.ba hF
    clear h hB hD hF
    have hA := of_decide_eq_true hA
    have hC := of_decide_eq_true hC
    split at hI
    · rename_i k0 k1 k2 k3 n k5 es
      have hJ := of_decide_eq_true hI
      have esl : sl = #[k0, k1, k2, k3, some (.builtin n), k5] := by cases sl; exact congrArg Array.mk es
      obtain ⟨nm, bs, mro, N, q, hd, sn, sub, ab, col, del⟩ := cd
      have hH : (!del) = true := hG
      have hL : del = false := by cases del <;> first | rfl | cases hH
      clear hG hH
      have hE : hd = true := hE
      have hC : mro = _ := hC
      subst hA hJ hC hE hL esl
      exact ⟨nm, q, N, bs, sn, sub, ab, col, dd, k0, k1, k2, k3, k5, e⟩
    · cases hI
  · cases h
end
end Kb

/-! ### a method called, a builtin value + an own object, where the def may raise; a value or another by a test -/
namespace PySem.W
open PySem PySem.Calls PyProof.Rows
section
variable {prog : Program} {w : World} {M : Model} {A : Around} {E : Value → Shared → Prop} {s : Shared} {K : Frag} {y D L g : Addr} {h₀ : Heap} {m : Str → Option Value} {oy : Obj} {od : Option Obj} {nm T : String}
end
end PySem.W
namespace Kb
open PySem PySem.Spec PyProof.Rows L2 ClX
/-- what the class at D must have for a builtin value + its instance -/
structure RaC (K : PySem.W.Frag) (D : Addr) : Prop where
  sf : PySem.W.selfFirst K D = true
  no : PySem.W.findIn K (.ref D) "__add__" = some none
  s1 : PySem.W.findIn K (.type "str") "__add__" = some (some (.builtin "str.__add__"))
  s2 : PySem.W.findIn K (.type "str") "__radd__" = some none
  l1 : PySem.W.findIn K (.type "list") "__add__" = some (some (.builtin "list.__add__"))
  l2 : PySem.W.findIn K (.type "list") "__radd__" = some none
  t1 : PySem.W.findIn K (.type "tuple") "__add__" = some (some (.builtin "tuple.__add__"))
  t2 : PySem.W.findIn K (.type "tuple") "__radd__" = some none
  n1 : PySem.W.findIn K (.type "NoneType") "__add__" = some none
  n2 : PySem.W.findIn K (.type "NoneType") "__radd__" = some none
  si : PySem.W.subIn K (.ref D) (.type "int") = some false
/-- a value that may stand on the left -/
inductive Lf (H : Hp) : V → Prop
  | non : Lf H .non
  | int (i : Int) : Lf H (.int i)
  | str (z : Str) : Lf H (.str z)
  | tup {p : Addr} {xs : List V} (h : H p = some (.tup xs)) : Lf H (.ref p)
  | lst {p : Addr} {xs : List V} (h : H p = some (.lst xs)) : Lf H (.ref p)
section
variable {X : Cx} {CX : CXT} {k : Nat} {C : Addr} {m : Str} {ps : List Str} {sp : Sp} {E : L2.St → XK} {W : WX} {a b o e : Expr} {es : List Expr} {ta tb te : TE} {t : TA} {pos apos : Pos}
end
end Kb

/-! ### x[i] by the class's own `__getitem__` -/
namespace Kb
open PySem PySem.Spec PyProof.Rows L2 ClX
structure IxC (K : PySem.W.Frag) (C : Addr) : Prop where
  ex : ∃ f : Addr, PySem.W.findIn K (.ref C) "__getitem__" = some (some (.ref f)) ∧ PySem.W.fnIn K f = true
section
variable {X : Cx} {k : Nat} {C : Addr} {ps : List Str} {sp : Sp} {a b : Expr} {ta tb : TE} {pos : Pos}
end
end Kb

/-! ### an own error with one field; isinstance of a caught error that has fields; x[i] by an own `__getitem__` that may raise -/
namespace Kb
open PySem PySem.Spec PyProof.Rows L2 ClX
def sp_err1 (C : Addr) (fl : Str) : Sp := fun vs H Q _ => ∃ (a : Addr) (v : V), vs = [.ref a, v] ∧ H a = some (exo a C none) ∧ ∀ dx, H dx = none → dx ≠ a → Q .non (upd (upd H dx (exd dx [(fl, v)])) a (exo a C (some dx)))
/-- an own error with one field, made by its name -/
structure Er1 (P : Program) (w : World) (K : PySem.W.Frag) (mg : Str → Option Value) (base : Heap) (x : Str) (C : Addr) (par fl : Str) : Prop where
  ex : ∃ (f : Addr) (fd : FuncData), FnOk P w K mg base CX0 2 f fd ["self", par] (sp_err1 C fl) ∧ OexC K C ∧ PySem.W.findIn K (.ref C) "__init__" = some (some (.ref f)) ∧ PySem.W.typeIn K (.ref f) = some (.type "function") ∧ mg x = some (.ref C) ∧ Binds K fd ["self", par] []
theorem Er1.nm {P : Program} {w : World} {K : PySem.W.Frag} {mg : Str → Option Value} {base : Heap} {x : Str} {C : Addr} {par fl : Str} (F : Er1 P w K mg base x C par fl) : mg x = some (.ref C) := let ⟨_, _, _, _, _, _, h, _⟩ := F.ex; h
section
variable {X : Cx} {CX : CXT} {k : Nat} {C : Addr} {ps : List Str} {sp : Sp} {E : L2.St → XK} {W : WX} {a b : Expr} {ta tb : TE} {pos : Pos}
end
end Kb

namespace Lw
open PySem PySem.Spec PyProof.Rows L2 ClX Kb
def top (i : Nat) : Stmt := PySem.Challenge.pw_unmarked_k13_endless_words.main.body.getD i (.Pass ⟨0, 0, 0, 0⟩)
abbrev S__law_take : Stmt := (top 48)
abbrev N__law_take : List Str := ["_law_box_here", "_law_many", "_law_digit", "_law_one"]
theorem SC__law_take : FnScope N__law_take ["_law_box_here", "_law_many"] (defScope S__law_take) := ⟨rfl, rfl, rfl, by decide +kernel, rfl, by decide +kernel, by decide +kernel⟩
abbrev S__law_box : Stmt := (top 47)
abbrev N__law_box : List Str := ["_law_script", "_law_k", "_law_cell", "_law_seed"]
theorem SC__law_box : FnScope N__law_box ["_law_script", "_law_k"] (defScope S__law_box) := ⟨rfl, rfl, rfl, by decide +kernel, rfl, by decide +kernel, by decide +kernel⟩
abbrev S_is_integer : Stmt := (top 11)
abbrev N_is_integer : List Str := ["value"]
theorem SC_is_integer : FnScope N_is_integer ["value"] (defScope S_is_integer) := ⟨rfl, rfl, rfl, by decide +kernel, rfl, by decide +kernel, by decide +kernel⟩
abbrev S_is_length : Stmt := (top 12)
abbrev N_is_length : List Str := ["value"]
theorem SC_is_length : FnScope N_is_length ["value"] (defScope S_is_length) := ⟨rfl, rfl, rfl, by decide +kernel, rfl, by decide +kernel, by decide +kernel⟩
abbrev S_need_word : Stmt := (top 13)
abbrev N_need_word : List Str := ["value", "letter"]
theorem SC_need_word : FnScope N_need_word ["value"] (defScope S_need_word) := ⟨rfl, rfl, rfl, by decide +kernel, rfl, by decide +kernel, by decide +kernel⟩
abbrev S_common_length : Stmt := (top 16)
abbrev N_common_length : List Str := ["first", "second"]
theorem SC_common_length : FnScope N_common_length ["first", "second"] (defScope S_common_length) := ⟨rfl, rfl, rfl, by decide +kernel, rfl, by decide +kernel, by decide +kernel⟩
abbrev S_word_of_lengths : Stmt := (top 17)
abbrev N_word_of_lengths : List Str := ["first", "second", "parts", "many"]
theorem SC_word_of_lengths : FnScope N_word_of_lengths ["first", "second"] (defScope S_word_of_lengths) := ⟨rfl, rfl, rfl, by decide +kernel, rfl, by decide +kernel, by decide +kernel⟩
abbrev S_InvalidWord__init_ : Stmt := (inClass (top 3) 0)
abbrev N_InvalidWord__init_ : List Str := ["self"]
theorem SC_InvalidWord__init_ : FnScope N_InvalidWord__init_ ["self"] (defScope S_InvalidWord__init_) := ⟨rfl, rfl, rfl, by decide +kernel, rfl, by decide +kernel, by decide +kernel⟩
abbrev S_InvalidRatio__init_ : Stmt := (inClass (top 4) 0)
abbrev N_InvalidRatio__init_ : List Str := ["self"]
theorem SC_InvalidRatio__init_ : FnScope N_InvalidRatio__init_ ["self"] (defScope S_InvalidRatio__init_) := ⟨rfl, rfl, rfl, by decide +kernel, rfl, by decide +kernel, by decide +kernel⟩
abbrev S_InvalidChange__init_ : Stmt := (inClass (top 5) 0)
abbrev N_InvalidChange__init_ : List Str := ["self"]
theorem SC_InvalidChange__init_ : FnScope N_InvalidChange__init_ ["self"] (defScope S_InvalidChange__init_) := ⟨rfl, rfl, rfl, by decide +kernel, rfl, by decide +kernel, by decide +kernel⟩
abbrev S_InvalidEdge__init_ : Stmt := (inClass (top 6) 0)
abbrev N_InvalidEdge__init_ : List Str := ["self"]
theorem SC_InvalidEdge__init_ : FnScope N_InvalidEdge__init_ ["self"] (defScope S_InvalidEdge__init_) := ⟨rfl, rfl, rfl, by decide +kernel, rfl, by decide +kernel, by decide +kernel⟩
abbrev S_Ratio__init_ : Stmt := (inClass (top 18) 0)
abbrev N_Ratio__init_ : List Str := ["self", "first", "second", "unit"]
theorem SC_Ratio__init_ : FnScope N_Ratio__init_ ["self", "first", "second"] (defScope S_Ratio__init_) := ⟨rfl, rfl, rfl, by decide +kernel, rfl, by decide +kernel, by decide +kernel⟩
abbrev S_Ratio_word : Stmt := (inClass (top 18) 3)
abbrev N_Ratio_word : List Str := ["self"]
theorem SC_Ratio_word : FnScope N_Ratio_word ["self"] (defScope S_Ratio_word) := ⟨rfl, rfl, rfl, by decide +kernel, rfl, by decide +kernel, by decide +kernel⟩
abbrev S_numbers_behind : Stmt := (top 22)
abbrev N_numbers_behind : List Str := ["numbers", "letter", "a", "b", "c", "d"]
theorem SC_numbers_behind : FnScope N_numbers_behind ["numbers", "letter"] (defScope S_numbers_behind) := ⟨rfl, rfl, rfl, by decide +kernel, rfl, by decide +kernel, by decide +kernel⟩
abbrev S_numbers_of_word : Stmt := (top 23)
abbrev N_numbers_of_word : List Str := ["word", "found", "letter"]
theorem SC_numbers_of_word : FnScope N_numbers_of_word ["word"] (defScope S_numbers_of_word) := ⟨rfl, rfl, rfl, by decide +kernel, rfl, by decide +kernel, by decide +kernel⟩
abbrev S_Change__init_ : Stmt := (inClass (top 25) 0)
abbrev N_Change__init_ : List Str := ["self", "a", "b", "c", "d", "numbers", "number"]
theorem SC_Change__init_ : FnScope N_Change__init_ ["self", "a", "b", "c", "d"] (defScope S_Change__init_) := ⟨rfl, rfl, rfl, by decide +kernel, rfl, by decide +kernel, by decide +kernel⟩
abbrev S_Change_of_word : Stmt := (inClass (top 25) 3)
abbrev N_Change_of_word : List Str := ["cls", "word", "a", "b", "c", "d"]
theorem SC_Change_of_word : FnScope N_Change_of_word ["cls", "word"] (defScope S_Change_of_word) := ⟨rfl, rfl, rfl, by decide +kernel, rfl, by decide +kernel, by decide +kernel⟩
abbrev S_common : Stmt := (top 27)
abbrev N_common : List Str := ["one", "other"]
theorem SC_common : FnScope N_common ["one", "other"] (defScope S_common) := ⟨rfl, rfl, rfl, by decide +kernel, rfl, by decide +kernel, by decide +kernel⟩
abbrev S_sign_of : Stmt := (top 28)
abbrev N_sign_of : List Str := ["number"]
theorem SC_sign_of : FnScope N_sign_of ["number"] (defScope S_sign_of) := ⟨rfl, rfl, rfl, by decide +kernel, rfl, by decide +kernel, by decide +kernel⟩
abbrev S_whole_root : Stmt := (top 29)
abbrev N_whole_root : List Str := ["number", "found", "less"]
theorem SC_whole_root : FnScope N_whole_root ["number"] (defScope S_whole_root) := ⟨rfl, rfl, rfl, by decide +kernel, rfl, by decide +kernel, by decide +kernel⟩
abbrev S_sign_with_root : Stmt := (top 30)
abbrev N_sign_with_root : List Str := ["one", "times", "inner", "left", "right"]
theorem SC_sign_with_root : FnScope N_sign_with_root ["one", "times", "inner"] (defScope S_sign_with_root) := ⟨rfl, rfl, rfl, by decide +kernel, rfl, by decide +kernel, by decide +kernel⟩
abbrev S_lowered : Stmt := (top 32)
abbrev N_lowered : List Str := ["a", "b", "c", "side", "factor"]
theorem SC_lowered : FnScope N_lowered ["a", "b", "c", "side"] (defScope S_lowered) := ⟨rfl, rfl, rfl, by decide +kernel, rfl, by decide +kernel, by decide +kernel⟩
abbrev S_inner_of : Stmt := (top 33)
abbrev N_inner_of : List Str := ["root"]
theorem SC_inner_of : FnScope N_inner_of ["root"] (defScope S_inner_of) := ⟨rfl, rfl, rfl, by decide +kernel, rfl, by decide +kernel, by decide +kernel⟩
abbrev S_Edge__init_ : Stmt := (inClass (top 44) 0)
abbrev N_Edge__init_ : List Str := ["self", "place"]
theorem SC_Edge__init_ : FnScope N_Edge__init_ ["self", "place"] (defScope S_Edge__init_) := ⟨rfl, rfl, rfl, by decide +kernel, rfl, by decide +kernel, by decide +kernel⟩
abbrev S_Edge_of : Stmt := (inClass (top 44) 3)
abbrev N_Edge_of : List Str := ["cls", "ratio"]
theorem SC_Edge_of : FnScope N_Edge_of ["cls", "ratio"] (defScope S_Edge_of) := ⟨rfl, rfl, rfl, by decide +kernel, rfl, by decide +kernel, by decide +kernel⟩
abbrev S_Edge_zero : Stmt := (inClass (top 44) 1)
abbrev N_Edge_zero : List Str := ["cls"]
theorem SC_Edge_zero : FnScope N_Edge_zero ["cls"] (defScope S_Edge_zero) := ⟨rfl, rfl, rfl, by decide +kernel, rfl, by decide +kernel, by decide +kernel⟩
abbrev S_Edge_endless : Stmt := (inClass (top 44) 2)
abbrev N_Edge_endless : List Str := ["cls"]
theorem SC_Edge_endless : FnScope N_Edge_endless ["cls"] (defScope S_Edge_endless) := ⟨rfl, rfl, rfl, by decide +kernel, rfl, by decide +kernel, by decide +kernel⟩
abbrev S_Edge__eq_ : Stmt := (inClass (top 44) 12)
abbrev N_Edge__eq_ : List Str := ["self", "other"]
theorem SC_Edge__eq_ : FnScope N_Edge__eq_ ["self", "other"] (defScope S_Edge__eq_) := ⟨rfl, rfl, rfl, by decide +kernel, rfl, by decide +kernel, by decide +kernel⟩
abbrev S_Edge_parts : Stmt := (inClass (top 44) 9)
abbrev N_Edge_parts : List Str := ["self"]
theorem SC_Edge_parts : FnScope N_Edge_parts ["self"] (defScope S_Edge_parts) := ⟨rfl, rfl, rfl, by decide +kernel, rfl, by decide +kernel, by decide +kernel⟩
abbrev S_Edge_ratio : Stmt := (inClass (top 44) 7)
abbrev N_Edge_ratio : List Str := ["self"]
theorem SC_Edge_ratio : FnScope N_Edge_ratio ["self"] (defScope S_Edge_ratio) := ⟨rfl, rfl, rfl, by decide +kernel, rfl, by decide +kernel, by decide +kernel⟩
abbrev S_Edge_root : Stmt := (inClass (top 44) 4)
abbrev N_Edge_root : List Str := ["cls", "p", "q", "d", "r", "whole", "top", "factor", "value"]
theorem SC_Edge_root : FnScope N_Edge_root ["cls", "p", "q", "d", "r"] (defScope S_Edge_root) := ⟨rfl, rfl, rfl, by decide +kernel, rfl, by decide +kernel, by decide +kernel⟩
abbrev S_changed : Stmt := (top 35)
abbrev N_changed : List Str := ["root", "numbers", "a", "b", "c", "side", "m", "n", "s", "t", "first", "second", "third", "turn"]
theorem SC_changed : FnScope N_changed ["root", "numbers"] (defScope S_changed) := ⟨rfl, rfl, rfl, by decide +kernel, rfl, by decide +kernel, by decide +kernel⟩
abbrev S_place_behind : Stmt := (top 45)
abbrev N_place_behind : List Str := ["numbers", "place", "a", "b", "c", "d", "first", "second", "factor"]
theorem SC_place_behind : FnScope N_place_behind ["numbers", "place"] (defScope S_place_behind) := ⟨rfl, rfl, rfl, by decide +kernel, rfl, by decide +kernel, by decide +kernel⟩
abbrev S_sign_with_roots : Stmt := (top 31)
abbrev N_sign_with_roots : List Str := ["one", "times", "inner", "again", "other", "left", "right", "squares"]
theorem SC_sign_with_roots : FnScope N_sign_with_roots ["one", "times", "inner", "again", "other"] (defScope S_sign_with_roots) := ⟨rfl, rfl, rfl, by decide +kernel, rfl, by decide +kernel, by decide +kernel⟩
abbrev S_compared : Stmt := (top 34)
abbrev N_compared : List Str := ["one", "other", "top", "under", "last", "below", "plain"]
theorem SC_compared : FnScope N_compared ["one", "other"] (defScope S_compared) := ⟨rfl, rfl, rfl, by decide +kernel, rfl, by decide +kernel, by decide +kernel⟩
abbrev S_fixed : Stmt := (top 36)
abbrev N_fixed : List Str := ["numbers", "m", "n", "s", "t"]
theorem SC_fixed : FnScope N_fixed ["numbers"] (defScope S_fixed) := ⟨rfl, rfl, rfl, by decide +kernel, rfl, by decide +kernel, by decide +kernel⟩
abbrev S_step : Stmt := (top 37)
abbrev N_step : List Str := ["root"]
theorem SC_step : FnScope N_step ["root"] (defScope S_step) := ⟨rfl, rfl, rfl, by decide +kernel, rfl, by decide +kernel, by decide +kernel⟩
abbrev S_first_letters : Stmt := (top 38)
abbrev N_first_letters : List Str := ["root", "count", "letters", "turn", "letter"]
theorem SC_first_letters : FnScope N_first_letters ["root", "count"] (defScope S_first_letters) := ⟨rfl, rfl, rfl, by decide +kernel, rfl, by decide +kernel, by decide +kernel⟩
abbrev S_Edge_letters : Stmt := (inClass (top 44) 10)
abbrev N_Edge_letters : List Str := ["self", "count"]
theorem SC_Edge_letters : FnScope N_Edge_letters ["self", "count"] (defScope S_Edge_letters) := ⟨rfl, rfl, rfl, by decide +kernel, rfl, by decide +kernel, by decide +kernel⟩
abbrev S_Edge_of_parts : Stmt := (inClass (top 44) 5)
abbrev N_Edge_of_parts : List Str := ["cls", "lead", "cycle", "found"]
theorem SC_Edge_of_parts : FnScope N_Edge_of_parts ["cls", "lead", "cycle"] (defScope S_Edge_of_parts) := ⟨rfl, rfl, rfl, by decide +kernel, rfl, by decide +kernel, by decide +kernel⟩
abbrev S_parts_of : Stmt := (top 39)
abbrev N_parts_of : List Str := ["root", "met", "letters", "letter", "at"]
theorem SC_parts_of : FnScope N_parts_of ["root"] (defScope S_parts_of) := ⟨rfl, rfl, rfl, by decide +kernel, rfl, by decide +kernel, by decide +kernel⟩
abbrev S__law_sign : Stmt := (top 49)
abbrev N__law_sign : List Str := ["_law_number"]
theorem SC__law_sign : FnScope N__law_sign ["_law_number"] (defScope S__law_sign) := ⟨rfl, rfl, rfl, by decide +kernel, rfl, by decide +kernel, by decide +kernel⟩
abbrev S__law_gcd : Stmt := (top 53)
abbrev N__law_gcd : List Str := ["_law_one", "_law_other"]
theorem SC__law_gcd : FnScope N__law_gcd ["_law_one", "_law_other"] (defScope S__law_gcd) := ⟨rfl, rfl, rfl, by decide +kernel, rfl, by decide +kernel, by decide +kernel⟩
abbrev S__law_sign_root : Stmt := (top 50)
abbrev N__law_sign_root : List Str := ["_law_one", "_law_times", "_law_inner", "_law_left", "_law_right_here"]
theorem SC__law_sign_root : FnScope N__law_sign_root ["_law_one", "_law_times", "_law_inner"] (defScope S__law_sign_root) := ⟨rfl, rfl, rfl, by decide +kernel, rfl, by decide +kernel, by decide +kernel⟩
abbrev S__law_whole_root : Stmt := (top 51)
abbrev N__law_whole_root : List Str := ["_law_number", "_law_low", "_law_high", "_law_middle"]
theorem SC__law_whole_root : FnScope N__law_whole_root ["_law_number"] (defScope S__law_whole_root) := ⟨rfl, rfl, rfl, by decide +kernel, rfl, by decide +kernel, by decide +kernel⟩
abbrev S__law_is_square : Stmt := (top 52)
abbrev N__law_is_square : List Str := ["_law_number"]
theorem SC__law_is_square : FnScope N__law_is_square ["_law_number"] (defScope S__law_is_square) := ⟨rfl, rfl, rfl, by decide +kernel, rfl, by decide +kernel, by decide +kernel⟩
abbrev S__law_root : Stmt := (top 54)
abbrev N__law_root : List Str := ["_law_box_here", "_law_most", "_law_p", "_law_q", "_law_d", "_law_r"]
theorem SC__law_root : FnScope N__law_root ["_law_box_here", "_law_most"] (defScope S__law_root) := ⟨rfl, rfl, rfl, by decide +kernel, rfl, by decide +kernel, by decide +kernel⟩
abbrev S__law_fraction : Stmt := (top 55)
abbrev N__law_fraction : List Str := ["_law_given", "_law_p", "_law_q", "_law_d", "_law_r", "_law_top", "_law_unit"]
theorem SC__law_fraction : FnScope N__law_fraction ["_law_given"] (defScope S__law_fraction) := ⟨rfl, rfl, rfl, by decide +kernel, rfl, by decide +kernel, by decide +kernel⟩
abbrev S__law_letters : Stmt := (top 58)
abbrev N__law_letters : List Str := ["_law_given", "_law_count", "_law_low", "_law_high", "_law_found", "_law_p", "_law_q", "_law_d", "_law_r", "_law_first", "_law_second"]
theorem SC__law_letters : FnScope N__law_letters ["_law_given", "_law_count"] (defScope S__law_letters) := ⟨rfl, rfl, rfl, by decide +kernel, rfl, by decide +kernel, by decide +kernel⟩
abbrev S__law_one_step : Stmt := (top 59)
abbrev N__law_one_step : List Str := ["_law_top", "_law_under", "_law_inner", "_law_back", "_law_more"]
theorem SC__law_one_step : FnScope N__law_one_step ["_law_top", "_law_under", "_law_inner"] (defScope S__law_one_step) := ⟨rfl, rfl, rfl, by decide +kernel, rfl, by decide +kernel, by decide +kernel⟩
abbrev S__law_parts : Stmt := (top 60)
abbrev N__law_parts : List Str := ["_law_given", "_law_p", "_law_q", "_law_d", "_law_r", "_law_sign_here", "_law_inner", "_law_top", "_law_under", "_law_met", "_law_letters_here", "_law_letter", "_law_at"]
theorem SC__law_parts : FnScope N__law_parts ["_law_given"] (defScope S__law_parts) := ⟨rfl, rfl, rfl, by decide +kernel, rfl, by decide +kernel, by decide +kernel⟩
abbrev S__law_right : Stmt := (top 61)
abbrev N__law_right : List Str := ["_law_box_here", "_law_given", "_law_edge", "_law_due", "_law_count"]
theorem SC__law_right : FnScope N__law_right ["_law_box_here", "_law_given"] (defScope S__law_right) := ⟨rfl, rfl, rfl, by decide +kernel, rfl, by decide +kernel, by decide +kernel⟩
abbrev S_law : Stmt := (top 62)
abbrev N_law : List Str := ["_law_script", "_law_k", "_law_box_here", "_law_turn", "_law_given", "_law_count", "_law_ratio"]
theorem SC_law : FnScope N_law ["_law_script"] (defScope S_law) := ⟨rfl, rfl, rfl, by decide +kernel, rfl, by decide +kernel, by decide +kernel⟩
structure Txt (K : PySem.W.Frag) (mg : Str → Option Value) : Prop where
  b_ValueError : mg "ValueError" = none
  b_abs : mg "abs" = none
  b_all : mg "all" = none
  b_any : mg "any" = none
  b_bool : mg "bool" = none
  b_enumerate : mg "enumerate" = none
  b_int : mg "int" = none
  b_isinstance : mg "isinstance" = none
  b_len : mg "len" = none
  b_list : mg "list" = none
  b_max : mg "max" = none
  b_min : mg "min" = none
  b_range : mg "range" = none
  b_repr : mg "repr" = none
  b_sorted : mg "sorted" = none
  b_str : mg "str" = none
  b_sum : mg "sum" = none
  b_tuple : mg "tuple" = none
  b_zip : mg "zip" = none
/-! ## words -/
namespace Wd
def cd (b : Bool) : Nat := if b then 114 else 108
/-- the text of a word: true is r -/
def enc (u : List Bool) : Str := ⟨(u.map cd).toArray⟩
theorem enc_cps (u : List Bool) : (enc u).cps.toList = u.map cd := by simp [enc]
theorem enc_len (u : List Bool) : (enc u).length = u.length := by show (u.map cd).toArray.size = _; simp
theorem enc_app (u v : List Bool) : enc u ++ enc v = enc (u ++ v) := by
  show (⟨(enc u).cps ++ (enc v).cps⟩ : Str) = _
  simp [enc]
theorem cd_inj {a b : Bool} (h : cd a = cd b) : a = b := by revert h; cases a <;> cases b <;> decide
theorem map_cd_inj : ∀ {u v : List Bool}, u.map cd = v.map cd → u = v
  | [], [], _ => rfl
  | [], _ :: _, h => by simp at h
  | _ :: _, [], h => by simp at h
  | a :: u, b :: v, h => by
    rw [List.map_cons, List.map_cons, List.cons.injEq] at h
    rw [cd_inj h.1, map_cd_inj h.2]
theorem enc_inj {u v : List Bool} (h : enc u = enc v) : u = v := map_cd_inj (by rw [← enc_cps, ← enc_cps, h])
theorem enc_rep (b : Bool) (n : Nat) : repS (enc [b]) n = enc (List.replicate n b) := by
  unfold repS
  rw [enc_cps]
  simp only [enc, List.map_replicate, List.map_cons, List.map_nil]
  congr 2
  induction n with
  | zero => rfl
  | succ n ih => rw [List.replicate_succ, List.flatten_cons, ih]; rfl
theorem enc_take (u : List Bool) {k : Int} (h : 0 ≤ k) : cutS (enc u) none (some k) = enc (u.take k.toNat) := by
  unfold cutS
  rw [enc_cps, enc_len]
  have e1 : HT.sIx u.length 0 none = 0 := rfl
  have e2 : HT.sIx u.length u.length (some k) = min k.toNat u.length := by
    unfold HT.sIx
    first | omega | (simp; omega) | (split <;> omega) | (simp only; split <;> omega)
  rw [e1, e2, List.drop_zero, Nat.sub_zero]
  unfold enc
  rw [List.map_take, List.take_eq_take_iff.mpr]
  simp
theorem lit_l : ("l" : Str) = enc [false] := by decide +kernel
theorem lit_r : ("r" : Str) = enc [true] := by decide +kernel
theorem lit_e : ("" : Str) = enc [] := by decide +kernel
theorem foldl_cps : ∀ (ps : List Str) (a : Array Nat), (ps.foldl (fun acc p => acc ++ (#[] : Array Nat) ++ p.cps) a).toList = a.toList ++ (ps.map (·.cps.toList)).flatten
  | [], a => by simp
  | p :: ps, a => by
    rw [List.foldl_cons, foldl_cps ps]
    simp
theorem join_cps (ys : List Str) : Txt.join ("" : Str) ys = ⟨(ys.map (·.cps.toList)).flatten.toArray⟩ := by
  cases ys with
  | nil => rfl
  | cons y ys =>
    show (⟨(ys.foldl (fun acc p => acc ++ (#[] : Array Nat) ++ p.cps) y.cps)⟩ : Str) = _
    have e := foldl_cps ys y.cps
    refine congrArg Str.mk (Array.toList_inj.mp ?_)
    rw [e]
    simp
theorem join_enc (us : List (List Bool)) : Txt.join ("" : Str) (us.map enc) = enc us.flatten := by
  rw [join_cps, List.map_map]
  have e : (us.map ((fun y : Str => y.cps.toList) ∘ enc)) = us.map (List.map cd) := List.map_congr_left fun u _ => enc_cps u
  rw [e]
  simp [enc, List.map_flatten]
theorem empty_len : ("" : Str).length = 0 := by decide +kernel
theorem enc_at {u : List Bool} {i c : Nat} (h : (enc u).cps[i]? = some c) : ∃ b, u[i]? = some b ∧ c = cd b := by
  rw [← Array.getElem?_toList, enc_cps, List.getElem?_map] at h
  cases e : u[i]? with
  | none => rw [e] at h; cases h
  | some b => rw [e] at h; exact ⟨b, rfl, (Option.some.inj h).symm⟩
/-- the lengths of a word -/
def pr : List Bool → Nat × Nat
  | [] => (1, 1)
  | b :: u => if b then ((pr u).1 + (pr u).2, (pr u).2) else ((pr u).1, (pr u).1 + (pr u).2)
theorem pr_pos (u : List Bool) : 0 < (pr u).1 ∧ 0 < (pr u).2 := by
  induction u with
  | nil => decide
  | cons b u ih => unfold pr; cases b <;> simp <;> omega
theorem pr_le (u : List Bool) : (pr u).1 + (pr u).2 ≤ 2 ^ (u.length + 1) := by
  induction u with
  | nil => decide
  | cons b u ih =>
    have := pr_pos u
    have e : 2 ^ (u.length + 1 + 1) = 2 * 2 ^ (u.length + 1) := by rw [Nat.pow_succ]; omega
    cases b <;> simp only [pr, List.length_cons, Bool.false_eq_true, if_false, if_true] <;> omega
end Wd
open Wd

local macro_rules | `(tactic| walk_at "kbs") => `(tactic| first | omega | decide | exact .inl ⟨by omega, by omega⟩ | exact .inr ⟨by omega, by omega⟩ | exact ⟨by omega, by omega⟩ | exact ⟨by decide, by decide, by decide⟩ | assumption | exact szl (by simp only [enc_len, List.length_cons, List.length_nil, List.length_append, List.length_replicate, List.length_take]; omega))
local macro_rules | `(tactic| walk_at "kb1") => `(tactic| first
  | refine ⟨_, rfl, ?_⟩
  | (refine ⟨_, _, rfl, rfl, ?_⟩; try refine And.intro (by walk_at "kbs") ?_)
  | refine ⟨_, _, _, _, rfl, rfl, (by first | assumption | exact SqL.of (by assumption) | exact SqT.of (by assumption)), rfl, ?_⟩
  | refine ⟨_, _, rfl, (show SqL _ _ _ _ ∨ SqT _ _ _ _ from by first | assumption | exact .inl (by assumption) | exact .inr (by assumption) | exact .inl (SqL.of (by assumption)) | exact .inr (SqT.of (by assumption))), ?_⟩
  | refine ⟨_, _, rfl, ?_⟩
  | refine And.intro (show scal _ _ = true from rfl) ?_
  | refine And.intro (by walk_at "kbs") ?_
  | refine And.intro ⟨_, rfl⟩ ?_)
local macro_rules | `(tactic| walk_at "kb") => `(tactic| repeat (walk_at "kb1"))

/-! ## draws -/
namespace Dr
def BoxAt (H : Hp) (b : Addr) : Prop := ∃ c s n : Int, H b = some (.lst [.int c, .int s, .int n]) ∧ 0 ≤ c ∧ 0 ≤ s ∧ s < 4294967296
def Keep (b : Addr) (H H' : Hp) : Prop := ∀ a o, a ≠ b → H a = some o → H' a = some o
theorem Keep.refl (b : Addr) (H : Hp) : Keep b H H := fun _ _ _ h => h
theorem Keep.trans {b : Addr} {H H1 H2 : Hp} (x : Keep b H H1) (y : Keep b H1 H2) : Keep b H H2 := fun a o n h => y a o n (x a o n h)
theorem Keep.same {b : Addr} {H H' : Hp} (x : Same H H') : Keep b H H' := fun a o _ h => x a o h
theorem Keep.upd (b : Addr) (H : Hp) (o : HO) : Keep b H (upd H b o) := fun a u n h => by rw [upd_ne n]; exact h
theorem Keep.new {b p : Addr} {H : Hp} {o : HO} (h : H p = none) : Keep b H (L2.upd H p o) := fun a u n e => by rw [upd_ne (ne_of_none e h)]; exact e
theorem Keep.put {b p : Addr} {H H1 : Hp} {o : HO} (x : Keep b H H1) (h : H p = none) : Keep b H (L2.upd H1 p o) := fun a u n e => by rw [upd_ne (ne_of_none e h)]; exact x a u n e
theorem BoxAt.ne {H : Hp} {b p : Addr} (x : BoxAt H b) (h : H p = none) : p ≠ b := fun e => by
  obtain ⟨c, s, n, q, _⟩ := x
  rw [e, q] at h; cases h
theorem BoxAt.lst {H : Hp} {b : Addr} (x : BoxAt H b) : ∃ xs, H b = some (.lst xs) := let ⟨_, _, _, q, _⟩ := x; ⟨_, q⟩
theorem BoxAt.keep {H H' : Hp} {b : Addr} (x : BoxAt H b) (h : ∀ o, H b = some o → H' b = some o) : BoxAt H' b := by
  obtain ⟨c, s, n, q, z⟩ := x
  exact ⟨c, s, n, h _ q, z⟩
theorem BoxAt.same {H H' : Hp} {b : Addr} (x : BoxAt H b) (h : Same H H') : BoxAt H' b := x.keep fun o => h b o
theorem BoxAt.new {H : Hp} {b p : Addr} {o : HO} (x : BoxAt H b) (h : H p = none) : BoxAt (upd H p o) b := x.keep fun u e => by rw [upd_ne (ne_of_none e h)]; exact e
/-- what stood nowhere ahead stands nowhere behind a smaller heap -/
theorem Keep.free {b p : Addr} {H H' : Hp} (x : Keep b H H') (hb : ∃ o, H' b = some o) (h : H' p = none) : H p = none := by
  cases e : H p with
  | none => rfl
  | some o =>
    by_cases c : p = b
    · obtain ⟨u, hu⟩ := hb
      rw [c, hu] at h; cases h
    · rw [x p o c e] at h; cases h
theorem BoxAt.any {H : Hp} {b : Addr} (x : BoxAt H b) : ∃ o, H b = some o := let ⟨_, q⟩ := x.lst; ⟨_, q⟩

def sp_take : Sp := fun vs H Q _ => ∃ (b : Addr) (m : Int), vs = [.ref b, .int m] ∧ BoxAt H b ∧ 0 < m ∧ m ≤ 1000000000000 ∧ ∀ (d : Int) (H' : Hp), 0 ≤ d → d < m → Keep b H H' → BoxAt H' b → Q (.int d) H'
def sp_box2 (K : PySem.W.Frag) : Sp := fun vs H Q _ => ∃ (a : Addr) (ns : List Int) (k : Int), vs = [.ref a, .int k] ∧ SqL K H a (ns.map V.int) ∧ ns.length ≤ 63 ∧ 0 ≤ k ∧ ∀ (p : Addr) (H' : Hp), H p = none → Same H H' → BoxAt H' p → Q (.ref p) H'
end Dr
open Dr
section
variable {P : Program} {w : World} {K : PySem.W.Frag} {mg : Str → Option Value} {base : Heap}
theorem ok_take {f : Addr} {fd : FuncData} (F : Fun K "_law_take" "_law_take" S__law_take f fd) (T : Txt K mg) : FnOk P w K mg base CX0 1 f fd ["_law_box_here", "_law_many"] sp_take := by
  refine F.ok SC__law_take (fun vs H Q E h => ?_) (fun cdv A outer s H vs Q E hr h => ?_)
  · obtain ⟨b, m, rfl, _⟩ := h
    rfl
  · obtain ⟨b, m, rfl, ⟨c, sd, n, hb, hc, hs0, hs1⟩, m0, m1, k⟩ := h
    refine ⟨_, (pss_cons (ps_if (pt_cmpR op_gt (pe_ix ix_list (pv 0) pe_int (fun _ _ => rfl)) pe_int (nomark _)) (pss_cons (ps_set (i := 2) SC__law_take.nd rfl (.inl rfl) (pe_op op_mod (pe_callTy call_intI (by rfl) T.b_int (by decide +kernel) (pa_cons (pe_ix ix_list (pv 0) pe_int (fun _ _ => rfl)) pa_nil)) (pv 1)))
      (pss_cons (ps_asg (pe_op op_fdivW (pe_ix ix_list (pv 0) pe_int (fun _ _ => rfl)) (pv 1)) (pg_sub (pv 0) pe_int set_list))
      (pss_one (ps_ret (pv 2))))) pss_nil)
      (pss_cons (ps_asg (pe_op op_add (pe_ix ix_list (pv 0) pe_int (fun _ _ => rfl)) pe_int) (pg_sub (pv 0) pe_int set_list))
      (pss_cons (ps_set (i := 3) SC__law_take.nd rfl (.inl rfl) (pe_op op_mod (pe_callTy call_intI (by rfl) T.b_int (by decide +kernel) (pa_cons (pe_op op_mul (pe_op op_add (pe_ix ix_list (pv 0) pe_int (fun _ _ => rfl)) (pe_op op_mul pe_int (pe_ix ix_list (pv 0) pe_int (fun _ _ => rfl)))) pe_int) pa_nil)) pe_int))
      (pss_cons (ps_asg (pe_op op_add (pe_op op_mod (pe_callTy call_intI (by rfl) T.b_int (by decide +kernel) (pa_cons (pe_op op_add (pe_op op_mul (pv 3) pe_int) pe_int) pa_nil)) pe_int) pe_int) (pg_sub (pv 0) pe_int set_list))
      (pss_one (ps_ret (pe_op op_mod (pe_callTy call_intI (by rfl) T.b_int (by decide +kernel) (pa_cons (pe_op op_fdiv (pe_op op_add (pe_op op_mul (pv 3) pe_int) (pe_ix ix_list (pv 0) pe_int (fun _ _ => rfl))) pe_int) pa_nil)) (pv 1)))))))), ?_⟩
    refine ⟨_, rfl, b, _, 0, _, rfl, rfl, SqL.of hb, rfl, _, _, rfl, rfl, _, rfl, ite2 (fun h => ?_) fun h => ?_⟩
    · have hc0 : 0 < c := of_decide_eq_true h
      refine ⟨_, rfl, b, _, 0, _, rfl, rfl, SqL.of hb, rfl, _, rfl, _, rfl, _, _, rfl, rfl, m0, ?_⟩
      refine ⟨_, rfl, b, _, 0, _, rfl, rfl, SqL.of hb, rfl, _, rfl, _, _, rfl, rfl, ⟨m0, ?_⟩, _, rfl, b, _, 0, 0, rfl, rfl, hb, rfl, ?_⟩
      · have q : m.natAbs < 2 ^ 64 := by omega
        exact Nat.lt_of_lt_of_le (PySem.Flt.log2_lt_of (by decide) q) (by decide)
      · refine ⟨_, rfl, k (c % m) _ (Int.emod_nonneg _ (by omega)) (Int.emod_lt_of_pos _ m0) (Keep.upd _ _ _) ⟨c / m, sd, n, upd_same, Int.ediv_nonneg hc (by omega), hs0, hs1⟩⟩
    · refine ⟨_, rfl, b, _, 2, _, rfl, rfl, SqL.of hb, rfl, _, _, rfl, rfl, _, rfl, b, _, 2, 2, rfl, rfl, hb, rfl, ?_⟩
      have hb1 : (upd H b (.lst ([V.int c, V.int sd, V.int n].set 2 (V.int (n + 1))))) b = some (.lst [.int c, .int sd, .int (n + 1)]) := upd_same
      refine ⟨_, rfl, b, _, 1, _, rfl, rfl, SqL.of hb1, rfl, _, rfl, b, _, 2, _, rfl, rfl, SqL.of hb1, rfl, _, _, rfl, rfl, .inl ⟨by decide, by decide⟩, _, _, rfl, rfl, _, _, rfl, rfl, .inr ⟨by decide, by decide⟩, _, rfl, _, _, rfl, rfl, (by show (0 : Int) < 2147483647; decide), ?_⟩
      refine ⟨_, rfl, _, _, rfl, rfl, .inr ⟨by decide, by decide⟩, _, _, rfl, rfl, _, rfl, _, _, rfl, rfl, (by show (0 : Int) < 2147483629; decide), _, _, rfl, rfl, _, rfl, b, _, 1, 1, rfl, rfl, hb1, rfl, ?_⟩
      have hb2 : ∀ y : Int, (upd (upd H b (.lst ([V.int c, V.int sd, V.int n].set 2 (V.int (n + 1))))) b (.lst ([V.int c, V.int sd, V.int (n + 1)].set 1 (V.int y)))) b = some (.lst [.int c, .int y, .int (n + 1)]) := fun _ => upd_same
      refine ⟨_, rfl, _, _, rfl, rfl, .inr ⟨by decide, by decide⟩, _, rfl, b, _, 1, _, rfl, rfl, SqL.of (hb2 _), rfl, _, _, rfl, rfl, _, _, rfl, rfl, ⟨by decide, by decide⟩, _, rfl, _, rfl, _, _, rfl, rfl, m0, ?_⟩
      exact k _ _ (Int.emod_nonneg _ (by omega)) (Int.emod_lt_of_pos _ m0) ((Keep.upd _ _ _).trans (Keep.upd _ _ _)) ⟨c, _, n + 1, hb2 _, hc, by omega, by omega⟩
theorem ok_box {f : Addr} {fd : FuncData} (F : Fun K "_law_box" "_law_box" S__law_box f fd) (T : Txt K mg) : FnOk P w K mg base CX0 1 f fd ["_law_script", "_law_k"] (sp_box2 K) := by
  refine F.ok SC__law_box (fun vs H Q E h => ?_) (fun cdv A outer s H vs Q E hr h => ?_)
  · obtain ⟨a, ns, k, rfl, _⟩ := h
    rfl
  · obtain ⟨a, ns, k, rfl, hS, hlen, hk, q⟩ := h
    refine ⟨_, (pss_cons (ps_set (i := 2) SC__law_box.nd rfl (.inl rfl) (pe_op op_add (pe_op op_mul pe_int (pv 1)) pe_int))
      (pss_mid (ps_if (pt_cmpR op_lt (pv 1) (pe_callB call_len_seq (by rfl) T.b_len (by decide +kernel) (pa_cons (pv 0) pa_nil)) (nomark _)) (pss_one (ps_set (i := 2) SC__law_box.nd rfl (.inl rfl) (pe_ix ix_list (pv 0) (pv 1) (fun _ _ => rfl)))) (pss_one (ps_if (pt_cmpR op_gt (pe_callB call_len_seq (by rfl) T.b_len (by decide +kernel) (pa_cons (pv 0) pa_nil)) pe_int (nomark _)) (pss_one (ps_set (i := 2) SC__law_box.nd rfl (.inl rfl) (pe_op op_add (pv 2) (pe_op op_mul (pe_op op_mod (pe_callTy call_intI (by rfl) T.b_int (by decide +kernel) (pa_cons (pe_ix ix_list (pv 0) (pe_op op_mod (pe_callTy call_intI (by rfl) T.b_int (by decide +kernel) (pa_cons (pv 1) pa_nil)) (pe_callB call_len_seq (by rfl) T.b_len (by decide +kernel) (pa_cons (pv 0) pa_nil))) (fun _ _ => rfl)) pa_nil)) pe_int) pe_int)))) pss_nil)))
      (pss_cons (ps_set (i := 3) SC__law_box.nd rfl (.inl rfl) (pe_op op_add (pe_op op_mod (pe_callTy call_intI (by rfl) T.b_int (by decide +kernel) (pa_cons (pe_op op_add (pe_op op_add (pe_op op_mul (pe_op op_mod (pe_callTy call_intI (by rfl) T.b_int (by decide +kernel) (pa_cons (pv 2) pa_nil)) pe_int) pe_int) (pe_op op_mul pe_int (pv 1))) pe_int) pa_nil)) pe_int) pe_int))
      (pss_one (ps_ret (pe_lst (pa_cons (pe_ix ix_list (pe_lst (pa_cons pe_int (pa_cons (pv 2) pa_nil))) (pe_callTy call_intB (by rfl) T.b_int (by decide +kernel) (pa_cons (pe_cmpR op_ge (pv 2) (pe_op op_pow pe_int pe_int) (nomark _)) pa_nil)) (fun _ _ => rfl)) (pa_cons (pv 3) (pa_cons pe_int pa_nil))))))))), ?_⟩
    walk_at "kb"
    refine ⟨fun σ' H' => H' = H ∧ ∃ c : Int, σ' = [some (.ref a), some (.int k), some (.int c), none], ?_, fun σ1 H1 z => ?_⟩
    · have hl : ((ns.map V.int).length : Int) = ns.length := by rw [List.length_map]
      walk_at "kb"
      refine ite2 (fun h => ?_) (fun h => ?_)
      · have h1 : k < (ns.length : Int) := by have := of_decide_eq_true h; omega
        have h2 : k.toNat < ns.length := by omega
        refine ⟨_, rfl, _, rfl, a, _, k, _, rfl, rfl, hS, at_of (j := k.toNat) (by omega) (by rw [List.getElem?_map, List.getElem?_eq_getElem h2]; rfl), ?_⟩
        walk_at "kb"
        exact ⟨rfl, _, rfl⟩
      · walk_at "kb"
        refine ite2 (fun h' => ?_) (fun h' => ?_)
        · have h0 : 0 < (ns.length : Int) := by have := of_decide_eq_true h'; omega
          walk_at "kb"
          have m0 := Int.emod_nonneg k (show ((ns.map V.int).length : Int) ≠ 0 by omega)
          have m1 := Int.emod_lt_of_pos k (show (0 : Int) < ((ns.map V.int).length : Int) by omega)
          have h2 : (k % ((ns.map V.int).length : Int)).toNat < ns.length := by omega
          refine ⟨a, _, _, _, rfl, rfl, hS, at_of (j := (k % ((ns.map V.int).length : Int)).toNat) (by omega) (by rw [List.getElem?_map, List.getElem?_eq_getElem h2]; rfl), ?_⟩
          walk_at "kb"
          exact ⟨rfl, _, rfl⟩
        · exact ⟨rfl, _, rfl⟩
    · obtain ⟨rfl, c, rfl⟩ := z
      walk_at "kb"
      intro l hl
      walk_at "kb"
      have hB : SqL K (upd H1 l (.lst [.int 0, .int c])) l [.int 0, .int c] := SqL.of upd_same
      have hi : ∃ v : Int, 0 ≤ v ∧ atI [V.int 0, V.int c] (if decide ((10 : Int) ^ (18 : Int).toNat ≤ c) = true then 1 else 0) = some (.int v) := by
        by_cases hd : (10 : Int) ^ (18 : Int).toNat ≤ c
        · rw [if_pos (decide_eq_true hd)]
          exact ⟨c, Int.le_trans (by decide) hd, atI_nat (j := 1) rfl⟩
        · rw [if_neg fun z => hd (of_decide_eq_true z)]
          exact ⟨0, Int.le_refl 0, atI_nat (j := 0) rfl⟩
      obtain ⟨v, hv, hi⟩ := hi
      refine ⟨l, _, _, _, rfl, rfl, hB, hi, ?_⟩
      walk_at "kb"
      intro p hp
      have hp1 : H1 p = none := by
        have hne : p ≠ l := fun e => by rw [e, upd_same] at hp; cases hp
        rw [upd_ne hne] at hp; exact hp
      refine q p _ hp1 (fun b o e => ?_) ⟨v, _, 0, upd_same, hv, ?_, ?_⟩
      · rw [upd_ne (ne_of_none e hp1), upd_ne (ne_of_none e hl)]; exact e
      · omega
      · omega
end

/-! ## drawn words -/
namespace Dw
theorem join_bits (bits : List Bool) : Txt.join ("" : Str) (bits.map fun x => enc [x]) = enc bits := by
  have h := join_enc (bits.map fun x => [x])
  have e : (bits.map fun x => [x]).flatten = bits := by induction bits with
    | nil => rfl
    | cons x r ih => rw [List.map_cons, List.flatten_cons, ih (join_enc _)]; rfl
  rw [List.map_map, e] at h
  exact h
theorem sum_ones (bits : List Bool) : ((bits.map fun x => enc [x]).map (·.length)).sum = bits.length := by
  induction bits with
  | nil => rfl
  | cons x r ih => rw [List.map_cons, List.map_cons, List.sum_cons, ih, enc_len]; simp; omega
theorem rJ1 {K : PySem.W.Frag} {p : Addr} {bits : List Bool} {H : Hp} (h : H p = some (.lst (bits.map fun x => V.str (enc [x])))) : SqL K H p ((bits.map fun x => enc [x]).map V.str) := SqL.of (by rw [List.map_map]; exact h)
theorem rJ2 {bits : List Bool} (hl : bits.length ≤ 1000) : ((bits.map fun x => enc [x]).map (·.length)).sum + (bits.map fun x => enc [x]).length * ("" : Str).length ≤ 16777216 := by
  rw [sum_ones]
  have e : ("" : Str).length = 0 := by decide +kernel
  rw [e]
  omega
end Dw
open Dw

section
variable {P : Program} {w : World} {K : PySem.W.Frag} {mg : Str → Option Value} {base : Heap}
end

/-! ## words in order -/
namespace Wd
theorem pr_cop (u : List Bool) : Nat.gcd (pr u).1 (pr u).2 = 1 := by
  induction u with
  | nil => rfl
  | cons b u ih =>
    cases b
    · show Nat.gcd (pr u).1 ((pr u).1 + (pr u).2) = 1
      rw [Nat.gcd_self_add_right]; exact ih
    · show Nat.gcd ((pr u).1 + (pr u).2) (pr u).2 = 1
      rw [Nat.gcd_add_self_left]; exact ih
/-- the sign of a letter in the order of words: the end between l and r -/
def pc (b : Bool) : Nat := if b then 99 else 97
end Wd

/-! ## errors -/
section
variable {P : Program} {w : World} {K : PySem.W.Frag} {mg : Str → Option Value} {base : Heap}
theorem ok_err_InvalidWord {f C U : Addr} {fd : FuncData} (F : Fun K "__init__" "InvalidWord.__init__" S_InvalidWord__init_ f fd) (hU : UeC K U) (hm : mg "UnmarkedError" = some (.ref U)) (O : OexC K C) : FnOk P w K mg base CX0 1 f fd ["self"] (sp_err0 C) := by
  refine F.ok SC_InvalidWord__init_ (fun vs H Q E h => ?_) (fun cdv A outer s H vs Q E hr h => ?_)
  · obtain ⟨a, rfl, _⟩ := h
    rfl
  · obtain ⟨a, rfl, ha, q⟩ := h
    refine ⟨_, (pss_one (ps_expr (pe_uinit hU rfl hm (pa_cons (pv 0) (pa_cons pe_str pa_nil))))), ?_⟩
    exact ⟨_, rfl, a, C, _, rfl, by decide, O, ha, q⟩
theorem ok_err_InvalidRatio {f C U : Addr} {fd : FuncData} (F : Fun K "__init__" "InvalidRatio.__init__" S_InvalidRatio__init_ f fd) (hU : UeC K U) (hm : mg "UnmarkedError" = some (.ref U)) (O : OexC K C) : FnOk P w K mg base CX0 1 f fd ["self"] (sp_err0 C) := by
  refine F.ok SC_InvalidRatio__init_ (fun vs H Q E h => ?_) (fun cdv A outer s H vs Q E hr h => ?_)
  · obtain ⟨a, rfl, _⟩ := h
    rfl
  · obtain ⟨a, rfl, ha, q⟩ := h
    refine ⟨_, (pss_one (ps_expr (pe_uinit hU rfl hm (pa_cons (pv 0) (pa_cons pe_str pa_nil))))), ?_⟩
    exact ⟨_, rfl, a, C, _, rfl, by decide, O, ha, q⟩
theorem ok_err_InvalidChange {f C U : Addr} {fd : FuncData} (F : Fun K "__init__" "InvalidChange.__init__" S_InvalidChange__init_ f fd) (hU : UeC K U) (hm : mg "UnmarkedError" = some (.ref U)) (O : OexC K C) : FnOk P w K mg base CX0 1 f fd ["self"] (sp_err0 C) := by
  refine F.ok SC_InvalidChange__init_ (fun vs H Q E h => ?_) (fun cdv A outer s H vs Q E hr h => ?_)
  · obtain ⟨a, rfl, _⟩ := h
    rfl
  · obtain ⟨a, rfl, ha, q⟩ := h
    refine ⟨_, (pss_one (ps_expr (pe_uinit hU rfl hm (pa_cons (pv 0) (pa_cons pe_str pa_nil))))), ?_⟩
    exact ⟨_, rfl, a, C, _, rfl, by decide, O, ha, q⟩
theorem ok_err_InvalidEdge {f C U : Addr} {fd : FuncData} (F : Fun K "__init__" "InvalidEdge.__init__" S_InvalidEdge__init_ f fd) (hU : UeC K U) (hm : mg "UnmarkedError" = some (.ref U)) (O : OexC K C) : FnOk P w K mg base CX0 1 f fd ["self"] (sp_err0 C) := by
  refine F.ok SC_InvalidEdge__init_ (fun vs H Q E h => ?_) (fun cdv A outer s H vs Q E hr h => ?_)
  · obtain ⟨a, rfl, _⟩ := h
    rfl
  · obtain ⟨a, rfl, ha, q⟩ := h
    refine ⟨_, (pss_one (ps_expr (pe_uinit hU rfl hm (pa_cons (pv 0) (pa_cons pe_str pa_nil))))), ?_⟩
    exact ⟨_, rfl, a, C, _, rfl, by decide, O, ha, q⟩
end

/-! ## lengths and ratios -/
namespace Rt
def isI : V → Bool | .int _ => true | .bl _ => true | _ => false
def isB : V → Bool | .bl _ => true | _ => false
def isS : V → Bool | .str _ => true | _ => false
def isLen : V → Bool | .int i => decide (1 ≤ i) | _ => false
/-- what isinstance tells of a value against int, bool and str -/
structure Kd (K : PySem.W.Frag) (H : Hp) (x : V) : Prop where
  ex : ∃ t, TyX K H x t ∧ PySem.W.kitOne K t (.type "int") = some (isI x) ∧ PySem.W.kitOne K t (.type "bool") = some (isB x) ∧ PySem.W.kitOne K t (.type "str") = some (isS x)
theorem Kd.int {K : PySem.W.Frag} {H : Hp} (i : Int) : Kd K H (.int i) := ⟨_, .base (.int i), kit_ty (show kitB "int" "int" = some true by decide +kernel), kit_ty (show kitB "int" "bool" = some false by decide +kernel), kit_ty (show kitB "int" "str" = some false by decide +kernel)⟩
theorem Kd.bl {K : PySem.W.Frag} {H : Hp} (i : Bool) : Kd K H (.bl i) := ⟨_, .base (.bl i), kit_ty (show kitB "bool" "int" = some true by decide +kernel), kit_ty (show kitB "bool" "bool" = some true by decide +kernel), kit_ty (show kitB "bool" "str" = some false by decide +kernel)⟩
theorem Kd.str {K : PySem.W.Frag} {H : Hp} (i : Str) : Kd K H (.str i) := ⟨_, .base (.str i), kit_ty (show kitB "str" "int" = some false by decide +kernel), kit_ty (show kitB "str" "bool" = some false by decide +kernel), kit_ty (show kitB "str" "str" = some true by decide +kernel)⟩
theorem Kd.non {K : PySem.W.Frag} {H : Hp} : Kd K H .non := ⟨_, .base .non, kit_ty (show kitB "NoneType" "int" = some false by decide +kernel), kit_ty (show kitB "NoneType" "bool" = some false by decide +kernel), kit_ty (show kitB "NoneType" "str" = some false by decide +kernel)⟩
theorem Kd.lst {K : PySem.W.Frag} {H : Hp} {p : Addr} {xs : List V} (h : H p = some (.lst xs)) : Kd K H (.ref p) := ⟨_, .base (.lst h), kit_ty (show kitB "list" "int" = some false by decide +kernel), kit_ty (show kitB "list" "bool" = some false by decide +kernel), kit_ty (show kitB "list" "str" = some false by decide +kernel)⟩
theorem Kd.tup {K : PySem.W.Frag} {H : Hp} {p : Addr} {xs : List V} (h : H p = some (.tup xs)) : Kd K H (.ref p) := ⟨_, .base (.tup h), kit_ty (show kitB "tuple" "int" = some false by decide +kernel), kit_ty (show kitB "tuple" "bool" = some false by decide +kernel), kit_ty (show kitB "tuple" "str" = some false by decide +kernel)⟩
theorem tyX_at {K : PySem.W.Frag} {H H' : Hp} {x : V} {t : Value} (h : TyX K H x t) (s : ∀ a o, x = .ref a → H a = some o → H' a = some o) : TyX K H' x t := by
  cases h with
  | base h => exact .base (by
      cases h with
      | non => exact .non
      | bl x => exact .bl x
      | int i => exact .int i
      | str x => exact .str x
      | flt x => exact .flt x
      | lst e => exact .lst (s _ _ rfl e)
      | frz e => exact .frz (s _ _ rfl e)
      | tup e => exact .tup (s _ _ rfl e)
      | dK e => exact .dK (s _ _ rfl e)
      | dT e => exact .dT (s _ _ rfl e)
      | ins e cl ha hn htk hm => exact .ins (s _ _ rfl e) cl ha hn htk hm)
  | byt b => exact .byt b
  | set e => exact .set (s _ _ rfl e)
  | kList e c => exact .kList e c
  | kTuple e c => exact .kTuple e c
  | kDict e c => exact .kDict e c
  | fTuple e => exact .fTuple (s _ _ rfl e)
  | fDict e => exact .fDict (s _ _ rfl e)
theorem Kd.at {K : PySem.W.Frag} {H H' : Hp} {x : V} (h : Kd K H x) (s : ∀ a o, x = .ref a → H a = some o → H' a = some o) : Kd K H' x := let ⟨t, ty, r⟩ := h.ex; ⟨t, tyX_at ty s, r⟩
theorem Kd.same {K : PySem.W.Frag} {H H' : Hp} {x : V} (h : Kd K H x) (s : Same H H') : Kd K H' x := h.at fun a o _ => s a o
def sp_isint (K : PySem.W.Frag) : Sp := fun vs H Q _ => ∃ x, vs = [x] ∧ Kd K H x ∧ Q (.bl (isI x && !isB x)) H
def sp_islen (K : PySem.W.Frag) : Sp := fun vs H Q _ => ∃ x, vs = [x] ∧ Kd K H x ∧ Q (.bl (isLen x)) H
def sp_common : Sp := fun vs H Q _ => ∃ i j : Int, vs = [.int i, .int j] ∧ 0 < i ∧ 0 < j ∧ Q (.int (Int.gcd i j)) H
/-- the attributes of a ratio -/
def rf (a b : Int) : List (Str × V) := putF "second" (.int b) (putF "first" (.int a) [])
theorem n_fs : ¬ (("first" : Str) = "second") := by decide +kernel
theorem rf1 (a b : Int) : (rf a b).lookup ("first" : Str) = some (.int a) := by
  unfold rf; rw [lookup_putF, if_neg n_fs, lookup_putF, if_pos rfl]
theorem rf2 (a b : Int) : (rf a b).lookup ("second" : Str) = some (.int b) := by
  unfold rf; rw [lookup_putF, if_pos rfl]
def RatAt (C : Addr) (H : Hp) (p : Addr) (a b : Int) : Prop := ∃ dx, H p = some (.ins C dx (rf a b))
theorem RatAt.same {C : Addr} {H H' : Hp} {p : Addr} {a b : Int} (x : RatAt C H p a b) (s : Same H H') : RatAt C H' p a b := let ⟨d, h⟩ := x; ⟨d, s _ _ h⟩
structure RatT (K : PySem.W.Frag) (mg : Str → Option Value) (C : Addr) : Prop where
  ins : C8.InsC K C
  n1 : NoAttr K C "first"
  n2 : NoAttr K C "second"
  mgC : mg "Ratio" = some (.ref C)
  nf : PySem.W.notFirst K C (.ref C) = true
  ne : PySem.W.findIn K (.ref C) "__ne__" = some (some (.builtin "object.__ne__"))
  so : PySem.W.subIn K (.ref C) (.type "object") = some true
theorem RatT.cl {K : PySem.W.Frag} {mg : Str → Option Value} {C : Addr} (T : RatT K mg C) : Cls K C := T.ins.cl
theorem RatT.ty {K : PySem.W.Frag} {mg : Str → Option Value} {C : Addr} (T : RatT K mg C) {H : Hp} {p dx : Addr} {fs : List (Str × V)} (h : H p = some (.ins C dx fs)) : TyX K H (.ref p) (.ref C) := .base (.ins h T.ins.cl T.ins.ha T.ins.hn T.ins.htk T.ins.hm)
/-- Ratio(first, second): made, or refused -/
def sp_init (C IR : Addr) (K : PySem.W.Frag) : Sp := fun vs H Q E => ∃ (x dx : Addr) (u v : V), vs = [.ref x, u, v] ∧ Kd K H u ∧ Kd K H v ∧ H x = some (.ins C dx []) ∧
  (isLen u = true → isLen v = true → ∃ i j : Int, u = .int i ∧ v = .int j ∧ i.natAbs < 2 ^ 1000 ∧ j.natAbs < 2 ^ 1000 ∧ ∀ H' : Hp, (∀ a o, a ≠ x → H a = some o → H' a = some o) → RatAt C H' x (i / (Int.gcd i j : Nat)) (j / (Int.gcd i j : Nat)) → Q .non H') ∧
  ((isLen u && isLen v) = false → E (.ref IR) none H)
theorem gcd_step {x y : Int} (hx : 0 ≤ x) (hy : 0 ≤ y) : Int.gcd y (x % y) = Int.gcd x y := by
  obtain ⟨a, rfl⟩ := Int.eq_ofNat_of_zero_le hx
  obtain ⟨b, rfl⟩ := Int.eq_ofNat_of_zero_le hy
  show Nat.gcd b ((a : Int) % (b : Int)).natAbs = Nat.gcd a b
  have e : ((a : Int) % (b : Int)).natAbs = a % b := by
    rw [← Int.natCast_emod, Int.natAbs_natCast]
  rw [e, Nat.gcd_comm b, ← Nat.gcd_rec, Nat.gcd_comm]
theorem wm {i j : Int} (h1 : i.natAbs < 2 ^ 1000) (h2 : j.natAbs < 2 ^ 1000) : CMulW i j := wide_mul h1 h2 (by decide) (by decide) (by decide)
/-- a text of l and r alone -/
def goodC (z : Str) : Bool := (z.cps.toList.map fun c => decide (c ∈ ("lr" : Str).cps.toList)).all id
def goodW : V → Bool | .str z => goodC z | _ => false
theorem lr_cps : ("lr" : Str).cps.toList = [108, 114] := by decide +kernel
theorem good_enc (u : List Bool) : goodC (enc u) = true := by
  unfold goodC
  rw [enc_cps, List.map_map, List.all_eq_true]
  intro x hx
  obtain ⟨b, _, rfl⟩ := List.mem_map.mp hx
  cases b <;> decide +kernel
theorem good_is {z : Str} (h : goodC z = true) : ∃ u, z = enc u := by
  have hm : ∀ c ∈ z.cps.toList, c = 108 ∨ c = 114 := fun c hc => by
    unfold goodC at h
    rw [List.all_eq_true] at h
    have e := h _ (List.mem_map.mpr ⟨c, hc, rfl⟩)
    have e := of_decide_eq_true (show decide (c ∈ ("lr" : Str).cps.toList) = true from e)
    rw [lr_cps] at e
    simpa using e
  refine ⟨z.cps.toList.map fun c => decide (c = 114), ?_⟩
  obtain ⟨cps⟩ := z
  unfold enc
  rw [List.map_map]
  congr 1
  have : ∀ l : List Nat, (∀ c ∈ l, c = 108 ∨ c = 114) → l.map (cd ∘ fun c => decide (c = 114)) = l := by
    intro l
    induction l with
    | nil => intro _; rfl
    | cons c l ih =>
      intro h
      rw [List.map_cons, ih fun c hc => h c (List.mem_cons_of_mem _ hc)]
      rcases h c (List.mem_cons_self) with rfl | rfl <;> rfl
  rw [this _ hm]
def sp_need (IW : Addr) (K : PySem.W.Frag) : Sp := fun vs H Q E => ∃ x, vs = [x] ∧ Kd K H x ∧ (∀ z, x = .str z → z.length ≤ 100000) ∧ (goodW x = true → ∀ H', Same H H' → Q .non H') ∧ (goodW x = false → ∀ H', Same H H' → E (.ref IW) none H')
def sp_wol : Sp := fun vs H Q _ => ∃ u : List Bool, vs = [.int (pr u).1, .int (pr u).2] ∧ u.length ≤ 900 ∧ ∀ H', Same H H' → Q (.str (enc u)) H'
def sp_word (C : Addr) : Sp := fun vs H Q _ => ∃ (p : Addr) (u : List Bool), vs = [.ref p] ∧ RatAt C H p (pr u).1 (pr u).2 ∧ u.length ≤ 900 ∧ ∀ H', Same H H' → Q (.str (enc u)) H'
theorem pr_small {u : List Bool} (h : u.length ≤ 900) : ((pr u).1 : Int).natAbs < 2 ^ 1000 ∧ ((pr u).2 : Int).natAbs < 2 ^ 1000 := by
  have q := pr_le u
  have p := pr_pos u
  have e : 2 ^ (u.length + 1) ≤ 2 ^ 1000 := Nat.pow_le_pow_right (by decide) (by omega)
  rw [Int.natAbs_natCast, Int.natAbs_natCast]
  omega
theorem pr_div (u : List Bool) : ((pr u).1 : Int) / ((Int.gcd ((pr u).1 : Int) ((pr u).2 : Int) : Nat) : Int) = (pr u).1 ∧ ((pr u).2 : Int) / ((Int.gcd ((pr u).1 : Int) ((pr u).2 : Int) : Nat) : Int) = (pr u).2 := by
  have e : Int.gcd ((pr u).1 : Int) ((pr u).2 : Int) = 1 := pr_cop u
  rw [e]
  simp
theorem pr_eq {u : List Bool} (h : (pr u).1 = (pr u).2) : u = [] := by
  cases u with
  | nil => rfl
  | cons b u => have := pr_pos u; cases b <;> simp only [pr, Bool.false_eq_true, if_false, if_true] at h <;> omega
/-- a run of r ahead -/
theorem pr_run_r (u : List Bool) (h : (pr u).2 < (pr u).1) : ∃ u' : List Bool, u = List.replicate (((pr u).1 - 1) / (pr u).2) true ++ u' ∧ pr u' = ((pr u).1 - (((pr u).1 - 1) / (pr u).2) * (pr u).2, (pr u).2) := by
  induction u with
  | nil => exact absurd h (by decide)
  | cons b u ih =>
    have p := pr_pos u
    cases b with
    | false => simp only [pr, Bool.false_eq_true, if_false] at h; omega
    | true =>
      simp only [pr, if_true] at h ⊢
      generalize hx : (pr u).1 = x at *
      generalize hy : (pr u).2 = y at *
      have d1 : (x + y - 1) / y = (x - 1) / y + 1 := by
        rw [show x + y - 1 = (x - 1) + y by omega, Nat.add_div_right _ p.2]
      by_cases c : y < x
      · obtain ⟨u', e1, e2⟩ := ih c
        refine ⟨u', ?_, ?_⟩
        · rw [d1, List.replicate_succ, List.cons_append, ← e1]
        · rw [d1, e2, Nat.add_mul]
          congr 1
          omega
      · have z : (x - 1) / y = 0 := Nat.div_eq_of_lt (by omega)
        refine ⟨u, ?_, ?_⟩
        · rw [d1, z]; rfl
        · rw [d1, z]
          rw [← hx, ← hy]
          simp
theorem pr_run_l (u : List Bool) (h : (pr u).1 < (pr u).2) : ∃ u' : List Bool, u = List.replicate (((pr u).2 - 1) / (pr u).1) false ++ u' ∧ pr u' = ((pr u).1, (pr u).2 - (((pr u).2 - 1) / (pr u).1) * (pr u).1) := by
  induction u with
  | nil => exact absurd h (by decide)
  | cons b u ih =>
    have p := pr_pos u
    cases b with
    | true => simp only [pr, if_true] at h; omega
    | false =>
      simp only [pr, Bool.false_eq_true, if_false] at h ⊢
      generalize hx : (pr u).1 = x at *
      generalize hy : (pr u).2 = y at *
      have d1 : (x + y - 1) / x = (y - 1) / x + 1 := by
        rw [show x + y - 1 = (y - 1) + x by omega, Nat.add_div_right _ p.1]
      by_cases c : x < y
      · obtain ⟨u', e1, e2⟩ := ih c
        refine ⟨u', ?_, ?_⟩
        · rw [d1, List.replicate_succ, List.cons_append, ← e1]
        · rw [d1, e2, Nat.add_mul]
          congr 1
          omega
      · have z : (y - 1) / x = 0 := Nat.div_eq_of_lt (by omega)
        refine ⟨u, ?_, ?_⟩
        · rw [d1, z]; rfl
        · rw [d1, z]
          rw [← hx, ← hy]
          simp
end Rt
open Rt

section
variable {P : Program} {w : World} {K : PySem.W.Frag} {mg : Str → Option Value} {base : Heap}
theorem ok_isint {f : Addr} {fd : FuncData} (F : Fun K "is_integer" "is_integer" S_is_integer f fd) (T : Txt K mg) : FnOk P w K mg base CX0 1 f fd ["value"] (sp_isint K) := by
  refine F.ok SC_is_integer (fun vs H Q E h => ?_) (fun cdv A outer s H vs Q E hr h => ?_)
  · obtain ⟨x, rfl, _⟩ := h
    rfl
  · obtain ⟨x, rfl, ⟨t, ty, h1, h2, _⟩, q⟩ := h
    refine ⟨_, (pss_one (ps_ret (pe_and (pe_callB call_isi (by rfl) T.b_isinstance (by decide +kernel) (pa_cons (pv 0) (pa_cons (pe_bltn (v := .ty "int") (by rfl) T.b_int boot_int rfl) pa_nil))) (pe_one (pe_not (pe_callB call_isi (by rfl) T.b_isinstance (by decide +kernel) (pa_cons (pv 0) (pa_cons (pe_bltn (v := .ty "bool") (by rfl) T.b_bool boot_bool rfl) pa_nil)))))))), ?_⟩
    refine ⟨_, rfl, x, _, t, _, _, rfl, .ty _, ty, h1, isI x, rfl, ?_⟩
    by_cases c : isI x = true
    · rw [c] at q ⊢
      refine ifT rfl ?_
      refine ⟨_, rfl, x, _, t, _, _, rfl, .ty _, ty, h2, isB x, rfl, q⟩
    · rw [Bool.not_eq_true] at c
      rw [c] at q ⊢
      exact ifF rfl q
--@len
theorem ok_islen {f : Addr} {fd : FuncData} (F : Fun K "is_length" "is_length" S_is_length f fd) (T : Txt K mg) (C_isint : FnC P w K mg base CX0 1 "is_integer" ["value"] (sp_isint K)) : FnOk P w K mg base CX0 2 f fd ["value"] (sp_islen K) := by
  refine F.ok SC_is_length (fun vs H Q E h => ?_) (fun cdv A outer s H vs Q E hr h => ?_)
  · obtain ⟨x, rfl, _⟩ := h
    rfl
  · obtain ⟨x, rfl, kd, q⟩ := h
    refine ⟨_, (pss_one (ps_ret (pe_and (pe_callC C_isint hr rfl (pa_cons (pv 0) pa_nil)) (pe_one (pe_cmpR op_ge (pv 0) pe_int (nomark _)))))), ?_⟩
    refine ⟨_, rfl, x, rfl, kd, _, rfl, ?_⟩
    cases x with
    | int i =>
      refine ifT rfl ?_
      walk_at "kb"
      exact q
    | bl b => exact ifF rfl q
    | non => exact ifF rfl q
    | str z => exact ifF rfl q
    | byt z => exact ifF rfl q
    | flt z => exact ifF rfl q
    | ref z => exact ifF rfl q
    | ty z => exact ifF rfl q
theorem ok_common {f : Addr} {fd : FuncData} (F : Fun K "common_length" "common_length" S_common_length f fd) (T : Txt K mg) : FnOk P w K mg base CX0 1 f fd ["first", "second"] sp_common := by
  refine F.ok SC_common_length (fun vs H Q E h => ?_) (fun cdv A outer s H vs Q E hr h => ?_)
  · obtain ⟨i, j, rfl, _⟩ := h
    rfl
  · obtain ⟨i, j, rfl, h1, h2, q⟩ := h
    refine ⟨_, (pss_cons (ps_while PassesOwn.never (pt_cmpR op_ne (pv 1) pe_int (nomark _)) (pss_one (ps_par (i := 0) (j := 1) (by rfl) SC_common_length.nd rfl rfl (by decide) rfl rfl (pa_cons (pv 1) (pa_cons (pe_op op_mod (pv 0) (pv 1)) pa_nil)) (by rfl))))
      (pss_one (ps_ret (pv 0)))), ?_⟩
    refine while_by (fun σ H' => H' = H ∧ ∃ x y : Int, 0 < x ∧ 0 ≤ y ∧ Int.gcd x y = Int.gcd i j ∧ σ = [some (.int x), some (.int y)]) (fun σ _ => match σ with | [_, some (.int y)] => y.toNat | _ => 0)
      ⟨rfl, i, j, h1, Int.le_of_lt h2, rfl, rfl⟩ (fun σ H1 hP => ?_) (fun σ H Q Q' h q => ?_)
    · obtain ⟨rfl, x, y, hx, hy, hg, rfl⟩ := hP
      walk_at "kb"
      refine ite2 (fun h => ?_) (fun h => ?_)
      · have hy0 : y ≠ 0 := fun e => by subst e; exact absurd h (by decide)
        walk_at "kb"
        refine ⟨⟨rfl, y, x % y, by omega, Int.emod_nonneg _ hy0, ?_, rfl⟩, ?_⟩
        · rw [← hg]; exact gcd_step (Int.le_of_lt hx) hy
        · show (x % y).toNat < y.toNat
          have := Int.emod_lt_of_pos x (show 0 < y by omega)
          omega
      · have hy0 : y = 0 := by
          have : decide (V.int y = V.int 0) = true := by simpa using h
          exact V.int.inj (of_decide_eq_true this)
        subst hy0
        refine ⟨_, rfl, ?_⟩
        have e : x = ((Int.gcd i j : Nat) : Int) := by rw [← hg, Int.gcd_zero_right]; omega
        rw [e]
        exact q
    · obtain ⟨v, h1, e, v2, e2, q⟩ := q
      exact ⟨v, h1, e, v2, e2, h _ _ q⟩
theorem ok_init {f C IR : Addr} {fd : FuncData} (F : Fun K "__init__" "Ratio.__init__" S_Ratio__init_ f fd) (T : Txt K mg) (R : RatT K mg C) (E_InvalidRatio : ErC P w K mg base "InvalidRatio" IR) (C_islen : FnC P w K mg base CX0 2 "is_length" ["value"] (sp_islen K)) (C_common : FnC P w K mg base CX0 1 "common_length" ["first", "second"] sp_common) :
    FnOk P w K mg base (L2.CX P w) 4 f fd ["self", "first", "second"] (sp_init C IR K) := by
  refine F.okX SC_Ratio__init_ (fun vs H Q E h => ?_) (fun cdv A outer s H vs Q E hr h => ?_)
  · obtain ⟨x, dx, u, v, rfl, _⟩ := h
    rfl
  · obtain ⟨x, dx, u, v, rfl, ku, kv, hx, ok, bad⟩ := h
    refine ⟨_, (pss_cons (ps_if (PW.pt (pw_or (pt_not (pt_val (pe_callC C_islen (hr.mono (by decide)) rfl (pa_cons (pv 1) pa_nil)))) (pw_or1 (pt_not (pt_val (pe_callC C_islen (hr.mono (by decide)) rfl (pa_cons (pv 2) pa_nil))))))) (pss_one (ps_raise0 E_InvalidRatio (hr.mono (by decide)) rfl (takes_of rfl rfl rfl rfl) rfl)) pss_nil)
      (pss_cons (ps_set (i := 3) SC_Ratio__init_.nd rfl (.inl rfl) (pe_callC C_common (hr.mono (by decide)) rfl (pa_cons (pv 1) (pa_cons (pv 2) pa_nil))))
      (pss_cons (ps_fld (pv 0) (pe_op op_fdivW (pv 1) (pv 3)) rfl)
      (pss_one (ps_fld (pv 0) (pe_op op_fdivW (pv 2) (pv 3)) rfl))))), ?_⟩
    refine ⟨_, rfl, _, rfl, ku, isLen u, rfl, ?_⟩
    by_cases lu : isLen u = true
    · rw [lu]
      refine ifF rfl ⟨_, rfl, _, rfl, kv, isLen v, rfl, ?_⟩
      by_cases lv : isLen v = true
      · rw [lv]
        refine ifF rfl ?_
        obtain ⟨i, j, rfl, rfl, i1, j1, q⟩ := ok lu lv
        have i0 : 0 < i := by have := of_decide_eq_true lu; omega
        have j0 : 0 < j := by have := of_decide_eq_true lv; omega
        have g0 : 0 < ((Int.gcd i j : Nat) : Int) := by have := Int.gcd_pos_of_ne_zero_left j (show i ≠ 0 by omega); omega
        have g1 : ((Int.gcd i j : Nat) : Int) ≤ i := Int.le_of_dvd i0 (Int.gcd_dvd_left _ _)
        have hd : CDivW i ((Int.gcd i j : Nat) : Int) := wide_div (b := 1000) g0 (by omega) (by decide) (by decide)
        have hd2 : CDivW j ((Int.gcd i j : Nat) : Int) := hd
        walk_at "kb"
        refine ⟨x, C, dx, _, rfl, hx, R.ins.cl, R.n1, by show 0 < 1000; decide, ?_⟩
        walk_at "kb"
        refine ⟨x, C, dx, _, rfl, upd_same, R.ins.cl, R.n2, by show 1 < 1000; decide, ?_⟩
        refine q _ (fun a o n e => by rw [upd_ne n, upd_ne n]; exact e) ⟨dx, by rw [upd_same]; rfl⟩
      · rw [Bool.not_eq_true] at lv
        rw [lv]
        refine ifT rfl ?_
        exact bad (by rw [lv, Bool.and_false])
    · rw [Bool.not_eq_true] at lu
      rw [lu]
      refine ifT rfl ?_
      exact bad (by rw [lu]; rfl)
theorem ok_need {f IW : Addr} {fd : FuncData} (F : Fun K "need_word" "need_word" S_need_word f fd) (T : Txt K mg) (E_InvalidWord : ErC P w K mg base "InvalidWord" IW) : FnOk P w K mg base (L2.CX P w) 4 f fd ["value"] (sp_need IW K) := by
  refine F.okX SC_need_word (fun vs H Q E h => ?_) (fun cdv A outer s H vs Q E hr h => ?_)
  · obtain ⟨x, rfl, _⟩ := h
    rfl
  · obtain ⟨x, rfl, ⟨t, ty, _, _, h3⟩, hz, ok, bad⟩ := h
    refine ⟨_, (pss_one (ps_if (PW.pt (pw_or (pt_not (pt_val (pe_callB call_isi (by rfl) T.b_isinstance (by decide +kernel) (pa_cons (pv 0) (pa_cons (pe_bltn (v := .ty "str") (by rfl) T.b_str boot_str rfl) pa_nil))))) (pw_or1 (pt_not (pt_val (pe_callB (cr_all rfl) (by rfl) T.b_all (by decide +kernel) (pa_cons (pe_lc (own := [("letter", 1)]) (g := gName 1) (by rfl) SC_need_word.nd (pi_str (pv 0)) (blkOk_by (own := [("letter", 1)]) (N := N_need_word) (sc := defScope S_need_word) (by decide +kernel)) (fun _ _ _ _ _ => pg_name (i := 1) SC_need_word.nd rfl (Or.inl rfl)) (fun _ _ _ _ _ => pts_nil) (fun _ _ _ _ _ => (pe_cmpR op_in_sign (pv 1) pe_str rfl))) pa_nil))))))) (pss_one (ps_raise0 E_InvalidWord (hr.mono (by decide)) rfl (takes_of rfl rfl rfl rfl) rfl)) pss_nil)), ?_⟩
    refine ⟨_, rfl, x, _, t, _, _, rfl, .ty _, ty, h3, isS x, rfl, ?_⟩
    by_cases c : isS x = true
    · rw [c]
      obtain ⟨z, rfl⟩ : ∃ z, x = .str z := by cases x <;> first | exact ⟨_, rfl⟩ | cases c
      have hl := hz z rfl
      refine ifF rfl ?_
      walk_at "kb"
      intro D hD
      refine lcR_str (z := z) (fun i H' => (∀ b o, b ≠ D → H b = some o → H' b = some o) ∧ H' D = some (.lst (((z.cps.toList.take i).map fun c => decide (c ∈ ("lr" : Str).cps.toList)).map V.bl))) ⟨fun b o n e => by rw [upd_ne n]; exact e, upd_same⟩ (fun i c H1 hi hc m => ?_) (gName_mono _) (fun H1 m => ?_)
      · obtain ⟨kp, hH⟩ := m
        have hc' : z.cps.toList[i]? = some c := by rw [Array.getElem?_toList]; exact hc
        refine ⟨rfl, _, rfl, c, _, rfl, rfl, _, hH, ?_, fun b o n e => by rw [upd_ne n]; exact kp b o n e, ?_⟩
        · rw [List.length_map, List.length_map, List.length_take]
          exact szs (by have : i < z.length := hi; omega)
        · rw [upd_same, List.take_succ, hc', List.map_append, List.map_append]; rfl
      · obtain ⟨kp, hH⟩ := m
        have hz' : z.cps.size = z.cps.toList.length := by simp
        rw [hz', List.take_length] at hH
        have sm : Same H H1 := fun b o e => kp b o (ne_of_none e hD) e
        refine ⟨_, _, rfl, SqL.of hH, _, rfl, ?_⟩
        show if (!(goodC z)) = true then _ else _
        by_cases g : goodC z = true
        · rw [g]
          exact ifF rfl (ok g H1 sm)
        · rw [Bool.not_eq_true] at g
          rw [g]
          exact ifT rfl (bad g H1 sm)
    · rw [Bool.not_eq_true] at c
      rw [c]
      refine ifT rfl ?_
      refine bad ?_ H (Same.refl H)
      cases x <;> first | rfl | cases c
--@*
end

namespace Rt
theorem sum_enc (ys : List (List Bool)) : ((ys.map enc).map (·.length)).sum = ys.flatten.length := by
  induction ys with
  | nil => rfl
  | cons y r ih => rw [List.map_cons, List.map_cons, List.sum_cons, ih, enc_len, List.flatten_cons, List.length_append]
theorem wd {i j : Int} (h : 0 < j) (h1 : j.natAbs < 2 ^ 1000) : CDivW i j := wide_div (b := 1000) h h1 (by decide) (by decide)
theorem int_run {a b : Nat} (h : b < a) (hb : 0 < b) : ((a : Int) - 1) / (b : Int) = (((a - 1) / b : Nat) : Int) := by
  rw [show ((a : Int) - 1) = ((a - 1 : Nat) : Int) by omega, ← Int.natCast_ediv]
theorem int_sub {a b : Nat} (h : b < a) : (a : Int) - (((a - 1) / b : Nat) : Int) * (b : Int) = ((a - (a - 1) / b * b : Nat) : Int) := by
  have e : (a - 1) / b * b ≤ a - 1 := Nat.div_mul_le_self _ _
  rw [Int.natCast_sub (by omega), Int.natCast_mul]
theorem run_pos {a b : Nat} (h : b < a) (hb : 0 < b) : 1 ≤ (a - 1) / b := (Nat.le_div_iff_mul_le hb).mpr (by omega)
end Rt
section
variable {P : Program} {w : World} {K : PySem.W.Frag} {mg : Str → Option Value} {base : Heap}
theorem ok_wol {f : Addr} {fd : FuncData} (F : Fun K "word_of_lengths" "word_of_lengths" S_word_of_lengths f fd) (T : Txt K mg) : FnOk P w K mg base CX0 1 f fd ["first", "second"] sp_wol := by
  refine F.ok SC_word_of_lengths (fun vs H Q E h => ?_) (fun cdv A outer s H vs Q E hr h => ?_)
  · obtain ⟨u, rfl, _⟩ := h
    rfl
  · obtain ⟨u, rfl, hu, q⟩ := h
    refine ⟨_, (pss_cons (ps_set (i := 2) SC_word_of_lengths.nd rfl (.inl rfl) (pe_lst pa_nil))
      (pss_cons (ps_while PassesOwn.never (pt_cmpR op_ne (pv 0) (pv 1) (nomark _)) (pss_one (ps_if (pt_cmpR op_gt (pv 0) (pv 1) (nomark _)) (pss_cons (ps_set (i := 3) SC_word_of_lengths.nd rfl (.inl rfl) (pe_op op_fdivW (pe_op op_sub (pv 0) pe_int) (pv 1)))
      (pss_cons (ps_expr (pe_bm PySem.F.plainAttrs_list PySem.F.slot_list_append PySem.F.type_list_append mt_append (pv 2) (pa_cons (pe_op op_mul_str pe_str (pv 3)) pa_nil)))
      (pss_one (ps_set (i := 0) SC_word_of_lengths.nd rfl (.inl rfl) (pe_op op_sub (pv 0) (pe_op op_mulW (pv 3) (pv 1))))))) (pss_cons (ps_set (i := 3) SC_word_of_lengths.nd rfl (.inl rfl) (pe_op op_fdivW (pe_op op_sub (pv 1) pe_int) (pv 0)))
      (pss_cons (ps_expr (pe_bm PySem.F.plainAttrs_list PySem.F.slot_list_append PySem.F.type_list_append mt_append (pv 2) (pa_cons (pe_op op_mul_str pe_str (pv 3)) pa_nil)))
      (pss_one (ps_set (i := 1) SC_word_of_lengths.nd rfl (.inl rfl) (pe_op op_sub (pv 1) (pe_op op_mulW (pv 3) (pv 0))))))))))
      (pss_one (ps_ret (pe_join pe_str (pv 2)))))), ?_⟩
    refine ⟨by show 0 ≤ sizeLine; decide, fun D hD => ?_⟩
    refine while_by (fun σ H' => (∀ b o, b ≠ D → H b = some o → H' b = some o) ∧ ∃ (ys : List (List Bool)) (v : List Bool) (x : Option V), ys.flatten ++ v = u ∧ ys.length + v.length ≤ u.length ∧ H' D = some (.lst (ys.map fun y => V.str (enc y))) ∧ σ = [some (.int (pr v).1), some (.int (pr v).2), some (.ref D), x])
      (fun σ _ => match σ with | [some (.int a), some (.int b), _, _] => (a + b).toNat | _ => 0) ⟨fun b o n e => by rw [upd_ne n]; exact e, [], u, none, rfl, by simp, upd_same, rfl⟩ (fun σ H1 hP => ?_) (fun σ H Q Q' h q => ?_)
    · obtain ⟨kp, ys, v, x, hf, hl, hH, rfl⟩ := hP
      have p := pr_pos v
      have hvl : v.length ≤ 900 := by omega
      have hyl : ys.length ≤ 900 := by omega
      have sm := pr_small hvl
      have n1 : (pr v).1 < 2 ^ 1000 := by have := sm.1; rwa [Int.natAbs_natCast] at this
      have n2 : (pr v).2 < 2 ^ 1000 := by have := sm.2; rwa [Int.natAbs_natCast] at this
      walk_at "kb"
      refine ite2 (fun h => ?_) (fun h => ?_)
      · walk_at "kb"
        refine ite2 (fun h2 => ?_) (fun h2 => ?_)
        · have lt : (pr v).2 < (pr v).1 := by have := of_decide_eq_true h2; omega
          obtain ⟨v', e1, e2⟩ := pr_run_r v lt
          have m1 := run_pos lt p.2
          have ml : ((pr v).1 - 1) / (pr v).2 ≤ v.length := by have := congrArg List.length e1; rw [List.length_append, List.length_replicate] at this; omega
          walk_at "kb"
          refine ⟨wd (by omega) sm.2, _, rfl, .inl ⟨rfl, _, SqL.of hH⟩, ?_⟩
          dsimp only
          rw [int_run lt p.2]
          walk_at "kb"
          refine ⟨by rw [show ("r" : Str).length = 1 by decide +kernel]; omega, ?_⟩
          refine ⟨D, _, _, rfl, rfl, hH, by rw [List.length_map]; exact szs (by omega), ?_⟩
          walk_at "kb"
          refine ⟨wm (by rw [Int.natAbs_natCast]; exact Nat.lt_of_le_of_lt (Nat.le_trans ml hvl) (by decide)) sm.2, ?_⟩
          refine ⟨_, _, rfl, rfl, ?_⟩
          dsimp only
          rw [int_sub lt]
          have l1 : (ys ++ [List.replicate (((pr v).1 - 1) / (pr v).2) true]).length = ys.length + 1 := by rw [List.length_append]; rfl
          have l2 : v.length = ((pr v).1 - 1) / (pr v).2 + v'.length := by have := congrArg List.length e1; rwa [List.length_append, List.length_replicate] at this
          refine ⟨⟨fun b o n e => by rw [upd_ne n]; exact kp b o n e, ys ++ [List.replicate (((pr v).1 - 1) / (pr v).2) true], v', some (.int (((pr v).1 - 1) / (pr v).2 : Nat)), ?_, by omega, ?_, ?_⟩, ?_⟩
          · rw [List.flatten_append, List.flatten_cons, List.flatten_nil, List.append_nil, List.append_assoc, ← e1]; exact hf
          · rw [upd_same, List.map_append, List.map_cons, List.map_nil, ← enc_rep, ← lit_r]; rfl
          · rw [e2]; rfl
          · have e3 : ((pr v).1 - 1) / (pr v).2 * (pr v).2 ≤ (pr v).1 - 1 := Nat.div_mul_le_self _ _
            have e4 : (pr v).2 ≤ ((pr v).1 - 1) / (pr v).2 * (pr v).2 := Nat.le_mul_of_pos_left _ m1
            show (((pr v).1 - ((pr v).1 - 1) / (pr v).2 * (pr v).2 : Nat) + ((pr v).2 : Int)).toNat < (((pr v).1 : Int) + (pr v).2).toNat
            omega
        · have ne : (pr v).1 ≠ (pr v).2 := fun e => by
            rw [e] at h
            simp at h
          have h3 : ¬ ((pr v).2 : Int) < (pr v).1 := fun z => h2 (decide_eq_true z)
          have lt : (pr v).1 < (pr v).2 := by omega
          obtain ⟨v', e1, e2⟩ := pr_run_l v lt
          have m1 := run_pos lt p.1
          have ml : ((pr v).2 - 1) / (pr v).1 ≤ v.length := by have := congrArg List.length e1; rw [List.length_append, List.length_replicate] at this; omega
          walk_at "kb"
          refine ⟨wd (by omega) sm.1, _, rfl, .inl ⟨rfl, _, SqL.of hH⟩, ?_⟩
          dsimp only
          rw [int_run lt p.1]
          walk_at "kb"
          refine ⟨by rw [show ("l" : Str).length = 1 by decide +kernel]; omega, ?_⟩
          refine ⟨D, _, _, rfl, rfl, hH, by rw [List.length_map]; exact szs (by omega), ?_⟩
          walk_at "kb"
          refine ⟨wm (by rw [Int.natAbs_natCast]; exact Nat.lt_of_le_of_lt (Nat.le_trans ml hvl) (by decide)) sm.1, ?_⟩
          refine ⟨_, _, rfl, rfl, ?_⟩
          dsimp only
          rw [int_sub lt]
          have l1 : (ys ++ [List.replicate (((pr v).2 - 1) / (pr v).1) false]).length = ys.length + 1 := by rw [List.length_append]; rfl
          have l2 : v.length = ((pr v).2 - 1) / (pr v).1 + v'.length := by have := congrArg List.length e1; rwa [List.length_append, List.length_replicate] at this
          refine ⟨⟨fun b o n e => by rw [upd_ne n]; exact kp b o n e, ys ++ [List.replicate (((pr v).2 - 1) / (pr v).1) false], v', some (.int (((pr v).2 - 1) / (pr v).1 : Nat)), ?_, by omega, ?_, ?_⟩, ?_⟩
          · rw [List.flatten_append, List.flatten_cons, List.flatten_nil, List.append_nil, List.append_assoc, ← e1]; exact hf
          · rw [upd_same, List.map_append, List.map_cons, List.map_nil, ← enc_rep, ← lit_l]; rfl
          · rw [e2]; rfl
          · have e3 : ((pr v).2 - 1) / (pr v).1 * (pr v).1 ≤ (pr v).2 - 1 := Nat.div_mul_le_self _ _
            have e4 : (pr v).1 ≤ ((pr v).2 - 1) / (pr v).1 * (pr v).1 := Nat.le_mul_of_pos_left _ m1
            show (((pr v).1 : Int) + ((pr v).2 - ((pr v).2 - 1) / (pr v).1 * (pr v).1 : Nat)).toNat < (((pr v).1 : Int) + (pr v).2).toNat
            omega
      · have ev : v = [] := pr_eq (by
          have z : decide (V.int (pr v).1 = V.int (pr v).2) = true := by simpa using h
          have := V.int.inj (of_decide_eq_true z)
          omega)
        subst ev
        walk_at "kb"
        refine ⟨_, _, ys.map enc, rfl, rfl, .inl (SqL.of (by rw [List.map_map]; exact hH)), ?_, ?_⟩
        · rw [sum_enc, empty_len]
          have := congrArg List.length hf
          rw [List.length_append] at this
          simp only [List.length_nil] at this
          omega
        · rw [join_enc]
          rw [List.append_nil] at hf
          rw [hf]
          exact q H1 fun b o e => kp b o (ne_of_none e hD) e
    · obtain ⟨v1, e1, v2, e2, z, b, eb, q⟩ := q
      exact ⟨v1, e1, v2, e2, z, b, eb, h _ _ q⟩
theorem ok_word {f C : Addr} {fd : FuncData} (F : Fun K "word" "Ratio.word" S_Ratio_word f fd) (T : Txt K mg) (R : RatT K mg C) (C_wol : FnC P w K mg base CX0 1 "word_of_lengths" ["first", "second"] sp_wol) : FnOk P w K mg base CX0 2 f fd ["self"] (sp_word C) := by
  refine F.ok SC_Ratio_word (fun vs H Q E h => ?_) (fun cdv A outer s H vs Q E hr h => ?_)
  · obtain ⟨p, u, rfl, _⟩ := h
    rfl
  · obtain ⟨p, u, rfl, ⟨dx, hp⟩, hu, q⟩ := h
    refine ⟨_, (pss_one (ps_ret (pe_callC C_wol hr rfl (pa_cons (pe_fld (pv 0) rfl) (pa_cons (pe_fld (pv 0) rfl) pa_nil))))), ?_⟩
    exact ⟨_, rfl, p, C, dx, _, _, rfl, hp, R.ins.cl, R.n1, rf1 _ _, _, rfl, p, C, dx, _, _, rfl, hp, R.ins.cl, R.n2, rf2 _ _, u, rfl, hu, q⟩
end

/-! ## changes -/
namespace Ch
def isNat : V → Bool | .int i => decide (0 ≤ i) | _ => false
def cf (q : Addr) (t : Int) : List (Str × V) := putF "turn" (.int t) (putF "numbers" (.ref q) [])
theorem n_nt : ¬ (("numbers" : Str) = "turn") := by decide +kernel
theorem cf1 (q : Addr) (t : Int) : (cf q t).lookup ("numbers" : Str) = some (.ref q) := by
  unfold cf; rw [lookup_putF, if_neg n_nt, lookup_putF, if_pos rfl]
theorem cf2 (q : Addr) (t : Int) : (cf q t).lookup ("turn" : Str) = some (.int t) := by
  unfold cf; rw [lookup_putF, if_pos rfl]
def ChAt (CC : Addr) (H : Hp) (p : Addr) (a b c d : Int) : Prop := ∃ dx q, H p = some (.ins CC dx (cf q (a * d - b * c))) ∧ H q = some (.tup [.int a, .int b, .int c, .int d])
theorem ChAt.same {C : Addr} {H H' : Hp} {p : Addr} {a b c d : Int} (x : ChAt C H p a b c d) (s : Same H H') : ChAt C H' p a b c d := let ⟨d, q, h, k⟩ := x; ⟨d, q, s _ _ h, s _ _ k⟩
structure ChT (K : PySem.W.Frag) (mg : Str → Option Value) (C : Addr) : Prop where
  ins : C8.InsC K C
  n1 : NoAttr K C "numbers"
  n2 : NoAttr K C "turn"
  mgC : mg "Change" = some (.ref C)
  nf : PySem.W.notFirst K C (.ref C) = true
  ne : PySem.W.findIn K (.ref C) "__ne__" = some (some (.builtin "object.__ne__"))
  so : PySem.W.subIn K (.ref C) (.type "object") = some true
theorem ChT.cl {K : PySem.W.Frag} {mg : Str → Option Value} {C : Addr} (T : ChT K mg C) : Cls K C := T.ins.cl
theorem ChT.ty {K : PySem.W.Frag} {mg : Str → Option Value} {C : Addr} (T : ChT K mg C) {H : Hp} {p dx : Addr} {fs : List (Str × V)} (h : H p = some (.ins C dx fs)) : TyX K H (.ref p) (.ref C) := .base (.ins h T.ins.cl T.ins.ha T.ins.hn T.ins.htk T.ins.hm)
def nats (u1 u2 u3 u4 : V) : Bool := isNat u1 && isNat u2 && isNat u3 && isNat u4
/-- Change(a, b, c, d): made, or refused -/
def sp_chinit (CC IC : Addr) (K : PySem.W.Frag) : Sp := fun vs H Q E => ∃ (x dx : Addr) (u1 u2 u3 u4 : V), vs = [.ref x, u1, u2, u3, u4] ∧ (Kd K H u1 ∧ Kd K H u2 ∧ Kd K H u3 ∧ Kd K H u4) ∧ H x = some (.ins CC dx []) ∧
  (nats u1 u2 u3 u4 = true → ∃ i j m n : Int, u1 = .int i ∧ u2 = .int j ∧ u3 = .int m ∧ u4 = .int n ∧ (i.natAbs < 2 ^ 1000 ∧ j.natAbs < 2 ^ 1000 ∧ m.natAbs < 2 ^ 1000 ∧ n.natAbs < 2 ^ 1000) ∧
    (i * n ≠ j * m → ∀ H', (∀ a o, a ≠ x → H a = some o → H' a = some o) → ChAt CC H' x i j m n → Q .non H') ∧ (i * n = j * m → ∀ H', Same H H' → E (.ref IC) none H')) ∧
  (nats u1 u2 u3 u4 = false → ∀ H', Same H H' → E (.ref IC) none H')
theorem lcR_tupC {K : PySem.W.Frag} {a : Addr} {xs : List V} {g : TG} {te : TE} {vs : List Nat} {σ : L2.St} {H1 : Hp} {D : Addr} {Qd : Hp → Prop} (M : Nat → Hp → Prop) (h0 : M 0 (upd H1 D (.lst []))) (hl : ∀ i H, i ≤ xs.length → M i H → SqT K H a xs)
    (hs : ∀ i x H, xs[i]? = some x → M i H → g x (wipe σ vs) H fun σ2 H2 => wipe σ2 vs = wipe σ vs ∧ te σ2 H2 fun y H4 => ∃ acc, H4 D = some (.lst acc) ∧ acc.length < sizeLine ∧ M (i + 1) (upd H4 D (.lst (acc ++ [y]))))
    (hm : ∀ x σ H Q Q', (∀ σ2 H2, Q σ2 H2 → Q' σ2 H2) → g x σ H Q → g x σ H Q') (hd : ∀ H, M xs.length H → Qd H) : LcR (Itt K a) g tYes te vs σ H1 D Qd :=
  lc_it walk_tup M h0 hl (fun i x H H' hi m y => by
    obtain ⟨e, hx⟩ := y
    subst e
    exact hm _ _ _ _ _ (fun σ2 H2 z => ⟨z.1, ifT (B := M (i + 1) H2) rfl z.2⟩) (hs i x _ hx m)) hd
end Ch
open Ch
section
variable {P : Program} {w : World} {K : PySem.W.Frag} {mg : Str → Option Value} {base : Heap}
theorem ok_chinit {f CC IC : Addr} {fd : FuncData} (F : Fun K "__init__" "Change.__init__" S_Change__init_ f fd) (T : Txt K mg) (Rc : ChT K mg CC) (E_InvalidChange : ErC P w K mg base "InvalidChange" IC) (C_isint : FnC P w K mg base CX0 1 "is_integer" ["value"] (sp_isint K)) :
    FnOk P w K mg base (L2.CX P w) 4 f fd ["self", "a", "b", "c", "d"] (sp_chinit CC IC K) := by
  refine F.okX SC_Change__init_ (fun vs H Q E h => ?_) (fun cdv A outer s H vs Q E hr h => ?_)
  · obtain ⟨x, dx, u1, u2, u3, u4, rfl, _⟩ := h
    rfl
  · obtain ⟨x, dx, u1, u2, u3, u4, rfl, ⟨k1, k2, k3, k4⟩, hx, ok, bad⟩ := h
    refine ⟨_, (pss_cons (ps_set (i := 5) SC_Change__init_.nd rfl (.inl rfl) (pe_tup (pa_cons (pv 1) (pa_cons (pv 2) (pa_cons (pv 3) (pa_cons (pv 4) pa_nil))))))
      (pss_cons (ps_if (PW.pt (pw_or (pt_not (pt_val (pe_callB (cr_all rfl) (by rfl) T.b_all (by decide +kernel) (pa_cons (pe_lc (own := [("number", 6)]) (g := gName 6) (by rfl) SC_Change__init_.nd (pi_tup (pv 5)) (blkOk_by (own := [("number", 6)]) (N := N_Change__init_) (sc := defScope S_Change__init_) (by decide +kernel)) (fun _ _ _ _ _ => pg_name (i := 6) SC_Change__init_.nd rfl (Or.inl rfl)) (fun _ _ _ _ _ => pts_nil) (fun _ _ _ _ _ => (pe_and (pe_callC C_isint (hr.mono (by decide)) rfl (pa_cons (pv 6) pa_nil)) (pe_one (pe_cmpR op_ge (pv 6) pe_int (nomark _)))))) pa_nil)))) (pw_or1 (pt_cmpR op_eq (pe_op op_mulW (pv 1) (pv 4)) (pe_op op_mulW (pv 2) (pv 3)) (nomark _))))) (pss_one (ps_raise0 E_InvalidChange (hr.mono (by decide)) rfl (takes_of rfl rfl rfl rfl) rfl)) pss_nil)
      (pss_cons (ps_fld (pv 0) (pv 5) rfl)
      (pss_one (ps_fld (pv 0) (pe_op op_sub (pe_op op_mulW (pv 1) (pv 4)) (pe_op op_mulW (pv 2) (pv 3))) rfl))))), ?_⟩
    walk_at "kb"
    intro q hq
    have sq : Same H (upd H q (.tup [u1, u2, u3, u4])) := fun a o e => by rw [upd_ne (ne_of_none e hq)]; exact e
    walk_at "kb"
    refine ⟨⟨_, SqT.of upd_same⟩, fun D hD => ?_⟩
    have qD : q ≠ D := ne_of_none upd_same hD
    have each : ∀ (i : Nat) v, [u1, u2, u3, u4][i]? = some v → Kd K H v := fun i v h => by
      match i, h with
      | 0, h => cases h; exact k1
      | 1, h => cases h; exact k2
      | 2, h => cases h; exact k3
      | 3, h => cases h; exact k4
      | i + 4, h => simp at h
    refine lcR_tupC (xs := [u1, u2, u3, u4]) (fun i H' => (∀ b o, b ≠ D → (upd H q (.tup [u1, u2, u3, u4])) b = some o → H' b = some o) ∧ H' D = some (.lst ((([u1, u2, u3, u4].take i).map isNat).map V.bl))) ⟨fun b o n e => by rw [upd_ne n]; exact e, upd_same⟩
      (fun i H' _ m => SqT.of (m.1 q _ qD upd_same)) (fun i v H1 hi m => ?_) (gName_mono _) (fun H1 m => ?_)
    · obtain ⟨kp, hH⟩ := m
      have kd := (each i v hi).same sq
      have kd1 : Kd K H1 v := kd.at fun a o e h => kp a o (ne_of_none h hD) h
      have hilt : i < 4 := (List.getElem?_eq_some_iff.mp hi).1
      have fin : ∃ acc, H1 D = some (.lst acc) ∧ acc.length < sizeLine ∧ ((∀ b o, b ≠ D → (upd H q (.tup [u1, u2, u3, u4])) b = some o → (upd H1 D (.lst (acc ++ [.bl (isNat v)]))) b = some o) ∧ (upd H1 D (.lst (acc ++ [.bl (isNat v)]))) D = some (.lst ((([u1, u2, u3, u4].take (i + 1)).map isNat).map V.bl))) := by
        refine ⟨_, hH, ?_, fun b o n e => by rw [upd_ne n]; exact kp b o n e, ?_⟩
        · rw [List.length_map, List.length_map, List.length_take]
          exact szs (by show min i 4 ≤ _; omega)
        · rw [upd_same, List.take_succ, hi, List.map_append, List.map_append]; rfl
      refine ⟨rfl, _, rfl, v, rfl, kd1, _, rfl, ?_⟩
      cases v with
      | int j => exact ifT rfl ⟨_, rfl, _, _, rfl, rfl, fin⟩
      | bl b => exact ifF rfl fin
      | non => exact ifF rfl fin
      | str z => exact ifF rfl fin
      | byt z => exact ifF rfl fin
      | flt z => exact ifF rfl fin
      | ref z => exact ifF rfl fin
      | ty z => exact ifF rfl fin
    · obtain ⟨kp, hH⟩ := m
      have sm1 : Same H H1 := fun b o e => kp b o (ne_of_none (sq b o e) hD) (sq b o e)
      have hq1 : H1 q = some (.tup [u1, u2, u3, u4]) := kp q _ qD upd_same
      refine ⟨_, _, rfl, SqL.of hH, _, rfl, ?_⟩
      have en : ((List.map isNat (List.take [u1, u2, u3, u4].length [u1, u2, u3, u4])).all id) = nats u1 u2 u3 u4 := by
        show (isNat u1 && (isNat u2 && (isNat u3 && (isNat u4 && true)))) = _
        unfold nats
        cases isNat u1 <;> cases isNat u2 <;> cases isNat u3 <;> cases isNat u4 <;> rfl
      rw [en]
      by_cases hn : nats u1 u2 u3 u4 = true
      · rw [hn]
        refine ifF rfl ?_
        obtain ⟨i, j, m, n, rfl, rfl, rfl, rfl, ⟨b1, b2, b3, b4⟩, yes, no⟩ := ok hn
        refine ⟨_, rfl, _, rfl, _, _, rfl, rfl, wm b1 b4, _, rfl, _, rfl, _, _, rfl, rfl, wm b2 b3, ?_⟩
        walk_at "kb"
        refine ite2 (fun h => ?_) (fun h => ?_)
        · exact no (V.int.inj (of_decide_eq_true h)) H1 sm1
        · have hne : i * n ≠ j * m := fun e => h (decide_eq_true (congrArg V.int e))
          have nqx : q ≠ x := fun e => by rw [e] at hq1; have := sm1 x _ hx; rw [hq1] at this; cases this
          walk_at "kb"
          refine ⟨x, CC, dx, _, rfl, sm1 x _ hx, Rc.ins.cl, Rc.n1, by show 0 < 1000; decide, ?_⟩
          walk_at "kb"
          refine ⟨wm b1 b4, _, rfl, _, rfl, _, _, rfl, rfl, wm b2 b3, _, _, rfl, rfl, ?_⟩
          refine ⟨_, rfl, x, CC, dx, _, rfl, upd_same, Rc.ins.cl, Rc.n2, by show 1 < 1000; decide, ?_⟩
          exact yes hne _ (fun a o nn e => by rw [upd_ne nn, upd_ne nn]; exact sm1 a o e) ⟨dx, q, by rw [upd_same]; rfl, by rw [upd_ne nqx, upd_ne nqx]; exact hq1⟩
      · rw [Bool.not_eq_true] at hn
        rw [hn]
        exact ifT rfl (bad hn H1 sm1)
end

/-! ## what stands in the heap, kept as a list -/
namespace Wl
structure Wo (B : Addr) (H0 H : Hp) (L : List (Addr × HO)) : Prop where
  box : BoxAt H B
  kp : Keep B H0 H
  at_ : ∀ x ∈ L, x.1 ≠ B ∧ H x.1 = some x.2
structure Ho (H0 H : Hp) (L : List (Addr × HO)) : Prop where
  sm : Same H0 H
  at_ : ∀ x ∈ L, H x.1 = some x.2
section
variable {B p : Addr} {o : HO} {H0 H H' : Hp} {L L' : List (Addr × HO)}
theorem Wo.get (w : Wo B H0 H L) (h : (p, o) ∈ L) : H p = some o := (w.at_ _ h).2
theorem Ho.get (w : Ho H0 H L) (h : (p, o) ∈ L) : H p = some o := w.at_ _ h
theorem Wo.ne (w : Wo B H0 H L) (h : (p, o) ∈ L) : p ≠ B := (w.at_ _ h).1
theorem Wo.same (w : Wo B H0 H L) (s : Same H H') : Wo B H0 H' L := ⟨w.box.same s, w.kp.trans (Keep.same s), fun x h => ⟨(w.at_ x h).1, s _ _ (w.at_ x h).2⟩⟩
theorem Ho.same (w : Ho H0 H L) (s : Same H H') : Ho H0 H' L := ⟨w.sm.trans s, fun x h => s _ _ (w.at_ x h)⟩
theorem Wo.keep (w : Wo B H0 H L) (k : Keep B H H') (b : BoxAt H' B) : Wo B H0 H' L := ⟨b, w.kp.trans k, fun x h => ⟨(w.at_ x h).1, k _ _ (w.at_ x h).1 (w.at_ x h).2⟩⟩
theorem Wo.add (w : Wo B H0 H L) (h : H p = some o) (n : p ≠ B) : Wo B H0 H ((p, o) :: L) := ⟨w.box, w.kp, fun x hx => by
  rcases List.mem_cons.mp hx with rfl | hx
  · exact ⟨n, h⟩
  · exact w.at_ x hx⟩
theorem Ho.add (w : Ho H0 H L) (h : H p = some o) : Ho H0 H ((p, o) :: L) := ⟨w.sm, fun x hx => by
  rcases List.mem_cons.mp hx with rfl | hx
  · exact h
  · exact w.at_ x hx⟩
/-- an object that is no list isn't the box -/
theorem Wo.addN (w : Wo B H0 H L) (h : H p = some o) (n : ∀ xs, o ≠ .lst xs) : Wo B H0 H ((p, o) :: L) := w.add h fun e => by
  obtain ⟨xs, q⟩ := w.box.lst
  rw [← e, h] at q
  exact n xs (Option.some.inj q)
theorem Wo.tup {vs : List V} (w : Wo B H0 H L) (h : H p = some (.tup vs)) : Wo B H0 H ((p, .tup vs) :: L) := w.addN h (fun _ e => nomatch e)
theorem Wo.insA {C dx : Addr} {fs : List (Str × V)} (w : Wo B H0 H L) (h : H p = some (.ins C dx fs)) : Wo B H0 H ((p, .ins C dx fs) :: L) := w.addN h (fun _ e => nomatch e)
theorem Wo.fresh (w : Wo B H0 H L) (h : H p = none) : p ≠ B := w.box.ne h
theorem Wo.call (w : Wo B H0 H L) (hn : H p = none) (s : Same H H') (h : H' p = some o) : Wo B H0 H' ((p, o) :: L) := (w.same s).add h (w.fresh hn)
theorem Ho.call (w : Ho H0 H L) (s : Same H H') (h : H' p = some o) : Ho H0 H' ((p, o) :: L) := (w.same s).add h
theorem Wo.sub (w : Wo B H0 H L) (h : ∀ x ∈ L', x ∈ L) : Wo B H0 H L' := ⟨w.box, w.kp, fun x hx => w.at_ x (h x hx)⟩
theorem Wo.free (w : Wo B H0 H L) (h : H p = none) : H0 p = none := w.kp.free w.box.any h
theorem Wo.nw {Q : VK} (w : Wo B H0 H L) (k : ∀ p H', H0 p = none → Wo B H0 H' ((p, o) :: L) → Q (.ref p) H') : New H o Q := fun p H' hn s h => k p H' (w.free hn) (w.call hn s h)
theorem Ho.nw {Q : VK} (w : Ho H0 H L) (k : ∀ p H', H0 p = none → Ho H0 H' ((p, o) :: L) → Q (.ref p) H') : New H o Q := fun p H' hn s h => k p H' (w.sm.free hn) (w.call s h)
def isLst : HO → Bool
  | .lst _ => true
  | _ => false
/-- a list of one's own is changed -/
theorem Wo.set {l : Addr} {xs : List V} (w : Wo B H0 H L) (hl : H l = some (.lst xs)) (n : l ≠ B) (hf : H0 l = none) (o : HO) : Wo B H0 (upd H l o) ((l, o) :: L.filter fun x => !isLst x.2) := by
  have ne : ∀ x ∈ L.filter (fun x => !isLst x.2), x.1 ≠ l := fun x hx e => by
    have h1 := (List.mem_filter.mp hx)
    have h2 := (w.at_ x h1.1).2
    rw [e, hl] at h2
    have h3 : isLst x.2 = true := by rw [← Option.some.inj h2]; rfl
    rw [h3] at h1
    cases h1.2
  refine ⟨w.box.keep fun u e => by rw [upd_ne n.symm]; exact e, fun a u na e => by rw [upd_ne (ne_of_none e hf)]; exact w.kp a u na e, fun x hx => ?_⟩
  rcases List.mem_cons.mp hx with rfl | hx
  · exact ⟨n, upd_same⟩
  · refine ⟨(w.at_ x (List.mem_filter.mp hx).1).1, ?_⟩
    rw [upd_ne (ne x hx)]
    exact (w.at_ x (List.mem_filter.mp hx).1).2
theorem Ho.set {l : Addr} {xs : List V} (w : Ho H0 H L) (hl : H l = some (.lst xs)) (hf : H0 l = none) (o : HO) : Ho H0 (upd H l o) ((l, o) :: L.filter fun x => !isLst x.2) := by
  have ne : ∀ x ∈ L.filter (fun x => !isLst x.2), x.1 ≠ l := fun x hx e => by
    have h1 := (List.mem_filter.mp hx)
    have h2 := w.at_ x h1.1
    rw [e, hl] at h2
    have h3 : isLst x.2 = true := by rw [← Option.some.inj h2]; rfl
    rw [h3] at h1
    cases h1.2
  refine ⟨fun a u e => by rw [upd_ne (ne_of_none e hf)]; exact w.sm a u e, fun x hx => ?_⟩
  rcases List.mem_cons.mp hx with rfl | hx
  · exact upd_same
  · rw [upd_ne (ne x hx)]
    exact w.at_ x (List.mem_filter.mp hx).1
theorem Wo.tl {x : Addr × HO} (w : Wo B H0 H (x :: L)) : Wo B H0 H L := w.sub fun _ hx => .tail _ hx
theorem Wo.one {x : Addr × HO} (w : Wo B H0 H (x :: L)) : Wo B H0 H [x] := w.sub fun z hz => by cases List.mem_singleton.mp hz; exact .head _
theorem Wo.nil (w : Wo B H0 H L) : Wo B H0 H [] := w.sub fun z hz => nomatch hz
theorem Ho.one {x : Addr × HO} (w : Ho H0 H (x :: L)) : Ho H0 H [x] := ⟨w.sm, fun z hz => by cases List.mem_singleton.mp hz; exact w.at_ _ (.head _)⟩
theorem Ho.tl {x : Addr × HO} (w : Ho H0 H (x :: L)) : Ho H0 H L := ⟨w.sm, fun z hz => w.at_ _ (.tail _ hz)⟩
theorem Ho.nil (w : Ho H0 H L) : Ho H0 H [] := ⟨w.sm, fun z hz => nomatch hz⟩
/-- within a list being made at a new place D -/
theorem Wo.inD {D : Addr} (w : Wo B H0 H L) (hD : H D = none) (k : ∀ b o, b ≠ D → H b = some o → H' b = some o) : Wo B H0 H' L :=
  ⟨w.box.keep fun o e => k _ _ (w.fresh hD).symm e, fun a o n e => k a o (ne_of_none (w.kp a o n e) hD) (w.kp a o n e), fun x h => ⟨(w.at_ x h).1, k _ _ (ne_of_none (w.at_ x h).2 hD) (w.at_ x h).2⟩⟩
theorem Ho.inD {D : Addr} (w : Ho H0 H L) (hD : H D = none) (k : ∀ b o, b ≠ D → H b = some o → H' b = some o) : Ho H0 H' L :=
  ⟨fun a o e => k a o (ne_of_none (w.sm a o e) hD) (w.sm a o e), fun x h => k _ _ (ne_of_none (w.at_ x h) hD) (w.at_ x h)⟩
theorem Ho.start (H : Hp) : Ho H H [] := ⟨Same.refl H, fun _ h => nomatch h⟩
theorem Wo.start (b : BoxAt H B) : Wo B H H [] := ⟨b, Keep.refl _ _, fun _ h => nomatch h⟩
/-- the draws -/
theorem Wo.take {m : Int} {Q : VK} {E : XK} (w : Wo B H0 H L) (m0 : 0 < m) (m1 : m ≤ 1000000000000) (k : ∀ d H', 0 ≤ d → d < m → Wo B H0 H' L → Q (.int d) H') : sp_take [.ref B, .int m] H Q E :=
  ⟨B, m, by rfl, w.box, m0, m1, fun d H' d0 d1 kp hb => k d H' d0 d1 (w.keep kp hb)⟩
end
end Wl
open Wl

local macro_rules | `(tactic| walk_at "mem") => `(tactic| first | exact List.Mem.head _ | (refine List.Mem.tail _ ?_; walk_at "mem"))
local macro_rules | `(tactic| walk_at "hp") => `(tactic| first | assumption | exact Wo.get (by assumption) (by walk_at "mem") | exact Ho.get (by assumption) (by walk_at "mem") | exact upd_same)
local macro_rules | `(tactic| walk_at "seq") => `(tactic| first | assumption | exact SqL.of (by walk_at "hp") | exact SqT.of (by walk_at "hp"))
local macro_rules | `(tactic| walk_at "sqo") => `(tactic| first | assumption | exact .inl (by walk_at "seq") | exact .inr (by walk_at "seq"))
local macro_rules | `(tactic| walk_at "dp") => `(tactic| first | exact .int _ | exact .str _ | exact .bl _ | exact .non | exact .tup (SqT.of (by walk_at "hp")) (by walk_at "dps") | exact .lst (SqL.of (by walk_at "hp")) (by walk_at "dps"))
local macro_rules | `(tactic| walk_at "dps") => `(tactic| first | exact .nil | exact .cons (by walk_at "dp") (by walk_at "dps"))
local macro_rules | `(tactic| walk_at "shw") => `(tactic| first | exact Shw.int (by assumption) | exact Shw.int (by unfold showsI; decide) | exact Shw.tup (by walk_at "shwl") | exact Shw.lst (by walk_at "shwl") | exact Shw.bool _ | exact Shw.none | exact Shw.str (by decide +kernel) (Nat.le_refl _))
local macro_rules | `(tactic| walk_at "shwl") => `(tactic| first | exact ShwL.nil | exact ShwL.cons (by walk_at "shw") (by walk_at "shwl"))
local macro_rules | `(tactic| walk_at "sho") => `(tactic| first | assumption | (refine' Shw.ok ?shwa ?shwb ?shwc; (case shwa => walk_at "shw"); (case shwb => decide); (case shwc => decide)))
local macro_rules | `(tactic| walk_at "cls") => `(tactic| first | assumption | exact ChT.cl (by assumption) | exact RatT.cl (by assumption))
local macro_rules | `(tactic| walk_at "noat") => `(tactic| first | assumption | exact ChT.n1 (by assumption) | exact ChT.n2 (by assumption) | exact RatT.n1 (by assumption) | exact RatT.n2 (by assumption))
local macro_rules | `(tactic| walk_at "flk") => `(tactic| first | exact cf1 _ _ | exact cf2 _ _ | exact rf1 _ _ | exact rf2 _ _)
local macro_rules | `(tactic| walk_at "new") => `(tactic| first | refine Wo.nw (by assumption) fun _ _ _ _ => ?_ | refine Ho.nw (by assumption) fun _ _ _ _ => ?_)
local macro_rules | `(tactic| walk_at "kws") => `(tactic| first | exact wm (by assumption) (by assumption) | exact Nat.le_of_ble_eq_true rfl | exact szl (by omega) | walk_at "kbs")
local macro_rules | `(tactic| walk_at "kw1") => `(tactic| first
  | refine And.intro (show scal _ _ = true from rfl) ?_
  | refine ⟨_, rfl, ?_⟩
  | (refine ⟨_, _, rfl, rfl, ?_⟩; try refine And.intro (by walk_at "kws") ?_)
  | refine ⟨_, _, _, _, rfl, rfl, (by walk_at "seq"), rfl, ?_⟩
  | refine ⟨_, _, _, _, _, rfl, (by walk_at "hp"), (by walk_at "cls"), (by walk_at "noat"), (by walk_at "flk"), ?_⟩
  | refine ⟨_, _, rfl, (show SqL _ _ _ _ ∨ SqT _ _ _ _ from by walk_at "sqo"), ?_⟩
  | refine ⟨_, _, rfl, (show SqT _ _ _ _ from by walk_at "seq"), rfl, ?_⟩
  | refine ⟨_, _, rfl, (show Dp _ _ _ _ from by walk_at "dp"), (show ShOk _ from by walk_at "sho"), ?_⟩
  | refine ⟨_, _, (show Dp _ _ _ _ from by walk_at "dp"), (show Dp _ _ _ _ from by walk_at "dp"), (by first | rfl | decide +kernel), (by first | rfl | decide +kernel), ?_⟩
  | refine ⟨_, _, rfl, ?_⟩
  | refine And.intro (show _ ≤ 1000000 by walk_at "kws") ?_
  | walk_at "new"
  | refine And.intro (by walk_at "kws") ?_
  | refine And.intro ⟨_, rfl⟩ ?_
  | refine And.intro (show _ = some (some _) from rfl) ?_)
local macro_rules | `(tactic| walk_at "kw") => `(tactic| repeat (first | ((with_reducible refine iteNSI ?_ ?_); (with_reducible rfl)) | (with_reducible refine iteTI ?_) | (with_reducible refine iteFI ?_) | ((fail_if_success (with_reducible refine isIte ?_)); walk_at "kw1")))

local macro_rules | `(tactic| walk_at "kw1") => `(tactic| refine ⟨_, _, rfl, (show SqL _ _ _ _ from by walk_at "seq"), rfl, ?_⟩)
local macro_rules | `(tactic| walk_at "kw1") => `(tactic| ((refine' nrm_of ?nre ?nrg); (case nre => ((try simp only [L2.start, List.map, List.length_cons, List.length_nil, Nat.reduceAdd, Nat.reduceSub, Nat.zero_add, List.reduceReplicate, List.cons_append, List.nil_append, List.set_cons_succ, List.set_cons_zero]); exact rfl))))
local macro_rules | `(tactic| walk_at "nrm") => `(tactic| ((show ∀ sl : L2.St, _ = sl → _); (refine' nrm_of ?nre ?nrg); (case nre => ((try simp only [L2.start, List.map, List.length_cons, List.length_nil, Nat.reduceAdd, Nat.reduceSub, Nat.zero_add, List.reduceReplicate, List.cons_append, List.nil_append, List.set_cons_succ, List.set_cons_zero]); exact rfl))))

namespace Rt
theorem mk_ratH' {H : Hp} {C IR : Addr} {K : PySem.W.Frag} {R : Hp → Prop} {E : XK} {i j : Int} (hi : 1 ≤ i) (hj : 1 ≤ j) (bi : i.natAbs < 2 ^ 1000) (bj : j.natAbs < 2 ^ 1000) {x dx : Addr} (hx : H x = none) (hdx : H dx = none) (hne : dx ≠ x) (k : ∀ H', Same H H' → RatAt C H' x (i / (Int.gcd i j : Nat)) (j / (Int.gcd i j : Nat)) → R H') :
    sp_init C IR K (.ref x :: [.int i, .int j]) (upd (upd H dx (.own x)) x (.ins C dx [])) (fun v H2 => v = .non ∧ R H2) E := by
  have sm : Same H (upd (upd H dx (.own x)) x (.ins C dx [])) := (sm_new hdx).trans (sm_new (by rw [upd_ne (Ne.symm hne)]; exact hx))
  refine ⟨x, dx, _, _, rfl, .int _, .int _, upd_same, fun _ _ => ⟨_, _, rfl, rfl, bi, bj, fun H' k' ch => ⟨rfl, ?_⟩⟩, fun g => ?_⟩
  · exact k H' (fun a o e => k' a o (ne_of_none e hx) (sm a o e)) ch
  · have b1 : isLen (.int i) = true := decide_eq_true hi
    have b2 : isLen (.int j) = true := decide_eq_true hj
    rw [b1, b2] at g
    cases g
end Rt

/-! ## changes as four numbers -/
namespace Mx
structure Mt where
  a : Int
  b : Int
  c : Int
  d : Int
def Mt.mul (m n : Mt) : Mt := ⟨m.a * n.a + m.b * n.c, m.a * n.b + m.b * n.d, m.c * n.a + m.d * n.c, m.c * n.b + m.d * n.d⟩
def Mt.det (m : Mt) : Int := m.a * m.d - m.b * m.c
def Mt.one : Mt := ⟨1, 0, 0, 1⟩
def Mt.tl (m : Mt) : List V := [.int m.a, .int m.b, .int m.c, .int m.d]
theorem Mt.ext' {m n : Mt} (h1 : m.a = n.a) (h2 : m.b = n.b) (h3 : m.c = n.c) (h4 : m.d = n.d) : m = n := by cases m; cases n; simp_all
theorem Mt.det_mul (m n : Mt) : (m.mul n).det = m.det * n.det := by
  obtain ⟨a, b, c, d⟩ := m
  obtain ⟨e, f, g, h⟩ := n
  show (a * e + b * g) * (c * f + d * h) - (a * f + b * h) * (c * e + d * g) = (a * d - b * c) * (e * h - f * g)
  grind
theorem Mt.mul_assoc (m n k : Mt) : (m.mul n).mul k = m.mul (n.mul k) := by
  obtain ⟨a, b, c, d⟩ := m
  obtain ⟨e, f, g, h⟩ := n
  obtain ⟨i, j, p, q⟩ := k
  refine Mt.ext' ?_ ?_ ?_ ?_
  · show (a * e + b * g) * i + (a * f + b * h) * p = a * (e * i + f * p) + b * (g * i + h * p)
    grind
  · show (a * e + b * g) * j + (a * f + b * h) * q = a * (e * j + f * q) + b * (g * j + h * q)
    grind
  · show (c * e + d * g) * i + (c * f + d * h) * p = c * (e * i + f * p) + d * (g * i + h * p)
    grind
  · show (c * e + d * g) * j + (c * f + d * h) * q = c * (e * j + f * q) + d * (g * j + h * q)
    grind
theorem Mt.one_mul (m : Mt) : Mt.one.mul m = m := by
  obtain ⟨a, b, c, d⟩ := m
  refine Mt.ext' ?_ ?_ ?_ ?_
  · show 1 * a + 0 * c = a; omega
  · show 1 * b + 0 * d = b; omega
  · show 0 * a + 1 * c = c; omega
  · show 0 * b + 1 * d = d; omega
/-- none below 0, all below 2 ^ n -/
structure Mt.In (m : Mt) (n : Nat) : Prop where
  a0 : 0 ≤ m.a
  b0 : 0 ≤ m.b
  c0 : 0 ≤ m.c
  d0 : 0 ≤ m.d
  a1 : m.a < 2 ^ n
  b1 : m.b < 2 ^ n
  c1 : m.c < 2 ^ n
  d1 : m.d < 2 ^ n
theorem pw_mul {x y : Int} {i j : Nat} (hx : 0 ≤ x) (hy : 0 ≤ y) (h1 : x < 2 ^ i) (h2 : y < 2 ^ j) : x * y < 2 ^ (i + j) := by
  rw [Int.pow_add]
  have e : x * y ≤ x * 2 ^ j := Int.mul_le_mul_of_nonneg_left (Int.le_of_lt h2) hx
  have e2 : x * 2 ^ j < 2 ^ i * 2 ^ j := Int.mul_lt_mul_of_pos_right h1 (Int.pow_pos (by decide))
  exact Int.lt_of_le_of_lt e e2
theorem pw_sum {x y : Int} {i : Nat} (h1 : x < 2 ^ i) (h2 : y < 2 ^ i) : x + y < 2 ^ (i + 1) := by
  rw [Int.pow_succ]; omega
theorem Mt.In.mul {m n : Mt} {i j : Nat} (x : m.In i) (y : n.In j) : (m.mul n).In (i + j + 1) :=
  ⟨Int.add_nonneg (Int.mul_nonneg x.a0 y.a0) (Int.mul_nonneg x.b0 y.c0), Int.add_nonneg (Int.mul_nonneg x.a0 y.b0) (Int.mul_nonneg x.b0 y.d0),
   Int.add_nonneg (Int.mul_nonneg x.c0 y.a0) (Int.mul_nonneg x.d0 y.c0), Int.add_nonneg (Int.mul_nonneg x.c0 y.b0) (Int.mul_nonneg x.d0 y.d0),
   pw_sum (pw_mul x.a0 y.a0 x.a1 y.a1) (pw_mul x.b0 y.c0 x.b1 y.c1), pw_sum (pw_mul x.a0 y.b0 x.a1 y.b1) (pw_mul x.b0 y.d0 x.b1 y.d1),
   pw_sum (pw_mul x.c0 y.a0 x.c1 y.a1) (pw_mul x.d0 y.c0 x.d1 y.c1), pw_sum (pw_mul x.c0 y.b0 x.c1 y.b1) (pw_mul x.d0 y.d0 x.d1 y.d1)⟩
theorem pw_le {i j : Nat} (h : i ≤ j) : (2 : Int) ^ i ≤ 2 ^ j := by
  have := Nat.pow_le_pow_right (show 0 < 2 by decide) h
  exact_mod_cast this
theorem Mt.In.mono {m : Mt} {i j : Nat} (x : m.In i) (h : i ≤ j) : m.In j :=
  have e := pw_le h
  ⟨x.a0, x.b0, x.c0, x.d0, Int.lt_of_lt_of_le x.a1 e, Int.lt_of_lt_of_le x.b1 e, Int.lt_of_lt_of_le x.c1 e, Int.lt_of_lt_of_le x.d1 e⟩
theorem abs_lt {x : Int} {n : Nat} (h0 : 0 ≤ x) (h : x < 2 ^ n) : x.natAbs < 2 ^ n := by
  have e : ((x.natAbs : Nat) : Int) = x := by omega
  have : ((x.natAbs : Nat) : Int) < ((2 ^ n : Nat) : Int) := by rw [e]; exact_mod_cast h
  exact Int.ofNat_lt.mp this
theorem In1000 {m : Mt} (x : m.In 1000) : m.a.natAbs < 2 ^ 1000 ∧ m.b.natAbs < 2 ^ 1000 ∧ m.c.natAbs < 2 ^ 1000 ∧ m.d.natAbs < 2 ^ 1000 := ⟨abs_lt x.a0 x.a1, abs_lt x.b0 x.b1, abs_lt x.c0 x.c1, abs_lt x.d0 x.d1⟩
/-! ### powers -/
/-! ### words -/
def lt (x : Bool) : Mt := if x then ⟨1, 1, 0, 1⟩ else ⟨1, 0, 1, 1⟩
def wf (m : Mt) (u : List Bool) : Mt := u.foldl (fun m x => m.mul (lt x)) m
def wmx (u : List Bool) : Mt := wf Mt.one u
theorem wf_snoc (m : Mt) (u : List Bool) (x : Bool) : wf m (u ++ [x]) = (wf m u).mul (lt x) := by unfold wf; rw [List.foldl_append]; rfl
theorem wf_app : ∀ (u : List Bool) (m : Mt), (wf m u).a * 1 + (wf m u).b * 1 = m.a * (pr u).1 + m.b * (pr u).2 ∧ (wf m u).c * 1 + (wf m u).d * 1 = m.c * (pr u).1 + m.d * (pr u).2
  | [], m => ⟨rfl, rfl⟩
  | x :: u, m => by
    have h := wf_app u (m.mul (lt x))
    have e : wf m (x :: u) = wf (m.mul (lt x)) u := rfl
    rw [e, h.1, h.2]
    obtain ⟨a, b, c, d⟩ := m
    cases x
    · have p1 : ((pr (false :: u)).1 : Int) = (pr u).1 := rfl
      have p2 : ((pr (false :: u)).2 : Int) = (pr u).1 + (pr u).2 := by show (((pr u).1 + (pr u).2 : Nat) : Int) = _; omega
      rw [p1, p2]
      constructor
      · show (a * 1 + b * 1) * _ + (a * 0 + b * 1) * _ = _
        grind
      · show (c * 1 + d * 1) * _ + (c * 0 + d * 1) * _ = _
        grind
    · have p1 : ((pr (true :: u)).1 : Int) = (pr u).1 + (pr u).2 := by show (((pr u).1 + (pr u).2 : Nat) : Int) = _; omega
      have p2 : ((pr (true :: u)).2 : Int) = (pr u).2 := rfl
      rw [p1, p2]
      constructor
      · show (a * 1 + b * 0) * _ + (a * 1 + b * 1) * _ = _
        grind
      · show (c * 1 + d * 0) * _ + (c * 1 + d * 1) * _ = _
        grind
theorem wm_app (u : List Bool) : (wmx u).a + (wmx u).b = (pr u).1 ∧ (wmx u).c + (wmx u).d = (pr u).2 := by
  have h := wf_app u Mt.one
  have e1 : (Mt.one).a * ((pr u).1 : Int) + (Mt.one).b * (pr u).2 = (pr u).1 := by show 1 * _ + 0 * _ = _; omega
  have e2 : (Mt.one).c * ((pr u).1 : Int) + (Mt.one).d * (pr u).2 = (pr u).2 := by show 0 * _ + 1 * _ = _; omega
  rw [e1, e2] at h
  unfold wmx
  omega
theorem wf_det : ∀ (u : List Bool) (m : Mt), (wf m u).det = m.det
  | [], m => rfl
  | x :: u, m => by
    show (wf (m.mul (lt x)) u).det = _
    rw [wf_det u, Mt.det_mul]
    have : (lt x).det = 1 := by cases x <;> rfl
    rw [this, Int.mul_one]
theorem wm_det (u : List Bool) : (wmx u).det = 1 := wf_det u _
theorem lt_in (x : Bool) : 0 ≤ (lt x).a ∧ 0 ≤ (lt x).b ∧ 0 ≤ (lt x).c ∧ 0 ≤ (lt x).d := by cases x <;> decide
theorem wf_pos : ∀ (u : List Bool) (m : Mt), (0 ≤ m.a ∧ 0 ≤ m.b ∧ 0 ≤ m.c ∧ 0 ≤ m.d) → 0 ≤ (wf m u).a ∧ 0 ≤ (wf m u).b ∧ 0 ≤ (wf m u).c ∧ 0 ≤ (wf m u).d
  | [], m, h => h
  | x :: u, m, h => wf_pos u _ (by
    have l := lt_in x
    exact ⟨Int.add_nonneg (Int.mul_nonneg h.1 l.1) (Int.mul_nonneg h.2.1 l.2.2.1), Int.add_nonneg (Int.mul_nonneg h.1 l.2.1) (Int.mul_nonneg h.2.1 l.2.2.2), Int.add_nonneg (Int.mul_nonneg h.2.2.1 l.1) (Int.mul_nonneg h.2.2.2 l.2.2.1), Int.add_nonneg (Int.mul_nonneg h.2.2.1 l.2.1) (Int.mul_nonneg h.2.2.2 l.2.2.2)⟩)
theorem wm_in (u : List Bool) : (wmx u).In (u.length + 1) := by
  have p := wf_pos u Mt.one (by decide)
  have e := wm_app u
  have q := pr_le u
  have r := pr_pos u
  have h : ((pr u).1 : Int) + (pr u).2 ≤ 2 ^ (u.length + 1) := by exact_mod_cast q
  obtain ⟨p1, p2, p3, p4⟩ := (show 0 ≤ (wmx u).a ∧ 0 ≤ (wmx u).b ∧ 0 ≤ (wmx u).c ∧ 0 ≤ (wmx u).d from p)
  exact ⟨p1, p2, p3, p4, by omega, by omega, by omega, by omega⟩
theorem mul_l (m : Mt) : (m.mul (lt false)).tl = [.int (m.a + m.b), .int m.b, .int (m.c + m.d), .int m.d] := by
  have e : m.mul (lt false) = ⟨m.a + m.b, m.b, m.c + m.d, m.d⟩ := by
    refine Mt.ext' ?_ ?_ ?_ ?_
    · show m.a * 1 + m.b * 1 = m.a + m.b; omega
    · show m.a * 0 + m.b * 1 = m.b; omega
    · show m.c * 1 + m.d * 1 = m.c + m.d; omega
    · show m.c * 0 + m.d * 1 = m.d; omega
  rw [e]; rfl
theorem mul_r (m : Mt) : (m.mul (lt true)).tl = [.int m.a, .int (m.a + m.b), .int m.c, .int (m.c + m.d)] := by
  have e : m.mul (lt true) = ⟨m.a, m.a + m.b, m.c, m.c + m.d⟩ := by
    refine Mt.ext' ?_ ?_ ?_ ?_
    · show m.a * 1 + m.b * 0 = m.a; omega
    · show m.a * 1 + m.b * 1 = m.a + m.b; omega
    · show m.c * 1 + m.d * 0 = m.c; omega
    · show m.c * 1 + m.d * 1 = m.c + m.d; omega
  rw [e]; rfl
end Mx
open Mx

/-! ## changes: products, powers, of words -/
namespace Cm
structure GT (K : PySem.W.Frag) (mg : Str → Option Value) (x : Str) (vs : List V) : Prop where
  ex : ∃ a, mg x = some (.ref a) ∧ ∀ H, SqT K H a vs
theorem gt_of {K : PySem.W.Frag} {mg : Str → Option Value} {x : Str} {vs : List V} {a : Addr} {o : Obj} {its : Array Value} {n : Nat} (h : mg x = some (.ref a)) (l : K.lookup a = some o) (c : o.cls = .type "tuple") (d : o.data = .seq its n) (z : its.size ≤ sizeLine) (v : Vals vs its.toList) : GT K mg x vs :=
  ⟨a, h, fun _ => .inr ⟨o, its, n, l, c, d, z, v⟩⟩
def ChM (CC : Addr) (H : Hp) (p : Addr) (m : Mt) : Prop := ChAt CC H p m.a m.b m.c m.d
theorem ChM.same {C : Addr} {H H' : Hp} {p : Addr} {m : Mt} (x : ChM C H p m) (s : Same H H') : ChM C H' p m := ChAt.same x s
theorem mk_chH {H : Hp} {CC IC : Addr} {K : PySem.W.Frag} {R : Hp → Prop} {E : XK} (m : Mt) (hm : m.In 1000) (hd : m.det ≠ 0) {x dx : Addr} (hx : H x = none) (hdx : H dx = none) (hne : dx ≠ x) (k : ∀ H', Same H H' → ChM CC H' x m → R H') :
    sp_chinit CC IC K (.ref x :: [.int m.a, .int m.b, .int m.c, .int m.d]) (upd (upd H dx (.own x)) x (.ins CC dx [])) (fun v H2 => v = .non ∧ R H2) E := by
  have sm : Same H (upd (upd H dx (.own x)) x (.ins CC dx [])) := (sm_new hdx).trans (sm_new (by rw [upd_ne (Ne.symm hne)]; exact hx))
  have hn : m.a * m.d ≠ m.b * m.c := fun e => hd (by unfold Mt.det; omega)
  have nat : nats (.int m.a) (.int m.b) (.int m.c) (.int m.d) = true := by
    have e : ∀ i : Int, 0 ≤ i → isNat (.int i) = true := fun i h => decide_eq_true h
    unfold nats
    rw [e _ hm.a0, e _ hm.b0, e _ hm.c0, e _ hm.d0]; rfl
  refine ⟨x, dx, _, _, _, _, rfl, ⟨.int _, .int _, .int _, .int _⟩, upd_same, fun _ => ⟨_, _, _, _, rfl, rfl, rfl, rfl, In1000 hm, fun _ H' k' ch => ⟨rfl, ?_⟩, fun e => absurd e hn⟩, fun g => by rw [nat] at g; cases g⟩
  exact k H' (fun a o e => k' a o (ne_of_none e hx) (sm a o e)) ch
theorem mk_ch {H : Hp} {CC IC : Addr} {K : PySem.W.Frag} {Q : VK} {E : XK} (m : Mt) (hm : m.In 1000) (hd : m.det ≠ 0) (k : ∀ r H', H r = none → Same H H' → ChM CC H' r m → Q (.ref r) H') (x dx : Addr) (hx : H x = none) (hdx : H dx = none) (hne : dx ≠ x) :
    sp_chinit CC IC K (.ref x :: [.int m.a, .int m.b, .int m.c, .int m.d]) (upd (upd H dx (.own x)) x (.ins CC dx [])) (fun v H2 => v = .non ∧ Q (.ref x) H2) E := mk_chH m hm hd hx hdx hne fun H' s c => k x H' hx s c
theorem Wo.ch {B r CC : Addr} {H0 H H' : Hp} {L : List (Addr × HO)} {m : Mt} (w : Wo B H0 H L) (s : Same H H') (c : ChM CC H' r m) : ∃ dx q, Wo B H0 H' ((r, .ins CC dx (cf q m.det)) :: (q, .tup m.tl) :: L) := by
  obtain ⟨dx, q, h1, h2⟩ := c
  exact ⟨dx, q, ((w.same s).tup h2).insA h1⟩
def sp_nb (K : PySem.W.Frag) : Sp := fun vs H Q _ => ∃ (q : Addr) (m : Mt) (x : Bool), vs = [.ref q, .str (enc [x])] ∧ SqT K H q m.tl ∧ New H (.tup (m.mul (lt x)).tl) Q
def sp_now (K : PySem.W.Frag) : Sp := fun vs H Q _ => ∃ u : List Bool, vs = [.str (enc u)] ∧ u.length ≤ 900 ∧ ∀ p H', Same H H' → SqT K H' p (wmx u).tl → Q (.ref p) H'
def sp_chw (CC IW : Addr) (K : PySem.W.Frag) : Sp := fun vs H Q E => ∃ x, vs = [.ref CC, x] ∧ Kd K H x ∧ (∀ z, x = .str z → z.length ≤ 900) ∧ (∀ u, x = .str (enc u) → ∀ r H', H r = none → Same H H' → ChM CC H' r (wmx u) → Q (.ref r) H') ∧ (goodW x = false → ∀ H', Same H H' → E (.ref IW) none H')
theorem enc_l {x : Bool} (h : decide (V.str (enc [x]) = V.str ("l" : Str)) = true) : x = false := by
  have e := V.str.inj (of_decide_eq_true h)
  rw [lit_l] at e
  exact (List.cons.inj (enc_inj e)).1
theorem enc_r {x : Bool} (h : ¬ decide (V.str (enc [x]) = V.str ("l" : Str)) = true) : x = true := by
  cases x with
  | true => rfl
  | false => exact absurd (decide_eq_true (congrArg V.str lit_l.symm)) h
theorem at_word {u : List Bool} {i c : Nat} (h : (enc u).cps[i]? = some c) : ∃ b, u[i]? = some b ∧ V.str ⟨#[c]⟩ = V.str (enc [b]) := by
  obtain ⟨b, hb, rfl⟩ := enc_at h
  exact ⟨b, hb, rfl⟩
theorem wmx_take {u : List Bool} {i : Nat} {b : Bool} (h : u[i]? = some b) : wmx (u.take (i + 1)) = (wmx (u.take i)).mul (lt b) := by
  rw [List.take_succ, h]
  exact wf_snoc _ _ _
end Cm
open Cm
section
variable {P : Program} {w : World} {K : PySem.W.Frag} {mg : Str → Option Value} {base : Heap}
theorem ok_nb {f : Addr} {fd : FuncData} (F : Fun K "numbers_behind" "numbers_behind" S_numbers_behind f fd) (T : Txt K mg) : FnOk P w K mg base CX0 1 f fd ["numbers", "letter"] (sp_nb K) := by
  refine F.ok SC_numbers_behind (fun vs H Q E h => ?_) (fun cdv A outer s H vs Q E hr h => ?_)
  · obtain ⟨q, m, x, rfl, _⟩ := h
    rfl
  · obtain ⟨q, m, x, rfl, hq, k⟩ := h
    refine ⟨_, (pss_cons (ps_asg (pv 0) (pg_tup rfl (pgs_cons (pg_name (i := 2) SC_numbers_behind.nd rfl (.inl rfl)) (pgs_cons (pg_name (i := 3) SC_numbers_behind.nd rfl (.inl rfl)) (pgs_cons (pg_name (i := 4) SC_numbers_behind.nd rfl (.inl rfl)) (pgs_cons (pg_name (i := 5) SC_numbers_behind.nd rfl (.inl rfl)) pgs_nil))))))
      (pss_one (ps_ret (pe_ifExp (pt_cmpR op_eq (pv 1) pe_str (nomark _)) (pe_tupN (pa_cons (pe_op op_add (pv 2) (pv 3)) (pa_cons (pv 3) (pa_cons (pe_op op_add (pv 4) (pv 5)) (pa_cons (pv 5) pa_nil))))) (pe_tupN (pa_cons (pv 2) (pa_cons (pe_op op_add (pv 2) (pv 3)) (pa_cons (pv 4) (pa_cons (pe_op op_add (pv 4) (pv 5)) pa_nil))))))))), ?_⟩
    walk_at "kw"
    refine ite2 (fun h => ?_) (fun h => ?_)
    · cases enc_l h
      rw [mul_l] at k
      walk_at "kw"
      exact k
    · cases enc_r h
      rw [mul_r] at k
      walk_at "kw"
      exact k
theorem ok_now {f : Addr} {fd : FuncData} (F : Fun K "numbers_of_word" "numbers_of_word" S_numbers_of_word f fd) (T : Txt K mg) (G_SAME : GT K mg "SAME" Mt.one.tl) (C_nb : FnC P w K mg base CX0 1 "numbers_behind" ["numbers", "letter"] (sp_nb K)) : FnOk P w K mg base CX0 2 f fd ["word"] (sp_now K) := by
  refine F.ok SC_numbers_of_word (fun vs H Q E h => ?_) (fun cdv A outer s H vs Q E hr h => ?_)
  · obtain ⟨u, rfl, _⟩ := h
    rfl
  · obtain ⟨u, rfl, hu, k⟩ := h
    obtain ⟨aS, mS, sS⟩ := G_SAME.ex
    refine ⟨_, (pss_cons (ps_set (i := 1) SC_numbers_of_word.nd rfl (.inl rfl) (pe_glob (v := .ref aS) (by rfl) mS rfl))
      (pss_cons (ps_for PassesOwn.never rfl (pi_str (pv 0)) (pg_name (i := 2) SC_numbers_of_word.nd rfl (.inl rfl)) (pss_one (ps_set (i := 1) SC_numbers_of_word.nd rfl (.inl rfl) (pe_callC C_nb hr rfl (pa_cons (pv 1) (pa_cons (pv 2) pa_nil))))))
      (pss_one (ps_ret (pv 1))))), ?_⟩
    have hz : (enc u).cps.size = u.length := enc_len u
    refine ⟨_, rfl, enc u, rfl, for_it (walk_str (z := enc u)) (fun i σ H' => Same H H' ∧ ∃ (p : Addr) (x : Option V), SqT K H' p (wmx (u.take i)).tl ∧ σ = [some (.str (enc u)), some (.ref p), x])
      ⟨Same.refl H, aS, none, sS H, rfl⟩ (fun _ _ _ _ _ => trivial) (fun i v σ H1 H2 hi hP hY => ?_) (fun σ H1 hP => ?_)⟩
    · obtain ⟨sm, p, x, hp, rfl⟩ := hP
      obtain ⟨rfl, c, hc, rfl⟩ := hY
      obtain ⟨b, hb, eb⟩ := at_word hc
      rw [eb]
      refine ⟨_, rfl, _, rfl, p, _, b, rfl, hp, fun r H' _ s hr' => ?_⟩
      exact ⟨sm.trans s, r, _, by rw [wmx_take hb]; exact SqT.of hr', rfl⟩
    · obtain ⟨sm, p, x, hp, rfl⟩ := hP
      rw [hz, List.take_of_length_le (Nat.le_refl _)] at hp
      exact ⟨_, rfl, k p H1 sm hp⟩
end

section
variable {P : Program} {w : World} {K : PySem.W.Frag} {mg : Str → Option Value} {base : Heap}
theorem ok_chw {f CC IC IW : Addr} {fd : FuncData} (F : Fun K "of_word" "Change.of_word" S_Change_of_word f fd) (T : Txt K mg) (C_need : FnC P w K mg base (L2.CX P w) 4 "need_word" ["value"] (sp_need IW K)) (C_now : FnC P w K mg base CX0 2 "numbers_of_word" ["word"] (sp_now K))
    (C_changeX : MkC P w K mg base (L2.CX P w) 4 CC "Change" ["self", "a", "b", "c", "d"] (sp_chinit CC IC K)) : FnOk P w K mg base (L2.CX P w) 6 f fd ["cls", "word"] (sp_chw CC IW K) := by
  refine F.okX SC_Change_of_word (fun vs H Q E h => ?_) (fun cdv A outer s H vs Q E hr h => ?_)
  · obtain ⟨x, rfl, _⟩ := h
    rfl
  · obtain ⟨x, rfl, kd, hz, ok, bad⟩ := h
    refine ⟨_, (pss_cons (ps_expr (pe_callSC C_need (hr.mono (by decide)) (takes_of rfl rfl rfl rfl) rfl (pa_cons (pv 1) pa_nil)))
      (pss_cons (ps_asg (pe_callC C_now (hr.mono (by decide)) rfl (pa_cons (pv 1) pa_nil)) (pg_tup rfl (pgs_cons (pg_name (i := 2) SC_Change_of_word.nd rfl (.inl rfl)) (pgs_cons (pg_name (i := 3) SC_Change_of_word.nd rfl (.inl rfl)) (pgs_cons (pg_name (i := 4) SC_Change_of_word.nd rfl (.inl rfl)) (pgs_cons (pg_name (i := 5) SC_Change_of_word.nd rfl (.inl rfl)) pgs_nil))))))
      (pss_one (ps_ret (pe_makeL (i := 0) C_changeX (hr.mono (by decide)) (takes_of rfl rfl rfl rfl) rfl (.inl rfl) (pa_cons (pv 2) (pa_cons (pv 3) (pa_cons (pv 4) (pa_cons (pv 5) pa_nil))))))))), ?_⟩
    refine ⟨_, rfl, x, rfl, kd, fun z e => Nat.le_trans (hz z e) (by decide), fun g H1 sm1 => ?_, fun g H1 sm1 => bad g H1 sm1⟩
    obtain ⟨u, rfl⟩ : ∃ u, x = .str (enc u) := by
      cases x with
      | str z => obtain ⟨u, rfl⟩ := good_is g; exact ⟨u, rfl⟩
      | _ => cases g
    have hu : u.length ≤ 900 := by have := hz _ rfl; rwa [enc_len] at this
    refine ⟨_, rfl, u, rfl, hu, fun p H2 s2 hp => ?_⟩
    refine ⟨p, _, rfl, hp, rfl, ?_⟩
    walk_at "kw"
    exact mk_ch (wmx u) ((wm_in u).mono (by omega)) (by rw [wm_det]; decide) fun r H' hn s c => ok u rfl r H' ((sm1.trans s2).free hn) ((sm1.trans s2).trans s) c
end

/-! ## how great ints are -/
theorem pe_never {X : Cx} {e : Expr} : PE X e (fun _ _ _ => False) := ⟨fun _ _ _ _ _ _ h => h.elim⟩
namespace Ro
theorem lcR_tp {K : PySem.W.Frag} {a : Addr} {xs : List V} {g : TG} {te : TE} {vs : List Nat} {σ : L2.St} {H1 : Hp} {D : Addr} {Qd : Hp → Prop} (M : Nat → Hp → Prop) (h0 : M 0 (upd H1 D (.lst []))) (hl : ∀ i H, i ≤ xs.length → M i H → SqT K H a xs)
    (hs : ∀ i x H, xs[i]? = some x → M i H → g x (wipe σ vs) H fun σ2 H2 => wipe σ2 vs = wipe σ vs ∧ te σ2 H2 fun y H4 => ∃ acc, H4 D = some (.lst acc) ∧ acc.length < sizeLine ∧ M (i + 1) (upd H4 D (.lst (acc ++ [y]))))
    (hm : ∀ x σ H Q Q', (∀ σ2 H2, Q σ2 H2 → Q' σ2 H2) → g x σ H Q → g x σ H Q') (hd : ∀ H, M xs.length H → Qd H) : LcR (Itt K a) g tYes te vs σ H1 D Qd :=
  lc_it walk_tup M h0 hl (fun i x H H' hi m y => by
    obtain ⟨e, hx⟩ := y
    subst e
    exact hm _ _ _ _ _ (fun σ2 H2 z => ⟨z.1, ifT (B := M (i + 1) H2) rfl z.2⟩) (hs i x _ hx m)) hd
def Bd (n : Nat) (i : Int) : Prop := i.natAbs < 2 ^ n
theorem Bd.mono {n m : Nat} {i : Int} (h : Bd n i) (e : n ≤ m) : Bd m i := Nat.lt_of_lt_of_le h (Nat.pow_le_pow_right (by decide) e)
theorem Bd.lit {i : Int} (h : decide (i.natAbs < 18446744073709551616) = true) : Bd 64 i := Nat.lt_of_lt_of_le (of_decide_eq_true (p := i.natAbs < 18446744073709551616) h) (by decide)
theorem Bd.mul {n m : Nat} {i j : Int} (h : Bd n i) (g : Bd m j) : Bd (n + m) (i * j) := by
  unfold Bd at *
  rw [Int.natAbs_mul, Nat.pow_add]
  exact Nat.mul_lt_mul'' h g
theorem two_max (n m : Nat) : 2 ^ n + 2 ^ m ≤ 2 ^ (max n m + 1) := by
  have h1 : 2 ^ n ≤ 2 ^ max n m := Nat.pow_le_pow_right (by decide) (Nat.le_max_left ..)
  have h2 : 2 ^ m ≤ 2 ^ max n m := Nat.pow_le_pow_right (by decide) (Nat.le_max_right ..)
  rw [Nat.pow_succ]
  omega
theorem Bd.add {n m : Nat} {i j : Int} (h : Bd n i) (g : Bd m j) : Bd (max n m + 1) (i + j) := by
  have := two_max n m
  unfold Bd at *
  generalize 2 ^ n = a at *
  generalize 2 ^ m = b at *
  omega
theorem Bd.sub {n m : Nat} {i j : Int} (h : Bd n i) (g : Bd m j) : Bd (max n m + 1) (i - j) := by
  have := two_max n m
  unfold Bd at *
  generalize 2 ^ n = a at *
  generalize 2 ^ m = b at *
  omega
theorem Bd.neg {n : Nat} {i : Int} (h : Bd n i) : Bd n (-i) := by unfold Bd at *; omega
theorem Bd.gcd {n m : Nat} {i j : Int} (h : Bd n i) (g : Bd m j) : Bd (max n m) ((Int.gcd i j : Nat) : Int) := by
  unfold Bd at *
  rw [Int.natAbs_natCast]
  have h1 : 2 ^ n ≤ 2 ^ max n m := Nat.pow_le_pow_right (by decide) (Nat.le_max_left ..)
  have h2 : 2 ^ m ≤ 2 ^ max n m := Nat.pow_le_pow_right (by decide) (Nat.le_max_right ..)
  by_cases hi : i = 0
  · subst hi
    rw [Int.gcd_zero_left]
    omega
  · have : Int.gcd i j ≤ i.natAbs := Int.gcd_le_natAbs_left _ (by omega)
    omega
theorem Bd.div {n : Nat} {i : Int} (j : Int) (h : Bd n i) : Bd n (i / j) := by
  unfold Bd at *
  exact Nat.lt_of_le_of_lt (Int.natAbs_ediv_le_natAbs _ _) h
theorem Bd.fdiv {n : Nat} {i : Int} (j : Int) (h : Bd n i) : Bd (n + 1) (Int.fdiv i j) := by
  have e := two_max n 0
  have : (Int.fdiv i j).natAbs ≤ i.natAbs + 1 := by
    rw [Int.fdiv_eq_ediv]
    have := Int.natAbs_ediv_le_natAbs i j
    split <;> omega
  unfold Bd at *
  rw [Nat.max_zero] at e
  generalize 2 ^ n = a at *
  generalize 2 ^ (n + 1) = b at *
  omega
theorem Bd.cm {n m : Nat} {i j : Int} (h : Bd n i) (g : Bd m j) (e : n + m ≤ 900000) : CMulW i j := wide_mul (h.mono (Nat.le_succ n)) (g.mono (Nat.le_succ m)) (Nat.succ_pos _) (Nat.succ_pos _) (by omega)
theorem Bd.lg {n : Nat} {j : Int} (g : Bd n j) (e : n ≤ 8999) : j.natAbs.log2 < 9000 := Nat.lt_of_lt_of_le (PySem.Flt.log2_lt_of (Nat.succ_pos n) (g.mono (Nat.le_succ n))) (by omega)
theorem Bd.cd {n : Nat} {i j : Int} (p : 0 < j) (g : Bd n j) (e : n ≤ 8999) : CDivW i j := ⟨p, g.lg e⟩
def CDivG (_ j : Int) : Prop := j ≠ 0 ∧ j.natAbs.log2 < 9000
theorem Bd.cg {n : Nat} {i j : Int} (p : j ≠ 0) (g : Bd n j) (e : n ≤ 8999) : CDivG i j := ⟨p, g.lg e⟩
theorem op_fdivG {X : Cx} : OpR X (binaryOp .FloorDiv) (rI CDivG fun i j => .int (Int.fdiv i j)) := opI fun i j _ _ _ _ _ hc q => floordiv_int hc.1 q (.inl (PyProof.noPylong_of_log2 hc.2))
/-- the sign of a number, as programs tell it -/
def sg (i : Int) : Int := (if decide (0 < i) = true then 1 else 0) - (if decide (i < 0) = true then 1 else 0)
theorem sg_p {i : Int} (h : 0 < i) : sg i = 1 := by unfold sg; simp [h]; omega
theorem sg_n {i : Int} (h : i < 0) : sg i = -1 := by unfold sg; simp [h]; omega
theorem sg_z : sg 0 = 0 := rfl
theorem sg_c (i : Int) : (0 < i ∧ sg i = 1) ∨ (i = 0 ∧ sg i = 0) ∨ (i < 0 ∧ sg i = -1) := by
  rcases Int.lt_trichotomy i 0 with h | h | h
  · exact .inr (.inr ⟨h, sg_n h⟩)
  · subst h; exact .inr (.inl ⟨rfl, rfl⟩)
  · exact .inl ⟨h, sg_p h⟩
theorem Bd.sg (i : Int) : Bd 2 (sg i) := by
  unfold Bd
  rcases sg_c i with ⟨_, h⟩ | ⟨_, h⟩ | ⟨_, h⟩ <;> rw [h] <;> decide
theorem sg_mul (i j : Int) : sg (i * j) = sg i * sg j := by
  rcases sg_c i with ⟨hi, h⟩ | ⟨hi, h⟩ | ⟨hi, h⟩ <;> rcases sg_c j with ⟨hj, g⟩ | ⟨hj, g⟩ | ⟨hj, g⟩ <;> rw [h, g]
  · exact sg_p (Int.mul_pos hi hj)
  · rw [hj, Int.mul_zero]; rfl
  · exact sg_n (Int.mul_neg_of_pos_of_neg hi hj)
  · rw [hi, Int.zero_mul]; rfl
  · rw [hi, Int.zero_mul]; rfl
  · rw [hi, Int.zero_mul]; rfl
  · exact sg_n (Int.mul_neg_of_neg_of_pos hi hj)
  · rw [hj, Int.mul_zero]; rfl
  · exact sg_p (Int.mul_pos_of_neg_of_neg hi hj)
/-- the sign of one + times * root of inner -/
def swr (a b c : Int) : Int := if sg a = sg b * sg c ∨ sg b * sg c = 0 then sg a else if sg a = 0 then sg b * sg c else sg a * sg (a * a - b * b * c)
theorem Bd.swr (a b c : Int) : Bd 4 (swr a b c) := by
  unfold Ro.swr
  split
  · exact (Bd.sg a).mono (by decide)
  · split
    · exact (Bd.sg b).mul (Bd.sg c)
    · exact (Bd.sg a).mul (Bd.sg _)
end Ro
open Ro

local macro_rules | `(tactic| walk_at "bd") => `(tactic| first | assumption | exact Bd.lit (by decide) | exact Bd.add (by walk_at "bd") (by walk_at "bd") | exact Bd.sub (by walk_at "bd") (by walk_at "bd") | exact Bd.mul (by walk_at "bd") (by walk_at "bd") | exact Bd.neg (by walk_at "bd") | exact Bd.sg _ | exact Bd.swr _ _ _ | exact Bd.gcd (by walk_at "bd") (by walk_at "bd") | exact Bd.div _ (by walk_at "bd") | exact Bd.fdiv _ (by walk_at "bd"))
local macro_rules | `(tactic| walk_at "kw1") => `(tactic| first
  | ((with_reducible refine And.intro (a := CMulW _ _) ?cw ?_); (case cw => exact Bd.cm (by walk_at "bd") (by walk_at "bd") (Nat.le_of_ble_eq_true rfl)))
  | ((with_reducible refine And.intro (a := CDivW _ _) ?cw ?_); (case cw => exact Bd.cd (by first | assumption | omega) (by walk_at "bd") (Nat.le_of_ble_eq_true rfl)))
  | ((with_reducible refine And.intro (a := CDivG _ _) ?cw ?_); (case cw => exact Bd.cg (by first | assumption | omega) (by walk_at "bd") (Nat.le_of_ble_eq_true rfl)))
  | ((refine ⟨_, _, _, rfl, (?cw : Bd _ _), ?_⟩); (case cw => exact Bd.mono (by walk_at "bd") (Nat.le_of_ble_eq_true rfl)))
  | ((refine ⟨_, _, _, _, rfl, (?cw : Bd _ _), ?_⟩); (case cw => exact Bd.mono (by walk_at "bd") (Nat.le_of_ble_eq_true rfl)))
  | ((with_reducible refine And.intro (a := Bd _ _) ?cw ?_); (case cw => exact Bd.mono (by walk_at "bd") (Nat.le_of_ble_eq_true rfl))))

/-! ## numbers with roots -/
namespace Ro
def sp_sign : Sp := fun vs H Q _ => ∃ i : Int, vs = [.int i] ∧ Q (.int (sg i)) H
def sp_com : Sp := fun vs H Q _ => ∃ i j : Int, vs = [.int i, .int j] ∧ Q (.int (Int.gcd i j)) H
def sp_wr : Sp := fun vs H Q _ => ∃ n : Int, vs = [.int n] ∧ 0 ≤ n ∧ Bd (400) n ∧ ∀ s : Int, 0 ≤ s → s * s ≤ n → n < (s + 1) * (s + 1) → Q (.int s) H
def sp_swr : Sp := fun vs H Q _ => ∃ a b c : Int, vs = [.int a, .int b, .int c] ∧ Bd 400 a ∧ Bd 400 b ∧ Bd 400 c ∧ Q (.int (swr a b c)) H
/-- the root of an equation, without a common factor -/
def lwf (a b c : Int) : Int := if a < 0 then 0 - (Int.gcd (Int.gcd a b) c : Int) else (Int.gcd (Int.gcd a b) c : Int)
def lwd (a b c s : Int) : List Int := [Int.fdiv a (lwf a b c), Int.fdiv b (lwf a b c), Int.fdiv c (lwf a b c), s]
def sp_low : Sp := fun vs H Q _ => ∃ a b c s : Int, vs = [.int a, .int b, .int c, .int s] ∧ a ≠ 0 ∧ Bd 800 a ∧ Bd 800 b ∧ Bd 800 c ∧ New H (.tup ((lwd a b c s).map V.int)) Q
def sp_inner (K : PySem.W.Frag) : Sp := fun vs H Q _ => ∃ (p : Addr) (a b c s : Int), vs = [.ref p] ∧ H p = some (.tup [.int a, .int b, .int c, .int s]) ∧ Bd 800 a ∧ Bd 800 b ∧ Bd 800 c ∧ Q (.int (b * b - 4 * a * c)) H
theorem lwf_ne {a b c : Int} (h : a ≠ 0) : lwf a b c ≠ 0 := by
  have g : Int.gcd a b ≠ 0 := fun e => h (Int.gcd_eq_zero_iff.mp e).1
  have g2 : Int.gcd (Int.gcd a b : Int) c ≠ 0 := fun e => by
    have := (Int.gcd_eq_zero_iff.mp e).1
    omega
  unfold lwf
  split <;> omega
theorem root_step {n x y t : Int} (hx : 1 ≤ x) (ht : t = n / x) (hy : y = (x + t) / 2) (hn : 0 ≤ n) : n < (y + 1) * (y + 1) := by
  have h1 : n < (t + 1) * x := by
    have := Int.lt_ediv_add_one_mul_self n (show 0 < x by omega)
    rw [← ht] at this
    exact this
  have h2 : x + t + 1 ≤ 2 * (y + 1) := by omega
  have t0 : 0 ≤ t := by rw [ht]; exact Int.ediv_nonneg hn (by omega)
  have h3 : (x + (t + 1)) * (x + (t + 1)) ≤ (2 * (y + 1)) * (2 * (y + 1)) := Int.mul_le_mul (by omega) (by omega) (by omega) (by omega)
  have h4 : 0 ≤ (x - (t + 1)) * (x - (t + 1)) := by
    rcases Int.le_total 0 (x - (t + 1)) with h | h
    · exact Int.mul_nonneg h h
    · exact Int.mul_nonneg_of_nonpos_of_nonpos h h
  have h5 : (x + (t + 1)) * (x + (t + 1)) = (x - (t + 1)) * (x - (t + 1)) + 4 * ((t + 1) * x) := by grind
  have h6 : (2 * (y + 1)) * (2 * (y + 1)) = 4 * ((y + 1) * (y + 1)) := by grind
  omega
end Ro
section
variable {P : Program} {w : World} {K : PySem.W.Frag} {mg : Str → Option Value} {base : Heap}
theorem ok_sign {f : Addr} {fd : FuncData} (F : Fun K "sign_of" "sign_of" S_sign_of f fd) (T : Txt K mg) : FnOk P w K mg base CX0 1 f fd ["number"] sp_sign := by
  refine F.ok SC_sign_of (fun vs H Q E h => ?_) (fun cdv A outer s H vs Q E hr h => ?_)
  · obtain ⟨i, rfl, _⟩ := h
    rfl
  · obtain ⟨i, rfl, q⟩ := h
    refine ⟨_, (pss_one (ps_ret (pe_op op_sub (pe_callTy call_intB (by rfl) T.b_int (by decide +kernel) (pa_cons (pe_cmpR op_gt (pv 0) pe_int (nomark _)) pa_nil)) (pe_callTy call_intB (by rfl) T.b_int (by decide +kernel) (pa_cons (pe_cmpR op_lt (pv 0) pe_int (nomark _)) pa_nil))))), ?_⟩
    walk_at "kw"
    exact q
theorem ok_com {f : Addr} {fd : FuncData} (F : Fun K "common" "common" S_common f fd) (T : Txt K mg) : FnOk P w K mg base CX0 1 f fd ["one", "other"] sp_com := by
  refine F.ok SC_common (fun vs H Q E h => ?_) (fun cdv A outer s H vs Q E hr h => ?_)
  · obtain ⟨i, j, rfl, _⟩ := h
    rfl
  · obtain ⟨i, j, rfl, q⟩ := h
    refine ⟨_, (pss_cons (ps_par (i := 0) (j := 1) (by rfl) SC_common.nd rfl rfl (by decide) rfl rfl (pa_cons (pe_callB call_abs (by rfl) T.b_abs (by decide +kernel) (pa_cons (pv 0) pa_nil)) (pa_cons (pe_callB call_abs (by rfl) T.b_abs (by decide +kernel) (pa_cons (pv 1) pa_nil)) pa_nil)) (by rfl))
      (pss_cons (ps_while PassesOwn.never (pt_cmpR op_ne (pv 1) pe_int (nomark _)) (pss_one (ps_par (i := 0) (j := 1) (by rfl) SC_common.nd rfl rfl (by decide) rfl rfl (pa_cons (pv 1) (pa_cons (pe_op op_mod (pe_callTy call_intI (by rfl) T.b_int (by decide +kernel) (pa_cons (pv 0) pa_nil)) (pv 1)) pa_nil)) (by rfl))))
      (pss_one (ps_ret (pv 0))))), ?_⟩
    walk_at "kw"
    refine while_by (fun σ H' => H' = H ∧ ∃ x y : Int, 0 ≤ x ∧ 0 ≤ y ∧ Int.gcd x y = Int.gcd i j ∧ σ = [some (.int x), some (.int y)]) (fun σ _ => match σ with | [_, some (.int y)] => y.toNat | _ => 0)
      ⟨rfl, _, _, by omega, by omega, by show Nat.gcd _ _ = Nat.gcd _ _; congr 1 <;> split <;> omega, rfl⟩ (fun σ H1 hP => ?_) (fun σ H Q Q' h q => ?_)
    · obtain ⟨rfl, x, y, hx, hy, hg, rfl⟩ := hP
      walk_at "kw"
      refine ite2 (fun h => ?_) (fun h => ?_)
      · have hy0 : 0 < y := by
          have : y ≠ 0 := fun e => by subst e; exact absurd h (by decide)
          omega
        walk_at "kw"
        refine ⟨⟨rfl, y, x % y, by omega, Int.emod_nonneg _ (by omega), ?_, rfl⟩, ?_⟩
        · rw [← hg]; exact gcd_step hx hy
        · show (x % y).toNat < y.toNat
          have := Int.emod_lt_of_pos x hy0
          omega
      · have hy0 : y = 0 := by
          have : decide (V.int y = V.int 0) = true := by simpa using h
          exact V.int.inj (of_decide_eq_true this)
        subst hy0
        refine ⟨_, rfl, ?_⟩
        have e : x = ((Int.gcd i j : Nat) : Int) := by rw [← hg, Int.gcd_zero_right]; omega
        rw [e]
        exact q
    · obtain ⟨v, h1, e, v2, e2, q⟩ := q
      exact ⟨v, h1, e, v2, e2, h _ _ q⟩
--@wr
theorem ok_wr {f : Addr} {fd : FuncData} (F : Fun K "whole_root" "whole_root" S_whole_root f fd) (T : Txt K mg) : FnOk P w K mg base CX0 1 f fd ["number"] sp_wr := by
  refine F.ok SC_whole_root (fun vs H Q E h => ?_) (fun cdv A outer s H vs Q E hr h => ?_)
  · obtain ⟨n, rfl, _⟩ := h
    rfl
  · obtain ⟨n, rfl, n0, bn, q⟩ := h
    refine ⟨_, (pss_cons (ps_if (pt_cmpR op_lt (pv 0) pe_int (nomark _)) (pss_one (ps_ret (pv 0))) pss_nil)
      (pss_cons (ps_set (i := 1) SC_whole_root.nd rfl (.inl rfl) (pv 0))
      (pss_cons (ps_set (i := 2) SC_whole_root.nd rfl (.inl rfl) (pe_op op_fdivW (pe_op op_add (pv 1) pe_int) pe_int))
      (pss_cons (ps_while PassesOwn.never (pt_cmpR op_lt (pv 2) (pv 1) (nomark _)) (pss_cons (ps_set (i := 1) SC_whole_root.nd rfl (.inl rfl) (pv 2))
      (pss_one (ps_set (i := 2) SC_whole_root.nd rfl (.inl rfl) (pe_op op_fdivW (pe_op op_add (pv 1) (pe_op op_fdivW (pv 0) (pv 1))) pe_int)))))
      (pss_one (ps_ret (pv 1))))))), ?_⟩
    walk_at "kw"
    refine ite2 (fun h => ?_) (fun h => ?_)
    · have h2 : n < 2 := of_decide_eq_true h
      refine ⟨_, rfl, ?_⟩
      have : n = 0 ∨ n = 1 := by omega
      rcases this with rfl | rfl
      · exact q 0 (by decide) (by decide) (by decide)
      · exact q 1 (by decide) (by decide) (by decide)
    have h2 : 2 ≤ n := by have : ¬ n < 2 := fun z => h (decide_eq_true z)
                          omega
    walk_at "kw"
    refine while_by (fun σ H' => H' = H ∧ ∃ x : Int, 1 ≤ x ∧ x ≤ n ∧ n < (x + 1) * (x + 1) ∧ σ = [some (.int n), some (.int x), some (.int ((x + n / x) / 2))]) (fun σ _ => match σ with | [_, some (.int x), _] => x.toNat | _ => 0)
      ⟨rfl, n, by omega, by omega, ?_, ?_⟩ (fun σ H1 hP => ?_) (fun σ H Q Q' h q => ?_)
    · have : n * 1 ≤ n * n := Int.mul_le_mul_of_nonneg_left (by omega) (by omega)
      have e : (n + 1) * (n + 1) = n * n + 2 * n + 1 := by grind
      omega
    · rw [Int.ediv_self (by omega)]; rfl
    · obtain ⟨rfl, x, x1, xn, hx, rfl⟩ := hP
      have bx : Bd (400) x := by unfold Bd at bn ⊢; generalize 2 ^ 400 = z at bn ⊢; omega
      walk_at "kw"
      refine ite2 (fun h => ?_) (fun h => ?_)
      · have hlt : (x + n / x) / 2 < x := of_decide_eq_true h
        have q0 : 0 ≤ n / x := Int.ediv_nonneg n0 (by omega)
        have hy1 : 1 ≤ (x + n / x) / 2 := by
          have : 1 ≤ n / x := (Int.le_ediv_iff_mul_le (by omega)).mpr (by omega)
          omega
        have by_ : Bd (400) ((x + n / x) / 2) := by unfold Bd at bx ⊢; generalize 2 ^ 400 = z at bx ⊢; omega
        have st := root_step (n := n) x1 rfl rfl n0
        walk_at "kw"
        refine ⟨⟨rfl, _, hy1, by omega, st, rfl⟩, ?_⟩
        show ((x + n / x) / 2).toNat < x.toNat
        omega
      · have hge : ¬ (x + n / x) / 2 < x := fun z => h (decide_eq_true z)
        walk_at "kw"
        refine q x (by omega) ?_ hx
        have : x ≤ n / x := by omega
        exact (Int.le_ediv_iff_mul_le (by omega)).mp this
    · obtain ⟨v, h1, v2, h2, i, j, e1, e2, k, e3, q⟩ := q
      exact ⟨v, h1, v2, h2, i, j, e1, e2, k, e3, h _ _ q⟩
--@*
theorem ok_swr {f : Addr} {fd : FuncData} (F : Fun K "sign_with_root" "sign_with_root" S_sign_with_root f fd) (T : Txt K mg) (C_sign : FnC P w K mg base CX0 1 "sign_of" ["number"] sp_sign) : FnOk P w K mg base CX0 2 f fd ["one", "times", "inner"] sp_swr := by
  refine F.ok SC_sign_with_root (fun vs H Q E h => ?_) (fun cdv A outer s H vs Q E hr h => ?_)
  · obtain ⟨a, b, c, rfl, _⟩ := h
    rfl
  · obtain ⟨a, b, c, rfl, ba, bb, bc, q⟩ := h
    refine ⟨_, (pss_cons (ps_par (i := 3) (j := 4) (by rfl) SC_sign_with_root.nd rfl rfl (by decide) rfl rfl (pa_cons (pe_callC C_sign (hr.mono (by decide)) rfl (pa_cons (pv 0) pa_nil)) (pa_cons (pe_op op_mulW (pe_callC C_sign (hr.mono (by decide)) rfl (pa_cons (pv 1) pa_nil)) (pe_callC C_sign (hr.mono (by decide)) rfl (pa_cons (pv 2) pa_nil))) pa_nil)) (by rfl))
      (pss_cons (ps_if (PW.pt (pw_or (pt_cmpR op_eq (pv 3) (pv 4) (nomark _)) (pw_or1 (pt_cmpR op_eq (pv 4) pe_int (nomark _))))) (pss_one (ps_ret (pv 3))) pss_nil)
      (pss_cons (ps_if (pt_cmpR op_eq (pv 3) pe_int (nomark _)) (pss_one (ps_ret (pv 4))) pss_nil)
      (pss_one (ps_ret (pe_op op_mulW (pv 3) (pe_callC C_sign (hr.mono (by decide)) rfl (pa_cons (pe_op op_sub (pe_op op_mulW (pv 0) (pv 0)) (pe_op op_mulW (pe_op op_mulW (pv 1) (pv 1)) (pv 2))) pa_nil)))))))), ?_⟩
    unfold swr at q
    walk_at "kw"
    refine ite2 (fun h => ?_) (fun h => ?_)
    · rw [if_pos (.inl (V.int.inj (of_decide_eq_true h)))] at q
      exact ⟨_, rfl, q⟩
    have n1 : ¬ sg a = sg b * sg c := fun e => h (decide_eq_true (congrArg V.int e))
    walk_at "kw"
    refine ite2 (fun h => ?_) (fun h => ?_)
    · rw [if_pos (.inr (V.int.inj (of_decide_eq_true h)))] at q
      exact ⟨_, rfl, q⟩
    have n2 : ¬ sg b * sg c = 0 := fun e => h (decide_eq_true (congrArg V.int e))
    rw [if_neg (fun z => z.elim n1 n2)] at q
    walk_at "kw"
    refine ite2 (fun h => ?_) (fun h => ?_)
    · rw [if_pos (V.int.inj (of_decide_eq_true h))] at q
      exact ⟨_, rfl, q⟩
    rw [if_neg (fun e => h (decide_eq_true (congrArg V.int e)))] at q
    walk_at "kw"
    exact q
theorem ok_low {f : Addr} {fd : FuncData} (F : Fun K "lowered" "lowered" S_lowered f fd) (T : Txt K mg) (C_com : FnC P w K mg base CX0 1 "common" ["one", "other"] sp_com) : FnOk P w K mg base CX0 2 f fd ["a", "b", "c", "side"] sp_low := by
  refine F.ok SC_lowered (fun vs H Q E h => ?_) (fun cdv A outer s H vs Q E hr h => ?_)
  · obtain ⟨a, b, c, s, rfl, _⟩ := h
    rfl
  · obtain ⟨a, b, c, s, rfl, a0, ba, bb, bc, q⟩ := h
    refine ⟨_, (pss_cons (ps_set (i := 4) SC_lowered.nd rfl (.inl rfl) (pe_callC C_com hr rfl (pa_cons (pe_callC C_com hr rfl (pa_cons (pv 0) (pa_cons (pv 1) pa_nil))) (pa_cons (pv 2) pa_nil))))
      (pss_mid (ps_if (pt_cmpR op_lt (pv 0) pe_int (nomark _)) (pss_one (ps_set (i := 4) SC_lowered.nd rfl (.inl rfl) (pe_op op_sub pe_int (pv 4)))) pss_nil)
      (pss_one (ps_ret (pe_tupN (pa_cons (pe_op op_fdivG (pv 0) (pv 4)) (pa_cons (pe_op op_fdivG (pv 1) (pv 4)) (pa_cons (pe_op op_fdivG (pv 2) (pv 4)) (pa_cons (pv 3) pa_nil))))))))), ?_⟩
    have f0 := lwf_ne (b := b) (c := c) a0
    have bf : Bd 801 (lwf a b c) := by
      have g := Bd.gcd (Bd.gcd ba bb) bc
      unfold lwf
      split
      · exact (Bd.sub (Bd.lit (i := 0) (by decide)) g).mono (by decide)
      · exact g.mono (by decide)


    walk_at "kw"
    refine ⟨fun σ' H' => H' = H ∧ σ' = [some (.int a), some (.int b), some (.int c), some (.int s), some (.int (lwf a b c))], ?_, fun σ1 H1 z => ?_⟩
    · walk_at "kw"
      refine ite2 (fun h => ?_) (fun h => ?_)
      · have h' : a < 0 := of_decide_eq_true h
        walk_at "kw"
        exact ⟨rfl, by unfold lwf; rw [if_pos h']; rfl⟩
      · have h' : ¬ a < 0 := fun e => h (decide_eq_true e)
        exact ⟨rfl, by unfold lwf; rw [if_neg h']; rfl⟩
    obtain ⟨rfl, rfl⟩ := z
    walk_at "kw"
    exact q
theorem ok_inner {f : Addr} {fd : FuncData} (F : Fun K "inner_of" "inner_of" S_inner_of f fd) (T : Txt K mg) : FnOk P w K mg base CX0 1 f fd ["root"] (sp_inner K) := by
  refine F.ok SC_inner_of (fun vs H Q E h => ?_) (fun cdv A outer s H vs Q E hr h => ?_)
  · obtain ⟨p, a, b, c, s, rfl, _⟩ := h
    rfl
  · obtain ⟨p, a, b, c, s, rfl, hp, ba, bb, bc, q⟩ := h
    have W := (Ho.start H).call (Same.refl H) hp
    refine ⟨_, (pss_one (ps_ret (pe_op op_sub (pe_op op_mulW (pe_ix ix_tup (pv 0) pe_int (fun _ _ => rfl)) (pe_ix ix_tup (pv 0) pe_int (fun _ _ => rfl))) (pe_op op_mulW (pe_op op_mulW pe_int (pe_ix ix_tup (pv 0) pe_int (fun _ _ => rfl))) (pe_ix ix_tup (pv 0) pe_int (fun _ _ => rfl)))))), ?_⟩
    walk_at "kw"
    exact q
end

/-! ## edges -/
namespace Ed
structure EdgT (K : PySem.W.Frag) (mg : Str → Option Value) (C : Addr) : Prop where
  ins : C8.InsC K C
  n1 : NoAttr K C "place"
  n2 : NoAttr K C "numbers"
  mgC : mg "Edge" = some (.ref C)
  nf : PySem.W.notFirst K C (.ref C) = true
  ne : PySem.W.findIn K (.ref C) "__ne__" = some (some (.builtin "object.__ne__"))
  so : PySem.W.subIn K (.ref C) (.type "object") = some true
theorem EdgT.cl {K : PySem.W.Frag} {mg : Str → Option Value} {C : Addr} (T : EdgT K mg C) : Cls K C := T.ins.cl
theorem EdgT.ty {K : PySem.W.Frag} {mg : Str → Option Value} {C : Addr} (T : EdgT K mg C) {H : Hp} {p dx : Addr} {fs : List (Str × V)} (h : H p = some (.ins C dx fs)) : TyX K H (.ref p) (.ref C) := .base (.ins h T.ins.cl T.ins.ha T.ins.hn T.ins.htk T.ins.hm)
theorem n_ln : ¬ (("letters" : Str) = "numbers") := by decide +kernel
theorem n_lp : ¬ (("letters" : Str) = "place") := by decide +kernel
theorem n_pn : ¬ (("place" : Str) = "numbers") := by decide +kernel
def ef (p n : V) : List (Str × V) := putF "numbers" n (putF "place" p [])
def ef' (p n : V) : List (Str × V) := putF "numbers" n (putF "numbers" .non (putF "place" p []))
theorem ef1 (p n : V) : (ef p n).lookup ("place" : Str) = some p := by unfold ef; rw [lookup_putF, if_neg n_pn, lookup_putF, if_pos rfl]
theorem ef2 (p n : V) : (ef p n).lookup ("numbers" : Str) = some n := by unfold ef; rw [lookup_putF, if_pos rfl]
theorem ef1' (p n : V) : (ef' p n).lookup ("place" : Str) = some p := by unfold ef'; rw [lookup_putF, if_neg n_pn, lookup_putF, if_neg n_pn, lookup_putF, if_pos rfl]
theorem ef2' (p n : V) : (ef' p n).lookup ("numbers" : Str) = some n := by unfold ef'; rw [lookup_putF, if_pos rfl]
/-- the numbers of a place with a root -/
def nmr (a b c s : Int) : List Int := [0 - b, s, b * b - 4 * a * c, 2 * a]
def EdgeAt (CE : Addr) (H : Hp) (e : Addr) : List Int → Prop
  | [a, b] => ∃ (dx t : Addr) (fs : List (Str × V)), H e = some (.ins CE dx fs) ∧ fs.lookup ("place" : Str) = some (.ref t) ∧ (fs.lookup ("numbers" : Str) = some .non ∧ fs.lookup ("letters" : Str) = none) ∧ H t = some (.tup [.int a, .int b])
  | [a, b, c, s] => ∃ (dx t m : Addr) (fs : List (Str × V)), H e = some (.ins CE dx fs) ∧ fs.lookup ("place" : Str) = some (.ref t) ∧ (fs.lookup ("numbers" : Str) = some (.ref m) ∧ fs.lookup ("letters" : Str) = none) ∧ H t = some (.tup [.int a, .int b, .int c, .int s]) ∧ H m = some (.tup ((nmr a b c s).map V.int))
  | _ => False
theorem EdgeAt.at {CE : Addr} {H : Hp} {e : Addr} {pl : List Int} (h : EdgeAt CE H e pl) : ∃ (dx t : Addr) (fs : List (Str × V)), H e = some (.ins CE dx fs) ∧ fs.lookup ("place" : Str) = some (.ref t) ∧ H t = some (.tup (pl.map V.int)) := by
  unfold EdgeAt at h
  split at h
  · obtain ⟨dx, t, fs, h1, h2, _, h3⟩ := h
    exact ⟨dx, t, fs, h1, h2, h3⟩
  · obtain ⟨dx, t, m, fs, h1, h2, _, h3, _⟩ := h
    exact ⟨dx, t, fs, h1, h2, h3⟩
  · exact h.elim
theorem EdgeAt.same {CE : Addr} {H H' : Hp} {e : Addr} {pl : List Int} (h : EdgeAt CE H e pl) (s : Same H H') : EdgeAt CE H' e pl := by
  unfold EdgeAt at h ⊢
  split at h
  · obtain ⟨dx, t, fs, h1, h2, h2', h3⟩ := h
    exact ⟨dx, t, fs, s _ _ h1, h2, h2', s _ _ h3⟩
  · obtain ⟨dx, t, m, fs, h1, h2, h2', h3, h4⟩ := h
    exact ⟨dx, t, m, fs, s _ _ h1, h2, h2', s _ _ h3, s _ _ h4⟩
  · exact h.elim
/-- what an edge needs to stand in another heap: its box is none of its objects -/
theorem EdgeAt.keep {CE B : Addr} {H H' : Hp} {e : Addr} {pl : List Int} (h : EdgeAt CE H e pl) (hb : BoxAt H B) (k : Keep B H H') : EdgeAt CE H' e pl := by
  obtain ⟨c, sd, n, hB, _⟩ := hb
  have ne1 : ∀ {a C dx : Addr} {fs : List (Str × V)}, H a = some (.ins C dx fs) → H' a = some (.ins C dx fs) := fun {a C dx fs} q => k a _ (fun e => by rw [e, hB] at q; cases q) q
  have ne2 : ∀ {a : Addr} {xs : List V}, H a = some (.tup xs) → H' a = some (.tup xs) := fun {a xs} q => k a _ (fun e => by rw [e, hB] at q; cases q) q
  unfold EdgeAt at h ⊢
  split at h
  · obtain ⟨dx, t, fs, h1, h2, h2', h3⟩ := h
    exact ⟨dx, t, fs, ne1 h1, h2, h2', ne2 h3⟩
  · obtain ⟨dx, t, m, fs, h1, h2, h2', h3, h4⟩ := h
    exact ⟨dx, t, m, fs, ne1 h1, h2, h2', ne2 h3, ne2 h4⟩
  · exact h.elim
def plOk (pl : List Int) : Prop := (∃ a b, pl = [a, b]) ∨ (∃ a b c s, pl = [a, b, c, s] ∧ Bd 800 a ∧ Bd 800 b ∧ Bd 800 c)
def sp_einit (CE : Addr) : Sp := fun vs H Q _ => ∃ (x dx t : Addr) (pl : List Int), vs = [.ref x, .ref t] ∧ H x = some (.ins CE dx []) ∧ H t = some (.tup (pl.map V.int)) ∧ plOk pl ∧ ∀ H', (∀ a o, a ≠ x → H a = some o → H' a = some o) → EdgeAt CE H' x pl → Q .non H'
def sp_ecm (CE : Addr) (pl : List Int) : Sp := fun vs H Q _ => vs = [.ref CE] ∧ ∀ r H', H r = none → Same H H' → EdgeAt CE H' r pl → Q (.ref r) H'
def sp_eof (C CE : Addr) : Sp := fun vs H Q _ => ∃ (p : Addr) (a b : Int), vs = [.ref CE, .ref p] ∧ RatAt C H p a b ∧ ∀ r H', H r = none → Same H H' → EdgeAt CE H' r [a, b] → Q (.ref r) H'
def sp_eratio (C CE : Addr) : Sp := fun vs H Q _ => ∃ (e : Addr) (pl : List Int), vs = [.ref e] ∧ EdgeAt CE H e pl ∧
  (∀ a b, pl = [a, b] → a ≠ 0 → b ≠ 0 → 1 ≤ a ∧ 1 ≤ b ∧ Bd 1000 a ∧ Bd 1000 b ∧ ∀ r H', H r = none → Same H H' → RatAt C H' r (a / (Int.gcd a b : Nat)) (b / (Int.gcd a b : Nat)) → Q (.ref r) H') ∧
  ((∀ a b, pl = [a, b] → a = 0 ∨ b = 0) → ∀ H', Same H H' → Q .non H')
def sp_eparts2 (CE : Addr) : Sp := fun vs H Q _ => ∃ (e : Addr) (a b : Int), vs = [.ref e] ∧ EdgeAt CE H e [a, b] ∧ Q .non H
def sp_eeq (CE : Addr) : Sp := fun vs H Q _ => ∃ (e g : Addr) (pl pl' : List Int), vs = [.ref e, .ref g] ∧ EdgeAt CE H e pl ∧ EdgeAt CE H g pl' ∧ Q (.bl (decide (pl = pl'))) H
theorem dpIs {K : PySem.W.Frag} {H : Hp} {p : Addr} {ns : List Int} (h : H p = some (.tup (ns.map V.int))) : Dp K H (.ref p) (.tuple (ns.map PyData.int)) := .tup (SqT.of h) (by
  clear h
  induction ns with
  | nil => exact .nil
  | cons n ns ih => exact .cons (.int n) ih)
theorem canIs : ∀ ns : List Int, PyData.canLayAll0 (ns.map PyData.int) = true
  | [] => rfl
  | n :: ns => by
    show ((PyData.int n).canLay0 && PyData.canLayAll0 (ns.map PyData.int)) = true
    rw [canIs ns]; rfl
theorem depIs : ∀ ns : List Int, PyData.depthAll (ns.map PyData.int) = 0
  | [] => rfl
  | n :: ns => by
    show max 0 (PyData.depthAll (ns.map PyData.int)) = 0
    rw [depIs ns]; rfl
theorem shIs (ns : List Int) : SeqAt.shaped (.tuple (ns.map PyData.int)) = true := by
  show (PyData.canLayAll0 (ns.map PyData.int) && decide (PyData.depthAll (ns.map PyData.int) + 1 ≤ 64)) = true
  rw [canIs, depIs]; rfl
theorem eqvIs : ∀ (xs ys : List Int), PyData.eqvAll (xs.map PyData.int) (ys.map PyData.int) = decide (xs = ys)
  | [], [] => rfl
  | [], _ :: _ => rfl
  | _ :: _, [] => rfl
  | x :: xs, y :: ys => by
    show (PyData.eqv (.int x) (.int y) && PyData.eqvAll (xs.map PyData.int) (ys.map PyData.int)) = _
    rw [eqvIs xs ys, Bool.eq_iff_iff]
    simp [PyData.eqv]
theorem eqvT (xs ys : List Int) : PyData.eqv (.tuple (xs.map PyData.int)) (.tuple (ys.map PyData.int)) = decide (xs = ys) := by
  rw [← eqvIs]; rfl
theorem mk_edge {H : Hp} {CE t : Addr} {pl : List Int} {R : Hp → Prop} {E : XK} (ht : H t = some (.tup (pl.map V.int))) (ok : plOk pl) {x dx : Addr} (hx : H x = none) (hdx : H dx = none) (hne : dx ≠ x) (k : ∀ H', Same H H' → EdgeAt CE H' x pl → R H') :
    sp_einit CE (.ref x :: [.ref t]) (upd (upd H dx (.own x)) x (.ins CE dx [])) (fun v H2 => v = .non ∧ R H2) E := by
  have sm : Same H (upd (upd H dx (.own x)) x (.ins CE dx [])) := (sm_new hdx).trans (sm_new (by rw [upd_ne (Ne.symm hne)]; exact hx))
  exact ⟨x, dx, t, pl, rfl, upd_same, sm _ _ ht, ok, fun H' k' h' => ⟨rfl, k H' (fun a o e => k' a o (ne_of_none e hx) (sm a o e)) h'⟩⟩
end Ed
open Ed
section
variable {P : Program} {w : World} {K : PySem.W.Frag} {mg : Str → Option Value} {base : Heap}
theorem ok_einit {f CE : Addr} {fd : FuncData} (F : Fun K "__init__" "Edge.__init__" S_Edge__init_ f fd) (T : Txt K mg) (Re : EdgT K mg CE) (C_inner : FnC P w K mg base CX0 1 "inner_of" ["root"] (sp_inner K)) : FnOk P w K mg base (L2.CX P w) 2 f fd ["self", "place"] (sp_einit CE) := by
  refine F.okX SC_Edge__init_ (fun vs H Q E h => ?_) (fun cdv A outer s H vs Q E hr h => ?_)
  · obtain ⟨x, dx, t, pl, rfl, _⟩ := h
    rfl
  · obtain ⟨x, dx, t, pl, rfl, hx, ht, ok, k⟩ := h
    refine ⟨_, (pss_cons (ps_fld (pv 0) (pv 1) rfl)
      (pss_cons (ps_fld (pv 0) pe_non rfl)
      (pss_one (ps_if (pt_cmpR op_eq (pe_callB call_len_seq (by rfl) T.b_len (by decide +kernel) (pa_cons (pv 1) pa_nil)) pe_int (nomark _)) (pss_one (ps_fld (pv 0) (pe_tupN (pa_cons (pe_op op_sub pe_int (pe_ix ix_tup (pv 1) pe_int (fun _ _ => rfl))) (pa_cons (pe_ix ix_tup (pv 1) pe_int (fun _ _ => rfl)) (pa_cons (pe_callC C_inner (hr.mono (by decide)) rfl (pa_cons (pv 1) pa_nil)) (pa_cons (pe_op op_mulW pe_int (pe_ix ix_tup (pv 1) pe_int (fun _ _ => rfl))) pa_nil))))) rfl)) pss_nil)))), ?_⟩
    have ne : t ≠ x := fun e => by rw [e, hx] at ht; cases ht
    walk_at "kb"
    refine ⟨x, CE, dx, _, rfl, hx, Re.ins.cl, Re.n1, by show 0 < 1000; decide, ?_⟩
    walk_at "kb"
    refine ⟨x, CE, dx, _, rfl, upd_same, Re.ins.cl, Re.n2, by show 1 < 1000; decide, ?_⟩
    have ht' : ∀ o1 o2, (upd (upd H x o1) x o2) t = some (.tup (pl.map V.int)) := fun o1 o2 => by rw [upd_ne ne, upd_ne ne]; exact ht
    have kpx : ∀ o1 o2 a o, a ≠ x → H a = some o → (upd (upd H x o1) x o2) a = some o := fun o1 o2 a o n e => by rw [upd_ne n, upd_ne n]; exact e
    refine ⟨_, rfl, t, pl.map V.int, rfl, .inr (SqT.of (ht' _ _)), ?_⟩
    walk_at "kb"
    rcases ok with ⟨a, b, rfl⟩ | ⟨a, b, c, sd, rfl, ba, bb, bc⟩
    · refine ifF rfl ?_
      exact k _ (kpx _ _) ⟨dx, t, _, upd_same, ef1 _ _, ⟨ef2 _ _, by simp only [lookup_putF]; rw [if_neg n_ln, if_neg n_lp]; rfl⟩, ht' _ _⟩
    · refine ifT rfl ?_
      have W := (Ho.start (upd (upd H x (.ins CE dx (putF "place" (.ref t) []))) x (.ins CE dx (putF "numbers" .non (putF "place" (.ref t) []))))).call (Same.refl _) (ht' _ _)
      have W2 := W.add (p := x) upd_same
      clear W
      walk_at "kw"
      refine ⟨t, a, b, c, sd, rfl, W2.get (o := .tup [.int a, .int b, .int c, .int sd]) (.tail _ (.head _)), ba, bb, bc, ?_⟩
      walk_at "kw"
      rename_i m H3 f3 W3
      refine ⟨x, CE, dx, _, rfl, W3.get (.tail _ (.head _)), Re.ins.cl, Re.n2, by show 2 < 1000; decide, ?_⟩
      have xm : x ≠ m := fun e => by
        have h1 := W3.get (.head _)
        have h2 := W3.get (.tail _ (.head _))
        rw [← e, h2] at h1
        cases h1
      refine k _ (fun a o n e => by rw [upd_ne n]; exact W3.sm _ _ (kpx _ _ a o n e)) ⟨dx, t, m, _, upd_same, ef1' _ _, ⟨ef2' _ _, by simp only [lookup_putF]; rw [if_neg n_ln, if_neg n_ln, if_neg n_lp]; rfl⟩, ?_, ?_⟩
      · rw [upd_ne ne]
        exact W3.get (.tail _ (.tail _ (.head _)))
      · rw [upd_ne (Ne.symm xm)]
        exact W3.get (.head _)
theorem ok_eof {f C CE : Addr} {fd : FuncData} (F : Fun K "of" "Edge.of" S_Edge_of f fd) (T : Txt K mg) (R : RatT K mg C) (C_edgeX : MkC P w K mg base (L2.CX P w) 2 CE "Edge" ["self", "place"] (sp_einit CE)) : FnOk P w K mg base (L2.CX P w) 4 f fd ["cls", "ratio"] (sp_eof C CE) := by
  refine F.okX SC_Edge_of (fun vs H Q E h => ?_) (fun cdv A outer s H vs Q E hr h => ?_)
  · obtain ⟨p, a, b, rfl, _⟩ := h
    rfl
  · obtain ⟨p, a, b, rfl, ⟨dp, hp⟩, k⟩ := h
    refine ⟨_, (pss_one (ps_ret (pe_makeL (i := 0) C_edgeX (hr.mono (by decide)) (takes_of rfl rfl rfl rfl) rfl (.inl rfl) (pa_cons (pe_tupN (pa_cons (pe_fld (pv 1) rfl) (pa_cons (pe_fld (pv 1) rfl) pa_nil))) pa_nil)))), ?_⟩
    refine ⟨rfl, _, rfl, p, C, dp, _, _, rfl, hp, R.ins.cl, R.n1, rf1 _ _, _, rfl, p, C, dp, _, _, rfl, hp, R.ins.cl, R.n2, rf2 _ _, by show 2 ≤ 1000000; decide, fun t H1 ht s1 ht1 => ?_⟩
    exact fun x dx hx hdx hne => mk_edge (pl := [a, b]) ht1 (.inl ⟨_, _, rfl⟩) hx hdx hne fun H' s' h' => k x H' (s1.free hx) (s1.trans s') h'
theorem ok_zero {f CE : Addr} {fd : FuncData} (F : Fun K "zero" "Edge.zero" S_Edge_zero f fd) (T : Txt K mg) (C_edgeX : MkC P w K mg base (L2.CX P w) 2 CE "Edge" ["self", "place"] (sp_einit CE)) : FnOk P w K mg base (L2.CX P w) 4 f fd ["cls"] (sp_ecm CE [0, 1]) := by
  refine F.okX SC_Edge_zero (fun vs H Q E h => ?_) (fun cdv A outer s H vs Q E hr h => ?_)
  · obtain ⟨rfl, _⟩ := h
    rfl
  · obtain ⟨rfl, k⟩ := h
    refine ⟨_, (pss_one (ps_ret (pe_makeL (i := 0) C_edgeX (hr.mono (by decide)) (takes_of rfl rfl rfl rfl) rfl (.inl rfl) (pa_cons (pe_tupN (pa_cons pe_int (pa_cons pe_int pa_nil))) pa_nil)))), ?_⟩
    refine ⟨rfl, by show 2 ≤ 1000000; decide, fun t H1 ht s1 ht1 => ?_⟩
    exact fun x dx hx hdx hne => mk_edge (pl := [0, 1]) ht1 (.inl ⟨_, _, rfl⟩) hx hdx hne fun H' s' h' => k x H' (s1.free hx) (s1.trans s') h'
theorem ok_endless {f CE : Addr} {fd : FuncData} (F : Fun K "endless" "Edge.endless" S_Edge_endless f fd) (T : Txt K mg) (C_edgeX : MkC P w K mg base (L2.CX P w) 2 CE "Edge" ["self", "place"] (sp_einit CE)) : FnOk P w K mg base (L2.CX P w) 4 f fd ["cls"] (sp_ecm CE [1, 0]) := by
  refine F.okX SC_Edge_endless (fun vs H Q E h => ?_) (fun cdv A outer s H vs Q E hr h => ?_)
  · obtain ⟨rfl, _⟩ := h
    rfl
  · obtain ⟨rfl, k⟩ := h
    refine ⟨_, (pss_one (ps_ret (pe_makeL (i := 0) C_edgeX (hr.mono (by decide)) (takes_of rfl rfl rfl rfl) rfl (.inl rfl) (pa_cons (pe_tupN (pa_cons pe_int (pa_cons pe_int pa_nil))) pa_nil)))), ?_⟩
    refine ⟨rfl, by show 2 ≤ 1000000; decide, fun t H1 ht s1 ht1 => ?_⟩
    exact fun x dx hx hdx hne => mk_edge (pl := [1, 0]) ht1 (.inl ⟨_, _, rfl⟩) hx hdx hne fun H' s' h' => k x H' (s1.free hx) (s1.trans s') h'
theorem ok_eeq {f CE : Addr} {fd : FuncData} (F : Fun K "__eq__" "Edge.__eq__" S_Edge__eq_ f fd) (T : Txt K mg) (Re : EdgT K mg CE) : FnOk P w K mg base CX0 1 f fd ["self", "other"] (sp_eeq CE) := by
  refine F.ok SC_Edge__eq_ (fun vs H Q E h => ?_) (fun cdv A outer s H vs Q E hr h => ?_)
  · obtain ⟨e, g, pl, pl', rfl, _⟩ := h
    rfl
  · obtain ⟨e, g, pl, pl', rfl, he, hg, k⟩ := h
    obtain ⟨dx, t, fs, h1, h2, h3⟩ := he.at
    obtain ⟨dy, t', fs', g1, g2, g3⟩ := hg.at
    refine ⟨_, (pss_one (ps_ret (pe_and (pe_callB call_isi (by rfl) T.b_isinstance (by decide +kernel) (pa_cons (pv 1) (pa_cons (pe_glob (v := .ref CE) (by rfl) Re.mgC rfl) pa_nil))) (pe_one (pe_cmpR (op_eqD hr.units) (pe_fld (pv 0) rfl) (pe_fld (pv 1) rfl) (nomark _)))))), ?_⟩
    refine ⟨_, rfl, .ref g, _, .ref CE, _, true, rfl, .own CE, Re.ty g1, Re.ins.me, _, rfl, ifT rfl ?_⟩
    refine ⟨_, rfl, e, CE, dx, _, _, rfl, h1, Re.ins.cl, Re.n1, h2, _, rfl, g, CE, dy, _, _, rfl, g1, Re.ins.cl, Re.n1, g2, ?_⟩
    refine ⟨_, _, dpIs h3, dpIs g3, shIs _, shIs _, ?_⟩
    rw [eqvT]
    exact k
theorem ok_eratio {f C CE IR : Addr} {fd : FuncData} (F : Fun K "ratio" "Edge.ratio" S_Edge_ratio f fd) (T : Txt K mg) (Re : EdgT K mg CE) (C_ratio : MkC P w K mg base CX0 4 C "Ratio" ["self", "first", "second"] (Kb.calm (sp_init C IR K))) : FnOk P w K mg base CX0 6 f fd ["self"] (sp_eratio C CE) := by
  refine F.ok SC_Edge_ratio (fun vs H Q E h => ?_) (fun cdv A outer s H vs Q E hr h => ?_)
  · obtain ⟨e, pl, rfl, _⟩ := h
    rfl
  · obtain ⟨e, pl, rfl, he, yes, no⟩ := h
    obtain ⟨dx, t, fs, h1, h2, h3⟩ := he.at
    refine ⟨_, (pss_one (ps_ret (pe_ifExp (PW.pt (pw_and (pt_cmpR op_eq (pe_callB call_len_seq (by rfl) T.b_len (by decide +kernel) (pa_cons (pe_fld (pv 0) rfl) pa_nil)) pe_int (nomark _)) (pw_and1 (pt_cmpR op_notIn_seq pe_int (pe_fld (pv 0) rfl) (by rfl))))) (pe_makeC C_ratio (hr.mono (by decide)) rfl (pa_cons (pe_ix ix_tup (pe_fld (pv 0) rfl) pe_int (fun _ _ => rfl)) (pa_cons (pe_ix ix_tup (pe_fld (pv 0) rfl) pe_int (fun _ _ => rfl)) pa_nil))) pe_non))), ?_⟩
    refine ⟨_, rfl, e, CE, dx, _, _, rfl, h1, Re.ins.cl, Re.n1, h2, ?_⟩
    refine ⟨t, _, rfl, .inr (SqT.of h3), ?_⟩
    walk_at "kb"
    have hc : (∃ a b, pl = [a, b]) ∨ (∃ a b c sd, pl = [a, b, c, sd]) := by
      unfold EdgeAt at he
      split at he
      · exact .inl ⟨_, _, rfl⟩
      · exact .inr ⟨_, _, _, _, rfl⟩
      · exact he.elim
    rcases hc with ⟨a, b, rfl⟩ | ⟨a, b, c, sd, rfl⟩
    · refine ifT rfl ?_
      refine ⟨_, rfl, e, CE, dx, _, _, rfl, h1, Re.ins.cl, Re.n1, h2, t, _, rfl, .inr (SqT.of h3), rfl, rfl, ?_⟩
      have hi : inV (V.int 0) ([a, b].map V.int) = decide (a = 0 ∨ b = 0) := by
        show (decide (a = 0) || (decide (b = 0) || false)) = _
        rw [Bool.eq_iff_iff]; simp
      refine ⟨_, rfl, ?_⟩
      show if (!inV (V.int 0) ([a, b].map V.int)) = true then _ else _
      rw [hi]
      by_cases hz : a = 0 ∨ b = 0
      · rw [decide_eq_true hz]
        refine ifF rfl ?_
        exact no (fun a' b' e => by cases e; exact hz) H (Same.refl H)
      · rw [decide_eq_false hz]
        refine ifT rfl ?_
        obtain ⟨a1, b1, ba, bb, k⟩ := yes a b rfl (fun e => hz (.inl e)) (fun e => hz (.inr e))
        refine ⟨_, rfl, e, CE, dx, _, _, rfl, h1, Re.ins.cl, Re.n1, h2, t, _, 0, _, rfl, rfl, SqT.of h3, rfl, _, rfl, e, CE, dx, _, _, rfl, h1, Re.ins.cl, Re.n1, h2, t, _, 1, _, rfl, rfl, SqT.of h3, rfl, ?_⟩
        exact fun x dx hx hdx hne => mk_ratH' a1 b1 ba bb hx hdx hne fun H' s' c => k x H' hx s' c
    · refine ifF rfl ?_
      exact no (fun a b e => by cases e) H (Same.refl H)
end

local macro_rules | `(tactic| walk_at "flk") => `(tactic| first | assumption)
local macro_rules | `(tactic| walk_at "cls") => `(tactic| first | exact EdgT.cl (by assumption))
local macro_rules | `(tactic| walk_at "noat") => `(tactic| first | exact EdgT.n1 (by assumption) | exact EdgT.n2 (by assumption))

/-! ## the edge at a number with a root -/
namespace Ed
def isIi (v : V) : Bool := isI v && !isB v
theorem isIi_int {v : V} (h : isIi v = true) : ∃ i, v = .int i := by cases v <;> first | exact ⟨_, rfl⟩ | cases h
def nrm (r p : Int) : Int := if r < 0 then -p else p
def rootPl (p q d r s : Int) : List Int := if q = 0 ∨ s * s = d then [(p + q * s) / (Int.gcd (p + q * s) r : Nat), r / (Int.gcd (p + q * s) r : Nat)] else lwd (r * r) (-2 * p * r) (p * p - q * q * d) (if 0 < q then 1 else -1)
def sp_eroot (CE IE : Addr) (K : PySem.W.Frag) : Sp := fun vs H Q E => ∃ u1 u2 u3 u4 : V, vs = [.ref CE, u1, u2, u3, u4] ∧ (Kd K H u1 ∧ Kd K H u2 ∧ Kd K H u3 ∧ Kd K H u4) ∧
  (∀ p q d r, u1 = .int p → u2 = .int q → u3 = .int d → u4 = .int r → (Bd 100 p ∧ Bd 100 q ∧ Bd 100 d ∧ Bd 100 r) ∧ ((d < 0 ∨ r = 0 ∨ swr (nrm r p) (nrm r q) d ≤ 0) → ∀ H', Same H H' → E (.ref IE) none H') ∧
    (0 ≤ d → r ≠ 0 → 0 < swr (nrm r p) (nrm r q) d → ∀ s, 0 ≤ s → s * s ≤ d → d < (s + 1) * (s + 1) → ∀ e H', H e = none → Same H H' → EdgeAt CE H' e (rootPl (nrm r p) (nrm r q) d (nrm r r) s) → Q (.ref e) H')) ∧
  ((isIi u1 && isIi u2 && isIi u3 && isIi u4) = false → ∀ H', Same H H' → E (.ref IE) none H')
theorem Bd.nrm {n : Nat} {r p : Int} (h : Bd n p) : Bd n (nrm r p) := by
  unfold Ed.nrm
  split
  · exact h.neg
  · exact h
theorem sq_bd {s d : Int} (h0 : 0 ≤ s) (h : s * s ≤ d) (bd : Bd 100 d) : Bd 100 s := by
  have : s * 1 ≤ s * s ∨ s = 0 := by
    by_cases e : s = 0
    · exact .inr e
    · exact .inl (Int.mul_le_mul_of_nonneg_left (by omega) h0)
  unfold Bd at *
  generalize 2 ^ 100 = z at *
  rcases this with h1 | h1 <;> omega
end Ed
--@walks
section
variable {P : Program} {w : World} {K : PySem.W.Frag} {mg : Str → Option Value} {base : Heap}
theorem ok_eroot {f CE IE : Addr} {fd : FuncData} (F : Fun K "root" "Edge.root" S_Edge_root f fd) (T : Txt K mg) (E_InvalidEdge : ErC P w K mg base "InvalidEdge" IE) (C_isint : FnC P w K mg base CX0 1 "is_integer" ["value"] (sp_isint K)) (C_swr : FnC P w K mg base CX0 2 "sign_with_root" ["one", "times", "inner"] sp_swr)
    (C_wr : FnC P w K mg base CX0 1 "whole_root" ["number"] sp_wr) (C_com : FnC P w K mg base CX0 1 "common" ["one", "other"] sp_com) (C_low : FnC P w K mg base CX0 2 "lowered" ["a", "b", "c", "side"] sp_low) (C_edgeX : MkC P w K mg base (L2.CX P w) 2 CE "Edge" ["self", "place"] (sp_einit CE)) :
    FnOk P w K mg base (L2.CX P w) 4 f fd ["cls", "p", "q", "d", "r"] (sp_eroot CE IE K) := by
  refine F.okX SC_Edge_root (fun vs H Q E h => ?_) (fun cdv A outer s H vs Q E hr h => ?_)
  · obtain ⟨u1, u2, u3, u4, rfl, _⟩ := h
    rfl
  · obtain ⟨u1, u2, u3, u4, rfl, ⟨k1, k2, k3, k4⟩, ok, bad⟩ := h
    refine ⟨_, (pss_cons (ps_if (PW.pt (pw_or (pt_not (pt_val (pe_callB (cr_all rfl) (by rfl) T.b_all (by decide +kernel) (pa_cons (pe_lc (own := [("value", 8)]) (g := gName 8) (by rfl) SC_Edge_root.nd (pi_tup (pe_tupN (pa_cons (pv 1) (pa_cons (pv 2) (pa_cons (pv 3) (pa_cons (pv 4) pa_nil)))))) (blkOk_by (own := [("value", 8)]) (N := N_Edge_root) (sc := defScope S_Edge_root) (by decide +kernel)) (fun _ _ _ _ _ => pg_name (i := 8) SC_Edge_root.nd rfl (Or.inl rfl)) (fun _ _ _ _ _ => pts_nil) (fun _ _ _ _ _ => (pe_callC C_isint (hr.mono (by decide)) rfl (pa_cons (pv 8) pa_nil)))) pa_nil)))) (pw_or (pt_cmpR op_lt (pv 3) pe_int (nomark _)) (pw_or1 (pt_cmpR op_eq (pv 4) pe_int (nomark _)))))) (pss_one (ps_raise0 E_InvalidEdge (hr.mono (by decide)) rfl (takes_of rfl rfl rfl rfl) rfl)) pss_nil)
      (pss_mid (ps_if (pt_cmpR op_lt (pv 4) pe_int (nomark _)) (pss_one (ps_par3 (i := 1) (j := 2) (l := 4) (by rfl) SC_Edge_root.nd rfl rfl rfl (by decide) (by decide) (by decide) rfl rfl rfl (pa_cons (pe_un un_neg (pv 1)) (pa_cons (pe_un un_neg (pv 2)) (pa_cons (pe_un un_neg (pv 4)) pa_nil))) (by rfl))) pss_nil)
      (pss_cons (ps_if (pt_cmpR op_le (pe_callC C_swr (hr.mono (by decide)) rfl (pa_cons (pv 1) (pa_cons (pv 2) (pa_cons (pv 3) pa_nil)))) pe_int (nomark _)) (pss_one (ps_raise0 E_InvalidEdge (hr.mono (by decide)) rfl (takes_of rfl rfl rfl rfl) rfl)) pss_nil)
      (pss_cons (ps_set (i := 5) SC_Edge_root.nd rfl (.inl rfl) (pe_callC C_wr (hr.mono (by decide)) rfl (pa_cons (pv 3) pa_nil)))
      (pss_cons (ps_if (PW.pt (pw_or (pt_cmpR op_eq (pv 2) pe_int (nomark _)) (pw_or1 (pt_cmpR op_eq (pe_op op_mulW (pv 5) (pv 5)) (pv 3) (nomark _))))) (pss_cons (ps_set (i := 6) SC_Edge_root.nd rfl (.inl rfl) (pe_op op_add (pv 1) (pe_op op_mulW (pv 2) (pv 5))))
      (pss_cons (ps_set (i := 7) SC_Edge_root.nd rfl (.inl rfl) (pe_callC C_com (hr.mono (by decide)) rfl (pa_cons (pv 6) (pa_cons (pv 4) pa_nil))))
      (pss_one (ps_ret (pe_makeL (i := 0) C_edgeX (hr.mono (by decide)) (takes_of rfl rfl rfl rfl) rfl (.inl rfl) (pa_cons (pe_tupN (pa_cons (pe_op op_fdivW (pv 6) (pv 7)) (pa_cons (pe_op op_fdivW (pv 4) (pv 7)) pa_nil))) pa_nil)))))) pss_nil)
      (pss_one (ps_ret (pe_makeL (i := 0) C_edgeX (hr.mono (by decide)) (takes_of rfl rfl rfl rfl) rfl (.inl rfl) (pa_cons (pe_callC C_low (hr.mono (by decide)) rfl (pa_cons (pe_op op_mulW (pv 4) (pv 4)) (pa_cons (pe_op op_mulW (pe_op op_mulW (pe_un un_neg pe_int) (pv 1)) (pv 4)) (pa_cons (pe_op op_sub (pe_op op_mulW (pv 1) (pv 1)) (pe_op op_mulW (pe_op op_mulW (pv 2) (pv 2)) (pv 3))) (pa_cons (pe_ifExp (pt_cmpR op_gt (pv 2) pe_int (nomark _)) pe_int (pe_un un_neg pe_int)) pa_nil))))) pa_nil))))))))), ?_⟩
    walk_at "kw"
    refine Ho.nw (Ho.start H) fun q1 H1 f1 W1 => ?_
    walk_at "kw"
    refine ⟨⟨_, SqT.of (W1.get (.head _))⟩, fun D hD => ?_⟩
    have qD : q1 ≠ D := ne_of_none (W1.get (.head _)) hD
    have each : ∀ (i : Nat) v, [u1, u2, u3, u4][i]? = some v → Kd K H1 v := fun i v h => by
      match i, h with
      | 0, h => cases h; exact k1.same W1.sm
      | 1, h => cases h; exact k2.same W1.sm
      | 2, h => cases h; exact k3.same W1.sm
      | 3, h => cases h; exact k4.same W1.sm
      | i + 4, h => simp at h
    refine lcR_tp (xs := [u1, u2, u3, u4]) (fun i H' => (∀ b o, b ≠ D → H1 b = some o → H' b = some o) ∧ H' D = some (.lst ((([u1, u2, u3, u4].take i).map isIi).map V.bl))) ⟨fun b o n e => by rw [upd_ne n]; exact e, upd_same⟩
      (fun i H' _ m => SqT.of (m.1 q1 _ qD (W1.get (.head _)))) (fun i v H2 hi m => ?_) (gName_mono _) (fun H2 m => ?_)
    · obtain ⟨kp, hH⟩ := m
      have kd1 : Kd K H2 v := (each i v hi).at fun a o e h => kp a o (ne_of_none h hD) h
      refine ⟨rfl, _, rfl, v, rfl, kd1, _, hH, ?_, fun b o n e => by rw [upd_ne n]; exact kp b o n e, ?_⟩
      · rw [List.length_map, List.length_map, List.length_take]
        exact szs (Nat.le_trans (Nat.min_le_right _ _) (by show 4 ≤ 1000000; decide))
      · rw [upd_same, List.take_succ, hi, List.map_append, List.map_append]; rfl
    · obtain ⟨kp, hH⟩ := m
      have W2 : Ho H H2 [] := ⟨(W1.inD hD kp).sm, fun _ h => nomatch h⟩
      have hH' : H2 D = some (.lst (([u1, u2, u3, u4].map isIi).map V.bl)) := hH
      clear hH
      refine ⟨_, _, rfl, SqL.of hH', ?_⟩
      refine ⟨_, rfl, ?_⟩
      show if (!(([u1, u2, u3, u4].map isIi).all id)) = true then _ else _
      have eall : ([u1, u2, u3, u4].map isIi).all id = (isIi u1 && isIi u2 && isIi u3 && isIi u4) := by
        show (isIi u1 && (isIi u2 && (isIi u3 && (isIi u4 && true)))) = _
        cases isIi u1 <;> cases isIi u2 <;> cases isIi u3 <;> cases isIi u4 <;> rfl
      rw [eall]
      by_cases g : (isIi u1 && isIi u2 && isIi u3 && isIi u4) = true
      · rw [g]
        refine ifF rfl ?_
        have gg := g
        simp only [Bool.and_eq_true] at gg
        obtain ⟨p, rfl⟩ := isIi_int gg.1.1.1
        obtain ⟨q, rfl⟩ := isIi_int gg.1.1.2
        obtain ⟨d, rfl⟩ := isIi_int gg.1.2
        obtain ⟨r, rfl⟩ := isIi_int gg.2
        obtain ⟨⟨bp, bq, bd, br⟩, bad', good⟩ := ok p q d r rfl rfl rfl rfl
        clear each k1 k2 k3 k4 g gg eall ok bad
        walk_at "kw"
        refine ite2 (fun h => ?_) (fun h => ?_)
        · exact bad' (.inl (of_decide_eq_true h)) _ W2.sm
        have d0 : 0 ≤ d := by have : ¬ d < 0 := fun e => h (decide_eq_true e)
                              omega
        clear h
        walk_at "kw"
        refine ite2 (fun h => ?_) (fun h => ?_)
        · exact bad' (.inr (.inl (V.int.inj (of_decide_eq_true h)))) _ W2.sm
        have r0 : r ≠ 0 := fun e => h (decide_eq_true (congrArg V.int e))
        clear h
        refine ⟨fun σ' H' => H' = H2 ∧ σ' = [some (.ref CE), some (.int (nrm r p)), some (.int (nrm r q)), some (.int d), some (.int (nrm r r)), none, none, none, none], ?_, fun σ1 H3 z => ?_⟩
        · walk_at "kw"
          unfold nrm
          refine ite2 (fun h => ?_) (fun h => ?_)
          · have h' : r < 0 := of_decide_eq_true h
            rw [if_pos h', if_pos h', if_pos h']
            walk_at "kw"
            exact ⟨_, _, _, rfl, rfl, rfl⟩
          · have h' : ¬ r < 0 := fun e => h (decide_eq_true e)
            rw [if_neg h', if_neg h', if_neg h']
            exact ⟨rfl, rfl⟩
        obtain ⟨rfl, rfl⟩ := z
        have r1 : 0 < nrm r r := by unfold nrm; split <;> omega
        have bp' := Bd.nrm (r := r) bp
        have bq' := Bd.nrm (r := r) bq
        have br' := Bd.nrm (r := r) br
        generalize nrm r p = p' at *
        generalize nrm r q = q' at *
        generalize nrm r r = r' at *
        walk_at "kw"
        refine ite2 (fun h => ?_) (fun h => ?_)
        · exact bad' (.inr (.inr (of_decide_eq_true h))) _ W2.sm
        have w0 : 0 < swr p' q' d := by have : ¬ swr p' q' d ≤ 0 := fun e => h (decide_eq_true e)
                                        omega
        clear h
        walk_at "kw"
        refine fun sq s0 s1 s2 => ?_
        have bs := sq_bd s0 s1 bd
        have fin := good d0 r0 w0 sq s0 s1 s2
        clear good
        unfold rootPl at fin
        walk_at "kw"
        have b1' : Bd 400 (r' * r') := (br'.mul br').mono (by decide)
        have b2' : Bd 400 (-2 * p' * r') := (((Bd.lit (i := -2) (by decide)).mul bp').mul br').mono (by decide)
        have b3' : Bd 400 (p' * p' - q' * q' * d) := ((bp'.mul bp').sub ((bq'.mul bq').mul bd)).mono (by decide)
        have b1 := b1'.mono (show 400 ≤ 800 by decide)
        have b2 := b2'.mono (show 400 ≤ 800 by decide)
        have b3 := b3'.mono (show 400 ≤ 800 by decide)
        refine ite2 (fun h => ?_) (fun h => ?_)
        · have hz' : q' = 0 ∨ sq * sq = d := .inl (V.int.inj (of_decide_eq_true h))
          rw [if_pos hz'] at fin
          have g0 : 0 < ((Int.gcd (p' + q' * sq) r' : Nat) : Int) := by
            have := Int.gcd_pos_of_ne_zero_right (p' + q' * sq) (show r' ≠ 0 by omega)
            omega
          walk_at "kw"
          rename_i t3 H3' f3 W3
          exact fun x dx hx hdx hne => mk_edge (W3.get (.head _)) (.inl ⟨_, _, rfl⟩) hx hdx hne fun H' s' h' => fin x H' (W3.sm.free hx) (W3.sm.trans s') h'
        have hq0 : q' ≠ 0 := fun e => h (decide_eq_true (congrArg V.int e))
        clear h
        walk_at "kw"
        refine ite2 (fun h => ?_) (fun h => ?_)
        · have hz' : q' = 0 ∨ sq * sq = d := .inr (V.int.inj (of_decide_eq_true h))
          rw [if_pos hz'] at fin
          have g0 : 0 < ((Int.gcd (p' + q' * sq) r' : Nat) : Int) := by
            have := Int.gcd_pos_of_ne_zero_right (p' + q' * sq) (show r' ≠ 0 by omega)
            omega
          walk_at "kw"
          rename_i t3 H3' f3 W3
          exact fun x dx hx hdx hne => mk_edge (W3.get (.head _)) (.inl ⟨_, _, rfl⟩) hx hdx hne fun H' s' h' => fin x H' (W3.sm.free hx) (W3.sm.trans s') h'
        have hs0 : sq * sq ≠ d := fun e => h (decide_eq_true (congrArg V.int e))
        clear h
        rw [if_neg (fun z => z.elim hq0 hs0)] at fin
        walk_at "kw"
        refine ite2 (fun h => ?_) (fun h => ?_)
        · rw [if_pos (of_decide_eq_true h)] at fin
          walk_at "kw"
          · skip
            refine ⟨_, _, _, _, rfl, Int.ne_of_gt (Int.mul_pos r1 r1), b1, b2, b3, ?_⟩
            refine Ho.nw W2 fun t3 H3' f3 W3 => ?_
            walk_at "kw"
            exact fun x dx hx hdx hne => mk_edge (pl := lwd _ _ _ _) (W3.get (.head _)) (.inr ⟨_, _, _, _, rfl, (Bd.fdiv _ b1').mono (by decide), (Bd.fdiv _ b2').mono (by decide), (Bd.fdiv _ b3').mono (by decide)⟩) hx hdx hne fun H' s' h' => fin x H' (W3.sm.free hx) (W3.sm.trans s') h'
        · rw [if_neg (fun e => h (decide_eq_true e))] at fin
          walk_at "kw"
          · skip
            refine ⟨_, _, _, _, rfl, Int.ne_of_gt (Int.mul_pos r1 r1), b1, b2, b3, ?_⟩
            refine Ho.nw W2 fun t3 H3' f3 W3 => ?_
            walk_at "kw"
            exact fun x dx hx hdx hne => mk_edge (pl := lwd _ _ _ _) (W3.get (.head _)) (.inr ⟨_, _, _, _, rfl, (Bd.fdiv _ b1').mono (by decide), (Bd.fdiv _ b2').mono (by decide), (Bd.fdiv _ b3').mono (by decide)⟩) hx hdx hne fun H' s' h' => fin x H' (W3.sm.free hx) (W3.sm.trans s') h'
      · rw [Bool.not_eq_true] at g
        rw [g]
        refine ifT rfl ?_
        exact bad g _ W2.sm
end
--@*

/-! ## changed edges -/
namespace Ed
def c1 (s t A B C : Int) : Int := A * t * t - B * t * s + C * s * s
def c2 (m n s t A B C : Int) : Int := B * (t * m + n * s) - 2 * A * t * n - 2 * C * m * s
def c3 (m n A B C : Int) : Int := A * n * n - B * n * m + C * m * m
/-- the place to which a change brings a place -/
def bhPl (m n s t : Int) : List Int → List Int
  | [x, y] => [(m * x + n * y) / (Int.gcd (m * x + n * y) (s * x + t * y) : Nat), (s * x + t * y) / (Int.gcd (m * x + n * y) (s * x + t * y) : Nat)]
  | [A, B, C, sd] => lwd (c1 s t A B C) (c2 m n s t A B C) (c3 m n A B C) (sd * (sg (m * t - n * s) * sg (c1 s t A B C)))
  | _ => []
def sp_changed (K : PySem.W.Frag) : Sp := fun vs H Q _ => ∃ (r q : Addr) (A B C sd m n s t : Int), vs = [.ref r, .ref q] ∧ H r = some (.tup [.int A, .int B, .int C, .int sd]) ∧ H q = some (.tup [.int m, .int n, .int s, .int t]) ∧
  (Bd 290 A ∧ Bd 290 B ∧ Bd 290 C ∧ Bd 4 sd) ∧ (Bd 200 m ∧ Bd 200 n ∧ Bd 200 s ∧ Bd 200 t) ∧ c1 s t A B C ≠ 0 ∧ New H (.tup ((bhPl m n s t [A, B, C, sd]).map V.int)) Q
/-- what a change wants of a place -/
inductive PlC (m n s t : Int) : List Int → Prop
  | two {x y : Int} (bx : Bd 290 x) (b_y : Bd 290 y) (h : m * x + n * y ≠ 0 ∨ s * x + t * y ≠ 0) : PlC m n s t [x, y]
  | four {A B C sd : Int} (ba : Bd 290 A) (bb : Bd 290 B) (bc : Bd 290 C) (bs : Bd 4 sd) (h : c1 s t A B C ≠ 0) : PlC m n s t [A, B, C, sd]
def sp_pb (K : PySem.W.Frag) : Sp := fun vs H Q _ => ∃ (q p : Addr) (m n s t : Int) (pl : List Int), vs = [.ref q, .ref p] ∧ H q = some (.tup [.int m, .int n, .int s, .int t]) ∧ H p = some (.tup (pl.map V.int)) ∧
  (Bd 200 m ∧ Bd 200 n ∧ Bd 200 s ∧ Bd 200 t) ∧ PlC m n s t pl ∧ New H (.tup ((bhPl m n s t pl).map V.int)) Q
theorem Bd.sd {i : Int} (h : i = 1 ∨ i = -1) : Bd 4 i := by rcases h with rfl | rfl <;> exact (show Int.natAbs _ < 2 ^ 4 by decide)
theorem c1_bd {s t A B C : Int} (ba : Bd 290 A) (bb : Bd 290 B) (bc : Bd 290 C) (bs : Bd 200 s) (bt : Bd 200 t) : Bd 700 (c1 s t A B C) :=
  ((((ba.mul bt).mul bt).sub ((bb.mul bt).mul bs)).add ((bc.mul bs).mul bs)).mono (by decide)
theorem c2_bd {m n s t A B C : Int} (ba : Bd 290 A) (bb : Bd 290 B) (bc : Bd 290 C) (bm : Bd 200 m) (bn : Bd 200 n) (bs : Bd 200 s) (bt : Bd 200 t) : Bd 780 (c2 m n s t A B C) :=
  (((bb.mul ((bt.mul bm).add (bn.mul bs))).sub ((((Bd.lit (i := 2) (by decide)).mul ba).mul bt).mul bn)).sub ((((Bd.lit (i := 2) (by decide)).mul bc).mul bm).mul bs)).mono (by decide)
theorem c3_bd {m n A B C : Int} (ba : Bd 290 A) (bb : Bd 290 B) (bc : Bd 290 C) (bm : Bd 200 m) (bn : Bd 200 n) : Bd 700 (c3 m n A B C) :=
  ((((ba.mul bn).mul bn).sub ((bb.mul bn).mul bm)).add ((bc.mul bm).mul bm)).mono (by decide)
theorem plOk_bh {m n s t : Int} {pl : List Int} (h : PlC m n s t pl) (bm : Bd 200 m) (bn : Bd 200 n) (bs : Bd 200 s) (bt : Bd 200 t) : plOk (bhPl m n s t pl) := by
  cases h with
  | two bx b_y h => exact .inl ⟨_, _, rfl⟩
  | four ba bb bc _ h => exact .inr ⟨_, _, _, _, rfl, (Bd.fdiv _ (c1_bd ba bb bc bs bt)).mono (by decide), (Bd.fdiv _ (c2_bd ba bb bc bm bn bs bt)).mono (by decide), (Bd.fdiv _ (c3_bd ba bb bc bm bn)).mono (by decide)⟩
end Ed
section
variable {P : Program} {w : World} {K : PySem.W.Frag} {mg : Str → Option Value} {base : Heap}
theorem ok_changed {f : Addr} {fd : FuncData} (F : Fun K "changed" "changed" S_changed f fd) (T : Txt K mg) (C_sign : FnC P w K mg base CX0 1 "sign_of" ["number"] sp_sign) (C_low : FnC P w K mg base CX0 2 "lowered" ["a", "b", "c", "side"] sp_low) : FnOk P w K mg base CX0 3 f fd ["root", "numbers"] (sp_changed K) := by
  refine F.ok SC_changed (fun vs H Q E h => ?_) (fun cdv A outer s H vs Q E hr h => ?_)
  · obtain ⟨r, q, A, B, C, sd, m, n, s, t, rfl, _⟩ := h
    rfl
  · obtain ⟨r, q, A, B, C, sd, m, n, s, t, rfl, hr1, hq1, ⟨ba, bb, bc, bsd⟩, ⟨bm, bn, bs, bt⟩, hne, k⟩ := h
    refine ⟨_, (pss_cons (ps_asg (pv 0) (pg_tup rfl (pgs_cons (pg_name (i := 2) SC_changed.nd rfl (.inl rfl)) (pgs_cons (pg_name (i := 3) SC_changed.nd rfl (.inl rfl)) (pgs_cons (pg_name (i := 4) SC_changed.nd rfl (.inl rfl)) (pgs_cons (pg_name (i := 5) SC_changed.nd rfl (.inl rfl)) pgs_nil))))))
      (pss_nrm (pss_cons (ps_asg (pv 1) (pg_tup rfl (pgs_cons (pg_name (i := 6) SC_changed.nd rfl (.inl rfl)) (pgs_cons (pg_name (i := 7) SC_changed.nd rfl (.inl rfl)) (pgs_cons (pg_name (i := 8) SC_changed.nd rfl (.inl rfl)) (pgs_cons (pg_name (i := 9) SC_changed.nd rfl (.inl rfl)) pgs_nil))))))
      (pss_nrm (pss_cons (ps_set (i := 10) SC_changed.nd rfl (.inl rfl) (pe_op op_add (pe_op op_sub (pe_op op_mulW (pe_op op_mulW (pv 2) (pv 9)) (pv 9)) (pe_op op_mulW (pe_op op_mulW (pv 3) (pv 9)) (pv 8))) (pe_op op_mulW (pe_op op_mulW (pv 4) (pv 8)) (pv 8))))
      (pss_cons (ps_set (i := 11) SC_changed.nd rfl (.inl rfl) (pe_op op_sub (pe_op op_sub (pe_op op_mulW (pv 3) (pe_op op_add (pe_op op_mulW (pv 9) (pv 6)) (pe_op op_mulW (pv 7) (pv 8)))) (pe_op op_mulW (pe_op op_mulW (pe_op op_mulW pe_int (pv 2)) (pv 9)) (pv 7))) (pe_op op_mulW (pe_op op_mulW (pe_op op_mulW pe_int (pv 4)) (pv 6)) (pv 8))))
      (pss_cons (ps_set (i := 12) SC_changed.nd rfl (.inl rfl) (pe_op op_add (pe_op op_sub (pe_op op_mulW (pe_op op_mulW (pv 2) (pv 7)) (pv 7)) (pe_op op_mulW (pe_op op_mulW (pv 3) (pv 7)) (pv 6))) (pe_op op_mulW (pe_op op_mulW (pv 4) (pv 6)) (pv 6))))
      (pss_nrm (pss_cons (ps_set (i := 13) SC_changed.nd rfl (.inl rfl) (pe_op op_mulW (pe_callC C_sign (hr.mono (by decide)) rfl (pa_cons (pe_op op_sub (pe_op op_mulW (pv 6) (pv 9)) (pe_op op_mulW (pv 7) (pv 8))) pa_nil)) (pe_callC C_sign (hr.mono (by decide)) rfl (pa_cons (pv 10) pa_nil))))
      (pss_one (ps_ret (pe_callC C_low (hr.mono (by decide)) rfl (pa_cons (pv 10) (pa_cons (pv 11) (pa_cons (pv 12) (pa_cons (pe_op op_mulW (pv 5) (pv 13)) pa_nil)))))))))))))))), ?_⟩
    have W := ((Ho.start H).call (Same.refl H) hr1).call (Same.refl H) hq1
    have b1 := (c1_bd ba bb bc bs bt).mono (show 700 ≤ 800 by decide)
    have b2 := (c2_bd ba bb bc bm bn bs bt).mono (show 780 ≤ 800 by decide)
    have b3 := (c3_bd ba bb bc bm bn).mono (show 700 ≤ 800 by decide)
    walk_at "kw"
    refine ⟨c1 s t A B C, c2 m n s t A B C, c3 m n A B C, _, rfl, hne, b1, b2, b3, ?_⟩
    exact k
theorem ok_pb {f : Addr} {fd : FuncData} (F : Fun K "place_behind" "place_behind" S_place_behind f fd) (T : Txt K mg) (C_changed : FnC P w K mg base CX0 3 "changed" ["root", "numbers"] (sp_changed K)) (C_com : FnC P w K mg base CX0 1 "common" ["one", "other"] sp_com) : FnOk P w K mg base CX0 4 f fd ["numbers", "place"] (sp_pb K) := by
  refine F.ok SC_place_behind (fun vs H Q E h => ?_) (fun cdv A outer s H vs Q E hr h => ?_)
  · obtain ⟨q, p, m, n, s, t, pl, rfl, _⟩ := h
    rfl
  · obtain ⟨q, p, m, n, s, t, pl, rfl, hq, hp, ⟨bm, bn, bs, bt⟩, hpl, k⟩ := h
    refine ⟨_, (pss_cons (ps_if (pt_cmpR op_eq (pe_callB call_len_seq (by rfl) T.b_len (by decide +kernel) (pa_cons (pv 1) pa_nil)) pe_int (nomark _)) (pss_one (ps_ret (pe_callC C_changed (hr.mono (by decide)) rfl (pa_cons (pv 1) (pa_cons (pv 0) pa_nil))))) pss_nil)
      (pss_cons (ps_asg (pv 0) (pg_tup rfl (pgs_cons (pg_name (i := 2) SC_place_behind.nd rfl (.inl rfl)) (pgs_cons (pg_name (i := 3) SC_place_behind.nd rfl (.inl rfl)) (pgs_cons (pg_name (i := 4) SC_place_behind.nd rfl (.inl rfl)) (pgs_cons (pg_name (i := 5) SC_place_behind.nd rfl (.inl rfl)) pgs_nil))))))
      (pss_nrm (pss_cons (ps_par (i := 6) (j := 7) (by rfl) SC_place_behind.nd rfl rfl (by decide) rfl rfl (pa_cons (pe_op op_add (pe_op op_mulW (pv 2) (pe_ix ix_tup (pv 1) pe_int (fun _ _ => rfl))) (pe_op op_mulW (pv 3) (pe_ix ix_tup (pv 1) pe_int (fun _ _ => rfl)))) (pa_cons (pe_op op_add (pe_op op_mulW (pv 4) (pe_ix ix_tup (pv 1) pe_int (fun _ _ => rfl))) (pe_op op_mulW (pv 5) (pe_ix ix_tup (pv 1) pe_int (fun _ _ => rfl)))) pa_nil)) (by rfl))
      (pss_cons (ps_set (i := 8) SC_place_behind.nd rfl (.inl rfl) (pe_callC C_com (hr.mono (by decide)) rfl (pa_cons (pv 6) (pa_cons (pv 7) pa_nil))))
      (pss_nrm (pss_one (ps_ret (pe_tupN (pa_cons (pe_op op_fdivW (pv 6) (pv 8)) (pa_cons (pe_op op_fdivW (pv 7) (pv 8)) pa_nil))))))))))), ?_⟩
    cases hpl with
    | two bx b_y h =>
      rename_i x y
      have W := ((Ho.start H).call (Same.refl H) hq).call (o := .tup [.int x, .int y]) (Same.refl H) hp
      walk_at "kw"
      refine ifF rfl ?_
      have g0 : 0 < ((Int.gcd (m * x + n * y) (s * x + t * y) : Nat) : Int) := by
        have : Int.gcd (m * x + n * y) (s * x + t * y) ≠ 0 := fun e => by
          have := Int.gcd_eq_zero_iff.mp e
          omega
        omega
      walk_at "kw"
      rename_i t3 H3 f3 W3
      exact k t3 H3 f3 W3.sm (W3.get (.head _))
    | four ba bb bc bsd h =>
      rename_i A B C sd
      have W := ((Ho.start H).call (Same.refl H) hq).call (o := .tup [.int A, .int B, .int C, .int sd]) (Same.refl H) hp
      walk_at "kw"
      refine ifT rfl ?_
      walk_at "kw"
      exact ⟨p, q, A, B, C, sd, m, n, s, t, rfl, hp, hq, ⟨ba, bb, bc, bsd⟩, ⟨bm, bn, bs, bt⟩, h, k⟩
end

/-! ## the law's own numbers with roots -/
namespace Lr
def sp_lsr : Sp := fun vs H Q _ => ∃ a b c : Int, vs = [.int a, .int b, .int c] ∧ Bd 400 a ∧ Bd 400 b ∧ Bd 400 c ∧ 0 ≤ c ∧ Q (.int (swr a b c)) H
def isq (n : Int) : Prop := ∃ s : Int, 0 ≤ s ∧ s * s = n
def sp_lsq : Sp := fun vs H Q _ => ∃ n : Int, vs = [.int n] ∧ 0 ≤ n ∧ Bd 300 n ∧ (isq n → Q (.bl true) H) ∧ (¬ isq n → Q (.bl false) H)
def sp_lroot : Sp := fun vs H Q _ => ∃ (b : Addr) (m : Int), vs = [.ref b, .int m] ∧ BoxAt H b ∧ 0 < m ∧ m ≤ 1000 ∧ ∀ (t : Addr) (H' : Hp) (p q d r : Int), H t = none → t ≠ b → Keep b H H' → BoxAt H' b → H' t = some (.tup [.int p, .int q, .int d, .int r]) →
  -(m + 1) ≤ p → p ≤ m + 1 → -4 ≤ q → q ≤ 4 → 0 ≤ d → d ≤ 20 → 1 ≤ r → r ≤ 6 → 0 < swr p q d → Q (.ref t) H'
def sp_lfrac : Sp := fun vs H Q _ => ∃ (t : Addr) (p q d r : Int), vs = [.ref t] ∧ H t = some (.tup [.int p, .int q, .int d, .int r]) ∧ 0 ≤ d ∧ 0 < r ∧ (Bd 100 p ∧ Bd 100 q ∧ Bd 100 d ∧ Bd 100 r) ∧
  (q ≠ 0 → ¬ isq d → Q .non H) ∧ (∀ s, 0 ≤ s → s * s ≤ d → d < (s + 1) * (s + 1) → (q = 0 ∨ s * s = d) → New H (.tup [.int ((p + q * s) / (Int.gcd (p + q * s) r : Nat)), .int (r / (Int.gcd (p + q * s) r : Nat))]) Q)
def lst (p q d r : Int) : Prop := (q = 1 ∨ q = -1) ∧ 2 ≤ r ∧ r % 2 = 0 ∧ 2 ≤ d ∧ ¬ isq d ∧ (p * p - d) % (2 * r) = 0 ∧ Int.gcd (Int.gcd (r / 2) p) ((p * p - d) / (2 * r)) = 1
theorem sq_un {s t n : Int} (s0 : 0 ≤ s) (s1 : s * s ≤ n) (s2 : n < (s + 1) * (s + 1)) (t0 : 0 ≤ t) (t1 : t * t = n) : s * s = n := by
  rcases Int.lt_trichotomy s t with h | h | h
  · have : (s + 1) * (s + 1) ≤ t * t := Int.mul_le_mul (by omega) (by omega) (by omega) (by omega)
    omega
  · rw [h, t1]
  · have : (t + 1) * (t + 1) ≤ s * s := Int.mul_le_mul (by omega) (by omega) (by omega) (by omega)
    have e : (t + 1) * (t + 1) = t * t + 2 * t + 1 := by grind
    omega
end Lr
open Lr
--@walks
section
variable {P : Program} {w : World} {K : PySem.W.Frag} {mg : Str → Option Value} {base : Heap}
theorem ok_lsign {f : Addr} {fd : FuncData} (F : Fun K "_law_sign" "_law_sign" S__law_sign f fd) (T : Txt K mg) : FnOk P w K mg base CX0 1 f fd ["_law_number"] sp_sign := by
  refine F.ok SC__law_sign (fun vs H Q E h => ?_) (fun cdv A outer s H vs Q E hr h => ?_)
  · obtain ⟨i, rfl, _⟩ := h
    rfl
  · obtain ⟨i, rfl, q⟩ := h
    refine ⟨_, (pss_one (ps_ret (pe_op op_sub (pe_callTy call_intB (by rfl) T.b_int (by decide +kernel) (pa_cons (pe_cmpR op_gt (pv 0) pe_int (nomark _)) pa_nil)) (pe_callTy call_intB (by rfl) T.b_int (by decide +kernel) (pa_cons (pe_cmpR op_lt (pv 0) pe_int (nomark _)) pa_nil))))), ?_⟩
    walk_at "kw"
    exact q
theorem ok_lgcd {f : Addr} {fd : FuncData} (F : Fun K "_law_gcd" "_law_gcd" S__law_gcd f fd) (T : Txt K mg) : FnOk P w K mg base CX0 1 f fd ["_law_one", "_law_other"] sp_com := by
  refine F.ok SC__law_gcd (fun vs H Q E h => ?_) (fun cdv A outer s H vs Q E hr h => ?_)
  · obtain ⟨i, j, rfl, _⟩ := h
    rfl
  · obtain ⟨i, j, rfl, q⟩ := h
    refine ⟨_, (pss_cons (ps_par (i := 0) (j := 1) (by rfl) SC__law_gcd.nd rfl rfl (by decide) rfl rfl (pa_cons (pe_callB call_abs (by rfl) T.b_abs (by decide +kernel) (pa_cons (pv 0) pa_nil)) (pa_cons (pe_callB call_abs (by rfl) T.b_abs (by decide +kernel) (pa_cons (pv 1) pa_nil)) pa_nil)) (by rfl))
      (pss_cons (ps_while PassesOwn.never (pt_cmpR op_ne (pv 1) pe_int (nomark _)) (pss_one (ps_par (i := 0) (j := 1) (by rfl) SC__law_gcd.nd rfl rfl (by decide) rfl rfl (pa_cons (pv 1) (pa_cons (pe_op op_mod (pe_callTy call_intI (by rfl) T.b_int (by decide +kernel) (pa_cons (pv 0) pa_nil)) (pv 1)) pa_nil)) (by rfl))))
      (pss_one (ps_ret (pv 0))))), ?_⟩
    walk_at "kw"
    refine while_by (fun σ H' => H' = H ∧ ∃ x y : Int, 0 ≤ x ∧ 0 ≤ y ∧ Int.gcd x y = Int.gcd i j ∧ σ = [some (.int x), some (.int y)]) (fun σ _ => match σ with | [_, some (.int y)] => y.toNat | _ => 0)
      ⟨rfl, _, _, by omega, by omega, by show Nat.gcd _ _ = Nat.gcd _ _; congr 1 <;> split <;> omega, rfl⟩ (fun σ H1 hP => ?_) (fun σ H Q Q' h q => ?_)
    · obtain ⟨rfl, x, y, hx, hy, hg, rfl⟩ := hP
      walk_at "kw"
      refine ite2 (fun h => ?_) (fun h => ?_)
      · have hy0 : 0 < y := by
          have : y ≠ 0 := fun e => by subst e; exact absurd h (by decide)
          omega
        walk_at "kw"
        refine ⟨⟨rfl, y, x % y, by omega, Int.emod_nonneg _ (by omega), ?_, rfl⟩, ?_⟩
        · rw [← hg]; exact gcd_step hx hy
        · show (x % y).toNat < y.toNat
          have := Int.emod_lt_of_pos x hy0
          omega
      · have hy0 : y = 0 := by
          have : decide (V.int y = V.int 0) = true := by simpa using h
          exact V.int.inj (of_decide_eq_true this)
        subst hy0
        refine ⟨_, rfl, ?_⟩
        have e : x = ((Int.gcd i j : Nat) : Int) := by rw [← hg, Int.gcd_zero_right]; omega
        rw [e]
        exact q
    · obtain ⟨v, h1, e, v2, e2, q⟩ := q
      exact ⟨v, h1, e, v2, e2, h _ _ q⟩
theorem ok_lsr {f : Addr} {fd : FuncData} (F : Fun K "_law_sign_root" "_law_sign_root" S__law_sign_root f fd) (T : Txt K mg) (C_lsign : FnC P w K mg base CX0 1 "_law_sign" ["_law_number"] sp_sign) : FnOk P w K mg base CX0 2 f fd ["_law_one", "_law_times", "_law_inner"] sp_lsr := by
  refine F.ok SC__law_sign_root (fun vs H Q E h => ?_) (fun cdv A outer s H vs Q E hr h => ?_)
  · obtain ⟨a, b, c, rfl, _⟩ := h
    rfl
  · obtain ⟨a, b, c, rfl, ba, bb, bc, c0, q⟩ := h
    refine ⟨_, (pss_cons (ps_par (i := 3) (j := 4) (by rfl) SC__law_sign_root.nd rfl rfl (by decide) rfl rfl (pa_cons (pe_callC C_lsign hr rfl (pa_cons (pv 0) pa_nil)) (pa_cons (pe_op op_mulW (pe_callC C_lsign hr rfl (pa_cons (pv 1) pa_nil)) (pe_callTy call_intB (by rfl) T.b_int (by decide +kernel) (pa_cons (pe_cmpR op_gt (pv 2) pe_int (nomark _)) pa_nil))) pa_nil)) (by rfl))
      (pss_cons (ps_if (PW.pt (pw_or (pt_cmpR op_eq (pv 3) (pv 4) (nomark _)) (pw_or1 (pt_cmpR op_eq (pv 4) pe_int (nomark _))))) (pss_one (ps_ret (pv 3))) pss_nil)
      (pss_cons (ps_if (pt_cmpR op_eq (pv 3) pe_int (nomark _)) (pss_one (ps_ret (pv 4))) pss_nil)
      (pss_one (ps_ret (pe_op op_mulW (pv 3) (pe_callC C_lsign hr rfl (pa_cons (pe_op op_sub (pe_op op_mulW (pv 0) (pv 0)) (pe_op op_mulW (pe_op op_mulW (pv 1) (pv 1)) (pv 2))) pa_nil)))))))), ?_⟩
    have ec : sg c = (if decide (0 < c) = true then 1 else 0) := by
      rcases sg_c c with ⟨h1, h2⟩ | ⟨h1, h2⟩ | ⟨h1, h2⟩
      · rw [h2, decide_eq_true h1]; rfl
      · rw [h2, h1]; rfl
      · omega
    have b01 : Bd 64 (if decide (0 < c) = true then 1 else 0 : Int) := by split <;> exact Bd.lit (by decide)
    unfold swr at q
    rw [ec] at q
    walk_at "kw"
    refine ite2 (fun h => ?_) (fun h => ?_)
    · rw [if_pos (.inl (V.int.inj (of_decide_eq_true h)))] at q
      exact ⟨_, rfl, q⟩
    have n1 : ¬ sg a = sg b * (if decide (0 < c) = true then 1 else 0) := fun e => h (decide_eq_true (congrArg V.int e))
    walk_at "kw"
    refine ite2 (fun h => ?_) (fun h => ?_)
    · rw [if_pos (.inr (V.int.inj (of_decide_eq_true h)))] at q
      exact ⟨_, rfl, q⟩
    have n2 : ¬ sg b * (if decide (0 < c) = true then 1 else 0) = 0 := fun e => h (decide_eq_true (congrArg V.int e))
    rw [if_neg (fun z => z.elim n1 n2)] at q
    walk_at "kw"
    refine ite2 (fun h => ?_) (fun h => ?_)
    · rw [if_pos (V.int.inj (of_decide_eq_true h))] at q
      exact ⟨_, rfl, q⟩
    rw [if_neg (fun e => h (decide_eq_true (congrArg V.int e)))] at q
    walk_at "kw"
    exact q
theorem ok_lwr {f : Addr} {fd : FuncData} (F : Fun K "_law_whole_root" "_law_whole_root" S__law_whole_root f fd) (T : Txt K mg) : FnOk P w K mg base CX0 1 f fd ["_law_number"] sp_wr := by
  refine F.ok SC__law_whole_root (fun vs H Q E h => ?_) (fun cdv A outer s H vs Q E hr h => ?_)
  · obtain ⟨n, rfl, _⟩ := h
    rfl
  · obtain ⟨n, rfl, n0, bn, q⟩ := h
    refine ⟨_, (pss_cons (ps_par (i := 1) (j := 2) (by rfl) SC__law_whole_root.nd rfl rfl (by decide) rfl rfl (pa_cons pe_int (pa_cons (pe_op op_add (pv 0) pe_int) pa_nil)) (by rfl))
      (pss_cons (ps_while PassesOwn.never (pt_cmpR op_gt (pe_op op_sub (pv 2) (pv 1)) pe_int (nomark _)) (pss_cons (ps_set (i := 3) SC__law_whole_root.nd rfl (.inl rfl) (pe_op op_fdivW (pe_op op_add (pv 1) (pv 2)) pe_int))
      (pss_one (ps_if (pt_cmpR op_le (pe_op op_mulW (pv 3) (pv 3)) (pv 0) (nomark _)) (pss_one (ps_set (i := 1) SC__law_whole_root.nd rfl (.inl rfl) (pv 3))) (pss_one (ps_set (i := 2) SC__law_whole_root.nd rfl (.inl rfl) (pv 3)))))))
      (pss_one (ps_ret (pv 1))))), ?_⟩
    walk_at "kw"
    refine while_by (fun σ H' => H' = H ∧ ∃ (lo hi : Int) (x : Option V), 0 ≤ lo ∧ lo < hi ∧ hi ≤ n + 1 ∧ lo * lo ≤ n ∧ n < hi * hi ∧ σ = [some (.int n), some (.int lo), some (.int hi), x]) (fun σ _ => match σ with | [_, some (.int lo), some (.int hi), _] => (hi - lo).toNat | _ => 0)
      ⟨rfl, 0, n + 1, none, by omega, by omega, by omega, by omega, ?_, rfl⟩ (fun σ H1 hP => ?_) (fun σ H Q Q' h q => ?_)
    · have e : (n + 1) * (n + 1) = n * n + 2 * n + 1 := by grind
      have : 0 ≤ n * n := Int.mul_nonneg n0 n0
      omega
    · obtain ⟨rfl, lo, hi, x, l0, lh, hn, h1, h2, rfl⟩ := hP
      have bm : Bd 400 ((lo + hi) / 2) := by unfold Bd at bn ⊢; generalize 2 ^ 400 = z at bn ⊢; omega
      walk_at "kw"
      refine ite2 (fun h => ?_) (fun h => ?_)
      · have hg : 1 < hi - lo := of_decide_eq_true h
        walk_at "kw"
        refine ite2 (fun h => ?_) (fun h => ?_)
        · have hm := of_decide_eq_true h
          walk_at "kw"
          refine ⟨⟨rfl, _, _, _, by omega, by omega, hn, hm, h2, rfl⟩, ?_⟩
          show (hi - (lo + hi) / 2).toNat < (hi - lo).toNat
          omega
        · have hm : ¬ (lo + hi) / 2 * ((lo + hi) / 2) ≤ n := fun e => h (decide_eq_true e)
          walk_at "kw"
          refine ⟨⟨rfl, _, _, _, l0, by omega, by omega, h1, by omega, rfl⟩, ?_⟩
          show ((lo + hi) / 2 - lo).toNat < (hi - lo).toNat
          omega
      · have hg : ¬ 1 < hi - lo := fun e => h (decide_eq_true e)
        walk_at "kw"
        have e : hi = lo + 1 := by omega
        subst e
        exact q lo l0 h1 h2
    · obtain ⟨v, h1, v2, h2, i, j, e1, e2, i', j', e3, e4, k, e5, q⟩ := q
      exact ⟨v, h1, v2, h2, i, j, e1, e2, i', j', e3, e4, k, e5, h _ _ q⟩
theorem ok_lsq {f : Addr} {fd : FuncData} (F : Fun K "_law_is_square" "_law_is_square" S__law_is_square f fd) (T : Txt K mg) (C_lwr : FnC P w K mg base CX0 1 "_law_whole_root" ["_law_number"] sp_wr) : FnOk P w K mg base CX0 2 f fd ["_law_number"] sp_lsq := by
  refine F.ok SC__law_is_square (fun vs H Q E h => ?_) (fun cdv A outer s H vs Q E hr h => ?_)
  · obtain ⟨n, rfl, _⟩ := h
    rfl
  · obtain ⟨n, rfl, n0, bn, yes, no⟩ := h
    refine ⟨_, (pss_one (ps_ret (pe_cmpR op_eq (pe_op op_mulW (pe_callC C_lwr hr rfl (pa_cons (pv 0) pa_nil)) (pe_callC C_lwr hr rfl (pa_cons (pv 0) pa_nil))) (pv 0) (nomark _)))), ?_⟩
    have bn' := bn.mono (show 300 ≤ 400 by decide)
    have bs : ∀ s : Int, 0 ≤ s → s * s ≤ n → Bd 400 s := fun s s0 s1 => by
      have : s * 1 ≤ s * s ∨ s = 0 := by
        by_cases e : s = 0
        · exact .inr e
        · exact .inl (Int.mul_le_mul_of_nonneg_left (by omega) s0)
      unfold Bd at *
      generalize 2 ^ 400 = z at *
      rcases this with h1 | h1 <;> omega
    walk_at "kw"
    intro s s0 s1 s2
    walk_at "kw"
    intro t t0 t1 t2
    have b1 := bs s s0 s1
    have b2 := bs t t0 t1
    walk_at "kw"
    have e : s = t := by
      rcases Int.lt_trichotomy s t with h | h | h
      · have : (s + 1) * (s + 1) ≤ t * t := Int.mul_le_mul (by omega) (by omega) (by omega) (by omega)
        omega
      · exact h
      · have : (t + 1) * (t + 1) ≤ s * s := Int.mul_le_mul (by omega) (by omega) (by omega) (by omega)
        omega
    subst e
    by_cases c : s * s = n
    · rw [decide_eq_true (congrArg V.int c)]
      exact yes ⟨s, s0, c⟩
    · rw [decide_eq_false (fun e => c (V.int.inj e))]
      exact no fun ⟨t, t0, t1⟩ => c (sq_un s0 s1 s2 t0 t1)
end
--@*

namespace Lr
theorem ds14 {k : Int} (h0 : 0 ≤ k) (h : k < 14) : ∃ v : Int, atI [V.int 2, .int 3, .int 5, .int 6, .int 7, .int 8, .int 10, .int 12, .int 13, .int 20, .int 0, .int 1, .int 4, .int 9] k = some (.int v) ∧ 0 ≤ v ∧ v ≤ 20 := by
  have : k = 0 ∨ k = 1 ∨ k = 2 ∨ k = 3 ∨ k = 4 ∨ k = 5 ∨ k = 6 ∨ k = 7 ∨ k = 8 ∨ k = 9 ∨ k = 10 ∨ k = 11 ∨ k = 12 ∨ k = 13 := by omega
  rcases this with rfl | rfl | rfl | rfl | rfl | rfl | rfl | rfl | rfl | rfl | rfl | rfl | rfl | rfl <;> exact ⟨_, rfl, by decide, by decide⟩
theorem swr_pos {p q d : Int} (hp : 0 < p) (hq : 0 ≤ q) (hd : 0 ≤ d) : 0 < swr p q d := by
  unfold swr
  rw [sg_p hp]
  rcases sg_c q with ⟨h1, h2⟩ | ⟨h1, h2⟩ | ⟨h1, h2⟩
  · rcases sg_c d with ⟨g1, g2⟩ | ⟨g1, g2⟩ | ⟨g1, g2⟩
    · rw [h2, g2, if_pos (.inl rfl)]; decide
    · rw [h2, g2, if_pos (.inr rfl)]; decide
    · omega
  · rw [h2, Int.zero_mul, if_pos (.inr rfl)]; decide
  · omega
theorem bd_small {i : Int} (h0 : -100000 ≤ i) (h1 : i ≤ 100000) : Bd 60 i := by
  have : i.natAbs < 2 ^ 60 := Nat.lt_of_lt_of_le (show i.natAbs < 1000000 by omega) (by decide)
  exact this
end Lr
--@walks
section
variable {P : Program} {w : World} {K : PySem.W.Frag} {mg : Str → Option Value} {base : Heap}
theorem ok_lroot {f : Addr} {fd : FuncData} (F : Fun K "_law_root" "_law_root" S__law_root f fd) (T : Txt K mg) (C_take : FnC P w K mg base CX0 1 "_law_take" ["_law_box_here", "_law_many"] sp_take) (C_lsr : FnC P w K mg base CX0 2 "_law_sign_root" ["_law_one", "_law_times", "_law_inner"] sp_lsr) : FnOk P w K mg base CX0 3 f fd ["_law_box_here", "_law_most"] sp_lroot := by
  refine F.ok SC__law_root (fun vs H Q E h => ?_) (fun cdv A outer s H vs Q E hr h => ?_)
  · obtain ⟨b, m, rfl, _⟩ := h
    rfl
  · obtain ⟨b, m, rfl, hb, m0, m1, k⟩ := h
    refine ⟨_, (pss_cons (ps_par (i := 2) (j := 3) (by rfl) SC__law_root.nd rfl rfl (by decide) rfl rfl (pa_cons (pe_op op_sub (pe_callC C_take (hr.mono (by decide)) rfl (pa_cons (pv 0) (pa_cons (pe_op op_add (pe_op op_mulW pe_int (pv 1)) pe_int) pa_nil))) (pv 1)) (pa_cons (pe_op op_sub (pe_callC C_take (hr.mono (by decide)) rfl (pa_cons (pv 0) (pa_cons pe_int pa_nil))) pe_int) pa_nil)) (by rfl))
      (pss_cons (ps_par (i := 4) (j := 5) (by rfl) SC__law_root.nd rfl rfl (by decide) rfl rfl (pa_cons (pe_ix ix_list (pe_lstN (pa_cons pe_int (pa_cons pe_int (pa_cons pe_int (pa_cons pe_int (pa_cons pe_int (pa_cons pe_int (pa_cons pe_int (pa_cons pe_int (pa_cons pe_int (pa_cons pe_int (pa_cons pe_int (pa_cons pe_int (pa_cons pe_int (pa_cons pe_int pa_nil))))))))))))))) (pe_callC C_take (hr.mono (by decide)) rfl (pa_cons (pv 0) (pa_cons pe_int pa_nil))) (fun _ _ => rfl)) (pa_cons (pe_op op_add pe_int (pe_callC C_take (hr.mono (by decide)) rfl (pa_cons (pv 0) (pa_cons pe_int pa_nil)))) pa_nil)) (by rfl))
      (pss_mid (ps_if (pt_cmpR op_le (pe_callC C_lsr (hr.mono (by decide)) rfl (pa_cons (pv 2) (pa_cons (pv 3) (pa_cons (pv 4) pa_nil)))) pe_int (nomark _)) (pss_one (ps_par (i := 2) (j := 3) (by rfl) SC__law_root.nd rfl rfl (by decide) rfl rfl (pa_cons (pe_op op_add (pe_callB call_abs (by rfl) T.b_abs (by decide +kernel) (pa_cons (pv 2) pa_nil)) pe_int) (pa_cons (pe_callB call_abs (by rfl) T.b_abs (by decide +kernel) (pa_cons (pv 3) pa_nil)) pa_nil)) (by rfl))) pss_nil)
      (pss_one (ps_ret (pe_tupN (pa_cons (pv 2) (pa_cons (pv 3) (pa_cons (pv 4) (pa_cons (pv 5) pa_nil)))))))))), ?_⟩
    have W0 := Wo.start hb
    have c2 : (-(2 ^ 64 : Int) < 2 ∧ (2 : Int) < 2 ^ 64) ∧ (-(2 ^ 64 : Int) < m ∧ m < 2 ^ 64) := by omega
    have bm : Bd 60 m := bd_small (by omega) (by omega)
    walk_at "kw"
    intro d1 H1 d10 d11 kp1 hb1
    have W1 := W0.keep kp1 hb1
    walk_at "kw"
    intro d2 H2 d20 d21 kp2 hb2
    have W2 := W1.keep kp2 hb2
    walk_at "kw"
    rename_i t3 H3 f3 W3
    refine ⟨W3.box, by decide, by decide, fun d4 H4 d40 d41 kp4 hb4 => ?_⟩
    have W4 := W3.keep kp4 hb4
    obtain ⟨d, hat, d0, d1'⟩ := ds14 d40 d41
    refine ⟨t3, _, d4, _, rfl, rfl, SqL.of (W4.get (.head _)), hat, ?_⟩
    walk_at "kw"
    intro d5 H5 d50 d51 kp5 hb5
    have W5 := W4.tl.keep kp5 hb5
    walk_at "kw"
    have bp : Bd 60 (d1 - m) := bd_small (by omega) (by omega)
    have bq : Bd 60 (d2 - 4) := bd_small (by omega) (by omega)
    have bd : Bd 60 d := bd_small (by omega) (by omega)
    refine ⟨fun σ' H' => H' = H5 ∧ ∃ p q : Int, (-(m + 1) ≤ p ∧ p ≤ m + 1) ∧ (-4 ≤ q ∧ q ≤ 4) ∧ 0 < swr p q d ∧ σ' = [some (.ref b), some (.int m), some (.int p), some (.int q), some (.int d), some (.int (1 + d5))], ?_, fun σ1 H6 z => ?_⟩
    · walk_at "kw"
      refine ite2 (fun h => ?_) (fun h => ?_)
      · walk_at "kw"
        refine ⟨_, _, ⟨?_, ?_⟩, ⟨?_, ?_⟩, ?_, rfl⟩
        · split <;> omega
        · split <;> omega
        · split <;> omega
        · split <;> omega
        · refine swr_pos ?_ ?_ d0
          · split <;> omega
          · split <;> omega
      · have h' : ¬ swr (d1 - m) (d2 - 4) d ≤ 0 := fun e => h (decide_eq_true e)
        walk_at "kw"
        exact ⟨rfl, _, _, ⟨by omega, by omega⟩, ⟨by omega, by omega⟩, by omega, rfl⟩
    obtain ⟨rfl, p, q, ⟨p0, p1⟩, ⟨q0, q1⟩, w0, rfl⟩ := z
    walk_at "kw"
    rename_i t7 H7 f7 W7
    exact k t7 H7 p q d (1 + d5) f7 (W7.ne (.head _)) W7.kp W7.box (W7.get (.head _)) p0 p1 q0 q1 d0 d1' (by omega) (by omega) w0
theorem ok_lfrac {f : Addr} {fd : FuncData} (F : Fun K "_law_fraction" "_law_fraction" S__law_fraction f fd) (T : Txt K mg) (C_lsq : FnC P w K mg base CX0 2 "_law_is_square" ["_law_number"] sp_lsq) (C_lwr : FnC P w K mg base CX0 1 "_law_whole_root" ["_law_number"] sp_wr) (C_lgcd : FnC P w K mg base CX0 1 "_law_gcd" ["_law_one", "_law_other"] sp_com) : FnOk P w K mg base CX0 3 f fd ["_law_given"] sp_lfrac := by
  refine F.ok SC__law_fraction (fun vs H Q E h => ?_) (fun cdv A outer s H vs Q E hr h => ?_)
  · obtain ⟨t, p, q, d, r, rfl, _⟩ := h
    rfl
  · obtain ⟨t, p, q, d, r, rfl, ht, d0, r0, ⟨bp, bq, bd, br⟩, no, yes⟩ := h
    refine ⟨_, (pss_cons (ps_asg (pv 0) (pg_tup rfl (pgs_cons (pg_name (i := 1) SC__law_fraction.nd rfl (.inl rfl)) (pgs_cons (pg_name (i := 2) SC__law_fraction.nd rfl (.inl rfl)) (pgs_cons (pg_name (i := 3) SC__law_fraction.nd rfl (.inl rfl)) (pgs_cons (pg_name (i := 4) SC__law_fraction.nd rfl (.inl rfl)) pgs_nil))))))
      (pss_cons (ps_if (PW.pt (pw_and (pt_cmpR op_ne (pv 2) pe_int (nomark _)) (pw_and1 (pt_not (pt_val (pe_callC C_lsq (hr.mono (by decide)) rfl (pa_cons (pv 3) pa_nil))))))) (pss_one (ps_ret pe_non)) pss_nil)
      (pss_cons (ps_set (i := 5) SC__law_fraction.nd rfl (.inl rfl) (pe_op op_add (pv 1) (pe_op op_mulW (pv 2) (pe_callC C_lwr (hr.mono (by decide)) rfl (pa_cons (pv 3) pa_nil)))))
      (pss_cons (ps_set (i := 6) SC__law_fraction.nd rfl (.inl rfl) (pe_callC C_lgcd (hr.mono (by decide)) rfl (pa_cons (pv 5) (pa_cons (pv 4) pa_nil))))
      (pss_one (ps_ret (pe_tupN (pa_cons (pe_op op_fdivW (pv 5) (pv 6)) (pa_cons (pe_op op_fdivW (pv 4) (pv 6)) pa_nil))))))))), ?_⟩
    have W0 := (Ho.start H).call (Same.refl H) ht
    have bd3 := bd.mono (show 100 ≤ 300 by decide)
    have fin : (q = 0 ∨ isq d) → True := fun _ => trivial
    walk_at "kw"
    refine ite2 (fun h => ?_) (fun h => ?_)
    · have q0 : q ≠ 0 := fun e => by subst e; exact absurd h (by decide)
      walk_at "kw"
      refine ⟨fun hi => ?_, fun hn => ?_⟩
      · walk_at "kw"
        refine ifF rfl ?_
        walk_at "kw"
        obtain ⟨t', t0, t1⟩ := hi
        intro s s0 s1 s2
        have bs := sq_bd s0 s1 bd
        have g0 : 0 < ((Int.gcd (p + q * s) r : Nat) : Int) := by
          have := Int.gcd_pos_of_ne_zero_right (p + q * s) (show r ≠ 0 by omega)
          omega
        walk_at "kw"
        rename_i t9 H9 f9 W9
        exact yes s s0 s1 s2 (.inr (sq_un s0 s1 s2 t0 t1)) t9 H9 f9 W9.sm (W9.get (.head _))
      · walk_at "kw"
        refine ifT rfl ?_
        exact no q0 hn
    · have q0 : q = 0 := by
        have : decide (V.int q = V.int 0) = true := by simpa using h
        exact V.int.inj (of_decide_eq_true this)
      walk_at "kw"
      intro s s0 s1 s2
      have bs := sq_bd s0 s1 bd
      have g0 : 0 < ((Int.gcd (p + q * s) r : Nat) : Int) := by
        have := Int.gcd_pos_of_ne_zero_right (p + q * s) (show r ≠ 0 by omega)
        omega
      walk_at "kw"
      rename_i t9 H9 f9 W9
      exact yes s s0 s1 s2 (.inl q0) t9 H9 f9 W9.sm (W9.get (.head _))
end
--@*

/-! ## the one form of a number with a root -/
namespace K10
theorem isq_mul {m n : Int} (hm : m ≠ 0) (h : isq (m * m * n)) (hn : 0 ≤ n) : isq n := by
  obtain ⟨s, s0, hs⟩ := h
  have hd : m * m ∣ s * s := ⟨n, hs⟩
  have hd2 : m.natAbs * m.natAbs ∣ s.natAbs * s.natAbs := by
    have := Int.natAbs_dvd_natAbs.mpr hd
    rwa [Int.natAbs_mul, Int.natAbs_mul] at this
  have hd3 : m.natAbs ∣ s.natAbs := by
    have := (Nat.pow_dvd_pow_iff (a := m.natAbs) (b := s.natAbs) (n := 2) (by decide)).mp (by rw [Nat.pow_two, Nat.pow_two]; exact hd2)
    exact this
  obtain ⟨k, hk⟩ := hd3
  refine ⟨(k : Int), Int.natCast_nonneg _, ?_⟩
  have e1 : s * s = m * m * ((k : Int) * k) := by
    have h1 : ((s.natAbs : Int)) * s.natAbs = s * s := Int.natAbs_mul_self' s |>.trans rfl
    have h2 : ((m.natAbs : Int)) * m.natAbs = m * m := Int.natAbs_mul_self' m |>.trans rfl
    have h3 : (s.natAbs : Int) = m.natAbs * k := by rw [hk]; exact Int.natCast_mul _ _
    rw [← h1, ← h2, h3]
    grind
  have hm2 : m * m ≠ 0 := fun e => hm (by
    rcases Int.mul_eq_zero.mp e with h | h <;> exact h)
  exact Int.eq_of_mul_eq_mul_left hm2 (by rw [← e1, hs])
structure Red (A B C a b c : Int) (f : Int) : Prop where
  f0 : 0 < f
  ha : f * a = A
  hb : f * b = B
  hc : f * c = C
  g : Int.gcd (Int.gcd a b) c = 1
theorem red {A B C : Int} (hA : A ≠ 0) : ∃ f : Int, 0 < f ∧ (Int.gcd (Int.gcd A B) C : Int) = f ∧ Red A B C (A / f) (B / f) (C / f) f := by
  have g0 : Int.gcd A B ≠ 0 := fun e => hA (Int.gcd_eq_zero_iff.mp e).1
  have f0 : 0 < (Int.gcd (Int.gcd A B : Int) C : Int) := by
    have : Int.gcd (Int.gcd A B : Int) C ≠ 0 := fun e => by
      have := (Int.gcd_eq_zero_iff.mp e).1
      omega
    omega
  refine ⟨_, f0, rfl, f0, ?_, ?_, ?_, ?_⟩
  · exact Int.mul_ediv_cancel' (Int.dvd_trans (Int.gcd_dvd_left _ _) (Int.gcd_dvd_left _ _))
  · exact Int.mul_ediv_cancel' (Int.dvd_trans (Int.gcd_dvd_left _ _) (Int.gcd_dvd_right _ _))
  · exact Int.mul_ediv_cancel' (Int.gcd_dvd_right _ _)
  · have hd : (Int.gcd (Int.gcd A B : Int) C : Int) ∣ (Int.gcd A B : Int) := Int.gcd_dvd_left _ _
    have hc : (Int.gcd (Int.gcd A B : Int) C : Int) ∣ C := Int.gcd_dvd_right _ _
    have e1 := Int.gcd_ediv (Int.dvd_trans hd (Int.gcd_dvd_left A B)) (Int.dvd_trans hd (Int.gcd_dvd_right A B))
    rw [e1]
    rw [Int.natAbs_natCast, Int.natCast_ediv]
    have e2 := Int.gcd_ediv hd hc
    rw [e2, Int.natAbs_natCast]
    exact Nat.div_self (by omega)
theorem lwd_pos {A B C s : Int} (hA : 0 < A) : ∃ a b c f : Int, Red A B C a b c f ∧ ((∀ n, Bd n A → Bd n a) ∧ (∀ n, Bd n B → Bd n b) ∧ (∀ n, Bd n C → Bd n c)) ∧ lwd A B C s = [a, b, c, s] := by
  obtain ⟨f, f0, e, r⟩ := red (A := A) (B := B) (C := C) (by omega)
  refine ⟨_, _, _, f, r, ⟨fun n h => h.div f, fun n h => h.div f, fun n h => h.div f⟩, ?_⟩
  unfold lwd lwf
  rw [if_neg (by omega), e, Int.fdiv_eq_ediv_of_nonneg A (by omega), Int.fdiv_eq_ediv_of_nonneg B (by omega), Int.fdiv_eq_ediv_of_nonneg C (by omega)]
theorem mul_can {f x y : Int} (h : 0 < f) (e : f * x = f * y) : x = y := Int.eq_of_mul_eq_mul_left (by omega) e
/-- what a number with a root is brought to -/
theorem least {p q d r a b c f s : Int} (h : Red (r * r) (-2 * p * r) (p * p - q * q * d) a b c f) (r0 : 0 < r) (q0 : q ≠ 0) (d0 : 0 ≤ d) (dn : ¬ isq d) (hs : s = 1 ∨ s = -1) :
    lst (0 - b) s (b * b - 4 * a * c) (2 * a) := by
  have rr : 0 < r * r := Int.mul_pos r0 r0
  have a1 : 1 ≤ a := by
    have : 0 < a := Int.pos_of_mul_pos_right (by rw [h.ha]; exact rr) h.f0 |> fun h => h
    omega
  have eD : f * f * (b * b - 4 * a * c) = (2 * q * r) * (2 * q * r) * d := by
    have h1 := h.ha
    have h2 := h.hb
    have h3 := h.hc
    have : f * f * (b * b - 4 * a * c) = (f * b) * (f * b) - 4 * (f * a) * (f * c) := by grind
    rw [this, h1, h2, h3]
    grind
  have dpos : 0 < d := by
    rcases Int.lt_or_eq_of_le d0 with h | h
    · exact h
    · exact absurd ⟨0, by decide, by rw [← h]; rfl⟩ dn
  have hqr : 2 * q * r ≠ 0 := fun e => by
    rcases Int.mul_eq_zero.mp e with h | h <;> omega
  have sqp : 0 < (2 * q * r) * (2 * q * r) := by
    rcases Int.lt_trichotomy (2 * q * r) 0 with h | h | h
    · exact Int.mul_pos_of_neg_of_neg h h
    · exact absurd h hqr
    · exact Int.mul_pos h h
  have ff : 0 < f * f := Int.mul_pos h.f0 h.f0
  have Dp : 0 < b * b - 4 * a * c := by
    have : 0 < f * f * (b * b - 4 * a * c) := by rw [eD]; exact Int.mul_pos sqp dpos
    exact Int.pos_of_mul_pos_right this ff |> fun h => h
  have Dn : ¬ isq (b * b - 4 * a * c) := fun ⟨t, t0, ht⟩ => by
    refine dn (isq_mul hqr ⟨f * t, Int.mul_nonneg (Int.le_of_lt h.f0) t0, ?_⟩ d0)
    rw [← eD, ← ht]
    grind
  have e3 : (0 - b) * (0 - b) - (b * b - 4 * a * c) = 2 * (2 * a) * c := by grind
  refine ⟨hs, by omega, by omega, ?_, Dn, ?_, ?_⟩
  · rcases Int.lt_or_le (b * b - 4 * a * c) 2 with h | h
    · exact absurd ⟨1, by decide, by omega⟩ Dn
    · exact h
  · rw [e3]; exact Int.mul_emod_right _ _
  · rw [e3, Int.mul_ediv_cancel_left _ (show (2 : Int) ≠ 0 by decide), Int.mul_ediv_cancel_left _ (show 2 * (2 * a) ≠ 0 by omega)]
    have : Int.gcd a (0 - b) = Int.gcd a b := by rw [Int.zero_sub, Int.gcd_neg]
    rw [this]
    exact h.g
theorem same {p q d r a b c f : Int} (h : Red (r * r) (-2 * p * r) (p * p - q * q * d) a b c f) (r0 : 0 < r) (q0 : q ≠ 0) :
    (0 - b) * r = p * (2 * a) ∧ sg (if 0 < q then 1 else -1) * sg (2 * a) = sg q * sg r ∧ (if 0 < q then 1 else -1) * (if 0 < q then 1 else -1) * (b * b - 4 * a * c) * r * r = q * q * d * (2 * a) * (2 * a) := by
  have h1 := h.ha
  have h2 := h.hb
  have h3 := h.hc
  have rr : 0 < r * r := Int.mul_pos r0 r0
  have a1 : 0 < a := Int.pos_of_mul_pos_right (by rw [h.ha]; exact rr) h.f0 |> fun h => h
  refine ⟨mul_can h.f0 ?_, ?_, mul_can (Int.mul_pos h.f0 h.f0) ?_⟩
  · have e : f * ((0 - b) * r) = -((f * b) * r) := by grind
    have e2 : f * (p * (2 * a)) = 2 * p * (f * a) := by grind
    rw [e, e2, h1, h2]
    grind
  · rw [sg_p (show 0 < 2 * a by omega), sg_p r0]
    rcases Int.lt_trichotomy q 0 with hq | hq | hq
    · rw [if_neg (by omega), sg_n hq]; rfl
    · exact absurd hq q0
    · rw [if_pos hq, sg_p hq]; rfl
  · have es : (if 0 < q then (1 : Int) else -1) * (if 0 < q then 1 else -1) = 1 := by split <;> rfl
    rw [es]
    have e : f * f * (1 * (b * b - 4 * a * c) * r * r) = ((f * b) * (f * b) - 4 * (f * a) * (f * c)) * r * r := by grind
    have e2 : f * f * (q * q * d * (2 * a) * (2 * a)) = q * q * d * 4 * (f * a) * (f * a) := by grind
    rw [e, e2, h1, h2, h3]
    grind
theorem nrm_pos {r p : Int} (h : 0 < r) : nrm r p = p := by unfold nrm; rw [if_neg (by omega)]
/-- a fraction in lowest terms -/
theorem frac_low {x r : Int} (hx : 0 < x) (hr : 0 < r) : 1 ≤ x / (Int.gcd x r : Nat) ∧ 1 ≤ r / (Int.gcd x r : Nat) ∧ Int.gcd (x / (Int.gcd x r : Nat)) (r / (Int.gcd x r : Nat)) = 1 := by
  have g0 : 0 < Int.gcd x r := Int.gcd_pos_of_ne_zero_left r (by omega)
  have h1 := Int.mul_ediv_cancel' (a := ((Int.gcd x r : Nat) : Int)) (b := x) (Int.gcd_dvd_left _ _)
  have h2 := Int.mul_ediv_cancel' (a := ((Int.gcd x r : Nat) : Int)) (b := r) (Int.gcd_dvd_right _ _)
  refine ⟨?_, ?_, ?_⟩
  · have : 0 < x / (Int.gcd x r : Nat) := Int.pos_of_mul_pos_right (by rw [h1]; exact hx) (by omega) |> fun h => h
    omega
  · have : 0 < r / (Int.gcd x r : Nat) := Int.pos_of_mul_pos_right (by rw [h2]; exact hr) (by omega) |> fun h => h
    omega
  · rw [Int.gcd_ediv (Int.gcd_dvd_left _ _) (Int.gcd_dvd_right _ _), Int.natAbs_natCast]
    exact Nat.div_self g0
end K10
open K10
namespace K10
def sp_law (K : PySem.W.Frag) : Sp := fun vs H Q _ => ∃ (a : Addr) (ns : List Int), vs = [.ref a] ∧ SqL K H a (ns.map V.int) ∧ ns.length ≤ 63 ∧ ∀ H', Q (.bl true) H'
/-- Edge.root of four right numbers -/
theorem erootH {CE IE : Addr} {K : PySem.W.Frag} {H : Hp} {Q : VK} {E : XK} {p q d r : Int} (b : Bd 100 p ∧ Bd 100 q ∧ Bd 100 d ∧ Bd 100 r) (d0 : 0 ≤ d) (r0 : r ≠ 0) (w : 0 < swr (nrm r p) (nrm r q) d)
    (k : ∀ s, 0 ≤ s → s * s ≤ d → d < (s + 1) * (s + 1) → ∀ e H', H e = none → Same H H' → EdgeAt CE H' e (rootPl (nrm r p) (nrm r q) d (nrm r r) s) → Q (.ref e) H') : Kb.calm (sp_eroot CE IE K) [.ref CE, .int p, .int q, .int d, .int r] H Q E := by
  refine ⟨_, _, _, _, rfl, ⟨.int _, .int _, .int _, .int _⟩, fun p' q' d' r' h1 h2 h3 h4 => ?_, fun h => nomatch h⟩
  cases h1; cases h2; cases h3; cases h4
  exact ⟨b, fun hb => absurd hb (by omega), fun _ _ _ => k⟩
end K10
/-! ## operators of edges, in short -/
namespace Eh
section
variable {K : PySem.W.Frag} {mg : Str → Option Value} {CE e g : Addr} {pl pl' : List Int} {H : Hp} {Q : VK}
theorem eqE (Re : EdgT K mg CE) (he : EdgeAt CE H e pl) (hg : EdgeAt CE H g pl') (k : Q (.bl (decide (pl = pl'))) H) : rOwnI K CE (sp_eeq CE) E0 (.ref e) (.ref g) H Q := by
  obtain ⟨dx, t, fs, h1, h2, h3⟩ := he.at
  obtain ⟨dy, u, gs, g1, g2, g3⟩ := hg.at
  exact ⟨e, dx, fs, .ref CE, rfl, h1, Re.ty g1, Re.nf, e, g, _, _, rfl, he, hg, k⟩
end
theorem Bd.lt {n : Nat} {x : Int} (h : Bd n x) : x < 2 ^ n := by
  have h' : x.natAbs < 2 ^ n := h
  have : ((x.natAbs : Nat) : Int) < ((2 ^ n : Nat) : Int) := by exact_mod_cast h'
  have e : ((2 ^ n : Nat) : Int) = (2 : Int) ^ n := by simp
  omega
end Eh
open Eh

/-! ## what a change makes of a number with a root -/
namespace K15
open K10
theorem lwd_any {A B C s : Int} (hA : A ≠ 0) : ∃ a b c g : Int, g ≠ 0 ∧ 0 < a ∧ (g * a = A ∧ g * b = B ∧ g * c = C) ∧ sg g = sg A ∧ Int.gcd (Int.gcd a b) c = 1 ∧ ((∀ n, Bd n A → Bd n a) ∧ (∀ n, Bd n B → Bd n b) ∧ (∀ n, Bd n C → Bd n c)) ∧ lwd A B C s = [a, b, c, s] := by
  obtain ⟨f, f0, e, r⟩ := red (A := A) (B := B) (C := C) hA
  have ha := r.ha
  have hb := r.hb
  have hc := r.hc
  have hg := r.g
  have bd : ∀ (X : Int) n, Bd n X → Bd n (X / f) := fun X n h => h.div f
  have bA := bd A
  have bB := bd B
  have bC := bd C
  generalize A / f = a at *
  generalize B / f = b at *
  generalize C / f = c at *
  by_cases h : A < 0
  · refine ⟨-a, -b, -c, -f, by omega, ?_, ⟨by rw [Int.neg_mul_neg]; exact ha, by rw [Int.neg_mul_neg]; exact hb, by rw [Int.neg_mul_neg]; exact hc⟩, ?_, ?_, ⟨fun n h => (bA n h).neg, fun n h => (bB n h).neg, fun n h => (bC n h).neg⟩, ?_⟩
    · rcases Int.lt_or_le a 0 with z | z
      · omega
      · have := Int.mul_nonneg (Int.le_of_lt f0) z
        omega
    · rw [sg_n h, sg_n (by omega)]
    · rw [Int.neg_gcd, Int.gcd_neg, Int.gcd_neg]
      exact hg
    · unfold lwd lwf
      rw [if_pos h, e, Int.zero_sub]
      have n0 : -f ≠ 0 := by omega
      rw [Int.fdiv_eq_of_eq_mul_right n0 (show A = -f * -a by rw [Int.neg_mul_neg]; exact ha.symm), Int.fdiv_eq_of_eq_mul_right n0 (show B = -f * -b by rw [Int.neg_mul_neg]; exact hb.symm), Int.fdiv_eq_of_eq_mul_right n0 (show C = -f * -c by rw [Int.neg_mul_neg]; exact hc.symm)]
  · have hp : 0 < A := by omega
    refine ⟨a, b, c, f, by omega, ?_, ⟨ha, hb, hc⟩, by rw [sg_p f0, sg_p hp], hg, ⟨bA, bB, bC⟩, ?_⟩
    · rcases Int.lt_or_le 0 a with z | z
      · exact z
      · have := Int.mul_nonpos_of_nonneg_of_nonpos (Int.le_of_lt f0) z
        omega
    · unfold lwd lwf
      rw [if_neg h, e]
      have n0 : f ≠ 0 := by omega
      rw [Int.fdiv_eq_of_eq_mul_right n0 ha.symm, Int.fdiv_eq_of_eq_mul_right n0 hb.symm, Int.fdiv_eq_of_eq_mul_right n0 hc.symm]
theorem sq_pos {x : Int} (h : x ≠ 0) : 0 < x * x := by
  rcases Int.lt_trichotomy x 0 with z | z | z
  · exact Int.mul_pos_of_neg_of_neg z z
  · exact absurd z h
  · exact Int.mul_pos z z
theorem mul_can' {f x y : Int} (h : f ≠ 0) (e : f * x = f * y) : x = y := Int.eq_of_mul_eq_mul_left h e
theorem sg_nz {x : Int} (h : x ≠ 0) : sg x = 1 ∨ sg x = -1 := by
  rcases sg_c x with ⟨_, e⟩ | ⟨z, _⟩ | ⟨_, e⟩
  · exact .inl e
  · exact absurd z h
  · exact .inr e
end K15
open K15

/-! ## signs of numbers with roots, as of ordered rings -/
namespace Sg
 open Lean.Grind
class SgR (R : Type) [CommRing R] where
  s : R → Int
  tri : ∀ a, s a = 1 ∨ s a = 0 ∨ s a = -1
  neg : ∀ a, s (-a) = - s a
  mul : ∀ a b, s (a * b) = s a * s b
  one : s 1 = 1
  add : ∀ a b, s a = 1 → s b = 1 → s (a + b) = 1
  add0 : ∀ a b, s a = 0 → s (a + b) = s b
section
variable {R : Type} [CommRing R] [SgR R]
 open SgR
theorem s_zero : s (0 : R) = 0 := by
  have h := neg (0 : R)
  rw [show -(0 : R) = 0 by grind] at h
  omega
theorem s_two : s (2 : R) = 1 := by
  rw [show (2 : R) = 1 + 1 by grind]
  exact add _ _ one one
theorem s_addN (a b : R) (h1 : s a = -1) (h2 : s b = -1) : s (a + b) = -1 := by
  have := add (-a) (-b) (by rw [neg, h1]; rfl) (by rw [neg, h2]; rfl)
  rw [show -a + -b = -(a + b) by grind, neg] at this
  omega
theorem s_sub0 (a b : R) (h : s (a - b) = 0) : s a = s b := by
  have := add0 (a - b) b h
  rwa [show a - b + b = a by grind] at this
theorem s_addr0 (a b : R) (h : s b = 0) : s (a + b) = s a := by
  rw [show a + b = b + a by grind]; exact add0 _ _ h
theorem s_add1 (a b : R) (h1 : s a = 1) (h2 : s b = 1 ∨ s b = 0) : s (a + b) = 1 := by
  rcases h2 with h | h
  · exact add _ _ h1 h
  · rw [s_addr0 _ _ h, h1]
theorem dom (u v : R) (h : s (u * u - v * v) = 1) : s (u + v) = s u ∧ (s u = 1 ∨ s u = -1) := by
  rw [show u * u - v * v = (u + v) * (u - v) by grind, mul] at h
  have e : (u + v) + (u - v) = 2 * u := by grind
  rcases tri (u + v) with h1 | h1 | h1
  · rcases tri (u - v) with h2 | h2 | h2
    · have := add _ _ h1 h2
      rw [e, mul, s_two] at this
      exact ⟨by omega, by omega⟩
    · rw [h1, h2] at h; omega
    · rw [h1, h2] at h; omega
  · rw [h1] at h; omega
  · rcases tri (u - v) with h2 | h2 | h2
    · rw [h1, h2] at h; omega
    · rw [h1, h2] at h; omega
    · have := s_addN _ _ h1 h2
      rw [e, mul, s_two] at this
      exact ⟨by omega, by omega⟩
end
/-- numbers a + b * root of c -/
structure Qx {R : Type} (c : R) where
  a : R
  b : R
namespace Qx
variable {R : Type} [CommRing R] {c : R}
@[ext] theorem ext' {x y : Qx c} (h1 : x.a = y.a) (h2 : x.b = y.b) : x = y := by cases x; cases y; simp_all
instance : Add (Qx c) := ⟨fun x y => ⟨x.a + y.a, x.b + y.b⟩⟩
instance : Mul (Qx c) := ⟨fun x y => ⟨x.a * y.a + x.b * y.b * c, x.a * y.b + x.b * y.a⟩⟩
instance : Neg (Qx c) := ⟨fun x => ⟨-x.a, -x.b⟩⟩
instance : Sub (Qx c) := ⟨fun x y => ⟨x.a - y.a, x.b - y.b⟩⟩
def of (r : R) : Qx c := ⟨r, 0⟩
def nc (R : Type) [CommRing R] (n : Nat) : R := (Semiring.natCast (α := R)).natCast n
def ic (R : Type) [CommRing R] (n : Int) : R := (Ring.intCast (α := R)).intCast n
def pw (x : Qx c) : Nat → Qx c
  | 0 => of 1
  | n + 1 => pw x n * x
def on (R : Type) [CommRing R] (n : Nat) : R := (Semiring.ofNat (α := R) n).ofNat
theorem on_succ (n : Nat) : on R (n + 1) = on R n + 1 := Semiring.ofNat_succ n
theorem on_nc (n : Nat) : on R n = nc R n := Semiring.ofNat_eq_natCast n
theorem on_0 : on R 0 = 0 := rfl
theorem mulc (x y : Qx c) : x * y = y * x := by
  apply ext'
  · show x.a * y.a + x.b * y.b * c = y.a * x.a + y.b * x.b * c
    grind
  · show x.a * y.b + x.b * y.a = y.a * x.b + y.b * x.a
    grind
theorem mul1 (x : Qx c) : x * of 1 = x := by
  apply ext'
  · show x.a * 1 + x.b * 0 * c = x.a
    grind
  · show x.a * 0 + x.b * 1 = x.b
    grind
theorem mul0 (x : Qx c) : x * of 0 = of 0 := by
  apply ext'
  · show x.a * 0 + x.b * 0 * c = 0
    grind
  · show x.a * 0 + x.b * 0 = 0
    grind
theorem dist (x y z : Qx c) : x * (y + z) = x * y + x * z := by
  apply ext'
  · show x.a * (y.a + z.a) + x.b * (y.b + z.b) * c = x.a * y.a + x.b * y.b * c + (x.a * z.a + x.b * z.b * c)
    grind
  · show x.a * (y.b + z.b) + x.b * (y.a + z.a) = x.a * y.b + x.b * y.a + (x.a * z.b + x.b * z.a)
    grind
instance ring : CommRing (Qx c) where
  natCast := ⟨fun n => of (nc R n)⟩
  ofNat n := ⟨of (on R n)⟩
  nsmul := ⟨fun n x => of (nc R n) * x⟩
  npow := ⟨pw⟩
  add_zero x := by apply ext' <;> (show _ + on R 0 = _; rw [on_0]; grind)
  add_comm x y := by apply ext' <;> (show _ + _ = _ + _; grind)
  add_assoc x y z := by apply ext' <;> (show _ + _ + _ = _ + (_ + _); grind)
  mul_assoc x y z := by
    apply ext'
    · show (x.a * y.a + x.b * y.b * c) * z.a + (x.a * y.b + x.b * y.a) * z.b * c = x.a * (y.a * z.a + y.b * z.b * c) + x.b * (y.a * z.b + y.b * z.a) * c
      grind
    · show (x.a * y.a + x.b * y.b * c) * z.b + (x.a * y.b + x.b * y.a) * z.a = x.a * (y.a * z.b + y.b * z.a) + x.b * (y.a * z.a + y.b * z.b * c)
      grind
  mul_comm := mulc
  mul_one := mul1
  one_mul x := (mulc _ _).trans (mul1 x)
  left_distrib := dist
  right_distrib x y z := by rw [mulc (x + y) z, dist, mulc z x, mulc z y]
  zero_mul x := (mulc _ _).trans (mul0 x)
  mul_zero := mul0
  pow_zero x := rfl
  pow_succ x n := rfl
  ofNat_succ n := by
    apply ext'
    · show on R (n + 1) = on R n + on R 1
      rw [on_succ]; rfl
    · show (0 : R) = 0 + 0
      grind
  ofNat_eq_natCast n := by
    apply ext'
    · show on R n = nc R n
      exact on_nc n
    · rfl
  nsmul_eq_natCast_mul n x := rfl
  intCast := ⟨fun n => of (ic R n)⟩
  zsmul := ⟨fun n x => of (ic R n) * x⟩
  neg_add_cancel x := by apply ext' <;> (show -_ + _ = on R 0; rw [on_0]; grind)
  sub_eq_add_neg x y := by apply ext' <;> (show _ - _ = _ + -_; grind)
  neg_zsmul i x := by
    have h : ic R (-i) = - ic R i := Ring.intCast_neg i
    apply ext'
    · show ic R (-i) * x.a + 0 * x.b * c = -(ic R i * x.a + 0 * x.b * c)
      rw [h]; grind
    · show ic R (-i) * x.b + 0 * x.a = -(ic R i * x.b + 0 * x.a)
      rw [h]; grind
  zsmul_natCast_eq_nsmul n x := by
    have h : ic R (n : Int) = nc R n := by
      have := Ring.intCast_ofNat (α := R) n
      exact this.trans (on_nc n)
    show of (ic R (n : Int)) * x = of (nc R n) * x
    rw [h]
  intCast_ofNat n := by
    apply ext'
    · show ic R (OfNat.ofNat n) = on R n
      exact Ring.intCast_ofNat n
    · rfl
  intCast_neg i := by
    apply ext'
    · show ic R (-i) = -(ic R i)
      exact Ring.intCast_neg i
    · show (0 : R) = -0
      grind
section
variable [SgR R]
 open SgR
def nm (x : Qx c) : R := x.a * x.a - x.b * x.b * c
/-- the sign of a + b * root of c -/
def sq (x : Qx c) : Int := if s c = 0 then s x.a else if s (nm x) = 1 then s x.a else if s (nm x) = -1 then s x.b else if s x.a = s x.b then s x.a else 0
theorem nm_mul (x y : Qx c) : nm (x * y) = nm x * nm y := by
  show (x.a * y.a + x.b * y.b * c) * (x.a * y.a + x.b * y.b * c) - (x.a * y.b + x.b * y.a) * (x.a * y.b + x.b * y.a) * c = _
  unfold nm
  grind
theorem nm_neg (x : Qx c) : nm (-x) = nm x := by
  show (-x.a) * (-x.a) - (-x.b) * (-x.b) * c = _
  unfold nm
  grind
theorem sq_neg (x : Qx c) : sq (-x) = - sq x := by
  unfold sq
  rw [nm_neg, show (-x).a = -x.a from rfl, show (-x).b = -x.b from rfl, neg, neg]
  repeat' split
  all_goals omega
theorem sq_tri (x : Qx c) : sq x = 1 ∨ sq x = 0 ∨ sq x = -1 := by
  unfold sq
  have h1 := tri x.a
  have h2 := tri x.b
  repeat' split
  all_goals first | assumption | exact .inr (.inl rfl)
theorem s_ca (hc : s c = 1) (a : R) : s (a * c) = s a := by rw [mul, hc, Int.mul_one]
/-- the sign of a sum whose first part has the greater square -/
theorem dom' (u v : R) {m : Int} (h : s (u * u - v * v) = m) (hm : m = 1) : s (u + v) = s u := by subst hm; exact (dom u v h).1
theorem nz_a (hc : s c = 1) (x : Qx c) (h : s (nm x) = 1) : s x.a = 1 ∨ s x.a = -1 := by
  rcases tri x.a with e | e | e
  · exact .inl e
  · exfalso
    unfold nm at h
    have z : s (x.a * x.a) = 0 := by rw [mul, e]; rfl
    rw [show x.a * x.a - x.b * x.b * c = x.a * x.a + -(x.b * x.b * c) by grind, add0 _ _ z, neg, mul, mul, hc] at h
    rcases tri x.b with e | e | e <;> rw [e] at h <;> omega
  · exact .inr e
theorem nz_b (hc : s c = 1) (x : Qx c) (h : s (nm x) = -1) : s x.b = 1 ∨ s x.b = -1 := by
  rcases tri x.b with e | e | e
  · exact .inl e
  · exfalso
    unfold nm at h
    have z : s (-(x.b * x.b * c)) = 0 := by rw [neg, mul, mul, e]; omega
    rw [show x.a * x.a - x.b * x.b * c = x.a * x.a + -(x.b * x.b * c) by grind, s_addr0 _ _ z, mul] at h
    rcases tri x.a with e | e | e <;> rw [e] at h <;> omega
  · exact .inr e
theorem eq_ab (hc : s c = 1) (x : Qx c) (h : s (nm x) = 0) : s x.a = s x.b ∨ s x.a = - s x.b := by
  have := s_sub0 _ _ (show s (x.a * x.a - x.b * x.b * c) = 0 from h)
  rw [mul, mul, mul, hc] at this
  rcases tri x.a with e | e | e <;> rcases tri x.b with g | g | g <;> rw [e, g] at this ⊢ <;> omega
theorem sgn_sq {a : R} (h : s a = 1 ∨ s a = -1) : s (a * a) = 1 := by rw [mul]; rcases h with h | h <;> rw [h] <;> rfl
theorem sgn_sq0 (a : R) : s (a * a) = 1 ∨ s (a * a) = 0 := by rw [mul]; rcases tri a with h | h | h <;> rw [h] <;> omega
theorem s_add1' (a b : R) (h1 : s a = 1 ∨ s a = 0) (h2 : s b = 1) : s (a + b) = 1 := by
  rw [show a + b = b + a by grind]; exact s_add1 _ _ h2 h1
section
variable (hc : s c = 1) (x y : Qx c)
include hc
theorem mul_pp (h1 : s (nm x) = 1) (h2 : s (nm y) = 1) : s (x.a * y.a + x.b * y.b * c) = s x.a * s y.a := by
  rw [← mul]
  refine dom' _ _ (m := 1) ?_ rfl
  rw [show (x.a * y.a) * (x.a * y.a) - (x.b * y.b * c) * (x.b * y.b * c) = x.a * x.a * nm y + y.b * y.b * c * nm x by unfold nm; grind]
  refine s_add1 _ _ ?_ ?_
  · rw [mul, sgn_sq (nz_a hc x h1), h2]; rfl
  · rw [mul, mul, hc, h1]
    rcases sgn_sq0 y.b with e | e <;> rw [e] <;> omega
theorem mul_pn (h1 : s (nm x) = 1) (h2 : s (nm y) = -1) : s (x.a * y.b + x.b * y.a) = s x.a * s y.b := by
  rw [← mul]
  refine dom' _ _ (m := 1) ?_ rfl
  rw [show (x.a * y.b) * (x.a * y.b) - (x.b * y.a) * (x.b * y.a) = y.b * y.b * nm x + x.b * x.b * -nm y by unfold nm; grind]
  refine s_add1 _ _ ?_ ?_
  · rw [mul, sgn_sq (nz_b hc y h2), h1]; rfl
  · rw [mul, neg, h2]
    rcases sgn_sq0 x.b with e | e <;> rw [e] <;> omega
theorem mul_nn (h1 : s (nm x) = -1) (h2 : s (nm y) = -1) : s (x.a * y.a + x.b * y.b * c) = s x.b * s y.b := by
  rw [← mul, ← s_ca hc (x.b * y.b), show x.a * y.a + x.b * y.b * c = x.b * y.b * c + x.a * y.a by grind]
  refine dom' _ _ (m := 1) ?_ rfl
  rw [show (x.b * y.b * c) * (x.b * y.b * c) - (x.a * y.a) * (x.a * y.a) = x.a * x.a * -nm y + y.b * y.b * c * -nm x by unfold nm; grind]
  refine s_add1' _ _ ?_ ?_
  · rw [mul, neg, h2]
    rcases sgn_sq0 x.a with e | e <;> rw [e] <;> omega
  · rw [mul, mul, hc, neg, h1, sgn_sq (nz_b hc y h2)]; rfl
theorem mul_01 (h1 : s (nm x) = 0) (a1 : s x.a = 1) (eb : s x.b = 1) : s (x.a * y.a + x.b * y.b * c) = sq y ∧ s (x.a * y.a + x.b * y.b * c) = s (x.a * y.b + x.b * y.a) := by
  have n0 : ¬ s c = 0 := by omega
  have r1 : s (x.a * y.b + x.b * y.a) * s x.a = s (x.a * y.a + x.b * y.b * c) * s x.b := by
    rw [← mul, ← mul]
    refine s_sub0 _ _ ?_
    rw [show (x.a * y.b + x.b * y.a) * x.a - (x.a * y.a + x.b * y.b * c) * x.b = y.b * nm x by unfold nm; grind, mul, h1]
    omega
  have i1 : (x.a * y.a) * (x.a * y.a) - (x.b * y.b * c) * (x.b * y.b * c) = x.a * x.a * nm y + y.b * y.b * c * nm x := by unfold nm; grind
  have z1 : s (y.b * y.b * c * nm x) = 0 := by rw [mul, h1]; omega
  have sv : s (x.b * y.b * c) = s x.b * s y.b := by rw [mul, mul, hc, Int.mul_one]
  refine ⟨?_, by rw [a1, eb] at r1; omega⟩
  unfold sq
  rw [if_neg n0]
  rcases tri (nm y) with m | m | m
  · rw [if_pos m]
    rw [dom' (x.a * y.a) (x.b * y.b * c) (m := 1) (by rw [i1, s_addr0 _ _ z1, mul, mul, a1, m]; rfl) rfl, mul, a1, Int.one_mul]
  · rw [if_neg (by omega), if_neg (by omega)]
    rcases eq_ab hc y m with g | g
    · rw [if_pos g]
      rcases tri y.a with k | k | k
      · rw [k, add _ _ (by rw [mul, a1, k]; rfl) (by rw [sv, eb, ← g, k]; rfl)]
      · rw [k, add0 _ _ (by rw [mul, a1, k]; rfl), sv, ← g, k]; omega
      · rw [k, s_addN _ _ (by rw [mul, a1, k]; rfl) (by rw [sv, eb, ← g, k]; rfl)]
    · by_cases k : s y.a = s y.b
      · have : s y.a = 0 := by omega
        rw [if_pos k, this, add0 _ _ (by rw [mul, this]; omega), sv, ← k, this]; omega
      · rw [if_neg k]
        have p : s (x.a * y.a + x.b * y.b * c) * s (x.a * y.a - x.b * y.b * c) = 0 := by
          rw [← mul, show (x.a * y.a + x.b * y.b * c) * (x.a * y.a - x.b * y.b * c) = x.a * x.a * nm y + y.b * y.b * c * nm x by rw [← i1]; grind, s_addr0 _ _ z1, mul, m]; omega
        have q : s (x.a * y.a - x.b * y.b * c) ≠ 0 := by
          rw [show x.a * y.a - x.b * y.b * c = x.a * y.a + -(x.b * y.b * c) by grind]
          rcases tri y.a with k | k | k
          · rw [add _ _ (by rw [mul, a1, k]; rfl) (by rw [neg, sv, eb]; omega)]; omega
          · exfalso; omega
          · rw [s_addN _ _ (by rw [mul, a1, k]; rfl) (by rw [neg, sv, eb]; omega)]; omega
        rcases Int.mul_eq_zero.mp p with p | p
        · exact p
        · exact absurd p q
  · rw [if_neg (by omega), if_pos m, show x.a * y.a + x.b * y.b * c = x.b * y.b * c + x.a * y.a by grind, dom' (x.b * y.b * c) (x.a * y.a) (m := 1) ?_ rfl, sv, eb, Int.one_mul]
    rw [show (x.b * y.b * c) * (x.b * y.b * c) - (x.a * y.a) * (x.a * y.a) = x.a * x.a * -nm y + -(y.b * y.b * c * nm x) by unfold nm; grind, s_addr0 _ _ (by rw [neg, z1]; rfl), mul, neg, mul, a1, m]; rfl
theorem mul_0 (h1 : s (nm x) = 0) : (if s (x.a * y.a + x.b * y.b * c) = s (x.a * y.b + x.b * y.a) then s (x.a * y.a + x.b * y.b * c) else 0) = (if s x.a = s x.b then s x.a else 0) * sq y := by
  have n0 : ¬ s c = 0 := by omega
  have r1 : s (x.a * y.b + x.b * y.a) * s x.a = s (x.a * y.a + x.b * y.b * c) * s x.b := by
    rw [← mul, ← mul]
    refine s_sub0 _ _ ?_
    rw [show (x.a * y.b + x.b * y.a) * x.a - (x.a * y.a + x.b * y.b * c) * x.b = y.b * nm x by unfold nm; grind, mul, h1]
    omega
  have sv : s (x.b * y.b * c) = s x.b * s y.b := by rw [mul, mul, hc, Int.mul_one]
  rcases eq_ab hc x h1 with e | e
  · rw [if_pos e]
    rcases tri x.a with a1 | a0 | a1
    · obtain ⟨p, q⟩ := mul_01 hc x y h1 a1 (by omega)
      rw [if_pos q, p, a1, Int.one_mul]
    · have b0 : s x.b = 0 := by omega
      have X0 : s (x.a * y.a + x.b * y.b * c) = 0 := by rw [add0 _ _ (by rw [mul, a0]; omega), sv, b0]; omega
      rw [X0, a0]
      split <;> omega
    · obtain ⟨p, q⟩ := mul_01 hc (-x) y (by rw [nm_neg]; exact h1) (by show s (-x.a) = 1; rw [neg, a1]; rfl) (by show s (-x.b) = 1; rw [neg, ← e, a1]; rfl)
      have p : s (-x.a * y.a + -x.b * y.b * c) = sq y := p
      have q : s (-x.a * y.a + -x.b * y.b * c) = s (-x.a * y.b + -x.b * y.a) := q
      rw [show -x.a * y.a + -x.b * y.b * c = -(x.a * y.a + x.b * y.b * c) by grind, neg] at p q
      rw [show -x.a * y.b + -x.b * y.a = -(x.a * y.b + x.b * y.a) by grind, neg] at q
      rw [if_pos (by omega), a1]
      omega
  · by_cases g : s x.a = s x.b
    · have a0 : s x.a = 0 := by omega
      have b0 : s x.b = 0 := by omega
      have X0 : s (x.a * y.a + x.b * y.b * c) = 0 := by rw [add0 _ _ (by rw [mul, a0]; omega), sv, b0]; omega
      rw [X0, a0]
      split <;> split <;> omega
    · rw [if_neg g, Int.zero_mul]
      split
      · rename_i w
        rw [← w] at r1
        rcases tri (x.a * y.a + x.b * y.b * c) with t | t | t
        · rw [t] at r1; omega
        · exact t
        · rw [t] at r1; omega
      · rfl
end
theorem sq_mul (hc : s c = 1 ∨ s c = 0) (x y : Qx c) : sq (x * y) = sq x * sq y := by
  rcases hc with hc | hc
  · have n0 : ¬ s c = 0 := by omega
    have eS : s (nm (x * y)) = s (nm x) * s (nm y) := by rw [nm_mul, mul]
    have ea : (x * y).a = x.a * y.a + x.b * y.b * c := rfl
    have eb : (x * y).b = x.a * y.b + x.b * y.a := rfl
    have go : ∀ x y : Qx c, s (nm x) = 0 → sq (x * y) = sq x * sq y := fun x y h => by
      have e2 : sq x = if s x.a = s x.b then s x.a else 0 := by unfold sq; rw [if_neg n0, if_neg (by omega), if_neg (by omega)]
      rw [e2, ← mul_0 hc x y h]
      have eS : s (nm (x * y)) = 0 := by rw [nm_mul, mul, h]; omega
      unfold sq
      rw [if_neg n0, if_neg (by omega), if_neg (by omega)]; rfl
    rcases tri (nm x) with h1 | h1 | h1
    · rcases tri (nm y) with h2 | h2 | h2
      · unfold sq
        rw [if_neg n0, if_neg n0, if_neg n0, eS, h1, h2, if_pos (by decide), if_pos rfl, if_pos rfl, ea]
        exact mul_pp hc x y h1 h2
      · rw [mulc, go y x h2, Int.mul_comm]
      · unfold sq
        rw [if_neg n0, if_neg n0, if_neg n0, eS, h1, h2, if_neg (by decide), if_pos (by decide), if_pos rfl, if_neg (by decide), if_pos rfl, eb]
        exact mul_pn hc x y h1 h2
    · exact go x y h1
    · rcases tri (nm y) with h2 | h2 | h2
      · unfold sq
        rw [if_neg n0, if_neg n0, if_neg n0, eS, h1, h2, if_neg (by decide), if_pos (by decide), if_pos rfl, if_neg (by decide), if_pos rfl, eb]
        rw [show x.a * y.b + x.b * y.a = y.a * x.b + y.b * x.a by grind, mul_pn hc y x h2 h1, Int.mul_comm]
      · rw [mulc, go y x h2, Int.mul_comm]
      · unfold sq
        rw [if_neg n0, if_neg n0, if_neg n0, eS, h1, h2, if_pos (by decide), if_neg (by decide), if_pos rfl, ea]
        exact mul_nn hc x y h1 h2
  · unfold sq
    rw [if_pos hc, if_pos hc, if_pos hc, ← mul]
    exact s_addr0 _ _ (by rw [mul, hc]; omega)
theorem sq_small (hc : s c = 1) (u v : R) (y : Qx c) (hu : s u = 0) (hv : s v = 0) : sq (⟨u, v⟩ + y) = sq y := by
  have ea : s (u + y.a) = s y.a := add0 _ _ hu
  have eb : s (v + y.b) = s y.b := add0 _ _ hv
  have en : s (nm ((⟨u, v⟩ : Qx c) + y)) = s (nm y) := by
    show s ((u + y.a) * (u + y.a) - (v + y.b) * (v + y.b) * c) = _
    unfold nm
    rw [show (u + y.a) * (u + y.a) - (v + y.b) * (v + y.b) * c = u * (u + 2 * y.a) + (-(v * ((v + 2 * y.b) * c)) + (y.a * y.a - y.b * y.b * c)) by grind, add0 _ _ (by rw [mul, hu]; omega), add0 _ _ (by rw [neg, mul, hv]; omega)]
  show (if s c = 0 then s (u + y.a) else if s (nm (⟨u, v⟩ + y)) = 1 then s (u + y.a) else if s (nm (⟨u, v⟩ + y)) = -1 then s (v + y.b) else if s (u + y.a) = s (v + y.b) then s (u + y.a) else 0) = _
  rw [ea, eb, en]
  rfl
theorem sq_null (hc : s c = 1) (z : Qx c) (h : sq z = 0) : s (nm z) = 0 ∧ s z.a = - s z.b := by
  unfold sq at h
  rw [if_neg (by omega)] at h
  rcases tri (nm z) with n | n | n
  · rw [if_pos n] at h
    have := nz_a hc z n
    omega
  · rw [if_neg (by omega), if_neg (by omega)] at h
    refine ⟨n, ?_⟩
    rcases eq_ab hc z n with e | e
    · rw [if_pos e] at h; omega
    · exact e
  · rw [if_neg (by omega), if_pos n] at h
    have := nz_b hc z n
    omega
theorem sq_add0 (hc : s c = 1 ∨ s c = 0) (z y : Qx c) (h : sq z = 0) : sq (z + y) = sq y := by
  rcases hc with hc | hc
  · obtain ⟨n, e⟩ := sq_null hc z h
    by_cases z0 : s z.b = 0
    · exact sq_small hc z.a z.b y (by omega) z0
    · have w1 : sq (⟨z.a, -z.b⟩ : Qx c) = s z.a := by
        have nn : s (nm (⟨z.a, -z.b⟩ : Qx c)) = 0 := by
          rw [← n]
          show s (z.a * z.a - (-z.b) * (-z.b) * c) = s (z.a * z.a - z.b * z.b * c)
          rw [show z.a * z.a - (-z.b) * (-z.b) * c = z.a * z.a - z.b * z.b * c by grind]
        unfold sq
        rw [if_neg (by omega), if_neg (by omega), if_neg (by omega), if_pos (show s z.a = s (-z.b) by rw [neg]; exact e)]
      have ez : (⟨z.a, -z.b⟩ : Qx c) * (z + y) = ⟨nm z, 0⟩ + (⟨z.a, -z.b⟩ : Qx c) * y := by
        apply ext'
        · show z.a * (z.a + y.a) + -z.b * (z.b + y.b) * c = (z.a * z.a - z.b * z.b * c) + (z.a * y.a + -z.b * y.b * c)
          grind
        · show z.a * (z.b + y.b) + -z.b * (z.a + y.a) = 0 + (z.a * y.b + -z.b * y.a)
          grind
      have := congrArg sq ez
      rw [sq_small hc _ _ _ n s_zero, sq_mul (.inl hc), sq_mul (.inl hc)] at this
      exact Int.eq_of_mul_eq_mul_left (by omega) this
  · unfold sq at h ⊢
    rw [if_pos hc] at h
    rw [if_pos hc, if_pos hc]
    exact add0 _ _ h
/-- above 0 -/
inductive Po (x : Qx c) : Prop
  | A (a : s x.a = 1) (n : s (nm x) = 1) : Po x
  | B (b : s x.b = 1) (n : s (nm x) = -1) : Po x
  | C (a : s x.a = 1) (b : s x.b = 1) (n : s (nm x) = 0) : Po x
theorem po_of (hc : s c = 1) (x : Qx c) (h : sq x = 1) : Po x := by
  unfold sq at h
  rw [if_neg (by omega)] at h
  rcases tri (nm x) with n | n | n
  · rw [if_pos n] at h; exact .A h n
  · rw [if_neg (by omega), if_neg (by omega)] at h
    by_cases e : s x.a = s x.b
    · rw [if_pos e] at h; exact .C h (by omega) n
    · rw [if_neg e] at h; omega
  · rw [if_neg (by omega), if_pos n] at h; exact .B h n
theorem po_sq (hc : s c = 1) (x : Qx c) (h : Po x) : sq x = 1 := by
  unfold sq
  rw [if_neg (by omega)]
  cases h with
  | A a n => rw [if_pos n]; exact a
  | B b n => rw [if_neg (by omega), if_pos n]; exact b
  | C a b n => rw [if_neg (by omega), if_neg (by omega), if_pos (by omega)]; exact a
theorem nm_add (x y : Qx c) : nm (x + y) = nm x + (nm y + 2 * (x.a * y.a + -(x.b * y.b * c))) := by
  show (x.a + y.a) * (x.a + y.a) - (x.b + y.b) * (x.b + y.b) * c = _
  unfold nm
  grind
theorem s_two_mul (u : R) : s (2 * u) = s u := by rw [mul, s_two]; omega
theorem po_AX (hc : s c = 1) {x y : Qx c} (a : s x.a = 1) (n : s (nm x) = 1) (a' : s y.a = 1) (n' : s (nm y) = 1 ∨ s (nm y) = 0) : s (x + y).a = 1 ∧ s (nm (x + y)) = 1 := by
  refine ⟨add _ _ a a', ?_⟩
  have d : s (x.a * y.a + -(x.b * y.b * c)) = 1 := by
    rw [dom' (x.a * y.a) (-(x.b * y.b * c)) (m := 1) ?_ rfl, mul, a, a']; rfl
    rw [show (x.a * y.a) * (x.a * y.a) - (-(x.b * y.b * c)) * (-(x.b * y.b * c)) = y.a * y.a * nm x + x.b * x.b * c * nm y by unfold nm; grind]
    refine s_add1 _ _ (by rw [mul, mul, a', n]; rfl) ?_
    rw [mul, mul, hc]
    rcases sgn_sq0 x.b with e | e <;> rcases n' with g | g <;> rw [e, g] <;> omega
  rw [nm_add]
  exact s_add1 _ _ n (.inl (s_add1' _ _ n' (by rw [s_two_mul]; exact d)))
theorem po_BX (hc : s c = 1) {x y : Qx c} (b : s x.b = 1) (n : s (nm x) = -1) (b' : s y.b = 1) (n' : s (nm y) = -1 ∨ s (nm y) = 0) : s (x + y).b = 1 ∧ s (nm (x + y)) = -1 := by
  refine ⟨add _ _ b b', ?_⟩
  have d : s (x.b * y.b * c + -(x.a * y.a)) = 1 := by
    rw [dom' (x.b * y.b * c) (-(x.a * y.a)) (m := 1) ?_ rfl, mul, mul, b, b', hc]; rfl
    rw [show (x.b * y.b * c) * (x.b * y.b * c) - (-(x.a * y.a)) * (-(x.a * y.a)) = y.b * y.b * c * -nm x + x.a * x.a * -nm y by unfold nm; grind]
    refine s_add1 _ _ (by rw [mul, mul, mul, b', hc, neg, n]; rfl) ?_
    rw [mul, neg]
    rcases sgn_sq0 x.a with e | e <;> rcases n' with g | g <;> rw [e, g] <;> omega
  have : s (-nm (x + y)) = 1 := by
    rw [show -nm (x + y) = -nm x + (-nm y + 2 * (x.b * y.b * c + -(x.a * y.a))) by rw [nm_add]; grind]
    exact s_add1 _ _ (by rw [neg, n]; rfl) (.inl (s_add1' _ _ (by rw [neg]; omega) (by rw [s_two_mul]; exact d)))
  rw [neg] at this
  omega
theorem po_CC (hc : s c = 1) {x y : Qx c} (a : s x.a = 1) (b : s x.b = 1) (n : s (nm x) = 0) (a' : s y.a = 1) (b' : s y.b = 1) (n' : s (nm y) = 0) : Po (x + y) := by
  refine .C (add _ _ a a') (add _ _ b b') ?_
  have d : s (x.a * y.a + -(x.b * y.b * c)) = 0 := by
    have p : s (x.a * y.a + x.b * y.b * c) * s (x.a * y.a + -(x.b * y.b * c)) = 0 := by
      rw [← mul, show (x.a * y.a + x.b * y.b * c) * (x.a * y.a + -(x.b * y.b * c)) = y.a * y.a * nm x + x.b * x.b * c * nm y by unfold nm; grind, add0 _ _ (by rw [mul, n]; omega), mul, n']; omega
    rw [add _ _ (by rw [mul, a, a']; rfl) (by rw [mul, mul, b, b', hc]; rfl)] at p
    omega
  rw [nm_add, add0 _ _ n, add0 _ _ n', s_two_mul]
  exact d
theorem addc (x y : Qx c) : x + y = y + x := by grind
theorem sq_add (hc : s c = 1 ∨ s c = 0) (x y : Qx c) (hx : sq x = 1) (hy : sq y = 1) : sq (x + y) = 1 := by
  rcases hc with hc | hc
  · have go : ∀ x y : Qx c, s x.a = 1 → s (nm x) = 1 → s y.b = 1 → s (nm y) = -1 → sq x = 1 → sq y = 1 → sq (x + y) = 1 := fun x y a n b m hx hy => by
      rcases sq_tri (x + y) with h | h | h
      · exact h
      · exfalso
        have h' : sq (-(x + y)) = 0 := by rw [sq_neg, h]; rfl
        have := sq_add0 (.inl hc) _ x h'
        rw [show -(x + y) + x = -y by grind, sq_neg] at this
        omega
      · exfalso
        have h' : sq (-(x + y)) = 1 := by rw [sq_neg, h]; rfl
        have e1 : -(x + y) + x = -y := by grind
        have e2 : -(x + y) + y = -x := by grind
        cases po_of hc _ h' with
        | A a' n' =>
          have := (po_AX hc a' n' a (.inl n)).2
          rw [e1, nm_neg] at this; omega
        | B b' n' =>
          have := (po_BX hc b' n' b (.inl m)).2
          rw [e2, nm_neg] at this; omega
        | C a' b' n' =>
          have := (po_AX hc a n a' (.inr n')).2
          rw [addc, e1, nm_neg] at this; omega
    cases po_of hc x hx with
    | A a n =>
      cases po_of hc y hy with
      | A a' n' => obtain ⟨p, q⟩ := po_AX hc a n a' (.inl n'); exact po_sq hc _ (.A p q)
      | B b' n' => exact go x y a n b' n' hx hy
      | C a' b' n' => obtain ⟨p, q⟩ := po_AX hc a n a' (.inr n'); exact po_sq hc _ (.A p q)
    | B b n =>
      cases po_of hc y hy with
      | A a' n' => rw [addc]; exact go y x a' n' b n hy hx
      | B b' n' => obtain ⟨p, q⟩ := po_BX hc b n b' (.inl n'); exact po_sq hc _ (.B p q)
      | C a' b' n' => obtain ⟨p, q⟩ := po_BX hc b n b' (.inr n'); exact po_sq hc _ (.B p q)
    | C a b n =>
      rw [addc]
      cases po_of hc y hy with
      | A a' n' => obtain ⟨p, q⟩ := po_AX hc a' n' a (.inr n); exact po_sq hc _ (.A p q)
      | B b' n' => obtain ⟨p, q⟩ := po_BX hc b' n' b (.inr n); exact po_sq hc _ (.B p q)
      | C a' b' n' => exact po_sq hc _ (po_CC hc a' b' n' a b n)
  · unfold sq at hx hy ⊢
    rw [if_pos hc] at hx hy ⊢
    exact add _ _ hx hy
theorem sq_one : sq (1 : Qx c) = 1 := by
  have e1 : (1 : Qx c).a = 1 := rfl
  have e2 : (1 : Qx c).b = 0 := rfl
  unfold sq
  rw [e1, e2, show nm (1 : Qx c) = 1 by unfold nm; rw [e1, e2]; grind, one]
  repeat' split
  all_goals first | rfl | omega
def sg (hc : s c = 1 ∨ s c = 0) : SgR (Qx c) := ⟨sq, sq_tri, sq_neg, sq_mul hc, sq_one, sq_add hc, sq_add0 hc⟩
end
end Qx
end Sg

/-! ## numbers with roots in order -/
namespace Or
 open Sg Sg.SgR Sg.Qx
instance sgI : SgR Int where
  s := sg
  tri a := by rcases sg_c a with ⟨_, h⟩ | ⟨_, h⟩ | ⟨_, h⟩ <;> omega
  neg a := by rcases sg_c a with ⟨z, h⟩ | ⟨z, h⟩ | ⟨z, h⟩ <;> rcases sg_c (-a) with ⟨w, g⟩ | ⟨w, g⟩ | ⟨w, g⟩ <;> omega
  mul a b := sg_mul a b
  one := rfl
  add a b ha hb := by
    rcases sg_c a with ⟨z, h⟩ | ⟨z, h⟩ | ⟨z, h⟩ <;> rcases sg_c b with ⟨w, g⟩ | ⟨w, g⟩ | ⟨w, g⟩ <;> first | exact sg_p (by omega) | omega
  add0 a b ha := by
    rcases sg_c a with ⟨z, h⟩ | ⟨z, h⟩ | ⟨z, h⟩
    · omega
    · rw [z, Int.zero_add]
    · omega
theorem sI (a : Int) : s a = sg a := rfl
/-- the sign of one + times * root of inner + again * root of other, as programs tell it -/
def swrs (x y d z c : Int) : Int := if swr x y d = sg z * sg c ∨ sg z * sg c = 0 then swr x y d else if swr x y d = 0 then sg z * sg c else swr x y d * swr (x * x + y * y * d - z * z * c) (2 * x * y) d
theorem Bd.swrs (x y d z c : Int) : Bd 8 (swrs x y d z c) := by
  unfold Or.swrs
  split
  · exact (Bd.swr _ _ _).mono (by decide)
  · split
    · exact ((Bd.sg z).mul (Bd.sg c)).mono (by decide)
    · exact ((Bd.swr _ _ _).mul (Bd.swr _ _ _)).mono (by decide)
section
variable {R : Type} [Lean.Grind.CommRing R] [SgR R]
/-- the sign of a sum by the signs of its parts and of the difference of their squares -/
theorem s_sum (u v : R) : s (u + v) = if s u = s v ∨ s v = 0 then s u else if s u = 0 then s v else s u * s (u * u - v * v) := by
  split
  · rename_i h
    rcases h with h | h
    · rcases tri u with e | e | e
      · rw [e, add _ _ e (by omega)]
      · rw [e, add0 _ _ e]; omega
      · rw [e, s_addN _ _ e (by omega)]
    · exact s_addr0 _ _ h
  · rename_i h
    split
    · rename_i e
      exact add0 _ _ e
    · rename_i e
      have hv : s (-v) = s u := by
        rw [neg]
        rcases tri u with a | a | a <;> rcases tri v with b | b | b <;> omega
      have h2 : s (u - v) = s u := by
        rw [show u - v = u + -v by grind]
        rcases tri u with a | a | a
        · rw [a, add _ _ a (by omega)]
        · omega
        · rw [a, s_addN _ _ a (by omega)]
      rw [show u * u - v * v = (u + v) * (u - v) by grind, mul, h2]
      rcases tri u with a | a | a <;> rw [a] <;> omega
end
theorem d_ok {d : Int} (h : 0 ≤ d) : s d = 1 ∨ s d = 0 := by
  rcases sg_c d with ⟨z, e⟩ | ⟨z, e⟩ | ⟨z, e⟩
  · exact .inl e
  · exact .inr e
  · omega
/-- the ring with both roots -/
abbrev R1 (d : Int) := Qx d
abbrev up {d : Int} (c : Int) : R1 d := ⟨c, 0⟩
abbrev T (d c : Int) := Qx (up c : R1 d)
theorem nm_up {d : Int} (c : Int) : nm (up c : R1 d) = c * c := by show c * c - 0 * 0 * d = c * c; grind
theorem sq_up {d : Int} (c : Int) : sq (up c : R1 d) = sg c := by
  unfold sq
  rw [nm_up]
  rcases sg_c c with ⟨z, e⟩ | ⟨z, e⟩ | ⟨z, e⟩
  all_goals simp only [sI, sg_mul, e, sg_z]
  all_goals repeat' split
  all_goals omega
section
variable {d c : Int}
def I1 (hd : 0 ≤ d) : SgR (R1 d) := Qx.sg (d_ok hd)
theorem c_ok (hd : 0 ≤ d) (hc : 0 ≤ c) : (I1 hd).s (up c : R1 d) = 1 ∨ (I1 hd).s (up c : R1 d) = 0 := by
  show sq (up c : R1 d) = 1 ∨ sq (up c : R1 d) = 0
  rw [sq_up]; exact d_ok hc
def I2 (hd : 0 ≤ d) (hc : 0 ≤ c) : SgR (T d c) := @Qx.sg _ _ (up c) (I1 hd) (c_ok hd hc)
/-- an integer, the roots -/
def ii (x : Int) : T d c := ⟨⟨x, 0⟩, ⟨0, 0⟩⟩
def rd : T d c := ⟨⟨0, 1⟩, ⟨0, 0⟩⟩
def rc : T d c := ⟨⟨0, 0⟩, ⟨1, 0⟩⟩
theorem x2 {x y : T d c} (h1 : x.a.a = y.a.a) (h2 : x.a.b = y.a.b) (h3 : x.b.a = y.b.a) (h4 : x.b.b = y.b.b) : x = y := ext' (ext' h1 h2) (ext' h3 h4)
theorem add_p (x y : T d c) : (x + y).a.a = x.a.a + y.a.a ∧ (x + y).a.b = x.a.b + y.a.b ∧ (x + y).b.a = x.b.a + y.b.a ∧ (x + y).b.b = x.b.b + y.b.b := ⟨rfl, rfl, rfl, rfl⟩
theorem mul_p (x y : T d c) : (x * y).a.a = x.a.a * y.a.a + x.a.b * y.a.b * d + ((x.b.a * y.b.a + x.b.b * y.b.b * d) * c + (x.b.a * y.b.b + x.b.b * y.b.a) * 0 * d) ∧ (x * y).a.b = x.a.a * y.a.b + x.a.b * y.a.a + ((x.b.a * y.b.a + x.b.b * y.b.b * d) * 0 + (x.b.a * y.b.b + x.b.b * y.b.a) * c) ∧
    (x * y).b.a = x.a.a * y.b.a + x.a.b * y.b.b * d + (x.b.a * y.a.a + x.b.b * y.a.b * d) ∧ (x * y).b.b = x.a.a * y.b.b + x.a.b * y.b.a + (x.b.a * y.a.b + x.b.b * y.a.a) := ⟨rfl, rfl, rfl, rfl⟩
theorem ii_add (x y : Int) : (ii (x + y) : T d c) = ii x + ii y := by apply x2 <;> simp only [add_p, ii] <;> omega
theorem ii_mul (x y : Int) : (ii (x * y) : T d c) = ii x * ii y := by apply x2 <;> (simp only [mul_p, ii]; grind)
theorem ii_neg (x : Int) : (ii (-x) : T d c) = -ii x := by
  apply x2
  · rfl
  · show (0 : Int) = -0; rfl
  · show (0 : Int) = -0; rfl
  · show (0 : Int) = -0; rfl
theorem ii_sub (x y : Int) : (ii (x - y) : T d c) = ii x - ii y := by
  rw [show x - y = x + -y by omega, ii_add, ii_neg]; grind
theorem rd2 : (rd * rd : T d c) = ii d := by apply x2 <;> (simp only [mul_p, rd, ii]; grind)
theorem rc2 : (rc * rc : T d c) = ii c := by apply x2 <;> (simp only [mul_p, rc, ii]; grind)
end
theorem sq_base {R : Type} [Lean.Grind.CommRing R] [SgR R] {c : R} (r : R) : sq (⟨r, 0⟩ : Qx c) = s r := by
  unfold sq
  rw [show nm (⟨r, 0⟩ : Qx c) = r * r by show r * r - 0 * 0 * c = r * r; grind, mul, s_zero]
  rcases tri r with e | e | e <;> simp only [e] <;> repeat' split
  all_goals omega
section
variable {d c : Int} (hd : 0 ≤ d) (hc : 0 ≤ c)
theorem s_ii (x : Int) : (I2 hd hc).s (ii x : T d c) = sg x := (@sq_base _ _ (I1 hd) (up c) ⟨x, 0⟩).trans (sq_base (c := d) x)
theorem s_rd : (I2 hd hc).s (rd : T d c) = sg d := by
  refine (@sq_base _ _ (I1 hd) (up c) ⟨0, 1⟩).trans ?_
  show sq (⟨0, 1⟩ : Qx d) = sg d
  unfold sq
  have e : nm (⟨0, 1⟩ : Qx d) = -d := by show 0 * 0 - 1 * 1 * d = -d; omega
  rw [e]
  rcases sg_c d with ⟨z, h⟩ | ⟨z, h⟩ | ⟨z, h⟩
  · rw [sI, h, show s (-d) = -1 from sg_n (by omega)]; rfl
  · rw [sI, h, if_pos rfl]; rfl
  · omega
theorem s_rc : (I2 hd hc).s (rc : T d c) = sg c := by
  letI := I1 hd
  show sq (⟨⟨0, 0⟩, ⟨1, 0⟩⟩ : T d c) = sg c
  have e : nm (⟨⟨0, 0⟩, ⟨1, 0⟩⟩ : T d c) = -(up c) := by
    show (⟨0, 0⟩ : R1 d) * ⟨0, 0⟩ - (⟨1, 0⟩ : R1 d) * ⟨1, 0⟩ * ⟨c, 0⟩ = -⟨c, 0⟩
    apply ext'
    · show 0 * 0 + 0 * 0 * d - ((1 * 1 + 0 * 0 * d) * c + (1 * 0 + 0 * 1) * 0 * d) = -c
      grind
    · show 0 * 0 + 0 * 0 - ((1 * 1 + 0 * 0 * d) * 0 + (1 * 0 + 0 * 1) * c) = -0
      grind
  have h0 : s (up c : R1 d) = sg c := sq_up c
  have h1 : s (⟨1, 0⟩ : R1 d) = 1 := sq_base (c := d) (1 : Int)
  have h2 : s (⟨0, 0⟩ : R1 d) = 0 := sq_base (c := d) (0 : Int)
  unfold sq
  rw [e, neg, h0]
  show (if sg c = 0 then s (⟨0, 0⟩ : R1 d) else if -sg c = 1 then s (⟨0, 0⟩ : R1 d) else if -sg c = -1 then s (⟨1, 0⟩ : R1 d) else if s (⟨0, 0⟩ : R1 d) = s (⟨1, 0⟩ : R1 d) then s (⟨0, 0⟩ : R1 d) else 0) = sg c
  rw [h1, h2]
  rcases sg_c c with ⟨z, h⟩ | ⟨z, h⟩ | ⟨z, h⟩
  · rw [h]; rfl
  · rw [h]; rfl
  · omega
theorem s_d (x y : Int) : (I2 hd hc).s (ii x + ii y * rd : T d c) = swr x y d := by
  letI := I2 hd hc
  have e : (ii x : T d c) * ii x - ii y * rd * (ii y * rd) = ii (x * x - y * y * d) := by
    rw [ii_sub, ii_mul, ii_mul, ii_mul, ← rd2]; grind
  have := s_sum (ii x : T d c) (ii y * rd)
  rw [e, mul, show s (ii x : T d c) = sg x from s_ii hd hc x, show s (ii y : T d c) = sg y from s_ii hd hc y, show s (rd : T d c) = sg d from s_rd hd hc, show s (ii (x * x - y * y * d) : T d c) = _ from s_ii hd hc _] at this
  exact this
theorem s_c (x z : Int) : (I2 hd hc).s (ii x + ii z * rc : T d c) = swr x z c := by
  letI := I2 hd hc
  have e : (ii x : T d c) * ii x - ii z * rc * (ii z * rc) = ii (x * x - z * z * c) := by
    rw [ii_sub, ii_mul, ii_mul, ii_mul, ← rc2]; grind
  have := s_sum (ii x : T d c) (ii z * rc)
  rw [e, mul, show s (ii x : T d c) = sg x from s_ii hd hc x, show s (ii z : T d c) = sg z from s_ii hd hc z, show s (rc : T d c) = sg c from s_rc hd hc, show s (ii (x * x - z * z * c) : T d c) = _ from s_ii hd hc _] at this
  exact this
theorem s_dc (x y z : Int) : (I2 hd hc).s (ii x + ii y * rd + ii z * rc : T d c) = swrs x y d z c := by
  letI := I2 hd hc
  have e : (ii x + ii y * rd : T d c) * (ii x + ii y * rd) - ii z * rc * (ii z * rc) = ii (x * x + y * y * d - z * z * c) + ii (2 * x * y) * rd := by
    rw [ii_sub, ii_add, ii_mul, ii_mul, ii_mul, ii_mul, ii_mul, ii_mul, ii_mul, ← rc2, ← rd2, show (ii 2 : T d c) = 2 from rfl]; grind
  have := s_sum (ii x + ii y * rd : T d c) (ii z * rc)
  rw [e, mul, show s (ii x + ii y * rd : T d c) = swr x y d from s_d hd hc x y, show s (ii z : T d c) = sg z from s_ii hd hc z, show s (rc : T d c) = sg c from s_rc hd hc, show s (ii (x * x + y * y * d - z * z * c) + ii (2 * x * y) * rd : T d c) = _ from s_d hd hc _ _] at this
  exact this
theorem s_cd (x y z : Int) : (I2 hd hc).s (ii x + ii y * rd + ii z * rc : T d c) = swrs x z c y d := by
  letI := I2 hd hc
  have e : (ii x + ii z * rc : T d c) * (ii x + ii z * rc) - ii y * rd * (ii y * rd) = ii (x * x + z * z * c - y * y * d) + ii (2 * x * z) * rc := by
    rw [ii_sub, ii_add, ii_mul, ii_mul, ii_mul, ii_mul, ii_mul, ii_mul, ii_mul, ← rc2, ← rd2, show (ii 2 : T d c) = 2 from rfl]; grind
  have := s_sum (ii x + ii z * rc : T d c) (ii y * rd)
  rw [e, mul, show s (ii x + ii z * rc : T d c) = swr x z c from s_c hd hc x z, show s (ii y : T d c) = sg y from s_ii hd hc y, show s (rd : T d c) = sg d from s_rd hd hc, show s (ii (x * x + z * z * c - y * y * d) + ii (2 * x * z) * rc : T d c) = _ from s_c hd hc _ _] at this
  rw [show (ii x + ii y * rd + ii z * rc : T d c) = ii x + ii z * rc + ii y * rd by grind]
  exact this
theorem null_c {t : Int} (t0 : 0 ≤ t) (ht : t * t = c) : (I2 hd hc).s (rc - ii t : T d c) = 0 := by
  letI := I2 hd hc
  have p : s ((rc + ii t) * (rc - ii t) : T d c) = 0 := by
    rw [show (rc + ii t) * (rc - ii t) = (ii (c - t * t) : T d c) by rw [ii_sub, ii_mul, ← rc2]; grind, show s (ii (c - t * t) : T d c) = _ from s_ii hd hc _, show c - t * t = 0 by omega]; rfl
  rw [mul] at p
  by_cases h : t = 0
  · rw [h] at ht ⊢
    rw [show (rc - ii 0 : T d c) = rc by apply x2 <;> rfl]
    rw [show s (rc : T d c) = _ from s_rc hd hc, ← ht]; rfl
  · have h1 : s (rc + ii t : T d c) = 1 := add _ _ (by rw [show s (rc : T d c) = _ from s_rc hd hc]; exact sg_p (by have := Int.mul_pos (show 0 < t by omega) (show 0 < t by omega); omega)) (by rw [show s (ii t : T d c) = _ from s_ii hd hc t]; exact sg_p (by omega))
    rw [h1] at p
    omega
theorem repl_c {t : Int} (t0 : 0 ≤ t) (ht : t * t = c) (x y : T d c) : (I2 hd hc).s (x + y * rc) = (I2 hd hc).s (x + y * ii t) := by
  letI := I2 hd hc
  rw [show x + y * rc = y * (rc - ii t) + (x + y * ii t) by grind]
  exact add0 _ _ (by rw [mul, show s (rc - ii t : T d c) = _ from null_c hd hc t0 ht, Int.mul_zero])
include hd hc in
theorem swrs_symm (x y z : Int) : swrs x y d z c = swrs x z c y d := (s_dc hd hc x y z).symm.trans (s_cd hd hc x y z)
include hd hc in
theorem swrs_sqc {t : Int} (t0 : 0 ≤ t) (ht : t * t = c) (x y z : Int) : swrs x y d z c = swr (x + z * t) y d := by
  rw [← s_dc hd hc, repl_c hd hc t0 ht, ← ii_mul, show (ii x + ii y * rd + ii (z * t) : T d c) = ii (x + z * t) + ii y * rd by rw [ii_add]; grind]
  exact s_d hd hc _ _
include hd in
theorem swr_sq {t : Int} (t0 : 0 ≤ t) (ht : t * t = d) (x y : Int) : swr x y d = sg (x + y * t) := by
  have h := swrs_sqc (d := 0) (c := d) (by decide) hd t0 ht x 0 y
  have h2 := swrs_symm (d := 0) (c := d) (by decide) hd x 0 y
  have e1 : swrs x y d 0 0 = swr x y d := by unfold swrs; rw [if_pos (.inr (by rw [sg_z]; rfl))]
  have e2 : swr (x + y * t) 0 0 = sg (x + y * t) := by unfold swr; rw [if_pos (.inr (by rw [sg_z]; rfl))]
  rw [← e1, ← h2, h, e2]
end
theorem swr_0 (x d : Int) : swr x 0 d = sg x := by unfold swr; rw [if_pos (.inr (by rw [sg_z, Int.zero_mul]))]
end Or
open Or

/-! ## places in order -/
namespace Or
 open K10
/-- the sign of the difference of two places -/
def cmp4 (A B C s : Int) : List Int → Int
  | [u, v] => swr ((0 - B) * v - u * (2 * A)) (s * v) (B * B - 4 * A * C)
  | [a, b, c, t] => swrs ((0 - B) * (2 * a) - (0 - b) * (2 * A)) (s * (2 * a)) (B * B - 4 * A * C) (0 - t * (2 * A)) (b * b - 4 * a * c)
  | _ => 0
def cmpPl : List Int → List Int → Int
  | [x, y], [u, v] => sg (x * v - u * y)
  | [A, B, C, s], pl => cmp4 A B C s pl
  | [x, y], [a, b, c, t] => 0 - cmp4 a b c t [x, y]
  | _, _ => 0
/-- four numbers (p + q * root of d) / r -/
structure G4 where
  p : Int
  q : Int
  d : Int
  r : Int
def gap (g h : G4) : Int := swrs (g.p * h.r - h.p * g.r) (g.q * h.r) g.d (0 - h.q * g.r) h.d
/-- a place is the one of four numbers -/
inductive Rep (g : G4) : List Int → Prop
  | two {x y t : Int} (d0 : 0 ≤ g.d) (r0 : 0 < g.r) (t0 : 0 ≤ t) (ht : g.q = 0 ∨ t * t = g.d) (y0 : 0 ≤ y) (x0 : 0 ≤ x) (y1 : 0 < y) (e : (g.p + g.q * t) * y = x * g.r) (co : Int.gcd x y = 1) : Rep g [x, y]
  | four {A B C f s : Int} (d0 : 0 ≤ g.d) (r0 : 0 < g.r) (q0 : g.q ≠ 0) (dn : ¬ isq g.d) (h : Red (g.r * g.r) (-2 * g.p * g.r) (g.p * g.p - g.q * g.q * g.d) A B C f) (hs : s = sg g.q) : Rep g [A, B, C, s]
theorem red_A {g : G4} {A B C f : Int} (r0 : 0 < g.r) (h : Red (g.r * g.r) (-2 * g.p * g.r) (g.p * g.p - g.q * g.q * g.d) A B C f) : 0 < A := by
  have rr : 0 < g.r * g.r := Int.mul_pos r0 r0
  exact Int.pos_of_mul_pos_right (by rw [h.ha]; exact rr) h.f0 |> fun h => h
theorem red_D {g : G4} {A B C f : Int} (h : Red (g.r * g.r) (-2 * g.p * g.r) (g.p * g.p - g.q * g.q * g.d) A B C f) : f * f * (B * B - 4 * A * C) = 4 * (g.q * g.q) * (g.r * g.r) * g.d := by
  have : f * f * (B * B - 4 * A * C) = (f * B) * (f * B) - 4 * (f * A) * (f * C) := by grind
  rw [this, h.ha, h.hb, h.hc]; grind
theorem nsq_pos {d : Int} (d0 : 0 ≤ d) (dn : ¬ isq d) : 0 < d := by
  rcases Int.lt_or_eq_of_le d0 with h | h
  · exact h
  · exact absurd ⟨0, by decide, by rw [← h]; rfl⟩ dn
theorem red_Dp {g : G4} {A B C f : Int} (r0 : 0 < g.r) (d0 : 0 ≤ g.d) (q0 : g.q ≠ 0) (dn : ¬ isq g.d) (h : Red (g.r * g.r) (-2 * g.p * g.r) (g.p * g.p - g.q * g.q * g.d) A B C f) : 0 < B * B - 4 * A * C := by
  have ff : 0 < f * f := Int.mul_pos h.f0 h.f0
  have e := red_D h
  have : 0 < f * f * (B * B - 4 * A * C) := by
    rw [e]
    have h1 := K15.sq_pos q0
    have h2 := Int.mul_pos r0 r0
    exact Int.mul_pos (Int.mul_pos (by omega) h2) (nsq_pos d0 dn)
  exact Int.pos_of_mul_pos_right this ff |> fun h => h
theorem prim_un {m n A B C a b c : Int} (m0 : 0 < m) (n0 : 0 < n) (h1 : m * A = n * a) (h2 : m * B = n * b) (h3 : m * C = n * c) (g : Int.gcd (Int.gcd A B) C = 1) (g' : Int.gcd (Int.gcd a b) c = 1) : A = a ∧ B = b ∧ C = c := by
  have e1 : Int.gcd (Int.gcd (m * A) (m * B)) (m * C) = m.natAbs := by
    rw [Int.gcd_mul_left, Int.natCast_mul, show ((m.natAbs : Nat) : Int) = m by omega, Int.gcd_mul_left, g, Nat.mul_one]
  have e2 : Int.gcd (Int.gcd (n * a) (n * b)) (n * c) = n.natAbs := by
    rw [Int.gcd_mul_left, Int.natCast_mul, show ((n.natAbs : Nat) : Int) = n by omega, Int.gcd_mul_left, g', Nat.mul_one]
  have e : m = n := by
    rw [h1, h2, h3, e2] at e1
    omega
  subst e
  exact ⟨K15.mul_can' (by omega) h1, K15.mul_can' (by omega) h2, K15.mul_can' (by omega) h3⟩
theorem frac_un {x y u v : Int} (y0 : 0 < y) (v0 : 0 < v) (g : Int.gcd x y = 1) (g' : Int.gcd u v = 1) (e : x * v = u * y) : x = u ∧ y = v := by
  have dv : ∀ x y v : Int, Int.gcd x y = 1 → y ∣ x * v → y ∣ v := fun x y v g h => by
    have h1 := Int.natAbs_dvd_natAbs.mpr h
    rw [Int.natAbs_mul] at h1
    exact Int.natAbs_dvd_natAbs.mp (Nat.Coprime.dvd_of_dvd_mul_left (show Nat.Coprime y.natAbs x.natAbs by rw [Nat.coprime_comm]; exact g) h1)
  have d1 : y ∣ v := dv x y v g (by rw [e]; exact Int.dvd_mul_left _ _)
  have d2 : v ∣ y := dv u v y g' (by rw [← e]; exact Int.dvd_mul_left _ _)
  have e1 : y = v := Int.dvd_antisymm (by omega) (by omega) d1 d2
  subst e1
  exact ⟨Int.eq_of_mul_eq_mul_right (by omega) e, rfl⟩
end Or

/-! ## edges in order -/
namespace Eo
open Or
def sp_swrs : Sp := fun vs H Q _ => ∃ x y d z c : Int, vs = [.int x, .int y, .int d, .int z, .int c] ∧ (Bd 190 x ∧ Bd 100 y ∧ Bd 190 d ∧ Bd 100 z ∧ Bd 190 c) ∧ Q (.int (swrs x y d z c)) H
inductive PlO : List Int → Prop
  | two {x y : Int} (bx : Bd 90 x) (b_y : Bd 90 y) : PlO [x, y]
  | four {A B C s : Int} (ba : Bd 90 A) (bb : Bd 90 B) (bc : Bd 90 C) (bs : Bd 4 s) : PlO [A, B, C, s]
def sp_cmp4 (K : PySem.W.Frag) : Sp := fun vs H Q _ => ∃ (p q : Addr) (A B C s : Int) (pl : List Int), vs = [.ref p, .ref q] ∧ H p = some (.tup [.int A, .int B, .int C, .int s]) ∧ H q = some (.tup (pl.map V.int)) ∧ PlO [A, B, C, s] ∧ PlO pl ∧ ∀ H', Same H H' → Q (.int (cmp4 A B C s pl)) H'
theorem D_bd {A B C : Int} (ba : Bd 90 A) (bb : Bd 90 B) (bc : Bd 90 C) : Bd 190 (B * B - 4 * A * C) := ((bb.mul bb).sub (((show Bd 3 4 from (show Int.natAbs 4 < 2 ^ 3 by decide)).mul ba).mul bc)).mono (by decide)
theorem two_bd {A : Int} {n : Nat} (ba : Bd n A) : Bd (n + 2) (2 * A) := ((show Bd 2 2 from (show Int.natAbs 2 < 2 ^ 2 by decide)).mul ba).mono (by omega)
theorem neg_bd {A : Int} {n : Nat} (ba : Bd n A) : Bd n (0 - A) := by unfold Bd at *; omega
end Eo
open Or Eo
section
variable {P : Program} {w : World} {K : PySem.W.Frag} {mg : Str → Option Value} {base : Heap}
theorem ok_swrs {f : Addr} {fd : FuncData} (F : Fun K "sign_with_roots" "sign_with_roots" S_sign_with_roots f fd) (T : Txt K mg) (C_sign : FnC P w K mg base CX0 1 "sign_of" ["number"] sp_sign) (C_swr : FnC P w K mg base CX0 2 "sign_with_root" ["one", "times", "inner"] sp_swr) : FnOk P w K mg base CX0 3 f fd ["one", "times", "inner", "again", "other"] sp_swrs := by
  refine F.ok SC_sign_with_roots (fun vs H Q E h => ?_) (fun cdv A outer s H vs Q E hr h => ?_)
  · obtain ⟨x, y, d, z, c, rfl, _⟩ := h
    rfl
  · obtain ⟨x, y, d, z, c, rfl, ⟨bx, b_y, bd, bz, bc⟩, q⟩ := h
    refine ⟨_, (pss_cons (ps_par (i := 5) (j := 6) (by rfl) SC_sign_with_roots.nd rfl rfl (by decide) rfl rfl (pa_cons (pe_callC C_swr (hr.mono (by decide)) rfl (pa_cons (pv 0) (pa_cons (pv 1) (pa_cons (pv 2) pa_nil)))) (pa_cons (pe_op op_mulW (pe_callC C_sign (hr.mono (by decide)) rfl (pa_cons (pv 3) pa_nil)) (pe_callC C_sign (hr.mono (by decide)) rfl (pa_cons (pv 4) pa_nil))) pa_nil)) (by rfl))
      (pss_cons (ps_if (PW.pt (pw_or (pt_cmpR op_eq (pv 5) (pv 6) (nomark _)) (pw_or1 (pt_cmpR op_eq (pv 6) pe_int (nomark _))))) (pss_one (ps_ret (pv 5))) pss_nil)
      (pss_cons (ps_if (pt_cmpR op_eq (pv 5) pe_int (nomark _)) (pss_one (ps_ret (pv 6))) pss_nil)
      (pss_cons (ps_set (i := 7) SC_sign_with_roots.nd rfl (.inl rfl) (pe_op op_sub (pe_op op_add (pe_op op_mulW (pv 0) (pv 0)) (pe_op op_mulW (pe_op op_mulW (pv 1) (pv 1)) (pv 2))) (pe_op op_mulW (pe_op op_mulW (pv 3) (pv 3)) (pv 4))))
      (pss_nrm (pss_one (ps_ret (pe_op op_mulW (pv 5) (pe_callC C_swr (hr.mono (by decide)) rfl (pa_cons (pv 7) (pa_cons (pe_op op_mulW (pe_op op_mulW pe_int (pv 0)) (pv 1)) (pa_cons (pv 2) pa_nil)))))))))))), ?_⟩
    unfold swrs at q
    walk_at "kw"
    refine ite2 (fun h => ?_) (fun h => ?_)
    · rw [if_pos (.inl (V.int.inj (of_decide_eq_true h)))] at q
      exact ⟨_, rfl, q⟩
    have n1 : ¬ swr x y d = sg z * sg c := fun e => h (decide_eq_true (congrArg V.int e))
    walk_at "kw"
    refine ite2 (fun h => ?_) (fun h => ?_)
    · rw [if_pos (.inr (V.int.inj (of_decide_eq_true h)))] at q
      exact ⟨_, rfl, q⟩
    have n2 : ¬ sg z * sg c = 0 := fun e => h (decide_eq_true (congrArg V.int e))
    rw [if_neg (fun z => z.elim n1 n2)] at q
    walk_at "kw"
    refine ite2 (fun h => ?_) (fun h => ?_)
    · rw [if_pos (V.int.inj (of_decide_eq_true h))] at q
      exact ⟨_, rfl, q⟩
    rw [if_neg (fun e => h (decide_eq_true (congrArg V.int e)))] at q
    have k1 : Bd 400 (x * x + y * y * d - z * z * c) := (((bx.mul bx).add ((b_y.mul b_y).mul bd)).sub ((bz.mul bz).mul bc)).mono (by decide)
    have k2 : Bd 400 (2 * x * y) := ((two_bd bx).mul b_y).mono (by decide)
    have k3 : Bd 400 d := bd.mono (by decide)
    walk_at "kw"
    exact q
theorem ok_cmp4 {f : Addr} {fd : FuncData} (F : Fun K "compared" "compared" S_compared f fd) (T : Txt K mg) (C_sign : FnC P w K mg base CX0 1 "sign_of" ["number"] sp_sign) (C_swr : FnC P w K mg base CX0 2 "sign_with_root" ["one", "times", "inner"] sp_swr) (C_swrs : FnC P w K mg base CX0 3 "sign_with_roots" ["one", "times", "inner", "again", "other"] sp_swrs) (C_inner : FnC P w K mg base CX0 1 "inner_of" ["root"] (sp_inner K)) : FnOk P w K mg base CX0 4 f fd ["one", "other"] (sp_cmp4 K) := by
  refine F.ok SC_compared (fun vs H Q E h => ?_) (fun cdv A outer s H vs Q E hr h => ?_)
  · obtain ⟨p, q, A, B, C, s, pl, rfl, _⟩ := h
    rfl
  · obtain ⟨p, q, A, B, C, sd, pl, rfl, hp, hq, ho, ho', k⟩ := h
    refine ⟨_, (pss_cons (ps_if (PW.pt (pw_and (pt_cmpR op_eq (pe_callB call_len_seq (by rfl) T.b_len (by decide +kernel) (pa_cons (pv 0) pa_nil)) pe_int (nomark _)) (pw_and1 (pt_cmpR op_eq (pe_callB call_len_seq (by rfl) T.b_len (by decide +kernel) (pa_cons (pv 1) pa_nil)) pe_int (nomark _))))) (pss_one (ps_ret (pe_callC C_sign (hr.mono (by decide)) rfl (pa_cons (pe_op op_sub (pe_op op_mulW (pe_ix ix_tup (pv 0) pe_int (fun _ _ => rfl)) (pe_ix ix_tup (pv 1) pe_int (fun _ _ => rfl))) (pe_op op_mulW (pe_ix ix_tup (pv 1) pe_int (fun _ _ => rfl)) (pe_ix ix_tup (pv 0) pe_int (fun _ _ => rfl)))) pa_nil)))) pss_nil)
      (pss_cons (ps_if (pt_cmpR op_eq (pe_callB call_len_seq (by rfl) T.b_len (by decide +kernel) (pa_cons (pv 0) pa_nil)) pe_int (nomark _)) (pss_one (ps_ret (pe_op op_sub pe_int pe_never))) pss_nil)
      (pss_cons (ps_par (i := 2) (j := 3) (by rfl) SC_compared.nd rfl rfl (by decide) rfl rfl (pa_cons (pe_op op_sub pe_int (pe_ix ix_tup (pv 0) pe_int (fun _ _ => rfl))) (pa_cons (pe_op op_mulW pe_int (pe_ix ix_tup (pv 0) pe_int (fun _ _ => rfl))) pa_nil)) (by rfl))
      (pss_cons (ps_if (pt_cmpR op_eq (pe_callB call_len_seq (by rfl) T.b_len (by decide +kernel) (pa_cons (pv 1) pa_nil)) pe_int (nomark _)) (pss_one (ps_ret (pe_callC C_swr (hr.mono (by decide)) rfl (pa_cons (pe_op op_sub (pe_op op_mulW (pv 2) (pe_ix ix_tup (pv 1) pe_int (fun _ _ => rfl))) (pe_op op_mulW (pe_ix ix_tup (pv 1) pe_int (fun _ _ => rfl)) (pv 3))) (pa_cons (pe_op op_mulW (pe_ix ix_tup (pv 0) pe_int (fun _ _ => rfl)) (pe_ix ix_tup (pv 1) pe_int (fun _ _ => rfl))) (pa_cons (pe_callC C_inner (hr.mono (by decide)) rfl (pa_cons (pv 0) pa_nil)) pa_nil)))))) pss_nil)
      (pss_cons (ps_par (i := 4) (j := 5) (by rfl) SC_compared.nd rfl rfl (by decide) rfl rfl (pa_cons (pe_op op_sub pe_int (pe_ix ix_tup (pv 1) pe_int (fun _ _ => rfl))) (pa_cons (pe_op op_mulW pe_int (pe_ix ix_tup (pv 1) pe_int (fun _ _ => rfl))) pa_nil)) (by rfl))
      (pss_nrm (pss_cons (ps_set (i := 6) SC_compared.nd rfl (.inl rfl) (pe_op op_sub (pe_op op_mulW (pv 2) (pv 5)) (pe_op op_mulW (pv 4) (pv 3))))
      (pss_one (ps_ret (pe_callC C_swrs (hr.mono (by decide)) rfl (pa_cons (pv 6) (pa_cons (pe_op op_mulW (pe_ix ix_tup (pv 0) pe_int (fun _ _ => rfl)) (pv 5)) (pa_cons (pe_callC C_inner (hr.mono (by decide)) rfl (pa_cons (pv 0) pa_nil)) (pa_cons (pe_op op_sub pe_int (pe_op op_mulW (pe_ix ix_tup (pv 1) pe_int (fun _ _ => rfl)) (pv 3))) (pa_cons (pe_callC C_inner (hr.mono (by decide)) rfl (pa_cons (pv 1) pa_nil)) pa_nil))))))))))))))), ?_⟩
    cases ho with
    | four ba bb bc bs =>
      have bD := D_bd ba bb bc
      have i1 : Bd 800 A := ba.mono (by decide)
      have i2 : Bd 800 B := bb.mono (by decide)
      have i3 : Bd 800 C := bc.mono (by decide)
      cases ho' with
      | two bu bv =>
        rename_i u v
        have W := ((Ho.start H).call (Same.refl H) hp).call (o := .tup [.int u, .int v]) (Same.refl H) hq
        have e1 : Bd 400 ((0 - B) * v - u * (2 * A)) := (((neg_bd bb).mul bv).sub (bu.mul (two_bd ba))).mono (by decide)
        have e2 : Bd 400 (sd * v) := (bs.mul bv).mono (by decide)
        have e3 := bD.mono (show 190 ≤ 400 by decide)
        walk_at "kw"
        refine ifF rfl (ifF rfl ?_)
        walk_at "kw"
        refine ifF rfl ?_
        walk_at "kw"
        refine ifT rfl ?_
        walk_at "kw"
        exact k H W.sm
      | four ca cb cc cs =>
        rename_i a b c t
        have W := ((Ho.start H).call (Same.refl H) hp).call (o := .tup [.int a, .int b, .int c, .int t]) (Same.refl H) hq
        have cD := D_bd ca cb cc
        have j1 : Bd 800 a := ca.mono (by decide)
        have j2 : Bd 800 b := cb.mono (by decide)
        have j3 : Bd 800 c := cc.mono (by decide)
        have e1 : Bd 190 ((0 - B) * (2 * a) - (0 - b) * (2 * A)) := (((neg_bd bb).mul (two_bd ca)).sub ((neg_bd cb).mul (two_bd ba))).mono (by decide)
        have e2 : Bd 100 (sd * (2 * a)) := (bs.mul (two_bd ca)).mono (by decide)
        have e3 : Bd 100 (0 - t * (2 * A)) := neg_bd ((cs.mul (two_bd ba)).mono (by decide))
        walk_at "kw"
        refine ifF rfl (ifF rfl ?_)
        walk_at "kw"
        refine ifF rfl ?_
        walk_at "kw"
        refine ifF rfl ?_
        walk_at "kw"
        exact ⟨_, _, _, _, _, rfl, ⟨e1, e2, bD, e3, cD⟩, k H W.sm⟩
end

/-! ## places as pairs in a ring with signs -/
namespace Pj
 open Sg Sg.SgR Lean.Grind
open K10 Or
/-- a ring with signs that holds the integers -/
class Em (R : Type) [CommRing R] extends SgR R where
  i : Int → R
  i_add : ∀ x y, i (x + y) = i x + i y
  i_mul : ∀ x y, i (x * y) = i x * i y
  i_one : i 1 = 1
  i_s : ∀ x, s (i x) = sg x
section
variable {R : Type} [CommRing R] [Em R]
 open Em
theorem i_zero : (i 0 : R) = 0 := by
  have h : (i (0 + 0) : R) = i 0 + i 0 := i_add 0 0
  rw [show (0 : Int) + 0 = 0 from rfl] at h
  grind
theorem i_neg (x : Int) : (i (-x) : R) = - i x := by
  have h : (i (x + -x) : R) = i x + i (-x) := i_add _ _
  rw [show x + -x = 0 by omega, i_zero] at h
  grind
theorem i_sub (x y : Int) : (i (x - y) : R) = i x - i y := by
  rw [show x - y = x + -y by omega, i_add, i_neg]; grind
theorem i_two : (i 2 : R) = 2 := by
  rw [show (2 : Int) = 1 + 1 from rfl, i_add, i_one]; grind
theorem i_four : (i 4 : R) = 4 := by
  rw [show (4 : Int) = 2 + 2 from rfl, i_add, i_two]; grind
/-- null elements -/
theorem nu_add {a b : R} (h : s a = 0) (g : s b = 0) : s (a + b) = 0 := (add0 _ _ h).trans g
theorem nu_mul {a : R} (h : s a = 0) (b : R) : s (a * b) = 0 := by rw [mul, h, Int.zero_mul]
theorem nu_mul' {a : R} (h : s a = 0) (b : R) : s (b * a) = 0 := by rw [mul, h, Int.mul_zero]
theorem nu_neg {a : R} (h : s a = 0) : s (-a) = 0 := by rw [neg, h]; rfl
theorem nu_sub {a b : R} (h : s a = 0) (g : s b = 0) : s (a - b) = 0 := by rw [show a - b = a + -b by grind]; exact nu_add h (nu_neg g)
theorem pos_mul {a b : R} (h : s a = 1) : s (a * b) = s b := by rw [mul, h, Int.one_mul]
inductive RepR (N D : R) : List Int → Prop
  | two {x y : Int} (x0 : 0 ≤ x) (y0 : 0 ≤ y) (co : Int.gcd x y = 1) (e : s (N * i y - i x * D) = 0) (p : s (i x * N + i y * D) = 1) : RepR N D [x, y]
  | four {A B C sd : Int} (A0 : 0 < A) (g : Int.gcd (Int.gcd A B) C = 1) (dp : 0 ≤ B * B - 4 * A * C) (dn : ¬ isq (B * B - 4 * A * C)) (e : s (i A * (N * N) + i B * (N * D) + i C * (D * D)) = 0) (d0 : s D = 1) (hs : s (2 * i A * N + i B * D) = sd) : RepR N D [A, B, C, sd]
theorem co_nz {x y : Int} (co : Int.gcd x y = 1) : 0 < x * x + y * y := by
  rcases Int.lt_trichotomy x 0 with h | h | h
  · have := Int.mul_pos_of_neg_of_neg h h
    have := K15.sg_nz (show x ≠ 0 by omega)
    have : 0 ≤ y * y := by rcases Int.le_total 0 y with z | z; exact Int.mul_nonneg z z; exact Int.mul_nonneg_of_nonpos_of_nonpos z z
    omega
  · subst h
    have : y ≠ 0 := fun e => by subst e; exact absurd co (by decide)
    have := K15.sq_pos this
    omega
  · have := Int.mul_pos h h
    have : 0 ≤ y * y := by rcases Int.le_total 0 y with z | z; exact Int.mul_nonneg z z; exact Int.mul_nonneg_of_nonpos_of_nonpos z z
    omega
/-- the pair of a fraction -/
theorem two_pair {N D : R} {x y : Int} (e : s (N * i y - i x * D) = 0) : s (i (x * x + y * y) * N - i x * (i x * N + i y * D)) = 0 ∧ s (i (x * x + y * y) * D - i y * (i x * N + i y * D)) = 0 := by
  constructor
  · rw [show i (x * x + y * y) * N - i x * (i x * N + i y * D) = i y * (N * i y - i x * D) by rw [i_add, i_mul, i_mul]; grind]
    exact nu_mul' e _
  · rw [show i (x * x + y * y) * D - i y * (i x * N + i y * D) = -(i x * (N * i y - i x * D)) by rw [i_add, i_mul, i_mul]; grind]
    exact nu_neg (nu_mul' e _)
theorem disc {N D : R} {A B C : Int} (e : s (i A * (N * N) + i B * (N * D) + i C * (D * D)) = 0) : s ((2 * i A * N + i B * D) * (2 * i A * N + i B * D) - i (B * B - 4 * A * C) * (D * D)) = 0 := by
  rw [show (2 * i A * N + i B * D) * (2 * i A * N + i B * D) - i (B * B - 4 * A * C) * (D * D) = 4 * i A * (i A * (N * N) + i B * (N * D) + i C * (D * D)) by rw [i_sub, i_mul, i_mul, i_mul, i_four]; grind]
  exact nu_mul' e _
theorem s_i2 : s (2 : R) = 1 := by rw [← i_two, i_s]; rfl
theorem sd_pm {N D : R} {A B C sd : Int} (dp : 0 ≤ B * B - 4 * A * C) (dn : ¬ isq (B * B - 4 * A * C)) (e : s (i A * (N * N) + i B * (N * D) + i C * (D * D)) = 0) (d0 : s D = 1) (hs : s (2 * i A * N + i B * D) = sd) : sd = 1 ∨ sd = -1 := by
  have h := s_sub0 _ _ (disc e)
  rw [mul, mul, mul, i_s, d0, sg_p (nsq_pos dp dn), hs] at h
  have := tri (2 * i A * N + i B * D)
  rw [hs] at this
  rcases this with z | z | z
  · exact .inl z
  · rw [z] at h; omega
  · exact .inr z
/-- a number with a root beside a fraction -/
theorem cmp_f {N D : R} {A B C sd : Int} (A0 : 0 < A) (dp : 0 ≤ B * B - 4 * A * C) (dn : ¬ isq (B * B - 4 * A * C)) (e : s (i A * (N * N) + i B * (N * D) + i C * (D * D)) = 0) (d0 : s D = 1) (hs : s (2 * i A * N + i B * D) = sd) (u v : Int) :
    cmp4 A B C sd [u, v] = s (i v * N - i u * D) := by
  have hpm := sd_pm dp dn e d0 hs
  have dd := sg_p (nsq_pos dp dn)
  have sA : s (2 * i A : R) = 1 := by rw [mul, s_i2, i_s, sg_p A0]; rfl
  have e1 : s (i v * N - i u * D) = s (i ((0 - B) * v - u * (2 * A)) * D + i v * (2 * i A * N + i B * D)) := by
    rw [← pos_mul (b := i v * N - i u * D) sA]
    congr 1
    rw [i_sub, i_mul, i_mul, i_mul, i_sub, i_zero, i_two]; grind
  have e2 : s (i ((0 - B) * v - u * (2 * A)) * D) = sg ((0 - B) * v - u * (2 * A)) := by rw [mul, d0, i_s, Int.mul_one]
  have e3 : s (i v * (2 * i A * N + i B * D)) = sg (sd * v) * sg (B * B - 4 * A * C) := by
    rw [mul, hs, i_s, dd, Int.mul_one, sg_mul]
    rcases hpm with h | h <;> rw [h]
    · rw [show sg 1 = 1 from rfl]; omega
    · rw [show sg (-1) = -1 from rfl]; omega
  have e4 : s (i ((0 - B) * v - u * (2 * A)) * D * (i ((0 - B) * v - u * (2 * A)) * D) - i v * (2 * i A * N + i B * D) * (i v * (2 * i A * N + i B * D))) = sg (((0 - B) * v - u * (2 * A)) * ((0 - B) * v - u * (2 * A)) - sd * v * (sd * v) * (B * B - 4 * A * C)) := by
    have ss : sd * v * (sd * v) = v * v := by rcases hpm with h | h <;> rw [h] <;> grind
    rw [ss]
    generalize (0 - B) * v - u * (2 * A) = X
    have : s (i X * D * (i X * D) - i v * (2 * i A * N + i B * D) * (i v * (2 * i A * N + i B * D))) = s (D * D * i (X * X - v * v * (B * B - 4 * A * C))) := by
      refine s_sub0 _ _ ?_
      rw [show i X * D * (i X * D) - i v * (2 * i A * N + i B * D) * (i v * (2 * i A * N + i B * D)) - D * D * i (X * X - v * v * (B * B - 4 * A * C)) = -(i v * i v * ((2 * i A * N + i B * D) * (2 * i A * N + i B * D) - i (B * B - 4 * A * C) * (D * D))) by
        rw [i_sub (X * X), i_mul (v * v), i_mul X, i_mul v]; grind]
      exact nu_neg (nu_mul' (disc e) _)
    rw [this, mul, mul, d0, i_s, Int.one_mul, Int.one_mul]
  rw [e1, s_sum, e2, e3, e4]
  rfl
/-- two numbers with roots -/
theorem cmp_r {N D M E : R} {A B C sd a b c td : Int} (h : RepR N D [A, B, C, sd]) (h' : RepR M E [a, b, c, td]) : cmp4 A B C sd [a, b, c, td] = s (N * E - M * D) := by
  cases h with
  | four A0 g dp dn e d0 hs =>
  cases h' with
  | four a0 g' cp cn e' d0' hs' =>
  have hpm := sd_pm dp dn e d0 hs
  have hpm' := sd_pm cp cn e' d0' hs'
  have dd := sg_p (nsq_pos dp dn)
  have cc := sg_p (nsq_pos cp cn)
  have sA : s (2 * i A : R) = 1 := by rw [mul, s_i2, i_s, sg_p A0]; rfl
  have sa : s (2 * i a : R) = 1 := by rw [mul, s_i2, i_s, sg_p a0]; rfl
  have q1 := disc e
  have q2 := disc e'
  show swrs ((0 - B) * (2 * a) - (0 - b) * (2 * A)) (sd * (2 * a)) (B * B - 4 * A * C) (0 - td * (2 * A)) (b * b - 4 * a * c) = _
  have X1 : (i ((0 - B) * (2 * a) - (0 - b) * (2 * A)) : R) = -(i B) * (2 * i a) + i b * (2 * i A) := by
    rw [i_sub, i_mul, i_mul, i_mul, i_mul, i_sub, i_sub, i_zero, i_two]; grind
  generalize hX : (0 - B) * (2 * a) - (0 - b) * (2 * A) = X at *
  generalize hF : 2 * i A * N + i B * D = F at *
  generalize hG : 2 * i a * M + i b * E = G at *
  have e1 : s (N * E - M * D) = s (i X * (D * E) + 2 * i a * F * E + -(2 * i A * G * D)) := by
    rw [← pos_mul (b := N * E - M * D) sA, ← pos_mul (b := 2 * i A * (N * E - M * D)) sa]
    congr 1
    rw [X1, ← hF, ← hG]; grind
  have sD : s (D * E) = 1 := by rw [mul, d0, d0']; rfl
  have f1 : s (i X * (D * E)) = sg X := by rw [mul, sD, i_s, Int.mul_one]
  have f2 : s (2 * i a * F * E) = sg (sd * (2 * a)) * sg (B * B - 4 * A * C) := by
    rw [mul, mul, sa, hs, d0', dd, sg_mul, sg_p (show 0 < 2 * a by omega)]
    rcases hpm with h | h <;> rw [h] <;> rfl
  have ss : sd * sd = 1 := by rcases hpm with h | h <;> rw [h] <;> rfl
  have tt : td * td = 1 := by rcases hpm' with h | h <;> rw [h] <;> rfl
  have f3 : s (i X * (D * E) * (i X * (D * E)) - 2 * i a * F * E * (2 * i a * F * E)) = sg (X * X - sd * (2 * a) * (sd * (2 * a)) * (B * B - 4 * A * C)) := by
    rw [show sd * (2 * a) * (sd * (2 * a)) = 2 * a * (2 * a) by
      have : sd * (2 * a) * (sd * (2 * a)) = sd * sd * (2 * a * (2 * a)) := by grind
      rw [this, ss]; omega]
    have : s (i X * (D * E) * (i X * (D * E)) - 2 * i a * F * E * (2 * i a * F * E)) = s (D * E * (D * E) * i (X * X - 2 * a * (2 * a) * (B * B - 4 * A * C))) := by
      refine s_sub0 _ _ ?_
      rw [show i X * (D * E) * (i X * (D * E)) - 2 * i a * F * E * (2 * i a * F * E) - D * E * (D * E) * i (X * X - 2 * a * (2 * a) * (B * B - 4 * A * C)) = -(2 * i a * E * (2 * i a * E) * (F * F - i (B * B - 4 * A * C) * (D * D))) by
        rw [i_sub (X * X), i_mul (2 * a * (2 * a)), i_mul X, i_mul (2 * a), i_mul 2 a, i_two]; grind]
      exact nu_neg (nu_mul' q1 _)
    rw [this, mul, mul, sD, i_s]; omega
  have f4 : s (i X * (D * E) + 2 * i a * F * E) = swr X (sd * (2 * a)) (B * B - 4 * A * C) := by
    rw [s_sum, f1, f2, f3]; rfl
  have f5 : s (-(2 * i A * G * D)) = sg (0 - td * (2 * A)) * sg (b * b - 4 * a * c) := by
    rw [neg, mul, mul, sA, hs', d0, cc, show 0 - td * (2 * A) = (-1) * (td * (2 * A)) by omega, sg_mul, sg_mul, sg_p (show 0 < 2 * A by omega)]
    rcases hpm' with h | h <;> rw [h] <;> rfl
  have f6 : s ((i X * (D * E) + 2 * i a * F * E) * (i X * (D * E) + 2 * i a * F * E) - -(2 * i A * G * D) * -(2 * i A * G * D)) = swr (X * X + sd * (2 * a) * (sd * (2 * a)) * (B * B - 4 * A * C) - (0 - td * (2 * A)) * (0 - td * (2 * A)) * (b * b - 4 * a * c)) (2 * X * (sd * (2 * a))) (B * B - 4 * A * C) := by
    rw [show sd * (2 * a) * (sd * (2 * a)) = 2 * a * (2 * a) by
      have : sd * (2 * a) * (sd * (2 * a)) = sd * sd * (2 * a * (2 * a)) := by grind
      rw [this, ss]; omega, show (0 - td * (2 * A)) * (0 - td * (2 * A)) = 2 * A * (2 * A) by
      have : (0 - td * (2 * A)) * (0 - td * (2 * A)) = td * td * (2 * A * (2 * A)) := by grind
      rw [this, tt]; omega]
    have Y1 : (i (X * X + 2 * a * (2 * a) * (B * B - 4 * A * C) - 2 * A * (2 * A) * (b * b - 4 * a * c)) : R) = i X * i X + 2 * i a * (2 * i a) * i (B * B - 4 * A * C) - 2 * i A * (2 * i A) * i (b * b - 4 * a * c) := by
      rw [i_sub, i_add, i_mul (2 * a * (2 * a)), i_mul (2 * A * (2 * A)), i_mul X, i_mul (2 * a), i_mul (2 * A), i_mul 2 a, i_mul 2 A, i_two]
    generalize hY : X * X + 2 * a * (2 * a) * (B * B - 4 * A * C) - 2 * A * (2 * A) * (b * b - 4 * a * c) = Y at *
    have : s ((i X * (D * E) + 2 * i a * F * E) * (i X * (D * E) + 2 * i a * F * E) - -(2 * i A * G * D) * -(2 * i A * G * D)) = s (D * E * E * (i Y * D + 2 * i X * (2 * i a) * F)) := by
      refine s_sub0 _ _ ?_
      rw [show (i X * (D * E) + 2 * i a * F * E) * (i X * (D * E) + 2 * i a * F * E) - -(2 * i A * G * D) * -(2 * i A * G * D) - D * E * E * (i Y * D + 2 * i X * (2 * i a) * F) = 2 * i a * E * (2 * i a * E) * (F * F - i (B * B - 4 * A * C) * (D * D)) + -(2 * i A * D * (2 * i A * D) * (G * G - i (b * b - 4 * a * c) * (E * E))) by rw [Y1]; grind]
      exact nu_add (nu_mul' q1 _) (nu_neg (nu_mul' q2 _))
    rw [this, pos_mul (by rw [mul, sD, d0']; rfl)]
    have g1 : s (i Y * D) = sg Y := by rw [mul, d0, i_s, Int.mul_one]
    have g2 : s (2 * i X * (2 * i a) * F) = sg (2 * X * (sd * (2 * a))) * sg (B * B - 4 * A * C) := by
      rw [mul, mul, mul, s_i2, sa, hs, i_s, dd, sg_mul, sg_mul, sg_mul, sg_p (show 0 < 2 * a by omega), show sg 2 = 1 from rfl]
      rcases hpm with h | h <;> rw [h] <;> (first | rw [show sg 1 = 1 from rfl] | rw [show sg (-1) = -1 from rfl]) <;> omega
    have g3 : s (i Y * D * (i Y * D) - 2 * i X * (2 * i a) * F * (2 * i X * (2 * i a) * F)) = sg (Y * Y - 2 * X * (sd * (2 * a)) * (2 * X * (sd * (2 * a))) * (B * B - 4 * A * C)) := by
      rw [show 2 * X * (sd * (2 * a)) * (2 * X * (sd * (2 * a))) = 2 * X * (2 * a) * (2 * X * (2 * a)) by
        have : 2 * X * (sd * (2 * a)) * (2 * X * (sd * (2 * a))) = sd * sd * (2 * X * (2 * a) * (2 * X * (2 * a))) := by grind
        rw [this, ss]; omega]
      have : s (i Y * D * (i Y * D) - 2 * i X * (2 * i a) * F * (2 * i X * (2 * i a) * F)) = s (D * D * i (Y * Y - 2 * X * (2 * a) * (2 * X * (2 * a)) * (B * B - 4 * A * C))) := by
        refine s_sub0 _ _ ?_
        rw [show i Y * D * (i Y * D) - 2 * i X * (2 * i a) * F * (2 * i X * (2 * i a) * F) - D * D * i (Y * Y - 2 * X * (2 * a) * (2 * X * (2 * a)) * (B * B - 4 * A * C)) = -(2 * i X * (2 * i a) * (2 * i X * (2 * i a)) * (F * F - i (B * B - 4 * A * C) * (D * D))) by
          rw [i_sub (Y * Y), i_mul (2 * X * (2 * a) * (2 * X * (2 * a))), i_mul Y, i_mul (2 * X * (2 * a)), i_mul (2 * X), i_mul 2 X, i_mul 2 a, i_two]; grind]
        exact nu_neg (nu_mul' q1 _)
      rw [this, mul, mul, d0, i_s]; omega
    rw [s_sum, g1, g2, g3]; rfl
  rw [e1, s_sum, f4, f5, f6]
  rfl
/-- two fractions beside one another -/
theorem two_two {N D M E : R} {x y u v : Int} (h : RepR N D [x, y]) (h' : RepR M E [u, v]) : s (N * E - M * D) = sg (x * v - u * y) := by
  cases h with
  | two x0 y0 co e p =>
  cases h' with
  | two u0 v0 co' e' p' =>
  obtain ⟨n1, n2⟩ := two_pair e
  obtain ⟨m1, m2⟩ := two_pair e'
  have k1 := co_nz co
  have k2 := co_nz co'
  have s1 : s (i (x * x + y * y) : R) = 1 := by rw [i_s]; exact sg_p k1
  have s2 : s (i (u * u + v * v) : R) = 1 := by rw [i_s]; exact sg_p k2
  rw [← pos_mul (b := N * E - M * D) s1, ← pos_mul (b := i (x * x + y * y) * (N * E - M * D)) s2]
  generalize hL : i x * N + i y * D = L at *
  generalize hM : i u * M + i v * E = L' at *
  have : s (i (u * u + v * v) * (i (x * x + y * y) * (N * E - M * D))) = s (L * L' * i (x * v - u * y)) := by
    refine s_sub0 _ _ ?_
    generalize (i (x * x + y * y) : R) = K1 at *
    generalize (i (u * u + v * v) : R) = K2 at *
    rw [show K2 * (K1 * (N * E - M * D)) - L * L' * i (x * v - u * y) = (K1 * N - i x * L) * (K2 * E) + i x * L * (K2 * E - i v * L') - ((K1 * D - i y * L) * (K2 * M) + i y * L * (K2 * M - i u * L')) by rw [i_sub, i_mul, i_mul]; grind]
    exact nu_sub (nu_add (nu_mul n1 _) (nu_mul' m2 _)) (nu_add (nu_mul n2 _) (nu_mul' m1 _))
  rw [this, mul, mul, p, p', i_s]; omega
theorem four_two {N D M E : R} {A B C sd u v : Int} (h : RepR N D [A, B, C, sd]) (h' : RepR M E [u, v]) : cmp4 A B C sd [u, v] = s (N * E - M * D) := by
  cases h with
  | four A0 g dp dn e d0 hs =>
  cases h' with
  | two u0 v0 co' e' p' =>
  rw [cmp_f A0 dp dn e d0 hs u v]
  obtain ⟨m1, m2⟩ := two_pair e'
  have k2 := co_nz co'
  have s2 : s (i (u * u + v * v) : R) = 1 := by rw [i_s]; exact sg_p k2
  rw [← pos_mul (b := N * E - M * D) s2]
  generalize hM : i u * M + i v * E = L' at *
  have : s (i (u * u + v * v) * (N * E - M * D)) = s (L' * (i v * N - i u * D)) := by
    refine s_sub0 _ _ ?_
    generalize (i (u * u + v * v) : R) = K2 at *
    rw [show K2 * (N * E - M * D) - L' * (i v * N - i u * D) = N * (K2 * E - i v * L') - D * (K2 * M - i u * L') by grind]
    exact nu_sub (nu_mul' m2 _) (nu_mul' m1 _)
  rw [this, pos_mul p']
/-- places lie as their pairs -/
theorem cmpR {N D M E : R} {pl pl' : List Int} (h : RepR N D pl) (h' : RepR M E pl') : cmpPl pl pl' = s (N * E - M * D) := by
  have h0 := h
  have h0' := h'
  cases h with
  | two x0 y0 co e p =>
    cases h' with
    | two u0 v0 co' e' p' => exact (two_two h0 h0').symm
    | four a0 g' cp cn e' d0' hs' =>
      show 0 - cmp4 _ _ _ _ _ = _
      rw [four_two h0' h0, show N * E - M * D = -(M * D - N * E) by grind, neg]; omega
  | four A0 g dp dn e d0 hs =>
    cases h' with
    | two u0 v0 co' e' p' => exact four_two h0 h0'
    | four a0 g' cp cn e' d0' hs' => exact cmp_r h0 h0'
theorem frac_un0 {x y u v : Int} (x0 : 0 ≤ x) (y0 : 0 ≤ y) (u0 : 0 ≤ u) (v0 : 0 ≤ v) (g : Int.gcd x y = 1) (g' : Int.gcd u v = 1) (e : x * v = u * y) : x = u ∧ y = v := by
  by_cases hy : y = 0
  · subst hy
    rw [Int.gcd_zero_right] at g
    have : x = 1 := by omega
    subst this
    have : v = 0 := by omega
    subst this
    rw [Int.gcd_zero_right] at g'
    exact ⟨by omega, rfl⟩
  · by_cases hv : v = 0
    · subst hv
      rw [Int.gcd_zero_right] at g'
      have : u = 1 := by omega
      subst this
      omega
    · exact frac_un (by omega) (by omega) g g' e
/-- no number with a root solves a linear equation -/
theorem no_lin {N D : R} {A B C X Y : Int} (A0 : 0 < A) (dp : 0 ≤ B * B - 4 * A * C) (dn : ¬ isq (B * B - 4 * A * C)) (e : s (i A * (N * N) + i B * (N * D) + i C * (D * D)) = 0) (d0 : s D = 1) (h : s (i X * N + i Y * D) = 0) : X = 0 := by
  rcases Int.lt_trichotomy X 0 with z | z | z
  case inr.inl => exact z
  all_goals
    exfalso
    have nz : X ≠ 0 := by omega
    have q := disc e
    have h2 : s (i X * (2 * i A * N + i B * D) - i (X * B - 2 * A * Y) * D) = 0 := by
      rw [show i X * (2 * i A * N + i B * D) - i (X * B - 2 * A * Y) * D = 2 * i A * (i X * N + i Y * D) by rw [i_sub, i_mul, i_mul, i_mul, i_two]; grind]
      exact nu_mul' h _
    have h3 : s (D * D * i (X * X * (B * B - 4 * A * C) - (X * B - 2 * A * Y) * (X * B - 2 * A * Y))) = 0 := by
      generalize X * B - 2 * A * Y = W at *
      generalize hF : 2 * i A * N + i B * D = F at *
      rw [show D * D * i (X * X * (B * B - 4 * A * C) - W * W) = (i X * F - i W * D) * (i X * F + i W * D) + -(i X * i X * (F * F - i (B * B - 4 * A * C) * (D * D))) by rw [i_sub (X * X * (B * B - 4 * A * C)), i_mul (X * X), i_mul X, i_mul W]; grind]
      exact nu_add (nu_mul h2 _) (nu_neg (nu_mul' q _))
    rw [mul, mul, d0, i_s] at h3
    have h4 : X * X * (B * B - 4 * A * C) = (X * B - 2 * A * Y) * (X * B - 2 * A * Y) := by
      rcases sg_c (X * X * (B * B - 4 * A * C) - (X * B - 2 * A * Y) * (X * B - 2 * A * Y)) with ⟨_, k⟩ | ⟨k, _⟩ | ⟨_, k⟩
      · rw [k] at h3; omega
      · omega
      · rw [k] at h3; omega
    refine dn (isq_mul nz ?_ dp)
    rw [h4]
    rcases Int.le_total 0 (X * B - 2 * A * Y) with k | k
    · exact ⟨_, k, rfl⟩
    · exact ⟨-(X * B - 2 * A * Y), by omega, by rw [Int.neg_mul_neg]⟩
/-- alike places are those of alike pairs -/
theorem eqR {N D M E : R} {pl pl' : List Int} (h : RepR N D pl) (h' : RepR M E pl') : s (N * E - M * D) = 0 ↔ pl = pl' := by
  constructor
  · intro z
    have h0 := h
    have h0' := h'
    cases h with
    | two x0 y0 co e p =>
      cases h' with
      | two u0 v0 co' e' p' =>
        rename_i x y u v
        rw [two_two h0 h0'] at z
        have : x * v = u * y := by rcases sg_c (x * v - u * y) with ⟨_, k⟩ | ⟨k, _⟩ | ⟨_, k⟩ <;> omega
        obtain ⟨rfl, rfl⟩ := frac_un0 x0 y0 u0 v0 co co' this
        rfl
      | four a0 g' cp cn e' d0' hs' =>
        exfalso
        rename_i x y a b c td
        have z2 : s (M * D - N * E) = 0 := by rw [show M * D - N * E = -(N * E - M * D) by grind, neg, z]; rfl
        rw [← four_two h0' h0, cmp_f a0 cp cn e' d0' hs'] at z2
        have y1 := no_lin (X := y) (Y := -x) a0 cp cn e' d0' (by rw [i_neg, show i y * M + -i x * E = i y * M - i x * E by grind]; exact z2)
        subst y1
        rw [i_zero, show (0 : R) * M - i x * E = -(i x * E) by grind, neg, mul, d0', i_s] at z2
        rw [Int.gcd_zero_right] at co
        have : x = 1 := by omega
        subst this
        exact absurd z2 (by decide)
    | four A0 g dp dn e d0 hs =>
      cases h' with
      | two u0 v0 co' e' p' =>
        exfalso
        rename_i A B C sd u v
        rw [← four_two h0 h0', cmp_f A0 dp dn e d0 hs] at z
        have y1 := no_lin (X := v) (Y := -u) A0 dp dn e d0 (by rw [i_neg, show i v * N + -i u * D = i v * N - i u * D by grind]; exact z)
        subst y1
        rw [i_zero, show (0 : R) * N - i u * D = -(i u * D) by grind, neg, mul, d0, i_s] at z
        rw [Int.gcd_zero_right] at co'
        have : u = 1 := by omega
        subst this
        exact absurd z (by decide)
      | four a0 g' cp cn e' d0' hs' =>
        rename_i A B C sd a b c td
        have l1 : s (i (a * B - A * b) * N + i (a * C - A * c) * D) = 0 := by
          have w : s (D * (E * E) * (i (a * B - A * b) * N + i (a * C - A * c) * D)) = 0 := by
            rw [show D * (E * E) * (i (a * B - A * b) * N + i (a * C - A * c) * D) = E * E * i a * (i A * (N * N) + i B * (N * D) + i C * (D * D)) + -(D * D * i A * (i a * (M * M) + i b * (M * E) + i c * (E * E))) + -((N * E - M * D) * (i A * i a * (N * E + M * D) + i A * i b * (D * E))) by
              rw [i_sub, i_sub, i_mul, i_mul, i_mul, i_mul]; grind]
            exact nu_add (nu_add (nu_mul' e _) (nu_neg (nu_mul' e' _))) (nu_neg (nu_mul z _))
          rwa [pos_mul (by rw [mul, mul, d0, d0']; rfl)] at w
        have x1 := no_lin A0 dp dn e d0 l1
        rw [x1, i_zero, show (0 : R) * N + i (a * C - A * c) * D = i (a * C - A * c) * D by grind, mul, d0, i_s, Int.mul_one] at l1
        have x2 : a * C - A * c = 0 := by rcases sg_c (a * C - A * c) with ⟨_, k⟩ | ⟨k, _⟩ | ⟨_, k⟩ <;> omega
        obtain ⟨rfl, rfl, rfl⟩ := prim_un a0 A0 (Int.mul_comm a A) (show a * B = A * b by omega) (show a * C = A * c by omega) g g'
        have l2 : s ((2 * i A * N + i B * D) * E) = s ((2 * i A * M + i B * E) * D) := by
          refine s_sub0 _ _ ?_
          rw [show (2 * i A * N + i B * D) * E - (2 * i A * M + i B * E) * D = 2 * i A * (N * E - M * D) by grind]
          exact nu_mul' z _
        rw [mul, mul, hs, hs', d0, d0'] at l2
        have : sd = td := by omega
        rw [this]
  · intro z
    subst z
    have a1 := cmpR h h'
    have a2 := cmpR h' h
    have : s (M * D - N * E) = - s (N * E - M * D) := by rw [← neg]; congr 1; grind
    omega
end
end Pj

/-! ## changed places as pairs -/
namespace Pj
 open Sg Sg.SgR Lean.Grind
 open Em
section
variable {R : Type} [CommRing R] [Em R]
theorem sgn_pm {x : Int} (h : x ≠ 0) : sg x = 1 ∨ sg x = -1 := K15.sg_nz h
theorem s_nz {x : Int} {a : R} (h : x ≠ 0) (e : s (i x * a) = 0) : s a = 0 := by
  rw [mul, i_s] at e
  rcases sgn_pm h with z | z <;> rw [z] at e <;> omega
theorem c1_nz {A B C m n k l : Int} (A0 : 0 < A) (dp : 0 ≤ B * B - 4 * A * C) (dn : ¬ isq (B * B - 4 * A * C)) (hd : m * l - n * k ≠ 0) : c1 k l A B C ≠ 0 := fun e => by
  unfold c1 at e
  by_cases hk : k = 0
  · subst hk
    have : A * l * l = 0 := by
      have : A * l * l - B * l * 0 + C * 0 * 0 = A * l * l := by grind
      omega
    rcases Int.mul_eq_zero.mp this with h | h
    · rcases Int.mul_eq_zero.mp h with h | h
      · omega
      · rw [h] at hd; simp at hd
    · rw [h] at hd; simp at hd
  · refine dn (isq_mul hk ?_ dp)
    have : k * k * (B * B - 4 * A * C) = (2 * A * l - B * k) * (2 * A * l - B * k) := by
      have h4 : 4 * A * (A * l * l - B * l * k + C * k * k) = 0 := by rw [e]; omega
      have : (2 * A * l - B * k) * (2 * A * l - B * k) - k * k * (B * B - 4 * A * C) = 4 * A * (A * l * l - B * l * k + C * k * k) := by grind
      omega
    rw [this]
    rcases Int.le_total 0 (2 * A * l - B * k) with z | z
    · exact ⟨_, z, rfl⟩
    · exact ⟨-(2 * A * l - B * k), by omega, by rw [Int.neg_mul_neg]⟩
theorem i_c1 (k l A B C : Int) : (i (c1 k l A B C) : R) = i A * i l * i l - i B * i l * i k + i C * i k * i k := by unfold c1; rw [i_add, i_sub, i_mul, i_mul, i_mul, i_mul, i_mul, i_mul]
theorem i_c2 (m n k l A B C : Int) : (i (c2 m n k l A B C) : R) = i B * (i l * i m + i n * i k) - 2 * i A * i l * i n - 2 * i C * i m * i k := by
  unfold c2; rw [i_sub, i_sub, i_mul, i_add, i_mul, i_mul, i_mul, i_mul, i_mul, i_mul, i_mul, i_mul, i_two]
theorem i_c3 (m n A B C : Int) : (i (c3 m n A B C) : R) = i A * i n * i n - i B * i n * i m + i C * i m * i m := by unfold c3; rw [i_add, i_sub, i_mul, i_mul, i_mul, i_mul, i_mul, i_mul]
theorem rep_ch4 {N D : R} {A B C sd m n k l : Int} (h : RepR N D [A, B, C, sd]) (hd : m * l - n * k ≠ 0) (p : s (i k * N + i l * D) = 1) : c1 k l A B C ≠ 0 ∧ RepR (i m * N + i n * D) (i k * N + i l * D) (bhPl m n k l [A, B, C, sd]) := by
  cases h with
  | four A0 g dp dn e d0 hs =>
  have c0 := c1_nz A0 dp dn hd
  have hpm := sd_pm dp dn e d0 hs
  refine ⟨c0, ?_⟩
  show RepR _ _ (lwd (c1 k l A B C) (c2 m n k l A B C) (c3 m n A B C) (sd * (sg (m * l - n * k) * sg (c1 k l A B C))))
  obtain ⟨a, b, c, f, f0, a0, ⟨fa, fb, fc⟩, sgf, gcd1, _, el⟩ := K15.lwd_any (B := c2 m n k l A B C) (C := c3 m n A B C) (s := sd * (sg (m * l - n * k) * sg (c1 k l A B C))) c0
  rw [el]
  have ff : 0 < f * f := K15.sq_pos f0
  have eD : f * f * (b * b - 4 * a * c) = (m * l - n * k) * (m * l - n * k) * (B * B - 4 * A * C) := by
    have : f * f * (b * b - 4 * a * c) = (f * b) * (f * b) - 4 * (f * a) * (f * c) := by grind
    rw [this, fa, fb, fc]
    unfold c1 c2 c3
    grind
  have dpos := nsq_pos dp dn
  have Dp : 0 < b * b - 4 * a * c := by
    have : 0 < f * f * (b * b - 4 * a * c) := by rw [eD]; exact Int.mul_pos (K15.sq_pos hd) dpos
    exact Int.pos_of_mul_pos_right this ff |> fun h => h
  have Dn : ¬ isq (b * b - 4 * a * c) := fun ⟨t, t0, ht⟩ => by
    refine dn (isq_mul hd ?_ dp)
    rw [← eD, ← ht]
    rcases Int.le_total 0 f with z | z
    · exact ⟨f * t, Int.mul_nonneg z t0, by grind⟩
    · exact ⟨-f * t, Int.mul_nonneg (by omega) t0, by grind⟩
  have ga : (i f : R) * i a = i (c1 k l A B C) := by rw [← i_mul, fa]
  have gb : (i f : R) * i b = i (c2 m n k l A B C) := by rw [← i_mul, fb]
  have gc : (i f : R) * i c = i (c3 m n A B C) := by rw [← i_mul, fc]
  refine .four a0 gcd1 (by omega) Dn ?_ p ?_
  · refine s_nz f0 ?_
    rw [show i f * (i a * ((i m * N + i n * D) * (i m * N + i n * D)) + i b * ((i m * N + i n * D) * (i k * N + i l * D)) + i c * ((i k * N + i l * D) * (i k * N + i l * D))) = (i f * i a) * ((i m * N + i n * D) * (i m * N + i n * D)) + (i f * i b) * ((i m * N + i n * D) * (i k * N + i l * D)) + (i f * i c) * ((i k * N + i l * D) * (i k * N + i l * D)) by grind, ga, gb, gc, i_c1, i_c2, i_c3,
      show (i A * i l * i l - i B * i l * i k + i C * i k * i k) * ((i m * N + i n * D) * (i m * N + i n * D)) + (i B * (i l * i m + i n * i k) - 2 * i A * i l * i n - 2 * i C * i m * i k) * ((i m * N + i n * D) * (i k * N + i l * D)) + (i A * i n * i n - i B * i n * i m + i C * i m * i m) * ((i k * N + i l * D) * (i k * N + i l * D)) = (i m * i l - i n * i k) * (i m * i l - i n * i k) * (i A * (N * N) + i B * (N * D) + i C * (D * D)) by grind]
    exact nu_mul' e _
  · have h1 : s (D * (i f * (2 * i a * (i m * N + i n * D) + i b * (i k * N + i l * D)))) = s (i (m * l - n * k) * (2 * i A * N + i B * D) * (i k * N + i l * D)) := by
      refine s_sub0 _ _ ?_
      rw [show D * (i f * (2 * i a * (i m * N + i n * D) + i b * (i k * N + i l * D))) = D * (2 * (i f * i a) * (i m * N + i n * D) + (i f * i b) * (i k * N + i l * D)) by grind, ga, gb, i_c1, i_c2, i_sub, i_mul, i_mul,
        show D * (2 * (i A * i l * i l - i B * i l * i k + i C * i k * i k) * (i m * N + i n * D) + (i B * (i l * i m + i n * i k) - 2 * i A * i l * i n - 2 * i C * i m * i k) * (i k * N + i l * D)) - (i m * i l - i n * i k) * (2 * i A * N + i B * D) * (i k * N + i l * D) = -(2 * i k * (i m * i l - i n * i k) * (i A * (N * N) + i B * (N * D) + i C * (D * D))) by grind]
      exact nu_neg (nu_mul' e _)
    rw [mul, mul, mul (i (m * l - n * k) * (2 * i A * N + i B * D)), mul (i (m * l - n * k)), d0, i_s, i_s, hs, p, sgf] at h1
    generalize s (2 * i a * (i m * N + i n * D) + i b * (i k * N + i l * D)) = z at *
    rcases sgn_pm hd with q | q <;> rcases sgn_pm c0 with r | r <;> rw [q, r] at h1 ⊢ <;> omega
end
end Pj

/-! ## the rings of one root and of two -/
namespace Pj
 open Sg Sg.SgR Lean.Grind Sg.Qx
 open Em
section
variable {R R' : Type} [CommRing R] [Em R] [CommRing R'] [Em R']
/-- what keeps sums, products, integers and signs -/
structure Hom (f : R → R') : Prop where
  a : ∀ x y, f (x + y) = f x + f y
  m : ∀ x y, f (x * y) = f x * f y
  i : ∀ x, f (i x) = i x
  s : ∀ x, s (f x) = s x
theorem Hom.two {f : R → R'} (h : Hom f) : f 2 = 2 := by rw [← i_two, h.i, i_two]
theorem Hom.n {f : R → R'} (h : Hom f) (x : R) : f (-x) = -f x := by
  have e : f (-x + x) = f (-x) + f x := h.a _ _
  rw [show -x + x = (Em.i 0 : R) by rw [i_zero]; grind, h.i, i_zero] at e
  grind
theorem Hom.u {f : R → R'} (h : Hom f) (x y : R) : f (x - y) = f x - f y := by
  rw [show x - y = x + -y by grind, h.a, h.n]; grind
theorem RepR.map {f : R → R'} (h : Hom f) {N D : R} {pl : List Int} (r : RepR N D pl) : RepR (f N) (f D) pl := by
  cases r with
  | two x0 y0 co e p =>
    rename_i x y
    refine .two x0 y0 co ?_ ?_
    · rw [← h.i, ← h.i, ← h.m, ← h.m, ← h.u, h.s]; exact e
    · rw [← h.i, ← h.i, ← h.m, ← h.m, ← h.a, h.s]; exact p
  | four A0 g dp dn e d0 hs =>
    refine .four A0 g dp dn ?_ (by rw [h.s]; exact d0) ?_
    · rw [← h.i, ← h.i, ← h.i, ← h.m, ← h.m, ← h.m, ← h.m, ← h.m, ← h.m, ← h.a, ← h.a, h.s]; exact e
    · rw [← h.two, ← h.i, ← h.i, ← h.m, ← h.m, ← h.m, ← h.a, h.s]; exact hs
end
def E0' : Em Int := { sgI with i := fun x => x, i_add := fun _ _ => rfl, i_mul := fun _ _ => rfl, i_one := rfl, i_s := fun _ => rfl }
def E1 {d : Int} (hd : 0 ≤ d) : Em (R1 d) := { I1 hd with
  i := fun x => ⟨x, 0⟩
  i_add := fun x y => by apply ext' <;> rfl
  i_mul := fun x y => by
    apply ext'
    · show x * y = x * y + 0 * 0 * d
      grind
    · show (0 : Int) = x * 0 + 0 * y
      omega
  i_one := rfl
  i_s := fun x => sq_base (c := d) x }
theorem sq_swr {d : Int} (hd : 0 ≤ d) (x y : Int) : (I1 hd).s (⟨x, y⟩ : R1 d) = swr x y d := by
  have h := s_d hd hd x y
  rw [← h]
  have e : (ii x + ii y * rd : T d d) = ⟨⟨x, y⟩, ⟨0, 0⟩⟩ := by
    apply x2
    · show x + (y * 0 + 0 * 1 * d + ((0 * 0 + 0 * 0 * d) * d + (0 * 0 + 0 * 0) * 0 * d)) = x
      grind
    · show 0 + (y * 1 + 0 * 0 + ((0 * 0 + 0 * 0 * d) * 0 + (0 * 0 + 0 * 0) * d)) = y
      grind
    · show 0 + (y * 0 + 0 * 0 * d + (0 * 0 + 0 * 1 * d)) = 0
      grind
    · show 0 + (y * 0 + 0 * 0 + (0 * 1 + 0 * 0)) = 0
      grind
  rw [e]
  exact (@sq_base _ _ (I1 hd) (up d) ⟨x, y⟩).symm
/-- the first ring within the tower, the second one within it -/
def fst {d c : Int} (x : R1 d) : T d c := ⟨x, ⟨0, 0⟩⟩
def snd {d c : Int} (x : R1 c) : T d c := ii x.a + ii x.b * rc
/-- the place of (p + q root d) / r as a pair -/
theorem rep_pair {g : G4} {pl : List Int} (d0 : 0 ≤ g.d) (h : Rep g pl) (w : 0 < swr g.p g.q g.d) : @RepR (R1 g.d) _ (E1 d0) ⟨g.p, g.q⟩ ⟨g.r, 0⟩ pl := by
  letI := E1 d0
  have is : ∀ x : Int, (i x : R1 g.d) = ⟨x, 0⟩ := fun x => rfl
  have sw : ∀ x y : Int, s (⟨x, y⟩ : R1 g.d) = swr x y g.d := fun x y => sq_swr d0 x y
  cases h with
  | two d0' r0 t0 ht y0 x0 y1 e co =>
    rename_i x y t
    have ev : ∀ X Y : Int, g.q = 0 → Y = g.q * y → swr X Y g.d = sg X := fun X Y hq hY => by rw [hY, hq, Int.zero_mul, swr_0]
    have val : ∀ X Y : Int, (g.q = 0 → Y = 0) → swr X Y g.d = sg (X + Y * t) := fun X Y hY => by
      rcases ht with ht | ht
      · rw [hY ht, swr_0, Int.zero_mul, Int.add_zero]
      · exact swr_sq d0 t0 ht _ _
    have wp : 0 < g.p + g.q * t := by
      rw [val g.p g.q fun h => h] at w
      rcases sg_c (g.p + g.q * t) with ⟨k, _⟩ | ⟨_, k⟩ | ⟨_, k⟩ <;> omega
    refine .two x0 y0 co ?_ ?_
    · have : (⟨g.p, g.q⟩ : R1 g.d) * i y - i x * ⟨g.r, 0⟩ = ⟨g.p * y - x * g.r, g.q * y⟩ := by
        apply ext'
        · show g.p * y + g.q * 0 * g.d - (x * g.r + 0 * 0 * g.d) = g.p * y - x * g.r
          grind
        · show g.p * 0 + g.q * y - (x * 0 + 0 * g.r) = g.q * y
          grind
      rw [this, sw, val _ _ (fun h => by rw [h, Int.zero_mul])]
      have : g.p * y - x * g.r + g.q * y * t = 0 := by
        have : g.p * y - x * g.r + g.q * y * t = (g.p + g.q * t) * y - x * g.r := by grind
        rw [this, e]; omega
      rw [this]; rfl
    · have : (i x : R1 g.d) * ⟨g.p, g.q⟩ + i y * ⟨g.r, 0⟩ = ⟨x * g.p + y * g.r, x * g.q⟩ := by
        apply ext'
        · show x * g.p + 0 * g.q * g.d + (y * g.r + 0 * 0 * g.d) = x * g.p + y * g.r
          grind
        · show x * g.q + 0 * g.p + (y * 0 + 0 * g.r) = x * g.q
          grind
      rw [this, sw, val _ _ (fun h => by rw [h, Int.mul_zero])]
      refine sg_p ?_
      have e1 : x * g.p + y * g.r + x * g.q * t = x * (g.p + g.q * t) + y * g.r := by grind
      rw [e1]
      have h1 := Int.mul_nonneg x0 (Int.le_of_lt wp)
      have h2 := Int.mul_pos y1 r0
      omega
  | four d0' r0 q0 dn red hs =>
    rename_i A B C f sd
    have A0 := red_A r0 red
    have Dp := red_Dp r0 d0 q0 dn red
    have eD := red_D red
    refine .four A0 red.g (by omega) ?_ ?_ ?_ ?_
    · intro ⟨t, t1, t2⟩
      refine dn (K10.isq_mul (m := 2 * g.q * g.r) (fun e => ?_) ⟨f * t, Int.mul_nonneg (Int.le_of_lt red.f0) t1, ?_⟩ d0)
      · rcases Int.mul_eq_zero.mp e with e | e
        · rcases Int.mul_eq_zero.mp e with e | e <;> omega
        · omega
      · have : f * t * (f * t) = f * f * (t * t) := by grind
        rw [this, t2, eD]; grind
    · have f0 : f ≠ 0 := by have := red.f0; omega
      refine s_nz f0 ?_
      have : (i f : R1 g.d) * (i A * ((⟨g.p, g.q⟩ : R1 g.d) * ⟨g.p, g.q⟩) + i B * ((⟨g.p, g.q⟩ : R1 g.d) * ⟨g.r, 0⟩) + i C * ((⟨g.r, 0⟩ : R1 g.d) * ⟨g.r, 0⟩)) = 0 := by
        have e1 : (i f : R1 g.d) * (i A * ((⟨g.p, g.q⟩ : R1 g.d) * ⟨g.p, g.q⟩) + i B * ((⟨g.p, g.q⟩ : R1 g.d) * ⟨g.r, 0⟩) + i C * ((⟨g.r, 0⟩ : R1 g.d) * ⟨g.r, 0⟩)) = i (f * A) * ((⟨g.p, g.q⟩ : R1 g.d) * ⟨g.p, g.q⟩) + i (f * B) * ((⟨g.p, g.q⟩ : R1 g.d) * ⟨g.r, 0⟩) + i (f * C) * ((⟨g.r, 0⟩ : R1 g.d) * ⟨g.r, 0⟩) := by rw [i_mul, i_mul, i_mul]; grind
        rw [e1, red.ha, red.hb, red.hc]
        apply ext'
        · show g.r * g.r * (g.p * g.p + g.q * g.q * g.d) + 0 * (g.p * g.q + g.q * g.p) * g.d + (-2 * g.p * g.r * (g.p * g.r + g.q * 0 * g.d) + 0 * (g.p * 0 + g.q * g.r) * g.d) + ((g.p * g.p - g.q * g.q * g.d) * (g.r * g.r + 0 * 0 * g.d) + 0 * (g.r * 0 + 0 * g.r) * g.d) = 0
          grind
        · show g.r * g.r * (g.p * g.q + g.q * g.p) + 0 * (g.p * g.p + g.q * g.q * g.d) + (-2 * g.p * g.r * (g.p * 0 + g.q * g.r) + 0 * (g.p * g.r + g.q * 0 * g.d)) + ((g.p * g.p - g.q * g.q * g.d) * (g.r * 0 + 0 * g.r) + 0 * (g.r * g.r + 0 * 0 * g.d)) = 0
          grind
      rw [this]; exact s_zero
    · rw [sw, swr_0]; exact sg_p r0
    · have : s (i f * (2 * i A * (⟨g.p, g.q⟩ : R1 g.d) + i B * ⟨g.r, 0⟩)) = sg g.q := by
        have e1 : (i f : R1 g.d) * (2 * i A * (⟨g.p, g.q⟩ : R1 g.d) + i B * ⟨g.r, 0⟩) = ⟨0, 2 * (g.r * g.r) * g.q⟩ := by
          have e2 : (i f : R1 g.d) * (2 * i A * (⟨g.p, g.q⟩ : R1 g.d) + i B * ⟨g.r, 0⟩) = 2 * i (f * A) * (⟨g.p, g.q⟩ : R1 g.d) + i (f * B) * ⟨g.r, 0⟩ := by rw [i_mul, i_mul]; grind
          rw [e2, red.ha, red.hb, ← i_two, ← i_mul]
          apply ext'
          · show 2 * (g.r * g.r) * g.p + 0 * g.q * g.d + (-2 * g.p * g.r * g.r + 0 * 0 * g.d) = 0
            grind
          · show 2 * (g.r * g.r) * g.q + 0 * g.p + (-2 * g.p * g.r * 0 + 0 * g.r) = 2 * (g.r * g.r) * g.q
            grind
        rw [e1, sw]
        have dpos := sg_p (nsq_pos d0 dn)
        have rr : 0 < 2 * (g.r * g.r) := by have := Int.mul_pos r0 r0; omega
        unfold swr
        rw [dpos, Int.mul_one, sg_mul, sg_p rr, Int.one_mul, sg_z]
        rcases K15.sg_nz q0 with h | h <;> rw [h] <;> rfl
      rw [pos_mul (by rw [i_s]; exact sg_p red.f0)] at this
      rw [this, hs]
end Pj

/-! ## the words of pairs -/
namespace Pj
 open Sg Sg.SgR Lean.Grind
 open Em
section
variable {R : Type} [CommRing R] [Em R]
/-- a pair from 0 to endless -/
structure Pr (N D : R) : Prop where
  n : s N = 1 ∨ s N = 0
  d : s D = 1 ∨ s D = 0
  p : s N = 1 ∨ s D = 1
theorem Pr.l {N D : R} (h : Pr N D) (e : s (N - D) < 0) : Pr N (D - N) := by
  have e1 : s (D - N) = 1 := by
    rw [show D - N = -(N - D) by grind, neg]
    rcases tri (N - D) with z | z | z <;> omega
  exact ⟨h.n, .inl e1, .inr e1⟩
theorem Pr.r {N D : R} (h : Pr N D) (e0 : s (N - D) ≠ 0) (e : ¬ s (N - D) < 0) : Pr (N - D) D := by
  have e1 : s (N - D) = 1 := by rcases tri (N - D) with z | z | z <;> omega
  exact ⟨.inl e1, h.d, .inl e1⟩
end
end Pj

/-! ## the forms along a word stay small -/
namespace Fo
open Or K10
inductive Fm (K A B C : Int) : Prop
  | sep (A0 : 0 < A) (C0 : C < 0) : Fm K A B C
  | both (A0 : 0 < A) (C0 : 0 < C) (B0 : B < 0) (a : A ≤ K) (b : -B ≤ K) (c : C ≤ K) : Fm K A B C
theorem Fm.pos {K A B C : Int} (h : Fm K A B C) : 0 < A := by cases h <;> assumption
theorem fm_bd {K A B C : Int} (h : Fm K A B C) (hL : B * B - 4 * A * C ≤ K) : A ≤ K ∧ -K ≤ B ∧ B ≤ K ∧ -K ≤ C ∧ C ≤ K := by
  cases h with
  | sep A0 C0 =>
    have h1 : A * 1 ≤ A * (-C) := Int.mul_le_mul_of_nonneg_left (by omega) (by omega)
    have h2 : 1 * (-C) ≤ A * (-C) := Int.mul_le_mul_of_nonneg_right (by omega) (by omega)
    have e : 4 * A * C = -(4 * (A * (-C))) := by grind
    have b0 : 0 ≤ B * B := by rcases Int.le_total 0 B with z | z; exact Int.mul_nonneg z z; exact Int.mul_nonneg_of_nonpos_of_nonpos z z
    have b1 : B ≤ B * B ∧ -B ≤ B * B := by
      rcases Int.lt_trichotomy B 0 with z | z | z
      · have := Int.mul_le_mul_of_nonneg_left (show 1 ≤ -B by omega) (show 0 ≤ -B by omega)
        have e2 : -B * -B = B * B := Int.neg_mul_neg B B
        omega
      · subst z; omega
      · have := Int.mul_le_mul_of_nonneg_left (show 1 ≤ B by omega) (show 0 ≤ B by omega)
        omega
    omega
  | both A0 C0 B0 a b c => omega
/-- on which side of 1 a number with a root lies -/
theorem side {A B C sd : Int} (A0 : 0 < A) (dp : 0 < B * B - 4 * A * C) (hs : sd = 1 ∨ sd = -1) : (0 < A + B + C → cmp4 A B C sd [1, 1] = sg (-B - 2 * A)) ∧ (A + B + C < 0 → cmp4 A B C sd [1, 1] = sd) := by
  have e : cmp4 A B C sd [1, 1] = swr (-B - 2 * A) sd (B * B - 4 * A * C) := by
    show swr ((0 - B) * 1 - 1 * (2 * A)) (sd * 1) (B * B - 4 * A * C) = _
    congr 1 <;> omega
  have ss : sd * sd = 1 := by rcases hs with h | h <;> rw [h] <;> rfl
  have gap : (-B - 2 * A) * (-B - 2 * A) - sd * sd * (B * B - 4 * A * C) = 4 * A * (A + B + C) := by rw [ss]; grind
  have s1 : sg sd = sd := by rcases hs with h | h <;> rw [h] <;> rfl
  rw [e]
  unfold swr
  rw [gap, sg_p dp, Int.mul_one, s1, sg_mul, sg_p (show 0 < 4 * A by omega), Int.one_mul]
  constructor
  · intro q
    rw [sg_p q]
    rcases sg_c (-B - 2 * A) with ⟨z, h⟩ | ⟨z, h⟩ | ⟨z, h⟩ <;> rw [h]
    · split <;> simp
    · exfalso
      have : 4 * A * (A + B + C) = (-B - 2 * A) * (-B - 2 * A) - (B * B - 4 * A * C) := by rw [← gap, ss]; omega
      rw [z] at this
      have := Int.mul_pos (show 0 < 4 * A by omega) q
      omega
    · split <;> simp
  · intro q
    rw [sg_n q]
    rcases sg_c (-B - 2 * A) with ⟨z, h⟩ | ⟨z, h⟩ | ⟨z, h⟩ <;> rw [h] <;> rcases hs with g | g <;> rw [g] <;> rfl
end Fo
namespace Fo
open Or K10
/-- the next form, by the letter -/
theorem fm_next {K A B C sd : Int} (h : Fm K A B C) (dp : 0 < B * B - 4 * A * C) (hs : sd = 1 ∨ sd = -1) (hz : C < 0 → sd = 1) (q0 : A + B + C ≠ 0) :
    (cmp4 A B C sd [1, 1] < 0 → (0 < A + B + C ∧ Fm K (A + B + C) (B + 2 * C) C) ∨ (A + B + C < 0 ∧ Fm K (-(A + B + C)) (-(B + 2 * C)) (-C))) ∧
    (¬ cmp4 A B C sd [1, 1] < 0 → Fm K A (B + 2 * A) (A + B + C)) := by
  obtain ⟨hp, hn⟩ := side h.pos dp hs
  cases h with
  | sep A0 C0 =>
    have s1 := hz C0
    constructor
    · intro c
      rcases Int.lt_or_gt_of_ne q0 with q | q
      · exfalso
        have := hn q
        omega
      · left; exact ⟨q, .sep q C0⟩
    · intro c
      rcases Int.lt_or_gt_of_ne q0 with q | q
      · exact .sep A0 q
      · exfalso
        have := hp q
        rw [sg_n (by omega)] at this
        omega
  | both A0 C0 B0 a b c0 =>
    constructor
    · intro c
      rcases Int.lt_or_gt_of_ne q0 with q | q
      · right; exact ⟨q, .sep (by omega) (by omega)⟩
      · left
        rw [hp q] at c
        have h1 : -B - 2 * A < 0 := by rcases sg_c (-B - 2 * A) with ⟨z, e⟩ | ⟨z, e⟩ | ⟨z, e⟩ <;> omega
        have h2 : 2 * C < -B := by
          rcases Int.lt_or_le (2 * C) (-B) with z | z
          · exact z
          · exfalso
            have h3 : -B * -B ≤ 2 * A * (2 * C) := Int.mul_le_mul (by omega) z (by omega) (by omega)
            rw [Int.neg_mul_neg] at h3
            have : 2 * A * (2 * C) = 4 * A * C := by grind
            omega
        exact ⟨q, .both q C0 (by omega) (by omega) (by omega) c0⟩
    · intro c
      rcases Int.lt_or_gt_of_ne q0 with q | q
      · exact .sep A0 q
      · rw [hp q] at c
        have h1 : 0 ≤ -B - 2 * A := by rcases sg_c (-B - 2 * A) with ⟨z, e⟩ | ⟨z, e⟩ | ⟨z, e⟩ <;> omega
        have h2 : B + 2 * A ≠ 0 := fun e => by
          have eB : B = -(2 * A) := by omega
          subst eB
          have : -(2 * A) * -(2 * A) - 4 * A * C = 4 * (A * (A - C)) := by grind
          rw [this] at dp
          have : A * (A - C) ≤ 0 := Int.mul_nonpos_of_nonneg_of_nonpos (by omega) (by omega)
          omega
        exact .both A0 q (by omega) a (by omega) (by omega)
end Fo

/-! ## the places along a word -/
namespace Fo
open Or K10
/-- a place of a number with a root, small -/
structure Sm (K A B C sd : Int) : Prop where
  f : Fm K A B C
  dp : 0 < B * B - 4 * A * C
  dk : B * B - 4 * A * C ≤ K
  dn : ¬ isq (B * B - 4 * A * C)
  s : sd = 1 ∨ sd = -1
  z : C < 0 → sd = 1
  g : Int.gcd (Int.gcd A B) C = 1
def nextPl (pl : List Int) : List Int := if cmpPl pl [1, 1] < 0 then bhPl 1 0 (-1) 1 pl else bhPl 1 (-1) 0 1 pl
def flw : Nat → List Int → List Bool
  | 0, _ => []
  | n + 1, pl => decide (¬ cmpPl pl [1, 1] < 0) :: flw n (nextPl pl)
theorem lwd_1 {X Y Z u : Int} (hX : X ≠ 0) (hg : Int.gcd (Int.gcd X Y) Z = 1) : lwd X Y Z u = [sg X * X, sg X * Y, sg X * Z, u] := by
  unfold lwd lwf
  rw [hg]
  by_cases h : X < 0
  · rw [if_pos h, sg_n h]
    have n0 : (0 - ((1 : Nat) : Int)) ≠ 0 := by decide
    rw [Int.fdiv_eq_of_eq_mul_right n0 (show X = (0 - ((1 : Nat) : Int)) * (-1 * X) by grind), Int.fdiv_eq_of_eq_mul_right n0 (show Y = (0 - ((1 : Nat) : Int)) * (-1 * Y) by grind), Int.fdiv_eq_of_eq_mul_right n0 (show Z = (0 - ((1 : Nat) : Int)) * (-1 * Z) by grind)]
  · rw [if_neg h, sg_p (show 0 < X by omega)]
    have n0 : ((1 : Nat) : Int) ≠ 0 := by decide
    rw [Int.fdiv_eq_of_eq_mul_right n0 (show X = ((1 : Nat) : Int) * (1 * X) by grind), Int.fdiv_eq_of_eq_mul_right n0 (show Y = ((1 : Nat) : Int) * (1 * Y) by grind), Int.fdiv_eq_of_eq_mul_right n0 (show Z = ((1 : Nat) : Int) * (1 * Z) by grind)]
/-- what divides the new numbers divides the old ones -/
theorem gcd_next {A B C X Y Z : Int} (g : Int.gcd (Int.gcd A B) C = 1) (h : ∀ k : Int, k ∣ X → k ∣ Y → k ∣ Z → k ∣ A ∧ k ∣ B ∧ k ∣ C) : Int.gcd (Int.gcd X Y) Z = 1 := by
  have h1 : (Int.gcd (Int.gcd X Y : Int) Z : Int) ∣ (Int.gcd X Y : Int) := Int.gcd_dvd_left _ _
  obtain ⟨a, b, c⟩ := h _ (Int.dvd_trans h1 (Int.gcd_dvd_left _ _)) (Int.dvd_trans h1 (Int.gcd_dvd_right _ _)) (Int.gcd_dvd_right _ _)
  have d1 := Int.dvd_gcd a b
  have d2 := Int.dvd_gcd (Int.natCast_dvd_natCast.mpr d1) c
  rw [g] at d2
  exact Nat.dvd_one.mp d2
theorem Sm.q0 {K A B C sd : Int} (h : Sm K A B C sd) : A + B + C ≠ 0 := fun e => by
  refine h.dn ?_
  have eB : B = -(A + C) := by omega
  subst eB
  have : -(A + C) * -(A + C) - 4 * A * C = (A - C) * (A - C) := by grind
  rw [this]
  rcases Int.le_total 0 (A - C) with z | z
  · exact ⟨_, z, rfl⟩
  · exact ⟨-(A - C), by omega, by rw [Int.neg_mul_neg]⟩
theorem next_l (A B C sd : Int) : bhPl 1 0 (-1) 1 [A, B, C, sd] = lwd (A + B + C) (B + 2 * C) C (sd * sg (A + B + C)) := by
  have x1 : c1 (-1) 1 A B C = A + B + C := by unfold c1; grind
  have x2 : c2 1 0 (-1) 1 A B C = B + 2 * C := by unfold c2; grind
  have x3 : c3 1 0 A B C = C := by unfold c3; grind
  show lwd (c1 (-1) 1 A B C) (c2 1 0 (-1) 1 A B C) (c3 1 0 A B C) (sd * (sg (1 * 1 - 0 * -1) * sg (c1 (-1) 1 A B C))) = _
  rw [x1, x2, x3, show sg (1 * 1 - 0 * -1) = 1 from rfl, Int.one_mul]
theorem next_r {A B C sd : Int} (A0 : 0 < A) : bhPl 1 (-1) 0 1 [A, B, C, sd] = lwd A (B + 2 * A) (A + B + C) sd := by
  have x1 : c1 0 1 A B C = A := by unfold c1; grind
  have x2 : c2 1 (-1) 0 1 A B C = B + 2 * A := by unfold c2; grind
  have x3 : c3 1 (-1) A B C = A + B + C := by unfold c3; grind
  show lwd (c1 0 1 A B C) (c2 1 (-1) 0 1 A B C) (c3 1 (-1) A B C) (sd * (sg (1 * 1 - -1 * 0) * sg (c1 0 1 A B C))) = _
  rw [x1, x2, x3, show sg (1 * 1 - -1 * 0) = 1 from rfl, Int.one_mul, sg_p A0, Int.mul_one]
theorem Sm.next {K A B C sd : Int} (h : Sm K A B C sd) : ∃ A' B' C' sd' : Int, nextPl [A, B, C, sd] = [A', B', C', sd'] ∧ Sm K A' B' C' sd' := by
  have q0 := h.q0
  have A0 := h.f.pos
  obtain ⟨fl, fr⟩ := fm_next h.f h.dp h.s h.z q0
  obtain ⟨hp, hn⟩ := side (A := A) (B := B) (C := C) A0 h.dp h.s
  show ∃ A' B' C' sd' : Int, (if cmp4 A B C sd [1, 1] < 0 then bhPl 1 0 (-1) 1 [A, B, C, sd] else bhPl 1 (-1) 0 1 [A, B, C, sd]) = _ ∧ _
  by_cases c : cmp4 A B C sd [1, 1] < 0
  · rw [if_pos c, next_l]
    have g : Int.gcd (Int.gcd (A + B + C) (B + 2 * C)) C = 1 := gcd_next h.g fun k ⟨x, hx⟩ ⟨y, hy⟩ ⟨z, hz⟩ => ⟨⟨x - y + z, by rw [Int.mul_add, Int.mul_sub, ← hx, ← hy, ← hz]; omega⟩, ⟨y - 2 * z, by
      have : k * (2 * z) = 2 * (k * z) := by grind
      rw [Int.mul_sub, this, ← hy, ← hz]; omega⟩, ⟨z, hz⟩⟩
    rw [lwd_1 q0 g]
    have eD : (B + 2 * C) * (B + 2 * C) - 4 * (A + B + C) * C = B * B - 4 * A * C := by grind
    rcases fl c with ⟨q, f⟩ | ⟨q, f⟩
    · rw [sg_p q]
      refine ⟨_, _, _, _, rfl, ?_⟩
      rw [Int.one_mul, Int.one_mul, Int.one_mul, Int.mul_one]
      exact ⟨f, by rw [eD]; exact h.dp, by rw [eD]; exact h.dk, by rw [eD]; exact h.dn, h.s, h.z, g⟩
    · have s1 : sd = -1 := by have := hn q; have := h.s; omega
      rw [sg_n q, s1]
      refine ⟨_, _, _, _, rfl, ?_⟩
      have n1 : ∀ x : Int, -1 * x = -x := fun x => by omega
      rw [n1, n1, n1]
      have eD' : -(B + 2 * C) * -(B + 2 * C) - 4 * -(A + B + C) * -C = B * B - 4 * A * C := by grind
      exact ⟨f, by rw [eD']; exact h.dp, by rw [eD']; exact h.dk, by rw [eD']; exact h.dn, .inl rfl, fun _ => rfl, by rw [Int.neg_gcd, Int.gcd_neg, Int.gcd_neg]; exact g⟩
  · rw [if_neg c, next_r A0]
    have g : Int.gcd (Int.gcd A (B + 2 * A)) (A + B + C) = 1 := gcd_next h.g fun k ⟨x, hx⟩ ⟨y, hy⟩ ⟨z, hz⟩ => ⟨⟨x, hx⟩, ⟨y - 2 * x, by
      have : k * (2 * x) = 2 * (k * x) := by grind
      rw [Int.mul_sub, this, ← hx, ← hy]; omega⟩, ⟨z - y + x, by rw [Int.mul_add, Int.mul_sub, ← hx, ← hy, ← hz]; omega⟩⟩
    rw [lwd_1 (by omega) g, sg_p A0]
    have eD : (B + 2 * A) * (B + 2 * A) - 4 * A * (A + B + C) = B * B - 4 * A * C := by grind
    refine ⟨_, _, _, _, rfl, ?_⟩
    rw [Int.one_mul, Int.one_mul, Int.one_mul]
    refine ⟨fr c, by rw [eD]; exact h.dp, by rw [eD]; exact h.dk, by rw [eD]; exact h.dn, h.s, fun q => ?_, g⟩
    have := hn q
    have := h.s
    omega
theorem Sm.bd {K A B C sd : Int} {n : Nat} (h : Sm K A B C sd) (hK : K < 2 ^ n) : Bd n A ∧ Bd n B ∧ Bd n C := by
  obtain ⟨a, b1, b2, c1, c2⟩ := fm_bd h.f h.dk
  have A0 := h.f.pos
  have k0 : 0 < K := by have := h.dp; have := h.dk; omega
  have go : ∀ x : Int, -K ≤ x → x ≤ K → Bd n x := fun x h0 h1 => by
    have : ((x.natAbs : Nat) : Int) < 2 ^ n := by omega
    show x.natAbs < 2 ^ n
    exact_mod_cast this
  exact ⟨go _ (by omega) a, go _ b1 b2, go _ c1 c2⟩
end Fo

/-! ## the letters of edges -/
namespace Lt
open Or Pj Eo
/-- a step from a number with a root -/
inductive PlS : List Int → Prop
  | four {A B C s : Int} (ba : Bd 90 A) (bb : Bd 90 B) (bc : Bd 90 C) (bs : Bd 4 s) : PlS [A, B, C, s]
def sp_step (K : PySem.W.Frag) : Sp := fun vs H Q _ => ∃ (p : Addr) (A B C sd : Int), vs = [.ref p] ∧ H p = some (.tup [.int A, .int B, .int C, .int sd]) ∧ PlS [A, B, C, sd] ∧ c1 (if cmp4 A B C sd [1, 1] < 0 then -1 else 0) 1 A B C ≠ 0 ∧
  ∀ (t r : Addr) (H' : Hp), Same H H' → H' r = some (.tup ((if cmp4 A B C sd [1, 1] < 0 then bhPl 1 0 (-1) 1 [A, B, C, sd] else bhPl 1 (-1) 0 1 [A, B, C, sd]).map V.int)) → H' t = some (.tup [.str (enc [decide (¬ cmp4 A B C sd [1, 1] < 0)]), .ref r]) → Q (.ref t) H'
end Lt
open Lt
section
variable {P : Program} {w : World} {K : PySem.W.Frag} {mg : Str → Option Value} {base : Heap}
theorem ok_step {f : Addr} {fd : FuncData} (F : Fun K "step" "step" S_step f fd) (T : Txt K mg) (C_cmp4 : FnC P w K mg base CX0 4 "compared" ["one", "other"] (sp_cmp4 K)) (C_changed : FnC P w K mg base CX0 3 "changed" ["root", "numbers"] (sp_changed K)) : FnOk P w K mg base CX0 6 f fd ["root"] (sp_step K) := by
  refine F.ok SC_step (fun vs H Q E h => ?_) (fun cdv A outer s H vs Q E hr h => ?_)
  · obtain ⟨p, A, B, C, sd, rfl, _⟩ := h
    rfl
  · obtain ⟨p, A, B, C, sd, rfl, hp, ho, hc, k⟩ := h
    refine ⟨_, (pss_cons (ps_if (pt_cmpR op_lt (pe_callC C_cmp4 (hr.mono (by decide)) rfl (pa_cons (pv 0) (pa_cons (pe_tupN (pa_cons pe_int (pa_cons pe_int pa_nil))) pa_nil))) pe_int (nomark _)) (pss_one (ps_ret (pe_tupN (pa_cons pe_str (pa_cons (pe_callC C_changed (hr.mono (by decide)) rfl (pa_cons (pv 0) (pa_cons (pe_tupN (pa_cons pe_int (pa_cons pe_int (pa_cons (pe_un un_neg pe_int) (pa_cons pe_int pa_nil))))) pa_nil))) pa_nil))))) pss_nil)
      (pss_one (ps_ret (pe_tupN (pa_cons pe_str (pa_cons (pe_callC C_changed (hr.mono (by decide)) rfl (pa_cons (pv 0) (pa_cons (pe_tupN (pa_cons pe_int (pa_cons (pe_un un_neg pe_int) (pa_cons pe_int (pa_cons pe_int pa_nil))))) pa_nil))) pa_nil)))))), ?_⟩
    have W := (Ho.start H).call (Same.refl H) hp
    cases ho with
    | four ba bb bc bs =>
      have po1 : PlO [1, 1] := .two ((Bd.lit (by decide)).mono (by decide)) ((Bd.lit (by decide)).mono (by decide))
      have l0 : Bd 200 0 := (Bd.lit (by decide)).mono (by decide)
      have l1 : Bd 200 1 := (Bd.lit (by decide)).mono (by decide)
      have ln : Bd 200 (-1) := (Bd.lit (by decide)).mono (by decide)
      walk_at "kw"
      rename_i q1 H1 f1 W1
      refine ⟨p, q1, A, B, C, sd, [1, 1], rfl, W1.get (.tail _ (.head _)), W1.get (.head _), PlO.four (ba.mono (by decide)) (bb.mono (by decide)) (bc.mono (by decide)) bs, po1, fun H2 s2 => ?_⟩
      have W2 := W1.same s2
      walk_at "kw"
      refine ite2 (fun h => ?_) (fun h => ?_)
      · have hl : cmp4 A B C sd [1, 1] < 0 := of_decide_eq_true h
        rw [if_pos hl] at hc
        walk_at "kw"
        rename_i q3 H3 f3 W3
        refine ⟨p, q3, A, B, C, sd, 1, 0, -1, 1, rfl, W3.get (.tail _ (.tail _ (.head _))), W3.get (.head _), ⟨ba.mono (by decide), bb.mono (by decide), bc.mono (by decide), bs⟩, ⟨l1, l0, ln, l1⟩, hc, ?_⟩
        refine Ho.nw W3 fun r4 H4 f4 W4 => ?_
        walk_at "kw"
        rename_i t5 H5 f5 W5
        exact k t5 r4 H5 W5.sm (by rw [if_pos hl]; exact W5.get (.tail _ (.head _))) (by rw [decide_eq_false (fun z => z hl)]; exact W5.get (.head _))
      · have hl : ¬ cmp4 A B C sd [1, 1] < 0 := fun e => h (decide_eq_true e)
        rw [if_neg hl] at hc
        walk_at "kw"
        rename_i q3 H3 f3 W3
        refine ⟨p, q3, A, B, C, sd, 1, -1, 0, 1, rfl, W3.get (.tail _ (.tail _ (.head _))), W3.get (.head _), ⟨ba.mono (by decide), bb.mono (by decide), bc.mono (by decide), bs⟩, ⟨l1, ln, l0, l1⟩, hc, ?_⟩
        refine Ho.nw W3 fun r4 H4 f4 W4 => ?_
        walk_at "kw"
        rename_i t5 H5 f5 W5
        exact k t5 r4 H5 W5.sm (by rw [if_neg hl]; exact W5.get (.tail _ (.head _))) (by rw [decide_eq_true hl]; exact W5.get (.head _))
end
--@fl
namespace Lt
open Fo
def sp_fl : Sp := fun vs H Q _ => ∃ (p : Addr) (A B C sd K n : Int), vs = [.ref p, .int n] ∧ H p = some (.tup [.int A, .int B, .int C, .int sd]) ∧ Sm K A B C sd ∧ K < 2 ^ 88 ∧ 0 ≤ n ∧ n ≤ 400 ∧ ∀ H', Same H H' → Q (.str (enc (flw n.toNat [A, B, C, sd]))) H'
theorem Sm.plo {K A B C sd : Int} (h : Sm K A B C sd) (hK : K < 2 ^ 88) : PlS [A, B, C, sd] := by
  obtain ⟨a, b, c⟩ := h.bd (n := 88) hK
  exact .four (a.mono (by decide)) (b.mono (by decide)) (c.mono (by decide)) (Bd.sd h.s)
theorem flw_snoc : ∀ (n : Nat) (pl : List Int), ∃ x, flw (n + 1) pl = flw n pl ++ [x]
  | 0, pl => ⟨_, rfl⟩
  | n + 1, pl => by
    obtain ⟨x, hx⟩ := flw_snoc n (nextPl pl)
    refine ⟨x, ?_⟩
    show decide (¬ cmpPl pl [1, 1] < 0) :: flw (n + 1) (nextPl pl) = _
    rw [hx]; rfl
end Lt
namespace Lt
open Fo
def itPl : Nat → List Int → List Int
  | 0, pl => pl
  | n + 1, pl => nextPl (itPl n pl)
theorem itPl_s : ∀ (n : Nat) (pl : List Int), itPl n (nextPl pl) = nextPl (itPl n pl)
  | 0, _ => rfl
  | n + 1, pl => by show nextPl (itPl n (nextPl pl)) = _; rw [itPl_s n]; rfl
theorem flw_it : ∀ (n : Nat) (pl : List Int), flw (n + 1) pl = flw n pl ++ [decide (¬ cmpPl (itPl n pl) [1, 1] < 0)]
  | 0, _ => rfl
  | n + 1, pl => by
    show decide (¬ cmpPl pl [1, 1] < 0) :: flw (n + 1) (nextPl pl) = _
    rw [flw_it n, itPl_s]; rfl
theorem flw_len : ∀ (n : Nat) (pl : List Int), (flw n pl).length = n
  | 0, _ => rfl
  | n + 1, pl => by show (flw n (nextPl pl)).length + 1 = n + 1; rw [flw_len n]
end Lt
section
variable {P : Program} {w : World} {K : PySem.W.Frag} {mg : Str → Option Value} {base : Heap}
open Fo
theorem ok_fl {f : Addr} {fd : FuncData} (F : Fun K "first_letters" "first_letters" S_first_letters f fd) (T : Txt K mg) (C_step : FnC P w K mg base CX0 6 "step" ["root"] (sp_step K)) : FnOk P w K mg base CX0 7 f fd ["root", "count"] sp_fl := by
  refine F.ok SC_first_letters (fun vs H Q E h => ?_) (fun cdv A outer s H vs Q E hr h => ?_)
  · obtain ⟨p, A, B, C, sd, K, n, rfl, _⟩ := h
    rfl
  · obtain ⟨p, A, B, C, sd, KK, n, rfl, hp, hs, hK, n0, n1, k⟩ := h
    refine ⟨_, (pss_cons (ps_set (i := 2) SC_first_letters.nd rfl (.inl rfl) (pe_lstN pa_nil))
      (pss_cons (ps_for PassesOwn.never rfl (pi_range1 (by rfl) T.b_range (pa_cons (pv 1) pa_nil)) (pg_name (i := 3) SC_first_letters.nd rfl (.inl rfl)) (pss_cons (ps_asg (pe_callC C_step (hr.mono (by decide)) rfl (pa_cons (pv 0) pa_nil)) (pg_tup rfl (pgs_cons (pg_name (i := 4) SC_first_letters.nd rfl (.inl rfl)) (pgs_cons (pg_name (i := 0) SC_first_letters.nd rfl (.inl rfl)) pgs_nil))))
      (pss_one (ps_expr (pe_bm PySem.F.plainAttrs_list PySem.F.slot_list_append PySem.F.type_list_append mt_append (pv 2) (pa_cons (pv 4) pa_nil))))))
      (pss_one (ps_ret (pe_join pe_str (pv 2)))))), ?_⟩
    have W := (Ho.start H).call (Same.refl H) hp
    walk_at "kw"
    rename_i L H1 f1 W1
    refine for_range (lo := 0) (fun i σ H' => ∃ (p' : Addr) (A' B' C' sd' : Int) (y3 y4 : Option V), itPl i [A, B, C, sd] = [A', B', C', sd'] ∧ Sm KK A' B' C' sd' ∧ Ho H H' [(L, .lst ((flw i [A, B, C, sd]).map fun x => V.str (enc [x]))), (p', .tup [.int A', .int B', .int C', .int sd'])] ∧ σ = [some (.ref p'), some (.int n), some (.ref L), y3, y4])
      ⟨p, A, B, C, sd, none, none, rfl, hs, W1, rfl⟩ (fun i σ H2 hi hP => ?_) (fun σ H2 hP => ?_)
    · obtain ⟨p', A', B', C', sd', y3, y4, e, hs', W2, rfl⟩ := hP
      have po := Lt.Sm.plo hs' hK
      obtain ⟨A2, B2, C2, sd2, e2, hs2⟩ := hs'.next
      have A0 := hs'.f.pos
      have cn : c1 (if cmp4 A' B' C' sd' [1, 1] < 0 then -1 else 0) 1 A' B' C' ≠ 0 := by
        split
        · have : c1 (-1) 1 A' B' C' = A' + B' + C' := by unfold c1; grind
          rw [this]; exact hs'.q0
        · have : c1 0 1 A' B' C' = A' := by unfold c1; grind
          rw [this]; omega
      have e3 : (if cmp4 A' B' C' sd' [1, 1] < 0 then bhPl 1 0 (-1) 1 [A', B', C', sd'] else bhPl 1 (-1) 0 1 [A', B', C', sd']) = [A2, B2, C2, sd2] := e2
      walk_at "kw"
      refine ⟨p', A', B', C', sd', rfl, W2.get (.tail _ (.head _)), po, cn, fun t r H3 s3 hr3 ht3 => ?_⟩
      rw [e3] at hr3
      have W3 := (((W2.same s3).add hr3).add ht3)
      walk_at "kw"
      have hL := W3.get (.tail _ (.tail _ (.head _)))
      have W4 : Ho H H3 [(L, .lst ((flw i [A, B, C, sd]).map fun x => V.str (enc [x]))), (r, .tup [.int A2, .int B2, .int C2, .int sd2])] := ⟨W3.sm, fun x hx => by
        rcases List.mem_cons.mp hx with rfl | hx
        · exact hL
        · cases List.mem_singleton.mp hx
          exact W3.get (.tail _ (.head _))⟩
      refine ⟨.inl ⟨rfl, _, SqL.of hL⟩, ?_⟩
      walk_at "kw"
      refine ⟨L, _, _, rfl, rfl, hL, by rw [List.length_map, Lt.flw_len]; exact szs (by omega), ?_⟩
      refine ⟨r, A2, B2, C2, sd2, _, _, by show Fo.nextPl (Lt.itPl i _) = _; rw [e]; exact e2, hs2, ?_, rfl⟩
      rw [Lt.flw_it, List.map_append, e]
      exact W4.set hL f1 _
    · obtain ⟨p', A', B', C', sd', y3, y4, e, hs', W2, rfl⟩ := hP
      have hH := W2.get (.head _)
      walk_at "kw"
      refine ⟨_, _, _, rfl, rfl, .inl (rJ1 hH), rJ2 (by rw [Lt.flw_len]; omega), ?_⟩
      rw [join_bits]
      exact k H2 W2.sm
end
--@*

namespace Mc
/-! ## machines that read words: tables -/
abbrev Rw := Bool × Nat × Nat
abbrev Tab := List Rw
def rowAt (t : Tab) (i : Nat) : Rw := (t[i]?).getD (false, 0, 0)
def nx (t : Tab) (i : Nat) (b : Bool) : Nat := if b then (rowAt t i).2.2 else (rowAt t i).2.1
def isn (t : Tab) (i : Nat) : Bool := (rowAt t i).1
def go (t : Tab) (i : Nat) (u : List Bool) : Nat := u.foldl (nx t) i
def acc (t : Tab) (i : Nat) (u : List Bool) : Bool := isn t (go t i u)
structure Wf (t : Tab) : Prop where
  ne : 0 < t.length
  nx : ∀ i b, i < t.length → nx t i b < t.length
theorem rowAt_of {t : Tab} {i : Nat} {r : Rw} (h : t[i]? = some r) : rowAt t i = r := by unfold rowAt; rw [h]; rfl
theorem nx_l {t : Tab} {i : Nat} {r : Rw} (h : t[i]? = some r) : nx t i false = r.2.1 := by unfold nx; rw [rowAt_of h]; rfl
theorem nx_r {t : Tab} {i : Nat} {r : Rw} (h : t[i]? = some r) : nx t i true = r.2.2 := by unfold nx; rw [rowAt_of h]; rfl
theorem isn_of {t : Tab} {i : Nat} {r : Rw} (h : t[i]? = some r) : isn t i = r.1 := by unfold isn; rw [rowAt_of h]
theorem acc_cons (t : Tab) (i : Nat) (b : Bool) (u : List Bool) : acc t i (b :: u) = acc t (nx t i b) u := rfl
theorem Wf.go {t : Tab} (h : Wf t) : ∀ (u : List Bool) (i : Nat), i < t.length → go t i u < t.length
  | [], _, hi => hi
  | b :: u, i, hi => h.go u _ (h.nx i b hi)
/-! ### rows that tell the same of all words of at most so many letters -/
def Eqk (t : Tab) (k i j : Nat) : Prop := ∀ u : List Bool, u.length ≤ k → acc t i u = acc t j u
def Eqv (t : Tab) (i j : Nat) : Prop := ∀ u : List Bool, acc t i u = acc t j u
theorem eqk_succ {t : Tab} {k i j : Nat} : Eqk t (k + 1) i j ↔ Eqk t k i j ∧ ∀ b, Eqk t k (nx t i b) (nx t j b) := by
  constructor
  · exact fun h => ⟨fun u hu => h u (by omega), fun b u hu => h (b :: u) (by rw [List.length_cons]; omega)⟩
  · intro h u hu
    cases u with
    | nil => exact h.1 [] (Nat.zero_le _)
    | cons b u => exact h.2 b u (by rw [List.length_cons] at hu; omega)
theorem eqk_zero {t : Tab} {i j : Nat} : Eqk t 0 i j ↔ isn t i = isn t j :=
  ⟨fun h => h [] (Nat.le_refl _), fun h u hu => by cases u with
    | nil => exact h
    | cons b u => rw [List.length_cons] at hu; omega⟩
theorem eqk_stable {t : Tab} (w : Wf t) {k : Nat} (h : ∀ i j, i < t.length → j < t.length → Eqk t k i j → Eqk t (k + 1) i j) {i j : Nat} (hi : i < t.length) (hj : j < t.length) (e : Eqk t k i j) : Eqv t i j := by
  have all : ∀ m i j, i < t.length → j < t.length → Eqk t k i j → Eqk t (k + m) i j := by
    intro m
    induction m with
    | zero => exact fun _ _ _ _ e => e
    | succ m ih =>
      intro i j hi hj e
      have e1 := h i j hi hj e
      have e2 := eqk_succ.mp e1
      exact eqk_succ.mpr ⟨ih i j hi hj e, fun b => ih _ _ (w.nx i b hi) (w.nx j b hj) (e2.2 b)⟩
  exact fun u => all u.length i j hi hj e u (by omega)
/-- labels that part rows as words of at most k letters do -/
structure Good (t : Tab) (k : Nat) (c : List Nat) : Prop where
  len : c.length = t.length
  iff : ∀ i j x y, c[i]? = some x → c[j]? = some y → (x = y ↔ Eqk t k i j)
structure Cls (t : Tab) (c : List Nat) : Prop where
  len : c.length = t.length
  iff : ∀ i j x y, c[i]? = some x → c[j]? = some y → (x = y ↔ Eqv t i j)
structure Onto (c : List Nat) (m : Nat) : Prop where
  lt : ∀ x ∈ c, x < m
  all : ∀ a, a < m → a ∈ c
theorem at_lt {α : Type} {xs : List α} {i : Nat} (h : i < xs.length) : ∃ x, xs[i]? = some x := ⟨_, List.getElem?_eq_getElem h⟩
theorem lt_at {α : Type} {xs : List α} {i : Nat} {x : α} (h : xs[i]? = some x) : i < xs.length := (List.getElem?_eq_some_iff.mp h).1
theorem nodup_at {α : Type} {xs : List α} (h : xs.Nodup) {i j : Nat} {x : α} (hi : xs[i]? = some x) (hj : xs[j]? = some x) : i = j := by
  exact (List.getElem?_inj (lt_at hi) h).mp (hi.trans hj.symm)
/-- as many or more labels where they part more -/
theorem onto_le {c d : List Nat} {m n : Nat} (hc : Onto c m) (hd : Onto d n) (hl : c.length = d.length) (ref : ∀ (i j : Nat) (x y : Nat), d[i]? = some x → d[j]? = some x → c[i]? = some y → c[j]? = some y) :
    m ≤ n ∧ (m = n → ∀ (i j x y : Nat), c[i]? = some y → c[j]? = some y → d[i]? = some x → d[j]? = some x) := by
  have rep : ∀ a, a < n → ∃ i y : Nat, d[i]? = some a ∧ c[i]? = some y ∧ y < m := fun a ha => by
    obtain ⟨i, hi⟩ := List.mem_iff_getElem?.mp (hd.all a ha)
    obtain ⟨y, hy⟩ := at_lt (xs := c) (show i < c.length by rw [hl]; exact lt_at hi)
    exact ⟨i, y, hi, hy, hc.lt y (List.mem_iff_getElem?.mpr ⟨i, hy⟩)⟩
  have ex : ∃ f : Nat → Nat, ∀ a, a < n → f a < m ∧ ∃ i : Nat, d[i]? = some a ∧ c[i]? = some (f a) := by
    refine ⟨fun a => if h : a < n then (rep a h).choose_spec.choose else 0, fun a ha => ?_⟩
    have s := (rep a ha).choose_spec.choose_spec
    show (dite _ _ _) < m ∧ ∃ i : Nat, d[i]? = some a ∧ c[i]? = some (dite _ _ _)
    rw [dif_pos ha]
    exact ⟨s.2.2, _, s.1, s.2.1⟩
  obtain ⟨f, hf⟩ := ex
  have fd : ∀ (i x y : Nat), d[i]? = some x → c[i]? = some y → y = f x := fun i x y hi hy => by
    have hx := hd.lt x (List.mem_iff_getElem?.mpr ⟨i, hi⟩)
    obtain ⟨j, h1, h2⟩ := (hf x hx).2
    have := ref i j x y hi h1 hy
    rw [h2] at this
    exact (Option.some.inj this).symm
  have sub : List.range m ⊆ (List.range n).map f := fun y hy => by
    obtain ⟨i, hi⟩ := List.mem_iff_getElem?.mp (hc.all y (List.mem_range.mp hy))
    obtain ⟨x, hx⟩ := at_lt (xs := d) (show i < d.length by rw [← hl]; exact lt_at hi)
    refine List.mem_map.mpr ⟨x, List.mem_range.mpr (hd.lt x (List.mem_iff_getElem?.mpr ⟨i, hx⟩)), (fd i x y hx hi).symm⟩
  have le := List.nodup_range.length_le_of_subset sub
  rw [List.length_map, List.length_range, List.length_range] at le
  refine ⟨le, fun e i j x y hi hj hx => ?_⟩
  obtain ⟨z, hz⟩ := at_lt (xs := d) (show j < d.length by rw [← hl]; exact lt_at hj)
  have e1 := fd i x y hx hi
  have e2 := fd j z y hz hj
  by_cases c1 : x = z
  · rw [c1]; exact hz
  · exfalso
    have hx' := hd.lt x (List.mem_iff_getElem?.mpr ⟨i, hx⟩)
    have hz' := hd.lt z (List.mem_iff_getElem?.mpr ⟨j, hz⟩)
    have sub2 : List.range m ⊆ ((List.range n).erase x).map f := fun y hy => by
      obtain ⟨a, ha, e⟩ := List.mem_map.mp (sub hy)
      by_cases c2 : a = x
      · refine List.mem_map.mpr ⟨z, (List.mem_erase_of_ne (fun q => c1 q.symm)).mpr (List.mem_range.mpr hz'), ?_⟩
        rw [← e, c2, ← e1, ← e2]
      · exact List.mem_map.mpr ⟨a, (List.mem_erase_of_ne c2).mpr ha, e⟩
    have le2 := List.nodup_range.length_le_of_subset sub2
    rw [List.length_map, List.length_erase_of_mem (List.mem_range.mpr hx'), List.length_range, List.length_range] at le2
    omega
/-! ### the least table -/
def flat (t : Tab) : List Nat := (t.map fun r => [r.2.1, r.2.2]).flatten
/-- rows are met in the order of their numbers: n so far -/
inductive Ord : List Nat → Nat → Prop
  | nil : Ord [] 1
  | old {l n x} : Ord l n → l.length < 2 * n → x < n → Ord (l ++ [x]) n
  | new {l n} : Ord l n → l.length < 2 * n → Ord (l ++ [n]) (n + 1)
structure Least (t : Tab) : Prop where
  wf : Wf t
  dist : ∀ i j, i < t.length → j < t.length → Eqv t i j → i = j
  ord : Ord (flat t) t.length
theorem flat_len (t : Tab) : (flat t).length = 2 * t.length := by
  unfold flat
  induction t with
  | nil => rfl
  | cons r t ih => simp only [List.map_cons, List.flatten_cons, List.length_append, List.length_cons, List.length_nil] at *; omega
theorem flat_app (s t : Tab) : flat (s ++ t) = flat s ++ flat t := by unfold flat; rw [List.map_append, List.flatten_append]
theorem flat_at : ∀ (t : Tab) (i : Nat) (b : Bool), i < t.length → (flat t)[2 * i + (if b then 1 else 0)]? = some (nx t i b)
  | r :: t, 0, b, _ => by cases b <;> rfl
  | r :: t, i + 1, b, h => by
    have := flat_at t i b (by rw [List.length_cons] at h; omega)
    have e : flat (r :: t) = r.2.1 :: r.2.2 :: flat t := rfl
    rw [e, show 2 * (i + 1) + (if b then 1 else 0) = (2 * i + (if b then 1 else 0)) + 1 + 1 by omega, List.getElem?_cons_succ, List.getElem?_cons_succ, this]
    rfl
/-- each beginning of the list is in order, too -/
theorem Ord.prefix {l : List Nat} {n : Nat} (h : Ord l n) : ∀ p, p < l.length → ∃ m x, Ord (l.take p) m ∧ p < 2 * m ∧ l[p]? = some x ∧ x ≤ m ∧ m ≤ n ∧ Ord (l.take (p + 1)) (if x = m then m + 1 else m) := by
  induction h with
  | nil => intro p hp; cases hp
  | @old l n x o hl hx ih =>
    intro p hp
    rw [List.length_append, List.length_singleton] at hp
    by_cases c : p < l.length
    · obtain ⟨m, y, h1, h2, h3, h4, h5, h6⟩ := ih p c
      refine ⟨m, y, ?_, h2, ?_, h4, h5, ?_⟩
      · rw [List.take_append_of_le_length (by omega)]; exact h1
      · rw [List.getElem?_append_left c]; exact h3
      · rw [List.take_append_of_le_length (by omega)]; exact h6
    · have e : p = l.length := by omega
      subst e
      refine ⟨n, x, ?_, hl, by simp, by omega, Nat.le_refl _, ?_⟩
      · rw [List.take_left]; exact o
      · rw [if_neg (by omega), List.take_of_length_le (by simp)]; exact o.old hl hx
  | @new l n o hl ih =>
    intro p hp
    rw [List.length_append, List.length_singleton] at hp
    by_cases c : p < l.length
    · obtain ⟨m, y, h1, h2, h3, h4, h5, h6⟩ := ih p c
      refine ⟨m, y, ?_, h2, ?_, h4, by omega, ?_⟩
      · rw [List.take_append_of_le_length (by omega)]; exact h1
      · rw [List.getElem?_append_left c]; exact h3
      · rw [List.take_append_of_le_length (by omega)]; exact h6
    · have e : p = l.length := by omega
      subst e
      refine ⟨n, n, ?_, hl, by simp, Nat.le_refl _, by omega, ?_⟩
      · rw [List.take_left]; exact o
      · rw [if_pos rfl, List.take_of_length_le (by simp)]; exact o.new hl
theorem Ord.one {l : List Nat} {n m : Nat} (h : Ord l n) (h' : Ord l m) : n = m := by
  have key : ∀ {l n}, Ord l n → n = l.foldl (fun a x => if x = a then a + 1 else a) 1 := by
    intro l n h
    induction h with
    | nil => rfl
    | old o _ hx ih => rw [List.foldl_append, ← ih]; show _ = if _ then _ else _; rw [if_neg (by omega)]
    | new o _ ih => rw [List.foldl_append, ← ih]; show _ = if _ then _ else _; rw [if_pos rfl]
  rw [key h, key h']
theorem Ord.pos {l : List Nat} {n : Nat} (h : Ord l n) : 1 ≤ n := by
  induction h with
  | nil => exact Nat.le_refl _
  | old _ _ _ ih => exact ih
  | new _ _ ih => omega
theorem Least.take {s t : Tab} (hs : Least s) (ht : Least t) (e : ∀ u, acc s 0 u = acc t 0 u) : ∀ p, p ≤ (flat s).length → p ≤ (flat t).length ∧ (flat s).take p = (flat t).take p ∧ ∃ m, Ord ((flat s).take p) m ∧ ∀ i, i < m → i < s.length ∧ i < t.length ∧ ∀ u, acc s i u = acc t i u := by
  intro p
  induction p with
  | zero =>
    intro _
    refine ⟨Nat.zero_le _, rfl, 1, .nil, fun i hi => ?_⟩
    have : i = 0 := by omega
    subst this
    exact ⟨hs.wf.ne, ht.wf.ne, e⟩
  | succ p ih =>
    intro hp
    obtain ⟨g1, g2, m, g3, g4⟩ := ih (by omega)
    obtain ⟨m', x, o1, o2, o3, o4, o5, o6⟩ := hs.ord.prefix p (by omega)
    have em := o1.one g3
    subst em
    have dv := Nat.div_add_mod p 2
    have md := Nat.mod_lt p (show 0 < 2 by omega)
    obtain ⟨b, hb⟩ : ∃ b : Bool, p = 2 * (p / 2) + (if b then 1 else 0) := by
      by_cases c : p % 2 = 0
      · exact ⟨false, by simp; omega⟩
      · exact ⟨true, by simp; omega⟩
    obtain ⟨js, jt, je⟩ := g4 (p / 2) (by omega)
    have pt : p < (flat t).length := by rw [flat_len]; omega
    obtain ⟨m2, y, q1, q2, q3, q4, q5, q6⟩ := ht.ord.prefix p pt
    have em := (g2 ▸ q1 : Ord ((flat s).take p) m2).one g3
    subst em
    have ex : x = nx s (p / 2) b := by
      have := flat_at s (p / 2) b js
      rw [← hb, o3] at this
      exact Option.some.inj this
    have ey : y = nx t (p / 2) b := by
      have := flat_at t (p / 2) b jt
      rw [← hb, q3] at this
      exact Option.some.inj this
    have xs : x < s.length := ex ▸ hs.wf.nx _ b js
    have yt : y < t.length := ey ▸ ht.wf.nx _ b jt
    have exy : ∀ u, acc s x u = acc t y u := fun u => by rw [ex, ey]; exact je (b :: u)
    have xy : x = y := by
      by_cases c1 : x < m2
      · obtain ⟨_, xt, xe⟩ := g4 x c1
        exact ht.dist x y xt yt fun u => by rw [← xe, exy]
      · by_cases c2 : y < m2
        · obtain ⟨ys, _, ye⟩ := g4 y c2
          exact hs.dist x y xs ys fun u => by rw [exy, ye]
        · omega
    subst xy
    refine ⟨pt, ?_, _, o6, fun i hi => ?_⟩
    · rw [List.take_add_one, List.take_add_one, g2, o3, q3]
    · by_cases c : i < m2
      · exact g4 i c
      · have : i = x := by
          by_cases c3 : x = m2
          · rw [if_pos c3] at hi; omega
          · rw [if_neg c3] at hi; omega
        subst this
        exact ⟨xs, yt, exy⟩
/-! ### the numbering of keys -/
structure Num {κ : Type} (ks dd : List κ) (la : List Nat) : Prop where
  nd : dd.Nodup
  len : la.length = ks.length
  at_ : ∀ (i : Nat) (k : κ), ks[i]? = some k → ∃ x : Nat, la[i]? = some x ∧ dd[x]? = some k
  all : ∀ a, a < dd.length → a ∈ la
theorem Num.nil {κ : Type} : Num ([] : List κ) [] [] := ⟨List.nodup_nil, rfl, fun i k h => (nomatch h), fun a h => (nomatch h)⟩
theorem Num.old {κ : Type} {ks dd : List κ} {la : List Nat} (h : Num ks dd la) {k : κ} {x : Nat} (hx : dd[x]? = some k) : Num (ks ++ [k]) dd (la ++ [x]) := by
  refine ⟨h.nd, by simp [h.len], fun i k' hi => ?_, fun a ha => List.mem_append_left _ (h.all a ha)⟩
  by_cases c : i < ks.length
  · rw [List.getElem?_append_left c] at hi
    obtain ⟨y, h1, h2⟩ := h.at_ i k' hi
    exact ⟨y, by rw [List.getElem?_append_left (lt_at h1)]; exact h1, h2⟩
  · have hl := lt_at hi
    rw [List.length_append, List.length_singleton] at hl
    have e : i = ks.length := by omega
    subst e
    rw [List.getElem?_concat_length] at hi
    cases hi
    exact ⟨x, by rw [← h.len, List.getElem?_concat_length], hx⟩
theorem Num.new {κ : Type} {ks dd : List κ} {la : List Nat} (h : Num ks dd la) {k : κ} (hk : ∀ y ∈ dd, y ≠ k) : Num (ks ++ [k]) (dd ++ [k]) (la ++ [dd.length]) := by
  refine ⟨?_, by simp [h.len], fun i k' hi => ?_, fun a ha => ?_⟩
  · rw [List.nodup_append]
    exact ⟨h.nd, by simp, fun x hx y hy => by cases List.mem_singleton.mp hy; exact hk x hx⟩
  · by_cases c : i < ks.length
    · rw [List.getElem?_append_left c] at hi
      obtain ⟨y, h1, h2⟩ := h.at_ i k' hi
      exact ⟨y, by rw [List.getElem?_append_left (lt_at h1)]; exact h1, by rw [List.getElem?_append_left (lt_at h2)]; exact h2⟩
    · have hl := lt_at hi
      rw [List.length_append, List.length_singleton] at hl
      have e : i = ks.length := by omega
      subst e
      rw [List.getElem?_concat_length] at hi
      cases hi
      exact ⟨dd.length, by rw [← h.len, List.getElem?_concat_length], List.getElem?_concat_length⟩
  · rw [List.length_append, List.length_singleton] at ha
    by_cases c : a < dd.length
    · exact List.mem_append_left _ (h.all a c)
    · have : a = dd.length := by omega
      subst this
      exact List.mem_append_right _ (List.mem_singleton.mpr rfl)
theorem Num.onto {κ : Type} {ks dd : List κ} {la : List Nat} (h : Num ks dd la) : Onto la dd.length := by
  refine ⟨fun x hx => ?_, h.all⟩
  obtain ⟨i, hi⟩ := List.mem_iff_getElem?.mp hx
  obtain ⟨k, hk⟩ := at_lt (xs := ks) (show i < ks.length by rw [← h.len]; exact lt_at hi)
  obtain ⟨y, h1, h2⟩ := h.at_ i k hk
  rw [hi] at h1
  cases h1
  exact lt_at h2
theorem Num.iff {κ : Type} {ks dd : List κ} {la : List Nat} (h : Num ks dd la) {i j x y : Nat} {k l : κ} (hx : la[i]? = some x) (hy : la[j]? = some y) (hk : ks[i]? = some k) (hl : ks[j]? = some l) : x = y ↔ k = l := by
  obtain ⟨x', a1, a2⟩ := h.at_ i k hk
  obtain ⟨y', b1, b2⟩ := h.at_ j l hl
  rw [hx] at a1
  rw [hy] at b1
  cases a1; cases b1
  constructor
  · intro e
    subst e
    rw [a2] at b2
    exact Option.some.inj b2
  · intro e
    subst e
    exact nodup_at h.nd a2 b2
theorem Num.le {κ : Type} {ks dd : List κ} {la : List Nat} (h : Num ks dd la) : dd.length ≤ ks.length := by
  have : List.range dd.length ⊆ la := fun a ha => h.all a (List.mem_range.mp ha)
  have := List.nodup_range.length_le_of_subset this
  rw [List.length_range, h.len] at this
  exact this
/-- the key of a row in one turn -/
def keyOf (t : Tab) (c : List Nat) (i : Nat) : Nat × Nat × Nat := ((c[i]?).getD 0, (c[nx t i false]?).getD 0, (c[nx t i true]?).getD 0)
theorem keys_at (t : Tab) (c : List Nat) {i : Nat} (h : i < t.length) : ((List.range t.length).map (keyOf t c))[i]? = some (keyOf t c i) := by
  rw [List.getElem?_map, List.getElem?_range h]; rfl
theorem getD_at {c : List Nat} {i x : Nat} (h : c[i]? = some x) : (c[i]?).getD 0 = x := by rw [h]; rfl
theorem Good.keys {t : Tab} {c : List Nat} {k : Nat} (w : Wf t) (g : Good t k c) {i j : Nat} (hi : i < t.length) (hj : j < t.length) : keyOf t c i = keyOf t c j ↔ Eqk t (k + 1) i j := by
  have one : ∀ i j, i < t.length → j < t.length → ((c[i]?).getD 0 = (c[j]?).getD 0 ↔ Eqk t k i j) := fun i j hi hj => by
    obtain ⟨x, hx⟩ := at_lt (xs := c) (g.len.symm ▸ hi)
    obtain ⟨y, hy⟩ := at_lt (xs := c) (g.len.symm ▸ hj)
    rw [getD_at hx, getD_at hy]
    exact g.iff i j x y hx hy
  rw [eqk_succ]
  unfold keyOf
  rw [Prod.mk.injEq, Prod.mk.injEq, one i j hi hj, one _ _ (w.nx i false hi) (w.nx j false hj), one _ _ (w.nx i true hi) (w.nx j true hj)]
  constructor
  · exact fun h => ⟨h.1, fun b => match b with | false => h.2.1 | true => h.2.2⟩
  · exact fun h => ⟨h.1, h.2 false, h.2 true⟩
theorem Good.step {t : Tab} {c la : List Nat} {dd : List (Nat × Nat × Nat)} {k : Nat} (w : Wf t) (g : Good t k c) (n : Num ((List.range t.length).map (keyOf t c)) dd la) : Good t (k + 1) la := by
  have hl : la.length = t.length := by rw [n.len, List.length_map, List.length_range]
  refine ⟨hl, fun i j x y hx hy => ?_⟩
  have hi : i < t.length := by rw [← hl]; exact lt_at hx
  have hj : j < t.length := by rw [← hl]; exact lt_at hy
  rw [n.iff hx hy (keys_at t c hi) (keys_at t c hj)]
  exact g.keys w hi hj
theorem Good.zero {t : Tab} {c : List Nat} (h : c = t.map fun r => if r.1 then 1 else 0) : Good t 0 c := by
  subst h
  refine ⟨List.length_map _, fun i j x y hx hy => ?_⟩
  rw [List.getElem?_map] at hx hy
  obtain ⟨r, hr, e⟩ := Option.map_eq_some_iff.mp hx
  obtain ⟨q, hq, e2⟩ := Option.map_eq_some_iff.mp hy
  rw [eqk_zero, isn_of hr, isn_of hq, ← e, ← e2]
  cases r.1 <;> cases q.1 <;> simp
/-- one turn of the numbering: more classes, or the classes that stay -/
theorem Good.turn {t : Tab} {c la : List Nat} {dd : List (Nat × Nat × Nat)} {k m : Nat} (w : Wf t) (g : Good t k c) (o : Onto c m) (n : Num ((List.range t.length).map (keyOf t c)) dd la) : m ≤ dd.length ∧ (m = dd.length → Cls t la) := by
  have g2 := g.step w n
  have key := onto_le o n.onto (by rw [g.len, g2.len]) fun i j x y hi hj hy => by
    have h1 : i < t.length := by rw [← g2.len]; exact lt_at hi
    have h2 : j < t.length := by rw [← g2.len]; exact lt_at hj
    have e := (eqk_succ.mp ((g2.iff i j x x hi hj).mp rfl)).1
    obtain ⟨z, hz⟩ := at_lt (xs := c) (g.len.symm ▸ h2)
    rw [(g.iff i j y z hy hz).mpr e]; exact hz
  refine ⟨key.1, fun e => ?_⟩
  have st : ∀ i j, i < t.length → j < t.length → Eqk t k i j → Eqk t (k + 1) i j := fun i j hi hj h => by
    obtain ⟨y, hy⟩ := at_lt (xs := c) (g.len.symm ▸ hi)
    obtain ⟨z, hz⟩ := at_lt (xs := c) (g.len.symm ▸ hj)
    obtain ⟨x, hx⟩ := at_lt (xs := la) (g2.len.symm ▸ hi)
    have e1 := (g.iff i j y z hy hz).mpr h
    subst e1
    exact (g2.iff i j x x hx (key.2 e i j x y hy hz hx)).mp rfl
  refine ⟨g2.len, fun i j x y hx hy => ?_⟩
  rw [g2.iff i j x y hx hy]
  have hi : i < t.length := by rw [← g2.len]; exact lt_at hx
  have hj : j < t.length := by rw [← g2.len]; exact lt_at hy
  exact ⟨fun h => eqk_stable w st hi hj (eqk_succ.mp h).1, fun h u _ => h u⟩
/-! ### the rows of the least table, as they are met -/
def cl (c : List Nat) (i : Nat) : Nat := (c[i]?).getD 0
theorem Cls.eqv {t : Tab} {c : List Nat} (h : Cls t c) {i j : Nat} (hi : i < t.length) (hj : j < t.length) : cl c i = cl c j ↔ Eqv t i j := by
  obtain ⟨x, hx⟩ := at_lt (xs := c) (h.len.symm ▸ hi)
  obtain ⟨y, hy⟩ := at_lt (xs := c) (h.len.symm ▸ hj)
  unfold cl
  rw [getD_at hx, getD_at hy]
  exact h.iff i j x y hx hy
structure Lt (t : Tab) (c order : List Nat) (found : Tab) : Prop where
  one : order[0]? = some 0
  lt : ∀ x ∈ order, x < t.length
  nd : (order.map (cl c)).Nodup
  le : found.length ≤ order.length
  row : ∀ (j i : Nat), j < found.length → order[j]? = some i → isn found j = isn t i ∧ ∀ b, ∃ i', order[nx found j b]? = some i' ∧ cl c i' = cl c (nx t i b)
  ord : Ord (flat found) order.length
theorem Lt.start {t : Tab} {c : List Nat} (w : Wf t) : Lt t c [0] [] := ⟨rfl, fun x h => (List.mem_singleton.mp h) ▸ w.ne, by simp, Nat.zero_le _, fun j i h => (nomatch h), .nil⟩
/-- a row is looked up, or laid -/
structure Put (c order : List Nat) (x : Nat) (order' : List Nat) (a : Nat) : Prop where
  at_ : ∃ i, order'[a]? = some i ∧ cl c i = cl c x
  or_ : (order' = order ∧ a < order.length) ∨ (order' = order ++ [x] ∧ a = order.length ∧ ∀ y ∈ order, cl c y ≠ cl c x)
theorem Put.old {c order : List Nat} {x a i : Nat} (h : order[a]? = some i) (e : cl c i = cl c x) : Put c order x order a := ⟨⟨i, h, e⟩, .inl ⟨rfl, lt_at h⟩⟩
theorem Put.new {c order : List Nat} {x : Nat} (h : ∀ y ∈ order, cl c y ≠ cl c x) : Put c order x (order ++ [x]) order.length := ⟨⟨x, List.getElem?_concat_length, rfl⟩, .inr ⟨rfl, rfl, h⟩⟩
theorem Put.pre {c order order' : List Nat} {x a : Nat} (p : Put c order x order' a) {j i : Nat} (h : order[j]? = some i) : order'[j]? = some i := by
  rcases p.or_ with ⟨e, _⟩ | ⟨e, _, _⟩
  · rw [e]; exact h
  · rw [e, List.getElem?_append_left (lt_at h)]; exact h
theorem Put.nd {c order order' : List Nat} {x a : Nat} (p : Put c order x order' a) (h : (order.map (cl c)).Nodup) : (order'.map (cl c)).Nodup := by
  rcases p.or_ with ⟨e, _⟩ | ⟨e, _, n⟩
  · rw [e]; exact h
  · rw [e, List.map_append, List.nodup_append]
    refine ⟨h, by simp, fun y hy z hz => ?_⟩
    obtain ⟨i, hi, e1⟩ := List.mem_map.mp hy
    cases List.mem_singleton.mp hz
    rw [← e1]; exact n i hi
theorem Put.lt {c order order' : List Nat} {x a n : Nat} (p : Put c order x order' a) (h : ∀ y ∈ order, y < n) (hx : x < n) : ∀ y ∈ order', y < n := by
  rcases p.or_ with ⟨e, _⟩ | ⟨e, _, _⟩
  · rw [e]; exact h
  · rw [e]
    intro y hy
    rcases List.mem_append.mp hy with q | q
    · exact h y q
    · cases List.mem_singleton.mp q; exact hx
theorem Put.len {c order order' : List Nat} {x a : Nat} (p : Put c order x order' a) : order.length ≤ order'.length := by
  rcases p.or_ with ⟨e, _⟩ | ⟨e, _, _⟩
  · rw [e]; exact Nat.le_refl _
  · rw [e, List.length_append]; omega
theorem Put.ord {c order order' : List Nat} {x a : Nat} (p : Put c order x order' a) {l : List Nat} (o : Ord l order.length) (h : l.length < 2 * order.length) : Ord (l ++ [a]) order'.length := by
  rcases p.or_ with ⟨e, h2⟩ | ⟨e, h2, _⟩
  · rw [e]; exact o.old h h2
  · rw [e, h2, List.length_append]; exact o.new h
theorem row_app_l {t : Tab} {r : Rw} {j : Nat} (h : j < t.length) : rowAt (t ++ [r]) j = rowAt t j := by unfold rowAt; rw [List.getElem?_append_left h]
theorem row_app_r {t : Tab} {r : Rw} : rowAt (t ++ [r]) t.length = r := by unfold rowAt; rw [List.getElem?_concat_length]; rfl
theorem Lt.step {t : Tab} {c order o1 o2 : List Nat} {found : Tab} {i a b : Nat} (w : Wf t) (h : Lt t c order found) (hi : order[found.length]? = some i) (p1 : Put c order (nx t i false) o1 a) (p2 : Put c o1 (nx t i true) o2 b) :
    Lt t c o2 (found ++ [(isn t i, a, b)]) := by
  have il : i < t.length := h.lt i (List.mem_iff_getElem?.mpr ⟨_, hi⟩)
  refine ⟨p2.pre (p1.pre h.one), p2.lt (p1.lt h.lt (w.nx i false il)) (w.nx i true il), p2.nd (p1.nd h.nd), ?_, fun j i' hj hi' => ?_, ?_⟩
  · have := p1.len
    have := p2.len
    have := lt_at hi
    simp
    omega
  · by_cases cj : j < found.length
    · obtain ⟨q, hq⟩ := at_lt (xs := order) (show j < order.length from Nat.lt_of_lt_of_le cj h.le)
      have e : i' = q := by
        have := p2.pre (p1.pre hq)
        rw [hi'] at this
        exact Option.some.inj this
      subst e
      have r := h.row j i' cj hq
      refine ⟨?_, fun b' => ?_⟩
      · rw [← r.1]; unfold isn; rw [row_app_l cj]
      · obtain ⟨k, h1, h2⟩ := r.2 b'
        refine ⟨k, ?_, h2⟩
        have : nx (found ++ [(isn t i, a, b)]) j b' = nx found j b' := by unfold nx; rw [row_app_l cj]
        rw [this]
        exact p2.pre (p1.pre h1)
    · have ej : j = found.length := by
        rw [List.length_append, List.length_singleton] at hj; omega
      subst ej
      have e : i' = i := by
        have := p2.pre (p1.pre hi)
        rw [hi'] at this
        exact Option.some.inj this
      subst e
      refine ⟨by unfold isn; rw [row_app_r], fun b' => ?_⟩
      have : nx (found ++ [(isn t i', a, b)]) found.length b' = if b' then b else a := by unfold nx; rw [row_app_r]
      rw [this]
      cases b'
      · obtain ⟨k, h1, h2⟩ := p1.at_
        exact ⟨k, p2.pre h1, h2⟩
      · exact p2.at_
  · have f : flat (found ++ [(isn t i, a, b)]) = flat found ++ [a] ++ [b] := by rw [flat_app, List.append_assoc]; rfl
    rw [f]
    have l1 := lt_at hi
    have l2 := p1.len
    refine p2.ord (p1.ord h.ord (by rw [flat_len]; omega)) ?_
    rw [List.length_append, flat_len]
    simp
    omega
theorem Lt.nodup {t : Tab} {c order : List Nat} {found : Tab} (h : Lt t c order found) : order.Nodup := (List.pairwise_map.mp h.nd).imp fun h e => h (congrArg _ e)
theorem Lt.len {t : Tab} {c order : List Nat} {found : Tab} (h : Lt t c order found) : order.length ≤ t.length := by
  have : order ⊆ List.range t.length := fun x hx => List.mem_range.mpr (h.lt x hx)
  have := h.nodup.length_le_of_subset this
  rwa [List.length_range] at this
theorem Lt.done {t : Tab} {c order : List Nat} {found : Tab} (w : Wf t) (cc : Cls t c) (h : Lt t c order found) (e : found.length = order.length) : Least found ∧ (∀ u, acc found 0 u = acc t 0 u) ∧ found.length ≤ t.length := by
  have nxl : ∀ j b, j < found.length → nx found j b < found.length := fun j b hj => by
    obtain ⟨i, hi⟩ := at_lt (xs := order) (e ▸ hj)
    obtain ⟨k, h1, _⟩ := (h.row j i hj hi).2 b
    rw [e]; exact lt_at h1
  have ac : ∀ (u : List Bool) (j i : Nat), j < found.length → order[j]? = some i → acc found j u = acc t i u := by
    intro u
    induction u with
    | nil => exact fun j i hj hi => (h.row j i hj hi).1
    | cons b u ih =>
      intro j i hj hi
      obtain ⟨k, h1, h2⟩ := (h.row j i hj hi).2 b
      have il : i < t.length := h.lt i (List.mem_iff_getElem?.mpr ⟨_, hi⟩)
      have kl : k < t.length := h.lt k (List.mem_iff_getElem?.mpr ⟨_, h1⟩)
      rw [acc_cons, acc_cons, ih _ k (nxl j b hj) h1]
      exact (cc.eqv kl (w.nx i b il)).mp h2 u
  have pos : 0 < found.length := by rw [e]; exact lt_at h.one
  refine ⟨⟨⟨pos, nxl⟩, fun i j hi hj q => ?_, e ▸ h.ord⟩, fun u => ac u 0 0 pos h.one, by rw [e]; exact h.len⟩
  obtain ⟨x, hx⟩ := at_lt (xs := order) (e ▸ hi)
  obtain ⟨y, hy⟩ := at_lt (xs := order) (e ▸ hj)
  have xl : x < t.length := h.lt x (List.mem_iff_getElem?.mpr ⟨_, hx⟩)
  have yl : y < t.length := h.lt y (List.mem_iff_getElem?.mpr ⟨_, hy⟩)
  have : cl c x = cl c y := (cc.eqv xl yl).mpr fun u => by rw [← ac u i x hi hx, ← ac u j y hj hy]; exact q u
  refine nodup_at h.nd (x := cl c x) ?_ ?_
  · rw [List.getElem?_map, hx]; rfl
  · rw [List.getElem?_map, hy, this]; rfl
/-! ### rows that are met from state to state -/
section
variable {S : Type}
structure Exp (stp : S → Bool → S) (out : S → Bool) (s0 : S) (order : List S) (rows : Tab) : Prop where
  one : order[0]? = some s0
  nd : order.Nodup
  le : rows.length ≤ order.length
  row : ∀ (j : Nat) (s : S), j < rows.length → order[j]? = some s → isn rows j = out s ∧ ∀ b, order[nx rows j b]? = some (stp s b)
structure PutS (order : List S) (x : S) (order' : List S) (a : Nat) : Prop where
  at_ : order'[a]? = some x
  or_ : (order' = order ∧ a < order.length) ∨ (order' = order ++ [x] ∧ a = order.length ∧ ∀ y ∈ order, y ≠ x)
theorem PutS.old {order : List S} {x : S} {a : Nat} (h : order[a]? = some x) : PutS order x order a := ⟨h, .inl ⟨rfl, lt_at h⟩⟩
theorem PutS.new {order : List S} {x : S} (h : ∀ y ∈ order, y ≠ x) : PutS order x (order ++ [x]) order.length := ⟨List.getElem?_concat_length, .inr ⟨rfl, rfl, h⟩⟩
theorem PutS.pre {order order' : List S} {x : S} {a : Nat} (p : PutS order x order' a) {j : Nat} {i : S} (h : order[j]? = some i) : order'[j]? = some i := by
  rcases p.or_ with ⟨e, _⟩ | ⟨e, _, _⟩
  · rw [e]; exact h
  · rw [e, List.getElem?_append_left (lt_at h)]; exact h
theorem PutS.nd {order order' : List S} {x : S} {a : Nat} (p : PutS order x order' a) (h : order.Nodup) : order'.Nodup := by
  rcases p.or_ with ⟨e, _⟩ | ⟨e, _, n⟩
  · rw [e]; exact h
  · rw [e, List.nodup_append]
    refine ⟨h, by simp, fun y hy z hz => ?_⟩
    cases List.mem_singleton.mp hz
    exact n y hy
theorem PutS.len {order order' : List S} {x : S} {a : Nat} (p : PutS order x order' a) : order.length ≤ order'.length := by
  rcases p.or_ with ⟨e, _⟩ | ⟨e, _, _⟩
  · rw [e]; exact Nat.le_refl _
  · rw [e, List.length_append]; omega
theorem PutS.all {order order' : List S} {x : S} {a : Nat} {P : S → Prop} (p : PutS order x order' a) (h : ∀ y ∈ order, P y) (hx : P x) : ∀ y ∈ order', P y := by
  rcases p.or_ with ⟨e, _⟩ | ⟨e, _, _⟩
  · rw [e]; exact h
  · rw [e]
    intro y hy
    rcases List.mem_append.mp hy with q | q
    · exact h y q
    · cases List.mem_singleton.mp q; exact hx
variable {stp : S → Bool → S} {out : S → Bool} {s0 : S}
theorem Exp.start : Exp stp out s0 [s0] [] := ⟨rfl, by simp, Nat.zero_le _, fun j s h => nomatch h⟩
theorem Exp.step {order o1 o2 : List S} {rows : Tab} {i : S} {a b : Nat} (h : Exp stp out s0 order rows) (hi : order[rows.length]? = some i) (p1 : PutS order (stp i false) o1 a) (p2 : PutS o1 (stp i true) o2 b) : Exp stp out s0 o2 (rows ++ [(out i, a, b)]) := by
  refine ⟨p2.pre (p1.pre h.one), p2.nd (p1.nd h.nd), ?_, fun j s hj hs => ?_⟩
  · have := p1.len
    have := p2.len
    have := lt_at hi
    simp
    omega
  · by_cases cj : j < rows.length
    · obtain ⟨q, hq⟩ := at_lt (xs := order) (show j < order.length from Nat.lt_of_lt_of_le cj h.le)
      have e : s = q := by
        have := p2.pre (p1.pre hq)
        rw [hs] at this
        exact Option.some.inj this
      subst e
      have r := h.row j s cj hq
      refine ⟨?_, fun b' => ?_⟩
      · rw [← r.1]; unfold isn; rw [row_app_l cj]
      · have : nx (rows ++ [(out i, a, b)]) j b' = nx rows j b' := by unfold nx; rw [row_app_l cj]
        rw [this]
        exact p2.pre (p1.pre (r.2 b'))
    · have ej : j = rows.length := by
        rw [List.length_append, List.length_singleton] at hj; omega
      subst ej
      have e : s = i := by
        have := p2.pre (p1.pre hi)
        rw [hs] at this
        exact Option.some.inj this
      subst e
      refine ⟨by unfold isn; rw [row_app_r], fun b' => ?_⟩
      have : nx (rows ++ [(out s, a, b)]) rows.length b' = if b' then b else a := by unfold nx; rw [row_app_r]
      rw [this]
      cases b'
      · exact p2.pre p1.at_
      · exact p2.at_
theorem Exp.done {order : List S} {rows : Tab} (h : Exp stp out s0 order rows) (e : rows.length = order.length) : Wf rows ∧ ∀ u, acc rows 0 u = out (u.foldl stp s0) := by
  have nxl : ∀ j b, j < rows.length → nx rows j b < rows.length := fun j b hj => by
    obtain ⟨i, hi⟩ := at_lt (xs := order) (e ▸ hj)
    rw [e]; exact lt_at ((h.row j i hj hi).2 b)
  have ac : ∀ (u : List Bool) (j : Nat) (i : S), j < rows.length → order[j]? = some i → acc rows j u = out (u.foldl stp i) := by
    intro u
    induction u with
    | nil => exact fun j i hj hi => (h.row j i hj hi).1
    | cons b u ih =>
      intro j i hj hi
      rw [acc_cons, ih _ _ (nxl j b hj) ((h.row j i hj hi).2 b)]
      rfl
  have pos : 0 < rows.length := by rw [e]; exact lt_at h.one
  exact ⟨⟨pos, nxl⟩, fun u => ac u 0 s0 pos h.one⟩
end
end Mc
open Mc

/-! ## tables in the heap -/
namespace Mw
open Mc
def isMu : HO → Bool
  | .lst _ => true
  | .dK _ => true
  | .dT _ => true
  | .ext _ => true
  | _ => false
def isTF : HO → Bool
  | .tup _ => true
  | .frz _ _ => true
  | _ => false
/-- what is a tuple, what is no list and no dict, stays -/
def TT (H H' : Hp) : Prop := ∀ a o, isTF o = true → H a = some o → H' a = some o
def TK (H H' : Hp) : Prop := ∀ a o, isMu o = false → H a = some o → H' a = some o
theorem tf_mu {o : HO} (h : isTF o = true) : isMu o = false := by
  cases o with
  | tup _ => rfl
  | frz _ _ => rfl
  | _ => cases h
theorem TK.tt {H H' : Hp} (t : TK H H') : TT H H' := fun a o h e => t a o (tf_mu h) e
theorem TK.refl (H : Hp) : TK H H := fun _ _ _ h => h
theorem TK.trans {H H1 H2 : Hp} (x : TK H H1) (y : TK H1 H2) : TK H H2 := fun a o m h => y a o m (x a o m h)
theorem TK.same {H H' : Hp} (s : Same H H') : TK H H' := fun a o _ h => s a o h
theorem TK.upd {H : Hp} {p : Addr} {u o : HO} (h : H p = some u) (m : isMu u = true) : TK H (upd H p o) := fun a v n q => by
  have ne : a ≠ p := fun e => by
    subst e
    rw [h] at q; cases q
    rw [m] at n; cases n
  rw [upd_ne ne]; exact q
theorem TK.new {H : Hp} {p : Addr} {o : HO} (h : H p = none) : TK H (L2.upd H p o) := TK.same (sm_new h)
theorem TK.inD {H H' : Hp} {D : Addr} (h : H D = none) (k : ∀ b o, b ≠ D → H b = some o → H' b = some o) : TK H H' := fun a v _ q => k _ _ (ne_of_none q h) q
theorem TK.keep {b : Addr} {H H' : Hp} (hb : BoxAt H b) (s : Keep b H H') : TK H H' := fun a v n q => s a v (fun z => by
  obtain ⟨xs, hx⟩ := hb.lst
  rw [z, hx] at q
  cases q; cases n) q
theorem sqT_tt {K : PySem.W.Frag} {H H' : Hp} {a : Addr} {xs : List V} (t : TT H H') (h : SqT K H a xs) : SqT K H' a xs := h.elim (fun q => .inl (q.elim (fun q => .inl (t _ _ rfl q)) fun ⟨o, q⟩ => .inr ⟨o, t _ _ rfl q⟩)) .inr
def RowAt (K : PySem.W.Frag) (H : Hp) (v : V) (r : Rw) : Prop := ∃ q f : Addr, v = .ref q ∧ SqT K H q [.bl r.1, .ref f] ∧ SqT K H f [.int (r.2.1 : Nat), .int (r.2.2 : Nat)]
def RowsAt (K : PySem.W.Frag) (H : Hp) (xs : List V) (t : Tab) : Prop := xs.length = t.length ∧ ∀ (i : Nat) (v : V) (r : Rw), xs[i]? = some v → t[i]? = some r → RowAt K H v r
def TabAt (K : PySem.W.Frag) (H : Hp) (p : Addr) (t : Tab) : Prop := ∃ xs, SqT K H p xs ∧ RowsAt K H xs t
theorem RowAt.tt {K : PySem.W.Frag} {H H' : Hp} {v : V} {r : Rw} (t : TT H H') (h : RowAt K H v r) : RowAt K H' v r :=
  let ⟨q, f, e, h1, h2⟩ := h
  ⟨q, f, e, sqT_tt t h1, sqT_tt t h2⟩
theorem RowsAt.tt {K : PySem.W.Frag} {H H' : Hp} {xs : List V} {r : Tab} (t : TT H H') (h : RowsAt K H xs r) : RowsAt K H' xs r := ⟨h.1, fun i v q h1 h2 => (h.2 i v q h1 h2).tt t⟩
theorem TabAt.tt {K : PySem.W.Frag} {H H' : Hp} {p : Addr} {r : Tab} (t : TT H H') (h : TabAt K H p r) : TabAt K H' p r :=
  let ⟨xs, h1, h2⟩ := h
  ⟨xs, sqT_tt t h1, h2.tt t⟩
theorem RowsAt.tk {K : PySem.W.Frag} {H H' : Hp} {xs : List V} {r : Tab} (t : TK H H') (h : RowsAt K H xs r) : RowsAt K H' xs r := h.tt t.tt
theorem TabAt.tk {K : PySem.W.Frag} {H H' : Hp} {p : Addr} {r : Tab} (t : TK H H') (h : TabAt K H p r) : TabAt K H' p r := h.tt t.tt
theorem RowsAt.get {K : PySem.W.Frag} {H : Hp} {xs : List V} {t : Tab} {i : Nat} (h : RowsAt K H xs t) (hi : i < t.length) : ∃ q f : Addr, xs[i]? = some (.ref q) ∧ SqT K H q [.bl (isn t i), .ref f] ∧ SqT K H f [.int (nx t i false : Nat), .int (nx t i true : Nat)] := by
  obtain ⟨r, hr⟩ := at_lt hi
  obtain ⟨v, hv⟩ := at_lt (h.1.symm ▸ hi)
  obtain ⟨q, f, e, h1, h2⟩ := h.2 i v r hv hr
  subst e
  rw [isn_of hr, nx_l hr, nx_r hr]
  exact ⟨q, f, hv, h1, h2⟩
theorem RowsAt.nil {K : PySem.W.Frag} {H : Hp} : RowsAt K H [] [] := ⟨rfl, fun i v r h => (nomatch h)⟩
/-! ### objects of one's own, all apart -/
structure Hd (H0 H : Hp) (L : List (Addr × HO)) : Prop where
  sm : Same H0 H
  nd : (L.map (·.1)).Nodup
  at_ : ∀ x ∈ L, H0 x.1 = none ∧ H x.1 = some x.2
section
variable {H0 H H' : Hp} {L : List (Addr × HO)} {p : Addr} {o u : HO}
theorem Hd.start (H : Hp) : Hd H H [] := ⟨Same.refl H, List.nodup_nil, fun _ h => (nomatch h)⟩
theorem Hd.get (w : Hd H0 H L) (h : (p, o) ∈ L) : H p = some o := (w.at_ _ h).2
theorem Hd.fr (w : Hd H0 H L) (h : (p, o) ∈ L) : H0 p = none := (w.at_ _ h).1
theorem Hd.call (w : Hd H0 H L) (s : Same H H') : Hd H0 H' L := ⟨w.sm.trans s, w.nd, fun x h => ⟨(w.at_ x h).1, s _ _ (w.at_ x h).2⟩⟩
theorem free_of {H H' : Hp} (s : Same H H') (h : H' p = none) : H p = none := by
  cases e : H p with
  | none => rfl
  | some o => rw [s _ _ e] at h; cases h
theorem Hd.got (w : Hd H0 H L) (n : H p = none) (s : Same H H') (h : H' p = some o) : Hd H0 H' ((p, o) :: L) := by
  refine ⟨w.sm.trans s, List.nodup_cons.mpr ⟨fun m => ?_, w.nd⟩, fun x hx => ?_⟩
  · obtain ⟨x, hx, e⟩ := List.mem_map.mp m
    have := (w.at_ x hx).2
    rw [show x.1 = p from e, n] at this
    cases this
  · rcases List.mem_cons.mp hx with rfl | hx
    · exact ⟨free_of w.sm n, h⟩
    · exact ⟨(w.at_ x hx).1, s _ _ (w.at_ x hx).2⟩
theorem Hd.new (w : Hd H0 H L) (n : H p = none) (o : HO) : Hd H0 (upd H p o) ((p, o) :: L) := w.got n (sm_new n) upd_same
theorem Hd.nw {Q : VK} (w : Hd H0 H L) (k : ∀ p H', H0 p = none → H p = none → Same H H' → Hd H0 H' ((p, o) :: L) → Q (.ref p) H') : New H o Q := fun p H' hn s h => k p H' (free_of w.sm hn) hn s (w.got hn s h)
theorem map_set_fst : ∀ (L : List (Addr × HO)) (i : Nat) (x : Addr × HO), L[i]?.map (·.1) = some x.1 → (L.set i x).map (·.1) = L.map (·.1)
  | [], _, _, h => by cases h
  | y :: L, 0, x, h => by
    have : y.1 = x.1 := Option.some.inj h
    show x.1 :: L.map (·.1) = y.1 :: L.map (·.1)
    rw [this]
  | y :: L, i + 1, x, h => by
    show y.1 :: (L.set i x).map (·.1) = y.1 :: L.map (·.1)
    rw [map_set_fst L i x h]
theorem Hd.set (w : Hd H0 H L) (i : Nat) (h : L[i]? = some (p, u)) (o : HO) : Hd H0 (upd H p o) (L.set i (p, o)) := by
  have hm : (p, u) ∈ L := List.mem_iff_getElem?.mpr ⟨i, h⟩
  have n0 := (w.at_ _ hm).1
  refine ⟨fun a v e => by rw [upd_ne (ne_of_none e n0)]; exact w.sm a v e, ?_, fun x hx => ?_⟩
  · rw [map_set_fst L i (p, o) (by rw [h]; rfl)]; exact w.nd
  · obtain ⟨j, hj⟩ := List.mem_iff_getElem?.mp hx
    by_cases c : i = j
    · subst c
      rw [List.getElem?_set_self (lt_at h)] at hj
      cases hj
      exact ⟨n0, upd_same⟩
    · rw [List.getElem?_set_ne c] at hj
      have hx' := w.at_ x (List.mem_iff_getElem?.mpr ⟨j, hj⟩)
      refine ⟨hx'.1, ?_⟩
      have ne : x.1 ≠ p := fun e => c (by
        have h1 : (L.map (·.1))[i]? = some p := by rw [List.getElem?_map, h]; rfl
        have h2 : (L.map (·.1))[j]? = some p := by rw [List.getElem?_map, hj, ← e]; rfl
        exact nodup_at w.nd h1 h2)
      rw [upd_ne ne]; exact hx'.2
theorem Hd.sub {L' : List (Addr × HO)} (w : Hd H0 H L) (h : L'.Sublist L) : Hd H0 H L' := ⟨w.sm, (h.map _).nodup w.nd, fun x hx => w.at_ x (h.subset hx)⟩
theorem Hd.tl {x : Addr × HO} (w : Hd H0 H (x :: L)) : Hd H0 H L := w.sub (List.sublist_cons_self _ _)
/-- within a list being made at D, one of one's own -/
theorem Hd.inD {D : Addr} (w : Hd H0 H L) (h : H D = none) (k : ∀ b o, b ≠ D → H b = some o → H' b = some o) : Hd H0 H' L :=
  ⟨fun a o e => k a o (ne_of_none (w.sm a o e) h) (w.sm a o e), w.nd, fun x hx => ⟨(w.at_ x hx).1, k _ _ (ne_of_none (w.at_ x hx).2 h) (w.at_ x hx).2⟩⟩
theorem Hd.tk (w : Hd H0 H L) : TK H0 H := TK.same w.sm
end
/-! ### a dict that numbers keys -/
def numd {κ : Type} (ks : List κ) : List (κ × V) := ks.zipIdx.map fun x => (x.1, V.int (x.2 : Nat))
theorem numd_len {κ : Type} (ks : List κ) : (numd ks).length = ks.length := by simp [numd]
theorem numd_snoc {κ : Type} (ks : List κ) (k : κ) : numd (ks ++ [k]) = numd ks ++ [(k, V.int (ks.length : Nat))] := by simp [numd, List.zipIdx_append]
theorem numd_cases {κ : Type} [DecidableEq κ] (k : κ) : ∀ ks : List κ, (valV (numd ks) k = none ∧ ∀ y ∈ ks, y ≠ k) ∨ ∃ i : Nat, ks[i]? = some k ∧ valV (numd ks) k = some (.int (i : Nat)) := by
  intro ks
  have gen : ∀ (ks : List κ) (n : Nat), (valV ((ks.zipIdx n).map fun x => (x.1, V.int (x.2 : Nat))) k = none ∧ ∀ y ∈ ks, y ≠ k) ∨ ∃ i : Nat, ks[i]? = some k ∧ valV ((ks.zipIdx n).map fun x => (x.1, V.int (x.2 : Nat))) k = some (.int ((n + i : Nat) : Nat)) := by
    intro ks
    induction ks with
    | nil => exact fun n => .inl ⟨valV_nil, fun y h => (nomatch h)⟩
    | cons y ys ih =>
      intro n
      rw [List.zipIdx_cons, List.map_cons]
      by_cases c : y = k
      · exact .inr ⟨0, by rw [c]; rfl, valV_pos c⟩
      · rw [valV_neg (p := (y, V.int (n : Nat))) c]
        rcases ih (n + 1) with ⟨h1, h2⟩ | ⟨i, h1, h2⟩
        · exact .inl ⟨h1, fun z hz => by
            rcases List.mem_cons.mp hz with rfl | hz
            · exact c
            · exact h2 z hz⟩
        · exact .inr ⟨i + 1, by rw [List.getElem?_cons_succ]; exact h1, by rw [h2, show n + 1 + i = n + (i + 1) by omega]⟩
  have := gen ks 0
  simp only [Nat.zero_add] at this
  exact this
theorem numd_put {κ : Type} [DecidableEq κ] {ks : List κ} {k : κ} (h : valV (numd ks) k = none) : putK (numd ks) k (.int (ks.length : Nat)) = numd (ks ++ [k]) := by rw [putK_new _ h, numd_snoc]
def kI (n : Nat) : L2.Key := .inl (n : Int)
def k3 (x : Nat × Nat × Nat) : List L2.Key := [kI x.1, kI x.2.1, kI x.2.2]
theorem same_sqL {K : PySem.W.Frag} {H H' : Hp} {a : Addr} {xs : List V} (s : Same H H') (h : SqL K H a xs) : SqL K H' a xs :=
  h.elim (fun q => .inl (q.elim (fun q => .inl (s _ _ q)) fun ⟨o, q⟩ => .inr ⟨o, s _ _ q⟩)) .inr
theorem big {n : Nat} (h : n ≤ 16000000) : n < sizeLine := Nat.lt_of_le_of_lt h (by decide)
end Mw
open Mw

local macro_rules | `(tactic| walk_at "new") => `(tactic| first | refine Hd.nw (by assumption) fun _ _ _ _ _ _ => ?_)
local macro_rules | `(tactic| walk_at "hp") => `(tactic| first | exact Hd.get (by assumption) (by walk_at "mem"))
local macro_rules | `(tactic| walk_at "kw1") => `(tactic| first
  | refine ⟨_, _, rfl, (show SqT _ _ _ _ from by walk_at "seq"), rfl, ?_⟩
  | refine ⟨_, _, rfl, _, _, rfl, rfl, rfl, ?_⟩)

/-! ## letters joined -/
theorem join_b (bits : List Bool) : Txt.join ("" : Str) (bits.map fun x => enc [x]) = enc bits := by
  have h := join_enc (bits.map fun x => [x])
  have e : (bits.map fun x => [x]).flatten = bits := by induction bits with
    | nil => rfl
    | cons x r ih => rw [List.map_cons, List.flatten_cons, ih (join_enc _)]; rfl
  rw [List.map_map, e] at h
  exact h
theorem sum_b (bits : List Bool) : ((bits.map fun x => enc [x]).map (·.length)).sum = bits.length := by
  induction bits with
  | nil => rfl
  | cons x r ih => rw [List.map_cons, List.map_cons, List.sum_cons, ih, enc_len]; simp; omega
/-! ## the rows of repeated letters, words below an endless word -/
namespace Bl
open Or Ed
def nextPl (pl : List Int) : List Int := if cmpPl pl [1, 1] < 0 then bhPl 1 0 (-1) 1 pl else bhPl 1 (-1) 0 1 pl
def ltrPl (pl : List Int) : Bool := decide (¬ cmpPl pl [1, 1] < 0)
def itPl (pl : List Int) : Nat → List Int
  | 0 => pl
  | n + 1 => nextPl (itPl pl n)
def flw (pl : List Int) (n : Nat) : List Bool := (List.range n).map fun k => ltrPl (itPl pl k)
theorem flw_len (pl : List Int) (n : Nat) : (flw pl n).length = n := by simp [flw]
theorem flw_snoc (pl : List Int) (n : Nat) : flw pl (n + 1) = flw pl n ++ [ltrPl (itPl pl n)] := by simp [flw, List.range_succ]
theorem flw_take {pl : List Int} {a n : Nat} (h : a ≤ n) : (flw pl n).take a = flw pl a := by
  unfold flw
  rw [← List.map_take, List.take_range, Nat.min_eq_left h]
/-- a place with four small numbers, from which the step goes on -/
def stepOk : List Int → Bool
  | [A, B, C, s] => decide (A.natAbs < 2 ^ 80) && decide (B.natAbs < 2 ^ 80) && decide (C.natAbs < 2 ^ 80) && decide (s.natAbs < 2 ^ 4) && decide (c1 (if cmp4 A B C s [1, 1] < 0 then -1 else 0) 1 A B C ≠ 0)
  | _ => false
theorem stepOk_of {pl : List Int} (h : stepOk pl = true) : ∃ A B C s, pl = [A, B, C, s] ∧ Lt.PlS [A, B, C, s] ∧ c1 (if cmp4 A B C s [1, 1] < 0 then -1 else 0) 1 A B C ≠ 0 := by
  match pl, h with
  | [A, B, C, s], h =>
    simp only [stepOk, Bool.and_eq_true, decide_eq_true_eq] at h
    obtain ⟨⟨⟨⟨a, b⟩, c⟩, d⟩, e⟩ := h
    have p8 : (2 : Nat) ^ 80 ≤ 2 ^ 90 := Nat.pow_le_pow_right (by decide) (by decide)
    exact ⟨A, B, C, s, rfl, .four (Nat.lt_of_lt_of_le a p8) (Nat.lt_of_lt_of_le b p8) (Nat.lt_of_lt_of_le c p8) d, e⟩
structure PartsOk (pl : List Int) (i j : Nat) : Prop where
  lt : i < j
  le : j ≤ 100
  ok : ∀ n, n < j → stepOk (itPl pl n) = true
  nd : ∀ m n, m < n → n < j → itPl pl m ≠ itPl pl n
  re : itPl pl j = itPl pl i
def kP (pl : List Int) : List L2.Key := pl.map Sum.inl
def sp_parts : Sp := fun vs H Q _ => ∃ (p : Addr) (pl : List Int) (i j : Nat), vs = [.ref p] ∧ H p = some (.tup (pl.map V.int)) ∧ PartsOk pl i j ∧ ∀ (t : Addr) (H' : Hp), H t = none → Same H H' → H' t = some (.tup [.str (enc (flw pl i)), .str (enc ((flw pl j).drop i))]) → Q (.ref t) H'
def sp_eparts (CE : Addr) : Sp := fun vs H Q _ => ∃ (e : Addr) (A B C s : Int) (i j : Nat), vs = [.ref e] ∧ EdgeAt CE H e [A, B, C, s] ∧ PartsOk [A, B, C, s] i j ∧ ∀ (t : Addr) (H' : Hp), H t = none → Same H H' → H' t = some (.tup [.str (enc (flw [A, B, C, s] i)), .str (enc ((flw [A, B, C, s] j).drop i))]) → Q (.ref t) H'
def sp_fixed : Sp := fun vs H Q _ => ∃ (p : Addr) (m : Mt), vs = [.ref p] ∧ H p = some (.tup m.tl) ∧ m.c ≠ 0 ∧ (Bd 700 m.a ∧ Bd 700 m.b ∧ Bd 700 m.c ∧ Bd 700 m.d) ∧ New H (.tup ((lwd m.c (m.d - m.a) (0 - m.b) 1).map V.int)) Q
theorem kP_kV (pl : List Int) : (kP pl).map kV = pl.map V.int := by unfold kP; rw [List.map_map]; rfl
theorem kP_inj {a b : List Int} (h : kP a = kP b) : a = b := by
  have : ∀ a b : List Int, kP a = kP b → a = b := by
    intro a
    induction a with
    | nil => intro b h; cases b with
      | nil => rfl
      | cons _ _ => cases h
    | cons x a ih => intro b h; cases b with
      | nil => cases h
      | cons y b =>
        have h1 := List.cons.inj h
        rw [Sum.inl.inj h1.1, ih b h1.2]
  exact this a b h
def dl (H : Hp) (a : Addr) : Nat := match H a with | some (.dT kvs) => kvs.length | _ => 0
theorem dl_of {H : Hp} {a : Addr} {kvs : List (List L2.Key × V)} (h : H a = some (.dT kvs)) : dl H a = kvs.length := by unfold dl; rw [h]
theorem cut_l (xs : List V) (k : Nat) (h : k ≤ xs.length) : cutV xs none (some (k : Nat)) = xs.take k := by
  unfold cutV
  have e1 : HT.sIx xs.length 0 none = 0 := rfl
  have e2 : HT.sIx xs.length xs.length (some ((k : Nat) : Int)) = k := by
    unfold HT.sIx
    first | omega | (simp; omega) | (split <;> omega) | (simp only; split <;> omega)
  rw [e1, e2, List.drop_zero, Nat.sub_zero]
theorem cut_r (xs : List V) (k : Nat) (h : k ≤ xs.length) : cutV xs (some (k : Nat)) none = xs.drop k := by
  unfold cutV
  have e1 : HT.sIx xs.length 0 (some ((k : Nat) : Int)) = k := by
    unfold HT.sIx
    first | omega | (simp; omega) | (split <;> omega) | (simp only; split <;> omega)
  have e2 : HT.sIx xs.length xs.length none = xs.length := rfl
  rw [e1, e2, List.take_of_length_le (by rw [List.length_drop]; exact Nat.le_refl _)]
end Bl
open Bl
section
variable {P : Program} {w : World} {K : PySem.W.Frag} {mg : Str → Option Value} {base : Heap}
theorem ok_parts {f : Addr} {fd : FuncData} (F : Fun K "parts_of" "parts_of" S_parts_of f fd) (T : Txt K mg) (C_step : FnC P w K mg base CX0 6 "step" ["root"] (sp_step K)) : FnOk P w K mg base CX0 7 f fd ["root"] sp_parts := by
  refine F.ok SC_parts_of (fun vs H Q E h => ?_) (fun cdv A outer s H vs Q E hr h => ?_)
  · obtain ⟨p, pl, i, j, rfl, _⟩ := h
    rfl
  · obtain ⟨p, pl, i, j, rfl, hp, ok, k⟩ := h
    refine ⟨_, (pss_cons (ps_set (i := 1) SC_parts_of.nd rfl (.inl rfl) pe_dnewT)
      (pss_cons (ps_set (i := 2) SC_parts_of.nd rfl (.inl rfl) (pe_lstN pa_nil))
      (pss_cons (ps_while PassesOwn.never (pt_cmp (pc_dnotin (hu_of hr) (pv 0) (pv 1))) (pss_cons (ps_dput (hu_of hr) (pv 1) (pv 0) (pe_callB call_len_seq (by rfl) T.b_len (by decide +kernel) (pa_cons (pv 2) pa_nil)) rfl)
      (pss_cons (ps_asg (pe_callC C_step (hr.mono (by decide)) rfl (pa_cons (pv 0) pa_nil)) (pg_tup rfl (pgs_cons (pg_name (i := 3) SC_parts_of.nd rfl (.inl rfl)) (pgs_cons (pg_name (i := 0) SC_parts_of.nd rfl (.inl rfl)) pgs_nil))))
      (pss_one (ps_expr (pe_bm PySem.F.plainAttrs_list PySem.F.slot_list_append PySem.F.type_list_append mt_append (pv 2) (pa_cons (pv 3) pa_nil)))))))
      (pss_cons (ps_set (i := 4) SC_parts_of.nd rfl (.inl rfl) (pe_dget (hu_of hr) (pv 1) (pv 0) (fun _ _ => rfl)))
      (pss_nrm (pss_one (ps_ret (pe_tupN (pa_cons (pe_join pe_str (pe_slice sl_list (pv 2) po_none (po_some (pv 4)))) (pa_cons (pe_join pe_str (pe_slice sl_list (pv 2) (po_some (pv 4)) po_none)) pa_nil)))))))))), ?_⟩
    have W0 := Hd.start H
    walk_at "kw"
    intro M hM
    have W1 := W0.new hM (.dT [])
    walk_at "kw"
    rename_i Lt H2 f2 n2 s2 W2
    have hp2 := W2.sm _ _ hp
    refine while_by (fun σ H' => ∃ (n : Nat) (p' : Addr) (y3 y4 : Option V), n ≤ j ∧ Hd H H' [(Lt, .lst ((flw pl n).map fun b => V.str (enc [b]))), (M, .dT (numd ((List.range n).map fun m => kP (itPl pl m))))] ∧ H' p' = some (.tup ((itPl pl n).map V.int)) ∧ σ = [some (.ref p'), some (.ref M), some (.ref Lt), y3, y4])
      (fun σ H' => match σ with | _ :: some (.ref a) :: _ => j - dl H' a | _ => 0) ⟨0, p, none, none, Nat.zero_le _, W2, hp2, rfl⟩ (fun σ H3 hP => ?_) (fun σ H Q Q' h q => ?_)
    · obtain ⟨n, p', y3, y4, nj, W3, hp3, rfl⟩ := hP
      have gM := W3.get (.tail _ (.head _))
      have gL := W3.get (.head _)
      have hk : H3 p' = some (.tup ((kP (itPl pl n)).map kV)) := by rw [kP_kV]; exact hp3
      refine ⟨_, rfl, _, rfl, M, _, rfl, DGet.t gM hk, _, rfl, ?_⟩
      have j1 := ok.le
      rcases numd_cases (kP (itPl pl n)) ((List.range n).map fun m => kP (itPl pl m)) with ⟨hno, hne⟩ | ⟨a, hx1, hx2⟩
      · have nl : n < j := by
          rcases Nat.lt_or_ge n j with h | h
          · exact h
          · have e : n = j := by omega
            subst e
            exact absurd (by rw [ok.re]) (hne (kP (itPl pl i)) (List.mem_map.mpr ⟨i, List.mem_range.mpr ok.lt, rfl⟩))
        rw [hno]
        refine ifT rfl ?_
        have em : putK (numd ((List.range n).map fun m => kP (itPl pl m))) (kP (itPl pl n)) (V.int (n : Nat)) = numd ((List.range (n + 1)).map fun m => kP (itPl pl m)) := by
          have := numd_put hno
          rw [List.length_map, List.length_range] at this
          rw [this, List.range_succ, List.map_append]; rfl
        refine ⟨_, rfl, Lt, _, rfl, .inl (SqL.of gL), _, rfl, _, rfl, M, _, rfl, DPut.t gM hk (by rw [numd_len, List.length_map, List.length_range]; exact big (by omega)), ?_⟩
        rw [List.length_map, Bl.flw_len, em]
        obtain ⟨A, B, C, sd, e4, po, cn⟩ := stepOk_of (ok.ok n nl)
        have W4 : Hd H _ [(Lt, .lst ((flw pl n).map fun b => V.str (enc [b]))), (M, .dT (numd ((List.range (n + 1)).map fun m => kP (itPl pl m))))] := W3.set 1 rfl _
        have tkM := TK.upd gM (o := .dT (numd ((List.range (n + 1)).map fun m => kP (itPl pl m)))) rfl
        have hp4 := tkM p' (.tup ((itPl pl n).map V.int)) rfl hp3
        rw [e4] at hp4
        refine ⟨_, rfl, p', A, B, C, sd, rfl, hp4, po, cn, fun t r H5 s5 hr5 ht5 => ?_⟩
        have W5 := W4.call s5
        have e5 : itPl pl (n + 1) = (if cmp4 A B C sd [1, 1] < 0 then bhPl 1 0 (-1) 1 [A, B, C, sd] else bhPl 1 (-1) 0 1 [A, B, C, sd]) := by show Bl.nextPl (itPl pl n) = _; rw [e4]; rfl
        rw [← e5] at hr5
        refine ⟨t, _, rfl, SqT.of ht5, rfl, _, _, rfl, _, _, rfl, rfl, ?_⟩
        have gL5 := W5.get (.head _)
        refine ⟨_, rfl, .inl ⟨rfl, _, SqL.of gL5⟩, _, rfl, Lt, _, _, rfl, rfl, gL5, by rw [List.length_map, Bl.flw_len]; exact big (by omega), ?_⟩
        have W6 : Hd H (upd H5 Lt (.lst ((flw pl n).map (fun b => V.str (enc [b])) ++ [V.str (enc [ltrPl (itPl pl n)])]))) [(Lt, .lst ((flw pl (n + 1)).map fun b => V.str (enc [b]))), (M, .dT (numd ((List.range (n + 1)).map fun m => kP (itPl pl m))))] := by
          have := W5.set 0 rfl (.lst ((flw pl n).map (fun b => V.str (enc [b])) ++ [V.str (enc [ltrPl (itPl pl n)])]))
          rw [Bl.flw_snoc, List.map_append]
          exact this
        have el : ltrPl (itPl pl n) = decide (¬ cmp4 A B C sd [1, 1] < 0) := by rw [e4]; rfl
        rw [← el]
        refine ⟨⟨n + 1, r, _, _, nl, ?_, ?_, rfl⟩, ?_⟩
        · have e6 : (flw pl (n + 1)).map (fun b => V.str (enc [b])) = (flw pl n).map (fun b => V.str (enc [b])) ++ [V.str (enc [ltrPl (itPl pl n)])] := by rw [Bl.flw_snoc, List.map_append]; rfl
          rw [e6] at W6 ⊢
          exact W6
        · have tkL := TK.upd gL5 (o := .lst ((flw pl n).map (fun b => V.str (enc [b])) ++ [V.str (enc [ltrPl (itPl pl n)])])) rfl
          exact tkL r (.tup ((itPl pl (n + 1)).map V.int)) rfl hr5
        · have e6 : (flw pl (n + 1)).map (fun b => V.str (enc [b])) = (flw pl n).map (fun b => V.str (enc [b])) ++ [V.str (enc [ltrPl (itPl pl n)])] := by rw [Bl.flw_snoc, List.map_append]; rfl
          rw [e6] at W6
          show j - dl _ M < j - dl H3 M
          rw [dl_of gM, dl_of (W6.get (.tail _ (.head _))), numd_len, numd_len, List.length_map, List.length_map, List.length_range, List.length_range]
          omega
      · rw [hx2]
        refine ifF rfl ?_
        rw [List.getElem?_map] at hx1
        obtain ⟨a', ha, e⟩ := Option.map_eq_some_iff.mp hx1
        have al : a < n := by have := lt_at ha; rwa [List.length_range] at this
        rw [List.getElem?_range al] at ha
        cases ha
        have e := kP_inj e
        have enj : n = j := by
          rcases Nat.lt_or_ge n j with h | h
          · exact absurd e (ok.nd a n al h)
          · omega
        subst enj
        have eai : a = i := by
          rw [ok.re] at e
          rcases Nat.lt_trichotomy a i with h | h | h
          · exact absurd e (ok.nd a i h ok.lt)
          · exact h
          · exact absurd e.symm (ok.nd i a h al)
        subst eai
        have va : DGet H3 M (.ref p') (some (V.int (a : Nat))) := hx2 ▸ DGet.t gM hk
        refine ⟨_, rfl, _, rfl, M, _, rfl, va, ?_⟩
        walk_at "kw"
        have ln : ((flw pl n).map fun b => V.str (enc [b])).length = n := by rw [List.length_map, Bl.flw_len]
        have c1 : cutV ((flw pl n).map fun b => V.str (enc [b])) none (some (a : Nat)) = ((flw pl a).map fun b => enc [b]).map V.str := by
          rw [cut_l _ _ (by rw [ln]; exact Nat.le_of_lt al), ← List.map_take, flw_take (Nat.le_of_lt al), List.map_map]; rfl
        have c2 : cutV ((flw pl n).map fun b => V.str (enc [b])) (some (a : Nat)) none = (((flw pl n).drop a).map fun b => enc [b]).map V.str := by
          rw [cut_r _ _ (by rw [ln]; exact Nat.le_of_lt al), ← List.map_drop, List.map_map]; rfl
        refine ⟨Lt, _, rfl, SqL.of gL, fun D1 hD1 => ?_⟩
        rw [c1]
        have W4 := W3.new hD1 (.lst (((flw pl a).map fun b => enc [b]).map V.str))
        refine ⟨"", D1, _, rfl, rfl, .inl (SqL.of upd_same), ?_, ?_⟩
        · rw [sum_b, empty_len, Bl.flw_len]; omega
        rw [join_b]
        refine ⟨⟨_, rfl⟩, _, rfl, _, rfl, _, rfl, Lt, _, rfl, SqL.of (W4.get (.tail _ (.head _))), fun D2 hD2 => ?_⟩
        rw [c2]
        have W5 := W4.new hD2 (.lst ((((flw pl n).drop a).map fun b => enc [b]).map V.str))
        refine ⟨"", D2, _, rfl, rfl, .inl (SqL.of upd_same), ?_, ?_⟩
        · rw [sum_b, empty_len, List.length_drop, Bl.flw_len]; omega
        rw [join_b]
        refine ⟨by show 2 ≤ 1000000; decide, W5.nw fun t H6 ft nt st W6 => ?_⟩
        exact k t H6 ft W6.sm (W6.get (.head _))
    · obtain ⟨v1, e1, v2, e2, a1, o1, e3, d1, b, eb, q⟩ := q
      exact ⟨v1, e1, v2, e2, a1, o1, e3, d1, b, eb, h _ _ q⟩
theorem ok_fixed {f : Addr} {fd : FuncData} (F : Fun K "fixed" "fixed" S_fixed f fd) (T : Txt K mg) (C_low : FnC P w K mg base CX0 2 "lowered" ["a", "b", "c", "side"] sp_low) : FnOk P w K mg base CX0 3 f fd ["numbers"] sp_fixed := by
  refine F.ok SC_fixed (fun vs H Q E h => ?_) (fun cdv A outer s H vs Q E hr h => ?_)
  · obtain ⟨p, m, rfl, _⟩ := h
    rfl
  · obtain ⟨p, m, rfl, hp, m0, bd, k⟩ := h
    refine ⟨_, (pss_cons (ps_asg (pv 0) (pg_tup rfl (pgs_cons (pg_name (i := 1) SC_fixed.nd rfl (.inl rfl)) (pgs_cons (pg_name (i := 2) SC_fixed.nd rfl (.inl rfl)) (pgs_cons (pg_name (i := 3) SC_fixed.nd rfl (.inl rfl)) (pgs_cons (pg_name (i := 4) SC_fixed.nd rfl (.inl rfl)) pgs_nil))))))
      (pss_nrm (pss_one (ps_ret (pe_callC C_low (hr.mono (by decide)) rfl (pa_cons (pv 3) (pa_cons (pe_op op_sub (pv 4) (pv 1)) (pa_cons (pe_op op_sub pe_int (pv 2)) (pa_cons pe_int pa_nil))))))))), ?_⟩
    refine ⟨_, rfl, p, _, rfl, SqT.of hp, rfl, _, _, rfl, _, _, rfl, _, _, rfl, _, _, rfl, rfl, ?_⟩
    obtain ⟨ba, bb, bc, bd'⟩ := bd
    walk_at "kw"
    exact ⟨m.c, m.d - m.a, 0 - m.b, 1, rfl, m0, bc.mono (by decide), (bd'.sub ba).mono (by decide), ((Bd.lit (i := 0) (by decide)).sub bb).mono (by decide), k⟩
theorem ok_eparts {f CE : Addr} {fd : FuncData} (F : Fun K "parts" "Edge.parts" S_Edge_parts f fd) (T : Txt K mg) (Re : EdgT K mg CE) (C_parts : FnC P w K mg base CX0 7 "parts_of" ["root"] sp_parts) : FnOk P w K mg base CX0 8 f fd ["self"] (sp_eparts CE) := by
  refine F.ok SC_Edge_parts (fun vs H Q E h => ?_) (fun cdv A outer s H vs Q E hr h => ?_)
  · obtain ⟨e, A, B, C, s, i, j, rfl, _⟩ := h
    rfl
  · obtain ⟨e, A, B, C, sd, i, j, rfl, he, ok, k⟩ := h
    refine ⟨_, (pss_one (ps_ret (pe_ifExp (pt_cmpR op_eq (pe_callB call_len_seq (by rfl) T.b_len (by decide +kernel) (pa_cons (pe_fld (pv 0) rfl) pa_nil)) pe_int (nomark _)) pe_non (pe_callC C_parts (hr.mono (by decide)) rfl (pa_cons (pe_fld (pv 0) rfl) pa_nil))))), ?_⟩
    obtain ⟨dx, t, fs, h1, h2, h3⟩ := he.at
    refine ⟨_, rfl, e, CE, dx, _, _, rfl, h1, Re.ins.cl, Re.n1, h2, t, _, rfl, .inr (SqT.of h3), rfl, _, rfl, ifF rfl ?_⟩
    exact ⟨_, rfl, e, CE, dx, _, _, rfl, h1, Re.ins.cl, Re.n1, h2, t, [A, B, C, sd], i, j, rfl, h3, ok, k⟩
end
/-! ## edges as pairs, by words -/
namespace Ep
 open Sg Sg.SgR Lean.Grind Sg.Qx
 open Pj Pj.Em
open Pj Mx K10 Or
section
variable {R : Type} [CommRing R] [Em R]
def act (M : Mt) (x : R × R) : R × R := (i M.a * x.1 + i M.b * x.2, i M.c * x.1 + i M.d * x.2)
def crs (x y : R × R) : R := x.1 * y.2 - y.1 * x.2
theorem act_mul (M N : Mt) (x : R × R) : act (M.mul N) x = act M (act N x) := by
  unfold act Mt.mul
  simp only [i_add, i_mul]
  refine Prod.ext ?_ ?_ <;> (simp only; grind)
theorem act_one (x : R × R) : act Mt.one x = x := by
  unfold act Mt.one
  simp only [i_one, i_zero]
  refine Prod.ext ?_ ?_ <;> (simp only; grind)
theorem wf_mul (m : Mt) : ∀ (u : List Bool) (n : Mt), wf (m.mul n) u = m.mul (wf n u)
  | [], _ => rfl
  | b :: u, n => by
    show wf ((m.mul n).mul (lt b)) u = m.mul (wf (n.mul (lt b)) u)
    rw [Mt.mul_assoc, wf_mul m u (n.mul (lt b))]
theorem mul_one (m : Mt) : m.mul Mt.one = m := by
  refine Mt.ext' ?_ ?_ ?_ ?_ <;> simp [Mt.mul, Mt.one]
theorem wmx_cons (b : Bool) (u : List Bool) : wmx (b :: u) = (lt b).mul (wmx u) := by
  show wf (Mt.one.mul (lt b)) u = (lt b).mul (wf Mt.one u)
  rw [Mt.one_mul, ← wf_mul (lt b) u Mt.one, mul_one]
theorem wmx_app (u v : List Bool) : wmx (u ++ v) = (wmx u).mul (wmx v) := by
  show (u ++ v).foldl _ _ = _
  rw [List.foldl_append]
  show wf (wmx u) v = _
  conv => lhs; rw [← mul_one (wmx u), wf_mul]
  rfl
def pt (w : List Bool) : R × R := (i ((pr w).1 : Nat), i ((pr w).2 : Nat))
/-- both not below 0, not both 0 -/
structure Nn (x : R × R) : Prop where
  a : s x.1 = 1 ∨ s x.1 = 0
  b : s x.2 = 1 ∨ s x.2 = 0
  c : s x.1 = 1 ∨ s x.2 = 1
theorem s_addr1 (a b : R) (h1 : s a = 1 ∨ s a = 0) (h2 : s b = 1) : s (a + b) = 1 := by
  rw [show a + b = b + a by grind]
  exact s_add1 b a h2 h1
theorem Nn.sum {x : R × R} (h : Nn x) : s (x.1 + x.2) = 1 := by
  rcases h.c with c | c
  · exact s_add1 _ _ c h.b
  · exact s_addr1 _ _ h.a c
theorem act_l (x : R × R) : act (lt false) x = (x.1, x.1 + x.2) := by
  unfold act lt
  simp only [Bool.false_eq_true, if_false, i_one, i_zero]
  refine Prod.ext ?_ ?_ <;> (simp only; grind)
theorem act_r (x : R × R) : act (lt true) x = (x.1 + x.2, x.2) := by
  unfold act lt
  simp only [if_true, i_one, i_zero]
  refine Prod.ext ?_ ?_ <;> (simp only; grind)
theorem Nn.lt {x : R × R} (h : Nn x) (b : Bool) : Nn (act (lt b) x) := by
  cases b
  · rw [act_l]; exact ⟨h.a, .inl h.sum, .inr h.sum⟩
  · rw [act_r]; exact ⟨.inl h.sum, h.b, .inl h.sum⟩
theorem Nn.act {x : R × R} (h : Nn x) : ∀ u : List Bool, Nn (act (wmx u) x)
  | [] => by
    rw [show wmx [] = Mt.one from rfl, act_one]; exact h
  | b :: u => by
    rw [wmx_cons, act_mul]
    exact (Nn.act h u).lt b
theorem pos_lt {x : R × R} (h : s x.1 = 1 ∧ s x.2 = 1) (b : Bool) : s (act (lt b) x).1 = 1 ∧ s (act (lt b) x).2 = 1 := by
  cases b
  · rw [act_l]; exact ⟨h.1, s_add1 _ _ h.1 (.inl h.2)⟩
  · rw [act_r]; exact ⟨s_add1 _ _ h.1 (.inl h.2), h.2⟩
theorem pos_act {x : R × R} (h : s x.1 = 1 ∧ s x.2 = 1) : ∀ u : List Bool, s (act (wmx u) x).1 = 1 ∧ s (act (wmx u) x).2 = 1
  | [] => by rw [show wmx [] = Mt.one from rfl, act_one]; exact h
  | b :: u => by rw [wmx_cons, act_mul]; exact pos_lt (pos_act h u) b
theorem snd_lt {x : R × R} (h : Nn x) (g : s x.2 = 1) (b : Bool) : s (act (lt b) x).2 = 1 := by
  cases b
  · rw [act_l]; exact h.sum
  · rw [act_r]; exact g
theorem snd_act {x : R × R} (h : Nn x) (g : s x.2 = 1) : ∀ u : List Bool, s (act (wmx u) x).2 = 1
  | [] => by rw [show wmx [] = Mt.one from rfl, act_one]; exact g
  | b :: u => by rw [wmx_cons, act_mul]; exact snd_lt (h.act u) (snd_act h g u) b
/-- the same place -/
def Sim (x y : R × R) : Prop := ∃ a b : R, s a = 1 ∧ s b = 1 ∧ a * x.1 = b * y.1 ∧ a * x.2 = b * y.2
theorem Sim.refl (x : R × R) : Sim x x := ⟨1, 1, one, one, rfl, rfl⟩
theorem Sim.trans {x y z : R × R} (h : Sim x y) (g : Sim y z) : Sim x z := by
  obtain ⟨a, b, a1, b1, h1, h2⟩ := h
  obtain ⟨c, d, c1, d1, g1, g2⟩ := g
  refine ⟨c * a, b * d, by rw [mul, a1, c1]; rfl, by rw [mul, b1, d1]; rfl, ?_, ?_⟩
  · rw [show c * a * x.1 = c * (a * x.1) by grind, h1, show c * (b * y.1) = b * (c * y.1) by grind, g1]; grind
  · rw [show c * a * x.2 = c * (a * x.2) by grind, h2, show c * (b * y.2) = b * (c * y.2) by grind, g2]; grind
theorem Sim.act {x y : R × R} (h : Sim x y) (M : Mt) : Sim (act M x) (act M y) := by
  obtain ⟨a, b, a1, b1, h1, h2⟩ := h
  refine ⟨a, b, a1, b1, ?_, ?_⟩
  · show a * (i M.a * x.1 + i M.b * x.2) = b * (i M.a * y.1 + i M.b * y.2)
    rw [show a * (i M.a * x.1 + i M.b * x.2) = i M.a * (a * x.1) + i M.b * (a * x.2) by grind, h1, h2]; grind
  · show a * (i M.c * x.1 + i M.d * x.2) = b * (i M.c * y.1 + i M.d * y.2)
    rw [show a * (i M.c * x.1 + i M.d * x.2) = i M.c * (a * x.1) + i M.d * (a * x.2) by grind, h1, h2]; grind
def rep (v : List Bool) (n : Nat) : List Bool := (List.replicate n v).flatten
theorem Sim.rep {v : List Bool} {p : R × R} (h : Sim p (Ep.act (wmx v) p)) : ∀ n, Sim p (Ep.act (wmx (Ep.rep v n)) p)
  | 0 => by rw [show Ep.rep v 0 = [] from rfl, show wmx [] = Mt.one from rfl, act_one]; exact Sim.refl p
  | n + 1 => by
    rw [show Ep.rep v (n + 1) = v ++ Ep.rep v n from rfl, wmx_app, act_mul]
    exact h.trans ((Sim.rep h n).act (wmx v))
end
end Ep

/-! ## the edge of a beginning and a row that is repeated -/
namespace Ep
 open Sg Sg.SgR Lean.Grind Sg.Qx
 open Pj Pj.Em
open Pj Mx K10 Or
theorem wmx_pos : ∀ u : List Bool, 0 ≤ (wmx u).a ∧ 0 ≤ (wmx u).b ∧ 0 ≤ (wmx u).c ∧ 0 ≤ (wmx u).d ∧ 1 ≤ (wmx u).a ∧ 1 ≤ (wmx u).d ∧ (true ∈ u → 1 ≤ (wmx u).b) ∧ (false ∈ u → 1 ≤ (wmx u).c) ∧ (true ∉ u → (wmx u).a = 1 ∧ (wmx u).b = 0 ∧ (wmx u).d = 1) ∧ (false ∉ u → (wmx u).a = 1 ∧ (wmx u).c = 0 ∧ (wmx u).d = 1)
  | [] => by
    refine ⟨by decide, by decide, by decide, by decide, by decide, by decide, (fun h => nomatch h), (fun h => nomatch h), fun _ => ⟨rfl, rfl, rfl⟩, fun _ => ⟨rfl, rfl, rfl⟩⟩
  | b :: u => by
    obtain ⟨h1, h2, h3, h4, h5, h6, h7, h8, h9, h10⟩ := wmx_pos u
    rw [wmx_cons]
    generalize wmx u = M at *
    obtain ⟨p, q, r, t⟩ := M
    simp only at *
    cases b
    · show 0 ≤ 1 * p + 0 * r ∧ 0 ≤ 1 * q + 0 * t ∧ 0 ≤ 1 * p + 1 * r ∧ 0 ≤ 1 * q + 1 * t ∧ 1 ≤ 1 * p + 0 * r ∧ 1 ≤ 1 * q + 1 * t ∧ (true ∈ false :: u → 1 ≤ 1 * q + 0 * t) ∧ (false ∈ false :: u → 1 ≤ 1 * p + 1 * r) ∧ (true ∉ false :: u → 1 * p + 0 * r = 1 ∧ 1 * q + 0 * t = 0 ∧ 1 * q + 1 * t = 1) ∧ (false ∉ false :: u → 1 * p + 0 * r = 1 ∧ 1 * p + 1 * r = 0 ∧ 1 * q + 1 * t = 1)
      refine ⟨by omega, by omega, by omega, by omega, by omega, by omega, fun h => ?_, fun _ => by omega, fun h => ?_, fun h => absurd (List.mem_cons_self) h⟩
      · have := h7 (by simpa using h); omega
      · have := h9 (fun z => h (List.mem_cons_of_mem _ z)); omega
    · show 0 ≤ 1 * p + 1 * r ∧ 0 ≤ 1 * q + 1 * t ∧ 0 ≤ 0 * p + 1 * r ∧ 0 ≤ 0 * q + 1 * t ∧ 1 ≤ 1 * p + 1 * r ∧ 1 ≤ 0 * q + 1 * t ∧ (true ∈ true :: u → 1 ≤ 1 * q + 1 * t) ∧ (false ∈ true :: u → 1 ≤ 0 * p + 1 * r) ∧ (true ∉ true :: u → 1 * p + 1 * r = 1 ∧ 1 * q + 1 * t = 0 ∧ 0 * q + 1 * t = 1) ∧ (false ∉ true :: u → 1 * p + 1 * r = 1 ∧ 0 * p + 1 * r = 0 ∧ 0 * q + 1 * t = 1)
      refine ⟨by omega, by omega, by omega, by omega, by omega, by omega, fun _ => by omega, fun h => ?_, fun h => absurd (List.mem_cons_self) h, fun h => ?_⟩
      · have := h8 (by simpa using h); omega
      · have := h10 (fun z => h (List.mem_cons_of_mem _ z)); omega
/-- the place of a row that is repeated -/
def plY (v : List Bool) : List Int := if true ∈ v then (if false ∈ v then lwd (wmx v).c ((wmx v).d - (wmx v).a) (0 - (wmx v).b) 1 else [1, 0]) else [0, 1]
def plG (u v : List Bool) : List Int := bhPl (wmx u).a (wmx u).b (wmx u).c (wmx u).d (plY v)
/-- a pair for it -/
structure Cyc (R : Type) [CommRing R] [Em R] (v : List Bool) (p : R × R) : Prop where
  nn : Nn p
  rp : RepR p.1 p.2 (plY v)
  sm : Sim p (act (wmx v) p)
  r : true ∈ v → s p.1 = 1
  l : false ∈ v → s p.2 = 1
theorem nsq {T : Int} (h : 3 ≤ T) : ¬ Lr.isq (T * T - 4) := fun ⟨s, s0, e⟩ => by
  have h1 : s < T := by
    by_cases z : s < T
    · exact z
    · have z : T ≤ s := by omega
      have : T * T ≤ s * s := Int.mul_le_mul z z (by omega) (by omega)
      omega
  have h2 : s * s ≤ (T - 1) * (T - 1) := Int.mul_le_mul (by omega) (by omega) s0 (by omega)
  have : (T - 1) * (T - 1) = T * T - 2 * T + 1 := by grind
  omega
theorem cyc_mixed {v : List Bool} (hr : true ∈ v) (hl : false ∈ v) : ∃ (d : Int) (hd : 0 ≤ d) (p : R1 d × R1 d), @Cyc (R1 d) _ (E1 hd) v p := by
  obtain ⟨h1, h2, h3, h4, h5, h6, h7, h8, _⟩ := wmx_pos v
  have b1 := h7 hr
  have c1 := h8 hl
  have dt := wm_det v
  unfold Mt.det at dt
  have epl : plY v = lwd (wmx v).c ((wmx v).d - (wmx v).a) (0 - (wmx v).b) 1 := by unfold plY; rw [if_pos hr, if_pos hl]
  obtain ⟨M, hM⟩ : ∃ M, wmx v = M := ⟨_, rfl⟩
  rw [hM] at h1 h2 h3 h4 h5 h6 b1 c1 dt epl
  clear h7 h8
  obtain ⟨m, n, k, t⟩ := M
  simp only at h1 h2 h3 h4 h5 h6 b1 c1 dt epl
  have mt : m * t = 1 + n * k := by omega
  have nk : 1 ≤ n * k := by
    have := Int.mul_le_mul b1 c1 (by decide) h2
    omega
  have T3 : 3 ≤ m + t := by
    by_cases z : 3 ≤ m + t
    · exact z
    · have m1 : m = 1 := by omega
      have t1 : t = 1 := by omega
      rw [m1, t1] at mt; omega
  have TT : 9 ≤ (m + t) * (m + t) := Int.mul_le_mul (show (3 : Int) ≤ m + t by omega) T3 (by decide) (by omega) |> fun h => by omega
  have d0 : 0 ≤ (m + t) * (m + t) - 4 := by omega
  have dd : (m + t) * (m + t) - 4 = (m - t) * (m - t) + 4 * (n * k) := by
    have : (m + t) * (m + t) = (m - t) * (m - t) + 4 * (m * t) := by grind
    omega
  obtain ⟨f, f0, fe, rd⟩ := red (A := k) (B := t - m) (C := 0 - n) (by omega)
  have el : lwd k (t - m) (0 - n) 1 = [k / f, (t - m) / f, (0 - n) / f, 1] := by
    have := K15.lwd_any (A := k) (B := t - m) (C := 0 - n) (s := 1) (by omega)
    obtain ⟨a, b, c, g, g0, a0, ⟨ga, gb, gc⟩, sgg, gg, _, e⟩ := this
    rw [e]
    have gp : 0 < g := by
      rcases sg_c g with ⟨z, _⟩ | ⟨z, _⟩ | ⟨z, w⟩
      · exact z
      · omega
      · rcases sg_c k with ⟨_, y⟩ | ⟨y, _⟩ | ⟨y, _⟩
        · rw [w, y] at sgg; omega
        · omega
        · omega
    obtain ⟨e1, e2, e3⟩ := prim_un (m := g) (n := f) gp f0 (ga.trans rd.ha.symm) (gb.trans rd.hb.symm) (gc.trans rd.hc.symm) gg rd.g
    rw [e1, e2, e3]
  have swp : 0 < swr (m - t) 1 ((m + t) * (m + t) - 4) := by
    unfold swr
    have s1 : sg 1 = 1 := rfl
    have sd : sg ((m + t) * (m + t) - 4) = 1 := sg_p (by omega)
    rw [s1, sd]
    rcases sg_c (m - t) with ⟨z, w⟩ | ⟨z, w⟩ | ⟨z, w⟩
    · rw [w, if_pos (.inl rfl)]; decide
    · rw [w, if_neg (by decide), if_pos rfl]; decide
    · rw [w, if_neg (by decide), if_neg (by decide)]
      have : (m - t) * (m - t) - 1 * 1 * ((m + t) * (m + t) - 4) < 0 := by rw [dd]; omega
      rcases sg_c ((m - t) * (m - t) - 1 * 1 * ((m + t) * (m + t) - 4)) with ⟨z, _⟩ | ⟨z, _⟩ | ⟨z, w⟩
      · omega
      · omega
      · rw [w]; decide
  have R4 : Rep ⟨m - t, 1, (m + t) * (m + t) - 4, 2 * k⟩ [k / f, (t - m) / f, (0 - n) / f, 1] := by
    refine .four (f := 4 * k * f) d0 (by show 0 < 2 * k; omega) (by show (1 : Int) ≠ 0; decide) (nsq T3) ?_ rfl
    have ha := rd.ha
    have hb := rd.hb
    have hc := rd.hc
    refine ⟨Int.mul_pos (by omega) f0, ?_, ?_, ?_, rd.g⟩
    · show 4 * k * f * (k / f) = 2 * k * (2 * k)
      rw [Int.mul_assoc, ha]; grind
    · show 4 * k * f * ((t - m) / f) = -2 * (m - t) * (2 * k)
      rw [Int.mul_assoc, hb]; grind
    · show 4 * k * f * ((0 - n) / f) = (m - t) * (m - t) - 1 * 1 * ((m + t) * (m + t) - 4)
      rw [Int.mul_assoc, hc, dd]; grind
  letI := E1 d0
  have sw : ∀ x y : Int, s (⟨x, y⟩ : R1 ((m + t) * (m + t) - 4)) = swr x y ((m + t) * (m + t) - 4) := fun x y => sq_swr d0 x y
  have n1 : s (⟨m - t, 1⟩ : R1 ((m + t) * (m + t) - 4)) = 1 := by
    rcases tri (⟨m - t, 1⟩ : R1 ((m + t) * (m + t) - 4)) with h | h | h
    · exact h
    · rw [sw] at h; omega
    · rw [sw] at h; omega
  have n2 : s (⟨2 * k, 0⟩ : R1 ((m + t) * (m + t) - 4)) = 1 := by
    rw [sw, swr_0]; exact sg_p (by omega)
  have n3 : s (⟨m + t, 1⟩ : R1 ((m + t) * (m + t) - 4)) = 1 := by
    rw [sw]
    have := Lr.swr_pos (p := m + t) (q := 1) (d := (m + t) * (m + t) - 4) (by omega) (by decide) d0
    rw [← sw] at this ⊢
    rcases tri (⟨m + t, 1⟩ : R1 ((m + t) * (m + t) - 4)) with h | h | h <;> omega
  refine ⟨_, d0, (⟨m - t, 1⟩, ⟨2 * k, 0⟩), ⟨.inl n1, .inl n2, .inl n1⟩, ?_, ?_, fun _ => n1, fun _ => n2⟩
  · rw [epl, el]
    exact rep_pair (g := ⟨m - t, 1, (m + t) * (m + t) - 4, 2 * k⟩) d0 R4 swp
  · rw [hM]
    refine ⟨⟨m + t, 1⟩, ⟨2, 0⟩, n3, ?_, ?_, ?_⟩
    · rw [sw, swr_0]; rfl
    · apply ext'
      · show (m + t) * (m - t) + 1 * 1 * ((m + t) * (m + t) - 4) = 2 * ((m * (m - t) + 0 * 1 * ((m + t) * (m + t) - 4)) + (n * (2 * k) + 0 * 0 * ((m + t) * (m + t) - 4))) + 0 * ((m * 1 + 0 * (m - t)) + (n * 0 + 0 * (2 * k))) * ((m + t) * (m + t) - 4)
        grind
      · show (m + t) * 1 + 1 * (m - t) = 2 * ((m * 1 + 0 * (m - t)) + (n * 0 + 0 * (2 * k))) + 0 * ((m * (m - t) + 0 * 1 * ((m + t) * (m + t) - 4)) + (n * (2 * k) + 0 * 0 * ((m + t) * (m + t) - 4)))
        grind
    · apply ext'
      · show (m + t) * (2 * k) + 1 * 0 * ((m + t) * (m + t) - 4) = 2 * ((k * (m - t) + 0 * 1 * ((m + t) * (m + t) - 4)) + (t * (2 * k) + 0 * 0 * ((m + t) * (m + t) - 4))) + 0 * ((k * 1 + 0 * (m - t)) + (t * 0 + 0 * (2 * k))) * ((m + t) * (m + t) - 4)
        grind
      · show (m + t) * 0 + 1 * (2 * k) = 2 * ((k * 1 + 0 * (m - t)) + (t * 0 + 0 * (2 * k))) + 0 * ((k * (m - t) + 0 * 1 * ((m + t) * (m + t) - 4)) + (t * (2 * k) + 0 * 0 * ((m + t) * (m + t) - 4)))
        grind
theorem cyc_ex (v : List Bool) : ∃ (R : Type) (_ : CommRing R) (_ : Em R) (p : R × R), Cyc R v p := by
  by_cases hr : true ∈ v
  · by_cases hl : false ∈ v
    · obtain ⟨d, hd, p, h⟩ := cyc_mixed hr hl
      exact ⟨R1 d, inferInstance, E1 hd, p, h⟩
    · refine ⟨Int, inferInstance, E0', (1, 0), ?_⟩
      letI := E0'
      obtain ⟨_, _, _, _, _, _, _, _, _, h10⟩ := wmx_pos v
      obtain ⟨a1, c0, _⟩ := h10 hl
      have one_ : s (1 : Int) = 1 := rfl
      have zero_ : s (0 : Int) = 0 := rfl
      refine ⟨⟨.inl one_, .inr zero_, .inl one_⟩, ?_, ?_, fun _ => one_, fun h => absurd h hl⟩
      · have : plY v = [1, 0] := by unfold plY; rw [if_pos hr, if_neg hl]
        rw [this]
        exact .two (by decide) (by decide) (by decide) rfl rfl
      · have : act (wmx v) ((1 : Int), (0 : Int)) = (1, 0) := by
          unfold act
          rw [a1, c0]
          refine Prod.ext ?_ ?_
          · show (1 : Int) * 1 + (wmx v).b * 0 = 1
            omega
          · show (0 : Int) * 1 + (wmx v).d * 0 = 0
            omega
        rw [this]
        exact Sim.refl _
  · refine ⟨Int, inferInstance, E0', (0, 1), ?_⟩
    letI := E0'
    obtain ⟨_, _, _, _, _, _, _, _, h9, _⟩ := wmx_pos v
    obtain ⟨_, b0, d1⟩ := h9 hr
    have one_ : s (1 : Int) = 1 := rfl
    have zero_ : s (0 : Int) = 0 := rfl
    refine ⟨⟨.inr zero_, .inl one_, .inr one_⟩, ?_, ?_, fun h => absurd h hr, fun _ => one_⟩
    · have : plY v = [0, 1] := by unfold plY; rw [if_neg hr]
      rw [this]
      exact .two (by decide) (by decide) (by decide) rfl rfl
    · have : act (wmx v) ((0 : Int), (1 : Int)) = (0, 1) := by
        unfold act
        rw [b0, d1]
        refine Prod.ext ?_ ?_
        · show (wmx v).a * 0 + (0 : Int) * 1 = 0
          omega
        · show (wmx v).c * 0 + (1 : Int) * 1 = 1
          omega
      rw [this]
      exact Sim.refl _
end Ep

/-! ## the edge of a beginning and a row: its bounds, and words beside it -/
namespace Ep
 open Sg Sg.SgR Lean.Grind Sg.Qx
 open Pj Pj.Em
open Pj Mx K10 Or Ed Eo
/-- what stands for a row -/
theorem plY_form (v : List Bool) : plY v = [0, 1] ∨ plY v = [1, 0] ∨ (true ∈ v ∧ false ∈ v ∧ ∃ A B C : Int, plY v = [A, B, C, 1] ∧ (∀ n, v.length + 2 ≤ n → Bd n A ∧ Bd n B ∧ Bd n C)) := by
  unfold plY
  by_cases hr : true ∈ v
  · rw [if_pos hr]
    by_cases hl : false ∈ v
    · rw [if_pos hl]
      obtain ⟨h1, h2, h3, h4, h5, h6, h7, h8, _⟩ := wmx_pos v
      have c1 := h8 hl
      obtain ⟨a, b, c, g, g0, a0, _, _, _, ⟨ba, bb, bc⟩, e⟩ := K15.lwd_any (A := (wmx v).c) (B := (wmx v).d - (wmx v).a) (C := 0 - (wmx v).b) (s := 1) (by omega)
      have w := wm_in v
      refine .inr (.inr ⟨hr, hl, a, b, c, e, fun n hn => ?_⟩)
      have p1 : (2 : Int) ^ (v.length + 1) ≤ 2 ^ n := by
        exact_mod_cast Nat.pow_le_pow_right (show 0 < 2 by decide) (show v.length + 1 ≤ n by omega)
      have w1 := w.a1
      have w2 := w.b1
      have w3 := w.c1
      have w4 := w.d1
      have up : ∀ z : Int, -(2 ^ n) < z → z < 2 ^ n → Bd n z := fun z z1 z2 => by
        unfold Bd
        have : (z.natAbs : Int) < ((2 ^ n : Nat) : Int) := by
          rw [Int.natCast_pow]
          show (z.natAbs : Int) < (2 : Int) ^ n
          omega
        exact_mod_cast this
      exact ⟨ba n (up _ (by omega) (by omega)), bb n (up _ (by omega) (by omega)), bc n (up _ (by omega) (by omega))⟩
    · rw [if_neg hl]; exact .inr (.inl rfl)
  · rw [if_neg hr]; exact .inl rfl
theorem wm_bd {u : List Bool} {n : Nat} (h : u.length + 1 ≤ n) : Bd n (wmx u).a ∧ Bd n (wmx u).b ∧ Bd n (wmx u).c ∧ Bd n (wmx u).d := by
  have w := wm_in u
  have p1 : (2 : Int) ^ (u.length + 1) ≤ 2 ^ n := by
    exact_mod_cast Nat.pow_le_pow_right (show 0 < 2 by decide) h
  have up : ∀ z : Int, 0 ≤ z → z < 2 ^ (u.length + 1) → Bd n z := fun z z1 z2 => by
    unfold Bd
    have : (z.natAbs : Int) < ((2 ^ n : Nat) : Int) := by
      rw [Int.natCast_pow]
      show (z.natAbs : Int) < (2 : Int) ^ n
      omega
    exact_mod_cast this
  exact ⟨up _ w.a0 w.a1, up _ w.b0 w.b1, up _ w.c0 w.c1, up _ w.d0 w.d1⟩
theorem plY_four {v : List Bool} {A B C sd : Int} {R : Type} [CommRing R] [Em R] {p : R × R} (c : Cyc R v p) (e : plY v = [A, B, C, sd]) (u : List Bool) : c1 (wmx u).c (wmx u).d A B C ≠ 0 ∧ RepR (act (wmx u) p).1 (act (wmx u) p).2 (plG u v) := by
  have rp := c.rp
  rw [e] at rp
  have q : true ∈ v ∧ false ∈ v := by
    rcases plY_form v with h | h | ⟨h1, h2, _⟩
    · rw [h] at e; cases e
    · rw [h] at e; cases e
    · exact ⟨h1, h2⟩
  have h := snd_act c.nn (c.l q.2) u
  have dt := wm_det u
  unfold Mt.det at dt
  have := rep_ch4 (m := (wmx u).a) (n := (wmx u).b) (k := (wmx u).c) (l := (wmx u).d) rp (by rw [dt]; decide) h
  refine ⟨this.1, ?_⟩
  unfold plG
  rw [e]
  exact this.2
theorem plC_ok {u v : List Bool} (h : u.length + v.length ≤ 62) : PlC (wmx u).a (wmx u).b (wmx u).c (wmx u).d (plY v) := by
  obtain ⟨R, i1, i2, p, c⟩ := cyc_ex v
  have wp := wmx_pos u
  have two : ∀ x y : Int, plY v = [x, y] → Bd 64 x → Bd 64 y → (wmx u).a * x + (wmx u).b * y ≠ 0 ∨ (wmx u).c * x + (wmx u).d * y ≠ 0 → PlC (wmx u).a (wmx u).b (wmx u).c (wmx u).d (plY v) := fun x y e b1 b2 nz => by
    rw [e]
    exact .two (b1.mono (by decide)) (b2.mono (by decide)) nz
  rcases plY_form v with e | e | ⟨_, _, A, B, C, e, bd⟩
  · exact two _ _ e (Bd.lit (by decide)) (Bd.lit (by decide)) (.inr (by have := wp.2.2.2.2.2.1; omega))
  · exact two _ _ e (Bd.lit (by decide)) (Bd.lit (by decide)) (.inl (by have := wp.2.2.2.2.1; omega))
  · obtain ⟨b1, b2, b3⟩ := bd 66 (by omega)
    have := (plY_four c e u).1
    rw [e]
    exact .four (b1.mono (by decide)) (b2.mono (by decide)) (b3.mono (by decide)) (show Int.natAbs 1 < 2 ^ 4 by decide) this
end Ep

/-! ## Edge.of_parts of any beginning and row -/
namespace Ep
open Ed Eo
def sp_eofG (CE : Addr) : Sp := fun vs H Q _ => ∃ (u v : List Bool), vs = [.ref CE, .str (enc u), .str (enc v)] ∧ u.length + v.length ≤ 62 ∧ v ≠ [] ∧ ∀ e H', H e = none → Same H H' → EdgeAt CE H' e (plG u v) → Q (.ref e) H'
theorem cd_mem (b : Bool) (v : List Bool) : (cd b ∈ (enc v).cps.toList) ↔ b ∈ v := by
  have e : (enc v).cps.toList = v.map cd := by
    rw [enc_cps]
  rw [e, List.mem_map]
  constructor
  · rintro ⟨c, hc, e⟩
    have : c = b := by cases c <;> cases b <;> first | rfl | (exact absurd e (by decide))
    exact this ▸ hc
  · exact fun h => ⟨b, h, rfl⟩
end Ep
open Ep
section
variable {P : Program} {w : World} {K : PySem.W.Frag} {mg : Str → Option Value} {base : Heap}
theorem ok_eofG {f CE CC IW : Addr} {fd : FuncData} (F : Fun K "of_parts" "Edge.of_parts" S_Edge_of_parts f fd) (T : Txt K mg) (Re : EdgT K mg CE) (Rc : ChT K mg CC) (C_need : FnC P w K mg base (L2.CX P w) 4 "need_word" ["value"] (sp_need IW K)) (M_chw : CmC P w K mg base CX0 6 CC "Change" "of_word" ["cls", "word"] (Kb.calm (sp_chw CC IW K)))
    (C_fixed : FnC P w K mg base CX0 3 "fixed" ["numbers"] sp_fixed) (C_pb : FnC P w K mg base CX0 4 "place_behind" ["numbers", "place"] (sp_pb K)) (C_edgeX : MkC P w K mg base (L2.CX P w) 2 CE "Edge" ["self", "place"] (sp_einit CE)) (IWe : ErC P w K mg base "InvalidWord" IW) : FnOk P w K mg base (L2.CX P w) 8 f fd ["cls", "lead", "cycle"] (sp_eofG CE) := by
  refine F.okX SC_Edge_of_parts (fun vs H Q E h => ?_) (fun cdv A outer s H vs Q E hr h => ?_)
  · obtain ⟨u, v, rfl, _⟩ := h
    rfl
  · obtain ⟨u, v, rfl, huv, ne, k⟩ := h
    have E_InvalidWord := IWe
    refine ⟨_, (pss_cons (ps_expr (pe_callSC C_need (hr.mono (by decide)) (takes_of rfl rfl rfl rfl) rfl (pa_cons (pv 1) pa_nil)))
      (pss_cons (ps_expr (pe_callSC C_need (hr.mono (by decide)) (takes_of rfl rfl rfl rfl) rfl (pa_cons (pv 2) pa_nil)))
      (pss_cons (ps_if (pt_cmpR op_eq (pv 2) pe_str (nomark _)) (pss_one (ps_raise0 E_InvalidWord (hr.mono (by decide)) rfl (takes_of rfl rfl rfl rfl) rfl)) pss_nil)
      (pss_mid (ps_if (pt_cmpR op_notIn_sign pe_str (pv 2) rfl) (pss_one (ps_set (i := 3) SC_Edge_of_parts.nd rfl (.inl rfl) (pe_makeL (i := 0) C_edgeX (hr.mono (by decide)) (takes_of rfl rfl rfl rfl) rfl (.inl rfl) (pa_cons (pe_tupN (pa_cons pe_int (pa_cons pe_int pa_nil))) pa_nil)))) (pss_one (ps_if (pt_cmpR op_notIn_sign pe_str (pv 2) rfl) (pss_one (ps_set (i := 3) SC_Edge_of_parts.nd rfl (.inl rfl) (pe_makeL (i := 0) C_edgeX (hr.mono (by decide)) (takes_of rfl rfl rfl rfl) rfl (.inl rfl) (pa_cons (pe_tupN (pa_cons pe_int (pa_cons pe_int pa_nil))) pa_nil)))) (pss_one (ps_set (i := 3) SC_Edge_of_parts.nd rfl (.inl rfl) (pe_makeL (i := 0) C_edgeX (hr.mono (by decide)) (takes_of rfl rfl rfl rfl) rfl (.inl rfl) (pa_cons (pe_callC C_fixed (hr.mono (by decide)) rfl (pa_cons (pe_fld (pe_cmC M_chw (hr.mono (by decide)) rfl (pa_cons (pv 2) pa_nil)) rfl) pa_nil)) pa_nil)))))))
      (pss_one (ps_ret (pe_makeL (i := 0) C_edgeX (hr.mono (by decide)) (takes_of rfl rfl rfl rfl) rfl (.inl rfl) (pa_cons (pe_callC C_pb (hr.mono (by decide)) rfl (pa_cons (pe_fld (pe_cmC M_chw (hr.mono (by decide)) rfl (pa_cons (pv 1) pa_nil)) rfl) (pa_cons (pe_fld (pv 3) rfl) pa_nil))) pa_nil)))))))), ?_⟩
    have gd : ∀ x : List Bool, goodW (V.str (enc x)) = false → False := fun x g => by rw [show goodW (V.str (enc x)) = true from good_enc x] at g; cases g
    refine ⟨_, rfl, .str (enc u), rfl, .str _, fun z e => by cases e; rw [enc_len]; exact Nat.le_trans (show u.length ≤ 66 by omega) (by decide), fun _ H1 s1 => ?_, fun g => (gd u g).elim⟩
    refine ⟨_, rfl, .str (enc v), rfl, .str _, fun z e => by cases e; rw [enc_len]; exact Nat.le_trans (show v.length ≤ 66 by omega) (by decide), fun _ H2 s2 => ?_, fun g => (gd v g).elim⟩
    have nv : decide (V.str (enc v) = V.str "") = false := by
      rw [lit_e]
      exact decide_eq_false fun e => ne (enc_inj (V.str.inj e))
    refine ⟨_, rfl, rfl, _, rfl, ?_⟩
    rw [nv]
    refine ifF rfl ?_
    have hs := s1.trans s2
    have pc := plC_ok huv
    have b2 : Bd 200 (wmx u).a ∧ Bd 200 (wmx u).b ∧ Bd 200 (wmx u).c ∧ Bd 200 (wmx u).d := wm_bd (by omega)
    have bv : Bd 200 (wmx v).a ∧ Bd 200 (wmx v).b ∧ Bd 200 (wmx v).c ∧ Bd 200 (wmx v).d := wm_bd (by omega)
    refine ⟨fun σ' H' => ∃ e1 : Addr, EdgeAt CE H' e1 (plY v) ∧ Same H H' ∧ σ' = [some (.ref CE), some (.str (enc u)), some (.str (enc v)), some (.ref e1)], ?_, fun σ1 H3 z => ?_⟩
    · refine ⟨_, rfl, cd true, enc v, rfl, rfl, _, rfl, ?_⟩
      by_cases hr' : true ∈ v
      · rw [decide_eq_true ((cd_mem true v).mpr hr')]
        refine ifF rfl ⟨_, rfl, cd false, enc v, rfl, rfl, _, rfl, ?_⟩
        by_cases hl' : false ∈ v
        · rw [decide_eq_true ((cd_mem false v).mpr hl')]
          refine ifF rfl ?_
          have epl : plY v = lwd (wmx v).c ((wmx v).d - (wmx v).a) (0 - (wmx v).b) 1 := by unfold plY; rw [if_pos hr', if_pos hl']
          have c1 := (wmx_pos v).2.2.2.2.2.2.2.1 hl'
          refine ⟨rfl, _, rfl, .str (enc v), rfl, .str _, fun z e => by cases e; rw [enc_len]; omega, fun v' ev r H3 hn s3 c => ?_, fun g => (gd v g).elim⟩
          cases enc_inj (V.str.inj ev)
          obtain ⟨dx, q, h1, h2⟩ := c
          refine ⟨r, CC, dx, _, _, rfl, h1, Rc.ins.cl, Rc.n1, cf1 _ _, q, wmx v, rfl, h2, by omega, ?_, fun t H4 nt s4 ht => ?_⟩
          · exact ⟨bv.1.mono (by decide), bv.2.1.mono (by decide), bv.2.2.1.mono (by decide), bv.2.2.2.mono (by decide)⟩
          · rw [← epl] at ht
            refine fun x dx hx hdx hne => mk_edge ht ?_ hx hdx hne fun H' s' h' => ⟨x, h', ((hs.trans s3).trans s4).trans s', rfl⟩
            rcases plY_form v with e | e | ⟨_, _, A, B, C, e, bd⟩
            · rw [e]; exact .inl ⟨_, _, rfl⟩
            · rw [e]; exact .inl ⟨_, _, rfl⟩
            · obtain ⟨b1, b2, b3⟩ := bd 66 (by omega)
              rw [e]
              exact .inr ⟨_, _, _, _, rfl, b1.mono (by decide), b2.mono (by decide), b3.mono (by decide)⟩
        · rw [decide_eq_false (fun h => hl' ((cd_mem false v).mp h))]
          refine ifT rfl ?_
          have epl : plY v = [1, 0] := by unfold plY; rw [if_pos hr', if_neg hl']
          rw [epl]
          refine ⟨rfl, by show 2 ≤ 1000000; decide, fun t H3 nt s3 ht => ?_⟩
          exact fun x dx hx hdx hne => mk_edge (pl := [1, 0]) ht (.inl ⟨_, _, rfl⟩) hx hdx hne fun H' s' h' => ⟨x, h', (hs.trans s3).trans s', rfl⟩
      · rw [decide_eq_false (fun h => hr' ((cd_mem true v).mp h))]
        refine ifT rfl ?_
        have epl : plY v = [0, 1] := by unfold plY; rw [if_neg hr']
        rw [epl]
        refine ⟨rfl, by show 2 ≤ 1000000; decide, fun t H3 nt s3 ht => ?_⟩
        exact fun x dx hx hdx hne => mk_edge (pl := [0, 1]) ht (.inl ⟨_, _, rfl⟩) hx hdx hne fun H' s' h' => ⟨x, h', (hs.trans s3).trans s', rfl⟩
    · obtain ⟨e1, he1, s3, rfl⟩ := z
      refine ⟨rfl, _, rfl, .str (enc u), rfl, .str _, fun z e => by cases e; rw [enc_len]; omega, fun u' eu r H4 hn s4 c => ?_, fun g => (gd u g).elim⟩
      cases enc_inj (V.str.inj eu)
      obtain ⟨dx, q, h1, h2⟩ := c
      obtain ⟨de, te, fs, g1, g2, g3⟩ := (he1.same s4).at
      refine ⟨r, CC, dx, _, _, rfl, h1, Rc.ins.cl, Rc.n1, cf1 _ _, _, rfl, e1, CE, de, _, _, rfl, g1, Re.ins.cl, Re.n1, g2, q, te, _, _, _, _, _, rfl, h2, g3, b2, pc, fun t H5 nt s5 ht => ?_⟩
      exact fun x dx hx hdx hne => mk_edge ht (plOk_bh pc b2.1 b2.2.1 b2.2.2.1 b2.2.2.2) hx hdx hne fun H' s' h' => k x H' (((s3.trans s4).trans s5).free hx) (((s3.trans s4).trans s5).trans s') h'
end

/-! ## the walk along the word of a repeated row comes again (plain) -/
namespace Pt
 open Sg Sg.SgR Lean.Grind Sg.Qx
 open Pj Pj.Em
open Mx K10 Or Ed Eo Ep Bl
section
variable {R : Type} [CommRing R] [Em R]
theorem rep_one : RepR (1 : R) 1 [1, 1] := by
  refine .two (by decide) (by decide) (by decide) ?_ ?_
  · rw [i_one, show (1 : R) * 1 - 1 * 1 = 0 by grind]; exact s_zero
  · rw [i_one, show (1 : R) * 1 + 1 * 1 = 2 by grind]; exact s_i2
theorem cmp_one {N D : R} {pl : List Int} (h : RepR N D pl) : cmpPl pl [1, 1] = s (N - D) := by
  rw [cmpR h rep_one]; congr 1; grind
/-- a pair that a word leaves where it is -/
theorem rep_fix {w : List Bool} {N D : R} (hr : true ∈ w) (hl : false ∈ w) (n1 : s N = 1) (d1 : s D = 1) (h : s (crs (act (wmx w) (N, D)) (N, D)) = 0) : RepR N D (plY w) := by
  obtain ⟨d, hd, q, c⟩ := cyc_mixed hr hl
  letI := E1 hd
  have rq := c.rp
  obtain ⟨h1, h2, h3, h4, h5, h6, h7, h8, _⟩ := wmx_pos w
  have b1 := h7 hr
  have c1 := h8 hl
  have epl : plY w = lwd (wmx w).c ((wmx w).d - (wmx w).a) (0 - (wmx w).b) 1 := by unfold plY; rw [if_pos hr, if_pos hl]
  obtain ⟨A, B, C, g, g0, A0, ⟨ga, gb, gc⟩, _, _, _, el⟩ := K15.lwd_any (A := (wmx w).c) (B := (wmx w).d - (wmx w).a) (C := 0 - (wmx w).b) (s := 1) (by omega)
  rw [epl, el] at rq ⊢
  have gp : 0 < g := by
    rcases Int.lt_trichotomy g 0 with z | z | z
    · have := Int.mul_neg_of_neg_of_pos z A0
      omega
    · exact absurd z g0
    · exact z
  have C0 : C < 0 := by
    rcases Int.lt_or_le C 0 with z | z
    · exact z
    · have := Int.mul_nonneg (Int.le_of_lt gp) z
      omega
  cases rq with
  | four _ gg dp dn _ _ _ =>
    have e0 : s (i A * (N * N) + i B * (N * D) + i C * (D * D)) = 0 := by
      refine s_nz (x := g) g0 ?_
      have ia : (i g : R) * i A = i (wmx w).c := by rw [← i_mul, ga]
      have ib : (i g : R) * i B = i (wmx w).d - i (wmx w).a := by rw [← i_mul, gb, i_sub]
      have ic : (i g : R) * i C = -i (wmx w).b := by rw [← i_mul, gc, i_sub, i_zero]; grind
      have : (i g : R) * (i A * (N * N) + i B * (N * D) + i C * (D * D)) = -crs (act (wmx w) (N, D)) (N, D) := by
        unfold crs act
        simp only
        rw [show (i g : R) * (i A * (N * N) + i B * (N * D) + i C * (D * D)) = (i g * i A) * (N * N) + (i g * i B) * (N * D) + (i g * i C) * (D * D) by grind, ia, ib, ic]
        grind
      rw [this]
      exact nu_neg h
    refine .four A0 gg dp dn e0 d1 ?_
    have t3 : s (-(i C * (D * D))) = 1 := by rw [neg, mul, mul, d1, i_s, sg_n C0]; rfl
    have e2 : s (N * (i A * N + i B * D)) = 1 := by
      rw [← t3]
      refine s_sub0 _ _ ?_
      rw [show N * (i A * N + i B * D) - -(i C * (D * D)) = i A * (N * N) + i B * (N * D) + i C * (D * D) by grind]
      exact e0
    rw [mul, n1, Int.one_mul] at e2
    rw [show 2 * i A * N + i B * D = i A * N + (i A * N + i B * D) by grind]
    exact add _ _ (by rw [mul, i_s, sg_p A0, n1]; rfl) e2
end
/-- a row that leaves a positive pair where it is has both letters -/
theorem fix_mixed {R : Type} [CommRing R] [Em R] {w : List Bool} {N D : R} (ne : w ≠ []) (n1 : s N = 1) (d1 : s D = 1) (h : s (crs (act (wmx w) (N, D)) (N, D)) = 0) : true ∈ w ∧ false ∈ w := by
  obtain ⟨_, _, _, _, _, _, h7, h8, h9, h10⟩ := wmx_pos w
  have some_ : true ∈ w ∨ false ∈ w := by
    cases w with
    | nil => exact absurd rfl ne
    | cons b w => cases b <;> simp
  by_cases t : true ∈ w
  · refine ⟨t, ?_⟩
    by_cases f : false ∈ w
    · exact f
    exfalso
    obtain ⟨a, c, d⟩ := h10 f
    have b := h7 t
    have e : crs (act (wmx w) (N, D)) (N, D) = i (wmx w).b * (D * D) := by
      unfold crs act
      simp only
      rw [a, c, d, i_one, i_zero]; grind
    rw [e, mul, mul, i_s, sg_p (by omega), d1] at h
    cases h
  · exfalso
    have f := some_.resolve_left t
    obtain ⟨a, b, d⟩ := h9 t
    have c := h8 f
    have e : crs (act (wmx w) (N, D)) (N, D) = -(i (wmx w).c * (N * N)) := by
      unfold crs act
      simp only
      rw [a, b, d, i_one, i_zero]; grind
    rw [e, neg, mul, mul, i_s, sg_p (by omega), n1] at h
    cases h
end Pt

/-! ## expressions that come to values, lists -/
namespace Sx
def VE (te : TE) (σ : L2.St) (H0 : Hp) (v : V) : Prop := ∀ H, Same H0 H → ∀ Q : VK, (∀ H', Same H H' → Q v H') → te σ H Q
def BE (tt : TT) (σ : L2.St) (H0 : Hp) (b : Bool) : Prop := ∀ H, Same H0 H → ∀ Q : Bool → Hp → Prop, (∀ H', Same H H' → Q b H') → tt σ H Q
def VL (te : TE) (σ : L2.St) (H0 : Hp) (xs : List V) : Prop := ∀ H, Same H0 H → ∀ Q : VK, (∀ (D : Addr) (H' : Hp), Same H H' → H' D = some (.lst xs) → Q (.ref D) H') → te σ H Q
def VN (te : TE) (σ : L2.St) (H0 : Hp) (xs : List V) : Prop := ∀ H, Same H0 H → ∀ Q : VK, (∀ (D : Addr) (H' : Hp), H D = none → Same H H' → H' D = some (.lst xs) → Q (.ref D) H') → te σ H Q
section
variable {K : PySem.W.Frag} {σ : L2.St} {H0 H1 : Hp} {ta tb te : TE} {tt tu : TT} {xs ys : List V} {p : Addr} {i j : Nat} {vs : List Nat}
theorem BE.val {b : Bool} (h : VE ta σ H0 (.bl b)) : BE (tTest ta) σ H0 b := fun H s Q q => h H s _ fun H' s' => ⟨b, rfl, q H' s'⟩
theorem BE.or {a b : Bool} (h : BE tt σ H0 a) (g : BE tu σ H0 b) : BE (tOr tt tu) σ H0 (a || b) := fun H s Q q => h H s _ fun H' s' => by
  cases a with
  | true => exact ifT rfl (q H' s')
  | false => exact ifF rfl (g H' (s.trans s') _ fun H'' s'' => q H'' (s'.trans s''))
theorem BE.and {a b : Bool} (h : BE tt σ H0 a) (g : BE tu σ H0 b) : BE (tAnd tt tu) σ H0 (a && b) := fun H s Q q => h H s _ fun H' s' => by
  cases a with
  | true => exact ifT rfl (g H' (s.trans s') _ fun H'' s'' => q H'' (s'.trans s''))
  | false => exact ifF rfl (q H' s')
theorem BE.or2 (h : BE tt σ H0 false) (g : BE tu σ H0 false) : BE (tOr tt tu) σ H0 false := BE.or h g
theorem BE.not {b : Bool} (h : BE tt σ H0 b) : BE (tNot tt) σ H0 (!b) := fun H s Q q => h H s _ fun H' s' => q H' s'
theorem BE.to {b c : Bool} (h : BE tt σ H0 b) (e : b = c) : BE tt σ H0 c := e ▸ h
theorem VE.to {v w : V} (h : VE ta σ H0 v) (e : v = w) : VE ta σ H0 w := e ▸ h
theorem VE.var {i : Nat} {v : V} (hσ : σ[i]? = some (some v)) : VE (tVar i) σ H0 v := fun H s Q q => ⟨_, hσ, q H (Same.refl H)⟩
theorem VE.c {v : V} : VE (tC v) σ H0 v := fun H s Q q => q H (Same.refl H)
theorem VE.not {b : Bool} (h : VE ta σ H0 (.bl b)) : VE (tNotV ta) σ H0 (.bl (!b)) := fun H s Q q => h H s _ fun H' s' => ⟨b, rfl, q H' s'⟩
theorem VE.and {a b : Bool} (h : VE ta σ H0 (.bl a)) (g : VE tb σ H0 (.bl b)) : VE (tAndV ta tb) σ H0 (.bl (a && b)) := fun H s Q q => h H s _ fun H' s' => ⟨a, rfl, by
  cases a with
  | true => exact ifT rfl (g H' (s.trans s') _ fun H'' s'' => q H'' (s'.trans s''))
  | false => exact ifF rfl (q H' s')⟩
theorem VE.add {a b : Int} (h : VE ta σ H0 (.int a)) (g : VE tb σ H0 (.int b)) : VE (tOp (rI0 fun i j => V.int (i + j)) ta tb) σ H0 (.int (a + b)) := fun H s Q q => h H s _ fun H' s' => g H' (s.trans s') _ fun H'' s'' => ⟨_, _, rfl, rfl, q H'' (s'.trans s'')⟩
theorem if_next {c : TT} {t : TS} {D : Ends} {H : Hp} (h : BE c σ H0 false) (s : Same H0 H) (k : ∀ H', Same H H' → D.nx σ H') : tIfS c t tNext D σ H := h H s _ fun H' s' => ifF rfl (k H' s')
theorem seq_if {c : TT} {t u : TS} {D : Ends} {H : Hp} (h : BE c σ H0 false) (s : Same H0 H) (k : ∀ H', Same H H' → u D σ H') : tSeq (tIfS c t tNext) u D σ H := h H s _ fun H' s' => ifF rfl (k H' s')
theorem VN.to (h : VN te σ H0 xs) (e : xs = ys) : VN te σ H0 ys := e ▸ h
theorem VL.to (h : VL te σ H0 xs) (e : xs = ys) : VL te σ H0 ys := e ▸ h
theorem VL.var (hσ : σ[i]? = some (some (.ref p))) (hp : H0 p = some (.lst xs)) : VL (tVar i) σ H0 xs := fun H s Q q => ⟨_, hσ, q p H (Same.refl H) (s _ _ hp)⟩
end
end Sx
open Sx

/-! ## k16: places, their pairs and words (plain) -/
namespace K16
 open Sg Sg.SgR Lean.Grind Sg.Qx
 open Pj Pj.Em
open Mx K10 Or Ed Eo Ep
section
variable {R : Type} [CommRing R] [Em R]
theorem nn_mul {z : Int} {x : R} (hz : 0 ≤ z) (hx : s x = 1 ∨ s x = 0) : s (i z * x) = 1 ∨ s (i z * x) = 0 := by
  rw [mul, i_s]
  rcases sg_c z with ⟨_, e⟩ | ⟨_, e⟩ | ⟨q, _⟩
  · rw [e]; rcases hx with g | g <;> rw [g] <;> simp
  · rw [e]; rcases hx with g | g <;> rw [g] <;> simp
  · omega
theorem four_pos {N D : R} {A B C sd : Int} (h : RepR N D [A, B, C, sd]) (p : Pr N D) : s N = 1 ∧ s D = 1 := by
  cases h with
  | four A0 g dp dn e d0 hs =>
    refine ⟨?_, d0⟩
    rcases p.n with z | z
    · exact z
    exfalso
    have e2 : s (i C * (D * D)) = 0 := by
      have q : s (i A * (N * N) + i B * (N * D)) = 0 := nu_add (nu_mul' (nu_mul z _) _) (nu_mul' (nu_mul z _) _)
      rwa [add0 _ _ q] at e
    rw [mul, mul, d0, i_s] at e2
    have c0 : C = 0 := by rcases sg_c C with ⟨_, k⟩ | ⟨k, _⟩ | ⟨_, k⟩ <;> omega
    subst c0
    refine dn ?_
    have : B * B - 4 * A * 0 = B * B := by omega
    rw [this]
    rcases Int.le_total 0 B with k | k
    · exact ⟨B, k, rfl⟩
    · exact ⟨-B, by omega, Int.neg_mul_neg B B⟩
/-- numbers of a place, small -/
inductive PlB (n : Nat) : List Int → Prop
  | two {x y : Int} (bx : Bd n x) (b_y : Bd n y) : PlB n [x, y]
  | four {A B C sd : Int} (ba : Bd n A) (bb : Bd n B) (bc : Bd n C) (hs : sd = 1 ∨ sd = -1) : PlB n [A, B, C, sd]
structure MOk (k : Nat) (M : Mt) : Prop where
  a0 : 0 ≤ M.a
  b0 : 0 ≤ M.b
  c0 : 0 ≤ M.c
  d0 : 0 ≤ M.d
  hd : M.det ≠ 0
  ba : Bd k M.a
  bb : Bd k M.b
  bc : Bd k M.c
  bd : Bd k M.d
theorem sd_rep {N D : R} {A B C sd : Int} (h : RepR N D [A, B, C, sd]) : sd = 1 ∨ sd = -1 := by
  cases h with
  | four A0 g dp dn e d0 hs => exact sd_pm dp dn e d0 hs
theorem rep_one : RepR (1 : R) 1 [1, 1] := by
  refine .two (by decide) (by decide) (by decide) ?_ ?_
  · rw [i_one, show (1 : R) * 1 - 1 * 1 = 0 by grind]; exact s_zero
  · rw [i_one, show (1 : R) * 1 + 1 * 1 = 2 by grind]; exact s_i2
theorem cmp_one {N D : R} {pl : List Int} (h : RepR N D pl) : cmpPl pl [1, 1] = s (N - D) := by
  rw [cmpR h rep_one]; congr 1; grind
/-- the first letters of a place -/
inductive LtE : List Int → List Bool → Prop
  | zero : LtE [0, 1] (List.replicate 40 false)
  | endl : LtE [1, 0] (List.replicate 40 true)
  | frac {u : List Bool} (hu : u.length ≤ 200) : LtE [((pr u).1 : Int), ((pr u).2 : Int)] (u.take 40)
  | root {K A B C sd : Int} (h : Fo.Sm K A B C sd) (hK : K < 2 ^ 88) : LtE [A, B, C, sd] (Fo.flw 40 [A, B, C, sd])
def mL (u : List Bool) : List Nat := u.map cd ++ [109]
end
/-- a place of the law -/
structure Gd (pl : List Int) (W : List Bool) : Prop where
  ex : ∃ (d : Int) (hd : 0 ≤ d) (N D : R1 d), @RepR (R1 d) _ (E1 hd) N D pl ∧ @Pr (R1 d) _ (E1 hd) N D
  lt : LtE pl W
  bd : PlB 40 pl
/-- what the law asks of two places -/
structure Two (M B : Mt) (pl pl' : List Int) (W W' : List Bool) : Prop where
  tri : cmpPl pl pl' = 1 ∨ cmpPl pl pl' = 0 ∨ cmpPl pl pl' = -1
  c1 : PlC M.a M.b M.c M.d pl
  c2 : PlC M.a M.b M.c M.d pl'
  c3 : PlC B.a B.b B.c B.d pl
  c4 : PlC M.a M.b M.c M.d (bhPl B.a B.b B.c B.d pl)
  c5 : PlC (M.mul B).a (M.mul B).b (M.mul B).c (M.mul B).d pl
  c6 : PlC 0 1 1 0 pl
  c7 : PlC 0 1 1 0 pl'
  c8 : PlC 0 1 1 0 (bhPl 0 1 1 0 pl)
  o0 : PlO pl
  o0' : PlO pl'
  o1 : PlO (bhPl M.a M.b M.c M.d pl)
  o2 : PlO (bhPl M.a M.b M.c M.d pl')
  o3 : PlO (bhPl 0 1 1 0 pl)
  o4 : PlO (bhPl 0 1 1 0 pl')
  way : cmpPl (bhPl M.a M.b M.c M.d pl) (bhPl M.a M.b M.c M.d pl') = sg M.det * cmpPl pl pl'
  prod : bhPl (M.mul B).a (M.mul B).b (M.mul B).c (M.mul B).d pl = bhPl M.a M.b M.c M.d (bhPl B.a B.b B.c B.d pl)
  turn : cmpPl (bhPl 0 1 1 0 pl) (bhPl 0 1 1 0 pl') = 0 - cmpPl pl pl'
  back : bhPl 0 1 1 0 (bhPl 0 1 1 0 pl) = pl
  low : cmpPl [0, 1] pl ≤ 0
  high : cmpPl pl [1, 0] ≤ 0
  eq : cmpPl pl pl' = 0 ↔ pl = pl'
  wd : W ≠ W' → cmpPl pl pl' = if mL W < mL W' then -1 else 1
theorem pr_ex : ∀ (n x y : Nat), x + y ≤ n → 0 < x → 0 < y → Nat.gcd x y = 1 → ∃ u : List Bool, pr u = (x, y) ∧ u.length ≤ n
  | 0, x, y, h, x0, _, _ => by omega
  | n + 1, x, y, h, x0, y0, g => by
    by_cases e : x = y
    · subst e
      rw [Nat.gcd_self] at g
      subst g
      exact ⟨[], rfl, Nat.zero_le _⟩
    · by_cases l : x < y
      · obtain ⟨u, hu, hl⟩ := pr_ex n x (y - x) (by omega) x0 (by omega) (by rw [Nat.gcd_sub_self_right (Nat.le_of_lt l)]; exact g)
        refine ⟨false :: u, ?_, by rw [List.length_cons]; omega⟩
        show ((pr u).1, (pr u).1 + (pr u).2) = _
        rw [hu]
        exact Prod.ext rfl (by show x + (y - x) = y; omega)
      · obtain ⟨u, hu, hl⟩ := pr_ex n (x - y) y (by omega) (by omega) y0 (by rw [Nat.gcd_sub_self_left (by omega)]; exact g)
        refine ⟨true :: u, ?_, by rw [List.length_cons]; omega⟩
        show ((pr u).1 + (pr u).2, (pr u).2) = _
        rw [hu]
        exact Prod.ext (by show x - y + y = x; omega) rfl
end K16

/-! ## k13: the letters and the parts of a number with a root (plain) -/
namespace K13
 open Sg Sg.SgR Lean.Grind Sg.Qx
 open Pj Pj.Em
open Mx K10 Or Ed Eo Ep Bl
theorem fo_bl : ∀ (n : Nat) (pl : List Int), Fo.flw n pl = Bl.flw pl n ∧ Lt.itPl n pl = Bl.itPl pl n
  | 0, pl => ⟨rfl, rfl⟩
  | n + 1, pl => by
    obtain ⟨h1, h2⟩ := fo_bl n pl
    refine ⟨?_, ?_⟩
    · rw [Lt.flw_it, Bl.flw_snoc, h1, h2]; rfl
    · show Fo.nextPl (Lt.itPl n pl) = Bl.nextPl (Bl.itPl pl n)
      rw [h2]; rfl
theorem wm_l (u : List Bool) : wmx (u ++ [false]) = ⟨(wmx u).a + (wmx u).b, (wmx u).b, (wmx u).c + (wmx u).d, (wmx u).d⟩ := by
  rw [wmx_app, wmx_cons]
  show Mt.mk ((wmx u).a * (1 * 1 + 0 * 0) + (wmx u).b * (1 * 1 + 1 * 0)) ((wmx u).a * (1 * 0 + 0 * 1) + (wmx u).b * (1 * 0 + 1 * 1)) ((wmx u).c * (1 * 1 + 0 * 0) + (wmx u).d * (1 * 1 + 1 * 0)) ((wmx u).c * (1 * 0 + 0 * 1) + (wmx u).d * (1 * 0 + 1 * 1)) = _
  refine Mt.ext' ?_ ?_ ?_ ?_ <;> (simp only; omega)
theorem wm_r (u : List Bool) : wmx (u ++ [true]) = ⟨(wmx u).a, (wmx u).b + (wmx u).a, (wmx u).c, (wmx u).d + (wmx u).c⟩ := by
  rw [wmx_app, wmx_cons]
  show Mt.mk ((wmx u).a * (1 * 1 + 1 * 0) + (wmx u).b * (0 * 1 + 1 * 0)) ((wmx u).a * (1 * 0 + 1 * 1) + (wmx u).b * (0 * 0 + 1 * 1)) ((wmx u).c * (1 * 1 + 1 * 0) + (wmx u).d * (0 * 1 + 1 * 0)) ((wmx u).c * (1 * 0 + 1 * 1) + (wmx u).d * (0 * 0 + 1 * 1)) = _
  refine Mt.ext' ?_ ?_ ?_ ?_ <;> (simp only; omega)
/-- the law's step along a number (t + root of I) / u: letter and numbers behind -/
def Rl (f I t u : Int) : List Int → Prop
  | [A, B, C, sd] => 2 * t = -(sd * f * B) ∧ u = sd * f * A ∧ 4 * I = f * f * (B * B - 4 * A * C)
  | _ => False
theorem nx_l {K A B C sd : Int} (h : Fo.Sm K A B C sd) (c : cmp4 A B C sd [1, 1] < 0) : Bl.nextPl [A, B, C, sd] = [sg (A + B + C) * (A + B + C), sg (A + B + C) * (B + 2 * C), sg (A + B + C) * C, sd * sg (A + B + C)] := by
  show (if cmp4 A B C sd [1, 1] < 0 then bhPl 1 0 (-1) 1 [A, B, C, sd] else bhPl 1 (-1) 0 1 [A, B, C, sd]) = _
  rw [if_pos c, Fo.next_l]
  have g : Int.gcd (Int.gcd (A + B + C) (B + 2 * C)) C = 1 := Fo.gcd_next h.g fun k ⟨x, hx⟩ ⟨y, hy⟩ ⟨z, hz⟩ => ⟨⟨x - y + z, by rw [Int.mul_add, Int.mul_sub, ← hx, ← hy, ← hz]; omega⟩, ⟨y - 2 * z, by
      have : k * (2 * z) = 2 * (k * z) := by grind
      rw [Int.mul_sub, this, ← hy, ← hz]; omega⟩, ⟨z, hz⟩⟩
  exact Fo.lwd_1 h.q0 g
theorem nx_r {K A B C sd : Int} (h : Fo.Sm K A B C sd) (c : ¬ cmp4 A B C sd [1, 1] < 0) : Bl.nextPl [A, B, C, sd] = [A, B + 2 * A, A + B + C, sd] := by
  show (if cmp4 A B C sd [1, 1] < 0 then bhPl 1 0 (-1) 1 [A, B, C, sd] else bhPl 1 (-1) 0 1 [A, B, C, sd]) = _
  have A0 := h.f.pos
  rw [if_neg c, Fo.next_r A0]
  have g : Int.gcd (Int.gcd A (B + 2 * A)) (A + B + C) = 1 := Fo.gcd_next h.g fun k ⟨x, hx⟩ ⟨y, hy⟩ ⟨z, hz⟩ => ⟨⟨x, hx⟩, ⟨y - 2 * x, by
      have : k * (2 * x) = 2 * (k * x) := by grind
      rw [Int.mul_sub, this, ← hx, ← hy]; omega⟩, ⟨z - y + x, by rw [Int.mul_add, Int.mul_sub, ← hx, ← hy, ← hz]; omega⟩⟩
  rw [Fo.lwd_1 (by omega) g, sg_p A0, Int.one_mul, Int.one_mul, Int.one_mul]
theorem sgsq {x : Int} (h : x ≠ 0) : sg x * sg x = 1 := by rcases K15.sg_nz h with e | e <;> rw [e] <;> rfl
theorem C_nz {K A B C sd : Int} (h : Fo.Sm K A B C sd) : C ≠ 0 := fun e => by
  refine h.dn ?_
  subst e
  have : B * B - 4 * A * 0 = B * B := by omega
  rw [this]
  rcases Int.le_total 0 B with z | z
  · exact ⟨_, z, rfl⟩
  · exact ⟨-B, by omega, by rw [Int.neg_mul_neg]⟩
/-- the sign that the law asks -/
theorem ask_sg {K A B C sd f I t u : Int} (h : Fo.Sm K A B C sd) (f0 : 0 < f) (r : Rl f I t u [A, B, C, sd]) : swr (t - u) 1 I * sg u = cmp4 A B C sd [1, 1] := by
  obtain ⟨r1, r2, r3⟩ := r
  have A0 := h.f.pos
  have q0 := h.q0
  obtain ⟨hp, hn⟩ := Fo.side (A := A) (B := B) (C := C) A0 h.dp h.s
  have ff : 0 < f * f := Int.mul_pos f0 f0
  have I0 : 0 < I := by
    have := Int.mul_pos ff h.dp
    omega
  have su : sg u = sd := by
    rw [r2, sg_mul, sg_mul, sg_p f0, sg_p A0]
    rcases h.s with e | e <;> rw [e] <;> rfl
  have ss : sd * sd = 1 := by rcases h.s with e | e <;> rw [e] <;> rfl
  have tw : 2 * (t - u) = -(sd * f * (B + 2 * A)) := by
    rw [Int.mul_sub, r1, r2]; grind
  have sq : 4 * ((t - u) * (t - u) - 1 * 1 * I) = f * f * (4 * A) * (A + B + C) := by
    have e1 : 4 * ((t - u) * (t - u)) = (2 * (t - u)) * (2 * (t - u)) := by grind
    have e2 : 4 * ((t - u) * (t - u) - 1 * 1 * I) = (2 * (t - u)) * (2 * (t - u)) - 4 * I := by rw [← e1]; grind
    rw [e2, tw, r3]
    have e3 : -(sd * f * (B + 2 * A)) * -(sd * f * (B + 2 * A)) = (sd * sd) * (f * f) * ((B + 2 * A) * (B + 2 * A)) := by grind
    rw [e3, ss]; grind
  have f4 : 0 < f * f * (4 * A) := Int.mul_pos ff (by omega)
  have sgq : sg ((t - u) * (t - u) - 1 * 1 * I) = sg (A + B + C) := by
    have := congrArg sg sq
    rw [sg_mul, sg_mul, sg_p f4] at this
    have e4 : sg 4 = 1 := rfl
    rw [e4] at this
    omega
  have sgt : sg (t - u) = -(sd * sg (B + 2 * A)) := by
    have := congrArg sg tw
    rw [sg_mul, show -(sd * f * (B + 2 * A)) = (-1) * (sd * f * (B + 2 * A)) by omega, sg_mul, sg_mul, sg_mul, sg_p f0] at this
    have e2 : sg 2 = 1 := rfl
    have e1 : sg (-1) = -1 := rfl
    have es : sg sd = sd := by rcases h.s with e | e <;> rw [e] <;> rfl
    rw [e2, e1, es] at this
    rw [Int.mul_one] at this
    omega
  have s1 : sg 1 * sg I = 1 := by rw [sg_p I0]; rfl
  unfold swr
  rw [s1, su]
  rcases Int.lt_or_gt_of_ne q0 with q | q
  · rw [hn q]
    rw [sgq, sg_n q]
    by_cases c : sg (t - u) = 1 ∨ (1 : Int) = 0
    · rw [if_pos c]
      rcases c with c | c
      · rw [c]; omega
      · omega
    · rw [if_neg c]
      by_cases c0 : sg (t - u) = 0
      · rw [if_pos c0]; omega
      · rw [if_neg c0]
        rcases sg_c (t - u) with ⟨_, z⟩ | ⟨_, z⟩ | ⟨_, z⟩
        · exact absurd (.inl z) c
        · exact absurd z c0
        · rw [z]; omega
  · rw [hp q, sgq, sg_p q]
    have b0 : B + 2 * A ≠ 0 := fun z => by
      have e : B = -(2 * A) := by omega
      have := h.dp
      rw [e] at this q
      have e2 : -(2 * A) * -(2 * A) - 4 * A * C = 4 * A * (A - C) := by grind
      rw [e2] at this
      have : 0 ≤ 4 * A * (C - A) := Int.mul_nonneg (by omega) (by omega)
      have e3 : 4 * A * (A - C) = -(4 * A * (C - A)) := by grind
      omega
    have eB : sg (-B - 2 * A) = -sg (B + 2 * A) := by
      rw [show -B - 2 * A = (-1) * (B + 2 * A) by omega, sg_mul]
      have e1 : sg (-1) = -1 := rfl
      rw [e1]; omega
    rw [eB]
    rcases K15.sg_nz b0 with z | z <;> rw [z] at sgt ⊢ <;> rcases h.s with e | e <;> rw [e] at sgt ⊢ <;> rw [sgt] <;> decide
/-- the law's numbers behind a letter -/
theorem st_r {K A B C sd f I t u : Int} (h : Fo.Sm K A B C sd) (r : Rl f I t u [A, B, C, sd]) (c : ¬ cmp4 A B C sd [1, 1] < 0) : Rl f I (t - u) u (Bl.nextPl [A, B, C, sd]) := by
  rw [nx_r h c]
  obtain ⟨r1, r2, r3⟩ := r
  refine ⟨?_, r2, ?_⟩
  · rw [Int.mul_sub, r1, r2]; grind
  · rw [r3]; grind
theorem st_l {K A B C sd f I t u : Int} (h : Fo.Sm K A B C sd) (f0 : 0 < f) (r : Rl f I t u [A, B, C, sd]) (c : cmp4 A B C sd [1, 1] < 0) : ∃ back x : Int, u ≠ 0 ∧ I - t * t = u * back ∧ back ≠ 0 ∧ I - (0 - t - back) * (0 - t - back) = back * x ∧ Rl f I (t + back) x (Bl.nextPl [A, B, C, sd]) ∧ back = -(sd * f * C) := by
  rw [nx_l h c]
  obtain ⟨r1, r2, r3⟩ := r
  have A0 := h.f.pos
  have ss : sd * sd = 1 := by rcases h.s with e | e <;> rw [e] <;> rfl
  have s0 : sd ≠ 0 := by rcases h.s with e | e <;> rw [e] <;> decide
  have q2 := sgsq h.q0
  refine ⟨-(sd * f * C), sd * f * (A + B + C), ?_, ?_, ?_, ?_, ⟨?_, ?_, ?_⟩, rfl⟩
  · rw [r2]
    exact Int.mul_ne_zero (Int.mul_ne_zero s0 (by omega)) (by omega)
  · have e : 4 * (I - t * t) = 4 * (u * -(sd * f * C)) := by
      have e1 : 4 * (I - t * t) = 4 * I - (2 * t) * (2 * t) := by grind
      rw [e1, r1, r3, r2]
      have e3 : -(sd * f * B) * -(sd * f * B) = (sd * sd) * (f * f) * (B * B) := by grind
      have e4 : sd * f * A * -(sd * f * C) = -((sd * sd) * (f * f) * (A * C)) := by grind
      rw [e3, e4, ss]; grind
    omega
  · intro z
    have : sd * f * C = 0 := by omega
    exact Int.mul_ne_zero (Int.mul_ne_zero s0 (by omega)) (C_nz h) this
  · have e : 4 * (I - (0 - t - -(sd * f * C)) * (0 - t - -(sd * f * C))) = 4 * (-(sd * f * C) * (sd * f * (A + B + C))) := by
      have e1 : 4 * (I - (0 - t - -(sd * f * C)) * (0 - t - -(sd * f * C))) = 4 * I - (2 * t - 2 * (sd * f * C)) * (2 * t - 2 * (sd * f * C)) := by grind
      rw [e1, r1, r3]
      have e3 : (-(sd * f * B) - 2 * (sd * f * C)) * (-(sd * f * B) - 2 * (sd * f * C)) = (sd * sd) * (f * f) * ((B + 2 * C) * (B + 2 * C)) := by grind
      have e4 : -(sd * f * C) * (sd * f * (A + B + C)) = -((sd * sd) * (f * f) * (C * (A + B + C))) := by grind
      rw [e3, e4, ss]; grind
    omega
  · rw [Int.mul_add, r1]
    have : sd * sg (A + B + C) * f * (sg (A + B + C) * (B + 2 * C)) = (sg (A + B + C) * sg (A + B + C)) * (sd * f * (B + 2 * C)) := by grind
    rw [this, q2]; grind
  · have : sd * sg (A + B + C) * f * (sg (A + B + C) * (A + B + C)) = (sg (A + B + C) * sg (A + B + C)) * (sd * f * (A + B + C)) := by grind
    rw [this, q2]; omega
  · rw [r3]
    generalize sg (A + B + C) = q at q2
    have : q * (B + 2 * C) * (q * (B + 2 * C)) - 4 * (q * (A + B + C)) * (q * C) = (q * q) * ((B + 2 * C) * (B + 2 * C) - 4 * (A + B + C) * C) := by grind
    rw [this, q2]; grind
theorem rl_inj {K A B C sd a b c td f I t u : Int} (h : Fo.Sm K A B C sd) (g : Fo.Sm K a b c td) (f0 : 0 < f) (r : Rl f I t u [A, B, C, sd]) (q : Rl f I t u [a, b, c, td]) : [A, B, C, sd] = [a, b, c, td] := by
  obtain ⟨r1, r2, r3⟩ := r
  obtain ⟨q1, q2, q3⟩ := q
  have A0 := h.f.pos
  have a0 := g.f.pos
  have fa : 0 < f * A := Int.mul_pos f0 A0
  have fb : 0 < f * a := Int.mul_pos f0 a0
  have es : sd = td := by
    rw [Int.mul_assoc] at r2 q2
    rcases h.s with e | e <;> rcases g.s with e' | e' <;> rw [e] at r2 ⊢ <;> rw [e'] at q2 ⊢ <;> omega
  subst es
  have s0 : sd * f ≠ 0 := Int.mul_ne_zero (by rcases h.s with e | e <;> rw [e] <;> decide) (by omega)
  have eA : A = a := Int.eq_of_mul_eq_mul_left s0 (by omega)
  have eB : B = b := Int.eq_of_mul_eq_mul_left s0 (by omega)
  subst eA eB
  have eD : B * B - 4 * A * C = B * B - 4 * A * c := Int.eq_of_mul_eq_mul_left (a := f * f) (Int.mul_ne_zero (by omega) (by omega)) (by omega)
  have eC : C = c := by
    have : 4 * A * C = 4 * A * c := by omega
    exact Int.eq_of_mul_eq_mul_left (by omega) this
  rw [eC]
/-- small numbers -/
theorem rl_bd {K A B C sd f I t u : Int} {n m : Nat} (h : Fo.Sm K A B C sd) (hK : K < 2 ^ n) (hf : Bd m f) (r : Rl f I t u [A, B, C, sd]) : Bd (n + m + 8) t ∧ Bd (n + m + 8) u ∧ Bd (n + m + 8) (sd * f * C) := by
  obtain ⟨r1, r2, r3⟩ := r
  obtain ⟨ba, bb, bc⟩ := h.bd hK
  have bs : Bd 2 sd := by rcases h.s with e | e <;> rw [e] <;> (show Int.natAbs _ < 2 ^ 2; decide)
  have b1 : Bd (2 + m + n + 2) (sd * f * B) := ((bs.mul hf).mul bb).mono (by omega)
  refine ⟨?_, ?_, ?_⟩
  · have : t.natAbs ≤ (sd * f * B).natAbs := by omega
    exact Nat.lt_of_le_of_lt this (Nat.lt_of_lt_of_le b1 (Nat.pow_le_pow_right (by decide) (by omega)))
  · rw [r2]; exact ((bs.mul hf).mul ba).mono (by omega)
  · exact ((bs.mul hf).mul bc).mono (by omega)
section
variable {R : Type} [CommRing R] [Em R]
def nx (x : R × R) : R × R := if s (x.1 - x.2) < 0 then (x.1, x.2 - x.1) else (x.1 - x.2, x.2)
def itR (x : R × R) : Nat → R × R
  | 0 => x
  | n + 1 => nx (itR x n)
theorem rep_next {N D : R} {A B C sd : Int} (h : RepR N D [A, B, C, sd]) (p : Pr N D) : ∃ A' B' C' sd' : Int, Bl.nextPl [A, B, C, sd] = [A', B', C', sd'] ∧ RepR (nx (N, D)).1 (nx (N, D)).2 [A', B', C', sd'] ∧ Pr (nx (N, D)).1 (nx (N, D)).2 ∧ Bl.ltrPl [A, B, C, sd] = decide (¬ s (N - D) < 0) ∧
    act (lt (Bl.ltrPl [A, B, C, sd])) (nx (N, D)) = (N, D) ∧ c1 (if cmp4 A B C sd [1, 1] < 0 then -1 else 0) 1 A B C ≠ 0 := by
  have e := K16.cmp_one h
  have nz : s (N - D) ≠ 0 := fun z => by
    have := (eqR h K16.rep_one).mp (by rw [show N * 1 - 1 * D = N - D by grind]; exact z)
    cases this
  obtain ⟨n1, d1⟩ := K16.four_pos h p
  have cm4 : cmp4 A B C sd [1, 1] = s (N - D) := e
  have lt_ : Bl.ltrPl [A, B, C, sd] = decide (¬ s (N - D) < 0) := by show decide (¬ cmpPl [A, B, C, sd] [1, 1] < 0) = _; rw [e]
  have nxp : Bl.nextPl [A, B, C, sd] = if s (N - D) < 0 then bhPl 1 0 (-1) 1 [A, B, C, sd] else bhPl 1 (-1) 0 1 [A, B, C, sd] := by rw [← cm4]; rfl
  rw [nxp, lt_, cm4]
  unfold nx
  simp only
  by_cases c : s (N - D) < 0
  · rw [if_pos c, if_pos c, if_pos c, decide_eq_false (by omega)]
    have pl := p.l c
    have e3 : (i 1 * N + i 0 * D : R) = N := by rw [i_one, i_zero]; grind
    have e4 : (i (-1) * N + i 1 * D : R) = D - N := by rw [i_neg, i_one]; grind
    have dn : s (D - N) = 1 := by rcases tri (D - N) with z | z | z; exact z; all_goals (rw [show N - D = -(D - N) by grind, neg] at c nz; omega)
    obtain ⟨q, r⟩ := rep_ch4 (m := 1) (n := 0) (k := -1) (l := 1) h (by decide) (by rw [e4]; exact dn)
    rw [e3, e4] at r
    refine ⟨_, _, _, _, rfl, r, pl, trivial, ?_, q⟩
    rw [act_l]
    exact Prod.ext rfl (by show N + (D - N) = D; grind)
  · rw [if_neg c, if_neg c, if_neg c, decide_eq_true (by omega)]
    have pl := p.r nz c
    have e3 : (i 1 * N + i (-1) * D : R) = N - D := by rw [i_neg, i_one]; grind
    have e4 : (i 0 * N + i 1 * D : R) = D := by rw [i_one, i_zero]; grind
    obtain ⟨q, r⟩ := rep_ch4 (m := 1) (n := -1) (k := 0) (l := 1) h (by decide) (by rw [e4]; exact d1)
    rw [e3, e4] at r
    refine ⟨_, _, _, _, rfl, r, pl, trivial, ?_, q⟩
    rw [act_r]
    exact Prod.ext (by show N - D + D = N; grind) rfl
theorem wmx_one (b : Bool) (x : R × R) : act (wmx [b]) x = act (lt b) x := by
  rw [wmx_cons, act_mul]
  have : wmx [] = Mt.one := rfl
  rw [this, act_one]
/-- the walk of a place beside the pairs -/
theorem walk {N D : R} {K A B C sd : Int} (h : RepR N D [A, B, C, sd]) (p : Pr N D) (sm : Fo.Sm K A B C sd) : ∀ n : Nat, ∃ A' B' C' sd' : Int, Bl.itPl [A, B, C, sd] n = [A', B', C', sd'] ∧ RepR (itR (N, D) n).1 (itR (N, D) n).2 [A', B', C', sd'] ∧ Pr (itR (N, D) n).1 (itR (N, D) n).2 ∧ Fo.Sm K A' B' C' sd' ∧
    (N, D) = act (wmx (Bl.flw [A, B, C, sd] n)) (itR (N, D) n)
  | 0 => ⟨A, B, C, sd, rfl, h, p, sm, (act_one _).symm⟩
  | n + 1 => by
    obtain ⟨A1, B1, C1, s1, e, r, q, sm1, eq⟩ := walk h p sm n
    obtain ⟨A2, B2, C2, s2, e2, r2, q2, l2, a2, _⟩ := rep_next r q
    obtain ⟨A3, B3, C3, s3, e3, sm3⟩ := sm1.next
    have e3' : Bl.nextPl [A1, B1, C1, s1] = [A3, B3, C3, s3] := e3
    rw [e3'] at e2
    injection e2 with h1 e2; injection e2 with h2 e2; injection e2 with h3 e2; injection e2 with h4 _
    subst h1 h2 h3 h4
    refine ⟨A3, B3, C3, s3, ?_, r2, q2, sm3, ?_⟩
    · show Bl.nextPl (Bl.itPl [A, B, C, sd] n) = _
      rw [e]; exact e3'
    · rw [Bl.flw_snoc, wmx_app, act_mul, wmx_one, e]
      show _ = act _ (act _ (nx (itR (N, D) n)))
      rw [a2]; exact eq
theorem behind {N D : R} {K A B C sd : Int} (h : RepR N D [A, B, C, sd]) (p : Pr N D) (sm : Fo.Sm K A B C sd) (i : Nat) : ∀ k : Nat, itR (N, D) i = act (wmx ((Bl.flw [A, B, C, sd] (i + k)).drop i)) (itR (N, D) (i + k))
  | 0 => by
    rw [Nat.add_zero, List.drop_of_length_le (by rw [Bl.flw_len]; exact Nat.le_refl _)]
    exact (act_one _).symm
  | k + 1 => by
    obtain ⟨A1, B1, C1, s1, e, r, q, sm1, _⟩ := walk h p sm (i + k)
    obtain ⟨_, _, _, _, _, _, _, _, a2, _⟩ := rep_next r q
    rw [← Nat.add_assoc, Bl.flw_snoc, List.drop_append_of_le_length (by rw [Bl.flw_len]; omega), wmx_app, act_mul, wmx_one, e]
    show _ = act _ (act _ (nx (itR (N, D) (i + k))))
    rw [a2]
    exact behind h p sm i k
theorem step_ok {N D : R} {K A B C sd : Int} (h : RepR N D [A, B, C, sd]) (p : Pr N D) (sm : Fo.Sm K A B C sd) (hK : K < 2 ^ 79) : stepOk [A, B, C, sd] = true := by
  obtain ⟨ba, bb, bc⟩ := sm.bd hK
  obtain ⟨_, _, _, _, _, _, _, _, _, c⟩ := rep_next h p
  have up : ∀ {z : Int}, Bd 79 z → z.natAbs < 2 ^ 80 := fun hz => Nat.lt_of_lt_of_le hz (Nat.pow_le_pow_right (by decide) (by decide))
  have bs : sd.natAbs < 2 ^ 4 := by rcases sm.s with e | e <;> rw [e] <;> decide
  simp only [stepOk, Bool.and_eq_true]
  exact ⟨⟨⟨⟨decide_eq_true (up ba), decide_eq_true (up bb)⟩, decide_eq_true (up bc)⟩, decide_eq_true bs⟩, decide_eq_true c⟩
theorem parts_law {N D : R} {K A B C sd : Int} (h : RepR N D [A, B, C, sd]) (p : Pr N D) (sm : Fo.Sm K A B C sd) (hK : K < 2 ^ 79) {i j : Nat} (ij : i < j) (j1 : j ≤ 100) (re : Bl.itPl [A, B, C, sd] j = Bl.itPl [A, B, C, sd] i) (nd : ∀ m n, m < n → n < j → Bl.itPl [A, B, C, sd] m ≠ Bl.itPl [A, B, C, sd] n) :
    PartsOk [A, B, C, sd] i j ∧ (Bl.flw [A, B, C, sd] j).drop i ≠ [] ∧ plG (Bl.flw [A, B, C, sd] i) ((Bl.flw [A, B, C, sd] j).drop i) = [A, B, C, sd] := by
  have ne : (Bl.flw [A, B, C, sd] j).drop i ≠ [] := fun z => by
    have := congrArg List.length z
    rw [List.length_drop, Bl.flw_len] at this
    simp at this
    omega
  refine ⟨⟨ij, j1, fun n _ => ?_, nd, re⟩, ne, ?_⟩
  · obtain ⟨A1, B1, C1, s1, e, r, q, sm1, _⟩ := walk h p sm n
    rw [e]
    exact step_ok r q sm1 hK
  obtain ⟨k, rfl⟩ := Nat.exists_eq_add_of_le (Nat.le_of_lt ij)
  obtain ⟨A1, B1, C1, s1, e1, r1, q1, _, eq1⟩ := walk h p sm i
  obtain ⟨A2, B2, C2, s2, e2, r2, q2, _, _⟩ := walk h p sm (i + k)
  have bh := behind h p sm i k
  rw [e1, e2] at re
  rw [re] at r2
  obtain ⟨n1, d1⟩ := K16.four_pos r2 q2
  generalize (Bl.flw [A, B, C, sd] (i + k)).drop i = w2 at *
  generalize itR (N, D) (i + k) = Z at *
  obtain ⟨N', D'⟩ := Z
  simp only at n1 d1 r2
  have cz : s (crs (act (wmx w2) (N', D')) (N', D')) = 0 := by
    rw [← bh]
    exact (eqR r1 r2).mpr rfl
  obtain ⟨t, f⟩ := Pt.fix_mixed ne n1 d1 cz
  have rf := Pt.rep_fix t f n1 d1 cz
  have ey : [A1, B1, C1, s1] = plY w2 := (eqR r2 rf).mp (by rw [show N' * D' - N' * D' = 0 by grind]; exact s_zero)
  obtain ⟨m1, m2⟩ := K16.four_pos r1 q1
  have pw1 := pos_act (x := itR (N, D) i) ⟨m1, m2⟩ (Bl.flw [A, B, C, sd] i)
  have dt := wm_det (Bl.flw [A, B, C, sd] i)
  unfold Mt.det at dt
  have r4 := (rep_ch4 (m := (wmx (Bl.flw [A, B, C, sd] i)).a) (n := (wmx (Bl.flw [A, B, C, sd] i)).b) (k := (wmx (Bl.flw [A, B, C, sd] i)).c) (l := (wmx (Bl.flw [A, B, C, sd] i)).d) r1 (by rw [dt]; decide) pw1.2).2
  have e5 : plG (Bl.flw [A, B, C, sd] i) w2 = bhPl (wmx (Bl.flw [A, B, C, sd] i)).a (wmx (Bl.flw [A, B, C, sd] i)).b (wmx (Bl.flw [A, B, C, sd] i)).c (wmx (Bl.flw [A, B, C, sd] i)).d [A1, B1, C1, s1] := by unfold plG; rw [← ey]
  rw [e5]
  refine (eqR r4 h).mp ?_
  have eN := congrArg Prod.fst eq1
  have eD := congrArg Prod.snd eq1
  simp only at eN eD
  show s (crs (act (wmx (Bl.flw [A, B, C, sd] i)) (itR (N, D) i)) (N, D)) = 0
  rw [← eq1]
  unfold crs
  rw [show ∀ x y : R, x * y - x * y = 0 from fun x y => by grind]
  exact s_zero
theorem mid {N D : R} {K A B C sd : Int} (h : RepR N D [A, B, C, sd]) (p : Pr N D) (sm : Fo.Sm K A B C sd) (n : Nat) :
    Bl.ltrPl (Bl.itPl [A, B, C, sd] n) = decide (¬ s (i ((wmx (Bl.flw [A, B, C, sd] n)).d + (wmx (Bl.flw [A, B, C, sd] n)).c) * N - i ((wmx (Bl.flw [A, B, C, sd] n)).b + (wmx (Bl.flw [A, B, C, sd] n)).a) * D) < 0) := by
  obtain ⟨A1, B1, C1, s1, e, r, q, _, eq⟩ := walk h p sm n
  obtain ⟨_, _, _, _, _, _, _, l2, _, _⟩ := rep_next r q
  rw [e, l2]
  have dt := wm_det (Bl.flw [A, B, C, sd] n)
  generalize wmx (Bl.flw [A, B, C, sd] n) = M at *
  have eN := congrArg Prod.fst eq
  have eD := congrArg Prod.snd eq
  unfold act at eN eD
  simp only at eN eD
  have : (i (M.d + M.c) * N - i (M.b + M.a) * D : R) = i M.det * ((itR (N, D) n).1 - (itR (N, D) n).2) := by
    unfold Mt.det
    rw [i_sub, i_mul, i_mul, i_add, i_add]
    generalize itR (N, D) n = Z at *
    grind
  rw [this, dt, i_one, show ∀ x : R, 1 * x = x from fun x => by grind]
end
theorem sm_of {R : Type} [CommRing R] [Em R] {N D : R} {A B C sd : Int} (h : RepR N D [A, B, C, sd]) (p : Pr N D) (ba : Bd 25 A) (bb : Bd 25 B) (bc : Bd 25 C) : Fo.Sm (2 ^ 60) A B C sd := by
  obtain ⟨n1, d1⟩ := K16.four_pos h p
  have hs := K16.sd_rep h
  cases h with
  | four A0 g dp dn e d0 hsd =>
  have dpos := nsq_pos dp dn
  have up : ∀ {z : Int} {n : Nat}, Bd n z → n ≤ 60 → z < 2 ^ 60 ∧ -(2 ^ 60) < z := fun {z n} hz hn => by
    have h1 : z.natAbs < 2 ^ 60 := Nat.lt_of_lt_of_le hz (Nat.pow_le_pow_right (by decide) hn)
    have h2 : (z.natAbs : Int) < 2 ^ 60 := by exact_mod_cast h1
    omega
  have bD : Bd 60 (B * B - 4 * A * C) := ((bb.mul bb).sub (((show Bd 3 4 from (show Int.natAbs 4 < 2 ^ 3 by decide)).mul ba).mul bc)).mono (by decide)
  have c0 : C ≠ 0 := fun z => by
    subst z
    refine dn ?_
    have : B * B - 4 * A * 0 = B * B := by omega
    rw [this]
    rcases Int.le_total 0 B with k | k
    · exact ⟨B, k, rfl⟩
    · exact ⟨-B, by omega, Int.neg_mul_neg B B⟩
  have sA : s (i A : R) = 1 := by rw [i_s]; exact sg_p A0
  have k1 := up ba (by decide)
  have k2 := up bb (by decide)
  have k3 := up bc (by decide)
  have k4 := up bD (by decide)
  have fm : Fo.Fm (2 ^ 60) A B C := by
    rcases Int.lt_or_gt_of_ne c0 with q | q
    · exact .sep A0 q
    · refine .both A0 q ?_ (by omega) (by omega) (by omega)
      by_cases b0 : B < 0
      · exact b0
      · exfalso
        have t1 : s (i A * (N * N)) = 1 := by rw [mul, mul, sA, n1]; rfl
        have t2 : s (i B * (N * D)) = 1 ∨ s (i B * (N * D)) = 0 := K16.nn_mul (by omega) (.inl (by rw [mul, n1, d1]; rfl))
        have t3 : s (i C * (D * D)) = 1 ∨ s (i C * (D * D)) = 0 := K16.nn_mul (by omega) (.inl (by rw [mul, d1]; rfl))
        have := s_add1 _ _ (s_add1 _ _ t1 t2) t3
        omega
  refine ⟨fm, dpos, by omega, dn, hs, fun q => ?_, g⟩
  have t3 : s (-(i C * (D * D))) = 1 := by rw [neg, mul, mul, d1, i_s, sg_n q]; rfl
  have e2 : s (N * (i A * N + i B * D)) = 1 := by
    rw [← t3]
    refine s_sub0 _ _ ?_
    rw [show N * (i A * N + i B * D) - -(i C * (D * D)) = i A * (N * N) + i B * (N * D) + i C * (D * D) by grind]
    exact e
  rw [mul, n1, Int.one_mul] at e2
  have : s (2 * i A * N + i B * D) = 1 := by
    rw [show 2 * i A * N + i B * D = i A * N + (i A * N + i B * D) by grind]
    exact add _ _ (by rw [mul, sA, n1]; rfl) e2
  rw [← hsd, this]
theorem val {d : Int} (hd : 0 ≤ d) (p q r X Y : Int) : (E1 hd).s ((E1 hd).i X * (⟨p, q⟩ : R1 d) - (E1 hd).i Y * ⟨r, 0⟩) = swr (p * X - Y * r) (q * X) d := by
  rw [← sq_swr hd]
  have : ((E1 hd).i X * (⟨p, q⟩ : R1 d) - (E1 hd).i Y * ⟨r, 0⟩) = (⟨p * X - Y * r, q * X⟩ : R1 d) := by
    apply ext'
    · show X * p + 0 * q * d - (Y * r + 0 * 0 * d) = p * X - Y * r
      grind
    · show X * q + 0 * p - (Y * 0 + 0 * r) = q * X
      grind
  rw [this]; rfl
/-- what the law asks of an edge made of four numbers -/
structure Fact (p q d r : Int) (A B C sd f : Int) : Prop where
  sm : Fo.Sm (2 ^ 60) A B C sd
  f0 : 0 < f
  fb : Bd 10 f
  rl : Rl f (q * q * r * r * d) (sg q * p * r) (sg q * r * r) [A, B, C, sd]
  it : ∀ n, ∃ A' B' C' sd' : Int, Bl.itPl [A, B, C, sd] n = [A', B', C', sd'] ∧ Fo.Sm (2 ^ 60) A' B' C' sd'
  md : ∀ n, Bl.ltrPl (Bl.itPl [A, B, C, sd] n) = decide (¬ swr (p * ((wmx (Bl.flw [A, B, C, sd] n)).d + (wmx (Bl.flw [A, B, C, sd] n)).c) - ((wmx (Bl.flw [A, B, C, sd] n)).b + (wmx (Bl.flw [A, B, C, sd] n)).a) * r) (q * ((wmx (Bl.flw [A, B, C, sd] n)).d + (wmx (Bl.flw [A, B, C, sd] n)).c)) d < 0)
  pt : ∀ {i j : Nat}, i < j → j ≤ 100 → Bl.itPl [A, B, C, sd] j = Bl.itPl [A, B, C, sd] i → (∀ m n, m < n → n < j → Bl.itPl [A, B, C, sd] m ≠ Bl.itPl [A, B, C, sd] n) → PartsOk [A, B, C, sd] i j ∧ (Bl.flw [A, B, C, sd] j).drop i ≠ [] ∧ plG (Bl.flw [A, B, C, sd] i) ((Bl.flw [A, B, C, sd] j).drop i) = [A, B, C, sd]
theorem fact {p q d r s0 : Int} (hp : -10 ≤ p ∧ p ≤ 10) (hq : -4 ≤ q ∧ q ≤ 4) (hd : 0 ≤ d ∧ d ≤ 20) (hr : 1 ≤ r ∧ r ≤ 6) (w : 0 < swr p q d) (t0 : 0 ≤ s0) (q0 : q ≠ 0) (dn : ¬ isq d) : ∃ A B C sd f : Int, rootPl p q d r s0 = [A, B, C, sd] ∧ Fact p q d r A B C sd f := by
  letI := E1 hd.1
  have f1 : 0 < r := by omega
  have rr : 0 < r * r := Int.mul_pos f1 f1
  have up : ∀ z : Int, -1000 ≤ z → z ≤ 1000 → Bd 10 z := fun z h1 h2 => (show z.natAbs < 1024 by omega)
  unfold rootPl
  rw [if_neg (fun z => z.elim q0 fun z => dn ⟨s0, t0, z⟩)]
  obtain ⟨a, b, c, f, red, ⟨qa, qb, qc⟩, e4⟩ := K10.lwd_pos (A := r * r) (B := -2 * p * r) (C := p * p - q * q * d) (s := if 0 < q then 1 else -1) rr
  have sd : (if 0 < q then (1 : Int) else -1) = sg q := by
    rcases Int.lt_trichotomy q 0 with z | z | z
    · rw [if_neg (by omega), sg_n z]
    · exact absurd z q0
    · rw [if_pos z, sg_p z]
  rw [e4, sd]
  have bp := up p (by omega) (by omega)
  have bq := up q (by omega) (by omega)
  have bd := up d (by omega) (by omega)
  have br := up r (by omega) (by omega)
  have rp := rep_pair (g := ⟨p, q, d, r⟩) hd.1 (.four hd.1 f1 q0 dn red rfl) w
  have n1 : s (⟨p, q⟩ : R1 d) = 1 := by
    have := sq_swr hd.1 p q
    rcases tri (⟨p, q⟩ : R1 d) with z | z | z
    · exact z
    · exact absurd (this.symm.trans z) (by omega)
    · exact absurd (this.symm.trans z) (by omega)
  have n2 : s (⟨r, 0⟩ : R1 d) = 1 := (sq_swr hd.1 r 0).trans (by rw [swr_0]; exact sg_p f1)
  have pp : Pr (⟨p, q⟩ : R1 d) ⟨r, 0⟩ := ⟨.inl n1, .inl n2, .inl n1⟩
  have sm := sm_of rp pp ((qa 20 (br.mul br)).mono (by decide)) ((qb 25 ((((show Bd 2 (-2) from (show Int.natAbs (-2) < 2 ^ 2 by decide)).mul bp).mul br).mono (by decide))).mono (by decide)) (qc 25 (by
    have e1 : 0 ≤ p * p ∧ p * p ≤ 100 := by
      have h1 : p.natAbs * p.natAbs ≤ 10 * 10 := Nat.mul_le_mul (by omega) (by omega)
      have h2 : p * p = ((p.natAbs * p.natAbs : Nat) : Int) := by rw [← Int.natAbs_mul_self]; 
      omega
    have e2 : 0 ≤ q * q ∧ q * q ≤ 16 := by
      have h1 : q.natAbs * q.natAbs ≤ 4 * 4 := Nat.mul_le_mul (by omega) (by omega)
      have h2 : q * q = ((q.natAbs * q.natAbs : Nat) : Int) := by rw [← Int.natAbs_mul_self]; 
      omega
    have e3 : q * q * d ≤ 16 * 20 := Int.mul_le_mul e2.2 hd.2 hd.1 (by decide)
    have e4 : 0 ≤ q * q * d := Int.mul_nonneg e2.1 hd.1
    exact (show Int.natAbs _ < 2 ^ 25 by omega)))
  have fa := red.ha
  have fb := red.hb
  have fc := red.hc
  have f0 := red.f0
  refine ⟨a, b, c, sg q, f, rfl, sm, f0, ?_, ⟨?_, ?_, ?_⟩, fun n => ?_, fun n => ?_, fun ij j1 re nd => parts_law rp pp sm (by decide) ij j1 re nd⟩
  · refine up f (by omega) ?_
    have A0 := sm.f.pos
    have h1 : f * 1 ≤ f * a := Int.mul_le_mul_of_nonneg_left (by omega) (by omega)
    have h2 : r * r ≤ 6 * 6 := Int.mul_le_mul hr.2 hr.2 (by omega) (by decide)
    omega
  · rw [Int.mul_assoc (sg q) f b, fb]; grind
  · rw [Int.mul_assoc (sg q) f a, fa]; grind
  · rw [show f * f * (b * b - 4 * a * c) = (f * b) * (f * b) - 4 * (f * a) * (f * c) by grind, fa, fb, fc]; grind
  · obtain ⟨A', B', C', sd', e, _, _, h, _⟩ := walk rp pp sm n
    exact ⟨A', B', C', sd', e, h⟩
  · have m := mid rp pp sm n
    have v := val hd.1 p q r ((wmx (Bl.flw [a, b, c, sg q] n)).d + (wmx (Bl.flw [a, b, c, sg q] n)).c) ((wmx (Bl.flw [a, b, c, sg q] n)).b + (wmx (Bl.flw [a, b, c, sg q] n)).a)
    rw [m, ← v]
/-- the first letters of an edge -/
inductive LtN (n : Nat) : List Int → List Bool → Prop
  | zero : LtN n [0, 1] (List.replicate n false)
  | endl : LtN n [1, 0] (List.replicate n true)
  | frac {u : List Bool} (hu : u.length ≤ 200) : LtN n [((pr u).1 : Int), ((pr u).2 : Int)] (u.take n)
  | root {K A B C sd : Int} (h : Fo.Sm K A B C sd) (hK : K < 2 ^ 88) : LtN n [A, B, C, sd] (Bl.flw [A, B, C, sd] n)
end K13

/-! ## k13: the law's own -/
open K13 Ed Eo Ep Eh Bl Sx
theorem enc_drop (u : List Bool) {k : Int} (h : 0 ≤ k) (h2 : k ≤ u.length) : cutS (enc u) (some k) none = enc (u.drop k.toNat) := by
  unfold cutS
  rw [enc_cps, enc_len]
  have e1 : HT.sIx u.length 0 (some k) = k.toNat := by
    unfold HT.sIx
    first | omega | (simp; omega) | (split <;> omega) | (simp only; split <;> omega)
  have e2 : HT.sIx u.length u.length none = u.length := rfl
  rw [e1, e2]
  unfold enc
  rw [List.map_drop, List.take_of_length_le (by rw [List.length_drop, List.length_map]; omega)]
namespace Sx
theorem pe_methC {X : Cx} {k : Nat} {C : Addr} {ps : List Str} {sp : Sp} {m : Str} {o a : Expr} {es : List Expr} {ta : TE} {t : TA} {pos apos : Pos} {pl : Sem Bool} (F : MtC X.prog X.w X.K X.mg X.base CX0 k C m ps sp) (c : Cls X.K C) (hr : Room k X.A) (he : PE X o ta) (ha : PA X (a :: es) t)
    (hst : starEach (a :: es) X.env = (false, eval a X.env) :: starEach es X.env := by rfl) (hpl : (backTo pos (starEach es X.env)).any (·.1) = false := by rfl)
    (ht : eval (.Call (.Attribute o m apos) (a :: es) [] pos) X.env = (do
      let ov ← eval o X.env
      standAt apos.atName
      let (f, first) ← holding [ov] (getMethod ov m pl)
      callWith pos f first (backTo pos (starEach (a :: es) X.env)) (backToKw pos (keywordEach [] X.env))) := by rfl) : PE X (.Call (.Attribute o m apos) (a :: es) [] pos) (tMeth C m sp [] E0 ta t) := by
  obtain ⟨f, fd, h, M, hb⟩ := F.ex
  exact pe_meth (pl := pl) he c M h hr hb .nil pass0 ha hst hpl ht
end Sx
namespace K13
open Or
theorem gN_go {σ : L2.St} {i : Nat} {v : V} {H : Hp} {Q : L2.St → Hp → Prop} (h : Q (σ.set i (some v)) H) : gName i v σ H Q := h
def Sz (p q d r : Int) : Prop := Bd 10 p ∧ Bd 10 q ∧ Bd 10 d ∧ Bd 10 r ∧ 0 ≤ d
def sp_llet : Sp := fun vs H Q _ => ∃ (t : Addr) (p q d r A B C sd f : Int) (n : Nat), vs = [.ref t, .int (n : Nat)] ∧ H t = some (.tup [.int p, .int q, .int d, .int r]) ∧ Sz p q d r ∧ Fact p q d r A B C sd f ∧ n ≤ 300 ∧ ∀ H', Same H H' → Q (.str (enc (Bl.flw [A, B, C, sd] n))) H'
def sp_lstep : Sp := fun vs H Q _ => ∃ t u I c : Int, vs = [.int t, .int u, .int I] ∧ Bd 100 t ∧ Bd 100 u ∧ Bd 100 I ∧ 0 ≤ I ∧ swr (t - u) 1 I * sg u = c ∧ (0 < c → New H (.tup [.str (enc [true]), .int (t - u), .int u]) Q) ∧
  (¬ 0 < c → ∃ back x : Int, u ≠ 0 ∧ I - t * t = u * back ∧ back ≠ 0 ∧ I - (0 - t - back) * (0 - t - back) = back * x ∧ Bd 100 back ∧ New H (.tup [.str (enc [false]), .int (t + back), .int x]) Q)
def sp_lparts : Sp := fun vs H Q _ => ∃ (t : Addr) (p q d r A B C sd f : Int), vs = [.ref t] ∧ H t = some (.tup [.int p, .int q, .int d, .int r]) ∧ Sz p q d r ∧ Fact p q d r A B C sd f ∧ (∀ H', Same H H' → Q .non H') ∧
  ∀ i j : Nat, i < j → j ≤ 60 → Bl.itPl [A, B, C, sd] j = Bl.itPl [A, B, C, sd] i → (∀ m n, m < n → n < j → Bl.itPl [A, B, C, sd] m ≠ Bl.itPl [A, B, C, sd] n) → New H (.tup [.str (enc (Bl.flw [A, B, C, sd] i)), .str (enc ((Bl.flw [A, B, C, sd] j).drop i))]) Q
def sp_lettersN (CE : Addr) : Sp := fun vs H Q _ => ∃ (e : Addr) (pl : List Int) (W : List Bool) (n : Nat), vs = [.ref e, .int (n : Nat)] ∧ n ≤ 300 ∧ EdgeAt CE H e pl ∧ LtN n pl W ∧ ∀ H', Same H H' → Q (.str (enc W)) H'
def sp_right : Sp := fun vs H Q _ => ∃ (b t : Addr) (p q d r : Int), vs = [.ref b, .ref t] ∧ BoxAt H b ∧ t ≠ b ∧ H t = some (.tup [.int p, .int q, .int d, .int r]) ∧ (-10 ≤ p ∧ p ≤ 10) ∧ (-4 ≤ q ∧ q ≤ 4) ∧ (0 ≤ d ∧ d ≤ 20) ∧ (1 ≤ r ∧ r ≤ 6) ∧ 0 < swr p q d ∧ q ≠ 0 ∧ ¬ isq d ∧ ∀ H', Keep b H H' → BoxAt H' b → Q (.bl true) H'
def sp_lawE (K : PySem.W.Frag) : Sp := fun vs H Q _ => ∃ (a : Addr) (ns : List Int), vs = [.ref a] ∧ SqL K H a (ns.map V.int) ∧ ns.length ≤ 63 ∧ ∀ H', Q (.bl true) H'
def tuOf (f : Int) : List Int → List Int
  | [A, B, _, sd] => [(-(sd * f * B)) / 2, sd * f * A]
  | _ => []
theorem tuOf_rl {f I t u : Int} {pl : List Int} (r : Rl f I t u pl) : tuOf f pl = [t, u] := by
  match pl, r with
  | [A, B, C, sd], ⟨r1, r2, _⟩ =>
    show [(-(sd * f * B)) / 2, sd * f * A] = _
    rw [← r1, ← r2, Int.mul_ediv_cancel_left _ (by decide)]
theorem edge_let {CE : Addr} {H : Hp} {e : Addr} {pl : List Int} (h : EdgeAt CE H e pl) : ∃ dx fs, H e = some (.ins CE dx fs) ∧ fs.lookup ("letters" : Str) = none := by
  unfold EdgeAt at h
  split at h
  · obtain ⟨dx, t, fs, h1, h2, h2', h3⟩ := h
    exact ⟨dx, fs, h1, h2'.2⟩
  · obtain ⟨dx, t, m, fs, h1, h2, h2', h3, h4⟩ := h
    exact ⟨dx, fs, h1, h2'.2⟩
  · exact h.elim
end K13
section
variable {P : Program} {w : World} {K : PySem.W.Frag} {mg : Str → Option Value} {base : Heap}
theorem ok_lstep {f : Addr} {fd : FuncData} (F : Fun K "_law_one_step" "_law_one_step" S__law_one_step f fd) (T : Txt K mg) (C_lsign : FnC P w K mg base CX0 1 "_law_sign" ["_law_number"] sp_sign) (C_lsr : FnC P w K mg base CX0 2 "_law_sign_root" ["_law_one", "_law_times", "_law_inner"] sp_lsr) : FnOk P w K mg base CX0 3 f fd ["_law_top", "_law_under", "_law_inner"] sp_lstep := by
  refine F.ok SC__law_one_step (fun vs H Q E h => ?_) (fun cdv A outer s H vs Q E hr h => ?_)
  · obtain ⟨t, u, I, c, rfl, _⟩ := h
    rfl
  · obtain ⟨t, u, I, c, rfl, bt, bu, bI, I0, ec, k1, k2⟩ := h
    refine ⟨_, (pss_cons (ps_if (pt_cmpR op_gt (pe_op op_mulW (pe_callC C_lsr (hr.mono (by decide)) rfl (pa_cons (pe_op op_sub (pv 0) (pv 1)) (pa_cons pe_int (pa_cons (pv 2) pa_nil)))) (pe_callC C_lsign (hr.mono (by decide)) rfl (pa_cons (pv 1) pa_nil))) pe_int (nomark _)) (pss_one (ps_ret (pe_tupN (pa_cons pe_str (pa_cons (pe_op op_sub (pv 0) (pv 1)) (pa_cons (pv 1) pa_nil)))))) pss_nil)
      (pss_cons (ps_set (i := 3) SC__law_one_step.nd rfl (.inl rfl) (pe_op op_fdivG (pe_op op_sub (pv 2) (pe_op op_mulW (pv 0) (pv 0))) (pv 1)))
      (pss_cons (ps_set (i := 4) SC__law_one_step.nd rfl (.inl rfl) (pe_op op_sub (pe_op op_sub pe_int (pv 0)) (pv 3)))
      (pss_one (ps_ret (pe_tupN (pa_cons pe_str (pa_cons (pe_op op_sub pe_int (pv 4)) (pa_cons (pe_op op_fdivG (pe_op op_sub (pv 2) (pe_op op_mulW (pv 4) (pv 4))) (pv 3)) pa_nil))))))))), ?_⟩
    have bs := Bd.sub bt bu
    have b1 : Bd 64 1 := Bd.lit (by decide)
    have bm := Bd.cm (Bd.swr (t - u) 1 I) (Bd.sg u) (by decide)
    walk_at "kw"
    rw [ec]
    refine ite2 (fun h => ?_) (fun h => ?_)
    · have hc : 0 < c := of_decide_eq_true h
      walk_at "kw"
      exact k1 hc
    · have hc : ¬ 0 < c := fun e => h (decide_eq_true e)
      obtain ⟨back, x, u0, e1, b0, e2, bb, k⟩ := k2 hc
      have d1 : Int.fdiv (I - t * t) u = back := Int.fdiv_eq_of_eq_mul_right u0 e1
      have d2 : Int.fdiv (I - (0 - t - back) * (0 - t - back)) back = x := Int.fdiv_eq_of_eq_mul_right b0 e2
      have cg := Bd.cg (i := I - t * t) u0 bu (by decide)
      walk_at "kw"
      have e3 : 0 - (0 - t - back) = t + back := by omega
      have el : Str.ofString "l" = enc [false] := by decide +kernel
      show New H (HO.tup [V.str (Str.ofString "l"), V.int (0 - (0 - t - (I - t * t).fdiv u)), V.int ((I - (0 - t - (I - t * t).fdiv u) * (0 - t - (I - t * t).fdiv u)).fdiv ((I - t * t).fdiv u))]) Q
      rw [d1, d2, e3, el]
      exact k
theorem ok_eparts2 {f CE : Addr} {fd : FuncData} (F : Fun K "parts" "Edge.parts" S_Edge_parts f fd) (T : Txt K mg) (Re : EdgT K mg CE) : FnOk P w K mg base CX0 1 f fd ["self"] (sp_eparts2 CE) := by
  refine F.ok SC_Edge_parts (fun vs H Q E h => ?_) (fun cdv A outer s H vs Q E hr h => ?_)
  · obtain ⟨e, x, y, rfl, _⟩ := h
    rfl
  · obtain ⟨e, x, y, rfl, he, k⟩ := h
    refine ⟨_, (pss_one (ps_ret (pe_ifExp (pt_cmpR op_eq (pe_callB call_len_seq (by rfl) T.b_len (by decide +kernel) (pa_cons (pe_fld (pv 0) rfl) pa_nil)) pe_int (nomark _)) pe_non pe_never))), ?_⟩
    obtain ⟨dx, t, fs, h1, h2, h3⟩ := he.at
    refine ⟨_, rfl, e, CE, dx, _, _, rfl, h1, Re.ins.cl, Re.n1, h2, t, _, rfl, .inr (SqT.of h3), rfl, _, rfl, ifT rfl k⟩
theorem ok_llet {f : Addr} {fd : FuncData} (F : Fun K "_law_letters" "_law_letters" S__law_letters f fd) (T : Txt K mg) (C_lsr : FnC P w K mg base CX0 2 "_law_sign_root" ["_law_one", "_law_times", "_law_inner"] sp_lsr) : FnOk P w K mg base CX0 3 f fd ["_law_given", "_law_count"] sp_llet := by
  refine F.ok SC__law_letters (fun vs H Q E h => ?_) (fun cdv A outer s H vs Q E hr h => ?_)
  · obtain ⟨t, p, q, d, r, A, B, C, sd, g, n, rfl, _⟩ := h
    rfl
  · obtain ⟨t, p, q, d, r, A, B, C, sd, g, n, rfl, ht, ⟨bp, bq, bd, br, d0⟩, ft, hn, k⟩ := h
    refine ⟨_, (pss_cons (ps_asg (pe_tupN (pa_cons (pe_tupN (pa_cons pe_int (pa_cons pe_int pa_nil))) (pa_cons (pe_tupN (pa_cons pe_int (pa_cons pe_int pa_nil))) (pa_cons pe_str pa_nil)))) (pg_tup rfl (pgs_cons (pg_name (i := 2) SC__law_letters.nd rfl (.inl rfl)) (pgs_cons (pg_name (i := 3) SC__law_letters.nd rfl (.inl rfl)) (pgs_cons (pg_name (i := 4) SC__law_letters.nd rfl (.inl rfl)) pgs_nil)))))
      (pss_nrm (pss_cons (ps_asg (pv 0) (pg_tup rfl (pgs_cons (pg_name (i := 5) SC__law_letters.nd rfl (.inl rfl)) (pgs_cons (pg_name (i := 6) SC__law_letters.nd rfl (.inl rfl)) (pgs_cons (pg_name (i := 7) SC__law_letters.nd rfl (.inl rfl)) (pgs_cons (pg_name (i := 8) SC__law_letters.nd rfl (.inl rfl)) pgs_nil))))))
      (pss_nrm (pss_cons (ps_while PassesOwn.never (pt_cmpR op_lt (pe_callB call_len_str (by rfl) T.b_len (by decide +kernel) (pa_cons (pv 4) pa_nil)) (pv 1) (nomark _)) (pss_cons (ps_par (i := 9) (j := 10) (by rfl) SC__law_letters.nd rfl rfl (by decide) rfl rfl (pa_cons (pe_op op_add (pe_ix ix_tup (pv 2) pe_int (fun _ _ => rfl)) (pe_ix ix_tup (pv 3) pe_int (fun _ _ => rfl))) (pa_cons (pe_op op_add (pe_ix ix_tup (pv 2) pe_int (fun _ _ => rfl)) (pe_ix ix_tup (pv 3) pe_int (fun _ _ => rfl))) pa_nil)) (by rfl))
      (pss_one (ps_if (pt_cmpR op_lt (pe_callC C_lsr (hr.mono (by decide)) rfl (pa_cons (pe_op op_sub (pe_op op_mulW (pv 5) (pv 10)) (pe_op op_mulW (pv 9) (pv 8))) (pa_cons (pe_op op_mulW (pv 6) (pv 10)) (pa_cons (pv 7) pa_nil)))) pe_int (nomark _)) (pss_one (ps_par (i := 3) (j := 4) (by rfl) SC__law_letters.nd rfl rfl (by decide) rfl rfl (pa_cons (pe_tupN (pa_cons (pv 9) (pa_cons (pv 10) pa_nil))) (pa_cons (pe_op op_add_str (pv 4) pe_str) pa_nil)) (by rfl))) (pss_one (ps_par (i := 2) (j := 4) (by rfl) SC__law_letters.nd rfl rfl (by decide) rfl rfl (pa_cons (pe_tupN (pa_cons (pv 9) (pa_cons (pv 10) pa_nil))) (pa_cons (pe_op op_add_str (pv 4) pe_str) pa_nil)) (by rfl)))))))
      (pss_one (ps_ret (pv 4)))))))), ?_⟩
    have em : Str.ofString "" = enc [] := lit_e
    refine ⟨by show 2 ≤ 1000000; decide, fun q1 H1 n1 s1 h1 => ⟨by show 2 ≤ 1000000; decide, fun q2 H2 n2 s2 h2 => ⟨by show 3 ≤ 1000000; decide, fun q3 H3 n3 s3 h3 => ⟨q3, _, rfl, SqT.of h3, rfl, _, _, rfl, _, _, rfl, _, _, rfl, rfl, ?_⟩⟩⟩⟩
    have s13 := s1.trans (s2.trans s3)
    walk_at "nrm"
    refine ⟨_, rfl, t, _, rfl, SqT.of (s13 _ _ ht), rfl, _, _, rfl, _, _, rfl, _, _, rfl, _, _, rfl, rfl, ?_⟩
    walk_at "nrm"
    refine while_by (fun σ H' => Same H H' ∧ ∃ (m : Nat) (p1 p2 : Addr) (y9 y10 : Option V), m ≤ n ∧ σ = [some (.ref t), some (.int (n : Nat)), some (.ref p1), some (.ref p2), some (.str (enc (Bl.flw [A, B, C, sd] m))), some (.int p), some (.int q), some (.int d), some (.int r), y9, y10] ∧
        H' p1 = some (.tup [.int (wmx (Bl.flw [A, B, C, sd] m)).b, .int (wmx (Bl.flw [A, B, C, sd] m)).d]) ∧ H' p2 = some (.tup [.int (wmx (Bl.flw [A, B, C, sd] m)).a, .int (wmx (Bl.flw [A, B, C, sd] m)).c]))
      (fun σ _ => match σ with | _ :: _ :: _ :: _ :: some (.str z) :: _ => n - z.length | _ => 0) ⟨s13, 0, q1, q2, none, none, Nat.zero_le _, by rw [em]; rfl, s3 _ _ (s2 _ _ h1), s3 _ _ h2⟩ (fun σ H4 hP => ?_) (fun σ H Q Q' h q => ?_)
    · obtain ⟨sm, m, p1, p2, y9, y10, mn, rfl, g1, g2⟩ := hP
      have ml : (enc (Bl.flw [A, B, C, sd] m)).length = m := by rw [enc_len, Bl.flw_len]
      obtain ⟨wa, wb, wc, wd⟩ := wm_bd (u := Bl.flw [A, B, C, sd] m) (n := 301) (by rw [Bl.flw_len]; omega)
      have md := ft.md m
      have el : Str.ofString "l" = enc [false] := by decide +kernel
      have er : Str.ofString "r" = enc [true] := by decide +kernel
      have sn := Bl.flw_snoc [A, B, C, sd] m
      refine ⟨_, rfl, _, rfl, by rw [ml, sizeLine_eq]; omega, _, rfl, _, _, rfl, rfl, _, rfl, ?_⟩
      refine ite2 (fun h => ?_) (fun h => ?_)
      · have hm : m < n := by
          have := of_decide_eq_true h
          rw [ml] at this
          omega
        refine ⟨_, rfl, p1, _, _, _, rfl, rfl, SqT.of g1, atI_nat (j := 0) rfl, _, rfl, p2, _, _, _, rfl, rfl, SqT.of g2, atI_nat (j := 0) rfl, _, _, rfl, rfl, ?_⟩
        refine ⟨_, rfl, p1, _, _, _, rfl, rfl, SqT.of g1, atI_nat (j := 1) rfl, _, rfl, p2, _, _, _, rfl, rfl, SqT.of g2, atI_nat (j := 1) rfl, _, _, rfl, rfl, ?_⟩
        generalize hM : wmx (Bl.flw [A, B, C, sd] m) = M at *
        have bX : Bd 310 (M.d + M.c) := (wd.add wc).mono (by decide)
        have bY : Bd 310 (M.b + M.a) := (wb.add wa).mono (by decide)
        have c1 : CMulW p (M.d + M.c) := Bd.cm bp bX (by decide)
        have c2 : CMulW (M.b + M.a) r := Bd.cm bY br (by decide)
        have c3 : CMulW q (M.d + M.c) := Bd.cm bq bX (by decide)
        have b1 : Bd 400 (p * (M.d + M.c) - (M.b + M.a) * r) := ((bp.mul bX).sub (bY.mul br)).mono (by decide)
        have b2 : Bd 400 (q * (M.d + M.c)) := (bq.mul bX).mono (by decide)
        have b3 : Bd 400 d := bd.mono (by decide)
        walk_at "kw"
        refine ite2 (fun h2 => ?_) (fun h2 => ?_)
        · have lt0 := of_decide_eq_true h2
          rw [md, decide_eq_false (fun z => z lt0)] at sn
          have hs : enc (Bl.flw [A, B, C, sd] m) ++ Str.ofString "l" = enc (Bl.flw [A, B, C, sd] (m + 1)) := by rw [el, enc_app, sn]
          have hw := K13.wm_l (Bl.flw [A, B, C, sd] m)
          rw [← sn, hM] at hw
          refine ⟨_, rfl, _, rfl, by show 2 ≤ 1000000; decide, fun q4 H5 n5 s5 h5 => ⟨_, rfl, _, _, rfl, rfl, by rw [ml, sizeLine_eq, el, enc_len]; (show m + 1 ≤ _); omega, ?_⟩⟩
          rw [hs]
          refine ⟨_, _, rfl, ?_⟩
          refine ⟨⟨sm.trans s5, m + 1, p1, q4, _, _, by omega, rfl, ?_, ?_⟩, ?_⟩
          · rw [hw]; exact s5 _ _ g1
          · rw [hw, h5, Int.add_comm M.a, Int.add_comm M.c]
          · show n - (enc (Bl.flw [A, B, C, sd] (m + 1))).length < n - (enc (Bl.flw [A, B, C, sd] m)).length
            rw [enc_len, enc_len, Bl.flw_len, Bl.flw_len]; omega
        · have lt0 : ¬ _ := fun e => h2 (decide_eq_true e)
          rw [md, decide_eq_true lt0] at sn
          have hs : enc (Bl.flw [A, B, C, sd] m) ++ Str.ofString "r" = enc (Bl.flw [A, B, C, sd] (m + 1)) := by rw [er, enc_app, sn]
          have hw := K13.wm_r (Bl.flw [A, B, C, sd] m)
          rw [← sn, hM] at hw
          refine ⟨_, rfl, _, rfl, by show 2 ≤ 1000000; decide, fun q4 H5 n5 s5 h5 => ⟨_, rfl, _, _, rfl, rfl, by rw [ml, sizeLine_eq, er, enc_len]; (show m + 1 ≤ _); omega, ?_⟩⟩
          rw [hs]
          refine ⟨_, _, rfl, ?_⟩
          refine ⟨⟨sm.trans s5, m + 1, q4, p2, _, _, by omega, rfl, ?_, ?_⟩, ?_⟩
          · rw [hw, h5]
          · rw [hw]; exact s5 _ _ g2
          · show n - (enc (Bl.flw [A, B, C, sd] (m + 1))).length < n - (enc (Bl.flw [A, B, C, sd] m)).length
            rw [enc_len, enc_len, Bl.flw_len, Bl.flw_len]; omega
      · have hm : ¬ m < n := fun z => h (decide_eq_true (by rw [ml]; omega))
        have e : m = n := by omega
        subst e
        exact ⟨_, rfl, k H4 sm⟩
    · obtain ⟨v, e1, z, e2, e3, v2, e4, i, j, e5, e6, kk, e7, q⟩ := q
      exact ⟨v, e1, z, e2, e3, v2, e4, i, j, e5, e6, kk, e7, h _ _ q⟩
end
/-! ## k13: the law's parts -/
open K13 Ed Eo Ep Eh Bl Sx
namespace K13
open Or
theorem cmp_nz {K A B C sd : Int} (h : Fo.Sm K A B C sd) : cmp4 A B C sd [1, 1] ≠ 0 := by
  have A0 := h.f.pos
  obtain ⟨hp, hn⟩ := Fo.side (A := A) (B := B) (C := C) A0 h.dp h.s
  rcases Int.lt_or_gt_of_ne h.q0 with q | q
  · rw [hn q]; rcases h.s with e | e <;> rw [e] <;> decide
  · rw [hp q]
    have b0 : -B - 2 * A ≠ 0 := fun z => by
      have e : B = -(2 * A) := by omega
      have := h.dp
      rw [e] at this q
      have e2 : -(2 * A) * -(2 * A) - 4 * A * C = 4 * A * (A - C) := by grind
      rw [e2] at this
      have : 0 ≤ 4 * A * (C - A) := Int.mul_nonneg (by omega) (by omega)
      have e3 : 4 * A * (A - C) = -(4 * A * (C - A)) := by grind
      omega
    rcases K15.sg_nz b0 with e | e <;> rw [e] <;> decide
theorem rl_all {p q d r A B C sd f : Int} (ft : Fact p q d r A B C sd f) : ∀ m : Nat, ∃ t u : Int, Rl f (q * q * r * r * d) t u (Bl.itPl [A, B, C, sd] m)
  | 0 => ⟨_, _, ft.rl⟩
  | m + 1 => by
    obtain ⟨t, u, h⟩ := rl_all ft m
    obtain ⟨A', B', C', sd', e, sm⟩ := ft.it m
    show ∃ t u : Int, Rl f _ t u (Bl.nextPl (Bl.itPl [A, B, C, sd] m))
    rw [e] at h ⊢
    by_cases c : cmp4 A' B' C' sd' [1, 1] < 0
    · obtain ⟨_, x, _, _, _, _, h', _⟩ := st_l sm ft.f0 h c
      exact ⟨_, x, h'⟩
    · exact ⟨_, u, st_r sm h c⟩
theorem key_inj {p q d r A B C sd f : Int} (ft : Fact p q d r A B C sd f) {m n : Nat} (e : tuOf f (Bl.itPl [A, B, C, sd] m) = tuOf f (Bl.itPl [A, B, C, sd] n)) : Bl.itPl [A, B, C, sd] m = Bl.itPl [A, B, C, sd] n := by
  obtain ⟨t, u, h⟩ := rl_all ft m
  obtain ⟨t', u', h'⟩ := rl_all ft n
  rw [tuOf_rl h, tuOf_rl h'] at e
  injection e with e1 e; injection e with e2 _
  subst e1 e2
  obtain ⟨_, _, _, _, i1, s1⟩ := ft.it m
  obtain ⟨_, _, _, _, i2, s2⟩ := ft.it n
  rw [i1] at h ⊢
  rw [i2] at h' ⊢
  exact rl_inj s1 s2 ft.f0 h h'
end K13
section
variable {P : Program} {w : World} {K : PySem.W.Frag} {mg : Str → Option Value} {base : Heap}
theorem ok_lparts {f : Addr} {fd : FuncData} (F : Fun K "_law_parts" "_law_parts" S__law_parts f fd) (T : Txt K mg) (C_lsign : FnC P w K mg base CX0 1 "_law_sign" ["_law_number"] sp_sign) (C_lstep : FnC P w K mg base CX0 3 "_law_one_step" ["_law_top", "_law_under", "_law_inner"] sp_lstep) : FnOk P w K mg base CX0 4 f fd ["_law_given"] sp_lparts := by
  refine F.ok SC__law_parts (fun vs H Q E h => ?_) (fun cdv A outer s H vs Q E hr h => ?_)
  · obtain ⟨t, p, q, d, r, A, B, C, sd, g, rfl, _⟩ := h
    rfl
  · obtain ⟨t, p, q, d, r, A, B, C, sd, g, rfl, ht, ⟨bp, bq, bd, br, d0⟩, ft, kn, kp⟩ := h
    refine ⟨_, (pss_cons (ps_asg (pv 0) (pg_tup rfl (pgs_cons (pg_name (i := 1) SC__law_parts.nd rfl (.inl rfl)) (pgs_cons (pg_name (i := 2) SC__law_parts.nd rfl (.inl rfl)) (pgs_cons (pg_name (i := 3) SC__law_parts.nd rfl (.inl rfl)) (pgs_cons (pg_name (i := 4) SC__law_parts.nd rfl (.inl rfl)) pgs_nil))))))
      (pss_nrm (pss_cons (ps_par (i := 5) (j := 6) (by rfl) SC__law_parts.nd rfl rfl (by decide) rfl rfl (pa_cons (pe_callC C_lsign (hr.mono (by decide)) rfl (pa_cons (pv 2) pa_nil)) (pa_cons (pe_op op_mulW (pe_op op_mulW (pe_op op_mulW (pe_op op_mulW (pv 2) (pv 2)) (pv 4)) (pv 4)) (pv 3)) pa_nil)) (by rfl))
      (pss_cons (ps_par (i := 7) (j := 8) (by rfl) SC__law_parts.nd rfl rfl (by decide) rfl rfl (pa_cons (pe_op op_mulW (pe_op op_mulW (pv 5) (pv 1)) (pv 4)) (pa_cons (pe_op op_mulW (pe_op op_mulW (pv 5) (pv 4)) (pv 4)) pa_nil)) (by rfl))
      (pss_nrm (pss_cons (ps_par (i := 9) (j := 10) (by rfl) SC__law_parts.nd rfl rfl (by decide) rfl rfl (pa_cons pe_dnewT (pa_cons pe_str pa_nil)) (by rfl))
      (pss_cons (ps_while PassesOwn.never (pt_cmp (pc_dnotin (hu_of hr) (pe_tupN (pa_cons (pv 7) (pa_cons (pv 8) pa_nil))) (pv 9))) (pss_cons (ps_dput (hu_of hr) (pv 9) (pe_tupN (pa_cons (pv 7) (pa_cons (pv 8) pa_nil))) (pe_callB call_len_str (by rfl) T.b_len (by decide +kernel) (pa_cons (pv 10) pa_nil)) rfl)
      (pss_cons (ps_asg (pe_callC C_lstep (hr.mono (by decide)) rfl (pa_cons (pv 7) (pa_cons (pv 8) (pa_cons (pv 6) pa_nil)))) (pg_tup rfl (pgs_cons (pg_name (i := 11) SC__law_parts.nd rfl (.inl rfl)) (pgs_cons (pg_name (i := 7) SC__law_parts.nd rfl (.inl rfl)) (pgs_cons (pg_name (i := 8) SC__law_parts.nd rfl (.inl rfl)) pgs_nil)))))
      (pss_nrm (pss_cons (ps_set (i := 10) SC__law_parts.nd rfl (.inl rfl) (pe_op op_add_str (pv 10) (pv 11)))
      (pss_one (ps_if (pt_cmpR op_gt (pe_callB call_len_str (by rfl) T.b_len (by decide +kernel) (pa_cons (pv 10) pa_nil)) pe_int (nomark _)) (pss_one (ps_ret pe_non)) pss_nil)))))))
      (pss_cons (ps_set (i := 12) SC__law_parts.nd rfl (.inl rfl) (pe_dget (hu_of hr) (pv 9) (pe_tupN (pa_cons (pv 7) (pa_cons (pv 8) pa_nil))) (fun _ _ => rfl)))
      (pss_one (ps_ret (pe_tupN (pa_cons (pe_slice sl_str (pv 10) po_none (po_some (pv 12))) (pa_cons (pe_slice sl_str (pv 10) (po_some (pv 12)) po_none) pa_nil))))))))))))), ?_⟩
    have em : Str.ofString "" = enc [] := lit_e
    have bqq := bq.mul bq
    have bqr := bqq.mul br
    have bqs := bqr.mul br
    have c1 : CMulW q q := Bd.cm bq bq (by decide)
    have c2 : CMulW (q * q) r := Bd.cm bqq br (by decide)
    have c3 : CMulW (q * q * r) r := Bd.cm bqr br (by decide)
    have c4 : CMulW (q * q * r * r) d := Bd.cm bqs bd (by decide)
    have c5 : CMulW (sg q) p := Bd.cm (Bd.sg q) bp (by decide)
    have c6 : CMulW (sg q * p) r := Bd.cm ((Bd.sg q).mul bp) br (by decide)
    have c7 : CMulW (sg q) r := Bd.cm (Bd.sg q) br (by decide)
    have c8 : CMulW (sg q * r) r := Bd.cm ((Bd.sg q).mul br) br (by decide)
    have bI : Bd 100 (q * q * r * r * d) := (bqs.mul bd).mono (by decide)
    have I0 : 0 ≤ q * q * r * r * d := by
      have h3 := ft.rl.2.2
      have := Int.mul_pos (Int.mul_pos ft.f0 ft.f0) ft.sm.dp
      omega
    refine ⟨_, rfl, t, _, rfl, SqT.of ht, rfl, _, _, rfl, _, _, rfl, _, _, rfl, _, _, rfl, rfl, ?_⟩
    walk_at "nrm"
    have W0 := Hd.start H
    walk_at "kw"
    refine fun M hM => ?_
    have W1 := W0.new hM (.dT [])
    refine ⟨_, _, rfl, ?_⟩
    rw [em]
    generalize hI : q * q * r * r * d = I at *
    refine while_by (fun σ H' => ∃ (n : Nat) (tn un : Int) (y11 y12 : Option V), n ≤ 60 ∧ Hd H H' [(M, .dT (numd ((List.range n).map fun m => kP (tuOf g (Bl.itPl [A, B, C, sd] m)))))] ∧ Rl g I tn un (Bl.itPl [A, B, C, sd] n) ∧ (∀ m n', m < n' → n' < n → Bl.itPl [A, B, C, sd] m ≠ Bl.itPl [A, B, C, sd] n') ∧
        σ = [some (.ref t), some (.int p), some (.int q), some (.int d), some (.int r), some (.int (sg q)), some (.int I), some (.int tn), some (.int un), some (.ref M), some (.str (enc (Bl.flw [A, B, C, sd] n))), y11, y12])
      (fun σ _ => match σ with | _ :: _ :: _ :: _ :: _ :: _ :: _ :: _ :: _ :: _ :: some (.str z) :: _ => 61 - z.length | _ => 0) ⟨0, _, _, none, none, by omega, W1, hI ▸ ft.rl, fun _ _ _ h => absurd h (Nat.not_lt_zero _), rfl⟩ (fun σ H3 hP => ?_) (fun σ H Q Q' h q => ?_)
    · obtain ⟨n, tn, un, y11, y12, n60, W3, rl, nd, rfl⟩ := hP
      obtain ⟨A', B', C', sd', e, sm⟩ := ft.it n
      have tk := tuOf_rl rl
      have ml : (enc (Bl.flw [A, B, C, sd] n)).length = n := by rw [enc_len, Bl.flw_len]
      have key : ∀ {Hx : Hp} {k : Addr}, Hx k = some (.tup [.int tn, .int un]) → Hx k = some (.tup ((kP (tuOf g (Bl.itPl [A, B, C, sd] n))).map kV)) := fun {Hx k} h => by rw [kP_kV, tk]; exact h
      refine ⟨_, rfl, _, rfl, by show 2 ≤ 1000000; decide, fun k1 H4 n4 s4 h4 => ?_⟩
      have W4 := W3.call s4
      refine ⟨_, rfl, M, _, rfl, DGet.t (W4.get (.head _)) (key h4), _, rfl, ?_⟩
      rcases numd_cases (kP (tuOf g (Bl.itPl [A, B, C, sd] n))) ((List.range n).map fun m => kP (tuOf g (Bl.itPl [A, B, C, sd] m))) with ⟨hno, hne⟩ | ⟨a, hx1, hx2⟩
      · rw [hno]
        refine ifT rfl ?_
        have nd' : ∀ m n', m < n' → n' < n + 1 → Bl.itPl [A, B, C, sd] m ≠ Bl.itPl [A, B, C, sd] n' := fun m n' h1 h2 z => by
          rcases Nat.lt_or_ge n' n with h | h
          · exact nd m n' h1 h z
          · have en : n' = n := by omega
            subst en
            exact hne _ (List.mem_map.mpr ⟨m, List.mem_range.mpr h1, rfl⟩) (by rw [z])
        have em2 : putK (numd ((List.range n).map fun m => kP (tuOf g (Bl.itPl [A, B, C, sd] m)))) (kP (tuOf g (Bl.itPl [A, B, C, sd] n))) (V.int (n : Nat)) = numd ((List.range (n + 1)).map fun m => kP (tuOf g (Bl.itPl [A, B, C, sd] m))) := by
          have := numd_put hno
          rw [List.length_map, List.length_range] at this
          rw [this, List.range_succ, List.map_append]; rfl
        refine ⟨_, rfl, _, rfl, by rw [ml, sizeLine_eq]; omega, _, rfl, _, rfl, _, rfl, by show 2 ≤ 1000000; decide, fun k2 H5 n5 s5 h5 => ?_⟩
        have W5 := W4.call s5
        refine ⟨M, _, rfl, DPut.t (W5.get (.head _)) (key h5) (by rw [numd_len, List.length_map, List.length_range]; exact big (by omega)), ?_⟩
        rw [ml, em2]
        have W6 := W5.set 0 rfl (.dT (numd ((List.range (n + 1)).map fun m => kP (tuOf g (Bl.itPl [A, B, C, sd] m)))))
        have rl' : Rl g I tn un [A', B', C', sd'] := e ▸ rl
        obtain ⟨bt, bu, bc⟩ := rl_bd (n := 61) sm (by decide) ft.fb rl'
        have asg := ask_sg sm ft.f0 rl'
        have lt_ : Bl.ltrPl (Bl.itPl [A, B, C, sd] n) = decide (¬ cmp4 A' B' C' sd' [1, 1] < 0) := by rw [e]; rfl
        have nx_ : Bl.itPl [A, B, C, sd] (n + 1) = Bl.nextPl [A', B', C', sd'] := by rw [← e]; rfl
        have nz := cmp_nz sm
        refine (fun (fin : ∀ (b : Bool) (t' u' : Int), Bl.ltrPl (Bl.itPl [A, B, C, sd] n) = b → Rl g I t' u' (Bl.itPl [A, B, C, sd] (n + 1)) → New _ (.tup [.str (enc [b]), .int t', .int u']) _) => ⟨_, rfl, _, rfl, _, rfl, tn, un, I, _, rfl, bt.mono (by decide), bu.mono (by decide), bI, I0, asg,
          fun hc => fin true _ _ (by rw [lt_, decide_eq_true (show ¬ cmp4 A' B' C' sd' [1, 1] < 0 by omega)]) (by rw [nx_]; exact st_r sm rl' (by omega)), fun hc => ?_⟩) ?_
        · intro b t' u' hb rln p4 H7 n7 s7 h7
          have W7 := W6.call s7
          refine ⟨p4, _, rfl, SqT.of h7, rfl, _, _, rfl, _, _, rfl, _, _, rfl, rfl, ?_⟩
          walk_at "nrm"
          have hs : enc (Bl.flw [A, B, C, sd] n) ++ enc [b] = enc (Bl.flw [A, B, C, sd] (n + 1)) := by rw [enc_app, Bl.flw_snoc, hb]
          have ml2 : (enc (Bl.flw [A, B, C, sd] (n + 1))).length = n + 1 := by rw [enc_len, Bl.flw_len]
          refine ⟨_, rfl, _, rfl, _, _, rfl, rfl, by rw [ml, sizeLine_eq, enc_len]; (show n + 1 ≤ _); omega, ?_⟩
          rw [hs]
          refine gN_go ?_
          dsimp only [List.set_cons_succ, List.set_cons_zero]
          refine ⟨_, rfl, _, rfl, by rw [ml2, sizeLine_eq]; omega, _, _, rfl, rfl, _, rfl, ?_⟩
          refine ite2 (fun h => ?_) (fun h => ?_)
          · exact kn H7 W7.sm
          · have n1 : ¬ 60 < n + 1 := fun z => h (decide_eq_true (by rw [ml2]; omega))
            refine ⟨⟨n + 1, t', u', _, _, by omega, W7, rln, nd', rfl⟩, ?_⟩
            show 61 - (enc (Bl.flw [A, B, C, sd] (n + 1))).length < 61 - (enc (Bl.flw [A, B, C, sd] n)).length
            rw [ml, ml2]; omega
        · obtain ⟨back, x, u0, e1, b0, e2, r3, eb⟩ := st_l sm ft.f0 rl' (by omega)
          exact ⟨back, x, u0, e1, b0, e2, by rw [eb]; exact (Bd.neg bc).mono (by decide), fin false _ _ (by rw [lt_, decide_eq_false (show ¬ ¬ cmp4 A' B' C' sd' [1, 1] < 0 by omega)]) (by rw [nx_]; exact r3)⟩
      · rw [hx2]
        refine ifF rfl ?_
        rw [List.getElem?_map] at hx1
        obtain ⟨a', ha, ee⟩ := Option.map_eq_some_iff.mp hx1
        have al : a < n := by have := lt_at ha; rwa [List.length_range] at this
        rw [List.getElem?_range al] at ha
        cases ha
        have re := key_inj ft (kP_inj ee)
        refine ⟨_, rfl, _, rfl, _, rfl, by show 2 ≤ 1000000; decide, fun k2 H5 n5 s5 h5 => ?_⟩
        have W5 := W4.call s5
        have va : DGet H5 M (.ref k2) (some (V.int (a : Nat))) := hx2 ▸ DGet.t (W5.get (.head _)) (key h5)
        refine ⟨M, _, rfl, va, ?_⟩
        refine gN_go ?_
        dsimp only [List.set_cons_succ, List.set_cons_zero]
        refine ⟨_, rfl, _, rfl, _, rfl, _, rfl, by rw [ml, sizeLine_eq]; omega, ?_⟩
        refine ⟨_, rfl, _, rfl, _, rfl, _, rfl, by rw [ml, sizeLine_eq]; omega, by show 2 ≤ 1000000; decide, ?_⟩
        rw [enc_take _ (Int.natCast_nonneg a), enc_drop _ (Int.natCast_nonneg a) (by rw [Bl.flw_len]; omega), Int.toNat_natCast, Bl.flw_take (Nat.le_of_lt al)]
        exact W5.nw fun tt H6 f6 n6 s6 W6 => kp a n al n60 re.symm nd tt H6 f6 W6.sm (W6.get (.head _))
    · obtain ⟨v7, e7, v8, e8, sz, f⟩ := q
      exact ⟨v7, e7, v8, e8, sz, fun k H4 n4 s4 h4 => by
        obtain ⟨v9, e9, a1, o1, e3, d1, b, eb, q⟩ := f k H4 n4 s4 h4
        exact ⟨v9, e9, a1, o1, e3, d1, b, eb, h _ _ q⟩⟩
end
/-! ## k13: letters of any edge, the law -/
open K13 Ed Eo Ep Eh Bl Sx
namespace K13
open Or
theorem repS_one (b : Bool) (n : Nat) : repS ⟨#[cd b]⟩ n = enc (List.replicate n b) := by
  have : (⟨#[cd b]⟩ : Str) = enc [b] := rfl
  rw [this]
  unfold repS
  rw [enc_cps]
  unfold enc
  congr 2
  induction n with
  | zero => rfl
  | succ n ih => rw [List.replicate_succ, List.flatten_cons, ih, List.replicate_succ]; rfl
def EE (CE : Addr) (te : TE) (σ : L2.St) (H0 : Hp) (pl : List Int) : Prop := ∀ H, Same H0 H → ∀ Q : VK, (∀ (e : Addr) (H' : Hp), Same H H' → EdgeAt CE H' e pl → Q (.ref e) H') → te σ H Q
theorem okEnc (u : List Bool) : PyData.strOk (enc u) = true := by
  unfold PyData.strOk
  rw [← Array.all_toList, List.all_eq_true]
  intro c hc
  have hc' : c ∈ (enc u).cps.toList := hc
  rw [enc_cps] at hc'
  obtain ⟨b, _, rfl⟩ := List.mem_map.mp hc'
  cases b <;> decide +kernel
theorem sh2 (u v : List Bool) : SeqAt.shaped (.tuple [.str (enc u), .str (enc v)]) = true := by
  show ((PyData.strOk (enc u) && (PyData.strOk (enc v) && true)) && decide (PyData.depthAll [.str (enc u), .str (enc v)] + 1 ≤ 64)) = true
  rw [okEnc, okEnc]
  rfl
/-- what the law's parts are -/
def Due (pl : List Int) (H : Hp) (v : V) : Prop := v = .non ∨ ∃ (t : Addr) (i j : Nat), v = .ref t ∧ i < j ∧ j ≤ 60 ∧ Bl.itPl pl j = Bl.itPl pl i ∧ (∀ m n, m < n → n < j → Bl.itPl pl m ≠ Bl.itPl pl n) ∧ H t = some (.tup [.str (enc (Bl.flw pl i)), .str (enc ((Bl.flw pl j).drop i))])
theorem Due.keep {pl : List Int} {H H' : Hp} {v : V} {b : Addr} (h : Due pl H v) (hb : BoxAt H b) (k : Keep b H H') : Due pl H' v := by
  rcases h with h | ⟨t, i, j, e, a1, a2, a3, a4, ht⟩
  · exact .inl h
  · obtain ⟨x, sd, n, hB, _⟩ := hb
    exact .inr ⟨t, i, j, e, a1, a2, a3, a4, k _ _ (fun z => by rw [z, hB] at ht; cases ht) ht⟩
section
variable {K : PySem.W.Frag} {mg : Str → Option Value} {C CE : Addr} {σ : L2.St} {H0 H1 H H' : Hp} {te ta tb : TE} {tt : TT} {pl pl' : List Int} {u v : List Bool}
theorem EE.var {i : Nat} {e : Addr} (hσ : σ[i]? = some (some (.ref e))) (he : EdgeAt CE H0 e pl) : EE CE (tVar i) σ H0 pl := fun H s Q q => ⟨_, hσ, q e H (Same.refl H) (he.same s)⟩
theorem EE.con : EE CE (tCm CE (Kb.calm (sp_ecm CE pl)) (fun _ => E0) tNil) σ H0 pl := fun H s Q q => ⟨rfl, fun e H' _ s' he => q e H' s' he⟩
theorem EE.parts (h : VE ta σ H0 (.str (enc u))) (g : VE tb σ H0 (.str (enc v))) (l : u.length + v.length ≤ 62) (ne : v ≠ []) : EE CE (tCm CE (Kb.calm (sp_eofG CE)) (fun _ => E0) (tCons ta (tCons tb tNil))) σ H0 (plG u v) := fun H s Q q => h H s _ fun H1 s1 => g H1 (s.trans s1) _ fun H2 s2 => ⟨u, v, rfl, l, ne, fun e H3 _ s3 he => q e H3 (s1.trans (s2.trans s3)) he⟩
theorem VE.eqE (Re : EdgT K mg CE) (h : EE CE ta σ H0 pl) (g : EE CE tb σ H0 pl') : VE (tOp (rOwnI K CE (sp_eeq CE) E0) ta tb) σ H0 (.bl (decide (pl = pl'))) := fun H s Q q => h H s _ fun e H1 s1 he => g H1 (s.trans s1) _ fun e' H2 s2 he' => Eh.eqE Re (he.same s2) he' (q H2 (s1.trans s2))
theorem VE.mulS {b : Bool} {n : Nat} (h : VE ta σ H0 (.str (enc [b]))) (g : VE tb σ H0 (.int (n : Nat))) (hn : n ≤ 300) : VE (tOp rMulS ta tb) σ H0 (.str (enc (List.replicate n b))) := fun H s Q q => h H s _ fun H1 s1 => g H1 (s.trans s1) _ fun H2 s2 => by
  refine ⟨_, _, rfl, rfl, by omega, by omega, ?_, ?_⟩
  · rw [enc_len, Int.toNat_natCast]
    show 1 * n ≤ _
    omega
  · rw [Int.toNat_natCast]
    have e : repS (enc [b]) n = enc (List.replicate n b) := repS_one b n
    rw [e]
    exact q H2 (s1.trans s2)
theorem VE.takeS {n : Nat} (h : VE te σ H0 (.str (enc u))) (g : VE ta σ H0 (.int (n : Nat))) (hu : u.length ≤ 100000) : VE (tSl rSlS te tNoPart (tPart ta)) σ H0 (.str (enc (u.take n))) := fun H s Q q => h H s _ fun H1 s1 => g H1 (s.trans s1) _ fun H2 s2 => ⟨_, rfl, _, rfl, by rw [enc_len, sizeLine_eq]; omega, by rw [enc_take u (Int.natCast_nonneg n), Int.toNat_natCast]; exact q H2 (s1.trans s2)⟩
theorem VE.neS (h : VE ta σ H0 (.str (enc u))) (g : VE tb σ H0 (.str (enc v))) : VE (tOp rNe ta tb) σ H0 (.bl (!decide (u = v))) := fun H s Q q => h H s _ fun H' s' => g H' (s.trans s') _ fun H'' s'' => ⟨rfl, by
  rw [show decide (V.str (enc u) = V.str (enc v)) = decide (u = v) from by rw [Bool.eq_iff_iff, decide_eq_true_eq, decide_eq_true_eq]; exact ⟨fun e => enc_inj (V.str.inj e), fun e => by rw [e]⟩]
  exact q H'' (s'.trans s'')⟩
theorem VE.lettersN {n : Nat} {W : List Bool} (h : EE CE ta σ H0 pl) (g : VE tb σ H0 (.int (n : Nat))) (hn : n ≤ 300) (l : LtN n pl W) : VE (tMeth CE "letters" (sp_lettersN CE) [] E0 ta (tCons tb tNil)) σ H0 (.str (enc W)) := fun H s Q q => h H s _ fun e H1 s1 he => by
  obtain ⟨dx, fs, h1, h2⟩ := edge_let he
  refine ⟨e, dx, fs, rfl, h1, h2, ?_⟩
  exact g H1 (s.trans s1) _ fun H2 s2 => ⟨e, pl, W, n, rfl, hn, he.same s2, l, fun H3 s3 => q H3 (s1.trans (s2.trans s3))⟩
theorem VE.llet {n : Nat} {t : Addr} {p q' d r A B C sd f : Int} (h : VE ta σ H0 (.ref t)) (ht : H0 t = some (.tup [.int p, .int q', .int d, .int r])) (g : VE tb σ H0 (.int (n : Nat))) (hn : n ≤ 300) (sz : Sz p q' d r) (ft : Fact p q' d r A B C sd f) : VE (tCall sp_llet [] E0 (tCons ta (tCons tb tNil))) σ H0 (.str (enc (Bl.flw [A, B, C, sd] n))) := fun H s Q q => h H s _ fun H1 s1 => g H1 (s.trans s1) _ fun H2 s2 =>
  ⟨t, p, q', d, r, A, B, C, sd, f, n, rfl, s2 _ _ (s1 _ _ (s _ _ ht)), sz, ft, hn, fun H3 s3 => q H3 (s1.trans (s2.trans s3))⟩
def DueE (pl : List Int) (te : TE) (σ : L2.St) (H0 : Hp) : Prop := ∀ H, Same H0 H → ∀ Q : VK, (∀ (v : V) (H' : Hp), Same H H' → Due pl H' v → Q v H') → te σ H Q
theorem DueE.mk {t : Addr} {p q' d r A B C sd f : Int} (h : VE ta σ H0 (.ref t)) (ht : H0 t = some (.tup [.int p, .int q', .int d, .int r])) (sz : Sz p q' d r) (ft : Fact p q' d r A B C sd f) : DueE [A, B, C, sd] (tCall sp_lparts [] E0 (tCons ta tNil)) σ H0 := fun H s Q q => h H s _ fun H1 s1 =>
  ⟨t, p, q', d, r, A, B, C, sd, f, rfl, s1 _ _ (s _ _ ht), sz, ft, fun H2 s2 => q _ H2 (s1.trans s2) (.inl rfl), fun i j a1 a2 a3 a4 t2 H2 _ s2 h2 => q _ H2 (s1.trans s2) (.inr ⟨t2, i, j, rfl, a1, a2, a3, a4, h2⟩)⟩
end
end K13
section
variable {P : Program} {w : World} {K : PySem.W.Frag} {mg : Str → Option Value} {base : Heap}
theorem ok_lettersN {f C CE : Addr} {fd : FuncData} (F : Fun K "letters" "Edge.letters" S_Edge_letters f fd) (T : Txt K mg) (R : RatT K mg C) (Re : EdgT K mg CE) (P_eratio : PrC P w K mg base 6 CE "ratio" (sp_eratio C CE)) (P_word : PrC P w K mg base 2 C "word" (sp_word C)) (C_fl : FnC P w K mg base CX0 7 "first_letters" ["root", "count"] sp_fl) : FnOk P w K mg base CX0 8 f fd ["self", "count"] (sp_lettersN CE) := by
  refine F.ok SC_Edge_letters (fun vs H Q E h => ?_) (fun cdv A outer s H vs Q E hr h => ?_)
  · obtain ⟨e, pl, W, n, rfl, _⟩ := h
    rfl
  · obtain ⟨e, pl, W, n, rfl, hn, he, l, k⟩ := h
    refine ⟨_, (pss_cons (ps_if (pt_cmpR (op_inDT (hu65 hr)) (pe_fld (pv 0) rfl) (pe_tupN (pa_cons (pe_tupN (pa_cons pe_int (pa_cons pe_int pa_nil))) (pa_cons (pe_tupN (pa_cons pe_int (pa_cons pe_int pa_nil))) pa_nil))) (by rfl)) (pss_one (ps_ret (pe_op op_mul_str (pe_ix ix_str pe_str (pe_ix ix_tup (pe_fld (pv 0) rfl) pe_int (fun _ _ => rfl)) (fun _ _ => rfl)) (pv 1)))) pss_nil)
      (pss_cons (ps_if (pt_cmpR op_eq (pe_callB call_len_seq (by rfl) T.b_len (by decide +kernel) (pa_cons (pe_fld (pv 0) rfl) pa_nil)) pe_int (nomark _)) (pss_one (ps_ret (pe_slice sl_str (pe_propC P_word (hr.mono (by decide)) (pe_propC P_eratio (hr.mono (by decide)) (pv 0))) po_none (po_some (pv 1))))) pss_nil)
      (pss_one (ps_ret (pe_callC C_fl (hr.mono (by decide)) rfl (pa_cons (pe_fld (pv 0) rfl) (pa_cons (pv 1) pa_nil))))))), ?_⟩
    obtain ⟨dx, t, fs, h1, h2, h3⟩ := he.at
    refine ⟨_, rfl, e, CE, dx, _, _, rfl, h1, Re.ins.cl, Re.n1, h2, ?_⟩
    refine ⟨by show 2 ≤ 1000000; decide, fun t1 H1 n1 s1 k1 => ⟨by show 2 ≤ 1000000; decide, fun t2 H2 n2 s2 k2 => ⟨by show 2 ≤ 1000000; decide, fun t3 H3 n3 s3 k3 => ?_⟩⟩⟩
    have s13 := s1.trans (s2.trans s3)
    have d1 : Dp K H3 (.ref t1) (.tuple [.int 0, .int 1]) := .tup (SqT.of (s3 _ _ (s2 _ _ k1))) (.cons (.int 0) (.cons (.int 1) .nil))
    have d2 : Dp K H3 (.ref t2) (.tuple [.int 1, .int 0]) := .tup (SqT.of (s3 _ _ k2)) (.cons (.int 1) (.cons (.int 0) .nil))
    refine ⟨.tuple (pl.map PyData.int), [.tuple [.int 0, .int 1], .tuple [.int 1, .int 0]], dpIs (s13 _ _ h3), .tup (SqT.of k3) (.cons d1 (.cons d2 .nil)), shIs pl, rfl, _, rfl, ?_⟩
    have ev : ([.tuple [.int 0, .int 1], .tuple [.int 1, .int 0]] : List PyData).any (fun z => PyData.eqv z (.tuple (pl.map PyData.int))) = (decide ([0, 1] = pl) || decide ([1, 0] = pl)) := by
      have a1 := eqvT [0, 1] pl
      have a2 := eqvT [1, 0] pl
      show (PyData.eqv (.tuple [.int 0, .int 1]) _ || (PyData.eqv (.tuple [.int 1, .int 0]) _ || false)) = _
      rw [Bool.or_false, ← a1, ← a2]; rfl
    rw [ev]
    have g3 := s13 _ _ h3
    have h13 := s13 _ _ h1
    cases l with
    | zero =>
      refine ifT rfl ?_
      refine ⟨_, rfl, e, CE, dx, _, _, rfl, h13, Re.ins.cl, Re.n1, h2, ?_⟩
      refine ⟨t, _, 0, _, rfl, rfl, SqT.of g3, atI_nat (j := 0) rfl, _, 0, cd false, rfl, rfl, by show ("lr" : Str).length ≤ sizeLine; rw [sizeLine_eq]; decide +kernel, by decide +kernel, _, rfl, _, (n : Int), rfl, rfl, by omega, by omega, by rw [Int.toNat_natCast]; show 1 * n ≤ _; omega, ?_⟩
      rw [Int.toNat_natCast, repS_one]
      exact k H3 s13
    | endl =>
      refine ifT rfl ?_
      refine ⟨_, rfl, e, CE, dx, _, _, rfl, h13, Re.ins.cl, Re.n1, h2, ?_⟩
      refine ⟨t, _, 0, _, rfl, rfl, SqT.of g3, atI_nat (j := 0) rfl, _, 1, cd true, rfl, rfl, by show ("lr" : Str).length ≤ sizeLine; rw [sizeLine_eq]; decide +kernel, by decide +kernel, _, rfl, _, (n : Int), rfl, rfl, by omega, by omega, by rw [Int.toNat_natCast]; show 1 * n ≤ _; omega, ?_⟩
      rw [Int.toNat_natCast, repS_one]
      exact k H3 s13
    | frac hu =>
      rename_i u
      have pp := pr_pos u
      refine ifF ?_ ?_
      · rw [Bool.or_eq_false_iff]
        refine ⟨decide_eq_false fun z => ?_, decide_eq_false fun z => ?_⟩
        · injection z with z1 _; omega
        · injection z with _ z2; injection z2 with z2 _; omega
      refine ⟨_, rfl, e, CE, dx, _, _, rfl, h13, Re.ins.cl, Re.n1, h2, t, _, rfl, .inr (SqT.of g3), rfl, _, rfl, ifT rfl ?_⟩
      have ps := pr_small (u := u) (by omega)
      refine ⟨_, rfl, e, dx, _, rfl, h13, e, _, rfl, he.same s13, fun a b eq a0 b0 => ?_, fun z => ?_⟩
      · injection eq with e1 eq
        injection eq with e2 _
        subst e1 e2
        refine ⟨by omega, by omega, ps.1, ps.2, fun r H4 nr s4 hr => ?_⟩
        rw [(pr_div u).1, (pr_div u).2] at hr
        obtain ⟨dy, hy⟩ := id hr
        refine ⟨r, dy, _, rfl, hy, r, u, rfl, hr, by omega, fun H5 s5 => ?_⟩
        refine ⟨_, rfl, n, rfl, enc u, rfl, by rw [enc_len]; exact Nat.le_trans (show u.length ≤ 900 by omega) (by rw [sizeLine_eq]; decide), ?_⟩
        rw [enc_take u (k := (n : Int)) (by omega), Int.toNat_natCast]
        exact k H5 (s13.trans (s4.trans s5))
      · have := z _ _ rfl
        omega
    | root hs hK =>
      rename_i KK A B C' sd
      refine ifF ?_ ?_
      · rw [Bool.or_eq_false_iff]
        exact ⟨decide_eq_false fun z => (by have := congrArg List.length z; cases this), decide_eq_false fun z => (by have := congrArg List.length z; cases this)⟩
      refine ⟨_, rfl, e, CE, dx, _, _, rfl, h13, Re.ins.cl, Re.n1, h2, t, _, rfl, .inr (SqT.of g3), rfl, _, rfl, ifF rfl ?_⟩
      refine ⟨_, rfl, e, CE, dx, _, _, rfl, h13, Re.ins.cl, Re.n1, h2, _, rfl, t, A, B, C', sd, KK, (n : Int), rfl, g3, hs, hK, by omega, by omega, fun H4 s4 => ?_⟩
      rw [Int.toNat_natCast, (K13.fo_bl n _).1]
      exact k H4 (s13.trans s4)
theorem ok_right {f CE IE : Addr} {fd : FuncData} (F : Fun K "_law_right" "_law_right" S__law_right f fd) (T : Txt K mg) (Re : EdgT K mg CE) (C_take : FnC P w K mg base CX0 1 "_law_take" ["_law_box_here", "_law_many"] sp_take) (M_eroot : CmC P w K mg base CX0 4 CE "Edge" "root" ["cls", "p", "q", "d", "r"] (Kb.calm (sp_eroot CE IE K))) (C_lparts : FnC P w K mg base CX0 4 "_law_parts" ["_law_given"] sp_lparts) (C_llet : FnC P w K mg base CX0 3 "_law_letters" ["_law_given", "_law_count"] sp_llet)
    (M_letters : MtC P w K mg base CX0 8 CE "letters" ["self", "count"] (sp_lettersN CE)) (P_eparts : PrC P w K mg base 8 CE "parts" (Bl.sp_eparts CE)) (M_eofp : CmC P w K mg base CX0 8 CE "Edge" "of_parts" ["cls", "lead", "cycle"] (Kb.calm (sp_eofG CE))) (M_eeq : MtC P w K mg base CX0 1 CE "__eq__" ["self", "other"] (sp_eeq CE)) : FnOk P w K mg base CX0 10 f fd ["_law_box_here", "_law_given"] K13.sp_right := by
  refine F.ok SC__law_right (fun vs H Q E h => ?_) (fun cdv A outer s H vs Q E hr h => ?_)
  · obtain ⟨b, t, p, q, d, r, rfl, _⟩ := h
    rfl
  · obtain ⟨b, t, p, q, d, r, rfl, hb, tb, ht, hp, hq, hd, hr', w0, q0, dn, k⟩ := h
    refine ⟨_, (pss_cons (ps_par (i := 2) (j := 3) (by rfl) SC__law_right.nd rfl rfl (by decide) rfl rfl (pa_cons (pe_cmC M_eroot (hr.mono (by decide)) rfl (pa_cons (pe_ix ix_tup (pv 1) pe_int (fun _ _ => rfl)) (pa_cons (pe_ix ix_tup (pv 1) pe_int (fun _ _ => rfl)) (pa_cons (pe_ix ix_tup (pv 1) pe_int (fun _ _ => rfl)) (pa_cons (pe_ix ix_tup (pv 1) pe_int (fun _ _ => rfl)) pa_nil))))) (pa_cons (pe_callC C_lparts (hr.mono (by decide)) rfl (pa_cons (pv 1) pa_nil)) pa_nil)) (by rfl))
      (pss_cons (ps_set (i := 4) SC__law_right.nd rfl (.inl rfl) (pe_ix ix_list (pe_lstN (pa_cons (pe_callC C_take (hr.mono (by decide)) rfl (pa_cons (pv 0) (pa_cons pe_int pa_nil))) (pa_cons (pe_callC C_take (hr.mono (by decide)) rfl (pa_cons (pv 0) (pa_cons pe_int pa_nil))) pa_nil))) (pe_callTy call_intB (by rfl) T.b_int (by decide +kernel) (pa_cons (pe_cmpR op_eq (pe_callC C_take (hr.mono (by decide)) rfl (pa_cons (pv 0) (pa_cons pe_int pa_nil))) pe_int (nomark _)) pa_nil)) (fun _ _ => rfl)))
      (pss_nrm (pss_cons (ps_if (pt_cmpR op_ne (pe_methC M_letters Re.ins.cl (hr.mono (by decide)) (pv 2) (pa_cons (pv 4) pa_nil)) (pe_callC C_llet (hr.mono (by decide)) rfl (pa_cons (pv 1) (pa_cons (pv 4) pa_nil))) (nomark _)) (pss_one (ps_ret pe_bl)) pss_nil)
      (pss_cons (ps_if (pt_cmpR op_isN (pv 3) pe_non (nomark _)) (pss_one (ps_ret pe_bl)) pss_nil)
      (pss_one (ps_ret (pe_and (pe_cmpR (op_eqD hr.units) (pe_propC P_eparts (hr.mono (by decide)) (pv 2)) (pv 3) (nomark _)) (pe_one (pe_cmpR (op_ownI (op := .Eq) (fun _ _ => rfl) M_eeq (hr.mono (by decide))) (pe_cmC M_eofp (hr.mono (by decide)) rfl (pa_cons (pe_ix ix_tup (pv 3) pe_int (fun _ _ => rfl)) (pa_cons (pe_ix ix_tup (pv 3) pe_int (fun _ _ => rfl)) pa_nil))) (pv 2) (nomark _))))))))))), ?_⟩
    have up : ∀ z : Int, -1000 ≤ z → z ≤ 1000 → Bd 10 z := fun z h1 h2 => (show z.natAbs < 1024 by omega)
    have f1 : 0 < r := by omega
    have b1 := up p (by omega) (by omega)
    have b2 := up q (by omega) (by omega)
    have b3 := up d (by omega) (by omega)
    have b4 := up r (by omega) (by omega)
    refine ⟨_, rfl, t, _, _, _, rfl, rfl, SqT.of ht, atI_nat (j := 0) rfl, _, rfl, t, _, _, _, rfl, rfl, SqT.of ht, atI_nat (j := 1) rfl, _, rfl, t, _, _, _, rfl, rfl, SqT.of ht, atI_nat (j := 2) rfl, _, rfl, t, _, _, _, rfl, rfl, SqT.of ht, atI_nat (j := 3) rfl, ?_⟩
    refine K10.erootH (E := E0) (p := p) (q := q) (d := d) (r := r) ⟨b1.mono (by decide), b2.mono (by decide), b3.mono (by decide), b4.mono (by decide)⟩ hd.1 (by omega) (by rw [K10.nrm_pos f1, K10.nrm_pos f1]; exact w0) fun s0 t0 t1 t2 e H1 n1 s1 he => ?_
    rw [K10.nrm_pos f1, K10.nrm_pos f1, K10.nrm_pos f1] at he
    obtain ⟨A, B, C, sd, g, ep, ft⟩ := fact hp hq hd hr' w0 t0 q0 dn
    rw [ep] at he
    have sz : Sz p q d r := ⟨b1, b2, b3, b4, hd.1⟩
    refine DueE.mk (H0 := H1) (VE.var rfl) (s1 _ _ ht) sz ft H1 (Same.refl H1) _ fun v H2 s2 hv => ?_
    refine ⟨_, _, rfl, ?_⟩
    dsimp only [List.set_cons_succ, List.set_cons_zero]
    have hb2 := hb.same (s1.trans s2)
    refine ⟨_, rfl, b, 40, rfl, hb2, by decide, by decide, fun x1 H3 x10 x11 kp3 hb3 => ⟨_, rfl, b, 301, rfl, hb3, by decide, by decide, fun x2 H4 x20 x21 kp4 hb4 => ⟨by show 2 ≤ 1000000; decide, fun L H5 n5 s5 h5 => ?_⟩⟩⟩
    have hb5 := hb4.same s5
    have neL : L ≠ b := hb4.ne n5
    have cnt : ∀ x3 : Int, ∃ n : Nat, n ≤ 300 ∧ atI [V.int x1, V.int x2] (if decide (V.int x3 = V.int 0) = true then 1 else 0) = some (.int (n : Nat)) := fun x3 => by
      by_cases z : decide (V.int x3 = V.int 0) = true
      · rw [if_pos z]
        exact ⟨x2.toNat, by omega, by rw [Int.toNat_of_nonneg x20]; exact atI_nat (j := 1) rfl⟩
      · rw [if_neg z]
        exact ⟨x1.toNat, by omega, by rw [Int.toNat_of_nonneg x10]; exact atI_nat (j := 0) rfl⟩
    refine ⟨_, rfl, b, 4, rfl, hb5, by decide, by decide, fun x3 H6 x30 x31 kp6 hb6 => ?_⟩
    obtain ⟨n, hn, vat⟩ := cnt x3
    refine ⟨rfl, _, rfl, L, _, _, _, rfl, rfl, SqL.of (kp6 L _ neL h5), vat, ?_⟩
    refine gN_go ?_
    dsimp only [List.set_cons_succ, List.set_cons_zero]
    walk_at "nrm"
    have kk : Keep b H2 H6 := kp3.trans (kp4.trans ((Keep.same s5).trans kp6))
    have he6 : EdgeAt CE H6 e [A, B, C, sd] := (he.same s2).keep hb2 kk
    have hv6 := hv.keep hb2 kk
    have ht6 := kk t _ tb (s2 _ _ (s1 _ _ ht))
    have kH : Keep b H H6 := (Keep.same (s1.trans s2)).trans kk
    refine seq_if (H0 := H6) (BE.val ((VE.neS (VE.lettersN (EE.var rfl he6) (VE.var rfl) hn (.root ft.sm (by decide))) (VE.llet (VE.var rfl) ht6 (VE.var rfl) hn sz ft)).to (by rw [decide_eq_true rfl]; rfl))) (Same.refl H6) fun H7 s7 => ?_
    have he7 := he6.same s7
    rcases hv6 with rfl | ⟨tt, i, j, rfl, ij, j60, re, nd, htt⟩
    · exact ⟨_, rfl, rfl, _, rfl, ifT rfl (k H7 (kH.trans (Keep.same s7)) (hb6.same s7))⟩
    · obtain ⟨pok, ne, pe⟩ := ft.pt ij (by omega) re nd
      refine ⟨_, rfl, rfl, _, rfl, ifF rfl ?_⟩
      have ht7 := s7 _ _ htt
      have x0 : VE (tOp (rIxT K) (tVar 3) (tC (.int 0))) [some (.ref b), some (.ref t), some (.ref e), some (.ref tt), some (.int (n : Nat))] H7 (.str (enc (Bl.flw [A, B, C, sd] i))) := fun H s Q q => ⟨_, rfl, tt, _, 0, _, rfl, rfl, SqT.of (s _ _ ht7), atI_nat (j := 0) rfl, q H (Same.refl H)⟩
      have x1 : VE (tOp (rIxT K) (tVar 3) (tC (.int 1))) [some (.ref b), some (.ref t), some (.ref e), some (.ref tt), some (.int (n : Nat))] H7 (.str (enc ((Bl.flw [A, B, C, sd] j).drop i))) := fun H s Q q => ⟨_, rfl, tt, _, 1, _, rfl, rfl, SqT.of (s _ _ ht7), atI_nat (j := 1) rfl, q H (Same.refl H)⟩
      have q1 : VE (tOp (rEqD K) (tProp CE (Bl.sp_eparts CE) [] E0 (tVar 2)) (tVar 3)) [some (.ref b), some (.ref t), some (.ref e), some (.ref tt), some (.int (n : Nat))] H7 (.bl true) := fun H s Q q => by
        obtain ⟨dx, t0, fs, h1, _⟩ := (he7.same s).at
        refine ⟨_, rfl, e, dx, fs, rfl, h1, e, A, B, C, sd, i, j, rfl, he7.same s, pok, fun t8 H8 n8 s8 h8 => ⟨_, rfl, .tuple [.str (enc (Bl.flw [A, B, C, sd] i)), .str (enc ((Bl.flw [A, B, C, sd] j).drop i))], .tuple [.str (enc (Bl.flw [A, B, C, sd] i)), .str (enc ((Bl.flw [A, B, C, sd] j).drop i))], .tup (SqT.of h8) (.cons (.str _) (.cons (.str _) .nil)), .tup (SqT.of (s8 _ _ (s _ _ ht7))) (.cons (.str _) (.cons (.str _) .nil)), ?_, ?_, ?_⟩⟩
        · exact sh2 _ _
        · exact sh2 _ _
        · have : PyData.eqv (.tuple [.str (enc (Bl.flw [A, B, C, sd] i)), .str (enc ((Bl.flw [A, B, C, sd] j).drop i))]) (.tuple [.str (enc (Bl.flw [A, B, C, sd] i)), .str (enc ((Bl.flw [A, B, C, sd] j).drop i))]) = true := by simp [PyData.eqv, PyData.eqvAll]
          rw [this]
          exact q H8 s8
      have q2 : VE _ _ H7 (.bl true) := (VE.eqE Re (EE.parts x0 x1 (by rw [Bl.flw_len, List.length_drop, Bl.flw_len]; omega) ne) (EE.var (i := 2) rfl he7)).to (by rw [decide_eq_true pe])
      refine (VE.and q1 q2) H7 (Same.refl H7) _ fun H8 s8 => ?_
      exact k H8 (kH.trans (Keep.same (s7.trans s8))) (hb6.same (s7.trans s8))
end
/-! ## k13: the law -/
open K13 Ed Eo Ep Eh Bl Sx
namespace K13
section
variable {K : PySem.W.Frag} {mg : Str → Option Value} {C CE : Addr} {σ : L2.St} {H0 : Hp} {ta : TE} {u : List Bool}
theorem EE.of {i : Nat} {x : Addr} {a b : Int} (hσ : σ[i]? = some (some (.ref x))) (hr : RatAt C H0 x a b) : EE CE (tCm CE (Kb.calm (sp_eof C CE)) (fun _ => E0) (tCons (tVar i) tNil)) σ H0 [a, b] := fun H s Q q => ⟨_, hσ, x, a, b, rfl, hr.same s, fun e H' _ s' he => q e H' s' he⟩
theorem VE.word {i : Nat} {x : Addr} (hσ : σ[i]? = some (some (.ref x))) (hr : RatAt C H0 x (pr u).1 (pr u).2) (hu : u.length ≤ 900) : VE (tProp C (sp_word C) [] E0 (tVar i)) σ H0 (.str (enc u)) := fun H s Q q => by
  have h2 := hr.same s
  obtain ⟨dx, hx⟩ := id h2
  exact ⟨_, hσ, x, dx, _, rfl, hx, x, u, rfl, h2, hu, fun H' s' => q H' s'⟩
theorem BE.partsN {a b : Int} (h : EE CE ta σ H0 [a, b]) : BE (tTest (tOp (fun x y H Q => y = V.non ∧ Q (V.bl (!decide (x = V.non))) H) (tProp CE (Ed.sp_eparts2 CE) [] E0 ta) (tC V.non))) σ H0 false := fun H s Q q => h H s _ fun e H1 s1 he => by
  obtain ⟨dx, t, fs, h1, _⟩ := he.at
  exact ⟨e, dx, fs, rfl, h1, e, a, b, rfl, he, rfl, _, rfl, q H1 s1⟩
end
end K13
section
variable {P : Program} {w : World} {K : PySem.W.Frag} {mg : Str → Option Value} {base : Heap}
theorem ok_law {f C CE IR : Addr} {fd : FuncData} (F : Fun K "law" "law" S_law f fd) (T : Txt K mg) (R : RatT K mg C) (Re : EdgT K mg CE) (C_box : FnC P w K mg base CX0 1 "_law_box" ["_law_script", "_law_k"] (sp_box2 K)) (C_take : FnC P w K mg base CX0 1 "_law_take" ["_law_box_here", "_law_many"] sp_take) (C_lroot : FnC P w K mg base CX0 3 "_law_root" ["_law_box_here", "_law_most"] sp_lroot) (C_lfrac : FnC P w K mg base CX0 3 "_law_fraction" ["_law_given"] sp_lfrac) (C_right : FnC P w K mg base CX0 10 "_law_right" ["_law_box_here", "_law_given"] K13.sp_right)
    (C_ratio : MkC P w K mg base CX0 4 C "Ratio" ["self", "first", "second"] (Kb.calm (sp_init C IR K))) (M_eof : CmC P w K mg base CX0 4 CE "Edge" "of" ["cls", "ratio"] (Kb.calm (sp_eof C CE))) (M_ezero : CmC P w K mg base CX0 4 CE "Edge" "zero" ["cls"] (Kb.calm (sp_ecm CE [0, 1]))) (M_eendless : CmC P w K mg base CX0 4 CE "Edge" "endless" ["cls"] (Kb.calm (sp_ecm CE [1, 0])))
    (M_letters : MtC P w K mg base CX0 8 CE "letters" ["self", "count"] (sp_lettersN CE)) (P_word : PrC P w K mg base 2 C "word" (sp_word C)) (P_eparts : PrC P w K mg base 1 CE "parts" (Ed.sp_eparts2 CE)) : FnOk P w K mg base CX0 11 f fd ["_law_script"] (K13.sp_lawE K) := by
  refine F.ok SC_law (fun vs H Q E h => ?_) (fun cdv A outer s H vs Q E hr h => ?_)
  · obtain ⟨a, ns, rfl, _⟩ := h
    rfl
  · obtain ⟨a, ns, rfl, hS, hlen, q⟩ := h
    refine ⟨_, (pss_cons (ps_for PassesOwn.never rfl (pi_range1 (by rfl) T.b_range (pa_cons (pe_callB (call_max2 rfl) (by rfl) T.b_max (by decide +kernel) (pa_cons pe_int (pa_cons (pe_callB (call_min2 rfl) (by rfl) T.b_min (by decide +kernel) (pa_cons (pe_callB call_len_seq (by rfl) T.b_len (by decide +kernel) (pa_cons (pv 0) pa_nil)) (pa_cons pe_int pa_nil))) pa_nil))) pa_nil)) (pg_name (i := 1) SC_law.nd rfl (.inl rfl)) (pss_cons (ps_set (i := 2) SC_law.nd rfl (.inl rfl) (pe_callC C_box (hr.mono (by decide)) rfl (pa_cons (pv 0) (pa_cons (pv 1) pa_nil))))
      (pss_cons (ps_for PassesOwn.never rfl (pi_range1 (by rfl) T.b_range (pa_cons pe_int pa_nil)) (pg_name (i := 3) SC_law.nd rfl (.inl rfl)) (pss_cons (ps_set (i := 4) SC_law.nd rfl (.inl rfl) (pe_callC C_lroot (hr.mono (by decide)) rfl (pa_cons (pv 2) (pa_cons pe_int pa_nil))))
      (pss_one (ps_if (PW.pt (pw_and (pt_cmpR op_isN (pe_callC C_lfrac (hr.mono (by decide)) rfl (pa_cons (pv 4) pa_nil)) pe_non (nomark _)) (pw_and1 (pt_not (pt_val (pe_callC C_right (hr.mono (by decide)) rfl (pa_cons (pv 2) (pa_cons (pv 4) pa_nil)))))))) (pss_one (ps_ret pe_bl)) pss_nil))))
      (pss_cons (ps_set (i := 5) SC_law.nd rfl (.inl rfl) (pe_callC C_take (hr.mono (by decide)) rfl (pa_cons (pv 2) (pa_cons pe_int pa_nil))))
      (pss_cons (ps_set (i := 6) SC_law.nd rfl (.inl rfl) (pe_makeC C_ratio (hr.mono (by decide)) rfl (pa_cons (pe_op op_add pe_int (pe_callC C_take (hr.mono (by decide)) rfl (pa_cons (pv 2) (pa_cons pe_int pa_nil)))) (pa_cons (pe_op op_add pe_int (pe_callC C_take (hr.mono (by decide)) rfl (pa_cons (pv 2) (pa_cons pe_int pa_nil)))) pa_nil))))
      (pss_nrm (pss_cons (ps_if (PW.pt (pw_or (pt_cmpR op_ne (pe_methC M_letters Re.ins.cl (hr.mono (by decide)) (pe_cmC M_eof (hr.mono (by decide)) rfl (pa_cons (pv 6) pa_nil)) (pa_cons (pv 5) pa_nil)) (pe_slice sl_str (pe_propC P_word (hr.mono (by decide)) (pv 6)) po_none (po_some (pv 5))) (nomark _)) (pw_or1 (pt_cmpR op_notN (pe_propC P_eparts (hr.mono (by decide)) (pe_cmC M_eof (hr.mono (by decide)) rfl (pa_cons (pv 6) pa_nil))) pe_non (nomark _))))) (pss_one (ps_ret pe_bl)) pss_nil)
      (pss_one (ps_if (PW.pt (pw_or (pt_cmpR op_ne (pe_methC M_letters Re.ins.cl (hr.mono (by decide)) (pe_cm0C M_ezero (hr.mono (by decide)) rfl) (pa_cons (pv 5) pa_nil)) (pe_op op_mul_str pe_str (pv 5)) (nomark _)) (pw_or1 (pt_cmpR op_ne (pe_methC M_letters Re.ins.cl (hr.mono (by decide)) (pe_cm0C M_eendless (hr.mono (by decide)) rfl) (pa_cons (pv 5) pa_nil)) (pe_op op_mul_str pe_str (pv 5)) (nomark _))))) (pss_one (ps_ret pe_bl)) pss_nil)))))))))
      (pss_one (ps_ret pe_bl))), ?_⟩
    walk_at "kw"
    refine for_range (lo := 0) (fun i σ H' => Same H H' ∧ ∃ y1 y2 y3 y4 y5 y6 : Option V, σ = [some (.ref a), y1, y2, y3, y4, y5, y6])
      ⟨Same.refl H, none, none, none, none, none, none, rfl⟩ (fun i σ H1 hi hP => ?_) (fun σ H1 hP => ?_)
    · obtain ⟨sm, y1, y2, y3, y4, y5, y6, rfl⟩ := hP
      walk_at "kw"
      refine ⟨a, ns, _, rfl, same_sqL sm hS, hlen, by omega, fun B H2 hB sm2 hb2 => ?_⟩
      refine gN_go ?_
      dsimp only [List.set_cons_succ, List.set_cons_zero]
      refine ⟨_, rfl, by decide, by decide, ?_⟩
      refine for_range (lo := 0) (fun j σ H' => Keep B H2 H' ∧ BoxAt H' B ∧ ∃ y3 y4 y5 y6 : Option V, σ = [some (.ref a), some (.int (0 + (i : Int))), some (.ref B), y3, y4, y5, y6])
        ⟨Keep.refl _ _, hb2, _, _, _, _, rfl⟩ (fun j σ H3 hj hP => ?_) (fun σ H3 hP => ?_)
      · obtain ⟨kp3, hb3, y3, y4, y5, y6, rfl⟩ := hP
        refine gN_go ?_
        dsimp only [List.set_cons_succ, List.set_cons_zero]
        refine ⟨_, rfl, B, 9, rfl, hb3, by decide, by decide, fun t H4 p q' d r nt tb kp4 hb4 ht p0 p1 q0 q1 d0 d1 r0 r1 w0 => ?_⟩
        refine gN_go ?_
        dsimp only [List.set_cons_succ, List.set_cons_zero]
        have up : ∀ z : Int, -1000 ≤ z → z ≤ 1000 → Bd 100 z := fun z h1 h2 => Nat.lt_of_lt_of_le (show z.natAbs < 1024 by omega) (by decide)
        refine ⟨_, rfl, t, p, q', d, r, rfl, ht, d0, by omega, ⟨up p (by omega) (by omega), up q' (by omega) (by omega), up d (by omega) (by omega), up r (by omega) (by omega)⟩, fun qn dn => ⟨rfl, _, rfl, ifT rfl ?_⟩, fun s s0 s1 s2 hz => fun tt H5 n5 s5 h5 => ⟨rfl, _, rfl, ifF rfl ?_⟩⟩
        · refine ⟨_, rfl, _, rfl, B, t, p, q', d, r, rfl, hb4, tb, ht, ⟨by omega, by omega⟩, ⟨q0, q1⟩, ⟨d0, d1⟩, ⟨r0, r1⟩, w0, qn, dn, fun H5 kp5 hb5 => ⟨_, rfl, ifF rfl ?_⟩⟩
          exact ⟨kp3.trans (kp4.trans kp5), hb5, _, _, _, _, rfl⟩
        · refine ifF rfl ?_
          exact ⟨kp3.trans (kp4.trans (Keep.same s5)), hb4.same s5, _, _, _, _, rfl⟩
      · obtain ⟨kp3, hb3, y3, y4, y5, y6, rfl⟩ := hP
        refine ⟨_, rfl, B, 301, rfl, hb3, by decide, by decide, fun c H4 c0 c1 kp4 hb4 => ?_⟩
        refine gN_go ?_
        dsimp only [List.set_cons_succ, List.set_cons_zero]
        refine ⟨_, rfl, B, 40, rfl, hb4, by decide, by decide, fun x2 H5 x20 x21 kp5 hb5 => ⟨_, _, rfl, rfl, _, rfl, B, 40, rfl, hb5, by decide, by decide, fun x3 H6 x30 x31 kp6 hb6 => ⟨_, _, rfl, rfl, ?_⟩⟩⟩
        have bsm : ∀ z : Int, 0 ≤ z → z < 40 → (1 + z).natAbs < 2 ^ 1000 := fun z z0 z1 => Nat.lt_of_lt_of_le (show (1 + z).natAbs < 64 by omega) (Nat.pow_le_pow_right (show 0 < 2 by decide) (show 6 ≤ 1000 by decide))
        refine fun x dx hx hdx hne => Rt.mk_ratH' (i := 1 + x2) (j := 1 + x3) (by omega) (by omega) (bsm _ x20 x21) (bsm _ x30 x31) hx hdx hne fun H7 s7 hr7 => ?_
        obtain ⟨a1, b1, g1⟩ := K10.frac_low (show 0 < 1 + x2 by omega) (show 0 < 1 + x3 by omega)
        have le1 := Int.ediv_le_self (a := 1 + x2) ((Int.gcd (1 + x2) (1 + x3) : Nat) : Int) (by omega)
        have le2 := Int.ediv_le_self (a := 1 + x3) ((Int.gcd (1 + x2) (1 + x3) : Nat) : Int) (by omega)
        generalize (1 + x2) / ((Int.gcd (1 + x2) (1 + x3) : Nat) : Int) = X at *
        generalize (1 + x3) / ((Int.gcd (1 + x2) (1 + x3) : Nat) : Int) = Y at *
        obtain ⟨u, hu, ul⟩ := K16.pr_ex 200 X.toNat Y.toNat (by omega) (by omega) (by omega) (by
          have : Int.gcd (X.toNat : Int) (Y.toNat : Int) = 1 := by rw [Int.toNat_of_nonneg (by omega), Int.toNat_of_nonneg (by omega)]; exact g1
          exact this)
        have eX : ((pr u).1 : Int) = X := by rw [hu]; exact Int.toNat_of_nonneg (by omega)
        have eY : ((pr u).2 : Int) = Y := by rw [hu]; exact Int.toNat_of_nonneg (by omega)
        rw [← eX, ← eY] at hr7
        obtain ⟨n, rfl⟩ := Int.eq_ofNat_of_zero_le c0
        refine gN_go ?_
        dsimp only [List.set_cons_succ, List.set_cons_zero]
        walk_at "nrm"
        have el : Str.ofString "l" = enc [false] := by decide +kernel
        have er : Str.ofString "r" = enc [true] := by decide +kernel
        have nn : n ≤ 300 := by omega
        refine seq_if (H0 := H7) (BE.or2 (BE.val ((VE.neS (VE.lettersN (EE.of (i := 6) rfl hr7) (VE.var (i := 5) rfl) nn (.frac ul)) (VE.takeS (VE.word (i := 6) rfl hr7 (by omega)) (VE.var (i := 5) rfl) (by omega))).to (by rw [decide_eq_true rfl]; rfl))) (BE.partsN (EE.of (i := 6) rfl hr7))) (Same.refl H7) fun H8 s8 => ?_
        refine if_next (H0 := H8) (BE.or2 (BE.val ((VE.neS (VE.lettersN EE.con (VE.var (i := 5) rfl) nn .zero) (VE.mulS (VE.to VE.c (by rw [el])) (VE.var (i := 5) rfl) nn)).to (by rw [decide_eq_true rfl]; rfl))) (BE.val ((VE.neS (VE.lettersN EE.con (VE.var (i := 5) rfl) nn .endl) (VE.mulS (VE.to VE.c (by rw [er])) (VE.var (i := 5) rfl) nn)).to (by rw [decide_eq_true rfl]; rfl)))) (Same.refl H8) fun H9 s9 => ?_
        have kk : Keep B H2 H9 := kp3.trans (kp4.trans (kp5.trans (kp6.trans (Keep.same (s7.trans (s8.trans s9))))))
        exact ⟨fun b o e => kk b o (ne_of_none (sm b o e) hB) (sm2 b o (sm b o e)), _, _, _, _, _, _, rfl⟩
    · obtain ⟨sm, y1, y2, y3, y4, y5, y6, rfl⟩ := hP
      exact q H1
end

theorem all_mk {l : PySem.W.OpenLaw} {w : World} {K : PySem.W.Frag} {h : Heap} {mg : Str → Option Value} {fa : Addr} {cUnmarkedError : Addr} {cInvalidWord NInvalidWord : Addr} {nmInvalidWord qInvalidWord : Str} {bsInvalidWord : List Value} {snInvalidWord : List Str} {subInvalidWord : List Value} {abInvalidWord : Bool} {colInvalidWord : Option Bool} {ddInvalidWord : Option Addr} {m0InvalidWord m1InvalidWord m2InvalidWord m3InvalidWord m5InvalidWord : Option Value} {cInvalidRatio NInvalidRatio : Addr} {nmInvalidRatio qInvalidRatio : Str} {bsInvalidRatio : List Value} {snInvalidRatio : List Str} {subInvalidRatio : List Value} {abInvalidRatio : Bool} {colInvalidRatio : Option Bool} {ddInvalidRatio : Option Addr} {m0InvalidRatio m1InvalidRatio m2InvalidRatio m3InvalidRatio m5InvalidRatio : Option Value} {cInvalidChange NInvalidChange : Addr} {nmInvalidChange qInvalidChange : Str} {bsInvalidChange : List Value} {snInvalidChange : List Str} {subInvalidChange : List Value} {abInvalidChange : Bool} {colInvalidChange : Option Bool} {ddInvalidChange : Option Addr} {m0InvalidChange m1InvalidChange m2InvalidChange m3InvalidChange m5InvalidChange : Option Value} {cInvalidEdge NInvalidEdge : Addr} {nmInvalidEdge qInvalidEdge : Str} {bsInvalidEdge : List Value} {snInvalidEdge : List Str} {subInvalidEdge : List Value} {abInvalidEdge : Bool} {colInvalidEdge : Option Bool} {ddInvalidEdge : Option Addr} {m0InvalidEdge m1InvalidEdge m2InvalidEdge m3InvalidEdge m5InvalidEdge : Option Value} {C : Addr} {CC : Addr} {CE : Addr} {f1 : Addr} {od1 an1 : Option Addr} {sl1 : Array (Option Value)} {oc1 kV1 dc1 pm1 cd1 ct1 : Value} {f2 : Addr} {od2 an2 : Option Addr} {sl2 : Array (Option Value)} {oc2 kV2 dc2 pm2 cd2 ct2 : Value} {f3 : Addr} {od3 an3 : Option Addr} {sl3 : Array (Option Value)} {oc3 kV3 dc3 pm3 cd3 ct3 : Value} {f4 : Addr} {od4 an4 : Option Addr} {sl4 : Array (Option Value)} {oc4 kV4 dc4 pm4 cd4 ct4 : Value} {f5 : Addr} {od5 an5 : Option Addr} {sl5 : Array (Option Value)} {oc5 kV5 dc5 pm5 cd5 ct5 : Value} {f6 : Addr} {od6 an6 : Option Addr} {sl6 : Array (Option Value)} {oc6 kV6 dc6 pm6 cd6 ct6 : Value} {f7 : Addr} {od7 an7 : Option Addr} {sl7 : Array (Option Value)} {oc7 kV7 dc7 pm7 cd7 ct7 : Value} {f8 : Addr} {od8 an8 : Option Addr} {sl8 : Array (Option Value)} {oc8 kV8 dc8 pm8 cd8 ct8 : Value} {f9 : Addr} {od9 an9 : Option Addr} {sl9 : Array (Option Value)} {oc9 kV9 dc9 pm9 cd9 ct9 : Value} {f10 : Addr} {od10 an10 : Option Addr} {sl10 : Array (Option Value)} {oc10 kV10 dc10 pm10 cd10 ct10 : Value} {f11 : Addr} {od11 an11 : Option Addr} {sl11 : Array (Option Value)} {oc11 kV11 dc11 pm11 cd11 ct11 : Value} {f12 : Addr} {od12 an12 : Option Addr} {sl12 : Array (Option Value)} {oc12 kV12 dc12 pm12 cd12 ct12 : Value} {f13 : Addr} {od13 an13 : Option Addr} {sl13 : Array (Option Value)} {oc13 kV13 dc13 pm13 cd13 ct13 : Value} {p13 : Addr} {rc13 : List Value} {f14 : Addr} {od14 an14 : Option Addr} {sl14 : Array (Option Value)} {oc14 kV14 dc14 pm14 cd14 ct14 : Value} {f15 : Addr} {od15 an15 : Option Addr} {sl15 : Array (Option Value)} {oc15 kV15 dc15 pm15 cd15 ct15 : Value} {f16 : Addr} {od16 an16 : Option Addr} {sl16 : Array (Option Value)} {oc16 kV16 dc16 pm16 cd16 ct16 : Value} {f17 : Addr} {od17 an17 : Option Addr} {sl17 : Array (Option Value)} {oc17 kV17 dc17 pm17 cd17 ct17 : Value} {p17 : Addr} {rc17 : List Value} {f18 : Addr} {od18 an18 : Option Addr} {sl18 : Array (Option Value)} {oc18 kV18 dc18 pm18 cd18 ct18 : Value} {f19 : Addr} {od19 an19 : Option Addr} {sl19 : Array (Option Value)} {oc19 kV19 dc19 pm19 cd19 ct19 : Value} {f20 : Addr} {od20 an20 : Option Addr} {sl20 : Array (Option Value)} {oc20 kV20 dc20 pm20 cd20 ct20 : Value} {f21 : Addr} {od21 an21 : Option Addr} {sl21 : Array (Option Value)} {oc21 kV21 dc21 pm21 cd21 ct21 : Value} {f22 : Addr} {od22 an22 : Option Addr} {sl22 : Array (Option Value)} {oc22 kV22 dc22 pm22 cd22 ct22 : Value} {f23 : Addr} {od23 an23 : Option Addr} {sl23 : Array (Option Value)} {oc23 kV23 dc23 pm23 cd23 ct23 : Value} {f24 : Addr} {od24 an24 : Option Addr} {sl24 : Array (Option Value)} {oc24 kV24 dc24 pm24 cd24 ct24 : Value} {f25 : Addr} {od25 an25 : Option Addr} {sl25 : Array (Option Value)} {oc25 kV25 dc25 pm25 cd25 ct25 : Value} {p25 : Addr} {rc25 : List Value} {f26 : Addr} {od26 an26 : Option Addr} {sl26 : Array (Option Value)} {oc26 kV26 dc26 pm26 cd26 ct26 : Value} {p26 : Addr} {rc26 : List Value} {f27 : Addr} {od27 an27 : Option Addr} {sl27 : Array (Option Value)} {oc27 kV27 dc27 pm27 cd27 ct27 : Value} {p27 : Addr} {rc27 : List Value} {f28 : Addr} {od28 an28 : Option Addr} {sl28 : Array (Option Value)} {oc28 kV28 dc28 pm28 cd28 ct28 : Value} {f29 : Addr} {od29 an29 : Option Addr} {sl29 : Array (Option Value)} {oc29 kV29 dc29 pm29 cd29 ct29 : Value} {p29 : Addr} {rc29 : List Value} {f30 : Addr} {od30 an30 : Option Addr} {sl30 : Array (Option Value)} {oc30 kV30 dc30 pm30 cd30 ct30 : Value} {f31 : Addr} {od31 an31 : Option Addr} {sl31 : Array (Option Value)} {oc31 kV31 dc31 pm31 cd31 ct31 : Value} {f32 : Addr} {od32 an32 : Option Addr} {sl32 : Array (Option Value)} {oc32 kV32 dc32 pm32 cd32 ct32 : Value} {f33 : Addr} {od33 an33 : Option Addr} {sl33 : Array (Option Value)} {oc33 kV33 dc33 pm33 cd33 ct33 : Value} {f34 : Addr} {od34 an34 : Option Addr} {sl34 : Array (Option Value)} {oc34 kV34 dc34 pm34 cd34 ct34 : Value} {f35 : Addr} {od35 an35 : Option Addr} {sl35 : Array (Option Value)} {oc35 kV35 dc35 pm35 cd35 ct35 : Value} {f36 : Addr} {od36 an36 : Option Addr} {sl36 : Array (Option Value)} {oc36 kV36 dc36 pm36 cd36 ct36 : Value} {f37 : Addr} {od37 an37 : Option Addr} {sl37 : Array (Option Value)} {oc37 kV37 dc37 pm37 cd37 ct37 : Value} {f38 : Addr} {od38 an38 : Option Addr} {sl38 : Array (Option Value)} {oc38 kV38 dc38 pm38 cd38 ct38 : Value} {p38 : Addr} {rc38 : List Value} {f39 : Addr} {od39 an39 : Option Addr} {sl39 : Array (Option Value)} {oc39 kV39 dc39 pm39 cd39 ct39 : Value} {p39 : Addr} {rc39 : List Value} {f40 : Addr} {od40 an40 : Option Addr} {sl40 : Array (Option Value)} {oc40 kV40 dc40 pm40 cd40 ct40 : Value} {p40 : Addr} {rc40 : List Value} {f41 : Addr} {od41 an41 : Option Addr} {sl41 : Array (Option Value)} {oc41 kV41 dc41 pm41 cd41 ct41 : Value} {f42 : Addr} {od42 an42 : Option Addr} {sl42 : Array (Option Value)} {oc42 kV42 dc42 pm42 cd42 ct42 : Value} {f43 : Addr} {od43 an43 : Option Addr} {sl43 : Array (Option Value)} {oc43 kV43 dc43 pm43 cd43 ct43 : Value} {f44 : Addr} {od44 an44 : Option Addr} {sl44 : Array (Option Value)} {oc44 kV44 dc44 pm44 cd44 ct44 : Value} {f45 : Addr} {od45 an45 : Option Addr} {sl45 : Array (Option Value)} {oc45 kV45 dc45 pm45 cd45 ct45 : Value} {f46 : Addr} {od46 an46 : Option Addr} {sl46 : Array (Option Value)} {oc46 kV46 dc46 pm46 cd46 ct46 : Value} {f47 : Addr} {od47 an47 : Option Addr} {sl47 : Array (Option Value)} {oc47 kV47 dc47 pm47 cd47 ct47 : Value} {f48 : Addr} {od48 an48 : Option Addr} {sl48 : Array (Option Value)} {oc48 kV48 dc48 pm48 cd48 ct48 : Value} {f49 : Addr} {od49 an49 : Option Addr} {sl49 : Array (Option Value)} {oc49 kV49 dc49 pm49 cd49 ct49 : Value} {f50 : Addr} {od50 an50 : Option Addr} {sl50 : Array (Option Value)} {oc50 kV50 dc50 pm50 cd50 ct50 : Value} {f51 : Addr} {od51 an51 : Option Addr} {sl51 : Array (Option Value)} {oc51 kV51 dc51 pm51 cd51 ct51 : Value} {f52 : Addr} {od52 an52 : Option Addr} {sl52 : Array (Option Value)} {oc52 kV52 dc52 pm52 cd52 ct52 : Value} {f53 : Addr} {od53 an53 : Option Addr} {sl53 : Array (Option Value)} {oc53 kV53 dc53 pm53 cd53 ct53 : Value} {aSame : Addr} {oSame : Option Addr} {nSame : Nat} {sSame : Array (Option Value)} {tS0 tS1 tS2 tS3 : Tok} (X : K.In h) (G : h.Ns mainGlobals mg) (hfa : mg "law" = some (.ref fa))
    (aU : PySem.W.nsIn K mainGlobals "UnmarkedError" = some (some (.ref cUnmarkedError)))
    (rdU : PySem.W.readsIn K cUnmarkedError (.type "type") = true)
    (gaU : PySem.W.specialIn K (.ref cUnmarkedError) "__getattribute__" = some (some (.builtin "type.__getattribute__")))
    (inU : PySem.W.findCls K (.ref cUnmarkedError) (.type "type") "__init__" = some (.val (.builtin "ValueError.__init__")))
    (aInvalidWord : PySem.W.nsIn K mainGlobals "InvalidWord" = some (some (.ref cInvalidWord)))
    (xInvalidWord : K.lookup cInvalidWord = some (excClassObj nmInvalidWord qInvalidWord cInvalidWord NInvalidWord bsInvalidWord [.ref cUnmarkedError, .type "ValueError", .type "Exception", .type "BaseException", .type "object"] true snInvalidWord subInvalidWord abInvalidWord colInvalidWord ddInvalidWord m0InvalidWord m1InvalidWord m2InvalidWord m3InvalidWord m5InvalidWord "ValueError.__new__"))
    (sInvalidWord : PySem.W.findIn K (.ref cInvalidWord) "__setattr__" = some (some (.builtin "object.__setattr__")))
    (bInvalidWord : PySem.W.subIn K (.ref cInvalidWord) (.type "BaseException") = some true)
    (tInvalidWord : PySem.W.typeIn K (.ref cInvalidWord) = some (.type "type"))
    (kInvalidWord : PySem.W.keepIn K (.ref cInvalidWord) = true)
    (aInvalidRatio : PySem.W.nsIn K mainGlobals "InvalidRatio" = some (some (.ref cInvalidRatio)))
    (xInvalidRatio : K.lookup cInvalidRatio = some (excClassObj nmInvalidRatio qInvalidRatio cInvalidRatio NInvalidRatio bsInvalidRatio [.ref cUnmarkedError, .type "ValueError", .type "Exception", .type "BaseException", .type "object"] true snInvalidRatio subInvalidRatio abInvalidRatio colInvalidRatio ddInvalidRatio m0InvalidRatio m1InvalidRatio m2InvalidRatio m3InvalidRatio m5InvalidRatio "ValueError.__new__"))
    (sInvalidRatio : PySem.W.findIn K (.ref cInvalidRatio) "__setattr__" = some (some (.builtin "object.__setattr__")))
    (bInvalidRatio : PySem.W.subIn K (.ref cInvalidRatio) (.type "BaseException") = some true)
    (tInvalidRatio : PySem.W.typeIn K (.ref cInvalidRatio) = some (.type "type"))
    (kInvalidRatio : PySem.W.keepIn K (.ref cInvalidRatio) = true)
    (aInvalidChange : PySem.W.nsIn K mainGlobals "InvalidChange" = some (some (.ref cInvalidChange)))
    (xInvalidChange : K.lookup cInvalidChange = some (excClassObj nmInvalidChange qInvalidChange cInvalidChange NInvalidChange bsInvalidChange [.ref cUnmarkedError, .type "ValueError", .type "Exception", .type "BaseException", .type "object"] true snInvalidChange subInvalidChange abInvalidChange colInvalidChange ddInvalidChange m0InvalidChange m1InvalidChange m2InvalidChange m3InvalidChange m5InvalidChange "ValueError.__new__"))
    (sInvalidChange : PySem.W.findIn K (.ref cInvalidChange) "__setattr__" = some (some (.builtin "object.__setattr__")))
    (bInvalidChange : PySem.W.subIn K (.ref cInvalidChange) (.type "BaseException") = some true)
    (tInvalidChange : PySem.W.typeIn K (.ref cInvalidChange) = some (.type "type"))
    (kInvalidChange : PySem.W.keepIn K (.ref cInvalidChange) = true)
    (aInvalidEdge : PySem.W.nsIn K mainGlobals "InvalidEdge" = some (some (.ref cInvalidEdge)))
    (xInvalidEdge : K.lookup cInvalidEdge = some (excClassObj nmInvalidEdge qInvalidEdge cInvalidEdge NInvalidEdge bsInvalidEdge [.ref cUnmarkedError, .type "ValueError", .type "Exception", .type "BaseException", .type "object"] true snInvalidEdge subInvalidEdge abInvalidEdge colInvalidEdge ddInvalidEdge m0InvalidEdge m1InvalidEdge m2InvalidEdge m3InvalidEdge m5InvalidEdge "ValueError.__new__"))
    (sInvalidEdge : PySem.W.findIn K (.ref cInvalidEdge) "__setattr__" = some (some (.builtin "object.__setattr__")))
    (bInvalidEdge : PySem.W.subIn K (.ref cInvalidEdge) (.type "BaseException") = some true)
    (tInvalidEdge : PySem.W.typeIn K (.ref cInvalidEdge) = some (.type "type"))
    (kInvalidEdge : PySem.W.keepIn K (.ref cInvalidEdge) = true)
    (hdUnmarkedError : PySem.W.hasDictIn K cUnmarkedError = true)
    (bUnmarkedError : PySem.W.subIn K (.ref cUnmarkedError) (.type "BaseException") = some true)
    (tUnmarkedError : PySem.W.typeIn K (.ref cUnmarkedError) = some (.type "type"))
    (hdInvalidWord : PySem.W.hasDictIn K cInvalidWord = true)
    (hdInvalidRatio : PySem.W.hasDictIn K cInvalidRatio = true)
    (hdInvalidChange : PySem.W.hasDictIn K cInvalidChange = true)
    (hdInvalidEdge : PySem.W.hasDictIn K cInvalidEdge = true)
    (aC : PySem.W.nsIn K mainGlobals "Ratio" = some (some (.ref C)))
    (pgC : PySem.W.plainGet K C Str.empty = true)
    (hdC : PySem.W.hasDictIn K C = true)
    (poC : PySem.W.plainOver K C = true)
    (saC : PySem.W.findIn K (.ref C) "__setattr__" = some (some (.builtin "object.__setattr__")))
    (mkC : PySem.W.makesIn K C = true)
    (kcC : PySem.W.keepIn K (.ref C) = true)
    (haC : PySem.W.findIn K (.ref C) "__class__" = some (some (.builtin "object.__class__")))
    (hnC : PySem.W.specialIn K (.builtin "object.__class__") "__get__" = some (some (.builtin "getset_descriptor.__get__")))
    (htC : PySem.W.takesIn K (.builtin "object.__class__") = some true)
    (hmC : PySem.W.mroIn K C (.type "object") = some true)
    (n1 : PySem.W.findIn K (.ref C) "first" = some none)
    (n2 : PySem.W.findIn K (.ref C) "second" = some none)
    (nf : PySem.W.notFirst K C (.ref C) = true)
    (ne : PySem.W.findIn K (.ref C) "__ne__" = some (some (.builtin "object.__ne__")))
    (so : PySem.W.subIn K (.ref C) (.type "object") = some true)
    (aCC : PySem.W.nsIn K mainGlobals "Change" = some (some (.ref CC)))
    (pgCC : PySem.W.plainGet K CC Str.empty = true)
    (hdCC : PySem.W.hasDictIn K CC = true)
    (poCC : PySem.W.plainOver K CC = true)
    (saCC : PySem.W.findIn K (.ref CC) "__setattr__" = some (some (.builtin "object.__setattr__")))
    (mkCC : PySem.W.makesIn K CC = true)
    (kcCC : PySem.W.keepIn K (.ref CC) = true)
    (haCC : PySem.W.findIn K (.ref CC) "__class__" = some (some (.builtin "object.__class__")))
    (hnCC : PySem.W.specialIn K (.builtin "object.__class__") "__get__" = some (some (.builtin "getset_descriptor.__get__")))
    (htCC : PySem.W.takesIn K (.builtin "object.__class__") = some true)
    (hmCC : PySem.W.mroIn K CC (.type "object") = some true)
    (rdcCC : PySem.W.readsIn K CC (.type "type") = true)
    (gacCC : PySem.W.specialIn K (.ref CC) "__getattribute__" = some (some (.builtin "type.__getattribute__")))
    (cn1 : PySem.W.findIn K (.ref CC) "numbers" = some none)
    (cn2 : PySem.W.findIn K (.ref CC) "turn" = some none)
    (cnf : PySem.W.notFirst K CC (.ref CC) = true)
    (cne : PySem.W.findIn K (.ref CC) "__ne__" = some (some (.builtin "object.__ne__")))
    (cso : PySem.W.subIn K (.ref CC) (.type "object") = some true)
    (ctt : PySem.W.typeIn K (.ref CC) = some (.type "type"))
    (aCE : PySem.W.nsIn K mainGlobals "Edge" = some (some (.ref CE)))
    (pgCE : PySem.W.plainGet K CE Str.empty = true)
    (hdCE : PySem.W.hasDictIn K CE = true)
    (poCE : PySem.W.plainOver K CE = true)
    (saCE : PySem.W.findIn K (.ref CE) "__setattr__" = some (some (.builtin "object.__setattr__")))
    (mkCE : PySem.W.makesIn K CE = true)
    (kcCE : PySem.W.keepIn K (.ref CE) = true)
    (haCE : PySem.W.findIn K (.ref CE) "__class__" = some (some (.builtin "object.__class__")))
    (hnCE : PySem.W.specialIn K (.builtin "object.__class__") "__get__" = some (some (.builtin "getset_descriptor.__get__")))
    (htCE : PySem.W.takesIn K (.builtin "object.__class__") = some true)
    (hmCE : PySem.W.mroIn K CE (.type "object") = some true)
    (rdcCE : PySem.W.readsIn K CE (.type "type") = true)
    (gacCE : PySem.W.specialIn K (.ref CE) "__getattribute__" = some (some (.builtin "type.__getattribute__")))
    (en1 : PySem.W.findIn K (.ref CE) "place" = some none)
    (en2 : PySem.W.findIn K (.ref CE) "numbers" = some none)
    (enf : PySem.W.notFirst K CE (.ref CE) = true)
    (ene : PySem.W.findIn K (.ref CE) "__ne__" = some (some (.builtin "object.__ne__")))
    (eso : PySem.W.subIn K (.ref CE) (.type "object") = some true)
    (a1 : PySem.W.nsIn K mainGlobals "_law_take" = some (some (.ref f1)))
    (l1 : K.lookup f1 = some ⟨oc1, od1, .func (PySem.W.fnOf "_law_take" "_law_take" (defArgs S__law_take) (defBody S__law_take) (defScope S__law_take) .none kV1 dc1 pm1 an1 cd1 ct1), sl1⟩)
    (c1 : PySem.W.codeIn K cd1 "_law_take" = true)
    (k1 : PySem.W.keepIn K (.ref f1) = true)
    (a2 : PySem.W.nsIn K mainGlobals "_law_box" = some (some (.ref f2)))
    (l2 : K.lookup f2 = some ⟨oc2, od2, .func (PySem.W.fnOf "_law_box" "_law_box" (defArgs S__law_box) (defBody S__law_box) (defScope S__law_box) .none kV2 dc2 pm2 an2 cd2 ct2), sl2⟩)
    (c2 : PySem.W.codeIn K cd2 "_law_box" = true)
    (k2 : PySem.W.keepIn K (.ref f2) = true)
    (a3 : PySem.W.nsIn K mainGlobals "is_integer" = some (some (.ref f3)))
    (l3 : K.lookup f3 = some ⟨oc3, od3, .func (PySem.W.fnOf "is_integer" "is_integer" (defArgs S_is_integer) (defBody S_is_integer) (defScope S_is_integer) .none kV3 dc3 pm3 an3 cd3 ct3), sl3⟩)
    (c3 : PySem.W.codeIn K cd3 "is_integer" = true)
    (k3 : PySem.W.keepIn K (.ref f3) = true)
    (a4 : PySem.W.nsIn K mainGlobals "is_length" = some (some (.ref f4)))
    (l4 : K.lookup f4 = some ⟨oc4, od4, .func (PySem.W.fnOf "is_length" "is_length" (defArgs S_is_length) (defBody S_is_length) (defScope S_is_length) .none kV4 dc4 pm4 an4 cd4 ct4), sl4⟩)
    (c4 : PySem.W.codeIn K cd4 "is_length" = true)
    (k4 : PySem.W.keepIn K (.ref f4) = true)
    (a5 : PySem.W.nsIn K mainGlobals "common_length" = some (some (.ref f5)))
    (l5 : K.lookup f5 = some ⟨oc5, od5, .func (PySem.W.fnOf "common_length" "common_length" (defArgs S_common_length) (defBody S_common_length) (defScope S_common_length) .none kV5 dc5 pm5 an5 cd5 ct5), sl5⟩)
    (c5 : PySem.W.codeIn K cd5 "common_length" = true)
    (k5 : PySem.W.keepIn K (.ref f5) = true)
    (a6 : PySem.W.findIn K (.ref cInvalidWord) "__init__" = some (some (.ref f6)))
    (i6 : PySem.W.typeIn K (.ref f6) = some (.type "function"))
    (l6 : K.lookup f6 = some ⟨oc6, od6, .func (PySem.W.fnOf "__init__" "InvalidWord.__init__" (defArgs S_InvalidWord__init_) (defBody S_InvalidWord__init_) (defScope S_InvalidWord__init_) .none kV6 dc6 pm6 an6 cd6 ct6), sl6⟩)
    (c6 : PySem.W.codeIn K cd6 "InvalidWord.__init__" = true)
    (k6 : PySem.W.keepIn K (.ref f6) = true)
    (a7 : PySem.W.findIn K (.ref cInvalidRatio) "__init__" = some (some (.ref f7)))
    (i7 : PySem.W.typeIn K (.ref f7) = some (.type "function"))
    (l7 : K.lookup f7 = some ⟨oc7, od7, .func (PySem.W.fnOf "__init__" "InvalidRatio.__init__" (defArgs S_InvalidRatio__init_) (defBody S_InvalidRatio__init_) (defScope S_InvalidRatio__init_) .none kV7 dc7 pm7 an7 cd7 ct7), sl7⟩)
    (c7 : PySem.W.codeIn K cd7 "InvalidRatio.__init__" = true)
    (k7 : PySem.W.keepIn K (.ref f7) = true)
    (a8 : PySem.W.findIn K (.ref cInvalidChange) "__init__" = some (some (.ref f8)))
    (i8 : PySem.W.typeIn K (.ref f8) = some (.type "function"))
    (l8 : K.lookup f8 = some ⟨oc8, od8, .func (PySem.W.fnOf "__init__" "InvalidChange.__init__" (defArgs S_InvalidChange__init_) (defBody S_InvalidChange__init_) (defScope S_InvalidChange__init_) .none kV8 dc8 pm8 an8 cd8 ct8), sl8⟩)
    (c8 : PySem.W.codeIn K cd8 "InvalidChange.__init__" = true)
    (k8 : PySem.W.keepIn K (.ref f8) = true)
    (a9 : PySem.W.findIn K (.ref cInvalidEdge) "__init__" = some (some (.ref f9)))
    (i9 : PySem.W.typeIn K (.ref f9) = some (.type "function"))
    (l9 : K.lookup f9 = some ⟨oc9, od9, .func (PySem.W.fnOf "__init__" "InvalidEdge.__init__" (defArgs S_InvalidEdge__init_) (defBody S_InvalidEdge__init_) (defScope S_InvalidEdge__init_) .none kV9 dc9 pm9 an9 cd9 ct9), sl9⟩)
    (c9 : PySem.W.codeIn K cd9 "InvalidEdge.__init__" = true)
    (k9 : PySem.W.keepIn K (.ref f9) = true)
    (a10 : PySem.W.findIn K (.ref C) "__init__" = some (some (.ref f10)))
    (i10 : PySem.W.isFn K (.ref f10) = true)
    (l10 : K.lookup f10 = some ⟨oc10, od10, .func (PySem.W.fnOf "__init__" "Ratio.__init__" (defArgs S_Ratio__init_) (defBody S_Ratio__init_) (defScope S_Ratio__init_) .none kV10 dc10 pm10 an10 cd10 ct10), sl10⟩)
    (c10 : PySem.W.codeIn K cd10 "Ratio.__init__" = true)
    (k10 : PySem.W.keepIn K (.ref f10) = true)
    (a11 : PySem.W.nsIn K mainGlobals "need_word" = some (some (.ref f11)))
    (l11 : K.lookup f11 = some ⟨oc11, od11, .func (PySem.W.fnOf "need_word" "need_word" (defArgs S_need_word) (defBody S_need_word) (defScope S_need_word) .none kV11 dc11 pm11 an11 cd11 ct11), sl11⟩)
    (c11 : PySem.W.codeIn K cd11 "need_word" = true)
    (k11 : PySem.W.keepIn K (.ref f11) = true)
    (a12 : PySem.W.nsIn K mainGlobals "word_of_lengths" = some (some (.ref f12)))
    (l12 : K.lookup f12 = some ⟨oc12, od12, .func (PySem.W.fnOf "word_of_lengths" "word_of_lengths" (defArgs S_word_of_lengths) (defBody S_word_of_lengths) (defScope S_word_of_lengths) .none kV12 dc12 pm12 an12 cd12 ct12), sl12⟩)
    (c12 : PySem.W.codeIn K cd12 "word_of_lengths" = true)
    (k12 : PySem.W.keepIn K (.ref f12) = true)
    (a13 : PySem.W.findIn K (.ref C) "word" = some (some (.ref p13)))
    (g13 : PySem.W.specialIn K (.ref p13) "__get__" = some (some (.builtin "property.__get__")))
    (h13 : PySem.W.takesIn K (.ref p13) = some true)
    (r13 : PySem.W.recIn K p13 "property" = some (.ref f13 :: rc13))
    (l13 : K.lookup f13 = some ⟨oc13, od13, .func (PySem.W.fnOf "word" "Ratio.word" (defArgs S_Ratio_word) (defBody S_Ratio_word) (defScope S_Ratio_word) .none kV13 dc13 pm13 an13 cd13 ct13), sl13⟩)
    (c13 : PySem.W.codeIn K cd13 "Ratio.word" = true)
    (k13 : PySem.W.keepIn K (.ref f13) = true)
    (a14 : PySem.W.findIn K (.ref CC) "__init__" = some (some (.ref f14)))
    (i14 : PySem.W.isFn K (.ref f14) = true)
    (l14 : K.lookup f14 = some ⟨oc14, od14, .func (PySem.W.fnOf "__init__" "Change.__init__" (defArgs S_Change__init_) (defBody S_Change__init_) (defScope S_Change__init_) .none kV14 dc14 pm14 an14 cd14 ct14), sl14⟩)
    (c14 : PySem.W.codeIn K cd14 "Change.__init__" = true)
    (k14 : PySem.W.keepIn K (.ref f14) = true)
    (a15 : PySem.W.nsIn K mainGlobals "numbers_behind" = some (some (.ref f15)))
    (l15 : K.lookup f15 = some ⟨oc15, od15, .func (PySem.W.fnOf "numbers_behind" "numbers_behind" (defArgs S_numbers_behind) (defBody S_numbers_behind) (defScope S_numbers_behind) .none kV15 dc15 pm15 an15 cd15 ct15), sl15⟩)
    (c15 : PySem.W.codeIn K cd15 "numbers_behind" = true)
    (k15 : PySem.W.keepIn K (.ref f15) = true)
    (a16 : PySem.W.nsIn K mainGlobals "numbers_of_word" = some (some (.ref f16)))
    (l16 : K.lookup f16 = some ⟨oc16, od16, .func (PySem.W.fnOf "numbers_of_word" "numbers_of_word" (defArgs S_numbers_of_word) (defBody S_numbers_of_word) (defScope S_numbers_of_word) .none kV16 dc16 pm16 an16 cd16 ct16), sl16⟩)
    (c16 : PySem.W.codeIn K cd16 "numbers_of_word" = true)
    (k16 : PySem.W.keepIn K (.ref f16) = true)
    (a17 : PySem.W.findCls K (.ref CC) (.type "type") "of_word" = some (.get (.builtin "classmethod.__get__") (.ref p17) .none (.ref CC)))
    (r17 : PySem.W.recIn K p17 "classmethod" = some (.ref f17 :: rc17))
    (i17 : PySem.W.fnIn K f17 = true)
    (l17 : K.lookup f17 = some ⟨oc17, od17, .func (PySem.W.fnOf "of_word" "Change.of_word" (defArgs S_Change_of_word) (defBody S_Change_of_word) (defScope S_Change_of_word) .none kV17 dc17 pm17 an17 cd17 ct17), sl17⟩)
    (c17 : PySem.W.codeIn K cd17 "Change.of_word" = true)
    (k17 : PySem.W.keepIn K (.ref f17) = true)
    (a18 : PySem.W.nsIn K mainGlobals "common" = some (some (.ref f18)))
    (l18 : K.lookup f18 = some ⟨oc18, od18, .func (PySem.W.fnOf "common" "common" (defArgs S_common) (defBody S_common) (defScope S_common) .none kV18 dc18 pm18 an18 cd18 ct18), sl18⟩)
    (c18 : PySem.W.codeIn K cd18 "common" = true)
    (k18 : PySem.W.keepIn K (.ref f18) = true)
    (a19 : PySem.W.nsIn K mainGlobals "sign_of" = some (some (.ref f19)))
    (l19 : K.lookup f19 = some ⟨oc19, od19, .func (PySem.W.fnOf "sign_of" "sign_of" (defArgs S_sign_of) (defBody S_sign_of) (defScope S_sign_of) .none kV19 dc19 pm19 an19 cd19 ct19), sl19⟩)
    (c19 : PySem.W.codeIn K cd19 "sign_of" = true)
    (k19 : PySem.W.keepIn K (.ref f19) = true)
    (a20 : PySem.W.nsIn K mainGlobals "whole_root" = some (some (.ref f20)))
    (l20 : K.lookup f20 = some ⟨oc20, od20, .func (PySem.W.fnOf "whole_root" "whole_root" (defArgs S_whole_root) (defBody S_whole_root) (defScope S_whole_root) .none kV20 dc20 pm20 an20 cd20 ct20), sl20⟩)
    (c20 : PySem.W.codeIn K cd20 "whole_root" = true)
    (k20 : PySem.W.keepIn K (.ref f20) = true)
    (a21 : PySem.W.nsIn K mainGlobals "sign_with_root" = some (some (.ref f21)))
    (l21 : K.lookup f21 = some ⟨oc21, od21, .func (PySem.W.fnOf "sign_with_root" "sign_with_root" (defArgs S_sign_with_root) (defBody S_sign_with_root) (defScope S_sign_with_root) .none kV21 dc21 pm21 an21 cd21 ct21), sl21⟩)
    (c21 : PySem.W.codeIn K cd21 "sign_with_root" = true)
    (k21 : PySem.W.keepIn K (.ref f21) = true)
    (a22 : PySem.W.nsIn K mainGlobals "lowered" = some (some (.ref f22)))
    (l22 : K.lookup f22 = some ⟨oc22, od22, .func (PySem.W.fnOf "lowered" "lowered" (defArgs S_lowered) (defBody S_lowered) (defScope S_lowered) .none kV22 dc22 pm22 an22 cd22 ct22), sl22⟩)
    (c22 : PySem.W.codeIn K cd22 "lowered" = true)
    (k22 : PySem.W.keepIn K (.ref f22) = true)
    (a23 : PySem.W.nsIn K mainGlobals "inner_of" = some (some (.ref f23)))
    (l23 : K.lookup f23 = some ⟨oc23, od23, .func (PySem.W.fnOf "inner_of" "inner_of" (defArgs S_inner_of) (defBody S_inner_of) (defScope S_inner_of) .none kV23 dc23 pm23 an23 cd23 ct23), sl23⟩)
    (c23 : PySem.W.codeIn K cd23 "inner_of" = true)
    (k23 : PySem.W.keepIn K (.ref f23) = true)
    (a24 : PySem.W.findIn K (.ref CE) "__init__" = some (some (.ref f24)))
    (i24 : PySem.W.isFn K (.ref f24) = true)
    (l24 : K.lookup f24 = some ⟨oc24, od24, .func (PySem.W.fnOf "__init__" "Edge.__init__" (defArgs S_Edge__init_) (defBody S_Edge__init_) (defScope S_Edge__init_) .none kV24 dc24 pm24 an24 cd24 ct24), sl24⟩)
    (c24 : PySem.W.codeIn K cd24 "Edge.__init__" = true)
    (k24 : PySem.W.keepIn K (.ref f24) = true)
    (a25 : PySem.W.findCls K (.ref CE) (.type "type") "of" = some (.get (.builtin "classmethod.__get__") (.ref p25) .none (.ref CE)))
    (r25 : PySem.W.recIn K p25 "classmethod" = some (.ref f25 :: rc25))
    (i25 : PySem.W.fnIn K f25 = true)
    (l25 : K.lookup f25 = some ⟨oc25, od25, .func (PySem.W.fnOf "of" "Edge.of" (defArgs S_Edge_of) (defBody S_Edge_of) (defScope S_Edge_of) .none kV25 dc25 pm25 an25 cd25 ct25), sl25⟩)
    (c25 : PySem.W.codeIn K cd25 "Edge.of" = true)
    (k25 : PySem.W.keepIn K (.ref f25) = true)
    (a26 : PySem.W.findCls K (.ref CE) (.type "type") "zero" = some (.get (.builtin "classmethod.__get__") (.ref p26) .none (.ref CE)))
    (r26 : PySem.W.recIn K p26 "classmethod" = some (.ref f26 :: rc26))
    (i26 : PySem.W.fnIn K f26 = true)
    (l26 : K.lookup f26 = some ⟨oc26, od26, .func (PySem.W.fnOf "zero" "Edge.zero" (defArgs S_Edge_zero) (defBody S_Edge_zero) (defScope S_Edge_zero) .none kV26 dc26 pm26 an26 cd26 ct26), sl26⟩)
    (c26 : PySem.W.codeIn K cd26 "Edge.zero" = true)
    (k26 : PySem.W.keepIn K (.ref f26) = true)
    (a27 : PySem.W.findCls K (.ref CE) (.type "type") "endless" = some (.get (.builtin "classmethod.__get__") (.ref p27) .none (.ref CE)))
    (r27 : PySem.W.recIn K p27 "classmethod" = some (.ref f27 :: rc27))
    (i27 : PySem.W.fnIn K f27 = true)
    (l27 : K.lookup f27 = some ⟨oc27, od27, .func (PySem.W.fnOf "endless" "Edge.endless" (defArgs S_Edge_endless) (defBody S_Edge_endless) (defScope S_Edge_endless) .none kV27 dc27 pm27 an27 cd27 ct27), sl27⟩)
    (c27 : PySem.W.codeIn K cd27 "Edge.endless" = true)
    (k27 : PySem.W.keepIn K (.ref f27) = true)
    (a28 : PySem.W.findIn K (.ref CE) "__eq__" = some (some (.ref f28)))
    (i28 : PySem.W.isFn K (.ref f28) = true)
    (l28 : K.lookup f28 = some ⟨oc28, od28, .func (PySem.W.fnOf "__eq__" "Edge.__eq__" (defArgs S_Edge__eq_) (defBody S_Edge__eq_) (defScope S_Edge__eq_) .none kV28 dc28 pm28 an28 cd28 ct28), sl28⟩)
    (c28 : PySem.W.codeIn K cd28 "Edge.__eq__" = true)
    (k28 : PySem.W.keepIn K (.ref f28) = true)
    (a29 : PySem.W.findCls K (.ref CE) (.type "type") "root" = some (.get (.builtin "classmethod.__get__") (.ref p29) .none (.ref CE)))
    (r29 : PySem.W.recIn K p29 "classmethod" = some (.ref f29 :: rc29))
    (i29 : PySem.W.fnIn K f29 = true)
    (l29 : K.lookup f29 = some ⟨oc29, od29, .func (PySem.W.fnOf "root" "Edge.root" (defArgs S_Edge_root) (defBody S_Edge_root) (defScope S_Edge_root) .none kV29 dc29 pm29 an29 cd29 ct29), sl29⟩)
    (c29 : PySem.W.codeIn K cd29 "Edge.root" = true)
    (k29 : PySem.W.keepIn K (.ref f29) = true)
    (a30 : PySem.W.nsIn K mainGlobals "changed" = some (some (.ref f30)))
    (l30 : K.lookup f30 = some ⟨oc30, od30, .func (PySem.W.fnOf "changed" "changed" (defArgs S_changed) (defBody S_changed) (defScope S_changed) .none kV30 dc30 pm30 an30 cd30 ct30), sl30⟩)
    (c30 : PySem.W.codeIn K cd30 "changed" = true)
    (k30 : PySem.W.keepIn K (.ref f30) = true)
    (a31 : PySem.W.nsIn K mainGlobals "place_behind" = some (some (.ref f31)))
    (l31 : K.lookup f31 = some ⟨oc31, od31, .func (PySem.W.fnOf "place_behind" "place_behind" (defArgs S_place_behind) (defBody S_place_behind) (defScope S_place_behind) .none kV31 dc31 pm31 an31 cd31 ct31), sl31⟩)
    (c31 : PySem.W.codeIn K cd31 "place_behind" = true)
    (k31 : PySem.W.keepIn K (.ref f31) = true)
    (a32 : PySem.W.nsIn K mainGlobals "sign_with_roots" = some (some (.ref f32)))
    (l32 : K.lookup f32 = some ⟨oc32, od32, .func (PySem.W.fnOf "sign_with_roots" "sign_with_roots" (defArgs S_sign_with_roots) (defBody S_sign_with_roots) (defScope S_sign_with_roots) .none kV32 dc32 pm32 an32 cd32 ct32), sl32⟩)
    (c32 : PySem.W.codeIn K cd32 "sign_with_roots" = true)
    (k32 : PySem.W.keepIn K (.ref f32) = true)
    (a33 : PySem.W.nsIn K mainGlobals "compared" = some (some (.ref f33)))
    (l33 : K.lookup f33 = some ⟨oc33, od33, .func (PySem.W.fnOf "compared" "compared" (defArgs S_compared) (defBody S_compared) (defScope S_compared) .none kV33 dc33 pm33 an33 cd33 ct33), sl33⟩)
    (c33 : PySem.W.codeIn K cd33 "compared" = true)
    (k33 : PySem.W.keepIn K (.ref f33) = true)
    (a34 : PySem.W.nsIn K mainGlobals "step" = some (some (.ref f34)))
    (l34 : K.lookup f34 = some ⟨oc34, od34, .func (PySem.W.fnOf "step" "step" (defArgs S_step) (defBody S_step) (defScope S_step) .none kV34 dc34 pm34 an34 cd34 ct34), sl34⟩)
    (c34 : PySem.W.codeIn K cd34 "step" = true)
    (k34 : PySem.W.keepIn K (.ref f34) = true)
    (a35 : PySem.W.nsIn K mainGlobals "first_letters" = some (some (.ref f35)))
    (l35 : K.lookup f35 = some ⟨oc35, od35, .func (PySem.W.fnOf "first_letters" "first_letters" (defArgs S_first_letters) (defBody S_first_letters) (defScope S_first_letters) .none kV35 dc35 pm35 an35 cd35 ct35), sl35⟩)
    (c35 : PySem.W.codeIn K cd35 "first_letters" = true)
    (k35 : PySem.W.keepIn K (.ref f35) = true)
    (a36 : PySem.W.nsIn K mainGlobals "fixed" = some (some (.ref f36)))
    (l36 : K.lookup f36 = some ⟨oc36, od36, .func (PySem.W.fnOf "fixed" "fixed" (defArgs S_fixed) (defBody S_fixed) (defScope S_fixed) .none kV36 dc36 pm36 an36 cd36 ct36), sl36⟩)
    (c36 : PySem.W.codeIn K cd36 "fixed" = true)
    (k36 : PySem.W.keepIn K (.ref f36) = true)
    (a37 : PySem.W.nsIn K mainGlobals "parts_of" = some (some (.ref f37)))
    (l37 : K.lookup f37 = some ⟨oc37, od37, .func (PySem.W.fnOf "parts_of" "parts_of" (defArgs S_parts_of) (defBody S_parts_of) (defScope S_parts_of) .none kV37 dc37 pm37 an37 cd37 ct37), sl37⟩)
    (c37 : PySem.W.codeIn K cd37 "parts_of" = true)
    (k37 : PySem.W.keepIn K (.ref f37) = true)
    (a38 : PySem.W.findIn K (.ref CE) "ratio" = some (some (.ref p38)))
    (g38 : PySem.W.specialIn K (.ref p38) "__get__" = some (some (.builtin "property.__get__")))
    (h38 : PySem.W.takesIn K (.ref p38) = some true)
    (r38 : PySem.W.recIn K p38 "property" = some (.ref f38 :: rc38))
    (l38 : K.lookup f38 = some ⟨oc38, od38, .func (PySem.W.fnOf "ratio" "Edge.ratio" (defArgs S_Edge_ratio) (defBody S_Edge_ratio) (defScope S_Edge_ratio) .none kV38 dc38 pm38 an38 cd38 ct38), sl38⟩)
    (c38 : PySem.W.codeIn K cd38 "Edge.ratio" = true)
    (k38 : PySem.W.keepIn K (.ref f38) = true)
    (a39 : PySem.W.findIn K (.ref CE) "parts" = some (some (.ref p39)))
    (g39 : PySem.W.specialIn K (.ref p39) "__get__" = some (some (.builtin "property.__get__")))
    (h39 : PySem.W.takesIn K (.ref p39) = some true)
    (r39 : PySem.W.recIn K p39 "property" = some (.ref f39 :: rc39))
    (l39 : K.lookup f39 = some ⟨oc39, od39, .func (PySem.W.fnOf "parts" "Edge.parts" (defArgs S_Edge_parts) (defBody S_Edge_parts) (defScope S_Edge_parts) .none kV39 dc39 pm39 an39 cd39 ct39), sl39⟩)
    (c39 : PySem.W.codeIn K cd39 "Edge.parts" = true)
    (k39 : PySem.W.keepIn K (.ref f39) = true)
    (a40 : PySem.W.findCls K (.ref CE) (.type "type") "of_parts" = some (.get (.builtin "classmethod.__get__") (.ref p40) .none (.ref CE)))
    (r40 : PySem.W.recIn K p40 "classmethod" = some (.ref f40 :: rc40))
    (i40 : PySem.W.fnIn K f40 = true)
    (l40 : K.lookup f40 = some ⟨oc40, od40, .func (PySem.W.fnOf "of_parts" "Edge.of_parts" (defArgs S_Edge_of_parts) (defBody S_Edge_of_parts) (defScope S_Edge_of_parts) .none kV40 dc40 pm40 an40 cd40 ct40), sl40⟩)
    (c40 : PySem.W.codeIn K cd40 "Edge.of_parts" = true)
    (k40 : PySem.W.keepIn K (.ref f40) = true)
    (a41 : PySem.W.findIn K (.ref CE) "letters" = some (some (.ref f41)))
    (i41 : PySem.W.isFn K (.ref f41) = true)
    (l41 : K.lookup f41 = some ⟨oc41, od41, .func (PySem.W.fnOf "letters" "Edge.letters" (defArgs S_Edge_letters) (defBody S_Edge_letters) (defScope S_Edge_letters) .none kV41 dc41 pm41 an41 cd41 ct41), sl41⟩)
    (c41 : PySem.W.codeIn K cd41 "Edge.letters" = true)
    (k41 : PySem.W.keepIn K (.ref f41) = true)
    (a42 : PySem.W.nsIn K mainGlobals "_law_sign" = some (some (.ref f42)))
    (l42 : K.lookup f42 = some ⟨oc42, od42, .func (PySem.W.fnOf "_law_sign" "_law_sign" (defArgs S__law_sign) (defBody S__law_sign) (defScope S__law_sign) .none kV42 dc42 pm42 an42 cd42 ct42), sl42⟩)
    (c42 : PySem.W.codeIn K cd42 "_law_sign" = true)
    (k42 : PySem.W.keepIn K (.ref f42) = true)
    (a43 : PySem.W.nsIn K mainGlobals "_law_gcd" = some (some (.ref f43)))
    (l43 : K.lookup f43 = some ⟨oc43, od43, .func (PySem.W.fnOf "_law_gcd" "_law_gcd" (defArgs S__law_gcd) (defBody S__law_gcd) (defScope S__law_gcd) .none kV43 dc43 pm43 an43 cd43 ct43), sl43⟩)
    (c43 : PySem.W.codeIn K cd43 "_law_gcd" = true)
    (k43 : PySem.W.keepIn K (.ref f43) = true)
    (a44 : PySem.W.nsIn K mainGlobals "_law_sign_root" = some (some (.ref f44)))
    (l44 : K.lookup f44 = some ⟨oc44, od44, .func (PySem.W.fnOf "_law_sign_root" "_law_sign_root" (defArgs S__law_sign_root) (defBody S__law_sign_root) (defScope S__law_sign_root) .none kV44 dc44 pm44 an44 cd44 ct44), sl44⟩)
    (c44 : PySem.W.codeIn K cd44 "_law_sign_root" = true)
    (k44 : PySem.W.keepIn K (.ref f44) = true)
    (a45 : PySem.W.nsIn K mainGlobals "_law_whole_root" = some (some (.ref f45)))
    (l45 : K.lookup f45 = some ⟨oc45, od45, .func (PySem.W.fnOf "_law_whole_root" "_law_whole_root" (defArgs S__law_whole_root) (defBody S__law_whole_root) (defScope S__law_whole_root) .none kV45 dc45 pm45 an45 cd45 ct45), sl45⟩)
    (c45 : PySem.W.codeIn K cd45 "_law_whole_root" = true)
    (k45 : PySem.W.keepIn K (.ref f45) = true)
    (a46 : PySem.W.nsIn K mainGlobals "_law_is_square" = some (some (.ref f46)))
    (l46 : K.lookup f46 = some ⟨oc46, od46, .func (PySem.W.fnOf "_law_is_square" "_law_is_square" (defArgs S__law_is_square) (defBody S__law_is_square) (defScope S__law_is_square) .none kV46 dc46 pm46 an46 cd46 ct46), sl46⟩)
    (c46 : PySem.W.codeIn K cd46 "_law_is_square" = true)
    (k46 : PySem.W.keepIn K (.ref f46) = true)
    (a47 : PySem.W.nsIn K mainGlobals "_law_root" = some (some (.ref f47)))
    (l47 : K.lookup f47 = some ⟨oc47, od47, .func (PySem.W.fnOf "_law_root" "_law_root" (defArgs S__law_root) (defBody S__law_root) (defScope S__law_root) .none kV47 dc47 pm47 an47 cd47 ct47), sl47⟩)
    (c47 : PySem.W.codeIn K cd47 "_law_root" = true)
    (k47 : PySem.W.keepIn K (.ref f47) = true)
    (a48 : PySem.W.nsIn K mainGlobals "_law_fraction" = some (some (.ref f48)))
    (l48 : K.lookup f48 = some ⟨oc48, od48, .func (PySem.W.fnOf "_law_fraction" "_law_fraction" (defArgs S__law_fraction) (defBody S__law_fraction) (defScope S__law_fraction) .none kV48 dc48 pm48 an48 cd48 ct48), sl48⟩)
    (c48 : PySem.W.codeIn K cd48 "_law_fraction" = true)
    (k48 : PySem.W.keepIn K (.ref f48) = true)
    (a49 : PySem.W.nsIn K mainGlobals "_law_letters" = some (some (.ref f49)))
    (l49 : K.lookup f49 = some ⟨oc49, od49, .func (PySem.W.fnOf "_law_letters" "_law_letters" (defArgs S__law_letters) (defBody S__law_letters) (defScope S__law_letters) .none kV49 dc49 pm49 an49 cd49 ct49), sl49⟩)
    (c49 : PySem.W.codeIn K cd49 "_law_letters" = true)
    (k49 : PySem.W.keepIn K (.ref f49) = true)
    (a50 : PySem.W.nsIn K mainGlobals "_law_one_step" = some (some (.ref f50)))
    (l50 : K.lookup f50 = some ⟨oc50, od50, .func (PySem.W.fnOf "_law_one_step" "_law_one_step" (defArgs S__law_one_step) (defBody S__law_one_step) (defScope S__law_one_step) .none kV50 dc50 pm50 an50 cd50 ct50), sl50⟩)
    (c50 : PySem.W.codeIn K cd50 "_law_one_step" = true)
    (k50 : PySem.W.keepIn K (.ref f50) = true)
    (a51 : PySem.W.nsIn K mainGlobals "_law_parts" = some (some (.ref f51)))
    (l51 : K.lookup f51 = some ⟨oc51, od51, .func (PySem.W.fnOf "_law_parts" "_law_parts" (defArgs S__law_parts) (defBody S__law_parts) (defScope S__law_parts) .none kV51 dc51 pm51 an51 cd51 ct51), sl51⟩)
    (c51 : PySem.W.codeIn K cd51 "_law_parts" = true)
    (k51 : PySem.W.keepIn K (.ref f51) = true)
    (a52 : PySem.W.nsIn K mainGlobals "_law_right" = some (some (.ref f52)))
    (l52 : K.lookup f52 = some ⟨oc52, od52, .func (PySem.W.fnOf "_law_right" "_law_right" (defArgs S__law_right) (defBody S__law_right) (defScope S__law_right) .none kV52 dc52 pm52 an52 cd52 ct52), sl52⟩)
    (c52 : PySem.W.codeIn K cd52 "_law_right" = true)
    (k52 : PySem.W.keepIn K (.ref f52) = true)
    (a53 : PySem.W.nsIn K mainGlobals "law" = some (some (.ref f53)))
    (l53 : K.lookup f53 = some ⟨oc53, od53, .func (PySem.W.fnOf "law" "law" (defArgs S_law) (defBody S_law) (defScope S_law) .none kV53 dc53 pm53 an53 cd53 ct53), sl53⟩)
    (c53 : PySem.W.codeIn K cd53 "law" = true)
    (k53 : PySem.W.keepIn K (.ref f53) = true)
    (z_ValueError : PySem.W.nsIn K mainGlobals "ValueError" = some none)
    (z_abs : PySem.W.nsIn K mainGlobals "abs" = some none)
    (z_all : PySem.W.nsIn K mainGlobals "all" = some none)
    (z_any : PySem.W.nsIn K mainGlobals "any" = some none)
    (z_bool : PySem.W.nsIn K mainGlobals "bool" = some none)
    (z_enumerate : PySem.W.nsIn K mainGlobals "enumerate" = some none)
    (z_int : PySem.W.nsIn K mainGlobals "int" = some none)
    (z_isinstance : PySem.W.nsIn K mainGlobals "isinstance" = some none)
    (z_len : PySem.W.nsIn K mainGlobals "len" = some none)
    (z_list : PySem.W.nsIn K mainGlobals "list" = some none)
    (z_max : PySem.W.nsIn K mainGlobals "max" = some none)
    (z_min : PySem.W.nsIn K mainGlobals "min" = some none)
    (z_range : PySem.W.nsIn K mainGlobals "range" = some none)
    (z_repr : PySem.W.nsIn K mainGlobals "repr" = some none)
    (z_sorted : PySem.W.nsIn K mainGlobals "sorted" = some none)
    (z_str : PySem.W.nsIn K mainGlobals "str" = some none)
    (z_sum : PySem.W.nsIn K mainGlobals "sum" = some none)
    (z_tuple : PySem.W.nsIn K mainGlobals "tuple" = some none)
    (z_zip : PySem.W.nsIn K mainGlobals "zip" = some none)
    (same0 : PySem.W.nsIn K mainGlobals "SAME" = some (some (.ref aSame)))
    (same1 : K.lookup aSame = some ⟨.type "tuple", oSame, .seq #[.int 1 tS0, .int 0 tS1, .int 0 tS2, .int 1 tS3] nSame, sSame⟩) :
    ∃ fd : FuncData, (∀ (s : Shared) (v : Value), BindsTo s fd ⟨[v], []⟩ [("_law_script", v)]) ∧ ∀ base : Heap, K.In base → base.Ns mainGlobals mg → FnOk l.prog w K mg base CX0 11 fa fd ["_law_script"] (sp_law K) := by
  have e := hfa.symm.trans (PySem.W.mg_of X G a53)
  cases e
  have T : Txt K mg := ⟨PySem.W.mg_none_of X G z_ValueError, PySem.W.mg_none_of X G z_abs, PySem.W.mg_none_of X G z_all, PySem.W.mg_none_of X G z_any, PySem.W.mg_none_of X G z_bool, PySem.W.mg_none_of X G z_enumerate, PySem.W.mg_none_of X G z_int, PySem.W.mg_none_of X G z_isinstance, PySem.W.mg_none_of X G z_len, PySem.W.mg_none_of X G z_list, PySem.W.mg_none_of X G z_max, PySem.W.mg_none_of X G z_min, PySem.W.mg_none_of X G z_range, PySem.W.mg_none_of X G z_repr, PySem.W.mg_none_of X G z_sorted, PySem.W.mg_none_of X G z_str, PySem.W.mg_none_of X G z_sum, PySem.W.mg_none_of X G z_tuple, PySem.W.mg_none_of X G z_zip⟩
  have mgU := PySem.W.mg_of X G aU
  have UE : UeC K cUnmarkedError := ⟨⟨rdU, gaU⟩, inU⟩
  have N_UnmarkedError : NmC mg "UnmarkedError" cUnmarkedError := ⟨mgU⟩
  have N_InvalidWord : NmC mg "InvalidWord" cInvalidWord := ⟨PySem.W.mg_of X G aInvalidWord⟩
  have N_InvalidRatio : NmC mg "InvalidRatio" cInvalidRatio := ⟨PySem.W.mg_of X G aInvalidRatio⟩
  have N_InvalidChange : NmC mg "InvalidChange" cInvalidChange := ⟨PySem.W.mg_of X G aInvalidChange⟩
  have N_InvalidEdge : NmC mg "InvalidEdge" cInvalidEdge := ⟨PySem.W.mg_of X G aInvalidEdge⟩
  have O_InvalidWord : OexC K cInvalidWord := ⟨⟨_, _, _, _, _, _, _, _, _, _, _, _, _, _, _, xInvalidWord, by rfl⟩, sInvalidWord, bInvalidWord, tInvalidWord, kInvalidWord⟩
  have O_InvalidRatio : OexC K cInvalidRatio := ⟨⟨_, _, _, _, _, _, _, _, _, _, _, _, _, _, _, xInvalidRatio, by rfl⟩, sInvalidRatio, bInvalidRatio, tInvalidRatio, kInvalidRatio⟩
  have O_InvalidChange : OexC K cInvalidChange := ⟨⟨_, _, _, _, _, _, _, _, _, _, _, _, _, _, _, xInvalidChange, by rfl⟩, sInvalidChange, bInvalidChange, tInvalidChange, kInvalidChange⟩
  have O_InvalidEdge : OexC K cInvalidEdge := ⟨⟨_, _, _, _, _, _, _, _, _, _, _, _, _, _, _, xInvalidEdge, by rfl⟩, sInvalidEdge, bInvalidEdge, tInvalidEdge, kInvalidEdge⟩
  have INSC : C8.InsC K C := ⟨⟨pgC, hdC, poC, saC⟩, haC, hnC, htC, hmC, kit_self _ _ (beq_self_eq_true _)⟩
  have R : RatT K mg C := ⟨INSC, n1, n2, PySem.W.mg_of X G aC, nf, ne, so⟩
  have INSCC : C8.InsC K CC := ⟨⟨pgCC, hdCC, poCC, saCC⟩, haCC, hnCC, htCC, hmCC, kit_self _ _ (beq_self_eq_true _)⟩
  have Rc : ChT K mg CC := ⟨INSCC, cn1, cn2, PySem.W.mg_of X G aCC, cnf, cne, cso⟩
  have INSCE : C8.InsC K CE := ⟨⟨pgCE, hdCE, poCE, saCE⟩, haCE, hnCE, htCE, hmCE, kit_self _ _ (beq_self_eq_true _)⟩
  have Re : EdgT K mg CE := ⟨INSCE, en1, en2, PySem.W.mg_of X G aCE, enf, ene, eso⟩
  have F1 := fun_mk (st := S__law_take) l1 c1 k1
  have b1 := F1.binds (ps := ["_law_box_here", "_law_many"]) fun _ _ _ _ _ _ us hl => match us, hl with | [_, _], _ => rfl
  have F2 := fun_mk (st := S__law_box) l2 c2 k2
  have b2 := F2.binds (ps := ["_law_script", "_law_k"]) fun _ _ _ _ _ _ us hl => match us, hl with | [_, _], _ => rfl
  have F3 := fun_mk (st := S_is_integer) l3 c3 k3
  have b3 := F3.binds (ps := ["value"]) fun _ _ _ _ _ _ us hl => match us, hl with | [_], _ => rfl
  have F4 := fun_mk (st := S_is_length) l4 c4 k4
  have b4 := F4.binds (ps := ["value"]) fun _ _ _ _ _ _ us hl => match us, hl with | [_], _ => rfl
  have F5 := fun_mk (st := S_common_length) l5 c5 k5
  have b5 := F5.binds (ps := ["first", "second"]) fun _ _ _ _ _ _ us hl => match us, hl with | [_, _], _ => rfl
  have F6 := fun_mk (st := S_InvalidWord__init_) l6 c6 k6
  have b6 := F6.binds (ps := ["self"]) fun _ _ _ _ _ _ us hl => match us, hl with | [_], _ => rfl
  have F7 := fun_mk (st := S_InvalidRatio__init_) l7 c7 k7
  have b7 := F7.binds (ps := ["self"]) fun _ _ _ _ _ _ us hl => match us, hl with | [_], _ => rfl
  have F8 := fun_mk (st := S_InvalidChange__init_) l8 c8 k8
  have b8 := F8.binds (ps := ["self"]) fun _ _ _ _ _ _ us hl => match us, hl with | [_], _ => rfl
  have F9 := fun_mk (st := S_InvalidEdge__init_) l9 c9 k9
  have b9 := F9.binds (ps := ["self"]) fun _ _ _ _ _ _ us hl => match us, hl with | [_], _ => rfl
  have F10 := fun_mk (st := S_Ratio__init_) l10 c10 k10
  have b10 := F10.binds (ps := ["self", "first", "second"]) fun _ _ _ _ _ _ us hl => match us, hl with | [_, _, _], _ => rfl
  have F11 := fun_mk (st := S_need_word) l11 c11 k11
  have b11 := F11.binds (ps := ["value"]) fun _ _ _ _ _ _ us hl => match us, hl with | [_], _ => rfl
  have F12 := fun_mk (st := S_word_of_lengths) l12 c12 k12
  have b12 := F12.binds (ps := ["first", "second"]) fun _ _ _ _ _ _ us hl => match us, hl with | [_, _], _ => rfl
  have F13 := fun_mk (st := S_Ratio_word) l13 c13 k13
  have b13 := F13.binds (ps := ["self"]) fun _ _ _ _ _ _ us hl => match us, hl with | [_], _ => rfl
  have F14 := fun_mk (st := S_Change__init_) l14 c14 k14
  have b14 := F14.binds (ps := ["self", "a", "b", "c", "d"]) fun _ _ _ _ _ _ us hl => match us, hl with | [_, _, _, _, _], _ => rfl
  have F15 := fun_mk (st := S_numbers_behind) l15 c15 k15
  have b15 := F15.binds (ps := ["numbers", "letter"]) fun _ _ _ _ _ _ us hl => match us, hl with | [_, _], _ => rfl
  have F16 := fun_mk (st := S_numbers_of_word) l16 c16 k16
  have b16 := F16.binds (ps := ["word"]) fun _ _ _ _ _ _ us hl => match us, hl with | [_], _ => rfl
  have F17 := fun_mk (st := S_Change_of_word) l17 c17 k17
  have b17 := F17.binds (ps := ["cls", "word"]) fun _ _ _ _ _ _ us hl => match us, hl with | [_, _], _ => rfl
  have F18 := fun_mk (st := S_common) l18 c18 k18
  have b18 := F18.binds (ps := ["one", "other"]) fun _ _ _ _ _ _ us hl => match us, hl with | [_, _], _ => rfl
  have F19 := fun_mk (st := S_sign_of) l19 c19 k19
  have b19 := F19.binds (ps := ["number"]) fun _ _ _ _ _ _ us hl => match us, hl with | [_], _ => rfl
  have F20 := fun_mk (st := S_whole_root) l20 c20 k20
  have b20 := F20.binds (ps := ["number"]) fun _ _ _ _ _ _ us hl => match us, hl with | [_], _ => rfl
  have F21 := fun_mk (st := S_sign_with_root) l21 c21 k21
  have b21 := F21.binds (ps := ["one", "times", "inner"]) fun _ _ _ _ _ _ us hl => match us, hl with | [_, _, _], _ => rfl
  have F22 := fun_mk (st := S_lowered) l22 c22 k22
  have b22 := F22.binds (ps := ["a", "b", "c", "side"]) fun _ _ _ _ _ _ us hl => match us, hl with | [_, _, _, _], _ => rfl
  have F23 := fun_mk (st := S_inner_of) l23 c23 k23
  have b23 := F23.binds (ps := ["root"]) fun _ _ _ _ _ _ us hl => match us, hl with | [_], _ => rfl
  have F24 := fun_mk (st := S_Edge__init_) l24 c24 k24
  have b24 := F24.binds (ps := ["self", "place"]) fun _ _ _ _ _ _ us hl => match us, hl with | [_, _], _ => rfl
  have F25 := fun_mk (st := S_Edge_of) l25 c25 k25
  have b25 := F25.binds (ps := ["cls", "ratio"]) fun _ _ _ _ _ _ us hl => match us, hl with | [_, _], _ => rfl
  have F26 := fun_mk (st := S_Edge_zero) l26 c26 k26
  have b26 := F26.binds (ps := ["cls"]) fun _ _ _ _ _ _ us hl => match us, hl with | [_], _ => rfl
  have F27 := fun_mk (st := S_Edge_endless) l27 c27 k27
  have b27 := F27.binds (ps := ["cls"]) fun _ _ _ _ _ _ us hl => match us, hl with | [_], _ => rfl
  have F28 := fun_mk (st := S_Edge__eq_) l28 c28 k28
  have b28 := F28.binds (ps := ["self", "other"]) fun _ _ _ _ _ _ us hl => match us, hl with | [_, _], _ => rfl
  have F29 := fun_mk (st := S_Edge_root) l29 c29 k29
  have b29 := F29.binds (ps := ["cls", "p", "q", "d", "r"]) fun _ _ _ _ _ _ us hl => match us, hl with | [_, _, _, _, _], _ => rfl
  have F30 := fun_mk (st := S_changed) l30 c30 k30
  have b30 := F30.binds (ps := ["root", "numbers"]) fun _ _ _ _ _ _ us hl => match us, hl with | [_, _], _ => rfl
  have F31 := fun_mk (st := S_place_behind) l31 c31 k31
  have b31 := F31.binds (ps := ["numbers", "place"]) fun _ _ _ _ _ _ us hl => match us, hl with | [_, _], _ => rfl
  have F32 := fun_mk (st := S_sign_with_roots) l32 c32 k32
  have b32 := F32.binds (ps := ["one", "times", "inner", "again", "other"]) fun _ _ _ _ _ _ us hl => match us, hl with | [_, _, _, _, _], _ => rfl
  have F33 := fun_mk (st := S_compared) l33 c33 k33
  have b33 := F33.binds (ps := ["one", "other"]) fun _ _ _ _ _ _ us hl => match us, hl with | [_, _], _ => rfl
  have F34 := fun_mk (st := S_step) l34 c34 k34
  have b34 := F34.binds (ps := ["root"]) fun _ _ _ _ _ _ us hl => match us, hl with | [_], _ => rfl
  have F35 := fun_mk (st := S_first_letters) l35 c35 k35
  have b35 := F35.binds (ps := ["root", "count"]) fun _ _ _ _ _ _ us hl => match us, hl with | [_, _], _ => rfl
  have F36 := fun_mk (st := S_fixed) l36 c36 k36
  have b36 := F36.binds (ps := ["numbers"]) fun _ _ _ _ _ _ us hl => match us, hl with | [_], _ => rfl
  have F37 := fun_mk (st := S_parts_of) l37 c37 k37
  have b37 := F37.binds (ps := ["root"]) fun _ _ _ _ _ _ us hl => match us, hl with | [_], _ => rfl
  have F38 := fun_mk (st := S_Edge_ratio) l38 c38 k38
  have b38 := F38.binds (ps := ["self"]) fun _ _ _ _ _ _ us hl => match us, hl with | [_], _ => rfl
  have F39 := fun_mk (st := S_Edge_parts) l39 c39 k39
  have b39 := F39.binds (ps := ["self"]) fun _ _ _ _ _ _ us hl => match us, hl with | [_], _ => rfl
  have F40 := fun_mk (st := S_Edge_of_parts) l40 c40 k40
  have b40 := F40.binds (ps := ["cls", "lead", "cycle"]) fun _ _ _ _ _ _ us hl => match us, hl with | [_, _, _], _ => rfl
  have F41 := fun_mk (st := S_Edge_letters) l41 c41 k41
  have b41 := F41.binds (ps := ["self", "count"]) fun _ _ _ _ _ _ us hl => match us, hl with | [_, _], _ => rfl
  have F42 := fun_mk (st := S__law_sign) l42 c42 k42
  have b42 := F42.binds (ps := ["_law_number"]) fun _ _ _ _ _ _ us hl => match us, hl with | [_], _ => rfl
  have F43 := fun_mk (st := S__law_gcd) l43 c43 k43
  have b43 := F43.binds (ps := ["_law_one", "_law_other"]) fun _ _ _ _ _ _ us hl => match us, hl with | [_, _], _ => rfl
  have F44 := fun_mk (st := S__law_sign_root) l44 c44 k44
  have b44 := F44.binds (ps := ["_law_one", "_law_times", "_law_inner"]) fun _ _ _ _ _ _ us hl => match us, hl with | [_, _, _], _ => rfl
  have F45 := fun_mk (st := S__law_whole_root) l45 c45 k45
  have b45 := F45.binds (ps := ["_law_number"]) fun _ _ _ _ _ _ us hl => match us, hl with | [_], _ => rfl
  have F46 := fun_mk (st := S__law_is_square) l46 c46 k46
  have b46 := F46.binds (ps := ["_law_number"]) fun _ _ _ _ _ _ us hl => match us, hl with | [_], _ => rfl
  have F47 := fun_mk (st := S__law_root) l47 c47 k47
  have b47 := F47.binds (ps := ["_law_box_here", "_law_most"]) fun _ _ _ _ _ _ us hl => match us, hl with | [_, _], _ => rfl
  have F48 := fun_mk (st := S__law_fraction) l48 c48 k48
  have b48 := F48.binds (ps := ["_law_given"]) fun _ _ _ _ _ _ us hl => match us, hl with | [_], _ => rfl
  have F49 := fun_mk (st := S__law_letters) l49 c49 k49
  have b49 := F49.binds (ps := ["_law_given", "_law_count"]) fun _ _ _ _ _ _ us hl => match us, hl with | [_, _], _ => rfl
  have F50 := fun_mk (st := S__law_one_step) l50 c50 k50
  have b50 := F50.binds (ps := ["_law_top", "_law_under", "_law_inner"]) fun _ _ _ _ _ _ us hl => match us, hl with | [_, _, _], _ => rfl
  have F51 := fun_mk (st := S__law_parts) l51 c51 k51
  have b51 := F51.binds (ps := ["_law_given"]) fun _ _ _ _ _ _ us hl => match us, hl with | [_], _ => rfl
  have F52 := fun_mk (st := S__law_right) l52 c52 k52
  have b52 := F52.binds (ps := ["_law_box_here", "_law_given"]) fun _ _ _ _ _ _ us hl => match us, hl with | [_, _], _ => rfl
  have F53 := fun_mk (st := S_law) l53 c53 k53
  refine ⟨PySem.W.fnOf "law" "law" (defArgs S_law) (defBody S_law) (defScope S_law) .none kV53 dc53 pm53 an53 cd53 ct53, fun s v => .of_eq rfl, fun base _ _ => ?_⟩
  have G_SAME : GT K mg "SAME" Mt.one.tl := gt_of (PySem.W.mg_of X G same0) same1 rfl rfl (by show 4 ≤ sizeLine; decide) (.cons ⟨_, rfl⟩ (.cons ⟨_, rfl⟩ (.cons ⟨_, rfl⟩ (.cons ⟨_, rfl⟩ .nil))))
  have C_take : FnC l.prog w K mg base CX0 1 "_law_take" ["_law_box_here", "_law_many"] sp_take := ⟨_, _, ok_take F1 T , PySem.W.mg_of X G a1, k1, b1⟩
  have C_box : FnC l.prog w K mg base CX0 1 "_law_box" ["_law_script", "_law_k"] (sp_box2 K) := ⟨_, _, ok_box F2 T , PySem.W.mg_of X G a2, k2, b2⟩
  have C_isint : FnC l.prog w K mg base CX0 1 "is_integer" ["value"] (sp_isint K) := ⟨_, _, ok_isint F3 T , PySem.W.mg_of X G a3, k3, b3⟩
  have C_islen : FnC l.prog w K mg base CX0 2 "is_length" ["value"] (sp_islen K) := ⟨_, _, ok_islen F4 T C_isint, PySem.W.mg_of X G a4, k4, b4⟩
  have C_common : FnC l.prog w K mg base CX0 1 "common_length" ["first", "second"] sp_common := ⟨_, _, ok_common F5 T , PySem.W.mg_of X G a5, k5, b5⟩
  have E_InvalidWord : ErC l.prog w K mg base "InvalidWord" cInvalidWord := ⟨_, _, (ok_err_InvalidWord F6 UE mgU O_InvalidWord).mono (by decide), O_InvalidWord, a6, i6, PySem.W.mg_of X G aInvalidWord, b6⟩
  have E_InvalidRatio : ErC l.prog w K mg base "InvalidRatio" cInvalidRatio := ⟨_, _, (ok_err_InvalidRatio F7 UE mgU O_InvalidRatio).mono (by decide), O_InvalidRatio, a7, i7, PySem.W.mg_of X G aInvalidRatio, b7⟩
  have E_InvalidChange : ErC l.prog w K mg base "InvalidChange" cInvalidChange := ⟨_, _, (ok_err_InvalidChange F8 UE mgU O_InvalidChange).mono (by decide), O_InvalidChange, a8, i8, PySem.W.mg_of X G aInvalidChange, b8⟩
  have E_InvalidEdge : ErC l.prog w K mg base "InvalidEdge" cInvalidEdge := ⟨_, _, (ok_err_InvalidEdge F9 UE mgU O_InvalidEdge).mono (by decide), O_InvalidEdge, a9, i9, PySem.W.mg_of X G aInvalidEdge, b9⟩
  have C_ratioX : MkC l.prog w K mg base (L2.CX l.prog w) 4 C "Ratio" ["self", "first", "second"] (sp_init C cInvalidRatio K) := ⟨_, _, ok_init F10 T R E_InvalidRatio C_islen C_common, ⟨mkC, a10, i10, kcC⟩, PySem.W.mg_of X G aC, b10⟩
  have C_need : FnC l.prog w K mg base (L2.CX l.prog w) 4 "need_word" ["value"] (sp_need cInvalidWord K) := ⟨_, _, ok_need F11 T E_InvalidWord, PySem.W.mg_of X G a11, k11, b11⟩
  have C_wol : FnC l.prog w K mg base CX0 1 "word_of_lengths" ["first", "second"] sp_wol := ⟨_, _, ok_wol F12 T , PySem.W.mg_of X G a12, k12, b12⟩
  have P_word : PrC l.prog w K mg base 2 C "word" (sp_word C) := ⟨_, _, _, ok_word F13 T R C_wol, ⟨pgC, hdC, poC, saC⟩, ⟨a13, g13, h13, ⟨_, r13⟩⟩, b13⟩
  have C_changeX : MkC l.prog w K mg base (L2.CX l.prog w) 4 CC "Change" ["self", "a", "b", "c", "d"] (sp_chinit CC cInvalidChange K) := ⟨_, _, ok_chinit F14 T Rc E_InvalidChange C_isint, ⟨mkCC, a14, i14, kcCC⟩, PySem.W.mg_of X G aCC, b14⟩
  have C_nb : FnC l.prog w K mg base CX0 1 "numbers_behind" ["numbers", "letter"] (sp_nb K) := ⟨_, _, ok_nb F15 T , PySem.W.mg_of X G a15, k15, b15⟩
  have C_now : FnC l.prog w K mg base CX0 2 "numbers_of_word" ["word"] (sp_now K) := ⟨_, _, ok_now F16 T G_SAME C_nb, PySem.W.mg_of X G a16, k16, b16⟩
  have M_chwX : CmC l.prog w K mg base (L2.CX l.prog w) 6 CC "Change" "of_word" ["cls", "word"] (sp_chw CC cInvalidWord K) := ⟨_, _, _, ok_chw F17 T C_need C_now C_changeX, ⟨rdcCC, gacCC⟩, ⟨a17, ⟨_, r17⟩, i17⟩, PySem.W.mg_of X G aCC, b17⟩
  have C_com : FnC l.prog w K mg base CX0 1 "common" ["one", "other"] sp_com := ⟨_, _, ok_com F18 T , PySem.W.mg_of X G a18, k18, b18⟩
  have C_sign : FnC l.prog w K mg base CX0 1 "sign_of" ["number"] sp_sign := ⟨_, _, ok_sign F19 T , PySem.W.mg_of X G a19, k19, b19⟩
  have C_wr : FnC l.prog w K mg base CX0 1 "whole_root" ["number"] sp_wr := ⟨_, _, ok_wr F20 T , PySem.W.mg_of X G a20, k20, b20⟩
  have C_swr : FnC l.prog w K mg base CX0 2 "sign_with_root" ["one", "times", "inner"] sp_swr := ⟨_, _, ok_swr F21 T C_sign, PySem.W.mg_of X G a21, k21, b21⟩
  have C_low : FnC l.prog w K mg base CX0 2 "lowered" ["a", "b", "c", "side"] sp_low := ⟨_, _, ok_low F22 T C_com, PySem.W.mg_of X G a22, k22, b22⟩
  have C_inner : FnC l.prog w K mg base CX0 1 "inner_of" ["root"] (sp_inner K) := ⟨_, _, ok_inner F23 T , PySem.W.mg_of X G a23, k23, b23⟩
  have C_edgeX : MkC l.prog w K mg base (L2.CX l.prog w) 2 CE "Edge" ["self", "place"] (sp_einit CE) := ⟨_, _, ok_einit F24 T Re C_inner, ⟨mkCE, a24, i24, kcCE⟩, PySem.W.mg_of X G aCE, b24⟩
  have M_eofX : CmC l.prog w K mg base (L2.CX l.prog w) 4 CE "Edge" "of" ["cls", "ratio"] (sp_eof C CE) := ⟨_, _, _, ok_eof F25 T R C_edgeX, ⟨rdcCE, gacCE⟩, ⟨a25, ⟨_, r25⟩, i25⟩, PySem.W.mg_of X G aCE, b25⟩
  have M_ezeroX : CmC l.prog w K mg base (L2.CX l.prog w) 4 CE "Edge" "zero" ["cls"] (sp_ecm CE [0, 1]) := ⟨_, _, _, ok_zero F26 T C_edgeX, ⟨rdcCE, gacCE⟩, ⟨a26, ⟨_, r26⟩, i26⟩, PySem.W.mg_of X G aCE, b26⟩
  have M_eendlessX : CmC l.prog w K mg base (L2.CX l.prog w) 4 CE "Edge" "endless" ["cls"] (sp_ecm CE [1, 0]) := ⟨_, _, _, ok_endless F27 T C_edgeX, ⟨rdcCE, gacCE⟩, ⟨a27, ⟨_, r27⟩, i27⟩, PySem.W.mg_of X G aCE, b27⟩
  have M_eeq : MtC l.prog w K mg base CX0 1 CE "__eq__" ["self", "other"] (sp_eeq CE) := ⟨_, _, ok_eeq F28 T Re, ⟨a28, i28, k28⟩, b28⟩
  have M_erootX : CmC l.prog w K mg base (L2.CX l.prog w) 4 CE "Edge" "root" ["cls", "p", "q", "d", "r"] (sp_eroot CE cInvalidEdge K) := ⟨_, _, _, ok_eroot F29 T E_InvalidEdge C_isint C_swr C_wr C_com C_low C_edgeX, ⟨rdcCE, gacCE⟩, ⟨a29, ⟨_, r29⟩, i29⟩, PySem.W.mg_of X G aCE, b29⟩
  have C_changed : FnC l.prog w K mg base CX0 3 "changed" ["root", "numbers"] (sp_changed K) := ⟨_, _, ok_changed F30 T C_sign C_low, PySem.W.mg_of X G a30, k30, b30⟩
  have C_pb : FnC l.prog w K mg base CX0 4 "place_behind" ["numbers", "place"] (sp_pb K) := ⟨_, _, ok_pb F31 T C_changed C_com, PySem.W.mg_of X G a31, k31, b31⟩
  have C_swrs : FnC l.prog w K mg base CX0 3 "sign_with_roots" ["one", "times", "inner", "again", "other"] sp_swrs := ⟨_, _, ok_swrs F32 T C_sign C_swr, PySem.W.mg_of X G a32, k32, b32⟩
  have C_cmp4 : FnC l.prog w K mg base CX0 4 "compared" ["one", "other"] (sp_cmp4 K) := ⟨_, _, ok_cmp4 F33 T C_sign C_swr C_swrs C_inner, PySem.W.mg_of X G a33, k33, b33⟩
  have C_step : FnC l.prog w K mg base CX0 6 "step" ["root"] (sp_step K) := ⟨_, _, ok_step F34 T C_cmp4 C_changed, PySem.W.mg_of X G a34, k34, b34⟩
  have C_fl : FnC l.prog w K mg base CX0 7 "first_letters" ["root", "count"] sp_fl := ⟨_, _, ok_fl F35 T C_step, PySem.W.mg_of X G a35, k35, b35⟩
  have C_fixed : FnC l.prog w K mg base CX0 3 "fixed" ["numbers"] sp_fixed := ⟨_, _, ok_fixed F36 T C_low, PySem.W.mg_of X G a36, k36, b36⟩
  have C_parts : FnC l.prog w K mg base CX0 7 "parts_of" ["root"] sp_parts := ⟨_, _, ok_parts F37 T C_step, PySem.W.mg_of X G a37, k37, b37⟩
  have P_eratio : PrC l.prog w K mg base 6 CE "ratio" (sp_eratio C CE) := ⟨_, _, _, ok_eratio F38 T Re C_ratioX.calm, ⟨pgCE, hdCE, poCE, saCE⟩, ⟨a38, g38, h38, ⟨_, r38⟩⟩, b38⟩
  have P_eparts : PrC l.prog w K mg base 8 CE "parts" (sp_eparts CE) := ⟨_, _, _, ok_eparts F39 T Re C_parts, ⟨pgCE, hdCE, poCE, saCE⟩, ⟨a39, g39, h39, ⟨_, r39⟩⟩, b39⟩
  have P_eparts2 : PrC l.prog w K mg base 1 CE "parts" (sp_eparts2 CE) := ⟨_, _, _, ok_eparts2 F39 T Re, ⟨pgCE, hdCE, poCE, saCE⟩, ⟨a39, g39, h39, ⟨_, r39⟩⟩, b39⟩
  have M_eofGX : CmC l.prog w K mg base (L2.CX l.prog w) 8 CE "Edge" "of_parts" ["cls", "lead", "cycle"] (Ep.sp_eofG CE) := ⟨_, _, _, ok_eofG F40 T Re Rc C_need M_chwX.calm C_fixed C_pb C_edgeX E_InvalidWord, ⟨rdcCE, gacCE⟩, ⟨a40, ⟨_, r40⟩, i40⟩, PySem.W.mg_of X G aCE, b40⟩
  have M_letters : MtC l.prog w K mg base CX0 8 CE "letters" ["self", "count"] (K13.sp_lettersN CE) := ⟨_, _, ok_lettersN F41 T R Re P_eratio P_word C_fl, ⟨a41, i41, k41⟩, b41⟩
  have C_lsign : FnC l.prog w K mg base CX0 1 "_law_sign" ["_law_number"] sp_sign := ⟨_, _, ok_lsign F42 T , PySem.W.mg_of X G a42, k42, b42⟩
  have C_lgcd : FnC l.prog w K mg base CX0 1 "_law_gcd" ["_law_one", "_law_other"] sp_com := ⟨_, _, ok_lgcd F43 T , PySem.W.mg_of X G a43, k43, b43⟩
  have C_lsr : FnC l.prog w K mg base CX0 2 "_law_sign_root" ["_law_one", "_law_times", "_law_inner"] sp_lsr := ⟨_, _, ok_lsr F44 T C_lsign, PySem.W.mg_of X G a44, k44, b44⟩
  have C_lwr : FnC l.prog w K mg base CX0 1 "_law_whole_root" ["_law_number"] sp_wr := ⟨_, _, ok_lwr F45 T , PySem.W.mg_of X G a45, k45, b45⟩
  have C_lsq : FnC l.prog w K mg base CX0 2 "_law_is_square" ["_law_number"] sp_lsq := ⟨_, _, ok_lsq F46 T C_lwr, PySem.W.mg_of X G a46, k46, b46⟩
  have C_lroot : FnC l.prog w K mg base CX0 3 "_law_root" ["_law_box_here", "_law_most"] sp_lroot := ⟨_, _, ok_lroot F47 T C_take C_lsr, PySem.W.mg_of X G a47, k47, b47⟩
  have C_lfrac : FnC l.prog w K mg base CX0 3 "_law_fraction" ["_law_given"] sp_lfrac := ⟨_, _, ok_lfrac F48 T C_lsq C_lwr C_lgcd, PySem.W.mg_of X G a48, k48, b48⟩
  have C_llet : FnC l.prog w K mg base CX0 3 "_law_letters" ["_law_given", "_law_count"] K13.sp_llet := ⟨_, _, ok_llet F49 T C_lsr, PySem.W.mg_of X G a49, k49, b49⟩
  have C_lstep : FnC l.prog w K mg base CX0 3 "_law_one_step" ["_law_top", "_law_under", "_law_inner"] K13.sp_lstep := ⟨_, _, ok_lstep F50 T C_lsign C_lsr, PySem.W.mg_of X G a50, k50, b50⟩
  have C_lparts : FnC l.prog w K mg base CX0 4 "_law_parts" ["_law_given"] K13.sp_lparts := ⟨_, _, ok_lparts F51 T C_lsign C_lstep, PySem.W.mg_of X G a51, k51, b51⟩
  have C_right : FnC l.prog w K mg base CX0 10 "_law_right" ["_law_box_here", "_law_given"] K13.sp_right := ⟨_, _, ok_right F52 T Re C_take M_erootX.calm C_lparts C_llet M_letters P_eparts M_eofGX.calm M_eeq, PySem.W.mg_of X G a52, k52, b52⟩
  exact ok_law F53 T R Re C_box C_take C_lroot C_lfrac C_right C_ratioX.calm M_eofX.calm M_ezeroX.calm M_eendlessX.calm M_letters P_word P_eparts2
def zf0 : List (PySem.W.Frag → Bool) := [fun K => gloB K "UnmarkedError",
  fun K => PySem.W.readsIn K (He.ga K "UnmarkedError") (.type "type"),
  fun K => decide (PySem.W.specialIn K (.ref (He.ga K "UnmarkedError")) "__getattribute__" = some (some (.builtin "type.__getattribute__"))),
  fun K => clsB K (He.ga K "UnmarkedError") "__init__" (.builtin "ValueError.__init__"),
  fun K => gloB K "InvalidWord",
  fun K => errB K (He.ga K "InvalidWord") (He.ga K "UnmarkedError"),
  fun K => decide (PySem.W.findIn K (.ref (He.ga K "InvalidWord")) "__setattr__" = some (some (.builtin "object.__setattr__"))),
  fun K => decide (PySem.W.subIn K (.ref (He.ga K "InvalidWord")) (.type "BaseException") = some true),
  fun K => decide (PySem.W.typeIn K (.ref (He.ga K "InvalidWord")) = some (.type "type")),
  fun K => PySem.W.keepIn K (.ref (He.ga K "InvalidWord")),
  fun K => gloB K "InvalidRatio",
  fun K => errB K (He.ga K "InvalidRatio") (He.ga K "UnmarkedError"),
  fun K => decide (PySem.W.findIn K (.ref (He.ga K "InvalidRatio")) "__setattr__" = some (some (.builtin "object.__setattr__"))),
  fun K => decide (PySem.W.subIn K (.ref (He.ga K "InvalidRatio")) (.type "BaseException") = some true),
  fun K => decide (PySem.W.typeIn K (.ref (He.ga K "InvalidRatio")) = some (.type "type")),
  fun K => PySem.W.keepIn K (.ref (He.ga K "InvalidRatio")),
  fun K => gloB K "InvalidChange",
  fun K => errB K (He.ga K "InvalidChange") (He.ga K "UnmarkedError"),
  fun K => decide (PySem.W.findIn K (.ref (He.ga K "InvalidChange")) "__setattr__" = some (some (.builtin "object.__setattr__"))),
  fun K => decide (PySem.W.subIn K (.ref (He.ga K "InvalidChange")) (.type "BaseException") = some true),
  fun K => decide (PySem.W.typeIn K (.ref (He.ga K "InvalidChange")) = some (.type "type")),
  fun K => PySem.W.keepIn K (.ref (He.ga K "InvalidChange")),
  fun K => gloB K "InvalidEdge",
  fun K => errB K (He.ga K "InvalidEdge") (He.ga K "UnmarkedError"),
  fun K => decide (PySem.W.findIn K (.ref (He.ga K "InvalidEdge")) "__setattr__" = some (some (.builtin "object.__setattr__"))),
  fun K => decide (PySem.W.subIn K (.ref (He.ga K "InvalidEdge")) (.type "BaseException") = some true),
  fun K => decide (PySem.W.typeIn K (.ref (He.ga K "InvalidEdge")) = some (.type "type")),
  fun K => PySem.W.keepIn K (.ref (He.ga K "InvalidEdge")),
  fun K => PySem.W.hasDictIn K (He.ga K "UnmarkedError"),
  fun K => decide (PySem.W.subIn K (.ref (He.ga K "UnmarkedError")) (.type "BaseException") = some true),
  fun K => decide (PySem.W.typeIn K (.ref (He.ga K "UnmarkedError")) = some (.type "type")),
  fun K => PySem.W.hasDictIn K (He.ga K "InvalidWord"),
  fun K => PySem.W.hasDictIn K (He.ga K "InvalidRatio"),
  fun K => PySem.W.hasDictIn K (He.ga K "InvalidChange"),
  fun K => PySem.W.hasDictIn K (He.ga K "InvalidEdge"),
  fun K => gloB K "Ratio",
  fun K => PySem.W.plainGet K (He.ga K "Ratio") Str.empty,
  fun K => PySem.W.hasDictIn K (He.ga K "Ratio"),
  fun K => PySem.W.plainOver K (He.ga K "Ratio"),
  fun K => decide (PySem.W.findIn K (.ref (He.ga K "Ratio")) "__setattr__" = some (some (.builtin "object.__setattr__")))]
def zf1 : List (PySem.W.Frag → Bool) := [fun K => PySem.W.makesIn K (He.ga K "Ratio"),
  fun K => PySem.W.keepIn K (.ref (He.ga K "Ratio")),
  fun K => decide (PySem.W.findIn K (.ref (He.ga K "Ratio")) "__class__" = some (some (.builtin "object.__class__"))),
  fun K => decide (PySem.W.specialIn K (.builtin "object.__class__") "__get__" = some (some (.builtin "getset_descriptor.__get__"))),
  fun K => decide (PySem.W.takesIn K (.builtin "object.__class__") = some true),
  fun K => decide (PySem.W.mroIn K (He.ga K "Ratio") (.type "object") = some true),
  fun K => decide (PySem.W.findIn K (.ref (He.ga K "Ratio")) "first" = some none),
  fun K => decide (PySem.W.findIn K (.ref (He.ga K "Ratio")) "second" = some none),
  fun K => PySem.W.notFirst K (He.ga K "Ratio") (.ref (He.ga K "Ratio")),
  fun K => decide (PySem.W.findIn K (.ref (He.ga K "Ratio")) "__ne__" = some (some (.builtin "object.__ne__"))),
  fun K => decide (PySem.W.subIn K (.ref (He.ga K "Ratio")) (.type "object") = some true),
  fun K => gloB K "Change",
  fun K => PySem.W.plainGet K (He.ga K "Change") Str.empty,
  fun K => PySem.W.hasDictIn K (He.ga K "Change"),
  fun K => PySem.W.plainOver K (He.ga K "Change"),
  fun K => decide (PySem.W.findIn K (.ref (He.ga K "Change")) "__setattr__" = some (some (.builtin "object.__setattr__"))),
  fun K => PySem.W.makesIn K (He.ga K "Change"),
  fun K => PySem.W.keepIn K (.ref (He.ga K "Change")),
  fun K => decide (PySem.W.findIn K (.ref (He.ga K "Change")) "__class__" = some (some (.builtin "object.__class__"))),
  fun K => decide (PySem.W.mroIn K (He.ga K "Change") (.type "object") = some true),
  fun K => PySem.W.readsIn K (He.ga K "Change") (.type "type"),
  fun K => decide (PySem.W.specialIn K (.ref (He.ga K "Change")) "__getattribute__" = some (some (.builtin "type.__getattribute__"))),
  fun K => decide (PySem.W.findIn K (.ref (He.ga K "Change")) "numbers" = some none),
  fun K => decide (PySem.W.findIn K (.ref (He.ga K "Change")) "turn" = some none),
  fun K => PySem.W.notFirst K (He.ga K "Change") (.ref (He.ga K "Change")),
  fun K => decide (PySem.W.findIn K (.ref (He.ga K "Change")) "__ne__" = some (some (.builtin "object.__ne__"))),
  fun K => decide (PySem.W.subIn K (.ref (He.ga K "Change")) (.type "object") = some true),
  fun K => decide (PySem.W.typeIn K (.ref (He.ga K "Change")) = some (.type "type")),
  fun K => gloB K "Edge",
  fun K => PySem.W.plainGet K (He.ga K "Edge") Str.empty,
  fun K => PySem.W.hasDictIn K (He.ga K "Edge"),
  fun K => PySem.W.plainOver K (He.ga K "Edge"),
  fun K => decide (PySem.W.findIn K (.ref (He.ga K "Edge")) "__setattr__" = some (some (.builtin "object.__setattr__"))),
  fun K => PySem.W.makesIn K (He.ga K "Edge"),
  fun K => PySem.W.keepIn K (.ref (He.ga K "Edge")),
  fun K => decide (PySem.W.findIn K (.ref (He.ga K "Edge")) "__class__" = some (some (.builtin "object.__class__"))),
  fun K => decide (PySem.W.mroIn K (He.ga K "Edge") (.type "object") = some true),
  fun K => PySem.W.readsIn K (He.ga K "Edge") (.type "type"),
  fun K => decide (PySem.W.specialIn K (.ref (He.ga K "Edge")) "__getattribute__" = some (some (.builtin "type.__getattribute__"))),
  fun K => decide (PySem.W.findIn K (.ref (He.ga K "Edge")) "place" = some none)]
def zf2 : List (PySem.W.Frag → Bool) := [fun K => decide (PySem.W.findIn K (.ref (He.ga K "Edge")) "numbers" = some none),
  fun K => PySem.W.notFirst K (He.ga K "Edge") (.ref (He.ga K "Edge")),
  fun K => decide (PySem.W.findIn K (.ref (He.ga K "Edge")) "__ne__" = some (some (.builtin "object.__ne__"))),
  fun K => decide (PySem.W.subIn K (.ref (He.ga K "Edge")) (.type "object") = some true),
  fun K => gloB K "_law_take",
  fun K => PySem.W.keepIn K (.ref (He.ga K "_law_take")),
  fun K => gloB K "_law_box",
  fun K => PySem.W.keepIn K (.ref (He.ga K "_law_box")),
  fun K => gloB K "is_integer",
  fun K => PySem.W.keepIn K (.ref (He.ga K "is_integer")),
  fun K => gloB K "is_length",
  fun K => PySem.W.keepIn K (.ref (He.ga K "is_length")),
  fun K => gloB K "common_length",
  fun K => PySem.W.keepIn K (.ref (He.ga K "common_length")),
  fun K => methB K (He.ga K "InvalidWord") "__init__",
  fun K => decide (PySem.W.typeIn K (.ref (He.ma K (He.ga K "InvalidWord") "__init__")) = some (.type "function")),
  fun K => PySem.W.keepIn K (.ref (He.ma K (He.ga K "InvalidWord") "__init__")),
  fun K => methB K (He.ga K "InvalidRatio") "__init__",
  fun K => decide (PySem.W.typeIn K (.ref (He.ma K (He.ga K "InvalidRatio") "__init__")) = some (.type "function")),
  fun K => PySem.W.keepIn K (.ref (He.ma K (He.ga K "InvalidRatio") "__init__")),
  fun K => methB K (He.ga K "InvalidChange") "__init__",
  fun K => decide (PySem.W.typeIn K (.ref (He.ma K (He.ga K "InvalidChange") "__init__")) = some (.type "function")),
  fun K => PySem.W.keepIn K (.ref (He.ma K (He.ga K "InvalidChange") "__init__")),
  fun K => methB K (He.ga K "InvalidEdge") "__init__",
  fun K => decide (PySem.W.typeIn K (.ref (He.ma K (He.ga K "InvalidEdge") "__init__")) = some (.type "function")),
  fun K => PySem.W.keepIn K (.ref (He.ma K (He.ga K "InvalidEdge") "__init__")),
  fun K => methB K (He.ga K "Ratio") "__init__",
  fun K => PySem.W.isFn K (.ref (He.ma K (He.ga K "Ratio") "__init__")),
  fun K => PySem.W.keepIn K (.ref (He.ma K (He.ga K "Ratio") "__init__")),
  fun K => gloB K "need_word",
  fun K => PySem.W.keepIn K (.ref (He.ga K "need_word")),
  fun K => gloB K "word_of_lengths",
  fun K => PySem.W.keepIn K (.ref (He.ga K "word_of_lengths")),
  fun K => methB K (He.ga K "Ratio") "word",
  fun K => decide (PySem.W.specialIn K (.ref (He.ma K (He.ga K "Ratio") "word")) "__get__" = some (some (.builtin "property.__get__"))),
  fun K => decide (PySem.W.takesIn K (.ref (He.ma K (He.ga K "Ratio") "word")) = some true),
  fun K => rcB K (He.ma K (He.ga K "Ratio") "word") "property",
  fun K => PySem.W.keepIn K (.ref (rcA K (He.ma K (He.ga K "Ratio") "word") "property")),
  fun K => methB K (He.ga K "Change") "__init__",
  fun K => PySem.W.isFn K (.ref (He.ma K (He.ga K "Change") "__init__"))]
def zf3 : List (PySem.W.Frag → Bool) := [fun K => PySem.W.keepIn K (.ref (He.ma K (He.ga K "Change") "__init__")),
  fun K => gloB K "numbers_behind",
  fun K => PySem.W.keepIn K (.ref (He.ga K "numbers_behind")),
  fun K => gloB K "numbers_of_word",
  fun K => PySem.W.keepIn K (.ref (He.ga K "numbers_of_word")),
  fun K => cmB K (He.ga K "Change") "of_word",
  fun K => rcB K (cmA K (He.ga K "Change") "of_word") "classmethod",
  fun K => PySem.W.fnIn K (rcA K (cmA K (He.ga K "Change") "of_word") "classmethod"),
  fun K => PySem.W.keepIn K (.ref (rcA K (cmA K (He.ga K "Change") "of_word") "classmethod")),
  fun K => gloB K "common",
  fun K => PySem.W.keepIn K (.ref (He.ga K "common")),
  fun K => gloB K "sign_of",
  fun K => PySem.W.keepIn K (.ref (He.ga K "sign_of")),
  fun K => gloB K "whole_root",
  fun K => PySem.W.keepIn K (.ref (He.ga K "whole_root")),
  fun K => gloB K "sign_with_root",
  fun K => PySem.W.keepIn K (.ref (He.ga K "sign_with_root")),
  fun K => gloB K "lowered",
  fun K => PySem.W.keepIn K (.ref (He.ga K "lowered")),
  fun K => gloB K "inner_of",
  fun K => PySem.W.keepIn K (.ref (He.ga K "inner_of")),
  fun K => methB K (He.ga K "Edge") "__init__",
  fun K => PySem.W.isFn K (.ref (He.ma K (He.ga K "Edge") "__init__")),
  fun K => PySem.W.keepIn K (.ref (He.ma K (He.ga K "Edge") "__init__")),
  fun K => cmB K (He.ga K "Edge") "of",
  fun K => rcB K (cmA K (He.ga K "Edge") "of") "classmethod",
  fun K => PySem.W.fnIn K (rcA K (cmA K (He.ga K "Edge") "of") "classmethod"),
  fun K => PySem.W.keepIn K (.ref (rcA K (cmA K (He.ga K "Edge") "of") "classmethod")),
  fun K => cmB K (He.ga K "Edge") "zero",
  fun K => rcB K (cmA K (He.ga K "Edge") "zero") "classmethod",
  fun K => PySem.W.fnIn K (rcA K (cmA K (He.ga K "Edge") "zero") "classmethod"),
  fun K => PySem.W.keepIn K (.ref (rcA K (cmA K (He.ga K "Edge") "zero") "classmethod")),
  fun K => cmB K (He.ga K "Edge") "endless",
  fun K => rcB K (cmA K (He.ga K "Edge") "endless") "classmethod",
  fun K => PySem.W.fnIn K (rcA K (cmA K (He.ga K "Edge") "endless") "classmethod"),
  fun K => PySem.W.keepIn K (.ref (rcA K (cmA K (He.ga K "Edge") "endless") "classmethod")),
  fun K => methB K (He.ga K "Edge") "__eq__",
  fun K => PySem.W.isFn K (.ref (He.ma K (He.ga K "Edge") "__eq__")),
  fun K => PySem.W.keepIn K (.ref (He.ma K (He.ga K "Edge") "__eq__")),
  fun K => cmB K (He.ga K "Edge") "root"]
def zf4 : List (PySem.W.Frag → Bool) := [fun K => rcB K (cmA K (He.ga K "Edge") "root") "classmethod",
  fun K => PySem.W.fnIn K (rcA K (cmA K (He.ga K "Edge") "root") "classmethod"),
  fun K => PySem.W.keepIn K (.ref (rcA K (cmA K (He.ga K "Edge") "root") "classmethod")),
  fun K => gloB K "changed",
  fun K => PySem.W.keepIn K (.ref (He.ga K "changed")),
  fun K => gloB K "place_behind",
  fun K => PySem.W.keepIn K (.ref (He.ga K "place_behind")),
  fun K => gloB K "sign_with_roots",
  fun K => PySem.W.keepIn K (.ref (He.ga K "sign_with_roots")),
  fun K => gloB K "compared",
  fun K => PySem.W.keepIn K (.ref (He.ga K "compared")),
  fun K => gloB K "step",
  fun K => PySem.W.keepIn K (.ref (He.ga K "step")),
  fun K => gloB K "first_letters",
  fun K => PySem.W.keepIn K (.ref (He.ga K "first_letters")),
  fun K => gloB K "fixed",
  fun K => PySem.W.keepIn K (.ref (He.ga K "fixed")),
  fun K => gloB K "parts_of",
  fun K => PySem.W.keepIn K (.ref (He.ga K "parts_of")),
  fun K => methB K (He.ga K "Edge") "ratio",
  fun K => decide (PySem.W.specialIn K (.ref (He.ma K (He.ga K "Edge") "ratio")) "__get__" = some (some (.builtin "property.__get__"))),
  fun K => decide (PySem.W.takesIn K (.ref (He.ma K (He.ga K "Edge") "ratio")) = some true),
  fun K => rcB K (He.ma K (He.ga K "Edge") "ratio") "property",
  fun K => PySem.W.keepIn K (.ref (rcA K (He.ma K (He.ga K "Edge") "ratio") "property")),
  fun K => methB K (He.ga K "Edge") "parts",
  fun K => decide (PySem.W.specialIn K (.ref (He.ma K (He.ga K "Edge") "parts")) "__get__" = some (some (.builtin "property.__get__"))),
  fun K => decide (PySem.W.takesIn K (.ref (He.ma K (He.ga K "Edge") "parts")) = some true),
  fun K => rcB K (He.ma K (He.ga K "Edge") "parts") "property",
  fun K => PySem.W.keepIn K (.ref (rcA K (He.ma K (He.ga K "Edge") "parts") "property")),
  fun K => cmB K (He.ga K "Edge") "of_parts",
  fun K => rcB K (cmA K (He.ga K "Edge") "of_parts") "classmethod",
  fun K => PySem.W.fnIn K (rcA K (cmA K (He.ga K "Edge") "of_parts") "classmethod"),
  fun K => PySem.W.keepIn K (.ref (rcA K (cmA K (He.ga K "Edge") "of_parts") "classmethod")),
  fun K => methB K (He.ga K "Edge") "letters",
  fun K => PySem.W.isFn K (.ref (He.ma K (He.ga K "Edge") "letters")),
  fun K => PySem.W.keepIn K (.ref (He.ma K (He.ga K "Edge") "letters")),
  fun K => gloB K "_law_sign",
  fun K => PySem.W.keepIn K (.ref (He.ga K "_law_sign")),
  fun K => gloB K "_law_gcd",
  fun K => PySem.W.keepIn K (.ref (He.ga K "_law_gcd"))]
def zf5 : List (PySem.W.Frag → Bool) := [fun K => gloB K "_law_sign_root",
  fun K => PySem.W.keepIn K (.ref (He.ga K "_law_sign_root")),
  fun K => gloB K "_law_whole_root",
  fun K => PySem.W.keepIn K (.ref (He.ga K "_law_whole_root")),
  fun K => gloB K "_law_is_square",
  fun K => PySem.W.keepIn K (.ref (He.ga K "_law_is_square")),
  fun K => gloB K "_law_root",
  fun K => PySem.W.keepIn K (.ref (He.ga K "_law_root")),
  fun K => gloB K "_law_fraction",
  fun K => PySem.W.keepIn K (.ref (He.ga K "_law_fraction")),
  fun K => gloB K "_law_letters",
  fun K => PySem.W.keepIn K (.ref (He.ga K "_law_letters")),
  fun K => gloB K "_law_one_step",
  fun K => PySem.W.keepIn K (.ref (He.ga K "_law_one_step")),
  fun K => gloB K "_law_parts",
  fun K => PySem.W.keepIn K (.ref (He.ga K "_law_parts")),
  fun K => gloB K "_law_right",
  fun K => PySem.W.keepIn K (.ref (He.ga K "_law_right")),
  fun K => gloB K "law",
  fun K => PySem.W.keepIn K (.ref (He.ga K "law")),
  fun K => freeB K "ValueError",
  fun K => freeB K "abs",
  fun K => freeB K "all",
  fun K => freeB K "any",
  fun K => freeB K "bool",
  fun K => freeB K "enumerate",
  fun K => freeB K "int",
  fun K => freeB K "isinstance",
  fun K => freeB K "len",
  fun K => freeB K "list",
  fun K => freeB K "max",
  fun K => freeB K "min",
  fun K => freeB K "range",
  fun K => freeB K "repr",
  fun K => freeB K "sorted",
  fun K => freeB K "str",
  fun K => freeB K "sum",
  fun K => freeB K "tuple",
  fun K => freeB K "zip",
  fun K => gloB K "SAME"]
def zf6 : List (PySem.W.Frag → Bool) := [fun K => tupB K (He.ga K "SAME") (isInts [1, 0, 0, 1])]
def zfs : List (PySem.W.Frag → Bool) := zf0 ++ (zf1 ++ (zf2 ++ (zf3 ++ (zf4 ++ (zf5 ++ (zf6))))))
def zfF0 : List (PySem.W.Frag → Bool) := zf0 ++ (zf1 ++ (zf2 ++ (zf3)))
def zfF1 : List (PySem.W.Frag → Bool) := zf4 ++ (zf5 ++ (zf6))
theorem zfs_eq : zfs = List.flatten [zfF0, zfF1] := by rfl
def zfD0 : List FZ := [⟨fun K => (He.ga K "_law_take"), "_law_take", "_law_take", S__law_take⟩,
  ⟨fun K => (He.ga K "_law_box"), "_law_box", "_law_box", S__law_box⟩,
  ⟨fun K => (He.ga K "is_integer"), "is_integer", "is_integer", S_is_integer⟩,
  ⟨fun K => (He.ga K "is_length"), "is_length", "is_length", S_is_length⟩,
  ⟨fun K => (He.ga K "common_length"), "common_length", "common_length", S_common_length⟩,
  ⟨fun K => (He.ma K (He.ga K "InvalidWord") "__init__"), "__init__", "InvalidWord.__init__", S_InvalidWord__init_⟩,
  ⟨fun K => (He.ma K (He.ga K "InvalidRatio") "__init__"), "__init__", "InvalidRatio.__init__", S_InvalidRatio__init_⟩,
  ⟨fun K => (He.ma K (He.ga K "InvalidChange") "__init__"), "__init__", "InvalidChange.__init__", S_InvalidChange__init_⟩,
  ⟨fun K => (He.ma K (He.ga K "InvalidEdge") "__init__"), "__init__", "InvalidEdge.__init__", S_InvalidEdge__init_⟩,
  ⟨fun K => (He.ma K (He.ga K "Ratio") "__init__"), "__init__", "Ratio.__init__", S_Ratio__init_⟩,
  ⟨fun K => (He.ga K "need_word"), "need_word", "need_word", S_need_word⟩,
  ⟨fun K => (He.ga K "word_of_lengths"), "word_of_lengths", "word_of_lengths", S_word_of_lengths⟩,
  ⟨fun K => (rcA K (He.ma K (He.ga K "Ratio") "word") "property"), "word", "Ratio.word", S_Ratio_word⟩,
  ⟨fun K => (He.ma K (He.ga K "Change") "__init__"), "__init__", "Change.__init__", S_Change__init_⟩,
  ⟨fun K => (He.ga K "numbers_behind"), "numbers_behind", "numbers_behind", S_numbers_behind⟩,
  ⟨fun K => (He.ga K "numbers_of_word"), "numbers_of_word", "numbers_of_word", S_numbers_of_word⟩,
  ⟨fun K => (rcA K (cmA K (He.ga K "Change") "of_word") "classmethod"), "of_word", "Change.of_word", S_Change_of_word⟩]
def zfD1 : List FZ := [⟨fun K => (He.ga K "common"), "common", "common", S_common⟩,
  ⟨fun K => (He.ga K "sign_of"), "sign_of", "sign_of", S_sign_of⟩,
  ⟨fun K => (He.ga K "whole_root"), "whole_root", "whole_root", S_whole_root⟩,
  ⟨fun K => (He.ga K "sign_with_root"), "sign_with_root", "sign_with_root", S_sign_with_root⟩,
  ⟨fun K => (He.ga K "lowered"), "lowered", "lowered", S_lowered⟩,
  ⟨fun K => (He.ga K "inner_of"), "inner_of", "inner_of", S_inner_of⟩,
  ⟨fun K => (He.ma K (He.ga K "Edge") "__init__"), "__init__", "Edge.__init__", S_Edge__init_⟩,
  ⟨fun K => (rcA K (cmA K (He.ga K "Edge") "of") "classmethod"), "of", "Edge.of", S_Edge_of⟩,
  ⟨fun K => (rcA K (cmA K (He.ga K "Edge") "zero") "classmethod"), "zero", "Edge.zero", S_Edge_zero⟩,
  ⟨fun K => (rcA K (cmA K (He.ga K "Edge") "endless") "classmethod"), "endless", "Edge.endless", S_Edge_endless⟩,
  ⟨fun K => (He.ma K (He.ga K "Edge") "__eq__"), "__eq__", "Edge.__eq__", S_Edge__eq_⟩,
  ⟨fun K => (rcA K (cmA K (He.ga K "Edge") "root") "classmethod"), "root", "Edge.root", S_Edge_root⟩,
  ⟨fun K => (He.ga K "changed"), "changed", "changed", S_changed⟩,
  ⟨fun K => (He.ga K "place_behind"), "place_behind", "place_behind", S_place_behind⟩,
  ⟨fun K => (He.ga K "sign_with_roots"), "sign_with_roots", "sign_with_roots", S_sign_with_roots⟩,
  ⟨fun K => (He.ga K "compared"), "compared", "compared", S_compared⟩,
  ⟨fun K => (He.ga K "step"), "step", "step", S_step⟩,
  ⟨fun K => (He.ga K "first_letters"), "first_letters", "first_letters", S_first_letters⟩]
def zfD2 : List FZ := [⟨fun K => (He.ga K "fixed"), "fixed", "fixed", S_fixed⟩,
  ⟨fun K => (He.ga K "parts_of"), "parts_of", "parts_of", S_parts_of⟩,
  ⟨fun K => (rcA K (He.ma K (He.ga K "Edge") "ratio") "property"), "ratio", "Edge.ratio", S_Edge_ratio⟩,
  ⟨fun K => (rcA K (He.ma K (He.ga K "Edge") "parts") "property"), "parts", "Edge.parts", S_Edge_parts⟩,
  ⟨fun K => (rcA K (cmA K (He.ga K "Edge") "of_parts") "classmethod"), "of_parts", "Edge.of_parts", S_Edge_of_parts⟩,
  ⟨fun K => (He.ma K (He.ga K "Edge") "letters"), "letters", "Edge.letters", S_Edge_letters⟩,
  ⟨fun K => (He.ga K "_law_sign"), "_law_sign", "_law_sign", S__law_sign⟩,
  ⟨fun K => (He.ga K "_law_gcd"), "_law_gcd", "_law_gcd", S__law_gcd⟩,
  ⟨fun K => (He.ga K "_law_sign_root"), "_law_sign_root", "_law_sign_root", S__law_sign_root⟩,
  ⟨fun K => (He.ga K "_law_whole_root"), "_law_whole_root", "_law_whole_root", S__law_whole_root⟩,
  ⟨fun K => (He.ga K "_law_is_square"), "_law_is_square", "_law_is_square", S__law_is_square⟩,
  ⟨fun K => (He.ga K "_law_root"), "_law_root", "_law_root", S__law_root⟩,
  ⟨fun K => (He.ga K "_law_fraction"), "_law_fraction", "_law_fraction", S__law_fraction⟩,
  ⟨fun K => (He.ga K "_law_letters"), "_law_letters", "_law_letters", S__law_letters⟩,
  ⟨fun K => (He.ga K "_law_one_step"), "_law_one_step", "_law_one_step", S__law_one_step⟩,
  ⟨fun K => (He.ga K "_law_parts"), "_law_parts", "_law_parts", S__law_parts⟩,
  ⟨fun K => (He.ga K "_law_right"), "_law_right", "_law_right", S__law_right⟩,
  ⟨fun K => (He.ga K "law"), "law", "law", S_law⟩]
def zfn : List FZ := [⟨fun K => (He.ga K "_law_take"), "_law_take", "_law_take", S__law_take⟩,
  ⟨fun K => (He.ga K "_law_box"), "_law_box", "_law_box", S__law_box⟩,
  ⟨fun K => (He.ga K "is_integer"), "is_integer", "is_integer", S_is_integer⟩,
  ⟨fun K => (He.ga K "is_length"), "is_length", "is_length", S_is_length⟩,
  ⟨fun K => (He.ga K "common_length"), "common_length", "common_length", S_common_length⟩,
  ⟨fun K => (He.ma K (He.ga K "InvalidWord") "__init__"), "__init__", "InvalidWord.__init__", S_InvalidWord__init_⟩,
  ⟨fun K => (He.ma K (He.ga K "InvalidRatio") "__init__"), "__init__", "InvalidRatio.__init__", S_InvalidRatio__init_⟩,
  ⟨fun K => (He.ma K (He.ga K "InvalidChange") "__init__"), "__init__", "InvalidChange.__init__", S_InvalidChange__init_⟩,
  ⟨fun K => (He.ma K (He.ga K "InvalidEdge") "__init__"), "__init__", "InvalidEdge.__init__", S_InvalidEdge__init_⟩,
  ⟨fun K => (He.ma K (He.ga K "Ratio") "__init__"), "__init__", "Ratio.__init__", S_Ratio__init_⟩,
  ⟨fun K => (He.ga K "need_word"), "need_word", "need_word", S_need_word⟩,
  ⟨fun K => (He.ga K "word_of_lengths"), "word_of_lengths", "word_of_lengths", S_word_of_lengths⟩,
  ⟨fun K => (rcA K (He.ma K (He.ga K "Ratio") "word") "property"), "word", "Ratio.word", S_Ratio_word⟩,
  ⟨fun K => (He.ma K (He.ga K "Change") "__init__"), "__init__", "Change.__init__", S_Change__init_⟩,
  ⟨fun K => (He.ga K "numbers_behind"), "numbers_behind", "numbers_behind", S_numbers_behind⟩,
  ⟨fun K => (He.ga K "numbers_of_word"), "numbers_of_word", "numbers_of_word", S_numbers_of_word⟩,
  ⟨fun K => (rcA K (cmA K (He.ga K "Change") "of_word") "classmethod"), "of_word", "Change.of_word", S_Change_of_word⟩,
  ⟨fun K => (He.ga K "common"), "common", "common", S_common⟩,
  ⟨fun K => (He.ga K "sign_of"), "sign_of", "sign_of", S_sign_of⟩,
  ⟨fun K => (He.ga K "whole_root"), "whole_root", "whole_root", S_whole_root⟩,
  ⟨fun K => (He.ga K "sign_with_root"), "sign_with_root", "sign_with_root", S_sign_with_root⟩,
  ⟨fun K => (He.ga K "lowered"), "lowered", "lowered", S_lowered⟩,
  ⟨fun K => (He.ga K "inner_of"), "inner_of", "inner_of", S_inner_of⟩,
  ⟨fun K => (He.ma K (He.ga K "Edge") "__init__"), "__init__", "Edge.__init__", S_Edge__init_⟩,
  ⟨fun K => (rcA K (cmA K (He.ga K "Edge") "of") "classmethod"), "of", "Edge.of", S_Edge_of⟩,
  ⟨fun K => (rcA K (cmA K (He.ga K "Edge") "zero") "classmethod"), "zero", "Edge.zero", S_Edge_zero⟩,
  ⟨fun K => (rcA K (cmA K (He.ga K "Edge") "endless") "classmethod"), "endless", "Edge.endless", S_Edge_endless⟩,
  ⟨fun K => (He.ma K (He.ga K "Edge") "__eq__"), "__eq__", "Edge.__eq__", S_Edge__eq_⟩,
  ⟨fun K => (rcA K (cmA K (He.ga K "Edge") "root") "classmethod"), "root", "Edge.root", S_Edge_root⟩,
  ⟨fun K => (He.ga K "changed"), "changed", "changed", S_changed⟩,
  ⟨fun K => (He.ga K "place_behind"), "place_behind", "place_behind", S_place_behind⟩,
  ⟨fun K => (He.ga K "sign_with_roots"), "sign_with_roots", "sign_with_roots", S_sign_with_roots⟩,
  ⟨fun K => (He.ga K "compared"), "compared", "compared", S_compared⟩,
  ⟨fun K => (He.ga K "step"), "step", "step", S_step⟩,
  ⟨fun K => (He.ga K "first_letters"), "first_letters", "first_letters", S_first_letters⟩,
  ⟨fun K => (He.ga K "fixed"), "fixed", "fixed", S_fixed⟩,
  ⟨fun K => (He.ga K "parts_of"), "parts_of", "parts_of", S_parts_of⟩,
  ⟨fun K => (rcA K (He.ma K (He.ga K "Edge") "ratio") "property"), "ratio", "Edge.ratio", S_Edge_ratio⟩,
  ⟨fun K => (rcA K (He.ma K (He.ga K "Edge") "parts") "property"), "parts", "Edge.parts", S_Edge_parts⟩,
  ⟨fun K => (rcA K (cmA K (He.ga K "Edge") "of_parts") "classmethod"), "of_parts", "Edge.of_parts", S_Edge_of_parts⟩,
  ⟨fun K => (He.ma K (He.ga K "Edge") "letters"), "letters", "Edge.letters", S_Edge_letters⟩,
  ⟨fun K => (He.ga K "_law_sign"), "_law_sign", "_law_sign", S__law_sign⟩,
  ⟨fun K => (He.ga K "_law_gcd"), "_law_gcd", "_law_gcd", S__law_gcd⟩,
  ⟨fun K => (He.ga K "_law_sign_root"), "_law_sign_root", "_law_sign_root", S__law_sign_root⟩,
  ⟨fun K => (He.ga K "_law_whole_root"), "_law_whole_root", "_law_whole_root", S__law_whole_root⟩,
  ⟨fun K => (He.ga K "_law_is_square"), "_law_is_square", "_law_is_square", S__law_is_square⟩,
  ⟨fun K => (He.ga K "_law_root"), "_law_root", "_law_root", S__law_root⟩,
  ⟨fun K => (He.ga K "_law_fraction"), "_law_fraction", "_law_fraction", S__law_fraction⟩,
  ⟨fun K => (He.ga K "_law_letters"), "_law_letters", "_law_letters", S__law_letters⟩,
  ⟨fun K => (He.ga K "_law_one_step"), "_law_one_step", "_law_one_step", S__law_one_step⟩,
  ⟨fun K => (He.ga K "_law_parts"), "_law_parts", "_law_parts", S__law_parts⟩,
  ⟨fun K => (He.ga K "_law_right"), "_law_right", "_law_right", S__law_right⟩,
  ⟨fun K => (He.ga K "law"), "law", "law", S_law⟩]
theorem zfn_eq : zfn = List.flatten [zfD0, zfD1, zfD2] := by rfl
/-- the run looked at in parts -/
theorem zparts {S B : Type} {X : Option S} {lk : S → Bool} {sn : S → B} {Kf : S → PySem.W.Frag} {good : B} {fs : List (PySem.W.Frag → Bool)} {fn : List FZ} {Fs : List (List (PySem.W.Frag → Bool))} {Ds : List (List FZ)} (ef : fs = Fs.flatten) (ed : fn = Ds.flatten)
    (h1 : X.map (fun s => (lk s, sn s)) = some (true, good)) (h2 : ∀ F ∈ Fs, X.map (fun s => F.all fun f => f (Kf s)) = some true) (h3 : ∀ D ∈ Ds, X.map (fun s => (D.all (fun d => fzCode (Kf s) (d.at_ (Kf s)) d.qual), D.map fun d => fzObs (Kf s) (d.at_ (Kf s)))) = some (true, D.map FZ.val)) :
    X.map (fun s => (lk s, sn s, obsZ fs fn (Kf s))) = some (true, good, valZ fn) := by
  subst ef
  subst ed
  cases X with
  | none => cases h1
  | some s =>
    have e1 := Prod.mk.inj (Option.some.inj h1)
    have e2 : (Fs.flatten.all fun f => f (Kf s)) = true := by
      rw [List.all_eq_true]
      intro f hf
      obtain ⟨F, hF, hm⟩ := List.mem_flatten.mp hf
      exact List.all_eq_true.mp (Option.some.inj (h2 F hF)) f hm
    have e3 : (Ds.flatten.all fun d => fzCode (Kf s) (d.at_ (Kf s)) d.qual) = true := by
      rw [List.all_eq_true]
      intro d hd
      obtain ⟨D, hD, hm⟩ := List.mem_flatten.mp hd
      exact List.all_eq_true.mp (Prod.mk.inj (Option.some.inj (h3 D hD))).1 d hm
    have e4 : (Ds.flatten.map fun d => fzObs (Kf s) (d.at_ (Kf s))) = Ds.flatten.map FZ.val := List.map_congr_left fun d hd => by
      obtain ⟨D, hD, hm⟩ := List.mem_flatten.mp hd
      exact List.map_inj_left.mp (Prod.mk.inj (Option.some.inj (h3 D hD))).2 d hm
    show some (lk s, sn s, obsZ Fs.flatten Ds.flatten (Kf s)) = _
    unfold obsZ valZ
    rw [e1.1, e1.2, e2, e3, e4]
    rfl
def zl0 : List PySem.Str := ["_wall", "__name__", "UnmarkedError", "InvalidWord", "InvalidRatio", "InvalidChange", "InvalidEdge", "NoPair", "DIGITS", "MOST_DIGITS", "is_integer", "is_length", "need_word", "number_of", "common_length", "word_of_lengths", "Ratio", "SAME", "lengths_made", "numbers_behind", "numbers_of_word", "numbers_joined", "Change", "common", "sign_of", "whole_root", "sign_with_root", "sign_with_roots", "lowered", "inner_of"]
def zl1 : List PySem.Str := ["compared", "changed", "fixed", "step", "first_letters", "parts_of", "FIGURES", "integer_told", "root_told", "Edge", "place_behind", "_law_box", "_law_take", "_law_sign", "_law_sign_root", "_law_whole_root", "_law_is_square", "_law_gcd", "_law_root", "_law_fraction", "_law_is_same", "_law_is_least", "_law_letters", "_law_one_step", "_law_parts", "_law_right"]
def zls : List PySem.Str := zl0 ++ (zl1)
abbrev zhk : PySem.W.Hook := hookZ 5 zfs zfn
def zob (s : PySem.W.SharedT) : AlZ := obsZG 5 zfs zfn (HandSHeadRun.getT s)
theorem zob_eq (s : PySem.W.SharedT) : zob s = zhk.obs s.abs := obsZG_eq (HandSHeadRun.getT_eq s)
abbrev zK (s : PySem.W.SharedT) : PySem.W.Frag := He.frG (HandSHeadRun.getT s) (asZ (HandSHeadRun.getT s) 5)
theorem zpair {S A B : Type} {X : Option S} {f : S → A} {g : S → B} {a : A} {b : B} (h1 : X.map f = some a) (h2 : X.map g = some b) : X.map (fun s => (f s, g s)) = some (a, b) := by
  cases X with
  | none => cases h1
  | some s => exact congrArg some (Prod.ext (Option.some.inj h1) (Option.some.inj h2))
open PySem.W PySem.Calls in
theorem zrunL (w : World) (os : OsState) : (HandSHeadRun.endF (HandSHeadRun.stepQ (HandSHeadRun.denQ HandSHeadRun.tabQ) (PySem.W.OpenLaw.row PySem.Challenge.rw_unmarked_k13_endless_words).prog w) 20000 (PySem.W.OpenLaw.row PySem.Challenge.rw_unmarked_k13_endless_words).prog w os).map (fun s => HandSHeadRun.looksF (PySem.W.OpenLaw.row PySem.Challenge.rw_unmarked_k13_endless_words).prog (boot_heap w.params) s.abs) = some true := by
  kernel_rfl
open PySem.W PySem.Calls in
theorem zrunS (w : World) (os : OsState) : (HandSHeadRun.endF (HandSHeadRun.stepQ (HandSHeadRun.denQ HandSHeadRun.tabQ) (PySem.W.OpenLaw.row PySem.Challenge.rw_unmarked_k13_endless_words).prog w) 20000 (PySem.W.OpenLaw.row PySem.Challenge.rw_unmarked_k13_endless_words).prog w os).map (fun s => HandSHeadRun.seenQ (view (PySem.W.OpenLaw.row PySem.Challenge.rw_unmarked_k13_endless_words).prog [62]) zls (importedModules (PySem.W.OpenLaw.row PySem.Challenge.rw_unmarked_k13_endless_words).prog.main.body) (fun s => xlAt (view (PySem.W.OpenLaw.row PySem.Challenge.rw_unmarked_k13_endless_words).prog [62]) [] s && recOk (PySem.W.OpenLaw.row PySem.Challenge.rw_unmarked_k13_endless_words).toRowW.records s) s.abs) = some (openGood (view (PySem.W.OpenLaw.row PySem.Challenge.rw_unmarked_k13_endless_words).prog [62]) zls) := by
  kernel_rfl
open PySem.W PySem.Calls in
theorem zrun1 (w : World) (os : OsState) : (HandSHeadRun.endF (HandSHeadRun.stepQ (HandSHeadRun.denQ HandSHeadRun.tabQ) (PySem.W.OpenLaw.row PySem.Challenge.rw_unmarked_k13_endless_words).prog w) 20000 (PySem.W.OpenLaw.row PySem.Challenge.rw_unmarked_k13_endless_words).prog w os).map (fun s => (HandSHeadRun.looksF (PySem.W.OpenLaw.row PySem.Challenge.rw_unmarked_k13_endless_words).prog (boot_heap w.params) s.abs, HandSHeadRun.seenQ (view (PySem.W.OpenLaw.row PySem.Challenge.rw_unmarked_k13_endless_words).prog [62]) zls (importedModules (PySem.W.OpenLaw.row PySem.Challenge.rw_unmarked_k13_endless_words).prog.main.body) (fun s => xlAt (view (PySem.W.OpenLaw.row PySem.Challenge.rw_unmarked_k13_endless_words).prog [62]) [] s && recOk (PySem.W.OpenLaw.row PySem.Challenge.rw_unmarked_k13_endless_words).toRowW.records s) s.abs)) = some (true, openGood (view (PySem.W.OpenLaw.row PySem.Challenge.rw_unmarked_k13_endless_words).prog [62]) zls) := zpair (zrunL w os) (zrunS w os)
theorem zrunF0 (w : World) (os : OsState) : (HandSHeadRun.endF (HandSHeadRun.stepQ (HandSHeadRun.denQ HandSHeadRun.tabQ) (PySem.W.OpenLaw.row PySem.Challenge.rw_unmarked_k13_endless_words).prog w) 20000 (PySem.W.OpenLaw.row PySem.Challenge.rw_unmarked_k13_endless_words).prog w os).map (fun s => zfF0.all fun f => f (zK s)) = some true := by
  kernel_rfl
theorem zrunF1 (w : World) (os : OsState) : (HandSHeadRun.endF (HandSHeadRun.stepQ (HandSHeadRun.denQ HandSHeadRun.tabQ) (PySem.W.OpenLaw.row PySem.Challenge.rw_unmarked_k13_endless_words).prog w) 20000 (PySem.W.OpenLaw.row PySem.Challenge.rw_unmarked_k13_endless_words).prog w os).map (fun s => zfF1.all fun f => f (zK s)) = some true := by
  kernel_rfl
theorem zrunD0 (w : World) (os : OsState) : (HandSHeadRun.endF (HandSHeadRun.stepQ (HandSHeadRun.denQ HandSHeadRun.tabQ) (PySem.W.OpenLaw.row PySem.Challenge.rw_unmarked_k13_endless_words).prog w) 20000 (PySem.W.OpenLaw.row PySem.Challenge.rw_unmarked_k13_endless_words).prog w os).map (fun s => (zfD0.all (fun d => fzCode (zK s) (d.at_ (zK s)) d.qual), zfD0.map fun d => fzObs (zK s) (d.at_ (zK s)))) = some (true, zfD0.map FZ.val) := by
  kernel_rfl
theorem zrunD1 (w : World) (os : OsState) : (HandSHeadRun.endF (HandSHeadRun.stepQ (HandSHeadRun.denQ HandSHeadRun.tabQ) (PySem.W.OpenLaw.row PySem.Challenge.rw_unmarked_k13_endless_words).prog w) 20000 (PySem.W.OpenLaw.row PySem.Challenge.rw_unmarked_k13_endless_words).prog w os).map (fun s => (zfD1.all (fun d => fzCode (zK s) (d.at_ (zK s)) d.qual), zfD1.map fun d => fzObs (zK s) (d.at_ (zK s)))) = some (true, zfD1.map FZ.val) := by
  kernel_rfl
theorem zrunD2 (w : World) (os : OsState) : (HandSHeadRun.endF (HandSHeadRun.stepQ (HandSHeadRun.denQ HandSHeadRun.tabQ) (PySem.W.OpenLaw.row PySem.Challenge.rw_unmarked_k13_endless_words).prog w) 20000 (PySem.W.OpenLaw.row PySem.Challenge.rw_unmarked_k13_endless_words).prog w os).map (fun s => (zfD2.all (fun d => fzCode (zK s) (d.at_ (zK s)) d.qual), zfD2.map fun d => fzObs (zK s) (d.at_ (zK s)))) = some (true, zfD2.map FZ.val) := by
  kernel_rfl
set_option maxHeartbeats 0 in
theorem zrun (w : World) : HandSHeadRun.RunEq (PySem.W.OpenLaw.row PySem.Challenge.rw_unmarked_k13_endless_words) (PySem.W.view (PySem.W.OpenLaw.row PySem.Challenge.rw_unmarked_k13_endless_words).prog [62]) zhk zob 20000 zls w := by
  intro os
  have h := zparts (Kf := zK) zfs_eq zfn_eq (zrun1 w os) (List.forall_mem_cons.mpr ⟨zrunF0 w os, (List.forall_mem_cons.mpr ⟨zrunF1 w os, (fun _ h => nomatch h)⟩)⟩) (List.forall_mem_cons.mpr ⟨zrunD0 w os, (List.forall_mem_cons.mpr ⟨zrunD1 w os, (List.forall_mem_cons.mpr ⟨zrunD2 w os, (fun _ h => nomatch h)⟩)⟩)⟩)
  exact h
theorem zfacts {w : World} {K : PySem.W.Frag} {h : Heap} {mg : Str → Option Value} {fa : Addr} (X : K.In h) (G : h.Ns mainGlobals mg) (hfa : mg "law" = some (.ref fa)) (c : SaysZ zfs zfn K) :
    ∃ fd : FuncData, (∀ (s : Shared) (v : Value), BindsTo s fd ⟨[v], []⟩ [("_law_script", v)]) ∧ ∀ base : Heap, K.In base → base.Ns mainGlobals mg → FnOk (PySem.Challenge.rw_unmarked_k13_endless_words).prog w K mg base CX0 11 fa fd ["_law_script"] (Lw.K13.sp_lawE K) := by
  obtain ⟨_, _, _, _, _, _, _, _, _, _, _, _, _, _, h_xInvalidWord⟩ := errB_ok (c.fact 5 rfl)
  obtain ⟨_, _, _, _, _, _, _, _, _, _, _, _, _, _, h_xInvalidRatio⟩ := errB_ok (c.fact 11 rfl)
  obtain ⟨_, _, _, _, _, _, _, _, _, _, _, _, _, _, h_xInvalidChange⟩ := errB_ok (c.fact 17 rfl)
  obtain ⟨_, _, _, _, _, _, _, _, _, _, _, _, _, _, h_xInvalidEdge⟩ := errB_ok (c.fact 23 rfl)
  obtain ⟨_, _, _, _, _, _, _, _, _, h_l1, h_c1⟩ := c.def_ 0 rfl
  obtain ⟨_, _, _, _, _, _, _, _, _, h_l2, h_c2⟩ := c.def_ 1 rfl
  obtain ⟨_, _, _, _, _, _, _, _, _, h_l3, h_c3⟩ := c.def_ 2 rfl
  obtain ⟨_, _, _, _, _, _, _, _, _, h_l4, h_c4⟩ := c.def_ 3 rfl
  obtain ⟨_, _, _, _, _, _, _, _, _, h_l5, h_c5⟩ := c.def_ 4 rfl
  obtain ⟨_, _, _, _, _, _, _, _, _, h_l6, h_c6⟩ := c.def_ 5 rfl
  obtain ⟨_, _, _, _, _, _, _, _, _, h_l7, h_c7⟩ := c.def_ 6 rfl
  obtain ⟨_, _, _, _, _, _, _, _, _, h_l8, h_c8⟩ := c.def_ 7 rfl
  obtain ⟨_, _, _, _, _, _, _, _, _, h_l9, h_c9⟩ := c.def_ 8 rfl
  obtain ⟨_, _, _, _, _, _, _, _, _, h_l10, h_c10⟩ := c.def_ 9 rfl
  obtain ⟨_, _, _, _, _, _, _, _, _, h_l11, h_c11⟩ := c.def_ 10 rfl
  obtain ⟨_, _, _, _, _, _, _, _, _, h_l12, h_c12⟩ := c.def_ 11 rfl
  obtain ⟨_, h_r13⟩ := rcB_ok (c.fact 116 rfl)
  obtain ⟨_, _, _, _, _, _, _, _, _, h_l13, h_c13⟩ := c.def_ 12 rfl
  obtain ⟨_, _, _, _, _, _, _, _, _, h_l14, h_c14⟩ := c.def_ 13 rfl
  obtain ⟨_, _, _, _, _, _, _, _, _, h_l15, h_c15⟩ := c.def_ 14 rfl
  obtain ⟨_, _, _, _, _, _, _, _, _, h_l16, h_c16⟩ := c.def_ 15 rfl
  obtain ⟨_, h_r17⟩ := rcB_ok (c.fact 126 rfl)
  obtain ⟨_, _, _, _, _, _, _, _, _, h_l17, h_c17⟩ := c.def_ 16 rfl
  obtain ⟨_, _, _, _, _, _, _, _, _, h_l18, h_c18⟩ := c.def_ 17 rfl
  obtain ⟨_, _, _, _, _, _, _, _, _, h_l19, h_c19⟩ := c.def_ 18 rfl
  obtain ⟨_, _, _, _, _, _, _, _, _, h_l20, h_c20⟩ := c.def_ 19 rfl
  obtain ⟨_, _, _, _, _, _, _, _, _, h_l21, h_c21⟩ := c.def_ 20 rfl
  obtain ⟨_, _, _, _, _, _, _, _, _, h_l22, h_c22⟩ := c.def_ 21 rfl
  obtain ⟨_, _, _, _, _, _, _, _, _, h_l23, h_c23⟩ := c.def_ 22 rfl
  obtain ⟨_, _, _, _, _, _, _, _, _, h_l24, h_c24⟩ := c.def_ 23 rfl
  obtain ⟨_, h_r25⟩ := rcB_ok (c.fact 145 rfl)
  obtain ⟨_, _, _, _, _, _, _, _, _, h_l25, h_c25⟩ := c.def_ 24 rfl
  obtain ⟨_, h_r26⟩ := rcB_ok (c.fact 149 rfl)
  obtain ⟨_, _, _, _, _, _, _, _, _, h_l26, h_c26⟩ := c.def_ 25 rfl
  obtain ⟨_, h_r27⟩ := rcB_ok (c.fact 153 rfl)
  obtain ⟨_, _, _, _, _, _, _, _, _, h_l27, h_c27⟩ := c.def_ 26 rfl
  obtain ⟨_, _, _, _, _, _, _, _, _, h_l28, h_c28⟩ := c.def_ 27 rfl
  obtain ⟨_, h_r29⟩ := rcB_ok (c.fact 160 rfl)
  obtain ⟨_, _, _, _, _, _, _, _, _, h_l29, h_c29⟩ := c.def_ 28 rfl
  obtain ⟨_, _, _, _, _, _, _, _, _, h_l30, h_c30⟩ := c.def_ 29 rfl
  obtain ⟨_, _, _, _, _, _, _, _, _, h_l31, h_c31⟩ := c.def_ 30 rfl
  obtain ⟨_, _, _, _, _, _, _, _, _, h_l32, h_c32⟩ := c.def_ 31 rfl
  obtain ⟨_, _, _, _, _, _, _, _, _, h_l33, h_c33⟩ := c.def_ 32 rfl
  obtain ⟨_, _, _, _, _, _, _, _, _, h_l34, h_c34⟩ := c.def_ 33 rfl
  obtain ⟨_, _, _, _, _, _, _, _, _, h_l35, h_c35⟩ := c.def_ 34 rfl
  obtain ⟨_, _, _, _, _, _, _, _, _, h_l36, h_c36⟩ := c.def_ 35 rfl
  obtain ⟨_, _, _, _, _, _, _, _, _, h_l37, h_c37⟩ := c.def_ 36 rfl
  obtain ⟨_, h_r38⟩ := rcB_ok (c.fact 182 rfl)
  obtain ⟨_, _, _, _, _, _, _, _, _, h_l38, h_c38⟩ := c.def_ 37 rfl
  obtain ⟨_, h_r39⟩ := rcB_ok (c.fact 187 rfl)
  obtain ⟨_, _, _, _, _, _, _, _, _, h_l39, h_c39⟩ := c.def_ 38 rfl
  obtain ⟨_, h_r40⟩ := rcB_ok (c.fact 190 rfl)
  obtain ⟨_, _, _, _, _, _, _, _, _, h_l40, h_c40⟩ := c.def_ 39 rfl
  obtain ⟨_, _, _, _, _, _, _, _, _, h_l41, h_c41⟩ := c.def_ 40 rfl
  obtain ⟨_, _, _, _, _, _, _, _, _, h_l42, h_c42⟩ := c.def_ 41 rfl
  obtain ⟨_, _, _, _, _, _, _, _, _, h_l43, h_c43⟩ := c.def_ 42 rfl
  obtain ⟨_, _, _, _, _, _, _, _, _, h_l44, h_c44⟩ := c.def_ 43 rfl
  obtain ⟨_, _, _, _, _, _, _, _, _, h_l45, h_c45⟩ := c.def_ 44 rfl
  obtain ⟨_, _, _, _, _, _, _, _, _, h_l46, h_c46⟩ := c.def_ 45 rfl
  obtain ⟨_, _, _, _, _, _, _, _, _, h_l47, h_c47⟩ := c.def_ 46 rfl
  obtain ⟨_, _, _, _, _, _, _, _, _, h_l48, h_c48⟩ := c.def_ 47 rfl
  obtain ⟨_, _, _, _, _, _, _, _, _, h_l49, h_c49⟩ := c.def_ 48 rfl
  obtain ⟨_, _, _, _, _, _, _, _, _, h_l50, h_c50⟩ := c.def_ 49 rfl
  obtain ⟨_, _, _, _, _, _, _, _, _, h_l51, h_c51⟩ := c.def_ 50 rfl
  obtain ⟨_, _, _, _, _, _, _, _, _, h_l52, h_c52⟩ := c.def_ 51 rfl
  obtain ⟨_, _, _, _, _, _, _, _, _, h_l53, h_c53⟩ := c.def_ 52 rfl
  obtain ⟨_, _, _, _, _, _, _, h_same1⟩ := ints4_ok (c.fact 240 rfl)
  exact all_mk X G hfa
    (gloB_ok (c.fact 0 rfl))
    (c.fact 1 rfl)
    (of_decide_eq_true (c.fact 2 rfl))
    (clsB_ok (c.fact 3 rfl))
    (gloB_ok (c.fact 4 rfl))
    h_xInvalidWord
    (of_decide_eq_true (c.fact 6 rfl))
    (of_decide_eq_true (c.fact 7 rfl))
    (of_decide_eq_true (c.fact 8 rfl))
    (c.fact 9 rfl)
    (gloB_ok (c.fact 10 rfl))
    h_xInvalidRatio
    (of_decide_eq_true (c.fact 12 rfl))
    (of_decide_eq_true (c.fact 13 rfl))
    (of_decide_eq_true (c.fact 14 rfl))
    (c.fact 15 rfl)
    (gloB_ok (c.fact 16 rfl))
    h_xInvalidChange
    (of_decide_eq_true (c.fact 18 rfl))
    (of_decide_eq_true (c.fact 19 rfl))
    (of_decide_eq_true (c.fact 20 rfl))
    (c.fact 21 rfl)
    (gloB_ok (c.fact 22 rfl))
    h_xInvalidEdge
    (of_decide_eq_true (c.fact 24 rfl))
    (of_decide_eq_true (c.fact 25 rfl))
    (of_decide_eq_true (c.fact 26 rfl))
    (c.fact 27 rfl)
    (c.fact 28 rfl)
    (of_decide_eq_true (c.fact 29 rfl))
    (of_decide_eq_true (c.fact 30 rfl))
    (c.fact 31 rfl)
    (c.fact 32 rfl)
    (c.fact 33 rfl)
    (c.fact 34 rfl)
    (gloB_ok (c.fact 35 rfl))
    (c.fact 36 rfl)
    (c.fact 37 rfl)
    (c.fact 38 rfl)
    (of_decide_eq_true (c.fact 39 rfl))
    (c.fact 40 rfl)
    (c.fact 41 rfl)
    (of_decide_eq_true (c.fact 42 rfl))
    (of_decide_eq_true (c.fact 43 rfl))
    (of_decide_eq_true (c.fact 44 rfl))
    (of_decide_eq_true (c.fact 45 rfl))
    (of_decide_eq_true (c.fact 46 rfl))
    (of_decide_eq_true (c.fact 47 rfl))
    (c.fact 48 rfl)
    (of_decide_eq_true (c.fact 49 rfl))
    (of_decide_eq_true (c.fact 50 rfl))
    (gloB_ok (c.fact 51 rfl))
    (c.fact 52 rfl)
    (c.fact 53 rfl)
    (c.fact 54 rfl)
    (of_decide_eq_true (c.fact 55 rfl))
    (c.fact 56 rfl)
    (c.fact 57 rfl)
    (of_decide_eq_true (c.fact 58 rfl))
    (of_decide_eq_true (c.fact 43 rfl))
    (of_decide_eq_true (c.fact 44 rfl))
    (of_decide_eq_true (c.fact 59 rfl))
    (c.fact 60 rfl)
    (of_decide_eq_true (c.fact 61 rfl))
    (of_decide_eq_true (c.fact 62 rfl))
    (of_decide_eq_true (c.fact 63 rfl))
    (c.fact 64 rfl)
    (of_decide_eq_true (c.fact 65 rfl))
    (of_decide_eq_true (c.fact 66 rfl))
    (of_decide_eq_true (c.fact 67 rfl))
    (gloB_ok (c.fact 68 rfl))
    (c.fact 69 rfl)
    (c.fact 70 rfl)
    (c.fact 71 rfl)
    (of_decide_eq_true (c.fact 72 rfl))
    (c.fact 73 rfl)
    (c.fact 74 rfl)
    (of_decide_eq_true (c.fact 75 rfl))
    (of_decide_eq_true (c.fact 43 rfl))
    (of_decide_eq_true (c.fact 44 rfl))
    (of_decide_eq_true (c.fact 76 rfl))
    (c.fact 77 rfl)
    (of_decide_eq_true (c.fact 78 rfl))
    (of_decide_eq_true (c.fact 79 rfl))
    (of_decide_eq_true (c.fact 80 rfl))
    (c.fact 81 rfl)
    (of_decide_eq_true (c.fact 82 rfl))
    (of_decide_eq_true (c.fact 83 rfl))
    (gloB_ok (c.fact 84 rfl))
    h_l1
    h_c1
    (c.fact 85 rfl)
    (gloB_ok (c.fact 86 rfl))
    h_l2
    h_c2
    (c.fact 87 rfl)
    (gloB_ok (c.fact 88 rfl))
    h_l3
    h_c3
    (c.fact 89 rfl)
    (gloB_ok (c.fact 90 rfl))
    h_l4
    h_c4
    (c.fact 91 rfl)
    (gloB_ok (c.fact 92 rfl))
    h_l5
    h_c5
    (c.fact 93 rfl)
    (methB_ok (c.fact 94 rfl))
    (of_decide_eq_true (c.fact 95 rfl))
    h_l6
    h_c6
    (c.fact 96 rfl)
    (methB_ok (c.fact 97 rfl))
    (of_decide_eq_true (c.fact 98 rfl))
    h_l7
    h_c7
    (c.fact 99 rfl)
    (methB_ok (c.fact 100 rfl))
    (of_decide_eq_true (c.fact 101 rfl))
    h_l8
    h_c8
    (c.fact 102 rfl)
    (methB_ok (c.fact 103 rfl))
    (of_decide_eq_true (c.fact 104 rfl))
    h_l9
    h_c9
    (c.fact 105 rfl)
    (methB_ok (c.fact 106 rfl))
    (c.fact 107 rfl)
    h_l10
    h_c10
    (c.fact 108 rfl)
    (gloB_ok (c.fact 109 rfl))
    h_l11
    h_c11
    (c.fact 110 rfl)
    (gloB_ok (c.fact 111 rfl))
    h_l12
    h_c12
    (c.fact 112 rfl)
    (methB_ok (c.fact 113 rfl))
    (of_decide_eq_true (c.fact 114 rfl))
    (of_decide_eq_true (c.fact 115 rfl))
    h_r13
    h_l13
    h_c13
    (c.fact 117 rfl)
    (methB_ok (c.fact 118 rfl))
    (c.fact 119 rfl)
    h_l14
    h_c14
    (c.fact 120 rfl)
    (gloB_ok (c.fact 121 rfl))
    h_l15
    h_c15
    (c.fact 122 rfl)
    (gloB_ok (c.fact 123 rfl))
    h_l16
    h_c16
    (c.fact 124 rfl)
    (cmB_ok (c.fact 125 rfl))
    h_r17
    (c.fact 127 rfl)
    h_l17
    h_c17
    (c.fact 128 rfl)
    (gloB_ok (c.fact 129 rfl))
    h_l18
    h_c18
    (c.fact 130 rfl)
    (gloB_ok (c.fact 131 rfl))
    h_l19
    h_c19
    (c.fact 132 rfl)
    (gloB_ok (c.fact 133 rfl))
    h_l20
    h_c20
    (c.fact 134 rfl)
    (gloB_ok (c.fact 135 rfl))
    h_l21
    h_c21
    (c.fact 136 rfl)
    (gloB_ok (c.fact 137 rfl))
    h_l22
    h_c22
    (c.fact 138 rfl)
    (gloB_ok (c.fact 139 rfl))
    h_l23
    h_c23
    (c.fact 140 rfl)
    (methB_ok (c.fact 141 rfl))
    (c.fact 142 rfl)
    h_l24
    h_c24
    (c.fact 143 rfl)
    (cmB_ok (c.fact 144 rfl))
    h_r25
    (c.fact 146 rfl)
    h_l25
    h_c25
    (c.fact 147 rfl)
    (cmB_ok (c.fact 148 rfl))
    h_r26
    (c.fact 150 rfl)
    h_l26
    h_c26
    (c.fact 151 rfl)
    (cmB_ok (c.fact 152 rfl))
    h_r27
    (c.fact 154 rfl)
    h_l27
    h_c27
    (c.fact 155 rfl)
    (methB_ok (c.fact 156 rfl))
    (c.fact 157 rfl)
    h_l28
    h_c28
    (c.fact 158 rfl)
    (cmB_ok (c.fact 159 rfl))
    h_r29
    (c.fact 161 rfl)
    h_l29
    h_c29
    (c.fact 162 rfl)
    (gloB_ok (c.fact 163 rfl))
    h_l30
    h_c30
    (c.fact 164 rfl)
    (gloB_ok (c.fact 165 rfl))
    h_l31
    h_c31
    (c.fact 166 rfl)
    (gloB_ok (c.fact 167 rfl))
    h_l32
    h_c32
    (c.fact 168 rfl)
    (gloB_ok (c.fact 169 rfl))
    h_l33
    h_c33
    (c.fact 170 rfl)
    (gloB_ok (c.fact 171 rfl))
    h_l34
    h_c34
    (c.fact 172 rfl)
    (gloB_ok (c.fact 173 rfl))
    h_l35
    h_c35
    (c.fact 174 rfl)
    (gloB_ok (c.fact 175 rfl))
    h_l36
    h_c36
    (c.fact 176 rfl)
    (gloB_ok (c.fact 177 rfl))
    h_l37
    h_c37
    (c.fact 178 rfl)
    (methB_ok (c.fact 179 rfl))
    (of_decide_eq_true (c.fact 180 rfl))
    (of_decide_eq_true (c.fact 181 rfl))
    h_r38
    h_l38
    h_c38
    (c.fact 183 rfl)
    (methB_ok (c.fact 184 rfl))
    (of_decide_eq_true (c.fact 185 rfl))
    (of_decide_eq_true (c.fact 186 rfl))
    h_r39
    h_l39
    h_c39
    (c.fact 188 rfl)
    (cmB_ok (c.fact 189 rfl))
    h_r40
    (c.fact 191 rfl)
    h_l40
    h_c40
    (c.fact 192 rfl)
    (methB_ok (c.fact 193 rfl))
    (c.fact 194 rfl)
    h_l41
    h_c41
    (c.fact 195 rfl)
    (gloB_ok (c.fact 196 rfl))
    h_l42
    h_c42
    (c.fact 197 rfl)
    (gloB_ok (c.fact 198 rfl))
    h_l43
    h_c43
    (c.fact 199 rfl)
    (gloB_ok (c.fact 200 rfl))
    h_l44
    h_c44
    (c.fact 201 rfl)
    (gloB_ok (c.fact 202 rfl))
    h_l45
    h_c45
    (c.fact 203 rfl)
    (gloB_ok (c.fact 204 rfl))
    h_l46
    h_c46
    (c.fact 205 rfl)
    (gloB_ok (c.fact 206 rfl))
    h_l47
    h_c47
    (c.fact 207 rfl)
    (gloB_ok (c.fact 208 rfl))
    h_l48
    h_c48
    (c.fact 209 rfl)
    (gloB_ok (c.fact 210 rfl))
    h_l49
    h_c49
    (c.fact 211 rfl)
    (gloB_ok (c.fact 212 rfl))
    h_l50
    h_c50
    (c.fact 213 rfl)
    (gloB_ok (c.fact 214 rfl))
    h_l51
    h_c51
    (c.fact 215 rfl)
    (gloB_ok (c.fact 216 rfl))
    h_l52
    h_c52
    (c.fact 217 rfl)
    (gloB_ok (c.fact 218 rfl))
    h_l53
    h_c53
    (c.fact 219 rfl)
    (freeB_ok (c.fact 220 rfl))
    (freeB_ok (c.fact 221 rfl))
    (freeB_ok (c.fact 222 rfl))
    (freeB_ok (c.fact 223 rfl))
    (freeB_ok (c.fact 224 rfl))
    (freeB_ok (c.fact 225 rfl))
    (freeB_ok (c.fact 226 rfl))
    (freeB_ok (c.fact 227 rfl))
    (freeB_ok (c.fact 228 rfl))
    (freeB_ok (c.fact 229 rfl))
    (freeB_ok (c.fact 230 rfl))
    (freeB_ok (c.fact 231 rfl))
    (freeB_ok (c.fact 232 rfl))
    (freeB_ok (c.fact 233 rfl))
    (freeB_ok (c.fact 234 rfl))
    (freeB_ok (c.fact 235 rfl))
    (freeB_ok (c.fact 236 rfl))
    (freeB_ok (c.fact 237 rfl))
    (freeB_ok (c.fact 238 rfl))
    (gloB_ok (c.fact 239 rfl))
    h_same1
end Lw
open PySem PySem.W PyProof.Rows in
set_option maxRecDepth 100000 in
set_option maxHeartbeats 0 in
theorem PySem.Challenge.cw_unmarked_k13_endless_words_holds : PySem.Challenge.rw_unmarked_k13_endless_words.Holds := by
  w_on; o_law
  refine HandSHeadRun.head_any (r := (PySem.W.OpenLaw.row PySem.Challenge.rw_unmarked_k13_endless_words)) (q := view (PySem.W.OpenLaw.row PySem.Challenge.rw_unmarked_k13_endless_words).prog [62]) (H := Lw.zhk) (ob := Lw.zob) (M := 20000) (loose := Lw.zls) (d := (HandSHeadRun.topDef (PySem.W.OpenLaw.row PySem.Challenge.rw_unmarked_k13_endless_words).prog 62)) (kwd := []) Lw.zob_eq
    (by kernel_rfl) (fun s => by kernel_rfl) Lw.zrun (by kernel_rfl) (by kernel_rfl) (by kernel_rfl) (by rfl) (by first | assumption | decide +kernel) (by decide +kernel) ⟨rfl, rfl, rfl, rfl, rfl, by decide +kernel⟩ ?hw ?hc
  case hw => w_witness2
  case hc =>
    refine L2.walk_ofE (l := PySem.Challenge.rw_unmarked_k13_endless_words) (n := 63) (k := 11) (x := "_law_script") (CX := L2.CX0) rfl (by decide) (by kernel_rfl) ⟨rfl, by decide, by decide⟩ ?F (fun _ _ _ _ z => z)
    intro w mg fa h Y G hmg0
    obtain ⟨K, KX, c⟩ := Y
    have hmg : mg ("law" : PySem.Str) = some (.ref fa) := by
      have e : (HandSHeadRun.topDef (PySem.W.OpenLaw.row PySem.Challenge.rw_unmarked_k13_endless_words).prog 62).name = ("law" : PySem.Str) := by kernel_rfl
      rw [← e]
      exact hmg0
    obtain ⟨fd, hb, hF⟩ := Lw.zfacts (w := w) KX G hmg c
    exact ⟨K, fd, Lw.K13.sp_lawE K, KX, hb, fun H a ns hl _ hS => ⟨a, ns, rfl, hS, hl, fun _ => rfl⟩, hF⟩
#print axioms PySem.Challenge.cw_unmarked_k13_endless_words_holds
