import PyProof.Rows.All
import Wide.All
import OpenK.AllK
import Wide.FinOn
import HandS.ForMost
import HandS.Wide
import HandS.IsInst
import HandS.Style
import HandS.FStr
import HandS.Property
import HandS.SlotsOwn
import HandS.ClsMeth
import HandS.NoneIn
import HandS.Codes
import HandS.Walk
import HandS.ExcInit
import HandS.ExcIs
import HandS.ExcOwn
import HandS.ExcField
import HandS.TryMany
import HandS.WordsExc
import HandS.ExcBuiltin
import HandS.MakeKw
import HandS.MakeKwOnly
import HandS.TryOnly
import PyProof.ReprLen
import KE.KOpsOwn
import HandS.TupAny
import HandS.DictTup
import HandS.DictComp
import KE.KDictDisplayH
import PyProof.Rows.SeqRoads
import HandS.Replace
import HandS.Deep
import KE.GoesMore
import KE.GoesEnum
import HandS.SetFor
import HandS.Star
import HandS.HeadEnd
import HandS.HeadHook2
import HandS.Head2
import HandS.CallSlots
import KE.KExcIs
import HandS.Zip
import KE.DataCmp
import PyProof.StrHeap
import KE.KExcStr
import KE.KCallOwn
import HandS.Nested
import KE.KSuper
import HandS.Defaults
import HandS.TupAny
import HandS.RaiseMore
import HandS.HeadHook3
import HandS.TupMul
import KE.GoesZip
import HandS.SortInts
import PySem.Challenge.RW_unmarked_k44_runs_of_single_rows
set_option Elab.async false
set_option linter.all false
set_option maxRecDepth 100000
set_option maxHeartbeats 4000000
namespace Kb
open PySem PySem.Spec PyProof.Rows L2

theorem ifT {c : Bool} {A B : Prop} (hc : c = true) (h : A) : if c = true then A else B := by rw [if_pos hc]; exact h
theorem ifF {c : Bool} {A B : Prop} (hc : c = false) (h : B) : if c = true then A else B := by rw [hc, if_neg Bool.false_ne_true]; exact h
/-! ### a statement, then the rest, joined by a word -/
def tMid (t u : TS) : TS := fun D σ H => ∃ M : L2.St → Hp → Prop, t { D with nx := M } σ H ∧ ∀ σ1 H1, M σ1 H1 → u D σ1 H1
theorem pss_mid {X : Cx} {st : Stmt} {rest : List Stmt} {t u : TS} (a : PS X st t) (b : PSs X rest u) : PSs X (st :: rest) (tMid t u) := by
  refine ⟨fun pins s σ H D I ⟨M, hm, hu⟩ => ?_⟩
  refine wpAny_execs_cons (thn (a.run pins s σ H { D with nx := M } I hm) fun fl s1 z => ?_)
  cases fl with
  | next =>
    obtain ⟨σ1, H1, I1, z⟩ := z
    exact b.run pins s1 σ1 H1 D I1 (hu σ1 H1 z)
  | ret v => exact z
  | brk => exact z
  | cont => exact z
/-! ### what a comprehension's reading asks behind its source -/
def LcR (J : It) (g : TG) (tt : TT) (te : TE) (vs : List Nat) (σ : L2.St) (H1 : Hp) (D : Addr) (Qd : Hp → Prop) : Prop := ∃ W : Nat → Nat → Hp → Prop, (∃ m, W 0 m (upd H1 D (.lst []))) ∧ ∀ i m H, W i m H →
  (J.stop i H ∧ Qd H) ∨ (J.go i H ∧ ∃ Nx : Hp → Prop, (∀ H', Nx H' → ∃ m', m' < m ∧ W (i + 1) m' H') ∧ ∀ x H', J.yld i H x H' → g x (wipe σ vs) H' fun σ2 H2 => wipe σ2 vs = wipe σ vs ∧ tt σ2 H2 fun b H3 =>
    if b = true then te σ2 H3 fun y H4 => ∃ acc, H4 D = some (.lst acc) ∧ acc.length < sizeLine ∧ Nx (upd H4 D (.lst (acc ++ [y]))) else Nx H3)
theorem lcR_list {K : PySem.W.Frag} {a : Addr} {xs : List V} {g : TG} {te : TE} {vs : List Nat} {σ : L2.St} {H1 : Hp} {D : Addr} {Qd : Hp → Prop} (M : Nat → Hp → Prop) (h0 : M 0 (upd H1 D (.lst []))) (hl : ∀ i H, i ≤ xs.length → M i H → SqL K H a xs)
    (hs : ∀ i x H, xs[i]? = some x → M i H → g x (wipe σ vs) H fun σ2 H2 => wipe σ2 vs = wipe σ vs ∧ te σ2 H2 fun y H4 => ∃ acc, H4 D = some (.lst acc) ∧ acc.length < sizeLine ∧ M (i + 1) (upd H4 D (.lst (acc ++ [y]))))
    (hm : ∀ x σ H Q Q', (∀ σ2 H2, Q σ2 H2 → Q' σ2 H2) → g x σ H Q → g x σ H Q') (hd : ∀ H, M xs.length H → Qd H) : LcR (Itl K a) g tYes te vs σ H1 D Qd :=
  lc_list M h0 hl (fun i x H hi m => hm _ _ _ _ _ (fun σ2 H2 z => ⟨z.1, ifT (B := M (i + 1) H2) rfl z.2⟩) (hs i x H hi m)) hd
theorem gName_mono (i : Nat) : ∀ (x : V) (σ : L2.St) (H : Hp) (Q Q' : L2.St → Hp → Prop), (∀ σ2 H2, Q σ2 H2 → Q' σ2 H2) → gName i x σ H Q → gName i x σ H Q' := fun _ _ _ _ _ h q => h _ _ q
theorem szl {n : Nat} (h : n ≤ 1000000) : n ≤ sizeLine := Nat.le_trans h (by decide)
theorem szs {n : Nat} (h : n ≤ 1000000) : n < sizeLine := Nat.lt_of_le_of_lt h (by decide)
/-! ### rules that name the written part: for blocks of comprehensions -/
section
variable {X : Cx} {K : PySem.W.Frag}
end
/-! ### a comprehension over a text -/
theorem lcR_str {z : Str} {g : TG} {te : TE} {vs : List Nat} {σ : L2.St} {H1 : Hp} {D : Addr} {Qd : Hp → Prop} (M : Nat → Hp → Prop) (h0 : M 0 (upd H1 D (.lst [])))
    (hs : ∀ i c H, i < z.cps.size → z.cps[i]? = some c → M i H → g (.str ⟨#[c]⟩) (wipe σ vs) H fun σ2 H2 => wipe σ2 vs = wipe σ vs ∧ te σ2 H2 fun y H4 => ∃ acc, H4 D = some (.lst acc) ∧ acc.length < sizeLine ∧ M (i + 1) (upd H4 D (.lst (acc ++ [y]))))
    (hm : ∀ x σ H Q Q', (∀ σ2 H2, Q σ2 H2 → Q' σ2 H2) → g x σ H Q → g x σ H Q') (hd : ∀ H, M z.cps.size H → Qd H) : LcR (Its z) g tYes te vs σ H1 D Qd :=
  lc_it walk_str M h0 (fun _ _ _ _ => trivial) (fun i x H H' hi m y => by
    obtain ⟨e, c, hc, ex⟩ := y
    subst e; subst ex
    exact hm _ _ _ _ _ (fun σ2 H2 z => ⟨z.1, ifT (B := M (i + 1) H2) rfl z.2⟩) (hs i c _ hi hc m)) hd
/-! ### a comprehension whose every turn makes one object -/
theorem kit_self (K : PySem.W.Frag) (t : Value) (h : (t == t) = true) : PySem.W.kitOne K t t = some true := by
  unfold PySem.W.kitOne
  rw [if_pos h]
/-! ### int of an int, of a truth -/
theorem call_intI {X : Cx} : CallR X (.type "int") (fun xs H Q => ∃ i, xs = [.int i] ∧ Q (.int i) H) := fun pins s σ H xs us Q I r h => call_int1 pins s σ H xs us Q I r (.inl h)
theorem call_intB {X : Cx} : CallR X (.type "int") (fun xs H Q => ∃ k, xs = [.bl k] ∧ Q (.int (if k then 1 else 0)) H) := fun pins s σ H xs us Q I r h => call_int1 pins s σ H xs us Q I r (.inr h)
/-! ### a def that may be called by its name -/
structure FnC (P : Program) (w : World) (K : PySem.W.Frag) (mg : Str → Option Value) (base : Heap) (CX : CXT) (k : Nat) (x : Str) (ps : List Str) (sp : Sp) : Prop where
  ex : ∃ (f : Addr) (fd : FuncData), FnOk P w K mg base CX k f fd ps sp ∧ mg x = some (.ref f) ∧ PySem.W.keepIn K (.ref f) = true ∧ Binds K fd ps []
section
variable {X : Cx} {k : Nat} {x : Str} {ps : List Str} {sp : Sp} {e : Expr} {es : List Expr} {t : TA} {p pos : Pos}
theorem pe_callC (F : FnC X.prog X.w X.K X.mg X.base CX0 k x ps sp) (hr : Room k X.A) (hg : Gl X x) (ha : PA X (e :: es) t) (hdb : (x == ("__debug__" : Str)) = false := by decide)
    (he : starEach (e :: es) X.env = (false, eval e X.env) :: starEach es X.env := by rfl) (hpl : (backTo pos (starEach es X.env)).any (·.1) = false := by rfl) :
    PE X (.Call (.Name x p) (e :: es) [] pos) (tCall sp [] E0 t) := by
  obtain ⟨f, fd, h, hm, hk, hb⟩ := F.ex
  exact pe_call h hr hg hm hk hb .nil pass0 ha hdb he hpl
end

/-! ### texts -/
section
variable {X : Cx}
end
end Kb

/-! ### own comparisons -/
namespace Kb
open PySem PySem.W PySem.Spec PyProof.Rows
section
variable {prog : Program} {w : World} {A : Around} {E : Value → Shared → Prop} {s : Shared} {K : Frag} {x C f L : Addr} {ox : Obj} {od : Option Obj} {h₀ : Heap} {m : Str → Option Value} {tb : Value}
end
end Kb

/-! ### methods of own classes, own comparisons, repr, defs that ask for the guards -/
namespace Kb
open PySem PySem.Spec PyProof.Rows L2
/-- a method of the class at C -/
structure MtC (P : Program) (w : World) (K : PySem.W.Frag) (mg : Str → Option Value) (base : Heap) (CX : CXT) (k : Nat) (C : Addr) (m : Str) (ps : List Str) (sp : Sp) : Prop where
  ex : ∃ (f : Addr) (fd : FuncData), FnOk P w K mg base CX k f fd ps sp ∧ Meth K C m f ∧ Binds K fd ps []
/-- how the class at C is made -/
structure MkC (P : Program) (w : World) (K : PySem.W.Frag) (mg : Str → Option Value) (base : Heap) (CX : CXT) (k : Nat) (C : Addr) (x : Str) (ps : List Str) (sp : Sp) : Prop where
  ex : ∃ (f : Addr) (fd : FuncData), FnOk P w K mg base CX k f fd ps sp ∧ Mk K C f ∧ mg x = some (.ref C) ∧ Binds K fd ps []
section
variable {X : Cx} {k : Nat} {x m : Str} {C : Addr} {ps : List Str} {sp : Sp} {e o : Expr} {es : List Expr} {t : TA} {ta : TE} {p pos apos : Pos}
theorem pe_makeC (F : MkC X.prog X.w X.K X.mg X.base CX0 k C x ps sp) (hr : Room (k + 1) X.A) (hg : Gl X x) (ha : PA X (e :: es) t) (hdb : (x == ("__debug__" : Str)) = false := by decide)
    (he : starEach (e :: es) X.env = (false, eval e X.env) :: starEach es X.env := by rfl) (hpl : (backTo pos (starEach es X.env)).any (·.1) = false := by rfl) :
    PE X (.Call (.Name x p) (e :: es) [] pos) (tMake C sp [] E0 t) := by
  obtain ⟨f, fd, h, M, hm, hb⟩ := F.ex
  exact pe_make M h hr hg hm hb .nil pass0 ha hdb he hpl
/-! ### repr of data -/
end
end Kb

/-! ### defs that ask that no repr is under way -/
namespace Kb
open PySem PySem.Spec PyProof.Rows L2
structure FnOkG (P : Program) (w : World) (K : PySem.W.Frag) (mg : Str → Option Value) (base : Heap) (CX : CXT) (k : Nat) (f : Addr) (fd : FuncData) (ps : List Str) (sp : Sp) : Prop where
  len : ∀ vs H Q E, sp vs H Q E → vs.length = ps.length
  run : ∀ (A : Around) (outer : List Env) (s : Shared) (H : Hp) (ar : Args) (us : List Value) (vs : List V) (Q : VK) (E : XK), A.guards = some [] → Room k A → Env0 P w K mg base A outer s H → BindsTo s fd ar (ps.zip us) → Vals vs us → sp vs H Q E →
    codeAny (model P w) A (.call (.ref f) ar) (CR CX outer P w H s Q E) s
theorem FnOkG.of {P : Program} {w : World} {K : PySem.W.Frag} {mg : Str → Option Value} {base : Heap} {CX : CXT} {k : Nat} {f : Addr} {fd : FuncData} {ps : List Str} {sp : Sp} (F : FnOk P w K mg base CX k f fd ps sp) : FnOkG P w K mg base CX k f fd ps sp :=
  ⟨F.len, fun A o s H ar us vs Q E _ => F.run A o s H ar us vs Q E⟩
section
variable {CX : CXT} {P : Program} {w : World} {K : PySem.W.Frag} {mg : Str → Option Value} {base : Heap} {k : Nat} {f : Addr} {name qual : Str} {N ps : List Str} {sp : Sp} {st : Stmt} {fd : FuncData}
end
structure FnG (P : Program) (w : World) (K : PySem.W.Frag) (mg : Str → Option Value) (base : Heap) (CX : CXT) (k : Nat) (x : Str) (ps : List Str) (sp : Sp) : Prop where
  ex : ∃ (f : Addr) (fd : FuncData), FnOkG P w K mg base CX k f fd ps sp ∧ mg x = some (.ref f) ∧ PySem.W.keepIn K (.ref f) = true ∧ Binds K fd ps []
section
variable {X : Cx} {CX : CXT} {k : Nat} {x : Str} {ps : List Str} {sp : Sp} {e : Expr} {es : List Expr} {t : TA} {p pos : Pos}
end
/-! ### the end for a law that asks for the guards -/
end Kb

/-! ### own errors, defs that refuse, calls at the slots, clauses with and without a name -/
namespace Kb
open PySem PySem.Spec PyProof.Rows L2 ClX
def calm (sp : Sp) : Sp := fun vs H Q _ => sp vs H Q E0
theorem fn_calm {P : Program} {w : World} {K : PySem.W.Frag} {mg : Str → Option Value} {base : Heap} {k : Nat} {f : Addr} {fd : FuncData} {ps : List Str} {sp : Sp} (F : FnOk P w K mg base (L2.CX P w) k f fd ps sp) : FnOk P w K mg base CX0 k f fd ps (calm sp) := by
  refine ⟨fun vs H Q E h => F.len vs H Q E0 h, fun A outer s H ar us vs Q E hr e0 hb r h => codeAny_mono (F.run A outer s H ar us vs Q E0 hr e0 hb r h) fun rs s' z => ?_⟩
  cases rs with
  | ok fl => cases fl <;> exact z
  | error e =>
    obtain ⟨_, _, _, _, _, _, _, _, _, _, _, _, q⟩ := z
    exact (show False from q).elim
theorem FnC.calm {P : Program} {w : World} {K : PySem.W.Frag} {mg : Str → Option Value} {base : Heap} {k : Nat} {x : Str} {ps : List Str} {sp : Sp} (F : FnC P w K mg base (L2.CX P w) k x ps sp) : FnC P w K mg base CX0 k x ps (Kb.calm sp) :=
  let ⟨f, fd, h, r⟩ := F.ex
  ⟨f, fd, fn_calm h, r⟩
theorem MkC.calm {P : Program} {w : World} {K : PySem.W.Frag} {mg : Str → Option Value} {base : Heap} {k : Nat} {C : Addr} {x : Str} {ps : List Str} {sp : Sp} (F : MkC P w K mg base (L2.CX P w) k C x ps sp) : MkC P w K mg base CX0 k C x ps (Kb.calm sp) :=
  let ⟨f, fd, h, r⟩ := F.ex
  ⟨f, fd, fn_calm h, r⟩
theorem MtC.calm {P : Program} {w : World} {K : PySem.W.Frag} {mg : Str → Option Value} {base : Heap} {k : Nat} {C : Addr} {m : Str} {ps : List Str} {sp : Sp} (F : MtC P w K mg base (L2.CX P w) k C m ps sp) : MtC P w K mg base CX0 k C m ps (Kb.calm sp) :=
  let ⟨f, fd, h, r⟩ := F.ex
  ⟨f, fd, fn_calm h, r⟩

/-! ### calls that may raise, at the slots -/
section
variable {X : Cx} {k : Nat} {x m : Str} {f C : Addr} {fd : FuncData} {ps : List Str} {sp : Sp} {W : WX} {e o : Expr} {es : List Expr} {t : TA} {ta : TE} {p pos apos : Pos}
theorem pe_callSC (F : FnC X.prog X.w X.K X.mg X.base (L2.CX X.prog X.w) k x ps sp) (hr : Room k X.A) (tk : Takes X W) (hg : Gl X x) (ha : PA X (e :: es) t) (hdb : (x == ("__debug__" : Str)) = false := by decide)
    (he : starEach (e :: es) X.env = (false, eval e X.env) :: starEach es X.env := by rfl) (hpl : (backTo pos (starEach es X.env)).any (·.1) = false := by rfl) :
    PE X (.Call (.Name x p) (e :: es) [] pos) (tCallS sp (WE W) t) := by
  obtain ⟨f, fd, h, hm, hk, hb⟩ := F.ex
  exact pe_callS h hr hg hm hk hb (passAt tk) ha hdb he hpl
/-- a classmethod of the class at C, its name x -/
structure CmC (P : Program) (w : World) (K : PySem.W.Frag) (mg : Str → Option Value) (base : Heap) (CX : CXT) (k : Nat) (C : Addr) (x m : Str) (ps : List Str) (sp : Sp) : Prop where
  ex : ∃ (f q : Addr) (fd : FuncData), FnOk P w K mg base CX k f fd ps sp ∧ CRead K C (.type "type") ∧ CMet K C (.type "type") m q f ∧ mg x = some (.ref C) ∧ Binds K fd ps []
theorem CmC.calm {P : Program} {w : World} {K : PySem.W.Frag} {mg : Str → Option Value} {base : Heap} {k : Nat} {C : Addr} {x m : Str} {ps : List Str} {sp : Sp} (F : CmC P w K mg base (L2.CX P w) k C x m ps sp) : CmC P w K mg base CX0 k C x m ps (Kb.calm sp) :=
  let ⟨f, q, fd, h, r⟩ := F.ex
  ⟨f, q, fd, fn_calm h, r⟩
/-- a property of the class at C -/
structure PrC (P : Program) (w : World) (K : PySem.W.Frag) (mg : Str → Option Value) (base : Heap) (k : Nat) (C : Addr) (m : Str) (sp : Sp) : Prop where
  ex : ∃ (f q : Addr) (fd : FuncData), FnOk P w K mg base CX0 k f fd ["self"] sp ∧ Cls K C ∧ PropOf K C m q f ∧ Binds K fd ["self"] []
end
end Kb

namespace Kb
open PySem PySem.Spec PyProof.Rows L2 ClX
/-! ### an own error that has no fields -/
/-- the class whose own initialiser is called by its name -/
structure UeC (K : PySem.W.Frag) (U : Addr) : Prop where
  rd : CRead K U (.type "type")
  at_ : PySem.W.findCls K (.ref U) (.type "type") "__init__" = some (.val (.builtin "ValueError.__init__"))
section
variable {X : Cx} {o e : Expr} {es : List Expr} {ta : TA} {x : Str} {U : Addr} {p p1 p2 pos : Pos}
theorem pe_uinit {pl : Sem Bool} (hU : UeC X.K U) (hg : Gl X x) (hm : X.mg x = some (.ref U)) (ha : PA X (e :: es) ta) (hdb : (x == ("__debug__" : Str)) = false := by decide)
    (hc : eval (.Call (.Attribute (.Name x p1) "__init__" p2) (e :: es) [] pos) X.env = (do
      let ov ← eval (.Name x p1) X.env
      standAt p2.atName
      let (f, first) ← holding [ov] (getMethod ov "__init__" pl)
      callWith pos f first (backTo pos (starEach (e :: es) X.env)) (backToKw pos (keywordEach [] X.env))) := by rfl)
    (he : starEach (e :: es) X.env = (false, eval e X.env) :: starEach es X.env := by rfl) (hpl : (backTo pos (starEach es X.env)).any (·.1) = false := by rfl) :
    PE X (.Call (.Attribute (.Name x p1) "__init__" p2) (e :: es) [] pos) (tVeI X.K ta) := by
  refine ⟨fun pins s σ H Q I h => ?_⟩
  refine PySem.W.methodCall_KW (ld_glob I hg hm ?_ hdb) hc
  refine PySem.W.method_cls I.kIn hU.rd.ga (PySem.W.cls_value I.kIn hU.rd.rd hU.at_ rfl ?_)
  show wpAny _ _ (callWith pos (Value.builtin "ValueError.__init__") [] (backTo pos (starEach (e :: es) X.env)) []) _ _ _
  refine PyProof.Rows.callWith_method1 (thn (ha.run pos pins _ σ H _ (I.tok _) h) fun us s1 ⟨vs, H1, I1, r1, a, C, ws, ev, hl, T, ea, q⟩ => ?_) he hpl
  subst ev
  cases r1 with
  | @cons _ u0 _ ur ra rw' =>
    obtain rfl : u0 = Value.ref a := ra
    have hlen : ur.length ≤ sizeLine := by
      rw [← Paired.length rw', sizeLine_eq]
      omega
    exact oinit_ok T I1 ea hlen fun s' J => ⟨.non, H1, J, rfl, q⟩
end
def sp_err0 (C : Addr) : Sp := fun vs H Q _ => ∃ a, vs = [.ref a] ∧ H a = some (exo a C none) ∧ Q .non H
theorem mk_endN {X : Cx} {pins : List (Addr × Obj)} {σ : L2.St} {H1 H2 : Hp} {hp hp2 h2 : Heap} {g1 g2 : Array GenState} {d1 d2 : Drawn} {t1 t2 : Nat} {os1 os2 : OsState} {a C : Addr} (I1 : Inv X pins σ H1 ⟨hp, g1, d1, t1, os1⟩)
    (ha : hp.objs.size ≤ a) (k : ∀ b o, hp.get? b = some o → hp2.get? b = some o) (un : Un (frs X.stack) [] (upd H1 a (exo a C none)) H2 hp2 h2) (hok : HOk X.prog X.w H2 h2) (ho : os2 = os1) (hb : AllBare g2)
    (ea : H2 a = some (exo a C none)) :
    ∃ (t0 : Addr) (G : Heap), Inv X pins σ (del H2 a) ⟨G, g2, d2, t2, os2⟩ ∧ (∀ b o, G.get? b = some o → h2.get? b = some o) ∧ G.get? a = none ∧
      h2.get? a = some ({ cls := .ref C, dict := none, data := .fields #[.ref t0, .none, .none, .none, .bool false, .none] } : Obj) ∧ (del H2 a) a = none := by
  obtain ⟨t0, hoe⟩ := exo_at hok ea
  have hn : H1 a = none := I1.hok.fresh ha
  obtain ⟨G, g1', g2'⟩ := restrict h2 fun b => decide (b ≠ a)
  have gk : ∀ b, b ≠ a → G.get? b = h2.get? b := fun b hb => g1' b (decide_eq_true hb)
  have ge : G.get? a = none := g2' a (by simp)
  have nha : ∀ {b : Addr} {o : Obj}, hp.get? b = some o → b ≠ a := fun {b o} z => Nat.ne_of_lt (Nat.lt_of_lt_of_le (Heap.lt_size z) ha)
  have up : ∀ {b : Addr}, b ≠ a → H1 b = none → upd H1 a (exo a C none) b = none := fun {b} hb n => by rw [upd_ne hb]; exact n
  have U : Un (frs X.stack) [] H1 (del H2 a) hp G := {
    keep := fun b o z n hf hx => by
      rw [gk b (nha z)]
      exact un.keep b o (k b o z) (up (nha z) n) hf hx
    slot := fun b o z n hf hx => by
      rw [gk b (nha z)]
      exact un.slot b o (k b o z) (up (nha z) n) hf hx
    free := fun b o z n hx => by
      rw [del_ne (nha z)]
      exact un.free b o (k b o z) (up (nha z) n) hx
    there := fun b o z hx => by
      rw [gk b (nha z)]
      exact un.there b o (k b o z) hx
    tups := fun b xs z => by
      rw [del_ne (ne_of_none z hn)]
      exact un.tups b xs (by rw [upd_ne (ne_of_none z hn)]; exact z)
    frzs := fun b o v z => by
      rw [del_ne (ne_of_none z hn)]
      exact un.frzs b o v (by rw [upd_ne (ne_of_none z hn)]; exact z)
    tbls := fun b ps z => by
      rw [del_ne (ne_of_none z hn)]
      exact un.tbls b ps (by rw [upd_ne (ne_of_none z hn)]; exact z) }
  have hok3 : HOk X.prog X.w (del H2 a) G := fun b o z => by
    have hba : b ≠ a := fun e => by
      rw [e, del_same] at z
      cases z
    rw [del_ne hba] at z
    have noa : ∀ {c : Addr}, H2 c = some (.own b) → c ≠ a := fun {c} hc => at_ne ea hc exo_own
    exact (hok b o z).stay (fun c v hc y => by
        have hca : c ≠ a := by
          rcases hc with hc | hc
          · rw [hc]
            exact hba
          · exact noa hc
        rw [gk c hca]
        exact y)
      (fun c hc => by rw [del_ne (noa hc)]; exact hc) (fun c xs hc => by rw [del_ne (at_ne ea hc exo_tup)]; exact hc)
  have J : Inv X pins σ (del H2 a) ⟨G, g2, d2, t2, os2⟩ := I1.call' (ch := []) ho U hok3 hb (fun b z => absurd z (by simp))
  refine ⟨t0, G, J, fun b o z => ?_, ge, hoe, del_same⟩
  by_cases hba : b = a
  · rw [hba, ge] at z
    cases z
  · exact (gk b hba).symm.trans z
/-- an own error without fields, made by its name -/
structure ErC (P : Program) (w : World) (K : PySem.W.Frag) (mg : Str → Option Value) (base : Heap) (x : Str) (C : Addr) : Prop where
  ex : ∃ (f : Addr) (fd : FuncData), FnOk P w K mg base CX0 2 f fd ["self"] (sp_err0 C) ∧ OexC K C ∧ PySem.W.findIn K (.ref C) "__init__" = some (some (.ref f)) ∧ PySem.W.typeIn K (.ref f) = some (.type "function") ∧ mg x = some (.ref C) ∧ Binds K fd ["self"] []
theorem pmk_err0 {X : Cx} {C : Addr} {x : Str} {p pos : Pos} (F : ErC X.prog X.w X.K X.mg X.base x C) (hr : Room 3 X.A) (hg : Gl X x) (hdb : (x == ("__debug__" : Str)) = false := by decide) :
    PMk X (.Call (.Name x p) [] [] pos) (fun _ H Q => Q (.ref C) none H) := by
  obtain ⟨f, fd, F1, T, iC, tI, hm, hb⟩ := F.ex
  intro pins s σ H Q I h
  obtain ⟨nm, q, N, bs, bm, sn, sub, ab, col, dd, k0, k1, k2, k3, k5, hC, hbm⟩ := T.cls
  refine wpAny_Call_Name_kw (ld_glob I hg hm ?_ hdb)
  refine PySem.W.callWith_K0 I.kIn T.kC ?_
  show wpAny _ _ (call (.ref C) []) _ _ _
  obtain ⟨hp, g, dr, tk, os⟩ := s
  have hsz : hp.objs.size ≤ hp.objs.size + 1 := Nat.le_succ _
  have hn : H (hp.objs.size + 1) = none := I.hok.fresh hsz
  have kk : ∀ b o, hp.get? b = some o → ((hp.push (PySem.W.kdv_tup [])).push (PySem.HandSPX.excO C hp.objs.size)).get? b = some o := fun b o e => Heap.get?_push_of_some _ (Heap.get?_push_of_some _ e)
  have hget : ((hp.push (PySem.W.kdv_tup [])).push (PySem.HandSPX.excO C hp.objs.size)).get? (hp.objs.size + 1) = some (PySem.HandSPX.excO C hp.objs.size) := by heap_get
  have I2 : Inv X pins σ (upd H (hp.objs.size + 1) (exo (hp.objs.size + 1) C none)) ⟨(hp.push (PySem.W.kdv_tup [])).push (PySem.HandSPX.excO C hp.objs.size), g, dr, tk, os⟩ :=
    I.laid (t' := tk) (a := hp.objs.size + 1) (o := exo (hp.objs.size + 1) C none) (h' := (hp.push (PySem.W.kdv_tup [])).push (PySem.HandSPX.excO C hp.objs.size)) kk hsz (exo_ok hget)
  have r2 : Vals [V.ref (hp.objs.size + 1)] [Value.ref (hp.objs.size + 1)] := .cons rfl .nil
  have b := hb _ [Value.ref (hp.objs.size + 1)] I2.kIn rfl
  have hq : sp_err0 C [V.ref (hp.objs.size + 1)] (upd H (hp.objs.size + 1) (exo (hp.objs.size + 1) C none)) (fun v H2 => v = .non ∧ H2 = upd H (hp.objs.size + 1) (exo (hp.objs.size + 1) C none)) E0 := ⟨_, rfl, upd_same, rfl, rfl⟩
  refine wpAny_call (PySem.HandSPX.call_own _root_.PySem.F.excBase_ValueError (fun Y => PySem.HandSPX.refsVE_contains Y bm hbm) (I.kIn _ _ hC) (PySem.W.looks_findIn I.kIn iC) (fun self => PySem.W.bind_fn I.kIn self tI) (Nat.zero_le _)
    (codeAny_mono (F1.run _ X.stack _ _ ⟨[Value.ref (hp.objs.size + 1)], []⟩ [Value.ref (hp.objs.size + 1)] _ _ E0 (hr.make C [] []) (I2.env0.make C [] []) b r2 hq) fun r s' hq' => ?_))
  cases r with
  | error er => exact (show False from hq').elim
  | ok fl =>
    cases fl with
    | ret u =>
      obtain ⟨v, H2, os2, bare2, un2, hok2, rv, ev, eH⟩ := hq'
      subst ev
      subst eH
      obtain ⟨h2, g2, d2, t2, os'⟩ := s'
      have ed : del (upd H (hp.objs.size + 1) (exo (hp.objs.size + 1) C none)) (hp.objs.size + 1) = H := by
        funext b
        by_cases hb : b = hp.objs.size + 1
        · rw [hb, del_same, hn]
        · rw [del_ne hb, upd_ne hb]
      obtain ⟨t0, G, J, kG, ge, hoe, na⟩ := mk_endN (d2 := d2) (t2 := t2) I hsz kk un2 hok2 os2 bare2 upd_same
      rw [ed] at J na
      exact ⟨rv, _, _, _, ⟨G, g2, d2, t2, os'⟩, _, .ref C, none, rfl, J, kG, ge, hoe, ⟨rfl, rfl⟩, rfl, rfl, na, rfl, bare2, raises_own T.exC T.tyC, h⟩
    | next => exact False.elim hq'
    | brk => exact False.elim hq'
    | cont => exact False.elim hq'
theorem ps_raise0 {X : Cx} {W : WX} {C : Addr} {x : Str} {p pos pos' : Pos} (F : ErC X.prog X.w X.K X.mg X.base x C) (hr : Room 3 X.A) (hc : X.calm = true) (tk : Takes X W) (hg : Gl X x) (hdb : (x == ("__debug__" : Str)) = false := by decide) :
    PS X (.Raise (some (.Call (.Name x p) [] [] pos)) none pos') (fun _ σ H => W (.ref C) none σ H) := ps_raise hc tk (pmk_err0 F hr hg hdb)
/-! ### clauses, with a name or without -/
inductive Cl where
  | pl (c : Value) (ts : Addr → Value → Option Addr → TS)
  | nm (c : Value) (i : Nat) (ts : Addr → Value → Option Addr → TS)
inductive ClOk (X : Cx) : List ExceptHandler → List Cl → Prop
  | nil : ClOk X [] []
  | pl {x : Str} {c : Value} {ts : Addr → Value → Option Addr → TS} {b₀ : Stmt} {suite : List Stmt} {np pos' : Pos} {hds : List ExceptHandler} {l : List Cl} (hc : Names X x c)
      (hsu : ∀ (a : Addr) (oe : Obj) (cls : Value) (d : Option Addr) (pn : List (Addr × Obj)), Zc cls d oe → (∃ vs, oe.data = .fields vs) → PSs (X.suite a ((a, oe) :: pn)) (b₀ :: suite) (ts a cls d)) (r : ClOk X hds l) :
      ClOk X (.ExceptHandler (some (.Name x np)) none (b₀ :: suite) pos' :: hds) (.pl c ts :: l)
  | nm {x n : Str} {i : Nat} {c : Value} {ts : Addr → Value → Option Addr → TS} {b₀ : Stmt} {suite : List Stmt} {np pos' : Pos} {hds : List ExceptHandler} {l : List Cl} (hN : X.N.Nodup) (hi : X.N[i]? = some n) (hln : X.env.kindOf n = some .local) (hc : Names X x c)
      (hsu : ∀ (a : Addr) (oe : Obj) (cls : Value) (d : Option Addr) (pn : List (Addr × Obj)), Zc cls d oe → (∃ vs, oe.data = .fields vs) → PSs (X.suite a ((a, oe) :: pn)) (b₀ :: suite) (ts a cls d)) (r : ClOk X hds l) :
      ClOk X (.ExceptHandler (some (.Name x np)) (some n) (b₀ :: suite) pos' :: hds) (.nm c i ts :: l)
section
variable {X : Cx} {body : List Stmt} {h₀ : ExceptHandler} {hds : List ExceptHandler} {l : List Cl} {pos : Pos} {tb : WX → TS} {Wout : WX}
end
/-! ### isinstance of a caught error and several classes -/
end Kb
namespace Kb
open PySem PySem.Spec PyProof.Rows L2 ClX
theorem ErC.nm {P : Program} {w : World} {K : PySem.W.Frag} {mg : Str → Option Value} {base : Heap} {x : Str} {C : Addr} (F : ErC P w K mg base x C) : mg x = some (.ref C) := let ⟨_, _, _, _, _, _, h, _⟩ := F.ex; h
structure NmC (mg : Str → Option Value) (x : Str) (C : Addr) : Prop where
  nm : mg x = some (.ref C)
end Kb
namespace Kb
open PySem PySem.Spec PyProof.Rows L2 ClX
end Kb

namespace PySem.W
open PySem PySem.Calls PyProof.Rows Builtin
def InsP (K : Frag) (x dx C : Addr) (h : Heap) : Prop := K.In h ∧ ∃ od, InstAt h x (instObj C dx) C od
theorem callWith_inst {M : Model} {A : Around} {E : Value → Shared → Prop} {s : Shared} {K : Frag} {env : Env} {pos : Pos} {x dx C : Addr} {Q : Value → Shared → Prop} {e : Expr} {rest : List Expr}
    (h : wpAny M A (spliced (backTo pos (starEach (e :: rest) env))) (fun vs s₁ => InsP K x dx C s₁.heap ∧ wpAny M A (call (.ref x) vs) Q E s₁) E s)
    (he : starEach (e :: rest) env = (false, eval e env) :: starEach rest env := by rfl) (hplain : (backTo pos (starEach rest env)).any (·.1) = false := by rfl) :
    wpAny M A (callWith pos (.ref x) [] (backTo pos (starEach (e :: rest) env)) []) Q E s := by
  rw [he] at h ⊢
  have hp : ((backTo pos ((false, eval e env) :: starEach rest env)).any (·.1) || ([] : List (Option Str × Sem Value)).any (·.1.isNone)) = false := by
    show ((false || (backTo pos (starEach rest env)).any (·.1)) || false) = false
    rw [hplain]; rfl
  have h2 := evalArgs_plain (f := .ref x) (Q := fun (a : Args) s₁ => InsP K x dx C s₁.heap ∧ wpAny M A (call (.ref x) a.pos a.kw) Q E s₁) h
  unfold callWith
  refine wpAny_bind (wpAny_holding (wpAny_mono h2 (fun a s₁ h₁ => wpAny_bind (wpAny_standAt ?_)) fun _ _ y => y))
  obtain ⟨⟨_, od, J⟩, h3⟩ := h₁
  have L := kco_keeper (M := M) J rfl
  simp only [hp]
  refine wpAny_bind (L.here ?_)
  have tail : ∀ {t : Sem Value}, wpAny M A t Q E s₁ → wpAny M A (t >>= fun r => holding [r] point >>= fun _ => pure r) Q E s₁ :=
    fun ht => wpAny_bind (wpAny_mono ht (fun r s₂ hr => wpAny_bind (wpAny_holding (wpAny_point (wpAny_pure hr)))) fun _ _ y => y)
  exact tail (wpAny_operateT h3)
end PySem.W
namespace Kb
open PySem PySem.Spec PyProof.Rows L2 ClX
section
variable {X : Cx} {k : Nat} {C : Addr} {ps : List Str} {sp : Sp}
/-- a method with self alone, called one in, its answer looked at -/
theorem run_self {pins : List (Addr × Obj)} {σ : L2.St} {H : Hp} {s : Shared} {a : Addr} {f : Addr} {fd : FuncData} {Q : VK} {Qf : Value → Shared → Prop} {A : Around} (I : Inv X pins σ H s) (F : FnOk X.prog X.w X.K X.mg X.base CX0 k f fd ["self"] sp) (hr : Room k A) (hb : Binds X.K fd ["self"] []) (h : sp [.ref a] H Q E0)
    (fin : ∀ u s', EP X pins σ Q u s' → Qf u s') (hA : A.frames = X.A.frames) {E : Value → Shared → Prop} : wpAny (model X.prog X.w) A (call (.ref f) [.ref a]) Qf E s := by
  have b := hb s [.ref a] I.kIn rfl
  have e0 : Env0 X.prog X.w X.K X.mg X.base A X.stack s H := ⟨hA.trans I.env0.frames, I.env0.mod, I.env0.bs, I.env0.bsz, I.env0.funs, I.env0.frf, I.env0.hok, I.env0.bare⟩
  refine wpAny_call (codeAny_mono (F.run A X.stack s H ⟨[.ref a], []⟩ ([.ref a] ++ []) [.ref a] Q E0 hr e0 b (Paired.cons (show RelV (V.ref a) (Value.ref a) from rfl) Paired.nil) h) fun r s' hq => ?_)
  cases r with
  | error e => exact (show False from hq).elim
  | ok fl =>
    cases fl with
    | ret u => exact fin u s' (I.after hq)
    | next => exact False.elim hq
    | brk => exact False.elim hq
    | cont => exact False.elim hq
end
/-! ### an own instance, called -/
section
variable {X : Cx} {CX : CXT} {k i : Nat} {x : Str} {C : Addr} {ps : List Str} {sp : Sp} {E : L2.St → XK} {W : WX} {e : Expr} {es : List Expr} {t : TA} {p pos : Pos}
end
/-! ### an own class made by keywords alone -/
structure MkKC (P : Program) (w : World) (K : PySem.W.Frag) (mg : Str → Option Value) (base : Heap) (k : Nat) (C : Addr) (x : Str) (ps ks : List Str) (gV : List V → List V → List V) (sp : Sp) : Prop where
  ex : ∃ (f : Addr) (fd : FuncData) (g : List Value → List Value → List Value), FnOk P w K mg base CX0 k f fd ps sp ∧ Mk K C f ∧ mg x = some (.ref C) ∧ KBn K fd ps 1 ks g gV
theorem meth_fn {K : PySem.W.Frag} {C f g : Addr} {m : Str} (M : Meth K C m f) (h : PySem.W.findIn K (.ref C) m = some (some (.ref g))) (hf : PySem.W.fnIn K g = true) : PySem.W.fnIn K f = true := by
  have e := M.at_.symm.trans h
  cases e
  exact hf
end Kb

/-! ### shown data of ints -/
namespace Kb
open PySem PySem.Spec PyProof.Rows L2 ClX
theorem shown_int {i : Int} (h : i.natAbs < 2 ^ 1000) : (PyData.shown (.int i)).length ≤ 1001 := by
  show (Str.ofString (toString i)).length ≤ 1001
  rw [PySem.ofString_length]
  exact int_text_length_le (by decide) (PySem.Flt.log2_lt_of (by decide) h)
def showsI (i : Int) : Prop := i.natAbs < 2 ^ 1000
theorem weight_int {i : Int} (h : showsI i) : (PyData.int i).weight ≤ 1001 := by
  have := PySem.Flt.log2_lt_of (show 0 < 1000 by decide) h
  show (if i == 0 then 0 else i.natAbs.log2 + 1) ≤ 1001
  split <;> omega
theorem show_int {i : Int} (h : showsI i) : (PyData.int i).showable = true ∧ (PyData.int i).leavesShort 1001 = true := by
  refine ⟨decide_eq_true ?_, decide_eq_true (shown_int h)⟩
  exact Nat.lt_of_lt_of_le (PySem.Flt.log2_lt_of (by decide) h) (by decide)
structure ShOk (d : PyData) : Prop where
  a : d.showable = true
  b : d.hasDict = false
  c : d.depth ≤ 100
  d : d.shown.length ≤ sizeLine
theorem shOk {d : PyData} (h1 : d.showable = true) (h2 : d.hasDict = false) (h3 : d.depth ≤ 100) (h4 : d.leavesShort 1001 = true) (h5 : 1003 * d.weight + 1001 ≤ sizeLine) : ShOk d := ⟨h1, h2, h3, Nat.le_trans (PyData.shown_le 1001 (by decide) d h4) h5⟩
end Kb

/-! ### own operators, classmethods without arguments -/
namespace PySem.W
open PySem PySem.Calls PyProof.Rows
section
variable {prog : Program} {w : World} {M : Model} {A : Around} {E : Value → Shared → Prop} {s : Shared} {K : Frag} {x C D L f : Addr} {h₀ : Heap} {m : Str → Option Value} {ox : Obj} {od : Option Obj} {nm : String}
def plainMro (K : Frag) (C : Addr) : Bool := (clsIn K C).any fun cd => cd.mro == [.ref C, .type "object"]
end
end PySem.W
namespace Kb
open PySem PySem.Spec PyProof.Rows L2 ClX
/-- the class at C carries the operator -/
structure OpC (K : PySem.W.Frag) (C : Addr) (op : Operator) : Prop where
  sf : PySem.W.selfFirst K C = true
  r : PySem.W.findIn K (.ref C) (dunderR op.info.2) = some none
/-- the class at D doesn't -/
structure OpNo (K : PySem.W.Frag) (D : Addr) (op : Operator) : Prop where
  pm : PySem.W.plainMro K D = true
  h1 : PySem.W.findIn K (.ref D) (PySem.dunder op.info.2) = some none
  h2 : PySem.W.findIn K (.ref D) (dunderR op.info.2) = some none
  h3 : PySem.W.findIn K (.type "object") (PySem.dunder op.info.2) = some none
  h4 : PySem.W.findIn K (.type "object") (dunderR op.info.2) = some none
structure OpInt (K : PySem.W.Frag) (C : Addr) (op : Operator) : Prop where
  h1 : ∃ fo, PySem.W.findIn K (.type "int") (PySem.dunder op.info.2) = some fo
  h2 : ∃ ro, PySem.W.findIn K (.type "int") (dunderR op.info.2) = some ro
  sb : PySem.W.subIn K (.type "int") (.ref C) = some false
structure OpIn (K : PySem.W.Frag) (C : Addr) (op : Operator) : Prop where
  pm : PySem.W.plainMro K C = true
  i1 : PySem.W.findIn K (.ref C) (dunderI op.info.2) = some none
  i2 : PySem.W.findIn K (.type "object") (dunderI op.info.2) = some none
section
variable {X : Cx} {k : Nat} {C D : Addr} {ps : List Str} {sp : Sp} {op : Operator}
end
/-! ### C.m(), m a classmethod -/
section
variable {X : Cx} {k : Nat} {C : Addr} {x m : Str} {ps : List Str} {sp : Sp} {W : WX} {p pos apos : Pos}
end
end Kb

/-! ### new objects at an abstract heap, repr of data, what stands in the heap -/
namespace Kb
open PySem PySem.Spec PyProof.Rows L2 ClX
theorem isIte {c A B : Prop} {i : Decidable c} (h : @ite Prop c i A B) : @ite Prop c i A B := h
theorem iteNSI {c A B : Prop} {i : Decidable c} {j : Decidable ((!(@decide c i)) = true)} (hc : c) (h : B) : @ite Prop ((!(@decide c i)) = true) j A B := by
  rw [if_neg (by simp [hc])]; exact h
theorem iteTI {A B : Prop} {j : Decidable (true = true)} (h : A) : @ite Prop (true = true) j A B := by
  rw [if_pos rfl]; exact h
theorem iteFI {A B : Prop} {j : Decidable (false = true)} (h : B) : @ite Prop (false = true) j A B := by
  rw [if_neg Bool.false_ne_true]; exact h
/-- a new object o: whatever heap holds it and all that stood -/
def New (H : Hp) (o : HO) (Q : VK) : Prop := ∀ p H', H p = none → Same H H' → H' p = some o → Q (.ref p) H'
theorem sm_new {H : Hp} {p : Addr} {o : HO} (h : H p = none) : Same H (upd H p o) := fun a u e => by rw [upd_ne (ne_of_none e h)]; exact e
theorem New.at {H : Hp} {o : HO} {Q : VK} (h : New H o Q) {p : Addr} (hp : H p = none) : Q (.ref p) (upd H p o) := h p _ hp (sm_new hp) upd_same
def tTupN (t : TA) : TE := fun σ H Q => t σ H fun xs H1 => xs.length ≤ 1000000 ∧ New H1 (.tup xs) Q
def tLstN (t : TA) : TE := fun σ H Q => t σ H fun xs H1 => xs.length ≤ 1000000 ∧ New H1 (.lst xs) Q
section
variable {X : Cx} {es : List Expr} {t : TA} {pos : Pos}
theorem pe_tupN {x1} (h : PA X es t) : PE X (.Tuple es x1 pos) (tTupN t) := by
  refine ⟨fun pins s σ H Q I hq => ?_⟩
  refine wpAny_Tuple_spliced (thn (h.run pos pins s σ H _ I hq) fun us s1 ⟨xs, H1, I1, r, z, q⟩ => ⟨by rw [← r.length]; exact szl z, ?_⟩)
  have hf : H1 s1.heap.objs.size = none := I1.hok.fresh (Nat.le_refl _)
  refine ⟨.ref s1.heap.objs.size, upd H1 s1.heap.objs.size (.tup xs), I1.laid (t' := s1.toks) (fun b u e => Heap.get?_push_of_some _ e) (Nat.le_refl _) ?_, rfl, q.at hf⟩
  exact ⟨szl z, us, r, ⟨_, Heap.get?_push_size _ rfl, rfl, _, rfl⟩⟩
theorem pe_lstN (h : PA X es t) : PE X (.List es pos) (tLstN t) := by
  refine ⟨fun pins s σ H Q I hq => ?_⟩
  refine wpAny_List_spliced (thn (h.run pos pins s σ H _ I hq) fun us s1 ⟨xs, H1, I1, r, z, q⟩ => ⟨by rw [← r.length]; exact szl z, ?_⟩)
  have hf : H1 s1.heap.objs.size = none := I1.hok.fresh (Nat.le_refl _)
  refine ⟨.ref s1.heap.objs.size, upd H1 s1.heap.objs.size (.lst xs), I1.laid (t' := s1.toks) (fun b u e => Heap.get?_push_of_some _ e) (Nat.le_refl _) ?_, rfl, q.at hf⟩
  exact ⟨szl z, us, 0, r, Heap.get?_push_size _ rfl⟩
end
/-! ### repr -/
structure Shw (d : PyData) (n w : Nat) : Prop where
  a : d.showable = true
  b : d.hasDict = false
  c : d.depth ≤ n
  l : d.leavesShort 1001 = true
  w : d.weight ≤ w
structure ShwL (ds : List PyData) (n w : Nat) : Prop where
  a : PyData.showableAll ds = true
  b : PyData.hasDictAll ds = false
  c : PyData.depthAll ds ≤ n
  l : PyData.leavesShortAll 1001 ds = true
  w : PyData.weightAll ds ≤ w
theorem Shw.int {i : Int} (h : showsI i) : Shw (.int i) 0 1001 := ⟨(show_int h).1, rfl, Nat.le_refl _, (show_int h).2, weight_int h⟩
theorem Shw.bool (b : Bool) : Shw (.bool b) 0 0 := ⟨rfl, rfl, Nat.le_refl _, rfl, Nat.le_refl _⟩
theorem Shw.none : Shw .none 0 0 := ⟨rfl, rfl, Nat.le_refl _, rfl, Nat.le_refl _⟩
theorem Shw.str {z : Str} {m : Nat} (h : z.cps.toList.all (fun c => decide (c < 16 ^ 8)) = true) (hm : z.length ≤ m) : Shw (.str z) 0 m := ⟨rfl, rfl, Nat.le_refl _, h, hm⟩
theorem ShwL.nil : ShwL [] 0 0 := ⟨rfl, rfl, Nat.le_refl _, rfl, Nat.le_refl _⟩
theorem ShwL.cons {d : PyData} {ds : List PyData} {n w n' w' : Nat} (h : Shw d n w) (hs : ShwL ds n' w') : ShwL (d :: ds) (max n n') (w + 1 + w') := by
  refine ⟨?_, ?_, ?_, ?_, ?_⟩
  · show (d.showable && PyData.showableAll ds) = true
    rw [h.a, hs.a]; rfl
  · show (d.hasDict || PyData.hasDictAll ds) = false
    rw [h.b, hs.b]; rfl
  · show max d.depth (PyData.depthAll ds) ≤ _
    have := h.c
    have := hs.c
    omega
  · show (d.leavesShort 1001 && PyData.leavesShortAll 1001 ds) = true
    rw [h.l, hs.l]; rfl
  · show d.weight + 1 + PyData.weightAll ds ≤ _
    have := h.w
    have := hs.w
    omega
theorem Shw.tup {ds : List PyData} {n w : Nat} (h : ShwL ds n w) : Shw (.tuple ds) (n + 1) w := ⟨h.a, h.b, Nat.succ_le_succ h.c, h.l, h.w⟩
theorem Shw.lst {ds : List PyData} {n w : Nat} (h : ShwL ds n w) : Shw (.list ds) (n + 1) w := ⟨h.a, h.b, Nat.succ_le_succ h.c, h.l, h.w⟩
theorem Shw.ok {d : PyData} {n w : Nat} (h : Shw d n w) (hn : n ≤ 100) (hw : 1003 * w + 1001 ≤ 16000000) : ShOk d := shOk h.a h.b (Nat.le_trans h.c hn) h.l (by
  have := h.w
  have e : 1003 * d.weight ≤ 1003 * w := Nat.mul_le_mul_left _ this
  exact Nat.le_trans (show 1003 * d.weight + 1001 ≤ 16000000 by omega) (by decide))
section
variable {X : Cx} {k : Nat}
end
end Kb

/-! ### tuples put together and cut, at an abstract heap -/
namespace Kb
open PySem PySem.Spec PyProof.Rows L2 ClX
section
variable {X : Cx}
end
end Kb

/-! ### NotImplemented told by the left operand's method, the right operand's own reflected operator -/
namespace PySem.W
open PySem PySem.Calls PyProof.Rows
section
variable {prog : Program} {w : World} {M : Model} {A : Around} {E : Value → Shared → Prop} {s : Shared} {K : Frag} {x y C D L f g : Addr} {h₀ : Heap} {m : Str → Option Value} {ox oy : Obj} {od od' : Option Obj} {nm : String}
end
end PySem.W
namespace Kb
open PySem PySem.Spec PyProof.Rows L2 ClX
/-- a function that answers NotImplemented and leaves the heap as it was -/
structure FnNi (P : Program) (w : World) (K : PySem.W.Frag) (mg : Str → Option Value) (base : Heap) (k : Nat) (f : Addr) (fd : FuncData) (ps : List Str) (sn : List V → Hp → Prop) : Prop where
  len : ∀ vs H, sn vs H → vs.length = ps.length
  run : ∀ (A : Around) (outer : List Env) (s : Shared) (H : Hp) (args : Args) (us : List Value) (vs : List V), Room k A → Env0 P w K mg base A outer s H → BindsTo s fd args (ps.zip us) → Vals vs us → sn vs H →
    codeAny (model P w) A (.call (.ref f) args) (fun r s' => r = .ok (.ret .notImplemented) ∧ CE outer P w H s (fun _ H' => H' = H) .none s') s
structure PSn (X : Cx) (st : List Stmt) (t : L2.St → Hp → Prop) : Prop where
  run : ∀ (pins : List (Addr × Obj)) (s : Shared) (σ : L2.St) (H : Hp), Inv X pins σ H s → t σ H → wpAny (model X.prog X.w) X.A (execs st X.env) (fun f s' => f = .ret .notImplemented ∧ Inv X pins σ H s') X.xe s
section
variable {X : Cx}
end
section
variable {P : Program} {w : World} {K : PySem.W.Frag} {mg : Str → Option Value} {base : Heap}
/-- a method that answers NotImplemented -/
structure MtNi (P : Program) (w : World) (K : PySem.W.Frag) (mg : Str → Option Value) (base : Heap) (k : Nat) (C : Addr) (m : Str) (ps : List Str) (sn : List V → Hp → Prop) : Prop where
  ex : ∃ (f : Addr) (fd : FuncData), FnNi P w K mg base k f fd ps sn ∧ Meth K C m f ∧ Binds K fd ps []
end
/-- both classes stand in the order that the reflected operator wants -/
structure OpR2 (K : PySem.W.Frag) (C D : Addr) (op : Operator) : Prop where
  ne : C ≠ D
  sf : PySem.W.selfFirst K C = true
  sg : PySem.W.selfFirst K D = true
  sub : PySem.W.subIn K (.ref D) (.ref C) = some false
  r : PySem.W.findIn K (.ref C) (dunderR op.info.2) = some none
  no : PySem.W.findIn K (.ref D) (PySem.dunder op.info.2) = some none
section
variable {X : Cx} {k j : Nat} {C D : Addr} {ps ps' : List Str} {sn : List V → Hp → Prop} {sp : Sp} {op : Operator}
end
end Kb
/-! ### the slots made plain -/
namespace Kb
open PySem PySem.Spec PyProof.Rows L2 ClX
theorem nrm_of {T : L2.St → Prop} {σ σ' : L2.St} (e : σ = σ') (h : T σ') : ∀ σ'', σ = σ'' → T σ'' := fun _ e' => e' ▸ e ▸ h
end Kb

/-! ### own `in`, own truth, displays of dicts with a tuple as key -/
namespace Kb
open PySem PySem.Spec PyProof.Rows L2 ClX
section
variable {X : Cx} {k : Nat} {m : Str} {C : Addr} {ps : List Str} {sp : Sp} {e : Expr} {te : TE} {pos : Pos}
/-! ### {k: v} with a tuple as key -/
end
/-! ### for i, x in enumerate(xs) -/
/-! ### x in a tuple of data, a walk over a list or a tuple -/
section
variable {X : Cx}
def iSeq (K : PySem.W.Frag) (tl : TE) : TI := fun σ H R => tl σ H fun x H1 => ∃ a, x = .ref a ∧ (((∃ xs, SqL K H1 a xs) ∧ R (Itl K a) H1) ∨ ((∃ xs, SqT K H1 a xs) ∧ R (Itt K a) H1))
theorem pi_seq {tg l : Expr} {tl : TE} (hl : PE X l tl) : PI X tg l (iSeq X.K tl) := by
  refine ⟨fun pins s σ H R I h => ?_⟩
  refine thn (hl.run pins s σ H _ I h) fun v s1 ⟨x, H1, I1, r1, q1⟩ => ?_
  obtain ⟨a, e, q⟩ := q1
  subst e
  cases r1
  rcases q with ⟨⟨xs, hq⟩, q⟩ | ⟨⟨xs, hq⟩, q⟩
  · obtain ⟨its, rv, p, hz⟩ := I1.list hq
    refine wpAny_pyIter_list p.isList ?_
    refine ⟨s1.heap.objs.size, [s1.heap.objs.size], _, _, H1, rfl, I1.kept (t' := s1.toks) fun b o e => Heap.get?_push_of_some _ e, turn_list a _, ⟨_, Heap.get?_push_size _ rfl, rfl, rfl⟩, fun b hb => ?_, q⟩
    have e : b = s1.heap.objs.size := by simpa using hb
    subst e
    exact I1.fpOk (Nat.le_refl _) (I1.hok.fresh (Nat.le_refl _))
  · obtain ⟨its, rv, p, hz⟩ := I1.tuple hq
    refine wpAny_pyIter_tuple (show s1.heap.IsTuple a its.toArray from p) ?_
    refine ⟨s1.heap.objs.size, [s1.heap.objs.size], _, _, H1, rfl, I1.kept (t' := s1.toks) fun b o e => Heap.get?_push_of_some _ e, turn_tuple a _, ⟨_, Heap.get?_push_size _ rfl, rfl, rfl⟩, fun b hb => ?_, q⟩
    have e : b = s1.heap.objs.size := by simpa using hb
    subst e
    exact I1.fpOk (Nat.le_refl _) (I1.hok.fresh (Nat.le_refl _))
end
theorem lcR_tup {K : PySem.W.Frag} {a : Addr} {xs : List V} {g : TG} {te : TE} {vs : List Nat} {σ : L2.St} {H1 : Hp} {D : Addr} {Qd : Hp → Prop} (M : Nat → Hp → Prop) (h0 : M 0 (upd H1 D (.lst []))) (hl : ∀ i H, i ≤ xs.length → M i H → SqT K H a xs)
    (hs : ∀ i x H, xs[i]? = some x → M i H → g x (wipe σ vs) H fun σ2 H2 => wipe σ2 vs = wipe σ vs ∧ te σ2 H2 fun y H4 => ∃ acc, H4 D = some (.lst acc) ∧ acc.length < sizeLine ∧ M (i + 1) (upd H4 D (.lst (acc ++ [y]))))
    (hm : ∀ x σ H Q Q', (∀ σ2 H2, Q σ2 H2 → Q' σ2 H2) → g x σ H Q → g x σ H Q') (hd : ∀ H, M xs.length H → Qd H) : LcR (Itt K a) g tYes te vs σ H1 D Qd :=
  lc_tup M h0 hl (fun i x H hi m => hm _ _ _ _ _ (fun σ2 H2 z => ⟨z.1, ifT (B := M (i + 1) H2) rfl z.2⟩) (hs i x H hi m)) hd
theorem hu65 {A : Around} {k : Nat} (hr : Room k A) : A.units + 65 < cLine := by have := hr.un; omega
end Kb

/-! ### enumerate of a text, of a tuple -/
namespace Kb
open PySem PySem.Spec PyProof.Rows L2 ClX
/-- one new cell ahead of the enumerate -/
theorem meets_enumerate_new1 {v : Value} {o : Obj} {H : Heap → Prop} (B : Begins v o H) :
    Meets (Builtin.«enumerate.__new__» ⟨[.type "enumerate", v], []⟩) (fun _ R s => H s.heap ∧
      R (.ok (.ret (.ref (s.heap.push o).objs.size))) { s with heap := (s.heap.push o).push { cls := .type "enumerate", data := .fields #[.none, .bool false, .ref s.heap.objs.size, rawInt 0, .none, .none] } }) :=
  .of_wp fun prog w A R s h => by
    obtain ⟨hp, g, d, tk, os⟩ := s; obtain ⟨h1, h⟩ := h
    have hsub := sub_enumerate
    have q1 : ∀ {A' : Around} {E : Value → Shared → Prop} {Q : Value → Shared → Prop}, Q (.ref hp.objs.size) ⟨hp.push o, g, d, tk, os⟩ → wpAny (model prog w) A' (pyIter v) Q E ⟨hp, g, d, tk, os⟩ :=
      fun q => B.iter prog w _ _ ⟨hp, g, d, tk, os⟩ _ h1 q
    wp_walk using q1
    refine wpAny_stack_any fun st => wpAny_pure ?_
    split
    · rename_i c _ _ _ _ _
      cases (c == Value.type "enumerate")
      · wp_walk using q1
        exact ⟨_, rfl, h⟩
      · wp_walk using q1
        exact ⟨_, rfl, h⟩
    · wp_walk using q1
      exact ⟨_, rfl, h⟩
section
variable {prog : Program} {w : World} {A : Around} {E : Value → Shared → Prop} {s : Shared}
theorem enum_begins1 {v : Value} {o : Obj} {H : Heap → Prop} {Q : Value → Shared → Prop} (B : Begins v o H) (h1 : H s.heap)
    (h : ∀ h', IsEnum h' (s.heap.objs.size + 1) s.heap.objs.size 0 .none → h'.get? s.heap.objs.size = some o → h'.objs.size = s.heap.objs.size + 2 →
      (∀ b o, s.heap.get? b = some o → h'.get? b = some o) → Q (.ref (s.heap.objs.size + 1)) { s with heap := h' }) :
    wpAny (model prog w) A (call (.type "enumerate") [v]) Q E s := by
  refine callType_new PySem.F.called_enumerate (by decide) (PySem.F.typeCall_enumerate_1 _) (PySem.F.newCall_enumerate_1 _) (fun obj => PySem.F.args_object_init_2 obj _) PySem.F.entry_enumerate_new
    (meets_enumerate_new1 B) ⟨h1, ?_⟩
  have hz : (s.heap.push o).objs.size = s.heap.objs.size + 1 := Heap.size_push ..
  show _ ∧ _
  rw [hz]
  have he : IsEnum ((s.heap.push o).push { cls := .type "enumerate", data := .fields #[.none, .bool false, .ref s.heap.objs.size, rawInt 0, .none, .none] }) (s.heap.objs.size + 1) s.heap.objs.size 0 .none := by
    have := Heap.get?_push_size (s.heap.push o) (o := { cls := .type "enumerate", data := .fields #[.none, .bool false, .ref s.heap.objs.size, rawInt 0, .none, .none] }) rfl
    rw [hz] at this; exact this
  refine ⟨⟨_, he, rfl⟩, h _ he (Heap.get?_push_of_some _ (Heap.get?_push_size _ B.free)) (by rw [Heap.size_push, hz]) fun b o x => Heap.get?_push_of_some _ (Heap.get?_push_of_some _ x)⟩
end
/-- what stands behind an enumerate: n items, each a new pair -/
def ItE (n : Hp → Nat → Prop) (val : Hp → Nat → V → Prop) : It :=
  ⟨fun i H => ∃ m, n H m ∧ i < m, fun i H v H' => ∃ T x, v = .ref T ∧ H T = none ∧ H' = upd H T (.tup [.int (i : Nat), x]) ∧ val H i x, fun i H => n H i⟩
/-- the items of the iterator within, as the reading has them -/
structure EnD (P : Program) (w : World) (K : PySem.W.Frag) (it : Addr) (n : Hp → Nat → Prop) (val : Hp → Nat → V → Prop) (St : Nat → Heap → Prop) : Prop where
  run : ∀ (X : Cx), X.prog = P → X.w = w → X.K = K → X.calm = true → ∀ (pins : List (Addr × Obj)) (s : Shared) (σ : L2.St) (H : Hp) (m : Nat), Inv X pins σ H s → n H m →
    ∃ (fp : List Addr) (P' : Nat → Value → Prop) (St' : Nat → Heap → Prop), Draws P w X.A.in1 it fp m P' St' ∧ (∀ i, St i s.heap → St' i s.heap) ∧ (∀ i h, St' i h → St i h) ∧ (∀ i u, P' i u → ∃ x, RelV x u ∧ val H i x) ∧ ∀ e, (∃ b old i, IsEnum s.heap e b i old) → e ≠ it → e ∉ fp
theorem turn_enumE {P : Program} {w : World} {K : PySem.W.Frag} {elts : List Expr} {kk : Nat} {tpos : Pos} {n : Hp → Nat → Prop} {val : Hp → Nat → V → Prop} {St : Nat → Heap → Prop} (e it : Addr) (D : EnD P w K it n val St)
    (live : ∀ i h, St i h → ∃ o, h.get? it = some o ∧ ∀ v, o.data ≠ .cell v) (fr1 : ∀ i h h', St i h → (∀ o, h.get? it = some o → h'.get? it = some o) → St i h') :
    Turn P w K (.Tuple elts kk tpos) (ItE n val) [e, it] e (fun i h => (∃ old, IsEnum h e it ((i : Nat) : Int) old) ∧ St i h ∧ e ≠ it) where
  mem := by simp
  obj := fun i h st b hb => by
    obtain ⟨⟨old, he⟩, hs, _⟩ := st
    have e' : b = e ∨ b = it := by simpa using hb
    rcases e' with z | z
    · rw [z]; exact ⟨_, he, fun v q => nomatch q⟩
    · rw [z]; exact live i h hs
  keep := fun i h h' st k => let ⟨⟨old, he⟩, hi, hne⟩ := st; ⟨⟨old, k e (by simp) _ he⟩, fr1 i h h' hi fun o q => k it (by simp) o q, hne⟩
  item := by
    intro X hP hw hK hc i pins s σ H E I hf st hg
    obtain ⟨⟨old, he⟩, hst, hne⟩ := st
    obtain ⟨m, hm, him⟩ := hg
    obtain ⟨fp, P', St', DD, h1, h2, h3, h4⟩ := D.run X hP hw hK hc pins s σ H m I hm
    subst hP hw hK
    have hel : e < s.heap.objs.size := Heap.lt_size he
    have hil : it < s.heap.objs.size := by obtain ⟨_, q, _⟩ := live i _ hst; exact Heap.lt_size q
    refine wpAny_pyNext_enum_itemD DD he (h1 i hst) him hne (h4 e ⟨_, _, _, he⟩ hne) fun u h' tk hPu ho hit' hT hsz hk => ?_
    obtain ⟨x, ru, hv⟩ := h3 i u hPu
    refine ⟨_, rfl, wpAny_letOwnedTupleGo_enum (s := { s with heap := h', toks := tk + 1 }) ho fun h'' he' sb => ?_⟩
    have hT2 : h''.get? s.heap.objs.size = some { cls := .type "tuple", data := .seq #[.int i tk, u] } := (sb.2 _ (Nat.ne_of_gt hel)).trans hT
    have new : ObjOk X.prog X.w (upd H s.heap.objs.size (.tup [.int (i : Nat), x])) h'' s.heap.objs.size (.tup [.int (i : Nat), x]) :=
      ⟨by show 2 ≤ sizeLine; decide, [.int i tk, u], .cons ⟨_, rfl⟩ (.cons ru .nil), ⟨_, hT2, rfl, _, rfl⟩⟩
    have I1 : Inv X pins σ (upd H s.heap.objs.size (.tup [.int (i : Nat), x])) { s with heap := h'', toks := tk + 1 } :=
      I.turnedNew (ch := [e, it]) (fun b ob hb q => (sb.2 b (fun z => hb (by simp [z]))).trans (hk b ob (fun z => hb (by simp [z])) (fun z => hb (by simp [z])) q)) hf (Nat.le_refl _) new
    refine ⟨.ref s.heap.objs.size, _, I1, rfl, ⟨_, x, rfl, I.hok.fresh (Nat.le_refl _), rfl, hv⟩, ⟨⟨u, ?_⟩, fr1 _ _ _ (h2 _ _ hit') (fun o q => (sb.2 it (Ne.symm hne)).trans q), hne⟩, fun b hb => ?_⟩
    · have e1 : ((i + 1 : Nat) : Int) = (i : Int) + 1 := by omega
      rw [e1]; exact he'
    · have hb' : b < s.heap.objs.size := by
        have e' : b = e ∨ b = it := by simpa using hb
        rcases e' with z | z
        · rw [z]; exact hel
        · rw [z]; exact hil
      rw [upd_ne (Nat.ne_of_lt hb')]
      exact (hf b hb).1
  done := by
    intro X hP hw hK hc i pins s σ H E I hf st hg
    obtain ⟨⟨old, he⟩, hst, hne⟩ := st
    obtain ⟨fp, P', St', DD, h1, h2, h3, h4⟩ := D.run X hP hw hK hc pins s σ H i I hg
    subst hP hw hK
    obtain ⟨f0, f1, f2, f3, f4, f5⟩ := hf it (by simp)
    exact wpAny_pyNext_enum_endD DD he (h1 i hst) fun h' eb => ⟨rfl, I.turned (t' := s.toks) (fun b o hb q => eb b o hb q) f0 f1 f3 f4 f5⟩
  self := fun A i s Q E st h => let ⟨⟨_, he⟩, _⟩ := st; wpAny_pyIter_enum he h
/-! texts -/
/-! tuples -/
def nT (K : PySem.W.Frag) (a : Addr) (xs : List V) : Hp → Nat → Prop := fun H m => SqT K H a xs ∧ m = xs.length
def vT (xs : List V) : Hp → Nat → V → Prop := fun _ i x => xs[i]? = some x
theorem enD_tup {P : Program} {w : World} {K : PySem.W.Frag} (it a : Addr) (xs : List V) : EnD P w K it (nT K a xs) (vT xs) (fun i h => h.IsTupleIter it a i ∧ a ≠ it) where
  run := by
    intro X hP hw hK hc pins s σ H m I hm
    subst hP hw hK
    obtain ⟨hq, rfl⟩ := hm
    obtain ⟨its, rv, p, hz⟩ := I.tuple hq
    by_cases hne : a = it
    · subst hne
      refine ⟨[a], fun _ _ => False, fun _ _ => False, ⟨fun _ _ h => h.elim, fun _ _ _ h => h.elim, fun _ _ _ _ _ h => h.elim, fun _ _ _ h => h.elim⟩, fun i h => absurd rfl h.2, fun i h q => q.elim, fun i u q => q.elim, fun e _ hne h => hne (List.mem_singleton.mp h)⟩
    · have hl : xs.length = its.toArray.size := by rw [List.size_toArray]; exact rv.length
      refine ⟨[it, a], _, _, hl ▸ Draws.tuple (show X.A.in1.handled = none from I.ok.hd hc) it a hne its.toArray, fun i h => ⟨h.1, p⟩, fun i h q => ⟨q.1, hne⟩, fun i u q => ?_, fun e he hne' h => ?_⟩
      · rw [List.getElem?_toArray] at q
        obtain ⟨x, hx⟩ : ∃ x, xs[i]? = some x := by
          have := (List.getElem?_eq_some_iff.mp q).1
          exact ⟨_, List.getElem?_eq_getElem (show i < xs.length by rw [rv.length]; exact this)⟩
        obtain ⟨u', hu, ru⟩ := rv.get hx
        rw [hu] at q
        cases q
        exact ⟨x, ru, hx⟩
      · rcases List.mem_cons.mp h with z | z
        · exact hne' z
        · have z := List.mem_singleton.mp z
          subst z
          obtain ⟨b, old, i, he⟩ := he
          obtain ⟨o, ho, hc', _⟩ := p
          rw [show s.heap.get? e = _ from he] at ho
          cases ho
          injection hc' with z
          exact absurd z (by decide)
def iEnT (K : PySem.W.Frag) (ta : TA) : TI := fun σ H R => ta σ H fun vs H1 => ∃ a xs, vs = [.ref a] ∧ SqT K H1 a xs ∧ R (ItE (nT K a xs) (vT xs)) H1
theorem pi_enumT {X : Cx} {e : Expr} {ta : TA} {p pos tpos : Pos} {elts : List Expr} {kk : Nat} (hg : Gl X "enumerate") (hm : X.mg "enumerate" = none) (ha : PA X [e] ta) (hs : starEach [e] X.env = [(false, eval e X.env)] := by rfl) :
    PI X (.Tuple elts kk tpos) (.Call (.Name "enumerate" p) [e] [] pos) (iEnT X.K ta) := by
  refine ⟨fun pins s σ H R I h => ?_⟩
  refine Call_ (ld_blt I hg hm boot_enumerate (PyProof.Rows.callWith_type1 (thn (ha.run pos pins s σ H _ I h) fun us s1 ⟨vs, H1, I1, r1, q1⟩ => ?_) hs rfl))
  obtain ⟨a, xs, ex, hq, q⟩ := q1
  subst ex
  cases r1 with
  | cons r rr =>
    cases rr
    cases r
    obtain ⟨its, rv, p', hz⟩ := I1.tuple hq
    have hlt : a < s1.heap.objs.size := by obtain ⟨o, ho, _⟩ := p'; exact Heap.lt_size ho
    refine enum_begins1 (begins_tuple a its.toArray) (show s1.heap.IsTuple a its.toArray from p') fun h' he hit hsz hk => wpAny_pyIter_enum he ?_
    have I2 : Inv X pins σ H1 { s1 with heap := h' } := I1.kept (t' := s1.toks) hk
    refine ⟨s1.heap.objs.size + 1, [s1.heap.objs.size + 1, s1.heap.objs.size], _, _, H1, rfl, I2, turn_enumE (s1.heap.objs.size + 1) s1.heap.objs.size (enD_tup _ a xs) (fun i h st => ?_) (fun i h h' st k => ?_), ⟨⟨.none, he⟩, ⟨⟨_, hit, rfl, rfl⟩, Nat.ne_of_lt hlt⟩, Nat.succ_ne_self _⟩, fun b hb => ?_, q⟩
    · obtain ⟨⟨o, ho, hc, hd⟩, _⟩ := st
      exact ⟨o, ho, fun v q => by rw [hd] at q; cases q⟩
    · obtain ⟨⟨o, ho, hc, hd⟩, hne⟩ := st
      exact ⟨⟨o, k o ho, hc, hd⟩, hne⟩
    · have e' : b = s1.heap.objs.size + 1 ∨ b = s1.heap.objs.size := by simpa using hb
      have hle : s1.heap.objs.size ≤ b := by
        rcases e' with z | z
        · rw [z]; exact Nat.le_add_right _ _
        · rw [z]; exact Nat.le_refl _
      exact I1.fpOk hle (I1.hok.fresh hle)
end Kb

/-! ### a list of truths: count; a comprehension over an enumerate -/
namespace Kb
open PySem PySem.Spec PyProof.Rows L2 ClX
section
variable {X : Cx}
end
end Kb

/-! ### is True, is not True -/
namespace Kb
open PySem PySem.Spec PyProof.Rows L2 ClX
section
variable {X : Cx}
end
end Kb

/-! ### ~x of an own instance; a promise that nothing meets -/
namespace Kb
open PySem PySem.Spec PyProof.Rows L2 ClX
section
variable {X : Cx} {k : Nat} {C : Addr} {ps : List Str} {sp : Sp}
end
theorem fn_false {P : Program} {w : World} {K : PySem.W.Frag} {mg : Str → Option Value} {base : Heap} {CX : CXT} {k : Nat} {f : Addr} {fd : FuncData} {ps : List Str} : FnOk P w K mg base CX k f fd ps (fun _ _ _ _ => False) :=
  ⟨fun _ _ _ _ h => h.elim, fun _ _ _ _ _ _ _ _ _ _ _ _ _ h => h.elim⟩
end Kb

/-! ### rules that name the written part, for blocks of comprehensions -/
namespace Kb
open PySem PySem.Spec PyProof.Rows L2 ClX
section
variable {X : Cx} {K : PySem.W.Frag}
end
end Kb

/-! ### a builtin value on the left, an own object on the right whose class has the reflected operator -/
namespace PySem.W
open PySem PySem.Calls PyProof.Rows
section
variable {prog : Program} {w : World} {M : Model} {A : Around} {E : Value → Shared → Prop} {s : Shared} {K : Frag} {y D L g : Addr} {h₀ : Heap} {m : Str → Option Value} {oy : Obj} {od : Option Obj} {nm T : String}
end
end PySem.W

/-! ### the head by one run of the top: the facts are looked at in the run -/
namespace Kb
open PySem PySem.Spec PyProof.Rows L2 ClX
/-- a def: where it stands, its name, qualified name, parameters, body, scope -/
structure FZ where
  at_ : PySem.W.Frag → Addr
  name : Str
  qual : Str
  st : Stmt
def FZ.val (d : FZ) : He.FnV := some (d.name, d.qual, defArgs d.st, .stmts (defBody d.st), defScope d.st, mainGlobals, [], .none, builtinsNs)
def fzObs (K : PySem.W.Frag) (a : Addr) : He.FnV := match K.lookup a with
  | some ⟨_, _, .func fd, _⟩ => some (fd.name, fd.qualname, fd.params, fd.body, fd.scope, fd.globals, fd.closure, fd.defaults, fd.builtins)
  | _ => none
def fzCode (K : PySem.W.Frag) (a : Addr) (q : Str) : Bool := match K.lookup a with
  | some ⟨_, _, .func fd, _⟩ => PySem.W.codeIn K fd.code q
  | _ => false
abbrev AlZ : Type := Bool × List He.FnV
def obsZ (fs : List (PySem.W.Frag → Bool)) (fn : List FZ) (K : PySem.W.Frag) : AlZ := ((fs.all fun f => f K) && fn.all fun d => fzCode K (d.at_ K) d.qual, fn.map fun d => fzObs K (d.at_ K))
def valZ (fn : List FZ) : AlZ := (true, fn.map FZ.val)
def SaysZ (fs : List (PySem.W.Frag → Bool)) (fn : List FZ) (K : PySem.W.Frag) : Prop := obsZ fs fn K = valZ fn
section
variable {fs : List (PySem.W.Frag → Bool)} {fn : List FZ} {K : PySem.W.Frag}
theorem SaysZ.parts (z : SaysZ fs fn K) : (∀ f ∈ fs, f K = true) ∧ (∀ d ∈ fn, fzCode K (d.at_ K) d.qual = true) ∧ ∀ d ∈ fn, fzObs K (d.at_ K) = d.val := by
  obtain ⟨zb, zl⟩ := Prod.mk.inj (show ((fs.all fun f => f K) && fn.all fun d => fzCode K (d.at_ K) d.qual, fn.map fun d => fzObs K (d.at_ K)) = (true, fn.map FZ.val) from z)
  rw [Bool.and_eq_true, List.all_eq_true, List.all_eq_true] at zb
  exact ⟨zb.1, zb.2, fun d hd => List.map_inj_left.mp zl d hd⟩
theorem SaysZ.fact (z : SaysZ fs fn K) (i : Nat) {f : PySem.W.Frag → Bool} (h : fs[i]? = some f) : f K = true := z.parts.1 f (List.mem_iff_getElem?.mpr ⟨i, h⟩)
end
/-! addresses and facts by names -/
section
variable {K : PySem.W.Frag}
def gloB (K : PySem.W.Frag) (x : Str) : Bool := match PySem.W.nsIn K mainGlobals x with
  | some (some (.ref _)) => true
  | _ => false
theorem gloB_ok {x : Str} (h : gloB K x = true) : PySem.W.nsIn K mainGlobals x = some (some (.ref (He.ga K x))) := by
  unfold gloB at h
  unfold He.ga
  split at h
  · rename_i a e; rw [e]
  · cases h
def freeB (K : PySem.W.Frag) (x : Str) : Bool := match PySem.W.nsIn K mainGlobals x with
  | some none => true
  | _ => false
theorem freeB_ok {x : Str} (h : freeB K x = true) : PySem.W.nsIn K mainGlobals x = some none := by
  unfold freeB at h
  split at h
  · assumption
  · cases h
def clsB (K : PySem.W.Frag) (C : Addr) (m : Str) (v : Value) : Bool := match PySem.W.findCls K (.ref C) (.type "type") m with
  | some (.val u) => decide (u = v)
  | _ => false
theorem clsB_ok {C : Addr} {m : Str} {v : Value} (h : clsB K C m v = true) : PySem.W.findCls K (.ref C) (.type "type") m = some (.val v) := by
  unfold clsB at h
  split at h
  · rename_i u e; rw [e, of_decide_eq_true h]
  · cases h
/-- a constant tuple: its items -/
def tupIt (K : PySem.W.Frag) (a : Addr) : List Value := match K.lookup a with
  | some ⟨.type _, _, .seq its _, _⟩ => its.toList
  | _ => []
def tupRef (K : PySem.W.Frag) (a : Addr) (i : Nat) : Addr := match (tupIt K a)[i]? with
  | some (.ref b) => b
  | _ => 0
def tupB (K : PySem.W.Frag) (a : Addr) (p : List Value → Bool) : Bool := match K.lookup a with
  | some ⟨.type t, _, .seq its _, _⟩ => decide (t = "tuple") && p its.toList
  | _ => false
theorem tupB_ok {a : Addr} {p : List Value → Bool} (h : tupB K a p = true) : ∃ o n s, K.lookup a = some ⟨.type "tuple", o, .seq (tupIt K a).toArray n, s⟩ ∧ p (tupIt K a) = true := by
  unfold tupB at h
  unfold tupIt
  split at h
  · rename_i t o its n s e
    obtain ⟨h1, h2⟩ := He.ba h
    have h1 := of_decide_eq_true h1
    subst h1
    refine ⟨o, n, s, ?_, ?_⟩
    · rw [e]
    · exact h2
  · cases h
def isRef1 : List Value → Bool
  | [.ref _] => true
  | _ => false
/-- an error's class -/
def errB (K : PySem.W.Frag) (C U : Addr) : Bool := match K.lookup C with
  | some ⟨.type t, _, .cls cd, sl⟩ => decide (t = "type") && (decide (cd.mro = [.ref C, .ref U, .type "ValueError", .type "Exception", .type "BaseException", .type "object"]) && (cd.hasDict && (!cd.hasDel && (match sl.toList with
    | [_, _, _, _, some (.builtin n), _] => decide (n = "ValueError.__new__")
    | _ => false))))
  | _ => false
theorem errB_ok {C U : Addr} (h : errB K C U = true) : ∃ nm q N bs sn sub ab col dd m0 m1 m2 m3 m5, K.lookup C = some (excClassObj nm q C N bs [.ref U, .type "ValueError", .type "Exception", .type "BaseException", .type "object"] true sn sub ab col dd m0 m1 m2 m3 m5 "ValueError.__new__") := by
  unfold errB at h
  split at h
  · rename_i t dd cd sl e
    obtain ⟨hA, hB⟩ := He.ba h
    obtain ⟨hC, hD⟩ := He.ba hB
    obtain ⟨hE, hF⟩ := He.ba hD
    obtain ⟨hG, hI⟩ := He.ba hF
    clear h hB hD hF
    have hA := of_decide_eq_true hA
    have hC := of_decide_eq_true hC
    split at hI
    · rename_i k0 k1 k2 k3 n k5 es
      have hJ := of_decide_eq_true hI
      have esl : sl = #[k0, k1, k2, k3, some (.builtin n), k5] := by cases sl; exact congrArg Array.mk es
      obtain ⟨nm, bs, mro, N, q, hd, sn, sub, ab, col, del⟩ := cd
      have hH : (!del) = true := hG
      have hL : del = false := by cases del <;> first | rfl | cases hH
      clear hG hH
      have hE : hd = true := hE
      have hC : mro = _ := hC
      subst hA hJ hC hE hL esl
      exact ⟨nm, q, N, bs, sn, sub, ab, col, dd, k0, k1, k2, k3, k5, e⟩
    · cases hI
  · cases h
end
end Kb

/-! ### a method called, a builtin value + an own object, where the def may raise; a value or another by a test -/
namespace PySem.W
open PySem PySem.Calls PyProof.Rows
section
variable {prog : Program} {w : World} {M : Model} {A : Around} {E : Value → Shared → Prop} {s : Shared} {K : Frag} {y D L g : Addr} {h₀ : Heap} {m : Str → Option Value} {oy : Obj} {od : Option Obj} {nm T : String}
end
end PySem.W
namespace Kb
open PySem PySem.Spec PyProof.Rows L2 ClX
/-- what the class at D must have for a builtin value + its instance -/
structure RaC (K : PySem.W.Frag) (D : Addr) : Prop where
  sf : PySem.W.selfFirst K D = true
  no : PySem.W.findIn K (.ref D) "__add__" = some none
  s1 : PySem.W.findIn K (.type "str") "__add__" = some (some (.builtin "str.__add__"))
  s2 : PySem.W.findIn K (.type "str") "__radd__" = some none
  l1 : PySem.W.findIn K (.type "list") "__add__" = some (some (.builtin "list.__add__"))
  l2 : PySem.W.findIn K (.type "list") "__radd__" = some none
  t1 : PySem.W.findIn K (.type "tuple") "__add__" = some (some (.builtin "tuple.__add__"))
  t2 : PySem.W.findIn K (.type "tuple") "__radd__" = some none
  n1 : PySem.W.findIn K (.type "NoneType") "__add__" = some none
  n2 : PySem.W.findIn K (.type "NoneType") "__radd__" = some none
  si : PySem.W.subIn K (.ref D) (.type "int") = some false
/-- a value that may stand on the left -/
inductive Lf (H : Hp) : V → Prop
  | non : Lf H .non
  | int (i : Int) : Lf H (.int i)
  | str (z : Str) : Lf H (.str z)
  | tup {p : Addr} {xs : List V} (h : H p = some (.tup xs)) : Lf H (.ref p)
  | lst {p : Addr} {xs : List V} (h : H p = some (.lst xs)) : Lf H (.ref p)
section
variable {X : Cx} {CX : CXT} {k : Nat} {C : Addr} {m : Str} {ps : List Str} {sp : Sp} {E : L2.St → XK} {W : WX} {a b o e : Expr} {es : List Expr} {ta tb te : TE} {t : TA} {pos apos : Pos}
/-- x.m(..) -/
def tMethX (C : Addr) (m : Str) (sp : Sp) (E : L2.St → XK) (te : TE) (t : TA) : TE := fun σ H Q => te σ H fun x H1 => ∃ (p dx : Addr) (fs : List (Str × V)), x = .ref p ∧ H1 p = some (.ins C dx fs) ∧ fs.lookup m = none ∧ t σ H1 fun vs H2 => sp (.ref p :: vs) H2 Q (E σ)
theorem pe_methX {pl : Sem Bool} (F : MtC X.prog X.w X.K X.mg X.base CX k C m ps sp) (c : Cls X.K C) (hr : Room k X.A) (hx : ∀ σ, PassesAt CX X σ (E σ)) (he : PE X o te) (ha : PA X (e :: es) t)
    (hst : starEach (e :: es) X.env = (false, eval e X.env) :: starEach es X.env := by rfl) (hpl : (backTo pos (starEach es X.env)).any (·.1) = false := by rfl)
    (ht : eval (.Call (.Attribute o m apos) (e :: es) [] pos) X.env = (do
      let ov ← eval o X.env
      standAt apos.atName
      let (f, first) ← holding [ov] (getMethod ov m pl)
      callWith pos f first (backTo pos (starEach (e :: es) X.env)) (backToKw pos (keywordEach [] X.env))) := by rfl) :
    PE X (.Call (.Attribute o m apos) (e :: es) [] pos) (tMethX C m sp E te t) := by
  obtain ⟨f, fd, hf, M, hb⟩ := F.ex
  refine ⟨fun pins s σ H Q I h => ?_⟩
  refine PySem.W.methodCall_KW (pl := pl) (thn (he.run pins s σ H _ I h) fun u s1 ⟨x, H1, I1, rx, p, dx, fs, ex, ea, l, q⟩ => ?_) ht
  subst ex
  obtain rfl : u = Value.ref p := rx
  refine getmeth_ok I1 ea c M l ?_
  refine PySem.W.callWith_K (first := [.ref p]) (h₀ := X.base) I.ok.mod.kin M.kp (thn (ha.run pos pins s1 σ H1 _ I1 q) fun us s2 ⟨vs, H2, I2, r, q2⟩ => ⟨I2.kIn, ?_⟩) hst hpl
  exact run_fnSD (us := .ref p :: us) (vs := .ref p :: vs) (dvs := []) (ds := []) hf hr hb .nil (hx σ) I2 (.cons rfl r) (by rw [List.append_nil]; exact q2)
end
end Kb

/-! ### x[i] by the class's own `__getitem__` -/
namespace Kb
open PySem PySem.Spec PyProof.Rows L2 ClX
structure IxC (K : PySem.W.Frag) (C : Addr) : Prop where
  ex : ∃ f : Addr, PySem.W.findIn K (.ref C) "__getitem__" = some (some (.ref f)) ∧ PySem.W.fnIn K f = true
section
variable {X : Cx} {k : Nat} {C : Addr} {ps : List Str} {sp : Sp} {a b : Expr} {ta tb : TE} {pos : Pos}
end
end Kb

/-! ### an own error with one field; isinstance of a caught error that has fields; x[i] by an own `__getitem__` that may raise -/
namespace Kb
open PySem PySem.Spec PyProof.Rows L2 ClX
def sp_err1 (C : Addr) (fl : Str) : Sp := fun vs H Q _ => ∃ (a : Addr) (v : V), vs = [.ref a, v] ∧ H a = some (exo a C none) ∧ ∀ dx, H dx = none → dx ≠ a → Q .non (upd (upd H dx (exd dx [(fl, v)])) a (exo a C (some dx)))
/-- an own error with one field, made by its name -/
structure Er1 (P : Program) (w : World) (K : PySem.W.Frag) (mg : Str → Option Value) (base : Heap) (x : Str) (C : Addr) (par fl : Str) : Prop where
  ex : ∃ (f : Addr) (fd : FuncData), FnOk P w K mg base CX0 2 f fd ["self", par] (sp_err1 C fl) ∧ OexC K C ∧ PySem.W.findIn K (.ref C) "__init__" = some (some (.ref f)) ∧ PySem.W.typeIn K (.ref f) = some (.type "function") ∧ mg x = some (.ref C) ∧ Binds K fd ["self", par] []
theorem Er1.nm {P : Program} {w : World} {K : PySem.W.Frag} {mg : Str → Option Value} {base : Heap} {x : Str} {C : Addr} {par fl : Str} (F : Er1 P w K mg base x C par fl) : mg x = some (.ref C) := let ⟨_, _, _, _, _, _, h, _⟩ := F.ex; h
theorem pmk_err1 {X : Cx} {C : Addr} {x par fl : Str} {e : Expr} {ta : TA} {p pos : Pos} (F : Er1 X.prog X.w X.K X.mg X.base x C par fl) (hr : Room 3 X.A) (hg : Gl X x) (ha : PA X [e] ta) (hdb : (x == ("__debug__" : Str)) = false := by decide)
    (he : starEach [e] X.env = (false, eval e X.env) :: starEach [] X.env := by rfl) (hpl : (backTo pos (starEach [] X.env)).any (·.1) = false := by rfl) : PMk X (.Call (.Name x p) [e] [] pos) (tMkO C (sp_err1 C fl) [] ta) := by
  obtain ⟨f, fd, F1, T, iC, tI, hm, hb⟩ := F.ex
  exact pmk_oex (ds := []) (dvs := []) T iC tI F1 hr hb .nil (fun _ _ _ _ _ _ _ z => (show False from z).elim) hg hm ha hdb he hpl
theorem ps_raise1 {X : Cx} {W : WX} {C : Addr} {x par fl : Str} {e : Expr} {ta : TA} {p pos pos' : Pos} (F : Er1 X.prog X.w X.K X.mg X.base x C par fl) (hr : Room 3 X.A) (hc : X.calm = true) (tk : Takes X W) (hg : Gl X x) (ha : PA X [e] ta) (hdb : (x == ("__debug__" : Str)) = false := by decide)
    (he : starEach [e] X.env = (false, eval e X.env) :: starEach [] X.env := by rfl) (hpl : (backTo pos (starEach [] X.env)).any (·.1) = false := by rfl) :
    PS X (.Raise (some (.Call (.Name x p) [e] [] pos)) none pos') (fun _ σ H => tMkO C (sp_err1 C fl) [] ta σ H fun c d H' => W c d σ H') := ps_raise hc tk (pmk_err1 F hr hg ha hdb he hpl)
theorem mk_err1H {C : Addr} {fl : Str} {v : V} {H : Hp} {Q : XK} (k : ∀ dd, H dd = none → Q (.ref C) (some dd) (upd H dd (.xd [(fl, v)]))) :
    [v].length ≤ 1000 ∧ ∀ a, H a = none → sp_err1 C fl (.ref a :: ([v] ++ [])) (upd H a (exo a C none))
      (fun u H2 => u = .non ∧ ∃ (d : Addr) (fs : List (Str × V)), H2 a = some (exo a C (some d)) ∧ H2 d = some (exd d fs) ∧ H d = none ∧ Q (.ref C) (some d) (upd (del H2 a) d (.xd fs))) (fun _ _ _ => False) := by
  refine ⟨by show 1 ≤ 1000; decide, fun a hn => ⟨a, v, rfl, upd_same, fun dx hx ne => ⟨rfl, dx, [(fl, v)], upd_same, ?_, ?_, ?_⟩⟩⟩
  · rw [upd_ne ne, upd_same]
  · rw [upd_ne ne] at hx; exact hx
  · have hx' : H dx = none := by rw [upd_ne ne] at hx; exact hx
    have e : upd (del (upd (upd (upd H a (exo a C none)) dx (exd dx [(fl, v)])) a (exo a C (some dx))) a) dx (.xd [(fl, v)]) = upd H dx (.xd [(fl, v)]) := by
      funext b
      by_cases c : b = dx
      · rw [c, upd_same, upd_same]
      · rw [upd_ne c, upd_ne c]
        by_cases c2 : b = a
        · rw [c2, del_same, hn]
        · rw [del_ne c2, upd_ne c2, upd_ne c, upd_ne c2]
    rw [e]
    exact k dx hx'
section
variable {X : Cx} {CX : CXT} {k : Nat} {C : Addr} {ps : List Str} {sp : Sp} {E : L2.St → XK} {W : WX} {a b : Expr} {ta tb : TE} {pos : Pos}
end
end Kb

namespace Kb
open PySem PySem.Spec PyProof.Rows L2 ClX

/-! ## super().m(..) in a method of the text -/
/-- a body that is run as the code c -/
structure PAt (X : Cx) (c : Code) (st : List Stmt) (t : TS) : Prop where
  run : ∀ (pins : List (Addr × Obj)) (s : Shared) (σ : L2.St) (H : Hp) (D : Ends), Inv X pins σ H s → t D σ H → _root_.PySem.wpAt (model X.prog X.w) X.A c (execs st X.env) (SP X pins D) X.xe s
theorem PAt.of {X : Cx} {c : Code} {st : List Stmt} {t : TS} (h : PSs X st t) : PAt X c st t := ⟨fun pins s σ H D I q => wpAt_of_wpAny (h.run pins s σ H D I q)⟩
theorem pat_cons {X : Cx} {c : Code} {st : Stmt} {rest : List Stmt} {t u : TS} (a : PS X st t) (b : PAt X c rest u) : PAt X c (st :: rest) (tSeq t u) := by
  refine ⟨fun pins s σ H D I h => ks_wpAt_execs_cons (wpAt_of_wpAny (thn (a.run pins s σ H { D with nx := u D } I h) fun fl s1 z => ?_))⟩
  cases fl with
  | next =>
    obtain ⟨σ1, H1, I1, z⟩ := z
    exact b.run pins s1 σ1 H1 D I1 z
  | ret v => exact z
  | brk => exact z
  | cont => exact z
/-- what of the text a def with super() must have: f the def, D its class -/
structure SupK (P : Program) (K : PySem.W.Frag) (mg : Str → Option Value) (D f cda cc : Addr) : Prop where
  code : ∃ ccl cdd vs ccs file tf, K.lookup cda = some ⟨ccl, cdd, .fields vs, ccs⟩ ∧ vs[2]? = some (.str file tf) ∧ ((P.main.file : Str) == file) = true
  cell : ∃ cl cld csl, K.lookup cc = some ⟨cl, cld, .cell (some (.ref D)), csl⟩
  top : (P.main.scope.names.lookup ("super" : Str)).isSome = false
  mg : mg "super" = none
  st : PySem.W.nsIn K PySem.cStatics "thirdparty.any" = some none
  cls : ∃ cd, PySem.W.clsIn K D = some cd
  sub : PySem.W.mroIn K D (.ref D) = some true
/-- .. the def that super().m is -/
structure SupM (K : PySem.W.Frag) (D : Addr) (m : Str) (f2 : Addr) : Prop where
  at_ : PySem.W.ks_superIn K D D m = some (some (.ref f2))
  ty : PySem.W.typeIn K (.ref f2) = some (.type "function")
  fi : PySem.W.fnIn K f2 = true
def tSup (C : Addr) (sp : Sp) (dvs : List V) (E : XK) (t : TA) (u : TS) : TS := fun D σ H => ∃ (x dx : Addr) (fs : List (Str × V)), σ[0]? = some (some (.ref x)) ∧ H x = some (.ins C dx fs) ∧ t σ H fun vs H1 => sp (.ref x :: (vs ++ dvs)) H1 (fun _ H2 => u D σ H2) E
section
variable {X : Cx}
theorem pat_super {full : List Stmt} {D f f2 cc cda : Addr} {fd fd2 : FuncData} {oc : Value} {od : Option Addr} {osl : Array (Option Value)} {ar : Arg} {p0 p1 apos pos epos : Pos} {m : Str} {e : Expr} {es : List Expr} {rest : List Stmt} {t : TA} {u : TS} {CX : CXT} {k : Nat} {ps : List Str} {sp : Sp} {ds : List Value} {dvs : List V} {E : XK}
    (S : SupK X.prog X.K X.mg D f cda cc) (M : SupM X.K D m f2) (hfu : X.env.func = some f) (hco : X.env.code = .ref cda) (hcl : X.env.cells.lookup ("__class__" : Str) = some cc) (lf : X.K.lookup f = some ⟨oc, od, .func fd, osl⟩) (hp : (fd.params.posonlyargs ++ fd.params.args).head? = some ar)
    (hks : Gl X "super") (hkc : X.env.kindOf "__class__" = some .free) (hN : X.N[0]? = some ar.arg) (hka : X.env.kindOf ar.arg = some .local) (hat : (m == ("__class__" : Str)) = false)
    (F : FnOk X.prog X.w X.K X.mg X.base CX k f2 fd2 ps sp) (hb : Binds X.K fd2 ps ds) (hd : Vals dvs ds) (hr : Room k X.A) (hx : Passes CX X E) (ha : PA X (e :: es) t) (hrest : PSs X rest u)
    (hst : starEach (e :: es) X.env = (false, eval e X.env) :: starEach es X.env) (hpl : (backTo pos (starEach es X.env)).any (·.1) = false)
    (hi : interactive X.env = false) (hs : swapsWith (.Call (.Attribute (.Call (.Name "super" p0) [] [] p1) m apos) (e :: es) [] pos) none epos.line X.env = pure false)
    {pl : Sem Bool} (he : eval (.Call (.Attribute (.Call (.Name "super" p0) [] [] p1) m apos) (e :: es) [] pos) X.env = (do
      let ov ← attributeBase (.Call (.Name "super" p0) [] [] p1) m X.env (eval (.Call (.Name "super" p0) [] [] p1) X.env)
      standAt apos.atName
      let (f, first) ← holding [ov] (getMethod ov m pl)
      callWith pos f first (backTo pos (starEach (e :: es) X.env)) [])) :
    PAt X (.func full X.env) (.Expr (.Call (.Attribute (.Call (.Name "super" p0) [] [] p1) m apos) (e :: es) [] pos) epos :: rest) (tSup D sp dvs E t u) := by
  refine ⟨fun pins s σ H D' I h => ?_⟩
  obtain ⟨x, dx, fs, hσ, hxx, h⟩ := h
  obtain ⟨ccl, cdd, vs, ccs, file, tf, hcode, hvs, hfile⟩ := S.code
  obtain ⟨cl, cld, csl, hcell⟩ := S.cell
  obtain ⟨cdD, hD⟩ := S.cls
  have KX := I.kIn
  obtain ⟨oD, hD1, hD2⟩ : ∃ oD, s.heap.get? D = some oD ∧ oD.data = .cls cdD := by
    unfold PySem.W.clsIn at hD
    split at hD
    · rename_i c d cd' sl ho
      cases hD
      exact ⟨_, KX _ _ ho, rfl⟩
    · cases hD
  obtain ⟨mA, O, _⟩ := ins_get I.hok hxx
  obtain ⟨ox, odx, hox⟩ : ∃ ox odx, PySem.W.InstAt s.heap x ox D odx := by
    obtain ⟨od', J, _⟩ := O.look
    exact ⟨_, _, J⟩
  refine ks_wpAt_execs_cons (ks_wpAt_Expr_any ?_ hi hs)
  refine ks_wpAt_MethodCall ?_ he
  refine ks_wpAt_super_base hks hkc hat hfu (KX _ _ lf) rfl hp hco (KX _ _ hcode) rfl hvs hfile S.top ?_
  obtain ⟨mb, b1, b2⟩ := I.mod.blt
  refine PySem.W.ks_loadName_global I.ok.kind hks (Calls.loadGlobal_builtin (by rw [I.ok.glob]; exact I.mod.glob.keeps I.bk) S.mg (by rw [I.ok.blt]; exact b1.keeps I.bk) ((b2 "super" (by decide)).trans (by boot_by_name)) ⟨rfl, ?_⟩)
  refine wpAny_loadName_free I.ok.kind hkc hcl ⟨_, KX _ _ hcell, rfl⟩ ?_
  obtain ⟨ml, hn, hl⟩ := I.loc
  obtain ⟨ux, rx, lx⟩ := hl 0 ar.arg (.ref x) hN hσ (.inl hka)
  cases (show ux = Value.ref x from rx)
  have hmx : ml ar.arg = some (.ref x) := by
    rcases lx with ⟨_, z⟩ | ⟨z, _⟩
    · exact z
    · rcases z with z | z
      · rw [hka] at z; cases z
      · rw [hka] at z; cases z
  refine wpAny_loadName_local I.ok.kind hka hn hmx ?_
  refine ks_wpAny_isType_cls hD1 hD2 ⟨rfl, ?_⟩
  obtain ⟨hh, g, d, tk, os⟩ := s
  refine ks_wpAny_call_super hD1 hD2 hox.at_ hox.cls (fun c e => ?_) (PySem.W.looks_mroIn KX S.sub) (fun h' e1 k1 => ?_)
  · have := hox.no
    unfold PySem.W.notCls at this
    rw [e] at this
    exact Bool.noConfusion this
  have I1 := pin_new (t' := tk) I k1 (Nat.le_refl _) e1 (fun v z => nomatch z)
  have KX1 := I1.kIn
  obtain ⟨of2, hof, hofc⟩ : ∃ of, h'.get? f2 = some of ∧ of.cls = .type "function" := by
    have ht' : (X.K.lookup f2).map (·.cls) = some (.type "function") := M.ty
    cases z : X.K.lookup f2 with
    | none => rw [z] at ht'; cases ht'
    | some of => rw [z] at ht'; exact ⟨of, KX1 _ _ z, Option.some.inj ht'⟩
  have hsup := M.at_
  unfold PySem.W.ks_superIn at hsup
  rw [hD] at hsup
  obtain ⟨mA1, O1, _⟩ := ins_get I1.hok hxx
  obtain ⟨ox1, odx1, hox1⟩ : ∃ ox odx, PySem.W.InstAt h' x ox D odx := by
    obtain ⟨od', J, _⟩ := O1.look
    exact ⟨_, _, J⟩
  refine ks_wpAny_getMethod_super (pin_at I1) (PySem.W.looks_opaque KX1 S.st) (l₀ := cdD.mro) ?_ rfl KX1 hsup hof hofc (PySem.W.ks_ne KX1 hox1 hD) hat ?_
  · exact fun A Q E s k q => wpAny_bind ((PySem.W.looks_clsIn KX1 hD) A _ E s k (wpAny_pure q))
  have I2 := pin_new (s := ⟨h', g, d, tk, os⟩) (o := PySem.W.methodObj (.ref f2) (.ref x)) (t' := tk + 1) I1 (fun _ _ z => Heap.get?_push_of_some _ z) (Nat.le_refl _) (Heap.get?_push_size h' rfl) (fun v z => nomatch z)
  have hL := (I2.pin (h'.objs.size, PySem.W.methodObj (.ref f2) (.ref x)) (List.mem_append_right _ List.mem_cons_self)).2.2.1
  refine PySem.W.callWith_M (K := X.K) (h₀ := X.base) (first := []) I.ok.mod.kin (news_at hL (base_none I1 (Nat.le_refl _)) (pin_at I2)) List.mem_cons_self M.fi (thn (ha.run pos _ _ σ H _ I2 h) fun us s3 ⟨vs, H2, I3, rv, q2⟩ => ⟨⟨pin_at I3, I3.kIn⟩, ?_⟩) hst hpl
  refine wpAny_call (PySem.W.method_call (pin_at I3) ?_)
  have r2 : Vals (.ref x :: (vs ++ dvs)) ((.ref x :: us) ++ ds) := (show Vals ((V.ref x :: vs) ++ dvs) _ from Vals.append (xs := V.ref x :: vs) (.cons (show RelV (.ref x) (.ref x) from rfl) rv) hd)
  have hl2 : (((Value.ref x :: us) ++ ds)).length = ps.length := by rw [← r2.length]; exact F.len _ _ _ _ q2
  refine codeAny_mono (F.run X.A X.stack s3 H2 ⟨.ref x :: us, []⟩ ((.ref x :: us) ++ ds) (.ref x :: (vs ++ dvs)) _ E hr I3.env0 (hb s3 (.ref x :: us) I3.kIn hl2) r2 q2) fun r s' hq => ?_
  cases r with
  | error e => exact hx _ σ H2 s3 e s' I3 hq
  | ok fl =>
    cases fl with
    | ret w =>
      obtain ⟨v, H3, I4, rv, q3⟩ := I3.after hq
      have I5 := unpin (unpin I4)
      exact wpAt_of_wpAny (hrest.run pins s' σ H3 D' I5 q3)
    | next => exact False.elim hq
    | brk => exact False.elim hq
    | cont => exact False.elim hq
end
/-- the def that super().m is, for methods of the class at D; dvs: its last defaults that are left out -/
structure SupC (P : Program) (w : World) (K : PySem.W.Frag) (mg : Str → Option Value) (base : Heap) (k : Nat) (D : Addr) (m : Str) (ps : List Str) (sp : Sp) (dvs : List V) : Prop where
  ex : ∃ (f2 : Addr) (fd2 : FuncData) (ds : List Value), FnOk P w K mg base CX0 k f2 fd2 ps sp ∧ SupM K D m f2 ∧ Binds K fd2 ps ds ∧ Vals dvs ds
section
variable {X : Cx}
theorem pat_superC {full : List Stmt} {D f cda cc : Addr} {fd : FuncData} {args : Arguments} {oc : Value} {od : Option Addr} {osl : Array (Option Value)} {ar : Arg} {p0 p1 apos pos epos : Pos} {m : Str} {e : Expr} {es : List Expr} {rest : List Stmt} {t : TA} {u : TS} {k : Nat} {ps : List Str} {sp : Sp} {dvs : List V}
    (F : SupC X.prog X.w X.K X.mg X.base k D m ps sp dvs) (S : SupK X.prog X.K X.mg D f cda cc) (lf : X.K.lookup f = some ⟨oc, od, .func fd, osl⟩) (hpar : fd.params = args) (hr : Room k X.A) (ha : PA X (e :: es) t) (hrest : PSs X rest u)
    (hfu : X.env.func = some f := by rfl) (hco : X.env.code = .ref cda := by rfl) (hcl : X.env.cells.lookup ("__class__" : Str) = some cc := by rfl) (hp : (args.posonlyargs ++ args.args).head? = some ar := by rfl)
    (hks : Gl X "super" := by rfl) (hkc : X.env.kindOf "__class__" = some .free := by rfl) (hN : X.N[0]? = some ar.arg := by rfl) (hka : X.env.kindOf ar.arg = some .local := by rfl) (hat : (m == ("__class__" : Str)) = false := by decide)
    (hst : starEach (e :: es) X.env = (false, eval e X.env) :: starEach es X.env := by rfl) (hpl : (backTo pos (starEach es X.env)).any (·.1) = false := by rfl)
    (hi : interactive X.env = false := by rfl) (hs : swapsWith (.Call (.Attribute (.Call (.Name "super" p0) [] [] p1) m apos) (e :: es) [] pos) none epos.line X.env = pure false := by rfl)
    {pl : Sem Bool} (he : eval (.Call (.Attribute (.Call (.Name "super" p0) [] [] p1) m apos) (e :: es) [] pos) X.env = (do
      let ov ← attributeBase (.Call (.Name "super" p0) [] [] p1) m X.env (eval (.Call (.Name "super" p0) [] [] p1) X.env)
      standAt apos.atName
      let (f, first) ← holding [ov] (getMethod ov m pl)
      callWith pos f first (backTo pos (starEach (e :: es) X.env)) []) := by rfl) :
    PAt X (.func full X.env) (.Expr (.Call (.Attribute (.Call (.Name "super" p0) [] [] p1) m apos) (e :: es) [] pos) epos :: rest) (tSup D sp dvs E0 t u) := by
  obtain ⟨f2, fd2, ds, F2, M, hb, hd⟩ := F.ex
  exact pat_super (full := full) S M hfu hco hcl lf (by rw [hpar]; exact hp) hks hkc hN hka hat F2 hb hd hr (fun _ _ _ _ _ _ _ z => (show False from z).elim) ha hrest hst hpl hi hs he
end
/-! ## a def of the text that says super() -/
open NdefX in
abbrev nfS (x qual : Str) (st : Stmt) (cda cc : Addr) : NdefX.NF := ⟨x, qual, defArgs st, defBody st, defScope st, [("__class__", cc)], cda⟩
structure FunS (P : Program) (K : PySem.W.Frag) (mg : Str → Option Value) (x qual : Str) (st : Stmt) (D : Addr) (dvs : List V) (f : Addr) (fd : FuncData) : Prop where
  ex : ∃ (oc : Value) (od : Option Addr) (dV kV doc pm : Value) (an : Option Addr) (cda cc : Addr) (ct : Value) (osl : Array (Option Value)),
    fd = PySem.W.fnX x qual (defArgs st) (defBody st) (defScope st) [("__class__", cc)] dV kV doc pm an (.ref cda) ct ∧ K.lookup f = some ⟨oc, od, .func fd, osl⟩ ∧ PySem.W.codeIn K (.ref cda) qual = true ∧ SupK P K mg D f cda cc ∧ DflV K dV dvs
  kp : PySem.W.keepIn K (.ref f) = true
section
variable {P : Program} {w : World} {K : PySem.W.Frag} {mg : Str → Option Value} {base : Heap}
theorem cells_cls {D f cda cc : Addr} {s : Shared} {H : Hp} {A : Around} {outer : List Env} (S : SupK P K mg D f cda cc) (e0 : Env0 P w K mg base A outer s H) : NdefX.CellsAt [("__class__", cc)] ["__class__"] [none] s.heap H := by
  obtain ⟨cl, cld, csl, hcell⟩ := S.cell
  have hb := e0.bs _ _ (e0.mod.kin _ _ hcell)
  have one : ∀ {y : Str} {c : Addr}, List.lookup y [(("__class__" : Str), cc)] = some c → c = cc ∧ y = ("__class__" : Str) := fun {y c} e => by
    simp only [List.lookup] at e
    split at e
    · rename_i q
      cases e
      exact ⟨rfl, beq_iff_eq.mp q⟩
    · cases e
  refine ⟨rfl, fun y c e => ?_, fun x y c e1 e2 => by rw [(one e1).2, (one e2).2], fun i y e => ?_⟩
  · obtain ⟨rfl, rfl⟩ := one e
    exact ⟨hb.2, _, _, hb.1, rfl⟩
  · match i, e with
    | 0, e => cases e; exact ⟨cc, rfl, fun v ev => by cases ev⟩
    | i + 1, e => cases e
/-- THE RULE for such a def -/
theorem FunS.ok {CX : CXT} {x qual : Str} {st : Stmt} {D : Addr} {dvs : List V} {f : Addr} {fd : FuncData} {N ps : List Str} {k : Nat} {sp : Sp} (F : FunS P K mg x qual st D dvs f fd) (S : NdefX.NScope N ps ["__class__"] (defScope st)) (len : ∀ vs H Q E, sp vs H Q E → vs.length = ps.length)
    (hbody : ∀ (cda cc : Addr) (fd' : FuncData) (oc : Value) (od : Option Addr) (osl : Array (Option Value)) (A : Around) (outer : List Env) (s : Shared) (H : Hp) (vs : List V) (Q : VK) (E : XK), fd'.params = defArgs st → K.lookup f = some ⟨oc, od, .func fd', osl⟩ → SupK P K mg D f cda cc → Room k (A.deeper (NdefX.envF (nfS x qual st cda cc) f s.heap.objs.size)) → sp vs H Q E →
      ∃ t, PAt (NdefX.ncx CX P w K mg base N (nfS x qual st cda cc) f A outer s H E) (.func (defBody st) (NdefX.envF (nfS x qual st cda cc) f s.heap.objs.size)) (defBody st) t ∧ t { nx := fun _ H' => Q .non H', rt := Q } (NdefX.startF N vs [none]) H) : FnOk P w K mg base CX (k + 1) f fd ps sp := by
  obtain ⟨oc, od, dV, kV, doc, pm, an, cda, cc, ct, osl, rfl, lk, hcd, SK, _⟩ := F.ex
  refine ⟨len, fun A outer s H args us vs Q E hr e0 hb r hsp => ?_⟩
  have hl := len _ _ _ _ hsp
  have KX : K.In s.heap := e0.mod.kin.keeps fun b o e => (e0.bs b o e).1
  have lim : s.heap.NoLimit := e0.mod.nolimit.keeps fun b o e => (e0.bs b o e).1
  have C := cells_cls SK e0
  refine codeAny_call_function hr.depth (KX _ _ lk) rfl S.co S.gen rfl (PySem.W.codeRec_of KX hcd) (hb _ _ _ _ ?_)
  refine wpAny_newFunctionEnv S.nocell (fun ⟨n, _⟩ hy => S.par n (List.of_mem_zip hy).1) (fun h₁ hns hsb => ⟨lim.fresh _ hsb, ?_⟩) S.kind
  show codeAny _ _ (.func (defBody st) (NdefX.envF (nfS x qual st cda cc) f s.heap.objs.size)) _ _
  refine ks_codeAny_funcAt ?_
  have kp : ∀ b o, s.heap.get? b = some o → h₁.get? b = some o := fun b o e => hsb.extBut b o (Nat.ne_of_lt (Heap.lt_size e)) (Heap.get?_push_of_some _ e)
  obtain ⟨t, ht, hq⟩ := hbody cda cc _ oc od osl A outer s H vs Q E rfl lk SK (hr.deeper _) hsp
  have I : Inv (NdefX.ncx CX P w K mg base N (nfS x qual st cda cc) f A outer s H E) [] (NdefX.startF N vs [none]) H { s with heap := h₁, toks := s.toks + (ps.zip us).length } := NdefX.inv_startN S hr.hd e0 hl r C hns kp
  refine ks_wpAt_mono (ht.run [] _ (NdefX.startF N vs [none]) H _ I hq) (fun fl s' hs => ?_) fun e s' hs => hs
  have fin : ∀ {σ' : L2.St} {H' : Hp} {v : V} {u : Value}, Inv (NdefX.ncx CX P w K mg base N (nfS x qual st cda cc) f A outer s H E) [] σ' H' s' → L2.RelV v u → Q v H' → CE outer P w H s Q u s' :=
    fun {σ' H' v u} J rv q => ⟨v, H', J.os, J.bare, J.base, J.hok, rv, q⟩
  cases fl with
  | ret u =>
    obtain ⟨v, σ', H', J, rv, q⟩ := hs
    exact fin J rv q
  | next =>
    obtain ⟨σ', H', J, q⟩ := hs
    exact fin (v := V.non) (u := Value.none) J rfl q
  | brk =>
    obtain ⟨_, _, _, q⟩ := hs
    exact False.elim q
  | cont =>
    obtain ⟨_, _, _, q⟩ := hs
    exact False.elim q
theorem FunS.binds {x qual : Str} {st : Stmt} {D : Addr} {dvs : List V} {f : Addr} {fd : FuncData} {ps : List Str} (F : FunS P K mg x qual st D dvs f fd)
    (h : ∀ (cc : Addr) (dV kV doc pm : Value) (an : Option Addr) (cdv ct : Value) (us : List Value), us.length = ps.length → bindArgs (PySem.W.fnX x qual (defArgs st) (defBody st) (defScope st) [("__class__", cc)] dV kV doc pm an cdv ct) ⟨us, []⟩ = pure (ps.zip us)) : Binds K fd ps [] := by
  obtain ⟨oc, od, dV, kV, doc, pm, an, cda, cc, ct, osl, rfl, lk, hcd, _⟩ := F.ex
  exact .all (h cc dV kV doc pm an _ ct)
/-- the last parameters by their defaults -/
theorem FunS.binds1 {x qual : Str} {st : Stmt} {D : Addr} {dvs : List V} {f : Addr} {fd : FuncData} {ps : List Str} (F : FunS P K mg x qual st D dvs f fd) (n j : Nat) (hd : dvs ≠ []) (hn : n + (dvs.length - j) = ps.length)
    (h : ∀ (cc T : Addr) (kV doc pm : Value) (an : Option Addr) (cdv ct : Value) (us its : List Value), us.length = n → its.length = dvs.length →
      ∃ k, bindArgs (PySem.W.fnX x qual (defArgs st) (defBody st) (defScope st) [("__class__", cc)] (.ref T) kV doc pm an cdv ct) ⟨us, []⟩ = seqItems? (.ref T) >>= k ∧ k (some its.toArray) = pure (ps.zip (us ++ its.drop j))) : ∃ ds, Vals (dvs.drop j) ds ∧ Binds K fd ps ds := by
  obtain ⟨oc, od, dV, kV, doc, pm, an, cda, cc, ct, osl, rfl, lk, hcd, _, hD⟩ := F.ex
  rcases hD with ⟨e, _⟩ | ⟨_, T, o, its, m, rfl, lT, oT, rT⟩
  · exact absurd e hd
  · refine ⟨its.drop j, rT.drop j, fun s us X hlen => ?_⟩
    have l1 : its.length = dvs.length := rT.length.symm
    have l2 : us.length = n := by
      rw [List.length_append, List.length_drop, l1] at hlen
      omega
    obtain ⟨k, e1, e2⟩ := h cc T kV doc pm an _ ct us its l2 l1
    refine BindsTo.of_looks fun M => ?_
    rw [e1]
    exact looks_items X lT oT (.of_pure e2)
end
end Kb

namespace Kb
open PySem PySem.Spec PyProof.Rows L2 ClX

/-! ## f'{x}', x an own instance with its own __str__ -/
section
variable {prog : Program} {w : World} {A : Around} {E : Value → Shared → Prop} {s : Shared} {K : PySem.W.Frag} {x C f : Addr} {ox : Obj} {od : Option Obj}
theorem check_meth {M : Model} {A : Around} {E : Value → Shared → Prop} {s : Shared} {i owner n : String} {self : Value} {rest : List Value} {kw : List (Str × Value)} {Q : Unit → Shared → Prop}
    (hk : builtinKind i = some .method) (hs : splitId i = some (owner, n)) (hi : PySem.W.Looks M s.heap (isInstance self (.type owner)) true) (ha : argsOk i ⟨self :: rest, kw⟩) (q : Q () s) :
    wpAny M A (checkBuiltinCall i ⟨self :: rest, kw⟩) Q E s := by
  simp only [checkBuiltinCall, hk, hs]
  refine wpAny_bind (hi.here ?_)
  simp only [Bool.not_true, Bool.false_eq_true, if_false]
  cases hsig : Manifest.signature? i with
  | none => exact wpAny_pure q
  | some sig =>
    simp only [argsOk, hsig] at ha
    have h2 : Bind.checkArgs i sig ⟨self :: rest, kw⟩ = pure () := ha
    show wpAny M A (Bind.checkArgs i sig ⟨self :: rest, kw⟩) Q E s
    rw [h2]; exact wpAny_pure q
theorem callSpecial_A {M : Model} {A : Around} {v tp : Value} {name : Str} {i : String} {args : List Value} {Q : Option Value → Shared → Prop} (hT : PySem.W.Looks M s.heap (typeOf v) tp) (hf : PySem.W.Looks M s.heap (typeLookup tp name) (some (.builtin i))) (hb : bindSpecial (.builtin i) v = pure (.builtin i, [v]))
    (hc : wpAny M A (call (.builtin i) (v :: args)) (fun r => Q (some r)) E s) : wpAny M A (callSpecial? v name args) Q E s := by
  simp only [callSpecial?]
  refine wpAny_bind ?_
  unfold specialOf
  refine wpAny_bind (hT.here (hf.here ?_))
  simp only [hb]
  exact wpAny_holding (wpAny_bind (wpAny_pure (wpAny_bind (wpAny_mono hc (fun v s' h' => wpAny_pure h') fun _ _ h' => h'))))
theorem fmt_own {Q : Value → Shared → Prop} (hu : A.units + 2 < cLine) (X : K.In s.heap) (I : PySem.W.InstAt s.heap x ox C od) (hfm : PySem.W.findIn K (.ref C) "__format__" = some (some (.builtin "object.__format__"))) (hob : PySem.W.subIn K (.ref C) (.type "object") = some true)
    (hs : PySem.W.findIn K (.ref C) "__str__" = some (some (.ref f))) (hf : PySem.W.isFn K (.ref f) = true) (h : ∀ tk, wpAny (model prog w) A.in1 (call (.ref f) [.ref x]) (PySem.W.StrBack Q) E { s with toks := tk }) :
    wpAny (model prog w) A (formatField (.ref x) Str.empty) Q E s := by
  show wpAny _ _ (holding [.ref x] (pyFormat (.ref x) Str.empty)) Q E s
  refine wpAny_holding ?_
  unfold pyFormat
  refine wpAny_bind (wpAny_mkStr ?_ (by decide))
  have LI : PySem.W.Looks (model prog w) s.heap (isInstance (.ref x) (.type "object")) true := I.type.andThen (PySem.W.looks_subIn X hob)
  refine wpAny_bind (m := callSpecial? (.ref x) (Str.ofString "__format__") [.str Str.empty s.toks]) (callSpecial_A (s := { s with toks := s.toks + 1 }) I.type (PySem.W.looks_findIn X hfm) (F.slot_NoneType_format.bind _) ?_)
  refine wpAny_call (codeAny_call_builtin F.slot_NoneType_format.plain F.entry_object_format (@check_meth (model prog w) _ _ { s with toks := s.toks + 1 } "object.__format__" "object" "__format__" (.ref x) [.str Str.empty s.toks] [] _ (by decide +kernel) (by decide +kernel) LI (F.args_object_format_2 _ _) ?_))
  show wpAny _ _ (do let _shown ← typeNameOf (.str Str.empty s.toks); (do ret (← pyStrObj (.ref x)))) _ _ _
  refine wpAny_bind (wpAny_typeNameOf (T := "str") (typeIs_str _ _ _) (by decide) fun _ => ?_)
  refine wpAny_bind ?_
  unfold pyStrObj
  refine wpAny_bind (m := cRoomFor _ _) (wpAny_cRoomFor (by show A.units + 1 < cLine; omega) ?_)
  refine wpAny_bind (m := callSpecial? (.ref x) (Str.ofString "__str__")) (PySem.W.special_fn (s := { s with toks := _ }) X I hs (beq_iff_eq.mp hf) (wpAny_mono (h _) (fun r s' hr => ?_) fun _ _ y => y))
  cases r <;> first | exact hr.elim | skip
  refine wpAny_bind (wpAny_isInstance (T := "str") (b := true) rfl isSubtype_str_str (wpAny_pure (wpAny_pure ?_)))
  exact wpAny_bind (wpAny_isInstance (T := "str") (b := true) rfl isSubtype_str_str (wpAny_pure hr))
end
/-- what of the text a class must have for {x} -/
structure FmC (K : PySem.W.Frag) (C : Addr) : Prop where
  fm : PySem.W.findIn K (.ref C) "__format__" = some (some (.builtin "object.__format__"))
  ob : PySem.W.subIn K (.ref C) (.type "object") = some true
def tFmtO (C : Addr) (sp : Sp) (te : TE) : TE := fun σ H Q => te σ H fun x H1 => ∃ (a dx : Addr) (fs : List (Str × V)), x = .ref a ∧ H1 a = some (.ins C dx fs) ∧ sp [.ref a] H1 (fun v H' => ∃ z : Str, v = .str z ∧ Q (.str z) H') E0
section
variable {X : Cx} {k : Nat} {C : Addr} {sp : Sp} {e : Expr} {te : TE} {pos : Pos}
theorem pe_fmtO (F : MtC X.prog X.w X.K X.mg X.base CX0 k C "__str__" ["self"] sp) (G : FmC X.K C) (hr : Room (k + 2) X.A) (he : PE X e te) : PE X (.FormattedValue e (-1) none pos) (tFmtO C sp te) := by
  refine ⟨fun pins s σ H Q I h => ?_⟩
  refine wpAny_FormattedValue_plain (thn (he.run pins s σ H _ I h) fun v s1 hv => ?_)
  obtain ⟨x, H1, I1, r1, a, dx, fs, rfl, ha, q⟩ := hv
  cases (show v = Value.ref a from r1)
  obtain ⟨f, fd, hf, M, hb⟩ := F.ex
  obtain ⟨mA, O, _⟩ := ins_get I1.hok ha
  obtain ⟨od, J, _⟩ := O.look
  have hu := hr.un
  refine fmt_own (by omega) I1.kIn J G.fm G.ob M.at_ M.fn (fun tk => run_self (I1.tok tk) hf (hr.in1.mono (Nat.le_succ _)) hb q (fun u s' z => ?_) rfl)
  obtain ⟨v, H', I', rv, n, rfl, q'⟩ := z
  obtain ⟨t, rfl⟩ := rv
  exact ⟨.str n, H', I', ⟨_, rfl⟩, q'⟩
/-- one reading of several -/
theorem pe_ex {ι : Type} {Dm : ι → Prop} {t : ι → TE} (h : ∀ i, Dm i → PE X e (t i)) : PE X e (fun σ H Q => ∃ i, Dm i ∧ t i σ H Q) := ⟨fun pins s σ H Q I ⟨i, hi, q⟩ => (h i hi).run pins s σ H Q I q⟩
end
end Kb

namespace Kb
open PySem PySem.Spec PyProof.Rows L2
open PyProof
/-! ## list.extend(a list or a tuple); o.m() -/
theorem ext_tup (l : Addr) (items : Array Value) (n : Nat) (b : Addr) (o : Obj) (items2 : Array Value) (n2 : Nat) (hc : o.cls = .type "tuple" ∨ o.cls = .type "list") (hd : o.data = .seq items2 n2) (hs0 : ¬(!items.isEmpty && Builtin.List.listTooLong (items.size + items2.size)) = true) (hs1 : items.size ≤ sizeLine) (hs2 : items.size + items2.size ≤ sizeLine + 1) :
    Meets (Builtin.«list.extend» ⟨[.ref l, .ref b], []⟩) (fun _ R s => s.heap.get? l = some { cls := .type "list", dict := none, data := .seq items n, slots := #[] } ∧ s.heap.get? b = some o ∧ R (.ok (.ret Value.none)) { s with heap := s.heap.update l (Obj.mapSeq fun x => x ++ items2) }) :=
  .of_wp fun prog w A R s h => by
    obtain ⟨hl, hb, h⟩ := h
    show wpAny _ _ (Builtin.List.listExtendWith (.ref l) (.ref b) .none) _ _ _
    have go : ∀ T : String, o.cls = .type T → (Builtin.List.listSameRef (.ref l) (.ref b) || Value.type T == .type "list" || Value.type T == .type "tuple") = true → wpAny (model prog w) A.in1 (Builtin.List.listExtendWith (.ref l) (.ref b) .none) (fun fin s' => ∃ v, fin = Fin.done (Flow.ret v) ∧ R (Except.ok (Flow.ret v)) s') (fun e s' => R (Except.error e) s') s := fun T hT e => by
      unfold Builtin.List.listExtendWith
      refine wpAny_bind (wpAny_typeOf (T := T) ⟨o, hb, hT⟩ ?_)
      rw [if_pos e]
      refine wpAny_bind ?_
      unfold Builtin.List.listItems
      refine wpAny_bind (wpAny_seqItems hb hd (wpAny_pure ?_))
      refine wpAny_bind (wpAny_bind (wpAny_seqItems hl rfl (wpAny_pure ?_)))
      dsimp only
      rw [if_neg hs0]
      refine wpAny_bind ?_
      show wpAny _ _ (updateSeq l (· ++ items2)) _ _ _
      refine wpAny_updateSeq hl rfl (hz := hs1) (_hz' := by rw [Array.size_append]; exact hs2) ?_
      exact wpAny_pure ⟨_, rfl, h⟩
    rcases hc with hc | hc
    · exact go "tuple" hc (by rw [show (Value.type "tuple" == .type "tuple") = true by decide +kernel, Bool.or_true])
    · exact go "list" hc (by rw [show (Value.type "list" == .type "list") = true by decide +kernel, Bool.or_true]; rfl)
def rExtA (K : PySem.W.Frag) : V → List V → Hp → VK → Prop := fun x vs H Q => ∃ l b xs zs, x = .ref l ∧ vs = [.ref b] ∧ H l = some (.lst xs) ∧ (SqL K H b zs ∨ SqT K H b zs) ∧ xs.length + zs.length ≤ sizeLine ∧ Q .non (upd H l (.lst (xs ++ zs)))
section
variable {X : Cx}
theorem mt_extA : MtM X "list.extend" (rExtA X.K) := by
  intro pins s σ H x vs v us Q I rx rv h
  obtain ⟨l, b, xs, zs, rfl, rfl, hH, hB, hz, q⟩ := h
  cases rx
  obtain ⟨u, rfl, ru⟩ := rv.one
  cases ru
  obtain ⟨z, its, n, r, hl, e⟩ := I.lstM hH
  have hb : ∃ (its2 : List Value) (o : Obj) (n2 : Nat), Vals zs its2 ∧ s.heap.get? b = some o ∧ (o.cls = .type "tuple" ∨ o.cls = .type "list") ∧ o.data = .seq its2.toArray n2 := by
    rcases hB with hB | hB
    · obtain ⟨its, r, ⟨o, n, e, a, _, d⟩, _⟩ := I.list hB
      exact ⟨its, o, n, r, e, .inr a, d⟩
    · obtain ⟨its, r, ⟨o, e, a, n, d⟩, _⟩ := I.tuple hB
      exact ⟨its, o, n, r, e, .inl a, d⟩
  obtain ⟨its2, o, n2, r2, e2, hc, hd⟩ := hb
  have hl2 := r2.length
  have hsz : its.toArray.size + its2.toArray.size ≤ sizeLine := by rw [List.size_toArray, List.size_toArray]; omega
  have hlong : ¬ (!its.toArray.isEmpty && Builtin.List.listTooLong (its.toArray.size + its2.toArray.size)) = true := by
    rw [notLongL hsz, Bool.and_false]
    exact Bool.false_ne_true
  refine call_meets F.slot_list_extend ⟨_, e, rfl⟩ F.entry_list_extend (F.args_list_extend_2 _ _)
    (ext_tup l its.toArray n b o its2.toArray n2 hc hd hlong (by rw [List.size_toArray]; omega) (by omega)) ⟨e, e2, ?_⟩
  refine ⟨.non, _, I.lset (its' := its ++ its2) hH e (by simp) (r.append r2) ?_, rfl, q⟩
  rw [List.length_append]
  omega
variable {k : Nat} {C : Addr} {m : Str} {ps : List Str} {sp : Sp} {o : Expr} {ta : TE} {pos apos : Pos}
/-- o.m() -/
theorem pe_mth0 {pl : Sem Bool} (F : MtC X.prog X.w X.K X.mg X.base CX0 k C m ps sp) (c : Cls X.K C) (hr : Room k X.A) (he : PE X o ta)
    (ht : eval (.Call (.Attribute o m apos) [] [] pos) X.env = (do
      let ov ← eval o X.env
      standAt apos.atName
      let (f, first) ← holding [ov] (getMethod ov m pl)
      callWith pos f first (backTo pos (starEach [] X.env)) (backToKw pos (keywordEach [] X.env))) := by rfl) :
    PE X (.Call (.Attribute o m apos) [] [] pos) (tMeth C m sp [] E0 ta tNil) := by
  obtain ⟨f, fd, hf, M, hb⟩ := F.ex
  exact pe_meth0 he c M hf hr hb .nil (fun _ _ _ _ _ _ _ z => (show False from z).elim) ht
end
end Kb

/-! ### the head by one run of the top, for texts with defaults and super(): the facts are looked at in the run -/
namespace Kb
open PySem PySem.Spec PyProof.Rows L2 ClX
/-- a def: where it stands, its name, qualified name, parameters, body, scope; mode: 1 says super(), 2 has defaults, 3 both -/
structure FY where
  at_ : PySem.W.Frag → Addr
  name : Str
  qual : Str
  st : Stmt
  mode : Nat
abbrev FyV : Type := Option (Str × Str × Arguments × FuncBody × Scope × Addr × Addr)
def FY.val (d : FY) : FyV := some (d.name, d.qual, defArgs d.st, .stmts (defBody d.st), defScope d.st, mainGlobals, builtinsNs)
def fyObs (K : PySem.W.Frag) (a : Addr) : FyV := match K.lookup a with
  | some ⟨_, _, .func fd, _⟩ => some (fd.name, fd.qualname, fd.params, fd.body, fd.scope, fd.globals, fd.builtins)
  | _ => none
def fyClo (m : Nat) (clo : List (Str × Addr)) (dV : Value) : Bool := (match m, clo with
  | 0, [] => true
  | 2, [] => true
  | 1, [(x, _)] => x == ("__class__" : Str)
  | 3, [(x, _)] => x == ("__class__" : Str)
  | _, _ => false) && (match m, dV with
  | 0, .none => true
  | 1, .none => true
  | 2, .ref _ => true
  | 3, .ref _ => true
  | _, _ => false)
def fyCode (K : PySem.W.Frag) (a : Addr) (q : Str) (m : Nat) : Bool := match K.lookup a with
  | some ⟨_, _, .func fd, _⟩ => PySem.W.codeIn K fd.code q && fyClo m fd.closure fd.defaults
  | _ => false
/-- the cell, the code, the defaults of a def -/
def fyCell (K : PySem.W.Frag) (a : Addr) : Addr := match K.lookup a with
  | some ⟨_, _, .func fd, _⟩ => (match fd.closure with
    | [(_, c)] => c
    | _ => 0)
  | _ => 0
def fyCda (K : PySem.W.Frag) (a : Addr) : Addr := match K.lookup a with
  | some ⟨_, _, .func fd, _⟩ => (match fd.code with
    | .ref c => c
    | _ => 0)
  | _ => 0
def fyDfl (K : PySem.W.Frag) (a : Addr) : Addr := match K.lookup a with
  | some ⟨_, _, .func fd, _⟩ => (match fd.defaults with
    | .ref c => c
    | _ => 0)
  | _ => 0
theorem fy_any {K : PySem.W.Frag} {d : FY} (seen : fyObs K (d.at_ K) = d.val) (coded : fyCode K (d.at_ K) d.qual d.mode = true) :
    ∃ cl di sl clo dV kw dc md an cv cm, K.lookup (d.at_ K) = some ⟨cl, di, .func (PySem.W.fnX d.name d.qual (defArgs d.st) (defBody d.st) (defScope d.st) clo dV kw dc md an cv cm), sl⟩ ∧ PySem.W.codeIn K cv d.qual = true ∧ fyClo d.mode clo dV = true := by
  unfold fyCode at coded
  unfold fyObs FY.val at seen
  split at coded
  · rename_i cl di fun_ sl here
    rw [here] at seen
    cases fun_ with
    | mk nm qn pa bo sc gl clo df kw dc md an cv cm bn =>
      have same := Option.some.inj seen
      simp only [Prod.mk.injEq] at same
      rcases same with ⟨rfl, rfl, rfl, rfl, rfl, rfl, rfl⟩
      obtain ⟨c1, c2⟩ := He.ba coded
      exact ⟨cl, di, sl, clo, df, kw, dc, md, an, cv, cm, here, c1, c2⟩
  · cases coded
theorem clo_e {clo : List (Str × Addr)} {dV : Value} {m : Nat} (hm : m = 0 ∨ m = 2) (h : fyClo m clo dV = true) : clo = [] := by
  obtain ⟨h1, _⟩ := He.ba h
  rcases hm with rfl | rfl <;> cases clo with
  | nil => rfl
  | cons x xs => cases h1
theorem clo_c {clo : List (Str × Addr)} {dV : Value} {m : Nat} (hm : m = 1 ∨ m = 3) (h : fyClo m clo dV = true) : ∃ c, clo = [(("__class__" : Str), c)] := by
  obtain ⟨h1, _⟩ := He.ba h
  rcases hm with rfl | rfl <;> (rcases clo with _ | ⟨⟨x, c⟩, _ | ⟨y, ys⟩⟩) <;> first | (cases h1; done) | exact ⟨c, by rw [eq_of_beq (show (x == ("__class__" : Str)) = true from h1)]⟩
theorem clo_n {clo : List (Str × Addr)} {dV : Value} {m : Nat} (hm : m = 0 ∨ m = 1) (h : fyClo m clo dV = true) : dV = .none := by
  obtain ⟨_, h1⟩ := He.ba h
  rcases hm with rfl | rfl <;> cases dV <;> first | rfl | (cases h1; done)
theorem clo_d {clo : List (Str × Addr)} {dV : Value} {m : Nat} (hm : m = 2 ∨ m = 3) (h : fyClo m clo dV = true) : ∃ c, dV = .ref c := by
  obtain ⟨_, h1⟩ := He.ba h
  rcases hm with rfl | rfl <;> cases dV <;> first | exact ⟨_, rfl⟩ | (cases h1; done)
theorem codeIn_ref {K : PySem.W.Frag} {cv : Value} {q : Str} (h : PySem.W.codeIn K cv q = true) : ∃ c, cv = .ref c := by
  unfold PySem.W.codeIn at h
  cases cv <;> first | exact ⟨_, rfl⟩ | (cases h; done)
theorem fy_ok {K : PySem.W.Frag} {d : FY} (hm : d.mode = 0) (seen : fyObs K (d.at_ K) = d.val) (coded : fyCode K (d.at_ K) d.qual d.mode = true) :
    ∃ cl di sl kw dc md an cv cm, K.lookup (d.at_ K) = some ⟨cl, di, .func (PySem.W.fnOf d.name d.qual (defArgs d.st) (defBody d.st) (defScope d.st) .none kw dc md an cv cm), sl⟩ ∧ PySem.W.codeIn K cv d.qual = true := by
  obtain ⟨cl, di, sl, clo, dV, kw, dc, md, an, cv, cm, h, hc, hd⟩ := fy_any seen coded
  have e1 := clo_e (.inl hm) hd
  have e2 := clo_n (.inl hm) hd
  subst e1 e2
  exact ⟨cl, di, sl, kw, dc, md, an, cv, cm, h, hc⟩
theorem fy_okD {K : PySem.W.Frag} {d : FY} (hm : d.mode = 2) (seen : fyObs K (d.at_ K) = d.val) (coded : fyCode K (d.at_ K) d.qual d.mode = true) :
    ∃ cl di sl kw dc md an cv cm, K.lookup (d.at_ K) = some ⟨cl, di, .func (PySem.W.fnOf d.name d.qual (defArgs d.st) (defBody d.st) (defScope d.st) (.ref (fyDfl K (d.at_ K))) kw dc md an cv cm), sl⟩ ∧ PySem.W.codeIn K cv d.qual = true := by
  obtain ⟨cl, di, sl, clo, dV, kw, dc, md, an, cv, cm, h, hc, hd⟩ := fy_any seen coded
  have e1 := clo_e (.inr hm) hd
  obtain ⟨T, e2⟩ := clo_d (.inl hm) hd
  subst e1 e2
  have e : fyDfl K (d.at_ K) = T := by unfold fyDfl; rw [h]
  rw [e]
  exact ⟨cl, di, sl, kw, dc, md, an, cv, cm, h, hc⟩
theorem fy_okS {K : PySem.W.Frag} {d : FY} (hm : d.mode = 1) (seen : fyObs K (d.at_ K) = d.val) (coded : fyCode K (d.at_ K) d.qual d.mode = true) :
    ∃ cl di sl kw dc md an cm, K.lookup (d.at_ K) = some ⟨cl, di, .func (PySem.W.fnX d.name d.qual (defArgs d.st) (defBody d.st) (defScope d.st) [("__class__", fyCell K (d.at_ K))] .none kw dc md an (.ref (fyCda K (d.at_ K))) cm), sl⟩ ∧ PySem.W.codeIn K (.ref (fyCda K (d.at_ K))) d.qual = true := by
  obtain ⟨cl, di, sl, clo, dV, kw, dc, md, an, cv, cm, h, hc, hd⟩ := fy_any seen coded
  obtain ⟨c, e1⟩ := clo_c (.inl hm) hd
  have e2 := clo_n (.inr hm) hd
  obtain ⟨a, e3⟩ := codeIn_ref hc
  subst e1 e2 e3
  have e : fyCell K (d.at_ K) = c := by unfold fyCell; rw [h]
  have e' : fyCda K (d.at_ K) = a := by unfold fyCda; rw [h]
  rw [e, e']
  exact ⟨cl, di, sl, kw, dc, md, an, cm, h, hc⟩
theorem fy_okE {K : PySem.W.Frag} {d : FY} (hm : d.mode = 3) (seen : fyObs K (d.at_ K) = d.val) (coded : fyCode K (d.at_ K) d.qual d.mode = true) :
    ∃ cl di sl kw dc md an cm, K.lookup (d.at_ K) = some ⟨cl, di, .func (PySem.W.fnX d.name d.qual (defArgs d.st) (defBody d.st) (defScope d.st) [("__class__", fyCell K (d.at_ K))] (.ref (fyDfl K (d.at_ K))) kw dc md an (.ref (fyCda K (d.at_ K))) cm), sl⟩ ∧ PySem.W.codeIn K (.ref (fyCda K (d.at_ K))) d.qual = true := by
  obtain ⟨cl, di, sl, clo, dV, kw, dc, md, an, cv, cm, h, hc, hd⟩ := fy_any seen coded
  obtain ⟨c, e1⟩ := clo_c (.inr hm) hd
  obtain ⟨T, e2⟩ := clo_d (.inr hm) hd
  obtain ⟨a, e3⟩ := codeIn_ref hc
  subst e1 e2 e3
  have e : fyCell K (d.at_ K) = c := by unfold fyCell; rw [h]
  have e' : fyCda K (d.at_ K) = a := by unfold fyCda; rw [h]
  have e'' : fyDfl K (d.at_ K) = T := by unfold fyDfl; rw [h]
  rw [e, e', e'']
  exact ⟨cl, di, sl, kw, dc, md, an, cm, h, hc⟩
abbrev AlY : Type := Bool × List FyV
def obsY (fs : List (PySem.W.Frag → Bool)) (fn : List FY) (K : PySem.W.Frag) : AlY := ((fs.all fun f => f K) && fn.all fun d => fyCode K (d.at_ K) d.qual d.mode, fn.map fun d => fyObs K (d.at_ K))
def valY (fn : List FY) : AlY := (true, fn.map FY.val)
def SaysY (fs : List (PySem.W.Frag → Bool)) (fn : List FY) (K : PySem.W.Frag) : Prop := obsY fs fn K = valY fn
/-- what an object of the text names -/
def refsY (o : Obj) : List Addr := match o.data with
  | .seq its _ => its.toList.flatMap He.refV
  | .dict es _ => es.toList.flatMap fun e => He.refV e.val
  | .func fd => He.refV fd.code ++ (He.refV fd.defaults ++ fd.closure.map Prod.snd)
  | .cls cd => [cd.ns]
  | .fields vs => vs.toList.flatMap He.refV
  | _ => []
def stepY (g : Addr → Option Obj) (as : List Addr) : List Addr := as.flatMap fun a => match g a with
  | some o => refsY o
  | none => []
def lvY (g : Addr → Option Obj) : Nat → List Addr → List Addr
  | 0, as => as
  | n + 1, as => as ++ lvY g n (stepY g as)
def asY (g : Addr → Option Obj) (n : Nat) : List Addr := lvY g n [mainGlobals] ++ [cStatics]
section
variable {fs : List (PySem.W.Frag → Bool)} {fn : List FY} {K : PySem.W.Frag}
theorem SaysY.parts (z : SaysY fs fn K) : (∀ f ∈ fs, f K = true) ∧ (∀ d ∈ fn, fyCode K (d.at_ K) d.qual d.mode = true) ∧ ∀ d ∈ fn, fyObs K (d.at_ K) = d.val := by
  obtain ⟨zb, zl⟩ := Prod.mk.inj (show ((fs.all fun f => f K) && fn.all fun d => fyCode K (d.at_ K) d.qual d.mode, fn.map fun d => fyObs K (d.at_ K)) = (true, fn.map FY.val) from z)
  rw [Bool.and_eq_true, List.all_eq_true, List.all_eq_true] at zb
  exact ⟨zb.1, zb.2, fun d hd => List.map_inj_left.mp zl d hd⟩
theorem SaysY.fact (z : SaysY fs fn K) (i : Nat) {f : PySem.W.Frag → Bool} (h : fs[i]? = some f) : f K = true := z.parts.1 f (List.mem_iff_getElem?.mpr ⟨i, h⟩)
theorem SaysY.at_ (z : SaysY fs fn K) (i : Nat) {d : FY} (h : fn[i]? = some d) : fyObs K (d.at_ K) = d.val ∧ fyCode K (d.at_ K) d.qual d.mode = true :=
  have hd := List.mem_iff_getElem?.mpr ⟨i, h⟩
  ⟨z.parts.2.2 d hd, z.parts.2.1 d hd⟩
end
/-- a text, a number, a tuple of texts of the module -/
def strB (K : PySem.W.Frag) (x z : Str) : Bool := match PySem.W.nsIn K mainGlobals x with
  | some (some (.str y _)) => decide (y = z)
  | _ => false
theorem strB_ok {K : PySem.W.Frag} {x z : Str} (h : strB K x z = true) : ∃ t, PySem.W.nsIn K mainGlobals x = some (some (.str z t)) := by
  unfold strB at h
  split at h
  · rename_i y t e; rw [e, of_decide_eq_true h]; exact ⟨t, rfl⟩
  · cases h
def intB (K : PySem.W.Frag) (x : Str) (i : Int) : Bool := match PySem.W.nsIn K mainGlobals x with
  | some (some (.int j _)) => decide (j = i)
  | _ => false
theorem intB_ok {K : PySem.W.Frag} {x : Str} {i : Int} (h : intB K x i = true) : ∃ t, PySem.W.nsIn K mainGlobals x = some (some (.int i t)) := by
  unfold intB at h
  split at h
  · rename_i y t e; rw [e, of_decide_eq_true h]; exact ⟨t, rfl⟩
  · cases h
def isStrs : List Str → List Value → Bool
  | [], [] => true
  | z :: zs, .str y _ :: vs => decide (z = y) && isStrs zs vs
  | _, _ => false
theorem isStrs_ok : ∀ {zs : List Str} {vs : List Value}, isStrs zs vs = true → Vals (zs.map V.str) vs
  | [], [], _ => .nil
  | [], _ :: _, h => by cases h
  | _ :: _, [], h => by cases h
  | z :: zs, v :: vs, h => by
    cases v <;> first
      | (cases h; done)
      | (rename_i y t
         obtain ⟨h1, h2⟩ := He.ba (show (decide (z = y) && isStrs zs vs) = true from h)
         have e := of_decide_eq_true h1
         subst e
         exact .cons ⟨t, rfl⟩ (isStrs_ok h2))
/-- what a def that says super() must have -/
def supB (K : PySem.W.Frag) (D f : Addr) (main : Str) : Bool := (match K.lookup (fyCda K f) with
    | some ⟨_, _, .fields vs, _⟩ => (match vs[2]? with
      | some (Value.str file _) => main == file
      | _ => false)
    | _ => false) && ((match K.lookup (fyCell K f) with
    | some ⟨_, _, .cell (some (.ref E)), _⟩ => decide (E = D)
    | _ => false) && (decide (PySem.W.nsIn K PySem.cStatics "thirdparty.any" = some none) && ((PySem.W.clsIn K D).isSome && decide (PySem.W.mroIn K D (.ref D) = some true))))
theorem supB_ok {P : Program} {K : PySem.W.Frag} {mg : Str → Option Value} {D f : Addr} (top : (P.main.scope.names.lookup ("super" : Str)).isSome = false) (hm : mg "super" = none) (h : supB K D f P.main.file = true) : SupK P K mg D f (fyCda K f) (fyCell K f) := by
  unfold supB at h
  obtain ⟨h1, h⟩ := He.ba h
  obtain ⟨h2, h⟩ := He.ba h
  obtain ⟨h3, h⟩ := He.ba h
  obtain ⟨h4, h5⟩ := He.ba h
  refine ⟨?_, ?_, top, hm, of_decide_eq_true h3, Option.isSome_iff_exists.mp h4, of_decide_eq_true h5⟩
  · split at h1
    · rename_i a b vs c e
      split at h1
      · rename_i file t e2
        exact ⟨a, b, vs, c, file, t, e, e2, h1⟩
      · cases h1
    · cases h1
  · split at h2
    · rename_i a b E c e
      rw [← of_decide_eq_true h2]
      exact ⟨a, b, c, e⟩
    · cases h2
/-- the one default, the empty tuple -/
def dfl0 (K : PySem.W.Frag) (f : Addr) : Addr := tupRef K (fyDfl K f) 0
def isE : List Value → Bool
  | [] => true
  | _ => false
def dflB (K : PySem.W.Frag) (f : Addr) : Bool := tupB K (fyDfl K f) isRef1 && tupB K (dfl0 K f) isE
theorem dflB_tup {K : PySem.W.Frag} {f : Addr} (h : dflB K f = true) : ∃ o n s, K.lookup (dfl0 K f) = some ⟨.type "tuple", o, .seq #[] n, s⟩ := by
  obtain ⟨_, h⟩ := He.ba h
  obtain ⟨o, n, s, e, p⟩ := tupB_ok h
  have : tupIt K (dfl0 K f) = [] := by
    revert p; generalize tupIt K (dfl0 K f) = l
    intro p
    cases l with
    | nil => rfl
    | cons _ _ => cases p
  rw [this] at e
  exact ⟨o, n, s, e⟩
theorem dflB_ok {K : PySem.W.Frag} {f : Addr} (h : dflB K f = true) : DflV K (.ref (fyDfl K f)) [.ref (dfl0 K f)] := by
  obtain ⟨h, _⟩ := He.ba h
  obtain ⟨o, n, s, e, p⟩ := tupB_ok h
  have : tupIt K (fyDfl K f) = [.ref (dfl0 K f)] := by
    unfold dfl0 tupRef
    revert p; generalize tupIt K (fyDfl K f) = l
    intro p
    match l, p with
    | [.ref x], _ => rfl
  rw [this] at e
  exact .inr ⟨by simp, fyDfl K f, _, [.ref (dfl0 K f)], n, rfl, e, rfl, .cons rfl .nil⟩
theorem dflB_sq {K : PySem.W.Frag} {f : Addr} (h : dflB K f = true) (H : Hp) : SqT K H (dfl0 K f) [] := by
  obtain ⟨o, n, s, e⟩ := dflB_tup h
  exact .inr ⟨_, #[], n, e, rfl, rfl, by decide, .nil⟩
/-- an ordinary class -/
def insB (K : PySem.W.Frag) (C : Addr) : Bool := PySem.W.plainGet K C Str.empty && (PySem.W.hasDictIn K C && (PySem.W.plainOver K C && (decide (PySem.W.findIn K (.ref C) "__setattr__" = some (some (.builtin "object.__setattr__"))) && (decide (PySem.W.findIn K (.ref C) "__class__" = some (some (.builtin "object.__class__"))) &&
  (decide (PySem.W.specialIn K (.builtin "object.__class__") "__get__" = some (some (.builtin "getset_descriptor.__get__"))) && (decide (PySem.W.takesIn K (.builtin "object.__class__") = some true) && decide (PySem.W.mroIn K C (.type "object") = some true)))))))
theorem insB_ok {K : PySem.W.Frag} {C : Addr} (h : insB K C = true) : C8.InsC K C := by
  unfold insB at h
  obtain ⟨h1, h⟩ := He.ba h
  obtain ⟨h2, h⟩ := He.ba h
  obtain ⟨h3, h⟩ := He.ba h
  obtain ⟨h4, h⟩ := He.ba h
  obtain ⟨h5, h⟩ := He.ba h
  obtain ⟨h6, h⟩ := He.ba h
  obtain ⟨h7, h8⟩ := He.ba h
  exact ⟨⟨h1, h2, h3, of_decide_eq_true h4⟩, of_decide_eq_true h5, of_decide_eq_true h6, of_decide_eq_true h7, of_decide_eq_true h8, kit_self _ _ (beq_self_eq_true _)⟩
/-- .. and how it is made -/
def mkB (K : PySem.W.Frag) (C f : Addr) : Bool := PySem.W.makesIn K C && (decide (PySem.W.findIn K (.ref C) "__init__" = some (some (.ref f))) && (PySem.W.isFn K (.ref f) && PySem.W.keepIn K (.ref C)))
theorem mkB_ok {K : PySem.W.Frag} {C f : Addr} (h : mkB K C f = true) : Mk K C f := by
  unfold mkB at h
  obtain ⟨h1, h⟩ := He.ba h
  obtain ⟨h2, h⟩ := He.ba h
  obtain ⟨h3, h4⟩ := He.ba h
  exact ⟨h1, of_decide_eq_true h2, h3, h4⟩
def mtB (K : PySem.W.Frag) (C : Addr) (m : Str) (f : Addr) : Bool := decide (PySem.W.findIn K (.ref C) m = some (some (.ref f))) && (PySem.W.isFn K (.ref f) && PySem.W.keepIn K (.ref f))
theorem mtB_ok {K : PySem.W.Frag} {C f : Addr} {m : Str} (h : mtB K C m f = true) : Meth K C m f := by
  unfold mtB at h
  obtain ⟨h1, h⟩ := He.ba h
  obtain ⟨h2, h3⟩ := He.ba h
  exact ⟨of_decide_eq_true h1, h2, h3⟩
def supMB (K : PySem.W.Frag) (D : Addr) (m : Str) (f : Addr) : Bool := decide (PySem.W.ks_superIn K D D m = some (some (.ref f))) && (decide (PySem.W.typeIn K (.ref f) = some (.type "function")) && PySem.W.fnIn K f)
theorem supMB_ok {K : PySem.W.Frag} {D f : Addr} {m : Str} (h : supMB K D m f = true) : SupM K D m f := by
  unfold supMB at h
  obtain ⟨h1, h⟩ := He.ba h
  obtain ⟨h2, h3⟩ := He.ba h
  exact ⟨of_decide_eq_true h1, of_decide_eq_true h2, h3⟩
end Kb

/-! ### an own instance that an expression makes, called -/
namespace Kb
open PySem PySem.Spec PyProof.Rows L2 ClX
def tInstE (C : Addr) (sp : Sp) (E : L2.St → XK) (t0 : TE) (t : TA) : TE := fun σ H Q => t0 σ H fun v H1 => ∃ (a dx : Addr) (fs : List (Str × V)), v = .ref a ∧ H1 a = some (.ins C dx fs) ∧ t σ H1 fun vs H2 => (∃ fs', H2 a = some (.ins C dx fs')) ∧ sp (.ref a :: vs) H2 Q (E σ)
section
variable {X : Cx} {CX : CXT} {k : Nat} {x : Str} {C : Addr} {ps : List Str} {sp : Sp} {E : L2.St → XK} {W : WX} {e e0 : Expr} {es : List Expr} {t0 : TE} {t : TA} {p pos : Pos}
theorem wpAny_Call_Call {M : Model} {A : Around} {E : Value → Shared → Prop} {s : Shared} {env : Env} {f : Expr} {as : List Expr} {ks : List Keyword} {p pos : Pos} {args : List Expr} {keywords : List Keyword} {Q : Value → Shared → Prop}
    (h : wpAny M A (eval (.Call f as ks p) env) (fun f s₁ => wpAny M A (callWith pos f [] (backTo pos (starEach args env)) (backToKw pos (keywordEach keywords env))) Q E s₁) E s) :
    wpAny M A (eval (.Call (.Call f as ks p) args keywords pos) env) Q E s := by
  show wpAny M A (do callWith pos (← eval (.Call f as ks p) env) [] (backTo pos (starEach args env)) (backToKw pos (keywordEach keywords env))) Q E s
  exact wpAny_bind h
theorem pe_instE {f0 : Expr} {as0 : List Expr} {ks0 : List Keyword} {p0 : Pos} (F : MtC X.prog X.w X.K X.mg X.base CX k C "__call__" ps sp) (hfn : ∀ f, Meth X.K C "__call__" f → PySem.W.fnIn X.K f = true) (hr : Room k X.A) (hx : ∀ σ, PassesAt CX X σ (E σ)) (h0 : PE X (.Call f0 as0 ks0 p0) t0) (ha : PA X (e :: es) t)
    (he : starEach (e :: es) X.env = (false, eval e X.env) :: starEach es X.env := by rfl) (hpl : (backTo pos (starEach es X.env)).any (·.1) = false := by rfl) :
    PE X (.Call (.Call f0 as0 ks0 p0) (e :: es) [] pos) (tInstE C sp E t0 t) := by
  obtain ⟨f, fd, h, M, hb⟩ := F.ex
  refine ⟨fun pins s σ H Q I hh => ?_⟩
  refine wpAny_Call_Call (thn (h0.run pins s σ H _ I hh) fun u s1 ⟨v, H1, I1, r1, q1⟩ => ?_)
  obtain ⟨a, dx, fs, rfl, hA, ht⟩ := q1
  cases r1
  refine PySem.W.callWith_inst (K := X.K) (dx := dx) (C := C) (thn (ha.run pos pins s1 σ _ _ I1 ht) fun us s2 ⟨vs, H2, I2, r, ⟨fs', hA2⟩, q⟩ => ?_) he hpl
  obtain ⟨mA, O, _⟩ := ins_get I2.hok hA2
  obtain ⟨od, J, _⟩ := O.look
  refine ⟨⟨I2.kIn, _, J⟩, wpAny_call (PySem.W.kco_code I2.kIn J rfl M.at_ M.fn (hfn f M) ?_)⟩
  have hl : (Value.ref a :: us).length = ps.length := by
    rw [← h.len _ _ _ _ q]
    show us.length + 1 = vs.length + 1
    rw [r.length]
  have b := hb s2 (.ref a :: us) I2.kIn (by rw [List.append_nil]; exact hl)
  rw [List.append_nil] at b
  refine codeAny_mono (h.run X.A X.stack s2 H2 ⟨.ref a :: us, []⟩ (.ref a :: us) (.ref a :: vs) Q (E σ) hr I2.env0 b (.cons rfl r) q) fun r s' hq => ?_
  cases r with
  | error e => exact hx σ _ H2 s2 e s' I2 hq
  | ok fl =>
    cases fl with
    | ret u => exact I2.after hq
    | next => exact False.elim hq
    | brk => exact False.elim hq
    | cont => exact False.elim hq
theorem pe_instEC {f0 : Expr} {as0 : List Expr} {ks0 : List Keyword} {p0 : Pos} (F : MtC X.prog X.w X.K X.mg X.base CX0 k C "__call__" ps sp) (hfn : ∀ f, Meth X.K C "__call__" f → PySem.W.fnIn X.K f = true) (hr : Room k X.A) (h0 : PE X (.Call f0 as0 ks0 p0) t0) (ha : PA X (e :: es) t)
    (he : starEach (e :: es) X.env = (false, eval e X.env) :: starEach es X.env := by rfl) (hpl : (backTo pos (starEach es X.env)).any (·.1) = false := by rfl) :
    PE X (.Call (.Call f0 as0 ks0 p0) (e :: es) [] pos) (tInstE C sp (fun _ => E0) t0 t) := pe_instE F hfn hr (fun _ _ _ _ _ _ _ z => (show False from z).elim) h0 ha he hpl
end
end Kb

/-! ### a tuple taken no times, once, or often -/
namespace Kb
open PySem PySem.Spec PyProof.Rows L2
theorem tuple_mul1 (l : Addr) (items : Array Value) (n : Nat) (dd : Option Addr) (sl : Array (Option Value)) (u : Tok) :
    Meets (Builtin.«tuple.__mul__» ⟨[.ref l, .int 1 u], []⟩) (fun _ R s => s.heap.get? l = some { cls := .type "tuple", dict := dd, data := .seq items n, slots := sl } ∧ R (.ok (.ret (Value.ref l))) s) :=
  .of_wp fun prog w A R s h => by
    obtain ⟨hp, g, d, tk, os⟩ := s
    obtain ⟨hl, h⟩ := h
    have f1 := AutoSeq1.idx_int
    have c0 : (decide ((1 : Int) < -(2 ^ 63)) || decide ((1 : Int) ≥ 2 ^ 63)) = false := by decide
    have c1 : (items.isEmpty || (1 : Int) == 1) = true := by simp
    wp_walk using wpAny_loadPart' hl
    repeat (first
      | (refine wpAny_ite_false (decide_eq_false (by rw [c0]; exact Bool.false_ne_true)) ?_; wp_walk using wpAny_loadPart' hl)
      | (refine wpAny_ite_true (decide_eq_true c1) ?_; wp_walk using wpAny_loadPart' hl))
    exact ⟨_, rfl, h⟩
theorem tuple_mul0 (l : Addr) (items : Array Value) (n : Nat) (dd : Option Addr) (sl : Array (Option Value)) (u : Tok) (hi : items.isEmpty = false) :
    Meets (Builtin.«tuple.__mul__» ⟨[.ref l, .int 0 u], []⟩) (fun _ R s => s.heap.get? l = some { cls := .type "tuple", dict := dd, data := .seq items n, slots := sl } ∧
      R (.ok (.ret (Value.ref s.heap.objs.size))) { s with heap := s.heap.push { cls := Value.type "tuple", data := Data.seq #[] }, toks := s.toks }) :=
  .of_wp fun prog w A R s h => by
    obtain ⟨hp, g, d, tk, os⟩ := s
    obtain ⟨hl, h⟩ := h
    have f1 := AutoSeq1.idx_int
    have c0 : (decide ((0 : Int) < -(2 ^ 63)) || decide ((0 : Int) ≥ 2 ^ 63)) = false := by decide
    have c1 : (items.isEmpty || (0 : Int) == 1) = false := by rw [hi]; rfl
    have c2 : (decide ((0 : Int) ≤ 0) || items.isEmpty) = true := by simp
    wp_walk using wpAny_loadPart' hl
    repeat (first
      | (refine wpAny_ite_false (decide_eq_false (by rw [c0]; exact Bool.false_ne_true)) ?_; wp_walk using wpAny_loadPart' hl)
      | (refine wpAny_ite_false (decide_eq_false (by rw [c1]; exact Bool.false_ne_true)) ?_; wp_walk using wpAny_loadPart' hl)
      | (refine wpAny_ite_true (decide_eq_true c2) ?_; wp_walk using wpAny_loadPart' hl))
    exact ⟨_, rfl, h⟩
/-- a tuple that is not empty, taken k times -/
def rRepTA (K : PySem.W.Frag) : R2 := fun x y H Q => ∃ (l : Addr) (k : Nat) (xs : List V), x = .ref l ∧ y = .int (k : Nat) ∧ SqT K H l xs ∧ xs ≠ [] ∧ k ≤ 1000 ∧ xs.length ≤ 1000 ∧ ∀ p H', Same H H' → SqT K H' p (List.replicate k xs).flatten → Q (.ref p) H'
theorem same_upd {H : Hp} {p : Addr} {o : HO} (h : H p = none) : Same H (upd H p o) := fun b u e => by rw [upd_ne (fun q => by rw [q, h] at e; cases e)]; exact e
section
variable {X : Cx}
theorem op_repTA : OpR X (binaryOp .Mult) (rRepTA X.K) := by
  intro pins s σ H x y v u Q I rx ry h
  obtain ⟨l, k, xs, rfl, rfl, hT, hne, h2, hz, q⟩ := h
  by_cases k2 : 2 ≤ k
  · refine op_repT pins s σ H _ _ v u Q I rx ry ⟨l, (k : Nat), xs, rfl, rfl, hT, hne, by omega, by omega, hz, fun p hp => ?_⟩
    refine q p _ (same_upd hp) (SqT.of ?_)
    rw [upd_same, Int.toNat_natCast]
  · cases rx
    obtain ⟨t, rfl⟩ := ry
    obtain ⟨its, r, ⟨⟨cls, dd, data, sl⟩, ho, hc, n, hd⟩, hs⟩ := I.tuple hT
    simp only at hc hd
    subst hc hd
    have hi : its.toArray.isEmpty = false := by
      cases its with
      | nil =>
        have e := r.length
        exact absurd (List.eq_nil_of_length_eq_zero e) hne
      | cons a b => rfl
    have hk : k = 0 ∨ k = 1 := by omega
    rcases hk with rfl | rfl
    · refine wpAny_binaryOp_repeat_ref (T := "tuple") (U := "int") (by decide) ⟨_, ho, rfl⟩ (fun s' => typeIs_int s' 0 t) noFill_tuple_mul F.fills_int_mul F.slot_int_rmul repeat_tuple F.slot_int_index.lookup
        (call_meets F.slot_int_rmul (typeIs_int s 0 t) F.entry_int_rmul (F.args_int_rmul_2 _ _) (int_rmul_tuple 0 t l its.toArray n dd sl)
          ⟨ho, rfl, ⟨_, ho, rfl⟩, call_meets F.slot_tuple_mul ⟨_, ho, rfl⟩ F.entry_tuple_mul (F.args_tuple_mul_2 _ _) (tuple_mul0 l its.toArray n dd sl t hi) ⟨ho, ?_⟩⟩)
      have nf := I.hok.fresh (Nat.le_refl s.heap.objs.size)
      exact ⟨.ref s.heap.objs.size, _, I.laid (t' := s.toks) (o := .tup []) (fun b ob q => Heap.get?_push_of_some _ q) (Nat.le_refl _) ⟨by show 0 ≤ sizeLine; exact Nat.zero_le _, [], .nil, IsTup.new _ _⟩, rfl, q _ _ (same_upd nf) (SqT.of upd_same)⟩
    · refine wpAny_binaryOp_repeat_ref (T := "tuple") (U := "int") (by decide) ⟨_, ho, rfl⟩ (fun s' => typeIs_int s' 1 t) noFill_tuple_mul F.fills_int_mul F.slot_int_rmul repeat_tuple F.slot_int_index.lookup
        (call_meets F.slot_int_rmul (typeIs_int s 1 t) F.entry_int_rmul (F.args_int_rmul_2 _ _) (int_rmul_tuple 1 t l its.toArray n dd sl)
          ⟨ho, rfl, ⟨_, ho, rfl⟩, call_meets F.slot_tuple_mul ⟨_, ho, rfl⟩ F.entry_tuple_mul (F.args_tuple_mul_2 _ _) (tuple_mul1 l its.toArray n dd sl t) ⟨ho, ?_⟩⟩)
      refine ⟨.ref l, H, I, rfl, q _ _ (Same.refl _) ?_⟩
      rw [show (List.replicate 1 xs).flatten = xs from by simp]
      exact hT
end
end Kb

/-! ### zip of a text and a list -/
namespace Kb
open PySem PySem.Spec PyProof.Rows L2
/-- the signs of z beside the items of the list at b, in new pairs -/
def ItzS (K : PySem.W.Frag) (z : Str) (b : Addr) : It :=
  ⟨fun i H => ∃ (ys : List V) (y : V), SqL K H b ys ∧ i < z.cps.size ∧ ys[i]? = some y,
    fun i H v H' => ∃ T c y, v = .ref T ∧ H T = none ∧ H' = upd H T (.tup [.str ⟨#[c]⟩, y]) ∧ z.cps[i]? = some c ∧ ∀ ys, SqL K H b ys → ys[i]? = some y,
    fun i H => ∃ ys : List V, SqL K H b ys ∧ i ≤ z.cps.size ∧ i ≤ ys.length ∧ (i = z.cps.size ∨ i = ys.length)⟩
def StZ (z0 TI TO i1 i2 b : Addr) (z : Str) (t : Tok) (i : Nat) (h : Heap) : Prop := IsZip h z0 TI TO .none ∧ IsTupOf2 h TI (.ref i1) (.ref i2) ∧ (∃ x y, IsTupOf2 h TO x y) ∧ h.IsStrIter i1 (strIterType z) z t i ∧ h.IsListIter i2 b i
theorem turn_zipS {P : Program} {w : World} {K : PySem.W.Frag} {elts : List Expr} {kk : Nat} {tpos : Pos} {b z0 TI TO i1 i2 : Addr} {z : Str} {t : Tok} (d1 : TI ≠ z0) (d2 : TO ≠ z0) (d3 : TI ≠ TO) (d4 : TI ≠ i1) (d5 : TI ≠ i2) (d6 : TO ≠ i1) (d7 : TO ≠ i2) (d8 : i1 ≠ i2) (d9 : i1 ≠ z0) (d10 : i2 ≠ z0) (e1 : b ≠ z0) (e2 : b ≠ TO) (e3 : b ≠ i1) (e4 : b ≠ i2) :
    Turn P w K (.Tuple elts kk tpos) (ItzS K z b) [z0, TI, TO, i1, i2] z0 (StZ z0 TI TO i1 i2 b z t) := by
  have sep : ZipSep2 z0 TI TO i1 i2 [i1] [i2, b] := {
    TIz := d1, TOz := d2, TITO := d3, TIi1 := d4, mem1 := List.mem_singleton.mpr rfl, zf1 := fun h => d9 (List.mem_singleton.mp h).symm, Tf1 := fun h => d6 (List.mem_singleton.mp h)
    TIi2 := d5, mem2 := .head _
    zf2 := fun h => by
      simp only [List.mem_cons, List.not_mem_nil, or_false] at h
      exact h.elim (fun q => d10 q.symm) fun q => e1 q.symm
    Tf2 := fun h => by
      simp only [List.mem_cons, List.not_mem_nil, or_false] at h
      exact h.elim d7 fun q => e2 q.symm
    sep1_2 := fun h => by
      simp only [List.mem_cons, List.not_mem_nil, or_false] at h
      exact h.elim d8 fun q => e3 q.symm
    sep2_1 := fun h => d8 (List.mem_singleton.mp h).symm }
  refine { mem := by simp, obj := fun i h st c hc => ?_, keep := fun i h h' st k => ?_, item := ?_, done := ?_, self := fun A i s Q E st h => wpAny_pyIter_zip st.1 h }
  · obtain ⟨hz, hTI, ⟨x, y, hTO⟩, ⟨o1, q1, _, p1⟩, ⟨o2, q2, _, p2⟩⟩ := st
    simp only [List.mem_cons, List.not_mem_nil, or_false] at hc
    rcases hc with rfl | rfl | rfl | rfl | rfl
    · exact ⟨_, hz, fun v q => nomatch q⟩
    · exact ⟨_, hTI, fun v q => nomatch q⟩
    · exact ⟨_, hTO, fun v q => nomatch q⟩
    · exact ⟨o1, q1, fun v q => by rw [p1] at q; cases q⟩
    · exact ⟨o2, q2, fun v q => by rw [p2] at q; cases q⟩
  · obtain ⟨hz, hTI, ⟨x, y, hTO⟩, ⟨o1, q1, r1⟩, h2⟩ := st
    exact ⟨k z0 (by simp) _ hz, k TI (by simp) _ hTI, ⟨x, y, k TO (by simp) _ hTO⟩, ⟨o1, k i1 (by simp) o1 q1, r1⟩, h2.at fun o q => k i2 (by simp) o q⟩
  · intro X hP hw hK hc i pins s σ H E I hf st hg
    subst hP hw hK
    obtain ⟨hz, hTI, ⟨x0, y0, hTO⟩, h1, h2⟩ := st
    obtain ⟨ys, y, hqy, lt, hy⟩ := hg
    obtain ⟨its, rv, p, _⟩ := I.list hqy
    obtain ⟨u, hu, ru⟩ := rv.get hy
    have hd : X.A.in1.handled = none := I.ok.hd hc
    have hzl : z0 < s.heap.objs.size := Heap.lt_size hz
    have lt2 : i < its.toArray.size := by rw [List.size_toArray]; exact (List.getElem?_eq_some_iff.mp hu).1
    refine wpAny_pyNext_zipD2_item sep (Draws.text hd i1 z t) (Draws.list hd i2 b e4 its.toArray) hz hTI hTO h1 ⟨h2, p.isList⟩ lt lt2 fun v1 v2 h' tk q1 q2 z' TO' g1 g2 hT hsz hk => ?_
    obtain ⟨cc, tt, hcc, rfl⟩ := q1
    have ev : v2 = u := by
      have q2 : its.toArray[i]? = some v2 := q2
      rw [List.getElem?_toArray, hu] at q2
      exact (Option.some.inj q2).symm
    subst ev
    refine ⟨_, rfl, wpAny_letOwnedTupleGo_zip (s := { s with heap := h', toks := tk }) z' fun h'' z'' sb => ?_⟩
    have hT2 : h''.get? s.heap.objs.size = some { cls := .type "tuple", data := .seq #[.str ⟨#[cc]⟩ tt, v2] } := (sb.2 _ (Nat.ne_of_gt hzl)).trans hT
    have new : ObjOk X.prog X.w (upd H s.heap.objs.size (.tup [.str ⟨#[cc]⟩, y])) h'' s.heap.objs.size (.tup [.str ⟨#[cc]⟩, y]) :=
      ⟨by show 2 ≤ sizeLine; decide, [.str ⟨#[cc]⟩ tt, v2], .cons ⟨tt, rfl⟩ (.cons ru .nil), ⟨_, hT2, rfl, _, rfl⟩⟩
    have I1 : Inv X pins σ (upd H s.heap.objs.size (.tup [.str ⟨#[cc]⟩, y])) { s with heap := h'', toks := tk } :=
      I.turnedNew (t' := tk) (ch := [z0, TI, TO, i1, i2]) (fun c o hb q => (sb.2 c (fun q' => hb (by simp [q']))).trans (hk c o (fun q' => hb (by simp [q'])) (fun q' => hb (by simp [q'])) (fun q' => hb (by simp [q'])) (fun q' => hb (by simp [q'])) q)) hf (Nat.le_refl _) new
    refine ⟨.ref s.heap.objs.size, _, I1, rfl, ⟨_, cc, y, rfl, I.hok.fresh (Nat.le_refl _), rfl, hcc, fun l hl => by rw [I.list_inj hl hqy]; exact hy⟩, ⟨z'', ?_, ⟨.str ⟨#[cc]⟩ tt, v2, ?_⟩, ?_, ?_⟩, fun c hcm => ?_⟩
    · exact (sb.2 _ d1).trans (hk _ _ d1 d3 d4 d5 hTI)
    · exact (sb.2 _ d2).trans TO'
    · obtain ⟨o1, w1, w2⟩ := g1
      exact ⟨o1, (sb.2 _ d9).trans w1, w2⟩
    · exact g2.1.at fun o q => (sb.2 _ d10).trans q
    · have hlt : c < s.heap.objs.size := by
        simp only [List.mem_cons, List.not_mem_nil, or_false] at hcm
        rcases hcm with rfl | rfl | rfl | rfl | rfl
        · exact hzl
        · exact Heap.lt_size hTI
        · exact Heap.lt_size hTO
        · obtain ⟨_, w1, _⟩ := h1
          exact Heap.lt_size w1
        · obtain ⟨_, w1, _⟩ := h2
          exact Heap.lt_size w1
      rw [upd_ne (Nat.ne_of_lt hlt)]
      exact (hf c hcm).1
  · intro X hP hw hK hc i pins s σ H E I hf st hg
    subst hP hw hK
    obtain ⟨hz, hTI, ⟨x0, y0, hTO⟩, h1, h2⟩ := st
    obtain ⟨ys, hqy, le1, le2, hend⟩ := hg
    obtain ⟨its, rv, p, _⟩ := I.list hqy
    have hd : X.A.in1.handled = none := I.ok.hd hc
    have l2 : its.toArray.size = ys.length := by rw [List.size_toArray]; exact rv.length.symm
    exact wpAny_pyNext_zipD2_end sep (Draws.text hd i1 z t) (Draws.list hd i2 b e4 its.toArray) hz hTI hTO h1 ⟨h2, p.isList⟩ le1 (by omega) (by omega) fun h' tk hk => ⟨rfl, I.turnedL (t' := tk) (ch := [z0, TI, TO, i1, i2]) (fun c o hb q =>
      hk c o (fun q' => hb (by simp [q'])) (fun q' => hb (by simp [q'])) (fun q' => hb (by simp [q'])) (fun q' => hb (by simp [q'])) q) hf⟩
def iZipS (K : PySem.W.Frag) (ta : TA) : TI := fun σ H R => ta σ H fun vs H1 => ∃ z b ys, vs = [.str z, .ref b] ∧ SqL K H1 b ys ∧ R (ItzS K z b) H1
theorem pi_zipS {X : Cx} {e e2 : Expr} {ta : TA} {p pos tpos : Pos} {elts : List Expr} {kk : Nat} (hg : Gl X "zip") (hm : X.mg "zip" = none) (ha : PA X [e, e2] ta)
    (hs : starEach [e, e2] X.env = (false, eval e X.env) :: starEach [e2] X.env := by rfl) (hpl : (backTo pos (starEach [e2] X.env)).any (·.1) = false := by rfl) :
    PI X (.Tuple elts kk tpos) (.Call (.Name "zip" p) [e, e2] [] pos) (iZipS X.K ta) := by
  refine ⟨fun pins s σ H R I h => ?_⟩
  refine Call_ (ld_blt I hg hm PyProof.Rows.boot_zip (PyProof.Rows.callWith_type1 (thn (ha.run pos pins s σ H _ I h) fun us s1 ⟨vs, H1, I1, r1, q1⟩ => ?_) hs hpl))
  obtain ⟨z, b, ys, ex, hqy, q⟩ := q1
  subst ex
  cases r1 with
  | cons r rr =>
    cases rr with
    | cons r' rr =>
      cases rr
      obtain ⟨t, rfl⟩ := r
      cases r'
      obtain ⟨its2, rv2, p2, _⟩ := I1.list hqy
      have lb : b < s1.heap.objs.size := p2.lt
      refine zip_begins2 (begins_text z t) (begins_list b its2.toArray) trivial p2.isList fun h' hz hTI hTO g1 g2 hsz hk => wpAny_pyIter_zip hz ?_
      have I2 : Inv X pins σ H1 { s1 with heap := h' } := I1.kept (t' := s1.toks) hk
      have ne : ∀ {m n : Nat}, m ≠ n → s1.heap.objs.size + m ≠ s1.heap.objs.size + n := fun h e => h (Nat.add_left_cancel e)
      refine ⟨s1.heap.objs.size + 4, [s1.heap.objs.size + 4, s1.heap.objs.size + 2, s1.heap.objs.size + 3, s1.heap.objs.size, s1.heap.objs.size + 1], _, _, H1, rfl, I2,
        turn_zipS (t := t) (ne (by decide)) (ne (by decide)) (ne (by decide)) (ne (m := 2) (n := 0) (by decide)) (ne (by decide)) (ne (m := 3) (n := 0) (by decide)) (ne (by decide)) (ne (m := 0) (n := 1) (by decide)) (ne (m := 0) (n := 4) (by decide)) (ne (by decide)) (Nat.ne_of_lt (Nat.lt_of_lt_of_le lb (Nat.le_add_right _ _))) (Nat.ne_of_lt (Nat.lt_of_lt_of_le lb (Nat.le_add_right _ _))) (Nat.ne_of_lt lb) (Nat.ne_of_lt (Nat.lt_of_lt_of_le lb (Nat.le_add_right _ _))),
        ⟨hz, hTI, ⟨_, _, hTO⟩, ⟨_, g1, rfl, rfl⟩, ⟨_, g2, rfl, rfl⟩⟩, fun c hcm => ?_, q⟩
      have hle : s1.heap.objs.size ≤ c := by
        simp only [List.mem_cons, List.not_mem_nil, or_false] at hcm
        rcases hcm with rfl | rfl | rfl | rfl | rfl
        · exact Nat.le_add_right _ _
        · exact Nat.le_add_right _ _
        · exact Nat.le_add_right _ _
        · exact Nat.le_refl _
        · exact Nat.le_add_right _ _
      exact I1.fpOk hle (I1.hok.fresh hle)
end Kb

/-! ### the head by one run of the top (Kb32), with dicts of the module that have text keys -/
namespace Kb
open PySem PySem.Spec PyProof.Rows L2 ClX
/-- a table: where it stands, its keys in order -/
abbrev TabU : Type := (PySem.W.Frag → Addr) × List Str
abbrev AlU : Type := AlY × List (Option (List (Option (Str × Int))))
def obsU (fs : List (PySem.W.Frag → Bool)) (fn : List FY) (ts : List TabU) (K : PySem.W.Frag) : AlU := (obsY fs fn K, ts.map fun t => He.dicW K (t.1 K))
def valU (fn : List FY) (ts : List TabU) (w : World) : AlU := (valY fn, ts.map fun t => some (He.keysIn w.params t.2))
def SaysU (fs : List (PySem.W.Frag → Bool)) (fn : List FY) (ts : List TabU) (w : World) (K : PySem.W.Frag) : Prop := obsU fs fn ts K = valU fn ts w
def obsUG (n : Nat) (fs : List (PySem.W.Frag → Bool)) (fn : List FY) (ts : List TabU) (g : Addr → Option Obj) : AlU := obsU fs fn ts (He.frG g (asY g n))
def hookU (n : Nat) (fs : List (PySem.W.Frag → Bool)) (fn : List FY) (ts : List TabU) : PySem.W.Hook :=
  ⟨AlU, fun s => obsUG n fs fn ts s.heap.get?, fun w => valU fn ts w, fun w h => ∃ F : PySem.W.Frag, F.In h ∧ SaysU fs fn ts w F, fun _ s z => ⟨He.frG s.heap.get? (asY s.heap.get? n), He.frG_in, z⟩, fun _ _ _ said more => said.elim fun F z => ⟨F, PySem.W.Frag.In.keeps z.1 more, z.2⟩⟩
theorem obsUG_eq {n : Nat} {fs : List (PySem.W.Frag → Bool)} {fn : List FY} {ts : List TabU} {g : Addr → Option Obj} {s : Shared} (h : ∀ a, g a = s.heap.get? a) : obsUG n fs fn ts g = (hookU n fs fn ts).obs s := congrArg (obsUG n fs fn ts) (funext h)
section
variable {fs : List (PySem.W.Frag → Bool)} {fn : List FY} {ts : List TabU} {w : World} {K : PySem.W.Frag}
theorem SaysU.d (c : SaysU fs fn ts w K) : SaysY fs fn K := congrArg (fun z : AlU => z.1) c
theorem SaysU.tab (c : SaysU fs fn ts w K) (i : Nat) {t : TabU} (h : ts[i]? = some t) : ∃ es n, KDict K w (t.1 K) es n := by
  have e : ts.map (fun t => He.dicW K (t.1 K)) = ts.map fun t => some (He.keysIn w.params t.2) := congrArg (fun z : AlU => z.2) c
  have e2 : (ts.map fun t => He.dicW K (t.1 K))[i]? = (ts.map fun t => some (He.keysIn w.params t.2))[i]? := by rw [e]
  rw [List.getElem?_map, List.getElem?_map, h] at e2
  exact He.dicW_ok (Option.some.inj e2)
/-- the run looked at in parts, the tables beside -/
theorem zpartsU {S B : Type} {X : Option S} {lk : S → Bool} {sn : S → B} {Kf : S → PySem.W.Frag} {good : B} (h : X.map (fun s => (lk s, sn s, obsY fs fn (Kf s))) = some (true, good, valY fn))
    (h4 : X.map (fun s => ts.map fun t => He.dicW (Kf s) (t.1 (Kf s))) = some (ts.map fun t => some (He.keysIn w.params t.2))) : X.map (fun s => (lk s, sn s, obsU fs fn ts (Kf s))) = some (true, good, valU fn ts w) := by
  cases X with
  | none => cases h
  | some s =>
    have e := Prod.mk.inj (Option.some.inj h)
    have e' := Prod.mk.inj e.2
    have e4 : (ts.map fun t => He.dicW (Kf s) (t.1 (Kf s))) = (ts.map fun t => some (He.keysIn w.params t.2)) := Option.some.inj h4
    show some (lk s, sn s, obsU fs fn ts (Kf s)) = _
    unfold obsU valU
    rw [e.1, e'.1, e'.2, e4]
end
/-! a text as a key is hashed by its `__hash__`, looked up where a parameter of the world tells what is dropped: the run is made for both -/
def setF (w : World) (b : Bool) : World := { w with params := { w.params with followText := fun s => if s = "special-get-raises" then b else w.params.followText s } }
theorem setF_eq (w : World) {b : Bool} (h : w.params.followText "special-get-raises" = b) : setF w b = w := by
  obtain ⟨p, q⟩ := w
  have e : (fun s => if s = "special-get-raises" then b else q.followText s) = q.followText := funext fun s => by
    by_cases c : s = "special-get-raises"
    · rw [if_pos c, c]; exact h.symm
    · rw [if_neg c]
  show World.mk p { q with followText := fun s => if s = "special-get-raises" then b else q.followText s } = _
  rw [e]
theorem byF {P : World → Prop} (h1 : ∀ w, P (setF w true)) (h2 : ∀ w, P (setF w false)) (w : World) : P w := by
  cases h : w.params.followText "special-get-raises" with
  | true => have := h1 w; rwa [setF_eq w h] at this
  | false => have := h2 w; rwa [setF_eq w h] at this
/-- whole numbers that a dict of the module holds -/
def dctI (K : PySem.W.Frag) (a : Addr) (kvs : List (Str × Int)) : Bool := kvs.all fun q => match PySem.W.nsIn K a q.1 with
  | some (some (.int j _)) => decide (j = q.2)
  | _ => false
theorem dctI_ok {K : PySem.W.Frag} {w : World} {a : Addr} {kvs : List (Str × Int)} (d : ∃ es n, KDict K w a es n) (h : dctI K a kvs = true) {q : Str × Int} (hq : q ∈ kvs) : KDct K w a q.1 (.int q.2) := by
  have h2 := List.all_eq_true.mp h q hq
  obtain ⟨es, n, hl, hk, _⟩ := d
  split at h2
  · rename_i j t e
    have := of_decide_eq_true h2
    subst this
    exact ⟨es, n, _, hl, hk, e, t, rfl⟩
  · cases h2
end Kb

namespace Lw
open PySem PySem.Spec PyProof.Rows L2 ClX Kb
def top (i : Nat) : Stmt := PySem.Challenge.pw_unmarked_k44_runs_of_single_rows.main.body.getD i (.Pass ⟨0, 0, 0, 0⟩)
abbrev S__law_deal : Stmt := (top 98)
abbrev N__law_deal : List Str := ["_law_script", "_law_base", "_law_cells", "_law_seed", "_law_cell"]
theorem SC__law_deal : FnScope N__law_deal ["_law_script", "_law_base"] (defScope S__law_deal) := ⟨rfl, rfl, rfl, by decide +kernel, rfl, by decide +kernel, by decide +kernel⟩
abbrev S__law_draw : Stmt := (top 99)
abbrev N__law_draw : List Str := ["_law_deal_here", "_law_many", "_law_left", "_law_one", "_law_other"]
theorem SC__law_draw : FnScope N__law_draw ["_law_deal_here", "_law_many"] (defScope S__law_draw) := ⟨rfl, rfl, rfl, by decide +kernel, rfl, by decide +kernel, by decide +kernel⟩
abbrev S__law_pick : Stmt := (top 100)
abbrev N__law_pick : List Str := ["_law_deal_here", "_law_some"]
theorem SC__law_pick : FnScope N__law_pick ["_law_deal_here", "_law_some"] (defScope S__law_pick) := ⟨rfl, rfl, rfl, by decide +kernel, rfl, by decide +kernel, by decide +kernel⟩
abbrev S_is_integer : Stmt := (top 17)
abbrev N_is_integer : List Str := ["value"]
theorem SC_is_integer : FnScope N_is_integer ["value"] (defScope S_is_integer) := ⟨rfl, rfl, rfl, by decide +kernel, rfl, by decide +kernel, by decide +kernel⟩
abbrev S_is_name : Stmt := (top 19)
abbrev N_is_name : List Str := ["value", "letter"]
theorem SC_is_name : FnScope N_is_name ["value"] (defScope S_is_name) := ⟨rfl, rfl, rfl, by decide +kernel, rfl, by decide +kernel, by decide +kernel⟩
abbrev S_InvalidRow__init_ : Stmt := (inClass (top 5) 0)
abbrev N_InvalidRow__init_ : List Str := ["self", "part"]
theorem SC_InvalidRow__init_ : FnScope N_InvalidRow__init_ ["self", "part"] (defScope S_InvalidRow__init_) := ⟨rfl, rfl, rfl, by decide +kernel, rfl, by decide +kernel, by decide +kernel⟩
abbrev S_InvalidChange__init_ : Stmt := (inClass (top 4) 0)
abbrev N_InvalidChange__init_ : List Str := ["self"]
theorem SC_InvalidChange__init_ : FnScope N_InvalidChange__init_ ["self"] (defScope S_InvalidChange__init_) := ⟨rfl, rfl, rfl, by decide +kernel, rfl, by decide +kernel, by decide +kernel⟩
abbrev S_Change__init_ : Stmt := (inClass (top 30) 0)
abbrev N_Change__init_ : List Str := ["self", "a", "b", "c", "d", "numbers", "number"]
theorem SC_Change__init_ : FnScope N_Change__init_ ["self", "a", "b", "c", "d"] (defScope S_Change__init_) := ⟨rfl, rfl, rfl, by decide +kernel, rfl, by decide +kernel, by decide +kernel⟩
abbrev S_Change__str_ : Stmt := (inClass (top 30) 10)
abbrev N_Change__str_ : List Str := ["self", "number"]
theorem SC_Change__str_ : FnScope N_Change__str_ ["self"] (defScope S_Change__str_) := ⟨rfl, rfl, rfl, by decide +kernel, rfl, by decide +kernel, by decide +kernel⟩
abbrev S_need_name : Stmt := (top 33)
abbrev N_need_name : List Str := ["value", "part"]
theorem SC_need_name : FnScope N_need_name ["value", "part"] (defScope S_need_name) := ⟨rfl, rfl, rfl, by decide +kernel, rfl, by decide +kernel, by decide +kernel⟩
abbrev S_need_number : Stmt := (top 34)
abbrev N_need_number : List Str := ["value"]
theorem SC_need_number : FnScope N_need_number ["value"] (defScope S_need_number) := ⟨rfl, rfl, rfl, by decide +kernel, rfl, by decide +kernel, by decide +kernel⟩
abbrev S_need_test : Stmt := (top 35)
abbrev N_need_test : List Str := ["value"]
theorem SC_need_test : FnScope N_need_test ["value"] (defScope S_need_test) := ⟨rfl, rfl, rfl, by decide +kernel, rfl, by decide +kernel, by decide +kernel⟩
abbrev S_need_rows : Stmt := (top 36)
abbrev N_need_rows : List Str := ["rows", "row"]
theorem SC_need_rows : FnScope N_need_rows ["rows"] (defScope S_need_rows) := ⟨rfl, rfl, rfl, by decide +kernel, rfl, by decide +kernel, by decide +kernel⟩
abbrev S_Part__init_ : Stmt := (inClass (top 37) 1)
abbrev N_Part__init_ : List Str := ["self", "script", "used"]
theorem SC_Part__init_ : FnScope N_Part__init_ ["self", "script", "used"] (defScope S_Part__init_) := ⟨rfl, rfl, rfl, by decide +kernel, rfl, by decide +kernel, by decide +kernel⟩
abbrev S_Part__str_ : Stmt := (inClass (top 37) 3)
abbrev N_Part__str_ : List Str := ["self"]
theorem SC_Part__str_ : FnScope N_Part__str_ ["self"] (defScope S_Part__str_) := ⟨rfl, rfl, rfl, by decide +kernel, rfl, by decide +kernel, by decide +kernel⟩
abbrev S_Row_inner : Stmt := (inClass (top 38) 0)
abbrev N_Row_inner : List Str := ["self"]
theorem SC_Row_inner : FnScope N_Row_inner ["self"] (defScope S_Row_inner) := ⟨rfl, rfl, rfl, by decide +kernel, rfl, by decide +kernel, by decide +kernel⟩
abbrev S_Row_is_laying : Stmt := (inClass (top 38) 1)
abbrev N_Row_is_laying : List Str := ["self"]
theorem SC_Row_is_laying : FnScope N_Row_is_laying ["self"] (defScope S_Row_is_laying) := ⟨rfl, rfl, rfl, by decide +kernel, rfl, by decide +kernel, by decide +kernel⟩
abbrev S_Make__init_ : Stmt := (inClass (top 40) 1)
abbrev N_Make__init_ : List Str := ["self", "change", "__class__"]
theorem SC_Make__init_ : NdefX.NScope N_Make__init_ ["self", "change"] ["__class__"] (defScope S_Make__init_) := NdefX.nscope_by (by decide +kernel)
abbrev S_Exchange__init_ : Stmt := (inClass (top 41) 1)
abbrev N_Exchange__init_ : List Str := ["self", "__class__"]
theorem SC_Exchange__init_ : NdefX.NScope N_Exchange__init_ ["self"] ["__class__"] (defScope S_Exchange__init_) := NdefX.nscope_by (by decide +kernel)
abbrev S_Lay__init_ : Stmt := (inClass (top 42) 1)
abbrev N_Lay__init_ : List Str := ["self", "__class__"]
theorem SC_Lay__init_ : NdefX.NScope N_Lay__init_ ["self"] ["__class__"] (defScope S_Lay__init_) := NdefX.nscope_by (by decide +kernel)
abbrev S_Lay_is_laying : Stmt := (inClass (top 42) 2)
abbrev N_Lay_is_laying : List Str := ["self"]
theorem SC_Lay_is_laying : FnScope N_Lay_is_laying ["self"] (defScope S_Lay_is_laying) := ⟨rfl, rfl, rfl, by decide +kernel, rfl, by decide +kernel, by decide +kernel⟩
abbrev S_Put__init_ : Stmt := (inClass (top 43) 1)
abbrev N_Put__init_ : List Str := ["self", "note", "number", "__class__"]
theorem SC_Put__init_ : NdefX.NScope N_Put__init_ ["self", "note", "number"] ["__class__"] (defScope S_Put__init_) := NdefX.nscope_by (by decide +kernel)
abbrev S_Add__init_ : Stmt := (inClass (top 44) 1)
abbrev N_Add__init_ : List Str := ["self", "note", "number", "__class__"]
theorem SC_Add__init_ : NdefX.NScope N_Add__init_ ["self", "note", "number"] ["__class__"] (defScope S_Add__init_) := NdefX.nscope_by (by decide +kernel)
abbrev S_Tell__init_ : Stmt := (inClass (top 45) 1)
abbrev N_Tell__init_ : List Str := ["self", "mark", "__class__"]
theorem SC_Tell__init_ : NdefX.NScope N_Tell__init_ ["self", "mark"] ["__class__"] (defScope S_Tell__init_) := NdefX.nscope_by (by decide +kernel)
abbrev S_Stop__init_ : Stmt := (inClass (top 46) 1)
abbrev N_Stop__init_ : List Str := ["self", "__class__"]
theorem SC_Stop__init_ : NdefX.NScope N_Stop__init_ ["self"] ["__class__"] (defScope S_Stop__init_) := NdefX.nscope_by (by decide +kernel)
abbrev S_Stop_is_laying : Stmt := (inClass (top 46) 2)
abbrev N_Stop_is_laying : List Str := ["self"]
theorem SC_Stop_is_laying : FnScope N_Stop_is_laying ["self"] (defScope S_Stop_is_laying) := ⟨rfl, rfl, rfl, by decide +kernel, rfl, by decide +kernel, by decide +kernel⟩
abbrev S_If__init_ : Stmt := (inClass (top 47) 1)
abbrev N_If__init_ : List Str := ["self", "test", "rows", "others", "__class__", "behind"]
theorem SC_If__init_ : NdefX.NScope N_If__init_ ["self", "test", "rows", "others"] ["__class__"] (defScope S_If__init_) := NdefX.nscope_by (by decide +kernel)
abbrev S_If_inner : Stmt := (inClass (top 47) 2)
abbrev N_If_inner : List Str := ["self"]
theorem SC_If_inner : FnScope N_If_inner ["self"] (defScope S_If_inner) := ⟨rfl, rfl, rfl, by decide +kernel, rfl, by decide +kernel, by decide +kernel⟩
abbrev S_If_is_laying : Stmt := (inClass (top 47) 3)
abbrev N_If_is_laying : List Str := ["self"]
theorem SC_If_is_laying : FnScope N_If_is_laying ["self"] (defScope S_If_is_laying) := ⟨rfl, rfl, rfl, by decide +kernel, rfl, by decide +kernel, by decide +kernel⟩
abbrev S_Until__init_ : Stmt := (inClass (top 48) 1)
abbrev N_Until__init_ : List Str := ["self", "goal", "rows", "__class__"]
theorem SC_Until__init_ : NdefX.NScope N_Until__init_ ["self", "goal", "rows"] ["__class__"] (defScope S_Until__init_) := NdefX.nscope_by (by decide +kernel)
abbrev S_Until_inner : Stmt := (inClass (top 48) 2)
abbrev N_Until_inner : List Str := ["self"]
theorem SC_Until_inner : FnScope N_Until_inner ["self"] (defScope S_Until_inner) := ⟨rfl, rfl, rfl, by decide +kernel, rfl, by decide +kernel, by decide +kernel⟩
abbrev S_Until_is_laying : Stmt := (inClass (top 48) 3)
abbrev N_Until_is_laying : List Str := ["self"]
theorem SC_Until_is_laying : FnScope N_Until_is_laying ["self"] (defScope S_Until_is_laying) := ⟨rfl, rfl, rfl, by decide +kernel, rfl, by decide +kernel, by decide +kernel⟩
abbrev S_Longer__init_ : Stmt := (inClass (top 49) 1)
abbrev N_Longer__init_ : List Str := ["self", "__class__"]
theorem SC_Longer__init_ : NdefX.NScope N_Longer__init_ ["self"] ["__class__"] (defScope S_Longer__init_) := NdefX.nscope_by (by decide +kernel)
abbrev S_Shorter__init_ : Stmt := (inClass (top 50) 1)
abbrev N_Shorter__init_ : List Str := ["self", "__class__"]
theorem SC_Shorter__init_ : NdefX.NScope N_Shorter__init_ ["self"] ["__class__"] (defScope S_Shorter__init_) := NdefX.nscope_by (by decide +kernel)
abbrev S_Alike__init_ : Stmt := (inClass (top 51) 1)
abbrev N_Alike__init_ : List Str := ["self", "__class__"]
theorem SC_Alike__init_ : NdefX.NScope N_Alike__init_ ["self"] ["__class__"] (defScope S_Alike__init_) := NdefX.nscope_by (by decide +kernel)
abbrev S_Holds__init_ : Stmt := (inClass (top 52) 1)
abbrev N_Holds__init_ : List Str := ["self", "note", "number", "__class__"]
theorem SC_Holds__init_ : NdefX.NScope N_Holds__init_ ["self", "note", "number"] ["__class__"] (defScope S_Holds__init_) := NdefX.nscope_by (by decide +kernel)
abbrev S_Not__init_ : Stmt := (inClass (top 53) 1)
abbrev N_Not__init_ : List Str := ["self", "test", "__class__"]
theorem SC_Not__init_ : NdefX.NScope N_Not__init_ ["self", "test"] ["__class__"] (defScope S_Not__init_) := NdefX.nscope_by (by decide +kernel)
abbrev S_lines_of : Stmt := (top 54)
abbrev N_lines_of : List Str := ["rows", "found", "row"]
theorem SC_lines_of : FnScope N_lines_of ["rows"] (defScope S_lines_of) := ⟨rfl, rfl, rfl, by decide +kernel, rfl, by decide +kernel, by decide +kernel⟩
abbrev S_inner_rows : Stmt := (top 55)
abbrev N_inner_rows : List Str := ["rows", "found", "row"]
theorem SC_inner_rows : FnScope N_inner_rows ["rows"] (defScope S_inner_rows) := ⟨rfl, rfl, rfl, by decide +kernel, rfl, by decide +kernel, by decide +kernel⟩
abbrev S_has_laying : Stmt := (top 56)
abbrev N_has_laying : List Str := ["rows", "row"]
theorem SC_has_laying : FnScope N_has_laying ["rows"] (defScope S_has_laying) := ⟨rfl, rfl, rfl, by decide +kernel, rfl, by decide +kernel, by decide +kernel⟩
abbrev S_has_make : Stmt := (top 57)
abbrev N_has_make : List Str := ["rows", "row"]
theorem SC_has_make : FnScope N_has_make ["rows"] (defScope S_has_make) := ⟨rfl, rfl, rfl, by decide +kernel, rfl, by decide +kernel, by decide +kernel⟩
abbrev S_laid_out : Stmt := (top 69)
abbrev N_laid_out : List Str := ["rows", "at", "spot", "found", "row"]
theorem SC_laid_out : FnScope N_laid_out ["rows", "at", "spot"] (defScope S_laid_out) := ⟨rfl, rfl, rfl, by decide +kernel, rfl, by decide +kernel, by decide +kernel⟩
abbrev S_steps_of_row : Stmt := (top 70)
abbrev N_steps_of_row : List Str := ["row", "at", "spot", "some", "other", "more"]
theorem SC_steps_of_row : FnScope N_steps_of_row ["row", "at", "spot"] (defScope S_steps_of_row) := ⟨rfl, rfl, rfl, by decide +kernel, rfl, by decide +kernel, by decide +kernel⟩
abbrev S_steps_of : Stmt := (top 71)
abbrev N_steps_of : List Str := ["rows"]
theorem SC_steps_of : FnScope N_steps_of ["rows"] (defScope S_steps_of) := ⟨rfl, rfl, rfl, by decide +kernel, rfl, by decide +kernel, by decide +kernel⟩
abbrev S_is_note : Stmt := (top 92)
abbrev N_is_note : List Str := ["value"]
theorem SC_is_note : FnScope N_is_note ["value"] (defScope S_is_note) := ⟨rfl, rfl, rfl, by decide +kernel, rfl, by decide +kernel, by decide +kernel⟩
abbrev S_need_notes : Stmt := (top 93)
abbrev N_need_notes : List Str := ["notes", "known", "value"]
theorem SC_need_notes : FnScope N_need_notes ["notes"] (defScope S_need_notes) := ⟨rfl, rfl, rfl, by decide +kernel, rfl, by decide +kernel, by decide +kernel⟩
abbrev S_Program__init_ : Stmt := (inClass (top 96) 0)
abbrev N_Program__init_ : List Str := ["self", "rows", "notes", "known", "row", "name", "modulus"]
theorem SC_Program__init_ : FnScope N_Program__init_ ["self", "rows", "notes"] (defScope S_Program__init_) := ⟨rfl, rfl, rfl, by decide +kernel, rfl, by decide +kernel, by decide +kernel⟩
abbrev S_NoNote__init_ : Stmt := (inClass (top 9) 0)
abbrev N_NoNote__init_ : List Str := ["self", "name"]
theorem SC_NoNote__init_ : FnScope N_NoNote__init_ ["self", "name"] (defScope S_NoNote__init_) := ⟨rfl, rfl, rfl, by decide +kernel, rfl, by decide +kernel, by decide +kernel⟩
abbrev S_order_of : Stmt := (top 72)
abbrev N_order_of : List Str := ["numbers", "a", "b", "c", "d"]
theorem SC_order_of : FnScope N_order_of ["numbers"] (defScope S_order_of) := ⟨rfl, rfl, rfl, by decide +kernel, rfl, by decide +kernel, by decide +kernel⟩
abbrev S_wants_order : Stmt := (top 73)
abbrev N_wants_order : List Str := ["test"]
theorem SC_wants_order : FnScope N_wants_order ["test"] (defScope S_wants_order) := ⟨rfl, rfl, rfl, by decide +kernel, rfl, by decide +kernel, by decide +kernel⟩
abbrev S_Stepper__init_ : Stmt := (inClass (top 74) 0)
abbrev N_Stepper__init_ : List Str := ["self", "program", "spot", "rests", "numbers"]
theorem SC_Stepper__init_ : FnScope N_Stepper__init_ ["self", "program", "spot", "rests", "numbers"] (defScope S_Stepper__init_) := ⟨rfl, rfl, rfl, by decide +kernel, rfl, by decide +kernel, by decide +kernel⟩
abbrev S_Stepper_place_of : Stmt := (inClass (top 74) 1)
abbrev N_Stepper_place_of : List Str := ["self", "name", "at", "other", "modulus"]
theorem SC_Stepper_place_of : FnScope N_Stepper_place_of ["self", "name"] (defScope S_Stepper_place_of) := ⟨rfl, rfl, rfl, by decide +kernel, rfl, by decide +kernel, by decide +kernel⟩
abbrev S_Stepper_lay : Stmt := (inClass (top 74) 2)
abbrev N_Stepper_lay : List Str := ["self", "a", "b", "c", "d", "order"]
theorem SC_Stepper_lay : FnScope N_Stepper_lay ["self"] (defScope S_Stepper_lay) := ⟨rfl, rfl, rfl, by decide +kernel, rfl, by decide +kernel, by decide +kernel⟩
abbrev S_Stepper_holds : Stmt := (inClass (top 74) 3)
abbrev N_Stepper_holds : List Str := ["self", "test", "at", "order"]
theorem SC_Stepper_holds : FnScope N_Stepper_holds ["self", "test"] (defScope S_Stepper_holds) := ⟨rfl, rfl, rfl, by decide +kernel, rfl, by decide +kernel, by decide +kernel⟩
abbrev S_Stepper_is_waiting : Stmt := (inClass (top 74) 4)
abbrev N_Stepper_is_waiting : List Str := ["self", "kind", "at", "row", "to"]
theorem SC_Stepper_is_waiting : FnScope N_Stepper_is_waiting ["self"] (defScope S_Stepper_is_waiting) := ⟨rfl, rfl, rfl, by decide +kernel, rfl, by decide +kernel, by decide +kernel⟩
abbrev S_Stepper_do : Stmt := (inClass (top 74) 5)
abbrev N_Stepper_do : List Str := ["self", "row", "at", "held"]
theorem SC_Stepper_do : FnScope N_Stepper_do ["self", "row"] (defScope S_Stepper_do) := ⟨rfl, rfl, rfl, by decide +kernel, rfl, by decide +kernel, by decide +kernel⟩
abbrev S_Stepper_step : Stmt := (inClass (top 74) 6)
abbrev N_Stepper_step : List Str := ["self", "kind", "at", "row", "to"]
theorem SC_Stepper_step : FnScope N_Stepper_step ["self"] (defScope S_Stepper_step) := ⟨rfl, rfl, rfl, by decide +kernel, rfl, by decide +kernel, by decide +kernel⟩
abbrev S_Stepper_go : Stmt := (inClass (top 74) 7)
abbrev N_Stepper_go : List Str := ["self"]
theorem SC_Stepper_go : FnScope N_Stepper_go ["self"] (defScope S_Stepper_go) := ⟨rfl, rfl, rfl, by decide +kernel, rfl, by decide +kernel, by decide +kernel⟩
abbrev S_is_length : Stmt := (top 18)
abbrev N_is_length : List Str := ["value"]
theorem SC_is_length : FnScope N_is_length ["value"] (defScope S_is_length) := ⟨rfl, rfl, rfl, by decide +kernel, rfl, by decide +kernel, by decide +kernel⟩
abbrev S_NoPair__init_ : Stmt := (inClass (top 7) 0)
abbrev N_NoPair__init_ : List Str := ["self"]
theorem SC_NoPair__init_ : FnScope N_NoPair__init_ ["self"] (defScope S_NoPair__init_) := ⟨rfl, rfl, rfl, by decide +kernel, rfl, by decide +kernel, by decide +kernel⟩
abbrev S_numbers_joined : Stmt := (top 29)
abbrev N_numbers_joined : List Str := ["one", "other", "a", "b", "c", "d", "e", "f", "g", "h"]
theorem SC_numbers_joined : FnScope N_numbers_joined ["one", "other"] (defScope S_numbers_joined) := ⟨rfl, rfl, rfl, by decide +kernel, rfl, by decide +kernel, by decide +kernel⟩
abbrev S_need_lengths : Stmt := (top 77)
abbrev N_need_lengths : List Str := ["first", "second", "value"]
theorem SC_need_lengths : FnScope N_need_lengths ["first", "second"] (defScope S_need_lengths) := ⟨rfl, rfl, rfl, by decide +kernel, rfl, by decide +kernel, by decide +kernel⟩
abbrev S_run : Stmt := (top 78)
abbrev N_run : List Str := ["program", "first", "second", "here", "marks", "kind", "word"]
theorem SC_run : FnScope N_run ["program", "first", "second"] (defScope S_run) := ⟨rfl, rfl, rfl, by decide +kernel, rfl, by decide +kernel, by decide +kernel⟩
abbrev S_Outcome__init_ : Stmt := (inClass (top 76) 0)
abbrev N_Outcome__init_ : List Str := ["self", "marks", "rods", "stopped", "layings"]
theorem SC_Outcome__init_ : FnScope N_Outcome__init_ ["self", "marks", "rods", "stopped", "layings"] (defScope S_Outcome__init_) := ⟨rfl, rfl, rfl, by decide +kernel, rfl, by decide +kernel, by decide +kernel⟩
abbrev S_Program__call_ : Stmt := (inClass (top 96) 10)
abbrev N_Program__call_ : List Str := ["self", "first", "second"]
theorem SC_Program__call_ : FnScope N_Program__call_ ["self", "first", "second"] (defScope S_Program__call_) := ⟨rfl, rfl, rfl, by decide +kernel, rfl, by decide +kernel, by decide +kernel⟩
abbrev S__law_number : Stmt := (top 101)
abbrev N__law_number : List Str := ["_law_deal_here", "_law_form"]
theorem SC__law_number : FnScope N__law_number ["_law_deal_here"] (defScope S__law_number) := ⟨rfl, rfl, rfl, by decide +kernel, rfl, by decide +kernel, by decide +kernel⟩
abbrev S__law_change : Stmt := (top 102)
abbrev N__law_change : List Str := ["_law_deal_here", "_law_some"]
theorem SC__law_change : FnScope N__law_change ["_law_deal_here"] (defScope S__law_change) := ⟨rfl, rfl, rfl, by decide +kernel, rfl, by decide +kernel, by decide +kernel⟩
abbrev S__law_two : Stmt := (top 103)
abbrev N__law_two : List Str := ["_law_deal_here", "_law_form", "_law_unit"]
theorem SC__law_two : FnScope N__law_two ["_law_deal_here"] (defScope S__law_two) := ⟨rfl, rfl, rfl, by decide +kernel, rfl, by decide +kernel, by decide +kernel⟩
abbrev S__law_told : Stmt := (top 104)
abbrev N__law_told : List Str := ["_law_outcome"]
theorem SC__law_told : FnScope N__law_told ["_law_outcome"] (defScope S__law_told) := ⟨rfl, rfl, rfl, by decide +kernel, rfl, by decide +kernel, by decide +kernel⟩
abbrev S__law_simple_right : Stmt := (top 105)
abbrev N__law_simple_right : List Str := ["_law_deal_here", "_law_x", "_law_y", "_law_numbers", "_law_a", "_law_b", "_law_c", "_law_d", "_law_built", "_law_rods", "_law_laid"]
theorem SC__law_simple_right : FnScope N__law_simple_right ["_law_deal_here", "_law_x", "_law_y"] (defScope S__law_simple_right) := ⟨rfl, rfl, rfl, by decide +kernel, rfl, by decide +kernel, by decide +kernel⟩
abbrev S__law_tests_right : Stmt := (top 106)
abbrev N__law_tests_right : List Str := ["_law_x", "_law_y", "_law_test", "_law_due", "_law_some", "_law_word", "_law_heard"]
theorem SC__law_tests_right : FnScope N__law_tests_right ["_law_x", "_law_y"] (defScope S__law_tests_right) := ⟨rfl, rfl, rfl, by decide +kernel, rfl, by decide +kernel, by decide +kernel⟩
abbrev S__law_notes_right : Stmt := (top 107)
abbrev N__law_notes_right : List Str := ["_law_deal_here", "_law_x", "_law_y", "_law_modulus", "_law_first", "_law_more", "_law_asked", "_law_rows", "_law_held", "_law_due", "_law_word", "_law_number_here"]
theorem SC__law_notes_right : FnScope N__law_notes_right ["_law_deal_here", "_law_x", "_law_y"] (defScope S__law_notes_right) := ⟨rfl, rfl, rfl, by decide +kernel, rfl, by decide +kernel, by decide +kernel⟩
abbrev S__law_until_right : Stmt := (top 108)
abbrev N__law_until_right : List Str := ["_law_x", "_law_y", "_law_heard", "_law_first", "_law_second", "_law_many", "_law_less", "_law_rest"]
theorem SC__law_until_right : FnScope N__law_until_right ["_law_x", "_law_y"] (defScope S__law_until_right) := ⟨rfl, rfl, rfl, by decide +kernel, rfl, by decide +kernel, by decide +kernel⟩
abbrev S_law : Stmt := (top 109)
abbrev N_law : List Str := ["_law_script", "_law_deal_here", "_law_turn", "_law_x", "_law_y"]
theorem SC_law : FnScope N_law ["_law_script"] (defScope S_law) := ⟨rfl, rfl, rfl, by decide +kernel, rfl, by decide +kernel, by decide +kernel⟩
structure Txt (K : PySem.W.Frag) (mg : Str → Option Value) : Prop where
  b_ValueError : mg "ValueError" = none
  b_abs : mg "abs" = none
  b_all : mg "all" = none
  b_any : mg "any" = none
  b_bool : mg "bool" = none
  b_enumerate : mg "enumerate" = none
  b_int : mg "int" = none
  b_isinstance : mg "isinstance" = none
  b_len : mg "len" = none
  b_list : mg "list" = none
  b_max : mg "max" = none
  b_min : mg "min" = none
  b_range : mg "range" = none
  b_repr : mg "repr" = none
  b_sorted : mg "sorted" = none
  b_str : mg "str" = none
  b_sum : mg "sum" = none
  b_super : mg "super" = none
  b_tuple : mg "tuple" = none
  b_zip : mg "zip" = none
namespace Pg
def letters : Str := "abcdefghijklmnopqrstuvwxyz"
/-- the classes -/
structure Clz where
  make : Addr
  exch : Addr
  lay : Addr
  put : Addr
  add : Addr
  tell : Addr
  stop : Addr
  ifb : Addr
  untl : Addr
  longer : Addr
  shorter : Addr
  alike : Addr
  holds : Addr
  not : Addr
  row : Addr
  test : Addr
  part : Addr
  change : Addr
/-- the names of attributes -/
def fnames : List Str := ["script", "used", "note", "number", "mark", "change", "test", "rows", "others", "goal"]
def pclz (K : PySem.W.Frag) : Clz := ⟨He.ga K "Make", He.ga K "Exchange", He.ga K "Lay", He.ga K "Put", He.ga K "Add", He.ga K "Tell", He.ga K "Stop", He.ga K "If", He.ga K "Until", He.ga K "Longer", He.ga K "Shorter", He.ga K "Alike", He.ga K "Holds", He.ga K "Not", He.ga K "Row", He.ga K "Test", He.ga K "Part", He.ga K "Change"⟩
def conB (K : PySem.W.Frag) (C : Addr) (z : Str) : Bool := match PySem.W.findIn K (.ref C) "SORT" with
  | some (some (.str y t)) => decide (y = z) && decide (PySem.W.specialIn K (.str y t) "__get__" = some none)
  | _ => false
def riB (K : PySem.W.Frag) (c : Clz) (C : Addr) (sort : Str) (ir : Bool) : Bool := insB K C && (fnames.all (fun f => decide (PySem.W.findIn K (.ref C) f = some none)) && (conB K C sort && (decide (PySem.W.kitOne K (.ref C) (.ref c.row) = some ir) && (decide (PySem.W.kitOne K (.ref C) (.ref c.test) = some (!ir)) &&
  (decide (PySem.W.kitOne K (.ref C) (.ref c.part) = some true) && (decide (PySem.W.kitOne K (.ref C) (.ref c.change) = some false) && decide (PySem.W.kitOne K (.ref C) (.ref c.make) = some (decide (C = c.make)))))))))
def rowCs (c : Clz) : List Addr := [c.make, c.exch, c.lay, c.put, c.add, c.tell, c.stop, c.ifb, c.untl]
def flatCs (c : Clz) : List Addr := [c.make, c.exch, c.lay, c.put, c.add, c.tell, c.stop]
def idleCs (c : Clz) : List Addr := [c.make, c.exch, c.put, c.add, c.tell]
def testCs (c : Clz) : List Addr := [c.longer, c.shorter, c.alike, c.holds, c.not]
def meB (K : PySem.W.Frag) (m : Str) (f : Addr) (Cs : List Addr) : Bool := Cs.all fun C => mtB K C m f
def neB (K : PySem.W.Frag) (Cs : List Addr) : Bool := Cs.all fun C => decide (PySem.W.findIn K (.ref C) "__ne__" = some (some (.builtin "object.__ne__"))) && decide (PySem.W.subIn K (.ref C) (.type "object") = some true)
def fmB (K : PySem.W.Frag) (Cs : List Addr) : Bool := Cs.all fun C => decide (PySem.W.findIn K (.ref C) "__format__" = some (some (.builtin "object.__format__"))) && decide (PySem.W.subIn K (.ref C) (.type "object") = some true)
/-- the class of changes -/
def chB (K : PySem.W.Frag) (C : Addr) : Bool := insB K C && (decide (PySem.W.findIn K (.ref C) "numbers" = some none) && (decide (PySem.W.findIn K (.ref C) "turn" = some none) && (PySem.W.notFirst K C (.ref C) && neB K [C])))
def apartB (c : Clz) : Bool := decide [c.make, c.exch, c.lay, c.put, c.add, c.tell, c.stop, c.ifb, c.untl, c.longer, c.shorter, c.alike, c.holds, c.not].Nodup
/-- classes that are each their own kind alone -/
def kiB (K : PySem.W.Frag) (Cs : List Addr) : Bool := (List.range Cs.length).all fun i => (List.range Cs.length).all fun j => decide (PySem.W.kitOne K (.ref (Cs.getD i 0)) (.ref (Cs.getD j 0)) = some (decide (i = j)))
/-- a class without these attributes -/
def insNoB (K : PySem.W.Frag) (C : Addr) (fs : List Str) : Bool := insB K C && fs.all fun f => decide (PySem.W.findIn K (.ref C) f = some none)
/-- a tuple of ints -/
def isIs4 : List Int → List Value → Bool
  | [], [] => true
  | i :: is, .int j _ :: vs => decide (i = j) && isIs4 is vs
  | _, _ => false
/-- two defaults, both the empty tuple -/
def dfl1 (K : PySem.W.Frag) (f : Addr) : Addr := tupRef K (fyDfl K f) 1
def isRef2 : List Value → Bool
  | [.ref _, .ref _] => true
  | _ => false
def dfl2B (K : PySem.W.Frag) (f : Addr) : Bool := tupB K (fyDfl K f) isRef2 && (tupB K (dfl0 K f) isE && tupB K (dfl1 K f) isE)
def goalsI : List (Str × Int) := [("alike", 0), ("longer", 1), ("shorter", -1)]
end Pg
section
open Pg
--@@EARLY
abbrev P0 : Program := (PySem.Challenge.rw_unmarked_k44_runs_of_single_rows).prog
def zf0 : List (PySem.W.Frag → Bool) := [fun K => freeB K "ValueError",
  fun K => freeB K "abs",
  fun K => freeB K "all",
  fun K => freeB K "any",
  fun K => freeB K "bool",
  fun K => freeB K "enumerate",
  fun K => freeB K "int",
  fun K => freeB K "isinstance",
  fun K => freeB K "len",
  fun K => freeB K "list",
  fun K => freeB K "max",
  fun K => freeB K "min",
  fun K => freeB K "range",
  fun K => freeB K "repr",
  fun K => freeB K "sorted",
  fun K => freeB K "str",
  fun K => freeB K "sum",
  fun K => freeB K "super",
  fun K => freeB K "tuple",
  fun K => freeB K "zip",
  fun K => gloB K "law",
  fun K => PySem.W.keepIn K (.ref (He.ga K "law")),
  fun K => riB K (pclz K) (pclz K).make "make" true,
  fun K => riB K (pclz K) (pclz K).exch "exchange" true,
  fun K => riB K (pclz K) (pclz K).lay "lay" true,
  fun K => riB K (pclz K) (pclz K).put "put" true,
  fun K => riB K (pclz K) (pclz K).add "add" true,
  fun K => riB K (pclz K) (pclz K).tell "tell" true,
  fun K => riB K (pclz K) (pclz K).stop "stop" true,
  fun K => riB K (pclz K) (pclz K).ifb "if" true,
  fun K => riB K (pclz K) (pclz K).untl "until" true,
  fun K => riB K (pclz K) (pclz K).longer "longer" false,
  fun K => riB K (pclz K) (pclz K).shorter "shorter" false,
  fun K => riB K (pclz K) (pclz K).alike "alike" false,
  fun K => riB K (pclz K) (pclz K).holds "holds" false,
  fun K => riB K (pclz K) (pclz K).not "not" false,
  fun K => gloB K "Row",
  fun K => gloB K "Test",
  fun K => gloB K "Part",
  fun K => gloB K "Make"]
def zf1 : List (PySem.W.Frag → Bool) := [fun K => apartB (pclz K),
  fun K => chB K (pclz K).change,
  fun K => gloB K "Change",
  fun K => strB K "LETTERS" letters,
  fun K => intB K "MOST_LETTERS" 4,
  fun K => gloB K "BARRED",
  fun K => tupB K (He.ga K "BARRED") (isStrs ["not", "is"]),
  fun K => gloB K "UnmarkedError",
  fun K => PySem.W.readsIn K (He.ga K "UnmarkedError") (.type "type"),
  fun K => decide (PySem.W.specialIn K (.ref (He.ga K "UnmarkedError")) "__getattribute__" = some (some (.builtin "type.__getattribute__"))),
  fun K => clsB K (He.ga K "UnmarkedError") "__init__" (.builtin "ValueError.__init__"),
  fun K => errB K (He.ga K "InvalidRow") (He.ga K "UnmarkedError"),
  fun K => decide (PySem.W.findIn K (.ref (He.ga K "InvalidRow")) "__setattr__" = some (some (.builtin "object.__setattr__"))),
  fun K => decide (PySem.W.subIn K (.ref (He.ga K "InvalidRow")) (.type "BaseException") = some true),
  fun K => decide (PySem.W.typeIn K (.ref (He.ga K "InvalidRow")) = some (.type "type")),
  fun K => PySem.W.keepIn K (.ref (He.ga K "InvalidRow")),
  fun K => PySem.W.keepIn K (.ref (He.ma K (He.ga K "InvalidRow") "__init__")),
  fun K => decide (PySem.W.findIn K (.ref (He.ga K "InvalidRow")) "__init__" = some (some (.ref (He.ma K (He.ga K "InvalidRow") "__init__")))),
  fun K => decide (PySem.W.typeIn K (.ref (He.ma K (He.ga K "InvalidRow") "__init__")) = some (.type "function")),
  fun K => decide (PySem.W.findIn K (.ref (He.ga K "InvalidRow")) "part" = some none),
  fun K => gloB K "InvalidRow",
  fun K => errB K (He.ga K "InvalidChange") (He.ga K "UnmarkedError"),
  fun K => decide (PySem.W.findIn K (.ref (He.ga K "InvalidChange")) "__setattr__" = some (some (.builtin "object.__setattr__"))),
  fun K => decide (PySem.W.subIn K (.ref (He.ga K "InvalidChange")) (.type "BaseException") = some true),
  fun K => decide (PySem.W.typeIn K (.ref (He.ga K "InvalidChange")) = some (.type "type")),
  fun K => PySem.W.keepIn K (.ref (He.ga K "InvalidChange")),
  fun K => PySem.W.keepIn K (.ref (He.ma K (He.ga K "InvalidChange") "__init__")),
  fun K => decide (PySem.W.findIn K (.ref (He.ga K "InvalidChange")) "__init__" = some (some (.ref (He.ma K (He.ga K "InvalidChange") "__init__")))),
  fun K => decide (PySem.W.typeIn K (.ref (He.ma K (He.ga K "InvalidChange") "__init__")) = some (.type "function")),
  fun K => gloB K "InvalidChange",
  fun K => PySem.W.keepIn K (.ref (He.ga K "is_integer")),
  fun K => gloB K "is_integer",
  fun K => PySem.W.keepIn K (.ref (He.ga K "is_name")),
  fun K => gloB K "is_name",
  fun K => PySem.W.keepIn K (.ref (He.ga K "need_name")),
  fun K => gloB K "need_name",
  fun K => PySem.W.keepIn K (.ref (He.ga K "need_number")),
  fun K => gloB K "need_number",
  fun K => PySem.W.keepIn K (.ref (He.ga K "need_test")),
  fun K => gloB K "need_test"]
def zf2 : List (PySem.W.Frag → Bool) := [fun K => PySem.W.keepIn K (.ref (He.ga K "need_rows")),
  fun K => gloB K "need_rows",
  fun K => PySem.W.keepIn K (.ref (He.ma K (He.ga K "Part") "__init__")),
  fun K => dflB K (He.ma K (He.ga K "Part") "__init__"),
  fun K => gloB K "GOALS_rows",
  fun K => tupB K (He.ga K "GOALS_rows") (isStrs ["alike", "longer", "shorter"]),
  fun K => PySem.W.keepIn K (.ref (He.ma K (He.ga K "Part") "__str__")),
  fun K => meB K "__str__" (He.ma K (He.ga K "Part") "__str__") (testCs (pclz K)),
  fun K => fmB K (testCs (pclz K)),
  fun K => PySem.W.keepIn K (.ref (He.ma K (He.ga K "Exchange") "__init__")),
  fun K => supB K (He.ga K "Exchange") (He.ma K (He.ga K "Exchange") "__init__") P0.main.file,
  fun K => supMB K (He.ga K "Exchange") "__init__" (He.ma K (He.ga K "Part") "__init__"),
  fun K => mkB K (He.ga K "Exchange") (He.ma K (He.ga K "Exchange") "__init__"),
  fun K => gloB K "Exchange",
  fun K => PySem.W.keepIn K (.ref (He.ma K (He.ga K "Lay") "__init__")),
  fun K => supB K (He.ga K "Lay") (He.ma K (He.ga K "Lay") "__init__") P0.main.file,
  fun K => supMB K (He.ga K "Lay") "__init__" (He.ma K (He.ga K "Part") "__init__"),
  fun K => mkB K (He.ga K "Lay") (He.ma K (He.ga K "Lay") "__init__"),
  fun K => gloB K "Lay",
  fun K => PySem.W.keepIn K (.ref (He.ma K (He.ga K "Stop") "__init__")),
  fun K => supB K (He.ga K "Stop") (He.ma K (He.ga K "Stop") "__init__") P0.main.file,
  fun K => supMB K (He.ga K "Stop") "__init__" (He.ma K (He.ga K "Part") "__init__"),
  fun K => mkB K (He.ga K "Stop") (He.ma K (He.ga K "Stop") "__init__"),
  fun K => gloB K "Stop",
  fun K => PySem.W.keepIn K (.ref (He.ma K (He.ga K "Longer") "__init__")),
  fun K => supB K (He.ga K "Longer") (He.ma K (He.ga K "Longer") "__init__") P0.main.file,
  fun K => supMB K (He.ga K "Longer") "__init__" (He.ma K (He.ga K "Part") "__init__"),
  fun K => mkB K (He.ga K "Longer") (He.ma K (He.ga K "Longer") "__init__"),
  fun K => gloB K "Longer",
  fun K => PySem.W.keepIn K (.ref (He.ma K (He.ga K "Shorter") "__init__")),
  fun K => supB K (He.ga K "Shorter") (He.ma K (He.ga K "Shorter") "__init__") P0.main.file,
  fun K => supMB K (He.ga K "Shorter") "__init__" (He.ma K (He.ga K "Part") "__init__"),
  fun K => mkB K (He.ga K "Shorter") (He.ma K (He.ga K "Shorter") "__init__"),
  fun K => gloB K "Shorter",
  fun K => PySem.W.keepIn K (.ref (He.ma K (He.ga K "Alike") "__init__")),
  fun K => supB K (He.ga K "Alike") (He.ma K (He.ga K "Alike") "__init__") P0.main.file,
  fun K => supMB K (He.ga K "Alike") "__init__" (He.ma K (He.ga K "Part") "__init__"),
  fun K => mkB K (He.ga K "Alike") (He.ma K (He.ga K "Alike") "__init__"),
  fun K => gloB K "Alike",
  fun K => PySem.W.keepIn K (.ref (He.ma K (He.ga K "Put") "__init__"))]
def zf3 : List (PySem.W.Frag → Bool) := [fun K => supB K (He.ga K "Put") (He.ma K (He.ga K "Put") "__init__") P0.main.file,
  fun K => supMB K (He.ga K "Put") "__init__" (He.ma K (He.ga K "Part") "__init__"),
  fun K => mkB K (He.ga K "Put") (He.ma K (He.ga K "Put") "__init__"),
  fun K => gloB K "Put",
  fun K => PySem.W.keepIn K (.ref (He.ma K (He.ga K "Add") "__init__")),
  fun K => supB K (He.ga K "Add") (He.ma K (He.ga K "Add") "__init__") P0.main.file,
  fun K => supMB K (He.ga K "Add") "__init__" (He.ma K (He.ga K "Part") "__init__"),
  fun K => mkB K (He.ga K "Add") (He.ma K (He.ga K "Add") "__init__"),
  fun K => gloB K "Add",
  fun K => PySem.W.keepIn K (.ref (He.ma K (He.ga K "Holds") "__init__")),
  fun K => supB K (He.ga K "Holds") (He.ma K (He.ga K "Holds") "__init__") P0.main.file,
  fun K => supMB K (He.ga K "Holds") "__init__" (He.ma K (He.ga K "Part") "__init__"),
  fun K => mkB K (He.ga K "Holds") (He.ma K (He.ga K "Holds") "__init__"),
  fun K => gloB K "Holds",
  fun K => supMB K (He.ga K "Tell") "__init__" (He.ma K (He.ga K "Part") "__init__"),
  fun K => PySem.W.keepIn K (.ref (He.ma K (He.ga K "Tell") "__init__")),
  fun K => supB K (He.ga K "Tell") (He.ma K (He.ga K "Tell") "__init__") P0.main.file,
  fun K => mkB K (He.ga K "Tell") (He.ma K (He.ga K "Tell") "__init__"),
  fun K => gloB K "Tell",
  fun K => supMB K (He.ga K "Not") "__init__" (He.ma K (He.ga K "Part") "__init__"),
  fun K => PySem.W.keepIn K (.ref (He.ma K (He.ga K "Not") "__init__")),
  fun K => supB K (He.ga K "Not") (He.ma K (He.ga K "Not") "__init__") P0.main.file,
  fun K => mkB K (He.ga K "Not") (He.ma K (He.ga K "Not") "__init__"),
  fun K => gloB K "Not",
  fun K => PySem.W.keepIn K (.ref (He.ma K (He.ga K "Change") "__str__")),
  fun K => mtB K (He.ga K "Change") "__str__" (He.ma K (He.ga K "Change") "__str__"),
  fun K => fmB K [(pclz K).change],
  fun K => supMB K (He.ga K "Make") "__init__" (He.ma K (He.ga K "Part") "__init__"),
  fun K => PySem.W.keepIn K (.ref (He.ma K (He.ga K "Make") "__init__")),
  fun K => supB K (He.ga K "Make") (He.ma K (He.ga K "Make") "__init__") P0.main.file,
  fun K => mkB K (He.ga K "Make") (He.ma K (He.ga K "Make") "__init__"),
  fun K => PySem.W.keepIn K (.ref (He.ma K (He.ga K "Change") "__init__")),
  fun K => mkB K (He.ga K "Change") (He.ma K (He.ga K "Change") "__init__"),
  fun K => PySem.W.keepIn K (.ref (He.ga K "lines_of")),
  fun K => gloB K "lines_of",
  fun K => PySem.W.keepIn K (.ref (He.ma K (He.ga K "Row") "inner")),
  fun K => PySem.W.keepIn K (.ref (He.ma K (He.ga K "If") "inner")),
  fun K => PySem.W.keepIn K (.ref (He.ma K (He.ga K "Until") "inner")),
  fun K => PySem.W.keepIn K (.ref (He.ga K "inner_rows")),
  fun K => meB K "inner" (He.ma K (He.ga K "Row") "inner") (flatCs (pclz K))]
def zf4 : List (PySem.W.Frag → Bool) := [fun K => mtB K (He.ga K "If") "inner" (He.ma K (He.ga K "If") "inner"),
  fun K => mtB K (He.ga K "Until") "inner" (He.ma K (He.ga K "Until") "inner"),
  fun K => gloB K "inner_rows",
  fun K => PySem.W.keepIn K (.ref (He.ma K (He.ga K "Row") "is_laying")),
  fun K => PySem.W.keepIn K (.ref (He.ma K (He.ga K "Lay") "is_laying")),
  fun K => PySem.W.keepIn K (.ref (He.ma K (He.ga K "Stop") "is_laying")),
  fun K => PySem.W.keepIn K (.ref (He.ma K (He.ga K "If") "is_laying")),
  fun K => PySem.W.keepIn K (.ref (He.ma K (He.ga K "Until") "is_laying")),
  fun K => PySem.W.keepIn K (.ref (He.ga K "has_laying")),
  fun K => meB K "is_laying" (He.ma K (He.ga K "Row") "is_laying") (idleCs (pclz K)),
  fun K => mtB K (He.ga K "Lay") "is_laying" (He.ma K (He.ga K "Lay") "is_laying"),
  fun K => mtB K (He.ga K "Stop") "is_laying" (He.ma K (He.ga K "Stop") "is_laying"),
  fun K => mtB K (He.ga K "If") "is_laying" (He.ma K (He.ga K "If") "is_laying"),
  fun K => mtB K (He.ga K "Until") "is_laying" (He.ma K (He.ga K "Until") "is_laying"),
  fun K => gloB K "has_laying",
  fun K => PySem.W.keepIn K (.ref (He.ga K "has_make")),
  fun K => gloB K "has_make",
  fun K => PySem.W.keepIn K (.ref (He.ma K (He.ga K "If") "__init__")),
  fun K => supB K (He.ga K "If") (He.ma K (He.ga K "If") "__init__") P0.main.file,
  fun K => dflB K (He.ma K (He.ga K "If") "__init__"),
  fun K => supMB K (He.ga K "If") "__init__" (He.ma K (He.ga K "Part") "__init__"),
  fun K => mkB K (He.ga K "If") (He.ma K (He.ga K "If") "__init__"),
  fun K => gloB K "If",
  fun K => PySem.W.keepIn K (.ref (He.ma K (He.ga K "Until") "__init__")),
  fun K => supB K (He.ga K "Until") (He.ma K (He.ga K "Until") "__init__") P0.main.file,
  fun K => supMB K (He.ga K "Until") "__init__" (He.ma K (He.ga K "Part") "__init__"),
  fun K => mkB K (He.ga K "Until") (He.ma K (He.ga K "Until") "__init__"),
  fun K => gloB K "Until",
  fun K => PySem.W.keepIn K (.ref (He.ga K "_law_draw")),
  fun K => gloB K "_law_draw",
  fun K => PySem.W.keepIn K (.ref (He.ga K "_law_pick")),
  fun K => gloB K "_law_pick",
  fun K => PySem.W.keepIn K (.ref (He.ga K "_law_deal")),
  fun K => gloB K "_law_deal",
  fun K => errB K (He.ga K "NoNote") (He.ga K "UnmarkedError"),
  fun K => decide (PySem.W.findIn K (.ref (He.ga K "NoNote")) "__setattr__" = some (some (.builtin "object.__setattr__"))),
  fun K => decide (PySem.W.subIn K (.ref (He.ga K "NoNote")) (.type "BaseException") = some true),
  fun K => decide (PySem.W.typeIn K (.ref (He.ga K "NoNote")) = some (.type "type")),
  fun K => PySem.W.keepIn K (.ref (He.ga K "NoNote")),
  fun K => PySem.W.keepIn K (.ref (He.ma K (He.ga K "NoNote") "__init__"))]
def zf5 : List (PySem.W.Frag → Bool) := [fun K => decide (PySem.W.findIn K (.ref (He.ga K "NoNote")) "__init__" = some (some (.ref (He.ma K (He.ga K "NoNote") "__init__")))),
  fun K => decide (PySem.W.typeIn K (.ref (He.ma K (He.ga K "NoNote") "__init__")) = some (.type "function")),
  fun K => decide (PySem.W.findIn K (.ref (He.ga K "NoNote")) "name" = some none),
  fun K => gloB K "NoNote",
  fun K => kiB K (rowCs (pclz K)),
  fun K => kiB K (testCs (pclz K)),
  fun K => strB K "DO" "do",
  fun K => strB K "TEST" "test",
  fun K => strB K "LOOK" "look",
  fun K => strB K "GO" "go",
  fun K => gloB K "MODULI",
  fun K => tupB K (He.ga K "MODULI") (isIs4 [2, 3, 4]),
  fun K => insNoB K (He.ga K "Program") ["notes", "rows", "numbered", "steps"],
  fun K => errB K (He.ga K "NoPair") (He.ga K "UnmarkedError"),
  fun K => decide (PySem.W.findIn K (.ref (He.ga K "NoPair")) "__setattr__" = some (some (.builtin "object.__setattr__"))),
  fun K => decide (PySem.W.subIn K (.ref (He.ga K "NoPair")) (.type "BaseException") = some true),
  fun K => decide (PySem.W.typeIn K (.ref (He.ga K "NoPair")) = some (.type "type")),
  fun K => PySem.W.keepIn K (.ref (He.ga K "NoPair")),
  fun K => PySem.W.keepIn K (.ref (He.ma K (He.ga K "NoPair") "__init__")),
  fun K => decide (PySem.W.findIn K (.ref (He.ga K "NoPair")) "__init__" = some (some (.ref (He.ma K (He.ga K "NoPair") "__init__")))),
  fun K => decide (PySem.W.typeIn K (.ref (He.ma K (He.ga K "NoPair") "__init__")) = some (.type "function")),
  fun K => gloB K "NoPair",
  fun K => strB K "MARK" "mark",
  fun K => strB K "ROW" "row",
  fun K => intB K "LONGER" 1,
  fun K => intB K "SHORTER" (-1),
  fun K => intB K "ALIKE" 0,
  fun K => gloB K "EXCHANGE",
  fun K => tupB K (He.ga K "EXCHANGE") (isIs4 [0, 1, 1, 0]),
  fun K => insNoB K (He.ga K "Stepper") ["notes", "steps", "spot", "note_rests", "numbers", "events", "layings", "stopped"],
  fun K => insNoB K (He.ga K "Outcome") ["marks", "rods", "stopped", "layings"],
  fun K => gloB K "GOALS_steps",
  fun K => dctI K (He.ga K "GOALS_steps") goalsI,
  fun K => PySem.W.keepIn K (.ref (He.ga K "is_note")),
  fun K => gloB K "is_note",
  fun K => PySem.W.keepIn K (.ref (He.ga K "need_notes")),
  fun K => gloB K "need_notes",
  fun K => PySem.W.keepIn K (.ref (He.ga K "laid_out")),
  fun K => PySem.W.keepIn K (.ref (He.ga K "steps_of_row")),
  fun K => gloB K "laid_out"]
def zf6 : List (PySem.W.Frag → Bool) := [fun K => gloB K "steps_of_row",
  fun K => PySem.W.keepIn K (.ref (He.ga K "steps_of")),
  fun K => gloB K "steps_of",
  fun K => PySem.W.keepIn K (.ref (He.ma K (He.ga K "Program") "__init__")),
  fun K => dfl2B K (He.ma K (He.ga K "Program") "__init__"),
  fun K => mkB K (He.ga K "Program") (He.ma K (He.ga K "Program") "__init__"),
  fun K => gloB K "Program",
  fun K => PySem.W.keepIn K (.ref (He.ga K "wants_order")),
  fun K => PySem.W.keepIn K (.ref (He.ma K (He.ga K "Stepper") "holds")),
  fun K => PySem.W.keepIn K (.ref (He.ga K "numbers_joined")),
  fun K => gloB K "numbers_joined",
  fun K => PySem.W.keepIn K (.ref (He.ga K "order_of")),
  fun K => gloB K "order_of",
  fun K => gloB K "wants_order",
  fun K => PySem.W.keepIn K (.ref (He.ma K (He.ga K "Stepper") "__init__")),
  fun K => mkB K (He.ga K "Stepper") (He.ma K (He.ga K "Stepper") "__init__"),
  fun K => gloB K "Stepper",
  fun K => PySem.W.keepIn K (.ref (He.ma K (He.ga K "Stepper") "place_of")),
  fun K => mtB K (He.ga K "Stepper") "place_of" (He.ma K (He.ga K "Stepper") "place_of"),
  fun K => PySem.W.keepIn K (.ref (He.ma K (He.ga K "Stepper") "lay")),
  fun K => mtB K (He.ga K "Stepper") "lay" (He.ma K (He.ga K "Stepper") "lay"),
  fun K => mtB K (He.ga K "Stepper") "holds" (He.ma K (He.ga K "Stepper") "holds"),
  fun K => PySem.W.keepIn K (.ref (He.ma K (He.ga K "Stepper") "is_waiting")),
  fun K => mtB K (He.ga K "Stepper") "is_waiting" (He.ma K (He.ga K "Stepper") "is_waiting"),
  fun K => PySem.W.keepIn K (.ref (He.ma K (He.ga K "Stepper") "do")),
  fun K => mtB K (He.ga K "Stepper") "do" (He.ma K (He.ga K "Stepper") "do"),
  fun K => PySem.W.keepIn K (.ref (He.ma K (He.ga K "Stepper") "step")),
  fun K => mtB K (He.ga K "Stepper") "step" (He.ma K (He.ga K "Stepper") "step"),
  fun K => PySem.W.keepIn K (.ref (He.ma K (He.ga K "Stepper") "go")),
  fun K => mtB K (He.ga K "Stepper") "go" (He.ma K (He.ga K "Stepper") "go"),
  fun K => PySem.W.keepIn K (.ref (He.ga K "is_length")),
  fun K => gloB K "is_length",
  fun K => PySem.W.keepIn K (.ref (He.ga K "need_lengths")),
  fun K => gloB K "need_lengths",
  fun K => PySem.W.keepIn K (.ref (He.ma K (He.ga K "Outcome") "__init__")),
  fun K => mkB K (He.ga K "Outcome") (He.ma K (He.ga K "Outcome") "__init__"),
  fun K => gloB K "Outcome",
  fun K => PySem.W.keepIn K (.ref (He.ga K "run")),
  fun K => gloB K "run",
  fun K => PySem.W.keepIn K (.ref (He.ma K (He.ga K "Program") "__call__"))]
def zf7 : List (PySem.W.Frag → Bool) := [fun K => mtB K (He.ga K "Program") "__call__" (He.ma K (He.ga K "Program") "__call__"),
  fun K => PySem.W.fnIn K (He.ma K (He.ga K "Program") "__call__"),
  fun K => PySem.W.keepIn K (.ref (He.ga K "_law_number")),
  fun K => gloB K "_law_number",
  fun K => PySem.W.keepIn K (.ref (He.ga K "_law_change")),
  fun K => gloB K "_law_change",
  fun K => PySem.W.keepIn K (.ref (He.ga K "_law_two")),
  fun K => gloB K "_law_two",
  fun K => PySem.W.keepIn K (.ref (He.ga K "_law_told")),
  fun K => gloB K "_law_told",
  fun K => PySem.W.keepIn K (.ref (He.ga K "_law_simple_right")),
  fun K => gloB K "_law_simple_right",
  fun K => PySem.W.keepIn K (.ref (He.ga K "_law_tests_right")),
  fun K => gloB K "_law_tests_right",
  fun K => PySem.W.keepIn K (.ref (He.ga K "_law_notes_right")),
  fun K => gloB K "_law_notes_right",
  fun K => PySem.W.keepIn K (.ref (He.ga K "_law_until_right")),
  fun K => gloB K "_law_until_right"]
def zfs : List (PySem.W.Frag → Bool) := zf0 ++ (zf1 ++ (zf2 ++ (zf3 ++ (zf4 ++ (zf5 ++ (zf6 ++ (zf7)))))))
def zfF0 : List (PySem.W.Frag → Bool) := zf0 ++ (zf1 ++ (zf2 ++ (zf3)))
def zfF1 : List (PySem.W.Frag → Bool) := zf4 ++ (zf5 ++ (zf6 ++ (zf7)))
theorem zfs_eq : zfs = List.flatten [zfF0, zfF1] := by rfl
def zfD0 : List FY := [⟨fun K => (He.ga K "law"), "law", "law", S_law, 0⟩,
  ⟨fun K => (He.ma K (He.ga K "InvalidRow") "__init__"), "__init__", "InvalidRow.__init__", S_InvalidRow__init_, 0⟩,
  ⟨fun K => (He.ma K (He.ga K "InvalidChange") "__init__"), "__init__", "InvalidChange.__init__", S_InvalidChange__init_, 0⟩,
  ⟨fun K => (He.ga K "is_integer"), "is_integer", "is_integer", S_is_integer, 0⟩,
  ⟨fun K => (He.ga K "is_name"), "is_name", "is_name", S_is_name, 0⟩,
  ⟨fun K => (He.ga K "need_name"), "need_name", "need_name", S_need_name, 0⟩,
  ⟨fun K => (He.ga K "need_number"), "need_number", "need_number", S_need_number, 0⟩,
  ⟨fun K => (He.ga K "need_test"), "need_test", "need_test", S_need_test, 0⟩,
  ⟨fun K => (He.ga K "need_rows"), "need_rows", "need_rows", S_need_rows, 0⟩,
  ⟨fun K => (He.ma K (He.ga K "Part") "__init__"), "__init__", "Part.__init__", S_Part__init_, 2⟩,
  ⟨fun K => (He.ma K (He.ga K "Part") "__str__"), "__str__", "Part.__str__", S_Part__str_, 0⟩,
  ⟨fun K => (He.ma K (He.ga K "Exchange") "__init__"), "__init__", "Exchange.__init__", S_Exchange__init_, 1⟩,
  ⟨fun K => (He.ma K (He.ga K "Lay") "__init__"), "__init__", "Lay.__init__", S_Lay__init_, 1⟩,
  ⟨fun K => (He.ma K (He.ga K "Stop") "__init__"), "__init__", "Stop.__init__", S_Stop__init_, 1⟩,
  ⟨fun K => (He.ma K (He.ga K "Longer") "__init__"), "__init__", "Longer.__init__", S_Longer__init_, 1⟩,
  ⟨fun K => (He.ma K (He.ga K "Shorter") "__init__"), "__init__", "Shorter.__init__", S_Shorter__init_, 1⟩,
  ⟨fun K => (He.ma K (He.ga K "Alike") "__init__"), "__init__", "Alike.__init__", S_Alike__init_, 1⟩,
  ⟨fun K => (He.ma K (He.ga K "Put") "__init__"), "__init__", "Put.__init__", S_Put__init_, 1⟩,
  ⟨fun K => (He.ma K (He.ga K "Add") "__init__"), "__init__", "Add.__init__", S_Add__init_, 1⟩,
  ⟨fun K => (He.ma K (He.ga K "Holds") "__init__"), "__init__", "Holds.__init__", S_Holds__init_, 1⟩,
  ⟨fun K => (He.ma K (He.ga K "Tell") "__init__"), "__init__", "Tell.__init__", S_Tell__init_, 1⟩,
  ⟨fun K => (He.ma K (He.ga K "Not") "__init__"), "__init__", "Not.__init__", S_Not__init_, 1⟩,
  ⟨fun K => (He.ma K (He.ga K "Change") "__str__"), "__str__", "Change.__str__", S_Change__str_, 0⟩,
  ⟨fun K => (He.ma K (He.ga K "Make") "__init__"), "__init__", "Make.__init__", S_Make__init_, 1⟩]
def zfD1 : List FY := [⟨fun K => (He.ma K (He.ga K "Change") "__init__"), "__init__", "Change.__init__", S_Change__init_, 0⟩,
  ⟨fun K => (He.ga K "lines_of"), "lines_of", "lines_of", S_lines_of, 0⟩,
  ⟨fun K => (He.ma K (He.ga K "Row") "inner"), "inner", "Row.inner", S_Row_inner, 0⟩,
  ⟨fun K => (He.ma K (He.ga K "If") "inner"), "inner", "If.inner", S_If_inner, 0⟩,
  ⟨fun K => (He.ma K (He.ga K "Until") "inner"), "inner", "Until.inner", S_Until_inner, 0⟩,
  ⟨fun K => (He.ga K "inner_rows"), "inner_rows", "inner_rows", S_inner_rows, 0⟩,
  ⟨fun K => (He.ma K (He.ga K "Row") "is_laying"), "is_laying", "Row.is_laying", S_Row_is_laying, 0⟩,
  ⟨fun K => (He.ma K (He.ga K "Lay") "is_laying"), "is_laying", "Lay.is_laying", S_Lay_is_laying, 0⟩,
  ⟨fun K => (He.ma K (He.ga K "Stop") "is_laying"), "is_laying", "Stop.is_laying", S_Stop_is_laying, 0⟩,
  ⟨fun K => (He.ma K (He.ga K "If") "is_laying"), "is_laying", "If.is_laying", S_If_is_laying, 0⟩,
  ⟨fun K => (He.ma K (He.ga K "Until") "is_laying"), "is_laying", "Until.is_laying", S_Until_is_laying, 0⟩,
  ⟨fun K => (He.ga K "has_laying"), "has_laying", "has_laying", S_has_laying, 0⟩,
  ⟨fun K => (He.ga K "has_make"), "has_make", "has_make", S_has_make, 0⟩,
  ⟨fun K => (He.ma K (He.ga K "If") "__init__"), "__init__", "If.__init__", S_If__init_, 3⟩,
  ⟨fun K => (He.ma K (He.ga K "Until") "__init__"), "__init__", "Until.__init__", S_Until__init_, 1⟩,
  ⟨fun K => (He.ga K "_law_draw"), "_law_draw", "_law_draw", S__law_draw, 0⟩,
  ⟨fun K => (He.ga K "_law_pick"), "_law_pick", "_law_pick", S__law_pick, 0⟩,
  ⟨fun K => (He.ga K "_law_deal"), "_law_deal", "_law_deal", S__law_deal, 0⟩,
  ⟨fun K => (He.ma K (He.ga K "NoNote") "__init__"), "__init__", "NoNote.__init__", S_NoNote__init_, 0⟩,
  ⟨fun K => (He.ma K (He.ga K "NoPair") "__init__"), "__init__", "NoPair.__init__", S_NoPair__init_, 0⟩,
  ⟨fun K => (He.ga K "is_note"), "is_note", "is_note", S_is_note, 0⟩,
  ⟨fun K => (He.ga K "need_notes"), "need_notes", "need_notes", S_need_notes, 0⟩,
  ⟨fun K => (He.ga K "laid_out"), "laid_out", "laid_out", S_laid_out, 0⟩,
  ⟨fun K => (He.ga K "steps_of_row"), "steps_of_row", "steps_of_row", S_steps_of_row, 0⟩,
  ⟨fun K => (He.ga K "steps_of"), "steps_of", "steps_of", S_steps_of, 0⟩]
def zfD2 : List FY := [⟨fun K => (He.ma K (He.ga K "Program") "__init__"), "__init__", "Program.__init__", S_Program__init_, 2⟩,
  ⟨fun K => (He.ga K "wants_order"), "wants_order", "wants_order", S_wants_order, 0⟩,
  ⟨fun K => (He.ma K (He.ga K "Stepper") "holds"), "holds", "Stepper.holds", S_Stepper_holds, 0⟩,
  ⟨fun K => (He.ga K "numbers_joined"), "numbers_joined", "numbers_joined", S_numbers_joined, 0⟩,
  ⟨fun K => (He.ga K "order_of"), "order_of", "order_of", S_order_of, 0⟩,
  ⟨fun K => (He.ma K (He.ga K "Stepper") "__init__"), "__init__", "Stepper.__init__", S_Stepper__init_, 0⟩,
  ⟨fun K => (He.ma K (He.ga K "Stepper") "place_of"), "place_of", "Stepper.place_of", S_Stepper_place_of, 0⟩,
  ⟨fun K => (He.ma K (He.ga K "Stepper") "lay"), "lay", "Stepper.lay", S_Stepper_lay, 0⟩,
  ⟨fun K => (He.ma K (He.ga K "Stepper") "is_waiting"), "is_waiting", "Stepper.is_waiting", S_Stepper_is_waiting, 0⟩,
  ⟨fun K => (He.ma K (He.ga K "Stepper") "do"), "do", "Stepper.do", S_Stepper_do, 0⟩,
  ⟨fun K => (He.ma K (He.ga K "Stepper") "step"), "step", "Stepper.step", S_Stepper_step, 0⟩,
  ⟨fun K => (He.ma K (He.ga K "Stepper") "go"), "go", "Stepper.go", S_Stepper_go, 0⟩,
  ⟨fun K => (He.ga K "is_length"), "is_length", "is_length", S_is_length, 0⟩,
  ⟨fun K => (He.ga K "need_lengths"), "need_lengths", "need_lengths", S_need_lengths, 0⟩,
  ⟨fun K => (He.ma K (He.ga K "Outcome") "__init__"), "__init__", "Outcome.__init__", S_Outcome__init_, 0⟩,
  ⟨fun K => (He.ga K "run"), "run", "run", S_run, 0⟩,
  ⟨fun K => (He.ma K (He.ga K "Program") "__call__"), "__call__", "Program.__call__", S_Program__call_, 0⟩,
  ⟨fun K => (He.ga K "_law_number"), "_law_number", "_law_number", S__law_number, 0⟩,
  ⟨fun K => (He.ga K "_law_change"), "_law_change", "_law_change", S__law_change, 0⟩,
  ⟨fun K => (He.ga K "_law_two"), "_law_two", "_law_two", S__law_two, 0⟩,
  ⟨fun K => (He.ga K "_law_told"), "_law_told", "_law_told", S__law_told, 0⟩,
  ⟨fun K => (He.ga K "_law_simple_right"), "_law_simple_right", "_law_simple_right", S__law_simple_right, 0⟩,
  ⟨fun K => (He.ga K "_law_tests_right"), "_law_tests_right", "_law_tests_right", S__law_tests_right, 0⟩,
  ⟨fun K => (He.ga K "_law_notes_right"), "_law_notes_right", "_law_notes_right", S__law_notes_right, 0⟩,
  ⟨fun K => (He.ga K "_law_until_right"), "_law_until_right", "_law_until_right", S__law_until_right, 0⟩]
def zfn : List FY := [⟨fun K => (He.ga K "law"), "law", "law", S_law, 0⟩,
  ⟨fun K => (He.ma K (He.ga K "InvalidRow") "__init__"), "__init__", "InvalidRow.__init__", S_InvalidRow__init_, 0⟩,
  ⟨fun K => (He.ma K (He.ga K "InvalidChange") "__init__"), "__init__", "InvalidChange.__init__", S_InvalidChange__init_, 0⟩,
  ⟨fun K => (He.ga K "is_integer"), "is_integer", "is_integer", S_is_integer, 0⟩,
  ⟨fun K => (He.ga K "is_name"), "is_name", "is_name", S_is_name, 0⟩,
  ⟨fun K => (He.ga K "need_name"), "need_name", "need_name", S_need_name, 0⟩,
  ⟨fun K => (He.ga K "need_number"), "need_number", "need_number", S_need_number, 0⟩,
  ⟨fun K => (He.ga K "need_test"), "need_test", "need_test", S_need_test, 0⟩,
  ⟨fun K => (He.ga K "need_rows"), "need_rows", "need_rows", S_need_rows, 0⟩,
  ⟨fun K => (He.ma K (He.ga K "Part") "__init__"), "__init__", "Part.__init__", S_Part__init_, 2⟩,
  ⟨fun K => (He.ma K (He.ga K "Part") "__str__"), "__str__", "Part.__str__", S_Part__str_, 0⟩,
  ⟨fun K => (He.ma K (He.ga K "Exchange") "__init__"), "__init__", "Exchange.__init__", S_Exchange__init_, 1⟩,
  ⟨fun K => (He.ma K (He.ga K "Lay") "__init__"), "__init__", "Lay.__init__", S_Lay__init_, 1⟩,
  ⟨fun K => (He.ma K (He.ga K "Stop") "__init__"), "__init__", "Stop.__init__", S_Stop__init_, 1⟩,
  ⟨fun K => (He.ma K (He.ga K "Longer") "__init__"), "__init__", "Longer.__init__", S_Longer__init_, 1⟩,
  ⟨fun K => (He.ma K (He.ga K "Shorter") "__init__"), "__init__", "Shorter.__init__", S_Shorter__init_, 1⟩,
  ⟨fun K => (He.ma K (He.ga K "Alike") "__init__"), "__init__", "Alike.__init__", S_Alike__init_, 1⟩,
  ⟨fun K => (He.ma K (He.ga K "Put") "__init__"), "__init__", "Put.__init__", S_Put__init_, 1⟩,
  ⟨fun K => (He.ma K (He.ga K "Add") "__init__"), "__init__", "Add.__init__", S_Add__init_, 1⟩,
  ⟨fun K => (He.ma K (He.ga K "Holds") "__init__"), "__init__", "Holds.__init__", S_Holds__init_, 1⟩,
  ⟨fun K => (He.ma K (He.ga K "Tell") "__init__"), "__init__", "Tell.__init__", S_Tell__init_, 1⟩,
  ⟨fun K => (He.ma K (He.ga K "Not") "__init__"), "__init__", "Not.__init__", S_Not__init_, 1⟩,
  ⟨fun K => (He.ma K (He.ga K "Change") "__str__"), "__str__", "Change.__str__", S_Change__str_, 0⟩,
  ⟨fun K => (He.ma K (He.ga K "Make") "__init__"), "__init__", "Make.__init__", S_Make__init_, 1⟩,
  ⟨fun K => (He.ma K (He.ga K "Change") "__init__"), "__init__", "Change.__init__", S_Change__init_, 0⟩,
  ⟨fun K => (He.ga K "lines_of"), "lines_of", "lines_of", S_lines_of, 0⟩,
  ⟨fun K => (He.ma K (He.ga K "Row") "inner"), "inner", "Row.inner", S_Row_inner, 0⟩,
  ⟨fun K => (He.ma K (He.ga K "If") "inner"), "inner", "If.inner", S_If_inner, 0⟩,
  ⟨fun K => (He.ma K (He.ga K "Until") "inner"), "inner", "Until.inner", S_Until_inner, 0⟩,
  ⟨fun K => (He.ga K "inner_rows"), "inner_rows", "inner_rows", S_inner_rows, 0⟩,
  ⟨fun K => (He.ma K (He.ga K "Row") "is_laying"), "is_laying", "Row.is_laying", S_Row_is_laying, 0⟩,
  ⟨fun K => (He.ma K (He.ga K "Lay") "is_laying"), "is_laying", "Lay.is_laying", S_Lay_is_laying, 0⟩,
  ⟨fun K => (He.ma K (He.ga K "Stop") "is_laying"), "is_laying", "Stop.is_laying", S_Stop_is_laying, 0⟩,
  ⟨fun K => (He.ma K (He.ga K "If") "is_laying"), "is_laying", "If.is_laying", S_If_is_laying, 0⟩,
  ⟨fun K => (He.ma K (He.ga K "Until") "is_laying"), "is_laying", "Until.is_laying", S_Until_is_laying, 0⟩,
  ⟨fun K => (He.ga K "has_laying"), "has_laying", "has_laying", S_has_laying, 0⟩,
  ⟨fun K => (He.ga K "has_make"), "has_make", "has_make", S_has_make, 0⟩,
  ⟨fun K => (He.ma K (He.ga K "If") "__init__"), "__init__", "If.__init__", S_If__init_, 3⟩,
  ⟨fun K => (He.ma K (He.ga K "Until") "__init__"), "__init__", "Until.__init__", S_Until__init_, 1⟩,
  ⟨fun K => (He.ga K "_law_draw"), "_law_draw", "_law_draw", S__law_draw, 0⟩,
  ⟨fun K => (He.ga K "_law_pick"), "_law_pick", "_law_pick", S__law_pick, 0⟩,
  ⟨fun K => (He.ga K "_law_deal"), "_law_deal", "_law_deal", S__law_deal, 0⟩,
  ⟨fun K => (He.ma K (He.ga K "NoNote") "__init__"), "__init__", "NoNote.__init__", S_NoNote__init_, 0⟩,
  ⟨fun K => (He.ma K (He.ga K "NoPair") "__init__"), "__init__", "NoPair.__init__", S_NoPair__init_, 0⟩,
  ⟨fun K => (He.ga K "is_note"), "is_note", "is_note", S_is_note, 0⟩,
  ⟨fun K => (He.ga K "need_notes"), "need_notes", "need_notes", S_need_notes, 0⟩,
  ⟨fun K => (He.ga K "laid_out"), "laid_out", "laid_out", S_laid_out, 0⟩,
  ⟨fun K => (He.ga K "steps_of_row"), "steps_of_row", "steps_of_row", S_steps_of_row, 0⟩,
  ⟨fun K => (He.ga K "steps_of"), "steps_of", "steps_of", S_steps_of, 0⟩,
  ⟨fun K => (He.ma K (He.ga K "Program") "__init__"), "__init__", "Program.__init__", S_Program__init_, 2⟩,
  ⟨fun K => (He.ga K "wants_order"), "wants_order", "wants_order", S_wants_order, 0⟩,
  ⟨fun K => (He.ma K (He.ga K "Stepper") "holds"), "holds", "Stepper.holds", S_Stepper_holds, 0⟩,
  ⟨fun K => (He.ga K "numbers_joined"), "numbers_joined", "numbers_joined", S_numbers_joined, 0⟩,
  ⟨fun K => (He.ga K "order_of"), "order_of", "order_of", S_order_of, 0⟩,
  ⟨fun K => (He.ma K (He.ga K "Stepper") "__init__"), "__init__", "Stepper.__init__", S_Stepper__init_, 0⟩,
  ⟨fun K => (He.ma K (He.ga K "Stepper") "place_of"), "place_of", "Stepper.place_of", S_Stepper_place_of, 0⟩,
  ⟨fun K => (He.ma K (He.ga K "Stepper") "lay"), "lay", "Stepper.lay", S_Stepper_lay, 0⟩,
  ⟨fun K => (He.ma K (He.ga K "Stepper") "is_waiting"), "is_waiting", "Stepper.is_waiting", S_Stepper_is_waiting, 0⟩,
  ⟨fun K => (He.ma K (He.ga K "Stepper") "do"), "do", "Stepper.do", S_Stepper_do, 0⟩,
  ⟨fun K => (He.ma K (He.ga K "Stepper") "step"), "step", "Stepper.step", S_Stepper_step, 0⟩,
  ⟨fun K => (He.ma K (He.ga K "Stepper") "go"), "go", "Stepper.go", S_Stepper_go, 0⟩,
  ⟨fun K => (He.ga K "is_length"), "is_length", "is_length", S_is_length, 0⟩,
  ⟨fun K => (He.ga K "need_lengths"), "need_lengths", "need_lengths", S_need_lengths, 0⟩,
  ⟨fun K => (He.ma K (He.ga K "Outcome") "__init__"), "__init__", "Outcome.__init__", S_Outcome__init_, 0⟩,
  ⟨fun K => (He.ga K "run"), "run", "run", S_run, 0⟩,
  ⟨fun K => (He.ma K (He.ga K "Program") "__call__"), "__call__", "Program.__call__", S_Program__call_, 0⟩,
  ⟨fun K => (He.ga K "_law_number"), "_law_number", "_law_number", S__law_number, 0⟩,
  ⟨fun K => (He.ga K "_law_change"), "_law_change", "_law_change", S__law_change, 0⟩,
  ⟨fun K => (He.ga K "_law_two"), "_law_two", "_law_two", S__law_two, 0⟩,
  ⟨fun K => (He.ga K "_law_told"), "_law_told", "_law_told", S__law_told, 0⟩,
  ⟨fun K => (He.ga K "_law_simple_right"), "_law_simple_right", "_law_simple_right", S__law_simple_right, 0⟩,
  ⟨fun K => (He.ga K "_law_tests_right"), "_law_tests_right", "_law_tests_right", S__law_tests_right, 0⟩,
  ⟨fun K => (He.ga K "_law_notes_right"), "_law_notes_right", "_law_notes_right", S__law_notes_right, 0⟩,
  ⟨fun K => (He.ga K "_law_until_right"), "_law_until_right", "_law_until_right", S__law_until_right, 0⟩]
theorem zfn_eq : zfn = List.flatten [zfD0, zfD1, zfD2] := by rfl
def zts : List TabU := [(fun K => (He.ga K "GOALS_steps"), ["alike", "longer", "shorter"])]
--@@RUNS
/-- the run looked at in parts -/
theorem zparts {S B : Type} {X : Option S} {lk : S → Bool} {sn : S → B} {Kf : S → PySem.W.Frag} {good : B} {fs : List (PySem.W.Frag → Bool)} {fn : List FY} {Fs : List (List (PySem.W.Frag → Bool))} {Ds : List (List FY)} (ef : fs = Fs.flatten) (ed : fn = Ds.flatten)
    (h1 : X.map (fun s => (lk s, sn s)) = some (true, good)) (h2 : ∀ F ∈ Fs, X.map (fun s => F.all fun f => f (Kf s)) = some true) (h3 : ∀ D ∈ Ds, X.map (fun s => (D.all (fun d => fyCode (Kf s) (d.at_ (Kf s)) d.qual d.mode), D.map fun d => fyObs (Kf s) (d.at_ (Kf s)))) = some (true, D.map FY.val)) :
    X.map (fun s => (lk s, sn s, obsY fs fn (Kf s))) = some (true, good, valY fn) := by
  subst ef
  subst ed
  cases X with
  | none => cases h1
  | some s =>
    have e1 := Prod.mk.inj (Option.some.inj h1)
    have e2 : (Fs.flatten.all fun f => f (Kf s)) = true := by
      rw [List.all_eq_true]
      intro f hf
      obtain ⟨F, hF, hm⟩ := List.mem_flatten.mp hf
      exact List.all_eq_true.mp (Option.some.inj (h2 F hF)) f hm
    have e3 : (Ds.flatten.all fun d => fyCode (Kf s) (d.at_ (Kf s)) d.qual d.mode) = true := by
      rw [List.all_eq_true]
      intro d hd
      obtain ⟨D, hD, hm⟩ := List.mem_flatten.mp hd
      exact List.all_eq_true.mp (Prod.mk.inj (Option.some.inj (h3 D hD))).1 d hm
    have e4 : (Ds.flatten.map fun d => fyObs (Kf s) (d.at_ (Kf s))) = Ds.flatten.map FY.val := List.map_congr_left fun d hd => by
      obtain ⟨D, hD, hm⟩ := List.mem_flatten.mp hd
      exact List.map_inj_left.mp (Prod.mk.inj (Option.some.inj (h3 D hD))).2 d hm
    show some (lk s, sn s, obsY Fs.flatten Ds.flatten (Kf s)) = _
    unfold obsY valY
    rw [e1.1, e1.2, e2, e3, e4]
    rfl
def zl0 : List PySem.Str := ["_wall", "__name__", "UnmarkedError", "InvalidRatio", "InvalidChange", "InvalidRow", "InvalidProgram", "NoPair", "NoRow", "NoNote", "Mismatch", "LETTERS", "DIGITS", "BARRED", "MOST_LETTERS", "MOST_DIGITS_signs", "is_integer", "is_length", "is_name", "number_of", "common_length", "word_of_lengths", "Ratio", "SAME", "EXCHANGE", "lengths_made", "numbers_joined", "Change", "GOALS_rows", "need_name"]
def zl1 : List PySem.Str := ["need_number", "need_test", "need_rows", "Part", "Row", "Test", "Make", "Exchange", "Lay", "Put", "Add", "Tell", "Stop", "If", "Until", "Longer", "Shorter", "Alike", "Holds", "Not", "lines_of", "inner_rows", "has_laying", "has_make", "DO", "TEST", "LOOK", "GO", "MARK", "ROW"]
def zl2 : List PySem.Str := ["LONGER", "SHORTER", "ALIKE", "GOALS_steps", "laid_out", "steps_of_row", "steps_of", "order_of", "wants_order", "Stepper", "Outcome", "need_lengths", "run", "MOST_DIGITS_rowreader", "number_in", "change_of", "test_of", "plain_test", "note_row", "row_of", "Block", "Reader", "read_lines", "MODULI", "is_note", "need_notes", "remaining", "left_of", "Program", "_law_deal"]
def zl3 : List PySem.Str := ["_law_draw", "_law_pick", "_law_number", "_law_change", "_law_two", "_law_told", "_law_simple_right", "_law_tests_right", "_law_notes_right", "_law_until_right"]
def zls : List PySem.Str := zl0 ++ (zl1 ++ (zl2 ++ (zl3)))
abbrev zhk : PySem.W.Hook := hookU 5 zfs zfn zts
def zob (s : PySem.W.SharedT) : AlU := obsUG 5 zfs zfn zts (HandSHeadRun.getT s)
theorem zob_eq (s : PySem.W.SharedT) : zob s = zhk.obs s.abs := obsUG_eq (HandSHeadRun.getT_eq s)
abbrev zK (s : PySem.W.SharedT) : PySem.W.Frag := He.frG (HandSHeadRun.getT s) (asY (HandSHeadRun.getT s) 5)
theorem zpair {S A B : Type} {X : Option S} {f : S → A} {g : S → B} {a : A} {b : B} (h1 : X.map f = some a) (h2 : X.map g = some b) : X.map (fun s => (f s, g s)) = some (a, b) := by
  cases X with
  | none => cases h1
  | some s => exact congrArg some (Prod.ext (Option.some.inj h1) (Option.some.inj h2))
open PySem.W PySem.Calls in
abbrev zrunL_P (w : World) : Prop := ∀ os : OsState, (HandSHeadRun.endF (HandSHeadRun.stepQ (HandSHeadRun.denQ HandSHeadRun.tabQ) (PySem.W.OpenLaw.row PySem.Challenge.rw_unmarked_k44_runs_of_single_rows).prog w) 20000 (PySem.W.OpenLaw.row PySem.Challenge.rw_unmarked_k44_runs_of_single_rows).prog w os).map (fun s => HandSHeadRun.looksF (PySem.W.OpenLaw.row PySem.Challenge.rw_unmarked_k44_runs_of_single_rows).prog (boot_heap w.params) s.abs) = some true
open PySem.W PySem.Calls in
theorem zrunL_t (w : World) : zrunL_P (setF w true) := by
  intro os
  kernel_rfl
open PySem.W PySem.Calls in
theorem zrunL_f (w : World) : zrunL_P (setF w false) := by
  intro os
  kernel_rfl
open PySem.W PySem.Calls in
theorem zrunL (w : World) (os : OsState) : (HandSHeadRun.endF (HandSHeadRun.stepQ (HandSHeadRun.denQ HandSHeadRun.tabQ) (PySem.W.OpenLaw.row PySem.Challenge.rw_unmarked_k44_runs_of_single_rows).prog w) 20000 (PySem.W.OpenLaw.row PySem.Challenge.rw_unmarked_k44_runs_of_single_rows).prog w os).map (fun s => HandSHeadRun.looksF (PySem.W.OpenLaw.row PySem.Challenge.rw_unmarked_k44_runs_of_single_rows).prog (boot_heap w.params) s.abs) = some true := byF (P := zrunL_P) zrunL_t zrunL_f w os
open PySem.W PySem.Calls in
abbrev zrunS_P (w : World) : Prop := ∀ os : OsState, (HandSHeadRun.endF (HandSHeadRun.stepQ (HandSHeadRun.denQ HandSHeadRun.tabQ) (PySem.W.OpenLaw.row PySem.Challenge.rw_unmarked_k44_runs_of_single_rows).prog w) 20000 (PySem.W.OpenLaw.row PySem.Challenge.rw_unmarked_k44_runs_of_single_rows).prog w os).map (fun s => HandSHeadRun.seenQ (view (PySem.W.OpenLaw.row PySem.Challenge.rw_unmarked_k44_runs_of_single_rows).prog [109]) zls (importedModules (PySem.W.OpenLaw.row PySem.Challenge.rw_unmarked_k44_runs_of_single_rows).prog.main.body) (fun s => xlAt (view (PySem.W.OpenLaw.row PySem.Challenge.rw_unmarked_k44_runs_of_single_rows).prog [109]) [] s && recOk (PySem.W.OpenLaw.row PySem.Challenge.rw_unmarked_k44_runs_of_single_rows).toRowW.records s) s.abs) = some (openGood (view (PySem.W.OpenLaw.row PySem.Challenge.rw_unmarked_k44_runs_of_single_rows).prog [109]) zls)
open PySem.W PySem.Calls in
theorem zrunS_t (w : World) : zrunS_P (setF w true) := by
  intro os
  kernel_rfl
open PySem.W PySem.Calls in
theorem zrunS_f (w : World) : zrunS_P (setF w false) := by
  intro os
  kernel_rfl
open PySem.W PySem.Calls in
theorem zrunS (w : World) (os : OsState) : (HandSHeadRun.endF (HandSHeadRun.stepQ (HandSHeadRun.denQ HandSHeadRun.tabQ) (PySem.W.OpenLaw.row PySem.Challenge.rw_unmarked_k44_runs_of_single_rows).prog w) 20000 (PySem.W.OpenLaw.row PySem.Challenge.rw_unmarked_k44_runs_of_single_rows).prog w os).map (fun s => HandSHeadRun.seenQ (view (PySem.W.OpenLaw.row PySem.Challenge.rw_unmarked_k44_runs_of_single_rows).prog [109]) zls (importedModules (PySem.W.OpenLaw.row PySem.Challenge.rw_unmarked_k44_runs_of_single_rows).prog.main.body) (fun s => xlAt (view (PySem.W.OpenLaw.row PySem.Challenge.rw_unmarked_k44_runs_of_single_rows).prog [109]) [] s && recOk (PySem.W.OpenLaw.row PySem.Challenge.rw_unmarked_k44_runs_of_single_rows).toRowW.records s) s.abs) = some (openGood (view (PySem.W.OpenLaw.row PySem.Challenge.rw_unmarked_k44_runs_of_single_rows).prog [109]) zls) := byF (P := zrunS_P) zrunS_t zrunS_f w os
open PySem.W PySem.Calls in
theorem zrun1 (w : World) (os : OsState) : (HandSHeadRun.endF (HandSHeadRun.stepQ (HandSHeadRun.denQ HandSHeadRun.tabQ) (PySem.W.OpenLaw.row PySem.Challenge.rw_unmarked_k44_runs_of_single_rows).prog w) 20000 (PySem.W.OpenLaw.row PySem.Challenge.rw_unmarked_k44_runs_of_single_rows).prog w os).map (fun s => (HandSHeadRun.looksF (PySem.W.OpenLaw.row PySem.Challenge.rw_unmarked_k44_runs_of_single_rows).prog (boot_heap w.params) s.abs, HandSHeadRun.seenQ (view (PySem.W.OpenLaw.row PySem.Challenge.rw_unmarked_k44_runs_of_single_rows).prog [109]) zls (importedModules (PySem.W.OpenLaw.row PySem.Challenge.rw_unmarked_k44_runs_of_single_rows).prog.main.body) (fun s => xlAt (view (PySem.W.OpenLaw.row PySem.Challenge.rw_unmarked_k44_runs_of_single_rows).prog [109]) [] s && recOk (PySem.W.OpenLaw.row PySem.Challenge.rw_unmarked_k44_runs_of_single_rows).toRowW.records s) s.abs)) = some (true, openGood (view (PySem.W.OpenLaw.row PySem.Challenge.rw_unmarked_k44_runs_of_single_rows).prog [109]) zls) := zpair (zrunL w os) (zrunS w os)
abbrev zrunF0_P (w : World) : Prop := ∀ os : OsState, (HandSHeadRun.endF (HandSHeadRun.stepQ (HandSHeadRun.denQ HandSHeadRun.tabQ) (PySem.W.OpenLaw.row PySem.Challenge.rw_unmarked_k44_runs_of_single_rows).prog w) 20000 (PySem.W.OpenLaw.row PySem.Challenge.rw_unmarked_k44_runs_of_single_rows).prog w os).map (fun s => zfF0.all fun f => f (zK s)) = some true
theorem zrunF0_t (w : World) : zrunF0_P (setF w true) := by
  intro os
  kernel_rfl
theorem zrunF0_f (w : World) : zrunF0_P (setF w false) := by
  intro os
  kernel_rfl
theorem zrunF0 (w : World) (os : OsState) : (HandSHeadRun.endF (HandSHeadRun.stepQ (HandSHeadRun.denQ HandSHeadRun.tabQ) (PySem.W.OpenLaw.row PySem.Challenge.rw_unmarked_k44_runs_of_single_rows).prog w) 20000 (PySem.W.OpenLaw.row PySem.Challenge.rw_unmarked_k44_runs_of_single_rows).prog w os).map (fun s => zfF0.all fun f => f (zK s)) = some true := byF (P := zrunF0_P) zrunF0_t zrunF0_f w os
abbrev zrunF1_P (w : World) : Prop := ∀ os : OsState, (HandSHeadRun.endF (HandSHeadRun.stepQ (HandSHeadRun.denQ HandSHeadRun.tabQ) (PySem.W.OpenLaw.row PySem.Challenge.rw_unmarked_k44_runs_of_single_rows).prog w) 20000 (PySem.W.OpenLaw.row PySem.Challenge.rw_unmarked_k44_runs_of_single_rows).prog w os).map (fun s => zfF1.all fun f => f (zK s)) = some true
theorem zrunF1_t (w : World) : zrunF1_P (setF w true) := by
  intro os
  kernel_rfl
theorem zrunF1_f (w : World) : zrunF1_P (setF w false) := by
  intro os
  kernel_rfl
theorem zrunF1 (w : World) (os : OsState) : (HandSHeadRun.endF (HandSHeadRun.stepQ (HandSHeadRun.denQ HandSHeadRun.tabQ) (PySem.W.OpenLaw.row PySem.Challenge.rw_unmarked_k44_runs_of_single_rows).prog w) 20000 (PySem.W.OpenLaw.row PySem.Challenge.rw_unmarked_k44_runs_of_single_rows).prog w os).map (fun s => zfF1.all fun f => f (zK s)) = some true := byF (P := zrunF1_P) zrunF1_t zrunF1_f w os
abbrev zrunD0_P (w : World) : Prop := ∀ os : OsState, (HandSHeadRun.endF (HandSHeadRun.stepQ (HandSHeadRun.denQ HandSHeadRun.tabQ) (PySem.W.OpenLaw.row PySem.Challenge.rw_unmarked_k44_runs_of_single_rows).prog w) 20000 (PySem.W.OpenLaw.row PySem.Challenge.rw_unmarked_k44_runs_of_single_rows).prog w os).map (fun s => (zfD0.all (fun d => fyCode (zK s) (d.at_ (zK s)) d.qual d.mode), zfD0.map fun d => fyObs (zK s) (d.at_ (zK s)))) = some (true, zfD0.map FY.val)
theorem zrunD0_t (w : World) : zrunD0_P (setF w true) := by
  intro os
  kernel_rfl
theorem zrunD0_f (w : World) : zrunD0_P (setF w false) := by
  intro os
  kernel_rfl
theorem zrunD0 (w : World) (os : OsState) : (HandSHeadRun.endF (HandSHeadRun.stepQ (HandSHeadRun.denQ HandSHeadRun.tabQ) (PySem.W.OpenLaw.row PySem.Challenge.rw_unmarked_k44_runs_of_single_rows).prog w) 20000 (PySem.W.OpenLaw.row PySem.Challenge.rw_unmarked_k44_runs_of_single_rows).prog w os).map (fun s => (zfD0.all (fun d => fyCode (zK s) (d.at_ (zK s)) d.qual d.mode), zfD0.map fun d => fyObs (zK s) (d.at_ (zK s)))) = some (true, zfD0.map FY.val) := byF (P := zrunD0_P) zrunD0_t zrunD0_f w os
abbrev zrunD1_P (w : World) : Prop := ∀ os : OsState, (HandSHeadRun.endF (HandSHeadRun.stepQ (HandSHeadRun.denQ HandSHeadRun.tabQ) (PySem.W.OpenLaw.row PySem.Challenge.rw_unmarked_k44_runs_of_single_rows).prog w) 20000 (PySem.W.OpenLaw.row PySem.Challenge.rw_unmarked_k44_runs_of_single_rows).prog w os).map (fun s => (zfD1.all (fun d => fyCode (zK s) (d.at_ (zK s)) d.qual d.mode), zfD1.map fun d => fyObs (zK s) (d.at_ (zK s)))) = some (true, zfD1.map FY.val)
theorem zrunD1_t (w : World) : zrunD1_P (setF w true) := by
  intro os
  kernel_rfl
theorem zrunD1_f (w : World) : zrunD1_P (setF w false) := by
  intro os
  kernel_rfl
theorem zrunD1 (w : World) (os : OsState) : (HandSHeadRun.endF (HandSHeadRun.stepQ (HandSHeadRun.denQ HandSHeadRun.tabQ) (PySem.W.OpenLaw.row PySem.Challenge.rw_unmarked_k44_runs_of_single_rows).prog w) 20000 (PySem.W.OpenLaw.row PySem.Challenge.rw_unmarked_k44_runs_of_single_rows).prog w os).map (fun s => (zfD1.all (fun d => fyCode (zK s) (d.at_ (zK s)) d.qual d.mode), zfD1.map fun d => fyObs (zK s) (d.at_ (zK s)))) = some (true, zfD1.map FY.val) := byF (P := zrunD1_P) zrunD1_t zrunD1_f w os
abbrev zrunD2_P (w : World) : Prop := ∀ os : OsState, (HandSHeadRun.endF (HandSHeadRun.stepQ (HandSHeadRun.denQ HandSHeadRun.tabQ) (PySem.W.OpenLaw.row PySem.Challenge.rw_unmarked_k44_runs_of_single_rows).prog w) 20000 (PySem.W.OpenLaw.row PySem.Challenge.rw_unmarked_k44_runs_of_single_rows).prog w os).map (fun s => (zfD2.all (fun d => fyCode (zK s) (d.at_ (zK s)) d.qual d.mode), zfD2.map fun d => fyObs (zK s) (d.at_ (zK s)))) = some (true, zfD2.map FY.val)
theorem zrunD2_t (w : World) : zrunD2_P (setF w true) := by
  intro os
  kernel_rfl
theorem zrunD2_f (w : World) : zrunD2_P (setF w false) := by
  intro os
  kernel_rfl
theorem zrunD2 (w : World) (os : OsState) : (HandSHeadRun.endF (HandSHeadRun.stepQ (HandSHeadRun.denQ HandSHeadRun.tabQ) (PySem.W.OpenLaw.row PySem.Challenge.rw_unmarked_k44_runs_of_single_rows).prog w) 20000 (PySem.W.OpenLaw.row PySem.Challenge.rw_unmarked_k44_runs_of_single_rows).prog w os).map (fun s => (zfD2.all (fun d => fyCode (zK s) (d.at_ (zK s)) d.qual d.mode), zfD2.map fun d => fyObs (zK s) (d.at_ (zK s)))) = some (true, zfD2.map FY.val) := byF (P := zrunD2_P) zrunD2_t zrunD2_f w os
abbrev zrunT_P (w : World) : Prop := ∀ os : OsState, (HandSHeadRun.endF (HandSHeadRun.stepQ (HandSHeadRun.denQ HandSHeadRun.tabQ) (PySem.W.OpenLaw.row PySem.Challenge.rw_unmarked_k44_runs_of_single_rows).prog w) 20000 (PySem.W.OpenLaw.row PySem.Challenge.rw_unmarked_k44_runs_of_single_rows).prog w os).map (fun s => zts.map fun t => He.dicW (zK s) (t.1 (zK s))) = some (zts.map fun t => some (He.keysIn w.params t.2))
theorem zrunT_t (w : World) : zrunT_P (setF w true) := by
  intro os
  kernel_rfl
theorem zrunT_f (w : World) : zrunT_P (setF w false) := by
  intro os
  kernel_rfl
theorem zrunT (w : World) (os : OsState) : (HandSHeadRun.endF (HandSHeadRun.stepQ (HandSHeadRun.denQ HandSHeadRun.tabQ) (PySem.W.OpenLaw.row PySem.Challenge.rw_unmarked_k44_runs_of_single_rows).prog w) 20000 (PySem.W.OpenLaw.row PySem.Challenge.rw_unmarked_k44_runs_of_single_rows).prog w os).map (fun s => zts.map fun t => He.dicW (zK s) (t.1 (zK s))) = some (zts.map fun t => some (He.keysIn w.params t.2)) := byF (P := zrunT_P) zrunT_t zrunT_f w os
set_option maxHeartbeats 0 in
theorem zrun (w : World) : HandSHeadRun.RunEq (PySem.W.OpenLaw.row PySem.Challenge.rw_unmarked_k44_runs_of_single_rows) (PySem.W.view (PySem.W.OpenLaw.row PySem.Challenge.rw_unmarked_k44_runs_of_single_rows).prog [109]) zhk zob 20000 zls w := by
  intro os
  have h := zparts (Kf := zK) zfs_eq zfn_eq (zrun1 w os) (List.forall_mem_cons.mpr ⟨zrunF0 w os, (List.forall_mem_cons.mpr ⟨zrunF1 w os, (fun _ h => nomatch h)⟩)⟩) (List.forall_mem_cons.mpr ⟨zrunD0 w os, (List.forall_mem_cons.mpr ⟨zrunD1 w os, (List.forall_mem_cons.mpr ⟨zrunD2 w os, (fun _ h => nomatch h)⟩)⟩)⟩)
  exact zpartsU (Kf := zK) h (zrunT w os)
end
/-! ## words -/
namespace Wd
def cd (b : Bool) : Nat := if b then 114 else 108
/-- the text of a word: true is r -/
def enc (u : List Bool) : Str := ⟨(u.map cd).toArray⟩
theorem enc_len (u : List Bool) : (enc u).length = u.length := by show (u.map cd).toArray.size = _; simp
end Wd
open Wd

local macro_rules | `(tactic| walk_at "kbs") => `(tactic| first | omega | decide | exact .inl ⟨by omega, by omega⟩ | exact .inr ⟨by omega, by omega⟩ | exact ⟨by omega, by omega⟩ | exact ⟨by decide, by decide, by decide⟩ | assumption | exact szl (by simp only [enc_len, List.length_cons, List.length_nil, List.length_append, List.length_replicate, List.length_take]; omega))
local macro_rules | `(tactic| walk_at "kb1") => `(tactic| first
  | refine ⟨_, rfl, ?_⟩
  | (refine ⟨_, _, rfl, rfl, ?_⟩; try refine And.intro (by walk_at "kbs") ?_)
  | refine ⟨_, _, _, _, rfl, rfl, (by first | assumption | exact SqL.of (by assumption) | exact SqT.of (by assumption)), rfl, ?_⟩
  | refine ⟨_, _, rfl, (show SqL _ _ _ _ ∨ SqT _ _ _ _ from by first | assumption | exact .inl (by assumption) | exact .inr (by assumption) | exact .inl (SqL.of (by assumption)) | exact .inr (SqT.of (by assumption))), ?_⟩
  | refine ⟨_, _, rfl, ?_⟩
  | refine And.intro (show scal _ _ = true from rfl) ?_
  | refine And.intro (by walk_at "kbs") ?_
  | refine And.intro ⟨_, rfl⟩ ?_)
local macro_rules | `(tactic| walk_at "kb") => `(tactic| repeat (walk_at "kb1"))

/-! ## draws of programs' laws -/
namespace Dr
/-- the deal: the dict and its list of great cells -/
abbrev Bx := Addr × Addr
def dealK (g : Addr) (nw sd : Int) : List (L2.Key × V) := [(.inr "great", .ref g), (.inr "now", .int nw), (.inr "seed", .int sd)]
def BoxAt (H : Hp) (B : Bx) : Prop := B.1 ≠ B.2 ∧ ∃ (ns : List Int) (nw sd : Int), H B.1 = some (.dK (dealK B.2 nw sd)) ∧ H B.2 = some (.lst (ns.map V.int)) ∧ (∀ n ∈ ns, 0 ≤ n) ∧ 0 ≤ nw ∧ 0 ≤ sd ∧ sd < 4294967296
def Keep (B : Bx) (H H' : Hp) : Prop := ∀ a o, a ≠ B.1 → a ≠ B.2 → H a = some o → H' a = some o
theorem Keep.refl (B : Bx) (H : Hp) : Keep B H H := fun _ _ _ _ h => h
theorem Keep.trans {B : Bx} {H H1 H2 : Hp} (x : Keep B H H1) (y : Keep B H1 H2) : Keep B H H2 := fun a o n m h => y a o n m (x a o n m h)
theorem Keep.same {B : Bx} {H H' : Hp} (x : Same H H') : Keep B H H' := fun a o _ _ h => x a o h
theorem Keep.upd1 (B : Bx) (H : Hp) (o : HO) : Keep B H (upd H B.1 o) := fun a u n _ h => by rw [upd_ne n]; exact h
theorem Keep.upd2 (B : Bx) (H : Hp) (o : HO) : Keep B H (upd H B.2 o) := fun a u _ n h => by rw [upd_ne n]; exact h
theorem ine {a b : Str} {v : V} (h : ¬ a = b) : ¬ ((.inr a : L2.Key), v).1 = .inr b := fun e => h (Sum.inr.inj e)
theorem dl_great (g : Addr) (nw sd : Int) : valV (dealK g nw sd) (.inr "great") = some (.ref g) := valV_pos rfl
theorem dl_now (g : Addr) (nw sd : Int) : valV (dealK g nw sd) (.inr "now") = some (.int nw) := (valV_neg (ine (by decide +kernel))).trans (valV_pos rfl)
theorem dl_seed (g : Addr) (nw sd : Int) : valV (dealK g nw sd) (.inr "seed") = some (.int sd) := (valV_neg (ine (by decide +kernel))).trans ((valV_neg (ine (by decide +kernel))).trans (valV_pos rfl))
theorem put_now (g : Addr) (nw sd x : Int) : putK (dealK g nw sd) (.inr "now") (.int x) = dealK g x sd := by
  unfold putK dealK
  simp [show ¬ ("great" : Str) = "now" from by decide +kernel, show ¬ ("seed" : Str) = "now" from by decide +kernel]
theorem put_seed (g : Addr) (nw sd x : Int) : putK (dealK g nw sd) (.inr "seed") (.int x) = dealK g nw x := by
  unfold putK dealK
  simp [show ¬ ("great" : Str) = "seed" from by decide +kernel, show ¬ ("now" : Str) = "seed" from by decide +kernel]
section
variable {H : Hp} {B : Bx} {nw sd : Int}
theorem getG (hb : H B.1 = some (.dK (dealK B.2 nw sd))) : DGet H B.1 (.str "great") (some (.ref B.2)) := dl_great B.2 nw sd ▸ DGet.k (k := .inr "great") hb
theorem getN (hb : H B.1 = some (.dK (dealK B.2 nw sd))) : DGet H B.1 (.str "now") (some (.int nw)) := dl_now B.2 nw sd ▸ DGet.k (k := .inr "now") hb
theorem getS (hb : H B.1 = some (.dK (dealK B.2 nw sd))) : DGet H B.1 (.str "seed") (some (.int sd)) := dl_seed B.2 nw sd ▸ DGet.k (k := .inr "seed") hb
theorem putN (x : Int) (hb : H B.1 = some (.dK (dealK B.2 nw sd))) : DPut H B.1 (.str "now") (.int x) (upd H B.1 (.dK (dealK B.2 x sd))) := .inl ⟨_, .inr "now", hb, rfl, by show 3 < sizeLine; decide, by rw [put_now]⟩
theorem putS (x : Int) (hb : H B.1 = some (.dK (dealK B.2 nw sd))) : DPut H B.1 (.str "seed") (.int x) (upd H B.1 (.dK (dealK B.2 nw x))) := .inl ⟨_, .inr "seed", hb, rfl, by show 3 < sizeLine; decide, by rw [put_seed]⟩
end
theorem BoxAt.n1 {H : Hp} {B : Bx} {p : Addr} (x : BoxAt H B) (h : H p = none) : p ≠ B.1 := fun e => by
  obtain ⟨_, ns, a, b, q, _⟩ := x
  rw [e, q] at h; cases h
theorem BoxAt.n2 {H : Hp} {B : Bx} {p : Addr} (x : BoxAt H B) (h : H p = none) : p ≠ B.2 := fun e => by
  obtain ⟨_, ns, a, b, _, q, _⟩ := x
  rw [e, q] at h; cases h
theorem BoxAt.keep {H H' : Hp} {B : Bx} (x : BoxAt H B) (h1 : ∀ o, H B.1 = some o → H' B.1 = some o) (h2 : ∀ o, H B.2 = some o → H' B.2 = some o) : BoxAt H' B := by
  obtain ⟨ne, ns, a, b, p, q, z⟩ := x
  exact ⟨ne, ns, a, b, h1 _ p, h2 _ q, z⟩
theorem BoxAt.same {H H' : Hp} {B : Bx} (x : BoxAt H B) (h : Same H H') : BoxAt H' B := x.keep (fun o => h _ o) fun o => h _ o
theorem Keep.free {B : Bx} {p : Addr} {H H' : Hp} (x : Keep B H H') (hb : BoxAt H' B) (h : H' p = none) : H p = none := by
  cases e : H p with
  | none => rfl
  | some o => rw [x p o (hb.n1 h) (hb.n2 h) e] at h; cases h
def sp_draw : Sp := fun vs H Q _ => ∃ (B : Bx) (m : Int), vs = [.ref B.1, .int m] ∧ BoxAt H B ∧ 0 < m ∧ m ≤ 10000000000000000000000000000 ∧ ∀ (d : Int) (H' : Hp), 0 ≤ d → d < m → Keep B H H' → BoxAt H' B → Q (.int d) H'
def sp_deal (K : PySem.W.Frag) : Sp := fun vs H Q _ => ∃ (a : Addr) (ns : List Int) (b : Nat), vs = [.ref a, .int (b : Nat)] ∧ b ≤ 63 ∧ SqL K H a (ns.map V.int) ∧ ns.length ≤ 63 ∧ ∀ (B : Bx) (H' : Hp), H B.1 = none → H B.2 = none → Same H H' → BoxAt H' B → Q (.ref B.1) H'
def sp_pick (K : PySem.W.Frag) : Sp := fun vs H Q _ => ∃ (B : Bx) (l : Addr) (xs : List V), vs = [.ref B.1, .ref l] ∧ BoxAt H B ∧ l ≠ B.1 ∧ l ≠ B.2 ∧ (SqL K H l xs ∨ SqT K H l xs) ∧ 0 < xs.length ∧ xs.length ≤ 100000 ∧ ∀ (d : Nat) (v : V) (H' : Hp), xs[d]? = some v → Keep B H H' → BoxAt H' B → Q v H'
theorem cut_ints (ns : List Int) (lo hi : Option Int) : ∃ ms : List Int, cutV (ns.map V.int) lo hi = ms.map V.int ∧ ms.length ≤ ns.length := by
  unfold cutV
  refine ⟨_, by rw [← List.map_drop, ← List.map_take], ?_⟩
  rw [List.length_take, List.length_drop]; omega
end Dr
open Dr
section
variable {P : Program} {w : World} {K : PySem.W.Frag} {mg : Str → Option Value} {base : Heap}
theorem ok_draw {f : Addr} {fd : FuncData} (F : Fun K "_law_draw" "_law_draw" S__law_draw f fd) (T : Txt K mg) : FnOk P w K mg base CX0 1 f fd ["_law_deal_here", "_law_many"] sp_draw := by
  refine F.ok SC__law_draw (fun vs H Q E h => ?_) (fun cdv A outer s H vs Q E hr h => ?_)
  · obtain ⟨b, m, rfl, _⟩ := h
    rfl
  · obtain ⟨B, m, rfl, ⟨ne, ns, nw, sd, hb, hg, hn, hc, hs0, hs1⟩, m0, m1, k⟩ := h
    refine ⟨_, (pss_mid (ps_while PassesOwn.never (PW.pt (pw_and (pt_cmpR op_eq (pe_dget (hu_of hr) (pv 0) pe_str (fun _ _ => rfl)) pe_int (nomark _)) (pw_and1 (pt_cmpR op_gt (pe_callB call_len_seq (by rfl) T.b_len (by decide +kernel) (pa_cons (pe_dget (hu_of hr) (pv 0) pe_str (fun _ _ => rfl)) pa_nil)) pe_int (nomark _))))) (pss_one (ps_dput (hu_of hr) (pv 0) pe_str (pe_bm0 PySem.F.plainAttrs_list PySem.F.slot_list_pop PySem.F.type_list_pop mt_pop (pe_dget (hu_of hr) (pv 0) pe_str (fun _ _ => rfl))) rfl)))
      (pss_cons (ps_set (i := 2) SC__law_draw.nd rfl (.inl rfl) (pe_dget (hu_of hr) (pv 0) pe_str (fun _ _ => rfl)))
      (pss_cons (ps_if (pt_cmpR op_gt (pv 2) pe_int (nomark _)) (pss_cons (ps_dput (hu_of hr) (pv 0) pe_str (pe_op op_fdivW (pv 2) (pv 1)) rfl)
      (pss_one (ps_ret (pe_op op_mod (pe_callTy call_intI (by rfl) T.b_int (by decide +kernel) (pa_cons (pv 2) pa_nil)) (pv 1))))) pss_nil)
      (pss_cons (ps_set (i := 3) SC__law_draw.nd rfl (.inl rfl) (pe_op op_mod (pe_callTy call_intI (by rfl) T.b_int (by decide +kernel) (pa_cons (pe_op op_add (pe_op op_mul (pe_dget (hu_of hr) (pv 0) pe_str (fun _ _ => rfl)) pe_int) pe_int) pa_nil)) pe_int))
      (pss_cons (ps_dput (hu_of hr) (pv 0) pe_str (pe_op op_mod (pe_callTy call_intI (by rfl) T.b_int (by decide +kernel) (pa_cons (pe_op op_add (pe_op op_mul (pv 3) pe_int) pe_int) pa_nil)) pe_int) rfl)
      (pss_cons (ps_set (i := 4) SC__law_draw.nd rfl (.inl rfl) (pe_op op_mod (pe_callTy call_intI (by rfl) T.b_int (by decide +kernel) (pa_cons (pe_op op_mul (pe_dget (hu_of hr) (pv 0) pe_str (fun _ _ => rfl)) (pe_dget (hu_of hr) (pv 0) pe_str (fun _ _ => rfl))) pa_nil)) pe_int))
      (pss_one (ps_ret (pe_op op_mod (pe_callTy call_intI (by rfl) T.b_int (by decide +kernel) (pa_cons (pe_op op_add (pe_op op_mul (pe_op op_mod (pe_callTy call_intI (by rfl) T.b_int (by decide +kernel) (pa_cons (pe_op op_mul (pv 3) (pv 3)) pa_nil)) pe_int) pe_int) (pv 4)) pa_nil)) (pv 1)))))))))), ?_⟩
    refine ⟨fun σ H' => ∃ (ns : List Int) (nw : Int), Keep B H H' ∧ H' B.1 = some (.dK (dealK B.2 nw sd)) ∧ H' B.2 = some (.lst (ns.map V.int)) ∧ (∀ n ∈ ns, 0 ≤ n) ∧ 0 ≤ nw ∧ σ = [some (.ref B.1), some (.int m), none, none, none], ?_, fun σ1 H1 z => ?_⟩
    · refine while_by (fun σ H' => ∃ (ns : List Int) (nw : Int), Keep B H H' ∧ H' B.1 = some (.dK (dealK B.2 nw sd)) ∧ H' B.2 = some (.lst (ns.map V.int)) ∧ (∀ n ∈ ns, 0 ≤ n) ∧ 0 ≤ nw ∧ σ = [some (.ref B.1), some (.int m), none, none, none])
        (fun _ H' => match H' B.2 with | some (.lst xs) => xs.length | _ => 0) ⟨ns, nw, Keep.refl _ _, hb, hg, hn, hc, rfl⟩ (fun σ H1 hP => ?_) (fun σ H Q Q' h q => ?_)
      · obtain ⟨ns, nw, kp, hb, hg, hn, hc, rfl⟩ := hP
        refine ⟨_, rfl, B.1, _, rfl, getN hb, rfl, _, rfl, ?_⟩
        refine ite2 (fun c => ?_) (fun c => ?_)
        · refine ⟨_, rfl, B.1, _, rfl, getG hb, B.2, ns.map V.int, rfl, .inl (SqL.of hg), _, _, rfl, rfl, _, rfl, ?_⟩
          refine ite2 (fun c2 => ?_) (fun c2 => ?_)
          · have c2 : 0 < ns.length := by
              have := of_decide_eq_true c2
              rw [List.length_map] at this
              omega
            have nn : ns ≠ [] := fun e => by rw [e] at c2; cases c2
            refine ⟨_, rfl, B.1, _, rfl, getG hb, .inl ⟨rfl, _, SqL.of hg⟩, B.2, ns.map V.int, .int (ns.getLast nn), rfl, rfl, hg, ?_, ?_⟩
            · rw [List.length_map, List.getElem?_map, ← List.getLast?_eq_getElem?, List.getLast?_eq_some_getLast nn]; rfl
            · have hb' : (upd H1 B.2 (.lst (ns.map V.int).dropLast)) B.1 = some (.dK (dealK B.2 nw sd)) := by rw [upd_ne ne]; exact hb
              refine ⟨_, rfl, B.1, _, rfl, putN _ hb', ⟨ns.dropLast, _, kp.trans ((Keep.upd2 _ _ _).trans (Keep.upd1 _ _ _)), upd_same, ?_, fun n hm => hn n (List.dropLast_subset _ hm), hn _ (List.getLast_mem nn), rfl⟩, ?_⟩
              · rw [upd_ne ne.symm, upd_same, List.map_dropLast]
              · show (match upd (upd H1 B.2 _) B.1 _ B.2 with | some (.lst xs) => xs.length | _ => 0) < (match H1 B.2 with | some (.lst xs) => xs.length | _ => 0)
                rw [upd_ne ne.symm, upd_same, hg]
                show ((ns.map V.int).dropLast).length < (ns.map V.int).length
                rw [List.length_dropLast, List.length_map]; omega
          · exact ⟨ns, nw, kp, hb, hg, hn, hc, rfl⟩
        · refine ite2 (fun c2 => by cases c2) (fun _ => ?_)
          exact ⟨ns, nw, kp, hb, hg, hn, hc, rfl⟩
      · obtain ⟨v, e, x, vv, ex, g, sc, b, eb, q⟩ := q
        refine ⟨v, e, x, vv, ex, g, sc, b, eb, ?_⟩
        cases b with
        | false => exact h _ _ q
        | true =>
          rw [if_pos rfl] at q ⊢
          obtain ⟨v2, e2, x2, vv2, ex2, g2, p3, ys, e3, s3, i3, j3, e4, e5, b2, eb2, q⟩ := q
          exact ⟨v2, e2, x2, vv2, ex2, g2, p3, ys, e3, s3, i3, j3, e4, e5, b2, eb2, h _ _ q⟩
    · obtain ⟨ns, nw, kp, hb, hg, hn, hc, rfl⟩ := z
      refine ⟨_, rfl, B.1, _, rfl, getN hb, ?_⟩
      refine ⟨_, rfl, _, _, rfl, rfl, _, rfl, ?_⟩
      refine ite2 (fun c => ?_) (fun c => ?_)
      · refine ⟨_, rfl, _, rfl, _, _, rfl, rfl, ⟨m0, ?_⟩, _, rfl, B.1, _, rfl, putN _ hb, ?_⟩
        · have q : m.natAbs < 2 ^ 100 := by omega
          exact Nat.lt_of_lt_of_le (PySem.Flt.log2_lt_of (by decide) q) (by decide)
        · refine ⟨_, rfl, _, rfl, _, rfl, _, _, rfl, rfl, m0, ?_⟩
          refine k (nw % m) _ (Int.emod_nonneg _ (by omega)) (Int.emod_lt_of_pos _ m0) (kp.trans (Keep.upd1 _ _ _)) ⟨ne, ns, nw / m, sd, upd_same, ?_, hn, Int.ediv_nonneg hc (by omega), hs0, hs1⟩
          rw [upd_ne ne.symm]; exact hg
      · have e1 : ∀ x : Int, 0 ≤ x % 2147483647 ∧ x % 2147483647 < 2147483647 := fun x => ⟨Int.emod_nonneg _ (by decide), Int.emod_lt_of_pos _ (by decide)⟩
        have e2 : ∀ x : Int, 0 ≤ x % 2147483587 ∧ x % 2147483587 < 2147483587 := fun x => ⟨Int.emod_nonneg _ (by decide), Int.emod_lt_of_pos _ (by decide)⟩
        have e3 : ∀ x : Int, 0 ≤ x % 2147483563 ∧ x % 2147483563 < 2147483563 := fun x => ⟨Int.emod_nonneg _ (by decide), Int.emod_lt_of_pos _ (by decide)⟩
        refine ⟨_, rfl, B.1, _, rfl, getS hb, _, _, rfl, rfl, .inr ⟨by decide, by decide⟩, _, _, rfl, rfl, _, rfl, _, _, rfl, rfl, (by show (0 : Int) < 2147483647; decide), ?_⟩
        have o1 := e1 (sd * 39373 + 5003)
        dsimp only
        generalize (sd * 39373 + 5003) % 2147483647 = one at o1 ⊢
        refine ⟨_, rfl, _, _, rfl, rfl, .inr ⟨by decide, by decide⟩, _, _, rfl, rfl, _, rfl, _, _, rfl, rfl, (by show (0 : Int) < 2147483587; decide), _, rfl, B.1, _, rfl, putS _ hb, ?_⟩
        have o2 := e2 (one * 69623 + 60013)
        dsimp only
        generalize (one * 69623 + 60013) % 2147483587 = sd2 at o2 ⊢
        have hb2 : (upd H1 B.1 (.dK (dealK B.2 nw sd2))) B.1 = some (.dK (dealK B.2 nw sd2)) := upd_same
        refine ⟨_, rfl, B.1, _, rfl, getS hb2, _, rfl, B.1, _, rfl, getS hb2, _, _, rfl, rfl, .inl ⟨by omega, by omega⟩, _, rfl, _, _, rfl, rfl, (by show (0 : Int) < 2147483549; decide), ?_⟩
        refine ⟨_, rfl, _, rfl, _, _, rfl, rfl, .inl ⟨by omega, by omega⟩, _, rfl, _, _, rfl, rfl, (by show (0 : Int) < 2147483563; decide), _, _, rfl, rfl, .inr ⟨by decide, by decide⟩, ?_⟩
        refine ⟨_, rfl, _, _, rfl, rfl, _, rfl, _, rfl, _, _, rfl, rfl, m0, ?_⟩
        refine k _ _ (Int.emod_nonneg _ (by omega)) (Int.emod_lt_of_pos _ m0) (kp.trans (Keep.upd1 _ _ _)) ⟨ne, ns, nw, sd2, hb2, ?_, hn, hc, o2.1, by omega⟩
        rw [upd_ne ne.symm]; exact hg
theorem ok_deal {f : Addr} {fd : FuncData} (F : Fun K "_law_deal" "_law_deal" S__law_deal f fd) (T : Txt K mg) : FnOk P w K mg base CX0 1 f fd ["_law_script", "_law_base"] (sp_deal K) := by
  refine F.ok SC__law_deal (fun vs H Q E h => ?_) (fun cdv A outer s H vs Q E hr h => ?_)
  · obtain ⟨a, ns, b, rfl, _⟩ := h
    rfl
  · obtain ⟨a, ns, b, rfl, hb63, hS, hlen, k⟩ := h
    refine ⟨_, (pss_cons (ps_setLc (i := 2) (own := [("_law_cell", 4)]) (g := gName 4) (by rfl) SC__law_deal.nd rfl rfl (sw_true rfl rfl rfl (by decide +kernel)) (pi_list (pe_slice sl_list (pv 0) (po_some (pv 1)) (po_some pe_int))) (blkOk_by (own := [("_law_cell", 4)]) (N := N__law_deal) (sc := defScope S__law_deal) (by decide +kernel)) (fun _ _ _ _ _ => pg_name (i := 4) SC__law_deal.nd rfl (Or.inl rfl)) (fun _ _ _ _ _ => pts_nil) (fun _ _ _ _ _ => (pe_callB call_abs (by rfl) T.b_abs (by decide +kernel) (pa_cons (pe_callTy call_intI (by rfl) T.b_int (by decide +kernel) (pa_cons (pv 4) pa_nil)) pa_nil))))
      (pss_cons (ps_set (i := 3) SC__law_deal.nd rfl (.inl rfl) (pe_op op_add pe_int (pe_op op_mul pe_int (pv 1))))
      (pss_cons (ps_for PassesOwn.never rfl (pi_list (pv 2)) (pg_name (i := 4) SC__law_deal.nd rfl (.inl rfl)) (pss_one (ps_set (i := 3) SC__law_deal.nd rfl (.inl rfl) (pe_op op_mod (pe_callTy call_intI (by rfl) T.b_int (by decide +kernel) (pa_cons (pe_op op_add (pe_op op_add (pe_op op_mul (pv 3) pe_int) (pe_op op_mod (pe_callTy call_intI (by rfl) T.b_int (by decide +kernel) (pa_cons (pv 4) pa_nil)) pe_int)) pe_int) pa_nil)) pe_int))))
      (pss_one (ps_ret (pe_disp (pps_cons pe_str (pe_revL (pe_lc (own := [("_law_cell", 4)]) (g := gName 4) (by rfl) SC__law_deal.nd (pi_list (pv 2)) (blkOk_by (own := [("_law_cell", 4)]) (N := N__law_deal) (sc := defScope S__law_deal) (by decide +kernel)) (fun _ _ _ _ _ => pg_name (i := 4) SC__law_deal.nd rfl (Or.inl rfl)) (fun _ _ _ _ _ => pts_one (pt_cmpR op_ge (pv 4) (pe_op op_pow pe_int pe_int) (nomark _))) (fun _ _ _ _ _ => (pv 4)))) (pps_cons pe_str pe_int (pps_cons pe_str (pv 3) pps_nil))) rfl rfl (by decide) (by decide))))))), ?_⟩
    obtain ⟨ms, em, lm⟩ := cut_ints ns (some (b : Nat)) (some 63)
    refine ⟨_, rfl, _, rfl, _, rfl, _, rfl, a, _, rfl, hS, fun L hL => ?_⟩
    rw [em]
    have hL1 : (upd H L (.lst (ms.map V.int))) L = some (.lst (ms.map V.int)) := upd_same
    have s1 : Same H (upd H L (.lst (ms.map V.int))) := fun b o e => by rw [upd_ne (ne_of_none e hL)]; exact e
    generalize upd H L (.lst (ms.map V.int)) = H1 at hL1 s1 ⊢
    refine ⟨L, rfl, ⟨_, SqL.of hL1⟩, fun D hD => ?_⟩
    refine lcR_list (xs := ms.map V.int) (fun i H' => (∀ b o, b ≠ D → H1 b = some o → H' b = some o) ∧ H' D = some (.lst (((ms.take i).map fun x => V.int (if x < 0 then -x else x))))) ⟨fun b o n e => by rw [upd_ne n]; exact e, by rw [upd_same]; rfl⟩
      (fun i H' _ m => SqL.of (m.1 _ _ (ne_of_none hL1 hD) hL1)) (fun i x H' hi m => ?_) (gName_mono _) (fun H' m => ?_)
    · obtain ⟨kp, hD'⟩ := m
      rw [List.getElem?_map] at hi
      obtain ⟨y, hy, rfl⟩ := Option.map_eq_some_iff.mp hi
      refine ⟨rfl, _, rfl, y, rfl, y, rfl, _, hD', ?_, fun b o n e => by rw [upd_ne n]; exact kp b o n e, ?_⟩
      · rw [List.length_map, List.length_take]
        exact Nat.lt_of_le_of_lt (show min i ms.length ≤ 63 by omega) (by decide)
      · rw [upd_same, List.take_add_one, hy, List.map_append]; rfl
    obtain ⟨kp, hD'⟩ := m
    rw [List.length_map, List.take_of_length_le (Nat.le_refl _)] at hD'
    obtain ⟨cs, ec, lc, nc⟩ : ∃ cs : List Int, ((ms.map fun x => V.int (if x < 0 then -x else x)) = cs.map V.int) ∧ cs.length ≤ 63 ∧ ∀ c ∈ cs, 0 ≤ c := ⟨ms.map fun x => if x < 0 then -x else x, by rw [List.map_map]; rfl, by rw [List.length_map]; omega, fun c hc => by
      obtain ⟨x, _, rfl⟩ := List.mem_map.mp hc
      split <;> omega⟩
    rw [ec] at hD'
    have s2 : Same H H' := s1.trans fun b o e => kp b o (ne_of_none e hD) e
    clear kp hD s1 hL1
    refine ⟨_, rfl, _, _, rfl, rfl, .inl ⟨by decide, by decide⟩, _, _, rfl, rfl, ?_⟩
    refine ⟨_, rfl, D, rfl, ⟨_, SqL.of hD'⟩, ?_⟩
    refine for_list (xs := cs.map V.int) (fun j σ H2 => H2 = H' ∧ ∃ (sd : Int) (y4 : Option V), 0 ≤ sd ∧ sd < 4294967296 ∧ σ = [some (.ref a), some (.int (b : Nat)), some (.ref D), some (.int sd), y4])
      ⟨rfl, _, _, ?_, ?_, rfl⟩ (fun j σ H2 _ m => by rw [m.1]; exact SqL.of hD') (fun j x σ H2 hj m => ?_) (fun σ H2 m => ?_)
    · omega
    · omega
    · obtain ⟨rfl, sd, y4, d0, d1, rfl⟩ := m
      rw [List.getElem?_map] at hj
      obtain ⟨y, hy, rfl⟩ := Option.map_eq_some_iff.mp hj
      refine ⟨_, rfl, _, _, rfl, rfl, .inr ⟨by decide, by decide⟩, _, rfl, _, rfl, _, _, rfl, rfl, (by show (0 : Int) < 2147483629; decide), _, _, rfl, rfl, _, _, rfl, rfl, _, rfl, _, _, rfl, rfl, (by show (0 : Int) < 2147483647; decide), ?_⟩
      exact ⟨rfl, _, _, Int.emod_nonneg _ (by decide), Int.lt_of_lt_of_le (Int.emod_lt_of_pos _ (by decide)) (by decide), rfl⟩
    · obtain ⟨rfl, sd, y4, d0, d1, rfl⟩ := m
      intro p hp
      have np : D ≠ p := ne_of_none hD' hp
      have hD2 : (upd H2 p (.dK [])) D = some (.lst (cs.map V.int)) := by rw [upd_ne np]; exact hD'
      have hpp : (upd H2 p (.dK [])) p = some (.dK []) := upd_same
      have s3 : Same H2 (upd H2 p (.dK [])) := fun b o e => by rw [upd_ne (ne_of_none e hp)]; exact e
      generalize upd H2 p (.dK []) = H3 at hD2 hpp s3 ⊢
      refine ⟨_, rfl, D, rfl, ⟨_, SqL.of hD2⟩, fun D2 hD3 => ?_⟩
      refine lc_list (xs := cs.map V.int) (fun k H' => (∀ b o, b ≠ D2 → H3 b = some o → H' b = some o) ∧ ∃ gs : List Int, gs.length ≤ k ∧ (∀ g ∈ gs, 0 ≤ g) ∧ H' D2 = some (.lst (gs.map V.int))) ⟨fun b o n e => by rw [upd_ne n]; exact e, [], Nat.le_refl _, (fun g h => absurd h (List.not_mem_nil)), upd_same⟩ (fun k H' _ m => SqL.of (m.1 _ _ (ne_of_none hD2 hD3) hD2)) (fun k x H' hk m => ?_) (fun H' m => ?_)
      · obtain ⟨kp, gs, gl, gn, hg⟩ := m
        rw [List.getElem?_map] at hk
        obtain ⟨y, hy, rfl⟩ := Option.map_eq_some_iff.mp hk
        have hk2 : k < cs.length := (List.getElem?_eq_some_iff.mp hy).1
        refine ⟨rfl, _, rfl, _, _, rfl, rfl, ⟨by decide, by decide, by decide⟩, _, _, rfl, rfl, _, rfl, ?_⟩
        refine ite2 (fun c => ?_) (fun c => ⟨kp, gs, Nat.le_succ_of_le gl, gn, hg⟩)
        refine ⟨_, rfl, _, hg, ?_, fun b o n e => by rw [upd_ne n]; exact kp b o n e, gs ++ [y], by rw [List.length_append]; simp; omega, fun g hgm => ?_, by rw [upd_same, List.map_append]; rfl⟩
        · rw [List.length_map]
          exact Nat.lt_of_le_of_lt (show gs.length ≤ 63 by omega) (by decide)
        · rcases List.mem_append.mp hgm with z | z
          · exact gn g z
          · rw [List.mem_singleton.mp z]
            exact nc y (List.mem_of_getElem? hy)
      · obtain ⟨kp, gs, gl, gn, hg⟩ := m
        refine ⟨D2, _, rfl, SqL.of hg, fun G hG => ?_⟩
        have hp2 : H' p = some (.dK []) := kp _ _ (ne_of_none hpp hD3) hpp
        have s4 : Same H2 H' := fun b o e => kp _ _ (ne_of_none (s3 _ _ e) hD3) (s3 _ _ e)
        have gp : G ≠ p := fun e => by rw [e, hp2] at hG; cases hG
        refine ⟨_, rfl, by rw [upd_ne gp.symm]; exact hp2, dealK G 0 sd, rfl, by show 3 ≤ 15; decide, ?_⟩
        have em : mergeK [] (dealK G 0 sd) = dealK G 0 sd := by
          unfold mergeK dealK
          simp [putK, show ¬ ("great" : Str) = "now" from by decide +kernel, show ¬ ("great" : Str) = "seed" from by decide +kernel, show ¬ ("now" : Str) = "seed" from by decide +kernel]
        rw [em, ← List.map_reverse]
        refine k (p, G) _ (s2.free hp) ((s2.trans s4).free hG) (fun b o e => ?_) ⟨gp.symm, gs.reverse, 0, sd, upd_same, ?_, fun n hn => gn n (List.mem_reverse.mp hn), Int.le_refl 0, d0, d1⟩
        · have e2 := s2 _ _ e
          rw [upd_ne (ne_of_none e2 hp), upd_ne (ne_of_none (s4 _ _ e2) hG)]
          exact s4 _ _ e2
        · rw [upd_ne gp, upd_same]
theorem ok_pick {f : Addr} {fd : FuncData} (F : Fun K "_law_pick" "_law_pick" S__law_pick f fd) (T : Txt K mg) (C_draw : FnC P w K mg base CX0 1 "_law_draw" ["_law_deal_here", "_law_many"] sp_draw) : FnOk P w K mg base CX0 2 f fd ["_law_deal_here", "_law_some"] (sp_pick K) := by
  refine F.ok SC__law_pick (fun vs H Q E h => ?_) (fun cdv A outer s H vs Q E hr h => ?_)
  · obtain ⟨B, l, xs, rfl, _⟩ := h
    rfl
  · obtain ⟨B, l, xs, rfl, hb, n1, n2, hS, h0, h1, k⟩ := h
    refine ⟨_, (pss_one (ps_ret (pe_ix ix_seq (pv 1) (pe_callC C_draw (hr.mono (by decide)) rfl (pa_cons (pv 0) (pa_cons (pe_callB call_len_seq (by rfl) T.b_len (by decide +kernel) (pa_cons (pv 1) pa_nil)) pa_nil))) (fun _ _ => rfl)))), ?_⟩
    refine ⟨_, rfl, _, rfl, _, rfl, l, xs, rfl, hS, B, _, rfl, hb, ?_, ?_, fun d H' d0 d1 kp hb' => ?_⟩
    · show (0 : Int) < (xs.length : Int); omega
    · show (xs.length : Int) ≤ 10000000000000000000000000000; omega
    · have hd : d.toNat < xs.length := by have d1 : d < (xs.length : Int) := d1; omega
      have hat : atI xs d = some xs[d.toNat] := at_of (by omega) (List.getElem?_eq_getElem hd)
      have kS : SqL K H' l xs ∨ SqT K H' l xs := by
        have rd : ∀ u, Rd H l u → Rd H' l u := fun u q => q.elim (fun q => .inl (kp _ _ n1 n2 q)) fun ⟨o, q⟩ => .inr ⟨o, kp _ _ n1 n2 q⟩
        exact hS.elim (fun q => .inl (q.elim (fun q => .inl (rd _ q)) .inr)) fun q => .inr (q.elim (fun q => .inl (rd _ q)) .inr)
      have kk := k d.toNat _ H' (List.getElem?_eq_getElem hd) kp hb'
      exact kS.elim (fun q => .inl ⟨l, xs, d, _, rfl, rfl, q, hat, kk⟩) fun q => .inr (.inl ⟨l, xs, d, _, rfl, rfl, q, hat, kk⟩)
end

/-! ## words in order -/
namespace Wd
end Wd

/-! ## errors -/
section
variable {P : Program} {w : World} {K : PySem.W.Frag} {mg : Str → Option Value} {base : Heap}
theorem ok_err_InvalidChange {f C U : Addr} {fd : FuncData} (F : Fun K "__init__" "InvalidChange.__init__" S_InvalidChange__init_ f fd) (hU : UeC K U) (hm : mg "UnmarkedError" = some (.ref U)) (O : OexC K C) : FnOk P w K mg base CX0 1 f fd ["self"] (sp_err0 C) := by
  refine F.ok SC_InvalidChange__init_ (fun vs H Q E h => ?_) (fun cdv A outer s H vs Q E hr h => ?_)
  · obtain ⟨a, rfl, _⟩ := h
    rfl
  · obtain ⟨a, rfl, ha, q⟩ := h
    refine ⟨_, (pss_one (ps_expr (pe_uinit hU rfl hm (pa_cons (pv 0) (pa_cons pe_str pa_nil))))), ?_⟩
    exact ⟨_, rfl, a, C, _, rfl, by decide, O, ha, q⟩
theorem ok_err_NoPair {f C U : Addr} {fd : FuncData} (F : Fun K "__init__" "NoPair.__init__" S_NoPair__init_ f fd) (hU : UeC K U) (hm : mg "UnmarkedError" = some (.ref U)) (O : OexC K C) : FnOk P w K mg base CX0 1 f fd ["self"] (sp_err0 C) := by
  refine F.ok SC_NoPair__init_ (fun vs H Q E h => ?_) (fun cdv A outer s H vs Q E hr h => ?_)
  · obtain ⟨a, rfl, _⟩ := h
    rfl
  · obtain ⟨a, rfl, ha, q⟩ := h
    refine ⟨_, (pss_one (ps_expr (pe_uinit hU rfl hm (pa_cons (pv 0) (pa_cons pe_str pa_nil))))), ?_⟩
    exact ⟨_, rfl, a, C, _, rfl, by decide, O, ha, q⟩
end

/-! ## errors with a field -/
section
variable {P : Program} {w : World} {K : PySem.W.Frag} {mg : Str → Option Value} {base : Heap}
theorem ok_err_InvalidRow {f C U : Addr} {fd : FuncData} (F : Fun K "__init__" "InvalidRow.__init__" S_InvalidRow__init_ f fd) (hU : UeC K U) (hm : mg "UnmarkedError" = some (.ref U)) (O : OexC K C) (nf : PySem.W.findIn K (.ref C) "part" = some none) : FnOk P w K mg base CX0 1 f fd ["self", "part"] (sp_err1 C "part") := by
  refine F.ok SC_InvalidRow__init_ (fun vs H Q E h => ?_) (fun cdv A outer s H vs Q E hr h => ?_)
  · obtain ⟨a, v, rfl, _⟩ := h
    rfl
  · obtain ⟨a, v, rfl, ha, q⟩ := h
    refine ⟨_, (pss_cons (ps_expr (pe_uinit hU rfl hm (pa_cons (pv 0) (pa_cons pe_str pa_nil)))) (pss_one (ps_ost (pv 0) (pv 1)))), ?_⟩
    exact ⟨_, rfl, a, C, _, rfl, by decide, O, ha, _, rfl, _, rfl, a, C, rfl, O, nf, .inl ⟨ha, fun dx hn ne => q dx hn ne⟩⟩
theorem ok_err_NoNote {f C U : Addr} {fd : FuncData} (F : Fun K "__init__" "NoNote.__init__" S_NoNote__init_ f fd) (hU : UeC K U) (hm : mg "UnmarkedError" = some (.ref U)) (O : OexC K C) (nf : PySem.W.findIn K (.ref C) "name" = some none) : FnOk P w K mg base CX0 1 f fd ["self", "name"] (sp_err1 C "name") := by
  refine F.ok SC_NoNote__init_ (fun vs H Q E h => ?_) (fun cdv A outer s H vs Q E hr h => ?_)
  · obtain ⟨a, v, rfl, _⟩ := h
    rfl
  · obtain ⟨a, v, rfl, ha, q⟩ := h
    refine ⟨_, (pss_cons (ps_expr (pe_uinit hU rfl hm (pa_cons (pv 0) (pa_cons pe_str pa_nil)))) (pss_one (ps_ost (pv 0) (pv 1)))), ?_⟩
    exact ⟨_, rfl, a, C, _, rfl, by decide, O, ha, _, rfl, _, rfl, a, C, rfl, O, nf, .inl ⟨ha, fun dx hn ne => q dx hn ne⟩⟩
end

/-! ## lengths and ratios -/
namespace Rt
def isI : V → Bool | .int _ => true | .bl _ => true | _ => false
def isB : V → Bool | .bl _ => true | _ => false
def isS : V → Bool | .str _ => true | _ => false
def isLen : V → Bool | .int i => decide (1 ≤ i) | _ => false
/-- what isinstance tells of a value against int, bool and str -/
structure Kd (K : PySem.W.Frag) (H : Hp) (x : V) : Prop where
  ex : ∃ t, TyX K H x t ∧ PySem.W.kitOne K t (.type "int") = some (isI x) ∧ PySem.W.kitOne K t (.type "bool") = some (isB x) ∧ PySem.W.kitOne K t (.type "str") = some (isS x)
theorem Kd.int {K : PySem.W.Frag} {H : Hp} (i : Int) : Kd K H (.int i) := ⟨_, .base (.int i), kit_ty (show kitB "int" "int" = some true by decide +kernel), kit_ty (show kitB "int" "bool" = some false by decide +kernel), kit_ty (show kitB "int" "str" = some false by decide +kernel)⟩
theorem Kd.bl {K : PySem.W.Frag} {H : Hp} (i : Bool) : Kd K H (.bl i) := ⟨_, .base (.bl i), kit_ty (show kitB "bool" "int" = some true by decide +kernel), kit_ty (show kitB "bool" "bool" = some true by decide +kernel), kit_ty (show kitB "bool" "str" = some false by decide +kernel)⟩
theorem Kd.str {K : PySem.W.Frag} {H : Hp} (i : Str) : Kd K H (.str i) := ⟨_, .base (.str i), kit_ty (show kitB "str" "int" = some false by decide +kernel), kit_ty (show kitB "str" "bool" = some false by decide +kernel), kit_ty (show kitB "str" "str" = some true by decide +kernel)⟩
theorem Kd.non {K : PySem.W.Frag} {H : Hp} : Kd K H .non := ⟨_, .base .non, kit_ty (show kitB "NoneType" "int" = some false by decide +kernel), kit_ty (show kitB "NoneType" "bool" = some false by decide +kernel), kit_ty (show kitB "NoneType" "str" = some false by decide +kernel)⟩
theorem Kd.lst {K : PySem.W.Frag} {H : Hp} {p : Addr} {xs : List V} (h : H p = some (.lst xs)) : Kd K H (.ref p) := ⟨_, .base (.lst h), kit_ty (show kitB "list" "int" = some false by decide +kernel), kit_ty (show kitB "list" "bool" = some false by decide +kernel), kit_ty (show kitB "list" "str" = some false by decide +kernel)⟩
theorem Kd.tup {K : PySem.W.Frag} {H : Hp} {p : Addr} {xs : List V} (h : H p = some (.tup xs)) : Kd K H (.ref p) := ⟨_, .base (.tup h), kit_ty (show kitB "tuple" "int" = some false by decide +kernel), kit_ty (show kitB "tuple" "bool" = some false by decide +kernel), kit_ty (show kitB "tuple" "str" = some false by decide +kernel)⟩
theorem tyX_at {K : PySem.W.Frag} {H H' : Hp} {x : V} {t : Value} (h : TyX K H x t) (s : ∀ a o, x = .ref a → H a = some o → H' a = some o) : TyX K H' x t := by
  cases h with
  | base h => exact .base (by
      cases h with
      | non => exact .non
      | bl x => exact .bl x
      | int i => exact .int i
      | str x => exact .str x
      | flt x => exact .flt x
      | lst e => exact .lst (s _ _ rfl e)
      | frz e => exact .frz (s _ _ rfl e)
      | tup e => exact .tup (s _ _ rfl e)
      | dK e => exact .dK (s _ _ rfl e)
      | dT e => exact .dT (s _ _ rfl e)
      | ins e cl ha hn htk hm => exact .ins (s _ _ rfl e) cl ha hn htk hm)
  | byt b => exact .byt b
  | set e => exact .set (s _ _ rfl e)
  | kList e c => exact .kList e c
  | kTuple e c => exact .kTuple e c
  | kDict e c => exact .kDict e c
  | fTuple e => exact .fTuple (s _ _ rfl e)
  | fDict e => exact .fDict (s _ _ rfl e)
theorem Kd.at {K : PySem.W.Frag} {H H' : Hp} {x : V} (h : Kd K H x) (s : ∀ a o, x = .ref a → H a = some o → H' a = some o) : Kd K H' x := let ⟨t, ty, r⟩ := h.ex; ⟨t, tyX_at ty s, r⟩
theorem Kd.same {K : PySem.W.Frag} {H H' : Hp} {x : V} (h : Kd K H x) (s : Same H H') : Kd K H' x := h.at fun a o _ => s a o
def sp_isint (K : PySem.W.Frag) : Sp := fun vs H Q _ => ∃ x, vs = [x] ∧ Kd K H x ∧ Q (.bl (isI x && !isB x)) H
def sp_islen (K : PySem.W.Frag) : Sp := fun vs H Q _ => ∃ x, vs = [x] ∧ Kd K H x ∧ Q (.bl (isLen x)) H
/-- the attributes of a ratio -/
def rf (a b : Int) : List (Str × V) := putF "second" (.int b) (putF "first" (.int a) [])
theorem n_fs : ¬ (("first" : Str) = "second") := by decide +kernel
theorem rf1 (a b : Int) : (rf a b).lookup ("first" : Str) = some (.int a) := by
  unfold rf; rw [lookup_putF, if_neg n_fs, lookup_putF, if_pos rfl]
theorem rf2 (a b : Int) : (rf a b).lookup ("second" : Str) = some (.int b) := by
  unfold rf; rw [lookup_putF, if_pos rfl]
def RatAt (C : Addr) (H : Hp) (p : Addr) (a b : Int) : Prop := ∃ dx, H p = some (.ins C dx (rf a b))
theorem RatAt.same {C : Addr} {H H' : Hp} {p : Addr} {a b : Int} (x : RatAt C H p a b) (s : Same H H') : RatAt C H' p a b := let ⟨d, h⟩ := x; ⟨d, s _ _ h⟩
structure RatT (K : PySem.W.Frag) (mg : Str → Option Value) (C : Addr) : Prop where
  ins : C8.InsC K C
  n1 : NoAttr K C "first"
  n2 : NoAttr K C "second"
  mgC : mg "Ratio" = some (.ref C)
  nf : PySem.W.notFirst K C (.ref C) = true
  ne : PySem.W.findIn K (.ref C) "__ne__" = some (some (.builtin "object.__ne__"))
  so : PySem.W.subIn K (.ref C) (.type "object") = some true
theorem RatT.cl {K : PySem.W.Frag} {mg : Str → Option Value} {C : Addr} (T : RatT K mg C) : Cls K C := T.ins.cl
theorem RatT.ty {K : PySem.W.Frag} {mg : Str → Option Value} {C : Addr} (T : RatT K mg C) {H : Hp} {p dx : Addr} {fs : List (Str × V)} (h : H p = some (.ins C dx fs)) : TyX K H (.ref p) (.ref C) := .base (.ins h T.ins.cl T.ins.ha T.ins.hn T.ins.htk T.ins.hm)
theorem wm {i j : Int} (h1 : i.natAbs < 2 ^ 1000) (h2 : j.natAbs < 2 ^ 1000) : CMulW i j := wide_mul h1 h2 (by decide) (by decide) (by decide)
end Rt
open Rt

section
variable {P : Program} {w : World} {K : PySem.W.Frag} {mg : Str → Option Value} {base : Heap}
theorem ok_isint {f : Addr} {fd : FuncData} (F : Fun K "is_integer" "is_integer" S_is_integer f fd) (T : Txt K mg) : FnOk P w K mg base CX0 1 f fd ["value"] (sp_isint K) := by
  refine F.ok SC_is_integer (fun vs H Q E h => ?_) (fun cdv A outer s H vs Q E hr h => ?_)
  · obtain ⟨x, rfl, _⟩ := h
    rfl
  · obtain ⟨x, rfl, ⟨t, ty, h1, h2, _⟩, q⟩ := h
    refine ⟨_, (pss_one (ps_ret (pe_and (pe_callB call_isi (by rfl) T.b_isinstance (by decide +kernel) (pa_cons (pv 0) (pa_cons (pe_bltn (v := .ty "int") (by rfl) T.b_int boot_int rfl) pa_nil))) (pe_one (pe_not (pe_callB call_isi (by rfl) T.b_isinstance (by decide +kernel) (pa_cons (pv 0) (pa_cons (pe_bltn (v := .ty "bool") (by rfl) T.b_bool boot_bool rfl) pa_nil)))))))), ?_⟩
    refine ⟨_, rfl, x, _, t, _, _, rfl, .ty _, ty, h1, isI x, rfl, ?_⟩
    by_cases c : isI x = true
    · rw [c] at q ⊢
      refine ifT rfl ?_
      refine ⟨_, rfl, x, _, t, _, _, rfl, .ty _, ty, h2, isB x, rfl, q⟩
    · rw [Bool.not_eq_true] at c
      rw [c] at q ⊢
      exact ifF rfl q
theorem ok_islen {f : Addr} {fd : FuncData} (F : Fun K "is_length" "is_length" S_is_length f fd) (T : Txt K mg) (C_isint : FnC P w K mg base CX0 1 "is_integer" ["value"] (sp_isint K)) : FnOk P w K mg base CX0 2 f fd ["value"] (sp_islen K) := by
  refine F.ok SC_is_length (fun vs H Q E h => ?_) (fun cdv A outer s H vs Q E hr h => ?_)
  · obtain ⟨x, rfl, _⟩ := h
    rfl
  · obtain ⟨x, rfl, kd, q⟩ := h
    refine ⟨_, (pss_one (ps_ret (pe_and (pe_callC C_isint (hr.mono (by decide)) rfl (pa_cons (pv 0) pa_nil)) (pe_one (pe_cmpR op_ge (pv 0) pe_int (nomark _)))))), ?_⟩
    refine ⟨_, rfl, x, rfl, kd, _, rfl, ?_⟩
    cases x with
    | int i =>
      refine ifT rfl ?_
      walk_at "kb"
      exact q
    | bl b => exact ifF rfl q
    | non => exact ifF rfl q
    | str z => exact ifF rfl q
    | byt z => exact ifF rfl q
    | flt z => exact ifF rfl q
    | ref z => exact ifF rfl q
    | ty z => exact ifF rfl q
end

/-! ## changes -/
namespace Ch
def isNat : V → Bool | .int i => decide (0 ≤ i) | _ => false
def cf (q : Addr) (t : Int) : List (Str × V) := putF "turn" (.int t) (putF "numbers" (.ref q) [])
theorem n_nt : ¬ (("numbers" : Str) = "turn") := by decide +kernel
theorem cf1 (q : Addr) (t : Int) : (cf q t).lookup ("numbers" : Str) = some (.ref q) := by
  unfold cf; rw [lookup_putF, if_neg n_nt, lookup_putF, if_pos rfl]
theorem cf2 (q : Addr) (t : Int) : (cf q t).lookup ("turn" : Str) = some (.int t) := by
  unfold cf; rw [lookup_putF, if_pos rfl]
def ChAt (CC : Addr) (H : Hp) (p : Addr) (a b c d : Int) : Prop := ∃ dx q, H p = some (.ins CC dx (cf q (a * d - b * c))) ∧ H q = some (.tup [.int a, .int b, .int c, .int d])
theorem ChAt.same {C : Addr} {H H' : Hp} {p : Addr} {a b c d : Int} (x : ChAt C H p a b c d) (s : Same H H') : ChAt C H' p a b c d := let ⟨d, q, h, k⟩ := x; ⟨d, q, s _ _ h, s _ _ k⟩
structure ChT (K : PySem.W.Frag) (mg : Str → Option Value) (C : Addr) : Prop where
  ins : C8.InsC K C
  n1 : NoAttr K C "numbers"
  n2 : NoAttr K C "turn"
  mgC : mg "Change" = some (.ref C)
  nf : PySem.W.notFirst K C (.ref C) = true
  ne : PySem.W.findIn K (.ref C) "__ne__" = some (some (.builtin "object.__ne__"))
  so : PySem.W.subIn K (.ref C) (.type "object") = some true
theorem ChT.cl {K : PySem.W.Frag} {mg : Str → Option Value} {C : Addr} (T : ChT K mg C) : Cls K C := T.ins.cl
theorem ChT.ty {K : PySem.W.Frag} {mg : Str → Option Value} {C : Addr} (T : ChT K mg C) {H : Hp} {p dx : Addr} {fs : List (Str × V)} (h : H p = some (.ins C dx fs)) : TyX K H (.ref p) (.ref C) := .base (.ins h T.ins.cl T.ins.ha T.ins.hn T.ins.htk T.ins.hm)
def nats (u1 u2 u3 u4 : V) : Bool := isNat u1 && isNat u2 && isNat u3 && isNat u4
/-- Change(a, b, c, d): made, or refused -/
def sp_chinit (CC IC : Addr) (K : PySem.W.Frag) : Sp := fun vs H Q E => ∃ (x dx : Addr) (u1 u2 u3 u4 : V), vs = [.ref x, u1, u2, u3, u4] ∧ (Kd K H u1 ∧ Kd K H u2 ∧ Kd K H u3 ∧ Kd K H u4) ∧ H x = some (.ins CC dx []) ∧
  (nats u1 u2 u3 u4 = true → ∃ i j m n : Int, u1 = .int i ∧ u2 = .int j ∧ u3 = .int m ∧ u4 = .int n ∧ (i.natAbs < 2 ^ 1000 ∧ j.natAbs < 2 ^ 1000 ∧ m.natAbs < 2 ^ 1000 ∧ n.natAbs < 2 ^ 1000) ∧
    (i * n ≠ j * m → ∀ H', (∀ a o, a ≠ x → H a = some o → H' a = some o) → ChAt CC H' x i j m n → Q .non H') ∧ (i * n = j * m → ∀ H', Same H H' → E (.ref IC) none H')) ∧
  (nats u1 u2 u3 u4 = false → ∀ H', Same H H' → E (.ref IC) none H')
theorem lcR_tupC {K : PySem.W.Frag} {a : Addr} {xs : List V} {g : TG} {te : TE} {vs : List Nat} {σ : L2.St} {H1 : Hp} {D : Addr} {Qd : Hp → Prop} (M : Nat → Hp → Prop) (h0 : M 0 (upd H1 D (.lst []))) (hl : ∀ i H, i ≤ xs.length → M i H → SqT K H a xs)
    (hs : ∀ i x H, xs[i]? = some x → M i H → g x (wipe σ vs) H fun σ2 H2 => wipe σ2 vs = wipe σ vs ∧ te σ2 H2 fun y H4 => ∃ acc, H4 D = some (.lst acc) ∧ acc.length < sizeLine ∧ M (i + 1) (upd H4 D (.lst (acc ++ [y]))))
    (hm : ∀ x σ H Q Q', (∀ σ2 H2, Q σ2 H2 → Q' σ2 H2) → g x σ H Q → g x σ H Q') (hd : ∀ H, M xs.length H → Qd H) : LcR (Itt K a) g tYes te vs σ H1 D Qd :=
  lc_it walk_tup M h0 hl (fun i x H H' hi m y => by
    obtain ⟨e, hx⟩ := y
    subst e
    exact hm _ _ _ _ _ (fun σ2 H2 z => ⟨z.1, ifT (B := M (i + 1) H2) rfl z.2⟩) (hs i x _ hx m)) hd
end Ch
open Ch
section
variable {P : Program} {w : World} {K : PySem.W.Frag} {mg : Str → Option Value} {base : Heap}
theorem ok_chinit {f CC IC : Addr} {fd : FuncData} (F : Fun K "__init__" "Change.__init__" S_Change__init_ f fd) (T : Txt K mg) (Rc : ChT K mg CC) (E_InvalidChange : ErC P w K mg base "InvalidChange" IC) (C_isint : FnC P w K mg base CX0 1 "is_integer" ["value"] (sp_isint K)) :
    FnOk P w K mg base (L2.CX P w) 4 f fd ["self", "a", "b", "c", "d"] (sp_chinit CC IC K) := by
  refine F.okX SC_Change__init_ (fun vs H Q E h => ?_) (fun cdv A outer s H vs Q E hr h => ?_)
  · obtain ⟨x, dx, u1, u2, u3, u4, rfl, _⟩ := h
    rfl
  · obtain ⟨x, dx, u1, u2, u3, u4, rfl, ⟨k1, k2, k3, k4⟩, hx, ok, bad⟩ := h
    refine ⟨_, (pss_cons (ps_set (i := 5) SC_Change__init_.nd rfl (.inl rfl) (pe_tup (pa_cons (pv 1) (pa_cons (pv 2) (pa_cons (pv 3) (pa_cons (pv 4) pa_nil))))))
      (pss_cons (ps_if (PW.pt (pw_or (pt_not (pt_val (pe_callB (cr_all rfl) (by rfl) T.b_all (by decide +kernel) (pa_cons (pe_lc (own := [("number", 6)]) (g := gName 6) (by rfl) SC_Change__init_.nd (pi_tup (pv 5)) (blkOk_by (own := [("number", 6)]) (N := N_Change__init_) (sc := defScope S_Change__init_) (by decide +kernel)) (fun _ _ _ _ _ => pg_name (i := 6) SC_Change__init_.nd rfl (Or.inl rfl)) (fun _ _ _ _ _ => pts_nil) (fun _ _ _ _ _ => (pe_and (pe_callC C_isint (hr.mono (by decide)) rfl (pa_cons (pv 6) pa_nil)) (pe_one (pe_cmpR op_ge (pv 6) pe_int (nomark _)))))) pa_nil)))) (pw_or1 (pt_cmpR op_eq (pe_op op_mulW (pv 1) (pv 4)) (pe_op op_mulW (pv 2) (pv 3)) (nomark _))))) (pss_one (ps_raise0 E_InvalidChange (hr.mono (by decide)) rfl (takes_of rfl rfl rfl rfl) rfl)) pss_nil)
      (pss_cons (ps_fld (pv 0) (pv 5) rfl)
      (pss_one (ps_fld (pv 0) (pe_op op_sub (pe_op op_mulW (pv 1) (pv 4)) (pe_op op_mulW (pv 2) (pv 3))) rfl))))), ?_⟩
    walk_at "kb"
    intro q hq
    have sq : Same H (upd H q (.tup [u1, u2, u3, u4])) := fun a o e => by rw [upd_ne (ne_of_none e hq)]; exact e
    walk_at "kb"
    refine ⟨⟨_, SqT.of upd_same⟩, fun D hD => ?_⟩
    have qD : q ≠ D := ne_of_none upd_same hD
    have each : ∀ (i : Nat) v, [u1, u2, u3, u4][i]? = some v → Kd K H v := fun i v h => by
      match i, h with
      | 0, h => cases h; exact k1
      | 1, h => cases h; exact k2
      | 2, h => cases h; exact k3
      | 3, h => cases h; exact k4
      | i + 4, h => simp at h
    refine lcR_tupC (xs := [u1, u2, u3, u4]) (fun i H' => (∀ b o, b ≠ D → (upd H q (.tup [u1, u2, u3, u4])) b = some o → H' b = some o) ∧ H' D = some (.lst ((([u1, u2, u3, u4].take i).map isNat).map V.bl))) ⟨fun b o n e => by rw [upd_ne n]; exact e, upd_same⟩
      (fun i H' _ m => SqT.of (m.1 q _ qD upd_same)) (fun i v H1 hi m => ?_) (gName_mono _) (fun H1 m => ?_)
    · obtain ⟨kp, hH⟩ := m
      have kd := (each i v hi).same sq
      have kd1 : Kd K H1 v := kd.at fun a o e h => kp a o (ne_of_none h hD) h
      have hilt : i < 4 := (List.getElem?_eq_some_iff.mp hi).1
      have fin : ∃ acc, H1 D = some (.lst acc) ∧ acc.length < sizeLine ∧ ((∀ b o, b ≠ D → (upd H q (.tup [u1, u2, u3, u4])) b = some o → (upd H1 D (.lst (acc ++ [.bl (isNat v)]))) b = some o) ∧ (upd H1 D (.lst (acc ++ [.bl (isNat v)]))) D = some (.lst ((([u1, u2, u3, u4].take (i + 1)).map isNat).map V.bl))) := by
        refine ⟨_, hH, ?_, fun b o n e => by rw [upd_ne n]; exact kp b o n e, ?_⟩
        · rw [List.length_map, List.length_map, List.length_take]
          exact szs (by show min i 4 ≤ _; omega)
        · rw [upd_same, List.take_succ, hi, List.map_append, List.map_append]; rfl
      refine ⟨rfl, _, rfl, v, rfl, kd1, _, rfl, ?_⟩
      cases v with
      | int j => exact ifT rfl ⟨_, rfl, _, _, rfl, rfl, fin⟩
      | bl b => exact ifF rfl fin
      | non => exact ifF rfl fin
      | str z => exact ifF rfl fin
      | byt z => exact ifF rfl fin
      | flt z => exact ifF rfl fin
      | ref z => exact ifF rfl fin
      | ty z => exact ifF rfl fin
    · obtain ⟨kp, hH⟩ := m
      have sm1 : Same H H1 := fun b o e => kp b o (ne_of_none (sq b o e) hD) (sq b o e)
      have hq1 : H1 q = some (.tup [u1, u2, u3, u4]) := kp q _ qD upd_same
      refine ⟨_, _, rfl, SqL.of hH, _, rfl, ?_⟩
      have en : ((List.map isNat (List.take [u1, u2, u3, u4].length [u1, u2, u3, u4])).all id) = nats u1 u2 u3 u4 := by
        show (isNat u1 && (isNat u2 && (isNat u3 && (isNat u4 && true)))) = _
        unfold nats
        cases isNat u1 <;> cases isNat u2 <;> cases isNat u3 <;> cases isNat u4 <;> rfl
      rw [en]
      by_cases hn : nats u1 u2 u3 u4 = true
      · rw [hn]
        refine ifF rfl ?_
        obtain ⟨i, j, m, n, rfl, rfl, rfl, rfl, ⟨b1, b2, b3, b4⟩, yes, no⟩ := ok hn
        refine ⟨_, rfl, _, rfl, _, _, rfl, rfl, wm b1 b4, _, rfl, _, rfl, _, _, rfl, rfl, wm b2 b3, ?_⟩
        walk_at "kb"
        refine ite2 (fun h => ?_) (fun h => ?_)
        · exact no (V.int.inj (of_decide_eq_true h)) H1 sm1
        · have hne : i * n ≠ j * m := fun e => h (decide_eq_true (congrArg V.int e))
          have nqx : q ≠ x := fun e => by rw [e] at hq1; have := sm1 x _ hx; rw [hq1] at this; cases this
          walk_at "kb"
          refine ⟨x, CC, dx, _, rfl, sm1 x _ hx, Rc.ins.cl, Rc.n1, by show 0 < 1000; decide, ?_⟩
          walk_at "kb"
          refine ⟨wm b1 b4, _, rfl, _, rfl, _, _, rfl, rfl, wm b2 b3, _, _, rfl, rfl, ?_⟩
          refine ⟨_, rfl, x, CC, dx, _, rfl, upd_same, Rc.ins.cl, Rc.n2, by show 1 < 1000; decide, ?_⟩
          exact yes hne _ (fun a o nn e => by rw [upd_ne nn, upd_ne nn]; exact sm1 a o e) ⟨dx, q, by rw [upd_same]; rfl, by rw [upd_ne nqx, upd_ne nqx]; exact hq1⟩
      · rw [Bool.not_eq_true] at hn
        rw [hn]
        exact ifT rfl (bad hn H1 sm1)
end

/-! ## objects kept -/
namespace Mw
theorem lt_at {α : Type} {xs : List α} {i : Nat} {x : α} (h : xs[i]? = some x) : i < xs.length := (List.getElem?_eq_some_iff.mp h).1
theorem nodup_at {α : Type} {xs : List α} (h : xs.Nodup) {i j : Nat} {x : α} (hi : xs[i]? = some x) (hj : xs[j]? = some x) : i = j := by
  exact (List.getElem?_inj (lt_at hi) h).mp (hi.trans hj.symm)
def isMu : HO → Bool
  | .lst _ => true
  | .dK _ => true
  | .dT _ => true
  | .ext _ => true
  | _ => false
def isTF : HO → Bool
  | .tup _ => true
  | .frz _ _ => true
  | _ => false
/-- what is a tuple, what is no list and no dict, stays -/
def TT (H H' : Hp) : Prop := ∀ a o, isTF o = true → H a = some o → H' a = some o
def TK (H H' : Hp) : Prop := ∀ a o, isMu o = false → H a = some o → H' a = some o
theorem tf_mu {o : HO} (h : isTF o = true) : isMu o = false := by
  cases o with
  | tup _ => rfl
  | frz _ _ => rfl
  | _ => cases h
theorem TK.tt {H H' : Hp} (t : TK H H') : TT H H' := fun a o h e => t a o (tf_mu h) e
theorem TK.refl (H : Hp) : TK H H := fun _ _ _ h => h
theorem TK.trans {H H1 H2 : Hp} (x : TK H H1) (y : TK H1 H2) : TK H H2 := fun a o m h => y a o m (x a o m h)
theorem TK.same {H H' : Hp} (s : Same H H') : TK H H' := fun a o _ h => s a o h
theorem TK.upd {H : Hp} {p : Addr} {u o : HO} (h : H p = some u) (m : isMu u = true) : TK H (upd H p o) := fun a v n q => by
  have ne : a ≠ p := fun e => by
    subst e
    rw [h] at q; cases q
    rw [m] at n; cases n
  rw [upd_ne ne]; exact q
theorem TK.new {H : Hp} {p : Addr} {o : HO} (h : H p = none) : TK H (L2.upd H p o) := TK.same (sm_new h)
theorem TK.keep {B : Bx} {H H' : Hp} (hb : BoxAt H B) (s : Keep B H H') : TK H H' := fun a v n q => by
  obtain ⟨ne, ns, a1, b1, q1, q2, _⟩ := hb
  refine s a v (fun z => ?_) (fun z => ?_) q
  · rw [z, q1] at q; cases q; cases n
  · rw [z, q2] at q; cases q; cases n
theorem sqT_tt {K : PySem.W.Frag} {H H' : Hp} {a : Addr} {xs : List V} (t : TT H H') (h : SqT K H a xs) : SqT K H' a xs := h.elim (fun q => .inl (q.elim (fun q => .inl (t _ _ rfl q)) fun ⟨o, q⟩ => .inr ⟨o, t _ _ rfl q⟩)) .inr
theorem sqT_tk {K : PySem.W.Frag} {H H' : Hp} {a : Addr} {xs : List V} (t : TK H H') (h : SqT K H a xs) : SqT K H' a xs := sqT_tt t.tt h
structure Hd (H0 H : Hp) (L : List (Addr × HO)) : Prop where
  sm : Same H0 H
  nd : (L.map (·.1)).Nodup
  at_ : ∀ x ∈ L, H0 x.1 = none ∧ H x.1 = some x.2
section
variable {H0 H H' : Hp} {L : List (Addr × HO)} {p : Addr} {o u : HO}
theorem Hd.start (H : Hp) : Hd H H [] := ⟨Same.refl H, List.nodup_nil, fun _ h => (nomatch h)⟩
theorem Hd.get (w : Hd H0 H L) (h : (p, o) ∈ L) : H p = some o := (w.at_ _ h).2
theorem Hd.call (w : Hd H0 H L) (s : Same H H') : Hd H0 H' L := ⟨w.sm.trans s, w.nd, fun x h => ⟨(w.at_ x h).1, s _ _ (w.at_ x h).2⟩⟩
theorem free_of {H H' : Hp} (s : Same H H') (h : H' p = none) : H p = none := by
  cases e : H p with
  | none => rfl
  | some o => rw [s _ _ e] at h; cases h
theorem Hd.got (w : Hd H0 H L) (n : H p = none) (s : Same H H') (h : H' p = some o) : Hd H0 H' ((p, o) :: L) := by
  refine ⟨w.sm.trans s, List.nodup_cons.mpr ⟨fun m => ?_, w.nd⟩, fun x hx => ?_⟩
  · obtain ⟨x, hx, e⟩ := List.mem_map.mp m
    have := (w.at_ x hx).2
    rw [show x.1 = p from e, n] at this
    cases this
  · rcases List.mem_cons.mp hx with rfl | hx
    · exact ⟨free_of w.sm n, h⟩
    · exact ⟨(w.at_ x hx).1, s _ _ (w.at_ x hx).2⟩
theorem Hd.new (w : Hd H0 H L) (n : H p = none) (o : HO) : Hd H0 (upd H p o) ((p, o) :: L) := w.got n (sm_new n) upd_same
theorem Hd.nw {Q : VK} (w : Hd H0 H L) (k : ∀ p H', H0 p = none → H p = none → Same H H' → Hd H0 H' ((p, o) :: L) → Q (.ref p) H') : New H o Q := fun p H' hn s h => k p H' (free_of w.sm hn) hn s (w.got hn s h)
theorem map_set_fst : ∀ (L : List (Addr × HO)) (i : Nat) (x : Addr × HO), L[i]?.map (·.1) = some x.1 → (L.set i x).map (·.1) = L.map (·.1)
  | [], _, _, h => by cases h
  | y :: L, 0, x, h => by
    have : y.1 = x.1 := Option.some.inj h
    show x.1 :: L.map (·.1) = y.1 :: L.map (·.1)
    rw [this]
  | y :: L, i + 1, x, h => by
    show y.1 :: (L.set i x).map (·.1) = y.1 :: L.map (·.1)
    rw [map_set_fst L i x h]
theorem Hd.set (w : Hd H0 H L) (i : Nat) (h : L[i]? = some (p, u)) (o : HO) : Hd H0 (upd H p o) (L.set i (p, o)) := by
  have hm : (p, u) ∈ L := List.mem_iff_getElem?.mpr ⟨i, h⟩
  have n0 := (w.at_ _ hm).1
  refine ⟨fun a v e => by rw [upd_ne (ne_of_none e n0)]; exact w.sm a v e, ?_, fun x hx => ?_⟩
  · rw [map_set_fst L i (p, o) (by rw [h]; rfl)]; exact w.nd
  · obtain ⟨j, hj⟩ := List.mem_iff_getElem?.mp hx
    by_cases c : i = j
    · subst c
      rw [List.getElem?_set_self (lt_at h)] at hj
      cases hj
      exact ⟨n0, upd_same⟩
    · rw [List.getElem?_set_ne c] at hj
      have hx' := w.at_ x (List.mem_iff_getElem?.mpr ⟨j, hj⟩)
      refine ⟨hx'.1, ?_⟩
      have ne : x.1 ≠ p := fun e => c (by
        have h1 : (L.map (·.1))[i]? = some p := by rw [List.getElem?_map, h]; rfl
        have h2 : (L.map (·.1))[j]? = some p := by rw [List.getElem?_map, hj, ← e]; rfl
        exact nodup_at w.nd h1 h2)
      rw [upd_ne ne]; exact hx'.2
theorem Hd.sub {L' : List (Addr × HO)} (w : Hd H0 H L) (h : L'.Sublist L) : Hd H0 H L' := ⟨w.sm, (h.map _).nodup w.nd, fun x hx => w.at_ x (h.subset hx)⟩
theorem Hd.tl {x : Addr × HO} (w : Hd H0 H (x :: L)) : Hd H0 H L := w.sub (List.sublist_cons_self _ _)
theorem Hd.tk (w : Hd H0 H L) : TK H0 H := TK.same w.sm
end
theorem same_sqL {K : PySem.W.Frag} {H H' : Hp} {a : Addr} {xs : List V} (s : Same H H') (h : SqL K H a xs) : SqL K H' a xs :=
  h.elim (fun q => .inl (q.elim (fun q => .inl (s _ _ q)) fun ⟨o, q⟩ => .inr ⟨o, s _ _ q⟩)) .inr
end Mw
open Mw
/-! ## objects of one's own beside a box -/
namespace Mw
structure Hb (B : Bx) (H0 H : Hp) (L : List (Addr × HO)) : Prop where
  b0 : BoxAt H0 B
  box : BoxAt H B
  kp : Keep B H0 H
  nd : (L.map (·.1)).Nodup
  at_ : ∀ x ∈ L, H0 x.1 = none ∧ (x.1 ≠ B.1 ∧ x.1 ≠ B.2) ∧ H x.1 = some x.2
section
variable {B : Bx} {H0 H H' : Hp} {L : List (Addr × HO)} {p : Addr} {o u : HO}
theorem Hb.start (b : BoxAt H B) : Hb B H H [] := ⟨b, b, Keep.refl _ _, List.nodup_nil, fun _ h => (nomatch h)⟩
theorem Hb.get (w : Hb B H0 H L) (h : (p, o) ∈ L) : H p = some o := (w.at_ _ h).2.2
theorem Hb.ne (w : Hb B H0 H L) (h : (p, o) ∈ L) : p ≠ B.1 ∧ p ≠ B.2 := (w.at_ _ h).2.1
theorem Hb.old (w : Hb B H0 H L) (n : p ≠ B.1) (m : p ≠ B.2) (h : H0 p = some o) : H p = some o := w.kp p o n m h
theorem Hb.free (w : Hb B H0 H L) (h : H p = none) : H0 p = none := w.kp.free w.box h
theorem Hb.same (w : Hb B H0 H L) (s : Same H H') : Hb B H0 H' L := ⟨w.b0, w.box.same s, w.kp.trans (Keep.same s), w.nd, fun x h => ⟨(w.at_ x h).1, (w.at_ x h).2.1, s _ _ (w.at_ x h).2.2⟩⟩
theorem Hb.keep (w : Hb B H0 H L) (k : Keep B H H') (b : BoxAt H' B) : Hb B H0 H' L := ⟨w.b0, b, w.kp.trans k, w.nd, fun x h => ⟨(w.at_ x h).1, (w.at_ x h).2.1, k _ _ (w.at_ x h).2.1.1 (w.at_ x h).2.1.2 (w.at_ x h).2.2⟩⟩
theorem Hb.gotK (w : Hb B H0 H L) (n : H p = none) (k : Keep B H H') (b : BoxAt H' B) (h : H' p = some o) : Hb B H0 H' ((p, o) :: L) := by
  refine ⟨w.b0, b, w.kp.trans k, List.nodup_cons.mpr ⟨fun m => ?_, w.nd⟩, fun x hx => ?_⟩
  · obtain ⟨x, hx, e⟩ := List.mem_map.mp m
    have := (w.at_ x hx).2.2
    rw [show x.1 = p from e, n] at this
    cases this
  · rcases List.mem_cons.mp hx with rfl | hx
    · exact ⟨w.free n, ⟨w.box.n1 n, w.box.n2 n⟩, h⟩
    · exact ⟨(w.at_ x hx).1, (w.at_ x hx).2.1, k _ _ (w.at_ x hx).2.1.1 (w.at_ x hx).2.1.2 (w.at_ x hx).2.2⟩
theorem Hb.got (w : Hb B H0 H L) (n : H p = none) (s : Same H H') (h : H' p = some o) : Hb B H0 H' ((p, o) :: L) := w.gotK n (Keep.same s) (w.box.same s) h
theorem Hb.new (w : Hb B H0 H L) (n : H p = none) (o : HO) : Hb B H0 (upd H p o) ((p, o) :: L) := w.got n (sm_new n) upd_same
theorem Hb.nw {Q : VK} (w : Hb B H0 H L) (k : ∀ p H', H0 p = none → H p = none → Same H H' → Hb B H0 H' ((p, o) :: L) → Q (.ref p) H') : New H o Q := fun p H' hn s h => k p H' (w.free hn) hn s (w.got hn s h)
theorem Hb.set (w : Hb B H0 H L) (i : Nat) (h : L[i]? = some (p, u)) (o : HO) : Hb B H0 (upd H p o) (L.set i (p, o)) := by
  have hm : (p, u) ∈ L := List.mem_iff_getElem?.mpr ⟨i, h⟩
  obtain ⟨n0, nb, _⟩ := w.at_ _ hm
  refine ⟨w.b0, w.box.keep (fun u e => by rw [upd_ne nb.1.symm]; exact e) (fun u e => by rw [upd_ne nb.2.symm]; exact e), fun a v na nc e => by rw [upd_ne (ne_of_none e n0)]; exact w.kp a v na nc e, ?_, fun x hx => ?_⟩
  · rw [map_set_fst L i (p, o) (by rw [h]; rfl)]; exact w.nd
  · obtain ⟨j, hj⟩ := List.mem_iff_getElem?.mp hx
    by_cases c : i = j
    · subst c
      rw [List.getElem?_set_self (lt_at h)] at hj
      cases hj
      exact ⟨n0, nb, upd_same⟩
    · rw [List.getElem?_set_ne c] at hj
      have hx' := w.at_ x (List.mem_iff_getElem?.mpr ⟨j, hj⟩)
      refine ⟨hx'.1, hx'.2.1, ?_⟩
      have ne : x.1 ≠ p := fun e => c (by
        have h1 : (L.map (·.1))[i]? = some p := by rw [List.getElem?_map, h]; rfl
        have h2 : (L.map (·.1))[j]? = some p := by rw [List.getElem?_map, hj, ← e]; rfl
        exact nodup_at w.nd h1 h2)
      rw [upd_ne ne]; exact hx'.2.2
theorem Hb.sub {L' : List (Addr × HO)} (w : Hb B H0 H L) (h : L'.Sublist L) : Hb B H0 H L' := ⟨w.b0, w.box, w.kp, (h.map _).nodup w.nd, fun x hx => w.at_ x (h.subset hx)⟩
theorem Hb.tl {x : Addr × HO} (w : Hb B H0 H (x :: L)) : Hb B H0 H L := w.sub (List.sublist_cons_self _ _)
theorem Hb.nil (w : Hb B H0 H L) : Hb B H0 H [] := w.sub (List.nil_sublist _)
theorem Hb.tk (w : Hb B H0 H L) : TK H0 H := TK.keep w.b0 w.kp
theorem Hb.draw {m : Int} {Q : VK} {E : XK} (w : Hb B H0 H L) (m0 : 0 < m) (m1 : m ≤ 10000000000000000000000000000) (k : ∀ d H', 0 ≤ d → d < m → Hb B H0 H' L → Keep B H H' → Q (.int d) H') : sp_draw [.ref B.1, .int m] H Q E :=
  ⟨B, m, by rfl, w.box, m0, m1, fun d H' d0 d1 kp hb => k d H' d0 d1 (w.keep kp hb) kp⟩
end
end Mw

local macro_rules | `(tactic| walk_at "mem") => `(tactic| first | exact List.Mem.head _ | (refine List.Mem.tail _ ?_; walk_at "mem"))
local macro_rules | `(tactic| walk_at "hp") => `(tactic| first | assumption | exact Wo.get (by assumption) (by walk_at "mem") | exact Ho.get (by assumption) (by walk_at "mem") | exact upd_same)
local macro_rules | `(tactic| walk_at "seq") => `(tactic| first | assumption | exact SqL.of (by walk_at "hp") | exact SqT.of (by walk_at "hp"))
local macro_rules | `(tactic| walk_at "sqo") => `(tactic| first | assumption | exact .inl (by walk_at "seq") | exact .inr (by walk_at "seq"))
local macro_rules | `(tactic| walk_at "dp") => `(tactic| first | exact .int _ | exact .str _ | exact .bl _ | exact .non | exact .tup (SqT.of (by walk_at "hp")) (by walk_at "dps") | exact .lst (SqL.of (by walk_at "hp")) (by walk_at "dps"))
local macro_rules | `(tactic| walk_at "dps") => `(tactic| first | exact .nil | exact .cons (by walk_at "dp") (by walk_at "dps"))
local macro_rules | `(tactic| walk_at "shw") => `(tactic| first | exact Shw.int (by assumption) | exact Shw.int (by unfold showsI; decide) | exact Shw.tup (by walk_at "shwl") | exact Shw.lst (by walk_at "shwl") | exact Shw.bool _ | exact Shw.none | exact Shw.str (by decide +kernel) (Nat.le_refl _))
local macro_rules | `(tactic| walk_at "shwl") => `(tactic| first | exact ShwL.nil | exact ShwL.cons (by walk_at "shw") (by walk_at "shwl"))
local macro_rules | `(tactic| walk_at "sho") => `(tactic| first | assumption | (refine' Shw.ok ?shwa ?shwb ?shwc; (case shwa => walk_at "shw"); (case shwb => decide); (case shwc => decide)))
local macro_rules | `(tactic| walk_at "cls") => `(tactic| first | assumption | exact ChT.cl (by assumption) | exact RatT.cl (by assumption))
local macro_rules | `(tactic| walk_at "noat") => `(tactic| first | assumption | exact ChT.n1 (by assumption) | exact ChT.n2 (by assumption) | exact RatT.n1 (by assumption) | exact RatT.n2 (by assumption))
local macro_rules | `(tactic| walk_at "flk") => `(tactic| first | exact cf1 _ _ | exact cf2 _ _ | exact rf1 _ _ | exact rf2 _ _)
local macro_rules | `(tactic| walk_at "new") => `(tactic| first | refine Wo.nw (by assumption) fun _ _ _ _ => ?_ | refine Ho.nw (by assumption) fun _ _ _ _ => ?_)
local macro_rules | `(tactic| walk_at "kws") => `(tactic| first | exact wm (by assumption) (by assumption) | exact Nat.le_of_ble_eq_true rfl | exact szl (by omega) | walk_at "kbs")
local macro_rules | `(tactic| walk_at "kw1") => `(tactic| first
  | refine And.intro (show scal _ _ = true from rfl) ?_
  | refine ⟨_, rfl, ?_⟩
  | (refine ⟨_, _, rfl, rfl, ?_⟩; try refine And.intro (by walk_at "kws") ?_)
  | refine ⟨_, _, _, _, rfl, rfl, (by walk_at "seq"), rfl, ?_⟩
  | refine ⟨_, _, _, _, _, rfl, (by walk_at "hp"), (by walk_at "cls"), (by walk_at "noat"), (by walk_at "flk"), ?_⟩
  | refine ⟨_, _, rfl, (show SqL _ _ _ _ ∨ SqT _ _ _ _ from by walk_at "sqo"), ?_⟩
  | refine ⟨_, _, rfl, (show SqT _ _ _ _ from by walk_at "seq"), rfl, ?_⟩
  | refine ⟨_, _, rfl, (show Dp _ _ _ _ from by walk_at "dp"), (show ShOk _ from by walk_at "sho"), ?_⟩
  | refine ⟨_, _, (show Dp _ _ _ _ from by walk_at "dp"), (show Dp _ _ _ _ from by walk_at "dp"), (by first | rfl | decide +kernel), (by first | rfl | decide +kernel), ?_⟩
  | refine ⟨_, _, rfl, ?_⟩
  | refine And.intro (show _ ≤ 1000000 by walk_at "kws") ?_
  | walk_at "new"
  | refine And.intro (by walk_at "kws") ?_
  | refine And.intro ⟨_, rfl⟩ ?_
  | refine And.intro (show _ = some (some _) from rfl) ?_)
local macro_rules | `(tactic| walk_at "kw") => `(tactic| repeat (first | ((with_reducible refine iteNSI ?_ ?_); (with_reducible rfl)) | (with_reducible refine iteTI ?_) | (with_reducible refine iteFI ?_) | ((fail_if_success (with_reducible refine isIte ?_)); walk_at "kw1")))

local macro_rules | `(tactic| walk_at "kw1") => `(tactic| refine ⟨_, _, rfl, (show SqL _ _ _ _ from by walk_at "seq"), rfl, ?_⟩)
local macro_rules | `(tactic| walk_at "kw1") => `(tactic| ((refine' nrm_of ?nre ?nrg); (case nre => ((try simp only [L2.start, List.map, List.length_cons, List.length_nil, Nat.reduceAdd, Nat.reduceSub, Nat.zero_add, List.reduceReplicate, List.cons_append, List.nil_append, List.set_cons_succ, List.set_cons_zero]); exact rfl))))
local macro_rules | `(tactic| walk_at "nrm") => `(tactic| ((show ∀ sl : L2.St, _ = sl → _); (refine' nrm_of ?nre ?nrg); (case nre => ((try simp only [L2.start, List.map, List.length_cons, List.length_nil, Nat.reduceAdd, Nat.reduceSub, Nat.zero_add, List.reduceReplicate, List.cons_append, List.nil_append, List.set_cons_succ, List.set_cons_zero]); exact rfl))))

local macro_rules | `(tactic| walk_at "new") => `(tactic| first | refine Hd.nw (by assumption) fun _ _ _ _ _ _ => ?_)
local macro_rules | `(tactic| walk_at "hp") => `(tactic| first | exact Hd.get (by assumption) (by walk_at "mem"))
local macro_rules | `(tactic| walk_at "kw1") => `(tactic| first
  | refine ⟨_, _, rfl, (show SqT _ _ _ _ from by walk_at "seq"), rfl, ?_⟩
  | refine ⟨_, _, rfl, _, _, rfl, rfl, rfl, ?_⟩)

local macro_rules | `(tactic| walk_at "new") => `(tactic| first | refine Hb.nw (by assumption) fun _ _ _ _ _ _ => ?_)
local macro_rules | `(tactic| walk_at "hp") => `(tactic| first | exact Hb.get (by assumption) (by walk_at "mem"))

/-! ## changes as four numbers -/
namespace Mx
structure Mt where
  a : Int
  b : Int
  c : Int
  d : Int
def Mt.mul (m n : Mt) : Mt := ⟨m.a * n.a + m.b * n.c, m.a * n.b + m.b * n.d, m.c * n.a + m.d * n.c, m.c * n.b + m.d * n.d⟩
def Mt.one : Mt := ⟨1, 0, 0, 1⟩
def Mt.tl (m : Mt) : List V := [.int m.a, .int m.b, .int m.c, .int m.d]
theorem Mt.ext' {m n : Mt} (h1 : m.a = n.a) (h2 : m.b = n.b) (h3 : m.c = n.c) (h4 : m.d = n.d) : m = n := by cases m; cases n; simp_all
theorem Mt.one_mul (m : Mt) : Mt.one.mul m = m := by
  obtain ⟨a, b, c, d⟩ := m
  refine Mt.ext' ?_ ?_ ?_ ?_
  · show 1 * a + 0 * c = a; omega
  · show 1 * b + 0 * d = b; omega
  · show 0 * a + 1 * c = c; omega
  · show 0 * b + 1 * d = d; omega
/-- none below 0, all below 2 ^ n -/
structure Mt.In (m : Mt) (n : Nat) : Prop where
  a0 : 0 ≤ m.a
  b0 : 0 ≤ m.b
  c0 : 0 ≤ m.c
  d0 : 0 ≤ m.d
  a1 : m.a < 2 ^ n
  b1 : m.b < 2 ^ n
  c1 : m.c < 2 ^ n
  d1 : m.d < 2 ^ n
theorem pw_mul {x y : Int} {i j : Nat} (hx : 0 ≤ x) (hy : 0 ≤ y) (h1 : x < 2 ^ i) (h2 : y < 2 ^ j) : x * y < 2 ^ (i + j) := by
  rw [Int.pow_add]
  have e : x * y ≤ x * 2 ^ j := Int.mul_le_mul_of_nonneg_left (Int.le_of_lt h2) hx
  have e2 : x * 2 ^ j < 2 ^ i * 2 ^ j := Int.mul_lt_mul_of_pos_right h1 (Int.pow_pos (by decide))
  exact Int.lt_of_le_of_lt e e2
theorem pw_sum {x y : Int} {i : Nat} (h1 : x < 2 ^ i) (h2 : y < 2 ^ i) : x + y < 2 ^ (i + 1) := by
  rw [Int.pow_succ]; omega
theorem Mt.In.mul {m n : Mt} {i j : Nat} (x : m.In i) (y : n.In j) : (m.mul n).In (i + j + 1) :=
  ⟨Int.add_nonneg (Int.mul_nonneg x.a0 y.a0) (Int.mul_nonneg x.b0 y.c0), Int.add_nonneg (Int.mul_nonneg x.a0 y.b0) (Int.mul_nonneg x.b0 y.d0),
   Int.add_nonneg (Int.mul_nonneg x.c0 y.a0) (Int.mul_nonneg x.d0 y.c0), Int.add_nonneg (Int.mul_nonneg x.c0 y.b0) (Int.mul_nonneg x.d0 y.d0),
   pw_sum (pw_mul x.a0 y.a0 x.a1 y.a1) (pw_mul x.b0 y.c0 x.b1 y.c1), pw_sum (pw_mul x.a0 y.b0 x.a1 y.b1) (pw_mul x.b0 y.d0 x.b1 y.d1),
   pw_sum (pw_mul x.c0 y.a0 x.c1 y.a1) (pw_mul x.d0 y.c0 x.d1 y.c1), pw_sum (pw_mul x.c0 y.b0 x.c1 y.b1) (pw_mul x.d0 y.d0 x.d1 y.d1)⟩
theorem pw_le {i j : Nat} (h : i ≤ j) : (2 : Int) ^ i ≤ 2 ^ j := by
  have := Nat.pow_le_pow_right (show 0 < 2 by decide) h
  exact_mod_cast this
theorem Mt.In.mono {m : Mt} {i j : Nat} (x : m.In i) (h : i ≤ j) : m.In j :=
  have e := pw_le h
  ⟨x.a0, x.b0, x.c0, x.d0, Int.lt_of_lt_of_le x.a1 e, Int.lt_of_lt_of_le x.b1 e, Int.lt_of_lt_of_le x.c1 e, Int.lt_of_lt_of_le x.d1 e⟩
theorem abs_lt {x : Int} {n : Nat} (h0 : 0 ≤ x) (h : x < 2 ^ n) : x.natAbs < 2 ^ n := by
  have e : ((x.natAbs : Nat) : Int) = x := by omega
  have : ((x.natAbs : Nat) : Int) < ((2 ^ n : Nat) : Int) := by rw [e]; exact_mod_cast h
  exact Int.ofNat_lt.mp this
theorem In1000 {m : Mt} (x : m.In 1000) : m.a.natAbs < 2 ^ 1000 ∧ m.b.natAbs < 2 ^ 1000 ∧ m.c.natAbs < 2 ^ 1000 ∧ m.d.natAbs < 2 ^ 1000 := ⟨abs_lt x.a0 x.a1, abs_lt x.b0 x.b1, abs_lt x.c0 x.c1, abs_lt x.d0 x.d1⟩
/-! ### powers -/
/-! ### words -/
def lt (x : Bool) : Mt := if x then ⟨1, 1, 0, 1⟩ else ⟨1, 0, 1, 1⟩
end Mx
open Mx

namespace Ct
def st (i : Int) : Str := Str.ofString (toString i)
def tx (m : Mt) : Str := Txt.join (" " : Str) [st m.a, st m.b, st m.c, st m.d]
def sp_chstr (CC : Addr) : Sp := fun vs H Q _ => ∃ (p : Addr) (m : Mt), vs = [.ref p] ∧ ChAt CC H p m.a m.b m.c m.d ∧ m.In 40 ∧ ∀ H', Same H H' → Q (.str (tx m)) H'
theorem st_len {i : Int} (h0 : 0 ≤ i) (h : i < 2 ^ 40) : (st i).length ≤ 13 := by
  have e : i < (10 : Int) ^ 13 := Int.lt_trans h (by decide)
  exact PyProof.Rows.toString_length_le h0 (by decide) e
theorem st_log {i : Int} (h0 : 0 ≤ i) (h : i < 2 ^ 40) : i.natAbs.log2 < 1920 := by
  have : i.natAbs < 2 ^ 40 := abs_lt h0 h
  exact Nat.lt_of_lt_of_le (PySem.Flt.log2_lt_of (by decide) this) (by decide)
end Ct
open Ct
section
variable {P : Program} {w : World} {K : PySem.W.Frag} {mg : Str → Option Value} {base : Heap}
theorem ok_chstr {f CC : Addr} {fd : FuncData} (F : Fun K "__str__" "Change.__str__" S_Change__str_ f fd) (T : Txt K mg) (Rc : ChT K mg CC) : FnOk P w K mg base CX0 1 f fd ["self"] (sp_chstr CC) := by
  refine F.ok SC_Change__str_ (fun vs H Q E h => ?_) (fun cdv A outer s H vs Q E hr h => ?_)
  · obtain ⟨p, m, rfl, _⟩ := h
    rfl
  · obtain ⟨p, m, rfl, ⟨dx, q, h1, h2⟩, bm, k⟩ := h
    refine ⟨_, (pss_one (ps_ret (pe_join pe_str (pe_lc (own := [("number", 1)]) (g := gName 1) (by rfl) SC_Change__str_.nd (pi_tup (pe_fld (pv 0) rfl)) (blkOk_by (own := [("number", 1)]) (N := N_Change__str_) (sc := defScope S_Change__str_) (by decide +kernel)) (fun _ _ _ _ _ => pg_name (i := 1) SC_Change__str_.nd rfl (Or.inl rfl)) (fun _ _ _ _ _ => pts_nil) (fun _ _ _ _ _ => (pe_callTy call_str_int (by rfl) T.b_str (by decide +kernel) (pa_cons (pv 1) pa_nil))))))), ?_⟩
    walk_at "kw"
    refine ⟨⟨_, SqT.of h2⟩, fun D hD => ?_⟩
    refine lcR_tup (xs := m.tl) (fun i H' => (∀ b o, b ≠ D → H b = some o → H' b = some o) ∧ H' D = some (.lst (([m.a, m.b, m.c, m.d].take i).map fun v => V.str (st v)))) ⟨fun b o n e => by rw [upd_ne n]; exact e, upd_same⟩
      (fun i H' _ mm => SqT.of (mm.1 q _ (ne_of_none h2 hD) h2)) (fun i v H1 hi mm => ?_) (gName_mono _) (fun H1 mm => ?_)
    · obtain ⟨kp, hH⟩ := mm
      obtain ⟨x, hx, rfl, x0, x1⟩ : ∃ x, [m.a, m.b, m.c, m.d][i]? = some x ∧ v = .int x ∧ 0 ≤ x ∧ x < 2 ^ 40 := by
        match i, hi with
        | 0, hi => cases hi; exact ⟨_, rfl, rfl, bm.a0, bm.a1⟩
        | 1, hi => cases hi; exact ⟨_, rfl, rfl, bm.b0, bm.b1⟩
        | 2, hi => cases hi; exact ⟨_, rfl, rfl, bm.c0, bm.c1⟩
        | 3, hi => cases hi; exact ⟨_, rfl, rfl, bm.d0, bm.d1⟩
        | i + 4, hi => simp [Mt.tl] at hi
      refine ⟨rfl, _, rfl, x, rfl, st_log x0 x1, _, hH, szs (by rw [List.length_map, List.length_take]; exact Nat.le_trans (Nat.min_le_right _ _) (by show 4 ≤ 1000000; decide)), fun b o n e => by rw [upd_ne n]; exact kp b o n e, ?_⟩
      rw [upd_same, List.take_succ, hx, List.map_append]; rfl
    · obtain ⟨kp, hH⟩ := mm
      have sm : Same H H1 := fun b o e => kp b o (ne_of_none e hD) e
      have la := st_len bm.a0 bm.a1
      have lb := st_len bm.b0 bm.b1
      have lc := st_len bm.c0 bm.c1
      have ld := st_len bm.d0 bm.d1
      walk_at "kw"
      refine ⟨_, D, [st m.a, st m.b, st m.c, st m.d], rfl, rfl, .inl (SqL.of hH), ?_, k H1 sm⟩
      show (st m.a).length + ((st m.b).length + ((st m.c).length + ((st m.d).length + 0))) + 4 * (" " : Str).length ≤ _
      rw [show (" " : Str).length = 1 by decide +kernel]
      omega
end

/-! ## programs: rows and tests, their texts -/
namespace Pg
inductive Tst
  | longer | shorter | alike
  | holds (n : Str) (k : Int)
  | not (t : Tst)
inductive Rw1
  | make (m : Mt) | exch | lay | put (n : Str) (k : Int) | add (n : Str) (k : Int) | tell (m : Str) | stop
  | ifb (t : Tst) (r o : List Rw1)
  | untl (g : Str) (r : List Rw1)
theorem app_e (a : Str) : Str.empty ++ a = a := by
  show (⟨#[] ++ a.cps⟩ : Str) = a
  simp
theorem app_l (a b : Str) : (a ++ b).cps.toList = a.cps.toList ++ b.cps.toList := by
  show (a.cps ++ b.cps).toList = _
  simp
theorem app_len (a b : Str) : (a ++ b).length = a.length + b.length := by
  show (a.cps ++ b.cps).size = _
  simp; rfl
def Tst.txt : Tst → Str
  | .longer => "longer"
  | .shorter => "shorter"
  | .alike => "alike"
  | .holds n k => n ++ " is " ++ st k
  | .not t => ("not " : Str) ++ t.txt
def Tst.uses : Tst → List Str
  | .holds n _ => [n]
  | .not t => t.uses
  | _ => []
def Tst.sort : Tst → Str
  | .longer => "longer"
  | .shorter => "shorter"
  | .alike => "alike"
  | .holds _ _ => "holds"
  | .not _ => "not"
def Tst.d : Tst → PyData
  | .holds n k => .tuple [.str "holds", .str n, .int k]
  | .not t => .tuple [.str "not", t.d]
  | .longer => .tuple [.str "longer"]
  | .shorter => .tuple [.str "shorter"]
  | .alike => .tuple [.str "alike"]
def Tst.deep : Tst → Nat
  | .not t => t.deep + 1
  | _ => 0
def Rw1.sort : Rw1 → Str
  | .make _ => "make"
  | .exch => "exchange"
  | .lay => "lay"
  | .put _ _ => "put"
  | .add _ _ => "add"
  | .tell _ => "tell"
  | .stop => "stop"
  | .ifb _ _ _ => "if"
  | .untl _ _ => "until"
def Rw1.uses : Rw1 → List Str
  | .put n _ => [n]
  | .add n _ => [n]
  | .ifb t _ _ => t.uses
  | _ => []
def elseL (o : List Rw1) (l : List Str) : List Str := match o with
  | [] => []
  | _ :: _ => ("else" : Str) :: l
mutual
def Rw1.lines : Rw1 → List Str
  | .make m => [("make " : Str) ++ tx m]
  | .exch => ["exchange"]
  | .lay => ["lay"]
  | .put n k => [("put " : Str) ++ n ++ " " ++ st k]
  | .add n k => [("add " : Str) ++ n ++ " " ++ st k]
  | .tell m => [("tell " : Str) ++ m]
  | .stop => ["stop"]
  | .ifb t r o => (("if " : Str) ++ t.txt) :: (linesL r ++ (elseL o (linesL o) ++ ([("end" : Str)] : List Str)))
  | .untl g r => (("until " : Str) ++ g) :: (linesL r ++ ([("end" : Str)] : List Str))
def linesL : List Rw1 → List Str
  | [] => []
  | r :: rs => r.lines ++ linesL rs
end
mutual
def Rw1.d : Rw1 → PyData
  | .make m => .tuple [.str "make", .tuple ([m.a, m.b, m.c, m.d].map PyData.int)]
  | .exch => .tuple [.str "exchange"]
  | .lay => .tuple [.str "lay"]
  | .put n k => .tuple [.str "put", .str n, .int k]
  | .add n k => .tuple [.str "add", .str n, .int k]
  | .tell m => .tuple [.str "tell", .str m]
  | .stop => .tuple [.str "stop"]
  | .ifb t r o => .tuple [.str "if", t.d, .tuple (dL r), .tuple (dL o)]
  | .untl g r => .tuple [.str "until", .str g, .tuple (dL r)]
def dL : List Rw1 → List PyData
  | [] => []
  | r :: rs => r.d :: dL rs
end
mutual
def Rw1.deep : Rw1 → Nat
  | .ifb _ r o => max (deepL r) (deepL o) + 1
  | .untl _ r => deepL r + 1
  | _ => 0
def deepL : List Rw1 → Nat
  | [] => 0
  | r :: rs => max r.deep (deepL rs)
end
mutual
/-- the rows within one, itself ahead -/
def Rw1.inner : Rw1 → List Rw1
  | .ifb t r o => .ifb t r o :: (innerL r ++ innerL o)
  | .untl g r => .untl g r :: innerL r
  | .make m => [.make m]
  | .exch => [.exch]
  | .lay => [.lay]
  | .put n k => [.put n k]
  | .add n k => [.add n k]
  | .tell m => [.tell m]
  | .stop => [.stop]
def innerL : List Rw1 → List Rw1
  | [] => []
  | r :: rs => r.inner ++ innerL rs
end
mutual
/-- each way through it lays -/
def Rw1.lays : Rw1 → Bool
  | .lay => true
  | .stop => true
  | .ifb _ r o => laysL r && laysL o
  | .untl g _ => decide (g = "alike")
  | _ => false
def laysL : List Rw1 → Bool
  | [] => false
  | r :: rs => r.lays || laysL rs
end
def Rw1.isMake : Rw1 → Bool
  | .make _ => true
  | _ => false
def hasMake (rs : List Rw1) : Bool := (innerL rs).any Rw1.isMake
theorem linesL_app : ∀ a b : List Rw1, linesL (a ++ b) = linesL a ++ linesL b
  | [], _ => rfl
  | r :: a, b => by
    show r.lines ++ linesL (a ++ b) = _
    rw [linesL_app a b, ← List.append_assoc]; rfl
theorem deepL_mem : ∀ {rs : List Rw1} {r : Rw1}, r ∈ rs → r.deep ≤ deepL rs
  | s :: rs, r, h => by
    show r.deep ≤ max s.deep (deepL rs)
    rcases List.mem_cons.mp h with rfl | h
    · exact Nat.le_max_left _ _
    · exact Nat.le_trans (deepL_mem h) (Nat.le_max_right _ _)
/-- joined texts -/
theorem fold_pre (sep : Str) : ∀ (ps : List Str) (x y : Array Nat), ps.foldl (fun acc p => acc ++ sep.cps ++ p.cps) (x ++ y) = x ++ ps.foldl (fun acc p => acc ++ sep.cps ++ p.cps) y
  | [], _, _ => rfl
  | p :: ps, x, y => by
    show ps.foldl (fun acc p => acc ++ sep.cps ++ p.cps) (x ++ y ++ sep.cps ++ p.cps) = x ++ ps.foldl (fun acc p => acc ++ sep.cps ++ p.cps) (y ++ sep.cps ++ p.cps)
    rw [← fold_pre sep ps x]
    simp only [Array.append_assoc]
theorem join_cons2 (sep a b : Str) (l : List Str) : Txt.join sep (a :: b :: l) = a ++ sep ++ Txt.join sep (b :: l) := by
  show (⟨(b :: l).foldl (fun acc p => acc ++ sep.cps ++ p.cps) a.cps⟩ : Str) = ⟨(a.cps ++ sep.cps) ++ l.foldl (fun acc p => acc ++ sep.cps ++ p.cps) b.cps⟩
  rw [← fold_pre]
  rfl
theorem join_one (sep a : Str) : Txt.join sep [a] = a := rfl
end Pg
open Pg

/-! ## names -/
namespace Pg
def nameOk (z : Str) : Bool := decide (1 ≤ z.length) && decide (z.length ≤ 4) && !inV (.str z) [.str "not", .str "is"] && z.cps.toList.all (fun c => decide (c ∈ letters.cps.toList))
def isName : V → Bool
  | .str z => nameOk z
  | _ => false
/-- a text, a number of the module -/
structure GS (mg : Str → Option Value) (x z : Str) : Prop where
  ex : ∃ tk, mg x = some (.str z tk)
structure GI (mg : Str → Option Value) (x : Str) (i : Int) : Prop where
  ex : ∃ tk, mg x = some (.int i tk)
structure GT (K : PySem.W.Frag) (mg : Str → Option Value) (x : Str) (vs : List V) : Prop where
  ex : ∃ a, mg x = some (.ref a) ∧ ∀ H, SqT K H a vs
theorem gt_of {K : PySem.W.Frag} {mg : Str → Option Value} {x : Str} {vs : List V} {a : Addr} {o : Obj} {its : Array Value} {n : Nat} (h : mg x = some (.ref a)) (l : K.lookup a = some o) (c : o.cls = .type "tuple") (d : o.data = .seq its n) (z : its.size ≤ sizeLine) (v : Vals vs its.toList) : GT K mg x vs :=
  ⟨a, h, fun _ => .inr ⟨o, its, n, l, c, d, z, v⟩⟩
def sp_isname (K : PySem.W.Frag) : Sp := fun vs H Q _ => ∃ x, vs = [x] ∧ Kd K H x ∧ (∀ z, x = .str z → z.length ≤ 1000000) ∧ ∀ H', Same H H' → Q (.bl (isName x)) H'
end Pg
open Pg
section
variable {P : Program} {w : World} {K : PySem.W.Frag} {mg : Str → Option Value} {base : Heap}
theorem ok_isname {f : Addr} {fd : FuncData} (F : Fun K "is_name" "is_name" S_is_name f fd) (T : Txt K mg) (GL : GS mg "LETTERS" letters) (GM : GI mg "MOST_LETTERS" 4) (GB : GT K mg "BARRED" [.str "not", .str "is"]) : FnOk P w K mg base CX0 1 f fd ["value"] (sp_isname K) := by
  obtain ⟨tl, hL⟩ := GL.ex
  obtain ⟨tm, hM⟩ := GM.ex
  obtain ⟨ab, hB, sB⟩ := GB.ex
  refine F.ok SC_is_name (fun vs H Q E h => ?_) (fun cdv A outer s H vs Q E hr h => ?_)
  · obtain ⟨x, rfl, _⟩ := h
    rfl
  · obtain ⟨x, rfl, ⟨t, ty, _, _, h3⟩, hz, k⟩ := h
    refine ⟨_, (pss_cons (ps_if (PW.pt (pw_or (pt_not (pt_val (pe_callB call_isi (by rfl) T.b_isinstance (by decide +kernel) (pa_cons (pv 0) (pa_cons (pe_bltn (v := .ty "str") (by rfl) T.b_str boot_str rfl) pa_nil))))) (pw_or (pt_not (pt_chain op_le op_le pe_int (pe_callB call_len_str (by rfl) T.b_len (by decide +kernel) (pa_cons (pv 0) pa_nil)) (pe_glob (v := .int 4) (by rfl) hM ⟨_, rfl⟩))) (pw_or1 (pt_cmpR op_in_seq (pv 0) (pe_glob (v := .ref ab) (by rfl) hB rfl) (by rfl)))))) (pss_one (ps_ret pe_bl)) pss_nil)
      (pss_one (ps_ret (pe_callB (cr_all rfl) (by rfl) T.b_all (by decide +kernel) (pa_cons (pe_lc (own := [("letter", 1)]) (g := gName 1) (by rfl) SC_is_name.nd (pi_str (pv 0)) (blkOk_by (own := [("letter", 1)]) (N := N_is_name) (sc := defScope S_is_name) (by decide +kernel)) (fun _ _ _ _ _ => pg_name (i := 1) SC_is_name.nd rfl (Or.inl rfl)) (fun _ _ _ _ _ => pts_nil) (fun _ _ _ _ _ => (pe_cmpR op_in_sign (pv 1) (pe_glob (v := .str letters) (by rfl) hL ⟨_, rfl⟩) rfl))) pa_nil))))), ?_⟩
    refine ⟨_, rfl, x, _, t, _, _, rfl, .ty _, ty, h3, isS x, rfl, ?_⟩
    by_cases c : isS x = true
    · rw [c]
      obtain ⟨z, rfl⟩ : ∃ z, x = .str z := by cases x <;> first | exact ⟨_, rfl⟩ | cases c
      have hl := szl (hz z rfl)
      refine ifF rfl ?_
      refine ⟨_, rfl, z, rfl, hl, _, _, rfl, rfl, ?_⟩
      have bad : nameOk z = false → Q (.bl false) H := fun e => by
        have := k H (Same.refl H)
        rwa [show isName (.str z) = false from e] at this
      refine ⟨_, rfl, ?_⟩
      by_cases c1 : 1 ≤ z.length
      · rw [decide_eq_true (show (1 : Int) ≤ (z.length : Nat) by omega)]
        refine ifT rfl ⟨_, _, rfl, rfl, _, rfl, ?_⟩
        by_cases c2 : z.length ≤ 4
        · rw [decide_eq_true (show ((z.length : Nat) : Int) ≤ 4 by omega)]
          refine ifF rfl ?_
          refine ⟨_, rfl, ab, _, rfl, .inr (sB H), rfl, rfl, ?_⟩
          refine ⟨_, rfl, ?_⟩
          rw [if_neg (by decide)]
          by_cases c3 : inV (.str z) [.str "not", .str "is"] = true
          · rw [c3]
            refine ifT rfl (bad ?_)
            unfold nameOk
            rw [c3, Bool.not_true, Bool.and_false, Bool.false_and]
          · rw [Bool.not_eq_true] at c3
            rw [c3]
            refine ifF rfl ?_
            refine ⟨_, rfl, z, rfl, fun D hD => ?_⟩
            refine lcR_str (z := z) (fun i H' => (∀ b o, b ≠ D → H b = some o → H' b = some o) ∧ H' D = some (.lst (((z.cps.toList.take i).map fun c => decide (c ∈ letters.cps.toList)).map V.bl))) ⟨fun b o n e => by rw [upd_ne n]; exact e, upd_same⟩ (fun i c H1 hi hc m => ?_) (gName_mono _) (fun H1 m => ?_)
            · obtain ⟨kp, hH⟩ := m
              have hc' : z.cps.toList[i]? = some c := by rw [Array.getElem?_toList]; exact hc
              refine ⟨rfl, _, rfl, c, _, rfl, rfl, _, hH, ?_, fun b o n e => by rw [upd_ne n]; exact kp b o n e, ?_⟩
              · rw [List.length_map, List.length_map, List.length_take]
                exact szs (by have : i < z.length := hi; omega)
              · rw [upd_same, List.take_succ, hc', List.map_append, List.map_append]; rfl
            · obtain ⟨kp, hH⟩ := m
              have hz' : z.cps.size = z.cps.toList.length := by simp
              rw [hz', List.take_length] at hH
              have sm : Same H H1 := fun b o e => kp b o (ne_of_none e hD) e
              refine ⟨_, _, rfl, SqL.of hH, ?_⟩
              have e : isName (.str z) = (z.cps.toList.map fun c => decide (c ∈ letters.cps.toList)).all id := by
                show nameOk z = _
                unfold nameOk
                rw [decide_eq_true c1, decide_eq_true c2, c3, List.all_map]; rfl
              have q := k H1 sm
              rw [e] at q
              exact q
        · rw [decide_eq_false (show ¬ ((z.length : Nat) : Int) ≤ 4 by omega)]
          refine ifT rfl (bad ?_)
          unfold nameOk
          rw [decide_eq_false c2, Bool.and_false, Bool.false_and, Bool.false_and]
      · rw [decide_eq_false (show ¬ (1 : Int) ≤ (z.length : Nat) by omega)]
        refine ifF rfl ⟨_, rfl, ifT rfl (bad ?_)⟩
        unfold nameOk
        rw [decide_eq_false c1, Bool.false_and, Bool.false_and, Bool.false_and]
    · rw [Bool.not_eq_true] at c
      rw [c]
      refine ifT rfl ?_
      have e : isName x = false := by cases x <;> first | rfl | cases c
      rw [e] at k
      exact k H (Same.refl H)
end

/-! ## rows and tests as objects -/
namespace Pg
def Rw1.cls (c : Clz) : Rw1 → Addr
  | .make _ => c.make
  | .exch => c.exch
  | .lay => c.lay
  | .put _ _ => c.put
  | .add _ _ => c.add
  | .tell _ => c.tell
  | .stop => c.stop
  | .ifb _ _ _ => c.ifb
  | .untl _ _ => c.untl
def Tst.cls (c : Clz) : Tst → Addr
  | .longer => c.longer
  | .shorter => c.shorter
  | .alike => c.alike
  | .holds _ _ => c.holds
  | .not _ => c.not
/-- what of the text a class of rows or tests must have -/
structure Ri (K : PySem.W.Frag) (c : Clz) (C : Addr) (sort : Str) (isRow : Bool) : Prop where
  ins : C8.InsC K C
  no : ∀ f ∈ fnames, PySem.W.findIn K (.ref C) f = some none
  so : ∃ u, Con K C "SORT" (.str sort) u
  kr : PySem.W.kitOne K (.ref C) (.ref c.row) = some isRow
  kt : PySem.W.kitOne K (.ref C) (.ref c.test) = some (!isRow)
  kp : PySem.W.kitOne K (.ref C) (.ref c.part) = some true
  kc : PySem.W.kitOne K (.ref C) (.ref c.change) = some false
  km : PySem.W.kitOne K (.ref C) (.ref c.make) = some (decide (C = c.make))
structure Hi (K : PySem.W.Frag) (mg : Str → Option Value) (c : Clz) : Prop where
  make : Ri K c c.make "make" true
  exch : Ri K c c.exch "exchange" true
  lay : Ri K c c.lay "lay" true
  put : Ri K c c.put "put" true
  add : Ri K c c.add "add" true
  tell : Ri K c c.tell "tell" true
  stop : Ri K c c.stop "stop" true
  ifb : Ri K c c.ifb "if" true
  untl : Ri K c c.untl "until" true
  longer : Ri K c c.longer "longer" false
  shorter : Ri K c c.shorter "shorter" false
  alike : Ri K c c.alike "alike" false
  holds : Ri K c c.holds "holds" false
  not : Ri K c c.not "not" false
  mgRow : mg "Row" = some (.ref c.row)
  mgTest : mg "Test" = some (.ref c.test)
  mgPart : mg "Part" = some (.ref c.part)
  mgMake : mg "Make" = some (.ref c.make)
  apart : [c.make, c.exch, c.lay, c.put, c.add, c.tell, c.stop, c.ifb, c.untl, c.longer, c.shorter, c.alike, c.holds, c.not].Nodup
theorem Hi.r {K : PySem.W.Frag} {mg : Str → Option Value} {c : Clz} (h : Hi K mg c) (r : Rw1) : Ri K c (r.cls c) r.sort true := by
  cases r with
  | make _ => exact h.make
  | exch => exact h.exch
  | lay => exact h.lay
  | put _ _ => exact h.put
  | add _ _ => exact h.add
  | tell _ => exact h.tell
  | stop => exact h.stop
  | ifb _ _ _ => exact h.ifb
  | untl _ _ => exact h.untl
theorem Hi.t {K : PySem.W.Frag} {mg : Str → Option Value} {c : Clz} (h : Hi K mg c) (t : Tst) : Ri K c (t.cls c) t.sort false := by
  cases t with
  | longer => exact h.longer
  | shorter => exact h.shorter
  | alike => exact h.alike
  | holds _ _ => exact h.holds
  | not _ => exact h.not
/-- what all rows and tests have -/
def PartAt (K : PySem.W.Frag) (C : Addr) (H : Hp) (p : Addr) (script used : List Str) (fs : List (Str × V)) : Prop := ∃ dx s u, H p = some (.ins C dx fs) ∧ fs.length ≤ 10 ∧ fs.lookup ("script" : Str) = some (.ref s) ∧ SqT K H s (script.map V.str) ∧ fs.lookup ("used" : Str) = some (.ref u) ∧ SqT K H u (used.map V.str) ∧
  fs.lookup ("SORT" : Str) = none ∧ fs.lookup ("inner" : Str) = none ∧ fs.lookup ("is_laying" : Str) = none
def TstAt (K : PySem.W.Frag) (c : Clz) (H : Hp) : Addr → Tst → Prop
  | p, .holds n k => ∃ fs, PartAt K c.holds H p [(Tst.holds n k).txt] [n] fs ∧ fs.lookup ("note" : Str) = some (.str n) ∧ fs.lookup ("number" : Str) = some (.int k)
  | p, .not t => ∃ fs q, PartAt K c.not H p [(Tst.not t).txt] t.uses fs ∧ fs.lookup ("test" : Str) = some (.ref q) ∧ TstAt K c H q t
  | p, .longer => ∃ fs, PartAt K c.longer H p [Tst.longer.txt] [] fs
  | p, .shorter => ∃ fs, PartAt K c.shorter H p [Tst.shorter.txt] [] fs
  | p, .alike => ∃ fs, PartAt K c.alike H p [Tst.alike.txt] [] fs
mutual
def RowAt (K : PySem.W.Frag) (c : Clz) (H : Hp) : Addr → Rw1 → Prop
  | p, .make m => ∃ fs q, PartAt K c.make H p (Rw1.make m).lines [] fs ∧ fs.lookup ("change" : Str) = some (.ref q) ∧ ChAt c.change H q m.a m.b m.c m.d
  | p, .exch => ∃ fs, PartAt K c.exch H p Rw1.exch.lines [] fs
  | p, .lay => ∃ fs, PartAt K c.lay H p Rw1.lay.lines [] fs
  | p, .put n k => ∃ fs, PartAt K c.put H p (Rw1.put n k).lines [n] fs ∧ fs.lookup ("note" : Str) = some (.str n) ∧ fs.lookup ("number" : Str) = some (.int k)
  | p, .add n k => ∃ fs, PartAt K c.add H p (Rw1.add n k).lines [n] fs ∧ fs.lookup ("note" : Str) = some (.str n) ∧ fs.lookup ("number" : Str) = some (.int k)
  | p, .tell m => ∃ fs, PartAt K c.tell H p (Rw1.tell m).lines [] fs ∧ fs.lookup ("mark" : Str) = some (.str m)
  | p, .stop => ∃ fs, PartAt K c.stop H p Rw1.stop.lines [] fs
  | p, .ifb t r o => ∃ fs q a b xs ys, PartAt K c.ifb H p (Rw1.ifb t r o).lines t.uses fs ∧ fs.lookup ("test" : Str) = some (.ref q) ∧ TstAt K c H q t ∧ fs.lookup ("rows" : Str) = some (.ref a) ∧ SqT K H a xs ∧ RowsAt K c H xs r ∧ fs.lookup ("others" : Str) = some (.ref b) ∧ SqT K H b ys ∧ RowsAt K c H ys o
  | p, .untl g r => ∃ fs a xs, PartAt K c.untl H p (Rw1.untl g r).lines [] fs ∧ fs.lookup ("goal" : Str) = some (.str g) ∧ fs.lookup ("rows" : Str) = some (.ref a) ∧ SqT K H a xs ∧ RowsAt K c H xs r
def RowsAt (K : PySem.W.Frag) (c : Clz) (H : Hp) : List V → List Rw1 → Prop
  | [], [] => True
  | v :: vs, r :: rs => (∃ p, v = .ref p ∧ RowAt K c H p r) ∧ RowsAt K c H vs rs
  | _, _ => False
end
section
variable {K : PySem.W.Frag} {c : Clz} {H H' : Hp} {C p : Addr} {script used : List Str} {fs : List (Str × V)}
theorem PartAt.tk (s : TK H H') (h : PartAt K C H p script used fs) : PartAt K C H' p script used fs := by
  obtain ⟨dx, a, u, h1, h2, h3, h4, h5, h6, h7⟩ := h
  exact ⟨dx, a, u, s _ _ rfl h1, h2, h3, sqT_tk s h4, h5, sqT_tk s h6, h7⟩
theorem TstAt.tk (s : TK H H') : ∀ {t : Tst} {p : Addr}, TstAt K c H p t → TstAt K c H' p t
  | .holds n k, _, ⟨fs, h, r⟩ => ⟨fs, h.tk s, r⟩
  | .not t, _, ⟨fs, q, h, e, r⟩ => ⟨fs, q, h.tk s, e, TstAt.tk s r⟩
  | .longer, _, ⟨fs, h⟩ => ⟨fs, h.tk s⟩
  | .shorter, _, ⟨fs, h⟩ => ⟨fs, h.tk s⟩
  | .alike, _, ⟨fs, h⟩ => ⟨fs, h.tk s⟩
mutual
theorem RowAt.tk (s : TK H H') : ∀ {r : Rw1} {p : Addr}, RowAt K c H p r → RowAt K c H' p r
  | .make m, _, ⟨fs, q, h, e, d, q', h1, h2⟩ => ⟨fs, q, h.tk s, e, d, q', s _ _ rfl h1, s _ _ rfl h2⟩
  | .exch, _, ⟨fs, h⟩ => ⟨fs, h.tk s⟩
  | .lay, _, ⟨fs, h⟩ => ⟨fs, h.tk s⟩
  | .put n k, _, ⟨fs, h, r⟩ => ⟨fs, h.tk s, r⟩
  | .add n k, _, ⟨fs, h, r⟩ => ⟨fs, h.tk s, r⟩
  | .tell m, _, ⟨fs, h, r⟩ => ⟨fs, h.tk s, r⟩
  | .stop, _, ⟨fs, h⟩ => ⟨fs, h.tk s⟩
  | .ifb t r o, _, ⟨fs, q, a, b, xs, ys, h, e1, ht, e2, h2, hr, e3, h3, ho⟩ => ⟨fs, q, a, b, xs, ys, h.tk s, e1, ht.tk s, e2, sqT_tk s h2, RowsAt.tk s hr, e3, sqT_tk s h3, RowsAt.tk s ho⟩
  | .untl g r, _, ⟨fs, a, xs, h, e1, e2, h2, hr⟩ => ⟨fs, a, xs, h.tk s, e1, e2, sqT_tk s h2, RowsAt.tk s hr⟩
theorem RowsAt.tk (s : TK H H') : ∀ {rs : List Rw1} {vs : List V}, RowsAt K c H vs rs → RowsAt K c H' vs rs
  | [], [], _ => trivial
  | r :: rs, v :: vs, ⟨⟨p, e, h⟩, t⟩ => ⟨⟨p, e, RowAt.tk s h⟩, RowsAt.tk s t⟩
end
theorem RowsAt.len : ∀ {rs : List Rw1} {vs : List V}, RowsAt K c H vs rs → vs.length = rs.length
  | [], [], _ => rfl
  | r :: rs, v :: vs, ⟨_, t⟩ => congrArg Nat.succ (RowsAt.len t)
theorem RowsAt.at : ∀ {rs : List Rw1} {vs : List V} {i : Nat} {v : V}, RowsAt K c H vs rs → vs[i]? = some v → ∃ p r, v = .ref p ∧ rs[i]? = some r ∧ RowAt K c H p r
  | [], [], i, w, _, hi => by simp at hi
  | [], _ :: _, _, _, h, _ => h.elim
  | _ :: _, [], _, _, h, _ => h.elim
  | r :: rs, v :: vs, i, w, h, hi => by
    obtain ⟨⟨p, e, h⟩, t⟩ := h
    cases i with
    | zero => cases hi; exact ⟨p, r, e, rfl, h⟩
    | succ i => exact RowsAt.at (i := i) (v := w) t (by simpa using hi)
/-- the part of a row -/
theorem RowAt.part {r : Rw1} (h : RowAt K c H p r) : ∃ fs, PartAt K (r.cls c) H p r.lines r.uses fs := by
  cases r <;> (obtain ⟨fs, h⟩ := h) <;> first | exact ⟨fs, h⟩ | exact ⟨fs, h.1⟩ | (obtain ⟨_, h⟩ := h; exact ⟨fs, h.1⟩) | (obtain ⟨_, _, h⟩ := h; exact ⟨fs, h.1⟩) | (obtain ⟨_, _, _, _, _, h⟩ := h; exact ⟨fs, h.1⟩)
theorem TstAt.part {t : Tst} (h : TstAt K c H p t) : ∃ fs, PartAt K (t.cls c) H p [t.txt] t.uses fs := by
  cases t <;> (obtain ⟨fs, h⟩ := h) <;> first | exact ⟨fs, h⟩ | exact ⟨fs, h.1⟩ | (obtain ⟨_, h⟩ := h; exact ⟨fs, h.1⟩)
end
theorem seq_ftup {K : PySem.W.Frag} {σ : L2.St} {H : Hp} {D : Ends} {i j : Nat} {f : Str} {x p C dx : Addr} {fs : List (Str × V)} {ys : List V} {u : TS} (hi : σ[i]? = some (some (.ref x))) (hj : σ[j]? = some (some (.ref p))) (hx : H x = some (.ins C dx fs)) (cl : Cls K C) (no : NoAttr K C f) (l : fs.length < 1000) (h : SqL K H p ys ∨ SqT K H p ys)
    (k : ∀ s H', Same H H' → SqT K H' s ys → D.nx σ (upd H' x (.ins C dx (putF f (.ref s) fs)))) :
    sFld K (tVar i) (tCB (fun xs H Q => ∃ (p : Addr) (ys : List V), xs = [V.ref p] ∧ ((SqL K H p ys ∧ ∀ l, H l = none → Q (.ref l) (upd H l (.tup ys))) ∨ (SqT K H p ys ∧ Q (.ref p) H))) (tCons (tVar j) tNil)) f D σ H := by
  refine ⟨_, hj, p, ys, rfl, ?_⟩
  rcases h with h | h
  · refine .inl ⟨h, fun l0 hl => ⟨_, hi, x, C, dx, fs, rfl, sm_new hl _ _ hx, cl, no, l, k l0 _ (sm_new hl) (SqT.of upd_same)⟩⟩
  · exact .inr ⟨h, _, hi, x, C, dx, fs, rfl, hx, cl, no, l, k p H (Same.refl H) h⟩
theorem sqT_ins {K : PySem.W.Frag} {H : Hp} {x C dx a : Addr} {fs fs' : List (Str × V)} {xs : List V} (hx : H x = some (.ins C dx fs)) (h : SqT K H a xs) : SqT K (upd H x (.ins C dx fs')) a xs := h.elim (fun q => .inl (q.elim (fun q => .inl (by rw [upd_ne (fun e => by rw [e, hx] at q; cases q)]; exact q)) fun ⟨o, q⟩ => .inr ⟨o, by rw [upd_ne (fun e => by rw [e, hx] at q; cases q)]; exact q⟩)) .inr
theorem sqL_ins {K : PySem.W.Frag} {H : Hp} {x C dx a : Addr} {fs fs' : List (Str × V)} {xs : List V} (hx : H x = some (.ins C dx fs)) (h : SqL K H a xs) : SqL K (upd H x (.ins C dx fs')) a xs := h.elim (fun q => .inl (q.elim (fun q => .inl (by rw [upd_ne (fun e => by rw [e, hx] at q; cases q)]; exact q)) fun ⟨o, q⟩ => .inr ⟨o, by rw [upd_ne (fun e => by rw [e, hx] at q; cases q)]; exact q⟩)) .inr
theorem putF_len (f : Str) (v : V) : ∀ fs : List (Str × V), (putF f v fs).length ≤ fs.length + 1
  | [] => Nat.le_refl _
  | (g, x) :: r => by
    show (if g = f then (g, v) :: r else (g, x) :: putF f v r).length ≤ r.length + 1 + 1
    split
    · exact Nat.le_succ _
    · exact Nat.succ_le_succ (putF_len f v r)
def sp_pinit (K : PySem.W.Frag) (c : Clz) : Sp := fun vs H Q _ => ∃ (x dx p q C : Addr) (fs : List (Str × V)) (ss us : List Str) (so : Str) (ir : Bool), vs = [.ref x, .ref p, .ref q] ∧ H x = some (.ins C dx fs) ∧ fs.length ≤ 8 ∧ Ri K c C so ir ∧ (SqL K H p (ss.map V.str) ∨ SqT K H p (ss.map V.str)) ∧ (SqL K H q (us.map V.str) ∨ SqT K H q (us.map V.str)) ∧
  ∀ (s u : Addr) (H' : Hp), (∀ b o, b ≠ x → H b = some o → H' b = some o) → H' x = some (.ins C dx (putF "used" (.ref u) (putF "script" (.ref s) fs))) → SqT K H' s (ss.map V.str) → SqT K H' u (us.map V.str) → Q .non H'
theorem part_new {K : PySem.W.Frag} {C dx s u x : Addr} {H : Hp} {fs : List (Str × V)} {ss us : List Str} (hx : H x = some (.ins C dx (putF "used" (.ref u) (putF "script" (.ref s) fs)))) (hs : SqT K H s (ss.map V.str)) (hu : SqT K H u (us.map V.str)) (l : fs.length ≤ 8)
    (n1 : fs.lookup ("SORT" : Str) = none) (n2 : fs.lookup ("inner" : Str) = none) (n3 : fs.lookup ("is_laying" : Str) = none) : PartAt K C H x ss us (putF "used" (.ref u) (putF "script" (.ref s) fs)) := by
  refine ⟨dx, s, u, hx, ?_, ?_, hs, ?_, hu, ?_, ?_, ?_⟩
  · have h1 := putF_len ("used" : Str) (.ref u) (putF ("script" : Str) (.ref s) fs)
    have h2 := putF_len ("script" : Str) (.ref s) fs
    exact Nat.le_trans h1 (by omega)
  · rw [lookup_putF, if_neg (by decide +kernel), lookup_putF, if_pos rfl]
  · rw [lookup_putF, if_pos rfl]
  · rw [lookup_putF, if_neg (by decide +kernel), lookup_putF, if_neg (by decide +kernel), n1]
  · rw [lookup_putF, if_neg (by decide +kernel), lookup_putF, if_neg (by decide +kernel), n2]
  · rw [lookup_putF, if_neg (by decide +kernel), lookup_putF, if_neg (by decide +kernel), n3]
/-- C(): made -/
def sp_rinit (K : PySem.W.Frag) (c : Clz) (C : Addr) (P : Hp → Addr → Prop) : Sp := fun vs H Q _ => ∃ (x dx : Addr), vs = [.ref x] ∧ H x = some (.ins C dx []) ∧ ∀ (H' : Hp), (∀ b o, b ≠ x → H b = some o → H' b = some o) → P H' x → Q .non H'
end Pg
open Pg
section
variable {P : Program} {w : World} {K : PySem.W.Frag} {mg : Str → Option Value} {base : Heap}
theorem ok_pinit {f : Addr} {fd : FuncData} {c : Clz} {dvs : List V} (F : FunD K "__init__" "Part.__init__" (defArgs S_Part__init_) (defBody S_Part__init_) (defScope S_Part__init_) dvs [] f fd) (T : Txt K mg) : FnOk P w K mg base CX0 2 f fd ["self", "script", "used"] (sp_pinit K c) := by
  refine F.ok SC_Part__init_ (fun vs H Q E h => ?_) (fun cdv A outer s H vs Q E hr h => ?_)
  · obtain ⟨x, dx, p, q, C, fs, ss, us, so, ir, rfl, _⟩ := h
    rfl
  · obtain ⟨x, dx, p, q, C, fs, ss, us, so, ir, rfl, hx, fl, ri, hp, hq, k⟩ := h
    refine ⟨_, (pss_cons (ps_fld (pv 0) (pe_callTy call_tuple_of (by rfl) T.b_tuple (by decide +kernel) (pa_cons (pv 1) pa_nil)) rfl)
      (pss_one (ps_fld (pv 0) (pe_callTy call_tuple_of (by rfl) T.b_tuple (by decide +kernel) (pa_cons (pv 2) pa_nil)) rfl))), ?_⟩
    refine seq_ftup (u := tNext) (x := x) (p := p) (ys := ss.map V.str) rfl rfl hx ri.ins.cl (ri.no _ (.head _)) (by omega) hp fun s H1 s1 hs => ?_
    have hx1 : (upd H1 x (.ins C dx (putF ("script" : Str) (.ref s) fs))) x = some (.ins C dx (putF ("script" : Str) (.ref s) fs)) := upd_same
    have k1 : ∀ b o, b ≠ x → H b = some o → (upd H1 x (.ins C dx (putF ("script" : Str) (.ref s) fs))) b = some o := fun b o n e => by rw [upd_ne n]; exact s1 _ _ e
    have hs1 : SqT K (upd H1 x (.ins C dx (putF ("script" : Str) (.ref s) fs))) s (ss.map V.str) := sqT_ins (s1 _ _ hx) hs
    have hq1 : SqL K (upd H1 x (.ins C dx (putF ("script" : Str) (.ref s) fs))) q (us.map V.str) ∨ SqT K (upd H1 x (.ins C dx (putF ("script" : Str) (.ref s) fs))) q (us.map V.str) := hq.elim (fun h => .inl (sqL_ins (s1 _ _ hx) (same_sqL s1 h))) fun h => .inr (sqT_ins (s1 _ _ hx) (sqT_tk (TK.same s1) h))
    generalize upd H1 x (.ins C dx (putF ("script" : Str) (.ref s) fs)) = H2 at hx1 k1 hs1 hq1 ⊢
    refine seq_ftup (u := tNext) (x := x) (p := q) (ys := us.map V.str) rfl rfl hx1 ri.ins.cl (ri.no _ (.tail _ (.head _))) ?_ hq1 fun u H3 s3 hu => ?_
    · have := putF_len ("script" : Str) (.ref s) fs
      omega
    · exact k s u _ (fun b o n e => by rw [upd_ne n]; exact s3 _ _ (k1 b o n e)) upd_same (sqT_ins (s3 _ _ hx1) (sqT_tk (TK.same s3) hs1)) (sqT_ins (s3 _ _ hx1) hu)
end

/-! ## what is refused -/
namespace Pg
def isNum : V → Bool
  | .int k => decide (0 ≤ k)
  | _ => false
/-- refused, with a word -/
def Refd (E : XK) (IR : Addr) (H : Hp) (z : Str) : Prop := ∀ (dd : Addr) (H' : Hp), Same H H' → H' dd = none → E (.ref IR) (some dd) (upd H' dd (.xd [("part", .str z)]))
/-- a list or a tuple -/
def SqA (K : PySem.W.Frag) (H : Hp) (p : Addr) (xs : List V) : Prop := SqL K H p xs ∨ SqT K H p xs
theorem sqL_at {K : PySem.W.Frag} {H H' : Hp} {p : Addr} {xs : List V} (s : ∀ o, H p = some o → H' p = some o) (h : SqL K H p xs) : SqL K H' p xs := h.elim (fun q => .inl (q.elim (fun q => .inl (s _ q)) fun ⟨o, q⟩ => .inr ⟨o, s _ q⟩)) .inr
theorem sqT_at {K : PySem.W.Frag} {H H' : Hp} {p : Addr} {xs : List V} (s : ∀ o, H p = some o → H' p = some o) (h : SqT K H p xs) : SqT K H' p xs := h.elim (fun q => .inl (q.elim (fun q => .inl (s _ q)) fun ⟨o, q⟩ => .inr ⟨o, s _ q⟩)) .inr
theorem SqA.at {K : PySem.W.Frag} {H H' : Hp} {p : Addr} {xs : List V} (s : ∀ o, H p = some o → H' p = some o) (h : SqA K H p xs) : SqA K H' p xs := h.elim (fun h => .inl (sqL_at s h)) fun h => .inr (sqT_at s h)
theorem for_seqA {K : PySem.W.Frag} {p : Addr} {xs : List V} {g : TG} {tb : TS} {D : Ends} {σ : L2.St} {i : Nat} {H : Hp} (hσ : σ[i]? = some (some (.ref p))) (h : SqA K H p xs) (Pv : Nat → L2.St → Hp → Prop) (h0 : Pv 0 σ H) (hk : ∀ j σ' H', j ≤ xs.length → Pv j σ' H' → ∀ o, H p = some o → H' p = some o)
    (hs : ∀ j x σ' H', xs[j]? = some x → Pv j σ' H' → g x σ' H' fun σ2 H2 => tb { D with nx := Pv (j + 1), ct := Pv (j + 1), bk := D.nx } σ2 H2) (hd : ∀ σ' H', Pv xs.length σ' H' → D.nx σ' H') : tFor (iSeq K (tVar i)) g tb D σ H := by
  refine ⟨_, hσ, p, rfl, ?_⟩
  rcases h with h | h
  · exact .inl ⟨⟨_, h⟩, for_list Pv h0 (fun j σ' H' hj q => sqL_at (hk j σ' H' hj q) h) hs hd⟩
  · exact .inr ⟨⟨_, h⟩, for_tup Pv h0 (fun j σ' H' hj q => sqT_at (hk j σ' H' hj q) h) hs hd⟩
/-- isinstance(x, (list, tuple)) -/
theorem isLT {K : PySem.W.Frag} {H : Hp} {x : V} {t : Value} {b : Bool} {σ : L2.St} {Q : VK} {i : Nat} (hσ : σ[i]? = some (some x)) (ty : TyX K H x t) (h1 : PySem.W.kitAny K t [.type "list", .type "tuple"] = some b) (k : ∀ H', Same H H' → Q (.bl b) H') :
    tCB (rIsiT K) (tCons (tVar i) (tCons (tTup (tCons (tC (V.ty "list")) (tCons (tC (V.ty "tuple")) tNil))) tNil)) σ H Q :=
  ⟨_, hσ, by show 2 ≤ sizeLine; decide, fun tp htp => ⟨x, tp, [.ty "list", .ty "tuple"], t, [.type "list", .type "tuple"], b, rfl, upd_same, .cons (.ty _) (.cons (.ty _) .nil), tyX_at ty fun a o _ e => by rw [upd_ne (ne_of_none e htp)]; exact e, h1, k _ (sm_new htp)⟩⟩
def sp_ndname (K : PySem.W.Frag) (IR : Addr) : Sp := fun vs H Q E => ∃ (x : V) (z : Str), vs = [x, .str z] ∧ Kd K H x ∧ (∀ z, x = .str z → z.length ≤ 1000000) ∧ (isName x = true → ∀ H', Same H H' → Q .non H') ∧ (isName x = false → Refd E IR H z)
def sp_ndnum (K : PySem.W.Frag) (IR : Addr) : Sp := fun vs H Q E => ∃ (x : V), vs = [x] ∧ Kd K H x ∧ (isNum x = true → ∀ H', Same H H' → Q .non H') ∧ (isNum x = false → Refd E IR H "number")
def sp_ndtest (K : PySem.W.Frag) (c : Clz) (IR : Addr) : Sp := fun vs H Q E => ∃ (x : V) (t : Value) (b : Bool), vs = [x] ∧ TyX K H x t ∧ PySem.W.kitOne K t (.ref c.test) = some b ∧ (b = true → ∀ H', Same H H' → Q .non H') ∧ (b = false → Refd E IR H "test")
/-- what need_rows makes of a value -/
inductive NRows (K : PySem.W.Frag) (c : Clz) (H : Hp) : V → Option (List V) → Prop
  | other {x : V} {t : Value} (h : TyX K H x t) (h1 : PySem.W.kitAny K t [.type "list", .type "tuple"] = some false) : NRows K c H x none
  | bad {p : Addr} {xs : List V} {t t' : Value} {i : Nat} {v : V} (ty : TyX K H (.ref p) t') (h1 : PySem.W.kitAny K t' [.type "list", .type "tuple"] = some true) (hs : SqL K H p xs ∨ SqT K H p xs) (a : ∀ j w, j < i → xs[j]? = some w → ∃ u, TyX K H w u ∧ PySem.W.kitOne K u (.ref c.row) = some true) (hi : xs[i]? = some v) (h : TyX K H v t) (hb : PySem.W.kitOne K t (.ref c.row) = some false) : NRows K c H (.ref p) none
  | good {p : Addr} {xs : List V} {t' : Value} (ty : TyX K H (.ref p) t') (h1 : PySem.W.kitAny K t' [.type "list", .type "tuple"] = some true) (hs : SqL K H p xs ∨ SqT K H p xs) (a : ∀ w ∈ xs, ∃ u, TyX K H w u ∧ PySem.W.kitOne K u (.ref c.row) = some true) : NRows K c H (.ref p) (some xs)
def sp_ndrows (K : PySem.W.Frag) (c : Clz) (IR : Addr) : Sp := fun vs H Q E => ∃ (x : V) (o : Option (List V)), vs = [x] ∧ NRows K c H x o ∧ (∀ xs, o = some xs → ∀ (T : Addr) (H' : Hp), Same H H' → SqT K H' T xs → Q (.ref T) H') ∧ (o = none → Refd E IR H "row")
end Pg
open Pg
section
variable {P : Program} {w : World} {K : PySem.W.Frag} {mg : Str → Option Value} {base : Heap}
theorem ok_ndname {f IR : Addr} {fd : FuncData} (F : Fun K "need_name" "need_name" S_need_name f fd) (T : Txt K mg) (C_isname : FnC P w K mg base CX0 1 "is_name" ["value"] (sp_isname K)) (E_InvalidRow : Er1 P w K mg base "InvalidRow" IR "part" "part") : FnOk P w K mg base (L2.CX P w) 4 f fd ["value", "part"] (sp_ndname K IR) := by
  refine F.okX SC_need_name (fun vs H Q E h => ?_) (fun cdv A outer s H vs Q E hr h => ?_)
  · obtain ⟨x, z, rfl, _⟩ := h
    rfl
  · obtain ⟨x, z, rfl, kd, hz, ok, bad⟩ := h
    refine ⟨_, (pss_one (ps_if (pt_not (pt_val (pe_callC C_isname (hr.mono (by decide)) rfl (pa_cons (pv 0) pa_nil)))) (pss_one (ps_raise1 E_InvalidRow (hr.mono (by decide)) rfl (takes_of rfl rfl rfl rfl) rfl (pa_cons (pv 1) pa_nil))) pss_nil)), ?_⟩
    refine ⟨_, rfl, x, rfl, kd, hz, fun H1 s1 => ⟨_, rfl, ?_⟩⟩
    by_cases c : isName x = true
    · rw [c]
      exact ifF rfl (ok c H1 s1)
    · rw [Bool.not_eq_true] at c
      rw [c]
      exact ifT rfl ⟨_, rfl, mk_err1H fun dd hd => bad c dd H1 s1 hd⟩
theorem ok_ndnum {f IR : Addr} {fd : FuncData} (F : Fun K "need_number" "need_number" S_need_number f fd) (T : Txt K mg) (C_isint : FnC P w K mg base CX0 1 "is_integer" ["value"] (sp_isint K)) (E_InvalidRow : Er1 P w K mg base "InvalidRow" IR "part" "part") : FnOk P w K mg base (L2.CX P w) 4 f fd ["value"] (sp_ndnum K IR) := by
  refine F.okX SC_need_number (fun vs H Q E h => ?_) (fun cdv A outer s H vs Q E hr h => ?_)
  · obtain ⟨x, rfl, _⟩ := h
    rfl
  · obtain ⟨x, rfl, kd, ok, bad⟩ := h
    refine ⟨_, (pss_one (ps_if (PW.pt (pw_or (pt_not (pt_val (pe_callC C_isint (hr.mono (by decide)) rfl (pa_cons (pv 0) pa_nil)))) (pw_or1 (pt_cmpR op_lt (pv 0) pe_int (nomark _))))) (pss_one (ps_raise1 E_InvalidRow (hr.mono (by decide)) rfl (takes_of rfl rfl rfl rfl) rfl (pa_cons pe_str pa_nil))) pss_nil)), ?_⟩
    refine ⟨_, rfl, x, rfl, kd, _, rfl, ?_⟩
    have go : isNum x = false → (∃ vs, vs = [V.str ("number" : Str)] ∧ True) := fun _ => ⟨_, rfl, trivial⟩
    cases x with
    | int i =>
      refine ifF rfl ⟨_, rfl, _, _, rfl, rfl, _, rfl, ?_⟩
      refine ite2 (fun h => ?_) (fun h => ?_)
      · have h : i < 0 := of_decide_eq_true h
        exact mk_err1H fun dd hd => bad (decide_eq_false (by omega)) dd H (Same.refl H) hd
      · have h : ¬ i < 0 := fun e => h (decide_eq_true e)
        exact ok (decide_eq_true (by omega)) H (Same.refl H)
    | _ => exact ifT rfl (mk_err1H fun dd hd => bad rfl dd H (Same.refl H) hd)
theorem ok_ndtest {f IR : Addr} {fd : FuncData} {c : Clz} (F : Fun K "need_test" "need_test" S_need_test f fd) (T : Txt K mg) (Hc : Hi K mg c) (E_InvalidRow : Er1 P w K mg base "InvalidRow" IR "part" "part") : FnOk P w K mg base (L2.CX P w) 4 f fd ["value"] (sp_ndtest K c IR) := by
  refine F.okX SC_need_test (fun vs H Q E h => ?_) (fun cdv A outer s H vs Q E hr h => ?_)
  · obtain ⟨x, t, b, rfl, _⟩ := h
    rfl
  · obtain ⟨x, t, b, rfl, ty, kt, ok, bad⟩ := h
    refine ⟨_, (pss_one (ps_if (pt_not (pt_val (pe_callB call_isi (by rfl) T.b_isinstance (by decide +kernel) (pa_cons (pv 0) (pa_cons (pe_glob (v := .ref c.test) (by rfl) Hc.mgTest rfl) pa_nil))))) (pss_one (ps_raise1 E_InvalidRow (hr.mono (by decide)) rfl (takes_of rfl rfl rfl rfl) rfl (pa_cons pe_str pa_nil))) pss_nil)), ?_⟩
    refine ⟨_, rfl, x, _, t, _, b, rfl, .own _, ty, kt, _, rfl, ?_⟩
    cases b with
    | true => exact ifF rfl (ok rfl H (Same.refl H))
    | false => exact ifT rfl (mk_err1H fun dd hd => bad rfl dd H (Same.refl H) hd)
theorem ok_ndrows {f IR : Addr} {fd : FuncData} {c : Clz} (F : Fun K "need_rows" "need_rows" S_need_rows f fd) (T : Txt K mg) (Hc : Hi K mg c) (E_InvalidRow : Er1 P w K mg base "InvalidRow" IR "part" "part") : FnOk P w K mg base (L2.CX P w) 4 f fd ["rows"] (sp_ndrows K c IR) := by
  refine F.okX SC_need_rows (fun vs H Q E h => ?_) (fun cdv A outer s H vs Q E hr h => ?_)
  · obtain ⟨x, o, rfl, _⟩ := h
    rfl
  · obtain ⟨x, o, rfl, nr, ok, bad⟩ := h
    refine ⟨_, (pss_cons (ps_if (pt_not (pt_val (pe_callB call_isiT (by rfl) T.b_isinstance (by decide +kernel) (pa_cons (pv 0) (pa_cons (pe_tup (pa_cons (pe_bltn (v := .ty "list") (by rfl) T.b_list boot_list rfl) (pa_cons (pe_bltn (v := .ty "tuple") (by rfl) T.b_tuple boot_tuple rfl) pa_nil))) pa_nil))))) (pss_one (ps_raise1 E_InvalidRow (hr.mono (by decide)) rfl (takes_of rfl rfl rfl rfl) rfl (pa_cons pe_str pa_nil))) pss_nil)
      (pss_cons (ps_for (passes_of rfl) rfl (pi_seq (pv 0)) (pg_name (i := 1) SC_need_rows.nd rfl (.inl rfl)) (pss_one (ps_if (pt_not (pt_val (pe_callB call_isi (by rfl) T.b_isinstance (by decide +kernel) (pa_cons (pv 1) (pa_cons (pe_glob (v := .ref c.row) (by rfl) Hc.mgRow rfl) pa_nil))))) (pss_one (ps_raise1 E_InvalidRow (hr.mono (by decide)) rfl (takes_of rfl rfl rfl rfl) rfl (pa_cons pe_str pa_nil))) pss_nil)))
      (pss_one (ps_ret (pe_callTy call_tuple_of (by rfl) T.b_tuple (by decide +kernel) (pa_cons (pv 0) pa_nil)))))), ?_⟩
    cases nr with
    | other h h1 => exact isLT rfl h h1 fun H1 s1 => ⟨_, rfl, ifT rfl (mk_err1H fun dd hd => bad rfl dd H1 s1 hd)⟩
    | bad ty h1 hs a hi h hb =>
      rename_i p xs t t' i v
      refine isLT rfl ty h1 fun H1 s1 => ⟨_, rfl, ifF rfl ?_⟩
      have hs1 : SqA K H1 p xs := SqA.at (fun o e => s1 _ _ e) hs
      refine for_seqA (p := p) (xs := xs) rfl hs1 (fun j σ H2 => Same H1 H2 ∧ j ≤ i ∧ ∃ y1 : Option V, σ = [some (.ref p), y1]) ⟨Same.refl _, Nat.zero_le _, _, rfl⟩ (fun j σ' H2 _ m o e => m.1 _ _ e) (fun j x σ' H2 hj m => ?_) (fun σ' H2 m => ?_)
      · obtain ⟨s2, ji, y1, rfl⟩ := m
        by_cases e : j = i
        · subst e
          rw [hi] at hj
          cases hj
          refine ⟨_, rfl, v, _, t, _, false, rfl, .own _, tyX_at h (fun a o _ e => s2 _ _ (s1 _ _ e)), hb, _, rfl, ?_⟩
          exact ifT rfl (mk_err1H fun dd hd => bad rfl dd H2 (s1.trans s2) hd)
        · obtain ⟨u, hu, ku⟩ := a j x (by omega) hj
          refine ⟨_, rfl, x, _, u, _, true, rfl, .own _, tyX_at hu (fun a o _ e => s2 _ _ (s1 _ _ e)), ku, _, rfl, ?_⟩
          exact ifF rfl ⟨s2, by omega, _, rfl⟩
      · have := (List.getElem?_eq_some_iff.mp hi).1
        omega
    | good ty h1 hs a =>
      rename_i p xs t'
      refine isLT rfl ty h1 fun H1 s1 => ⟨_, rfl, ifF rfl ?_⟩
      have hs1 : SqA K H1 p xs := SqA.at (fun o e => s1 _ _ e) hs
      refine for_seqA (p := p) (xs := xs) rfl hs1 (fun j σ H2 => Same H1 H2 ∧ ∃ y1 : Option V, σ = [some (.ref p), y1]) ⟨Same.refl _, _, rfl⟩ (fun j σ' H2 _ m o e => m.1 _ _ e) (fun j x σ' H2 hj m => ?_) (fun σ' H2 m => ?_)
      · obtain ⟨s2, y1, rfl⟩ := m
        obtain ⟨u, hu, ku⟩ := a x (List.mem_of_getElem? hj)
        refine ⟨_, rfl, x, _, u, _, true, rfl, .own _, tyX_at hu (fun a o _ e => s2 _ _ (s1 _ _ e)), ku, _, rfl, ?_⟩
        exact ifF rfl ⟨s2, _, rfl⟩
      · obtain ⟨s2, y1, rfl⟩ := m
        refine ⟨_, rfl, p, xs, rfl, ?_⟩
        rcases SqA.at (fun o e => s2 _ _ e) hs1 with h | h
        · exact .inl ⟨h, fun l hl => ok xs rfl l _ ((s1.trans s2).trans (sm_new hl)) (SqT.of upd_same)⟩
        · exact .inr ⟨h, ok xs rfl p H2 (s1.trans s2) h⟩
end

/-! ## rows and tests without arguments -/
section
variable {P : Program} {w : World} {K : PySem.W.Frag} {mg : Str → Option Value} {base : Heap}
theorem ok_exchinit {f : Addr} {fd : FuncData} {c : Clz} (F : FunS P K mg "__init__" "Exchange.__init__" S_Exchange__init_ c.exch [] f fd) (T : Txt K mg) (Hc : Hi K mg c) {eT : Addr} (M_pinit : SupC P w K mg base 2 c.exch "__init__" ["self", "script", "used"] (sp_pinit K c) [.ref eT]) (hE : ∀ H, SqT K H eT []) : FnOk P w K mg base CX0 4 f fd ["self"] (sp_rinit K c c.exch fun H x => RowAt K c H x .exch) := by
  refine F.ok SC_Exchange__init_ (fun vs H Q E h => ?_) (fun cda cc fd' oc od osl A outer s H vs Q E hpar lk SK hr h => ?_)
  · obtain ⟨x, dx, rfl, _⟩ := h
    rfl
  · obtain ⟨x, dx, rfl, hx, k⟩ := h
    refine ⟨_, (pat_superC M_pinit SK lk hpar (hr.mono (by decide)) (pa_cons (pe_lstN (pa_cons pe_str pa_nil)) pa_nil) pss_nil), ?_⟩
    refine ⟨x, dx, [], rfl, hx, by show 1 ≤ 1000000; decide, fun L H1 n1 s1 h1 => ?_⟩
    refine ⟨x, dx, L, eT, c.exch, [], ["exchange"], [], "exchange", true, rfl, s1 _ _ hx, Nat.zero_le _, Hc.exch, .inl (SqL.of h1), .inr (hE _), fun s u H' kp hx' hs hu => ?_⟩
    exact k H' (fun b o n e => kp b o n (s1 _ _ e)) ⟨_, part_new hx' hs hu (by decide) rfl rfl rfl⟩
theorem ok_layinit {f : Addr} {fd : FuncData} {c : Clz} (F : FunS P K mg "__init__" "Lay.__init__" S_Lay__init_ c.lay [] f fd) (T : Txt K mg) (Hc : Hi K mg c) {eT : Addr} (M_pinit : SupC P w K mg base 2 c.lay "__init__" ["self", "script", "used"] (sp_pinit K c) [.ref eT]) (hE : ∀ H, SqT K H eT []) : FnOk P w K mg base CX0 4 f fd ["self"] (sp_rinit K c c.lay fun H x => RowAt K c H x .lay) := by
  refine F.ok SC_Lay__init_ (fun vs H Q E h => ?_) (fun cda cc fd' oc od osl A outer s H vs Q E hpar lk SK hr h => ?_)
  · obtain ⟨x, dx, rfl, _⟩ := h
    rfl
  · obtain ⟨x, dx, rfl, hx, k⟩ := h
    refine ⟨_, (pat_superC M_pinit SK lk hpar (hr.mono (by decide)) (pa_cons (pe_lstN (pa_cons pe_str pa_nil)) pa_nil) pss_nil), ?_⟩
    refine ⟨x, dx, [], rfl, hx, by show 1 ≤ 1000000; decide, fun L H1 n1 s1 h1 => ?_⟩
    refine ⟨x, dx, L, eT, c.lay, [], ["lay"], [], "lay", true, rfl, s1 _ _ hx, Nat.zero_le _, Hc.lay, .inl (SqL.of h1), .inr (hE _), fun s u H' kp hx' hs hu => ?_⟩
    exact k H' (fun b o n e => kp b o n (s1 _ _ e)) ⟨_, part_new hx' hs hu (by decide) rfl rfl rfl⟩
theorem ok_stopinit {f : Addr} {fd : FuncData} {c : Clz} (F : FunS P K mg "__init__" "Stop.__init__" S_Stop__init_ c.stop [] f fd) (T : Txt K mg) (Hc : Hi K mg c) {eT : Addr} (M_pinit : SupC P w K mg base 2 c.stop "__init__" ["self", "script", "used"] (sp_pinit K c) [.ref eT]) (hE : ∀ H, SqT K H eT []) : FnOk P w K mg base CX0 4 f fd ["self"] (sp_rinit K c c.stop fun H x => RowAt K c H x .stop) := by
  refine F.ok SC_Stop__init_ (fun vs H Q E h => ?_) (fun cda cc fd' oc od osl A outer s H vs Q E hpar lk SK hr h => ?_)
  · obtain ⟨x, dx, rfl, _⟩ := h
    rfl
  · obtain ⟨x, dx, rfl, hx, k⟩ := h
    refine ⟨_, (pat_superC M_pinit SK lk hpar (hr.mono (by decide)) (pa_cons (pe_lstN (pa_cons pe_str pa_nil)) pa_nil) pss_nil), ?_⟩
    refine ⟨x, dx, [], rfl, hx, by show 1 ≤ 1000000; decide, fun L H1 n1 s1 h1 => ?_⟩
    refine ⟨x, dx, L, eT, c.stop, [], ["stop"], [], "stop", true, rfl, s1 _ _ hx, Nat.zero_le _, Hc.stop, .inl (SqL.of h1), .inr (hE _), fun s u H' kp hx' hs hu => ?_⟩
    exact k H' (fun b o n e => kp b o n (s1 _ _ e)) ⟨_, part_new hx' hs hu (by decide) rfl rfl rfl⟩
theorem ok_longerinit {f : Addr} {fd : FuncData} {c : Clz} (F : FunS P K mg "__init__" "Longer.__init__" S_Longer__init_ c.longer [] f fd) (T : Txt K mg) (Hc : Hi K mg c) {eT : Addr} (M_pinit : SupC P w K mg base 2 c.longer "__init__" ["self", "script", "used"] (sp_pinit K c) [.ref eT]) (hE : ∀ H, SqT K H eT []) : FnOk P w K mg base CX0 4 f fd ["self"] (sp_rinit K c c.longer fun H x => TstAt K c H x .longer) := by
  refine F.ok SC_Longer__init_ (fun vs H Q E h => ?_) (fun cda cc fd' oc od osl A outer s H vs Q E hpar lk SK hr h => ?_)
  · obtain ⟨x, dx, rfl, _⟩ := h
    rfl
  · obtain ⟨x, dx, rfl, hx, k⟩ := h
    refine ⟨_, (pat_superC M_pinit SK lk hpar (hr.mono (by decide)) (pa_cons (pe_lstN (pa_cons pe_str pa_nil)) pa_nil) pss_nil), ?_⟩
    refine ⟨x, dx, [], rfl, hx, by show 1 ≤ 1000000; decide, fun L H1 n1 s1 h1 => ?_⟩
    refine ⟨x, dx, L, eT, c.longer, [], ["longer"], [], "longer", false, rfl, s1 _ _ hx, Nat.zero_le _, Hc.longer, .inl (SqL.of h1), .inr (hE _), fun s u H' kp hx' hs hu => ?_⟩
    exact k H' (fun b o n e => kp b o n (s1 _ _ e)) ⟨_, part_new hx' hs hu (by decide) rfl rfl rfl⟩
theorem ok_shorterinit {f : Addr} {fd : FuncData} {c : Clz} (F : FunS P K mg "__init__" "Shorter.__init__" S_Shorter__init_ c.shorter [] f fd) (T : Txt K mg) (Hc : Hi K mg c) {eT : Addr} (M_pinit : SupC P w K mg base 2 c.shorter "__init__" ["self", "script", "used"] (sp_pinit K c) [.ref eT]) (hE : ∀ H, SqT K H eT []) : FnOk P w K mg base CX0 4 f fd ["self"] (sp_rinit K c c.shorter fun H x => TstAt K c H x .shorter) := by
  refine F.ok SC_Shorter__init_ (fun vs H Q E h => ?_) (fun cda cc fd' oc od osl A outer s H vs Q E hpar lk SK hr h => ?_)
  · obtain ⟨x, dx, rfl, _⟩ := h
    rfl
  · obtain ⟨x, dx, rfl, hx, k⟩ := h
    refine ⟨_, (pat_superC M_pinit SK lk hpar (hr.mono (by decide)) (pa_cons (pe_lstN (pa_cons pe_str pa_nil)) pa_nil) pss_nil), ?_⟩
    refine ⟨x, dx, [], rfl, hx, by show 1 ≤ 1000000; decide, fun L H1 n1 s1 h1 => ?_⟩
    refine ⟨x, dx, L, eT, c.shorter, [], ["shorter"], [], "shorter", false, rfl, s1 _ _ hx, Nat.zero_le _, Hc.shorter, .inl (SqL.of h1), .inr (hE _), fun s u H' kp hx' hs hu => ?_⟩
    exact k H' (fun b o n e => kp b o n (s1 _ _ e)) ⟨_, part_new hx' hs hu (by decide) rfl rfl rfl⟩
theorem ok_alikeinit {f : Addr} {fd : FuncData} {c : Clz} (F : FunS P K mg "__init__" "Alike.__init__" S_Alike__init_ c.alike [] f fd) (T : Txt K mg) (Hc : Hi K mg c) {eT : Addr} (M_pinit : SupC P w K mg base 2 c.alike "__init__" ["self", "script", "used"] (sp_pinit K c) [.ref eT]) (hE : ∀ H, SqT K H eT []) : FnOk P w K mg base CX0 4 f fd ["self"] (sp_rinit K c c.alike fun H x => TstAt K c H x .alike) := by
  refine F.ok SC_Alike__init_ (fun vs H Q E h => ?_) (fun cda cc fd' oc od osl A outer s H vs Q E hpar lk SK hr h => ?_)
  · obtain ⟨x, dx, rfl, _⟩ := h
    rfl
  · obtain ⟨x, dx, rfl, hx, k⟩ := h
    refine ⟨_, (pat_superC M_pinit SK lk hpar (hr.mono (by decide)) (pa_cons (pe_lstN (pa_cons pe_str pa_nil)) pa_nil) pss_nil), ?_⟩
    refine ⟨x, dx, [], rfl, hx, by show 1 ≤ 1000000; decide, fun L H1 n1 s1 h1 => ?_⟩
    refine ⟨x, dx, L, eT, c.alike, [], ["alike"], [], "alike", false, rfl, s1 _ _ hx, Nat.zero_le _, Hc.alike, .inl (SqL.of h1), .inr (hE _), fun s u H' kp hx' hs hu => ?_⟩
    exact k H' (fun b o n e => kp b o n (s1 _ _ e)) ⟨_, part_new hx' hs hu (by decide) rfl rfl rfl⟩
end

/-! ## rows and tests with arguments -/
namespace Pg
/-- C(note, number) -/
def sp_nn (K : PySem.W.Frag) (IR C : Addr) (P : Hp → Addr → Str → Int → Prop) : Sp := fun vs H Q E => ∃ (x dx : Addr) (n k : V), vs = [.ref x, n, k] ∧ H x = some (.ins C dx []) ∧ Kd K H n ∧ Kd K H k ∧ (∀ z, n = .str z → z.length ≤ 1000000) ∧ (∀ i, k = .int i → 0 ≤ i → i < 2 ^ 40) ∧
  (∀ (z : Str) (i : Int), n = .str z → k = .int i → nameOk z = true → 0 ≤ i → ∀ H', (∀ b o, b ≠ x → H b = some o → H' b = some o) → P H' x z i → Q .non H') ∧
  (isName n = false → Refd E IR H "note") ∧ (isName n = true → isNum k = false → Refd E IR H "number")
def sp_mark (K : PySem.W.Frag) (c : Clz) (IR : Addr) : Sp := fun vs H Q E => ∃ (x dx : Addr) (n : V), vs = [.ref x, n] ∧ H x = some (.ins c.tell dx []) ∧ Kd K H n ∧ (∀ z, n = .str z → z.length ≤ 1000000) ∧
  (∀ (z : Str), n = .str z → nameOk z = true → ∀ H', (∀ b o, b ≠ x → H b = some o → H' b = some o) → RowAt K c H' x (.tell z) → Q .non H') ∧ (isName n = false → Refd E IR H "mark")
theorem l_e : Str.empty.length = 0 := rfl
theorem l_put : ("put " : Str).length = 4 := by decide +kernel
theorem l_add : ("add " : Str).length = 4 := by decide +kernel
theorem l_sp : (" " : Str).length = 1 := by decide +kernel
theorem l_tell : ("tell " : Str).length = 5 := by decide +kernel
theorem l_is : (" is " : Str).length = 4 := by decide +kernel
theorem l_make : ("make " : Str).length = 5 := by decide +kernel
theorem l_not : ("not " : Str).length = 4 := by decide +kernel
theorem l_if : ("if " : Str).length = 3 := by decide +kernel
theorem l_until : ("until " : Str).length = 6 := by decide +kernel
theorem l_end : ("end" : Str).length = 3 := by decide +kernel
theorem l_else : ("else" : Str).length = 4 := by decide +kernel
theorem e_put (a b c d : Str) : Str.empty ++ a ++ b ++ c ++ d = a ++ b ++ c ++ d := by rw [app_e]
theorem st_small {i : Int} (h0 : 0 ≤ i) (h : i < 2 ^ 40) : (st i).length ≤ 13 := st_len h0 h
theorem name_len {z : Str} (h : nameOk z = true) : z.length ≤ 4 := by
  unfold nameOk at h
  simp only [Bool.and_eq_true, decide_eq_true_eq] at h
  exact h.1.1.2
theorem name_is {n : V} (h : isName n = true) : ∃ z, n = .str z ∧ nameOk z = true := by
  cases n with
  | str z => exact ⟨z, rfl, h⟩
  | _ => cases h
theorem num_is {k : V} (h : isNum k = true) : ∃ i, k = .int i ∧ 0 ≤ i := by
  cases k with
  | int i => exact ⟨i, rfl, of_decide_eq_true h⟩
  | _ => cases h
end Pg
open Pg
section
variable {P : Program} {w : World} {K : PySem.W.Frag} {mg : Str → Option Value} {base : Heap}
theorem ok_putinit {f IR : Addr} {fd : FuncData} {c : Clz} (F : FunS P K mg "__init__" "Put.__init__" S_Put__init_ c.put [] f fd) (T : Txt K mg) (Hc : Hi K mg c) (C_ndname : FnC P w K mg base (L2.CX P w) 4 "need_name" ["value", "part"] (sp_ndname K IR)) (C_ndnum : FnC P w K mg base (L2.CX P w) 4 "need_number" ["value"] (sp_ndnum K IR)) (M_pinit : SupC P w K mg base 2 c.put "__init__" ["self", "script", "used"] (sp_pinit K c) []) : FnOk P w K mg base (L2.CX P w) 6 f fd ["self", "note", "number"] (sp_nn K IR c.put fun H x z i => RowAt K c H x (.put z i)) := by
  refine F.ok SC_Put__init_ (fun vs H Q E h => ?_) (fun cda cc fd' oc od osl A outer s H vs Q E hpar lk SK hr h => ?_)
  · obtain ⟨x, dx, n, k, rfl, _⟩ := h
    rfl
  · obtain ⟨x, dx, n, k, rfl, hx, kn, kk, hz, hi, ok, bad1, bad2⟩ := h
    refine ⟨_, (pat_cons (ps_expr (pe_callSC C_ndname (hr.mono (by decide)) (takes_of rfl rfl rfl rfl) rfl (pa_cons (pv 1) (pa_cons pe_str pa_nil))))
      (pat_cons (ps_expr (pe_callSC C_ndnum (hr.mono (by decide)) (takes_of rfl rfl rfl rfl) rfl (pa_cons (pv 2) pa_nil)))
      (pat_superC M_pinit SK lk hpar (hr.mono (by decide)) (pa_cons (pe_lstN (pa_cons (pe_joined (PJ.cons pe_str (PJ.cons (pe_fmt (pv 1)) (PJ.cons pe_str (PJ.cons (pe_fmt (pv 2)) PJ.nil))))) pa_nil)) (pa_cons (pe_lstN (pa_cons (pv 1) pa_nil)) pa_nil)) (pss_cons (ps_fld (pv 0) (pv 1) rfl)
      (pss_one (ps_fld (pv 0) (pv 2) rfl)))))), ?_⟩
    refine ⟨_, rfl, n, "note", rfl, kn, hz, fun okn H1 s1 => ?_, fun bn => bad1 bn⟩
    refine ⟨_, rfl, k, rfl, kk.same s1, fun okk H2 s2 => ?_, fun bk dd H' s' hd => bad2 okn bk dd H' (s1.trans s') hd⟩
    obtain ⟨z, rfl, nz⟩ := name_is okn
    obtain ⟨i, rfl, i0⟩ := num_is okk
    have i1 := hi i rfl i0
    have s12 := s1.trans s2
    have lz := name_len nz
    have li := st_small i0 i1
    have lg := st_log i0 i1
    refine ⟨x, dx, [], rfl, s12 _ _ hx, ?_⟩
    refine ⟨_, rfl, by decide +kernel, _, rfl, .inl ⟨z, rfl, szl (by omega), _, rfl, by (refine szl ?_; simp only [app_len, l_e, l_put, l_add, l_sp, l_tell, l_is, l_make, l_not, l_if, l_until, l_end, l_else]; omega), _, rfl, by (refine szl ?_; simp only [app_len, l_e, l_put, l_add, l_sp, l_tell, l_is, l_make, l_not, l_if, l_until, l_end, l_else]; omega), _, rfl, .inr ⟨i, rfl, lg, _, rfl, ?_, ?_⟩⟩⟩
    · show (Str.empty ++ ("put " : Str) ++ z ++ (" " : Str) ++ st i).length ≤ sizeLine
      (refine szl ?_; simp only [app_len, l_e, l_put, l_add, l_sp, l_tell, l_is, l_make, l_not, l_if, l_until, l_end, l_else]; omega)
    rw [e_put]
    refine ⟨by show 1 ≤ 1000000; decide, fun L H3 n3 s3 h3 => ⟨_, rfl, by show 1 ≤ 1000000; decide, fun L2 H4 n4 s4 h4 => ?_⟩⟩
    have s14 := s12.trans (s3.trans s4)
    refine ⟨x, dx, L, L2, c.put, [], [("put " : Str) ++ z ++ " " ++ st i], [z], "put", true, rfl, s14 _ _ hx, Nat.zero_le _, Hc.put, .inl (SqL.of (s4 _ _ h3)), .inl (SqL.of h4), fun s u H5 kp hx5 hs hu => ?_⟩
    refine ⟨_, rfl, _, rfl, x, c.put, dx, _, rfl, hx5, Hc.put.ins.cl, Hc.put.no "note" (by simp [fnames]), Nat.le_of_ble_eq_true rfl, ?_⟩
    refine ⟨_, rfl, _, rfl, x, c.put, dx, _, rfl, upd_same, Hc.put.ins.cl, Hc.put.no "number" (by simp [fnames]), Nat.le_of_ble_eq_true rfl, ?_⟩
    refine ok z i rfl rfl nz i0 _ (fun b o n e => by rw [upd_ne n, upd_ne n]; exact kp b o n (s14 _ _ e)) ⟨_, ⟨dx, s, u, upd_same, Nat.le_of_ble_eq_true rfl, by ((repeat (rw [lookup_putF]; first | rw [if_pos rfl] | rw [if_neg (by decide +kernel)])); try rfl), sqT_ins (upd_same (o := .ins c.put dx _)) (sqT_ins hx5 hs), by ((repeat (rw [lookup_putF]; first | rw [if_pos rfl] | rw [if_neg (by decide +kernel)])); try rfl), sqT_ins (upd_same (o := .ins c.put dx _)) (sqT_ins hx5 hu), by ((repeat (rw [lookup_putF]; first | rw [if_pos rfl] | rw [if_neg (by decide +kernel)])); try rfl), by ((repeat (rw [lookup_putF]; first | rw [if_pos rfl] | rw [if_neg (by decide +kernel)])); try rfl), by ((repeat (rw [lookup_putF]; first | rw [if_pos rfl] | rw [if_neg (by decide +kernel)])); try rfl)⟩, by ((repeat (rw [lookup_putF]; first | rw [if_pos rfl] | rw [if_neg (by decide +kernel)])); try rfl), by ((repeat (rw [lookup_putF]; first | rw [if_pos rfl] | rw [if_neg (by decide +kernel)])); try rfl)⟩
theorem ok_addinit {f IR : Addr} {fd : FuncData} {c : Clz} (F : FunS P K mg "__init__" "Add.__init__" S_Add__init_ c.add [] f fd) (T : Txt K mg) (Hc : Hi K mg c) (C_ndname : FnC P w K mg base (L2.CX P w) 4 "need_name" ["value", "part"] (sp_ndname K IR)) (C_ndnum : FnC P w K mg base (L2.CX P w) 4 "need_number" ["value"] (sp_ndnum K IR)) (M_pinit : SupC P w K mg base 2 c.add "__init__" ["self", "script", "used"] (sp_pinit K c) []) : FnOk P w K mg base (L2.CX P w) 6 f fd ["self", "note", "number"] (sp_nn K IR c.add fun H x z i => RowAt K c H x (.add z i)) := by
  refine F.ok SC_Add__init_ (fun vs H Q E h => ?_) (fun cda cc fd' oc od osl A outer s H vs Q E hpar lk SK hr h => ?_)
  · obtain ⟨x, dx, n, k, rfl, _⟩ := h
    rfl
  · obtain ⟨x, dx, n, k, rfl, hx, kn, kk, hz, hi, ok, bad1, bad2⟩ := h
    refine ⟨_, (pat_cons (ps_expr (pe_callSC C_ndname (hr.mono (by decide)) (takes_of rfl rfl rfl rfl) rfl (pa_cons (pv 1) (pa_cons pe_str pa_nil))))
      (pat_cons (ps_expr (pe_callSC C_ndnum (hr.mono (by decide)) (takes_of rfl rfl rfl rfl) rfl (pa_cons (pv 2) pa_nil)))
      (pat_superC M_pinit SK lk hpar (hr.mono (by decide)) (pa_cons (pe_lstN (pa_cons (pe_joined (PJ.cons pe_str (PJ.cons (pe_fmt (pv 1)) (PJ.cons pe_str (PJ.cons (pe_fmt (pv 2)) PJ.nil))))) pa_nil)) (pa_cons (pe_lstN (pa_cons (pv 1) pa_nil)) pa_nil)) (pss_cons (ps_fld (pv 0) (pv 1) rfl)
      (pss_one (ps_fld (pv 0) (pv 2) rfl)))))), ?_⟩
    refine ⟨_, rfl, n, "note", rfl, kn, hz, fun okn H1 s1 => ?_, fun bn => bad1 bn⟩
    refine ⟨_, rfl, k, rfl, kk.same s1, fun okk H2 s2 => ?_, fun bk dd H' s' hd => bad2 okn bk dd H' (s1.trans s') hd⟩
    obtain ⟨z, rfl, nz⟩ := name_is okn
    obtain ⟨i, rfl, i0⟩ := num_is okk
    have i1 := hi i rfl i0
    have s12 := s1.trans s2
    have lz := name_len nz
    have li := st_small i0 i1
    have lg := st_log i0 i1
    refine ⟨x, dx, [], rfl, s12 _ _ hx, ?_⟩
    refine ⟨_, rfl, by decide +kernel, _, rfl, .inl ⟨z, rfl, szl (by omega), _, rfl, by (refine szl ?_; simp only [app_len, l_e, l_put, l_add, l_sp, l_tell, l_is, l_make, l_not, l_if, l_until, l_end, l_else]; omega), _, rfl, by (refine szl ?_; simp only [app_len, l_e, l_put, l_add, l_sp, l_tell, l_is, l_make, l_not, l_if, l_until, l_end, l_else]; omega), _, rfl, .inr ⟨i, rfl, lg, _, rfl, ?_, ?_⟩⟩⟩
    · show (Str.empty ++ ("add " : Str) ++ z ++ (" " : Str) ++ st i).length ≤ sizeLine
      (refine szl ?_; simp only [app_len, l_e, l_put, l_add, l_sp, l_tell, l_is, l_make, l_not, l_if, l_until, l_end, l_else]; omega)
    rw [e_put]
    refine ⟨by show 1 ≤ 1000000; decide, fun L H3 n3 s3 h3 => ⟨_, rfl, by show 1 ≤ 1000000; decide, fun L2 H4 n4 s4 h4 => ?_⟩⟩
    have s14 := s12.trans (s3.trans s4)
    refine ⟨x, dx, L, L2, c.add, [], [("add " : Str) ++ z ++ " " ++ st i], [z], "add", true, rfl, s14 _ _ hx, Nat.zero_le _, Hc.add, .inl (SqL.of (s4 _ _ h3)), .inl (SqL.of h4), fun s u H5 kp hx5 hs hu => ?_⟩
    refine ⟨_, rfl, _, rfl, x, c.add, dx, _, rfl, hx5, Hc.add.ins.cl, Hc.add.no "note" (by simp [fnames]), Nat.le_of_ble_eq_true rfl, ?_⟩
    refine ⟨_, rfl, _, rfl, x, c.add, dx, _, rfl, upd_same, Hc.add.ins.cl, Hc.add.no "number" (by simp [fnames]), Nat.le_of_ble_eq_true rfl, ?_⟩
    refine ok z i rfl rfl nz i0 _ (fun b o n e => by rw [upd_ne n, upd_ne n]; exact kp b o n (s14 _ _ e)) ⟨_, ⟨dx, s, u, upd_same, Nat.le_of_ble_eq_true rfl, by ((repeat (rw [lookup_putF]; first | rw [if_pos rfl] | rw [if_neg (by decide +kernel)])); try rfl), sqT_ins (upd_same (o := .ins c.add dx _)) (sqT_ins hx5 hs), by ((repeat (rw [lookup_putF]; first | rw [if_pos rfl] | rw [if_neg (by decide +kernel)])); try rfl), sqT_ins (upd_same (o := .ins c.add dx _)) (sqT_ins hx5 hu), by ((repeat (rw [lookup_putF]; first | rw [if_pos rfl] | rw [if_neg (by decide +kernel)])); try rfl), by ((repeat (rw [lookup_putF]; first | rw [if_pos rfl] | rw [if_neg (by decide +kernel)])); try rfl), by ((repeat (rw [lookup_putF]; first | rw [if_pos rfl] | rw [if_neg (by decide +kernel)])); try rfl)⟩, by ((repeat (rw [lookup_putF]; first | rw [if_pos rfl] | rw [if_neg (by decide +kernel)])); try rfl), by ((repeat (rw [lookup_putF]; first | rw [if_pos rfl] | rw [if_neg (by decide +kernel)])); try rfl)⟩
theorem ok_holdsinit {f IR : Addr} {fd : FuncData} {c : Clz} (F : FunS P K mg "__init__" "Holds.__init__" S_Holds__init_ c.holds [] f fd) (T : Txt K mg) (Hc : Hi K mg c) (C_ndname : FnC P w K mg base (L2.CX P w) 4 "need_name" ["value", "part"] (sp_ndname K IR)) (C_ndnum : FnC P w K mg base (L2.CX P w) 4 "need_number" ["value"] (sp_ndnum K IR)) (M_pinit : SupC P w K mg base 2 c.holds "__init__" ["self", "script", "used"] (sp_pinit K c) []) : FnOk P w K mg base (L2.CX P w) 6 f fd ["self", "note", "number"] (sp_nn K IR c.holds fun H x z i => TstAt K c H x (.holds z i)) := by
  refine F.ok SC_Holds__init_ (fun vs H Q E h => ?_) (fun cda cc fd' oc od osl A outer s H vs Q E hpar lk SK hr h => ?_)
  · obtain ⟨x, dx, n, k, rfl, _⟩ := h
    rfl
  · obtain ⟨x, dx, n, k, rfl, hx, kn, kk, hz, hi, ok, bad1, bad2⟩ := h
    refine ⟨_, (pat_cons (ps_expr (pe_callSC C_ndname (hr.mono (by decide)) (takes_of rfl rfl rfl rfl) rfl (pa_cons (pv 1) (pa_cons pe_str pa_nil))))
      (pat_cons (ps_expr (pe_callSC C_ndnum (hr.mono (by decide)) (takes_of rfl rfl rfl rfl) rfl (pa_cons (pv 2) pa_nil)))
      (pat_superC M_pinit SK lk hpar (hr.mono (by decide)) (pa_cons (pe_lstN (pa_cons (pe_joined (PJ.cons (pe_fmt (pv 1)) (PJ.cons pe_str (PJ.cons (pe_fmt (pv 2)) PJ.nil)))) pa_nil)) (pa_cons (pe_lstN (pa_cons (pv 1) pa_nil)) pa_nil)) (pss_cons (ps_fld (pv 0) (pv 1) rfl)
      (pss_one (ps_fld (pv 0) (pv 2) rfl)))))), ?_⟩
    refine ⟨_, rfl, n, "note", rfl, kn, hz, fun okn H1 s1 => ?_, fun bn => bad1 bn⟩
    refine ⟨_, rfl, k, rfl, kk.same s1, fun okk H2 s2 => ?_, fun bk dd H' s' hd => bad2 okn bk dd H' (s1.trans s') hd⟩
    obtain ⟨z, rfl, nz⟩ := name_is okn
    obtain ⟨i, rfl, i0⟩ := num_is okk
    have i1 := hi i rfl i0
    have s12 := s1.trans s2
    have lz := name_len nz
    have li := st_small i0 i1
    have lg := st_log i0 i1
    refine ⟨x, dx, [], rfl, s12 _ _ hx, ?_⟩
    refine ⟨_, rfl, .inl ⟨z, rfl, szl (by omega), _, rfl, by (refine szl ?_; simp only [app_len, l_e, l_put, l_add, l_sp, l_tell, l_is, l_make, l_not, l_if, l_until, l_end, l_else]; omega), _, rfl, by (refine szl ?_; simp only [app_len, l_e, l_put, l_add, l_sp, l_tell, l_is, l_make, l_not, l_if, l_until, l_end, l_else]; omega), _, rfl, .inr ⟨i, rfl, lg, _, rfl, ?_, ?_⟩⟩⟩
    · show (Str.empty ++ z ++ (" is " : Str) ++ st i).length ≤ sizeLine
      (refine szl ?_; simp only [app_len, l_e, l_put, l_add, l_sp, l_tell, l_is, l_make, l_not, l_if, l_until, l_end, l_else]; omega)
    rw [app_e]
    refine ⟨by show 1 ≤ 1000000; decide, fun L H3 n3 s3 h3 => ⟨_, rfl, by show 1 ≤ 1000000; decide, fun L2 H4 n4 s4 h4 => ?_⟩⟩
    have s14 := s12.trans (s3.trans s4)
    refine ⟨x, dx, L, L2, c.holds, [], [z ++ " is " ++ st i], [z], "holds", false, rfl, s14 _ _ hx, Nat.zero_le _, Hc.holds, .inl (SqL.of (s4 _ _ h3)), .inl (SqL.of h4), fun s u H5 kp hx5 hs hu => ?_⟩
    refine ⟨_, rfl, _, rfl, x, c.holds, dx, _, rfl, hx5, Hc.holds.ins.cl, Hc.holds.no "note" (by simp [fnames]), Nat.le_of_ble_eq_true rfl, ?_⟩
    refine ⟨_, rfl, _, rfl, x, c.holds, dx, _, rfl, upd_same, Hc.holds.ins.cl, Hc.holds.no "number" (by simp [fnames]), Nat.le_of_ble_eq_true rfl, ?_⟩
    refine ok z i rfl rfl nz i0 _ (fun b o n e => by rw [upd_ne n, upd_ne n]; exact kp b o n (s14 _ _ e)) ⟨_, ⟨dx, s, u, upd_same, Nat.le_of_ble_eq_true rfl, by ((repeat (rw [lookup_putF]; first | rw [if_pos rfl] | rw [if_neg (by decide +kernel)])); try rfl), sqT_ins (upd_same (o := .ins c.holds dx _)) (sqT_ins hx5 hs), by ((repeat (rw [lookup_putF]; first | rw [if_pos rfl] | rw [if_neg (by decide +kernel)])); try rfl), sqT_ins (upd_same (o := .ins c.holds dx _)) (sqT_ins hx5 hu), by ((repeat (rw [lookup_putF]; first | rw [if_pos rfl] | rw [if_neg (by decide +kernel)])); try rfl), by ((repeat (rw [lookup_putF]; first | rw [if_pos rfl] | rw [if_neg (by decide +kernel)])); try rfl), by ((repeat (rw [lookup_putF]; first | rw [if_pos rfl] | rw [if_neg (by decide +kernel)])); try rfl)⟩, by ((repeat (rw [lookup_putF]; first | rw [if_pos rfl] | rw [if_neg (by decide +kernel)])); try rfl), by ((repeat (rw [lookup_putF]; first | rw [if_pos rfl] | rw [if_neg (by decide +kernel)])); try rfl)⟩
theorem ok_tellinit {f IR : Addr} {fd : FuncData} {c : Clz} (F : FunS P K mg "__init__" "Tell.__init__" S_Tell__init_ c.tell [] f fd) (T : Txt K mg) (Hc : Hi K mg c) (C_ndname : FnC P w K mg base (L2.CX P w) 4 "need_name" ["value", "part"] (sp_ndname K IR)) {eT : Addr} (M_pinit : SupC P w K mg base 2 c.tell "__init__" ["self", "script", "used"] (sp_pinit K c) [.ref eT]) (hE : ∀ H, SqT K H eT []) : FnOk P w K mg base (L2.CX P w) 6 f fd ["self", "mark"] (sp_mark K c IR) := by
  refine F.ok SC_Tell__init_ (fun vs H Q E h => ?_) (fun cda cc fd' oc od osl A outer s H vs Q E hpar lk SK hr h => ?_)
  · obtain ⟨x, dx, n, rfl, _⟩ := h
    rfl
  · obtain ⟨x, dx, n, rfl, hx, kn, hz, ok, bad⟩ := h
    refine ⟨_, (pat_cons (ps_expr (pe_callSC C_ndname (hr.mono (by decide)) (takes_of rfl rfl rfl rfl) rfl (pa_cons (pv 1) (pa_cons pe_str pa_nil))))
      (pat_superC M_pinit SK lk hpar (hr.mono (by decide)) (pa_cons (pe_lstN (pa_cons (pe_joined (PJ.cons pe_str (PJ.cons (pe_fmt (pv 1)) PJ.nil))) pa_nil)) pa_nil) (pss_one (ps_fld (pv 0) (pv 1) rfl)))), ?_⟩
    refine ⟨_, rfl, n, "mark", rfl, kn, hz, fun okn H1 s1 => ?_, fun bn => bad bn⟩
    obtain ⟨z, rfl, nz⟩ := name_is okn
    have lz := name_len nz
    refine ⟨x, dx, [], rfl, s1 _ _ hx, ?_⟩
    refine ⟨_, rfl, by decide +kernel, _, rfl, .inl ⟨z, rfl, szl (by omega), _, rfl, by (refine szl ?_; simp only [app_len, l_e, l_put, l_add, l_sp, l_tell, l_is, l_make, l_not, l_if, l_until, l_end, l_else]; omega), ?_⟩⟩
    rw [app_e]
    refine ⟨by show 1 ≤ 1000000; decide, fun L H3 n3 s3 h3 => ?_⟩
    have s13 := s1.trans s3
    refine ⟨x, dx, L, eT, c.tell, [], [("tell " : Str) ++ z], [], "tell", true, rfl, s13 _ _ hx, Nat.zero_le _, Hc.tell, .inl (SqL.of h3), .inr (hE _), fun s u H5 kp hx5 hs hu => ?_⟩
    refine ⟨_, rfl, _, rfl, x, c.tell, dx, _, rfl, hx5, Hc.tell.ins.cl, Hc.tell.no "mark" (by simp [fnames]), Nat.le_of_ble_eq_true rfl, ?_⟩
    refine ok z rfl nz _ (fun b o n e => by rw [upd_ne n]; exact kp b o n (s13 _ _ e)) ⟨_, ⟨dx, s, u, upd_same, Nat.le_of_ble_eq_true rfl, by ((repeat (rw [lookup_putF]; first | rw [if_pos rfl] | rw [if_neg (by decide +kernel)])); try rfl), sqT_ins hx5 hs, by ((repeat (rw [lookup_putF]; first | rw [if_pos rfl] | rw [if_neg (by decide +kernel)])); try rfl), sqT_ins hx5 hu, by ((repeat (rw [lookup_putF]; first | rw [if_pos rfl] | rw [if_neg (by decide +kernel)])); try rfl), by ((repeat (rw [lookup_putF]; first | rw [if_pos rfl] | rw [if_neg (by decide +kernel)])); try rfl), by ((repeat (rw [lookup_putF]; first | rw [if_pos rfl] | rw [if_neg (by decide +kernel)])); try rfl)⟩, by ((repeat (rw [lookup_putF]; first | rw [if_pos rfl] | rw [if_neg (by decide +kernel)])); try rfl)⟩
end

/-! ## the text of a part; rows and tests made of others -/
namespace Pg
def sumL (ss : List Str) : Nat := (ss.map fun z => z.length + 1).sum
theorem sumL_eq : ∀ ss : List Str, sumL ss = (ss.map fun x => x.length).sum + ss.length
  | [] => rfl
  | z :: ss => by
    have e := sumL_eq ss
    unfold sumL at e ⊢
    simp only [List.map_cons, List.sum_cons, List.length_cons]
    omega
theorem sumL_one (z : Str) : sumL [z] = z.length + 1 := by simp [sumL]
def sp_pstr (K : PySem.W.Frag) : Sp := fun vs H Q _ => ∃ (p C : Addr) (c : Clz) (so : Str) (ir : Bool) (ss us : List Str) (fs : List (Str × V)), vs = [.ref p] ∧ Ri K c C so ir ∧ PartAt K C H p ss us fs ∧ sumL ss ≤ 1000000 ∧ ∀ H', Same H H' → Q (.str (Txt.join ("\n" : Str) ss)) H'
def sp_not (K : PySem.W.Frag) (c : Clz) (IR : Addr) : Sp := fun vs H Q E => ∃ (x dx : Addr) (n : V) (t : Value) (b : Bool), vs = [.ref x, n] ∧ H x = some (.ins c.not dx []) ∧ TyX K H n t ∧ PySem.W.kitOne K t (.ref c.test) = some b ∧
  (b = true → ∃ (q : Addr) (u : Tst), n = .ref q ∧ TstAt K c H q u ∧ u.txt.length ≤ 1000 ∧ ∀ H', (∀ b o, b ≠ x → H b = some o → H' b = some o) → TstAt K c H' x (.not u) → Q .non H') ∧ (b = false → Refd E IR H "test")
def sp_make (K : PySem.W.Frag) (c : Clz) (IR : Addr) : Sp := fun vs H Q E => ∃ (x dx : Addr) (n : V) (t : Value) (b : Bool), vs = [.ref x, n] ∧ H x = some (.ins c.make dx []) ∧ TyX K H n t ∧ PySem.W.kitOne K t (.ref c.change) = some b ∧
  (b = true → ∃ (q : Addr) (m : Mt), n = .ref q ∧ ChAt c.change H q m.a m.b m.c m.d ∧ m.In 40 ∧ ∀ H', (∀ b o, b ≠ x → H b = some o → H' b = some o) → RowAt K c H' x (.make m) → Q .non H') ∧ (b = false → Refd E IR H "change")
/-- what the classes of tests must have for texts -/
structure Ht (P : Program) (w : World) (K : PySem.W.Frag) (mg : Str → Option Value) (base : Heap) (c : Clz) : Prop where
  str : ∀ t : Tst, MtC P w K mg base CX0 1 (t.cls c) "__str__" ["self"] (sp_pstr K)
  fm : ∀ t : Tst, FmC K (t.cls c)
section
variable {K : PySem.W.Frag} {c : Clz} {C D x dx p : Addr} {H H' : Hp} {ss us : List Str} {fs : List (Str × V)}
/-- all but a new object without fields stays -/
theorem sqT_nx (hx : H x = some (.ins C dx [])) (kp : ∀ b o, b ≠ x → H b = some o → H' b = some o) {q : Addr} {xs : List V} (h : SqT K H q xs) : SqT K H' q xs := h.elim (fun q' => .inl (q'.elim (fun q' => .inl (kp _ _ (fun e => by rw [e, hx] at q'; cases q') q')) fun ⟨o, q'⟩ => .inr ⟨o, kp _ _ (fun e => by rw [e, hx] at q'; cases q') q'⟩)) .inr
theorem part_ne (hx : H x = some (.ins C dx [])) (h : PartAt K D H p ss us fs) : p ≠ x := fun e => by
  obtain ⟨d, a, u, h1, h2, h3, _⟩ := h
  rw [e, hx] at h1
  injection Option.some.inj h1 with _ _ e3
  rw [← e3] at h3
  cases h3
theorem part_nx (hx : H x = some (.ins C dx [])) (kp : ∀ b o, b ≠ x → H b = some o → H' b = some o) (h : PartAt K D H p ss us fs) : PartAt K D H' p ss us fs := by
  have ne := part_ne hx h
  obtain ⟨d, a, u, h1, h2, h3, h4, h5, h6, h7⟩ := h
  exact ⟨d, a, u, kp _ _ ne h1, h2, h3, sqT_nx hx kp h4, h5, sqT_nx hx kp h6, h7⟩
theorem ChAt.nx {CC : Addr} {i j m n : Int} (hx : H x = some (.ins C dx [])) (kp : ∀ b o, b ≠ x → H b = some o → H' b = some o) (h : ChAt CC H p i j m n) : ChAt CC H' p i j m n := by
  obtain ⟨dq, a, g1, g2⟩ := h
  have nq : p ≠ x := fun e => by
    rw [e, hx] at g1
    injection Option.some.inj g1 with _ _ e3
    have e4 := cf1 a (i * n - j * m)
    rw [← e3] at e4
    cases e4
  exact ⟨dq, a, kp _ _ nq g1, kp _ _ (fun e => by rw [e, hx] at g2; cases g2) g2⟩
theorem TstAt.nx (hx : H x = some (.ins C dx [])) (kp : ∀ b o, b ≠ x → H b = some o → H' b = some o) : ∀ {t : Tst} {p : Addr}, TstAt K c H p t → TstAt K c H' p t
  | .holds n k, _, ⟨fs, h, r⟩ => ⟨fs, part_nx hx kp h, r⟩
  | .not t, _, ⟨fs, q, h, e, r⟩ => ⟨fs, q, part_nx hx kp h, e, TstAt.nx hx kp r⟩
  | .longer, _, ⟨fs, h⟩ => ⟨fs, part_nx hx kp h⟩
  | .shorter, _, ⟨fs, h⟩ => ⟨fs, part_nx hx kp h⟩
  | .alike, _, ⟨fs, h⟩ => ⟨fs, part_nx hx kp h⟩
mutual
theorem RowAt.nx (hx : H x = some (.ins C dx [])) (kp : ∀ b o, b ≠ x → H b = some o → H' b = some o) : ∀ {r : Rw1} {p : Addr}, RowAt K c H p r → RowAt K c H' p r
  | .make m, _, ⟨fs, q, h, e, ch⟩ => ⟨fs, q, part_nx hx kp h, e, ChAt.nx hx kp ch⟩
  | .exch, _, ⟨fs, h⟩ => ⟨fs, part_nx hx kp h⟩
  | .lay, _, ⟨fs, h⟩ => ⟨fs, part_nx hx kp h⟩
  | .put n k, _, ⟨fs, h, r⟩ => ⟨fs, part_nx hx kp h, r⟩
  | .add n k, _, ⟨fs, h, r⟩ => ⟨fs, part_nx hx kp h, r⟩
  | .tell m, _, ⟨fs, h, r⟩ => ⟨fs, part_nx hx kp h, r⟩
  | .stop, _, ⟨fs, h⟩ => ⟨fs, part_nx hx kp h⟩
  | .ifb t r o, _, ⟨fs, q, a, b, xs, ys, h, e1, ht, e2, h2, hr, e3, h3, ho⟩ => ⟨fs, q, a, b, xs, ys, part_nx hx kp h, e1, ht.nx hx kp, e2, sqT_nx hx kp h2, RowsAt.nx hx kp hr, e3, sqT_nx hx kp h3, RowsAt.nx hx kp ho⟩
  | .untl g r, _, ⟨fs, a, xs, h, e1, e2, h2, hr⟩ => ⟨fs, a, xs, part_nx hx kp h, e1, e2, sqT_nx hx kp h2, RowsAt.nx hx kp hr⟩
theorem RowsAt.nx (hx : H x = some (.ins C dx [])) (kp : ∀ b o, b ≠ x → H b = some o → H' b = some o) : ∀ {rs : List Rw1} {vs : List V}, RowsAt K c H vs rs → RowsAt K c H' vs rs
  | [], [], _ => trivial
  | r :: rs, v :: vs, ⟨⟨p, e, h⟩, t⟩ => ⟨⟨p, e, RowAt.nx hx kp h⟩, RowsAt.nx hx kp t⟩
end
end
theorem tx_len {m : Mt} (h : m.In 40) : (tx m).length ≤ 60 := by
  have la := st_len h.a0 h.a1
  have lb := st_len h.b0 h.b1
  have lc := st_len h.c0 h.c1
  have ld := st_len h.d0 h.d1
  unfold tx
  rw [join_cons2, join_cons2, join_cons2, Pg.join_one]
  simp only [app_len, l_sp]
  omega
end Pg
open Pg
section
variable {P : Program} {w : World} {K : PySem.W.Frag} {mg : Str → Option Value} {base : Heap}
theorem ok_pstr {f : Addr} {fd : FuncData} (F : Fun K "__str__" "Part.__str__" S_Part__str_ f fd) (T : Txt K mg) : FnOk P w K mg base CX0 1 f fd ["self"] (sp_pstr K) := by
  refine F.ok SC_Part__str_ (fun vs H Q E h => ?_) (fun cdv A outer s H vs Q E hr h => ?_)
  · obtain ⟨p, C, c, so, ir, ss, us, fs, rfl, _⟩ := h
    rfl
  · obtain ⟨p, C, c, so, ir, ss, us, fs, rfl, ri, ⟨dx, a, u, h1, h2, h3, h4, h5, h6, h7⟩, sz, k⟩ := h
    refine ⟨_, (pss_one (ps_ret (pe_join pe_str (pe_fld (pv 0) rfl)))), ?_⟩
    refine ⟨⟨_, rfl⟩, _, rfl, p, C, dx, fs, _, rfl, h1, ri.ins.cl, ri.no _ (.head _), h3, ("\n" : Str), a, ss, rfl, rfl, .inr h4, ?_, k H (Same.refl H)⟩
    rw [show ("\n" : Str).length = 1 by decide +kernel, Nat.mul_one]
    have e := sumL_eq ss
    omega
theorem ok_notinit {f IR : Addr} {fd : FuncData} {c : Clz} (F : FunS P K mg "__init__" "Not.__init__" S_Not__init_ c.not [] f fd) (T : Txt K mg) (Hc : Hi K mg c) (Hs : Ht P w K mg base c) (C_ndtest : FnC P w K mg base (L2.CX P w) 4 "need_test" ["value"] (sp_ndtest K c IR)) (M_pinit : SupC P w K mg base 2 c.not "__init__" ["self", "script", "used"] (sp_pinit K c) []) : FnOk P w K mg base (L2.CX P w) 6 f fd ["self", "test"] (sp_not K c IR) := by
  refine F.ok SC_Not__init_ (fun vs H Q E h => ?_) (fun cda cc fd' oc od osl A outer s H vs Q E hpar lk SK hr h => ?_)
  · obtain ⟨x, dx, n, t, b, rfl, _⟩ := h
    rfl
  · obtain ⟨x, dx, n, t, b, rfl, hx, ty, kt, ok, bad⟩ := h
    refine ⟨_, (pat_cons (ps_expr (pe_callSC C_ndtest (hr.mono (by decide)) (takes_of rfl rfl rfl rfl) rfl (pa_cons (pv 1) pa_nil)))
      (pat_superC M_pinit SK lk hpar (hr.mono (by decide)) (pa_cons (pe_lstN (pa_cons (pe_joined (PJ.cons pe_str (PJ.cons (pe_ex (fun (u : Tst) (_ : True) => pe_fmtO (Hs.str u) (Hs.fm u) (hr.mono (by decide)) (pv 1))) PJ.nil))) pa_nil)) (pa_cons (pe_fld (pv 1) rfl) pa_nil)) (pss_one (ps_fld (pv 0) (pv 1) rfl)))), ?_⟩
    refine ⟨_, rfl, n, t, b, rfl, ty, kt, fun hb H1 s1 => ?_, fun hb => bad hb⟩
    obtain ⟨q, u, rfl, hq, lu, ok⟩ := ok hb
    have hq1 := hq.tk (TK.same s1)
    obtain ⟨fs, pq⟩ := hq1.part
    obtain ⟨dq, a, b', g1, g2, g3, g4, g5, g6, g7⟩ := id pq
    refine ⟨x, dx, [], rfl, s1 _ _ hx, ?_⟩
    refine ⟨_, rfl, by decide +kernel, u, trivial, _, rfl, q, dq, fs, rfl, g1, q, _, c, _, _, _, _, fs, rfl, Hc.t u, pq, by rw [sumL_one]; omega, fun H2 s2 => ⟨_, rfl, _, rfl, ?_, ?_⟩⟩
    · show (Str.empty ++ ("not " : Str) ++ u.txt).length ≤ sizeLine
      (refine szl ?_; simp only [app_len, l_e, l_put, l_add, l_sp, l_tell, l_is, l_make, l_not, l_if, l_until, l_end, l_else]; omega)
    rw [app_e, Pg.join_one]
    refine ⟨by show 1 ≤ 1000000; decide, fun L H3 n3 s3 h3 => ?_⟩
    have s13 := s1.trans (s2.trans s3)
    refine ⟨_, rfl, q, _, dq, fs, _, rfl, s3 _ _ (s2 _ _ g1), (Hc.t u).ins.cl, (Hc.t u).no _ (.tail _ (.head _)), g5, ?_⟩
    refine ⟨x, dx, L, b', c.not, [], [("not " : Str) ++ u.txt], u.uses, "not", false, rfl, s13 _ _ hx, Nat.zero_le _, Hc.not, .inl (SqL.of h3), .inr (sqT_tk (TK.same (s2.trans s3)) g6), fun s' u' H5 kp hx5 hs hu => ?_⟩
    refine ⟨_, rfl, _, rfl, x, c.not, dx, _, rfl, hx5, Hc.not.ins.cl, Hc.not.no "test" (by simp [fnames]), Nat.le_of_ble_eq_true rfl, ?_⟩
    have hq6 := (hq1.tk (TK.same (s2.trans s3))).nx (H' := upd H5 x (.ins c.not dx (putF "test" (.ref q) (putF "used" (.ref u') (putF "script" (.ref s') []))))) (s13 _ _ hx) (fun b o n e => by rw [upd_ne n]; exact kp b o n e)
    refine ok _ (fun b o n e => by rw [upd_ne n]; exact kp b o n (s13 _ _ e)) ⟨_, q, ⟨dx, s', u', upd_same, Nat.le_of_ble_eq_true rfl, by ((repeat (rw [lookup_putF]; first | rw [if_pos rfl] | rw [if_neg (by decide +kernel)])); try rfl), sqT_ins hx5 hs, by ((repeat (rw [lookup_putF]; first | rw [if_pos rfl] | rw [if_neg (by decide +kernel)])); try rfl), sqT_ins hx5 hu, by ((repeat (rw [lookup_putF]; first | rw [if_pos rfl] | rw [if_neg (by decide +kernel)])); try rfl), by ((repeat (rw [lookup_putF]; first | rw [if_pos rfl] | rw [if_neg (by decide +kernel)])); try rfl), by ((repeat (rw [lookup_putF]; first | rw [if_pos rfl] | rw [if_neg (by decide +kernel)])); try rfl)⟩, by ((repeat (rw [lookup_putF]; first | rw [if_pos rfl] | rw [if_neg (by decide +kernel)])); try rfl), hq6⟩
theorem ok_makeinit {f IR : Addr} {fd : FuncData} {c : Clz} (F : FunS P K mg "__init__" "Make.__init__" S_Make__init_ c.make [] f fd) (T : Txt K mg) (Hc : Hi K mg c) (Rc : ChT K mg c.change) (M_chstr : MtC P w K mg base CX0 1 c.change "__str__" ["self"] (sp_chstr c.change)) (Fc : FmC K c.change) (E_InvalidRow : Er1 P w K mg base "InvalidRow" IR "part" "part") {eT : Addr} (M_pinit : SupC P w K mg base 2 c.make "__init__" ["self", "script", "used"] (sp_pinit K c) [.ref eT]) (hE : ∀ H, SqT K H eT []) : FnOk P w K mg base (L2.CX P w) 6 f fd ["self", "change"] (sp_make K c IR) := by
  refine F.ok SC_Make__init_ (fun vs H Q E h => ?_) (fun cda cc fd' oc od osl A outer s H vs Q E hpar lk SK hr h => ?_)
  · obtain ⟨x, dx, n, t, b, rfl, _⟩ := h
    rfl
  · obtain ⟨x, dx, n, t, b, rfl, hx, ty, kt, ok, bad⟩ := h
    refine ⟨_, (pat_cons (ps_if (pt_not (pt_val (pe_callB call_isi (by rfl) T.b_isinstance (by decide +kernel) (pa_cons (pv 1) (pa_cons (pe_glob (v := .ref c.change) (by rfl) Rc.mgC rfl) pa_nil))))) (pss_one (ps_raise1 E_InvalidRow (hr.mono (by decide)) rfl (takes_of rfl rfl rfl rfl) rfl (pa_cons pe_str pa_nil))) pss_nil)
      (pat_superC M_pinit SK lk hpar (hr.mono (by decide)) (pa_cons (pe_lstN (pa_cons (pe_joined (PJ.cons pe_str (PJ.cons (pe_fmtO M_chstr Fc (hr.mono (by decide)) (pv 1)) PJ.nil))) pa_nil)) pa_nil) (pss_one (ps_fld (pv 0) (pv 1) rfl)))), ?_⟩
    refine ⟨_, rfl, n, _, t, _, b, rfl, .own _, ty, kt, _, rfl, ?_⟩
    cases b with
    | false => exact ifT rfl (mk_err1H fun dd hd => bad rfl dd H (Same.refl H) hd)
    | true =>
      refine ifF rfl ?_
      obtain ⟨q, m, rfl, hq, im, ok⟩ := ok rfl
      obtain ⟨dq, a, g1, g2⟩ := id hq
      refine ⟨x, dx, [], rfl, hx, ?_⟩
      refine ⟨_, rfl, by decide +kernel, _, rfl, q, dq, _, rfl, g1, q, m, rfl, hq, im, fun H2 s2 => ⟨_, rfl, _, rfl, ?_, ?_⟩⟩
      · show (Str.empty ++ ("make " : Str) ++ tx m).length ≤ sizeLine
        have := tx_len im
        (refine szl ?_; simp only [app_len, l_e, l_put, l_add, l_sp, l_tell, l_is, l_make, l_not, l_if, l_until, l_end, l_else]; omega)
      rw [app_e]
      refine ⟨by show 1 ≤ 1000000; decide, fun L H3 n3 s3 h3 => ?_⟩
      have s13 := s2.trans s3
      refine ⟨x, dx, L, eT, c.make, [], [("make " : Str) ++ tx m], [], "make", true, rfl, s13 _ _ hx, Nat.zero_le _, Hc.make, .inl (SqL.of h3), .inr (hE _), fun s' u' H5 kp hx5 hs hu => ?_⟩
      refine ⟨_, rfl, _, rfl, x, c.make, dx, _, rfl, hx5, Hc.make.ins.cl, Hc.make.no "change" (by simp [fnames]), Nat.le_of_ble_eq_true rfl, ?_⟩
      have hq6 := ChAt.nx (p := q) (H' := upd H5 x (.ins c.make dx (putF "change" (.ref q) (putF "used" (.ref u') (putF "script" (.ref s') []))))) (s13 _ _ hx) (fun b o n e => by rw [upd_ne n]; exact kp b o n e) (hq.same s13)
      refine ok _ (fun b o n e => by rw [upd_ne n]; exact kp b o n (s13 _ _ e)) ⟨_, q, ⟨dx, s', u', upd_same, Nat.le_of_ble_eq_true rfl, by ((repeat (rw [lookup_putF]; first | rw [if_pos rfl] | rw [if_neg (by decide +kernel)])); try rfl), sqT_ins hx5 hs, by ((repeat (rw [lookup_putF]; first | rw [if_pos rfl] | rw [if_neg (by decide +kernel)])); try rfl), sqT_ins hx5 hu, by ((repeat (rw [lookup_putF]; first | rw [if_pos rfl] | rw [if_neg (by decide +kernel)])); try rfl), by ((repeat (rw [lookup_putF]; first | rw [if_pos rfl] | rw [if_neg (by decide +kernel)])); try rfl), by ((repeat (rw [lookup_putF]; first | rw [if_pos rfl] | rw [if_neg (by decide +kernel)])); try rfl)⟩, by ((repeat (rw [lookup_putF]; first | rw [if_pos rfl] | rw [if_neg (by decide +kernel)])); try rfl), hq6⟩
end

/-! ## the lines of rows -/
namespace Pg
theorem for_seqB {K : PySem.W.Frag} {p : Addr} {xs : List V} {g : TG} {tb : TS} {D : Ends} {σ : L2.St} {i : Nat} {H H0 : Hp} (hσ : σ[i]? = some (some (.ref p))) (h : SqA K H0 p xs) (Pv : Nat → L2.St → Hp → Prop) (h0 : Pv 0 σ H) (hk : ∀ j σ' H', j ≤ xs.length → Pv j σ' H' → ∀ o, H0 p = some o → H' p = some o)
    (hs : ∀ j x σ' H', xs[j]? = some x → Pv j σ' H' → g x σ' H' fun σ2 H2 => tb { D with nx := Pv (j + 1), ct := Pv (j + 1), bk := D.nx } σ2 H2) (hd : ∀ σ' H', Pv xs.length σ' H' → D.nx σ' H') : tFor (iSeq K (tVar i)) g tb D σ H := by
  refine ⟨_, hσ, p, rfl, ?_⟩
  rcases h with h | h
  · exact .inl ⟨⟨_, sqL_at (hk 0 σ H (Nat.zero_le _) h0) h⟩, for_list Pv h0 (fun j σ' H' hj q => sqL_at (hk j σ' H' hj q) h) hs hd⟩
  · exact .inr ⟨⟨_, sqT_at (hk 0 σ H (Nat.zero_le _) h0) h⟩, for_tup Pv h0 (fun j σ' H' hj q => sqT_at (hk j σ' H' hj q) h) hs hd⟩
def sp_lines (K : PySem.W.Frag) (c : Clz) : Sp := fun vs H Q _ => ∃ (p : Addr) (xs : List V) (rs : List Rw1), vs = [.ref p] ∧ SqA K H p xs ∧ RowsAt K c H xs rs ∧ (linesL rs).length ≤ 1000000 ∧ ∀ l H', Same H H' → H l = none → H' l = some (.lst ((linesL rs).map V.str)) → Q (.ref l) H'
theorem linesL_take {rs : List Rw1} {i : Nat} {r : Rw1} (h : rs[i]? = some r) : linesL (rs.take (i + 1)) = linesL (rs.take i) ++ r.lines := by
  rw [List.take_succ, h, linesL_app]
  show linesL (rs.take i) ++ (r.lines ++ []) = _
  rw [List.append_nil]
theorem linesL_le {rs : List Rw1} (i : Nat) : (linesL (rs.take i)).length ≤ (linesL rs).length := by
  have e := linesL_app (rs.take i) (rs.drop i)
  rw [List.take_append_drop] at e
  rw [e, List.length_append]
  omega
end Pg
open Pg
section
variable {P : Program} {w : World} {K : PySem.W.Frag} {mg : Str → Option Value} {base : Heap}
theorem ok_linesof {f : Addr} {fd : FuncData} {c : Clz} (F : Fun K "lines_of" "lines_of" S_lines_of f fd) (T : Txt K mg) (Hc : Hi K mg c) : FnOk P w K mg base CX0 2 f fd ["rows"] (sp_lines K c) := by
  refine F.ok SC_lines_of (fun vs H Q E h => ?_) (fun cdv A outer s H vs Q E hr h => ?_)
  · obtain ⟨p, xs, rs, rfl, _⟩ := h
    rfl
  · obtain ⟨p, xs, rs, rfl, hs, hrs, sz, k⟩ := h
    refine ⟨_, (pss_cons (ps_set (i := 1) SC_lines_of.nd rfl (.inl rfl) (pe_lstN pa_nil))
      (pss_cons (ps_for PassesOwn.never rfl (pi_seq (pv 0)) (pg_name (i := 2) SC_lines_of.nd rfl (.inl rfl)) (pss_one (ps_expr (pe_bm PySem.F.plainAttrs_list PySem.F.slot_list_extend PySem.F.type_list_extend mt_extA (pv 1) (pa_cons (pe_fld (pv 2) rfl) pa_nil)))))
      (pss_one (ps_ret (pv 1))))), ?_⟩
    refine ⟨Nat.zero_le _, fun l H1 n1 s1 h1 => ?_⟩
    refine for_seqB (p := p) (xs := xs) (H0 := H) rfl hs (fun j σ H2 => Same H H2 ∧ H2 l = some (.lst ((linesL (rs.take j)).map V.str)) ∧ ∃ y, σ = [some (.ref p), some (.ref l), y]) ⟨s1, h1, _, rfl⟩ (fun j σ' H2 _ m o e => m.1 _ _ e) (fun j x σ' H2 hj m => ?_) (fun σ' H2 m => ?_)
    · obtain ⟨s2, h2, y, rfl⟩ := m
      obtain ⟨q, r, rfl, hr', hq⟩ := hrs.at hj
      obtain ⟨fs, pq⟩ := (hq.tk (TK.same s2)).part
      obtain ⟨dx, a, u, g1, g2, g3, g4, _⟩ := pq
      have e1 := linesL_take hr'
      have e2 := linesL_le (rs := rs) (j + 1)
      refine ⟨_, rfl, .inl ⟨rfl, _, SqL.of h2⟩, ?_⟩
      refine ⟨_, rfl, q, _, dx, fs, _, rfl, g1, (Hc.r r).ins.cl, (Hc.r r).no _ (.head _), g3, ?_⟩
      refine ⟨l, a, _, _, rfl, rfl, h2, .inr g4, ?_, ?_⟩
      · rw [List.length_map, List.length_map]
        rw [e1, List.length_append] at e2
        exact szl (by omega)
      · refine ⟨fun b o e => by rw [upd_ne (ne_of_none e n1)]; exact s2 _ _ e, ?_, _, rfl⟩
        rw [upd_same, e1, List.map_append]
    · obtain ⟨s2, h2, y, rfl⟩ := m
      rw [hrs.len, List.take_length] at h2
      exact ⟨_, rfl, k l H2 s2 n1 h2⟩
end

/-! ## the rows within rows -/
namespace Pg
section
variable {K : PySem.W.Frag} {c : Clz} {H H' : Hp}
theorem Ri.so_eq {C : Addr} {a a' : Str} {b b' : Bool} (h : Ri K c C a b) (h' : Ri K c C a' b') : a = a' := by
  obtain ⟨u, h1⟩ := h.so
  obtain ⟨u', h2⟩ := h'.so
  have e := h1.at_
  rw [h2.at_] at e
  cases e
  obtain ⟨t, e1⟩ := h1.rel
  obtain ⟨t', e2⟩ := h2.rel
  rw [e1] at e2
  injection e2
theorem RowsAt.app : ∀ {xs ys : List V} {rs ss : List Rw1}, RowsAt K c H xs rs → RowsAt K c H ys ss → RowsAt K c H (xs ++ ys) (rs ++ ss)
  | [], _, [], _, _, h => h
  | _ :: _, _, _ :: _, _, ⟨a, t⟩, h => ⟨a, RowsAt.app t h⟩
end
theorem innerL_app : ∀ a b : List Rw1, innerL (a ++ b) = innerL a ++ innerL b
  | [], _ => rfl
  | r :: a, b => by
    show r.inner ++ innerL (a ++ b) = _
    rw [innerL_app a b, ← List.append_assoc]; rfl
theorem innerL_take {rs : List Rw1} {i : Nat} {r : Rw1} (h : rs[i]? = some r) : innerL (rs.take (i + 1)) = innerL (rs.take i) ++ r.inner := by
  rw [List.take_succ, h, innerL_app]
  show innerL (rs.take i) ++ (r.inner ++ []) = _
  rw [List.append_nil]
theorem innerL_le {rs : List Rw1} (i : Nat) : (innerL (rs.take i)).length ≤ (innerL rs).length := by
  have e := innerL_app (rs.take i) (rs.drop i)
  rw [List.take_append_drop] at e
  rw [e, List.length_append]
  omega
def sp_rowinner (K : PySem.W.Frag) (c : Clz) : Sp := fun vs H Q _ => ∃ (p : Addr) (r : Rw1), vs = [.ref p] ∧ RowAt K c H p r ∧ r.inner = [r] ∧ ∀ l H', Same H H' → H l = none → H' l = some (.lst [.ref p]) → Q (.ref l) H'
def sp_inner (K : PySem.W.Frag) (c : Clz) (d : Nat) (C : Addr) : Sp := fun vs H Q _ => ∃ (p : Addr) (r : Rw1), vs = [.ref p] ∧ RowAt K c H p r ∧ r.cls c = C ∧ r.deep ≤ d ∧ r.inner.length ≤ 1000000 ∧ ∀ l H' ws, Same H H' → H l = none → H' l = some (.lst ws) → RowsAt K c H' ws r.inner → Q (.ref l) H'
def sp_irows (K : PySem.W.Frag) (c : Clz) (d : Nat) : Sp := fun vs H Q _ => ∃ (p : Addr) (xs : List V) (rs : List Rw1), vs = [.ref p] ∧ SqA K H p xs ∧ RowsAt K c H xs rs ∧ deepL rs ≤ d ∧ (innerL rs).length ≤ 1000000 ∧ ∀ l H' ws, Same H H' → H l = none → H' l = some (.lst ws) → RowsAt K c H' ws (innerL rs) → Q (.ref l) H'
end Pg
open Pg
section
variable {P : Program} {w : World} {K : PySem.W.Frag} {mg : Str → Option Value} {base : Heap}
theorem ok_rowinner {f : Addr} {fd : FuncData} {c : Clz} (F : Fun K "inner" "Row.inner" S_Row_inner f fd) (T : Txt K mg) : FnOk P w K mg base CX0 1 f fd ["self"] (sp_rowinner K c) := by
  refine F.ok SC_Row_inner (fun vs H Q E h => ?_) (fun cdv A outer s H vs Q E hr h => ?_)
  · obtain ⟨p, r, rfl, _⟩ := h
    rfl
  · obtain ⟨p, r, rfl, hp, _, k⟩ := h
    refine ⟨_, (pss_one (ps_ret (pe_lstN (pa_cons (pv 0) pa_nil)))), ?_⟩
    refine ⟨_, rfl, Nat.succ_le_succ (Nat.zero_le _), fun l H1 n1 s1 h1 => ?_⟩
    exact k l H1 s1 n1 h1
theorem ok_irows {f : Addr} {fd : FuncData} {c : Clz} {d : Nat} (F : Fun K "inner_rows" "inner_rows" S_inner_rows f fd) (T : Txt K mg) (Hc : Hi K mg c) (M_inner : ∀ u : Rw1, MtC P w K mg base CX0 (2 * d + 1) (u.cls c) "inner" ["self"] (sp_inner K c d (u.cls c))) : FnOk P w K mg base CX0 (2 * d + 2) f fd ["rows"] (sp_irows K c d) := by
  refine F.ok SC_inner_rows (fun vs H Q E h => ?_) (fun cdv A outer s H vs Q E hr h => ?_)
  · obtain ⟨p, xs, rs, rfl, _⟩ := h
    rfl
  · obtain ⟨p, xs, rs, rfl, hs, hrs, dp, sz, k⟩ := h
    refine ⟨_, (pss_cons (ps_set (i := 1) SC_inner_rows.nd rfl (.inl rfl) (pe_lstN pa_nil))
      (pss_cons (ps_for PassesOwn.never rfl (pi_seq (pv 0)) (pg_name (i := 2) SC_inner_rows.nd rfl (.inl rfl)) (pss_one (ps_expr (pe_bm PySem.F.plainAttrs_list PySem.F.slot_list_extend PySem.F.type_list_extend mt_extend (pv 1) (pa_cons (pe_ex (fun (u : Rw1) (_ : True) => pe_mth0 (M_inner u) (Hc.r u).ins.cl (hr.mono (by omega)) (pv 2))) pa_nil)))))
      (pss_one (ps_ret (pv 1))))), ?_⟩
    refine ⟨Nat.zero_le _, fun l H1 n1 s1 h1 => ?_⟩
    refine for_seqB (p := p) (xs := xs) (H0 := H) rfl hs (fun j σ H2 => Same H H2 ∧ (∃ ws, H2 l = some (.lst ws) ∧ RowsAt K c H2 ws (innerL (rs.take j))) ∧ ∃ y, σ = [some (.ref p), some (.ref l), y]) ⟨s1, ⟨_, h1, trivial⟩, _, rfl⟩ (fun j σ' H2 _ m o e => m.1 _ _ e) (fun j x σ' H2 hj m => ?_) (fun σ' H2 m => ?_)
    · obtain ⟨s2, ⟨ws, h2, hw⟩, y, rfl⟩ := m
      obtain ⟨q, r, rfl, hr', hq⟩ := hrs.at hj
      have hq2 := hq.tk (TK.same s2)
      obtain ⟨fs, dx, a, u, g1, g2, g3, g4, g5, g6, g7, g8, g9⟩ := hq2.part
      have e1 := innerL_take hr'
      have e2 := innerL_le (rs := rs) (j + 1)
      have ew := hw.len
      rw [e1, List.length_append] at e2
      refine ⟨_, rfl, .inl ⟨rfl, _, SqL.of h2⟩, ?_⟩
      refine ⟨r, trivial, _, rfl, q, dx, fs, rfl, g1, g8, ?_⟩
      refine ⟨q, r, rfl, hq2, rfl, Nat.le_trans (deepL_mem (List.mem_of_getElem? hr')) dp, by omega, fun l3 H3 ws3 s3 n3 h3 hw3 => ?_⟩
      have ew3 := hw3.len
      refine ⟨l, l3, _, _, rfl, rfl, s3 _ _ h2, h3, szl (by omega), ?_⟩
      have tk : TK H2 (upd H3 l (.lst (ws ++ ws3))) := fun b o t e => by
        have : b ≠ l := fun eb => by rw [eb, h2] at e; cases e; cases t
        rw [upd_ne this]
        exact s3 _ _ e
      have tk3 : TK H3 (upd H3 l (.lst (ws ++ ws3))) := fun b o t e => by
        have : b ≠ l := fun eb => by rw [eb, s3 _ _ h2] at e; cases e; cases t
        rw [upd_ne this]
        exact e
      refine ⟨fun b o e => by rw [upd_ne (ne_of_none e n1)]; exact s3 _ _ (s2 _ _ e), ⟨_, upd_same, ?_⟩, _, rfl⟩
      rw [e1]
      exact (hw.tk tk).app (hw3.tk tk3)
    · obtain ⟨s2, ⟨ws, h2, hw⟩, y, rfl⟩ := m
      rw [hrs.len, List.take_length] at hw
      exact ⟨_, rfl, k l H2 ws s2 n1 h2 hw⟩
theorem ok_ifinner {f : Addr} {fd : FuncData} {c : Clz} {d : Nat} (F : Fun K "inner" "If.inner" S_If_inner f fd) (T : Txt K mg) (Hc : Hi K mg c) (C_irows : FnC P w K mg base CX0 (2 * d + 2) "inner_rows" ["rows"] (sp_irows K c d)) : FnOk P w K mg base CX0 (2 * (d + 1) + 1) f fd ["self"] (sp_inner K c (d + 1) c.ifb) := by
  refine F.ok SC_If_inner (fun vs H Q E h => ?_) (fun cdv A outer s H vs Q E hr h => ?_)
  · obtain ⟨p, r, rfl, _⟩ := h
    rfl
  · obtain ⟨p, r, rfl, hp, ec, dp, sz, k⟩ := h
    refine ⟨_, (pss_one (ps_ret (pe_lst (pa_cons (pv 0) (StX.pa_star (pe_callC C_irows (hr.mono (by omega)) rfl (pa_cons (pe_fld (pv 0) rfl) pa_nil)) (StX.pa_star (pe_callC C_irows (hr.mono (by omega)) rfl (pa_cons (pe_fld (pv 0) rfl) pa_nil)) pa_nil)))))), ?_⟩
    cases r with
    | ifb t r o =>
      obtain ⟨fs, q, a, b, xs, ys, pq, e1, ht, e2, h2, hr2, e3, h3, ho⟩ := hp
      obtain ⟨dx, a', u, g1, g2, g3, g4, g5, g6, g7, g8, g9⟩ := id pq
      have dp : max (deepL r) (deepL o) + 1 ≤ d + 1 := dp
      have ei : (Rw1.ifb t r o).inner = .ifb t r o :: (innerL r ++ innerL o) := rfl
      rw [ei, List.length_cons, List.length_append] at sz
      refine ⟨_, rfl, _, rfl, p, _, dx, fs, _, rfl, g1, Hc.ifb.ins.cl, Hc.ifb.no "rows" (by simp [fnames]), e2, ?_⟩
      refine ⟨a, xs, r, rfl, .inr h2, hr2, by omega, by omega, fun l1 H1 ws1 s1 n1 h1 hw1 => ?_⟩
      refine ⟨l1, ws1, rfl, .inr (SqL.of h1), ?_⟩
      refine ⟨_, rfl, p, _, dx, fs, _, rfl, s1 _ _ g1, Hc.ifb.ins.cl, Hc.ifb.no "others" (by simp [fnames]), e3, ?_⟩
      refine ⟨b, ys, o, rfl, .inr (sqT_tk (TK.same s1) h3), ho.tk (TK.same s1), by omega, by omega, fun l2 H2 ws2 s2 n2 h2' hw2 => ?_⟩
      refine ⟨l2, ws2, rfl, .inr (SqL.of h2'), ?_⟩
      have l1' := hw1.len
      have l2' := hw2.len
      refine ⟨szl ?_, fun l3 n3 => ?_⟩
      · simp only [List.length_cons, List.length_append, List.length_nil]
        omega
      have s3 := sm_new (o := .lst (V.ref p :: (ws1 ++ (ws2 ++ [])))) n3
      have s03 := s1.trans (s2.trans s3)
      refine k l3 _ _ s03 (s1.free (s2.free n3)) upd_same ?_
      rw [ei]
      generalize upd H2 l3 (.lst (V.ref p :: (ws1 ++ (ws2 ++ [])))) = H3 at s3 s03 ⊢
      rw [List.append_nil]
      exact ⟨⟨p, rfl, RowAt.tk (TK.same s03) (r := .ifb t r o) ⟨fs, q, a, b, xs, ys, pq, e1, ht, e2, h2, hr2, e3, h3, ho⟩⟩, (hw1.tk (TK.same (s2.trans s3))).app (hw2.tk (TK.same s3))⟩
    | _ => exact absurd (Ri.so_eq (Hc.r _) (ec ▸ Hc.ifb)) (by simp only [Rw1.sort]; decide +kernel)
theorem ok_untlinner {f : Addr} {fd : FuncData} {c : Clz} {d : Nat} (F : Fun K "inner" "Until.inner" S_Until_inner f fd) (T : Txt K mg) (Hc : Hi K mg c) (C_irows : FnC P w K mg base CX0 (2 * d + 2) "inner_rows" ["rows"] (sp_irows K c d)) : FnOk P w K mg base CX0 (2 * (d + 1) + 1) f fd ["self"] (sp_inner K c (d + 1) c.untl) := by
  refine F.ok SC_Until_inner (fun vs H Q E h => ?_) (fun cdv A outer s H vs Q E hr h => ?_)
  · obtain ⟨p, r, rfl, _⟩ := h
    rfl
  · obtain ⟨p, r, rfl, hp, ec, dp, sz, k⟩ := h
    refine ⟨_, (pss_one (ps_ret (pe_lst (pa_cons (pv 0) (StX.pa_star (pe_callC C_irows (hr.mono (by omega)) rfl (pa_cons (pe_fld (pv 0) rfl) pa_nil)) pa_nil))))), ?_⟩
    cases r with
    | untl g r =>
      obtain ⟨fs, a, xs, pq, e1, e2, h2, hr2⟩ := hp
      obtain ⟨dx, a', u, g1, g2, g3, g4, g5, g6, g7, g8, g9⟩ := id pq
      have dp : deepL r + 1 ≤ d + 1 := dp
      have ei : (Rw1.untl g r).inner = .untl g r :: innerL r := rfl
      rw [ei, List.length_cons] at sz
      refine ⟨_, rfl, _, rfl, p, _, dx, fs, _, rfl, g1, Hc.untl.ins.cl, Hc.untl.no "rows" (by simp [fnames]), e2, ?_⟩
      refine ⟨a, xs, r, rfl, .inr h2, hr2, by omega, by omega, fun l1 H1 ws1 s1 n1 h1 hw1 => ?_⟩
      refine ⟨l1, ws1, rfl, .inr (SqL.of h1), ?_⟩
      have l1' := hw1.len
      refine ⟨szl ?_, fun l3 n3 => ?_⟩
      · simp only [List.length_cons, List.length_append, List.length_nil]
        omega
      have s3 := sm_new (o := .lst (V.ref p :: (ws1 ++ []))) n3
      have s03 := s1.trans s3
      refine k l3 _ _ s03 (s1.free n3) upd_same ?_
      rw [ei]
      generalize upd H1 l3 (.lst (V.ref p :: (ws1 ++ []))) = H3 at s3 s03 ⊢
      rw [List.append_nil]
      exact ⟨⟨p, rfl, RowAt.tk (TK.same s03) (r := .untl g r) ⟨fs, a, xs, pq, e1, e2, h2, hr2⟩⟩, hw1.tk (TK.same s3)⟩
    | _ => exact absurd (Ri.so_eq (Hc.r _) (ec ▸ Hc.untl)) (by simp only [Rw1.sort]; decide +kernel)
end
namespace Pg
def Rw1.plain : Rw1 → Bool
  | .ifb _ _ _ => false
  | .untl _ _ => false
  | _ => true
theorem plain_inner {r u : Rw1} (h : r.sort = u.sort) (hp : u.plain = true) : r.inner = [r] := by
  cases r <;> first | (cases u <;> first | (cases hp; done) | exact absurd h (by simp only [Rw1.sort]; decide +kernel)) | rfl
end Pg
section
variable {P : Program} {w : World} {K : PySem.W.Frag} {mg : Str → Option Value} {base : Heap}
/-- `inner` of rows of any depth -/
theorem inner_all {fR fI fU fW : Addr} {dR dI dU dW : FuncData} {c : Clz} (T : Txt K mg) (Hc : Hi K mg c) (FR : Fun K "inner" "Row.inner" S_Row_inner fR dR) (FI : Fun K "inner" "If.inner" S_If_inner fI dI) (FU : Fun K "inner" "Until.inner" S_Until_inner fU dU) (FW : Fun K "inner_rows" "inner_rows" S_inner_rows fW dW)
    (pkR : ∀ u : Rw1, u.plain = true → ∀ {k : Nat} {sp : Sp}, FnOk P w K mg base CX0 k fR dR ["self"] sp → MtC P w K mg base CX0 k (u.cls c) "inner" ["self"] sp) (pkI : ∀ {k : Nat} {sp : Sp}, FnOk P w K mg base CX0 k fI dI ["self"] sp → MtC P w K mg base CX0 k c.ifb "inner" ["self"] sp) (pkU : ∀ {k : Nat} {sp : Sp}, FnOk P w K mg base CX0 k fU dU ["self"] sp → MtC P w K mg base CX0 k c.untl "inner" ["self"] sp)
    (pkW : ∀ {k : Nat} {sp : Sp}, FnOk P w K mg base CX0 k fW dW ["rows"] sp → FnC P w K mg base CX0 k "inner_rows" ["rows"] sp) : ∀ (d : Nat) (u : Rw1), MtC P w K mg base CX0 (2 * d + 1) (u.cls c) "inner" ["self"] (sp_inner K c d (u.cls c)) := by
  have pl : ∀ (d : Nat) (u : Rw1), u.plain = true → MtC P w K mg base CX0 (2 * d + 1) (u.cls c) "inner" ["self"] (sp_inner K c d (u.cls c)) := fun d u hu => by
    refine pkR u hu (((ok_rowinner (c := c) FR T).mono (by omega)).imp fun vs H Q E h => ?_)
    obtain ⟨p, r, rfl, hp, ec, dp, sz, k⟩ := h
    have ei := plain_inner (Ri.so_eq (Hc.r r) (ec ▸ Hc.r u)) hu
    exact ⟨p, r, rfl, hp, ei, fun l H' s n h => k l H' _ s n h (by rw [ei]; exact ⟨⟨p, rfl, hp.tk (TK.same s)⟩, trivial⟩)⟩
  intro d
  induction d with
  | zero =>
    intro u
    by_cases hu : u.plain = true
    · exact pl 0 u hu
    · have dead : ∀ {C : Addr} (so : Str), (∀ r : Rw1, r.sort = so → r.deep ≤ 0 → False) → Ri K c C so true → ∀ vs H Q E, sp_inner K c 0 C vs H Q E → False := fun so hd ri vs H Q E h => by
        obtain ⟨p, r, rfl, hp, ec, dp, sz, k⟩ := h
        exact hd r (Ri.so_eq (Hc.r r) (ec ▸ ri)) dp
      cases u with
      | ifb t a b => exact pkI (fn_false.imp (dead "if" (fun r h hd => by cases r <;> first | (exact absurd h (by simp only [Rw1.sort]; decide +kernel)) | (simp [Rw1.deep] at hd)) Hc.ifb))
      | untl g a => exact pkU (fn_false.imp (dead "until" (fun r h hd => by cases r <;> first | (exact absurd h (by simp only [Rw1.sort]; decide +kernel)) | (simp [Rw1.deep] at hd)) Hc.untl))
      | _ => exact absurd rfl hu
  | succ d ih =>
    intro u
    by_cases hu : u.plain = true
    · exact pl (d + 1) u hu
    · have CW := pkW (ok_irows FW T Hc ih)
      cases u with
      | ifb t a b => exact pkI (ok_ifinner FI T Hc CW)
      | untl g a => exact pkU (ok_untlinner FU T Hc CW)
      | _ => exact absurd rfl hu
end

/-! ## rows that lay -/
namespace Pg
def sp_lays (K : PySem.W.Frag) (c : Clz) (d : Nat) (C : Addr) : Sp := fun vs H Q _ => ∃ (p : Addr) (r : Rw1), vs = [.ref p] ∧ RowAt K c H p r ∧ r.cls c = C ∧ r.deep ≤ d ∧ r.inner.length ≤ 1000000 ∧ ∀ H', Same H H' → Q (.bl r.lays) H'
def sp_haslay (K : PySem.W.Frag) (c : Clz) (d : Nat) : Sp := fun vs H Q _ => ∃ (p : Addr) (xs : List V) (rs : List Rw1), vs = [.ref p] ∧ SqA K H p xs ∧ RowsAt K c H xs rs ∧ deepL rs ≤ d ∧ (innerL rs).length ≤ 1000000 ∧ ∀ H', Same H H' → Q (.bl (laysL rs)) H'
def sp_hasmake (K : PySem.W.Frag) (c : Clz) (d : Nat) : Sp := fun vs H Q _ => ∃ (p : Addr) (xs : List V) (rs : List Rw1), vs = [.ref p] ∧ SqA K H p xs ∧ RowsAt K c H xs rs ∧ deepL rs ≤ d ∧ (innerL rs).length ≤ 1000000 ∧ ∀ H', Same H H' → Q (.bl (hasMake rs)) H'
/-- one and the same answer -/
def sp_flat (b : Bool) : Sp := fun vs H Q _ => ∃ (p : Addr), vs = [.ref p] ∧ Q (.bl b) H
theorem lcR_seqB {K : PySem.W.Frag} {p : Addr} {xs : List V} {g : TG} {te : TE} {vs : List Nat} {σ : L2.St} {i : Nat} {H H0 : Hp} {Q : VK} (hσ : σ[i]? = some (some (.ref p))) (h : SqA K H0 p xs) (k0 : ∀ o, H0 p = some o → H p = some o) (M : Addr → Nat → Hp → Prop) (h0 : ∀ D, H D = none → M D 0 (upd H D (.lst [])))
    (hk : ∀ D i H', H D = none → M D i H' → ∀ o, H0 p = some o → H' p = some o) (hm : ∀ x σ H Q Q', (∀ σ2 H2, Q σ2 H2 → Q' σ2 H2) → g x σ H Q → g x σ H Q')
    (hs : ∀ D i x H', H D = none → xs[i]? = some x → M D i H' → g x (wipe σ vs) H' fun σ2 H2 => wipe σ2 vs = wipe σ vs ∧ te σ2 H2 fun y H4 => ∃ acc, H4 D = some (.lst acc) ∧ acc.length < sizeLine ∧ M D (i + 1) (upd H4 D (.lst (acc ++ [y]))))
    (hd : ∀ D H', H D = none → M D xs.length H' → Q (.ref D) H') : tLc (iSeq K (tVar i)) g tYes te vs σ H Q := by
  refine ⟨_, hσ, p, rfl, ?_⟩
  rcases h with h | h
  · exact .inl ⟨⟨_, sqL_at k0 h⟩, fun D hD => lcR_list (M D) (h0 D hD) (fun i H' _ m => sqL_at (hk D i H' hD m) h) (fun i x H' hx m => hs D i x H' hD hx m) hm fun H' m => hd D H' hD m⟩
  · exact .inr ⟨⟨_, sqT_at k0 h⟩, fun D hD => lcR_tupC (M D) (h0 D hD) (fun i H' _ m => sqT_at (hk D i H' hD m) h) (fun i x H' hx m => hs D i x H' hD hx m) hm fun H' m => hd D H' hD m⟩
theorem laysL_any : ∀ rs : List Rw1, laysL rs = (rs.map Rw1.lays).any id
  | [] => rfl
  | r :: rs => by
    show (r.lays || laysL rs) = _
    rw [laysL_any rs]; rfl
theorem call_isiK {X : Cx} {K : PySem.W.Frag} (h : X.K = K) : CallR X (.builtin "isinstance") (rIsi K) := h ▸ call_isi
theorem cls_make {K : PySem.W.Frag} {mg : Str → Option Value} {c : Clz} (Hc : Hi K mg c) (r : Rw1) : decide (r.cls c = c.make) = r.isMake := by
  have no : r.sort ≠ "make" → decide (r.cls c = c.make) = false := fun h => decide_eq_false fun e => h (Ri.so_eq (Hc.r r) (e ▸ Hc.make))
  cases r with
  | make m => exact decide_eq_true rfl
  | _ => exact no (by simp only [Rw1.sort]; decide +kernel)
theorem len_inner : ∀ r : Rw1, 1 ≤ r.inner.length := fun r => by cases r <;> simp [Rw1.inner]
theorem len_innerL : ∀ rs : List Rw1, rs.length ≤ (innerL rs).length
  | [] => Nat.le_refl _
  | r :: rs => by
    have e := len_innerL rs
    have e1 := len_inner r
    show rs.length + 1 ≤ (r.inner ++ innerL rs).length
    rw [List.length_append]
    omega
end Pg
open Pg
section
variable {P : Program} {w : World} {K : PySem.W.Frag} {mg : Str → Option Value} {base : Heap}
theorem ok_rowlays {f : Addr} {fd : FuncData} (F : Fun K "is_laying" "Row.is_laying" S_Row_is_laying f fd) (T : Txt K mg) : FnOk P w K mg base CX0 1 f fd ["self"] (sp_flat false) := by
  refine F.ok SC_Row_is_laying (fun vs H Q E h => ?_) (fun cdv A outer s H vs Q E hr h => ?_)
  · obtain ⟨p, rfl, _⟩ := h
    rfl
  · obtain ⟨p, rfl, k⟩ := h
    exact ⟨_, (pss_one (ps_ret pe_bl)), k⟩
theorem ok_laylays {f : Addr} {fd : FuncData} (F : Fun K "is_laying" "Lay.is_laying" S_Lay_is_laying f fd) (T : Txt K mg) : FnOk P w K mg base CX0 1 f fd ["self"] (sp_flat true) := by
  refine F.ok SC_Lay_is_laying (fun vs H Q E h => ?_) (fun cdv A outer s H vs Q E hr h => ?_)
  · obtain ⟨p, rfl, _⟩ := h
    rfl
  · obtain ⟨p, rfl, k⟩ := h
    exact ⟨_, (pss_one (ps_ret pe_bl)), k⟩
theorem ok_stoplays {f : Addr} {fd : FuncData} (F : Fun K "is_laying" "Stop.is_laying" S_Stop_is_laying f fd) (T : Txt K mg) : FnOk P w K mg base CX0 1 f fd ["self"] (sp_flat true) := by
  refine F.ok SC_Stop_is_laying (fun vs H Q E h => ?_) (fun cdv A outer s H vs Q E hr h => ?_)
  · obtain ⟨p, rfl, _⟩ := h
    rfl
  · obtain ⟨p, rfl, k⟩ := h
    exact ⟨_, (pss_one (ps_ret pe_bl)), k⟩
theorem ok_untllays {f : Addr} {fd : FuncData} {c : Clz} {d : Nat} (F : Fun K "is_laying" "Until.is_laying" S_Until_is_laying f fd) (T : Txt K mg) (Hc : Hi K mg c) : FnOk P w K mg base CX0 1 f fd ["self"] (sp_lays K c d c.untl) := by
  refine F.ok SC_Until_is_laying (fun vs H Q E h => ?_) (fun cdv A outer s H vs Q E hr h => ?_)
  · obtain ⟨p, r, rfl, _⟩ := h
    rfl
  · obtain ⟨p, r, rfl, hp, ec, dp, sz, k⟩ := h
    refine ⟨_, (pss_one (ps_ret (pe_cmpR op_eq (pe_fld (pv 0) rfl) pe_str (nomark _)))), ?_⟩
    cases r with
    | untl g r =>
      obtain ⟨fs, a, xs, pq, e1, e2, h2, hr2⟩ := hp
      obtain ⟨dx, a', u, g1, g2, g3, g4, g5, g6, g7, g8, g9⟩ := id pq
      refine ⟨_, rfl, p, _, dx, fs, _, rfl, g1, Hc.untl.ins.cl, Hc.untl.no "goal" (by simp [fnames]), e1, ?_⟩
      refine ⟨rfl, ?_⟩
      have := k H (Same.refl H)
      rwa [show (Rw1.untl g r).lays = decide (V.str g = V.str ("alike" : Str)) from decide_eq_decide.mpr ⟨fun e => by rw [e], fun e => by injection e⟩] at this
    | _ => exact absurd (Ri.so_eq (Hc.r _) (ec ▸ Hc.untl)) (by simp only [Rw1.sort]; decide +kernel)
theorem ok_iflays {f : Addr} {fd : FuncData} {c : Clz} {d : Nat} (F : Fun K "is_laying" "If.is_laying" S_If_is_laying f fd) (T : Txt K mg) (Hc : Hi K mg c) (C_hasl : FnC P w K mg base CX0 (2 * d + 2) "has_laying" ["rows"] (sp_haslay K c d)) : FnOk P w K mg base CX0 (2 * (d + 1) + 1) f fd ["self"] (sp_lays K c (d + 1) c.ifb) := by
  refine F.ok SC_If_is_laying (fun vs H Q E h => ?_) (fun cdv A outer s H vs Q E hr h => ?_)
  · obtain ⟨p, r, rfl, _⟩ := h
    rfl
  · obtain ⟨p, r, rfl, hp, ec, dp, sz, k⟩ := h
    refine ⟨_, (pss_one (ps_ret (pe_and (pe_callC C_hasl (hr.mono (by omega)) rfl (pa_cons (pe_fld (pv 0) rfl) pa_nil)) (pe_one (pe_callC C_hasl (hr.mono (by omega)) rfl (pa_cons (pe_fld (pv 0) rfl) pa_nil)))))), ?_⟩
    cases r with
    | ifb t r o =>
      obtain ⟨fs, q, a, b, xs, ys, pq, e1, ht, e2, h2, hr2, e3, h3, ho⟩ := hp
      obtain ⟨dx, a', u, g1, g2, g3, g4, g5, g6, g7, g8, g9⟩ := id pq
      have dp : max (deepL r) (deepL o) + 1 ≤ d + 1 := dp
      have ei : (Rw1.ifb t r o).inner = .ifb t r o :: (innerL r ++ innerL o) := rfl
      rw [ei, List.length_cons, List.length_append] at sz
      refine ⟨_, rfl, p, _, dx, fs, _, rfl, g1, Hc.ifb.ins.cl, Hc.ifb.no "rows" (by simp [fnames]), e2, ?_⟩
      refine ⟨a, xs, r, rfl, .inr h2, hr2, by omega, by omega, fun H1 s1 => ⟨_, rfl, ?_⟩⟩
      have k : ∀ H', Same H H' → Q (.bl (laysL r && laysL o)) H' := k
      by_cases c1 : laysL r = true
      · rw [c1] at k ⊢
        rw [if_pos rfl]
        refine ⟨_, rfl, p, _, dx, fs, _, rfl, s1 _ _ g1, Hc.ifb.ins.cl, Hc.ifb.no "others" (by simp [fnames]), e3, ?_⟩
        exact ⟨b, ys, o, rfl, .inr (sqT_tk (TK.same s1) h3), ho.tk (TK.same s1), by omega, by omega, fun H2 s2 => k H2 (s1.trans s2)⟩
      · rw [Bool.not_eq_true] at c1
        rw [c1] at k ⊢
        rw [if_neg (by decide)]
        exact k H1 s1
    | _ => exact absurd (Ri.so_eq (Hc.r _) (ec ▸ Hc.ifb)) (by simp only [Rw1.sort]; decide +kernel)
theorem ok_haslay {f : Addr} {fd : FuncData} {c : Clz} {d : Nat} (F : Fun K "has_laying" "has_laying" S_has_laying f fd) (T : Txt K mg) (Hc : Hi K mg c) (M_lays : ∀ u : Rw1, MtC P w K mg base CX0 (2 * d + 1) (u.cls c) "is_laying" ["self"] (sp_lays K c d (u.cls c))) : FnOk P w K mg base CX0 (2 * d + 2) f fd ["rows"] (sp_haslay K c d) := by
  refine F.ok SC_has_laying (fun vs H Q E h => ?_) (fun cdv A outer s H vs Q E hr h => ?_)
  · obtain ⟨p, xs, rs, rfl, _⟩ := h
    rfl
  · obtain ⟨p, xs, rs, rfl, hs, hrs, dp, sz, k⟩ := h
    refine ⟨_, (pss_one (ps_ret (pe_callB (cr_any rfl) (by rfl) T.b_any (by decide +kernel) (pa_cons (pe_lc (own := [("row", 1)]) (g := gName 1) (by rfl) SC_has_laying.nd (pi_seq (pv 0)) (blkOk_by (own := [("row", 1)]) (N := N_has_laying) (sc := defScope S_has_laying) (by decide +kernel)) (fun _ _ _ _ _ => pg_name (i := 1) SC_has_laying.nd rfl (Or.inl rfl)) (fun _ _ _ _ _ => pts_nil) (fun _ _ _ _ _ => (pe_ex (fun (u : Rw1) (_ : True) => pe_mth0 (M_lays u) (Hc.r u).ins.cl (hr.mono (by omega)) (pv 1))))) pa_nil)))), ?_⟩
    dsimp only [tRet, tCB, tCons]
    refine lcR_seqB (p := p) (xs := xs) (H0 := H) rfl hs (fun o e => e) (fun D i H' => (∀ b o, b ≠ D → H b = some o → H' b = some o) ∧ H' D = some (.lst (((rs.take i).map Rw1.lays).map V.bl))) (fun D hD => ⟨fun b o n e => by rw [upd_ne n]; exact e, upd_same⟩) (fun D i H' hD m o e => m.1 _ _ (ne_of_none e hD) e) (gName_mono _) (fun D i x H1 hD hi m => ?_) (fun D H1 hD m => ?_)
    · obtain ⟨kp, hH⟩ := m
      obtain ⟨q, r, rfl, hr', hq⟩ := hrs.at hi
      have s2 : Same H H1 := fun b o e => kp b o (ne_of_none e hD) e
      have hq2 := hq.tk (TK.same s2)
      obtain ⟨fs, dx, a, u, g1, g2, g3, g4, g5, g6, g7, g8, g9⟩ := hq2.part
      have e1 := innerL_take hr'
      have e2 := innerL_le (rs := rs) (i + 1)
      have e3 := len_innerL rs
      have e4 := (List.getElem?_eq_some_iff.mp hr').1
      rw [e1, List.length_append] at e2
      refine ⟨rfl, r, trivial, _, rfl, q, dx, fs, rfl, g1, g9, ?_⟩
      refine ⟨q, r, rfl, hq2, rfl, Nat.le_trans (deepL_mem (List.mem_of_getElem? hr')) dp, by omega, fun H3 s3 => ⟨_, s3 _ _ hH, ?_, fun b o n e => by rw [upd_ne n]; exact s3 _ _ (kp b o n e), ?_⟩⟩
      · rw [List.length_map, List.length_map, List.length_take]
        exact szs (by omega)
      · rw [upd_same, List.take_succ, hr', List.map_append, List.map_append]; rfl
    · obtain ⟨kp, hH⟩ := m
      rw [hrs.len, List.take_length] at hH
      refine ⟨_, _, rfl, SqL.of hH, ?_⟩
      rw [laysL_any] at k
      exact k H1 fun b o e => kp b o (ne_of_none e hD) e
theorem ok_hasmake {f : Addr} {fd : FuncData} {c : Clz} {d : Nat} (F : Fun K "has_make" "has_make" S_has_make f fd) (T : Txt K mg) (Hc : Hi K mg c) (C_irows : FnC P w K mg base CX0 (2 * d + 2) "inner_rows" ["rows"] (sp_irows K c d)) : FnOk P w K mg base CX0 (2 * d + 3) f fd ["rows"] (sp_hasmake K c d) := by
  refine F.ok SC_has_make (fun vs H Q E h => ?_) (fun cdv A outer s H vs Q E hr h => ?_)
  · obtain ⟨p, xs, rs, rfl, _⟩ := h
    rfl
  · obtain ⟨p, xs, rs, rfl, hs, hrs, dp, sz, k⟩ := h
    refine ⟨_, (pss_one (ps_ret (pe_callB (cr_any rfl) (by rfl) T.b_any (by decide +kernel) (pa_cons (pe_lc (own := [("row", 1)]) (g := gName 1) (by rfl) SC_has_make.nd (pi_list (pe_callC C_irows (hr.mono (by omega)) rfl (pa_cons (pv 0) pa_nil))) (blkOk_by (own := [("row", 1)]) (N := N_has_make) (sc := defScope S_has_make) (by decide +kernel)) (fun _ _ _ _ _ => pg_name (i := 1) SC_has_make.nd rfl (Or.inl rfl)) (fun _ _ _ _ _ => pts_nil) (fun _ _ _ _ _ => (pe_callB (call_isiK (K := K) rfl) (by rfl) T.b_isinstance (by decide +kernel) (pa_cons (pv 1) (pa_cons (pe_glob (v := .ref c.make) (by rfl) Hc.mgMake rfl) pa_nil))))) pa_nil)))), ?_⟩
    refine ⟨_, rfl, p, xs, rs, rfl, hs, hrs, dp, sz, fun l H1 ws s1 n1 h1 hw => ?_⟩
    have ew := hw.len
    refine ⟨l, rfl, ⟨_, SqL.of h1⟩, fun D hD => ?_⟩
    refine lcR_list (xs := ws) (fun i H' => (∀ b o, b ≠ D → H1 b = some o → H' b = some o) ∧ H' D = some (.lst ((((innerL rs).take i).map Rw1.isMake).map V.bl))) ⟨fun b o n e => by rw [upd_ne n]; exact e, upd_same⟩ (fun i H' _ m => SqL.of (m.1 _ _ (ne_of_none h1 hD) h1)) (fun i x H2 hi m => ?_) (gName_mono _) (fun H2 m => ?_)
    · obtain ⟨kp, hH⟩ := m
      obtain ⟨q, r, rfl, hr', hq⟩ := hw.at hi
      have s2 : Same H1 H2 := fun b o e => kp b o (ne_of_none e hD) e
      obtain ⟨fs, dx, a, u, g1, g2, g3, g4, g5, g6, g7, g8, g9⟩ := (hq.tk (TK.same s2)).part
      have e4 := (List.getElem?_eq_some_iff.mp hr').1
      refine ⟨rfl, _, rfl, .ref q, _, _, _, _, rfl, .own _, .base (.ins g1 (Hc.r r).ins.cl (Hc.r r).ins.ha (Hc.r r).ins.hn (Hc.r r).ins.htk (Hc.r r).ins.hm), (Hc.r r).km, _, hH, ?_, fun b o n e => by rw [upd_ne n]; exact kp b o n e, ?_⟩
      · rw [List.length_map, List.length_map, List.length_take]
        exact szs (by omega)
      · rw [upd_same, List.take_succ, hr', List.map_append, List.map_append]
        rw [show decide (r.cls c = c.make) = r.isMake from cls_make Hc r]
        rfl
    · obtain ⟨kp, hH⟩ := m
      rw [ew, List.take_length] at hH
      refine ⟨_, _, rfl, SqL.of hH, ?_⟩
      have e : hasMake rs = ((innerL rs).map Rw1.isMake).any id := by
        unfold hasMake
        rw [List.any_map]; rfl
      rw [e] at k
      exact k H2 (s1.trans fun b o e => kp b o (ne_of_none e hD) e)
end
section
variable {P : Program} {w : World} {K : PySem.W.Frag} {mg : Str → Option Value} {base : Heap}
/-- `is_laying` of rows of any depth -/
theorem lays_all {fR fL fS fI fU fW : Addr} {dR dL' dS dI dU dW : FuncData} {c : Clz} (T : Txt K mg) (Hc : Hi K mg c) (FR : Fun K "is_laying" "Row.is_laying" S_Row_is_laying fR dR) (FL : Fun K "is_laying" "Lay.is_laying" S_Lay_is_laying fL dL') (FS : Fun K "is_laying" "Stop.is_laying" S_Stop_is_laying fS dS)
    (FI : Fun K "is_laying" "If.is_laying" S_If_is_laying fI dI) (FU : Fun K "is_laying" "Until.is_laying" S_Until_is_laying fU dU) (FW : Fun K "has_laying" "has_laying" S_has_laying fW dW)
    (pkR : ∀ u : Rw1, u.plain = true → u.lays = false → ∀ {k : Nat} {sp : Sp}, FnOk P w K mg base CX0 k fR dR ["self"] sp → MtC P w K mg base CX0 k (u.cls c) "is_laying" ["self"] sp) (pkL : ∀ {k : Nat} {sp : Sp}, FnOk P w K mg base CX0 k fL dL' ["self"] sp → MtC P w K mg base CX0 k c.lay "is_laying" ["self"] sp)
    (pkS : ∀ {k : Nat} {sp : Sp}, FnOk P w K mg base CX0 k fS dS ["self"] sp → MtC P w K mg base CX0 k c.stop "is_laying" ["self"] sp) (pkI : ∀ {k : Nat} {sp : Sp}, FnOk P w K mg base CX0 k fI dI ["self"] sp → MtC P w K mg base CX0 k c.ifb "is_laying" ["self"] sp)
    (pkU : ∀ {k : Nat} {sp : Sp}, FnOk P w K mg base CX0 k fU dU ["self"] sp → MtC P w K mg base CX0 k c.untl "is_laying" ["self"] sp) (pkW : ∀ {k : Nat} {sp : Sp}, FnOk P w K mg base CX0 k fW dW ["rows"] sp → FnC P w K mg base CX0 k "has_laying" ["rows"] sp) : ∀ (d : Nat) (u : Rw1), MtC P w K mg base CX0 (2 * d + 1) (u.cls c) "is_laying" ["self"] (sp_lays K c d (u.cls c)) := by
  have flat : ∀ (d : Nat) {C : Addr} {so : Str} (b : Bool), Ri K c C so true → (∀ r : Rw1, r.sort = so → r.lays = b) → ∀ vs H Q E, sp_lays K c d C vs H Q E → sp_flat b vs H Q E := fun d C so b ri hb vs H Q E h => by
    obtain ⟨p, r, rfl, hp, ec, dp, sz, k⟩ := h
    have e := hb r (Ri.so_eq (Hc.r r) (ec ▸ ri))
    rw [e] at k
    exact ⟨p, rfl, k H (Same.refl H)⟩
  have go : ∀ (d : Nat) (u : Rw1), u.plain = true → MtC P w K mg base CX0 (2 * d + 1) (u.cls c) "is_laying" ["self"] (sp_lays K c d (u.cls c)) := fun d u hu => by
    have row : u.lays = false → (∀ r : Rw1, r.sort = u.sort → r.lays = false) → MtC P w K mg base CX0 (2 * d + 1) (u.cls c) "is_laying" ["self"] (sp_lays K c d (u.cls c)) := fun h1 h2 => pkR u hu h1 (((ok_rowlays FR T).mono (by omega)).imp (flat d false (Hc.r u) h2))
    cases u with
    | lay => exact pkL (((ok_laylays FL T).mono (by omega)).imp (flat d true Hc.lay fun r h => by cases r <;> first | rfl | exact absurd h (by simp only [Rw1.sort]; decide +kernel)))
    | stop => exact pkS (((ok_stoplays FS T).mono (by omega)).imp (flat d true Hc.stop fun r h => by cases r <;> first | rfl | exact absurd h (by simp only [Rw1.sort]; decide +kernel)))
    | ifb _ _ _ => cases hu
    | untl _ _ => cases hu
    | _ => exact row rfl fun r h => by cases r <;> first | rfl | exact absurd h (by simp only [Rw1.sort]; decide +kernel)
  have un : ∀ d : Nat, MtC P w K mg base CX0 (2 * d + 1) c.untl "is_laying" ["self"] (sp_lays K c d c.untl) := fun d => pkU ((ok_untllays FU T Hc).mono (by omega))
  intro d
  induction d with
  | zero =>
    intro u
    by_cases hu : u.plain = true
    · exact go 0 u hu
    · cases u with
      | ifb t a b => exact pkI (fn_false.imp fun vs H Q E h => by
          obtain ⟨p, r, rfl, hp, ec, dp, sz, k⟩ := h
          have ec : r.cls c = c.ifb := ec
          have h := Ri.so_eq (Hc.r r) (ec ▸ Hc.ifb)
          cases r <;> first | (exact absurd h (by simp only [Rw1.sort]; decide +kernel)) | (simp [Rw1.deep] at dp))
      | untl g a => exact un 0
      | _ => exact absurd rfl hu
  | succ d ih =>
    intro u
    by_cases hu : u.plain = true
    · exact go (d + 1) u hu
    · have CW := pkW (ok_haslay FW T Hc ih)
      cases u with
      | ifb t a b => exact pkI (ok_iflays FI T Hc CW)
      | untl g a => exact un (d + 1)
      | _ => exact absurd rfl hu
end

/-! ## if and until -/
namespace Pg
/-- refused, while an object is being made -/
def RefX (E : XK) (IR x : Addr) (H : Hp) (z : Str) : Prop := ∀ (dd : Addr) (H' : Hp), (∀ b o, b ≠ x → H b = some o → H' b = some o) → H' dd = none → E (.ref IR) (some dd) (upd H' dd (.xd [("part", .str z)]))
/-- a list, a tuple, a tuple of the module -/
def SqV (K : PySem.W.Frag) (H : Hp) (a : Addr) (xs : List V) : Prop := H a = some (.lst xs) ∨ H a = some (.tup xs) ∨ ∃ (o : Obj) (its : Array Value) (n : Nat), K.lookup a = some o ∧ o.cls = .type "tuple" ∧ o.data = .seq its n ∧ its.size ≤ sizeLine ∧ Vals xs its.toList
section
variable {K : PySem.W.Frag} {mg : Str → Option Value} {c : Clz} {C x dx a : Addr} {H H' : Hp} {xs : List V} {r : List Rw1}
theorem sqT_kp {fs : List (Str × V)} {q : Addr} (hx : H x = some (.ins C dx fs)) (kp : ∀ b o, b ≠ x → H b = some o → H' b = some o) (h : SqT K H q xs) : SqT K H' q xs := h.elim (fun q' => .inl (q'.elim (fun q' => .inl (kp _ _ (fun e => by rw [e, hx] at q'; cases q') q')) fun ⟨o, q'⟩ => .inr ⟨o, kp _ _ (fun e => by rw [e, hx] at q'; cases q') q'⟩)) .inr
theorem SqV.nx (hx : H x = some (.ins C dx [])) (kp : ∀ b o, b ≠ x → H b = some o → H' b = some o) (h : SqV K H a xs) : SqV K H' a xs := by
  rcases h with h | h | h
  · exact .inl (kp _ _ (fun e => by rw [e, hx] at h; cases h) h)
  · exact .inr (.inl (kp _ _ (fun e => by rw [e, hx] at h; cases h) h))
  · exact .inr (.inr h)
theorem tyx_ins (i : C8.InsC K C) {p : Addr} {fs : List (Str × V)} (h : H p = some (.ins C dx fs)) : TyX K H (.ref p) (.ref C) := .base (.ins h i.cl i.ha i.hn i.htk i.hm)
theorem SqV.rows (Hc : Hi K mg c) (hr : RowsAt K c H xs r) (h : SqV K H a xs) : NRows K c H (.ref a) (some xs) := by
  have el : ∀ w ∈ xs, ∃ u, TyX K H w u ∧ PySem.W.kitOne K u (.ref c.row) = some true := fun w hw => by
    obtain ⟨i, hi⟩ := List.mem_iff_getElem?.mp hw
    obtain ⟨p, r', rfl, _, hp⟩ := hr.at hi
    obtain ⟨fs, dx, _, _, g1, _⟩ := hp.part
    exact ⟨_, tyx_ins (Hc.r r').ins g1, (Hc.r r').kr⟩
  rcases h with h | h | ⟨o, its, n, h1, h2, h3, h4, h5⟩
  · exact .good (.base (.lst h)) (by rfl) (.inl (SqL.of h)) el
  · exact .good (.base (.tup h)) (by rfl) (.inr (SqT.of h)) el
  · exact .good (.kTuple h1 h2) (by rfl) (.inr (.inr ⟨o, its, n, h1, h2, h3, h4, h5⟩)) el
end
def sp_if (K : PySem.W.Frag) (c : Clz) (IR : Addr) : Sp := fun vs H Q E => ∃ (x dx q a b : Addr) (u : Tst) (xs ys : List V) (r o : List Rw1), vs = [.ref x, .ref q, .ref a, .ref b] ∧ H x = some (.ins c.ifb dx []) ∧ TstAt K c H q u ∧ u.txt.length ≤ 1000 ∧ SqV K H a xs ∧ RowsAt K c H xs r ∧ SqV K H b ys ∧ RowsAt K c H ys o ∧
  sumL (Rw1.ifb u r o).lines ≤ 1000000 ∧ ∀ H', (∀ b o, b ≠ x → H b = some o → H' b = some o) → RowAt K c H' x (.ifb u r o) → Q .non H'
def sp_untl (K : PySem.W.Frag) (c : Clz) (IR : Addr) (d : Nat) : Sp := fun vs H Q E => ∃ (x dx a : Addr) (g : Str) (xs : List V) (r : List Rw1), vs = [.ref x, .str g, .ref a] ∧ H x = some (.ins c.untl dx []) ∧ inV (.str g) [.str "alike", .str "longer", .str "shorter"] = true ∧ SqV K H a xs ∧ RowsAt K c H xs r ∧ deepL r ≤ d ∧ (innerL r).length ≤ 1000000 ∧
  sumL (Rw1.untl g r).lines ≤ 1000000 ∧ (laysL r = true → hasMake r = false → ∀ H', (∀ b o, b ≠ x → H b = some o → H' b = some o) → RowAt K c H' x (.untl g r) → Q .non H') ∧ ((!laysL r || hasMake r) = true → RefX E IR x H "until")
/-- what stands behind: ['else', *lines] or [] -/
theorem seq_behind {K : PySem.W.Frag} {mg : Str → Option Value} {c : Clz} {H : Hp} {D : Ends} {σ : L2.St} {i j : Nat} {x dx t2 : Addr} {fs : List (Str × V)} {ys : List V} {o : List Rw1} {u : TS} (hi : σ[i]? = some (some (.ref x))) (Hc : Hi K mg c) (hx : H x = some (.ins c.ifb dx fs)) (hf : fs.lookup ("others" : Str) = some (.ref t2)) (ht : SqT K H t2 ys) (ho : RowsAt K c H ys o) (sz : (linesL o).length + 1 ≤ 1000000)
    (k : ∀ p7 H7, Same H H7 → SqL K H7 p7 ((elseL o (linesL o)).map V.str) → gName j (.ref p7) σ H7 (u D)) :
    tSeq (tAsg (tIf (tTest (tOp (rI0 fun i j => V.bl (decide (j < i))) (tCB (fun xs H Q => ∃ p ys, xs = [V.ref p] ∧ (SqL K H p ys ∨ SqT K H p ys) ∧ Q (V.int ys.length) H) (tCons (tFld K (tVar i) "others") tNil)) (tC (V.int 0)))) (tLst (tCons (tC (V.str ("else" : Str))) (StX.tStar K (tCall (sp_lines K c) [] E0 (tCons (tFld K (tVar i) "others") tNil)) tNil))) (tLstN tNil)) (gName j)) u D σ H := by
  refine ⟨_, hi, x, c.ifb, dx, fs, _, rfl, hx, Hc.ifb.ins.cl, Hc.ifb.no "others" (by simp [fnames]), hf, t2, ys, rfl, .inr ht, _, _, rfl, rfl, _, rfl, ?_⟩
  cases o with
  | nil =>
    have e : ys = [] := List.eq_nil_of_length_eq_zero (ho.len)
    subst e
    refine ifF rfl ?_
    exact ⟨Nat.zero_le _, fun p7 H7 _ s7 h7 => k p7 H7 s7 (SqL.of h7)⟩
  | cons r o =>
    have l := ho.len
    rw [List.length_cons] at l
    refine ifT (decide_eq_true (by omega)) ?_
    refine ⟨_, hi, x, c.ifb, dx, fs, _, rfl, hx, Hc.ifb.ins.cl, Hc.ifb.no "others" (by simp [fnames]), hf, t2, ys, _, rfl, .inr ht, ho, by omega, fun l1 H1 s1 n1 h1 => ?_⟩
    refine ⟨l1, _, rfl, .inr (SqL.of h1), ?_⟩
    refine ⟨szl ?_, fun p7 n7 => ?_⟩
    · simp only [List.length_cons, List.length_append, List.length_nil, List.length_map]
      omega
    · refine k p7 _ (s1.trans (sm_new n7)) (SqL.of ?_)
      rw [upd_same, List.append_nil]
      rfl
end Pg
open Pg
section
variable {P : Program} {w : World} {K : PySem.W.Frag} {mg : Str → Option Value} {base : Heap}
theorem ok_ifinit {f IR : Addr} {fd : FuncData} {c : Clz} {eT0 : Addr} (F : FunS P K mg "__init__" "If.__init__" S_If__init_ c.ifb [.ref eT0] f fd) (T : Txt K mg) (Hc : Hi K mg c) (Hs : Ht P w K mg base c) (C_ndtest : FnC P w K mg base (L2.CX P w) 4 "need_test" ["value"] (sp_ndtest K c IR)) (C_ndrows : FnC P w K mg base (L2.CX P w) 4 "need_rows" ["rows"] (sp_ndrows K c IR)) (C_lines : FnC P w K mg base CX0 2 "lines_of" ["rows"] (sp_lines K c))
    (M_pinit : SupC P w K mg base 2 c.ifb "__init__" ["self", "script", "used"] (sp_pinit K c) []) : FnOk P w K mg base (L2.CX P w) 6 f fd ["self", "test", "rows", "others"] (sp_if K c IR) := by
  refine F.ok SC_If__init_ (fun vs H Q E h => ?_) (fun cda cc fd' oc od osl A outer s H vs Q E hpar lk SK hr h => ?_)
  · obtain ⟨x, dx, q, a, b, u, xs, ys, r, o, rfl, _⟩ := h
    rfl
  · obtain ⟨x, dx, q, a, b, u, xs, ys, r, o, rfl, hx, hq, lu, na, hr1, nb, ho, sz, k⟩ := h
    refine ⟨_, (pat_cons (ps_expr (pe_callSC C_ndtest (hr.mono (by decide)) (takes_of rfl rfl rfl rfl) rfl (pa_cons (pv 1) pa_nil)))
      (pat_cons (ps_fld (pv 0) (pv 1) rfl)
      (pat_cons (ps_fld (pv 0) (pe_callSC C_ndrows (hr.mono (by omega)) (takes_of rfl rfl rfl rfl) rfl (pa_cons (pv 2) pa_nil)) rfl)
      (pat_cons (ps_fld (pv 0) (pe_callSC C_ndrows (hr.mono (by omega)) (takes_of rfl rfl rfl rfl) rfl (pa_cons (pv 3) pa_nil)) rfl)
      (pat_cons (ps_set (i := 5) SC_If__init_.nd rfl (.inl rfl) (pe_ifExp (pt_cmpR op_gt (pe_callB call_len_seq (by rfl) T.b_len (by decide +kernel) (pa_cons (pe_fld (pv 0) rfl) pa_nil)) pe_int (nomark _)) (pe_lst (pa_cons pe_str (StX.pa_star (pe_callC C_lines (hr.mono (by omega)) rfl (pa_cons (pe_fld (pv 0) rfl) pa_nil)) pa_nil))) (pe_lstN pa_nil)))
      (pat_superC M_pinit SK lk hpar (hr.mono (by decide)) (pa_cons (pe_lst (pa_cons (pe_joined (PJ.cons pe_str (PJ.cons (pe_ex (fun (u : Tst) (_ : True) => pe_fmtO (Hs.str u) (Hs.fm u) (hr.mono (by decide)) (pv 1))) PJ.nil))) (StX.pa_star (pe_callC C_lines (hr.mono (by omega)) rfl (pa_cons (pe_fld (pv 0) rfl) pa_nil)) (StX.pa_star (pv 5) (pa_cons pe_str pa_nil))))) (pa_cons (pe_fld (pv 1) rfl) pa_nil)) pss_nil)))))), ?_⟩
    obtain ⟨fq, pq⟩ := hq.part
    obtain ⟨dq, _, _, gq, _⟩ := id pq
    refine ⟨_, rfl, _, _, true, rfl, tyx_ins (Hc.t u).ins gq, (Hc.t u).kt, fun _ H1 s1 => ?_, fun e => nomatch e⟩
    refine ⟨_, rfl, _, rfl, x, c.ifb, dx, _, rfl, s1 _ _ hx, Hc.ifb.ins.cl, Hc.ifb.no "test" (by simp [fnames]), by show 0 < 1000; decide, ?_⟩
    have k2 : ∀ b o, b ≠ x → H b = some o → (upd H1 x (.ins c.ifb dx (putF ("test" : Str) (.ref q) []))) b = some o := fun b o n e => by rw [upd_ne n]; exact s1 _ _ e
    have hx2 : (upd H1 x (.ins c.ifb dx (putF ("test" : Str) (.ref q) []))) x = some (.ins c.ifb dx (putF ("test" : Str) (.ref q) [])) := upd_same
    generalize upd H1 x (.ins c.ifb dx (putF ("test" : Str) (.ref q) [])) = H2 at k2 hx2 ⊢
    refine ⟨_, rfl, _, some xs, rfl, SqV.rows Hc (RowsAt.nx hx k2 hr1) (na.nx hx k2), fun xs' e t1 H3 s3 ht1 => ?_, fun e => nomatch e⟩
    cases e
    refine ⟨_, rfl, x, c.ifb, dx, _, rfl, s3 _ _ hx2, Hc.ifb.ins.cl, Hc.ifb.no "rows" (by simp [fnames]), Nat.le_of_ble_eq_true rfl, ?_⟩
    have k4 : ∀ b o, b ≠ x → H b = some o → (upd H3 x (.ins c.ifb dx (putF ("rows" : Str) (.ref t1) (putF ("test" : Str) (.ref q) [])))) b = some o := fun b o n e => by rw [upd_ne n]; exact s3 _ _ (k2 b o n e)
    have hx4 : (upd H3 x (.ins c.ifb dx (putF ("rows" : Str) (.ref t1) (putF ("test" : Str) (.ref q) [])))) x = some (.ins c.ifb dx (putF ("rows" : Str) (.ref t1) (putF ("test" : Str) (.ref q) []))) := upd_same
    have ht4 : SqT K (upd H3 x (.ins c.ifb dx (putF ("rows" : Str) (.ref t1) (putF ("test" : Str) (.ref q) [])))) t1 xs := sqT_ins (s3 _ _ hx2) ht1
    generalize upd H3 x (.ins c.ifb dx (putF ("rows" : Str) (.ref t1) (putF ("test" : Str) (.ref q) []))) = H4 at k4 hx4 ht4 ⊢
    refine ⟨_, rfl, _, some ys, rfl, SqV.rows Hc (RowsAt.nx hx k4 ho) (nb.nx hx k4), fun ys' e t2 H5 s5 ht2 => ?_, fun e => nomatch e⟩
    cases e
    refine ⟨_, rfl, x, c.ifb, dx, _, rfl, s5 _ _ hx4, Hc.ifb.ins.cl, Hc.ifb.no "others" (by simp [fnames]), Nat.le_of_ble_eq_true rfl, ?_⟩
    have k6 : ∀ b o, b ≠ x → H b = some o → (upd H5 x (.ins c.ifb dx (putF ("others" : Str) (.ref t2) (putF ("rows" : Str) (.ref t1) (putF ("test" : Str) (.ref q) []))))) b = some o := fun b o n e => by rw [upd_ne n]; exact s5 _ _ (k4 b o n e)
    have hx6 : (upd H5 x (.ins c.ifb dx (putF ("others" : Str) (.ref t2) (putF ("rows" : Str) (.ref t1) (putF ("test" : Str) (.ref q) []))))) x = some (.ins c.ifb dx (putF ("others" : Str) (.ref t2) (putF ("rows" : Str) (.ref t1) (putF ("test" : Str) (.ref q) [])))) := upd_same
    have ht6 : SqT K (upd H5 x (.ins c.ifb dx (putF ("others" : Str) (.ref t2) (putF ("rows" : Str) (.ref t1) (putF ("test" : Str) (.ref q) []))))) t1 xs := sqT_ins (s5 _ _ hx4) (sqT_tk (TK.same s5) ht4)
    have hu6 : SqT K (upd H5 x (.ins c.ifb dx (putF ("others" : Str) (.ref t2) (putF ("rows" : Str) (.ref t1) (putF ("test" : Str) (.ref q) []))))) t2 ys := sqT_ins (s5 _ _ hx4) ht2
    generalize upd H5 x (.ins c.ifb dx (putF ("others" : Str) (.ref t2) (putF ("rows" : Str) (.ref t1) (putF ("test" : Str) (.ref q) [])))) = H6 at k6 hx6 ht6 hu6 ⊢
    have ho6 := RowsAt.nx hx k6 ho
    have hr6 := RowsAt.nx hx k6 hr1
    have sz' : sumL ((("if " : Str) ++ u.txt) :: (linesL r ++ (elseL o (linesL o) ++ [("end" : Str)]))) ≤ 1000000 := sz
    have z1 : (linesL r).length + (elseL o (linesL o)).length + 2 ≤ 1000000 := by
      have := sumL_eq ((("if " : Str) ++ u.txt) :: (linesL r ++ (elseL o (linesL o) ++ [("end" : Str)])))
      simp only [List.length_cons, List.length_append, List.length_nil] at this
      omega
    have z2 : (linesL o).length ≤ (elseL o (linesL o)).length + 1 := by
      cases o with
      | nil => exact Nat.zero_le _
      | cons _ _ => exact Nat.le_succ_of_le (Nat.le_succ _)
    refine seq_behind (mg := mg) (x := x) (dx := dx) (t2 := t2) (ys := ys) (o := o) rfl Hc hx6 (by ((repeat (rw [lookup_putF]; first | rw [if_pos rfl] | rw [if_neg (by decide +kernel)])); try rfl)) hu6 ho6 (by omega) fun p7 H7 s7 h7 => ?_
    have hq7 := (hq.nx hx k6).tk (TK.same s7)
    obtain ⟨fs, pq7⟩ := hq7.part
    obtain ⟨d7, a7, b7, g1, g2, g3, g4, g5, g6, _⟩ := id pq7
    refine ⟨x, dx, _, rfl, s7 _ _ hx6, ?_⟩
    refine ⟨_, rfl, by decide +kernel, u, trivial, _, rfl, q, d7, fs, rfl, g1, q, _, c, _, _, _, _, fs, rfl, Hc.t u, pq7, by rw [sumL_one]; omega, fun H8 s8 => ⟨_, rfl, _, rfl, ?_, ?_⟩⟩
    · show (Str.empty ++ ("if " : Str) ++ u.txt).length ≤ sizeLine
      (refine szl ?_; simp only [app_len, l_e, l_put, l_add, l_sp, l_tell, l_is, l_make, l_not, l_if, l_until, l_end, l_else]; omega)
    rw [app_e, Pg.join_one]
    refine ⟨_, rfl, x, c.ifb, dx, _, _, rfl, s8 _ _ (s7 _ _ hx6), Hc.ifb.ins.cl, Hc.ifb.no "rows" (by simp [fnames]), by ((repeat (rw [lookup_putF]; first | rw [if_pos rfl] | rw [if_neg (by decide +kernel)])); try rfl), ?_⟩
    refine ⟨t1, xs, r, rfl, .inr (sqT_tk (TK.same (s7.trans s8)) ht6), hr6.tk (TK.same (s7.trans s8)), by omega, fun l9 H9 s9 n9 h9 => ?_⟩
    refine ⟨l9, _, rfl, .inr (SqL.of h9), ?_⟩
    refine ⟨_, rfl, p7, _, rfl, .inr (same_sqL (s8.trans s9) h7), ?_⟩
    refine ⟨szl ?_, fun L nL => ?_⟩
    · simp only [List.length_cons, List.length_append, List.length_nil, List.length_map]
      omega
    have sL := sm_new (o := .lst (V.str (("if " : Str) ++ u.txt) :: ((linesL r).map V.str ++ ((elseL o (linesL o)).map V.str ++ [V.str ("end" : Str)])))) nL
    have hL : (upd H9 L (.lst (V.str (("if " : Str) ++ u.txt) :: ((linesL r).map V.str ++ ((elseL o (linesL o)).map V.str ++ [V.str ("end" : Str)]))))) L = some (.lst ((Rw1.ifb u r o).lines.map V.str)) := by
      rw [upd_same]
      show _ = some (HO.lst (((("if " : Str) ++ u.txt) :: (linesL r ++ (elseL o (linesL o) ++ [("end" : Str)]))).map V.str))
      rw [List.map_cons, List.map_append, List.map_append]; rfl
    have s7L := s8.trans (s9.trans sL)
    have s6L := s7.trans s7L
    generalize upd H9 L (.lst (V.str (("if " : Str) ++ u.txt) :: ((linesL r).map V.str ++ ((elseL o (linesL o)).map V.str ++ [V.str ("end" : Str)])))) = HL at sL hL s7L s6L ⊢
    refine ⟨_, rfl, q, _, d7, fs, _, rfl, s7L _ _ g1, (Hc.t u).ins.cl, (Hc.t u).no "used" (.tail _ (.head _)), g5, ?_⟩
    refine ⟨x, dx, L, b7, c.ifb, _, (Rw1.ifb u r o).lines, u.uses, "if", true, rfl, s6L _ _ hx6, Nat.le_of_ble_eq_true rfl, Hc.ifb, .inl (SqL.of hL), .inr (sqT_tk (TK.same s7L) g6), fun s' u' H5 kp hx5 hs hu => ?_⟩
    have k65 : ∀ b o, b ≠ x → H6 b = some o → H5 b = some o := fun b o n e => kp b o n (s6L _ _ e)
    have kx : ∀ b o, b ≠ x → H b = some o → H5 b = some o := fun b o n e => k65 b o n (k6 b o n e)
    exact k H5 kx ⟨_, q, t1, t2, xs, ys, ⟨dx, s', u', hx5, Nat.le_of_ble_eq_true rfl, by ((repeat (rw [lookup_putF]; first | rw [if_pos rfl] | rw [if_neg (by decide +kernel)])); try rfl), hs, by ((repeat (rw [lookup_putF]; first | rw [if_pos rfl] | rw [if_neg (by decide +kernel)])); try rfl), hu, by ((repeat (rw [lookup_putF]; first | rw [if_pos rfl] | rw [if_neg (by decide +kernel)])); try rfl), by ((repeat (rw [lookup_putF]; first | rw [if_pos rfl] | rw [if_neg (by decide +kernel)])); try rfl), by ((repeat (rw [lookup_putF]; first | rw [if_pos rfl] | rw [if_neg (by decide +kernel)])); try rfl)⟩, by ((repeat (rw [lookup_putF]; first | rw [if_pos rfl] | rw [if_neg (by decide +kernel)])); try rfl), hq.nx hx kx, by ((repeat (rw [lookup_putF]; first | rw [if_pos rfl] | rw [if_neg (by decide +kernel)])); try rfl), sqT_kp hx6 k65 ht6, RowsAt.nx hx kx hr1, by ((repeat (rw [lookup_putF]; first | rw [if_pos rfl] | rw [if_neg (by decide +kernel)])); try rfl), sqT_kp hx6 k65 hu6, RowsAt.nx hx kx ho⟩
theorem ok_untlinit {f IR : Addr} {fd : FuncData} {c : Clz} {d : Nat} {eT : Addr} (F : FunS P K mg "__init__" "Until.__init__" S_Until__init_ c.untl [] f fd) (T : Txt K mg) (Hc : Hi K mg c) (GG : GT K mg "GOALS_rows" [.str "alike", .str "longer", .str "shorter"]) (C_ndrows : FnC P w K mg base (L2.CX P w) 4 "need_rows" ["rows"] (sp_ndrows K c IR)) (C_lines : FnC P w K mg base CX0 2 "lines_of" ["rows"] (sp_lines K c))
    (C_hasl : FnC P w K mg base CX0 (2 * d + 2) "has_laying" ["rows"] (sp_haslay K c d)) (C_hasm : FnC P w K mg base CX0 (2 * d + 3) "has_make" ["rows"] (sp_hasmake K c d)) (E_InvalidRow : Er1 P w K mg base "InvalidRow" IR "part" "part") (M_pinit : SupC P w K mg base 2 c.untl "__init__" ["self", "script", "used"] (sp_pinit K c) [.ref eT]) (hE : ∀ H, SqT K H eT []) : FnOk P w K mg base (L2.CX P w) (2 * d + 6) f fd ["self", "goal", "rows"] (sp_untl K c IR d) := by
  obtain ⟨ag, hG, sG⟩ := GG.ex
  refine F.ok SC_Until__init_ (fun vs H Q E h => ?_) (fun cda cc fd' oc od osl A outer s H vs Q E hpar lk SK hr h => ?_)
  · obtain ⟨x, dx, a, g, xs, r, rfl, _⟩ := h
    rfl
  · obtain ⟨x, dx, a, g, xs, r, rfl, hx, hg, na, hr1, dp, sz1, sz, ok, bad⟩ := h
    refine ⟨_, (pat_cons (ps_if (PW.pt (pw_or (pt_not (pt_val (pe_callB call_isi (by rfl) T.b_isinstance (by decide +kernel) (pa_cons (pv 1) (pa_cons (pe_bltn (v := .ty "str") (by rfl) T.b_str boot_str rfl) pa_nil))))) (pw_or1 (pt_cmpR op_notIn_seq (pv 1) (pe_glob (v := .ref ag) (by rfl) hG rfl) (by rfl))))) (pss_one (ps_raise1 E_InvalidRow (hr.mono (by omega)) rfl (takes_of rfl rfl rfl rfl) rfl (pa_cons pe_str pa_nil))) pss_nil)
      (pat_cons (ps_fld (pv 0) (pv 1) rfl)
      (pat_cons (ps_fld (pv 0) (pe_callSC C_ndrows (hr.mono (by omega)) (takes_of rfl rfl rfl rfl) rfl (pa_cons (pv 2) pa_nil)) rfl)
      (pat_cons (ps_if (PW.pt (pw_or (pt_not (pt_val (pe_callC C_hasl (hr.mono (by omega)) rfl (pa_cons (pe_fld (pv 0) rfl) pa_nil)))) (pw_or1 (pt_val (pe_callC C_hasm (hr.mono (by omega)) rfl (pa_cons (pe_fld (pv 0) rfl) pa_nil)))))) (pss_one (ps_raise1 E_InvalidRow (hr.mono (by omega)) rfl (takes_of rfl rfl rfl rfl) rfl (pa_cons pe_str pa_nil))) pss_nil)
      (pat_superC M_pinit SK lk hpar (hr.mono (by omega)) (pa_cons (pe_lst (pa_cons (pe_joined (PJ.cons pe_str (PJ.cons (pe_fmt (pv 1)) PJ.nil))) (StX.pa_star (pe_callC C_lines (hr.mono (by omega)) rfl (pa_cons (pe_fld (pv 0) rfl) pa_nil)) (pa_cons pe_str pa_nil)))) pa_nil) pss_nil))))), ?_⟩
    have hgm : g.length ≤ 7 := by
      simp only [inV, List.any_cons, List.any_nil, Bool.or_false, Bool.or_eq_true] at hg
      have key : ∀ z : Str, eqV (.str z) (.str g) = true → z.length ≤ 7 → g.length ≤ 7 := fun z e l => by
        have e : z = g := by simpa [eqV] using e
        rw [← e]; exact l
      rcases hg with h | h | h
      · exact key ("alike" : Str) h (by decide +kernel)
      · exact key ("longer" : Str) h (by decide +kernel)
      · exact key ("shorter" : Str) h (by decide +kernel)
    refine ⟨_, rfl, .str g, _, .type "str", _, _, rfl, .ty _, .base (.str g), rfl, true, rfl, ?_⟩
    refine ifF rfl ?_
    refine ⟨_, rfl, ag, _, rfl, .inr (sG H), rfl, rfl, ?_⟩
    refine ⟨_, rfl, ?_⟩
    rw [if_pos rfl, hg]
    refine ifF rfl ?_
    refine ⟨_, rfl, _, rfl, x, c.untl, dx, _, rfl, hx, Hc.untl.ins.cl, Hc.untl.no "goal" (by simp [fnames]), by show 0 < 1000; decide, ?_⟩
    have k2 : ∀ b o, b ≠ x → H b = some o → (upd H x (.ins c.untl dx (putF ("goal" : Str) (.str g) []))) b = some o := fun b o n e => by rw [upd_ne n]; exact e
    have hx2 : (upd H x (.ins c.untl dx (putF ("goal" : Str) (.str g) []))) x = some (.ins c.untl dx (putF ("goal" : Str) (.str g) [])) := upd_same
    generalize upd H x (.ins c.untl dx (putF ("goal" : Str) (.str g) [])) = H2 at k2 hx2 ⊢
    refine ⟨_, rfl, _, some xs, rfl, SqV.rows Hc (RowsAt.nx hx k2 hr1) (na.nx hx k2), fun xs' e t1 H3 s3 ht1 => ?_, fun e => nomatch e⟩
    cases e
    refine ⟨_, rfl, x, c.untl, dx, _, rfl, s3 _ _ hx2, Hc.untl.ins.cl, Hc.untl.no "rows" (by simp [fnames]), Nat.le_of_ble_eq_true rfl, ?_⟩
    have k4 : ∀ b o, b ≠ x → H b = some o → (upd H3 x (.ins c.untl dx (putF ("rows" : Str) (.ref t1) (putF ("goal" : Str) (.str g) [])))) b = some o := fun b o n e => by rw [upd_ne n]; exact s3 _ _ (k2 b o n e)
    have hx4 : (upd H3 x (.ins c.untl dx (putF ("rows" : Str) (.ref t1) (putF ("goal" : Str) (.str g) [])))) x = some (.ins c.untl dx (putF ("rows" : Str) (.ref t1) (putF ("goal" : Str) (.str g) []))) := upd_same
    have ht4 : SqT K (upd H3 x (.ins c.untl dx (putF ("rows" : Str) (.ref t1) (putF ("goal" : Str) (.str g) [])))) t1 xs := sqT_ins (s3 _ _ hx2) ht1
    generalize upd H3 x (.ins c.untl dx (putF ("rows" : Str) (.ref t1) (putF ("goal" : Str) (.str g) []))) = H4 at k4 hx4 ht4 ⊢
    have hr4 := RowsAt.nx hx k4 hr1
    refine ⟨_, rfl, x, c.untl, dx, _, _, rfl, hx4, Hc.untl.ins.cl, Hc.untl.no "rows" (by simp [fnames]), by ((repeat (rw [lookup_putF]; first | rw [if_pos rfl] | rw [if_neg (by decide +kernel)])); try rfl), t1, xs, r, rfl, .inr ht4, hr4, dp, sz1, fun H5 s5 => ⟨_, rfl, ?_⟩⟩
    by_cases c1 : laysL r = true
    · rw [c1]
      refine ifF rfl ?_
      refine ⟨_, rfl, x, c.untl, dx, _, _, rfl, s5 _ _ hx4, Hc.untl.ins.cl, Hc.untl.no "rows" (by simp [fnames]), by ((repeat (rw [lookup_putF]; first | rw [if_pos rfl] | rw [if_neg (by decide +kernel)])); try rfl), t1, xs, r, rfl, .inr (sqT_tk (TK.same s5) ht4), hr4.tk (TK.same s5), dp, sz1, fun H6 s6 => ⟨_, rfl, ?_⟩⟩
      by_cases c2 : hasMake r = true
      · exact ifT c2 (mk_err1H fun dd hd => bad (by rw [c2, Bool.or_true]) dd H6 (fun b o n e => s6 _ _ (s5 _ _ (k4 b o n e))) hd)
      · rw [Bool.not_eq_true] at c2
        refine ifF c2 ?_
        have s46 := s5.trans s6
        have sz' : sumL ((("until " : Str) ++ g) :: (linesL r ++ [("end" : Str)])) ≤ 1000000 := sz
        have z1 : (linesL r).length + 2 ≤ 1000000 := by
          have := sumL_eq ((("until " : Str) ++ g) :: (linesL r ++ [("end" : Str)]))
          simp only [List.length_cons, List.length_append, List.length_nil] at this
          omega
        refine ⟨x, dx, _, rfl, s46 _ _ hx4, ?_⟩
        refine ⟨_, rfl, by decide +kernel, _, rfl, .inl ⟨g, rfl, szl (by omega), _, rfl, by (refine szl ?_; simp only [app_len, l_e, l_put, l_add, l_sp, l_tell, l_is, l_make, l_not, l_if, l_until, l_end, l_else]; omega), ?_⟩⟩
        rw [app_e]
        refine ⟨_, rfl, x, c.untl, dx, _, _, rfl, s46 _ _ hx4, Hc.untl.ins.cl, Hc.untl.no "rows" (by simp [fnames]), by ((repeat (rw [lookup_putF]; first | rw [if_pos rfl] | rw [if_neg (by decide +kernel)])); try rfl), ?_⟩
        refine ⟨t1, xs, r, rfl, .inr (sqT_tk (TK.same s46) ht4), hr4.tk (TK.same s46), by omega, fun l9 H9 s9 n9 h9 => ?_⟩
        refine ⟨l9, _, rfl, .inr (SqL.of h9), ?_⟩
        refine ⟨szl ?_, fun L nL => ?_⟩
        · simp only [List.length_cons, List.length_append, List.length_nil, List.length_map]
          omega
        have sL := sm_new (o := .lst (V.str (("until " : Str) ++ g) :: ((linesL r).map V.str ++ [V.str ("end" : Str)]))) nL
        have hL : (upd H9 L (.lst (V.str (("until " : Str) ++ g) :: ((linesL r).map V.str ++ [V.str ("end" : Str)])))) L = some (.lst ((Rw1.untl g r).lines.map V.str)) := by
          rw [upd_same]
          show _ = some (HO.lst (((("until " : Str) ++ g) :: (linesL r ++ [("end" : Str)])).map V.str))
          rw [List.map_cons, List.map_append]; rfl
        have s4L := s46.trans (s9.trans sL)
        generalize upd H9 L (.lst (V.str (("until " : Str) ++ g) :: ((linesL r).map V.str ++ [V.str ("end" : Str)]))) = HL at sL hL s4L ⊢
        refine ⟨x, dx, L, eT, c.untl, _, (Rw1.untl g r).lines, [], "until", true, rfl, s4L _ _ hx4, Nat.le_of_ble_eq_true rfl, Hc.untl, .inl (SqL.of hL), .inr (hE _), fun s' u' H5 kp hx5 hs hu => ?_⟩
        have k45 : ∀ b o, b ≠ x → H4 b = some o → H5 b = some o := fun b o n e => kp b o n (s4L _ _ e)
        have kx : ∀ b o, b ≠ x → H b = some o → H5 b = some o := fun b o n e => k45 b o n (k4 b o n e)
        exact ok c1 c2 H5 kx ⟨_, t1, xs, ⟨dx, s', u', hx5, Nat.le_of_ble_eq_true rfl, by ((repeat (rw [lookup_putF]; first | rw [if_pos rfl] | rw [if_neg (by decide +kernel)])); try rfl), hs, by ((repeat (rw [lookup_putF]; first | rw [if_pos rfl] | rw [if_neg (by decide +kernel)])); try rfl), hu, by ((repeat (rw [lookup_putF]; first | rw [if_pos rfl] | rw [if_neg (by decide +kernel)])); try rfl), by ((repeat (rw [lookup_putF]; first | rw [if_pos rfl] | rw [if_neg (by decide +kernel)])); try rfl), by ((repeat (rw [lookup_putF]; first | rw [if_pos rfl] | rw [if_neg (by decide +kernel)])); try rfl)⟩, by ((repeat (rw [lookup_putF]; first | rw [if_pos rfl] | rw [if_neg (by decide +kernel)])); try rfl), by ((repeat (rw [lookup_putF]; first | rw [if_pos rfl] | rw [if_neg (by decide +kernel)])); try rfl), sqT_kp hx4 k45 ht4, RowsAt.nx hx kx hr1⟩
    · rw [Bool.not_eq_true] at c1
      rw [c1]
      exact ifT rfl (mk_err1H fun dd hd => bad (by rw [c1]; rfl) dd H5 (fun b o n e => s5 _ _ (k4 b o n e)) hd)
end

/-! ## what the laws over programs draw: names, numbers, changes -/
namespace Pg
def sp_num : Sp := fun vs H Q _ => ∃ B : Bx, vs = [.ref B.1] ∧ BoxAt H B ∧ ∀ (i : Int) (H' : Hp), 0 ≤ i → i < 1000000 → Keep B H H' → BoxAt H' B → Q (.int i) H'
/-- the changes that are drawn -/
def mats : List Mt := [⟨1, 1, 0, 1⟩, ⟨1, 0, 1, 1⟩, ⟨2, 1, 1, 1⟩, ⟨0, 1, 1, 0⟩, ⟨1, 3, 0, 1⟩, ⟨5, 2, 2, 1⟩, ⟨1, 2, 1, 1⟩, ⟨0, 1, 1, 2⟩, ⟨2, 0, 0, 1⟩, ⟨1, 0, 0, 2⟩, ⟨1, 1, 1, 3⟩, ⟨3, 1, 1, 1⟩, ⟨0, 2, 1, 1⟩, ⟨12, 5, 2, 1⟩, ⟨3, 0, 0, 1⟩, ⟨2, 1, 1, 2⟩, ⟨1, 2, 2, 1⟩, ⟨0, 3, 1, 0⟩, ⟨1, 0, 0, 3⟩]
def mtV (m : Mt) : List V := [.int m.a, .int m.b, .int m.c, .int m.d]
def MtsAt (H : Hp) : List V → List Mt → Prop
  | [], [] => True
  | v :: vs, m :: ms => (∃ q, v = .ref q ∧ H q = some (.tup (mtV m))) ∧ MtsAt H vs ms
  | _, _ => False
theorem MtsAt.tk {H H' : Hp} (s : TK H H') : ∀ {xs : List V} {ms : List Mt}, MtsAt H xs ms → MtsAt H' xs ms
  | [], [], _ => trivial
  | _ :: _, _ :: _, ⟨⟨q, e, h⟩, t⟩ => ⟨⟨q, e, s _ _ rfl h⟩, MtsAt.tk s t⟩
theorem MtsAt.len {H : Hp} : ∀ {xs : List V} {ms : List Mt}, MtsAt H xs ms → xs.length = ms.length
  | [], [], _ => rfl
  | _ :: _, _ :: _, ⟨_, t⟩ => congrArg Nat.succ (MtsAt.len t)
theorem MtsAt.app {H : Hp} : ∀ {xs ys : List V} {ms ns : List Mt}, MtsAt H xs ms → MtsAt H ys ns → MtsAt H (xs ++ ys) (ms ++ ns)
  | [], _, [], _, _, h => h
  | _ :: _, _, _ :: _, _, ⟨a, t⟩, h => ⟨a, MtsAt.app t h⟩
theorem MtsAt.at {H : Hp} : ∀ {xs : List V} {ms : List Mt} {i : Nat} {v : V}, MtsAt H xs ms → xs[i]? = some v → ∃ q m, v = .ref q ∧ m ∈ ms ∧ H q = some (.tup (mtV m))
  | [], [], _, _, _, h => by simp at h
  | v :: vs, m :: ms, i, w, ⟨⟨q, e, h⟩, t⟩, hi => by
    cases i with
    | zero => cases hi; exact ⟨q, m, e, .head _, h⟩
    | succ i =>
      obtain ⟨q', m', e', hm, h'⟩ := MtsAt.at t (by simpa using hi)
      exact ⟨q', m', e', .tail _ hm, h'⟩
def sp_change : Sp := fun vs H Q _ => ∃ B : Bx, vs = [.ref B.1] ∧ BoxAt H B ∧ ∀ (m : Mt) (q : Addr) (H' : Hp), m ∈ mats → H' q = some (.tup (mtV m)) → Keep B H H' → BoxAt H' B → Q (.ref q) H'
end Pg
open Pg
section
variable {P : Program} {w : World} {K : PySem.W.Frag} {mg : Str → Option Value} {base : Heap}
theorem ok_num {f : Addr} {fd : FuncData} (F : Fun K "_law_number" "_law_number" S__law_number f fd) (T : Txt K mg) (C_draw : FnC P w K mg base CX0 1 "_law_draw" ["_law_deal_here", "_law_many"] sp_draw) : FnOk P w K mg base CX0 3 f fd ["_law_deal_here"] sp_num := by
  refine F.ok SC__law_number (fun vs H Q E h => ?_) (fun cdv A outer s H vs Q E hr h => ?_)
  · obtain ⟨B, rfl, _⟩ := h
    rfl
  · obtain ⟨B, rfl, hb, k⟩ := h
    refine ⟨_, (pss_cons (ps_set (i := 1) SC__law_number.nd rfl (.inl rfl) (pe_callC C_draw (hr.mono (by decide)) rfl (pa_cons (pv 0) (pa_cons pe_int pa_nil))))
      (pss_one (ps_ret (pe_ix ix_list (pe_lstN (pa_cons (pe_callC C_draw (hr.mono (by decide)) rfl (pa_cons (pv 0) (pa_cons pe_int pa_nil))) (pa_cons (pe_op op_sub pe_int (pe_callC C_draw (hr.mono (by decide)) rfl (pa_cons (pv 0) (pa_cons pe_int pa_nil)))) (pa_cons (pe_callC C_draw (hr.mono (by decide)) rfl (pa_cons (pv 0) (pa_cons pe_int pa_nil))) pa_nil)))) (pe_callB (call_max2 rfl) (by rfl) T.b_max (by decide +kernel) (pa_cons pe_int (pa_cons (pe_op op_sub (pv 1) pe_int) pa_nil))) (fun _ _ => rfl))))), ?_⟩
    have W0 := Hb.start hb
    refine ⟨_, rfl, B, _, rfl, hb, by decide, by decide, fun f H1 f0 f1 kp1 hb1 => ?_⟩
    refine ⟨_, rfl, B, _, rfl, hb1, by decide, by decide, fun a H2 a0 a1 kp2 hb2 => ?_⟩
    refine ⟨_, rfl, B, _, rfl, hb2, by decide, by decide, fun b H3 b0 b1 kp3 hb3 => ⟨_, _, rfl, rfl, ?_⟩⟩
    refine ⟨_, rfl, B, _, rfl, hb3, by decide, by decide, fun c H4 c0 c1 kp4 hb4 => ?_⟩
    have W4 := (((W0.keep kp1 hb1).keep kp2 hb2).keep kp3 hb3).keep kp4 hb4
    refine ⟨by show 3 ≤ 1000000; decide, W4.nw fun p H5 _ _ _ W5 => ?_⟩
    refine ⟨_, rfl, _, _, rfl, rfl, _, _, rfl, ?_⟩
    have fin : ∀ i : Int, 0 ≤ i → i < 1000000 → Q (.int i) H5 := fun i i0 i1 => k i H5 i0 i1 W5.tl.kp W5.tl.box
    by_cases c3 : f - 3 > 0
    · rw [if_pos c3]
      have : f - 3 = 1 ∨ f - 3 = 2 := by omega
      rcases this with e | e
      · rw [e]
        exact ⟨p, _, 1, .int (999999 - b), rfl, rfl, SqL.of (W5.get (.head _)), rfl, fin _ (by omega) (by omega)⟩
      · rw [e]
        exact ⟨p, _, 2, .int c, rfl, rfl, SqL.of (W5.get (.head _)), rfl, fin _ (by omega) (by omega)⟩
    · rw [if_neg c3]
      exact ⟨p, _, 0, .int a, rfl, rfl, SqL.of (W5.get (.head _)), rfl, fin _ (by omega) (by omega)⟩
theorem ok_change {f : Addr} {fd : FuncData} (F : Fun K "_law_change" "_law_change" S__law_change f fd) (T : Txt K mg) (C_pick : FnC P w K mg base CX0 2 "_law_pick" ["_law_deal_here", "_law_some"] (sp_pick K)) : FnOk P w K mg base CX0 3 f fd ["_law_deal_here"] sp_change := by
  refine F.ok SC__law_change (fun vs H Q E h => ?_) (fun cdv A outer s H vs Q E hr h => ?_)
  · obtain ⟨B, rfl, _⟩ := h
    rfl
  · obtain ⟨B, rfl, hb, k⟩ := h
    refine ⟨_, (pss_cons (ps_set (i := 1) SC__law_change.nd rfl (.inl rfl) (pe_lstN (pa_cons (pe_tupN (pa_cons pe_int (pa_cons pe_int (pa_cons pe_int (pa_cons pe_int pa_nil))))) (pa_cons (pe_tupN (pa_cons pe_int (pa_cons pe_int (pa_cons pe_int (pa_cons pe_int pa_nil))))) (pa_cons (pe_tupN (pa_cons pe_int (pa_cons pe_int (pa_cons pe_int (pa_cons pe_int pa_nil))))) (pa_cons (pe_tupN (pa_cons pe_int (pa_cons pe_int (pa_cons pe_int (pa_cons pe_int pa_nil))))) (pa_cons (pe_tupN (pa_cons pe_int (pa_cons pe_int (pa_cons pe_int (pa_cons pe_int pa_nil))))) (pa_cons (pe_tupN (pa_cons pe_int (pa_cons pe_int (pa_cons pe_int (pa_cons pe_int pa_nil))))) (pa_cons (pe_tupN (pa_cons pe_int (pa_cons pe_int (pa_cons pe_int (pa_cons pe_int pa_nil))))) pa_nil)))))))))
      (pss_cons (ps_expr (pe_bm PySem.F.plainAttrs_list PySem.F.slot_list_extend PySem.F.type_list_extend mt_extend (pv 1) (pa_cons (pe_lstN (pa_cons (pe_tupN (pa_cons pe_int (pa_cons pe_int (pa_cons pe_int (pa_cons pe_int pa_nil))))) (pa_cons (pe_tupN (pa_cons pe_int (pa_cons pe_int (pa_cons pe_int (pa_cons pe_int pa_nil))))) (pa_cons (pe_tupN (pa_cons pe_int (pa_cons pe_int (pa_cons pe_int (pa_cons pe_int pa_nil))))) (pa_cons (pe_tupN (pa_cons pe_int (pa_cons pe_int (pa_cons pe_int (pa_cons pe_int pa_nil))))) (pa_cons (pe_tupN (pa_cons pe_int (pa_cons pe_int (pa_cons pe_int (pa_cons pe_int pa_nil))))) (pa_cons (pe_tupN (pa_cons pe_int (pa_cons pe_int (pa_cons pe_int (pa_cons pe_int pa_nil))))) (pa_cons (pe_tupN (pa_cons pe_int (pa_cons pe_int (pa_cons pe_int (pa_cons pe_int pa_nil))))) pa_nil)))))))) pa_nil)))
      (pss_cons (ps_expr (pe_bm PySem.F.plainAttrs_list PySem.F.slot_list_extend PySem.F.type_list_extend mt_extend (pv 1) (pa_cons (pe_lstN (pa_cons (pe_tupN (pa_cons pe_int (pa_cons pe_int (pa_cons pe_int (pa_cons pe_int pa_nil))))) (pa_cons (pe_tupN (pa_cons pe_int (pa_cons pe_int (pa_cons pe_int (pa_cons pe_int pa_nil))))) (pa_cons (pe_tupN (pa_cons pe_int (pa_cons pe_int (pa_cons pe_int (pa_cons pe_int pa_nil))))) (pa_cons (pe_tupN (pa_cons pe_int (pa_cons pe_int (pa_cons pe_int (pa_cons pe_int pa_nil))))) (pa_cons (pe_tupN (pa_cons pe_int (pa_cons pe_int (pa_cons pe_int (pa_cons pe_int pa_nil))))) pa_nil)))))) pa_nil)))
      (pss_one (ps_ret (pe_callC C_pick (hr.mono (by decide)) rfl (pa_cons (pv 0) (pa_cons (pe_slice sl_list (pv 1) po_none (po_some (pe_callC C_pick (hr.mono (by decide)) rfl (pa_cons (pv 0) (pa_cons (pe_lstN (pa_cons pe_int (pa_cons pe_int (pa_cons pe_int pa_nil)))) pa_nil))))) pa_nil)))))))), ?_⟩
    have W0 := Hb.start hb
    have le4 : 4 ≤ 1000000 := by decide
    have a0 : MtsAt H [] [] := trivial
    refine ⟨le4, fun aq1 aH1 _ as1 ah1 => ?_⟩
    have a1 := (a0.tk (TK.same as1)).app (show MtsAt aH1 [.ref aq1] [⟨1, 1, 0, 1⟩] from ⟨⟨aq1, rfl, ah1⟩, trivial⟩)
    refine ⟨le4, fun aq2 aH2 _ as2 ah2 => ?_⟩
    have a2 := (a1.tk (TK.same as2)).app (show MtsAt aH2 [.ref aq2] [⟨1, 0, 1, 1⟩] from ⟨⟨aq2, rfl, ah2⟩, trivial⟩)
    refine ⟨le4, fun aq3 aH3 _ as3 ah3 => ?_⟩
    have a3 := (a2.tk (TK.same as3)).app (show MtsAt aH3 [.ref aq3] [⟨2, 1, 1, 1⟩] from ⟨⟨aq3, rfl, ah3⟩, trivial⟩)
    refine ⟨le4, fun aq4 aH4 _ as4 ah4 => ?_⟩
    have a4 := (a3.tk (TK.same as4)).app (show MtsAt aH4 [.ref aq4] [⟨0, 1, 1, 0⟩] from ⟨⟨aq4, rfl, ah4⟩, trivial⟩)
    refine ⟨le4, fun aq5 aH5 _ as5 ah5 => ?_⟩
    have a5 := (a4.tk (TK.same as5)).app (show MtsAt aH5 [.ref aq5] [⟨1, 3, 0, 1⟩] from ⟨⟨aq5, rfl, ah5⟩, trivial⟩)
    refine ⟨le4, fun aq6 aH6 _ as6 ah6 => ?_⟩
    have a6 := (a5.tk (TK.same as6)).app (show MtsAt aH6 [.ref aq6] [⟨5, 2, 2, 1⟩] from ⟨⟨aq6, rfl, ah6⟩, trivial⟩)
    refine ⟨le4, fun aq7 aH7 _ as7 ah7 => ?_⟩
    have a7 := (a6.tk (TK.same as7)).app (show MtsAt aH7 [.ref aq7] [⟨1, 2, 1, 1⟩] from ⟨⟨aq7, rfl, ah7⟩, trivial⟩)
    have sa := (as1.trans (as2.trans (as3.trans (as4.trans (as5.trans (as6.trans as7))))))
    refine ⟨by show 7 ≤ 1000000; decide, (W0.same sa).nw fun l H2 _ _ s2 W2 => ?_⟩
    refine ⟨_, rfl, .inl ⟨rfl, _, SqL.of (W2.get (.head _))⟩, ?_⟩
    have b0 : MtsAt H2 [] [] := trivial
    refine ⟨le4, fun bq1 bH1 _ bs1 bh1 => ?_⟩
    have b1 := (b0.tk (TK.same bs1)).app (show MtsAt bH1 [.ref bq1] [⟨0, 1, 1, 2⟩] from ⟨⟨bq1, rfl, bh1⟩, trivial⟩)
    refine ⟨le4, fun bq2 bH2 _ bs2 bh2 => ?_⟩
    have b2 := (b1.tk (TK.same bs2)).app (show MtsAt bH2 [.ref bq2] [⟨2, 0, 0, 1⟩] from ⟨⟨bq2, rfl, bh2⟩, trivial⟩)
    refine ⟨le4, fun bq3 bH3 _ bs3 bh3 => ?_⟩
    have b3 := (b2.tk (TK.same bs3)).app (show MtsAt bH3 [.ref bq3] [⟨1, 0, 0, 2⟩] from ⟨⟨bq3, rfl, bh3⟩, trivial⟩)
    refine ⟨le4, fun bq4 bH4 _ bs4 bh4 => ?_⟩
    have b4 := (b3.tk (TK.same bs4)).app (show MtsAt bH4 [.ref bq4] [⟨1, 1, 1, 3⟩] from ⟨⟨bq4, rfl, bh4⟩, trivial⟩)
    refine ⟨le4, fun bq5 bH5 _ bs5 bh5 => ?_⟩
    have b5 := (b4.tk (TK.same bs5)).app (show MtsAt bH5 [.ref bq5] [⟨3, 1, 1, 1⟩] from ⟨⟨bq5, rfl, bh5⟩, trivial⟩)
    refine ⟨le4, fun bq6 bH6 _ bs6 bh6 => ?_⟩
    have b6 := (b5.tk (TK.same bs6)).app (show MtsAt bH6 [.ref bq6] [⟨0, 2, 1, 1⟩] from ⟨⟨bq6, rfl, bh6⟩, trivial⟩)
    refine ⟨le4, fun bq7 bH7 _ bs7 bh7 => ?_⟩
    have b7 := (b6.tk (TK.same bs7)).app (show MtsAt bH7 [.ref bq7] [⟨12, 5, 2, 1⟩] from ⟨⟨bq7, rfl, bh7⟩, trivial⟩)
    have sb := (bs1.trans (bs2.trans (bs3.trans (bs4.trans (bs5.trans (bs6.trans bs7))))))
    refine ⟨by show 7 ≤ 1000000; decide, (W2.same sb).nw fun l2 H4 _ _ s4 W4 => ?_⟩
    refine ⟨l, l2, _, _, rfl, rfl, W4.get (.tail _ (.head _)), W4.get (.head _), by show 14 ≤ sizeLine; decide, ?_⟩
    have m4 := ((a7.tk (TK.same s2)).tk (TK.same (sb.trans s4))).app (b7.tk (TK.same s4))
    have W5 := W4.set 1 rfl (.lst ([.ref aq1, .ref aq2, .ref aq3, .ref aq4, .ref aq5, .ref aq6, .ref aq7] ++ [.ref bq1, .ref bq2, .ref bq3, .ref bq4, .ref bq5, .ref bq6, .ref bq7]))
    have m5 := m4.tk (TK.upd (o := .lst ([.ref aq1, .ref aq2, .ref aq3, .ref aq4, .ref aq5, .ref aq6, .ref aq7] ++ [.ref bq1, .ref bq2, .ref bq3, .ref bq4, .ref bq5, .ref bq6, .ref bq7])) (W4.get (.tail _ (.head _))) rfl)
    generalize upd H4 l (.lst ([.ref aq1, .ref aq2, .ref aq3, .ref aq4, .ref aq5, .ref aq6, .ref aq7] ++ [.ref bq1, .ref bq2, .ref bq3, .ref bq4, .ref bq5, .ref bq6, .ref bq7])) = H5 at W5 m5 ⊢
    refine ⟨_, rfl, .inl ⟨rfl, _, SqL.of (W5.get (.tail _ (.head _)))⟩, ?_⟩
    have c0 : MtsAt H5 [] [] := trivial
    refine ⟨le4, fun cq1 cH1 _ cs1 ch1 => ?_⟩
    have c1 := (c0.tk (TK.same cs1)).app (show MtsAt cH1 [.ref cq1] [⟨3, 0, 0, 1⟩] from ⟨⟨cq1, rfl, ch1⟩, trivial⟩)
    refine ⟨le4, fun cq2 cH2 _ cs2 ch2 => ?_⟩
    have c2 := (c1.tk (TK.same cs2)).app (show MtsAt cH2 [.ref cq2] [⟨2, 1, 1, 2⟩] from ⟨⟨cq2, rfl, ch2⟩, trivial⟩)
    refine ⟨le4, fun cq3 cH3 _ cs3 ch3 => ?_⟩
    have c3 := (c2.tk (TK.same cs3)).app (show MtsAt cH3 [.ref cq3] [⟨1, 2, 2, 1⟩] from ⟨⟨cq3, rfl, ch3⟩, trivial⟩)
    refine ⟨le4, fun cq4 cH4 _ cs4 ch4 => ?_⟩
    have c4 := (c3.tk (TK.same cs4)).app (show MtsAt cH4 [.ref cq4] [⟨0, 3, 1, 0⟩] from ⟨⟨cq4, rfl, ch4⟩, trivial⟩)
    refine ⟨le4, fun cq5 cH5 _ cs5 ch5 => ?_⟩
    have c5 := (c4.tk (TK.same cs5)).app (show MtsAt cH5 [.ref cq5] [⟨1, 0, 0, 3⟩] from ⟨⟨cq5, rfl, ch5⟩, trivial⟩)
    have sc := (cs1.trans (cs2.trans (cs3.trans (cs4.trans cs5))))
    refine ⟨by show 5 ≤ 1000000; decide, (W5.same sc).nw fun l3 H7 _ _ s7 W7 => ?_⟩
    refine ⟨l, l3, _, _, rfl, rfl, W7.get (.tail _ (.tail _ (.head _))), W7.get (.head _), by show 19 ≤ sizeLine; decide, ?_⟩
    have m7 := (m5.tk (TK.same (sc.trans s7))).app (c5.tk (TK.same s7))
    have W8 := W7.set 2 rfl (.lst ([.ref aq1, .ref aq2, .ref aq3, .ref aq4, .ref aq5, .ref aq6, .ref aq7] ++ [.ref bq1, .ref bq2, .ref bq3, .ref bq4, .ref bq5, .ref bq6, .ref bq7] ++ [.ref cq1, .ref cq2, .ref cq3, .ref cq4, .ref cq5]))
    have m8 := m7.tk (TK.upd (o := .lst ([.ref aq1, .ref aq2, .ref aq3, .ref aq4, .ref aq5, .ref aq6, .ref aq7] ++ [.ref bq1, .ref bq2, .ref bq3, .ref bq4, .ref bq5, .ref bq6, .ref bq7] ++ [.ref cq1, .ref cq2, .ref cq3, .ref cq4, .ref cq5])) (W7.get (.tail _ (.tail _ (.head _)))) rfl)
    generalize upd H7 l (.lst ([.ref aq1, .ref aq2, .ref aq3, .ref aq4, .ref aq5, .ref aq6, .ref aq7] ++ [.ref bq1, .ref bq2, .ref bq3, .ref bq4, .ref bq5, .ref bq6, .ref bq7] ++ [.ref cq1, .ref cq2, .ref cq3, .ref cq4, .ref cq5])) = H8 at W8 m8 ⊢
    have g8 := W8.get (.tail _ (.tail _ (.head _)))
    have n8 := W8.ne (.tail _ (.tail _ (.head _)))
    have W8 := W8.nil
    clear W7 m7 c5 W5 m5 W4 m4 W2 b7 a7
    have m8 : MtsAt H8 ([.ref aq1, .ref aq2, .ref aq3, .ref aq4, .ref aq5, .ref aq6, .ref aq7] ++ [.ref bq1, .ref bq2, .ref bq3, .ref bq4, .ref bq5, .ref bq6, .ref bq7] ++ [.ref cq1, .ref cq2, .ref cq3, .ref cq4, .ref cq5]) mats := m8
    have l8 : ([.ref aq1, .ref aq2, .ref aq3, .ref aq4, .ref aq5, .ref aq6, .ref aq7] ++ [.ref bq1, .ref bq2, .ref bq3, .ref bq4, .ref bq5, .ref bq6, .ref bq7] ++ [.ref cq1, .ref cq2, .ref cq3, .ref cq4, .ref cq5] : List V).length = 19 := rfl
    generalize ([.ref aq1, .ref aq2, .ref aq3, .ref aq4, .ref aq5, .ref aq6, .ref aq7] ++ [.ref bq1, .ref bq2, .ref bq3, .ref bq4, .ref bq5, .ref bq6, .ref bq7] ++ [.ref cq1, .ref cq2, .ref cq3, .ref cq4, .ref cq5] : List V) = xs at m8 g8 l8
    refine ⟨_, rfl, _, rfl, _, rfl, by show 3 ≤ 1000000; decide, W8.nw fun pl H9 _ _ s9 W9 => ?_⟩
    refine ⟨B, pl, _, rfl, W9.box, (W9.ne (.head _)).1, (W9.ne (.head _)).2, .inl (SqL.of (W9.get (.head _))), by show 0 < 3; decide, by show 3 ≤ 100000; decide, fun d v H10 hv kp10 hb10 => ?_⟩
    have hi : ∃ i : Int, v = .int i ∧ 1 ≤ i := by
      have hm := List.mem_of_getElem? hv
      simp only [List.mem_cons, List.not_mem_nil, or_false] at hm
      rcases hm with rfl | rfl | rfl
      · exact ⟨8, rfl, by decide⟩
      · exact ⟨14, rfl, by decide⟩
      · exact ⟨19, rfl, by decide⟩
    obtain ⟨i, rfl, hi⟩ := hi
    have t10 : TK H8 H10 := (TK.same s9).trans (TK.keep W9.box kp10)
    have W10 := W9.keep kp10 hb10
    refine ⟨i, rfl, l, xs, rfl, SqL.of (kp10 _ _ n8.1 n8.2 (s9 _ _ g8)), fun p hp => ?_⟩
    have W11 := W10.new hp (.lst (cutV xs none (some i)))
    refine ⟨B, p, _, rfl, W11.box, (W11.ne (.head _)).1, (W11.ne (.head _)).2, .inl (SqL.of upd_same), ?_, ?_, fun d' v' H12 hv' kp12 hb12 => ?_⟩
    · have e : HT.sIx xs.length xs.length (some i) = min i.toNat xs.length := if_neg (by omega)
      unfold cutV
      rw [HT.sIx_none, e, List.length_take, List.length_drop]
      omega
    · have := cutV_length xs none (some i)
      omega
    · have hm : v' ∈ xs := List.mem_of_mem_drop (List.mem_of_mem_take (List.mem_of_getElem? hv'))
      obtain ⟨j, hj⟩ := List.mem_iff_getElem?.mp hm
      obtain ⟨q, m, rfl, hmm, hq⟩ := ((m8.tk t10).tk (TK.new hp)).at hj
      have W12 := W11.keep kp12 hb12
      exact k m q H12 hmm (TK.keep W11.box kp12 _ _ rfl hq) W12.kp W12.box
end

/-! ## what the laws over programs draw: worlds and tests -/
namespace Pg
def Tst.Ok : Tst → Prop
  | .holds n k => nameOk n = true ∧ 0 ≤ k ∧ k < 1000000
  | .not t => t.Ok
  | _ => True
/-- a test as data -/
def TstD (H : Hp) : V → Tst → Prop
  | v, .holds n k => ∃ p, v = .ref p ∧ H p = some (.tup [.str "holds", .str n, .int k])
  | v, .not t => ∃ p u, v = .ref p ∧ H p = some (.tup [.str "not", u]) ∧ TstD H u t
  | v, .longer => ∃ p, v = .ref p ∧ H p = some (.tup [.str "longer"])
  | v, .shorter => ∃ p, v = .ref p ∧ H p = some (.tup [.str "shorter"])
  | v, .alike => ∃ p, v = .ref p ∧ H p = some (.tup [.str "alike"])
theorem TstD.tk {H H' : Hp} (s : TK H H') : ∀ {t : Tst} {v : V}, TstD H v t → TstD H' v t
  | .holds n k, _, ⟨p, e, h⟩ => ⟨p, e, s _ _ rfl h⟩
  | .not t, _, ⟨p, u, e, h, r⟩ => ⟨p, u, e, s _ _ rfl h, TstD.tk s r⟩
  | .longer, _, ⟨p, e, h⟩ => ⟨p, e, s _ _ rfl h⟩
  | .shorter, _, ⟨p, e, h⟩ => ⟨p, e, s _ _ rfl h⟩
  | .alike, _, ⟨p, e, h⟩ => ⟨p, e, s _ _ rfl h⟩
/-- notes as pairs -/
def NotesAt (H : Hp) : List V → List (Str × Int) → Prop
  | [], [] => True
  | v :: vs, m :: ms => (∃ q, v = .ref q ∧ H q = some (.tup [.str m.1, .int m.2]) ∧ nameOk m.1 = true ∧ 0 ≤ m.2 ∧ m.2 < 1000000) ∧ NotesAt H vs ms
  | _, _ => False
theorem NotesAt.tk {H H' : Hp} (s : TK H H') : ∀ {xs : List V} {ms : List (Str × Int)}, NotesAt H xs ms → NotesAt H' xs ms
  | [], [], _ => trivial
  | _ :: _, _ :: _, ⟨⟨q, e, h, r⟩, t⟩ => ⟨⟨q, e, s _ _ rfl h, r⟩, NotesAt.tk s t⟩
theorem NotesAt.len {H : Hp} : ∀ {xs : List V} {ms : List (Str × Int)}, NotesAt H xs ms → xs.length = ms.length
  | [], [], _ => rfl
  | _ :: _, _ :: _, ⟨_, t⟩ => congrArg Nat.succ (NotesAt.len t)
theorem NotesAt.at {H : Hp} : ∀ {xs : List V} {ms : List (Str × Int)} {i : Nat} {v : V}, NotesAt H xs ms → xs[i]? = some v → ∃ q m, v = .ref q ∧ m ∈ ms ∧ H q = some (.tup [.str m.1, .int m.2]) ∧ nameOk m.1 = true ∧ 0 ≤ m.2 ∧ m.2 < 1000000
  | [], [], _, _, _, h => by simp at h
  | v :: vs, m :: ms, i, w, ⟨⟨q, e, h, r⟩, t⟩, hi => by
    cases i with
    | zero => cases hi; exact ⟨q, m, e, .head _, h, r⟩
    | succ i =>
      obtain ⟨q', m', e', hm, h'⟩ := NotesAt.at t (by simpa using hi)
      exact ⟨q', m', e', .tail _ hm, h'⟩
/-- a world: notes and marks -/
def WorldAt (B : Bx) (H : Hp) (w : Addr) (ns : List (Str × Int)) (ms : List Str) : Prop := ∃ a b xs, H w = some (.tup [.ref a, .ref b]) ∧ (a ≠ B.1 ∧ a ≠ B.2) ∧ (b ≠ B.1 ∧ b ≠ B.2) ∧ H a = some (.lst xs) ∧ NotesAt H xs ns ∧ ns.length ≤ 2 ∧ H b = some (.lst (ms.map V.str)) ∧ (∀ z ∈ ms, nameOk z = true) ∧ 1 ≤ ms.length ∧ ms.length ≤ 3
theorem WorldAt.keep {B : Bx} {H H' : Hp} {w : Addr} {ns : List (Str × Int)} {ms : List Str} (hb : BoxAt H B) (s : Keep B H H') (h : WorldAt B H w ns ms) : WorldAt B H' w ns ms := by
  obtain ⟨a, b, xs, h1, h2, h3, h4, h5, h6, h7, h8⟩ := h
  have t := TK.keep hb s
  exact ⟨a, b, xs, t _ _ rfl h1, h2, h3, s _ _ h2.1 h2.2 h4, h5.tk t, h6, s _ _ h3.1 h3.2 h7, h8⟩
theorem okLet {z : Str} (h : ∀ c ∈ z.cps.toList, c < 128) : PyData.strOk z = true := by
  unfold PyData.strOk
  rw [← Array.all_toList, List.all_eq_true]
  intro c hc
  exact decide_eq_true (Nat.lt_trans (h c hc) (by decide))
theorem name_low {z : Str} (h : nameOk z = true) : ∀ c ∈ z.cps.toList, c < 128 := by
  unfold nameOk at h
  simp only [Bool.and_eq_true, List.all_eq_true, decide_eq_true_eq] at h
  intro c hc
  have hm := h.2 c hc
  have key : letters.cps.toList.all (fun c => decide (c < 128)) = true := by decide +kernel
  exact of_decide_eq_true (List.all_eq_true.mp key c hm)
theorem name_str {z : Str} (h : nameOk z = true) : PyData.strOk z = true := okLet (name_low h)
def noteD (m : Str × Int) : PyData := .tuple [.str m.1, .int m.2]
theorem NotesAt.dp {K : PySem.W.Frag} {H : Hp} : ∀ {xs : List V} {ms : List (Str × Int)}, NotesAt H xs ms → DpAll K H xs (ms.map noteD)
  | [], [], _ => .nil
  | _ :: _, m :: _, ⟨⟨q, e, h, _⟩, t⟩ => by subst e; exact .cons (.tup (SqT.of h) (.cons (.str m.1) (.cons (.int m.2) .nil))) (NotesAt.dp t)
end Pg
open Pg
section
variable {P : Program} {w : World} {K : PySem.W.Frag} {mg : Str → Option Value} {base : Heap}
end

/-! ## rows as they are drawn -/
namespace Pg
def goals : List V := [.str "alike", .str "longer", .str "shorter"]
mutual
def Rw1.Ok : Rw1 → Prop
  | .make m => m ∈ mats
  | .exch => True
  | .lay => True
  | .put n k => nameOk n = true ∧ 0 ≤ k ∧ k < 1000000
  | .add n k => nameOk n = true ∧ 0 ≤ k ∧ k < 1000000
  | .tell m => nameOk m = true
  | .stop => True
  | .ifb t r o => t.Ok ∧ t.deep ≤ 2 ∧ okL r ∧ okL o
  | .untl g r => inV (.str g) goals = true ∧ laysL r = true ∧ hasMake r = false ∧ okL r
def okL : List Rw1 → Prop
  | [] => True
  | r :: rs => r.Ok ∧ okL rs
end
mutual
def RowD (H : Hp) : V → Rw1 → Prop
  | v, .make m => ∃ p q, v = .ref p ∧ H p = some (.tup [.str "make", .ref q]) ∧ H q = some (.tup (mtV m))
  | v, .exch => ∃ p, v = .ref p ∧ H p = some (.tup [.str "exchange"])
  | v, .lay => ∃ p, v = .ref p ∧ H p = some (.tup [.str "lay"])
  | v, .put n k => ∃ p, v = .ref p ∧ H p = some (.tup [.str "put", .str n, .int k])
  | v, .add n k => ∃ p, v = .ref p ∧ H p = some (.tup [.str "add", .str n, .int k])
  | v, .tell m => ∃ p, v = .ref p ∧ H p = some (.tup [.str "tell", .str m])
  | v, .stop => ∃ p, v = .ref p ∧ H p = some (.tup [.str "stop"])
  | v, .ifb t r o => ∃ p u a b xs ys, v = .ref p ∧ H p = some (.tup [.str "if", u, .ref a, .ref b]) ∧ TstD H u t ∧ H a = some (.tup xs) ∧ RowsD H xs r ∧ H b = some (.tup ys) ∧ RowsD H ys o
  | v, .untl g r => ∃ p a xs, v = .ref p ∧ H p = some (.tup [.str "until", .str g, .ref a]) ∧ H a = some (.tup xs) ∧ RowsD H xs r
def RowsD (H : Hp) : List V → List Rw1 → Prop
  | [], [] => True
  | v :: vs, r :: rs => RowD H v r ∧ RowsD H vs rs
  | _, _ => False
end
section
variable {H H' : Hp}
mutual
theorem RowD.tk (s : TK H H') : ∀ {r : Rw1} {v : V}, RowD H v r → RowD H' v r
  | .make m, _, ⟨p, q, e, h, g⟩ => ⟨p, q, e, s _ _ rfl h, s _ _ rfl g⟩
  | .exch, _, ⟨p, e, h⟩ => ⟨p, e, s _ _ rfl h⟩
  | .lay, _, ⟨p, e, h⟩ => ⟨p, e, s _ _ rfl h⟩
  | .put n k, _, ⟨p, e, h⟩ => ⟨p, e, s _ _ rfl h⟩
  | .add n k, _, ⟨p, e, h⟩ => ⟨p, e, s _ _ rfl h⟩
  | .tell m, _, ⟨p, e, h⟩ => ⟨p, e, s _ _ rfl h⟩
  | .stop, _, ⟨p, e, h⟩ => ⟨p, e, s _ _ rfl h⟩
  | .ifb t r o, _, ⟨p, u, a, b, xs, ys, e, h, ht, h2, hr, h3, ho⟩ => ⟨p, u, a, b, xs, ys, e, s _ _ rfl h, ht.tk s, s _ _ rfl h2, RowsD.tk s hr, s _ _ rfl h3, RowsD.tk s ho⟩
  | .untl g r, _, ⟨p, a, xs, e, h, h2, hr⟩ => ⟨p, a, xs, e, s _ _ rfl h, s _ _ rfl h2, RowsD.tk s hr⟩
theorem RowsD.tk (s : TK H H') : ∀ {rs : List Rw1} {vs : List V}, RowsD H vs rs → RowsD H' vs rs
  | [], [], _ => trivial
  | r :: rs, v :: vs, ⟨h, t⟩ => ⟨RowD.tk s h, RowsD.tk s t⟩
end
theorem RowsD.len : ∀ {rs : List Rw1} {vs : List V}, RowsD H vs rs → vs.length = rs.length
  | [], [], _ => rfl
  | _ :: _, _ :: _, ⟨_, t⟩ => congrArg Nat.succ (RowsD.len t)
theorem RowsD.app : ∀ {xs ys : List V} {rs ss : List Rw1}, RowsD H xs rs → RowsD H ys ss → RowsD H (xs ++ ys) (rs ++ ss)
  | [], _, [], _, _, h => h
  | _ :: _, _, _ :: _, _, ⟨a, t⟩, h => ⟨a, RowsD.app t h⟩
theorem RowsD.take : ∀ {xs : List V} {rs : List Rw1} (i : Nat), RowsD H xs rs → RowsD H (xs.take i) (rs.take i)
  | [], [], _, _ => by rw [List.take_nil, List.take_nil]; trivial
  | _ :: _, _ :: _, 0, _ => trivial
  | _ :: _, _ :: _, i + 1, ⟨a, t⟩ => ⟨a, RowsD.take i t⟩
theorem RowsD.drop : ∀ {xs : List V} {rs : List Rw1} (i : Nat), RowsD H xs rs → RowsD H (xs.drop i) (rs.drop i)
  | [], [], _, _ => by rw [List.drop_nil, List.drop_nil]; trivial
  | _ :: _, _ :: _, 0, h => h
  | _ :: _, _ :: _, i + 1, ⟨_, t⟩ => RowsD.drop i t
theorem RowsD.at : ∀ {rs : List Rw1} {vs : List V} {i : Nat} {v : V}, RowsD H vs rs → vs[i]? = some v → ∃ r, rs[i]? = some r ∧ RowD H v r
  | [], [], i, w, _, hi => by simp at hi
  | r :: rs, v :: vs, i, w, ⟨h, t⟩, hi => by
    cases i with
    | zero => cases hi; exact ⟨r, rfl, h⟩
    | succ i => exact RowsD.at (i := i) (v := w) t (by simpa using hi)
end
/-- how many rows there are within one -/
def szR : Nat → Nat
  | 0 => 1
  | d + 1 => 1 + 4 * szR d
theorem szR_pos : ∀ d, 1 ≤ szR d
  | 0 => Nat.le_refl _
  | d + 1 => Nat.le_add_right _ _
/-- drawn with this depth -/
structure Drawn (d : Nat) (cm : Bool) (r : Rw1) : Prop where
  ok : r.Ok
  dp : r.deep ≤ d
  sz : r.inner.length ≤ szR d
  nm : cm = false → r.inner.any Rw1.isMake = false
def DrawnL (d : Nat) (cm : Bool) (rs : List Rw1) : Prop := ∀ r ∈ rs, Drawn d cm r
theorem DrawnL.ok {d : Nat} {cm : Bool} : ∀ {rs : List Rw1}, DrawnL d cm rs → okL rs
  | [], _ => trivial
  | r :: rs, h => ⟨(h r (.head _)).ok, DrawnL.ok fun x hx => h x (.tail _ hx)⟩
theorem DrawnL.dp {d : Nat} {cm : Bool} : ∀ {rs : List Rw1}, DrawnL d cm rs → deepL rs ≤ d
  | [], _ => Nat.zero_le _
  | r :: rs, h => Nat.max_le.mpr ⟨(h r (.head _)).dp, DrawnL.dp fun x hx => h x (.tail _ hx)⟩
theorem DrawnL.sz {d : Nat} {cm : Bool} : ∀ {rs : List Rw1}, DrawnL d cm rs → (innerL rs).length ≤ rs.length * szR d
  | [], _ => Nat.zero_le _
  | r :: rs, h => by
    have h1 := (h r (.head _)).sz
    have h2 := DrawnL.sz (rs := rs) fun x hx => h x (.tail _ hx)
    show (r.inner ++ innerL rs).length ≤ (rs.length + 1) * szR d
    rw [List.length_append, Nat.add_mul]
    omega
theorem DrawnL.nm {d : Nat} {cm : Bool} (e : cm = false) : ∀ {rs : List Rw1}, DrawnL d cm rs → hasMake rs = false
  | [], _ => rfl
  | r :: rs, h => by
    have h1 := (h r (.head _)).nm e
    have h2 := DrawnL.nm e (rs := rs) fun x hx => h x (.tail _ hx)
    unfold hasMake at h2 ⊢
    show (r.inner ++ innerL rs).any _ = false
    rw [List.any_append, h1, h2]; rfl
theorem Drawn.flat {d : Nat} {cm : Bool} {r : Rw1} (ok : r.Ok) (dp : r.deep = 0) (hi : r.inner = [r]) (mk : cm = false → r.isMake = false) : Drawn d cm r := ⟨ok, by omega, by rw [hi]; exact szR_pos d, fun e => by rw [hi]; show (r.isMake || false) = false; rw [mk e]; rfl⟩
theorem Drawn.ifb {d : Nat} {cm : Bool} {t : Tst} {r o : List Rw1} (ht : t.Ok) (hd : t.deep ≤ 2) (hr : DrawnL d cm r) (ho : DrawnL d cm o) (l1 : r.length ≤ 2) (l2 : o.length ≤ 2) : Drawn (d + 1) cm (.ifb t r o) := by
  have s1 := Nat.le_trans hr.sz (Nat.mul_le_mul_right _ l1)
  have s2 := Nat.le_trans ho.sz (Nat.mul_le_mul_right _ l2)
  refine ⟨⟨ht, hd, hr.ok, ho.ok⟩, Nat.succ_le_succ (Nat.max_le.mpr ⟨hr.dp, ho.dp⟩), ?_, fun e => ?_⟩
  · show (innerL r ++ innerL o).length + 1 ≤ 1 + 4 * szR d
    rw [List.length_append]
    omega
  · have m1 := DrawnL.nm e hr
    have m2 := DrawnL.nm e ho
    unfold hasMake at m1 m2
    show (false || (innerL r ++ innerL o).any _) = false
    rw [List.any_append, m1, m2]; rfl
theorem Drawn.untl {d : Nat} {cm : Bool} {g : Str} {r : List Rw1} (hg : inV (.str g) goals = true) (hl : laysL r = true) (hr : DrawnL d false r) (l1 : r.length ≤ 4) : Drawn (d + 1) cm (.untl g r) := by
  have s1 := Nat.le_trans hr.sz (Nat.mul_le_mul_right _ l1)
  refine ⟨⟨hg, hl, DrawnL.nm rfl hr, hr.ok⟩, Nat.succ_le_succ hr.dp, ?_, fun e => ?_⟩
  · show (innerL r).length + 1 ≤ 1 + 4 * szR d
    omega
  · have m1 := DrawnL.nm rfl hr
    unfold hasMake at m1
    show (false || (innerL r).any _) = false
    rw [m1]; rfl
end Pg
open Pg

/-! ## rows drawn -/
namespace Pg
/-- lists of rows drawn -/
def Lists (H : Hp) (d : Nat) (cm : Bool) : List V → List (List Rw1) → Prop
  | [], [] => True
  | v :: vs, rs :: rss => (∃ p xs, v = .ref p ∧ H p = some (.tup xs) ∧ RowsD H xs rs ∧ DrawnL d cm rs ∧ rs.length ≤ 2) ∧ Lists H d cm vs rss
  | _, _ => False
theorem Lists.tk {H H' : Hp} {d : Nat} {cm : Bool} (s : TK H H') : ∀ {vs : List V} {rss : List (List Rw1)}, Lists H d cm vs rss → Lists H' d cm vs rss
  | [], [], _ => trivial
  | _ :: _, _ :: _, ⟨⟨p, xs, e, h, hr, r⟩, t⟩ => ⟨⟨p, xs, e, s _ _ rfl h, hr.tk s, r⟩, Lists.tk s t⟩
theorem Lists.len {H : Hp} {d : Nat} {cm : Bool} : ∀ {vs : List V} {rss : List (List Rw1)}, Lists H d cm vs rss → vs.length = rss.length
  | [], [], _ => rfl
  | _ :: _, _ :: _, ⟨_, t⟩ => congrArg Nat.succ (Lists.len t)
theorem Lists.app {H : Hp} {d : Nat} {cm : Bool} : ∀ {xs ys : List V} {ms ns : List (List Rw1)}, Lists H d cm xs ms → Lists H d cm ys ns → Lists H d cm (xs ++ ys) (ms ++ ns)
  | [], _, [], _, _, h => h
  | _ :: _, _, _ :: _, _, ⟨a, t⟩, h => ⟨a, Lists.app t h⟩
end Pg
open Pg
section
variable {P : Program} {w : World} {K : PySem.W.Frag} {mg : Str → Option Value} {base : Heap}
end
section
variable {P : Program} {w : World} {K : PySem.W.Frag} {mg : Str → Option Value} {base : Heap}
end

/-! ## the texts that are due -/
namespace Pg
theorem txt_len : ∀ {t : Tst}, t.Ok → t.txt.length ≤ 30 + 4 * t.deep
  | .longer, _ => by show ("longer" : Str).length ≤ 30; decide +kernel
  | .shorter, _ => by show ("shorter" : Str).length ≤ 30; decide +kernel
  | .alike, _ => by show ("alike" : Str).length ≤ 30; decide +kernel
  | .holds n k, ⟨h, h0, h1⟩ => by
    show (n ++ " is " ++ st k).length ≤ 30 + 4 * 0
    have a := name_len h
    have b := st_small h0 (by omega)
    rw [app_len, app_len, l_is]
    omega
  | .not t, h => by
    have a := txt_len (t := t) h
    show (("not " : Str) ++ t.txt).length ≤ 30 + 4 * (t.deep + 1)
    rw [app_len, l_not]
    omega
end Pg
open Pg
section
variable {P : Program} {w : World} {K : PySem.W.Frag} {mg : Str → Option Value} {base : Heap}
end
section
variable {P : Program} {w : World} {K : PySem.W.Frag} {mg : Str → Option Value} {base : Heap}
end

/-! ## rows as they are drawn: their texts, as data -/
namespace Pg
def Low (z : Str) : Prop := ∀ c ∈ z.cps.toList, c < 128
theorem Low.app {a b : Str} (h : Low a) (g : Low b) : Low (a ++ b) := fun c hc => by
  rw [app_l] at hc
  exact (List.mem_append.mp hc).elim (h c) (g c)
theorem Low.lit {a : Str} (h : (a.cps.toList.all fun c => decide (c < 128)) = true) : Low a := fun c hc => of_decide_eq_true (List.all_eq_true.mp h c hc)
theorem low_st (i : Int) : Low (st i) := fun c hc => by
  unfold Ct.st at hc
  rw [Str.ofString_eq_toList] at hc
  simp only [List.mem_map] at hc
  obtain ⟨ch, hm, rfl⟩ := hc
  rcases PyProof.Rows.int_sign i ch hm with h | h
  · exact PySem.digit_ascii h
  · rw [h]; decide
theorem low_tx (m : Mt) : Low (tx m) := by
  unfold tx
  rw [join_cons2, join_cons2, join_cons2, Pg.join_one]
  have s : Low (" " : Str) := .lit (by decide +kernel)
  exact (((low_st _).app s).app ((((low_st _).app s)).app (((low_st _).app s).app (low_st _))))
theorem goal_of {g : Str} (h : inV (.str g) goals = true) : g = "alike" ∨ g = "longer" ∨ g = "shorter" := by
  simp only [goals, inV, List.any_cons, List.any_nil, Bool.or_false, Bool.or_eq_true] at h
  have key : ∀ z : Str, eqV (.str z) (.str g) = true → g = z := fun z e => by
    have e : z = g := by simpa [eqV] using e
    exact e.symm
  rcases h with h | h | h
  · exact .inl (key _ h)
  · exact .inr (.inl (key _ h))
  · exact .inr (.inr (key _ h))
theorem goal_low {g : Str} (h : inV (.str g) goals = true) : Low g := by
  rcases goal_of h with rfl | rfl | rfl <;> exact .lit (by decide +kernel)
theorem low_txt : ∀ {t : Tst}, t.Ok → Low t.txt
  | .longer, _ => .lit (by decide +kernel)
  | .shorter, _ => .lit (by decide +kernel)
  | .alike, _ => .lit (by decide +kernel)
  | .holds n k, ⟨h, _⟩ => ((show Low n from name_low h).app (b := " is ") (.lit (by decide +kernel))).app (low_st k)
  | .not t, h => (Low.lit (a := "not ") (by decide +kernel)).app (low_txt (t := t) h)
def LowL (ss : List Str) : Prop := ∀ z ∈ ss, Low z
theorem LowL.app {a b : List Str} (h : LowL a) (g : LowL b) : LowL (a ++ b) := fun z hz => (List.mem_append.mp hz).elim (h z) (g z)
theorem LowL.one {z : Str} (h : Low z) : LowL [z] := fun y hy => by rw [List.mem_singleton.mp hy]; exact h
theorem LowL.cons {z : Str} {ss : List Str} (h : Low z) (g : LowL ss) : LowL (z :: ss) := fun y hy => (List.mem_cons.mp hy).elim (fun e => by rw [e]; exact h) (g y)
theorem LowL.els {o : List Rw1} {l : List Str} (h : LowL l) : LowL (elseL o l) := by
  cases o with
  | nil => exact nofun
  | cons _ _ => exact .cons (.lit (by decide +kernel)) h
mutual
theorem low_lines : ∀ {r : Rw1}, r.Ok → LowL r.lines
  | .make m, _ => .one ((Low.lit (a := "make ") (by decide +kernel)).app (low_tx m))
  | .exch, _ => .one (.lit (by decide +kernel))
  | .lay, _ => .one (.lit (by decide +kernel))
  | .put n k, ⟨h, _⟩ => .one ((((Low.lit (a := "put ") (by decide +kernel)).app (show Low n from name_low h)).app (b := " ") (.lit (by decide +kernel))).app (low_st k))
  | .add n k, ⟨h, _⟩ => .one ((((Low.lit (a := "add ") (by decide +kernel)).app (show Low n from name_low h)).app (b := " ") (.lit (by decide +kernel))).app (low_st k))
  | .tell m, h => .one ((Low.lit (a := "tell ") (by decide +kernel)).app (show Low m from name_low h))
  | .stop, _ => .one (.lit (by decide +kernel))
  | .ifb t r o, ⟨ht, _, hr, ho⟩ => .cons ((Low.lit (a := "if ") (by decide +kernel)).app (low_txt ht)) ((low_linesL hr).app ((LowL.els (low_linesL ho)).app (.one (.lit (by decide +kernel)))))
  | .untl g r, ⟨hg, _, _, hr⟩ => .cons ((Low.lit (a := "until ") (by decide +kernel)).app (goal_low hg)) ((low_linesL hr).app (.one (.lit (by decide +kernel))))
theorem low_linesL : ∀ {rs : List Rw1}, okL rs → LowL (linesL rs)
  | [], _ => nofun
  | _ :: _, ⟨h, t⟩ => (low_lines h).app (low_linesL t)
end
/-- sizes -/
theorem sum_app (a b : List Str) : sumL (a ++ b) = sumL a + sumL b := by
  simp only [sumL_eq, List.map_append, List.sum_append, List.length_append]
  omega
theorem sum_cons (z : Str) (b : List Str) : sumL (z :: b) = z.length + 1 + sumL b := by
  rw [show z :: b = [z] ++ b from rfl, sum_app, sumL_one]
theorem sum_els (o : List Rw1) (l : List Str) : sumL (elseL o l) ≤ 5 + sumL l := by
  cases o with
  | nil => exact Nat.zero_le _
  | cons _ _ =>
    show sumL (("else" : Str) :: l) ≤ _
    rw [sum_cons, l_else]
    omega
theorem mats_in {m : Mt} (h : m ∈ mats) : m.In 40 := by
  have key : ∀ m ∈ mats, (0 ≤ m.a ∧ m.a < 2 ^ 40) ∧ (0 ≤ m.b ∧ m.b < 2 ^ 40) ∧ (0 ≤ m.c ∧ m.c < 2 ^ 40) ∧ (0 ≤ m.d ∧ m.d < 2 ^ 40) := by
    simp only [mats, List.mem_cons, List.not_mem_nil, or_false]
    rintro m (rfl | rfl | rfl | rfl | rfl | rfl | rfl | rfl | rfl | rfl | rfl | rfl | rfl | rfl | rfl | rfl | rfl | rfl | rfl) <;> decide
  obtain ⟨⟨a, b⟩, ⟨c, d⟩, ⟨e, f⟩, ⟨g, i⟩⟩ := key m h
  exact { a0 := a, a1 := b, b0 := c, b1 := d, c0 := e, c1 := f, d0 := g, d1 := i }
mutual
theorem sum_lines : ∀ {r : Rw1}, r.Ok → sumL r.lines ≤ 100 * r.inner.length
  | .make m, h => by
    have l := tx_len (mats_in h)
    show sumL [("make " : Str) ++ tx m] ≤ 100 * 1
    rw [sumL_one, app_len, l_make]; omega
  | .exch, _ => by show sumL [("exchange" : Str)] ≤ 100; rw [sumL_one]; decide +kernel
  | .lay, _ => by show sumL [("lay" : Str)] ≤ 100; rw [sumL_one]; decide +kernel
  | .put n k, ⟨h, h0, h1⟩ => by
    have a := name_len h
    have b := st_small h0 (by omega)
    show sumL [("put " : Str) ++ n ++ " " ++ st k] ≤ 100 * 1
    rw [sumL_one, app_len, app_len, app_len, l_put, l_sp]; omega
  | .add n k, ⟨h, h0, h1⟩ => by
    have a := name_len h
    have b := st_small h0 (by omega)
    show sumL [("add " : Str) ++ n ++ " " ++ st k] ≤ 100 * 1
    rw [sumL_one, app_len, app_len, app_len, l_add, l_sp]; omega
  | .tell m, h => by
    have a := name_len h
    show sumL [("tell " : Str) ++ m] ≤ 100 * 1
    rw [sumL_one, app_len, l_tell]; omega
  | .stop, _ => by show sumL [("stop" : Str)] ≤ 100; rw [sumL_one]; decide +kernel
  | .ifb t r o, ⟨ht, hd, hr, ho⟩ => by
    have a := txt_len ht
    have b := sum_linesL hr
    have c := sum_linesL ho
    have e := sum_els o (linesL o)
    show sumL ((("if " : Str) ++ t.txt) :: (linesL r ++ (elseL o (linesL o) ++ [("end" : Str)]))) ≤ 100 * (innerL r ++ innerL o).length.succ
    rw [sum_cons, sum_app, sum_app, sumL_one, app_len, l_if, l_end, List.length_append]
    omega
  | .untl g r, ⟨hg, _, _, hr⟩ => by
    have b := sum_linesL hr
    have l : g.length ≤ 7 := by rcases goal_of hg with rfl | rfl | rfl <;> decide +kernel
    show sumL ((("until " : Str) ++ g) :: (linesL r ++ [("end" : Str)])) ≤ 100 * (innerL r).length.succ
    rw [sum_cons, sum_app, sumL_one, app_len, l_until, l_end]
    omega
theorem sum_linesL : ∀ {rs : List Rw1}, okL rs → sumL (linesL rs) ≤ 100 * (innerL rs).length
  | [], _ => Nat.zero_le _
  | r :: rs, ⟨h, t⟩ => by
    have a := sum_lines h
    have b := sum_linesL t
    show sumL (r.lines ++ linesL rs) ≤ 100 * (r.inner ++ innerL rs).length
    rw [sum_app, List.length_append]
    omega
end
/-- as data -/
theorem tst_dep : ∀ t : Tst, PyData.depth t.d ≤ t.deep + 2
  | .longer => Nat.le_of_ble_eq_true rfl
  | .shorter => Nat.le_of_ble_eq_true rfl
  | .alike => Nat.le_of_ble_eq_true rfl
  | .holds _ _ => Nat.le_of_ble_eq_true rfl
  | .not t => by
    have a := tst_dep t
    show max 0 (max (PyData.depth t.d) 0) + 1 ≤ t.deep + 1 + 2
    omega
mutual
theorem row_dep : ∀ {r : Rw1}, r.Ok → PyData.depth r.d ≤ 2 * r.deep + 6
  | .make m, _ => Nat.le_of_ble_eq_true rfl
  | .exch, _ => Nat.le_of_ble_eq_true rfl
  | .lay, _ => Nat.le_of_ble_eq_true rfl
  | .put _ _, _ => Nat.le_of_ble_eq_true rfl
  | .add _ _, _ => Nat.le_of_ble_eq_true rfl
  | .tell _, _ => Nat.le_of_ble_eq_true rfl
  | .stop, _ => Nat.le_of_ble_eq_true rfl
  | .ifb t r o, ⟨ht, hd, hr, ho⟩ => by
    have a := tst_dep t
    have b := rows_dep hr
    have c := rows_dep ho
    show max 0 (max (PyData.depth t.d) (max (PyData.depthAll (dL r) + 1) (max (PyData.depthAll (dL o) + 1) 0))) + 1 ≤ 2 * (max (deepL r) (deepL o) + 1) + 6
    omega
  | .untl g r, ⟨hg, _, _, hr⟩ => by
    have b := rows_dep hr
    show max 0 (max 0 (max (PyData.depthAll (dL r) + 1) 0)) + 1 ≤ 2 * (deepL r + 1) + 6
    omega
theorem rows_dep : ∀ {rs : List Rw1}, okL rs → PyData.depthAll (dL rs) ≤ 2 * deepL rs + 6
  | [], _ => Nat.zero_le _
  | r :: rs, ⟨h, t⟩ => by
    have a := row_dep h
    have b := rows_dep t
    show max (PyData.depth r.d) (PyData.depthAll (dL rs)) ≤ 2 * max r.deep (deepL rs) + 6
    omega
end
theorem tst_can : ∀ {t : Tst}, t.Ok → PyData.canLay0 t.d = true
  | .longer, _ => by decide +kernel
  | .shorter, _ => by decide +kernel
  | .alike, _ => by decide +kernel
  | .holds n k, ⟨h, _⟩ => by
    show (PyData.strOk "holds" && (PyData.strOk n && (true && true))) = true
    rw [name_str h]; decide +kernel
  | .not t, h => by
    show (PyData.strOk "not" && (PyData.canLay0 t.d && true)) = true
    rw [tst_can (t := t) h]; decide +kernel
mutual
theorem row_can : ∀ {r : Rw1}, r.Ok → PyData.canLay0 r.d = true
  | .make m, _ => by
    show (PyData.strOk "make" && ((true && (true && (true && (true && true)))) && true)) = true
    decide +kernel
  | .exch, _ => by decide +kernel
  | .lay, _ => by decide +kernel
  | .put n k, ⟨h, _⟩ => by
    show (PyData.strOk "put" && (PyData.strOk n && (true && true))) = true
    rw [name_str h]; decide +kernel
  | .add n k, ⟨h, _⟩ => by
    show (PyData.strOk "add" && (PyData.strOk n && (true && true))) = true
    rw [name_str h]; decide +kernel
  | .tell m, h => by
    show (PyData.strOk "tell" && (PyData.strOk m && true)) = true
    rw [name_str h]; decide +kernel
  | .stop, _ => by decide +kernel
  | .ifb t r o, ⟨ht, hd, hr, ho⟩ => by
    show (PyData.strOk "if" && (PyData.canLay0 t.d && (PyData.canLayAll0 (dL r) && (PyData.canLayAll0 (dL o) && true)))) = true
    rw [tst_can ht, rows_can hr, rows_can ho]; decide +kernel
  | .untl g r, ⟨hg, _, _, hr⟩ => by
    show (PyData.strOk "until" && (PyData.strOk g && (PyData.canLayAll0 (dL r) && true))) = true
    rw [okLet (goal_low hg), rows_can hr]; decide +kernel
theorem rows_can : ∀ {rs : List Rw1}, okL rs → PyData.canLayAll0 (dL rs) = true
  | [], _ => rfl
  | r :: rs, ⟨h, t⟩ => by
    show (PyData.canLay0 r.d && PyData.canLayAll0 (dL rs)) = true
    rw [row_can h, rows_can t]; rfl
end
section
variable {K : PySem.W.Frag} {H : Hp}
theorem TstD.dp : ∀ {t : Tst} {v : V}, TstD H v t → Dp K H v t.d
  | .longer, _, ⟨p, e, h⟩ => by subst e; exact .tup (SqT.of h) (.cons (.str _) .nil)
  | .shorter, _, ⟨p, e, h⟩ => by subst e; exact .tup (SqT.of h) (.cons (.str _) .nil)
  | .alike, _, ⟨p, e, h⟩ => by subst e; exact .tup (SqT.of h) (.cons (.str _) .nil)
  | .holds n k, _, ⟨p, e, h⟩ => by subst e; exact .tup (SqT.of h) (.cons (.str _) (.cons (.str _) (.cons (.int _) .nil)))
  | .not t, _, ⟨p, u, e, h, r⟩ => by subst e; exact .tup (SqT.of h) (.cons (.str _) (.cons (TstD.dp r) .nil))
mutual
theorem RowD.dp : ∀ {r : Rw1} {v : V}, RowD H v r → Dp K H v r.d
  | .make m, _, ⟨p, q, e, h, g⟩ => by subst e; exact .tup (SqT.of h) (.cons (.str _) (.cons (.tup (SqT.of g) (.cons (.int _) (.cons (.int _) (.cons (.int _) (.cons (.int _) .nil))))) .nil))
  | .exch, _, ⟨p, e, h⟩ => by subst e; exact .tup (SqT.of h) (.cons (.str _) .nil)
  | .lay, _, ⟨p, e, h⟩ => by subst e; exact .tup (SqT.of h) (.cons (.str _) .nil)
  | .put n k, _, ⟨p, e, h⟩ => by subst e; exact .tup (SqT.of h) (.cons (.str _) (.cons (.str _) (.cons (.int _) .nil)))
  | .add n k, _, ⟨p, e, h⟩ => by subst e; exact .tup (SqT.of h) (.cons (.str _) (.cons (.str _) (.cons (.int _) .nil)))
  | .tell m, _, ⟨p, e, h⟩ => by subst e; exact .tup (SqT.of h) (.cons (.str _) (.cons (.str _) .nil))
  | .stop, _, ⟨p, e, h⟩ => by subst e; exact .tup (SqT.of h) (.cons (.str _) .nil)
  | .ifb t r o, _, ⟨p, u, a, b, xs, ys, e, h, ht, h2, hr, h3, ho⟩ => by subst e; exact .tup (SqT.of h) (.cons (.str _) (.cons ht.dp (.cons (.tup (SqT.of h2) (RowsD.dp hr)) (.cons (.tup (SqT.of h3) (RowsD.dp ho)) .nil))))
  | .untl g r, _, ⟨p, a, xs, e, h, h2, hr⟩ => by subst e; exact .tup (SqT.of h) (.cons (.str _) (.cons (.str _) (.cons (.tup (SqT.of h2) (RowsD.dp hr)) .nil)))
theorem RowsD.dp : ∀ {rs : List Rw1} {vs : List V}, RowsD H vs rs → DpAll K H vs (dL rs)
  | [], [], _ => .nil
  | _ :: _, _ :: _, ⟨h, t⟩ => .cons (RowD.dp h) (RowsD.dp t)
end
end
end Pg
open Pg

/-! ## tests and rows made of data -/
namespace Pg
section
variable {X : Cx} {k : Nat} {x : Str} {C : Addr} {ps : List Str} {sp : Sp} {p pos : Pos}
theorem pe_make0C (F : MkC X.prog X.w X.K X.mg X.base CX0 k C x ps sp) (hr : Room (k + 1) X.A) (hg : Gl X x) (hdb : (x == ("__debug__" : Str)) = false := by decide) : PE X (.Call (.Name x p) [] [] pos) (tMake C sp [] E0 tNil) := by
  obtain ⟨f, fd, hf, M, hm, hb⟩ := F.ex
  exact pe_make0 M hf hr hg hm hb .nil (fun _ _ _ _ _ _ _ z => (show False from z).elim) hdb
end
theorem mk_sm {H H' : Hp} {x dx C : Addr} (nx : H x = none) (nd : H dx = none) (kp : ∀ b o, b ≠ x → (upd (upd H dx (.own x)) x (.ins C dx [])) b = some o → H' b = some o) : Same H H' := Same.made nx nd fun b o e n => kp b o n e
theorem mk_at {H : Hp} {x dx C : Addr} (nx : H x = none) (nd : H dx = none) : Same H (upd (upd H dx (.own x)) x (.ins C dx [])) := fun b o e => by rw [upd_ne (ne_of_none e nx), upd_ne (ne_of_none e nd)]; exact e
theorem mk_nn {K : PySem.W.Frag} {H : Hp} {IR C x dx : Addr} {n : Str} {i : Int} {P : Hp → Addr → Str → Int → Prop} {Q : VK} (nx : H x = none) (nd : H dx = none) (nk : nameOk n = true) (i0 : 0 ≤ i) (i1 : i < 1000000) (k : ∀ H', Same H H' → P H' x n i → Q (.ref x) H') :
    calm (sp_nn K IR C P) (.ref x :: ([.str n, .int i] ++ [])) (upd (upd H dx (.own x)) x (.ins C dx [])) (fun v H2 => v = .non ∧ Q (.ref x) H2) E0 := by
  refine ⟨x, dx, .str n, .int i, rfl, upd_same, ?_, ?_, fun z e => ?_, fun j e _ => ?_, fun z j e1 e2 _ _ H' kp hp => ?_, fun e => ?_, fun _ e => ?_⟩
  · exact Kd.str _
  · exact Kd.int _
  · cases e
    have := name_len nk
    omega
  · cases e
    omega
  · cases e1
    cases e2
    exact ⟨rfl, k H' (mk_sm nx nd kp) hp⟩
  · have e : nameOk n = false := e
    rw [nk] at e
    cases e
  · exact absurd i0 (of_decide_eq_false e)
end Pg
open Pg
/-- the classes of tests, as they are made -/
structure MkT (P : Program) (w : World) (K : PySem.W.Frag) (mg : Str → Option Value) (base : Heap) (c : Clz) (IR : Addr) : Prop where
  longer : MkC P w K mg base CX0 4 c.longer "Longer" ["self"] (sp_rinit K c c.longer fun H p => TstAt K c H p .longer)
  shorter : MkC P w K mg base CX0 4 c.shorter "Shorter" ["self"] (sp_rinit K c c.shorter fun H p => TstAt K c H p .shorter)
  alike : MkC P w K mg base CX0 4 c.alike "Alike" ["self"] (sp_rinit K c c.alike fun H p => TstAt K c H p .alike)
  holds : MkC P w K mg base CX0 6 c.holds "Holds" ["self", "note", "number"] (calm (sp_nn K IR c.holds fun H x z i => TstAt K c H x (.holds z i)))
  not : MkC P w K mg base CX0 6 c.not "Not" ["self", "test"] (calm (sp_not K c IR))
section
variable {P : Program} {w : World} {K : PySem.W.Frag} {mg : Str → Option Value} {base : Heap}
end
section
variable {P : Program} {w : World} {K : PySem.W.Frag} {mg : Str → Option Value} {base : Heap}
end
/-! ### rows -/
/-- the classes of rows, as they are made -/
structure MkR (P : Program) (w : World) (K : PySem.W.Frag) (mg : Str → Option Value) (base : Heap) (c : Clz) (IR IC : Addr) : Prop where
  make : MkC P w K mg base CX0 6 c.make "Make" ["self", "change"] (calm (sp_make K c IR))
  exch : MkC P w K mg base CX0 4 c.exch "Exchange" ["self"] (sp_rinit K c c.exch fun H p => RowAt K c H p .exch)
  lay : MkC P w K mg base CX0 4 c.lay "Lay" ["self"] (sp_rinit K c c.lay fun H p => RowAt K c H p .lay)
  stop : MkC P w K mg base CX0 4 c.stop "Stop" ["self"] (sp_rinit K c c.stop fun H p => RowAt K c H p .stop)
  put : MkC P w K mg base CX0 6 c.put "Put" ["self", "note", "number"] (calm (sp_nn K IR c.put fun H x z i => RowAt K c H x (.put z i)))
  add : MkC P w K mg base CX0 6 c.add "Add" ["self", "note", "number"] (calm (sp_nn K IR c.add fun H x z i => RowAt K c H x (.add z i)))
  tell : MkC P w K mg base CX0 6 c.tell "Tell" ["self", "mark"] (calm (sp_mark K c IR))
  ifb : MkC P w K mg base CX0 6 c.ifb "If" ["self", "test", "rows", "others"] (calm (sp_if K c IR))
  untl : MkC P w K mg base CX0 14 c.untl "Until" ["self", "goal", "rows"] (calm (sp_untl K c IR 4))
  change : MkC P w K mg base CX0 4 c.change "Change" ["self", "a", "b", "c", "d"] (calm (sp_chinit c.change IC K))
namespace Pg
theorem mats_det {m : Mt} (h : m ∈ mats) : m.a * m.d ≠ m.b * m.c := by
  have key : ∀ m ∈ mats, m.a * m.d ≠ m.b * m.c := by
    simp only [mats, List.mem_cons, List.not_mem_nil, or_false]
    rintro m (rfl | rfl | rfl | rfl | rfl | rfl | rfl | rfl | rfl | rfl | rfl | rfl | rfl | rfl | rfl | rfl | rfl | rfl | rfl) <;> decide
  exact key m h
theorem nat_lt {i : Int} (h0 : 0 ≤ i) (h : i < 2 ^ 40) : i.natAbs < 2 ^ 1000 := Nat.lt_of_lt_of_le (show i.natAbs < 2 ^ 40 by omega) (by decide)
end Pg
section
variable {P : Program} {w : World} {K : PySem.W.Frag} {mg : Str → Option Value} {base : Heap}
end
section
variable {P : Program} {w : World} {K : PySem.W.Frag} {mg : Str → Option Value} {base : Heap}
end

/-! ## programs: steps, states, runs (plain) -/
namespace Pg
/-- a step: what is done (0 a row, 1 a test, 2 a look, 3 a way back), the number of the row, the row, where it goes on else -/
structure PSt where
  kind : Nat
  no : Nat
  row : Rw1
  to : Nat
mutual
def stepsR : Rw1 → Nat → Nat → List PSt
  | .ifb t r o, n, s => ⟨1, n, .ifb t r o, s + 2 + (stepsL r (n + 1) (s + 1)).length⟩ :: (stepsL r (n + 1) (s + 1) ++ (⟨3, n, .ifb t r o, s + 2 + (stepsL r (n + 1) (s + 1)).length + (stepsL o (n + 1 + (innerL r).length) (s + 2 + (stepsL r (n + 1) (s + 1)).length)).length⟩ :: stepsL o (n + 1 + (innerL r).length) (s + 2 + (stepsL r (n + 1) (s + 1)).length)))
  | .untl g r, n, s => ⟨2, n, .untl g r, s + 2 + (stepsL r (n + 1) (s + 1)).length⟩ :: (stepsL r (n + 1) (s + 1) ++ [⟨3, n, .untl g r, s⟩])
  | .make m, n, _ => [⟨0, n, .make m, 0⟩]
  | .exch, n, _ => [⟨0, n, .exch, 0⟩]
  | .lay, n, _ => [⟨0, n, .lay, 0⟩]
  | .put z k, n, _ => [⟨0, n, .put z k, 0⟩]
  | .add z k, n, _ => [⟨0, n, .add z k, 0⟩]
  | .tell m, n, _ => [⟨0, n, .tell m, 0⟩]
  | .stop, n, _ => [⟨0, n, .stop, 0⟩]
def stepsL : List Rw1 → Nat → Nat → List PSt
  | [], _, _ => []
  | r :: rs, n, s => stepsR r n s ++ stepsL rs (n + r.inner.length) (s + (stepsR r n s).length)
end
theorem stepsR_flat {r : Rw1} (h : r.plain = true) (n s : Nat) : stepsR r n s = [⟨0, n, r, 0⟩] := by
  cases r <;> first | rfl | cases h
theorem stepsL_app : ∀ (a b : List Rw1) (n s : Nat), stepsL (a ++ b) n s = stepsL a n s ++ stepsL b (n + (innerL a).length) (s + (stepsL a n s).length)
  | [], _, _, _ => rfl
  | r :: a, b, n, s => by
    show stepsR r n s ++ stepsL (a ++ b) _ _ = (stepsR r n s ++ stepsL a _ _) ++ stepsL b (n + (r.inner ++ innerL a).length) (s + (stepsR r n s ++ stepsL a _ _).length)
    rw [stepsL_app a b, List.append_assoc, List.length_append, List.length_append]
    congr 3 <;> omega
mutual
theorem stepsR_len : ∀ (r : Rw1) (n s : Nat), (stepsR r n s).length ≤ 2 * r.inner.length
  | .ifb t r o, n, s => by
    have h1 := stepsL_len r (n + 1) (s + 1)
    have h2 := stepsL_len o (n + 1 + (innerL r).length) (s + 2 + (stepsL r (n + 1) (s + 1)).length)
    show (_ :: (stepsL r (n + 1) (s + 1) ++ (_ :: stepsL o (n + 1 + (innerL r).length) (s + 2 + (stepsL r (n + 1) (s + 1)).length)))).length ≤ 2 * ((innerL r ++ innerL o).length + 1)
    rw [List.length_cons, List.length_append, List.length_cons, List.length_append]
    omega
  | .untl g r, n, s => by
    have h1 := stepsL_len r (n + 1) (s + 1)
    show (_ :: (stepsL r (n + 1) (s + 1) ++ [_])).length ≤ 2 * ((innerL r).length + 1)
    rw [List.length_cons, List.length_append, List.length_singleton]
    omega
  | .make m, _, _ => Nat.le_succ _
  | .exch, _, _ => Nat.le_succ _
  | .lay, _, _ => Nat.le_succ _
  | .put _ _, _, _ => Nat.le_succ _
  | .add _ _, _, _ => Nat.le_succ _
  | .tell _, _, _ => Nat.le_succ _
  | .stop, _, _ => Nat.le_succ _
theorem stepsL_len : ∀ (rs : List Rw1) (n s : Nat), (stepsL rs n s).length ≤ 2 * (innerL rs).length
  | [], _, _ => Nat.le_refl _
  | r :: rs, n, s => by
    have h1 := stepsR_len r n s
    have h2 := stepsL_len rs (n + r.inner.length) (s + (stepsR r n s).length)
    show (stepsR r n s ++ stepsL rs _ _).length ≤ 2 * (r.inner ++ innerL rs).length
    rw [List.length_append, List.length_append]
    omega
end
/-- what happened -/
inductive Ev
  | mark (z : Str) | row (n : Nat) | let_ (z : Str)
/-- a state: rests, rods, events, layings, whether it was stopped -/
structure Rs where
  rests : List Int
  num : Mt
  ev : List Ev
  lay : Nat
  stop : Bool
/-- how the first rod stands to the second one -/
def ordM (m : Mt) : Option Int := if m.a = m.c ∧ m.b = m.d then some 0 else if m.c ≤ m.a ∧ m.d ≤ m.b then some 1 else if m.a ≤ m.c ∧ m.b ≤ m.d then some (-1) else none
def layM (m : Mt) : Mt := if ordM m = some 1 then ⟨m.a - m.c, m.b - m.d, m.c, m.d⟩ else ⟨m.a, m.b, m.c - m.a, m.d - m.b⟩
def layS (s : Rs) : Rs := if ordM s.num = some 0 then s else { s with num := layM s.num, lay := s.lay + 1 }
def layL (s : Rs) : Str := if ordM s.num = some 0 then "" else if ordM s.num = some 1 then "r" else "l"
/-- the place of a note, its modulus -/
def plN (ns : List (Str × Int)) (z : Str) : Nat := ns.findIdx fun m => decide (m.1 = z)
def mdN (ns : List (Str × Int)) (z : Str) : Int := ((ns[plN ns z]?).map (·.2)).getD 1
def heldN (ns : List (Str × Int)) (s : Rs) (z : Str) : Int := (s.rests[plN ns z]?).getD 0
def holdsT (ns : List (Str × Int)) (s : Rs) : Tst → Bool
  | .not t => !holdsT ns s t
  | .holds z k => decide (heldN ns s z = k % mdN ns z)
  | .alike => decide (ordM s.num = some 0)
  | .longer => decide (ordM s.num = some 1)
  | .shorter => decide (ordM s.num = some (-1))
def wantsT : Tst → Bool
  | .not t => wantsT t
  | .holds _ _ => false
  | _ => true
def goalV (g : Str) : Int := if g = "alike" then 0 else if g = "longer" then 1 else -1
/-- a row that is no block -/
def doR (ns : List (Str × Int)) (s : Rs) : Rw1 → Rs
  | .lay => layS s
  | .make m => { s with num := m.mul s.num }
  | .exch => { s with num := (⟨0, 1, 1, 0⟩ : Mt).mul s.num }
  | .tell z => { s with ev := s.ev ++ [.mark z] }
  | .put z k => { s with rests := s.rests.set (plN ns z) (k % mdN ns z) }
  | .add z k => { s with rests := s.rests.set (plN ns z) ((heldN ns s z + k) % mdN ns z) }
  | .stop => { s with stop := true }
  | _ => s
def rowEv (s : Rs) (n : Nat) : Rs := { s with ev := s.ev ++ [.row n] }
def isStop : Rw1 → Bool
  | .stop => true
  | _ => false
def loops (s : Rs) (g : Str) : Bool := decide (ordM s.num = some 0) || decide (ordM s.num = some (goalV g))
/-- one step; n: how many there are -/
def step1 (ns : List (Str × Int)) (n : Nat) (p : PSt) (i : Nat) (s : Rs) : Nat × Rs :=
  match p.kind with
  | 3 => (p.to, s)
  | 1 => match p.row with
    | .ifb t _ _ => (if holdsT ns (rowEv s p.no) t then i + 1 else p.to, rowEv s p.no)
    | _ => (i + 1, rowEv s p.no)
  | 2 => match p.row with
    | .untl g _ => (if loops (rowEv s p.no) g then p.to else i + 1, rowEv s p.no)
    | _ => (i + 1, rowEv s p.no)
  | _ => (if isStop p.row then n else i + 1, doR ns (rowEv s p.no) p.row)
/-- whether the next step waits -/
def waitsAt (ps : List PSt) (i : Nat) (m : Mt) : Bool :=
  if ordM m = none then match ps[i]? with
    | none => true
    | some p => match p.kind with
      | 1 => match p.row with
        | .ifb t _ _ => wantsT t
        | _ => false
      | 2 => true
      | 0 => match p.row with
        | .lay => true
        | _ => false
      | _ => false
  else false
/-- what a state must be for a step -/
structure Rs.Ok (ns : List (Str × Int)) (s : Rs) : Prop where
  len : s.rests.length = ns.length
  num : s.num.In 990
  ev : s.ev.length ≤ 900000
/-- it goes on until it is behind its end, or waits -/
inductive Goes (ns : List (Str × Int)) (ps : List PSt) : Nat → Nat → Rs → Nat → Rs → Prop
  | fin {i : Nat} {s : Rs} (l : i ≤ ps.length) (h : i = ps.length ∨ waitsAt ps i s.num = true) : Goes ns ps 0 i s i s
  | step {n i j : Nat} {s s' : Rs} {p : PSt} (h : ps[i]? = some p) (hw : waitsAt ps i s.num = false) (ok : s.Ok ns) (g : Goes ns ps n (step1 ns ps.length p i s).1 (step1 ns ps.length p i s).2 j s') : Goes ns ps (n + 1) i s j s'
end Pg
open Pg

/-! ## the steps of rows -/
namespace Pg
/-- the module's names of steps -/
structure SG (mg : Str → Option Value) : Prop where
  do_ : GS mg "DO" "do"
  test : GS mg "TEST" "test"
  look : GS mg "LOOK" "look"
  go : GS mg "GO" "go"
def Rw1.rk : Rw1 → Nat
  | .make _ => 0
  | .exch => 1
  | .lay => 2
  | .put _ _ => 3
  | .add _ _ => 4
  | .tell _ => 5
  | .stop => 6
  | .ifb _ _ _ => 7
  | .untl _ _ => 8
def Tst.rk : Tst → Nat
  | .longer => 0
  | .shorter => 1
  | .alike => 2
  | .holds _ _ => 3
  | .not _ => 4
/-- which class a row, a test is of -/
structure Hk (K : PySem.W.Frag) (c : Clz) : Prop where
  make : ∀ r : Rw1, PySem.W.kitOne K (.ref (r.cls c)) (.ref c.make) = some (decide (r.rk = 0))
  exch : ∀ r : Rw1, PySem.W.kitOne K (.ref (r.cls c)) (.ref c.exch) = some (decide (r.rk = 1))
  lay : ∀ r : Rw1, PySem.W.kitOne K (.ref (r.cls c)) (.ref c.lay) = some (decide (r.rk = 2))
  put : ∀ r : Rw1, PySem.W.kitOne K (.ref (r.cls c)) (.ref c.put) = some (decide (r.rk = 3))
  add : ∀ r : Rw1, PySem.W.kitOne K (.ref (r.cls c)) (.ref c.add) = some (decide (r.rk = 4))
  tell : ∀ r : Rw1, PySem.W.kitOne K (.ref (r.cls c)) (.ref c.tell) = some (decide (r.rk = 5))
  stop : ∀ r : Rw1, PySem.W.kitOne K (.ref (r.cls c)) (.ref c.stop) = some (decide (r.rk = 6))
  ifb : ∀ r : Rw1, PySem.W.kitOne K (.ref (r.cls c)) (.ref c.ifb) = some (decide (r.rk = 7))
  untl : ∀ r : Rw1, PySem.W.kitOne K (.ref (r.cls c)) (.ref c.untl) = some (decide (r.rk = 8))
  longer : ∀ t : Tst, PySem.W.kitOne K (.ref (t.cls c)) (.ref c.longer) = some (decide (t.rk = 0))
  alike : ∀ t : Tst, PySem.W.kitOne K (.ref (t.cls c)) (.ref c.alike) = some (decide (t.rk = 2))
  holds : ∀ t : Tst, PySem.W.kitOne K (.ref (t.cls c)) (.ref c.holds) = some (decide (t.rk = 3))
  not : ∀ t : Tst, PySem.W.kitOne K (.ref (t.cls c)) (.ref c.not) = some (decide (t.rk = 4))
/-- .. by name -/
structure Hm (mg : Str → Option Value) (c : Clz) : Prop where
  exch : mg "Exchange" = some (.ref c.exch)
  lay : mg "Lay" = some (.ref c.lay)
  put : mg "Put" = some (.ref c.put)
  add : mg "Add" = some (.ref c.add)
  tell : mg "Tell" = some (.ref c.tell)
  stop : mg "Stop" = some (.ref c.stop)
  ifb : mg "If" = some (.ref c.ifb)
  untl : mg "Until" = some (.ref c.untl)
  longer : mg "Longer" = some (.ref c.longer)
  alike : mg "Alike" = some (.ref c.alike)
  holds : mg "Holds" = some (.ref c.holds)
  not : mg "Not" = some (.ref c.not)
def kindS : Nat → Str
  | 0 => "do"
  | 1 => "test"
  | 2 => "look"
  | _ => "go"
section
variable {K : PySem.W.Frag} {c : Clz} {H H' : Hp}
def PStAt (K : PySem.W.Frag) (c : Clz) (H : Hp) (v : V) (p : PSt) : Prop := ∃ t q, v = .ref t ∧ H t = some (.tup [.str (kindS p.kind), .int (p.no : Nat), .ref q, .int (p.to : Nat)]) ∧ RowAt K c H q p.row
def StepsAt (K : PySem.W.Frag) (c : Clz) (H : Hp) : List V → List PSt → Prop
  | [], [] => True
  | v :: vs, p :: ps => PStAt K c H v p ∧ StepsAt K c H vs ps
  | _, _ => False
theorem PStAt.tk (s : TK H H') {v : V} {p : PSt} (h : PStAt K c H v p) : PStAt K c H' v p := by
  obtain ⟨t, q, e, h1, h2⟩ := h
  exact ⟨t, q, e, s _ _ rfl h1, h2.tk s⟩
theorem StepsAt.tk (s : TK H H') : ∀ {ps : List PSt} {vs : List V}, StepsAt K c H vs ps → StepsAt K c H' vs ps
  | [], [], _ => trivial
  | _ :: _, _ :: _, ⟨h, t⟩ => ⟨h.tk s, StepsAt.tk s t⟩
theorem StepsAt.len : ∀ {ps : List PSt} {vs : List V}, StepsAt K c H vs ps → vs.length = ps.length
  | [], [], _ => rfl
  | _ :: _, _ :: _, ⟨_, t⟩ => congrArg Nat.succ (StepsAt.len t)
theorem StepsAt.app : ∀ {xs ys : List V} {ps qs : List PSt}, StepsAt K c H xs ps → StepsAt K c H ys qs → StepsAt K c H (xs ++ ys) (ps ++ qs)
  | [], _, [], _, _, h => h
  | _ :: _, _, _ :: _, _, ⟨a, t⟩, h => ⟨a, StepsAt.app t h⟩
theorem StepsAt.at : ∀ {ps : List PSt} {vs : List V} {i : Nat} {p : PSt}, StepsAt K c H vs ps → ps[i]? = some p → ∃ v, vs[i]? = some v ∧ PStAt K c H v p
  | [], [], _, _, _, h => by simp at h
  | _ :: _, v :: _, 0, _, ⟨h, _⟩, e => by cases e; exact ⟨v, rfl, h⟩
  | _ :: _, _ :: _, i + 1, _, ⟨_, h⟩, e => StepsAt.at (i := i) h (by simpa using e)
end
def sp_laid (K : PySem.W.Frag) (c : Clz) (d : Nat) : Sp := fun vs H Q _ => ∃ (p : Addr) (n s : Nat) (xs : List V) (rs : List Rw1), vs = [.ref p, .int (n : Nat), .int (s : Nat)] ∧ SqA K H p xs ∧ RowsAt K c H xs rs ∧ deepL rs < d ∧ d ≤ 5 ∧ (innerL rs).length ≤ 100000 ∧ ∀ l H' ws, Same H H' → H l = none → H' l = some (.lst ws) → StepsAt K c H' ws (stepsL rs n s) → Q (.ref l) H'
def sp_srow (K : PySem.W.Frag) (c : Clz) (d : Nat) : Sp := fun vs H Q _ => ∃ (p : Addr) (n s : Nat) (r : Rw1), vs = [.ref p, .int (n : Nat), .int (s : Nat)] ∧ RowAt K c H p r ∧ r.deep < d ∧ d ≤ 5 ∧ r.inner.length ≤ 100000 ∧ ∀ l H' ws, Same H H' → H l = none → H' l = some (.lst ws) → StepsAt K c H' ws (stepsR r n s) → Q (.ref l) H'
def sp_steps (K : PySem.W.Frag) (c : Clz) : Sp := fun vs H Q _ => ∃ (p : Addr) (xs : List V) (rs : List Rw1), vs = [.ref p] ∧ SqA K H p xs ∧ RowsAt K c H xs rs ∧ deepL rs ≤ 4 ∧ (innerL rs).length ≤ 100000 ∧ ∀ l H' ws, Same H H' → H' l = some (.tup ws) → StepsAt K c H' ws (stepsL rs 0 0) → Q (.ref l) H'
theorem stepsL_take {rs : List Rw1} {i : Nat} {r : Rw1} (h : rs[i]? = some r) (n s : Nat) : stepsL (rs.take (i + 1)) n s = stepsL (rs.take i) n s ++ stepsR r (n + (innerL (rs.take i)).length) (s + (stepsL (rs.take i) n s).length) := by
  rw [List.take_succ, h, stepsL_app]
  show _ ++ (stepsR r _ _ ++ []) = _
  rw [List.append_nil]
theorem stepsL_len_take (rs : List Rw1) (i n s : Nat) : (stepsL (rs.take i) n s).length ≤ 2 * (innerL rs).length := Nat.le_trans (stepsL_len _ n s) (by have := innerL_le (rs := rs) i; omega)
end Pg
open Pg
section
variable {P : Program} {w : World} {K : PySem.W.Frag} {mg : Str → Option Value} {base : Heap}
theorem ok_laid {f : Addr} {fd : FuncData} {c : Clz} {d : Nat} (F : Fun K "laid_out" "laid_out" S_laid_out f fd) (T : Txt K mg) (Hc : Hi K mg c) (M_inner : ∀ u : Rw1, MtC P w K mg base CX0 9 (u.cls c) "inner" ["self"] (sp_inner K c 4 (u.cls c))) (C_srow : FnC P w K mg base CX0 (2 * d + 11) "steps_of_row" ["row", "at", "spot"] (sp_srow K c d)) : FnOk P w K mg base CX0 (2 * d + 12) f fd ["rows", "at", "spot"] (sp_laid K c d) := by
  refine F.ok SC_laid_out (fun vs H Q E h => ?_) (fun cdv A outer s H vs Q E hr h => ?_)
  · obtain ⟨p, n, s, xs, rs, rfl, _⟩ := h
    rfl
  · obtain ⟨p, n, s, xs, rs, rfl, hs, hrs, dp, d5, sz, k⟩ := h
    refine ⟨_, (pss_cons (ps_set (i := 3) SC_laid_out.nd rfl (.inl rfl) (pe_lstN pa_nil))
      (pss_cons (ps_for PassesOwn.never rfl (pi_seq (pv 0)) (pg_name (i := 4) SC_laid_out.nd rfl (.inl rfl)) (pss_cons (ps_expr (pe_bm PySem.F.plainAttrs_list PySem.F.slot_list_extend PySem.F.type_list_extend mt_extend (pv 3) (pa_cons (pe_callC C_srow (hr.mono (by omega)) rfl (pa_cons (pv 4) (pa_cons (pv 1) (pa_cons (pe_op op_add (pv 2) (pe_callB call_len_seq (by rfl) T.b_len (by decide +kernel) (pa_cons (pv 3) pa_nil))) pa_nil)))) pa_nil)))
      (pss_one (ps_set (i := 1) SC_laid_out.nd rfl (.inl rfl) (pe_op op_add (pv 1) (pe_callB call_len_seq (by rfl) T.b_len (by decide +kernel) (pa_cons (pe_ex (fun (u : Rw1) (_ : True) => pe_mth0 (M_inner u) (Hc.r u).ins.cl (hr.mono (by omega)) (pv 4))) pa_nil)))))))
      (pss_one (ps_ret (pv 3))))), ?_⟩
    refine ⟨Nat.zero_le _, fun l H1 n1 s1 h1 => ?_⟩
    refine for_seqB (p := p) (xs := xs) (H0 := H) rfl hs (fun j σ H2 => Same H H2 ∧ (∃ ws, H2 l = some (.lst ws) ∧ StepsAt K c H2 ws (stepsL (rs.take j) n s)) ∧ ∃ y, σ = [some (.ref p), some (.int ((n + (innerL (rs.take j)).length : Nat) : Int)), some (.int (s : Nat)), some (.ref l), y]) ⟨s1, ⟨_, h1, trivial⟩, _, rfl⟩ (fun j σ' H2 _ m o e => m.1 _ _ e) (fun j x σ' H2 hj m => ?_) (fun σ' H2 m => ?_)
    · obtain ⟨s2, ⟨ws, h2, hw⟩, y, rfl⟩ := m
      obtain ⟨q, r, rfl, hr', hq⟩ := hrs.at hj
      have hq2 := hq.tk (TK.same s2)
      have e1 := innerL_take hr'
      have e2 := innerL_le (rs := rs) (j + 1)
      have ew := hw.len
      have e3 := stepsL_len_take rs j n s
      have dr := deepL_mem (List.mem_of_getElem? hr')
      rw [e1, List.length_append] at e2
      refine ⟨_, rfl, .inl ⟨rfl, _, SqL.of h2⟩, ?_⟩
      refine ⟨_, rfl, _, rfl, _, rfl, _, rfl, l, ws, rfl, .inl (SqL.of h2), _, _, rfl, rfl, ?_⟩
      refine ⟨q, n + (innerL (rs.take j)).length, s + (stepsL (rs.take j) n s).length, r, by rw [ew, Int.natCast_add s]; rfl, hq2, by omega, d5, by omega, fun l3 H3 ws3 s3 n3 h3 hw3 => ?_⟩
      have ew3 := hw3.len
      have e4 := stepsR_len r (n + (innerL (rs.take j)).length) (s + (stepsL (rs.take j) n s).length)
      refine ⟨l, l3, ws, ws3, rfl, rfl, s3 _ _ h2, h3, szl (by omega), ?_⟩
      have tk3 : TK H3 (upd H3 l (.lst (ws ++ ws3))) := TK.upd (s3 _ _ h2) rfl
      have s5 : Same H (upd H3 l (.lst (ws ++ ws3))) := fun b o e => by rw [upd_ne (ne_of_none e n1)]; exact s3 _ _ (s2 _ _ e)
      have h5 : (upd H3 l (.lst (ws ++ ws3))) l = some (.lst (ws ++ ws3)) := upd_same
      have hq5 := (hq2.tk (TK.same s3)).tk tk3
      have hw5 := (hw.tk ((TK.same s3).trans tk3)).app (hw3.tk tk3)
      generalize upd H3 l (.lst (ws ++ ws3)) = H5 at s5 h5 hq5 hw5 ⊢
      obtain ⟨fs, dx, a, u, g1, g2, g3, g4, g5, g6, g7, g8, g9⟩ := hq5.part
      refine ⟨_, rfl, r, trivial, _, rfl, q, dx, fs, rfl, g1, g8, ?_⟩
      refine ⟨q, r, rfl, hq5, rfl, by omega, by omega, fun l6 H6 ws6 s6 n6 h6 hw6 => ?_⟩
      refine ⟨l6, ws6, rfl, .inl (SqL.of h6), _, _, rfl, rfl, ?_⟩
      refine ⟨s5.trans s6, ⟨_, s6 _ _ h5, ?_⟩, some (.ref q), ?_⟩
      · rw [stepsL_take hr']
        exact hw5.tk (TK.same s6)
      · rw [hw6.len, e1, List.length_append, ← Nat.add_assoc, Int.natCast_add _ r.inner.length]
        rfl
    · obtain ⟨s2, ⟨ws, h2, hw⟩, y, rfl⟩ := m
      rw [hrs.len, List.take_length] at hw
      exact ⟨_, rfl, k l H2 ws s2 n1 h2 hw⟩
theorem ok_srow {f : Addr} {fd : FuncData} {c : Clz} {d : Nat} (F : Fun K "steps_of_row" "steps_of_row" S_steps_of_row f fd) (T : Txt K mg) (Hc : Hi K mg c) (Hk : Hk K c) (Hn : Hm mg c) (Sg : SG mg) (C_irows : FnC P w K mg base CX0 10 "inner_rows" ["rows"] (sp_irows K c 4)) (C_laid : FnC P w K mg base CX0 (2 * d + 12) "laid_out" ["rows", "at", "spot"] (sp_laid K c d)) : FnOk P w K mg base CX0 (2 * d + 13) f fd ["row", "at", "spot"] (sp_srow K c (d + 1)) := by
  refine F.ok SC_steps_of_row (fun vs H Q E h => ?_) (fun cdv A outer s H vs Q E hr h => ?_)
  · obtain ⟨p, n, s, r, rfl, _⟩ := h
    rfl
  · obtain ⟨p, n, s, r, rfl, hp, dp, d5, sz, k⟩ := h
    obtain ⟨tDO, hDO⟩ := Sg.do_.ex
    obtain ⟨tTEST, hTEST⟩ := Sg.test.ex
    obtain ⟨tLOOK, hLOOK⟩ := Sg.look.ex
    obtain ⟨tGO, hGO⟩ := Sg.go.ex
    refine ⟨_, (pss_cons (ps_if (pt_val (pe_callB call_isi (by rfl) T.b_isinstance (by decide +kernel) (pa_cons (pv 0) (pa_cons (pe_glob (v := .ref c.ifb) (by rfl) Hn.ifb rfl) pa_nil)))) (pss_cons (ps_set (i := 3) SC_steps_of_row.nd rfl (.inl rfl) (pe_callC C_laid (hr.mono (by omega)) rfl (pa_cons (pe_fld (pv 0) rfl) (pa_cons (pe_op op_add (pv 1) pe_int) (pa_cons (pe_op op_add (pv 2) pe_int) pa_nil)))))
      (pss_cons (ps_set (i := 4) SC_steps_of_row.nd rfl (.inl rfl) (pe_op op_add (pe_op op_add (pv 2) pe_int) (pe_callB call_len_seq (by rfl) T.b_len (by decide +kernel) (pa_cons (pv 3) pa_nil))))
      (pss_cons (ps_set (i := 5) SC_steps_of_row.nd rfl (.inl rfl) (pe_callC C_laid (hr.mono (by omega)) rfl (pa_cons (pe_fld (pv 0) rfl) (pa_cons (pe_op op_add (pe_op op_add (pv 1) pe_int) (pe_callB call_len_seq (by rfl) T.b_len (by decide +kernel) (pa_cons (pe_callC C_irows (hr.mono (by omega)) rfl (pa_cons (pe_fld (pv 0) rfl) pa_nil)) pa_nil))) (pa_cons (pv 4) pa_nil)))))
      (pss_one (ps_ret (pe_lst (pa_cons (pe_tupN (pa_cons (pe_glob (v := .str "test") (by rfl) hTEST ⟨_, rfl⟩) (pa_cons (pv 1) (pa_cons (pv 0) (pa_cons (pv 4) pa_nil))))) (StX.pa_star (pv 3) (pa_cons (pe_tupN (pa_cons (pe_glob (v := .str "go") (by rfl) hGO ⟨_, rfl⟩) (pa_cons (pv 1) (pa_cons (pv 0) (pa_cons (pe_op op_add (pv 4) (pe_callB call_len_seq (by rfl) T.b_len (by decide +kernel) (pa_cons (pv 5) pa_nil))) pa_nil))))) (StX.pa_star (pv 5) pa_nil)))))))))) pss_nil)
      (pss_cons (ps_if (pt_val (pe_callB call_isi (by rfl) T.b_isinstance (by decide +kernel) (pa_cons (pv 0) (pa_cons (pe_glob (v := .ref c.untl) (by rfl) Hn.untl rfl) pa_nil)))) (pss_cons (ps_set (i := 3) SC_steps_of_row.nd rfl (.inl rfl) (pe_callC C_laid (hr.mono (by omega)) rfl (pa_cons (pe_fld (pv 0) rfl) (pa_cons (pe_op op_add (pv 1) pe_int) (pa_cons (pe_op op_add (pv 2) pe_int) pa_nil)))))
      (pss_one (ps_ret (pe_lst (pa_cons (pe_tupN (pa_cons (pe_glob (v := .str "look") (by rfl) hLOOK ⟨_, rfl⟩) (pa_cons (pv 1) (pa_cons (pv 0) (pa_cons (pe_op op_add (pe_op op_add (pv 2) pe_int) (pe_callB call_len_seq (by rfl) T.b_len (by decide +kernel) (pa_cons (pv 3) pa_nil))) pa_nil))))) (StX.pa_star (pv 3) (pa_cons (pe_tupN (pa_cons (pe_glob (v := .str "go") (by rfl) hGO ⟨_, rfl⟩) (pa_cons (pv 1) (pa_cons (pv 0) (pa_cons (pv 2) pa_nil))))) pa_nil))))))) pss_nil)
      (pss_one (ps_ret (pe_lstN (pa_cons (pe_tupN (pa_cons (pe_glob (v := .str "do") (by rfl) hDO ⟨_, rfl⟩) (pa_cons (pv 1) (pa_cons (pv 0) (pa_cons pe_int pa_nil))))) pa_nil)))))), ?_⟩
    obtain ⟨fs, pq⟩ := hp.part
    obtain ⟨dx, a', u, g1, g2, g3, g4, g5, g6, g7, g8, g9⟩ := id pq
    have ti := tyx_ins (Hc.r r).ins g1
    refine ⟨_, rfl, .ref p, _, _, _, _, rfl, .own _, ti, Hk.ifb r, _, rfl, ?_⟩
    by_cases hpl : r.plain = true
    · refine ifF (by cases r <;> first | rfl | cases hpl) ?_
      refine ⟨_, rfl, .ref p, _, _, _, _, rfl, .own _, ti, Hk.untl r, _, rfl, ?_⟩
      refine ifF (by cases r <;> first | rfl | cases hpl) ?_
      refine ⟨_, rfl, _, rfl, by show 4 ≤ 1000000; decide, fun t H1 n1 s1 h1 => ⟨by show 1 ≤ 1000000; decide, fun l H2 n2 s2 h2 => ?_⟩⟩
      refine k l H2 _ (s1.trans s2) (s1.free n2) h2 ?_
      rw [stepsR_flat hpl]
      exact ⟨⟨t, p, rfl, s2 _ _ h1, hp.tk (TK.same (s1.trans s2))⟩, trivial⟩
    · cases r with
      | ifb t r o =>
        obtain ⟨fs, q, a, b, xs, ys, pq, e1, ht, e2, h2, hr2, e3, h3, ho⟩ := id hp
        obtain ⟨dx, a', u, g1, g2, g3, g4, g5, g6, g7, g8, g9⟩ := id pq
        have dp : max (deepL r) (deepL o) + 1 < d + 1 := dp
        have ei : (Rw1.ifb t r o).inner = .ifb t r o :: (innerL r ++ innerL o) := rfl
        rw [ei, List.length_cons, List.length_append] at sz
        refine ifT rfl ?_
        refine ⟨_, rfl, p, _, dx, fs, _, rfl, g1, Hc.ifb.ins.cl, Hc.ifb.no "rows" (by simp [fnames]), e2, ?_⟩
        refine ⟨_, rfl, _, _, rfl, rfl, _, rfl, _, _, rfl, rfl, a, n + 1, s + 1, xs, r, rfl, .inr h2, hr2, by omega, by omega, by omega, fun l1 H1 ws1 s1 n1 h1 hw1 => ?_⟩
        have f1 := s1 _ _ g1
        have ew1 := hw1.len
        have e4 := stepsL_len r (n + 1) (s + 1)
        refine ⟨_, rfl, _, _, rfl, rfl, _, rfl, l1, ws1, rfl, .inl (SqL.of h1), _, _, rfl, rfl, ?_⟩
        refine ⟨_, rfl, p, _, dx, fs, _, rfl, f1, Hc.ifb.ins.cl, Hc.ifb.no "others" (by simp [fnames]), e3, ?_⟩
        refine ⟨_, rfl, _, _, rfl, rfl, _, rfl, p, _, dx, fs, _, rfl, f1, Hc.ifb.ins.cl, Hc.ifb.no "rows" (by simp [fnames]), e2, ?_⟩
        have h21 := sqT_tk (TK.same s1) h2
        refine ⟨a, xs, r, rfl, .inr h21, hr2.tk (TK.same s1), by omega, by omega, fun l2 H2 ws2 s2 n2 h22 hw2 => ?_⟩
        refine ⟨l2, ws2, rfl, .inl (SqL.of h22), _, _, rfl, rfl, _, rfl, ?_⟩
        have s12 := s1.trans s2
        have ho2 := ho.tk (TK.same s12)
        refine ⟨b, n + 1 + (innerL r).length, s + 2 + (stepsL r (n + 1) (s + 1)).length, ys, o, by rw [hw2.len, ew1, Int.natCast_add (n + 1), Int.natCast_add (s + 2)]; rfl, .inr (sqT_tk (TK.same s12) h3), ho2, by omega, by omega, by omega, fun l3 H3 ws3 s3 n3 h33 hw3 => ?_⟩
        have ew3 := hw3.len
        have e5 := stepsL_len o (n + 1 + (innerL r).length) (s + 2 + (stepsL r (n + 1) (s + 1)).length)
        refine ⟨_, rfl, _, rfl, _, rfl, by show 4 ≤ 1000000; decide, fun t1 H4 n4 s4 h4 => ?_⟩
        have s34 := s3.trans s4
        refine ⟨_, rfl, l1, ws1, rfl, .inr (SqL.of (s34 _ _ (s2 _ _ h1))), ?_⟩
        refine ⟨_, rfl, _, rfl, _, rfl, _, rfl, l3, ws3, rfl, .inl (SqL.of (s4 _ _ h33)), _, _, rfl, rfl, by show 4 ≤ 1000000; decide, fun t2 H5 n5 s5 h5 => ?_⟩
        refine ⟨_, rfl, l3, ws3, rfl, .inr (SqL.of (s5 _ _ (s4 _ _ h33))), ?_⟩
        refine ⟨szl ?_, fun l6 n6 => ?_⟩
        · simp only [List.length_cons, List.length_append, List.length_nil]
          omega
        have s6 := sm_new (o := .lst (V.ref t1 :: (ws1 ++ (V.ref t2 :: (ws3 ++ []))))) n6
        have s15 := s12.trans (s34.trans s5)
        refine k l6 _ _ (s15.trans s6) (s15.free n6) upd_same ?_
        generalize upd H5 l6 (.lst (V.ref t1 :: (ws1 ++ (V.ref t2 :: (ws3 ++ []))))) = H6 at s6 ⊢
        have e6 := s5.trans s6
        have p6 : RowAt K c H6 p (.ifb t r o) := RowAt.tk (TK.same (s15.trans s6)) hp
        rw [List.append_nil]
        refine ⟨⟨t1, p, rfl, ?_, p6⟩, (hw1.tk (TK.same (s2.trans (s34.trans e6)))).app ⟨⟨t2, p, rfl, ?_, p6⟩, hw3.tk (TK.same (s4.trans e6))⟩⟩
        · rw [e6 _ _ h4, ew1, Int.natCast_add (s + 2)]; rfl
        · rw [s6 _ _ h5, ew1, ew3, Int.natCast_add (s + 2 + _), Int.natCast_add (s + 2)]; rfl
      | untl g r =>
        obtain ⟨fs, a, xs, pq, e1, e2, h2, hr2⟩ := id hp
        obtain ⟨dx, a', u, g1, g2, g3, g4, g5, g6, g7, g8, g9⟩ := id pq
        have dp : deepL r + 1 < d + 1 := dp
        have ei : (Rw1.untl g r).inner = .untl g r :: innerL r := rfl
        rw [ei, List.length_cons] at sz
        refine ifF rfl ?_
        refine ⟨_, rfl, .ref p, _, _, _, _, rfl, .own _, ti, Hk.untl _, _, rfl, ?_⟩
        refine ifT rfl ?_
        refine ⟨_, rfl, p, _, dx, fs, _, rfl, g1, Hc.untl.ins.cl, Hc.untl.no "rows" (by simp [fnames]), e2, ?_⟩
        refine ⟨_, rfl, _, _, rfl, rfl, _, rfl, _, _, rfl, rfl, a, n + 1, s + 1, xs, r, rfl, .inr h2, hr2, by omega, by omega, by omega, fun l1 H1 ws1 s1 n1 h1 hw1 => ?_⟩
        have f1 := s1 _ _ g1
        have ew1 := hw1.len
        have e4 := stepsL_len r (n + 1) (s + 1)
        refine ⟨_, rfl, _, rfl, _, rfl, _, _, rfl, rfl, _, rfl, l1, ws1, rfl, .inl (SqL.of h1), _, _, rfl, rfl, by show 4 ≤ 1000000; decide, fun t1 H4 n4 s4 h4 => ?_⟩
        refine ⟨_, rfl, l1, ws1, rfl, .inr (SqL.of (s4 _ _ h1)), ?_⟩
        refine ⟨_, rfl, _, rfl, _, rfl, by show 4 ≤ 1000000; decide, fun t2 H5 n5 s5 h5 => ?_⟩
        refine ⟨szl ?_, fun l6 n6 => ?_⟩
        · simp only [List.length_cons, List.length_append, List.length_nil]
          omega
        have s6 := sm_new (o := .lst (V.ref t1 :: (ws1 ++ [V.ref t2]))) n6
        have s15 := s1.trans (s4.trans s5)
        refine k l6 _ _ (s15.trans s6) (s15.free n6) upd_same ?_
        generalize upd H5 l6 (.lst (V.ref t1 :: (ws1 ++ [V.ref t2]))) = H6 at s6 ⊢
        have e6 := s5.trans s6
        have p6 : RowAt K c H6 p (.untl g r) := RowAt.tk (TK.same (s15.trans s6)) hp
        refine ⟨⟨t1, p, rfl, ?_, p6⟩, (hw1.tk (TK.same (s4.trans e6))).app ⟨⟨t2, p, rfl, ?_, p6⟩, trivial⟩⟩
        · rw [e6 _ _ h4, ew1, Int.natCast_add (s + 2)]; rfl
        · rw [s6 _ _ h5]; rfl
      | _ => exact absurd rfl hpl
theorem ok_steps {f : Addr} {fd : FuncData} {c : Clz} (F : Fun K "steps_of" "steps_of" S_steps_of f fd) (T : Txt K mg) (C_laid : FnC P w K mg base CX0 22 "laid_out" ["rows", "at", "spot"] (sp_laid K c 5)) : FnOk P w K mg base CX0 23 f fd ["rows"] (sp_steps K c) := by
  refine F.ok SC_steps_of (fun vs H Q E h => ?_) (fun cdv A outer s H vs Q E hr h => ?_)
  · obtain ⟨p, xs, rs, rfl, _⟩ := h
    rfl
  · obtain ⟨p, xs, rs, rfl, hs, hrs, dp, sz, k⟩ := h
    refine ⟨_, (pss_one (ps_ret (pe_callTy call_tuple_of (by rfl) T.b_tuple (by decide +kernel) (pa_cons (pe_callC C_laid (hr.mono (by omega)) rfl (pa_cons (pv 0) (pa_cons pe_int (pa_cons pe_int pa_nil)))) pa_nil)))), ?_⟩
    refine ⟨_, rfl, p, 0, 0, xs, rs, rfl, hs, hrs, by omega, by decide, sz, fun l H1 ws s1 n1 h1 hw => ?_⟩
    refine ⟨l, ws, rfl, .inl ⟨SqL.of h1, fun l2 n2 => ?_⟩⟩
    have s2 := sm_new (o := .tup ws) n2
    exact k l2 _ ws (s1.trans s2) upd_same (hw.tk (TK.same s2))
theorem laid_all {fL fR : Addr} {dL dR : FuncData} {c : Clz} (T : Txt K mg) (Hc : Hi K mg c) (Hk : Hk K c) (Hn : Hm mg c) (Sg : SG mg) (FL : Fun K "laid_out" "laid_out" S_laid_out fL dL) (FR : Fun K "steps_of_row" "steps_of_row" S_steps_of_row fR dR) (M_inner : ∀ u : Rw1, MtC P w K mg base CX0 9 (u.cls c) "inner" ["self"] (sp_inner K c 4 (u.cls c))) (C_irows : FnC P w K mg base CX0 10 "inner_rows" ["rows"] (sp_irows K c 4))
    (pkL : ∀ {k : Nat} {sp : Sp}, FnOk P w K mg base CX0 k fL dL ["rows", "at", "spot"] sp → FnC P w K mg base CX0 k "laid_out" ["rows", "at", "spot"] sp) (pkR : ∀ {k : Nat} {sp : Sp}, FnOk P w K mg base CX0 k fR dR ["row", "at", "spot"] sp → FnC P w K mg base CX0 k "steps_of_row" ["row", "at", "spot"] sp) : ∀ d : Nat, FnC P w K mg base CX0 (2 * d + 12) "laid_out" ["rows", "at", "spot"] (sp_laid K c d) := by
  intro d
  induction d with
  | zero => exact pkL (ok_laid FL T Hc M_inner (pkR (fn_false.imp fun vs H Q E h => by
      obtain ⟨p, n, s, r, _, _, dp, _⟩ := h
      exact absurd dp (Nat.not_lt_zero _))))
  | succ d ih => exact pkL (ok_laid FL T Hc M_inner (pkR (ok_srow FR T Hc Hk Hn Sg C_irows ih)))
end

/-! ## programs as objects -/
namespace Pg
theorem pg_tupK {X : Cx} {K : PySem.W.Frag} {es : List Expr} {k : Nat} {t : TGs} {n : Nat} {pos : Pos} (hK : X.K = K) (hc : X.calm = true) (h : PGs X es t)
    (hn : (assignEach es X.env).length = n := by rfl) (hst : (assignEach es X.env).findIdx? (·.1) = none := by rfl) : PG X (.Tuple es k pos) (gTup K n t) := hK ▸ pg_tup hc h hn hst
section
variable {K : PySem.W.Frag} {c : Clz} {C D x dx p : Addr} {H H' : Hp} {ss us : List Str} {fs gs : List (Str × V)}
/-- all but an object that is no row, no change stays -/
theorem sqT_ng (hx : H x = some (.ins C dx gs)) (kp : ∀ b o, b ≠ x → H b = some o → H' b = some o) {q : Addr} {xs : List V} (h : SqT K H q xs) : SqT K H' q xs := h.elim (fun q' => .inl (q'.elim (fun q' => .inl (kp _ _ (fun e => by rw [e, hx] at q'; cases q') q')) fun ⟨o, q'⟩ => .inr ⟨o, kp _ _ (fun e => by rw [e, hx] at q'; cases q') q'⟩)) .inr
theorem part_ng (hx : H x = some (.ins C dx gs)) (n1 : gs.lookup ("script" : Str) = none) (kp : ∀ b o, b ≠ x → H b = some o → H' b = some o) (h : PartAt K D H p ss us fs) : PartAt K D H' p ss us fs := by
  obtain ⟨d, a, u, h1, h2, h3, h4, h5, h6, h7⟩ := h
  have ne : p ≠ x := fun e => by
    rw [e, hx] at h1
    injection Option.some.inj h1 with _ _ e3
    rw [← e3, n1] at h3
    cases h3
  exact ⟨d, a, u, kp _ _ ne h1, h2, h3, sqT_ng hx kp h4, h5, sqT_ng hx kp h6, h7⟩
theorem ChAt.ng {CC : Addr} {i j m n : Int} (hx : H x = some (.ins C dx gs)) (n2 : gs.lookup ("numbers" : Str) = none) (kp : ∀ b o, b ≠ x → H b = some o → H' b = some o) (h : ChAt CC H p i j m n) : ChAt CC H' p i j m n := by
  obtain ⟨dq, a, g1, g2⟩ := h
  have nq : p ≠ x := fun e => by
    rw [e, hx] at g1
    injection Option.some.inj g1 with _ _ e3
    have e4 := cf1 a (i * n - j * m)
    rw [← e3, n2] at e4
    cases e4
  exact ⟨dq, a, kp _ _ nq g1, kp _ _ (fun e => by rw [e, hx] at g2; cases g2) g2⟩
theorem TstAt.ng (hx : H x = some (.ins C dx gs)) (n1 : gs.lookup ("script" : Str) = none) (kp : ∀ b o, b ≠ x → H b = some o → H' b = some o) : ∀ {t : Tst} {p : Addr}, TstAt K c H p t → TstAt K c H' p t
  | .holds n k, _, ⟨fs, h, r⟩ => ⟨fs, part_ng hx n1 kp h, r⟩
  | .not t, _, ⟨fs, q, h, e, r⟩ => ⟨fs, q, part_ng hx n1 kp h, e, TstAt.ng hx n1 kp r⟩
  | .longer, _, ⟨fs, h⟩ => ⟨fs, part_ng hx n1 kp h⟩
  | .shorter, _, ⟨fs, h⟩ => ⟨fs, part_ng hx n1 kp h⟩
  | .alike, _, ⟨fs, h⟩ => ⟨fs, part_ng hx n1 kp h⟩
mutual
theorem RowAt.ng (hx : H x = some (.ins C dx gs)) (n1 : gs.lookup ("script" : Str) = none) (n2 : gs.lookup ("numbers" : Str) = none) (kp : ∀ b o, b ≠ x → H b = some o → H' b = some o) : ∀ {r : Rw1} {p : Addr}, RowAt K c H p r → RowAt K c H' p r
  | .make m, _, ⟨fs, q, h, e, ch⟩ => ⟨fs, q, part_ng hx n1 kp h, e, ChAt.ng hx n2 kp ch⟩
  | .exch, _, ⟨fs, h⟩ => ⟨fs, part_ng hx n1 kp h⟩
  | .lay, _, ⟨fs, h⟩ => ⟨fs, part_ng hx n1 kp h⟩
  | .put n k, _, ⟨fs, h, r⟩ => ⟨fs, part_ng hx n1 kp h, r⟩
  | .add n k, _, ⟨fs, h, r⟩ => ⟨fs, part_ng hx n1 kp h, r⟩
  | .tell m, _, ⟨fs, h, r⟩ => ⟨fs, part_ng hx n1 kp h, r⟩
  | .stop, _, ⟨fs, h⟩ => ⟨fs, part_ng hx n1 kp h⟩
  | .ifb t r o, _, ⟨fs, q, a, b, xs, ys, h, e1, ht, e2, h2, hr, e3, h3, ho⟩ => ⟨fs, q, a, b, xs, ys, part_ng hx n1 kp h, e1, ht.ng hx n1 kp, e2, sqT_ng hx kp h2, RowsAt.ng hx n1 n2 kp hr, e3, sqT_ng hx kp h3, RowsAt.ng hx n1 n2 kp ho⟩
  | .untl g r, _, ⟨fs, a, xs, h, e1, e2, h2, hr⟩ => ⟨fs, a, xs, part_ng hx n1 kp h, e1, e2, sqT_ng hx kp h2, RowsAt.ng hx n1 n2 kp hr⟩
theorem RowsAt.ng (hx : H x = some (.ins C dx gs)) (n1 : gs.lookup ("script" : Str) = none) (n2 : gs.lookup ("numbers" : Str) = none) (kp : ∀ b o, b ≠ x → H b = some o → H' b = some o) : ∀ {rs : List Rw1} {vs : List V}, RowsAt K c H vs rs → RowsAt K c H' vs rs
  | [], [], _ => trivial
  | r :: rs, v :: vs, ⟨⟨p, e, h⟩, t⟩ => ⟨⟨p, e, RowAt.ng hx n1 n2 kp h⟩, RowsAt.ng hx n1 n2 kp t⟩
end
theorem NotesAt.ng (hx : H x = some (.ins C dx gs)) (kp : ∀ b o, b ≠ x → H b = some o → H' b = some o) : ∀ {xs : List V} {ms : List (Str × Int)}, NotesAt H xs ms → NotesAt H' xs ms
  | [], [], _ => trivial
  | _ :: _, _ :: _, ⟨⟨q, e, h, r⟩, t⟩ => ⟨⟨q, e, kp _ _ (fun e => by rw [e, hx] at h; cases h) h, r⟩, NotesAt.ng hx kp t⟩
end
theorem NotesAt.ix {H : Hp} : ∀ {xs : List V} {ms : List (Str × Int)} {i : Nat} {v : V}, NotesAt H xs ms → xs[i]? = some v → ∃ q m, v = .ref q ∧ ms[i]? = some m ∧ H q = some (.tup [.str m.1, .int m.2]) ∧ nameOk m.1 = true ∧ 0 ≤ m.2 ∧ m.2 < 1000000
  | [], [], _, _, _, h => by simp at h
  | v :: vs, m :: ms, i, w, ⟨⟨q, e, h, r⟩, t⟩, hi => by
    cases i with
    | zero => cases hi; exact ⟨q, m, e, rfl, h, r⟩
    | succ i => exact NotesAt.ix (i := i) t (by simpa using hi)
theorem inV_strs {z : Str} : ∀ {zs : List Str}, inV (.str z) (zs.map V.str) = decide (z ∈ zs)
  | [] => rfl
  | y :: zs => by
    have e := inV_strs (z := z) (zs := zs)
    have l : inV (.str z) ((y :: zs).map V.str) = ((y == z) || inV (.str z) (zs.map V.str)) := rfl
    rw [l, e, Bool.eq_iff_iff, Bool.or_eq_true, beq_iff_eq, decide_eq_true_iff, decide_eq_true_iff, List.mem_cons]
    exact ⟨fun h => h.elim (fun h => .inl h.symm) .inr, fun h => h.elim (fun h => .inl h.symm) .inr⟩
theorem flat_strs : ∀ zs : List Str, (zs.map V.str).all flatV = true
  | [] => rfl
  | _ :: zs => flat_strs zs
theorem inV_strs_not {z : Str} {zs : List Str} (h : z ∉ zs) : inV (.str z) (zs.map V.str) = false := by
  rw [inV_strs, decide_eq_false h]
theorem nodup_take {ns : List (Str × Int)} {j : Nat} {m : Str × Int} (h : (ns.map (·.1)).Nodup) (hj : ns[j]? = some m) : m.1 ∉ (ns.take j).map (·.1) := fun hm => by
  obtain ⟨x, hx, e⟩ := List.mem_map.mp hm
  obtain ⟨i, hi⟩ := List.mem_iff_getElem?.mp hx
  have l := (List.getElem?_eq_some_iff.mp hi).1
  rw [List.length_take] at l
  rw [List.getElem?_take, if_pos (by omega)] at hi
  have a : (ns.map (·.1))[i]? = some m.1 := by rw [List.getElem?_map, hi, ← e]; rfl
  have b : (ns.map (·.1))[j]? = some m.1 := by rw [List.getElem?_map, hj]; rfl
  have := nodup_at h a b
  omega
theorem StepsAt.ng {K : PySem.W.Frag} {c : Clz} {C x dx : Addr} {H H' : Hp} {gs : List (Str × V)} (hx : H x = some (.ins C dx gs)) (n1 : gs.lookup ("script" : Str) = none) (n2 : gs.lookup ("numbers" : Str) = none) (kp : ∀ b o, b ≠ x → H b = some o → H' b = some o) : ∀ {ps : List PSt} {vs : List V}, StepsAt K c H vs ps → StepsAt K c H' vs ps
  | [], [], _ => trivial
  | _ :: _, _ :: _, ⟨⟨t, q, e, h1, h2⟩, r⟩ => ⟨⟨t, q, e, kp _ _ (fun e => by rw [e, hx] at h1; cases h1) h1, RowAt.ng hx n1 n2 kp h2⟩, StepsAt.ng hx n1 n2 kp r⟩
/-- what notes must be -/
def NotesOk (ns : List (Str × Int)) : Prop := (∀ m ∈ ns, nameOk m.1 = true ∧ 2 ≤ m.2 ∧ m.2 ≤ 4) ∧ (ns.map (·.1)).Nodup
def sp_isnote : Sp := fun vs H Q _ => ∃ (q : Addr) (n : Str) (m : Int), vs = [.ref q] ∧ H q = some (.tup [.str n, .int m]) ∧ nameOk n = true ∧ 2 ≤ m ∧ m ≤ 4 ∧ ∀ H', Same H H' → Q (.bl true) H'
def sp_ndnotes (K : PySem.W.Frag) : Sp := fun vs H Q _ => ∃ (a : Addr) (xs : List V) (ns : List (Str × Int)), vs = [.ref a] ∧ SqV K H a xs ∧ NotesAt H xs ns ∧ NotesOk ns ∧ xs.length ≤ 1000 ∧ ∀ b H', Same H H' → SqT K H' b xs → Q (.ref b) H'
/-- a program -/
structure PgT (K : PySem.W.Frag) (CP : Addr) : Prop where
  ins : C8.InsC K CP
  no : ∀ f ∈ (["notes", "rows", "numbered", "steps"] : List Str), PySem.W.findIn K (.ref CP) f = some none
def ProgAt (K : PySem.W.Frag) (c : Clz) (CP : Addr) (H : Hp) (p : Addr) (ns : List (Str × Int)) (rs : List Rw1) : Prop := ∃ (dx a b u t : Addr) (fs : List (Str × V)) (nvs rvs uvs svs : List V), H p = some (.ins CP dx fs) ∧ fs.length ≤ 10 ∧
  fs.lookup ("notes" : Str) = some (.ref a) ∧ SqT K H a nvs ∧ NotesAt H nvs ns ∧ fs.lookup ("rows" : Str) = some (.ref b) ∧ SqT K H b rvs ∧ RowsAt K c H rvs rs ∧
  fs.lookup ("numbered" : Str) = some (.ref u) ∧ SqT K H u uvs ∧ RowsAt K c H uvs (innerL rs) ∧ fs.lookup ("steps" : Str) = some (.ref t) ∧ SqT K H t svs ∧ StepsAt K c H svs (stepsL rs 0 0)
theorem ProgAt.tk {K : PySem.W.Frag} {c : Clz} {CP p : Addr} {H H' : Hp} {ns : List (Str × Int)} {rs : List Rw1} (s : TK H H') (h : ProgAt K c CP H p ns rs) : ProgAt K c CP H' p ns rs := by
  obtain ⟨dx, a, b, u, t, fs, nvs, rvs, uvs, svs, h1, h2, h3, h4, h5, h6, h7, h8, h9, ha, hb, hc, hd, he⟩ := h
  exact ⟨dx, a, b, u, t, fs, nvs, rvs, uvs, svs, s _ _ rfl h1, h2, h3, sqT_tk s h4, h5.tk s, h6, sqT_tk s h7, h8.tk s, h9, sqT_tk s ha, hb.tk s, hc, sqT_tk s hd, he.tk s⟩
/-- the notes that rows name are there -/
def UsesOk (ns : List (Str × Int)) (rs : List Rw1) : Prop := ∀ r ∈ innerL rs, ∀ z ∈ r.uses, z ∈ ns.map (·.1)
def sp_pginit (K : PySem.W.Frag) (c : Clz) (CP : Addr) : Sp := fun vs H Q _ => ∃ (x dx a b : Addr) (xs ys : List V) (rs : List Rw1) (ns : List (Str × Int)), vs = [.ref x, .ref a, .ref b] ∧ H x = some (.ins CP dx []) ∧ SqV K H a xs ∧ RowsAt K c H xs rs ∧ SqV K H b ys ∧ NotesAt H ys ns ∧ NotesOk ns ∧ UsesOk ns rs ∧
  deepL rs ≤ 4 ∧ (innerL rs).length ≤ 1000 ∧ ns.length ≤ 1000 ∧ ∀ H', (∀ b o, b ≠ x → H b = some o → H' b = some o) → ProgAt K c CP H' x ns rs → Q .non H'
end Pg
open Pg
section
variable {P : Program} {w : World} {K : PySem.W.Frag} {mg : Str → Option Value} {base : Heap}
theorem ok_isnote {f : Addr} {fd : FuncData} (F : Fun K "is_note" "is_note" S_is_note f fd) (T : Txt K mg) (GO : GT K mg "MODULI" [.int 2, .int 3, .int 4]) (C_isname : FnC P w K mg base CX0 1 "is_name" ["value"] (sp_isname K)) (C_isint : FnC P w K mg base CX0 1 "is_integer" ["value"] (sp_isint K)) : FnOk P w K mg base CX0 3 f fd ["value"] sp_isnote := by
  obtain ⟨am, hMod, sM⟩ := GO.ex
  refine F.ok SC_is_note (fun vs H Q E h => ?_) (fun cdv A outer s H vs Q E hr h => ?_)
  · obtain ⟨q, n, m, rfl, _⟩ := h
    rfl
  · obtain ⟨q, n, m, rfl, hq, nk, m0, m1, k⟩ := h
    refine ⟨_, (pss_cons (ps_if (PW.pt (pw_or (pt_not (pt_val (pe_callB call_isi (by rfl) T.b_isinstance (by decide +kernel) (pa_cons (pv 0) (pa_cons (pe_bltn (v := .ty "tuple") (by rfl) T.b_tuple boot_tuple rfl) pa_nil))))) (pw_or1 (pt_cmpR op_ne (pe_callB call_len_seq (by rfl) T.b_len (by decide +kernel) (pa_cons (pv 0) pa_nil)) pe_int (nomark _))))) (pss_one (ps_ret pe_bl)) pss_nil)
      (pss_one (ps_ret (pe_and (pe_callC C_isname (hr.mono (by decide)) rfl (pa_cons (pe_ix ix_tup (pv 0) pe_int (fun _ _ => rfl)) pa_nil)) (pe_and (pe_callC C_isint (hr.mono (by decide)) rfl (pa_cons (pe_ix ix_tup (pv 0) pe_int (fun _ _ => rfl)) pa_nil)) (pe_one (pe_cmpR op_in_seq (pe_ix ix_tup (pv 0) pe_int (fun _ _ => rfl)) (pe_glob (v := .ref am) (by rfl) hMod rfl) (by rfl)))))))), ?_⟩
    refine ⟨_, rfl, .ref q, _, .type "tuple", _, true, rfl, .ty _, .base (.tup hq), by rfl, _, rfl, ?_⟩
    refine ifF rfl ?_
    refine ⟨_, rfl, q, _, rfl, .inr (SqT.of hq), rfl, _, rfl, ?_⟩
    refine ifF (by simp) ?_
    refine ⟨_, rfl, q, _, 0, .str n, rfl, rfl, SqT.of hq, rfl, .str n, rfl, Kd.str _, fun z e => ?_, fun H1 s1 => ?_⟩
    · cases e
      have := name_len nk
      omega
    refine ⟨_, rfl, ?_⟩
    rw [show isName (V.str n) = true from nk, if_pos rfl]
    refine ⟨_, rfl, q, _, 1, .int m, rfl, rfl, SqT.of (s1 _ _ hq), rfl, .int m, rfl, Kd.int _, _, rfl, ?_⟩
    refine ifT rfl ?_
    refine ⟨_, rfl, q, _, 1, .int m, rfl, rfl, SqT.of (s1 _ _ hq), rfl, am, _, rfl, .inr (sM _), rfl, rfl, ?_⟩
    have e : inV (.int m) [.int 2, .int 3, .int 4] = true := by
      have : m = 2 ∨ m = 3 ∨ m = 4 := by omega
      rcases this with rfl | rfl | rfl <;> decide +kernel
    rw [e]
    exact k H1 s1
theorem ok_ndnotes {f IR : Addr} {fd : FuncData} (F : Fun K "need_notes" "need_notes" S_need_notes f fd) (T : Txt K mg) (C_isnote : FnC P w K mg base CX0 3 "is_note" ["value"] sp_isnote) (E_InvalidRow : Er1 P w K mg base "InvalidRow" IR "part" "part") : FnOk P w K mg base (L2.CX P w) 4 f fd ["notes"] (sp_ndnotes K) := by
  refine F.okX SC_need_notes (fun vs H Q E h => ?_) (fun cdv A outer s H vs Q E hr h => ?_)
  · obtain ⟨a, xs, ns, rfl, _⟩ := h
    rfl
  · obtain ⟨a, xs, ns, rfl, hs, hn, ok, sz, k⟩ := h
    refine ⟨_, (pss_cons (ps_if (pt_not (pt_val (pe_callB call_isiT (by rfl) T.b_isinstance (by decide +kernel) (pa_cons (pv 0) (pa_cons (pe_tup (pa_cons (pe_bltn (v := .ty "list") (by rfl) T.b_list boot_list rfl) (pa_cons (pe_bltn (v := .ty "tuple") (by rfl) T.b_tuple boot_tuple rfl) pa_nil))) pa_nil))))) (pss_one (ps_raise1 E_InvalidRow (hr.mono (by decide)) rfl (takes_of rfl rfl rfl rfl) rfl (pa_cons pe_str pa_nil))) pss_nil)
      (pss_cons (ps_set (i := 1) SC_need_notes.nd rfl (.inl rfl) (pe_lstN pa_nil))
      (pss_cons (ps_for (passes_of rfl) rfl (pi_seq (pv 0)) (pg_name (i := 2) SC_need_notes.nd rfl (.inl rfl)) (pss_cons (ps_if (PW.pt (pw_or (pt_not (pt_val (pe_callC C_isnote (hr.mono (by omega)) rfl (pa_cons (pv 2) pa_nil)))) (pw_or1 (pt_cmpR op_in_seq (pe_ix ix_tup (pv 2) pe_int (fun _ _ => rfl)) (pv 1) (by rfl))))) (pss_one (ps_raise1 E_InvalidRow (hr.mono (by decide)) rfl (takes_of rfl rfl rfl rfl) rfl (pa_cons pe_str pa_nil))) pss_nil)
      (pss_one (ps_expr (pe_bm PySem.F.plainAttrs_list PySem.F.slot_list_append PySem.F.type_list_append mt_append (pv 1) (pa_cons (pe_ix ix_tup (pv 2) pe_int (fun _ _ => rfl)) pa_nil))))))
      (pss_one (ps_ret (pe_callTy call_tuple_of (by rfl) T.b_tuple (by decide +kernel) (pa_cons (pv 0) pa_nil))))))), ?_⟩
    obtain ⟨t, ty, kt, hA⟩ : ∃ t, TyX K H (.ref a) t ∧ PySem.W.kitAny K t [.type "list", .type "tuple"] = some true ∧ SqA K H a xs := by
      rcases hs with h | h | ⟨o, its, n, h1, h2, h3, h4, h5⟩
      · exact ⟨_, .base (.lst h), by rfl, .inl (SqL.of h)⟩
      · exact ⟨_, .base (.tup h), by rfl, .inr (SqT.of h)⟩
      · exact ⟨_, .kTuple h1 h2, by rfl, .inr (.inr ⟨o, its, n, h1, h2, h3, h4, h5⟩)⟩
    refine isLT rfl ty kt fun H1 s1 => ⟨_, rfl, ifF rfl ?_⟩
    refine ⟨Nat.zero_le _, fun l H2 n2 s2 h2 => ?_⟩
    have hA1 : SqA K H1 a xs := SqA.at (fun o e => s1 _ _ e) hA
    refine for_seqB (p := a) (xs := xs) (H0 := H1) rfl hA1 (fun j σ H3 => Same H1 H3 ∧ H3 l = some (.lst (((ns.take j).map (·.1)).map V.str)) ∧ ∃ y, σ = [some (.ref a), some (.ref l), y]) ⟨s2, h2, _, rfl⟩ (fun j σ' H3 _ m o e => m.1 _ _ e) (fun j x σ' H3 hj m => ?_) (fun σ' H3 m => ?_)
    · obtain ⟨s3, h3, y, rfl⟩ := m
      obtain ⟨q, mm, rfl, hmm, hq, nk, _⟩ := ((hn.tk (TK.same s1)).tk (TK.same s3)).ix hj
      have ln := hn.len
      have lj := (List.getElem?_eq_some_iff.mp hj).1
      have om := ok.1 mm (List.mem_of_getElem? hmm)
      refine ⟨_, rfl, q, mm.1, mm.2, rfl, hq, nk, om.2.1, om.2.2, fun H4 s4 => ⟨_, rfl, ?_⟩⟩
      refine ifF rfl ?_
      refine ⟨_, rfl, q, _, 0, .str mm.1, rfl, rfl, SqT.of (s4 _ _ hq), rfl, _, rfl, l, _, rfl, .inl (SqL.of (s4 _ _ h3)), rfl, flat_strs _, ?_⟩
      refine ⟨_, rfl, ?_⟩
      refine ifF ?_ ?_
      · rw [if_neg (by decide)]
        exact inV_strs_not (nodup_take ok.2 hmm)
      · refine ⟨_, rfl, .inl ⟨rfl, _, SqL.of (s4 _ _ h3)⟩, _, rfl, q, _, 0, .str mm.1, rfl, rfl, SqT.of (s4 _ _ hq), rfl, l, _, .str mm.1, rfl, rfl, s4 _ _ h3, ?_, ?_⟩
        · simp only [List.length_map, List.length_take]
          exact szs (by omega)
        · refine ⟨fun b o e => by rw [upd_ne (ne_of_none e n2)]; exact s4 _ _ (s3 _ _ e), ?_, _, rfl⟩
          rw [upd_same, List.take_succ, hmm, List.map_append, List.map_append]
          rfl
    · obtain ⟨s3, h3, y, rfl⟩ := m
      refine ⟨_, rfl, a, xs, rfl, ?_⟩
      rcases hA1 with h | h
      · exact .inl ⟨same_sqL s3 h, fun b hb => k b _ ((s1.trans s3).trans (sm_new hb)) (SqT.of upd_same)⟩
      · exact .inr ⟨sqT_tk (TK.same s3) h, k a H3 (s1.trans s3) (sqT_tk (TK.same s3) h)⟩
end
section
variable {P : Program} {w : World} {K : PySem.W.Frag} {mg : Str → Option Value} {base : Heap}
theorem ok_pginit {f CP IR NN : Addr} {fd : FuncData} {c : Clz} {dvs : List V} (F : FunD K "__init__" "Program.__init__" (defArgs S_Program__init_) (defBody S_Program__init_) (defScope S_Program__init_) dvs [] f fd) (T : Txt K mg) (Hc : Hi K mg c) (Pt : PgT K CP) (C_ndnotes : FnC P w K mg base (L2.CX P w) 4 "need_notes" ["notes"] (sp_ndnotes K)) (C_ndrows : FnC P w K mg base (L2.CX P w) 4 "need_rows" ["rows"] (sp_ndrows K c IR)) (C_irows : FnC P w K mg base CX0 10 "inner_rows" ["rows"] (sp_irows K c 4)) (C_steps : FnC P w K mg base CX0 23 "steps_of" ["rows"] (sp_steps K c)) (E_NoNote : Er1 P w K mg base "NoNote" NN "name" "name") : FnOk P w K mg base (L2.CX P w) 24 f fd ["self", "rows", "notes"] (sp_pginit K c CP) := by
  refine F.ok (CX := L2.CX P w) SC_Program__init_ (fun vs H Q E h => ?_) (fun cdv A outer s H vs Q E hr h => ?_)
  · obtain ⟨x, dx, a, b, xs, ys, rs, ns, rfl, _⟩ := h
    rfl
  · obtain ⟨x, dx, a, b, xs, ys, rs, ns, rfl, hx, ha, hrs, hb, hns, nok, uok, dp, sz, sn, k⟩ := h
    refine ⟨_, (pss_cons (ps_fld (pv 0) (pe_callSC C_ndnotes (hr.mono (by omega)) (takes_of rfl rfl rfl rfl) rfl (pa_cons (pv 2) pa_nil)) rfl)
      (pss_cons (ps_fld (pv 0) (pe_callSC C_ndrows (hr.mono (by omega)) (takes_of rfl rfl rfl rfl) rfl (pa_cons (pv 1) pa_nil)) rfl)
      (pss_cons (ps_fld (pv 0) (pe_callTy call_tuple_of (by rfl) T.b_tuple (by decide +kernel) (pa_cons (pe_callC C_irows (hr.mono (by omega)) rfl (pa_cons (pe_fld (pv 0) rfl) pa_nil)) pa_nil)) rfl)
      (pss_cons (ps_fld (pv 0) (pe_callC C_steps (hr.mono (by omega)) rfl (pa_cons (pe_fld (pv 0) rfl) pa_nil)) rfl)
      (pss_cons (ps_setLc (i := 3) (own := [("name", 5), ("modulus", 6)])  (by rfl) SC_Program__init_.nd rfl rfl (sw_true rfl rfl rfl (by decide +kernel)) (pi_tup (pe_fld (pv 0) rfl)) (blkOk_by (own := [("name", 5), ("modulus", 6)]) (N := N_Program__init_) (sc := defScope S_Program__init_) (by decide +kernel)) (fun _ _ _ _ _ => (pg_tupK (K := K) (n := 2) rfl rfl (pgs_cons (pg_name (i := 5) SC_Program__init_.nd rfl (.inl rfl)) (pgs_cons (pg_name (i := 6) SC_Program__init_.nd rfl (.inl rfl)) pgs_nil)))) (fun _ _ _ _ _ => pts_nil) (fun _ _ _ _ _ => (pv 5)))
      (pss_one (ps_for (passes_of rfl) rfl (pi_tup (pe_fld (pv 0) rfl)) (pg_name (i := 4) SC_Program__init_.nd rfl (.inl rfl)) (pss_one (ps_for (passes_of rfl) rfl (pi_tup (pe_fld (pv 4) rfl)) (pg_name (i := 5) SC_Program__init_.nd rfl (.inl rfl)) (pss_one (ps_if (pt_cmpR op_notIn_seq (pv 5) (pv 3) (by rfl)) (pss_one (ps_raise1 E_NoNote (hr.mono (by omega)) rfl (takes_of rfl rfl rfl rfl) rfl (pa_cons (pv 5) pa_nil))) pss_nil))))))))))), ?_⟩
    refine ⟨_, rfl, b, ys, ns, rfl, hb, hns, nok, by rw [hns.len]; exact sn, fun nA H1 s1 hN => ?_⟩
    refine ⟨_, rfl, x, CP, dx, [], rfl, s1 _ _ hx, Pt.ins.cl, Pt.no "notes" (by simp), by decide, ?_⟩
    have k1 : ∀ b o, b ≠ x → H b = some o → (upd H1 x (.ins CP dx (putF ("notes" : Str) (.ref nA) []))) b = some o := fun b o n e => by rw [upd_ne n]; exact s1 _ _ e
    have hx1 : (upd H1 x (.ins CP dx (putF ("notes" : Str) (.ref nA) []))) x = some (.ins CP dx (putF ("notes" : Str) (.ref nA) [])) := upd_same
    have hN1 : SqT K (upd H1 x (.ins CP dx (putF ("notes" : Str) (.ref nA) []))) nA ys := sqT_ins (s1 _ _ hx) hN
    generalize upd H1 x (.ins CP dx (putF ("notes" : Str) (.ref nA) [])) = H2 at k1 hx1 hN1 ⊢
    refine ⟨_, rfl, _, some xs, rfl, SqV.rows Hc (hrs.nx hx k1) (SqV.nx hx k1 ha), fun zs ez T2 H3 s3 hT => ?_, nofun⟩
    cases ez
    refine ⟨_, rfl, x, CP, dx, _, rfl, s3 _ _ hx1, Pt.ins.cl, Pt.no "rows" (by simp), Nat.le_of_ble_eq_true rfl, ?_⟩
    have k3 : ∀ b o, b ≠ x → H b = some o → (upd H3 x (.ins CP dx (putF ("rows" : Str) (.ref T2) (putF ("notes" : Str) (.ref nA) [])))) b = some o := fun b o n e => by rw [upd_ne n]; exact s3 _ _ (k1 b o n e)
    have hx3 : (upd H3 x (.ins CP dx (putF ("rows" : Str) (.ref T2) (putF ("notes" : Str) (.ref nA) [])))) x = some (.ins CP dx (putF ("rows" : Str) (.ref T2) (putF ("notes" : Str) (.ref nA) []))) := upd_same
    have hN3 : SqT K (upd H3 x (.ins CP dx (putF ("rows" : Str) (.ref T2) (putF ("notes" : Str) (.ref nA) [])))) nA ys := sqT_ins (s3 _ _ hx1) (sqT_tk (TK.same s3) hN1)
    have hT3 : SqT K (upd H3 x (.ins CP dx (putF ("rows" : Str) (.ref T2) (putF ("notes" : Str) (.ref nA) [])))) T2 xs := sqT_ins (s3 _ _ hx1) hT
    generalize upd H3 x (.ins CP dx (putF ("rows" : Str) (.ref T2) (putF ("notes" : Str) (.ref nA) []))) = H4 at k3 hx3 hN3 hT3 ⊢
    refine ⟨_, rfl, x, CP, dx, _, _, rfl, hx3, Pt.ins.cl, Pt.no "rows" (by simp), by ((repeat (rw [lookup_putF]; first | rw [if_pos rfl] | rw [if_neg (by decide +kernel)])); try rfl), ?_⟩
    refine ⟨T2, xs, rs, rfl, .inr hT3, hrs.nx hx k3, dp, by omega, fun l H5 ws s5 n5 h5 hw => ?_⟩
    refine ⟨l, ws, rfl, .inl ⟨SqL.of h5, fun u n6 => ?_⟩⟩
    have s6 := sm_new (o := .tup ws) n6
    have s56 := s5.trans s6
    have h6 : (upd H5 u (.tup ws)) u = some (.tup ws) := upd_same
    have hw6 := hw.tk (TK.same s6)
    generalize upd H5 u (.tup ws) = H6 at s56 h6 hw6 s6 ⊢
    refine ⟨_, rfl, x, CP, dx, _, rfl, s56 _ _ hx3, Pt.ins.cl, Pt.no "numbered" (by simp), Nat.le_of_ble_eq_true rfl, ?_⟩
    have n3 : (putF ("numbered" : Str) (.ref u) (putF ("rows" : Str) (.ref T2) (putF ("notes" : Str) (.ref nA) []))).lookup ("script" : Str) = none := by ((repeat (rw [lookup_putF]; first | rw [if_pos rfl] | rw [if_neg (by decide +kernel)])); try rfl)
    have n3' : (putF ("rows" : Str) (.ref T2) (putF ("notes" : Str) (.ref nA) [])).lookup ("script" : Str) = none := by ((repeat (rw [lookup_putF]; first | rw [if_pos rfl] | rw [if_neg (by decide +kernel)])); try rfl)
    have m3' : (putF ("rows" : Str) (.ref T2) (putF ("notes" : Str) (.ref nA) [])).lookup ("numbers" : Str) = none := by ((repeat (rw [lookup_putF]; first | rw [if_pos rfl] | rw [if_neg (by decide +kernel)])); try rfl)
    have k7 : ∀ b o, b ≠ x → H6 b = some o → (upd H6 x (.ins CP dx (putF ("numbered" : Str) (.ref u) (putF ("rows" : Str) (.ref T2) (putF ("notes" : Str) (.ref nA) []))))) b = some o := fun b o n e => by rw [upd_ne n]; exact e
    have hx7 : (upd H6 x (.ins CP dx (putF ("numbered" : Str) (.ref u) (putF ("rows" : Str) (.ref T2) (putF ("notes" : Str) (.ref nA) []))))) x = some (.ins CP dx (putF ("numbered" : Str) (.ref u) (putF ("rows" : Str) (.ref T2) (putF ("notes" : Str) (.ref nA) [])))) := upd_same
    have hx6 := s56 _ _ hx3
    have hw7 := hw6.ng hx6 n3' m3' k7
    have hN7 := sqT_ng hx6 k7 (sqT_tk (TK.same s56) hN3)
    have hT7 := sqT_ng hx6 k7 (sqT_tk (TK.same s56) hT3)
    have hu7 := sqT_ng hx6 k7 (SqT.of (K := K) h6)
    have kH7 : ∀ b o, b ≠ x → H b = some o → (upd H6 x (.ins CP dx (putF ("numbered" : Str) (.ref u) (putF ("rows" : Str) (.ref T2) (putF ("notes" : Str) (.ref nA) []))))) b = some o := fun b o n e => k7 _ _ n (s56 _ _ (k3 _ _ n e))
    generalize upd H6 x (.ins CP dx (putF ("numbered" : Str) (.ref u) (putF ("rows" : Str) (.ref T2) (putF ("notes" : Str) (.ref nA) [])))) = H7 at hx7 hw7 hN7 hT7 hu7 kH7 ⊢
    refine ⟨_, rfl, x, CP, dx, _, _, rfl, hx7, Pt.ins.cl, Pt.no "rows" (by simp), by ((repeat (rw [lookup_putF]; first | rw [if_pos rfl] | rw [if_neg (by decide +kernel)])); try rfl), ?_⟩
    refine ⟨T2, xs, rs, rfl, .inr hT7, hrs.nx hx kH7, dp, by omega, fun st H8 svs s8 h8 hsv => ?_⟩
    refine ⟨_, rfl, x, CP, dx, _, rfl, s8 _ _ hx7, Pt.ins.cl, Pt.no "steps" (by simp), Nat.le_of_ble_eq_true rfl, ?_⟩
    have m7 : (putF ("numbered" : Str) (.ref u) (putF ("rows" : Str) (.ref T2) (putF ("notes" : Str) (.ref nA) []))).lookup ("numbers" : Str) = none := by ((repeat (rw [lookup_putF]; first | rw [if_pos rfl] | rw [if_neg (by decide +kernel)])); try rfl)
    have k9 : ∀ b o, b ≠ x → H8 b = some o → (upd H8 x (.ins CP dx (putF ("steps" : Str) (.ref st) (putF ("numbered" : Str) (.ref u) (putF ("rows" : Str) (.ref T2) (putF ("notes" : Str) (.ref nA) [])))))) b = some o := fun b o n e => by rw [upd_ne n]; exact e
    have hx8 := s8 _ _ hx7
    have hx9 : (upd H8 x (.ins CP dx (putF ("steps" : Str) (.ref st) (putF ("numbered" : Str) (.ref u) (putF ("rows" : Str) (.ref T2) (putF ("notes" : Str) (.ref nA) [])))))) x = some (.ins CP dx (putF ("steps" : Str) (.ref st) (putF ("numbered" : Str) (.ref u) (putF ("rows" : Str) (.ref T2) (putF ("notes" : Str) (.ref nA) []))))) := upd_same
    have hw9 := (hw7.tk (TK.same s8)).ng hx8 n3 m7 k9
    have hN9 := sqT_ng hx8 k9 (sqT_tk (TK.same s8) hN7)
    have hT9 := sqT_ng hx8 k9 (sqT_tk (TK.same s8) hT7)
    have hu9 := sqT_ng hx8 k9 (sqT_tk (TK.same s8) hu7)
    have hS9 := sqT_ng hx8 k9 (SqT.of (K := K) h8)
    have hsv9 := hsv.ng hx8 n3 m7 k9
    have kH9 : ∀ b o, b ≠ x → H b = some o → (upd H8 x (.ins CP dx (putF ("steps" : Str) (.ref st) (putF ("numbered" : Str) (.ref u) (putF ("rows" : Str) (.ref T2) (putF ("notes" : Str) (.ref nA) [])))))) b = some o := fun b o n e => k9 _ _ n (s8 _ _ (kH7 _ _ n e))
    have hns9 := NotesAt.ng hx kH9 hns
    have hrs9 := hrs.nx hx kH9
    generalize upd H8 x (.ins CP dx (putF ("steps" : Str) (.ref st) (putF ("numbered" : Str) (.ref u) (putF ("rows" : Str) (.ref T2) (putF ("notes" : Str) (.ref nA) []))))) = H9 at hx9 hw9 hN9 hT9 hu9 hS9 hsv9 kH9 hns9 hrs9 ⊢
    have hP : ProgAt K c CP H9 x ns rs := ⟨dx, nA, T2, u, st, _, ys, xs, ws, svs, hx9, Nat.le_of_ble_eq_true rfl, by ((repeat (rw [lookup_putF]; first | rw [if_pos rfl] | rw [if_neg (by decide +kernel)])); try rfl), hN9, hns9, by ((repeat (rw [lookup_putF]; first | rw [if_pos rfl] | rw [if_neg (by decide +kernel)])); try rfl), hT9, hrs9, by ((repeat (rw [lookup_putF]; first | rw [if_pos rfl] | rw [if_neg (by decide +kernel)])); try rfl), hu9, hw9, by ((repeat (rw [lookup_putF]; first | rw [if_pos rfl] | rw [if_neg (by decide +kernel)])); try rfl), hS9, hsv9⟩
    refine ⟨_, rfl, x, CP, dx, _, .ref nA, rfl, hx9, Pt.ins.cl, Pt.no "notes" (by simp), by ((repeat (rw [lookup_putF]; first | rw [if_pos rfl] | rw [if_neg (by decide +kernel)])); try rfl), nA, rfl, ⟨_, hN9⟩, fun D hD => ?_⟩
    refine lc_tup (xs := ys) (fun j H' => Hd H9 H' [(D, .lst (((ns.take j).map (·.1)).map V.str))]) ((Hd.start H9).new hD _) (fun j H' _ m => sqT_tk m.tk hN9) (fun j v H' hj m => ?_) (fun H' m => ?_)
    · obtain ⟨q, mm, rfl, hmm, hq, _⟩ := (hns9.tk m.tk).ix hj
      have ln := hns.len
      have lj := (List.getElem?_eq_some_iff.mp hj).1
      refine ⟨q, _, rfl, SqT.of hq, rfl, _, _, rfl, _, _, rfl, rfl, rfl, ?_⟩
      refine ifT (B := Hd H9 H' [(D, .lst (((ns.take (j + 1)).map (·.1)).map V.str))]) rfl ⟨_, rfl, _, m.get (.head _), ?_, ?_⟩
      · simp only [List.length_map, List.length_take]
        exact szs (by omega)
      · have := m.set 0 rfl (.lst (((ns.take j).map (·.1)).map V.str ++ [V.str mm.1]))
        rw [List.take_succ, hmm, List.map_append, List.map_append]
        exact this
    · have hD' : H' D = some (.lst ((ns.map (·.1)).map V.str)) := by
        have := m.get (.head _)
        rwa [hns.len, List.take_length] at this
      have s9 := m.sm
      refine ⟨_, rfl, x, CP, dx, _, .ref u, rfl, s9 _ _ hx9, Pt.ins.cl, Pt.no "numbered" (by simp), by ((repeat (rw [lookup_putF]; first | rw [if_pos rfl] | rw [if_neg (by decide +kernel)])); try rfl), u, rfl, ⟨_, sqT_tk (TK.same s9) hu9⟩, ?_⟩
      refine for_tup (xs := ws) (fun j σ Hj => Same H' Hj ∧ ∃ y4 y5 : Option V, σ = [some (.ref x), some (.ref a), some (.ref b), some (.ref D), y4, y5, none]) ⟨Same.refl _, _, _, rfl⟩ (fun j σ Hj _ m => sqT_tk (TK.same (s9.trans m.1)) hu9) (fun j v σ Hj hj m => ?_) (fun σ Hj m => ?_)
      · obtain ⟨sj, y4, y5, rfl⟩ := m
        obtain ⟨p, r, rfl, hr', hp⟩ := (hw9.tk (TK.same (s9.trans sj))).at hj
        obtain ⟨fs, dq, sa, ua, g1, g2, g3, g4, g5, g6, g7, g8, g9⟩ := hp.part
        refine ⟨_, rfl, p, _, dq, fs, _, rfl, g1, (Hc.r r).ins.cl, (Hc.r r).no "used" (by simp [fnames]), g5, ua, rfl, ⟨_, g6⟩, ?_⟩
        refine for_tup (xs := r.uses.map V.str) (fun i σ Hi => Same Hj Hi ∧ ∃ y5 : Option V, σ = [some (.ref x), some (.ref a), some (.ref b), some (.ref D), some (.ref p), y5, none]) ⟨Same.refl _, _, rfl⟩ (fun i σ Hi _ m => sqT_tk (TK.same m.1) g6) (fun i v σ Hi hi m => ?_) (fun σ Hi m => ?_)
        · obtain ⟨si, y5, rfl⟩ := m
          rw [List.getElem?_map] at hi
          obtain ⟨z, hz, rfl⟩ := Option.map_eq_some_iff.mp hi
          have hm : z ∈ ns.map (·.1) := uok r (List.mem_of_getElem? hr') z (List.mem_of_getElem? hz)
          refine ⟨_, rfl, _, rfl, D, _, rfl, .inl (SqL.of (si _ _ (sj _ _ hD'))), rfl, flat_strs _, ?_⟩
          refine ⟨_, rfl, ?_⟩
          refine ifF (by rw [if_pos rfl, inV_strs, decide_eq_true hm]; rfl) ⟨si, _, rfl⟩
        · obtain ⟨si, y5, rfl⟩ := m
          exact ⟨sj.trans si, _, _, rfl⟩
      · obtain ⟨sj, y4, y5, rfl⟩ := m
        have s0 := s9.trans sj
        exact k Hj (fun b o n e => s0 _ _ (kH9 _ _ n e)) (hP.tk (TK.same s0))
end

/-! ## one who goes along the steps -/
namespace Pg
structure SI (mg : Str → Option Value) : Prop where
  longer : GI mg "LONGER" 1
  shorter : GI mg "SHORTER" (-1)
  alike : GI mg "ALIKE" 0
structure SM (mg : Str → Option Value) : Prop where
  mark : GS mg "MARK" "mark"
  row : GS mg "ROW" "row"
theorem walk_enT {K : PySem.W.Frag} {a : Addr} {xs : List V} {n : Nat} (h : n = xs.length) : Walk (ItE (nT K a xs) (vT xs)) n (fun H => SqT K H a xs) (fun i H x H' => ∃ T v, x = .ref T ∧ H T = none ∧ H' = upd H T (.tup [.int (i : Nat), v]) ∧ xs[i]? = some v) :=
  ⟨fun i H hi hg => ⟨n, ⟨hg, h⟩, hi⟩, fun H hg => ⟨hg, h⟩, fun i H x H' _ _ y => y⟩
def ordV (m : Mt) : V := match ordM m with
  | some i => .int i
  | none => .non
def sp_order (K : PySem.W.Frag) : Sp := fun vs H Q _ => ∃ (u : Addr) (m : Mt), vs = [.ref u] ∧ SqT K H u m.tl ∧ Q (ordV m) H
def sp_wants (K : PySem.W.Frag) (c : Clz) (d : Nat) : Sp := fun vs H Q _ => ∃ (q : Addr) (t : Tst), vs = [.ref q] ∧ TstAt K c H q t ∧ t.deep < d ∧ d ≤ 10 ∧ Q (.bl (wantsT t)) H
/-- what happened, as data -/
def EvAt (H : Hp) (v : V) : Ev → Prop
  | .mark z => ∃ t, v = .ref t ∧ H t = some (.tup [.str "mark", .str z])
  | .row n => ∃ t, v = .ref t ∧ H t = some (.tup [.str "row", .int (n : Nat)])
  | .let_ z => ∃ t, v = .ref t ∧ H t = some (.tup [.str "letter", .str z])
def EvsAt (H : Hp) : List V → List Ev → Prop
  | [], [] => True
  | v :: vs, e :: es => EvAt H v e ∧ EvsAt H vs es
  | _, _ => False
theorem EvAt.tt {H H' : Hp} (s : TT H H') {v : V} : ∀ {e : Ev}, EvAt H v e → EvAt H' v e
  | .mark _, ⟨t, e, h⟩ => ⟨t, e, s _ _ rfl h⟩
  | .row _, ⟨t, e, h⟩ => ⟨t, e, s _ _ rfl h⟩
  | .let_ _, ⟨t, e, h⟩ => ⟨t, e, s _ _ rfl h⟩
theorem EvsAt.tt {H H' : Hp} (s : TT H H') : ∀ {vs : List V} {es : List Ev}, EvsAt H vs es → EvsAt H' vs es
  | [], [], _ => trivial
  | _ :: _, _ :: _, ⟨h, t⟩ => ⟨h.tt s, EvsAt.tt s t⟩
theorem EvsAt.len {H : Hp} : ∀ {vs : List V} {es : List Ev}, EvsAt H vs es → vs.length = es.length
  | [], [], _ => rfl
  | _ :: _, _ :: _, ⟨_, t⟩ => congrArg Nat.succ (EvsAt.len t)
theorem EvsAt.app {H : Hp} : ∀ {xs ys : List V} {es fs : List Ev}, EvsAt H xs es → EvsAt H ys fs → EvsAt H (xs ++ ys) (es ++ fs)
  | [], _, [], _, _, h => h
  | _ :: _, _, _ :: _, _, ⟨h, t⟩, g => ⟨h, EvsAt.app t g⟩
/-- the fields -/
def stF (nA sA : Addr) (i : Nat) (r u e : Addr) (l : Nat) (b : Bool) : List (Str × V) := [("notes", .ref nA), ("steps", .ref sA), ("spot", .int (i : Nat)), ("note_rests", .ref r), ("numbers", .ref u), ("events", .ref e), ("layings", .int (l : Nat)), ("stopped", .bl b)]
def sp_joined (K : PySem.W.Frag) : Sp := fun vs H Q _ => ∃ (p q : Addr) (m n : Mt), vs = [.ref p, .ref q] ∧ SqT K H p m.tl ∧ SqT K H q n.tl ∧ m.In 1000 ∧ n.In 1000 ∧ New H (.tup (m.mul n).tl) Q
theorem stF_spot {nA sA r u e : Addr} {i l : Nat} {b : Bool} (j : Nat) : putF "spot" (.int (j : Nat)) (stF nA sA i r u e l b) = stF nA sA j r u e l b := by
  simp [stF, putF, show ¬ ("notes" : Str) = "spot" from by decide +kernel, show ¬ ("steps" : Str) = "spot" from by decide +kernel, show ¬ ("note_rests" : Str) = "spot" from by decide +kernel, show ¬ ("numbers" : Str) = "spot" from by decide +kernel, show ¬ ("events" : Str) = "spot" from by decide +kernel, show ¬ ("layings" : Str) = "spot" from by decide +kernel, show ¬ ("stopped" : Str) = "spot" from by decide +kernel]
theorem stF_numbers {nA sA r u e : Addr} {i l : Nat} {b : Bool} (v : Addr) : putF "numbers" (.ref v) (stF nA sA i r u e l b) = stF nA sA i r v e l b := by
  simp [stF, putF, show ¬ ("notes" : Str) = "numbers" from by decide +kernel, show ¬ ("steps" : Str) = "numbers" from by decide +kernel, show ¬ ("spot" : Str) = "numbers" from by decide +kernel, show ¬ ("note_rests" : Str) = "numbers" from by decide +kernel, show ¬ ("events" : Str) = "numbers" from by decide +kernel, show ¬ ("layings" : Str) = "numbers" from by decide +kernel, show ¬ ("stopped" : Str) = "numbers" from by decide +kernel]
theorem stF_layings {nA sA r u e : Addr} {i l : Nat} {b : Bool} (j : Nat) : putF "layings" (.int (j : Nat)) (stF nA sA i r u e l b) = stF nA sA i r u e j b := by
  simp [stF, putF, show ¬ ("notes" : Str) = "layings" from by decide +kernel, show ¬ ("steps" : Str) = "layings" from by decide +kernel, show ¬ ("spot" : Str) = "layings" from by decide +kernel, show ¬ ("note_rests" : Str) = "layings" from by decide +kernel, show ¬ ("numbers" : Str) = "layings" from by decide +kernel, show ¬ ("events" : Str) = "layings" from by decide +kernel, show ¬ ("stopped" : Str) = "layings" from by decide +kernel]
theorem stF_stopped {nA sA r u e : Addr} {i l : Nat} {b : Bool} (d : Bool) : putF "stopped" (.bl d) (stF nA sA i r u e l b) = stF nA sA i r u e l d := by
  simp [stF, putF, show ¬ ("notes" : Str) = "stopped" from by decide +kernel, show ¬ ("steps" : Str) = "stopped" from by decide +kernel, show ¬ ("spot" : Str) = "stopped" from by decide +kernel, show ¬ ("note_rests" : Str) = "stopped" from by decide +kernel, show ¬ ("numbers" : Str) = "stopped" from by decide +kernel, show ¬ ("events" : Str) = "stopped" from by decide +kernel, show ¬ ("layings" : Str) = "stopped" from by decide +kernel]
theorem lk_notes (nA sA : Addr) (i : Nat) (r u e : Addr) (l : Nat) (b : Bool) : (stF nA sA i r u e l b).lookup ("notes" : Str) = some (.ref nA) := by kernel_rfl
theorem lk_steps (nA sA : Addr) (i : Nat) (r u e : Addr) (l : Nat) (b : Bool) : (stF nA sA i r u e l b).lookup ("steps" : Str) = some (.ref sA) := by kernel_rfl
theorem lk_spot (nA sA : Addr) (i : Nat) (r u e : Addr) (l : Nat) (b : Bool) : (stF nA sA i r u e l b).lookup ("spot" : Str) = some (.int (i : Nat)) := by kernel_rfl
theorem lk_note_rests (nA sA : Addr) (i : Nat) (r u e : Addr) (l : Nat) (b : Bool) : (stF nA sA i r u e l b).lookup ("note_rests" : Str) = some (.ref r) := by kernel_rfl
theorem lk_numbers (nA sA : Addr) (i : Nat) (r u e : Addr) (l : Nat) (b : Bool) : (stF nA sA i r u e l b).lookup ("numbers" : Str) = some (.ref u) := by kernel_rfl
theorem lk_events (nA sA : Addr) (i : Nat) (r u e : Addr) (l : Nat) (b : Bool) : (stF nA sA i r u e l b).lookup ("events" : Str) = some (.ref e) := by kernel_rfl
theorem lk_layings (nA sA : Addr) (i : Nat) (r u e : Addr) (l : Nat) (b : Bool) : (stF nA sA i r u e l b).lookup ("layings" : Str) = some (.int (l : Nat)) := by kernel_rfl
theorem lk_stopped (nA sA : Addr) (i : Nat) (r u e : Addr) (l : Nat) (b : Bool) : (stF nA sA i r u e l b).lookup ("stopped" : Str) = some (.bl b) := by kernel_rfl
theorem EvAt.same {H H' : Hp} (s : Same H H') {v : V} {e : Ev} (h : EvAt H v e) : EvAt H' v e := h.tt (TK.same s).tt
/-- the class -/
structure StT (K : PySem.W.Frag) (CS : Addr) : Prop where
  ins : C8.InsC K CS
  no : ∀ f ∈ (["notes", "steps", "spot", "note_rests", "numbers", "events", "layings", "stopped"] : List Str), PySem.W.findIn K (.ref CS) f = some none
/-- the notes and the steps of a program, as they stand -/
structure PgF (K : PySem.W.Frag) (c : Clz) (H0 : Hp) (nA sA : Addr) (ns : List (Str × Int)) (ps : List PSt) : Prop where
  ex : ∃ nvs svs, SqT K H0 nA nvs ∧ NotesAt H0 nvs ns ∧ SqT K H0 sA svs ∧ StepsAt K c H0 svs ps
structure StpX (K : PySem.W.Frag) (CS : Addr) (H0 H : Hp) (x dx r u e nA sA : Addr) (evs : List V) (i : Nat) (s : Rs) : Prop where
  sm : Same H0 H
  x0 : H0 x = none
  r0 : H0 r = none
  e0 : H0 e = none
  re : r ≠ e
  hx : H x = some (.ins CS dx (stF nA sA i r u e s.lay s.stop))
  hr : H r = some (.lst (s.rests.map V.int))
  hu : SqT K H u s.num.tl
  he : H e = some (.lst evs)
  ev : EvsAt H evs s.ev
def StpAt (K : PySem.W.Frag) (CS : Addr) (H0 H : Hp) (x nA sA : Addr) (i : Nat) (s : Rs) : Prop := ∃ dx r u e evs, StpX K CS H0 H x dx r u e nA sA evs i s
section
variable {K : PySem.W.Frag} {CS : Addr} {H0 H H' : Hp} {x dx r u e nA sA : Addr} {evs : List V} {i : Nat} {s : Rs}
theorem StpX.same (w : StpX K CS H0 H x dx r u e nA sA evs i s) (m : Same H H') : StpX K CS H0 H' x dx r u e nA sA evs i s :=
  ⟨w.sm.trans m, w.x0, w.r0, w.e0, w.re, m _ _ w.hx, m _ _ w.hr, sqT_tk (TK.same m) w.hu, m _ _ w.he, w.ev.tt (TK.same m).tt⟩
theorem StpX.xr (w : StpX K CS H0 H x dx r u e nA sA evs i s) : x ≠ r := fun q => by have := w.hx; rw [q, w.hr] at this; cases this
theorem StpX.xe (w : StpX K CS H0 H x dx r u e nA sA evs i s) : x ≠ e := fun q => by have := w.hx; rw [q, w.he] at this; cases this
/-- the object itself changed -/
theorem StpX.setx {fs : List (Str × V)} {u' : Addr} {j : Nat} {s' : Rs} (w : StpX K CS H0 H x dx r u e nA sA evs i s) (ef : fs = stF nA sA j r u' e s'.lay s'.stop) (e1 : s'.rests = s.rests) (e2 : s'.ev = s.ev) (hu : SqT K H u' s'.num.tl) : StpX K CS H0 (upd H x (.ins CS dx fs)) x dx r u' e nA sA evs j s' := by
  have tt : TT H (upd H x (.ins CS dx fs)) := fun a o t h => by
    have : a ≠ x := fun q => by rw [q, w.hx] at h; cases h; cases t
    rw [upd_ne this]; exact h
  refine ⟨fun a o h => by rw [upd_ne (ne_of_none h w.x0)]; exact w.sm _ _ h, w.x0, w.r0, w.e0, w.re, by rw [upd_same, ef], by rw [upd_ne w.xr.symm, e1]; exact w.hr, sqT_tt tt hu, by rw [upd_ne w.xe.symm]; exact w.he, by rw [e2]; exact w.ev.tt tt⟩
/-- the rests changed -/
theorem StpX.setr {is : List Int} (w : StpX K CS H0 H x dx r u e nA sA evs i s) : StpX K CS H0 (upd H r (.lst (is.map V.int))) x dx r u e nA sA evs i { s with rests := is } := by
  have tt : TT H (upd H r (.lst (is.map V.int))) := fun a o t h => by
    have : a ≠ r := fun q => by rw [q, w.hr] at h; cases h; cases t
    rw [upd_ne this]; exact h
  exact ⟨fun a o h => by rw [upd_ne (ne_of_none h w.r0)]; exact w.sm _ _ h, w.x0, w.r0, w.e0, w.re, by rw [upd_ne w.xr]; exact w.hx, upd_same, sqT_tt tt w.hu, by rw [upd_ne w.re.symm]; exact w.he, w.ev.tt tt⟩
/-- something happened -/
theorem StpX.sete {v : V} {y : Ev} (w : StpX K CS H0 H x dx r u e nA sA evs i s) (h : EvAt H v y) : StpX K CS H0 (upd H e (.lst (evs ++ [v]))) x dx r u e nA sA (evs ++ [v]) i { s with ev := s.ev ++ [y] } := by
  have tt : TT H (upd H e (.lst (evs ++ [v]))) := fun a o t h => by
    have : a ≠ e := fun q => by rw [q, w.he] at h; cases h; cases t
    rw [upd_ne this]; exact h
  exact ⟨fun a o h => by rw [upd_ne (ne_of_none h w.e0)]; exact w.sm _ _ h, w.x0, w.r0, w.e0, w.re, by rw [upd_ne w.xe]; exact w.hx, by rw [upd_ne w.re]; exact w.hr, sqT_tt tt w.hu, upd_same, (w.ev.tt tt).app (ys := [v]) (fs := [y]) ⟨h.tt tt, trivial⟩⟩
end
theorem plN_lt {ns : List (Str × Int)} {z : Str} (h : z ∈ ns.map (·.1)) : plN ns z < ns.length := by
  obtain ⟨m, hm, e⟩ := List.mem_map.mp h
  exact List.findIdx_lt_length_of_exists ⟨m, hm, decide_eq_true e⟩
theorem plN_at {ns : List (Str × Int)} {z : Str} {m : Str × Int} (h : ns[plN ns z]? = some m) : m.1 = z := by
  obtain ⟨l, e⟩ := List.getElem?_eq_some_iff.mp h
  have q : decide ((ns[plN ns z]'l).1 = z) = true := List.findIdx_getElem (p := fun m : Str × Int => decide (m.1 = z)) (w := l)
  rw [e] at q
  exact of_decide_eq_true q
theorem plN_ne {ns : List (Str × Int)} {z : Str} {i : Nat} {m : Str × Int} (h : ns[i]? = some m) (l : i < plN ns z) : m.1 ≠ z := fun q => by
  obtain ⟨l', e⟩ := List.getElem?_eq_some_iff.mp h
  have := List.not_of_lt_findIdx (p := fun m : Str × Int => decide (m.1 = z)) (xs := ns) (i := i) l
  rw [e, decide_eq_true q] at this
  cases this
def sp_place (K : PySem.W.Frag) (c : Clz) (CS : Addr) : Sp := fun vs H Q _ => ∃ (H0 : Hp) (x nA sA : Addr) (i : Nat) (s : Rs) (ns : List (Str × Int)) (ps : List PSt) (z : Str), vs = [.ref x, .str z] ∧ PgF K c H0 nA sA ns ps ∧ StpAt K CS H0 H x nA sA i s ∧ z ∈ ns.map (·.1) ∧ ns.length ≤ 1000 ∧ ∀ H', Same H H' → Q (.int (plN ns z : Nat)) H'
def sp_slay (K : PySem.W.Frag) (CS : Addr) : Sp := fun vs H Q _ => ∃ (H0 : Hp) (x nA sA : Addr) (i : Nat) (s : Rs), vs = [.ref x] ∧ StpAt K CS H0 H x nA sA i s ∧ ∀ H', StpAt K CS H0 H' x nA sA i (layS s) → Q (.str (layL s)) H'
theorem ordV_sc {m : Mt} {i : Int} : scal (ordV m) (.int i) = true := by
  unfold ordV
  cases ordM m <;> rfl
theorem ordV_eq {m : Mt} {i : Int} : decide (ordV m = .int i) = decide (ordM m = some i) := by
  unfold ordV
  cases ordM m with
  | none => rfl
  | some j => exact decide_eq_decide.mpr ⟨fun e => by injection e with e; rw [e], fun e => by injection e with e; rw [e]⟩
/-- an object that is being filled -/
structure IS (CS : Addr) (H0 H Hc : Hp) (x dx : Addr) (fs : List (Str × V)) : Prop where
  x0 : H0 x = none
  sm : Same H0 Hc
  at_ : Hc x = some (.ins CS dx fs)
  kp : ∀ b o, b ≠ x → H b = some o → Hc b = some o
theorem IS.put {CS x dx : Addr} {H0 H Hc : Hp} {fs : List (Str × V)} (w : IS CS H0 H Hc x dx fs) (f : Str) (v : V) : IS CS H0 H (upd Hc x (.ins CS dx (putF f v fs))) x dx (putF f v fs) :=
  ⟨w.x0, fun b o e => by rw [upd_ne (ne_of_none e w.x0)]; exact w.sm _ _ e, upd_same, fun b o n e => by rw [upd_ne n]; exact w.kp _ _ n e⟩
theorem IS.same {CS x dx : Addr} {H0 H Hc H' : Hp} {fs : List (Str × V)} (w : IS CS H0 H Hc x dx fs) (s : Same Hc H') : IS CS H0 H H' x dx fs := ⟨w.x0, w.sm.trans s, s _ _ w.at_, fun b o n e => s _ _ (w.kp _ _ n e)⟩
/-- what is no such object stays -/
theorem IS.ot {CS x dx a : Addr} {H0 H Hc : Hp} {fs : List (Str × V)} {o u : HO} (w : IS CS H0 H Hc x dx fs) (h : Hc a = some o) (n : ∀ fs', o ≠ .ins CS dx fs') : (upd Hc x u) a = some o := by
  have : a ≠ x := fun e => by
    rw [e, w.at_] at h
    cases h
    exact n fs rfl
  rw [upd_ne this]; exact h
def sp_stinit (K : PySem.W.Frag) (c : Clz) (CP CS : Addr) : Sp := fun vs H Q _ => ∃ (H0 : Hp) (x dx p a q : Addr) (i : Nat) (is : List Int) (m : Mt) (ns : List (Str × Int)) (rs : List Rw1), vs = [.ref x, .ref p, .int (i : Nat), .ref a, .ref q] ∧ H x = some (.ins CS dx []) ∧ H0 x = none ∧ Same H0 H ∧ ProgAt K c CP H0 p ns rs ∧ SqA K H0 a (is.map V.int) ∧ is.length ≤ 1000 ∧ SqT K H0 q m.tl ∧
  ∀ nA sA H', PgF K c H0 nA sA ns (stepsL rs 0 0) → StpAt K CS H0 H' x nA sA i ⟨is, m, [], 0, false⟩ → (∀ b o, b ≠ x → H b = some o → H' b = some o) → Q .non H'
end Pg
open Pg
section
variable {P : Program} {w : World} {K : PySem.W.Frag} {mg : Str → Option Value} {base : Heap}
theorem ok_joined {f : Addr} {fd : FuncData} (F : Fun K "numbers_joined" "numbers_joined" S_numbers_joined f fd) (T : Txt K mg) : FnOk P w K mg base CX0 1 f fd ["one", "other"] (sp_joined K) := by
  refine F.ok SC_numbers_joined (fun vs H Q E h => ?_) (fun cdv A outer s H vs Q E hr h => ?_)
  · obtain ⟨p, q, m, n, rfl, _⟩ := h
    rfl
  · obtain ⟨p, q, m, n, rfl, hp, hq, bm, bn, k⟩ := h
    obtain ⟨m1, m2, m3, m4⟩ := In1000 bm
    obtain ⟨n1, n2, n3, n4⟩ := In1000 bn
    refine ⟨_, (pss_cons (ps_asg (pv 0) (pg_tup rfl (pgs_cons (pg_name (i := 2) SC_numbers_joined.nd rfl (.inl rfl)) (pgs_cons (pg_name (i := 3) SC_numbers_joined.nd rfl (.inl rfl)) (pgs_cons (pg_name (i := 4) SC_numbers_joined.nd rfl (.inl rfl)) (pgs_cons (pg_name (i := 5) SC_numbers_joined.nd rfl (.inl rfl)) pgs_nil))))))
      (pss_cons (ps_asg (pv 1) (pg_tup rfl (pgs_cons (pg_name (i := 6) SC_numbers_joined.nd rfl (.inl rfl)) (pgs_cons (pg_name (i := 7) SC_numbers_joined.nd rfl (.inl rfl)) (pgs_cons (pg_name (i := 8) SC_numbers_joined.nd rfl (.inl rfl)) (pgs_cons (pg_name (i := 9) SC_numbers_joined.nd rfl (.inl rfl)) pgs_nil))))))
      (pss_one (ps_ret (pe_tupN (pa_cons (pe_op op_add (pe_op op_mulW (pv 2) (pv 6)) (pe_op op_mulW (pv 3) (pv 8))) (pa_cons (pe_op op_add (pe_op op_mulW (pv 2) (pv 7)) (pe_op op_mulW (pv 3) (pv 9))) (pa_cons (pe_op op_add (pe_op op_mulW (pv 4) (pv 6)) (pe_op op_mulW (pv 5) (pv 8))) (pa_cons (pe_op op_add (pe_op op_mulW (pv 4) (pv 7)) (pe_op op_mulW (pv 5) (pv 9))) pa_nil))))))))), ?_⟩
    walk_at "kw"
    exact k
theorem ok_order {f : Addr} {fd : FuncData} (F : Fun K "order_of" "order_of" S_order_of f fd) (T : Txt K mg) (Si : SI mg) : FnOk P w K mg base CX0 1 f fd ["numbers"] (sp_order K) := by
  obtain ⟨tA, hALIKE⟩ := Si.alike.ex
  obtain ⟨tL, hLONGER⟩ := Si.longer.ex
  obtain ⟨tS, hSHORTER⟩ := Si.shorter.ex
  refine F.ok SC_order_of (fun vs H Q E h => ?_) (fun cdv A outer s H vs Q E hr h => ?_)
  · obtain ⟨u, m, rfl, _⟩ := h
    rfl
  · obtain ⟨u, m, rfl, hu, k⟩ := h
    refine ⟨_, (pss_cons (ps_asg (pv 0) (pg_tup rfl (pgs_cons (pg_name (i := 1) SC_order_of.nd rfl (.inl rfl)) (pgs_cons (pg_name (i := 2) SC_order_of.nd rfl (.inl rfl)) (pgs_cons (pg_name (i := 3) SC_order_of.nd rfl (.inl rfl)) (pgs_cons (pg_name (i := 4) SC_order_of.nd rfl (.inl rfl)) pgs_nil))))))
      (pss_cons (ps_if (PW.pt (pw_and (pt_cmpR op_eq (pv 1) (pv 3) (nomark _)) (pw_and1 (pt_cmpR op_eq (pv 2) (pv 4) (nomark _))))) (pss_one (ps_ret (pe_glob (v := .int 0) (by rfl) hALIKE ⟨_, rfl⟩))) pss_nil)
      (pss_cons (ps_if (PW.pt (pw_and (pt_cmpR op_ge (pv 1) (pv 3) (nomark _)) (pw_and1 (pt_cmpR op_ge (pv 2) (pv 4) (nomark _))))) (pss_one (ps_ret (pe_glob (v := .int 1) (by rfl) hLONGER ⟨_, rfl⟩))) pss_nil)
      (pss_one (ps_ret (pe_ifExp (PW.pt (pw_and (pt_cmpR op_le (pv 1) (pv 3) (nomark _)) (pw_and1 (pt_cmpR op_le (pv 2) (pv 4) (nomark _))))) (pe_glob (v := .int (-1)) (by rfl) hSHORTER ⟨_, rfl⟩) pe_non)))))), ?_⟩
    walk_at "kw"
    have kv : ∀ o, ordM m = o → Q (match o with | some i => .int i | none => .non) H := fun o e => by
      have := k
      unfold ordV at this
      rwa [e] at this
    have dV : ∀ i j : Int, decide (V.int i = V.int j) = decide (i = j) := fun i j => decide_eq_decide.mpr ⟨fun e => by injection e, fun e => by rw [e]⟩
    have second : ¬ (m.a = m.c ∧ m.b = m.d) → tSeq (tIfS (tAnd (tTest (tOp (rI0 fun i j => V.bl (decide (j ≤ i))) (tVar 1) (tVar 3))) (tTest (tOp (rI0 fun i j => V.bl (decide (j ≤ i))) (tVar 2) (tVar 4)))) (tRet (tC (.int 1))) tNext)
        (tRet (tIf (tAnd (tTest (tOp (rI0 fun i j => V.bl (decide (i ≤ j))) (tVar 1) (tVar 3))) (tTest (tOp (rI0 fun i j => V.bl (decide (i ≤ j))) (tVar 2) (tVar 4)))) (tC (.int (-1))) (tC .non))) { nx := fun _ H' => Q .non H', rt := Q } [some (.ref u), some (.int m.a), some (.int m.b), some (.int m.c), some (.int m.d)] H := fun n0 => by
      have third : ¬ (m.c ≤ m.a ∧ m.d ≤ m.b) → (tRet (tIf (tAnd (tTest (tOp (rI0 fun i j => V.bl (decide (i ≤ j))) (tVar 1) (tVar 3))) (tTest (tOp (rI0 fun i j => V.bl (decide (i ≤ j))) (tVar 2) (tVar 4)))) (tC (.int (-1))) (tC .non))) { nx := fun _ H' => Q .non H', rt := Q } [some (.ref u), some (.int m.a), some (.int m.b), some (.int m.c), some (.int m.d)] H := fun n1 => by
        refine ⟨_, rfl, _, rfl, _, _, rfl, rfl, _, rfl, ?_⟩
        by_cases h1 : m.a ≤ m.c
        · refine ifT (decide_eq_true h1) ⟨_, rfl, _, rfl, _, _, rfl, rfl, _, rfl, ?_⟩
          by_cases h2 : m.b ≤ m.d
          · exact ifT (decide_eq_true h2) (kv (some (-1)) (by unfold ordM; rw [if_neg n0, if_neg n1, if_pos ⟨h1, h2⟩]))
          · exact ifF (decide_eq_false h2) (kv none (by unfold ordM; rw [if_neg n0, if_neg n1, if_neg fun e => h2 e.2]))
        · exact ifF (decide_eq_false h1) (ifF rfl (kv none (by unfold ordM; rw [if_neg n0, if_neg n1, if_neg fun e => h1 e.1])))
      refine ⟨_, rfl, _, rfl, _, _, rfl, rfl, _, rfl, ?_⟩
      by_cases h1 : m.c ≤ m.a
      · refine ifT (decide_eq_true h1) ⟨_, rfl, _, rfl, _, _, rfl, rfl, _, rfl, ?_⟩
        by_cases h2 : m.d ≤ m.b
        · exact ifT (decide_eq_true h2) (kv (some 1) (by unfold ordM; rw [if_neg n0, if_pos ⟨h1, h2⟩]))
        · exact ifF (decide_eq_false h2) (third fun e => h2 e.2)
      · exact ifF (decide_eq_false h1) (ifF rfl (third fun e => h1 e.1))
    by_cases h1 : m.a = m.c
    · refine ifT (by rw [dV, decide_eq_true h1]) ⟨_, rfl, _, rfl, rfl, _, rfl, ?_⟩
      by_cases h2 : m.b = m.d
      · exact ifT (by rw [dV, decide_eq_true h2]) (kv (some 0) (by unfold ordM; rw [if_pos ⟨h1, h2⟩]))
      · exact ifF (by rw [dV, decide_eq_false h2]) (second fun e => h2 e.2)
    · exact ifF (by rw [dV, decide_eq_false h1]) (ifF rfl (second fun e => h1 e.1))
theorem ok_wants {f : Addr} {fd : FuncData} {c : Clz} {d : Nat} (F : Fun K "wants_order" "wants_order" S_wants_order f fd) (T : Txt K mg) (Hc : Hi K mg c) (Hk : Hk K c) (Hn : Hm mg c) (C_wants : FnC P w K mg base CX0 (d + 1) "wants_order" ["test"] (sp_wants K c d)) : FnOk P w K mg base CX0 (d + 2) f fd ["test"] (sp_wants K c (d + 1)) := by
  refine F.ok SC_wants_order (fun vs H Q E h => ?_) (fun cdv A outer s H vs Q E hr h => ?_)
  · obtain ⟨q, t, rfl, _⟩ := h
    rfl
  · obtain ⟨q, t, rfl, hq, dp, d10, k⟩ := h
    refine ⟨_, (pss_cons (ps_if (pt_val (pe_callB call_isi (by rfl) T.b_isinstance (by decide +kernel) (pa_cons (pv 0) (pa_cons (pe_glob (v := .ref c.not) (by rfl) Hn.not rfl) pa_nil)))) (pss_one (ps_ret (pe_callC C_wants (hr.mono (by omega)) rfl (pa_cons (pe_fld (pv 0) rfl) pa_nil)))) pss_nil)
      (pss_one (ps_ret (pe_not (pe_callB call_isi (by rfl) T.b_isinstance (by decide +kernel) (pa_cons (pv 0) (pa_cons (pe_glob (v := .ref c.holds) (by rfl) Hn.holds rfl) pa_nil))))))), ?_⟩
    obtain ⟨fs, dx, a, b, g1, _⟩ := hq.part
    have ti := tyx_ins (Hc.t t).ins g1
    refine ⟨_, rfl, .ref q, _, _, _, _, rfl, .own _, ti, Hk.not t, _, rfl, ?_⟩
    cases t with
    | not t =>
      obtain ⟨fs, q', ⟨dx, a, b, g1, g2, g3, _⟩, e1, hq'⟩ := hq
      have dp : t.deep + 1 < d + 1 := dp
      refine ifT rfl ?_
      exact ⟨_, rfl, q, _, dx, fs, _, rfl, g1, Hc.not.ins.cl, Hc.not.no "test" (by simp [fnames]), e1, q', t, rfl, hq', by omega, by omega, k⟩
    | holds z i => exact ifF rfl ⟨_, rfl, .ref q, _, _, _, _, rfl, .own _, ti, Hk.holds _, _, rfl, k⟩
    | longer => exact ifF rfl ⟨_, rfl, .ref q, _, _, _, _, rfl, .own _, ti, Hk.holds _, _, rfl, k⟩
    | shorter => exact ifF rfl ⟨_, rfl, .ref q, _, _, _, _, rfl, .own _, ti, Hk.holds _, _, rfl, k⟩
    | alike => exact ifF rfl ⟨_, rfl, .ref q, _, _, _, _, rfl, .own _, ti, Hk.holds _, _, rfl, k⟩
theorem wants_all {fW : Addr} {dW : FuncData} {c : Clz} (T : Txt K mg) (Hc : Hi K mg c) (Hk : Hk K c) (Hn : Hm mg c) (F : Fun K "wants_order" "wants_order" S_wants_order fW dW) (pk : ∀ {k : Nat} {sp : Sp}, FnOk P w K mg base CX0 k fW dW ["test"] sp → FnC P w K mg base CX0 k "wants_order" ["test"] sp) : ∀ d : Nat, FnC P w K mg base CX0 (d + 1) "wants_order" ["test"] (sp_wants K c d) := by
  intro d
  induction d with
  | zero => exact pk (fn_false.imp fun vs H Q E h => by
      obtain ⟨q, t, _, _, dp, _⟩ := h
      exact absurd dp (Nat.not_lt_zero _))
  | succ d ih => exact pk (ok_wants F T Hc Hk Hn ih)
theorem ok_stinit {f CP CS : Addr} {fd : FuncData} {c : Clz} (F : Fun K "__init__" "Stepper.__init__" S_Stepper__init_ f fd) (T : Txt K mg) (Pt : PgT K CP) (St : StT K CS) : FnOk P w K mg base CX0 2 f fd ["self", "program", "spot", "rests", "numbers"] (sp_stinit K c CP CS) := by
  refine F.ok SC_Stepper__init_ (fun vs H Q E h => ?_) (fun cdv A outer s H vs Q E hr h => ?_)
  · obtain ⟨H0, x, dx, p, a, q, i, is, m, ns, rs, rfl, _⟩ := h
    rfl
  · obtain ⟨H0, x, dx, p, a, q, i, is, m, ns, rs, rfl, hx, x0, s0, ⟨dp, nA, b, u, sA, fs, nvs, rvs, uvs, svs, h1, h2, h3, h4, h5, h6, h7, h8, h9, ha, hb, hc, hd, he⟩, hA, sz, hq, k⟩ := h
    refine ⟨_, (pss_cons (ps_fld (pv 0) (pe_fld (pv 1) rfl) rfl)
      (pss_cons (ps_fld (pv 0) (pe_fld (pv 1) rfl) rfl)
      (pss_cons (ps_fld (pv 0) (pv 2) rfl)
      (pss_cons (ps_fld (pv 0) (pe_callTy call_list_of (by rfl) T.b_list (by decide +kernel) (pa_cons (pv 3) pa_nil)) rfl)
      (pss_cons (ps_fld (pv 0) (pe_callTy call_tuple_of (by rfl) T.b_tuple (by decide +kernel) (pa_cons (pv 4) pa_nil)) rfl)
      (pss_cons (ps_fld (pv 0) (pe_lstN pa_nil) rfl)
      (pss_cons (ps_fld (pv 0) pe_int rfl)
      (pss_one (ps_fld (pv 0) pe_bl rfl))))))))), ?_⟩
    refine ⟨_, rfl, p, CP, dp, fs, _, rfl, s0 _ _ h1, Pt.ins.cl, Pt.no "notes" (by simp), h3, _, rfl, x, CS, dx, [], rfl, hx, St.ins.cl, St.no "notes" (by simp), by decide, ?_⟩
    have w0 : IS CS H0 H H x dx [] := ⟨x0, s0, hx, fun _ _ _ e => e⟩
    have w1 := w0.put "notes" (.ref nA)
    refine ⟨_, rfl, p, CP, dp, fs, _, rfl, w1.sm _ _ h1, Pt.ins.cl, Pt.no "steps" (by simp), hc, _, rfl, x, CS, dx, _, rfl, w1.at_, St.ins.cl, St.no "steps" (by simp), Nat.le_of_ble_eq_true rfl, ?_⟩
    have w2 := w1.put "steps" (.ref sA)
    refine ⟨_, rfl, _, rfl, x, CS, dx, _, rfl, w2.at_, St.ins.cl, St.no "spot" (by simp), Nat.le_of_ble_eq_true rfl, ?_⟩
    have w3 := w2.put "spot" (.int (i : Nat))
    refine ⟨_, rfl, a, is.map V.int, rfl, SqA.at (fun o e => w3.sm _ _ e) hA, fun r nr => ?_⟩
    have w4 := w3.same (sm_new (o := .lst (is.map V.int)) nr)
    have r0 : H0 r = none := w3.sm.free nr
    refine ⟨_, rfl, x, CS, dx, _, rfl, w4.at_, St.ins.cl, St.no "note_rests" (by simp), Nat.le_of_ble_eq_true rfl, ?_⟩
    have w5 := w4.put "note_rests" (.ref r)
    have hr5 := w4.ot (u := .ins CS dx (putF "note_rests" (.ref r) (putF "spot" (.int (i : Nat)) (putF "steps" (.ref sA) (putF "notes" (.ref nA) []))))) (upd_same : (upd _ r (.lst (is.map V.int))) r = _) (by simp)
    generalize upd (upd _ r (.lst (is.map V.int))) x _ = H5 at w5 hr5 ⊢
    refine ⟨_, rfl, q, m.tl, rfl, .inr ⟨sqT_tk (TK.same w5.sm) hq, ?_⟩⟩
    refine ⟨_, rfl, x, CS, dx, _, rfl, w5.at_, St.ins.cl, St.no "numbers" (by simp), Nat.le_of_ble_eq_true rfl, ?_⟩
    have w6 := w5.put "numbers" (.ref q)
    have hr6 := w5.ot (u := .ins CS dx (putF "numbers" (.ref q) (putF "note_rests" (.ref r) (putF "spot" (.int (i : Nat)) (putF "steps" (.ref sA) (putF "notes" (.ref nA) [])))))) hr5 (by simp)
    generalize upd H5 x _ = H6 at w6 hr6 ⊢
    refine ⟨Nat.zero_le _, fun e H7 ne s7 he7 => ?_⟩
    have w7 := w6.same s7
    have hr7 := s7 _ _ hr6
    have e0 : H0 e = none := w6.sm.free ne
    have re : r ≠ e := ne_of_none hr6 ne
    refine ⟨_, rfl, x, CS, dx, _, rfl, w7.at_, St.ins.cl, St.no "events" (by simp), Nat.le_of_ble_eq_true rfl, ?_⟩
    have w8 := w7.put "events" (.ref e)
    have hr8 := w7.ot (u := .ins CS dx (putF "events" (.ref e) (putF "numbers" (.ref q) (putF "note_rests" (.ref r) (putF "spot" (.int (i : Nat)) (putF "steps" (.ref sA) (putF "notes" (.ref nA) []))))))) hr7 (by simp)
    have he8 := w7.ot (u := .ins CS dx (putF "events" (.ref e) (putF "numbers" (.ref q) (putF "note_rests" (.ref r) (putF "spot" (.int (i : Nat)) (putF "steps" (.ref sA) (putF "notes" (.ref nA) []))))))) he7 (by simp)
    generalize upd H7 x _ = H8 at w8 hr8 he8 ⊢
    refine ⟨_, rfl, x, CS, dx, _, rfl, w8.at_, St.ins.cl, St.no "layings" (by simp), Nat.le_of_ble_eq_true rfl, ?_⟩
    have w9 := w8.put "layings" (.int 0)
    have hr9 := w8.ot (u := .ins CS dx (putF "layings" (.int 0) (putF "events" (.ref e) (putF "numbers" (.ref q) (putF "note_rests" (.ref r) (putF "spot" (.int (i : Nat)) (putF "steps" (.ref sA) (putF "notes" (.ref nA) [])))))))) hr8 (by simp)
    have he9 := w8.ot (u := .ins CS dx (putF "layings" (.int 0) (putF "events" (.ref e) (putF "numbers" (.ref q) (putF "note_rests" (.ref r) (putF "spot" (.int (i : Nat)) (putF "steps" (.ref sA) (putF "notes" (.ref nA) [])))))))) he8 (by simp)
    generalize upd H8 x _ = H9 at w9 hr9 he9 ⊢
    refine ⟨_, rfl, x, CS, dx, _, rfl, w9.at_, St.ins.cl, St.no "stopped" (by simp), Nat.le_of_ble_eq_true rfl, ?_⟩
    have w10 := w9.put "stopped" (.bl false)
    have hr10 := w9.ot (u := .ins CS dx (putF "stopped" (.bl false) (putF "layings" (.int 0) (putF "events" (.ref e) (putF "numbers" (.ref q) (putF "note_rests" (.ref r) (putF "spot" (.int (i : Nat)) (putF "steps" (.ref sA) (putF "notes" (.ref nA) []))))))))) hr9 (by simp)
    have he10 := w9.ot (u := .ins CS dx (putF "stopped" (.bl false) (putF "layings" (.int 0) (putF "events" (.ref e) (putF "numbers" (.ref q) (putF "note_rests" (.ref r) (putF "spot" (.int (i : Nat)) (putF "steps" (.ref sA) (putF "notes" (.ref nA) []))))))))) he9 (by simp)
    generalize upd H9 x _ = H10 at w10 hr10 he10 ⊢
    have ef : putF "stopped" (.bl false) (putF "layings" (.int 0) (putF "events" (.ref e) (putF "numbers" (.ref q) (putF "note_rests" (.ref r) (putF "spot" (.int (i : Nat)) (putF "steps" (.ref sA) (putF "notes" (.ref nA) []))))))) = stF nA sA i r q e 0 false := by kernel_rfl
    rw [ef] at w10
    exact k nA sA H10 ⟨nvs, svs, h4, h5, hd, he⟩ ⟨dx, r, q, e, [], w10.sm, x0, r0, e0, re, w10.at_, hr10, sqT_tk (TK.same w10.sm) hq, he10, trivial⟩ w10.kp
theorem ok_place {f CS : Addr} {fd : FuncData} {c : Clz} (F : Fun K "place_of" "Stepper.place_of" S_Stepper_place_of f fd) (T : Txt K mg) (St : StT K CS) : FnOk P w K mg base CX0 2 f fd ["self", "name"] (sp_place K c CS) := by
  refine F.ok SC_Stepper_place_of (fun vs H Q E h => ?_) (fun cdv A outer s H vs Q E hr h => ?_)
  · obtain ⟨H0, x, nA, sA, i, s, ns, ps, z, rfl, _⟩ := h
    rfl
  · obtain ⟨H0, x, nA, sA, i, s, ns, ps, z, rfl, ⟨nvs, svs, hN, hns, _, _⟩, ⟨dx, r, u, e, evs, W⟩, hz, sn, k⟩ := h
    refine ⟨_, (pss_one (ps_ret (pe_ix ix_list (pe_lc (own := [("at", 2), ("other", 3), ("modulus", 4)])  (by rfl) SC_Stepper_place_of.nd (pi_enumT (by rfl) T.b_enumerate (pa_cons (pe_fld (pv 0) rfl) pa_nil)) (blkOk_by (own := [("at", 2), ("other", 3), ("modulus", 4)]) (N := N_Stepper_place_of) (sc := defScope S_Stepper_place_of) (by decide +kernel)) (fun _ _ _ _ _ => (pg_tupK (K := K) (n := 2) rfl rfl (pgs_cons (pg_name (i := 2) SC_Stepper_place_of.nd rfl (.inl rfl)) (pgs_cons (pg_tupK (K := K) (n := 2) rfl rfl (pgs_cons (pg_name (i := 3) SC_Stepper_place_of.nd rfl (.inl rfl)) (pgs_cons (pg_name (i := 4) SC_Stepper_place_of.nd rfl (.inl rfl)) pgs_nil))) pgs_nil)))) (fun _ _ _ _ _ => pts_one (pt_cmpR op_eq (pv 3) (pv 1) (nomark _))) (fun _ _ _ _ _ => (pv 2))) pe_int (fun _ _ => rfl)))), ?_⟩
    have hN1 := sqT_tk (TK.same W.sm) hN
    have hns1 := hns.tk (TK.same W.sm)
    have ln := hns.len
    have lp := plN_lt hz
    refine ⟨_, rfl, x, CS, dx, _, .ref nA, rfl, W.hx, St.ins.cl, St.no "notes" (by simp), lk_notes .., nA, nvs, rfl, hN1, fun D hD => ?_⟩
    refine lc_it (walk_enT (xs := nvs) (n := nvs.length) rfl) (fun j H' => ∃ L : List V, Hd H H' [(D, .lst L)] ∧ (j ≤ plN ns z → L = []) ∧ (plN ns z < j → ∃ tl, L = .int (plN ns z : Nat) :: tl) ∧ L.length ≤ j) ⟨[], (Hd.start H).new hD _, fun _ => rfl, fun h => absurd h (Nat.not_lt_zero _), Nat.le_refl _⟩ (fun j H' _ m => ?_) (fun j y H' H2 hj m hy => ?_) (fun H' m => ?_)
    · obtain ⟨L, W', _⟩ := m
      exact sqT_tk W'.tk hN1
    · obtain ⟨L, W', z0, z1, lL⟩ := m
      obtain ⟨T2, v, rfl, hT, rfl, hv⟩ := hy
      obtain ⟨q, mm, rfl, hmm, hq, _⟩ := (hns1.tk W'.tk).ix hv
      have W2 := W'.call (sm_new (o := .tup [.int (j : Nat), .ref q]) hT)
      have hq2 := sm_new (o := .tup [.int (j : Nat), .ref q]) hT _ _ hq
      refine ⟨T2, _, rfl, SqT.of upd_same, rfl, _, _, rfl, _, _, rfl, q, _, rfl, SqT.of hq2, rfl, _, _, rfl, _, _, rfl, rfl, rfl, rfl, ?_⟩
      refine ⟨_, rfl, _, rfl, rfl, _, rfl, ?_⟩
      have dV : decide (V.str mm.1 = V.str z) = decide (mm.1 = z) := decide_eq_decide.mpr ⟨fun e => by injection e, fun e => by rw [e]⟩
      by_cases hm : mm.1 = z
      · have lj : plN ns z ≤ j := Nat.le_of_not_lt fun l => plN_ne hmm l hm
        refine ifT (by rw [dV, decide_eq_true hm]) ⟨_, rfl, L, W2.get (.head _), szs (by omega), L ++ [.int (j : Nat)], W2.set 0 rfl _, fun l => by omega, fun _ => ?_, by rw [List.length_append]; exact Nat.succ_le_succ lL⟩
        rcases Nat.lt_or_eq_of_le lj with l | l
        · obtain ⟨tl, e⟩ := z1 l
          exact ⟨tl ++ [.int (j : Nat)], by rw [e]; rfl⟩
        · rw [z0 (by omega), l]
          exact ⟨[], rfl⟩
      · refine ifF (by rw [dV, decide_eq_false hm]) ⟨L, W2, fun l => z0 (by omega), fun l => z1 ?_, by omega⟩
        have : plN ns z ≠ j := fun q => hm (plN_at (by rw [q]; exact hmm))
        omega
    · obtain ⟨L, W', z0, z1, lL⟩ := m
      rw [ln] at z1
      obtain ⟨tl, rfl⟩ := z1 lp
      exact ⟨D, _, 0, _, rfl, rfl, SqL.of (W'.get (.head _)), atI_nat (j := 0) rfl, k H' W'.sm⟩
theorem ok_lay {f CS : Addr} {fd : FuncData} (F : Fun K "lay" "Stepper.lay" S_Stepper_lay f fd) (T : Txt K mg) (St : StT K CS) (Si : SI mg) (C_order : FnC P w K mg base CX0 1 "order_of" ["numbers"] (sp_order K)) : FnOk P w K mg base CX0 2 f fd ["self"] (sp_slay K CS) := by
  obtain ⟨tA, hALIKE⟩ := Si.alike.ex
  obtain ⟨tL, hLONGER⟩ := Si.longer.ex
  refine F.ok SC_Stepper_lay (fun vs H Q E h => ?_) (fun cdv A outer s H vs Q E hr h => ?_)
  · obtain ⟨H0, x, nA, sA, i, s, rfl, _⟩ := h
    rfl
  · obtain ⟨H0, x, nA, sA, i, s, rfl, ⟨dx, r, u, e, evs, W⟩, k⟩ := h
    refine ⟨_, (pss_cons (ps_asg (pe_fld (pv 0) rfl) (pg_tup rfl (pgs_cons (pg_name (i := 1) SC_Stepper_lay.nd rfl (.inl rfl)) (pgs_cons (pg_name (i := 2) SC_Stepper_lay.nd rfl (.inl rfl)) (pgs_cons (pg_name (i := 3) SC_Stepper_lay.nd rfl (.inl rfl)) (pgs_cons (pg_name (i := 4) SC_Stepper_lay.nd rfl (.inl rfl)) pgs_nil))))))
      (pss_cons (ps_set (i := 5) SC_Stepper_lay.nd rfl (.inl rfl) (pe_callC C_order (hr.mono (by omega)) rfl (pa_cons (pe_fld (pv 0) rfl) pa_nil)))
      (pss_cons (ps_if (pt_cmpR op_eq (pv 5) (pe_glob (v := .int 0) (by rfl) hALIKE ⟨_, rfl⟩) (nomark _)) (pss_one (ps_ret pe_str)) pss_nil)
      (pss_cons (ps_fldaug (pv 0) pe_int in_add)
      (pss_cons (ps_fld (pv 0) (pe_ifExp (pt_cmpR op_eq (pv 5) (pe_glob (v := .int 1) (by rfl) hLONGER ⟨_, rfl⟩) (nomark _)) (pe_tupN (pa_cons (pe_op op_sub (pv 1) (pv 3)) (pa_cons (pe_op op_sub (pv 2) (pv 4)) (pa_cons (pv 3) (pa_cons (pv 4) pa_nil))))) (pe_tupN (pa_cons (pv 1) (pa_cons (pv 2) (pa_cons (pe_op op_sub (pv 3) (pv 1)) (pa_cons (pe_op op_sub (pv 4) (pv 2)) pa_nil)))))) rfl)
      (pss_one (ps_ret (pe_ifExp (pt_cmpR op_eq (pv 5) (pe_glob (v := .int 1) (by rfl) hLONGER ⟨_, rfl⟩) (nomark _)) pe_str pe_str)))))))), ?_⟩
    refine ⟨_, rfl, x, CS, dx, _, .ref u, rfl, W.hx, St.ins.cl, St.no "numbers" (by simp), lk_numbers .., u, _, rfl, W.hu, rfl, ?_⟩
    refine ⟨_, _, rfl, _, _, rfl, _, _, rfl, _, _, rfl, rfl, ?_⟩
    refine ⟨_, rfl, x, CS, dx, _, .ref u, rfl, W.hx, St.ins.cl, St.no "numbers" (by simp), lk_numbers .., u, s.num, rfl, W.hu, ?_⟩
    refine ⟨_, rfl, ordV_sc, _, rfl, ?_⟩
    by_cases h0 : ordM s.num = some 0
    · refine ifT (by rw [ordV_eq, decide_eq_true h0]) ?_
      have e1 : layS s = s := if_pos h0
      have e2 : layL s = "" := if_pos h0
      rw [e1, e2] at k
      exact k H ⟨dx, r, u, e, evs, W⟩
    refine ifF (by rw [ordV_eq, decide_eq_false h0]) ?_
    have e1 : layS s = { s with num := layM s.num, lay := s.lay + 1 } := if_neg h0
    have e2 : layL s = if ordM s.num = some 1 then ("r" : Str) else "l" := if_neg h0
    rw [e1, e2] at k
    refine ⟨_, rfl, x, CS, dx, _, _, rfl, W.hx, St.ins.cl, St.no "layings" (by simp), lk_layings .., _, _, rfl, rfl, dx, _, W.hx, Nat.le_of_ble_eq_true rfl, ?_⟩
    have W1 : StpX K CS H0 (upd H x (.ins CS dx (putF ("layings" : Str) (.int ((s.lay : Int) + 1)) (stF nA sA i r u e s.lay s.stop)))) x dx r u e nA sA evs i { s with lay := s.lay + 1 } := W.setx (s' := { s with lay := s.lay + 1 }) (stF_layings (nA := nA) (sA := sA) (i := i) (r := r) (u := u) (e := e) (l := s.lay) (b := s.stop) (s.lay + 1)) rfl rfl W.hu
    generalize upd H x (.ins CS dx (putF ("layings" : Str) (.int ((s.lay : Int) + 1)) (stF nA sA i r u e s.lay s.stop))) = H1 at W1 ⊢
    refine ⟨_, rfl, ordV_sc, _, rfl, ?_⟩
    by_cases h1 : ordM s.num = some 1
    · refine ifT (by rw [ordV_eq, decide_eq_true h1]) ?_
      refine ⟨_, rfl, _, rfl, _, _, rfl, rfl, _, rfl, _, rfl, _, _, rfl, rfl, _, rfl, _, rfl, by show 4 ≤ 1000000; decide, fun u2 H2 n2 s2 h2 => ?_⟩
      have W2 := W1.same s2
      refine ⟨_, rfl, x, CS, dx, _, rfl, W2.hx, St.ins.cl, St.no "numbers" (by simp), Nat.le_of_ble_eq_true rfl, ?_⟩
      have W3 := W2.setx (u' := u2) (s' := { s with num := ⟨s.num.a - s.num.c, s.num.b - s.num.d, s.num.c, s.num.d⟩, lay := s.lay + 1 }) (stF_numbers (nA := nA) (sA := sA) (i := i) (r := r) (u := u) (e := e) (l := s.lay + 1) (b := s.stop) u2) rfl rfl (SqT.of h2)
      refine ⟨_, rfl, ordV_sc, _, rfl, ?_⟩
      refine ifT (by rw [ordV_eq, decide_eq_true h1]) ?_
      have e3 : layM s.num = ⟨s.num.a - s.num.c, s.num.b - s.num.d, s.num.c, s.num.d⟩ := if_pos h1
      rw [if_pos h1, e3] at k
      exact k _ ⟨dx, r, u2, e, evs, W3⟩
    · refine ifF (by rw [ordV_eq, decide_eq_false h1]) ?_
      refine ⟨_, rfl, _, rfl, _, rfl, _, rfl, _, _, rfl, rfl, _, rfl, _, rfl, _, _, rfl, rfl, by show 4 ≤ 1000000; decide, fun u2 H2 n2 s2 h2 => ?_⟩
      have W2 := W1.same s2
      refine ⟨_, rfl, x, CS, dx, _, rfl, W2.hx, St.ins.cl, St.no "numbers" (by simp), Nat.le_of_ble_eq_true rfl, ?_⟩
      have W3 := W2.setx (u' := u2) (s' := { s with num := ⟨s.num.a, s.num.b, s.num.c - s.num.a, s.num.d - s.num.b⟩, lay := s.lay + 1 }) (stF_numbers (nA := nA) (sA := sA) (i := i) (r := r) (u := u) (e := e) (l := s.lay + 1) (b := s.stop) u2) rfl rfl (SqT.of h2)
      refine ⟨_, rfl, ordV_sc, _, rfl, ?_⟩
      refine ifF (by rw [ordV_eq, decide_eq_false h1]) ?_
      have e3 : layM s.num = ⟨s.num.a, s.num.b, s.num.c - s.num.a, s.num.d - s.num.b⟩ := if_neg h1
      rw [if_neg h1, e3] at k
      exact k _ ⟨dx, r, u2, e, evs, W3⟩
end

/-! ## tests, waits -/
namespace Pg
section
variable {X : Cx} {k : Nat} {C : Addr} {m : Str} {ps : List Str} {sp : Sp} {o e : Expr} {es : List Expr} {te : TE} {t : TA} {pos apos : Pos}
theorem pe_methC {pl : Sem Bool} (F : MtC X.prog X.w X.K X.mg X.base CX0 k C m ps sp) (c : Cls X.K C) (hr : Room k X.A) (he : PE X o te) (ha : PA X (e :: es) t)
    (hst : starEach (e :: es) X.env = (false, eval e X.env) :: starEach es X.env := by rfl) (hpl : (backTo pos (starEach es X.env)).any (·.1) = false := by rfl)
    (ht : eval (.Call (.Attribute o m apos) (e :: es) [] pos) X.env = (do
      let ov ← eval o X.env
      standAt apos.atName
      let (f, first) ← holding [ov] (getMethod ov m pl)
      callWith pos f first (backTo pos (starEach (e :: es) X.env)) (backToKw pos (keywordEach [] X.env))) := by rfl) :
    PE X (.Call (.Attribute o m apos) (e :: es) [] pos) (tMethX C m sp (fun _ => E0) te t) := pe_methX F c hr (fun _ _ _ _ _ _ _ z => (show False from z).elim) he ha hst hpl ht
end
/-- what of the program and the state a method needs -/
structure Rdy (K : PySem.W.Frag) (c : Clz) (CS : Addr) (H0 H : Hp) (x nA sA : Addr) (i : Nat) (s : Rs) (ns : List (Str × Int)) (ps : List PSt) : Prop where
  pg : PgF K c H0 nA sA ns ps
  st : StpAt K CS H0 H x nA sA i s
  ok : NotesOk ns
  len : s.rests.length = ns.length
  sn : ns.length ≤ 1000
theorem Rdy.same {K : PySem.W.Frag} {c : Clz} {CS : Addr} {H0 H H' : Hp} {x nA sA : Addr} {i : Nat} {s : Rs} {ns : List (Str × Int)} {ps : List PSt} (w : Rdy K c CS H0 H x nA sA i s ns ps) (m : Same H H') : Rdy K c CS H0 H' x nA sA i s ns ps :=
  ⟨w.pg, w.st.elim fun dx h => h.elim fun r h => h.elim fun u h => h.elim fun e h => h.elim fun evs h => ⟨dx, r, u, e, evs, h.same m⟩, w.ok, w.len, w.sn⟩
def sp_holds (K : PySem.W.Frag) (c : Clz) (CS : Addr) (d : Nat) : Sp := fun vs H Q _ => ∃ (H0 : Hp) (x nA sA q : Addr) (i : Nat) (s : Rs) (ns : List (Str × Int)) (ps : List PSt) (t : Tst), vs = [.ref x, .ref q] ∧ Rdy K c CS H0 H x nA sA i s ns ps ∧ TstAt K c H q t ∧ t.deep < d ∧ d ≤ 10 ∧ (∀ z ∈ t.uses, z ∈ ns.map (·.1)) ∧ ∀ H', Same H H' → Q (.bl (holdsT ns s t)) H'
theorem dVi (i j : Int) : decide (V.int i = V.int j) = decide (i = j) := decide_eq_decide.mpr ⟨fun e => by injection e, fun e => by rw [e]⟩
/-- the note at its place -/
theorem note_at {ns : List (Str × Int)} {z : Str} (h : z ∈ ns.map (·.1)) : ∃ m, ns[plN ns z]? = some m ∧ m.1 = z ∧ mdN ns z = m.2 := by
  have l := plN_lt h
  have e : ns[plN ns z]? = some (ns[plN ns z]'l) := List.getElem?_eq_getElem l
  refine ⟨_, e, plN_at e, ?_⟩
  unfold mdN
  rw [e]; rfl
end Pg
open Pg
section
variable {P : Program} {w : World} {K : PySem.W.Frag} {mg : Str → Option Value} {base : Heap}
theorem ok_holds {f CS : Addr} {fd : FuncData} {c : Clz} {d : Nat} (F : Fun K "holds" "Stepper.holds" S_Stepper_holds f fd) (T : Txt K mg) (Hc : Hi K mg c) (Hk : Hk K c) (Hn : Hm mg c) (St : StT K CS) (Si : SI mg) (C_order : FnC P w K mg base CX0 1 "order_of" ["numbers"] (sp_order K)) (M_place : MtC P w K mg base CX0 2 CS "place_of" ["self", "name"] (sp_place K c CS)) (M_holds : MtC P w K mg base CX0 (d + 2) CS "holds" ["self", "test"] (sp_holds K c CS d)) : FnOk P w K mg base CX0 (d + 3) f fd ["self", "test"] (sp_holds K c CS (d + 1)) := by
  obtain ⟨tA, hALIKE⟩ := Si.alike.ex
  obtain ⟨tL, hLONGER⟩ := Si.longer.ex
  obtain ⟨tS, hSHORTER⟩ := Si.shorter.ex
  refine F.ok SC_Stepper_holds (fun vs H Q E h => ?_) (fun cdv A outer s H vs Q E hr h => ?_)
  · obtain ⟨H0, x, nA, sA, q, i, s, ns, ps, t, rfl, _⟩ := h
    rfl
  · obtain ⟨H0, x, nA, sA, q, i, s, ns, ps, t, rfl, R, hq, dp, d10, us, k⟩ := h
    refine ⟨_, (pss_cons (ps_if (pt_val (pe_callB call_isi (by rfl) T.b_isinstance (by decide +kernel) (pa_cons (pv 1) (pa_cons (pe_glob (v := .ref c.not) (by rfl) Hn.not rfl) pa_nil)))) (pss_one (ps_ret (pe_not (pe_methC M_holds St.ins.cl (hr.mono (by omega)) (pv 0) (pa_cons (pe_fld (pv 1) rfl) pa_nil))))) pss_nil)
      (pss_cons (ps_if (pt_val (pe_callB call_isi (by rfl) T.b_isinstance (by decide +kernel) (pa_cons (pv 1) (pa_cons (pe_glob (v := .ref c.holds) (by rfl) Hn.holds rfl) pa_nil)))) (pss_cons (ps_set (i := 2) SC_Stepper_holds.nd rfl (.inl rfl) (pe_methC M_place St.ins.cl (hr.mono (by omega)) (pv 0) (pa_cons (pe_fld (pv 1) rfl) pa_nil)))
      (pss_one (ps_ret (pe_cmpR op_eq (pe_ix ix_list (pe_fld (pv 0) rfl) (pv 2) (fun _ _ => rfl)) (pe_op op_mod (pe_fld (pv 1) rfl) (pe_ix ix_tup (pe_ix ix_tup (pe_fld (pv 0) rfl) (pv 2) (fun _ _ => rfl)) pe_int (fun _ _ => rfl))) (nomark _))))) pss_nil)
      (pss_cons (ps_set (i := 3) SC_Stepper_holds.nd rfl (.inl rfl) (pe_callC C_order (hr.mono (by omega)) rfl (pa_cons (pe_fld (pv 0) rfl) pa_nil)))
      (pss_cons (ps_if (pt_val (pe_callB call_isi (by rfl) T.b_isinstance (by decide +kernel) (pa_cons (pv 1) (pa_cons (pe_glob (v := .ref c.alike) (by rfl) Hn.alike rfl) pa_nil)))) (pss_one (ps_ret (pe_cmpR op_eq (pv 3) (pe_glob (v := .int 0) (by rfl) hALIKE ⟨_, rfl⟩) (nomark _)))) pss_nil)
      (pss_one (ps_ret (pe_cmpR op_eq (pv 3) (pe_ifExp (pt_val (pe_callB call_isi (by rfl) T.b_isinstance (by decide +kernel) (pa_cons (pv 1) (pa_cons (pe_glob (v := .ref c.longer) (by rfl) Hn.longer rfl) pa_nil)))) (pe_glob (v := .int 1) (by rfl) hLONGER ⟨_, rfl⟩) (pe_glob (v := .int (-1)) (by rfl) hSHORTER ⟨_, rfl⟩)) (nomark _)))))))), ?_⟩
    obtain ⟨dx, r, u, e, evs, W⟩ := R.st
    obtain ⟨nvs, svs, hN, hns, _⟩ := R.pg
    obtain ⟨fs, dq, a, b, g1, _⟩ := hq.part
    have ti := tyx_ins (Hc.t t).ins g1
    have k0 := k H (Same.refl H)
    refine ⟨_, rfl, .ref q, _, _, _, _, rfl, .own _, ti, Hk.not t, _, rfl, ?_⟩
    cases t with
    | not t =>
      obtain ⟨fs, q', ⟨dq, a, b, g1, g2, g3, _⟩, e1, hq'⟩ := hq
      have dp : t.deep + 1 < d + 1 := dp
      refine ifT rfl ?_
      exact ⟨_, rfl, x, dx, _, rfl, W.hx, by kernel_rfl, _, rfl, q, _, dq, fs, _, rfl, g1, Hc.not.ins.cl, Hc.not.no "test" (by simp [fnames]), e1, H0, x, nA, sA, q', i, s, ns, ps, t, rfl, R, hq', by omega, by omega, us, fun H1 s1 => ⟨_, rfl, k H1 s1⟩⟩
    | holds z i =>
      obtain ⟨fs, ⟨dq, a, b, g1, g2, g3, _⟩, e1, e2⟩ := hq
      obtain ⟨m, hm, ez, em⟩ := note_at (us z (.head _))
      have om := R.ok.1 m (List.mem_of_getElem? hm)
      refine ifF rfl ?_
      refine ⟨_, rfl, .ref q, _, _, _, _, rfl, .own _, ti, Hk.holds _, _, rfl, ifT rfl ?_⟩
      have gn := Hc.holds.no "note" (by simp [fnames])
      have gk := Hc.holds.no "number" (by simp [fnames])
      refine ⟨_, rfl, x, dx, _, rfl, W.hx, by kernel_rfl, _, rfl, q, _, dq, fs, _, rfl, g1, Hc.holds.ins.cl, gn, e1, H0, x, nA, sA, _, s, ns, ps, z, rfl, R.pg, R.st, us z (.head _), R.sn, fun H1 s1 => ?_⟩
      have W1 := W.same s1
      have lp := plN_lt (us z (.head _))
      have er : s.rests[plN ns z]? = some (heldN ns s z) := by
        have l2 : plN ns z < s.rests.length := by rw [R.len]; exact lp
        unfold heldN
        rw [List.getElem?_eq_getElem l2]; rfl
      refine ⟨_, rfl, x, CS, dx, _, .ref r, rfl, W1.hx, St.ins.cl, St.no "note_rests" (by simp), lk_note_rests .., _, rfl, r, _, (plN ns z : Nat), .int (heldN ns s z), rfl, rfl, SqL.of W1.hr, atI_nat (by rw [List.getElem?_map, er]; rfl), ?_⟩
      refine ⟨_, rfl, q, _, dq, fs, _, rfl, s1 _ _ g1, Hc.holds.ins.cl, gk, e2, ?_⟩
      obtain ⟨v, hv, qm, em2, hqm⟩ : ∃ v, nvs[plN ns z]? = some v ∧ ∃ qm, v = .ref qm ∧ H1 qm = some (.tup [.str m.1, .int m.2]) := by
        have l2 : plN ns z < nvs.length := by rw [hns.len]; exact lp
        obtain ⟨q', m', e', hm', h', _⟩ := (hns.tk (TK.same W1.sm)).ix (List.getElem?_eq_getElem l2)
        rw [hm] at hm'
        cases hm'
        exact ⟨_, List.getElem?_eq_getElem l2, q', e', h'⟩
      refine ⟨_, rfl, x, CS, dx, _, .ref nA, rfl, W1.hx, St.ins.cl, St.no "notes" (by simp), lk_notes .., _, rfl, nA, _, (plN ns z : Nat), v, rfl, rfl, sqT_tk (TK.same W1.sm) hN, atI_nat hv, ?_⟩
      subst em2
      refine ⟨qm, _, 1, .int m.2, rfl, rfl, SqT.of hqm, rfl, _, _, rfl, rfl, by omega, rfl, ?_⟩
      have kk := k H1 s1
      show Q (.bl (decide (V.int (heldN ns s z) = V.int (_ % m.2)))) H1
      rw [dVi, ← em]
      exact kk
    | longer =>
      refine ifF rfl ⟨_, rfl, .ref q, _, _, _, _, rfl, .own _, ti, Hk.holds _, _, rfl, ifF rfl ?_⟩
      refine ⟨_, rfl, x, CS, dx, _, .ref u, rfl, W.hx, St.ins.cl, St.no "numbers" (by simp), lk_numbers .., u, s.num, rfl, W.hu, ?_⟩
      refine ⟨_, rfl, .ref q, _, _, _, _, rfl, .own _, ti, Hk.alike _, _, rfl, ifF rfl ?_⟩
      refine ⟨_, rfl, _, rfl, .ref q, _, _, _, _, rfl, .own _, ti, Hk.longer _, _, rfl, ifT rfl ?_⟩
      refine ⟨ordV_sc, ?_⟩
      rw [ordV_eq]
      exact k0
    | shorter =>
      refine ifF rfl ⟨_, rfl, .ref q, _, _, _, _, rfl, .own _, ti, Hk.holds _, _, rfl, ifF rfl ?_⟩
      refine ⟨_, rfl, x, CS, dx, _, .ref u, rfl, W.hx, St.ins.cl, St.no "numbers" (by simp), lk_numbers .., u, s.num, rfl, W.hu, ?_⟩
      refine ⟨_, rfl, .ref q, _, _, _, _, rfl, .own _, ti, Hk.alike _, _, rfl, ifF rfl ?_⟩
      refine ⟨_, rfl, _, rfl, .ref q, _, _, _, _, rfl, .own _, ti, Hk.longer _, _, rfl, ifF rfl ?_⟩
      refine ⟨ordV_sc, ?_⟩
      rw [ordV_eq]
      exact k0
    | alike =>
      refine ifF rfl ⟨_, rfl, .ref q, _, _, _, _, rfl, .own _, ti, Hk.holds _, _, rfl, ifF rfl ?_⟩
      refine ⟨_, rfl, x, CS, dx, _, .ref u, rfl, W.hx, St.ins.cl, St.no "numbers" (by simp), lk_numbers .., u, s.num, rfl, W.hu, ?_⟩
      refine ⟨_, rfl, .ref q, _, _, _, _, rfl, .own _, ti, Hk.alike _, _, rfl, ifT rfl ?_⟩
      refine ⟨_, rfl, ordV_sc, ?_⟩
      rw [ordV_eq]
      exact k0
end

/-! ## waits, rows done -/
namespace Pg
def RowOk (ns : List (Str × Int)) : Rw1 → Prop
  | .put z _ => z ∈ ns.map (·.1)
  | .add z _ => z ∈ ns.map (·.1)
  | .make m => m.In 40
  | _ => True
def PsOk (ns : List (Str × Int)) (p : PSt) : Prop := match p.kind with
  | 0 => p.row.plain = true ∧ RowOk ns p.row
  | 1 => ∃ t r o, p.row = .ifb t r o ∧ t.deep ≤ 8 ∧ ∀ z ∈ t.uses, z ∈ ns.map (·.1)
  | 2 => ∃ g r, p.row = .untl g r ∧ (g = "alike" ∨ g = "longer" ∨ g = "shorter")
  | 3 => True
  | _ => False
theorem step_get {K : PySem.W.Frag} {c : Clz} {H0 H : Hp} {nA sA : Addr} {ns : List (Str × Int)} {ps : List PSt} {i : Nat} {p : PSt} (w : PgF K c H0 nA sA ns ps) (m : Same H0 H) (h : ps[i]? = some p) : ∃ svs v t q, SqT K H sA svs ∧ svs.length = ps.length ∧ svs[i]? = some v ∧ v = .ref t ∧ H t = some (.tup [.str (kindS p.kind), .int (p.no : Nat), .ref q, .int (p.to : Nat)]) ∧ RowAt K c H q p.row := by
  obtain ⟨nvs, svs, _, _, hS, hs⟩ := w
  have hs1 := hs.tk (TK.same m)
  obtain ⟨v, hv, t, q, e, h1, h2⟩ := hs1.at h
  exact ⟨svs, v, t, q, sqT_tk (TK.same m) hS, hs1.len, hv, e, h1, h2⟩
def sp_waits (K : PySem.W.Frag) (c : Clz) (CS : Addr) : Sp := fun vs H Q _ => ∃ (H0 : Hp) (x nA sA : Addr) (i : Nat) (s : Rs) (ns : List (Str × Int)) (ps : List PSt), vs = [.ref x] ∧ Rdy K c CS H0 H x nA sA i s ns ps ∧ (∀ p ∈ ps, PsOk ns p) ∧ i ≤ ps.length ∧ Q (.bl (waitsAt ps i s.num)) H
end Pg
open Pg
section
variable {P : Program} {w : World} {K : PySem.W.Frag} {mg : Str → Option Value} {base : Heap}
theorem ok_waits {f CS : Addr} {fd : FuncData} {c : Clz} (F : Fun K "is_waiting" "Stepper.is_waiting" S_Stepper_is_waiting f fd) (T : Txt K mg) (Hc : Hi K mg c) (Hk : Hk K c) (Hn : Hm mg c) (St : StT K CS) (Sg : SG mg) (C_order : FnC P w K mg base CX0 1 "order_of" ["numbers"] (sp_order K)) (C_wants : FnC P w K mg base CX0 11 "wants_order" ["test"] (sp_wants K c 10)) : FnOk P w K mg base CX0 12 f fd ["self"] (sp_waits K c CS) := by
  obtain ⟨tDO, hDO⟩ := Sg.do_.ex
  obtain ⟨tTEST, hTEST⟩ := Sg.test.ex
  obtain ⟨tLOOK, hLOOK⟩ := Sg.look.ex
  refine F.ok SC_Stepper_is_waiting (fun vs H Q E h => ?_) (fun cdv A outer s H vs Q E hr h => ?_)
  · obtain ⟨H0, x, nA, sA, i, s, ns, ps, rfl, _⟩ := h
    rfl
  · obtain ⟨H0, x, nA, sA, i, s, ns, ps, rfl, R, ok, il, k⟩ := h
    refine ⟨_, (pss_cons (ps_if (pt_cmpR op_notN (pe_callC C_order (hr.mono (by omega)) rfl (pa_cons (pe_fld (pv 0) rfl) pa_nil)) pe_non (nomark _)) (pss_one (ps_ret pe_bl)) pss_nil)
      (pss_cons (ps_if (pt_cmpR op_eq (pe_fld (pv 0) rfl) (pe_callB call_len_seq (by rfl) T.b_len (by decide +kernel) (pa_cons (pe_fld (pv 0) rfl) pa_nil)) (nomark _)) (pss_one (ps_ret pe_bl)) pss_nil)
      (pss_cons (ps_asg (pe_ix ix_tup (pe_fld (pv 0) rfl) (pe_fld (pv 0) rfl) (fun _ _ => rfl)) (pg_tup rfl (pgs_cons (pg_name (i := 1) SC_Stepper_is_waiting.nd rfl (.inl rfl)) (pgs_cons (pg_name (i := 2) SC_Stepper_is_waiting.nd rfl (.inl rfl)) (pgs_cons (pg_name (i := 3) SC_Stepper_is_waiting.nd rfl (.inl rfl)) (pgs_cons (pg_name (i := 4) SC_Stepper_is_waiting.nd rfl (.inl rfl)) pgs_nil))))))
      (pss_cons (ps_if (pt_cmpR op_eq (pv 1) (pe_glob (v := .str "test") (by rfl) hTEST ⟨_, rfl⟩) (nomark _)) (pss_one (ps_ret (pe_callC C_wants (hr.mono (by omega)) rfl (pa_cons (pe_fld (pv 3) rfl) pa_nil)))) pss_nil)
      (pss_one (ps_ret (pe_or (pe_cmpR op_eq (pv 1) (pe_glob (v := .str "look") (by rfl) hLOOK ⟨_, rfl⟩) (nomark _)) (pe_one (pe_and (pe_cmpR op_eq (pv 1) (pe_glob (v := .str "do") (by rfl) hDO ⟨_, rfl⟩) (nomark _)) (pe_one (pe_callB call_isi (by rfl) T.b_isinstance (by decide +kernel) (pa_cons (pv 3) (pa_cons (pe_glob (v := .ref c.lay) (by rfl) Hn.lay rfl) pa_nil))))))))))))), ?_⟩
    obtain ⟨dx, r, u, e, evs, W⟩ := R.st
    refine ⟨_, rfl, x, CS, dx, _, .ref u, rfl, W.hx, St.ins.cl, St.no "numbers" (by simp), lk_numbers .., u, s.num, rfl, W.hu, ?_⟩
    refine ⟨rfl, _, rfl, ?_⟩
    by_cases hn : ordM s.num = none
    · refine ifF (by unfold ordV; rw [hn]; simp) ?_
      obtain ⟨nvs, svs, _, _, hS, hsv⟩ := R.pg
      have hS1 := sqT_tk (TK.same W.sm) hS
      refine ⟨_, rfl, x, CS, dx, _, _, rfl, W.hx, St.ins.cl, St.no "spot" (by simp), lk_spot .., _, rfl, x, CS, dx, _, _, rfl, W.hx, St.ins.cl, St.no "steps" (by simp), lk_steps .., sA, svs, rfl, .inr hS1, rfl, _, rfl, ?_⟩
      rw [hsv.len, dVi]
      by_cases hi : i = ps.length
      · refine ifT (decide_eq_true (by rw [hi])) ?_
        have e : waitsAt ps i s.num = true := by
          unfold waitsAt
          rw [if_pos hn, List.getElem?_eq_none (by omega)]
        rw [e] at k
        exact k
      · refine ifF (decide_eq_false (by omega)) ?_
        have lt : i < ps.length := by omega
        have hp : ps[i]? = some (ps[i]'lt) := List.getElem?_eq_getElem lt
        have okp := ok _ (List.mem_of_getElem? hp)
        obtain ⟨svs', v, t, q, hS2, _, hv, rfl, ht, hq⟩ := step_get R.pg W.sm hp
        generalize ps[i]'lt = p at hp okp ht hq
        refine ⟨_, rfl, x, CS, dx, _, _, rfl, W.hx, St.ins.cl, St.no "steps" (by simp), lk_steps .., _, rfl, x, CS, dx, _, _, rfl, W.hx, St.ins.cl, St.no "spot" (by simp), lk_spot .., sA, svs', (i : Nat), _, rfl, rfl, hS2, atI_nat hv, t, _, rfl, SqT.of ht, rfl, ?_⟩
        refine ⟨_, _, rfl, _, _, rfl, _, _, rfl, _, _, rfl, rfl, ?_⟩
        have e : waitsAt ps i s.num = match p.kind with
          | 1 => match p.row with
            | .ifb t _ _ => wantsT t
            | _ => false
          | 2 => true
          | 0 => match p.row with
            | .lay => true
            | _ => false
          | _ => false := by
          unfold waitsAt
          rw [if_pos hn, hp]
          try rfl
        rw [e] at k
        obtain ⟨kd, no, row, to⟩ := p
        obtain ⟨fs, dq, a, b, g1, _⟩ := hq.part
        have ti := tyx_ins (Hc.r row).ins g1
        match kd, okp with
        | 0, okp =>
          refine ⟨_, rfl, rfl, _, rfl, ifF (by simp only [kindS]; decide +kernel) ?_⟩
          refine ⟨_, rfl, rfl, _, rfl, ?_⟩
          rw [if_neg (by simp only [kindS]; decide +kernel)]
          refine ⟨_, rfl, rfl, _, rfl, ?_⟩
          rw [if_pos (by simp only [kindS]; decide +kernel)]
          refine ⟨_, rfl, .ref q, _, _, _, _, rfl, .own _, ti, Hk.lay row, ?_⟩
          cases row <;> exact k
        | 1, okp =>
          obtain ⟨tt, r1, o1, er, dt, _⟩ := okp
          cases er
          obtain ⟨fs, qt, a2, b2, xs2, ys2, ⟨dq, a, b, g1, _⟩, e1, hqt, _⟩ := hq
          refine ⟨_, rfl, rfl, _, rfl, ifT (by simp only [kindS]; decide +kernel) ?_⟩
          exact ⟨_, rfl, q, _, dq, fs, _, rfl, g1, Hc.ifb.ins.cl, Hc.ifb.no "test" (by simp [fnames]), e1, qt, tt, rfl, hqt, by omega, by decide, k⟩
        | 2, okp =>
          refine ⟨_, rfl, rfl, _, rfl, ifF (by simp only [kindS]; decide +kernel) ?_⟩
          refine ⟨_, rfl, rfl, _, rfl, ?_⟩
          rw [if_pos (by simp only [kindS]; decide +kernel)]
          exact k
        | 3, okp =>
          refine ⟨_, rfl, rfl, _, rfl, ifF (by simp only [kindS]; decide +kernel) ?_⟩
          refine ⟨_, rfl, rfl, _, rfl, ?_⟩
          rw [if_neg (by simp only [kindS]; decide +kernel)]
          refine ⟨_, rfl, rfl, _, rfl, ?_⟩
          rw [if_neg (by simp only [kindS]; decide +kernel)]
          exact k
    · refine ifT (by unfold ordV; cases h : ordM s.num with | none => exact absurd h hn | some j => simp) ?_
      have e : waitsAt ps i s.num = false := by
        unfold waitsAt
        rw [if_neg hn]
      rw [e] at k
      exact k
end

/-! ## a row done -/
namespace Pg
theorem kit2 {K : PySem.W.Frag} {t a b : Value} {x y : Bool} (h1 : PySem.W.kitOne K t a = some x) (h2 : PySem.W.kitOne K t b = some y) : PySem.W.kitAny K t [a, b] = some (x || y) := by
  unfold PySem.W.kitAny
  rw [h1]
  cases x with
  | true => rfl
  | false =>
    show PySem.W.kitAny K t [b] = some y
    unfold PySem.W.kitAny
    rw [h2]
    cases y <;> rfl
theorem ixN_ok {n j : Nat} (h : j < n) : ixN n (j : Int) = some j := by
  unfold ixN
  rw [if_pos (Int.natCast_nonneg j), if_pos (by omega)]
  rfl
/-- isinstance(x, (Put, Add)) -/
theorem isPA {K : PySem.W.Frag} {H : Hp} {x : V} {t : Value} {a b : Addr} {v : Bool} {σ : L2.St} {Q : VK} {i : Nat} (hσ : σ[i]? = some (some x)) (ty : TyX K H x t) (h1 : PySem.W.kitAny K t [.ref a, .ref b] = some v) (k : ∀ H', Same H H' → Q (.bl v) H') :
    tCB (rIsiT K) (tCons (tVar i) (tCons (tTup (tCons (tC (V.ref a)) (tCons (tC (V.ref b)) tNil))) tNil)) σ H Q :=
  ⟨_, hσ, by show 2 ≤ sizeLine; decide, fun tp htp => ⟨x, tp, [.ref a, .ref b], t, [.ref a, .ref b], v, rfl, upd_same, .cons (.own _) (.cons (.own _) .nil), tyX_at ty fun a o _ e => by rw [upd_ne (ne_of_none e htp)]; exact e, h1, k _ (sm_new htp)⟩⟩
def sp_do (K : PySem.W.Frag) (c : Clz) (CS : Addr) : Sp := fun vs H Q _ => ∃ (H0 : Hp) (x nA sA q : Addr) (i : Nat) (s : Rs) (ns : List (Str × Int)) (ps : List PSt) (row : Rw1), vs = [.ref x, .ref q] ∧ Rdy K c CS H0 H x nA sA i s ns ps ∧ RowAt K c H q row ∧ row.plain = true ∧ RowOk ns row ∧ s.num.In 990 ∧ s.ev.length ≤ 900001 ∧ ∀ H', StpAt K CS H0 H' x nA sA (if isStop row then ps.length else i) (doR ns s row) → Q .non H'
end Pg
open Pg
section
variable {P : Program} {w : World} {K : PySem.W.Frag} {mg : Str → Option Value} {base : Heap}
theorem ok_do {f CS : Addr} {fd : FuncData} {c : Clz} (F : Fun K "do" "Stepper.do" S_Stepper_do f fd) (T : Txt K mg) (Hc : Hi K mg c) (Rc : ChT K mg c.change) (Hk : Hk K c) (Hn : Hm mg c) (St : StT K CS) (Sm : SM mg) (GX : GT K mg "EXCHANGE" [.int 0, .int 1, .int 1, .int 0]) (C_joined : FnC P w K mg base CX0 1 "numbers_joined" ["one", "other"] (sp_joined K)) (M_lay : MtC P w K mg base CX0 2 CS "lay" ["self"] (sp_slay K CS)) (M_place : MtC P w K mg base CX0 2 CS "place_of" ["self", "name"] (sp_place K c CS)) : FnOk P w K mg base CX0 3 f fd ["self", "row"] (sp_do K c CS) := by
  obtain ⟨tM, hMARK⟩ := Sm.mark.ex
  obtain ⟨aX, hX, sX⟩ := GX.ex
  refine F.ok SC_Stepper_do (fun vs H Q E h => ?_) (fun cdv A outer s H vs Q E hr h => ?_)
  · obtain ⟨H0, x, nA, sA, q, i, s, ns, ps, row, rfl, _⟩ := h
    rfl
  · obtain ⟨H0, x, nA, sA, q, i, s, ns, ps, row, rfl, R, hq, pl, ro, bs, le, k⟩ := h
    refine ⟨_, (pss_one (ps_if (pt_val (pe_callB call_isi (by rfl) T.b_isinstance (by decide +kernel) (pa_cons (pv 1) (pa_cons (pe_glob (v := .ref c.lay) (by rfl) Hn.lay rfl) pa_nil)))) (pss_one (ps_expr (pe_mth0 M_lay St.ins.cl (hr.mono (by omega)) (pv 0)))) (pss_one (ps_if (pt_val (pe_callB call_isi (by rfl) T.b_isinstance (by decide +kernel) (pa_cons (pv 1) (pa_cons (pe_glob (v := .ref c.make) (by rfl) Hc.mgMake rfl) pa_nil)))) (pss_one (ps_fld (pv 0) (pe_callC C_joined (hr.mono (by omega)) rfl (pa_cons (pe_fld (pe_fld (pv 1) rfl) rfl) (pa_cons (pe_fld (pv 0) rfl) pa_nil))) rfl)) (pss_one (ps_if (pt_val (pe_callB call_isi (by rfl) T.b_isinstance (by decide +kernel) (pa_cons (pv 1) (pa_cons (pe_glob (v := .ref c.exch) (by rfl) Hn.exch rfl) pa_nil)))) (pss_one (ps_fld (pv 0) (pe_callC C_joined (hr.mono (by omega)) rfl (pa_cons (pe_glob (v := .ref aX) (by rfl) hX rfl) (pa_cons (pe_fld (pv 0) rfl) pa_nil))) rfl)) (pss_one (ps_if (pt_val (pe_callB call_isi (by rfl) T.b_isinstance (by decide +kernel) (pa_cons (pv 1) (pa_cons (pe_glob (v := .ref c.tell) (by rfl) Hn.tell rfl) pa_nil)))) (pss_one (ps_expr (pe_bm PySem.F.plainAttrs_list PySem.F.slot_list_append PySem.F.type_list_append mt_append (pe_fld (pv 0) rfl) (pa_cons (pe_tupN (pa_cons (pe_glob (v := .str "mark") (by rfl) hMARK ⟨_, rfl⟩) (pa_cons (pe_fld (pv 1) rfl) pa_nil))) pa_nil)))) (pss_one (ps_if (pt_val (pe_callB call_isiT (by rfl) T.b_isinstance (by decide +kernel) (pa_cons (pv 1) (pa_cons (pe_tup (pa_cons (pe_glob (v := .ref c.put) (by rfl) Hn.put rfl) (pa_cons (pe_glob (v := .ref c.add) (by rfl) Hn.add rfl) pa_nil))) pa_nil)))) (pss_cons (ps_set (i := 2) SC_Stepper_do.nd rfl (.inl rfl) (pe_methC M_place St.ins.cl (hr.mono (by omega)) (pv 0) (pa_cons (pe_fld (pv 1) rfl) pa_nil)))
      (pss_cons (ps_set (i := 3) SC_Stepper_do.nd rfl (.inl rfl) (pe_ifExp (pt_val (pe_callB call_isi (by rfl) T.b_isinstance (by decide +kernel) (pa_cons (pv 1) (pa_cons (pe_glob (v := .ref c.add) (by rfl) Hn.add rfl) pa_nil)))) (pe_ix ix_list (pe_fld (pv 0) rfl) (pv 2) (fun _ _ => rfl)) pe_int))
      (pss_one (ps_asg (pe_op op_mod (pe_callTy call_intI (by rfl) T.b_int (by decide +kernel) (pa_cons (pe_op op_add (pv 3) (pe_fld (pv 1) rfl)) pa_nil)) (pe_ix ix_tup (pe_ix ix_tup (pe_fld (pv 0) rfl) (pv 2) (fun _ _ => rfl)) pe_int (fun _ _ => rfl))) (pg_sub (pe_fld (pv 0) rfl) (pv 2) set_list))))) (pss_one (ps_if (pt_val (pe_callB call_isi (by rfl) T.b_isinstance (by decide +kernel) (pa_cons (pv 1) (pa_cons (pe_glob (v := .ref c.stop) (by rfl) Hn.stop rfl) pa_nil)))) (pss_cons (ps_fld (pv 0) pe_bl rfl)
      (pss_one (ps_fld (pv 0) (pe_callB call_len_seq (by rfl) T.b_len (by decide +kernel) (pa_cons (pe_fld (pv 0) rfl) pa_nil)) rfl))) pss_nil)))))))))))), ?_⟩
    obtain ⟨dx, r, u, e, evs, W⟩ := R.st
    obtain ⟨nvs, svs, hN, hns, hS, hsv⟩ := R.pg
    obtain ⟨fs, dq, a, b, g1, _⟩ := hq.part
    have ti := tyx_ins (Hc.r row).ins g1
    refine ⟨_, rfl, .ref q, _, _, _, _, rfl, .own _, ti, Hk.lay row, _, rfl, ?_⟩
    cases row with
    | ifb _ _ _ => cases pl
    | untl _ _ => cases pl
    | lay =>
      refine ifT rfl ?_
      exact ⟨_, rfl, x, dx, _, rfl, W.hx, by kernel_rfl, H0, x, nA, sA, i, s, rfl, R.st, fun H1 st => k H1 st⟩
    | make m =>
      obtain ⟨fs, qc, ⟨dq, a, b, g1, _⟩, e1, dc, qn, c1, c2⟩ := hq
      refine ifF rfl ⟨_, rfl, .ref q, _, _, _, _, rfl, .own _, ti, Hk.make _, _, rfl, ifT rfl ?_⟩
      refine ⟨_, rfl, q, _, dq, fs, _, rfl, g1, Hc.make.ins.cl, Hc.make.no "change" (by simp [fnames]), e1, qc, _, dc, _, _, rfl, c1, Rc.ins.cl, Rc.n1, cf1 _ _, ?_⟩
      refine ⟨_, rfl, x, CS, dx, _, _, rfl, W.hx, St.ins.cl, St.no "numbers" (by simp), lk_numbers .., qn, u, m, s.num, rfl, SqT.of c2, W.hu, Mt.In.mono ro (by decide), bs.mono (by decide), fun r2 H1 n1 s1 h1 => ?_⟩
      have W1 := W.same s1
      refine ⟨_, rfl, x, CS, dx, _, rfl, W1.hx, St.ins.cl, St.no "numbers" (by simp), Nat.le_of_ble_eq_true rfl, ?_⟩
      exact k _ ⟨dx, r, r2, e, evs, W1.setx (s' := { s with num := m.mul s.num }) (stF_numbers (nA := nA) (sA := sA) (i := i) (r := r) (u := u) (e := e) (l := s.lay) (b := s.stop) r2) rfl rfl (SqT.of h1)⟩
    | exch =>
      refine ifF rfl ⟨_, rfl, .ref q, _, _, _, _, rfl, .own _, ti, Hk.make _, _, rfl, ifF rfl ⟨_, rfl, .ref q, _, _, _, _, rfl, .own _, ti, Hk.exch _, _, rfl, ifT rfl ?_⟩⟩
      refine ⟨_, rfl, x, CS, dx, _, _, rfl, W.hx, St.ins.cl, St.no "numbers" (by simp), lk_numbers .., aX, u, ⟨0, 1, 1, 0⟩, s.num, rfl, sX _, W.hu, Mt.In.mono (i := 1) (by refine ⟨?_, ?_, ?_, ?_, ?_, ?_, ?_, ?_⟩ <;> decide) (by decide), bs.mono (by decide), fun r2 H1 n1 s1 h1 => ?_⟩
      have W1 := W.same s1
      refine ⟨_, rfl, x, CS, dx, _, rfl, W1.hx, St.ins.cl, St.no "numbers" (by simp), Nat.le_of_ble_eq_true rfl, ?_⟩
      exact k _ ⟨dx, r, r2, e, evs, W1.setx (s' := { s with num := (⟨0, 1, 1, 0⟩ : Mt).mul s.num }) (stF_numbers (nA := nA) (sA := sA) (i := i) (r := r) (u := u) (e := e) (l := s.lay) (b := s.stop) r2) rfl rfl (SqT.of h1)⟩
    | tell z =>
      obtain ⟨fs, ⟨dq, a, b, g1, _⟩, e1⟩ := hq
      refine ifF rfl ⟨_, rfl, .ref q, _, _, _, _, rfl, .own _, ti, Hk.make _, _, rfl, ifF rfl ⟨_, rfl, .ref q, _, _, _, _, rfl, .own _, ti, Hk.exch _, _, rfl, ifF rfl ⟨_, rfl, .ref q, _, _, _, _, rfl, .own _, ti, Hk.tell _, _, rfl, ifT rfl ?_⟩⟩⟩
      have lv := W.ev.len
      refine ⟨_, rfl, x, CS, dx, _, _, rfl, W.hx, St.ins.cl, St.no "events" (by simp), lk_events .., .inl ⟨rfl, _, SqL.of W.he⟩, ?_⟩
      refine ⟨_, rfl, q, _, dq, fs, _, rfl, g1, Hc.tell.ins.cl, Hc.tell.no "mark" (by simp [fnames]), e1, by show 2 ≤ 1000000; decide, fun t2 H1 n1 s1 h1 => ?_⟩
      have W1 := W.same s1
      exact ⟨e, evs, .ref t2, rfl, rfl, W1.he, szs (by omega), k _ ⟨dx, r, u, e, _, W1.sete (y := .mark z) ⟨t2, rfl, h1⟩⟩⟩
    | stop =>
      refine ifF rfl ⟨_, rfl, .ref q, _, _, _, _, rfl, .own _, ti, Hk.make _, _, rfl, ifF rfl ⟨_, rfl, .ref q, _, _, _, _, rfl, .own _, ti, Hk.exch _, _, rfl, ifF rfl ⟨_, rfl, .ref q, _, _, _, _, rfl, .own _, ti, Hk.tell _, _, rfl, ifF rfl ?_⟩⟩⟩
      refine isPA rfl ti (kit2 (Hk.put _) (Hk.add _)) fun H1 s1 => ⟨_, rfl, ifF rfl ?_⟩
      have W1 := W.same s1
      have ti1 := tyx_ins Hc.stop.ins (s1 _ _ g1)
      refine ⟨_, rfl, .ref q, _, _, _, _, rfl, .own _, ti1, Hk.stop .stop, _, rfl, ifT rfl ?_⟩
      refine ⟨_, rfl, x, CS, dx, _, rfl, W1.hx, St.ins.cl, St.no "stopped" (by simp), Nat.le_of_ble_eq_true rfl, ?_⟩
      have W2 := W1.setx (s' := { s with stop := true }) (stF_stopped (nA := nA) (sA := sA) (i := i) (r := r) (u := u) (e := e) (l := s.lay) (b := s.stop) true) rfl rfl W1.hu
      generalize upd H1 x _ = H2 at W2 ⊢
      refine ⟨_, rfl, x, CS, dx, _, _, rfl, W2.hx, St.ins.cl, St.no "steps" (by simp), lk_steps .., sA, svs, rfl, .inr (sqT_tk (TK.same W2.sm) hS), _, rfl, x, CS, dx, _, rfl, W2.hx, St.ins.cl, St.no "spot" (by simp), Nat.le_of_ble_eq_true rfl, ?_⟩
      have W3 := W2.setx (s' := { s with stop := true }) (stF_spot (nA := nA) (sA := sA) (i := i) (r := r) (u := u) (e := e) (l := s.lay) (b := true) svs.length) rfl rfl W2.hu
      refine k _ ?_
      show StpAt K CS H0 _ x nA sA ps.length { s with stop := true }
      rw [← hsv.len]
      exact ⟨dx, r, u, e, evs, W3⟩
    | put z n =>
      obtain ⟨fs, ⟨dq, a, b, g1, _⟩, e1, e2⟩ := hq
      refine ifF rfl ⟨_, rfl, .ref q, _, _, _, _, rfl, .own _, ti, Hk.make _, _, rfl, ifF rfl ⟨_, rfl, .ref q, _, _, _, _, rfl, .own _, ti, Hk.exch _, _, rfl, ifF rfl ⟨_, rfl, .ref q, _, _, _, _, rfl, .own _, ti, Hk.tell _, _, rfl, ifF rfl ?_⟩⟩⟩
      refine isPA rfl ti (kit2 (Hk.put _) (Hk.add _)) fun H1 s1 => ⟨_, rfl, ifT rfl ?_⟩
      have W1 := W.same s1
      have gn := Hc.put.no "note" (by simp [fnames])
      have gk := Hc.put.no "number" (by simp [fnames])
      refine ⟨_, rfl, x, dx, _, rfl, W1.hx, by kernel_rfl, _, rfl, q, _, dq, fs, _, rfl, s1 _ _ g1, Hc.put.ins.cl, gn, e1, H0, x, nA, sA, i, s, ns, ps, z, rfl, R.pg, ⟨dx, r, u, e, evs, W1⟩, ro, R.sn, fun H2 s2 => ?_⟩
      have W2 := W1.same s2
      have g2 := s2 _ _ (s1 _ _ g1)
      refine ⟨_, rfl, .ref q, _, _, _, _, rfl, .own _, tyx_ins Hc.put.ins g2, Hk.add (.put z n), _, rfl, ifF rfl ?_⟩
      refine ⟨_, rfl, _, rfl, q, _, dq, fs, _, rfl, g2, Hc.put.ins.cl, gk, e2, _, _, rfl, rfl, _, rfl, ?_⟩
      obtain ⟨m, hm, ez, em⟩ := note_at ro
      have om := R.ok.1 m (List.mem_of_getElem? hm)
      have lp := plN_lt ro
      obtain ⟨v, hv, qm, em2, hqm⟩ : ∃ v, nvs[plN ns z]? = some v ∧ ∃ qm, v = .ref qm ∧ H2 qm = some (.tup [.str m.1, .int m.2]) := by
        have l2 : plN ns z < nvs.length := by rw [hns.len]; exact lp
        obtain ⟨q', m', e', hm', h', _⟩ := (hns.tk (TK.same W2.sm)).ix (List.getElem?_eq_getElem l2)
        rw [hm] at hm'
        cases hm'
        exact ⟨_, List.getElem?_eq_getElem l2, q', e', h'⟩
      subst em2
      refine ⟨_, rfl, x, CS, dx, _, _, rfl, W2.hx, St.ins.cl, St.no "notes" (by simp), lk_notes .., _, rfl, nA, _, (plN ns z : Nat), _, rfl, rfl, sqT_tk (TK.same W2.sm) hN, atI_nat hv, qm, _, 1, .int m.2, rfl, rfl, SqT.of hqm, rfl, _, _, rfl, rfl, by omega, ?_⟩
      have l3 : plN ns z < (s.rests.map V.int).length := by rw [List.length_map, R.len]; exact lp
      refine ⟨_, rfl, x, CS, dx, _, _, rfl, W2.hx, St.ins.cl, St.no "note_rests" (by simp), lk_note_rests .., _, rfl, ?_⟩
      have W3 := W2.setr (is := s.rests.set (plN ns z) (n % m.2))
      rw [List.map_set, ← em] at W3
      refine ⟨r, _, (plN ns z : Nat), plN ns z, rfl, rfl, W2.hr, ixN_ok l3, ?_⟩
      show Q .non (upd H2 r (.lst ((s.rests.map V.int).set (plN ns z) (.int ((0 + n) % m.2)))))
      rw [Int.zero_add, ← em]
      exact k _ ⟨dx, r, u, e, evs, W3⟩
    | add z n =>
      obtain ⟨fs, ⟨dq, a, b, g1, _⟩, e1, e2⟩ := hq
      refine ifF rfl ⟨_, rfl, .ref q, _, _, _, _, rfl, .own _, ti, Hk.make _, _, rfl, ifF rfl ⟨_, rfl, .ref q, _, _, _, _, rfl, .own _, ti, Hk.exch _, _, rfl, ifF rfl ⟨_, rfl, .ref q, _, _, _, _, rfl, .own _, ti, Hk.tell _, _, rfl, ifF rfl ?_⟩⟩⟩
      refine isPA rfl ti (kit2 (Hk.put _) (Hk.add _)) fun H1 s1 => ⟨_, rfl, ifT rfl ?_⟩
      have W1 := W.same s1
      have gn := Hc.add.no "note" (by simp [fnames])
      have gk := Hc.add.no "number" (by simp [fnames])
      refine ⟨_, rfl, x, dx, _, rfl, W1.hx, by kernel_rfl, _, rfl, q, _, dq, fs, _, rfl, s1 _ _ g1, Hc.add.ins.cl, gn, e1, H0, x, nA, sA, i, s, ns, ps, z, rfl, R.pg, ⟨dx, r, u, e, evs, W1⟩, ro, R.sn, fun H2 s2 => ?_⟩
      have W2 := W1.same s2
      have g2 := s2 _ _ (s1 _ _ g1)
      refine ⟨_, rfl, .ref q, _, _, _, _, rfl, .own _, tyx_ins Hc.add.ins g2, Hk.add (.add z n), _, rfl, ifT rfl ?_⟩
      have lp := plN_lt ro
      have er : s.rests[plN ns z]? = some (heldN ns s z) := by
        have l2 : plN ns z < s.rests.length := by rw [R.len]; exact lp
        unfold heldN
        rw [List.getElem?_eq_getElem l2]; rfl
      refine ⟨_, rfl, x, CS, dx, _, _, rfl, W2.hx, St.ins.cl, St.no "note_rests" (by simp), lk_note_rests .., _, rfl, r, _, (plN ns z : Nat), .int (heldN ns s z), rfl, rfl, SqL.of W2.hr, atI_nat (by rw [List.getElem?_map, er]; rfl), ?_⟩
      refine ⟨_, rfl, _, rfl, q, _, dq, fs, _, rfl, g2, Hc.add.ins.cl, gk, e2, _, _, rfl, rfl, _, rfl, ?_⟩
      obtain ⟨m, hm, ez, em⟩ := note_at ro
      have om := R.ok.1 m (List.mem_of_getElem? hm)
      have lp := plN_lt ro
      obtain ⟨v, hv, qm, em2, hqm⟩ : ∃ v, nvs[plN ns z]? = some v ∧ ∃ qm, v = .ref qm ∧ H2 qm = some (.tup [.str m.1, .int m.2]) := by
        have l2 : plN ns z < nvs.length := by rw [hns.len]; exact lp
        obtain ⟨q', m', e', hm', h', _⟩ := (hns.tk (TK.same W2.sm)).ix (List.getElem?_eq_getElem l2)
        rw [hm] at hm'
        cases hm'
        exact ⟨_, List.getElem?_eq_getElem l2, q', e', h'⟩
      subst em2
      refine ⟨_, rfl, x, CS, dx, _, _, rfl, W2.hx, St.ins.cl, St.no "notes" (by simp), lk_notes .., _, rfl, nA, _, (plN ns z : Nat), _, rfl, rfl, sqT_tk (TK.same W2.sm) hN, atI_nat hv, qm, _, 1, .int m.2, rfl, rfl, SqT.of hqm, rfl, _, _, rfl, rfl, by omega, ?_⟩
      have l3 : plN ns z < (s.rests.map V.int).length := by rw [List.length_map, R.len]; exact lp
      refine ⟨_, rfl, x, CS, dx, _, _, rfl, W2.hx, St.ins.cl, St.no "note_rests" (by simp), lk_note_rests .., _, rfl, ?_⟩
      have W3 := W2.setr (is := s.rests.set (plN ns z) ((heldN ns s z + n) % m.2))
      rw [List.map_set, ← em] at W3
      refine ⟨r, _, (plN ns z : Nat), plN ns z, rfl, rfl, W2.hr, ixN_ok l3, ?_⟩
      show Q .non (upd H2 r (.lst ((s.rests.map V.int).set (plN ns z) (.int ((heldN ns s z + n) % m.2)))))
      rw [← em]
      exact k _ ⟨dx, r, u, e, evs, W3⟩
end

/-! ## steps, and going on -/
namespace Pg
structure GD (K : PySem.W.Frag) (w : World) (mg : Str → Option Value) (x : Str) : Prop where
  ex : ∃ a, mg x = some (.ref a) ∧ KDct K w a "alike" (.int 0) ∧ KDct K w a "longer" (.int 1) ∧ KDct K w a "shorter" (.int (-1))
theorem in_goal {m : Mt} {j : Int} : inV (ordV m) [.int 0, .int j] = (decide (ordM m = some 0) || decide (ordM m = some j)) := by
  unfold ordV
  cases ordM m with
  | none => rfl
  | some i =>
    have a : ∀ b : Int, (b == i) = decide (some i = some b) := fun b => by
      rw [Bool.eq_iff_iff, beq_iff_eq, decide_eq_true_iff]
      exact ⟨fun e => by rw [e], fun e => (Option.some.inj e).symm⟩
    show ((0 == i) || ((j == i) || false)) = _
    rw [Bool.or_false, a, a]
theorem flat_ord (m : Mt) : flatV (ordV m) = true := by
  unfold ordV
  cases ordM m <;> rfl
theorem doR_rests {ns : List (Str × Int)} {s : Rs} : ∀ r : Rw1, (doR ns s r).rests.length = s.rests.length
  | .lay => by
    show (layS s).rests.length = _
    unfold layS
    split <;> rfl
  | .make _ => rfl
  | .exch => rfl
  | .tell _ => rfl
  | .put _ _ => List.length_set ..
  | .add _ _ => List.length_set ..
  | .stop => rfl
  | .ifb _ _ _ => rfl
  | .untl _ _ => rfl
theorem step_rests {ns : List (Str × Int)} {n i : Nat} {p : PSt} {s : Rs} (h : s.rests.length = ns.length) : (step1 ns n p i s).2.rests.length = ns.length := by
  obtain ⟨kd, no, row, to⟩ := p
  match kd with
  | 0 => exact (doR_rests row).trans h
  | 1 => cases row <;> exact h
  | 2 => cases row <;> exact h
  | 3 => exact h
  | k + 4 => exact (doR_rests row).trans h
def sp_step (K : PySem.W.Frag) (c : Clz) (CS : Addr) : Sp := fun vs H Q _ => ∃ (H0 : Hp) (x nA sA : Addr) (i : Nat) (s : Rs) (ns : List (Str × Int)) (ps : List PSt) (p : PSt), vs = [.ref x] ∧ Rdy K c CS H0 H x nA sA i s ns ps ∧ ps[i]? = some p ∧ PsOk ns p ∧ s.Ok ns ∧ ∀ H', StpAt K CS H0 H' x nA sA (step1 ns ps.length p i s).1 (step1 ns ps.length p i s).2 → Q .non H'
def sp_go (K : PySem.W.Frag) (c : Clz) (CS : Addr) : Sp := fun vs H Q _ => ∃ (H0 : Hp) (x nA sA : Addr) (n i j : Nat) (s s' : Rs) (ns : List (Str × Int)) (ps : List PSt), vs = [.ref x] ∧ Rdy K c CS H0 H x nA sA i s ns ps ∧ (∀ p ∈ ps, PsOk ns p) ∧ Goes ns ps n i s j s' ∧ ∀ H', Rdy K c CS H0 H' x nA sA j s' ns ps → Q .non H'
end Pg
open Pg
section
variable {P : Program} {w : World} {K : PySem.W.Frag} {mg : Str → Option Value} {base : Heap}
theorem ok_step {f CS : Addr} {fd : FuncData} {c : Clz} (F : Fun K "step" "Stepper.step" S_Stepper_step f fd) (T : Txt K mg) (Hc : Hi K mg c) (St : StT K CS) (Sg : SG mg) (Sm : SM mg) (Si : SI mg) (Gd : GD K w mg "GOALS_steps") (C_order : FnC P w K mg base CX0 1 "order_of" ["numbers"] (sp_order K)) (M_holds : MtC P w K mg base CX0 12 CS "holds" ["self", "test"] (sp_holds K c CS 10)) (M_do : MtC P w K mg base CX0 3 CS "do" ["self", "row"] (sp_do K c CS)) : FnOk P w K mg base CX0 13 f fd ["self"] (sp_step K c CS) := by
  obtain ⟨tTEST, hTEST⟩ := Sg.test.ex
  obtain ⟨tLOOK, hLOOK⟩ := Sg.look.ex
  obtain ⟨tGO, hGO⟩ := Sg.go.ex
  obtain ⟨tROW, hROW⟩ := Sm.row.ex
  obtain ⟨tA, hALIKE⟩ := Si.alike.ex
  obtain ⟨aG, hG, gA, gL, gS⟩ := Gd.ex
  refine F.ok SC_Stepper_step (fun vs H Q E h => ?_) (fun cdv A outer s H vs Q E hr h => ?_)
  · obtain ⟨H0, x, nA, sA, i, s, ns, ps, p, rfl, _⟩ := h
    rfl
  · obtain ⟨H0, x, nA, sA, i, s, ns, ps, p, rfl, R, hp, okp, oks, k⟩ := h
    refine ⟨_, (pss_cons (ps_asg (pe_ix ix_tup (pe_fld (pv 0) rfl) (pe_fld (pv 0) rfl) (fun _ _ => rfl)) (pg_tup rfl (pgs_cons (pg_name (i := 1) SC_Stepper_step.nd rfl (.inl rfl)) (pgs_cons (pg_name (i := 2) SC_Stepper_step.nd rfl (.inl rfl)) (pgs_cons (pg_name (i := 3) SC_Stepper_step.nd rfl (.inl rfl)) (pgs_cons (pg_name (i := 4) SC_Stepper_step.nd rfl (.inl rfl)) pgs_nil))))))
      (pss_cons (ps_fldaug (pv 0) pe_int in_add)
      (pss_cons (ps_if (pt_cmpR op_eq (pv 1) (pe_glob (v := .str "go") (by rfl) hGO ⟨_, rfl⟩) (nomark _)) (pss_cons (ps_fld (pv 0) (pv 4) rfl)
      (pss_one ps_retN)) pss_nil)
      (pss_cons (ps_expr (pe_bm PySem.F.plainAttrs_list PySem.F.slot_list_append PySem.F.type_list_append mt_append (pe_fld (pv 0) rfl) (pa_cons (pe_tupN (pa_cons (pe_glob (v := .str "row") (by rfl) hROW ⟨_, rfl⟩) (pa_cons (pv 2) pa_nil))) pa_nil)))
      (pss_one (ps_if (pt_cmpR op_eq (pv 1) (pe_glob (v := .str "test") (by rfl) hTEST ⟨_, rfl⟩) (nomark _)) (pss_one (ps_fld (pv 0) (pe_ifExp (pt_val (pe_methC M_holds St.ins.cl (hr.mono (by omega)) (pv 0) (pa_cons (pe_fld (pv 3) rfl) pa_nil))) (pe_fld (pv 0) rfl) (pv 4)) rfl)) (pss_one (ps_if (pt_cmpR op_eq (pv 1) (pe_glob (v := .str "look") (by rfl) hLOOK ⟨_, rfl⟩) (nomark _)) (pss_one (ps_fld (pv 0) (pe_ifExp (pt_cmpR op_in_seq (pe_callC C_order (hr.mono (by omega)) rfl (pa_cons (pe_fld (pv 0) rfl) pa_nil)) (pe_tupN (pa_cons (pe_glob (v := .int 0) (by rfl) hALIKE ⟨_, rfl⟩) (pa_cons (pe_ix ix_kdict (pe_glob (v := .ref aG) (by rfl) hG rfl) (pe_fld (pv 3) rfl) (fun _ _ => rfl)) pa_nil))) (by rfl)) (pv 4) (pe_fld (pv 0) rfl)) rfl)) (pss_one (ps_expr (pe_methC M_do St.ins.cl (hr.mono (by omega)) (pv 0) (pa_cons (pv 3) pa_nil)))))))))))), ?_⟩
    obtain ⟨dx, r, u, e, evs, W⟩ := R.st
    obtain ⟨svs, v, t, q, hS0, _, hv, rfl, ht0, hq0⟩ := step_get R.pg (Same.refl H0) hp
    have hS := sqT_tk (TK.same W.sm) hS0
    have ht := W.sm _ _ ht0
    refine ⟨_, rfl, x, CS, dx, _, _, rfl, W.hx, St.ins.cl, St.no "steps" (by simp), lk_steps .., _, rfl, x, CS, dx, _, _, rfl, W.hx, St.ins.cl, St.no "spot" (by simp), lk_spot .., sA, svs, (i : Nat), _, rfl, rfl, hS, atI_nat hv, t, _, rfl, SqT.of ht, rfl, ?_⟩
    refine ⟨_, _, rfl, _, _, rfl, _, _, rfl, _, _, rfl, rfl, ?_⟩
    refine ⟨_, rfl, x, CS, dx, _, _, rfl, W.hx, St.ins.cl, St.no "spot" (by simp), lk_spot .., _, _, rfl, rfl, dx, _, W.hx, Nat.le_of_ble_eq_true rfl, ?_⟩
    have W1 : StpX K CS H0 (upd H x (.ins CS dx (putF ("spot" : Str) (.int ((i : Int) + 1)) (stF nA sA i r u e s.lay s.stop)))) x dx r u e nA sA evs (i + 1) s := W.setx (s' := s) (stF_spot (nA := nA) (sA := sA) (i := i) (r := r) (u := u) (e := e) (l := s.lay) (b := s.stop) (i + 1)) rfl rfl W.hu
    generalize upd H x (.ins CS dx (putF ("spot" : Str) (.int ((i : Int) + 1)) (stF nA sA i r u e s.lay s.stop))) = H1 at W1 ⊢
    have lv := W1.ev.len
    have le := oks.ev
    have ek : ∀ q, step1 ns ps.length p i s = q → StpAt K CS H0 = StpAt K CS H0 := fun _ _ => rfl
    obtain ⟨kd, no, row, to⟩ := p
    have app : ∀ {D : Ends} {σ : L2.St} {tb : TS}, σ[0]? = some (some (.ref x)) → σ[2]? = some (some (.int (no : Nat))) → (∀ H2 evs2, StpX K CS H0 H2 x dx r u e nA sA evs2 (i + 1) (rowEv s no) → tb D σ H2) →
        tSeq (tDrop (tBM K "list" rAppend (tFld K (tVar 0) "events") (tCons (tTupN (tCons (tC (V.str ("row" : Str))) (tCons (tVar 2) tNil))) tNil))) tb D σ H1 := fun h0 h2 kk => by
      refine ⟨_, h0, x, CS, dx, _, _, rfl, W1.hx, St.ins.cl, St.no "events" (by simp), lk_events .., .inl ⟨rfl, _, SqL.of W1.he⟩, _, h2, by show 2 ≤ 1000000; decide, fun t2 H2 n2 s2 ht2 => ?_⟩
      have W2 := W1.same s2
      exact ⟨e, evs, .ref t2, rfl, rfl, W2.he, szs (by omega), kk _ _ (W2.sete (y := .row no) ⟨t2, rfl, ht2⟩)⟩
    match kd, okp with
    | 3, _ =>
      refine ⟨_, rfl, rfl, _, rfl, ifT (by simp only [kindS]; decide +kernel) ?_⟩
      refine ⟨_, rfl, _, rfl, x, CS, dx, _, rfl, W1.hx, St.ins.cl, St.no "spot" (by simp), Nat.le_of_ble_eq_true rfl, ?_⟩
      exact k _ ⟨dx, r, u, e, evs, W1.setx (s' := s) (stF_spot (nA := nA) (sA := sA) (i := i + 1) (r := r) (u := u) (e := e) (l := s.lay) (b := s.stop) to) rfl rfl W1.hu⟩
    | 1, okp =>
      obtain ⟨tt, r1, o1, er, dt, us⟩ := okp
      cases er
      refine ⟨_, rfl, rfl, _, rfl, ifF (by simp only [kindS]; decide +kernel) ?_⟩
      refine app rfl rfl fun H2 evs2 W2 => ?_
      refine ⟨_, rfl, rfl, _, rfl, ifT (by simp only [kindS]; decide +kernel) ?_⟩
      obtain ⟨fs, qt, a2, b2, xs2, ys2, ⟨dq, a, b, g1, _⟩, e1, hqt, _⟩ := hq0
      have es : step1 ns ps.length ⟨1, no, .ifb tt r1 o1, to⟩ i s = (if holdsT ns (rowEv s no) tt = true then i + 1 else to, rowEv s no) := rfl
      rw [es] at k
      refine ⟨_, rfl, x, dx, _, rfl, W2.hx, by kernel_rfl, _, rfl, q, _, dq, fs, _, rfl, W2.sm _ _ g1, Hc.ifb.ins.cl, Hc.ifb.no "test" (by simp [fnames]), e1, H0, x, nA, sA, qt, i + 1, rowEv s no, ns, ps, tt, rfl, ⟨R.pg, ⟨dx, r, u, e, _, W2⟩, R.ok, R.len, R.sn⟩, hqt.tk (TK.same W2.sm), by omega, by decide, us, fun H3 s3 => ⟨_, rfl, ?_⟩⟩
      have W3 := W2.same s3
      by_cases hh : holdsT ns (rowEv s no) tt = true
      · rw [if_pos hh] at k
        refine ifT hh ⟨_, rfl, x, CS, dx, _, _, rfl, W3.hx, St.ins.cl, St.no "spot" (by simp), lk_spot .., _, rfl, x, CS, dx, _, rfl, W3.hx, St.ins.cl, St.no "spot" (by simp), Nat.le_of_ble_eq_true rfl, ?_⟩
        exact k _ ⟨dx, r, u, e, _, W3.setx (s' := rowEv s no) (stF_spot (nA := nA) (sA := sA) (i := i + 1) (r := r) (u := u) (e := e) (l := s.lay) (b := s.stop) (i + 1)) rfl rfl W3.hu⟩
      · rw [if_neg hh] at k
        refine ifF (Bool.not_eq_true _ ▸ hh) ⟨_, rfl, _, rfl, x, CS, dx, _, rfl, W3.hx, St.ins.cl, St.no "spot" (by simp), Nat.le_of_ble_eq_true rfl, ?_⟩
        exact k _ ⟨dx, r, u, e, _, W3.setx (s' := rowEv s no) (stF_spot (nA := nA) (sA := sA) (i := i + 1) (r := r) (u := u) (e := e) (l := s.lay) (b := s.stop) to) rfl rfl W3.hu⟩
    | 2, okp =>
      obtain ⟨g, r1, er, hg⟩ := okp
      cases er
      refine ⟨_, rfl, rfl, _, rfl, ifF (by simp only [kindS]; decide +kernel) ?_⟩
      refine app rfl rfl fun H2 evs2 W2 => ?_
      refine ⟨_, rfl, rfl, _, rfl, ifF (by simp only [kindS]; decide +kernel) ?_⟩
      refine ⟨_, rfl, rfl, _, rfl, ifT (by simp only [kindS]; decide +kernel) ?_⟩
      obtain ⟨fs, a2, xs2, ⟨dq, a, b, g1, _⟩, e1, _⟩ := hq0
      have es : step1 ns ps.length ⟨2, no, .untl g r1, to⟩ i s = (if loops (rowEv s no) g = true then to else i + 1, rowEv s no) := rfl
      rw [es] at k
      have gd : KDct K w aG g (.int (goalV g)) := by
        rcases hg with rfl | rfl | rfl
        · exact gA
        · exact gL
        · exact gS
      refine ⟨_, rfl, x, CS, dx, _, _, rfl, W2.hx, St.ins.cl, St.no "numbers" (by simp), lk_numbers .., u, s.num, rfl, W2.hu, ?_⟩
      refine ⟨_, rfl, q, _, dq, fs, _, rfl, W2.sm _ _ g1, Hc.untl.ins.cl, Hc.untl.no "goal" (by simp [fnames]), e1, aG, g, _, rfl, rfl, gd, by show 2 ≤ 1000000; decide, fun t3 H3 n3 s3 h3 => ?_⟩
      have W3 := W2.same s3
      refine ⟨t3, _, rfl, .inr (SqT.of h3), flat_ord _, rfl, _, rfl, ?_⟩
      have el : inV (ordV s.num) [.int 0, .int (goalV g)] = loops (rowEv s no) g := in_goal
      by_cases hl : loops (rowEv s no) g = true
      · rw [if_pos hl] at k
        refine ifT (by rw [if_neg (by decide)]; exact el.trans hl) ⟨_, rfl, _, rfl, x, CS, dx, _, rfl, W3.hx, St.ins.cl, St.no "spot" (by simp), Nat.le_of_ble_eq_true rfl, ?_⟩
        exact k _ ⟨dx, r, u, e, _, W3.setx (s' := rowEv s no) (stF_spot (nA := nA) (sA := sA) (i := i + 1) (r := r) (u := u) (e := e) (l := s.lay) (b := s.stop) to) rfl rfl W3.hu⟩
      · rw [if_neg hl] at k
        refine ifF (by rw [if_neg (by decide), el]; exact Bool.not_eq_true _ ▸ hl) ⟨_, rfl, x, CS, dx, _, _, rfl, W3.hx, St.ins.cl, St.no "spot" (by simp), lk_spot .., _, rfl, x, CS, dx, _, rfl, W3.hx, St.ins.cl, St.no "spot" (by simp), Nat.le_of_ble_eq_true rfl, ?_⟩
        exact k _ ⟨dx, r, u, e, _, W3.setx (s' := rowEv s no) (stF_spot (nA := nA) (sA := sA) (i := i + 1) (r := r) (u := u) (e := e) (l := s.lay) (b := s.stop) (i + 1)) rfl rfl W3.hu⟩
    | 0, okp =>
      refine ⟨_, rfl, rfl, _, rfl, ifF (by simp only [kindS]; decide +kernel) ?_⟩
      refine app rfl rfl fun H2 evs2 W2 => ?_
      refine ⟨_, rfl, rfl, _, rfl, ifF (by simp only [kindS]; decide +kernel) ?_⟩
      refine ⟨_, rfl, rfl, _, rfl, ifF (by simp only [kindS]; decide +kernel) ?_⟩
      have es : step1 ns ps.length ⟨0, no, row, to⟩ i s = (if isStop row = true then ps.length else i + 1, doR ns (rowEv s no) row) := rfl
      rw [es] at k
      exact ⟨_, rfl, x, dx, _, rfl, W2.hx, by kernel_rfl, _, rfl, H0, x, nA, sA, q, i + 1, rowEv s no, ns, ps, row, rfl, ⟨R.pg, ⟨dx, r, u, e, _, W2⟩, R.ok, R.len, R.sn⟩, hq0.tk (TK.same W2.sm), okp.1, okp.2, oks.num, by show (s.ev ++ [Ev.row no]).length ≤ 900001; rw [List.length_append]; exact Nat.succ_le_succ le, fun H3 st => k H3 st⟩
theorem ok_go {f CS : Addr} {fd : FuncData} {c : Clz} (F : Fun K "go" "Stepper.go" S_Stepper_go f fd) (T : Txt K mg) (St : StT K CS) (M_waits : MtC P w K mg base CX0 12 CS "is_waiting" ["self"] (sp_waits K c CS)) (M_step : MtC P w K mg base CX0 13 CS "step" ["self"] (sp_step K c CS)) : FnOk P w K mg base CX0 14 f fd ["self"] (sp_go K c CS) := by
  refine F.ok SC_Stepper_go (fun vs H Q E h => ?_) (fun cdv A outer s H vs Q E hr h => ?_)
  · obtain ⟨H0, x, nA, sA, n, i, j, s, s', ns, ps, rfl, _⟩ := h
    rfl
  · obtain ⟨H0, x, nA, sA, n, i, j, s, s', ns, ps, rfl, R, ok, G, k⟩ := h
    refine ⟨_, (pss_one (ps_while PassesOwn.never (PW.pt (pw_and (pt_cmpR op_lt (pe_fld (pv 0) rfl) (pe_callB call_len_seq (by rfl) T.b_len (by decide +kernel) (pa_cons (pe_fld (pv 0) rfl) pa_nil)) (nomark _)) (pw_and1 (pt_not (pt_val (pe_mth0 M_waits St.ins.cl (hr.mono (by omega)) (pv 0))))))) (pss_one (ps_expr (pe_mth0 M_step St.ins.cl (hr.mono (by omega)) (pv 0)))))), ?_⟩
    refine ⟨fun m σ H' => σ = [some (.ref x)] ∧ ∃ i s, Rdy K c CS H0 H' x nA sA i s ns ps ∧ Goes ns ps m i s j s', ⟨n, rfl, i, s, R, G⟩, ?_⟩
    rintro m σ H' ⟨rfl, i, s, R, G⟩
    obtain ⟨dx, r, u, e, evs, W⟩ := R.st
    obtain ⟨nvs, svs, _, _, hS, hsv⟩ := R.pg
    have hS1 := sqT_tk (TK.same W.sm) hS
    refine ⟨_, rfl, x, CS, dx, _, _, rfl, W.hx, St.ins.cl, St.no "spot" (by simp), lk_spot .., _, rfl, x, CS, dx, _, _, rfl, W.hx, St.ins.cl, St.no "steps" (by simp), lk_steps .., sA, svs, rfl, .inr hS1, _, _, rfl, rfl, _, rfl, ?_⟩
    rw [hsv.len]
    cases G with
    | fin il h =>
      by_cases hi : j = ps.length
      · refine ifF (decide_eq_false (by omega)) ?_
        exact k H' R
      · have hw := h.resolve_left hi
        refine ifT (decide_eq_true (by omega)) ⟨_, rfl, x, dx, _, rfl, W.hx, by kernel_rfl, H0, x, nA, sA, j, s', ns, ps, rfl, R, ok, il, _, rfl, ?_⟩
        rw [hw]
        exact k H' R
    | @step n _ _ _ _ p hp hw oks g =>
      have lt := (List.getElem?_eq_some_iff.mp hp).1
      refine ifT (decide_eq_true (by omega)) ⟨_, rfl, x, dx, _, rfl, W.hx, by kernel_rfl, H0, x, nA, sA, i, s, ns, ps, rfl, R, ok, by omega, _, rfl, ?_⟩
      rw [hw]
      refine ⟨fun σ H' => σ = [some (.ref x)] ∧ ∃ i s, Rdy K c CS H0 H' x nA sA i s ns ps ∧ Goes ns ps n i s j s', fun σ H'' h => ⟨n, Nat.lt_succ_self n, h⟩, ?_⟩
      refine ⟨_, rfl, x, dx, _, rfl, W.hx, by kernel_rfl, H0, x, nA, sA, i, s, ns, ps, p, rfl, R, hp, ok p (List.mem_of_getElem? hp), oks, fun H2 st => ?_⟩
      exact ⟨rfl, _, _, ⟨R.pg, st, R.ok, step_rests R.len, R.sn⟩, g⟩
end

/-! ## runs -/
namespace Pg
theorem holds_all {P : Program} {w : World} {K : PySem.W.Frag} {mg : Str → Option Value} {base : Heap} {f CS : Addr} {fd : FuncData} {c : Clz} (F : Fun K "holds" "Stepper.holds" S_Stepper_holds f fd) (T : Txt K mg) (Hc : Hi K mg c) (Hk : Hk K c) (Hn : Hm mg c) (St : StT K CS) (Si : SI mg) (C_order : FnC P w K mg base CX0 1 "order_of" ["numbers"] (sp_order K)) (M_place : MtC P w K mg base CX0 2 CS "place_of" ["self", "name"] (sp_place K c CS))
    (pk : ∀ {k : Nat} {sp : Sp}, FnOk P w K mg base CX0 k f fd ["self", "test"] sp → MtC P w K mg base CX0 k CS "holds" ["self", "test"] sp) : ∀ d : Nat, MtC P w K mg base CX0 (d + 2) CS "holds" ["self", "test"] (sp_holds K c CS d) := by
  intro d
  induction d with
  | zero => exact pk (fn_false.imp fun vs H Q E h => by
      obtain ⟨H0, x, nA, sA, q, i, s, ns, ps, t, _, _, _, dp, _⟩ := h
      exact absurd dp (Nat.not_lt_zero _))
  | succ d ih => exact pk (ok_holds F T Hc Hk Hn St Si C_order M_place ih)
def sp_ndlen : Sp := fun vs H Q _ => ∃ (i j : Int), vs = [.int i, .int j] ∧ 1 ≤ i ∧ 1 ≤ j ∧ ∀ H', Same H H' → Q .non H'
/-- the marks told -/
def marksOf : List Ev → List Str
  | [] => []
  | .mark z :: es => z :: marksOf es
  | _ :: es => marksOf es
theorem marksOf_app : ∀ a b : List Ev, marksOf (a ++ b) = marksOf a ++ marksOf b
  | [], _ => rfl
  | .mark z :: a, b => congrArg (z :: ·) (marksOf_app a b)
  | .row _ :: a, b => marksOf_app a b
  | .let_ _ :: a, b => marksOf_app a b
theorem marksOf_le : ∀ a : List Ev, (marksOf a).length ≤ a.length
  | [] => Nat.le_refl _
  | .mark z :: a => Nat.succ_le_succ (marksOf_le a)
  | .row _ :: a => Nat.le_succ_of_le (marksOf_le a)
  | .let_ _ :: a => Nat.le_succ_of_le (marksOf_le a)
theorem EvsAt.at {H : Hp} : ∀ {vs : List V} {es : List Ev} {i : Nat} {v : V}, EvsAt H vs es → vs[i]? = some v → ∃ e, es[i]? = some e ∧ EvAt H v e
  | [], [], _, _, _, h => by simp at h
  | _ :: _, e :: _, 0, _, ⟨h, _⟩, q => by cases q; exact ⟨e, rfl, h⟩
  | _ :: _, _ :: _, i + 1, _, ⟨_, h⟩, q => EvsAt.at (i := i) h (by simpa using q)
/-- an outcome -/
structure OuT (K : PySem.W.Frag) (CO : Addr) : Prop where
  ins : C8.InsC K CO
  no : ∀ f ∈ (["marks", "rods", "stopped", "layings"] : List Str), PySem.W.findIn K (.ref CO) f = some none
def ouF (m r : Addr) (b : Bool) (l : Nat) : List (Str × V) := [("marks", .ref m), ("rods", .ref r), ("stopped", .bl b), ("layings", .int (l : Nat))]
def OutAt (K : PySem.W.Frag) (CO : Addr) (H : Hp) (o : Addr) (ms : List Str) (x y : Int) (b : Bool) (l : Nat) : Prop := ∃ dx m r, H o = some (.ins CO dx (ouF m r b l)) ∧ SqT K H m (ms.map V.str) ∧ H r = some (.tup [.int x, .int y])
theorem OutAt.tk {K : PySem.W.Frag} {CO o : Addr} {H H' : Hp} {ms : List Str} {x y : Int} {b : Bool} {l : Nat} (s : TK H H') (h : OutAt K CO H o ms x y b l) : OutAt K CO H' o ms x y b l := by
  obtain ⟨dx, m, r, h1, h2, h3⟩ := h
  exact ⟨dx, m, r, s _ _ rfl h1, sqT_tk s h2, s _ _ rfl h3⟩
def sp_outinit (K : PySem.W.Frag) (CO : Addr) : Sp := fun vs H Q _ => ∃ (x dx m r : Addr) (ms : List Str) (i j : Int) (b : Bool) (l : Nat), vs = [.ref x, .ref m, .ref r, .bl b, .int (l : Nat)] ∧ H x = some (.ins CO dx []) ∧ SqT K H m (ms.map V.str) ∧ H r = some (.tup [.int i, .int j]) ∧ ∀ H', (∀ b o, b ≠ x → H b = some o → H' b = some o) → OutAt K CO H' x ms i j b l → Q .non H'
theorem rep1 {α : Type} (a : α) : ∀ n : Nat, (List.replicate n [a]).flatten = List.replicate n a
  | 0 => rfl
  | n + 1 => by
    rw [List.replicate_succ, List.flatten_cons, rep1 a n]; rfl
/-- a state at the beginning -/
def st0 (n : Nat) (x y : Int) : Rs := ⟨List.replicate n 0, ⟨x, 0, y, 0⟩, [], 0, false⟩
def sp_run (K : PySem.W.Frag) (c : Clz) (CP CO : Addr) : Sp := fun vs H Q _ => ∃ (p : Addr) (x y : Int) (ns : List (Str × Int)) (rs : List Rw1) (n j : Nat) (s : Rs), vs = [.ref p, .int x, .int y] ∧ ProgAt K c CP H p ns rs ∧ NotesOk ns ∧ ns.length ≤ 1000 ∧ (∀ q ∈ stepsL rs 0 0, PsOk ns q) ∧ 1 ≤ x ∧ 1 ≤ y ∧ Goes ns (stepsL rs 0 0) n 0 (st0 ns.length x y) j s ∧ s.ev.length ≤ 900001 ∧
  ∀ o H', Same H H' → OutAt K CO H' o (marksOf s.ev) s.num.a s.num.c s.stop s.lay → Q (.ref o) H'
end Pg
open Pg
section
variable {P : Program} {w : World} {K : PySem.W.Frag} {mg : Str → Option Value} {base : Heap}
theorem ok_ndlen {f NP : Addr} {fd : FuncData} (F : Fun K "need_lengths" "need_lengths" S_need_lengths f fd) (T : Txt K mg) (E_NoPair : ErC P w K mg base "NoPair" NP) (C_islen : FnC P w K mg base CX0 2 "is_length" ["value"] (sp_islen K)) : FnOk P w K mg base (L2.CX P w) 4 f fd ["first", "second"] sp_ndlen := by
  refine F.okX SC_need_lengths (fun vs H Q E h => ?_) (fun cdv A outer s H vs Q E hr h => ?_)
  · obtain ⟨i, j, rfl, _⟩ := h
    rfl
  · obtain ⟨i, j, rfl, i1, j1, k⟩ := h
    refine ⟨_, (pss_one (ps_for (passes_of rfl) rfl (pi_tup (pe_tupN (pa_cons (pv 0) (pa_cons (pv 1) pa_nil)))) (pg_name (i := 2) SC_need_lengths.nd rfl (.inl rfl)) (pss_one (ps_if (pt_not (pt_val (pe_callC C_islen (hr.mono (by omega)) rfl (pa_cons (pv 2) pa_nil)))) (pss_one (ps_raise0 E_NoPair (hr.mono (by omega)) rfl (takes_of rfl rfl rfl rfl) rfl)) pss_nil)))), ?_⟩
    refine ⟨_, rfl, _, rfl, by show 2 ≤ 1000000; decide, fun t H1 n1 s1 h1 => ⟨t, rfl, ⟨_, SqT.of h1⟩, ?_⟩⟩
    refine for_tup (xs := [.int i, .int j]) (fun m σ H2 => Same H1 H2 ∧ ∃ y, σ = [some (.int i), some (.int j), y]) ⟨Same.refl _, _, rfl⟩ (fun m σ H2 _ q => SqT.of (q.1 _ _ h1)) (fun m v σ H2 hm q => ?_) (fun σ H2 q => ?_)
    · obtain ⟨s2, y, rfl⟩ := q
      have hv : ∃ z : Int, v = .int z ∧ 1 ≤ z := by
        match m, hm with
        | 0, hm => cases hm; exact ⟨i, rfl, i1⟩
        | 1, hm => cases hm; exact ⟨j, rfl, j1⟩
        | m + 2, hm => simp at hm
      obtain ⟨z, rfl, hz⟩ := hv
      refine ⟨_, rfl, .int z, rfl, Kd.int _, _, rfl, ?_⟩
      rw [show isLen (.int z) = true from decide_eq_true hz]
      exact ifF rfl ⟨s2, _, rfl⟩
    · obtain ⟨s2, y, rfl⟩ := q
      exact k H2 (s1.trans s2)
theorem ok_outinit {f CO : Addr} {fd : FuncData} (F : Fun K "__init__" "Outcome.__init__" S_Outcome__init_ f fd) (T : Txt K mg) (Ot : OuT K CO) : FnOk P w K mg base CX0 2 f fd ["self", "marks", "rods", "stopped", "layings"] (sp_outinit K CO) := by
  refine F.ok SC_Outcome__init_ (fun vs H Q E h => ?_) (fun cdv A outer s H vs Q E hr h => ?_)
  · obtain ⟨x, dx, m, r, ms, i, j, b, l, rfl, _⟩ := h
    rfl
  · obtain ⟨x, dx, m, r, ms, i, j, b, l, rfl, hx, hm, hrr, k⟩ := h
    refine ⟨_, (pss_cons (ps_fld (pv 0) (pv 1) rfl)
      (pss_cons (ps_fld (pv 0) (pv 2) rfl)
      (pss_cons (ps_fld (pv 0) (pv 3) rfl)
      (pss_one (ps_fld (pv 0) (pv 4) rfl))))), ?_⟩
    refine ⟨_, rfl, _, rfl, x, CO, dx, [], rfl, hx, Ot.ins.cl, Ot.no "marks" (by simp), by decide, ?_⟩
    refine ⟨_, rfl, _, rfl, x, CO, dx, _, rfl, upd_same, Ot.ins.cl, Ot.no "rods" (by simp), Nat.le_of_ble_eq_true rfl, ?_⟩
    refine ⟨_, rfl, _, rfl, x, CO, dx, _, rfl, upd_same, Ot.ins.cl, Ot.no "stopped" (by simp), Nat.le_of_ble_eq_true rfl, ?_⟩
    refine ⟨_, rfl, _, rfl, x, CO, dx, _, rfl, upd_same, Ot.ins.cl, Ot.no "layings" (by simp), Nat.le_of_ble_eq_true rfl, ?_⟩
    have kp : ∀ a o, a ≠ x → H a = some o → (upd (upd (upd (upd H x (.ins CO dx (putF ("marks" : Str) (.ref m) []))) x (.ins CO dx (putF ("rods" : Str) (.ref r) (putF ("marks" : Str) (.ref m) [])))) x (.ins CO dx (putF ("stopped" : Str) (.bl b) (putF ("rods" : Str) (.ref r) (putF ("marks" : Str) (.ref m) []))))) x (.ins CO dx (putF ("layings" : Str) (.int (l : Nat)) (putF ("stopped" : Str) (.bl b) (putF ("rods" : Str) (.ref r) (putF ("marks" : Str) (.ref m) [])))))) a = some o := fun a o n e => by
      rw [upd_ne n, upd_ne n, upd_ne n, upd_ne n]; exact e
    have ef : putF ("layings" : Str) (.int (l : Nat)) (putF ("stopped" : Str) (.bl b) (putF ("rods" : Str) (.ref r) (putF ("marks" : Str) (.ref m) []))) = ouF m r b l := by kernel_rfl
    refine k _ kp ⟨dx, m, r, by rw [upd_same, ef], sqT_ng hx kp hm, kp _ _ (fun e => by rw [e, hx] at hrr; cases hrr) hrr⟩
theorem ok_run {f CP CO CS : Addr} {fd : FuncData} {c : Clz} (F : Fun K "run" "run" S_run f fd) (T : Txt K mg) (Pt : PgT K CP) (St : StT K CS) (Sm : SM mg) (C_ndlen : FnC P w K mg base (L2.CX P w) 4 "need_lengths" ["first", "second"] sp_ndlen) (C_stepper : MkC P w K mg base CX0 2 CS "Stepper" ["self", "program", "spot", "rests", "numbers"] (sp_stinit K c CP CS)) (M_go : MtC P w K mg base CX0 14 CS "go" ["self"] (sp_go K c CS)) (C_outcome : MkC P w K mg base CX0 2 CO "Outcome" ["self", "marks", "rods", "stopped", "layings"] (sp_outinit K CO)) : FnOk P w K mg base (L2.CX P w) 15 f fd ["program", "first", "second"] (sp_run K c CP CO) := by
  obtain ⟨tM, hMARK⟩ := Sm.mark.ex
  refine F.okX SC_run (fun vs H Q E h => ?_) (fun cdv A outer s H vs Q E hr h => ?_)
  · obtain ⟨p, x, y, ns, rs, n, j, s, rfl, _⟩ := h
    rfl
  · obtain ⟨p, x, y, ns, rs, n, j, s, rfl, hp, nok, sn, psok, x1, y1, G, le, k⟩ := h
    refine ⟨_, (pss_cons (ps_expr (pe_callSC C_ndlen (hr.mono (by omega)) (takes_of rfl rfl rfl rfl) rfl (pa_cons (pv 1) (pa_cons (pv 2) pa_nil))))
      (pss_cons (ps_set (i := 3) SC_run.nd rfl (.inl rfl) (pe_makeC C_stepper (hr.mono (by omega)) rfl (pa_cons (pv 0) (pa_cons pe_int (pa_cons (pe_op op_rep (pe_lstN (pa_cons pe_int pa_nil)) (pe_callB call_len_seq (by rfl) T.b_len (by decide +kernel) (pa_cons (pe_fld (pv 0) rfl) pa_nil))) (pa_cons (pe_tupN (pa_cons (pv 1) (pa_cons pe_int (pa_cons (pv 2) (pa_cons pe_int pa_nil))))) pa_nil))))))
      (pss_cons (ps_expr (pe_mth0 M_go St.ins.cl (hr.mono (by omega)) (pv 3)))
      (pss_cons (ps_set (i := 4) SC_run.nd rfl (.inl rfl) (pe_callTy call_tuple_of (by rfl) T.b_tuple (by decide +kernel) (pa_cons (pe_lc (own := [("kind", 5), ("word", 6)])  (by rfl) SC_run.nd (pi_list (pe_fld (pv 3) rfl)) (blkOk_by (own := [("kind", 5), ("word", 6)]) (N := N_run) (sc := defScope S_run) (by decide +kernel)) (fun _ _ _ _ _ => (pg_tupK (K := K) (n := 2) rfl rfl (pgs_cons (pg_name (i := 5) SC_run.nd rfl (.inl rfl)) (pgs_cons (pg_name (i := 6) SC_run.nd rfl (.inl rfl)) pgs_nil)))) (fun _ _ _ _ _ => pts_one (pt_cmpR op_eq (pv 5) (pe_glob (v := .str "mark") (by rfl) hMARK ⟨_, rfl⟩) (nomark _))) (fun _ _ _ _ _ => (pv 6))) pa_nil)))
      (pss_one (ps_ret (pe_makeC C_outcome (hr.mono (by omega)) rfl (pa_cons (pv 4) (pa_cons (pe_tupN (pa_cons (pe_ix ix_tup (pe_fld (pv 3) rfl) pe_int (fun _ _ => rfl)) (pa_cons (pe_ix ix_tup (pe_fld (pv 3) rfl) pe_int (fun _ _ => rfl)) pa_nil))) (pa_cons (pe_fld (pv 3) rfl) (pa_cons (pe_fld (pv 3) rfl) pa_nil))))))))))), ?_⟩
    refine ⟨_, rfl, _, rfl, x, y, rfl, x1, y1, fun H1 s1 => ?_⟩
    have hp1 := hp.tk (TK.same s1)
    obtain ⟨dp, nA, bA, uA, sA, fs, nvs, rvs, uvs, svs, h1, h2, h3, h4, h5, _⟩ := id hp1
    refine ⟨_, rfl, by show 1 ≤ 1000000; decide, fun l0 H2 n2 s2 hl0 => ?_⟩
    refine ⟨_, rfl, p, CP, dp, fs, _, rfl, s2 _ _ h1, Pt.ins.cl, Pt.no "notes" (by simp), h3, nA, nvs, rfl, .inr (sqT_tk (TK.same s2) h4), ?_⟩
    have sl := h5.len
    have le1 : ((nvs.length : Nat) : Int) ≤ 1000 := by omega
    refine ⟨l0, _, _, rfl, rfl, hl0, Int.le_trans (by decide) (Int.natCast_nonneg _), Int.lt_of_le_of_lt le1 (by decide), ?_, fun l1 n3 => ?_⟩
    · show 1 * ((nvs.length : Nat) : Int).toNat ≤ sizeLine
      rw [Int.toNat_natCast]
      exact szl (by omega)
    have s3 := sm_new (o := .lst (List.replicate ((nvs.length : Nat) : Int).toNat [V.int 0]).flatten) n3
    have hl1 : (upd H2 l1 (.lst (List.replicate ((nvs.length : Nat) : Int).toNat [V.int 0]).flatten)) l1 = some (.lst ((List.replicate ns.length (0 : Int)).map V.int)) := by
      rw [upd_same, Int.toNat_natCast, rep1, sl, List.map_replicate]
    generalize upd H2 l1 (.lst (List.replicate ((nvs.length : Nat) : Int).toNat [V.int 0]).flatten) = H3 at s3 hl1 ⊢
    refine ⟨_, rfl, _, rfl, by show 4 ≤ 1000000; decide, fun tu H4 n4 s4 h4t => ?_⟩
    have s14 := s2.trans (s3.trans s4)
    refine fun xs dx nx nd ne => ?_
    have smk := mk_at (C := CS) nx nd
    refine ⟨H4, xs, dx, p, l1, tu, 0, List.replicate ns.length 0, ⟨x, 0, y, 0⟩, ns, rs, rfl, upd_same, nx, smk, hp1.tk (TK.same s14), .inl (SqL.of (s4 _ _ hl1)), by rw [List.length_replicate]; exact sn, SqT.of h4t, fun nA2 sA2 H5 pg st kp => ⟨rfl, ?_⟩⟩
    obtain ⟨dx5, r5, u5, e5, evs5, W5⟩ := id st
    refine ⟨_, rfl, xs, dx5, _, rfl, W5.hx, by kernel_rfl, H4, xs, nA2, sA2, n, 0, j, st0 ns.length x y, s, ns, stepsL rs 0 0, rfl, ⟨pg, st, nok, by show (List.replicate ns.length (0 : Int)).length = ns.length; rw [List.length_replicate], sn⟩, psok, G, fun H6 R6 => ?_⟩
    obtain ⟨dx6, r6, u6, e6, evs6, W6⟩ := R6.st
    have l6 := W6.ev.len
    refine ⟨_, rfl, xs, CS, dx6, _, _, rfl, W6.hx, St.ins.cl, St.no "events" (by simp), lk_events .., e6, rfl, ⟨_, SqL.of W6.he⟩, fun D hD => ?_⟩
    refine lc_list (xs := evs6) (fun i H' => Hd H6 H' [(D, .lst ((marksOf (s.ev.take i)).map V.str))]) ((Hd.start H6).new hD _) (fun i H' _ m => SqL.of (m.sm _ _ W6.he)) (fun i v H' hi m => ?_) (fun H7 m => ?_)
    · obtain ⟨y, hy, hv⟩ := W6.ev.at hi
      have hv' := hv.same m.sm
      have em : marksOf (s.ev.take (i + 1)) = marksOf (s.ev.take i) ++ marksOf [y] := by rw [List.take_succ, hy, marksOf_app]; rfl
      have lm := marksOf_le (s.ev.take i)
      rw [List.length_take] at lm
      cases y with
      | mark z =>
        obtain ⟨t, rfl, ht⟩ := hv'
        refine ⟨t, _, rfl, SqT.of ht, rfl, _, _, rfl, _, _, rfl, rfl, rfl, _, rfl, rfl, _, rfl, ?_⟩
        refine ifT (B := Hd H6 H' [(D, .lst ((marksOf (s.ev.take (i + 1))).map V.str))]) (decide_eq_true rfl) ⟨_, rfl, _, m.get (.head _), szs (by rw [List.length_map]; omega), ?_⟩
        rw [em, List.map_append]
        exact m.set 0 rfl _
      | row k0 =>
        obtain ⟨t, rfl, ht⟩ := hv'
        refine ⟨t, _, rfl, SqT.of ht, rfl, _, _, rfl, _, _, rfl, rfl, rfl, _, rfl, rfl, _, rfl, ?_⟩
        refine ifF (by decide +kernel) ?_
        rw [em]
        simp only [marksOf, List.append_nil]
        exact m
      | let_ z =>
        obtain ⟨t, rfl, ht⟩ := hv'
        refine ⟨t, _, rfl, SqT.of ht, rfl, _, _, rfl, _, _, rfl, rfl, rfl, _, rfl, rfl, _, rfl, ?_⟩
        refine ifF (by decide +kernel) ?_
        rw [em]
        simp only [marksOf, List.append_nil]
        exact m
    · have hD7 : H7 D = some (.lst ((marksOf s.ev).map V.str)) := by
        have := m.get (.head _)
        rwa [l6, List.take_length] at this
      refine ⟨D, _, rfl, .inl ⟨SqL.of hD7, fun mt nmt => ?_⟩⟩
      have s8 := sm_new (o := .tup ((marksOf s.ev).map V.str)) nmt
      have hmt : (upd H7 mt (.tup ((marksOf s.ev).map V.str))) mt = some (.tup ((marksOf s.ev).map V.str)) := upd_same
      have s68 := m.sm.trans s8
      generalize upd H7 mt (.tup ((marksOf s.ev).map V.str)) = H8 at s8 hmt s68 ⊢
      have W8 := W6.same s68
      refine ⟨_, rfl, _, rfl, xs, CS, dx6, _, _, rfl, W8.hx, St.ins.cl, St.no "numbers" (by simp), lk_numbers .., u6, _, 0, _, rfl, rfl, W8.hu, rfl, _, rfl, xs, CS, dx6, _, _, rfl, W8.hx, St.ins.cl, St.no "numbers" (by simp), lk_numbers .., u6, _, 2, _, rfl, rfl, W8.hu, rfl, by show 2 ≤ 1000000; decide, fun rt H9 n9 s9 h9 => ?_⟩
      have W9 := W8.same s9
      refine ⟨_, rfl, xs, CS, dx6, _, _, rfl, W9.hx, St.ins.cl, St.no "stopped" (by simp), lk_stopped .., _, rfl, xs, CS, dx6, _, _, rfl, W9.hx, St.ins.cl, St.no "layings" (by simp), lk_layings .., fun xo do_ nxo ndo neo => ?_⟩
      have sk := mk_at (C := CO) nxo ndo
      have iat : (upd (upd H9 do_ (.own xo)) xo (.ins CO do_ [])) xo = some (.ins CO do_ []) := upd_same
      refine ⟨xo, do_, mt, rt, marksOf s.ev, _, _, s.stop, s.lay, rfl, iat, SqT.of (sk _ _ (s9 _ _ hmt)), sk _ _ h9, fun H' kp2 hO => ⟨rfl, k xo H' ?_ hO⟩⟩
      have s14 : Same H1 H4 := s14
      exact s1.trans (s14.trans (W6.sm.trans (s68.trans (s9.trans (mk_sm nxo ndo kp2)))))
end

/-! ## runs of blocks (plain) -/
namespace Pg
/-- a part of the steps -/
def At (ps : List PSt) (i : Nat) (l : List PSt) : Prop := ∃ a b, ps = a ++ (l ++ b) ∧ a.length = i
theorem At.hd {ps l : List PSt} {i : Nat} {p : PSt} : At ps i (p :: l) → ps[i]? = some p := by
  rintro ⟨a, b, rfl, rfl⟩
  simp
theorem At.tl {ps l : List PSt} {i : Nat} {p : PSt} : At ps i (p :: l) → At ps (i + 1) l := by
  rintro ⟨a, b, rfl, rfl⟩
  exact ⟨a ++ [p], b, by simp, by simp⟩
theorem At.lf {ps l m : List PSt} {i : Nat} : At ps i (l ++ m) → At ps i l := by
  rintro ⟨a, b, rfl, rfl⟩
  exact ⟨a, m ++ b, by simp, rfl⟩
theorem At.rt {ps l m : List PSt} {i : Nat} : At ps i (l ++ m) → At ps (i + l.length) m := by
  rintro ⟨a, b, rfl, rfl⟩
  exact ⟨a ++ l, b, by simp, by simp⟩
theorem At.all (ps : List PSt) : At ps 0 ps := ⟨[], [], by simp, rfl⟩
structure Rs.Gd (ns : List (Str × Int)) (s : Rs) : Prop where
  ok : s.Ok ns
  od : ordM s.num ≠ none
theorem Rs.Gd.nw {ns : List (Str × Int)} {s : Rs} (g : s.Gd ns) (ps : List PSt) (i : Nat) : waitsAt ps i s.num = false := by
  unfold waitsAt
  rw [if_neg g.od]
/-- rows, run from a state to another one -/
inductive Big (ns : List (Str × Int)) : List Rw1 → Nat → Rs → Rs → Prop
  | nil {n : Nat} {s : Rs} : Big ns [] n s s
  | one {r : Rw1} {rs : List Rw1} {n : Nat} {s s' : Rs} (hp : r.plain = true) (hs : isStop r = false) (g : s.Gd ns) (b : Big ns rs (n + 1) (doR ns (rowEv s n) r) s') : Big ns (r :: rs) n s s'
  | stop {rs : List Rw1} {n : Nat} {s : Rs} (g : s.Gd ns) : Big ns (.stop :: rs) n s (doR ns (rowEv s n) .stop)
  | yesS {t : Tst} {r o rs : List Rw1} {n : Nat} {s s' : Rs} (g : s.Gd ns) (h : holdsT ns (rowEv s n) t = true) (b : Big ns r (n + 1) (rowEv s n) s') (hs : s'.stop = true) : Big ns (.ifb t r o :: rs) n s s'
  | yes {t : Tst} {r o rs : List Rw1} {n : Nat} {s s1 s' : Rs} (g : s.Gd ns) (h : holdsT ns (rowEv s n) t = true) (b : Big ns r (n + 1) (rowEv s n) s1) (hs : s1.stop = false) (g1 : s1.Gd ns) (c : Big ns rs (n + (Rw1.ifb t r o).inner.length) s1 s') : Big ns (.ifb t r o :: rs) n s s'
  | noS {t : Tst} {r o rs : List Rw1} {n : Nat} {s s' : Rs} (g : s.Gd ns) (h : holdsT ns (rowEv s n) t = false) (b : Big ns o (n + 1 + (innerL r).length) (rowEv s n) s') (hs : s'.stop = true) : Big ns (.ifb t r o :: rs) n s s'
  | no {t : Tst} {r o rs : List Rw1} {n : Nat} {s s1 s' : Rs} (g : s.Gd ns) (h : holdsT ns (rowEv s n) t = false) (b : Big ns o (n + 1 + (innerL r).length) (rowEv s n) s1) (hs : s1.stop = false) (c : Big ns rs (n + (Rw1.ifb t r o).inner.length) s1 s') : Big ns (.ifb t r o :: rs) n s s'
  | done {x : Str} {r rs : List Rw1} {n : Nat} {s s' : Rs} (g : s.Gd ns) (h : loops (rowEv s n) x = true) (c : Big ns rs (n + (Rw1.untl x r).inner.length) (rowEv s n) s') : Big ns (.untl x r :: rs) n s s'
  | onS {x : Str} {r rs : List Rw1} {n : Nat} {s s' : Rs} (g : s.Gd ns) (h : loops (rowEv s n) x = false) (b : Big ns r (n + 1) (rowEv s n) s') (hs : s'.stop = true) : Big ns (.untl x r :: rs) n s s'
  | on {x : Str} {r rs : List Rw1} {n : Nat} {s s1 s' : Rs} (g : s.Gd ns) (h : loops (rowEv s n) x = false) (b : Big ns r (n + 1) (rowEv s n) s1) (hs : s1.stop = false) (g1 : s1.Gd ns) (c : Big ns (.untl x r :: rs) n s1 s') : Big ns (.untl x r :: rs) n s s'
theorem plain_in1 {r : Rw1} (h : r.plain = true) : r.inner.length = 1 := by
  cases r <;> first | rfl | cases h
theorem doR_stop {ns : List (Str × Int)} {s : Rs} {r : Rw1} (h : isStop r = false) : (doR ns s r).stop = s.stop := by
  have hl : (layS s).stop = s.stop := by
    unfold layS
    split <;> rfl
  cases r <;> first | exact hl | rfl | cases h
theorem Big.goes {ns : List (Str × Int)} {rs : List Rw1} {n : Nat} {s s' : Rs} (B : Big ns rs n s s') : s.stop = false → ∀ {ps : List PSt} {i : Nat}, At ps i (stepsL rs n i) → ∃ m, ∀ {m' k : Nat} {t : Rs}, Goes ns ps m' (if s'.stop = true then ps.length else i + (stepsL rs n i).length) s' k t → Goes ns ps (m + m') i s k t := by
  induction B with
  | nil =>
    intro hs ps i ha
    refine ⟨0, fun {m' k t} g => ?_⟩
    rw [if_neg (by rw [hs]; decide)] at g
    rw [Nat.zero_add]
    exact g
  | @one r rs n s s' hp hs g b ih =>
    intro h0 ps i ha
    have e : stepsL (r :: rs) n i = ⟨0, n, r, 0⟩ :: stepsL rs (n + 1) (i + 1) := by
      show stepsR r n i ++ stepsL rs (n + r.inner.length) (i + (stepsR r n i).length) = _
      rw [stepsR_flat hp, plain_in1 hp]; rfl
    rw [e] at ha ⊢
    obtain ⟨m, hm⟩ := ih ((doR_stop hs).trans h0) ha.tl
    refine ⟨m + 1, fun {m' k t} G => ?_⟩
    have G2 := hm (m' := m') (k := k) (t := t) (by
      rw [List.length_cons] at G
      rw [show i + 1 + (stepsL rs (n + 1) (i + 1)).length = i + ((stepsL rs (n + 1) (i + 1)).length + 1) by omega]
      exact G)
    rw [show m + 1 + m' = m + m' + 1 by omega]
    refine .step ha.hd (g.nw _ _) g.ok ?_
    show Goes ns ps (m + m') (if isStop r = true then ps.length else i + 1) (doR ns (rowEv s n) r) k t
    rw [if_neg (by rw [hs]; decide)]
    exact G2
  | @stop rs n s g =>
    intro h0 ps i ha
    refine ⟨1, fun {m' k t} G => ?_⟩
    rw [Nat.add_comm]
    exact .step (At.hd (p := ⟨0, n, .stop, 0⟩) ha) (g.nw _ _) g.ok G
  | @yesS t r o rs n s s' g h b hs ih =>
    intro h0 ps i ha
    have ha : At ps i (⟨1, n, .ifb t r o, i + 2 + (stepsL r (n + 1) (i + 1)).length⟩ :: (stepsL r (n + 1) (i + 1) ++ _) ++ _) := ha
    obtain ⟨m, hm⟩ := ih h0 ha.lf.tl.lf
    refine ⟨m + 1, fun {m' k t'} G => ?_⟩
    rw [if_pos hs] at G
    have G2 := hm (m' := m') (k := k) (t := t') (by rw [if_pos hs]; exact G)
    rw [show m + 1 + m' = m + m' + 1 by omega]
    refine .step ha.lf.hd (g.nw _ _) g.ok ?_
    show Goes ns ps (m + m') (if holdsT ns (rowEv s n) t = true then i + 1 else _) (rowEv s n) k t'
    rw [if_pos h]
    exact G2
  | @yes t r o rs n s s1 s' g h b hs g1 c ih ih2 =>
    intro h0 ps i ha
    have hl : (stepsL (.ifb t r o :: rs) n i).length = (stepsR (.ifb t r o) n i).length + (stepsL rs (n + (Rw1.ifb t r o).inner.length) (i + (stepsR (.ifb t r o) n i).length)).length := List.length_append
    have ha' : At ps i (stepsR (.ifb t r o) n i ++ stepsL rs (n + (Rw1.ifb t r o).inner.length) (i + (stepsR (.ifb t r o) n i).length)) := ha
    have hb := ha'.lf
    have er : (stepsR (.ifb t r o) n i).length = 2 + (stepsL r (n + 1) (i + 1)).length + (stepsL o (n + 1 + (innerL r).length) (i + 2 + (stepsL r (n + 1) (i + 1)).length)).length := by
      show (_ :: (stepsL r (n + 1) (i + 1) ++ (_ :: stepsL o (n + 1 + (innerL r).length) (i + 2 + (stepsL r (n + 1) (i + 1)).length)))).length = _
      rw [List.length_cons, List.length_append, List.length_cons]
      omega
    have hb : At ps i (⟨1, n, .ifb t r o, i + 2 + (stepsL r (n + 1) (i + 1)).length⟩ :: (stepsL r (n + 1) (i + 1) ++ (⟨3, n, .ifb t r o, i + 2 + (stepsL r (n + 1) (i + 1)).length + (stepsL o (n + 1 + (innerL r).length) (i + 2 + (stepsL r (n + 1) (i + 1)).length)).length⟩ :: stepsL o (n + 1 + (innerL r).length) (i + 2 + (stepsL r (n + 1) (i + 1)).length)))) := hb
    obtain ⟨m, hm⟩ := ih h0 hb.tl.lf
    obtain ⟨m2, hm2⟩ := ih2 hs ha'.rt
    refine ⟨m + 2 + m2, fun {m' k t'} G => ?_⟩
    have G2 := hm2 (m' := m') (k := k) (t := t') (by rw [hl, ← Nat.add_assoc] at G; exact G)
    have G3 : Goes ns ps (m2 + m' + 1) (i + 1 + (stepsL r (n + 1) (i + 1)).length) s1 k t' := by
      refine .step hb.tl.rt.hd (g1.nw _ _) g1.ok ?_
      show Goes ns ps (m2 + m') (i + 2 + (stepsL r (n + 1) (i + 1)).length + _) s1 k t'
      rw [er] at G2
      rw [show i + 2 + (stepsL r (n + 1) (i + 1)).length + (stepsL o (n + 1 + (innerL r).length) (i + 2 + (stepsL r (n + 1) (i + 1)).length)).length = i + (2 + (stepsL r (n + 1) (i + 1)).length + (stepsL o (n + 1 + (innerL r).length) (i + 2 + (stepsL r (n + 1) (i + 1)).length)).length) by omega]
      exact G2
    have G4 := hm (m' := m2 + m' + 1) (k := k) (t := t') (by rw [if_neg (by rw [hs]; decide)]; exact G3)
    rw [show m + 2 + m2 + m' = m + (m2 + m' + 1) + 1 by omega]
    refine .step hb.hd (g.nw _ _) g.ok ?_
    show Goes ns ps _ (if holdsT ns (rowEv s n) t = true then i + 1 else _) (rowEv s n) k t'
    rw [if_pos h]
    exact G4
  | @noS t r o rs n s s' g h b hs ih =>
    intro h0 ps i ha
    have ha : At ps i (⟨1, n, .ifb t r o, i + 2 + (stepsL r (n + 1) (i + 1)).length⟩ :: (stepsL r (n + 1) (i + 1) ++ (_ :: stepsL o (n + 1 + (innerL r).length) (i + 2 + (stepsL r (n + 1) (i + 1)).length))) ++ _) := ha
    have hb := ha.lf.tl.rt.tl
    rw [show i + 1 + (stepsL r (n + 1) (i + 1)).length + 1 = i + 2 + (stepsL r (n + 1) (i + 1)).length by omega] at hb
    obtain ⟨m, hm⟩ := ih h0 hb
    refine ⟨m + 1, fun {m' k t'} G => ?_⟩
    rw [if_pos hs] at G
    have G2 := hm (m' := m') (k := k) (t := t') (by rw [if_pos hs]; exact G)
    rw [show m + 1 + m' = m + m' + 1 by omega]
    refine .step ha.lf.hd (g.nw _ _) g.ok ?_
    show Goes ns ps (m + m') (if holdsT ns (rowEv s n) t = true then i + 1 else _) (rowEv s n) k t'
    rw [if_neg (by rw [h]; decide)]
    exact G2
  | @no t r o rs n s s1 s' g h b hs c ih ih2 =>
    intro h0 ps i ha
    have hl : (stepsL (.ifb t r o :: rs) n i).length = (stepsR (.ifb t r o) n i).length + (stepsL rs (n + (Rw1.ifb t r o).inner.length) (i + (stepsR (.ifb t r o) n i).length)).length := List.length_append
    have ha' : At ps i (stepsR (.ifb t r o) n i ++ stepsL rs (n + (Rw1.ifb t r o).inner.length) (i + (stepsR (.ifb t r o) n i).length)) := ha
    have hb := ha'.lf
    have er : (stepsR (.ifb t r o) n i).length = 2 + (stepsL r (n + 1) (i + 1)).length + (stepsL o (n + 1 + (innerL r).length) (i + 2 + (stepsL r (n + 1) (i + 1)).length)).length := by
      show (_ :: (stepsL r (n + 1) (i + 1) ++ (_ :: stepsL o (n + 1 + (innerL r).length) (i + 2 + (stepsL r (n + 1) (i + 1)).length)))).length = _
      rw [List.length_cons, List.length_append, List.length_cons]
      omega
    have hb : At ps i (⟨1, n, .ifb t r o, i + 2 + (stepsL r (n + 1) (i + 1)).length⟩ :: (stepsL r (n + 1) (i + 1) ++ (⟨3, n, .ifb t r o, i + 2 + (stepsL r (n + 1) (i + 1)).length + (stepsL o (n + 1 + (innerL r).length) (i + 2 + (stepsL r (n + 1) (i + 1)).length)).length⟩ :: stepsL o (n + 1 + (innerL r).length) (i + 2 + (stepsL r (n + 1) (i + 1)).length)))) := hb
    have hb2 := hb.tl.rt.tl
    rw [show i + 1 + (stepsL r (n + 1) (i + 1)).length + 1 = i + 2 + (stepsL r (n + 1) (i + 1)).length by omega] at hb2
    obtain ⟨m, hm⟩ := ih h0 hb2
    obtain ⟨m2, hm2⟩ := ih2 hs ha'.rt
    refine ⟨m + 1 + m2, fun {m' k t'} G => ?_⟩
    have G2 := hm2 (m' := m') (k := k) (t := t') (by rw [hl, ← Nat.add_assoc] at G; exact G)
    have G4 := hm (m' := m2 + m') (k := k) (t := t') (by
      rw [if_neg (by rw [hs]; decide)]
      rw [er] at G2
      rw [show i + 2 + (stepsL r (n + 1) (i + 1)).length + (stepsL o (n + 1 + (innerL r).length) (i + 2 + (stepsL r (n + 1) (i + 1)).length)).length = i + (2 + (stepsL r (n + 1) (i + 1)).length + (stepsL o (n + 1 + (innerL r).length) (i + 2 + (stepsL r (n + 1) (i + 1)).length)).length) by omega]
      exact G2)
    rw [show m + 1 + m2 + m' = m + (m2 + m') + 1 by omega]
    refine .step hb.hd (g.nw _ _) g.ok ?_
    show Goes ns ps _ (if holdsT ns (rowEv s n) t = true then i + 1 else _) (rowEv s n) k t'
    rw [if_neg (by rw [h]; decide)]
    exact G4
  | @done x r rs n s s' g h c ih =>
    intro h0 ps i ha
    have hl : (stepsL (.untl x r :: rs) n i).length = (stepsR (.untl x r) n i).length + (stepsL rs (n + (Rw1.untl x r).inner.length) (i + (stepsR (.untl x r) n i).length)).length := List.length_append
    have ha' : At ps i (stepsR (.untl x r) n i ++ stepsL rs (n + (Rw1.untl x r).inner.length) (i + (stepsR (.untl x r) n i).length)) := ha
    have er : (stepsR (.untl x r) n i).length = 2 + (stepsL r (n + 1) (i + 1)).length := by
      show (_ :: (stepsL r (n + 1) (i + 1) ++ [_])).length = _
      rw [List.length_cons, List.length_append, List.length_singleton]
      omega
    have hb : At ps i (⟨2, n, .untl x r, i + 2 + (stepsL r (n + 1) (i + 1)).length⟩ :: (stepsL r (n + 1) (i + 1) ++ [⟨3, n, .untl x r, i⟩])) := ha'.lf
    obtain ⟨m2, hm2⟩ := ih h0 ha'.rt
    refine ⟨m2 + 1, fun {m' k t'} G => ?_⟩
    have G2 := hm2 (m' := m') (k := k) (t := t') (by rw [hl, ← Nat.add_assoc] at G; exact G)
    rw [show m2 + 1 + m' = m2 + m' + 1 by omega]
    refine .step hb.hd (g.nw _ _) g.ok ?_
    show Goes ns ps _ (if loops (rowEv s n) x = true then i + 2 + (stepsL r (n + 1) (i + 1)).length else i + 1) (rowEv s n) k t'
    rw [if_pos h]
    rw [er] at G2
    rw [show i + 2 + (stepsL r (n + 1) (i + 1)).length = i + (2 + (stepsL r (n + 1) (i + 1)).length) by omega]
    exact G2
  | @onS x r rs n s s' g h b hs ih =>
    intro h0 ps i ha
    have ha : At ps i (⟨2, n, .untl x r, i + 2 + (stepsL r (n + 1) (i + 1)).length⟩ :: (stepsL r (n + 1) (i + 1) ++ [⟨3, n, .untl x r, i⟩]) ++ _) := ha
    obtain ⟨m, hm⟩ := ih h0 ha.lf.tl.lf
    refine ⟨m + 1, fun {m' k t'} G => ?_⟩
    rw [if_pos hs] at G
    have G2 := hm (m' := m') (k := k) (t := t') (by rw [if_pos hs]; exact G)
    rw [show m + 1 + m' = m + m' + 1 by omega]
    refine .step ha.lf.hd (g.nw _ _) g.ok ?_
    show Goes ns ps (m + m') (if loops (rowEv s n) x = true then _ else i + 1) (rowEv s n) k t'
    rw [if_neg (by rw [h]; decide)]
    exact G2
  | @on x r rs n s s1 s' g h b hs g1 c ih ih2 =>
    intro h0 ps i ha
    have hb : At ps i (⟨2, n, .untl x r, i + 2 + (stepsL r (n + 1) (i + 1)).length⟩ :: (stepsL r (n + 1) (i + 1) ++ [⟨3, n, .untl x r, i⟩]) ++ stepsL rs (n + (Rw1.untl x r).inner.length) (i + (stepsR (.untl x r) n i).length)) := ha
    obtain ⟨m, hm⟩ := ih h0 hb.lf.tl.lf
    obtain ⟨m2, hm2⟩ := ih2 hs ha
    refine ⟨m + 2 + m2, fun {m' k t'} G => ?_⟩
    have G2 := hm2 (m' := m') (k := k) (t := t') G
    have G3 : Goes ns ps (m2 + m' + 1) (i + 1 + (stepsL r (n + 1) (i + 1)).length) s1 k t' := .step hb.lf.tl.rt.hd (g1.nw _ _) g1.ok G2
    have G4 := hm (m' := m2 + m' + 1) (k := k) (t := t') (by rw [if_neg (by rw [hs]; decide)]; exact G3)
    rw [show m + 2 + m2 + m' = m + (m2 + m' + 1) + 1 by omega]
    refine .step hb.lf.hd (g.nw _ _) g.ok ?_
    show Goes ns ps _ (if loops (rowEv s n) x = true then _ else i + 1) (rowEv s n) k t'
    rw [if_neg (by rw [h]; decide)]
    exact G4
/-- a whole program -/
theorem Big.run {ns : List (Str × Int)} {rs : List Rw1} {x y : Int} {s : Rs} (B : Big ns rs 0 (st0 ns.length x y) s) : ∃ m, Goes ns (stepsL rs 0 0) m 0 (st0 ns.length x y) (stepsL rs 0 0).length s := by
  obtain ⟨m, hm⟩ := B.goes rfl (At.all _)
  refine ⟨m + 0, hm ?_⟩
  rw [Nat.zero_add, ite_self]
  exact .fin (Nat.le_refl _) (.inl rfl)
end Pg
open Pg

/-! ## programs that may be run; runs of whole numbers (plain) -/
namespace Pg
mutual
def GoodR (ns : List (Str × Int)) : Rw1 → Prop
  | .put z _ => z ∈ ns.map (·.1)
  | .add z _ => z ∈ ns.map (·.1)
  | .make m => m.In 40
  | .ifb t r o => (t.deep ≤ 8 ∧ ∀ z ∈ t.uses, z ∈ ns.map (·.1)) ∧ GoodL ns r ∧ GoodL ns o
  | .untl g r => (g = "alike" ∨ g = "longer" ∨ g = "shorter") ∧ GoodL ns r
  | _ => True
def GoodL (ns : List (Str × Int)) : List Rw1 → Prop
  | [] => True
  | r :: rs => GoodR ns r ∧ GoodL ns rs
end
section
variable {ns : List (Str × Int)}
mutual
theorem psokR : ∀ {r : Rw1} {n i : Nat}, GoodR ns r → ∀ p ∈ stepsR r n i, PsOk ns p
  | .ifb t r o, n, i, ⟨⟨h1, h2⟩, hr, ho⟩, p, hp => by
    have hp : p ∈ ⟨1, n, .ifb t r o, i + 2 + (stepsL r (n + 1) (i + 1)).length⟩ :: (stepsL r (n + 1) (i + 1) ++ (⟨3, n, .ifb t r o, i + 2 + (stepsL r (n + 1) (i + 1)).length + (stepsL o (n + 1 + (innerL r).length) (i + 2 + (stepsL r (n + 1) (i + 1)).length)).length⟩ :: stepsL o (n + 1 + (innerL r).length) (i + 2 + (stepsL r (n + 1) (i + 1)).length))) := hp
    rcases List.mem_cons.mp hp with rfl | hp
    · exact ⟨t, r, o, rfl, h1, h2⟩
    · rcases List.mem_append.mp hp with hp | hp
      · exact psokL hr p hp
      · rcases List.mem_cons.mp hp with rfl | hp
        · exact trivial
        · exact psokL ho p hp
  | .untl g r, n, i, ⟨hg, hr⟩, p, hp => by
    have hp : p ∈ ⟨2, n, .untl g r, i + 2 + (stepsL r (n + 1) (i + 1)).length⟩ :: (stepsL r (n + 1) (i + 1) ++ [⟨3, n, .untl g r, i⟩]) := hp
    rcases List.mem_cons.mp hp with rfl | hp
    · exact ⟨g, r, rfl, hg⟩
    · rcases List.mem_append.mp hp with hp | hp
      · exact psokL hr p hp
      · rcases List.mem_singleton.mp hp with rfl
        exact trivial
  | .make m, _, _, h, p, hp => by cases List.mem_singleton.mp hp; exact ⟨rfl, h⟩
  | .exch, _, _, h, p, hp => by cases List.mem_singleton.mp hp; exact ⟨rfl, trivial⟩
  | .lay, _, _, h, p, hp => by cases List.mem_singleton.mp hp; exact ⟨rfl, trivial⟩
  | .put _ _, _, _, h, p, hp => by cases List.mem_singleton.mp hp; exact ⟨rfl, h⟩
  | .add _ _, _, _, h, p, hp => by cases List.mem_singleton.mp hp; exact ⟨rfl, h⟩
  | .tell _, _, _, h, p, hp => by cases List.mem_singleton.mp hp; exact ⟨rfl, trivial⟩
  | .stop, _, _, h, p, hp => by cases List.mem_singleton.mp hp; exact ⟨rfl, trivial⟩
theorem psokL : ∀ {rs : List Rw1} {n i : Nat}, GoodL ns rs → ∀ p ∈ stepsL rs n i, PsOk ns p
  | [], _, _, _, _, hp => absurd hp List.not_mem_nil
  | r :: rs, n, i, ⟨h1, h2⟩, p, hp => by
    have hp : p ∈ stepsR r n i ++ stepsL rs (n + r.inner.length) (i + (stepsR r n i).length) := hp
    rcases List.mem_append.mp hp with hp | hp
    · exact psokR h1 p hp
    · exact psokL h2 p hp
end
mutual
theorem good_ofR : ∀ {r : Rw1}, r.Ok → (∀ q ∈ r.inner, ∀ z ∈ q.uses, z ∈ ns.map (·.1)) → GoodR ns r
  | .ifb t r o, ⟨_, d, hr, ho⟩, hu => ⟨⟨by omega, hu _ (.head _)⟩, good_of hr fun q hq => hu q (.tail _ (List.mem_append.mpr (.inl hq))), good_of ho fun q hq => hu q (.tail _ (List.mem_append.mpr (.inr hq)))⟩
  | .untl g r, ⟨hg, _, _, hr⟩, hu => ⟨goal_of hg, good_of hr fun q hq => hu q (.tail _ hq)⟩
  | .make m, h, _ => mats_in h
  | .exch, _, _ => trivial
  | .lay, _, _ => trivial
  | .put z _, _, hu => hu _ (.head _) z (.head _)
  | .add z _, _, hu => hu _ (.head _) z (.head _)
  | .tell _, _, _ => trivial
  | .stop, _, _ => trivial
theorem good_of : ∀ {rs : List Rw1}, okL rs → UsesOk ns rs → GoodL ns rs
  | [], _, _ => trivial
  | _ :: _, ⟨h1, h2⟩, hu => ⟨good_ofR h1 fun q hq => hu q (List.mem_append.mpr (.inl hq)), good_of h2 fun q hq => hu q (List.mem_append.mpr (.inr hq))⟩
end
end
/-- two rods -/
def rd (x y : Int) : Mt := ⟨x, 0, y, 0⟩
theorem ord_rd {x y : Int} : ordM (rd x y) = if x = y then some 0 else if y < x then some 1 else some (-1) := by
  unfold ordM rd
  show (if x = y ∧ (0 : Int) = 0 then some 0 else if y ≤ x ∧ (0 : Int) ≤ 0 then some 1 else if x ≤ y ∧ (0 : Int) ≤ 0 then some (-1) else none) = _
  by_cases e : x = y
  · rw [if_pos ⟨e, rfl⟩, if_pos e]
  · rw [if_neg (fun h => e h.1), if_neg e]
    by_cases l : y < x
    · rw [if_pos ⟨by omega, by decide⟩, if_pos l]
    · rw [if_neg (fun h => by omega), if_pos ⟨by omega, by decide⟩, if_neg l]
theorem ord_ne {x y : Int} : ordM (rd x y) ≠ none := by
  rw [ord_rd]
  split
  · nofun
  · split <;> nofun
/-- rods that are laid -/
theorem lay_rd {s : Rs} {x y : Int} (h : s.num = rd x y) : layS s = { s with num := rd (if y < x then x - y else x) (if x < y then y - x else y), lay := s.lay + (if x = y then 0 else 1) } := by
  obtain ⟨r, n, e, l, b⟩ := s
  cases h
  unfold layS
  show (if ordM (rd x y) = some 0 then (⟨r, rd x y, e, l, b⟩ : Rs) else ⟨r, layM (rd x y), e, l + 1, b⟩) = _
  rw [ord_rd]
  by_cases h1 : x = y
  · subst h1
    simp only [if_true, Int.lt_irrefl, if_false, Nat.add_zero]
  · unfold layM
    rw [ord_rd]
    rw [if_neg h1, if_neg h1]
    by_cases h2 : y < x
    · rw [if_pos h2, if_neg (by decide), if_pos rfl, if_pos h2, if_neg (by omega : ¬ x < y)]
      rfl
    · rw [if_neg h2, if_neg (by decide), if_neg (by decide), if_neg h2, if_pos (by omega : x < y)]
      rfl
theorem mul_rd (m : Mt) (x y : Int) : m.mul (rd x y) = rd (m.a * x + m.b * y) (m.c * x + m.d * y) := by
  simp only [Mt.mul, rd, Int.mul_zero, Int.add_zero]
theorem in_rd {x y : Int} {n : Nat} (x0 : 0 ≤ x) (y0 : 0 ≤ y) (x1 : x < 2 ^ n) (y1 : y < 2 ^ n) : (rd x y).In n := ⟨x0, Int.le_refl _, y0, Int.le_refl _, x1, Int.pow_pos (by decide), y1, Int.pow_pos (by decide)⟩
theorem hold_longer {ns : List (Str × Int)} {s : Rs} {x y : Int} (h : s.num = rd x y) : holdsT ns s .longer = decide (x > y) := by
  show decide (ordM s.num = some 1) = _
  rw [h, ord_rd]
  by_cases h1 : x = y
  · rw [if_pos h1]
    exact (decide_eq_false (by decide)).trans (decide_eq_false (by omega)).symm
  · rw [if_neg h1]
    by_cases h2 : y < x
    · rw [if_pos h2]
      exact (decide_eq_true rfl).trans (decide_eq_true h2).symm
    · rw [if_neg h2]
      exact (decide_eq_false (by decide)).trans (decide_eq_false (by omega)).symm
theorem hold_shorter {ns : List (Str × Int)} {s : Rs} {x y : Int} (h : s.num = rd x y) : holdsT ns s .shorter = decide (x < y) := by
  show decide (ordM s.num = some (-1)) = _
  rw [h, ord_rd]
  by_cases h1 : x = y
  · rw [if_pos h1]
    exact (decide_eq_false (by decide)).trans (decide_eq_false (by omega)).symm
  · rw [if_neg h1]
    by_cases h2 : y < x
    · rw [if_pos h2]
      exact (decide_eq_false (by decide)).trans (decide_eq_false (by omega)).symm
    · rw [if_neg h2]
      exact (decide_eq_true rfl).trans (decide_eq_true (by omega)).symm
theorem hold_alike {ns : List (Str × Int)} {s : Rs} {x y : Int} (h : s.num = rd x y) : holdsT ns s .alike = decide (x = y) := by
  show decide (ordM s.num = some 0) = _
  rw [h, ord_rd]
  by_cases h1 : x = y
  · rw [if_pos h1]
    exact (decide_eq_true rfl).trans (decide_eq_true h1).symm
  · rw [if_neg h1]
    by_cases h2 : y < x
    · rw [if_pos h2]
      exact (decide_eq_false (by decide)).trans (decide_eq_false h1).symm
    · rw [if_neg h2]
      exact (decide_eq_false (by decide)).trans (decide_eq_false h1).symm
theorem loop_alike {s : Rs} {x y : Int} (h : s.num = rd x y) : loops s "alike" = decide (x = y) := by
  have e := hold_alike (ns := []) h
  have e : decide (ordM s.num = some 0) = decide (x = y) := e
  unfold loops
  rw [show goalV "alike" = 0 from rfl, Bool.or_self, e]
theorem loop_longer {s : Rs} {x y : Int} (h : s.num = rd x y) : loops s "longer" = decide (y ≤ x) := by
  have e := hold_alike (ns := []) h
  have e : decide (ordM s.num = some 0) = decide (x = y) := e
  have e2 := hold_longer (ns := []) h
  have e2 : decide (ordM s.num = some 1) = decide (x > y) := e2
  unfold loops
  rw [show goalV "longer" = 1 from rfl, e, e2]
  by_cases h1 : y ≤ x
  · rw [decide_eq_true h1]
    by_cases h2 : x = y
    · rw [decide_eq_true h2]; rfl
    · rw [decide_eq_true (show x > y by omega), Bool.or_true]
  · rw [decide_eq_false h1, decide_eq_false (show ¬ x = y by omega), decide_eq_false (show ¬ x > y by omega)]; rfl
theorem loop_shorter {s : Rs} {x y : Int} (h : s.num = rd x y) : loops s "shorter" = decide (x ≤ y) := by
  have e := hold_alike (ns := []) h
  have e : decide (ordM s.num = some 0) = decide (x = y) := e
  have e2 := hold_shorter (ns := []) h
  have e2 : decide (ordM s.num = some (-1)) = decide (x < y) := e2
  unfold loops
  rw [show goalV "shorter" = -1 from rfl, e, e2]
  by_cases h1 : x ≤ y
  · rw [decide_eq_true h1]
    by_cases h2 : x = y
    · rw [decide_eq_true h2]; rfl
    · rw [decide_eq_true (show x < y by omega), Bool.or_true]
  · rw [decide_eq_false h1, decide_eq_false (show ¬ x = y by omega), decide_eq_false (show ¬ x < y by omega)]; rfl
/-- what a run comes to -/
def Runs (ns : List (Str × Int)) (rs : List Rw1) (x y : Int) (s : Rs) : Prop := GoodL ns rs ∧ Big ns rs 0 (st0 ns.length x y) s ∧ s.ev.length ≤ 900001
def sp_runB (K : PySem.W.Frag) (c : Clz) (CP CO : Addr) : Sp := fun vs H Q _ => ∃ (p : Addr) (x y : Int) (ns : List (Str × Int)) (rs : List Rw1) (s : Rs), vs = [.ref p, .int x, .int y] ∧ ProgAt K c CP H p ns rs ∧ NotesOk ns ∧ ns.length ≤ 1000 ∧ 1 ≤ x ∧ 1 ≤ y ∧ Runs ns rs x y s ∧
  ∀ o H', Same H H' → OutAt K CO H' o (marksOf s.ev) s.num.a s.num.c s.stop s.lay → Q (.ref o) H'
theorem runB_run {K : PySem.W.Frag} {c : Clz} {CP CO : Addr} {vs : List V} {H : Hp} {Q : VK} {E : XK} (h : sp_runB K c CP CO vs H Q E) : sp_run K c CP CO vs H Q E := by
  obtain ⟨p, x, y, ns, rs, s, e, h1, h2, h3, h4, h5, ⟨g, B, l⟩, k⟩ := h
  obtain ⟨m, hm⟩ := B.run
  exact ⟨p, x, y, ns, rs, m, _, s, e, h1, h2, h3, psokL g, h4, h5, hm, l, k⟩
end Pg
open Pg
section
variable {P : Program} {w : World} {K : PySem.W.Frag} {mg : Str → Option Value} {base : Heap}
theorem ok_pgcall {f CP CO : Addr} {fd : FuncData} {c : Clz} (F : Fun K "__call__" "Program.__call__" S_Program__call_ f fd) (T : Txt K mg) (C_run : FnC P w K mg base (L2.CX P w) 15 "run" ["program", "first", "second"] (sp_run K c CP CO)) : FnOk P w K mg base (L2.CX P w) 16 f fd ["self", "first", "second"] (sp_runB K c CP CO) := by
  refine F.okX SC_Program__call_ (fun vs H Q E h => ?_) (fun cdv A outer s H vs Q E hr h => ?_)
  · obtain ⟨p, x, y, ns, rs, s, rfl, _⟩ := h
    rfl
  · have h2 := runB_run h
    obtain ⟨p, x, y, ns, rs, s, rfl, _⟩ := h
    refine ⟨_, (pss_one (ps_ret (pe_callSC C_run (hr.mono (by omega)) (takes_of rfl rfl rfl rfl) rfl (pa_cons (pv 0) (pa_cons (pv 1) (pa_cons (pv 2) pa_nil)))))), ?_⟩
    exact ⟨_, rfl, _, rfl, _, rfl, h2⟩
end

/-! ## C(..) with defaults -/
structure MkD (P : Program) (w : World) (K : PySem.W.Frag) (mg : Str → Option Value) (base : Heap) (CX : CXT) (k : Nat) (C : Addr) (x : Str) (ps : List Str) (sp : Sp) (dvs : List V) : Prop where
  ex : ∃ (f : Addr) (fd : FuncData) (ds : List Value), FnOk P w K mg base CX k f fd ps sp ∧ Mk K C f ∧ mg x = some (.ref C) ∧ Binds K fd ps ds ∧ Vals dvs ds
section
variable {X : Cx} {k : Nat} {x : Str} {C : Addr} {ps : List Str} {sp : Sp} {dvs : List V} {p pos : Pos} {e : Expr} {es : List Expr} {t : TA}
theorem pe_makeD (F : MkD X.prog X.w X.K X.mg X.base CX0 k C x ps sp dvs) (hr : Room (k + 1) X.A) (hg : Gl X x) (ha : PA X (e :: es) t) (hdb : (x == ("__debug__" : Str)) = false := by decide)
    (he : starEach (e :: es) X.env = (false, eval e X.env) :: starEach es X.env := by rfl) (hpl : (backTo pos (starEach es X.env)).any (·.1) = false := by rfl) : PE X (.Call (.Name x p) (e :: es) [] pos) (tMake C sp dvs E0 t) := by
  obtain ⟨f, fd, ds, hf, M, hm, hb, hd⟩ := F.ex
  exact pe_make M hf hr hg hm hb hd (fun _ _ _ _ _ _ _ z => (show False from z).elim) ha hdb he hpl
theorem pe_makeD0 (F : MkD X.prog X.w X.K X.mg X.base CX0 k C x ps sp dvs) (hr : Room (k + 1) X.A) (hg : Gl X x) (hdb : (x == ("__debug__" : Str)) = false := by decide) : PE X (.Call (.Name x p) [] [] pos) (tMake C sp dvs E0 tNil) := by
  obtain ⟨f, fd, ds, hf, M, hm, hb, hd⟩ := F.ex
  exact pe_make0 M hf hr hg hm hb hd (fun _ _ _ _ _ _ _ z => (show False from z).elim) hdb
end

/-! ## the law of single rows: lengths, outcomes as tuples -/
namespace Pg
/-- two lengths -/
def TwoL (x y : Int) : Prop := ∃ u a b : Int, 1 ≤ u ∧ u ≤ 10000000000000000000000000000 ∧ 1 ≤ a ∧ a ≤ 12 ∧ 1 ≤ b ∧ b ≤ 12 ∧ x = u * a ∧ y = u * b
def sp_two : Sp := fun vs H Q _ => ∃ B : Bx, vs = [.ref B.1] ∧ BoxAt H B ∧ ∀ (x y : Int) (q : Addr) (H' : Hp), TwoL x y → H' q = some (.tup [.int x, .int y]) → Keep B H H' → BoxAt H' B → Q (.ref q) H'
/-- an outcome as data -/
def outD (ms : List Str) (x y : Int) (b : Bool) (l : Nat) : PyData := .tuple [.tuple (ms.map .str), .tuple [.int x, .int y], .bool b, .int (l : Nat)]
def sp_told (K : PySem.W.Frag) (CO : Addr) : Sp := fun vs H Q _ => ∃ (o : Addr) (ms : List Str) (x y : Int) (b : Bool) (l : Nat), vs = [.ref o] ∧ OutAt K CO H o ms x y b l ∧ ∀ q H', Same H H' → Dp K H' (.ref q) (outD ms x y b l) → Q (.ref q) H'
def sp_simple : Sp := fun vs H Q _ => ∃ (B : Bx) (x y : Int), vs = [.ref B.1, .int x, .int y] ∧ BoxAt H B ∧ TwoL x y ∧ ∀ H', Keep B H H' → BoxAt H' B → Q (.bl true) H'
def sp_tests : Sp := fun vs H Q _ => ∃ (x y : Int), vs = [.int x, .int y] ∧ TwoL x y ∧ ∀ H', Same H H' → Q (.bl true) H'
theorem dp_strs {K : PySem.W.Frag} {H : Hp} : ∀ {ms : List Str}, DpAll K H (ms.map V.str) (ms.map .str)
  | [] => .nil
  | _ :: _ => .cons (.str _) dp_strs
theorem eqv_strs : ∀ {a b : List Str}, PyData.eqvAll (a.map .str) (b.map .str) = decide (a = b)
  | [], [] => rfl
  | _ :: _, [] => rfl
  | [], _ :: _ => rfl
  | x :: a, y :: b => by
    show (x == y && PyData.eqvAll (a.map .str) (b.map .str)) = _
    rw [eqv_strs]
    by_cases e : x = y
    · subst e
      rw [beq_self_eq_true, Bool.true_and]
      by_cases e2 : a = b
      · rw [decide_eq_true e2, decide_eq_true (by rw [e2])]
      · rw [decide_eq_false e2, decide_eq_false (fun h => e2 (List.cons.inj h).2)]
    · rw [beq_eq_false_iff_ne.mpr e, Bool.false_and, decide_eq_false (fun h => e (List.cons.inj h).1)]
theorem outD_refl {ms : List Str} {x y : Int} {b : Bool} {l : Nat} : PyData.eqv (outD ms x y b l) (outD ms x y b l) = true := by
  show (PyData.eqvAll (ms.map .str) (ms.map .str) && ((x == x && (y == y && true)) && (b == b && ((l : Int) == (l : Int) && true)))) = true
  rw [eqv_strs, decide_eq_true rfl]
  simp
theorem lay_strs : ∀ {ms : List Str}, (∀ z ∈ ms, PyData.strOk z = true) → PyData.canLayAll0 (ms.map .str) = true
  | [], _ => rfl
  | z :: ms, h => by
    show (PyData.strOk z && PyData.canLayAll0 (ms.map .str)) = true
    rw [h z (.head _), lay_strs fun y hy => h y (.tail _ hy)]; rfl
theorem dep_strs : ∀ {ms : List Str}, PyData.depthAll (ms.map .str) = 0
  | [] => rfl
  | z :: ms => by
    show max 0 (PyData.depthAll (ms.map .str)) = 0
    rw [dep_strs]; rfl
theorem outD_shaped {ms : List Str} {x y : Int} {b : Bool} {l : Nat} (h : ∀ z ∈ ms, PyData.strOk z = true) : SeqAt.shaped (outD ms x y b l) = true := by
  refine Bool.and_eq_true_iff.mpr ⟨?_, decide_eq_true ?_⟩
  · show (PyData.canLayAll0 (ms.map .str) && (true && true)) = true
    rw [lay_strs h]; rfl
  · show max (PyData.depthAll (ms.map .str) + 1) (max (PyData.depthAll [.int x, .int y] + 1) 0) + 1 ≤ 64
    rw [dep_strs]
    exact (by decide : max (0 + 1) (max (max 0 (max 0 0) + 1) 0) + 1 ≤ 64)
end Pg
open Pg

/-! ## what the law's programs come to (plain) -/
namespace Pg
theorem gd_rd {ns : List (Str × Int)} {s : Rs} {x y : Int} (h : s.num = rd x y) (l : s.rests.length = ns.length) (x0 : 0 ≤ x) (y0 : 0 ≤ y) (x1 : x < 2 ^ 200) (y1 : y < 2 ^ 200) (e : s.ev.length ≤ 900000) : s.Gd ns :=
  ⟨⟨l, by rw [h]; exact (in_rd x0 y0 x1 y1).mono (by decide), e⟩, by rw [h]; exact ord_ne⟩
theorem two_bd {x y : Int} (h : TwoL x y) : 1 ≤ x ∧ 1 ≤ y ∧ x < 2 ^ 100 ∧ y < 2 ^ 100 := by
  obtain ⟨u, a, b, u0, u1, a0, a1, b0, b1, rfl, rfl⟩ := h
  have h1 : 1 * 1 ≤ u * a := Int.mul_le_mul u0 a0 (by decide) (by omega)
  have h2 : 1 * 1 ≤ u * b := Int.mul_le_mul u0 b0 (by decide) (by omega)
  have h3 : u * a ≤ 10000000000000000000000000000 * 12 := Int.mul_le_mul u1 a1 (by omega) (by decide)
  have h4 : u * b ≤ 10000000000000000000000000000 * 12 := Int.mul_le_mul u1 b1 (by omega) (by decide)
  exact ⟨h1, h2, Int.lt_of_le_of_lt h3 (by decide), Int.lt_of_le_of_lt h4 (by decide)⟩
theorem lt200 {x : Int} (h : x < 2 ^ 100) : x < 2 ^ 200 := Int.lt_of_lt_of_le h (by decide)
/-- a row that makes -/
theorem runs_A {m : Mt} {x y : Int} (hm : m ∈ mats) (x0 : 1 ≤ x) (y0 : 1 ≤ y) (x1 : x < 2 ^ 100) (y1 : y < 2 ^ 100) : Runs [] [.make m, .tell "m"] x y ⟨[], m.mul (rd x y), [.row 0, .row 1, .mark "m"], 0, false⟩ := by
  have bm := mats_in hm
  have pb : ∀ {a b c d : Int}, 0 ≤ a → a < 2 ^ 40 → 0 ≤ b → b < 2 ^ 40 → 0 ≤ c → c < 2 ^ 100 → 0 ≤ d → d < 2 ^ 100 → 0 ≤ a * c + b * d ∧ a * c + b * d < 2 ^ 200 := by
    intro a b c d a0 a1 b0 b1 c0 c1 d0 d1
    have h1 := Int.mul_nonneg a0 c0
    have h2 := Int.mul_nonneg b0 d0
    have h3 : a * c ≤ 2 ^ 40 * 2 ^ 100 := Int.mul_le_mul (by omega) (by omega) c0 (by decide)
    have h4 : b * d ≤ 2 ^ 40 * 2 ^ 100 := Int.mul_le_mul (by omega) (by omega) d0 (by decide)
    refine ⟨by omega, Int.lt_of_le_of_lt (Int.add_le_add h3 h4) (by decide)⟩
  have p1 := pb bm.a0 bm.a1 bm.b0 bm.b1 (by omega : 0 ≤ x) x1 (by omega : 0 ≤ y) y1
  have p2 := pb bm.c0 bm.c1 bm.d0 bm.d1 (by omega : 0 ≤ x) x1 (by omega : 0 ≤ y) y1
  refine ⟨⟨bm, trivial, trivial⟩, ?_, by show 3 ≤ 900001; decide⟩
  refine .one rfl rfl (gd_rd (x := x) (y := y) rfl rfl (by omega) (by omega) (lt200 x1) (lt200 y1) (by show 0 ≤ 900000; decide)) ?_
  refine .one rfl rfl (gd_rd (mul_rd m x y) rfl p1.1 p2.1 p1.2 p2.2 (by show 1 ≤ 900000; decide)) ?_
  exact .nil
/-- a row that lays -/
theorem runs_B {x y : Int} (x0 : 1 ≤ x) (y0 : 1 ≤ y) (x1 : x < 2 ^ 100) (y1 : y < 2 ^ 100) : Runs [] [.lay] x y ⟨[], rd (if y < x then x - y else x) (if x < y then y - x else y), [.row 0], 0 + (if x = y then 0 else 1), false⟩ := by
  refine ⟨⟨trivial, trivial⟩, ?_, by show 1 ≤ 900001; decide⟩
  refine .one rfl rfl (gd_rd (x := x) (y := y) rfl rfl (by omega) (by omega) (lt200 x1) (lt200 y1) (by show 0 ≤ 900000; decide)) ?_
  have e : doR [] (rowEv (st0 ([] : List (Str × Int)).length x y) 0) .lay = ⟨[], rd (if y < x then x - y else x) (if x < y then y - x else y), [.row 0], 0 + (if x = y then 0 else 1), false⟩ := lay_rd (x := x) (y := y) rfl
  rw [e]
  exact .nil
/-- a stop -/
theorem runs_C {x y : Int} {rs : List Rw1} (hg : GoodL [] rs) (x0 : 1 ≤ x) (y0 : 1 ≤ y) (x1 : x < 2 ^ 100) (y1 : y < 2 ^ 100) : Runs [] (.exch :: .stop :: rs) x y ⟨[], (⟨0, 1, 1, 0⟩ : Mt).mul (rd x y), [.row 0, .row 1], 0, true⟩ := by
  refine ⟨⟨trivial, trivial, hg⟩, ?_, by show 2 ≤ 900001; decide⟩
  refine .one rfl rfl (gd_rd (x := x) (y := y) rfl rfl (by omega) (by omega) (lt200 x1) (lt200 y1) (by show 0 ≤ 900000; decide)) ?_
  refine .stop (gd_rd (mul_rd ⟨0, 1, 1, 0⟩ x y) rfl ?_ ?_ ?_ ?_ (by show 1 ≤ 900000; decide))
  · show 0 ≤ 0 * x + 1 * y; omega
  · show 0 ≤ 1 * x + 0 * y; omega
  · exact Int.lt_of_le_of_lt (show 0 * x + 1 * y ≤ y by omega) (lt200 y1)
  · exact Int.lt_of_le_of_lt (show 1 * x + 0 * y ≤ x by omega) (lt200 x1)
theorem runs_D {x y : Int} : Runs [] [] x y ⟨[], rd x y, [], 0, false⟩ := ⟨trivial, .nil, by show 0 ≤ 900001; decide⟩
/-- a test with one mark behind it -/
def evT (b : Bool) (n : Nat) (z : Str) : List Ev := if b then [.row n, .row (n + 1), .mark z] else [.row n]
theorem Big.ifTell {ns : List (Str × Int)} {t : Tst} {z : Str} {rs : List Rw1} {n : Nat} {s s' : Rs} {v : Bool} {x y : Int} (hn : s.num = rd x y) (l : s.rests.length = ns.length) (x0 : 0 ≤ x) (y0 : 0 ≤ y) (x1 : x < 2 ^ 200) (y1 : y < 2 ^ 200) (le : s.ev.length ≤ 100) (h0 : s.stop = false) (hv : holdsT ns (rowEv s n) t = v) (c : Big ns rs (n + 2) { s with ev := s.ev ++ evT v n z } s') : Big ns (.ifb t [.tell z] [] :: rs) n s s' := by
  have g : s.Gd ns := gd_rd hn l x0 y0 x1 y1 (by omega)
  have g1 : (rowEv s n).Gd ns := gd_rd hn l x0 y0 x1 y1 (by show (s.ev ++ [Ev.row n]).length ≤ 900000; rw [List.length_append, List.length_singleton]; omega)
  cases v with
  | true =>
    have e : s.ev ++ evT true n z = s.ev ++ [.row n] ++ [.row (n + 1)] ++ [.mark z] := by simp [evT]
    rw [e] at c
    refine .yes g hv (.one (r := .tell z) rfl rfl g1 .nil) h0 (gd_rd hn l x0 y0 x1 y1 ?_) c
    show (s.ev ++ [Ev.row n] ++ [Ev.row (n + 1)] ++ [Ev.mark z]).length ≤ 900000
    simp only [List.length_append, List.length_singleton]
    omega
  | false => exact .no g hv .nil h0 c
/-- tests -/
theorem runs_E {t : Tst} {v : Bool} {x y : Int} (td : t.deep ≤ 8) (tu : t.uses = []) (x0 : 1 ≤ x) (y0 : 1 ≤ y) (x1 : x < 2 ^ 100) (y1 : y < 2 ^ 100) (hv : ∀ s : Rs, s.num = rd x y → holdsT [] s t = v) : ∃ s, Runs [] [.ifb t [.tell "yes"] [.tell "no"], .ifb t [.tell "a"] []] x y s ∧ marksOf s.ev = (if v = true then (["yes", "a"] : List Str) else ["no"]) ∧ s.num = rd x y := by
  have gu : ∀ z ∈ t.uses, z ∈ (([] : List (Str × Int)).map (·.1)) := fun z hz => by rw [tu] at hz; exact hz
  have gd : ∀ {ev : List Ev}, ev.length ≤ 100 → (⟨[], rd x y, ev, 0, false⟩ : Rs).Gd [] := fun h => gd_rd rfl rfl (by omega) (by omega) (lt200 x1) (lt200 y1) (by show _ ≤ 900000; exact Nat.le_trans h (by decide))
  have fin : ∀ {ev : List Ev}, ev.length ≤ 90 → Big [] [.ifb t [.tell "a"] []] 3 ⟨[], rd x y, ev, 0, false⟩ ⟨[], rd x y, ev ++ evT v 3 "a", 0, false⟩ := fun h => .ifTell (x := x) (y := y) rfl rfl (by omega) (by omega) (lt200 x1) (lt200 y1) (Nat.le_trans h (by decide)) rfl (hv _ rfl) .nil
  cases v with
  | true =>
    refine ⟨⟨[], rd x y, [.row 0, .row 1, .mark "yes"] ++ evT true 3 "a", 0, false⟩, ⟨⟨⟨⟨td, gu⟩, ⟨trivial, trivial⟩, ⟨trivial, trivial⟩⟩, ⟨⟨⟨td, gu⟩, ⟨trivial, trivial⟩, trivial⟩, trivial⟩⟩, ?_, by show 6 ≤ 900001; decide⟩, rfl, rfl⟩
    exact .yes (gd (ev := []) (by decide)) (hv _ rfl) (.one (r := .tell "yes") rfl rfl (gd (ev := [.row 0]) (by decide)) .nil) rfl (gd (ev := [.row 0, .row 1, .mark "yes"]) (by decide)) (fin (ev := [.row 0, .row 1, .mark "yes"]) (by decide))
  | false =>
    refine ⟨⟨[], rd x y, [.row 0, .row 2, .mark "no"] ++ evT false 3 "a", 0, false⟩, ⟨⟨⟨⟨td, gu⟩, ⟨trivial, trivial⟩, ⟨trivial, trivial⟩⟩, ⟨⟨⟨td, gu⟩, ⟨trivial, trivial⟩, trivial⟩, trivial⟩⟩, ?_, by show 4 ≤ 900001; decide⟩, rfl, rfl⟩
    exact .no (gd (ev := []) (by decide)) (hv _ rfl) (.one (r := .tell "no") rfl rfl (gd (ev := [.row 0]) (by decide)) .nil) rfl (fin (ev := [.row 0, .row 2, .mark "no"]) (by decide))
end Pg
open Pg

/-! ## notes, untils (plain) -/
namespace Pg
theorem pl_n {k : Int} : plN [("n", k)] "n" = 0 := by
  unfold plN
  rw [List.findIdx_cons]
  simp
theorem md_n {k : Int} : mdN [("n", k)] "n" = k := by
  unfold mdN
  rw [pl_n]
  rfl
theorem held_n {k h : Int} {s : Rs} (e : s.rests = [h]) : heldN [("n", k)] s "n" = h := by
  unfold heldN
  rw [pl_n, e]
  rfl
def rowsF (first more asked : Int) : List Rw1 := [.ifb (.holds "n" asked) [.tell "a"] [], .add "n" more, .ifb (.holds "n" asked) [.tell "b"] [], .put "n" first, .ifb (.holds "n" asked) [.tell "c"] [], .add "n" more, .add "n" 1, .ifb (.holds "n" asked) [.tell "d"] []]
def mk1 (b : Bool) (z : Str) : List Str := if b then [z] else []
theorem marks_evT {b : Bool} {n : Nat} {z : Str} : marksOf (evT b n z) = mk1 b z := by
  cases b <;> rfl
theorem len_evT {b : Bool} {n : Nat} {z : Str} : (evT b n z).length ≤ 3 := by
  cases b
  · show 1 ≤ 3; decide
  · show 3 ≤ 3; decide
theorem do_add {k z h : Int} {s : Rs} {n : Nat} (e : s.rests = [h]) : doR [("n", k)] (rowEv s n) (.add "n" z) = { s with rests := [(h + z) % k], ev := s.ev ++ [.row n] } := by
  show ({ rowEv s n with rests := (rowEv s n).rests.set (plN [("n", k)] "n") ((heldN [("n", k)] (rowEv s n) "n" + z) % mdN [("n", k)] "n") } : Rs) = _
  rw [held_n (h := h) (by show s.rests = [h]; exact e), md_n, pl_n, show (rowEv s n).rests = [h] from e]
  rfl
theorem do_put {k z h : Int} {s : Rs} {n : Nat} (e : s.rests = [h]) : doR [("n", k)] (rowEv s n) (.put "n" z) = { s with rests := [z % k], ev := s.ev ++ [.row n] } := by
  show ({ rowEv s n with rests := (rowEv s n).rests.set (plN [("n", k)] "n") (z % mdN [("n", k)] "n") } : Rs) = _
  rw [md_n, pl_n, show (rowEv s n).rests = [h] from e]
  rfl
theorem runs_F {k first more asked x y : Int} (x0 : 1 ≤ x) (y0 : 1 ≤ y) (x1 : x < 2 ^ 100) (y1 : y < 2 ^ 100) : ∃ s, Runs [("n", k)] (rowsF first more asked) x y s ∧ marksOf s.ev = mk1 (decide (0 = asked % k)) "a" ++ mk1 (decide ((0 + more) % k = asked % k)) "b" ++ mk1 (decide (first % k = asked % k)) "c" ++ mk1 (decide (((first % k + more) % k + 1) % k = asked % k)) "d" := by
  have hv : ∀ (h : Int) (s : Rs) (n : Nat), s.rests = [h] → holdsT [("n", k)] (rowEv s n) (.holds "n" asked) = decide (h = asked % k) := by
    intro h s n e
    show decide (heldN [("n", k)] (rowEv s n) "n" = asked % mdN [("n", k)] "n") = _
    rw [held_n (h := h) (by exact e), md_n]
  have nm : ("n" : Str) ∈ ([("n", k)] : List (Str × Int)).map (·.1) := .head _
  have gi : ∀ z, GoodR [("n", k)] (.ifb (.holds "n" asked) [.tell z] []) := fun z => ⟨⟨by show 0 ≤ 8; decide, fun q hq => by cases List.mem_singleton.mp hq; exact nm⟩, ⟨trivial, trivial⟩, trivial⟩
  have gd : ∀ {h : Int} {ev : List Ev}, ev.length ≤ 100 → (⟨[h], rd x y, ev, 0, false⟩ : Rs).Gd [("n", k)] := fun h => gd_rd rfl rfl (by omega) (by omega) (lt200 x1) (lt200 y1) (by show _ ≤ 900000; exact Nat.le_trans h (by decide))
  have go : ∀ {h : Int} {ev : List Ev} {z : Str} {rs : List Rw1} {n : Nat} {s' : Rs}, ev.length ≤ 100 → Big [("n", k)] rs (n + 2) ⟨[h], rd x y, ev ++ evT (decide (h = asked % k)) n z, 0, false⟩ s' → Big [("n", k)] (.ifb (.holds "n" asked) [.tell z] [] :: rs) n ⟨[h], rd x y, ev, 0, false⟩ s' := fun hl c => .ifTell (x := x) (y := y) rfl rfl (by omega) (by omega) (lt200 x1) (lt200 y1) hl rfl (hv _ _ _ rfl) c
  have ad : ∀ {h z : Int} {ev : List Ev} {rs : List Rw1} {n : Nat} {s' : Rs}, ev.length ≤ 100 → Big [("n", k)] rs (n + 1) ⟨[(h + z) % k], rd x y, ev ++ [.row n], 0, false⟩ s' → Big [("n", k)] (.add "n" z :: rs) n ⟨[h], rd x y, ev, 0, false⟩ s' := fun hl c => .one rfl rfl (gd hl) (by rw [do_add rfl]; exact c)
  have pu : ∀ {h z : Int} {ev : List Ev} {rs : List Rw1} {n : Nat} {s' : Rs}, ev.length ≤ 100 → Big [("n", k)] rs (n + 1) ⟨[z % k], rd x y, ev ++ [.row n], 0, false⟩ s' → Big [("n", k)] (.put "n" z :: rs) n ⟨[h], rd x y, ev, 0, false⟩ s' := fun hl c => .one rfl rfl (gd hl) (by rw [do_put (h := _) rfl]; exact c)
  have l0 := @len_evT (decide (0 = asked % k)) 0 "a"
  have l1 := @len_evT (decide ((0 + more) % k = asked % k)) 3 "b"
  have l2 := @len_evT (decide (first % k = asked % k)) 6 "c"
  have l3 := @len_evT (decide (((first % k + more) % k + 1) % k = asked % k)) 10 "d"
  have lens : ∀ {a b : List Ev} {n m : Nat}, a.length ≤ n → b.length ≤ m → (a ++ b).length ≤ n + m := fun h1 h2 => by rw [List.length_append]; omega
  have r1 : ∀ {n : Nat}, [Ev.row n].length ≤ 1 := Nat.le_refl 1
  have e0 : ([] ++ evT (decide (0 = asked % k)) 0 "a").length ≤ 3 := l0
  have e1 := lens e0 (r1 (n := 2))
  have e2 := lens e1 l1
  have e3 := lens e2 (r1 (n := 5))
  have e4 := lens e3 l2
  have e5 := lens e4 (r1 (n := 8))
  have e6 := lens e5 (r1 (n := 9))
  have e7 := lens e6 l3
  refine ⟨⟨[((first % k + more) % k + 1) % k], rd x y, [] ++ evT (decide (0 = asked % k)) 0 "a" ++ [.row 2] ++ evT (decide ((0 + more) % k = asked % k)) 3 "b" ++ [.row 5] ++ evT (decide (first % k = asked % k)) 6 "c" ++ [.row 8] ++ [.row 9] ++ evT (decide (((first % k + more) % k + 1) % k = asked % k)) 10 "d", 0, false⟩, ⟨⟨gi _, nm, gi _, nm, gi _, nm, nm, gi _, trivial⟩, ?_, Nat.le_trans e7 (by decide)⟩, ?_⟩
  · exact go (h := 0) (ev := []) (by decide) (ad (Nat.le_trans e0 (by decide)) (go (Nat.le_trans e1 (by decide)) (pu (Nat.le_trans e2 (by decide)) (go (Nat.le_trans e3 (by decide)) (ad (Nat.le_trans e4 (by decide)) (ad (Nat.le_trans e5 (by decide)) (go (Nat.le_trans e6 (by decide)) .nil)))))))
  · simp only [marksOf_app, marks_evT, marksOf, List.append_nil, List.nil_append]
/-- rods laid until they are alike -/
inductive Euc : Int → Int → Nat → Int → Prop
  | done (x : Int) : Euc x x 0 x
  | step {x y z : Int} {k : Nat} (ne : x ≠ y) (h : Euc (if y < x then x - y else x) (if x < y then y - x else y) k z) : Euc x y (k + 1) z
theorem euc_ex {u : Int} (u0 : 1 ≤ u) : ∀ (n : Nat) (a b : Int), 1 ≤ a → 1 ≤ b → a + b ≤ n → ∃ k z, k ≤ n ∧ Euc (u * a) (u * b) k z
  | 0, a, b, a0, b0, h => absurd h (by omega)
  | n + 1, a, b, a0, b0, h => by
    by_cases e : a = b
    · subst e
      exact ⟨0, _, Nat.zero_le _, .done _⟩
    · have mono : ∀ {i j : Int}, i < j → u * i < u * j := fun h => Int.mul_lt_mul_of_pos_left h (by omega)
      by_cases l : b < a
      · obtain ⟨k, z, hk, hz⟩ := euc_ex u0 n (a - b) b (by omega) b0 (by omega)
        have q := mono l
        refine ⟨k + 1, z, by omega, .step (by omega) ?_⟩
        rw [if_pos q, if_neg (by omega), ← Int.mul_sub]
        exact hz
      · obtain ⟨k, z, hk, hz⟩ := euc_ex u0 n a (b - a) a0 (by omega) (by omega)
        have q := mono (show a < b by omega)
        refine ⟨k + 1, z, by omega, .step (by omega) ?_⟩
        rw [if_neg (by omega), if_pos q, ← Int.mul_sub]
        exact hz
theorem two_euc {x y : Int} (h : TwoL x y) : ∃ k z, k ≤ 24 ∧ Euc x y k z := by
  obtain ⟨u, a, b, u0, u1, a0, a1, b0, b1, rfl, rfl⟩ := h
  exact euc_ex u0 24 a b a0 b0 (by omega)
theorem big_G {x y z : Int} {k : Nat} (E : Euc x y k z) : 1 ≤ x → 1 ≤ y → x < 2 ^ 100 → y < 2 ^ 100 → ∀ (ev : List Ev) (l : Nat), ev.length + 4 * k ≤ 1000 → ∃ ev', Big [] [.untl "alike" [.tell "a", .lay]] 0 ⟨[], rd x y, ev, l, false⟩ ⟨[], rd z z, ev', l + k, false⟩ ∧ marksOf ev' = marksOf ev ++ List.replicate k ("a" : Str) ∧ ev'.length = ev.length + 4 * k + 1 := by
  induction E with
  | done x =>
    intro x0 _ x1 _ ev l hl
    refine ⟨ev ++ [Ev.row 0], .done (gd_rd (x := x) (y := x) rfl rfl (by omega) (by omega) (lt200 x1) (lt200 x1) (by show ev.length ≤ 900000; omega)) ((loop_alike (x := x) (y := x) rfl).trans (decide_eq_true rfl)) .nil, ?_, ?_⟩
    · rw [marksOf_app]; rfl
    · rw [List.length_append]; rfl
  | @step x y z k ne h ih =>
    intro x0 y0 x1 y1 ev l hl
    obtain ⟨ev', B, e1, e2⟩ := ih (by split <;> omega) (by split <;> omega) (by split <;> omega) (by split <;> omega) (ev ++ [Ev.row 0] ++ [Ev.row 1] ++ [Ev.mark "a"] ++ [Ev.row 2]) (l + 1) (by simp only [List.length_append, List.length_singleton]; omega)
    have gd : ∀ {e : List Ev}, e.length ≤ 5000 → (⟨[], rd x y, e, l, false⟩ : Rs).Gd [] := fun h => gd_rd rfl rfl (by omega) (by omega) (lt200 x1) (lt200 y1) (by show _ ≤ 900000; exact Nat.le_trans h (by decide))
    refine ⟨ev', ?_, ?_, ?_⟩
    · refine .on (gd (by omega)) ((loop_alike (x := x) (y := y) rfl).trans (decide_eq_false ne)) (s1 := ⟨[], rd (if y < x then x - y else x) (if x < y then y - x else y), ev ++ [Ev.row 0] ++ [Ev.row 1] ++ [Ev.mark "a"] ++ [Ev.row 2], l + 1, false⟩) ?_ rfl ?_ ?_
      · refine .one rfl rfl (gd (e := ev ++ [Ev.row 0]) (by rw [List.length_append, List.length_singleton]; omega)) ?_
        refine .one rfl rfl (gd (e := ev ++ [Ev.row 0] ++ [Ev.row 1] ++ [Ev.mark "a"]) (by simp only [List.length_append, List.length_singleton]; omega)) ?_
        have e : doR [] (rowEv ⟨[], rd x y, ev ++ [Ev.row 0] ++ [Ev.row 1] ++ [Ev.mark "a"], l, false⟩ 2) .lay = ⟨[], rd (if y < x then x - y else x) (if x < y then y - x else y), ev ++ [Ev.row 0] ++ [Ev.row 1] ++ [Ev.mark "a"] ++ [Ev.row 2], l + (if x = y then 0 else 1), false⟩ := lay_rd (x := x) (y := y) rfl
        rw [if_neg ne] at e
        show Big [] [] _ (doR [] (rowEv ⟨[], rd x y, ev ++ [Ev.row 0] ++ [Ev.row 1] ++ [Ev.mark "a"], l, false⟩ 2) .lay) _
        rw [e]
        exact .nil
      · exact gd_rd rfl rfl (by split <;> omega) (by split <;> omega) (lt200 (by split <;> omega)) (lt200 (by split <;> omega)) (by simp only [List.length_append, List.length_singleton]; omega)
      · rw [show l + (k + 1) = l + 1 + k by omega]
        exact B
    · rw [e1]
      simp [marksOf_app, marksOf, List.replicate_succ]
    · rw [e2]
      simp only [List.length_append, List.length_singleton]
      omega
/-- the second rod laid by the first one -/
theorem big_L {x : Int} (x0 : 1 ≤ x) (x1 : x < 2 ^ 100) : ∀ (k : Nat) (y : Int), 1 ≤ y → y < 2 ^ 100 → y - (k : Nat) * x ≤ x → 1 ≤ y - (k : Nat) * x → ∀ (ev : List Ev) (l : Nat), ev.length + 2 * k ≤ 1000 → ∃ ev', Big [] [.untl "longer" [.lay]] 0 ⟨[], rd x y, ev, l, false⟩ ⟨[], rd x (y - (k : Nat) * x), ev', l + k, false⟩ ∧ ev'.length = ev.length + 2 * k + 1
  | 0, y, y0, y1, h1, h2, ev, l, hl => by
    have e : y - ((0 : Nat) : Int) * x = y := by rw [Int.natCast_zero, Int.zero_mul, Int.sub_zero]
    rw [e] at h1 ⊢
    refine ⟨ev ++ [Ev.row 0], .done (gd_rd (x := x) (y := y) rfl rfl (by omega) (by omega) (lt200 x1) (lt200 y1) (by show ev.length ≤ 900000; omega)) ((loop_longer (x := x) (y := y) rfl).trans (decide_eq_true h1)) .nil, ?_⟩
    rw [List.length_append]; rfl
  | k + 1, y, y0, y1, h1, h2, ev, l, hl => by
    have e : y - ((k + 1 : Nat) : Int) * x = (y - x) - (k : Nat) * x := by rw [Int.natCast_succ, Int.add_mul, Int.one_mul]; omega
    rw [e] at h1 h2 ⊢
    have kx : 0 ≤ ((k : Nat) : Int) * x := Int.mul_nonneg (Int.natCast_nonneg _) (by omega)
    obtain ⟨ev', B, e2⟩ := big_L x0 x1 k (y - x) (by omega) (by omega) h1 h2 (ev ++ [Ev.row 0] ++ [Ev.row 1]) (l + 1) (by simp only [List.length_append, List.length_singleton]; omega)
    have lt : x < y := by omega
    refine ⟨ev', ?_, ?_⟩
    · refine .on (gd_rd (x := x) (y := y) rfl rfl (by omega) (by omega) (lt200 x1) (lt200 y1) (by show ev.length ≤ 900000; omega)) ((loop_longer (x := x) (y := y) rfl).trans (decide_eq_false (by omega))) (s1 := ⟨[], rd x (y - x), ev ++ [Ev.row 0] ++ [Ev.row 1], l + 1, false⟩) ?_ rfl ?_ ?_
      · refine .one rfl rfl (gd_rd (x := x) (y := y) rfl rfl (by omega) (by omega) (lt200 x1) (lt200 y1) (by show (ev ++ [Ev.row 0]).length ≤ 900000; rw [List.length_append, List.length_singleton]; omega)) ?_
        have e3 : doR [] (rowEv ⟨[], rd x y, ev ++ [Ev.row 0], l, false⟩ 1) .lay = ⟨[], rd (if y < x then x - y else x) (if x < y then y - x else y), ev ++ [Ev.row 0] ++ [Ev.row 1], l + (if x = y then 0 else 1), false⟩ := lay_rd (x := x) (y := y) rfl
        rw [if_neg (by omega), if_pos lt, if_neg (by omega)] at e3
        show Big [] [] _ (doR [] (rowEv ⟨[], rd x y, ev ++ [Ev.row 0], l, false⟩ 1) .lay) _
        rw [e3]
        exact .nil
      · exact gd_rd (x := x) (y := y - x) rfl rfl (by omega) (by omega) (lt200 x1) (lt200 (by omega)) (by simp only [List.length_append, List.length_singleton]; omega)
      · rw [show l + (k + 1) = l + 1 + k by omega]
        exact B
    · rw [e2]
      simp only [List.length_append, List.length_singleton]
      omega
/-- the first rod laid by the second one -/
theorem big_S {y : Int} (y0 : 1 ≤ y) (y1 : y < 2 ^ 100) : ∀ (k : Nat) (x : Int), 1 ≤ x → x < 2 ^ 100 → x - (k : Nat) * y ≤ y → 1 ≤ x - (k : Nat) * y → ∀ (ev : List Ev) (l : Nat), ev.length + 4 * k ≤ 1000 → ∃ ev', Big [] [.untl "shorter" [.lay, .tell "b"]] 0 ⟨[], rd x y, ev, l, false⟩ ⟨[], rd (x - (k : Nat) * y) y, ev', l + k, false⟩ ∧ (marksOf ev').length = (marksOf ev).length + k ∧ ev'.length = ev.length + 4 * k + 1
  | 0, x, x0, x1, h1, h2, ev, l, hl => by
    have e : x - ((0 : Nat) : Int) * y = x := by rw [Int.natCast_zero, Int.zero_mul, Int.sub_zero]
    rw [e] at h1 ⊢
    refine ⟨ev ++ [Ev.row 0], .done (gd_rd (x := x) (y := y) rfl rfl (by omega) (by omega) (lt200 x1) (lt200 y1) (by show ev.length ≤ 900000; omega)) ((loop_shorter (x := x) (y := y) rfl).trans (decide_eq_true h1)) .nil, ?_, ?_⟩
    · rw [marksOf_app, List.length_append]; rfl
    · rw [List.length_append]; rfl
  | k + 1, x, x0, x1, h1, h2, ev, l, hl => by
    have e : x - ((k + 1 : Nat) : Int) * y = (x - y) - (k : Nat) * y := by rw [Int.natCast_succ, Int.add_mul, Int.one_mul]; omega
    rw [e] at h1 h2 ⊢
    have kx : 0 ≤ ((k : Nat) : Int) * y := Int.mul_nonneg (Int.natCast_nonneg _) (by omega)
    obtain ⟨ev', B, em, e2⟩ := big_S y0 y1 k (x - y) (by omega) (by omega) h1 h2 (ev ++ [Ev.row 0] ++ [Ev.row 1] ++ [Ev.row 2] ++ [Ev.mark "b"]) (l + 1) (by simp only [List.length_append, List.length_singleton]; omega)
    have lt : y < x := by omega
    refine ⟨ev', ?_, ?_, ?_⟩
    · refine .on (gd_rd (x := x) (y := y) rfl rfl (by omega) (by omega) (lt200 x1) (lt200 y1) (by show ev.length ≤ 900000; omega)) ((loop_shorter (x := x) (y := y) rfl).trans (decide_eq_false (by omega))) (s1 := ⟨[], rd (x - y) y, ev ++ [Ev.row 0] ++ [Ev.row 1] ++ [Ev.row 2] ++ [Ev.mark "b"], l + 1, false⟩) ?_ rfl ?_ ?_
      · refine .one rfl rfl (gd_rd (x := x) (y := y) rfl rfl (by omega) (by omega) (lt200 x1) (lt200 y1) (by show (ev ++ [Ev.row 0]).length ≤ 900000; rw [List.length_append, List.length_singleton]; omega)) ?_
        have e3 : doR [] (rowEv ⟨[], rd x y, ev ++ [Ev.row 0], l, false⟩ 1) .lay = ⟨[], rd (if y < x then x - y else x) (if x < y then y - x else y), ev ++ [Ev.row 0] ++ [Ev.row 1], l + (if x = y then 0 else 1), false⟩ := lay_rd (x := x) (y := y) rfl
        rw [if_pos lt, if_neg (by omega), if_neg (by omega)] at e3
        show Big [] [.tell "b"] _ (doR [] (rowEv ⟨[], rd x y, ev ++ [Ev.row 0], l, false⟩ 1) .lay) _
        rw [e3]
        refine .one rfl rfl (gd_rd (x := x - y) (y := y) rfl rfl (by omega) (by omega) (lt200 (by omega)) (lt200 y1) (by show (ev ++ [Ev.row 0] ++ [Ev.row 1]).length ≤ 900000; simp only [List.length_append, List.length_singleton]; omega)) .nil
      · exact gd_rd (x := x - y) (y := y) rfl rfl (by omega) (by omega) (lt200 (by omega)) (lt200 y1) (by simp only [List.length_append, List.length_singleton]; omega)
      · rw [show l + (k + 1) = l + 1 + k by omega]
        exact B
    · rw [em]
      simp only [marksOf_app, marksOf, List.append_nil, List.length_append, List.length_singleton]
      omega
    · rw [e2]
      simp only [List.length_append, List.length_singleton]
      omega
/-- how often one rod goes into the other, and what is left -/
theorem two_rest {x y : Int} (h : TwoL x y) : ∃ k : Nat, k ≤ 12 ∧ ((k : Nat) : Int) = (y - 1) / x ∧ y - (k : Nat) * x = (y - 1) % x + 1 ∧ y - (k : Nat) * x ≤ x ∧ 1 ≤ y - (k : Nat) * x := by
  obtain ⟨u, a, b, u0, u1, a0, a1, b0, b1, rfl, rfl⟩ := h
  have ua : u ≤ u * a := by
    have := Int.mul_le_mul_of_nonneg_left a0 (show 0 ≤ u by omega)
    omega
  have ub : u * b ≤ u * 12 := Int.mul_le_mul_of_nonneg_left b1 (by omega)
  have b0' : 1 ≤ u * b := by
    have := Int.mul_le_mul_of_nonneg_left b0 (show 0 ≤ u by omega)
    omega
  have xp : 0 < u * a := by omega
  have q0 : 0 ≤ (u * b - 1) / (u * a) := Int.ediv_nonneg (by omega) (by omega)
  have q1 : (u * b - 1) / (u * a) < 12 := Int.ediv_lt_of_lt_mul xp (by omega)
  have dm := Int.mul_ediv_add_emod (u * b - 1) (u * a)
  have m0 := Int.emod_nonneg (u * b - 1) (show u * a ≠ 0 by omega)
  have m1 := Int.emod_lt_of_pos (u * b - 1) xp
  refine ⟨((u * b - 1) / (u * a)).toNat, by omega, Int.toNat_of_nonneg q0, ?_⟩
  rw [Int.toNat_of_nonneg q0]
  have cm : (u * b - 1) / (u * a) * (u * a) = (u * a) * ((u * b - 1) / (u * a)) := Int.mul_comm _ _
  rw [cm]
  refine ⟨by omega, by omega, by omega⟩
theorem TwoL.symm {x y : Int} : TwoL x y → TwoL y x := fun ⟨u, a, b, u0, u1, a0, a1, b0, b1, e1, e2⟩ => ⟨u, b, a, u0, u1, b0, b1, a0, a1, e2, e1⟩
theorem runs_G {x y z : Int} {k : Nat} (h : TwoL x y) (E : Euc x y k z) (hk : k ≤ 24) : ∃ s, Runs [] [.untl "alike" [.tell "a", .lay]] x y s ∧ marksOf s.ev = List.replicate k ("a" : Str) ∧ s.num = rd z z ∧ s.stop = false ∧ s.lay = k := by
  obtain ⟨x0, y0, x1, y1⟩ := two_bd h
  obtain ⟨ev, B, e1, e2⟩ := big_G E x0 y0 x1 y1 [] 0 (by rw [List.length_nil]; omega)
  exact ⟨_, ⟨⟨⟨.inl rfl, trivial, trivial, trivial⟩, trivial⟩, B, by rw [e2, List.length_nil]; omega⟩, e1, rfl, rfl, Nat.zero_add _⟩
theorem runs_L {x y : Int} (h : TwoL x y) : ∃ s, Runs [] [.untl "longer" [.lay]] x y s ∧ s.num = rd x ((y - 1) % x + 1) ∧ ((s.lay : Nat) : Int) = (y - 1) / x := by
  obtain ⟨x0, y0, x1, y1⟩ := two_bd h
  obtain ⟨k, k1, e1, e2, e3, e4⟩ := two_rest h
  obtain ⟨ev, B, e5⟩ := big_L x0 x1 k y y0 y1 e3 e4 [] 0 (by rw [List.length_nil]; omega)
  rw [e2] at B
  exact ⟨_, ⟨⟨⟨.inr (.inl rfl), trivial, trivial⟩, trivial⟩, B, by rw [e5, List.length_nil]; omega⟩, rfl, by show (((0 + k : Nat)) : Int) = _; rw [Nat.zero_add]; exact e1⟩
theorem runs_S {x y : Int} (h : TwoL x y) : ∃ s, Runs [] [.untl "shorter" [.lay, .tell "b"]] x y s ∧ s.num = rd ((x - 1) % y + 1) y ∧ (marksOf s.ev).length = s.lay := by
  obtain ⟨x0, y0, x1, y1⟩ := two_bd h
  obtain ⟨k, k1, e1, e2, e3, e4⟩ := two_rest h.symm
  obtain ⟨ev, B, e6, e5⟩ := big_S y0 y1 k x x0 x1 e3 e4 [] 0 (by rw [List.length_nil]; omega)
  rw [e2] at B
  exact ⟨_, ⟨⟨⟨.inr (.inr rfl), trivial, trivial, trivial⟩, trivial⟩, B, by rw [e5, List.length_nil]; omega⟩, rfl, by show (marksOf ev).length = 0 + k; rw [e6]; rfl⟩
end Pg
open Pg

/-! ## rows that are made (as in k35.tmpl) -/
namespace Pg
theorem mk_tellH {K : PySem.W.Frag} {c : Clz} {H : Hp} {IR x dx : Addr} {n : Str} {R : Hp → Prop} (nx : H x = none) (nd : H dx = none) (nk : nameOk n = true) (k : ∀ H', Same H H' → RowAt K c H' x (.tell n) → R H') :
    calm (sp_mark K c IR) (.ref x :: ([.str n] ++ [])) (upd (upd H dx (.own x)) x (.ins c.tell dx [])) (fun v H2 => v = .non ∧ R H2) E0 := by
  refine ⟨x, dx, .str n, rfl, upd_same, Kd.str _, fun z e => ?_, fun z e _ H' kp hp => ?_, fun e => ?_⟩
  · cases e
    have := name_len nk
    omega
  · cases e
    exact ⟨rfl, k H' (mk_sm nx nd kp) hp⟩
  · have e : nameOk n = false := e
    rw [nk] at e
    cases e
theorem mk_nnH {K : PySem.W.Frag} {H : Hp} {IR C x dx : Addr} {n : Str} {i : Int} {P : Hp → Addr → Str → Int → Prop} {R : Hp → Prop} (nx : H x = none) (nd : H dx = none) (nk : nameOk n = true) (i0 : 0 ≤ i) (i1 : i < 1000000) (k : ∀ H', Same H H' → P H' x n i → R H') :
    calm (sp_nn K IR C P) (.ref x :: ([.str n, .int i] ++ [])) (upd (upd H dx (.own x)) x (.ins C dx [])) (fun v H2 => v = .non ∧ R H2) E0 := mk_nn (Q := fun _ H' => R H') nx nd nk i0 i1 k
theorem mk_ifH {K : PySem.W.Frag} {c : Clz} {H : Hp} {IR x dx q a b : Addr} {t : Tst} {xs ys : List V} {r o : List Rw1} {R : Hp → Prop} (nx : H x = none) (nd : H dx = none) (hq : TstAt K c H q t) (ha : SqV K H a xs) (hr : RowsAt K c H xs r) (hb : SqV K H b ys) (ho : RowsAt K c H ys o) (ok : (Rw1.ifb t r o).Ok) (sz : (Rw1.ifb t r o).inner.length ≤ 1000) (k : ∀ H', Same H H' → RowAt K c H' x (.ifb t r o) → R H') :
    calm (sp_if K c IR) [.ref x, .ref q, .ref a, .ref b] (upd (upd H dx (.own x)) x (.ins c.ifb dx [])) (fun v H2 => v = .non ∧ R H2) E0 := by
  have sm := mk_at (C := c.ifb) nx nd
  have lt := txt_len ok.1
  have sl := sum_lines ok
  have od := ok.2.1
  have hv : ∀ {p : Addr} {zs : List V}, SqV K H p zs → SqV K (upd (upd H dx (.own x)) x (.ins c.ifb dx [])) p zs := fun h => by
    rcases h with h | h | h
    · exact .inl (sm _ _ h)
    · exact .inr (.inl (sm _ _ h))
    · exact .inr (.inr h)
  exact ⟨x, dx, q, a, b, t, xs, ys, r, o, rfl, upd_same, hq.tk (TK.same sm), by omega, hv ha, hr.tk (TK.same sm), hv hb, ho.tk (TK.same sm), by omega, fun H' kp hrow => ⟨rfl, k H' (mk_sm nx nd kp) hrow⟩⟩
end Pg
open Pg

/-! ## programs made by expressions: what they come to -/
namespace Pg
mutual
theorem dp_sm {K : PySem.W.Frag} {H H' : Hp} (s : Same H H') : ∀ {v : V} {d : PyData}, Dp K H v d → Dp K H' v d
  | _, _, .non => .non
  | _, _, .bl b => .bl b
  | _, _, .int i => .int i
  | _, _, .str x => .str x
  | _, _, .lst h g => .lst (h.elim (fun q => .inl (q.elim (fun q => .inl (s _ _ q)) fun ⟨o, q⟩ => .inr ⟨o, s _ _ q⟩)) .inr) (dpa_sm s g)
  | _, _, .tup h g => .tup (sqT_tk (TK.same s) h) (dpa_sm s g)
theorem dpa_sm {K : PySem.W.Frag} {H H' : Hp} (s : Same H H') : ∀ {vs : List V} {ds : List PyData}, DpAll K H vs ds → DpAll K H' vs ds
  | _, _, .nil => .nil
  | _, _, .cons h g => .cons (dp_sm s h) (dpa_sm s g)
end
section
variable (K : PySem.W.Frag) (c : Clz)
/-- what an expression comes to: a value; a test, a row, rows, a list of rows; a program; an outcome; data -/
def VX (t : TE) (σ : L2.St) (H0 : Hp) (v : V) : Prop := ∀ H, Same H0 H → ∀ R : VK, (∀ H', Same H H' → R v H') → t σ H R
def TX (t : TE) (σ : L2.St) (H0 : Hp) (u : Tst) : Prop := ∀ H, Same H0 H → ∀ R : VK, (∀ q H', Same H H' → TstAt K c H' q u → R (.ref q) H') → t σ H R
def RX (t : TE) (σ : L2.St) (H0 : Hp) (r : Rw1) : Prop := ∀ H, Same H0 H → ∀ R : VK, (∀ q H', Same H H' → RowAt K c H' q r → R (.ref q) H') → t σ H R
def RL (t : TA) (σ : L2.St) (H0 : Hp) (rs : List Rw1) : Prop := ∀ H, Same H0 H → ∀ R : List V → Hp → Prop, (∀ vs H', Same H H' → RowsAt K c H' vs rs → R vs H') → t σ H R
def SX (t : TE) (σ : L2.St) (H0 : Hp) (rs : List Rw1) : Prop := ∀ H, Same H0 H → ∀ R : VK, (∀ p xs H', Same H H' → SqV K H' p xs → RowsAt K c H' xs rs → R (.ref p) H') → t σ H R
def NX (t : TE) (σ : L2.St) (H0 : Hp) (ns : List (Str × Int)) : Prop := ∀ H, Same H0 H → ∀ R : VK, (∀ p xs H', Same H H' → SqV K H' p xs → NotesAt H' xs ns → R (.ref p) H') → t σ H R
def PX (CP : Addr) (t : TE) (σ : L2.St) (H0 : Hp) (ns : List (Str × Int)) (rs : List Rw1) : Prop := ∀ H, Same H0 H → ∀ R : VK, (∀ p H', Same H H' → ProgAt K c CP H' p ns rs → R (.ref p) H') → t σ H R
def OX (CO : Addr) (t : TE) (σ : L2.St) (H0 : Hp) (ms : List Str) (x y : Int) (b : Bool) (l : Nat) : Prop := ∀ H, Same H0 H → ∀ R : VK, (∀ o H', Same H H' → OutAt K CO H' o ms x y b l → R (.ref o) H') → t σ H R
def DX (t : TE) (σ : L2.St) (H0 : Hp) (d : PyData) : Prop := ∀ H, Same H0 H → ∀ R : VK, (∀ v H', Same H H' → Dp K H' v d → R v H') → t σ H R
def DA (t : TA) (σ : L2.St) (H0 : Hp) (ds : List PyData) : Prop := ∀ H, Same H0 H → ∀ R : List V → Hp → Prop, (∀ vs H', Same H H' → DpAll K H' vs ds → R vs H') → t σ H R
end
section
variable {K : PySem.W.Frag} {mg : Str → Option Value} {c : Clz} {CP CO IR IC eT : Addr} {σ : L2.St} {H0 : Hp} {t t1 t2 t3 : TE} {ta : TA}
theorem VX.con (v : V) : VX (tC v) σ H0 v := fun H _ _ k => k H (Same.refl _)
theorem VX.var {i : Nat} {v : V} (h : σ[i]? = some (some v)) : VX (tVar i) σ H0 v := fun H _ _ k => ⟨v, h, k H (Same.refl _)⟩
theorem RL.nil : RL K c tNil σ H0 [] := fun H _ _ k => k [] H (Same.refl _) trivial
theorem RL.cons {r : Rw1} {rs : List Rw1} (h : RX K c t σ H0 r) (g : RL K c ta σ H0 rs) : RL K c (tCons t ta) σ H0 (r :: rs) := fun H s R k => h H s _ fun q H1 s1 h1 => g H1 (s.trans s1) _ fun vs H2 s2 h2 => k (.ref q :: vs) H2 (s1.trans s2) ⟨⟨q, rfl, h1.tk (TK.same s2)⟩, h2⟩
theorem SX.lst {rs : List Rw1} (h : RL K c ta σ H0 rs) (n : rs.length ≤ 1000000) : SX K c (tLstN ta) σ H0 rs := fun H s R k => h H s _ fun vs H1 s1 h1 => ⟨by rw [h1.len]; exact n, fun l H2 _ s2 hl => k l vs H2 (s1.trans s2) (.inl hl) (h1.tk (TK.same s2))⟩
theorem SX.var {i : Nat} {p : Addr} {xs : List V} {rs : List Rw1} (h : σ[i]? = some (some (.ref p))) (hp : H0 p = some (.lst xs)) (hr : RowsAt K c H0 xs rs) : SX K c (tVar i) σ H0 rs := fun H s R k => ⟨_, h, k p xs H (Same.refl _) (.inl (s _ _ hp)) (hr.tk (TK.same s))⟩
theorem NX.lst {n : Str} {k : Int} (nk : nameOk n = true) (k0 : 0 ≤ k) (k1 : k < 1000000) (h : VX t1 σ H0 (.str n)) (g : VX t2 σ H0 (.int k)) : NX K (tLstN (tCons (tTupN (tCons t1 (tCons t2 tNil))) tNil)) σ H0 [(n, k)] := fun H s R kk => h H s _ fun H1 s1 => g H1 (s.trans s1) _ fun H2 s2 => ⟨by show 2 ≤ 1000000; decide, fun q H3 _ s3 hq => ⟨by show 1 ≤ 1000000; decide, fun l H4 _ s4 hl => kk l [.ref q] H4 (s1.trans (s2.trans (s3.trans s4))) (.inl hl) ⟨⟨q, rfl, s4 _ _ hq, nk, k0, k1⟩, trivial⟩⟩⟩
theorem TX.ini {C : Addr} {u : Tst} : TX K c (tMake C (sp_rinit K c C fun H p => TstAt K c H p u) [] E0 tNil) σ H0 u := fun H s R k => fun x dx nx nd ne => ⟨x, dx, rfl, upd_same, fun H' kp hp => ⟨rfl, k x H' (mk_sm nx nd kp) hp⟩⟩
theorem TX.var {i : Nat} {q : Addr} {u : Tst} (h : σ[i]? = some (some (.ref q))) (hq : TstAt K c H0 q u) : TX K c (tVar i) σ H0 u := fun H s R k => ⟨_, h, k q H (Same.refl _) (hq.tk (TK.same s))⟩
theorem TX.holds {n : Str} {i : Int} (nk : nameOk n = true) (i0 : 0 ≤ i) (i1 : i < 1000000) (h : VX t1 σ H0 (.str n)) (g : VX t2 σ H0 (.int i)) : TX K c (tMake c.holds (calm (sp_nn K IR c.holds fun H x z i => TstAt K c H x (.holds z i))) [] E0 (tCons t1 (tCons t2 tNil))) σ H0 (.holds n i) := fun H s R k => h H s _ fun H1 s1 => g H1 (s.trans s1) _ fun H2 s2 => fun x dx nx nd ne => mk_nnH nx nd nk i0 i1 fun H' s' h => k x H' (s1.trans (s2.trans s')) h
theorem TX.not {u : Tst} (Hc : Hi K mg c) (hu : u.txt.length ≤ 995) (h : TX K c t σ H0 u) : TX K c (tMake c.not (calm (sp_not K c IR)) [] E0 (tCons t tNil)) σ H0 (.not u) := fun H s R k => h H s _ fun q H1 s1 hq => fun x dx nx nd ne => by
  have sm := mk_at (C := c.not) nx nd
  obtain ⟨fs, dq, _, _, g1, _⟩ := (hq.tk (TK.same sm)).part
  exact ⟨x, dx, .ref q, _, true, rfl, upd_same, tyx_ins (Hc.t u).ins g1, (Hc.t u).kt, fun _ => ⟨q, u, rfl, hq.tk (TK.same sm), by omega, fun H' kp hp' => ⟨rfl, k x H' (s1.trans (mk_sm nx nd kp)) hp'⟩⟩, nofun⟩
theorem RX.ini {C : Addr} {r : Rw1} : RX K c (tMake C (sp_rinit K c C fun H p => RowAt K c H p r) [] E0 tNil) σ H0 r := fun H s R k => fun x dx nx nd ne => ⟨x, dx, rfl, upd_same, fun H' kp hp => ⟨rfl, k x H' (mk_sm nx nd kp) hp⟩⟩
theorem RX.tell {z : Str} (nk : nameOk z = true) (h : VX t σ H0 (.str z)) : RX K c (tMake c.tell (calm (sp_mark K c IR)) [] E0 (tCons t tNil)) σ H0 (.tell z) := fun H s R k => h H s _ fun H1 s1 => fun x dx nx nd ne => mk_tellH nx nd nk fun H' s' h => k x H' (s1.trans s') h
theorem RX.put {n : Str} {i : Int} (nk : nameOk n = true) (i0 : 0 ≤ i) (i1 : i < 1000000) (h : VX t1 σ H0 (.str n)) (g : VX t2 σ H0 (.int i)) : RX K c (tMake c.put (calm (sp_nn K IR c.put fun H x z i => RowAt K c H x (.put z i))) [] E0 (tCons t1 (tCons t2 tNil))) σ H0 (.put n i) := fun H s R k => h H s _ fun H1 s1 => g H1 (s.trans s1) _ fun H2 s2 => fun x dx nx nd ne => mk_nnH nx nd nk i0 i1 fun H' s' h => k x H' (s1.trans (s2.trans s')) h
theorem RX.add {n : Str} {i : Int} (nk : nameOk n = true) (i0 : 0 ≤ i) (i1 : i < 1000000) (h : VX t1 σ H0 (.str n)) (g : VX t2 σ H0 (.int i)) : RX K c (tMake c.add (calm (sp_nn K IR c.add fun H x z i => RowAt K c H x (.add z i))) [] E0 (tCons t1 (tCons t2 tNil))) σ H0 (.add n i) := fun H s R k => h H s _ fun H1 s1 => g H1 (s.trans s1) _ fun H2 s2 => fun x dx nx nd ne => mk_nnH nx nd nk i0 i1 fun H' s' h => k x H' (s1.trans (s2.trans s')) h
theorem RX.make {m : Mt} (hm : m ∈ mats) (Rc : ChT K mg c.change) (h1 : VX t σ H0 (.int m.a)) (h2 : VX t1 σ H0 (.int m.b)) (h3 : VX t2 σ H0 (.int m.c)) (h4 : VX t3 σ H0 (.int m.d)) : RX K c (tMake c.make (calm (sp_make K c IR)) [] E0 (tCons (tMake c.change (calm (sp_chinit c.change IC K)) [] E0 (tCons t (tCons t1 (tCons t2 (tCons t3 tNil))))) tNil)) σ H0 (.make m) := fun H s R k => h1 H s _ fun H1 s1 => h2 H1 (s.trans s1) _ fun H2 s2 => h3 H2 (s.trans (s1.trans s2)) _ fun H3 s3 => h4 H3 (s.trans (s1.trans (s2.trans s3))) _ fun H4 s4 => by
  have bm := mats_in hm
  have hdet := mats_det hm
  have hnat : nats (.int m.a) (.int m.b) (.int m.c) (.int m.d) = true := by simp [nats, isNat, bm.a0, bm.b0, bm.c0, bm.d0]
  have s14 := s1.trans (s2.trans (s3.trans s4))
  refine fun xc dc nc ncd nce => ?_
  refine ⟨xc, dc, _, _, _, _, rfl, ⟨Kd.int _, Kd.int _, Kd.int _, Kd.int _⟩, upd_same, fun _ => ⟨m.a, m.b, m.c, m.d, rfl, rfl, rfl, rfl, ⟨nat_lt bm.a0 bm.a1, nat_lt bm.b0 bm.b1, nat_lt bm.c0 bm.c1, nat_lt bm.d0 bm.d1⟩, fun _ H5 kp1 ch => ⟨rfl, ?_⟩, fun e => absurd e hdet⟩, fun e => by rw [hnat] at e; cases e⟩
  have s5 := mk_sm nc ncd kp1
  refine fun x dx nx nd ne => ?_
  have sm := mk_at (C := c.make) nx nd
  have ch2 := ch.same sm
  obtain ⟨dq, qq, g1, _⟩ := id ch2
  exact ⟨x, dx, .ref xc, _, true, rfl, upd_same, Rc.ty g1, Rc.ins.me, fun _ => ⟨xc, m, rfl, ch2, bm, fun H' kp hrow => ⟨rfl, k x H' (s14.trans (s5.trans (mk_sm nx nd kp))) hrow⟩⟩, nofun⟩
theorem SqV.sm {H H' : Hp} (s : Same H H') {p : Addr} {zs : List V} (h : SqV K H p zs) : SqV K H' p zs := by
  rcases h with h | h | h
  · exact .inl (s _ _ h)
  · exact .inr (.inl (s _ _ h))
  · exact .inr (.inr h)
theorem RX.ifb {u : Tst} {r o : List Rw1} (ok : (Rw1.ifb u r o).Ok) (sz : (Rw1.ifb u r o).inner.length ≤ 1000) (h : TX K c t σ H0 u) (g1 : SX K c t1 σ H0 r) (g2 : SX K c t2 σ H0 o) : RX K c (tMake c.ifb (calm (sp_if K c IR)) [] E0 (tCons t (tCons t1 (tCons t2 tNil)))) σ H0 (.ifb u r o) := fun H s R k => h H s _ fun q H1 s1 hq => g1 H1 (s.trans s1) _ fun a xs H2 s2 ha hr => g2 H2 (s.trans (s1.trans s2)) _ fun b ys H3 s3 hb ho => fun x dx nx nd ne =>
  mk_ifH nx nd (hq.tk (TK.same (s2.trans s3))) (ha.sm s3) (hr.tk (TK.same s3)) hb ho ok sz fun H' s' h => k x H' (s1.trans (s2.trans (s3.trans s'))) h
theorem RX.ifb2 {u : Tst} {r : List Rw1} (hE : ∀ H, SqV K H eT []) (ok : (Rw1.ifb u r []).Ok) (sz : (Rw1.ifb u r []).inner.length ≤ 1000) (h : TX K c t σ H0 u) (g1 : SX K c t1 σ H0 r) : RX K c (tMake c.ifb (calm (sp_if K c IR)) [.ref eT] E0 (tCons t (tCons t1 tNil))) σ H0 (.ifb u r []) := fun H s R k => h H s _ fun q H1 s1 hq => g1 H1 (s.trans s1) _ fun a xs H2 s2 ha hr => fun x dx nx nd ne =>
  mk_ifH nx nd (hq.tk (TK.same s2)) ha hr (hE _) (show RowsAt K c H2 [] [] from trivial) ok sz fun H' s' h => k x H' (s1.trans (s2.trans s')) h
theorem RX.untl {g : Str} {r : List Rw1} (ok : (Rw1.untl g r).Ok) (dp : deepL r ≤ 4) (sz : (Rw1.untl g r).inner.length ≤ 1000) (h : VX t σ H0 (.str g)) (g1 : SX K c t1 σ H0 r) : RX K c (tMake c.untl (calm (sp_untl K c IR 4)) [] E0 (tCons t (tCons t1 tNil))) σ H0 (.untl g r) := fun H s R k => h H s _ fun H1 s1 => g1 H1 (s.trans s1) _ fun a xs H2 s2 ha hr => fun x dx nx nd ne => by
  obtain ⟨og, hl, hm, oa⟩ := id ok
  have sm := mk_at (C := c.untl) nx nd
  have sl := sum_lines ok
  have sz' : (innerL r).length + 1 ≤ 1000 := sz
  exact ⟨x, dx, a, g, xs, r, rfl, upd_same, og, ha.sm sm, hr.tk (TK.same sm), dp, by omega, by omega, fun _ _ H' kp hrow => ⟨rfl, k x H' (s1.trans (s2.trans (mk_sm nx nd kp))) hrow⟩, fun e => by rw [hl, hm] at e; cases e⟩
theorem uses_of {ns : List (Str × Int)} {rs : List Rw1} (h : ((innerL rs).all fun r => r.uses.all fun z => (ns.map (·.1)).any fun y => y == z) = true) : UsesOk ns rs := by
  intro r hr z hz
  have h1 := List.all_eq_true.mp (List.all_eq_true.mp h r hr) z hz
  obtain ⟨y, hy, e⟩ := List.any_eq_true.mp h1
  rw [← eq_of_beq e]
  exact hy
/-- a program -/
theorem mk_prog {H : Hp} {x dx a b : Addr} {xs ys : List V} {rs : List Rw1} {ns : List (Str × Int)} {R : Hp → Prop} (nx : H x = none) (nd : H dx = none) (ha : SqV K H a xs) (hr : RowsAt K c H xs rs) (hb : SqV K H b ys) (hn : NotesAt H ys ns) (no : NotesOk ns) (us : UsesOk ns rs) (dp : deepL rs ≤ 4) (sz : (innerL rs).length ≤ 1000) (nl : ns.length ≤ 1000) (k : ∀ H', Same H H' → ProgAt K c CP H' x ns rs → R H') :
    sp_pginit K c CP [.ref x, .ref a, .ref b] (upd (upd H dx (.own x)) x (.ins CP dx [])) (fun v H2 => v = .non ∧ R H2) E0 := by
  have sm := mk_at (C := CP) nx nd
  exact ⟨x, dx, a, b, xs, ys, rs, ns, rfl, upd_same, ha.sm sm, hr.tk (TK.same sm), hb.sm sm, hn.tk (TK.same sm), no, us, dp, sz, nl, fun H' kp hp => ⟨rfl, k H' (mk_sm nx nd kp) hp⟩⟩
theorem notes_nil : NotesOk [] := ⟨fun _ h => absurd h List.not_mem_nil, List.nodup_nil⟩
theorem PX.two {rs : List Rw1} {ns : List (Str × Int)} (no : NotesOk ns) (us : UsesOk ns rs) (dp : deepL rs ≤ 4) (sz : (innerL rs).length ≤ 1000) (nl : ns.length ≤ 1000) (h : SX K c t σ H0 rs) (g : NX K t1 σ H0 ns) : PX K c CP (tMake CP (sp_pginit K c CP) [] E0 (tCons t (tCons t1 tNil))) σ H0 ns rs := fun H s R k => h H s _ fun a xs H1 s1 ha hr => g H1 (s.trans s1) _ fun b ys H2 s2 hb hn => fun x dx nx nd ne =>
  mk_prog nx nd (ha.sm s2) (hr.tk (TK.same s2)) hb hn no us dp sz nl fun H' s' h => k x H' (s1.trans (s2.trans s')) h
theorem PX.one {rs : List Rw1} (hE : ∀ H, SqV K H eT []) (us : UsesOk [] rs) (dp : deepL rs ≤ 4) (sz : (innerL rs).length ≤ 1000) (h : SX K c t σ H0 rs) : PX K c CP (tMake CP (sp_pginit K c CP) [.ref eT] E0 (tCons t tNil)) σ H0 [] rs := fun H s R k => h H s _ fun a xs H1 s1 ha hr => fun x dx nx nd ne =>
  mk_prog nx nd ha hr (hE _) (show NotesAt H1 [] [] from trivial) notes_nil us dp sz (Nat.zero_le _) fun H' s' h => k x H' (s1.trans s') h
theorem PX.nil {eR : Addr} (hR : ∀ H, SqV K H eR []) (hE : ∀ H, SqV K H eT []) : PX K c CP (tMake CP (sp_pginit K c CP) [.ref eR, .ref eT] E0 tNil) σ H0 [] [] := fun H s R k => fun x dx nx nd ne =>
  mk_prog nx nd (hR _) (show RowsAt K c H [] [] from trivial) (hE _) (show NotesAt H [] [] from trivial) notes_nil (fun _ h => absurd h List.not_mem_nil) (Nat.zero_le _) (Nat.zero_le _) (Nat.zero_le _) fun H' s' h => k x H' s' h
theorem PX.var {i : Nat} {p : Addr} {ns : List (Str × Int)} {rs : List Rw1} (h : σ[i]? = some (some (.ref p))) (hp : ProgAt K c CP H0 p ns rs) : PX K c CP (tVar i) σ H0 ns rs := fun H s R k => ⟨_, h, k p H (Same.refl _) (hp.tk (TK.same s))⟩
/-- its run -/
theorem OX.run {rs : List Rw1} {ns : List (Str × Int)} {x y : Int} {s0 : Rs} (no : NotesOk ns) (nl : ns.length ≤ 1000) (x0 : 1 ≤ x) (y0 : 1 ≤ y) (ru : Runs ns rs x y s0) (h : PX K c CP t σ H0 ns rs) (g1 : VX t1 σ H0 (.int x)) (g2 : VX t2 σ H0 (.int y)) : OX K CO (tCall (sp_runB K c CP CO) [] E0 (tCons t (tCons t1 (tCons t2 tNil)))) σ H0 (marksOf s0.ev) s0.num.a s0.num.c s0.stop s0.lay := fun H s R k => h H s _ fun p H1 s1 hp => g1 H1 (s.trans s1) _ fun H2 s2 => g2 H2 (s.trans (s1.trans s2)) _ fun H3 s3 =>
  ⟨p, x, y, ns, rs, s0, rfl, hp.tk (TK.same (s2.trans s3)), no, nl, x0, y0, ru, fun o H' s' ho => k o H' (s1.trans (s2.trans (s3.trans s'))) ho⟩
theorem OX.call {rs : List Rw1} {ns : List (Str × Int)} {x y : Int} {s0 : Rs} (no : NotesOk ns) (nl : ns.length ≤ 1000) (x0 : 1 ≤ x) (y0 : 1 ≤ y) (ru : Runs ns rs x y s0) (h : PX K c CP t σ H0 ns rs) (g1 : VX t1 σ H0 (.int x)) (g2 : VX t2 σ H0 (.int y)) : OX K CO (tInstE CP (sp_runB K c CP CO) (fun _ => E0) t (tCons t1 (tCons t2 tNil))) σ H0 (marksOf s0.ev) s0.num.a s0.num.c s0.stop s0.lay := fun H s R k => h H s _ fun p H1 s1 hp => by
  obtain ⟨dx, a, b, u, tt, fs, nvs, rvs, uvs, svs, g, rest⟩ := id hp
  exact ⟨p, dx, fs, rfl, g, g1 H1 (s.trans s1) _ fun H2 s2 => g2 H2 (s.trans (s1.trans s2)) _ fun H3 s3 =>
    ⟨⟨fs, s3 _ _ (s2 _ _ g)⟩, p, x, y, ns, rs, s0, rfl, hp.tk (TK.same (s2.trans s3)), no, nl, x0, y0, ru, fun o H' s' ho => k o H' (s1.trans (s2.trans (s3.trans s'))) ho⟩⟩
theorem OX.to {ms ms' : List Str} {x x' y y' : Int} {b b' : Bool} {l l' : Nat} (h : OX K CO t σ H0 ms x y b l) (e1 : ms = ms') (e2 : x = x') (e3 : y = y') (e4 : b = b') (e5 : l = l') : OX K CO t σ H0 ms' x' y' b' l' := by
  subst e1 e2 e3 e4 e5
  exact h
theorem OX.var {i : Nat} {o : Addr} {ms : List Str} {x y : Int} {b : Bool} {l : Nat} (h : σ[i]? = some (some (.ref o))) (ho : OutAt K CO H0 o ms x y b l) : OX K CO (tVar i) σ H0 ms x y b l := fun H s R k => ⟨_, h, k o H (Same.refl _) (ho.tk (TK.same s))⟩
/-- data -/
theorem DX.told {ms : List Str} {x y : Int} {b : Bool} {l : Nat} (h : OX K CO t σ H0 ms x y b l) : DX K (tCall (sp_told K CO) [] E0 (tCons t tNil)) σ H0 (outD ms x y b l) := fun H s R k => h H s _ fun o H1 s1 ho => ⟨o, ms, x, y, b, l, rfl, ho, fun q H' s' hq => k _ H' (s1.trans s') hq⟩
theorem DX.con {v : V} {d : PyData} (h : ∀ H, Dp K H v d) : DX K (tC v) σ H0 d := fun H _ _ k => k v H (Same.refl _) (h H)
theorem DX.of {v : V} {d : PyData} (h : VX t σ H0 v) (g : ∀ H, Dp K H v d) : DX K t σ H0 d := fun H s R k => h H s _ fun H1 s1 => k v H1 s1 (g H1)
theorem DX.var {i : Nat} {v : V} {d : PyData} (h : σ[i]? = some (some v)) (g : Dp K H0 v d) : DX K (tVar i) σ H0 d := fun H s R k => ⟨v, h, k v H (Same.refl _) (dp_sm s g)⟩
theorem DA.nil : DA K tNil σ H0 [] := fun H _ _ k => k [] H (Same.refl _) .nil
theorem DA.cons {d : PyData} {ds : List PyData} (h : DX K t σ H0 d) (g : DA K ta σ H0 ds) : DA K (tCons t ta) σ H0 (d :: ds) := fun H s R k => h H s _ fun v H1 s1 h1 => g H1 (s.trans s1) _ fun vs H2 s2 h2 => k (v :: vs) H2 (s1.trans s2) (.cons (dp_sm s2 h1) h2)
theorem dpa_len {H : Hp} : ∀ {vs : List V} {ds : List PyData}, DpAll K H vs ds → vs.length = ds.length
  | _, _, .nil => rfl
  | _, _, .cons _ h => congrArg Nat.succ (dpa_len h)
theorem DX.tup {ds : List PyData} (h : DA K ta σ H0 ds) (n : ds.length ≤ 1000000) : DX K (tTupN ta) σ H0 (.tuple ds) := fun H s R k => h H s _ fun vs H1 s1 h1 => ⟨by rw [dpa_len h1]; exact n, fun q H2 _ s2 hq => k (.ref q) H2 (s1.trans s2) (.tup (SqT.of hq) (dpa_sm s2 h1))⟩
/-- data of o.marks, o.rods -/
theorem DX.marks {ms : List Str} {x y : Int} {b : Bool} {l : Nat} (Ou : OuT K CO) (h : OX K CO t σ H0 ms x y b l) : DX K (tFld K t "marks") σ H0 (.tuple (ms.map .str)) := fun H s R k => h H s _ fun o H1 s1 ⟨dx, m, r, h1, h2, h3⟩ => ⟨o, CO, dx, _, _, rfl, h1, Ou.ins.cl, Ou.no "marks" (by simp), rfl, k _ H1 s1 (.tup h2 dp_strs)⟩
theorem DX.rods {ms : List Str} {x y : Int} {b : Bool} {l : Nat} (Ou : OuT K CO) (h : OX K CO t σ H0 ms x y b l) : DX K (tFld K t "rods") σ H0 (.tuple [.int x, .int y]) := fun H s R k => h H s _ fun o H1 s1 ⟨dx, m, r, h1, h2, h3⟩ => ⟨o, CO, dx, _, _, rfl, h1, Ou.ins.cl, Ou.no "rods" (by simp), rfl, k _ H1 s1 (.tup (SqT.of h3) (.cons (.int _) (.cons (.int _) .nil)))⟩
/-- a test whether they differ, that are alike -/
theorem ne_data {d e : PyData} {H : Hp} (h : DX K t σ H0 d) (g : DX K t1 σ H0 e) (sd : SeqAt.shaped d = true) (se : SeqAt.shaped e = true) (q : PyData.eqv d e = true) (s : Same H0 H) {R : Bool → Hp → Prop} (k : ∀ H', Same H H' → R false H') : tTest (tOp (rNeD K) t t1) σ H R := h H s _ fun v H1 s1 h1 => g H1 (s.trans s1) _ fun u H2 s2 h2 => ⟨d, e, dp_sm s2 h1, h2, sd, se, false, by rw [q]; rfl, k H2 (s1.trans s2)⟩
/-- ints -/
theorem VX.op0 {f : Int → Int → V} {i j : Int} (h : VX t1 σ H0 (.int i)) (g : VX t2 σ H0 (.int j)) : VX (tOp (rI0 f) t1 t2) σ H0 (f i j) := fun H s R k => h H s _ fun H1 s1 => g H1 (s.trans s1) _ fun H2 s2 => ⟨i, j, rfl, rfl, k H2 (s1.trans s2)⟩
theorem VX.opI {C : Int → Int → Prop} {f : Int → Int → V} {i j : Int} (cc : C i j) (h : VX t1 σ H0 (.int i)) (g : VX t2 σ H0 (.int j)) : VX (tOp (rI C f) t1 t2) σ H0 (f i j) := fun H s R k => h H s _ fun H1 s1 => g H1 (s.trans s1) _ fun H2 s2 => ⟨i, j, rfl, rfl, cc, k H2 (s1.trans s2)⟩
theorem VX.toInt {b : Bool} (h : VX t σ H0 (.bl b)) : VX (tCB (fun xs H Q => ∃ k, xs = [V.bl k] ∧ Q (V.int (if k = true then 1 else 0)) H) (tCons t tNil)) σ H0 (.int (if b = true then 1 else 0)) := fun H s R k => h H s _ fun H1 s1 => ⟨b, rfl, k H1 s1⟩
theorem VX.ne {i j : Int} (h : VX t1 σ H0 (.int i)) (g : VX t2 σ H0 (.int j)) : VX (tOp rNe t1 t2) σ H0 (.bl (!decide (V.int i = V.int j))) := fun H s R k => h H s _ fun H1 s1 => g H1 (s.trans s1) _ fun H2 s2 => ⟨rfl, k H2 (s1.trans s2)⟩
theorem DX.int {i : Int} (h : VX t σ H0 (.int i)) : DX K t σ H0 (.int i) := .of h fun _ => .int i
theorem DX.two {i j : Int} (h : VX t1 σ H0 (.int i)) (g : VX t2 σ H0 (.int j)) : DX K (tTupN (tCons t1 (tCons t2 tNil))) σ H0 (.tuple [.int i, .int j]) := .tup (.cons (.int h) (.cons (.int g) .nil)) (by show 2 ≤ 1000000; decide)
theorem DX.out {ms : List Str} {x y : Int} {b : Bool} {l : Nat} (h1 : DX K t σ H0 (.tuple (ms.map .str))) (h2 : DX K t1 σ H0 (.tuple [.int x, .int y])) (h3 : VX t2 σ H0 (.bl b)) (h4 : VX t3 σ H0 (.int (l : Nat))) : DX K (tTupN (tCons t (tCons t1 (tCons t2 (tCons t3 tNil))))) σ H0 (outD ms x y b l) := .tup (.cons h1 (.cons h2 (.cons (.of h3 fun _ => .bl b) (.cons (.int h4) .nil)))) (by show 4 ≤ 1000000; decide)
theorem eq_data {d e : PyData} (h : DX K t σ H0 d) (g : DX K t1 σ H0 e) (sd : SeqAt.shaped d = true) (se : SeqAt.shaped e = true) (q : PyData.eqv d e = true) : VX (tOp (rEqD K) t t1) σ H0 (.bl true) := fun H s R k => h H s _ fun v H1 s1 h1 => g H1 (s.trans s1) _ fun u H2 s2 h2 => ⟨d, e, dp_sm s2 h1, h2, sd, se, by rw [q]; exact k H2 (s1.trans s2)⟩
theorem ne_out {ms : List Str} {x y : Int} {b : Bool} {l : Nat} {H : Hp} (hs : ∀ z ∈ ms, PyData.strOk z = true) (h : DX K t σ H0 (outD ms x y b l)) (g : DX K t1 σ H0 (outD ms x y b l)) (s : Same H0 H) {R : Bool → Hp → Prop} (k : ∀ H', Same H H' → R false H') : tTest (tOp (rNeD K) t t1) σ H R := ne_data h g (outD_shaped hs) (outD_shaped hs) outD_refl s k
theorem eq_out {ms : List Str} {x y : Int} {b : Bool} {l : Nat} (hs : ∀ z ∈ ms, PyData.strOk z = true) (h : DX K t σ H0 (outD ms x y b l)) (g : DX K t1 σ H0 (outD ms x y b l)) : VX (tOp (rEqD K) t t1) σ H0 (.bl true) := eq_data h g (outD_shaped hs) (outD_shaped hs) outD_refl
theorem mulW {i j : Int} (h : i.natAbs < 2 ^ 200) (g : j.natAbs < 2 ^ 200) : CMulW i j := by
  have := PySem.Flt.log2_lt_of (by decide) h
  have := PySem.Flt.log2_lt_of (by decide) g
  show i.natAbs.log2 + j.natAbs.log2 < 1000000
  omega
theorem VX.eq {i j : Int} (h : VX t1 σ H0 (.int i)) (g : VX t2 σ H0 (.int j)) : VX (tOp rEq t1 t2) σ H0 (.bl (decide (V.int i = V.int j))) := fun H s R k => h H s _ fun H1 s1 => g H1 (s.trans s1) _ fun H2 s2 => ⟨rfl, k H2 (s1.trans s2)⟩
theorem VX.not {b : Bool} (h : VX t σ H0 (.bl b)) : VX (tNotV t) σ H0 (.bl (!b)) := fun H s R k => h H s _ fun H1 s1 => ⟨b, rfl, k H1 s1⟩
theorem VX.to {v v' : V} (h : VX t σ H0 v) (e : v = v') : VX t σ H0 v' := e ▸ h
theorem DX.ite {i : Nat} {b : Bool} {d : PyData} (h : σ[i]? = some (some (.bl b))) (g1 : b = true → DX K t1 σ H0 d) (g2 : b = false → DX K t2 σ H0 d) : DX K (tIf (tB (tVar i)) t1 t2) σ H0 d := fun H s R k => by
  refine ⟨_, h, b, rfl, ?_⟩
  cases b with
  | true => exact g1 rfl H s R k
  | false => exact g2 rfl H s R k
/-- a test beside what it must come to -/
def PrAt (K : PySem.W.Frag) (c : Clz) (H : Hp) (v : V) (u : Tst) (b : Bool) : Prop := ∃ q a, v = .ref q ∧ H q = some (.tup [.ref a, .bl b]) ∧ TstAt K c H a u
theorem PrAt.sm {H H' : Hp} {v : V} {u : Tst} {b : Bool} (h : PrAt K c H v u b) (s : Same H H') : PrAt K c H' v u b := by
  obtain ⟨q, a, e, h1, h2⟩ := h
  exact ⟨q, a, e, s _ _ h1, h2.tk (TK.same s)⟩
def TP (K : PySem.W.Frag) (c : Clz) (t : TE) (σ : L2.St) (H0 : Hp) (u : Tst) (b : Bool) : Prop := ∀ H, Same H0 H → ∀ R : VK, (∀ v H', Same H H' → PrAt K c H' v u b → R v H') → t σ H R
theorem TP.mk {u : Tst} {b : Bool} (h : TX K c t σ H0 u) (g : VX t1 σ H0 (.bl b)) : TP K c (tTupN (tCons t (tCons t1 tNil))) σ H0 u b := fun H s R k => h H s _ fun a H1 s1 ha => g H1 (s.trans s1) _ fun H2 s2 => ⟨by show 2 ≤ 1000000; decide, fun q H3 _ s3 hq => k _ H3 (s1.trans (s2.trans s3)) ⟨q, a, rfl, hq, ha.tk (TK.same (s2.trans s3))⟩⟩
/-- a list of three -/
def L3 (K : PySem.W.Frag) (c : Clz) (t : TE) (σ : L2.St) (H0 : Hp) (P : Tst → Bool → Prop) : Prop := ∀ H, Same H0 H → ∀ R : VK, (∀ l xs H', Same H H' → H' l = some (.lst xs) → (∀ (i : Nat) (v : V), xs[i]? = some v → ∃ u b, PrAt K c H' v u b ∧ P u b) → R (.ref l) H') → t σ H R
theorem L3.mk {P : Tst → Bool → Prop} {u1 u2 u3 : Tst} {b1 b2 b3 : Bool} (h1 : TP K c t1 σ H0 u1 b1) (h2 : TP K c t2 σ H0 u2 b2) (h3 : TP K c t3 σ H0 u3 b3) (p1 : P u1 b1) (p2 : P u2 b2) (p3 : P u3 b3) : L3 K c (tLstN (tCons t1 (tCons t2 (tCons t3 tNil)))) σ H0 P := fun H s R k => h1 H s _ fun v1 H1 s1 g1 => h2 H1 (s.trans s1) _ fun v2 H2 s2 g2 => h3 H2 (s.trans (s1.trans s2)) _ fun v3 H3 s3 g3 => ⟨by show 3 ≤ 1000000; decide, fun l H4 _ s4 hl => k l _ H4 (s1.trans (s2.trans (s3.trans s4))) hl fun i v hv => by
  have hm := List.mem_of_getElem? hv
  simp only [List.mem_cons, List.not_mem_nil, or_false] at hm
  rcases hm with rfl | rfl | rfl
  · exact ⟨u1, b1, g1.sm (s2.trans (s3.trans s4)), p1⟩
  · exact ⟨u2, b2, g2.sm (s3.trans s4), p2⟩
  · exact ⟨u3, b3, g3.sm s4, p3⟩⟩
/-- a walk over three tests -/
theorem for_L3 {P : Tst → Bool → Prop} {D : Ends} {g : TG} {tb : TS} {H : Hp} (hL : L3 K c t σ H0 P) (s : Same H0 H) (Iv : Hp → L2.St → Hp → Prop) (h0 : ∀ H1, Same H H1 → Iv H1 σ H1) (hk : ∀ H1 σ H', Iv H1 σ H' → Same H1 H')
    (hb : ∀ H1 H' v u b σ, Same H H1 → Iv H1 σ H' → PrAt K c H' v u b → P u b → g v σ H' fun σ2 H2 => tb { D with nx := Iv H1, ct := Iv H1, bk := D.nx } σ2 H2) (hd : ∀ H1 σ H', Same H H1 → Iv H1 σ H' → D.nx σ H') : tFor (iList K t) g tb D σ H :=
  hL H s _ fun l xs H1 s1 hl hall => ⟨l, rfl, ⟨_, SqL.of hl⟩, for_list (xs := xs) (fun _ σ H' => Iv H1 σ H') (h0 H1 s1) (fun i σ H' _ q => SqL.of (hk _ _ _ q _ _ hl)) (fun i v σ H2 hi q => by
    obtain ⟨u, b, hv, hp⟩ := hall i v hi
    exact hb H1 H2 v u b σ s1 q (hv.sm (hk _ _ _ q)) hp) (fun σ H2 q => hd H1 σ H2 s1 q)⟩
theorem VX.ite {tc : TE} {b : Bool} {v : V} (hc : VX tc σ H0 (.bl b)) (g1 : b = true → VX t1 σ H0 v) (g2 : b = false → VX t2 σ H0 v) : VX (tIf (tTest tc) t1 t2) σ H0 v := fun H s R k => hc H s _ fun H1 s1 => by
  refine ⟨b, rfl, ?_⟩
  cases b with
  | true => exact g1 rfl H1 (s.trans s1) R fun H' s' => k H' (s1.trans s')
  | false => exact g2 rfl H1 (s.trans s1) R fun H' s' => k H' (s1.trans s')
/-- one text in a tuple, taken k times -/
theorem DX.rep {z : Str} {k : Nat} (hk : k ≤ 1000) (h : DX K t σ H0 (.tuple [.str z])) (g : VX t1 σ H0 (.int (k : Nat))) : DX K (tOp (rRepTA K) t t1) σ H0 (.tuple ((List.replicate k z).map .str)) := fun H s R kk => h H s _ fun v H1 s1 h1 => g H1 (s.trans s1) _ fun H2 s2 => by
  cases dp_sm s2 h1 with
  | @tup a xs ds hs ha =>
    cases ha with
    | cons h1 h2 =>
      cases h1
      cases h2
      refine ⟨a, k, [.str z], rfl, rfl, hs, by simp, hk, by show 1 ≤ 1000; decide, fun p H' s' hp => kk _ H' (s1.trans (s2.trans s')) (.tup (xs := (List.replicate k z).map V.str) ?_ dp_strs)⟩
      rw [rep1] at hp
      rw [List.map_replicate]
      exact hp
end
end Pg
open Pg

section
variable {P : Program} {w : World} {K : PySem.W.Frag} {mg : Str → Option Value} {base : Heap}
theorem ok_two {f : Addr} {fd : FuncData} (F : Fun K "_law_two" "_law_two" S__law_two f fd) (T : Txt K mg) (C_draw : FnC P w K mg base CX0 1 "_law_draw" ["_law_deal_here", "_law_many"] sp_draw) (C_pick : FnC P w K mg base CX0 2 "_law_pick" ["_law_deal_here", "_law_some"] (sp_pick K)) : FnOk P w K mg base CX0 4 f fd ["_law_deal_here"] sp_two := by
  refine F.ok SC__law_two (fun vs H Q E h => ?_) (fun cdv A outer s H vs Q E hr h => ?_)
  · obtain ⟨B, rfl, _⟩ := h
    rfl
  · obtain ⟨B, rfl, hb, k⟩ := h
    refine ⟨_, (pss_cons (ps_par (i := 1) (j := 2) (by rfl) SC__law_two.nd rfl rfl (by decide) rfl rfl (pa_cons (pe_callC C_draw (hr.mono (by omega)) rfl (pa_cons (pv 0) (pa_cons pe_int pa_nil))) (pa_cons (pe_op op_add pe_int (pe_callC C_draw (hr.mono (by omega)) rfl (pa_cons (pv 0) (pa_cons (pe_callC C_pick (hr.mono (by omega)) rfl (pa_cons (pv 0) (pa_cons (pe_lstN (pa_cons pe_int (pa_cons pe_int (pa_cons (pe_op op_pow pe_int pe_int) (pa_cons (pe_op op_pow pe_int pe_int) pa_nil))))) pa_nil))) pa_nil)))) pa_nil)) (by rfl))
      (pss_cons (ps_if (pt_cmpR op_eq (pv 1) pe_int (nomark _)) (pss_one (ps_ret (pe_tupN (pa_cons (pv 2) (pa_cons (pv 2) pa_nil))))) pss_nil)
      (pss_one (ps_ret (pe_tupN (pa_cons (pe_op op_mulW (pv 2) (pe_op op_add pe_int (pe_callC C_draw (hr.mono (by omega)) rfl (pa_cons (pv 0) (pa_cons pe_int pa_nil))))) (pa_cons (pe_op op_mulW (pv 2) (pe_op op_add pe_int (pe_callC C_draw (hr.mono (by omega)) rfl (pa_cons (pv 0) (pa_cons pe_int pa_nil))))) pa_nil))))))), ?_⟩
    have W0 := Hb.start hb
    refine ⟨_, rfl, B, _, rfl, hb, by decide, by decide, fun f H1 f0 f1 kp1 hb1 => ?_⟩
    have W1 := W0.keep kp1 hb1
    refine ⟨_, rfl, _, rfl, _, _, rfl, rfl, ⟨by decide, by decide, by decide⟩, _, _, rfl, rfl, ⟨by decide, by decide, by decide⟩, by show 4 ≤ 1000000; decide, W1.nw fun p H2 _ _ _ W2 => ?_⟩
    refine ⟨B, p, _, rfl, W2.box, (W2.ne (.head _)).1, (W2.ne (.head _)).2, .inl (SqL.of (W2.get (.head _))), by show 0 < 4; decide, by show 4 ≤ 100000; decide, fun d v H3 hd kp3 hb3 => ?_⟩
    have W3 := W2.keep kp3 hb3
    have hi : ∃ i : Int, v = .int i ∧ 1 ≤ i ∧ i ≤ 10000000000000000000000000000 := by
      have hm := List.mem_of_getElem? hd
      simp only [List.mem_cons, List.not_mem_nil, or_false] at hm
      rcases hm with rfl | rfl | rfl | rfl
      · exact ⟨1, rfl, by decide, by decide⟩
      · exact ⟨20, rfl, by decide, by decide⟩
      · exact ⟨_, rfl, by decide, by decide⟩
      · exact ⟨_, rfl, by decide, by decide⟩
    obtain ⟨i, rfl, i0, i1⟩ := hi
    refine ⟨B, i, rfl, hb3, by omega, i1, fun e H4 e0 e1 kp4 hb4 => ⟨_, _, rfl, rfl, _, _, rfl, ?_⟩⟩
    have W4 := W3.keep kp4 hb4
    refine ⟨_, rfl, rfl, _, rfl, ite2 (fun c => ?_) fun c => ?_⟩
    · refine ⟨_, rfl, _, rfl, by show 2 ≤ 1000000; decide, W4.nw fun q H5 _ _ _ W5 => ?_⟩
      exact k (1 + e) (1 + e) q H5 ⟨1 + e, 1, 1, by omega, by omega, by decide, by decide, by decide, by decide, (Int.mul_one _).symm, (Int.mul_one _).symm⟩ (W5.get (.head _)) W5.tl.kp W5.tl.box
    · have lg : ∀ a : Int, 0 ≤ a → a < 12 → (1 + e).natAbs.log2 + (1 + a).natAbs.log2 < 1000000 := by
        intro a a0 a1
        have q1 : (1 + e).natAbs < 2 ^ 100 := by omega
        have q2 : (1 + a).natAbs < 2 ^ 100 := by omega
        have := PySem.Flt.log2_lt_of (by decide) q1
        have := PySem.Flt.log2_lt_of (by decide) q2
        omega
      refine ⟨_, rfl, _, rfl, B, _, rfl, hb4, by decide, by decide, fun a H5 a0 a1 kp5 hb5 => ⟨_, _, rfl, rfl, _, _, rfl, rfl, lg a a0 a1, ?_⟩⟩
      have W5 := W4.keep kp5 hb5
      refine ⟨_, rfl, _, rfl, B, _, rfl, hb5, by decide, by decide, fun b H6 b0 b1 kp6 hb6 => ⟨_, _, rfl, rfl, _, _, rfl, rfl, lg b b0 b1, ?_⟩⟩
      have W6 := W5.keep kp6 hb6
      refine ⟨by show 2 ≤ 1000000; decide, W6.nw fun q H7 _ _ _ W7 => ?_⟩
      exact k _ _ q H7 ⟨1 + e, 1 + a, 1 + b, by omega, by omega, by omega, by omega, by omega, by omega, rfl, rfl⟩ (W7.get (.head _)) W7.tl.kp W7.tl.box
theorem ok_told {f CO : Addr} {fd : FuncData} (F : Fun K "_law_told" "_law_told" S__law_told f fd) (T : Txt K mg) (Ou : OuT K CO) : FnOk P w K mg base CX0 1 f fd ["_law_outcome"] (sp_told K CO) := by
  refine F.ok SC__law_told (fun vs H Q E h => ?_) (fun cdv A outer s H vs Q E hr h => ?_)
  · obtain ⟨o, ms, x, y, b, l, rfl, _⟩ := h
    rfl
  · obtain ⟨o, ms, x, y, b, l, rfl, ⟨dx, m, r, h1, h2, h3⟩, k⟩ := h
    refine ⟨_, (pss_one (ps_ret (pe_tupN (pa_cons (pe_fld (pv 0) rfl) (pa_cons (pe_fld (pv 0) rfl) (pa_cons (pe_fld (pv 0) rfl) (pa_cons (pe_fld (pv 0) rfl) pa_nil))))))), ?_⟩
    refine ⟨_, rfl, o, CO, dx, _, _, rfl, h1, Ou.ins.cl, Ou.no "marks" (by simp), rfl, _, rfl, o, CO, dx, _, _, rfl, h1, Ou.ins.cl, Ou.no "rods" (by simp), rfl, _, rfl, o, CO, dx, _, _, rfl, h1, Ou.ins.cl, Ou.no "stopped" (by simp), rfl, _, rfl, o, CO, dx, _, _, rfl, h1, Ou.ins.cl, Ou.no "layings" (by simp), rfl, by show 4 ≤ 1000000; decide, fun q H1 n1 s1 hq => k q H1 s1 ?_⟩
    exact .tup (SqT.of hq) (.cons (.tup (sqT_tk (TK.same s1) h2) dp_strs) (.cons (.tup (SqT.of (s1 _ _ h3)) (.cons (.int _) (.cons (.int _) .nil))) (.cons (.bl _) (.cons (.int _) .nil))))
theorem ok_simple {f IR IC IN CC CP CO eT eP eR : Addr} {fd : FuncData} {c : Clz} (F : Fun K "_law_simple_right" "_law_simple_right" S__law_simple_right f fd) (T : Txt K mg) (Hc : Hi K mg c) (Rc : ChT K mg c.change) (Mr : MkR P w K mg base c IR IC) (Mp : MkC P w K mg base CX0 25 CP "Program" ["self", "rows", "notes"] (sp_pginit K c CP)) (Mp1 : MkD P w K mg base CX0 25 CP "Program" ["self", "rows", "notes"] (sp_pginit K c CP) [.ref eP]) (Mp0 : MkD P w K mg base CX0 25 CP "Program" ["self", "rows", "notes"] (sp_pginit K c CP) [.ref eR, .ref eP]) (hE : ∀ H, SqV K H eT []) (hP : ∀ H, SqV K H eP []) (hR : ∀ H, SqV K H eR [])
    (C_run : FnC P w K mg base CX0 15 "run" ["program", "first", "second"] (sp_runB K c CP CO)) (hfnc : ∀ f, Meth K CP "__call__" f → PySem.W.fnIn K f = true) (M_pcall : MtC P w K mg base CX0 16 CP "__call__" ["self", "first", "second"] (sp_runB K c CP CO)) (C_told : FnC P w K mg base CX0 1 "_law_told" ["_law_outcome"] (sp_told K CO)) (C_change : FnC P w K mg base CX0 3 "_law_change" ["_law_deal_here"] sp_change) : FnOk P w K mg base CX0 27 f fd ["_law_deal_here", "_law_x", "_law_y"] (sp_simple) := by
  refine F.ok SC__law_simple_right (fun vs H Q E h => ?_) (fun cdv A outer s H vs Q E hr h => ?_)
  · obtain ⟨B, x, y, rfl, _⟩ := h
    rfl
  · obtain ⟨B, x, y, rfl, hb, hxy, k⟩ := h
    refine ⟨_, (pss_cons (ps_set (i := 3) SC__law_simple_right.nd rfl (.inl rfl) (pe_callC C_change (hr.mono (by omega)) rfl (pa_cons (pv 0) pa_nil)))
      (pss_cons (ps_asg (pv 3) (pg_tup rfl (pgs_cons (pg_name (i := 4) SC__law_simple_right.nd rfl (.inl rfl)) (pgs_cons (pg_name (i := 5) SC__law_simple_right.nd rfl (.inl rfl)) (pgs_cons (pg_name (i := 6) SC__law_simple_right.nd rfl (.inl rfl)) (pgs_cons (pg_name (i := 7) SC__law_simple_right.nd rfl (.inl rfl)) pgs_nil))))))
      (pss_cons (ps_set (i := 8) SC__law_simple_right.nd rfl (.inl rfl) (pe_makeD Mp1 (hr.mono (by omega)) rfl (pa_cons (pe_lstN (pa_cons (pe_makeC Mr.make (hr.mono (by omega)) rfl (pa_cons (pe_makeC Mr.change (hr.mono (by omega)) rfl (pa_cons (pv 4) (pa_cons (pv 5) (pa_cons (pv 6) (pa_cons (pv 7) pa_nil))))) pa_nil)) (pa_cons (pe_makeC Mr.tell (hr.mono (by omega)) rfl (pa_cons pe_str pa_nil)) pa_nil))) pa_nil)))
      (pss_cons (ps_set (i := 9) SC__law_simple_right.nd rfl (.inl rfl) (pe_tupN (pa_cons (pe_op op_add (pe_op op_mulW (pv 4) (pv 1)) (pe_op op_mulW (pv 5) (pv 2))) (pa_cons (pe_op op_add (pe_op op_mulW (pv 6) (pv 1)) (pe_op op_mulW (pv 7) (pv 2))) pa_nil))))
      (pss_cons (ps_if (pt_cmpR (op_neD (Nat.lt_of_succ_lt (hu65 hr))) (pe_callC C_told (hr.mono (by omega)) rfl (pa_cons (pe_callC C_run (hr.mono (by omega)) rfl (pa_cons (pv 8) (pa_cons (pv 1) (pa_cons (pv 2) pa_nil)))) pa_nil)) (pe_tupN (pa_cons (pe_tupN (pa_cons pe_str pa_nil)) (pa_cons (pv 9) (pa_cons pe_bl (pa_cons pe_int pa_nil))))) (nomark _)) (pss_one (ps_ret pe_bl)) pss_nil)
      (pss_cons (ps_set (i := 10) SC__law_simple_right.nd rfl (.inl rfl) (pe_tupN (pa_cons (pe_op op_sub (pv 1) (pe_op op_mulW (pv 2) (pe_callTy call_intB (by rfl) T.b_int (by decide +kernel) (pa_cons (pe_cmpR op_gt (pv 1) (pv 2) (nomark _)) pa_nil)))) (pa_cons (pe_op op_sub (pv 2) (pe_op op_mulW (pv 1) (pe_callTy call_intB (by rfl) T.b_int (by decide +kernel) (pa_cons (pe_cmpR op_gt (pv 2) (pv 1) (nomark _)) pa_nil)))) pa_nil))))
      (pss_cons (ps_if (pt_cmpR (op_neD (Nat.lt_of_succ_lt (hu65 hr))) (pe_callC C_told (hr.mono (by omega)) rfl (pa_cons (pe_instEC M_pcall hfnc (hr.mono (by omega)) (pe_makeD Mp1 (hr.mono (by omega)) rfl (pa_cons (pe_lstN (pa_cons (pe_make0C Mr.lay (hr.mono (by omega)) rfl) pa_nil)) pa_nil)) (pa_cons (pv 1) (pa_cons (pv 2) pa_nil))) pa_nil)) (pe_tupN (pa_cons (pe_tupN pa_nil) (pa_cons (pv 10) (pa_cons pe_bl (pa_cons (pe_callTy call_intB (by rfl) T.b_int (by decide +kernel) (pa_cons (pe_cmpR op_ne (pv 1) (pv 2) (nomark _)) pa_nil)) pa_nil))))) (nomark _)) (pss_one (ps_ret pe_bl)) pss_nil)
      (pss_cons (ps_if (pt_cmpR (op_neD (Nat.lt_of_succ_lt (hu65 hr))) (pe_callC C_told (hr.mono (by omega)) rfl (pa_cons (pe_callC C_run (hr.mono (by omega)) rfl (pa_cons (pe_makeD Mp1 (hr.mono (by omega)) rfl (pa_cons (pe_lstN (pa_cons (pe_make0C Mr.exch (hr.mono (by omega)) rfl) (pa_cons (pe_make0C Mr.stop (hr.mono (by omega)) rfl) (pa_cons (pe_makeC Mr.tell (hr.mono (by omega)) rfl (pa_cons pe_str pa_nil)) (pa_cons (pe_make0C Mr.lay (hr.mono (by omega)) rfl) pa_nil))))) pa_nil)) (pa_cons (pv 1) (pa_cons (pv 2) pa_nil)))) pa_nil)) (pe_tupN (pa_cons (pe_tupN pa_nil) (pa_cons (pe_tupN (pa_cons (pv 2) (pa_cons (pv 1) pa_nil))) (pa_cons pe_bl (pa_cons pe_int pa_nil))))) (nomark _)) (pss_one (ps_ret pe_bl)) pss_nil)
      (pss_one (ps_ret (pe_cmpR (op_eqD (Nat.lt_of_succ_lt (hu65 hr))) (pe_callC C_told (hr.mono (by omega)) rfl (pa_cons (pe_callC C_run (hr.mono (by omega)) rfl (pa_cons (pe_makeD0 Mp0 (hr.mono (by omega)) rfl) (pa_cons (pv 1) (pa_cons (pv 2) pa_nil)))) pa_nil)) (pe_tupN (pa_cons (pe_tupN pa_nil) (pa_cons (pe_tupN (pa_cons (pv 1) (pa_cons (pv 2) pa_nil))) (pa_cons pe_bl (pa_cons pe_int pa_nil))))) (nomark _)))))))))))), ?_⟩
    obtain ⟨x0, y0, x1, y1⟩ := two_bd hxy
    have sm : PyData.strOk "m" = true := by decide +kernel
    refine ⟨_, rfl, B, rfl, hb, fun m q H1 hm hq kp1 hb1 => ?_⟩
    have bm := mats_in hm
    refine ⟨_, rfl, q, _, rfl, SqT.of hq, rfl, ?_⟩
    refine ⟨_, _, rfl, _, _, rfl, _, _, rfl, _, _, rfl, rfl, ?_⟩
    have us : UsesOk [] [.make m, .tell "m"] := uses_of (by kernel_rfl)
    have dp : deepL [.make m, .tell "m"] ≤ 4 := by show max 0 (max 0 0) ≤ 4; decide
    have sz : (innerL [.make m, .tell "m"]).length ≤ 1000 := by show 2 ≤ 1000; decide
    dsimp only [tSeq, tAsg]
    refine PX.one hP us dp sz ?_ H1 (Same.refl _) _ fun p H2 s2 hp => ?_
    · refine SX.lst (RL.cons ?_ (RL.cons ?_ RL.nil)) (by show 2 ≤ 1000000; decide)
      · exact RX.make hm Rc (VX.var rfl) (VX.var rfl) (VX.var rfl) (VX.var rfl)
      · exact RX.tell (by decide +kernel) (VX.con _)
    have a0 := bm.a0
    have a1 := bm.a1
    have b0 := bm.b0
    have b1 := bm.b1
    have c0 := bm.c0
    have c1 := bm.c1
    have d0 := bm.d0
    have d1 := bm.d1
    dsimp only [tSeq, tAsg, gName]
    refine DX.two (K := K) (VX.op0 (VX.opI (mulW (by omega) (by omega)) (VX.var rfl) (VX.var rfl)) (VX.opI (mulW (by omega) (by omega)) (VX.var rfl) (VX.var rfl))) (VX.op0 (VX.opI (mulW (by omega) (by omega)) (VX.var rfl) (VX.var rfl)) (VX.opI (mulW (by omega) (by omega)) (VX.var rfl) (VX.var rfl))) H2 (Same.refl _) _ fun v9 H3 s3 h9 => ?_
    dsimp only [tSeq, tAsg, gName, tIfS]
    have hp3 := hp.tk (TK.same s3)
    refine ne_out (K := K) (H0 := H3) (ms := ["m"]) (x := m.a * x + m.b * y) (y := m.c * x + m.d * y) (b := false) (l := 0) (fun z hz => by cases List.mem_singleton.mp hz; exact sm) ?_ ?_ (Same.refl _) fun H4 s4 => ?_
    · exact DX.told (OX.to (OX.run (ns := []) notes_nil (Nat.zero_le _) x0 y0 (runs_A hm x0 y0 x1 y1) (PX.var rfl hp3) (VX.var rfl) (VX.var rfl)) rfl rfl rfl rfl rfl)
    · exact DX.out (DX.tup (.cons (DX.con fun _ => .str _) .nil) (by show 1 ≤ 1000000; decide)) (DX.var rfl h9) (VX.con _) (VX.con _)
    refine ifF rfl ?_
    have B4 : BoxAt H4 B := hb1.same (s2.trans (s3.trans s4))
    have k4 : ∀ H', Same H4 H' → Q (.bl true) H' := fun H' s' => k H' (kp1.trans (Keep.same (s2.trans (s3.trans (s4.trans s'))))) (B4.same s')
    dsimp only [tNext, tSeq, tAsg, gName]
    refine DX.two (K := K) (VX.op0 (VX.var rfl) (VX.opI (mulW (by omega) ?_) (VX.var rfl) (VX.toInt (VX.op0 (VX.var rfl) (VX.var rfl))))) (VX.op0 (VX.var rfl) (VX.opI (mulW (by omega) ?_) (VX.var rfl) (VX.toInt (VX.op0 (VX.var rfl) (VX.var rfl))))) H4 (Same.refl _) _ fun v10 H5 s5 h10 => ?_
    · split <;> decide
    · split <;> decide
    dsimp only [tNext, tSeq, tAsg, gName, tIfS]
    have us1 : UsesOk [] [.lay] := uses_of (by kernel_rfl)
    have us2 : UsesOk [] [.exch, .stop, .tell "a", .lay] := uses_of (by kernel_rfl)
    have dp2 : deepL [.exch, .stop, .tell "a", .lay] ≤ 4 := by show max 0 (max 0 (max 0 (max 0 0))) ≤ 4; decide
    have sz2 : (innerL [.exch, .stop, .tell "a", .lay]).length ≤ 1000 := by show 4 ≤ 1000; decide
    refine ne_out (K := K) (H0 := H5) (ms := []) (x := x - y * (if decide (y < x) = true then 1 else 0)) (y := y - x * (if decide (x < y) = true then 1 else 0)) (b := false) (l := 0 + (if x = y then 0 else 1)) (fun z hz => absurd hz List.not_mem_nil) ?_ ?_ (Same.refl _) fun H6 s6 => ?_
    · refine DX.told (OX.to (OX.call (ns := []) notes_nil (Nat.zero_le _) x0 y0 (runs_B x0 y0 x1 y1) (PX.one hP us1 (Nat.zero_le _) (by show 1 ≤ 1000; decide) (SX.lst (RL.cons RX.ini RL.nil) (by show 1 ≤ 1000000; decide))) (VX.var rfl) (VX.var rfl)) rfl ?_ ?_ rfl rfl)
      · show (if y < x then x - y else x) = _
        by_cases h : y < x
        · rw [if_pos h, if_pos (decide_eq_true h), Int.mul_one]
        · rw [if_neg h, if_neg (by rw [decide_eq_false h]; decide), Int.mul_zero, Int.sub_zero]
      · show (if x < y then y - x else y) = _
        by_cases h : x < y
        · rw [if_pos h, if_pos (decide_eq_true h), Int.mul_one]
        · rw [if_neg h, if_neg (by rw [decide_eq_false h]; decide), Int.mul_zero, Int.sub_zero]
    · refine DX.out (DX.tup .nil (by show 0 ≤ 1000000; decide)) (DX.var rfl h10) (VX.con _) ?_
      have e : (((0 + (if x = y then 0 else 1) : Nat)) : Int) = if (!decide (V.int x = V.int y)) = true then 1 else 0 := by
        by_cases h : x = y
        · subst h
          simp
        · have : V.int x ≠ V.int y := fun e => h (by injection e)
          rw [if_neg h, decide_eq_false this]; rfl
      rw [e]
      exact VX.toInt (VX.ne (VX.var rfl) (VX.var rfl))
    refine ifF rfl ?_
    show tTest _ _ _ _
    refine ne_out (K := K) (H0 := H6) (ms := []) (x := y) (y := x) (b := true) (l := 0) (fun z hz => absurd hz List.not_mem_nil) ?_ ?_ (Same.refl _) fun H7 s7 => ?_
    · refine DX.told (OX.to (OX.run (ns := []) notes_nil (Nat.zero_le _) x0 y0 (runs_C (rs := [.tell "a", .lay]) ⟨trivial, trivial, trivial⟩ x0 y0 x1 y1) (PX.one hP us2 dp2 sz2 (SX.lst (RL.cons RX.ini (RL.cons RX.ini (RL.cons (RX.tell (by decide +kernel) (VX.con _)) (RL.cons RX.ini RL.nil)))) (by show 4 ≤ 1000000; decide))) (VX.var rfl) (VX.var rfl)) rfl ?_ ?_ rfl rfl)
      · show 0 * x + 1 * y = y
        omega
      · show 1 * x + 0 * y = x
        omega
    · exact DX.out (DX.tup .nil (by show 0 ≤ 1000000; decide)) (DX.two (VX.var rfl) (VX.var rfl)) (VX.con _) (VX.con _)
    refine ifF rfl ?_
    show tOp _ _ _ _ _ _
    refine eq_out (K := K) (H0 := H7) (ms := []) (x := x) (y := y) (b := false) (l := 0) (fun z hz => absurd hz List.not_mem_nil) ?_ ?_ H7 (Same.refl _) _ fun H8 s8 => k4 H8 (s5.trans (s6.trans (s7.trans s8)))
    · exact DX.told (OX.to (OX.run (ns := []) notes_nil (Nat.zero_le _) x0 y0 runs_D (PX.nil hR hP) (VX.var rfl) (VX.var rfl)) rfl rfl rfl rfl rfl)
    · exact DX.out (DX.tup .nil (by show 0 ≤ 1000000; decide)) (DX.two (VX.var rfl) (VX.var rfl)) (VX.con _) (VX.con _)
end

section
variable {P : Program} {w : World} {K : PySem.W.Frag} {mg : Str → Option Value} {base : Heap}
theorem ok_tests {f IR IC CP CO eT eP eR : Addr} {fd : FuncData} {c : Clz} (F : Fun K "_law_tests_right" "_law_tests_right" S__law_tests_right f fd) (T : Txt K mg) (Hc : Hi K mg c) (Mr : MkR P w K mg base c IR IC) (Mt : MkT P w K mg base c IR) (Mi : MkD P w K mg base CX0 6 c.ifb "If" ["self", "test", "rows", "others"] (calm (sp_if K c IR)) [.ref eT]) (Mp : MkC P w K mg base CX0 25 CP "Program" ["self", "rows", "notes"] (sp_pginit K c CP)) (Mp1 : MkD P w K mg base CX0 25 CP "Program" ["self", "rows", "notes"] (sp_pginit K c CP) [.ref eP]) (hE : ∀ H, SqV K H eT []) (hP : ∀ H, SqV K H eP []) (hR : ∀ H, SqV K H eR []) (Ou : OuT K CO) (C_run : FnC P w K mg base CX0 15 "run" ["program", "first", "second"] (sp_runB K c CP CO)) (C_told : FnC P w K mg base CX0 1 "_law_told" ["_law_outcome"] (sp_told K CO)) : FnOk P w K mg base CX0 27 f fd ["_law_x", "_law_y"] sp_tests := by
  refine F.ok SC__law_tests_right (fun vs H Q E h => ?_) (fun cdv A outer s H vs Q E hr h => ?_)
  · obtain ⟨x, y, rfl, _⟩ := h
    rfl
  · obtain ⟨x, y, rfl, hxy, k⟩ := h
    refine ⟨_, (pss_cons (ps_for PassesOwn.never rfl (pi_list (pe_lstN (pa_cons (pe_tupN (pa_cons (pe_make0C Mt.longer (hr.mono (by omega)) rfl) (pa_cons (pe_cmpR op_gt (pv 0) (pv 1) (nomark _)) pa_nil))) (pa_cons (pe_tupN (pa_cons (pe_make0C Mt.shorter (hr.mono (by omega)) rfl) (pa_cons (pe_cmpR op_lt (pv 0) (pv 1) (nomark _)) pa_nil))) (pa_cons (pe_tupN (pa_cons (pe_make0C Mt.alike (hr.mono (by omega)) rfl) (pa_cons (pe_cmpR op_eq (pv 0) (pv 1) (nomark _)) pa_nil))) pa_nil))))) (pg_tup rfl (pgs_cons (pg_name (i := 2) SC__law_tests_right.nd rfl (.inl rfl)) (pgs_cons (pg_name (i := 3) SC__law_tests_right.nd rfl (.inl rfl)) pgs_nil))) (pss_one (ps_for PassesOwn.never rfl (pi_list (pe_lstN (pa_cons (pe_tupN (pa_cons (pv 2) (pa_cons (pv 3) pa_nil))) (pa_cons (pe_tupN (pa_cons (pe_makeC Mt.not (hr.mono (by omega)) rfl (pa_cons (pv 2) pa_nil)) (pa_cons (pe_not (pv 3)) pa_nil))) (pa_cons (pe_tupN (pa_cons (pe_makeC Mt.not (hr.mono (by omega)) rfl (pa_cons (pe_makeC Mt.not (hr.mono (by omega)) rfl (pa_cons (pv 2) pa_nil)) pa_nil)) (pa_cons (pv 3) pa_nil))) pa_nil))))) (pg_tup rfl (pgs_cons (pg_name (i := 4) SC__law_tests_right.nd rfl (.inl rfl)) (pgs_cons (pg_name (i := 5) SC__law_tests_right.nd rfl (.inl rfl)) pgs_nil))) (pss_cons (ps_set (i := 6) SC__law_tests_right.nd rfl (.inl rfl) (pe_callC C_run (hr.mono (by omega)) rfl (pa_cons (pe_makeD Mp1 (hr.mono (by omega)) rfl (pa_cons (pe_lstN (pa_cons (pe_makeC Mr.ifb (hr.mono (by omega)) rfl (pa_cons (pv 4) (pa_cons (pe_lstN (pa_cons (pe_makeC Mr.tell (hr.mono (by omega)) rfl (pa_cons pe_str pa_nil)) pa_nil)) (pa_cons (pe_lstN (pa_cons (pe_makeC Mr.tell (hr.mono (by omega)) rfl (pa_cons pe_str pa_nil)) pa_nil)) pa_nil)))) (pa_cons (pe_makeD Mi (hr.mono (by omega)) rfl (pa_cons (pv 4) (pa_cons (pe_lstN (pa_cons (pe_makeC Mr.tell (hr.mono (by omega)) rfl (pa_cons pe_str pa_nil)) pa_nil)) pa_nil))) pa_nil))) pa_nil)) (pa_cons (pv 0) (pa_cons (pv 1) pa_nil)))))
      (pss_one (ps_if (PW.pt (pw_or (pt_cmpR (op_neD (Nat.lt_of_succ_lt (hu65 hr))) (pe_fld (pv 6) rfl) (pe_ifExp (pt_val (pv 5)) (pe_tupN (pa_cons pe_str (pa_cons pe_str pa_nil))) (pe_tupN (pa_cons pe_str pa_nil))) (nomark _)) (pw_or1 (pt_cmpR (op_neD (Nat.lt_of_succ_lt (hu65 hr))) (pe_fld (pv 6) rfl) (pe_tupN (pa_cons (pv 0) (pa_cons (pv 1) pa_nil))) (nomark _))))) (pss_one (ps_ret pe_bl)) pss_nil))))))
      (pss_one (ps_ret pe_bl))), ?_⟩
    obtain ⟨x0, y0, x1, y1⟩ := two_bd hxy
    have gq : ∀ {u : Tst}, u.Ok → u.txt.length ≤ 995 ∨ 2 < u.deep := fun {u} ok => by
      have := txt_len ok
      omega
    have oks : ∀ {z : Str}, z ∈ (["yes", "no", "a"] : List Str) → PyData.strOk z = true ∧ nameOk z = true := fun {z} hz => by
      simp only [List.mem_cons, List.not_mem_nil, or_false] at hz
      rcases hz with rfl | rfl | rfl <;> exact ⟨by decide +kernel, by decide +kernel⟩
    have h1 : L3 K c _ _ H _ := L3.mk (K := K) (c := c) (σ := L2.start N__law_tests_right [.int x, .int y]) (H0 := H) (P := fun u b => (∀ s : Rs, s.num = rd x y → holdsT [] s u = b) ∧ u.Ok ∧ u.deep = 0 ∧ u.uses = []) (TP.mk (TX.ini (C := c.longer)) (VX.op0 (t1 := tVar 0) (t2 := tVar 1) (f := fun i j => V.bl (decide (j < i))) (VX.var rfl) (VX.var rfl))) (TP.mk (TX.ini (C := c.shorter)) (VX.op0 (t1 := tVar 0) (t2 := tVar 1) (f := fun i j => V.bl (decide (i < j))) (VX.var rfl) (VX.var rfl))) (TP.mk (TX.ini (C := c.alike)) (VX.eq (t1 := tVar 0) (t2 := tVar 1) (VX.var rfl) (VX.var rfl))) ⟨fun s e => hold_longer e, trivial, rfl, rfl⟩ ⟨fun s e => hold_shorter e, trivial, rfl, rfl⟩ ⟨fun s e => (hold_alike e).trans (decide_eq_decide.mpr ⟨fun e => by rw [e], fun e => by injection e⟩), trivial, rfl, rfl⟩
    show tFor _ _ _ _ _ _
    refine for_L3 h1 (Same.refl _) (fun H1 σ H' => Same H1 H' ∧ ∃ y2 y3 y4 y5 y6 : Option V, σ = [some (.int x), some (.int y), y2, y3, y4, y5, y6]) (fun H1 s1 => ⟨Same.refl _, _, _, _, _, _, rfl⟩) (fun H1 σ H' q => q.1) (fun H1 H2 v u b σ s1 q hv hp => ?_) (fun H1 σ H2 s1 q => ?_)
    rotate_left
    · exact k H2 (s1.trans q.1)
    obtain ⟨s2, y2, y3, y4, y5, y6, rfl⟩ := q
    obtain ⟨hu, ok, dz, uz⟩ := hp
    obtain ⟨q, a, rfl, hq, ha⟩ := hv
    refine ⟨q, _, rfl, SqT.of hq, rfl, ?_⟩
    refine ⟨_, _, rfl, _, _, rfl, rfl, ?_⟩
    have h2 : L3 K c _ _ H2 _ := L3.mk (K := K) (c := c) (σ := [some (.int x), some (.int y), some (.ref a), some (.bl b), y4, y5, y6]) (H0 := H2) (P := fun u b => (∀ s : Rs, s.num = rd x y → holdsT [] s u = b) ∧ u.Ok ∧ u.deep ≤ 2 ∧ u.uses = []) (TP.mk (t := tVar 2) (t1 := tVar 3) (TX.var rfl ha) (VX.var rfl)) (TP.mk (TX.not (IR := IR) (t := tVar 2) Hc ((gq ok).resolve_right (by omega)) (TX.var rfl ha)) (VX.not (t := tVar 3) (VX.var rfl))) (TP.mk (t1 := tVar 3) (TX.not (IR := IR) Hc ((gq (u := .not u) ok).resolve_right (by show ¬ 2 < u.deep + 1; omega)) (TX.not (IR := IR) (t := tVar 2) Hc ((gq ok).resolve_right (by omega)) (TX.var rfl ha))) (VX.var rfl)) ⟨hu, ok, by omega, uz⟩ ⟨fun s e => congrArg _ (hu s e), ok, by show u.deep + 1 ≤ 2; omega, uz⟩ ⟨fun s e => (Bool.not_not _).trans (hu s e), ok, by show u.deep + 1 + 1 ≤ 2; omega, uz⟩
    show tFor _ _ _ _ _ _
    refine for_L3 h2 (Same.refl _) (fun H1 σ H' => Same H1 H' ∧ ∃ y4 y5 y6 : Option V, σ = [some (.int x), some (.int y), some (.ref a), some (.bl b), y4, y5, y6]) (fun H1 s1 => ⟨Same.refl _, _, _, _, rfl⟩) (fun H1 σ H' q => q.1) (fun H3 H4 v u2 b2 σ s3 q hv hp => ?_) (fun H3 σ H4 s3 q => ?_)
    rotate_left
    · obtain ⟨s4, y4, y5, y6, rfl⟩ := q
      exact ⟨s2.trans (s3.trans s4), _, _, _, _, _, rfl⟩
    obtain ⟨s4, y4, y5, y6, rfl⟩ := q
    obtain ⟨hu2, ok2, d2, uz2⟩ := hp
    obtain ⟨q2, a2, rfl, hq2, ha2⟩ := hv
    refine ⟨q2, _, rfl, SqT.of hq2, rfl, ?_⟩
    refine ⟨_, _, rfl, _, _, rfl, rfl, ?_⟩
    obtain ⟨s0, ru, em, en⟩ := runs_E (t := u2) (v := b2) (by omega) uz2 x0 y0 x1 y1 hu2
    have us : UsesOk [] [.ifb u2 [.tell "yes"] [.tell "no"], .ifb u2 [.tell "a"] []] := by
      intro r hr z hz
      have hr : r ∈ ([.ifb u2 [.tell "yes"] [.tell "no"], .tell "yes", .tell "no", .ifb u2 [.tell "a"] [], .tell "a"] : List Rw1) := hr
      simp only [List.mem_cons, List.not_mem_nil, or_false] at hr
      rcases hr with rfl | rfl | rfl | rfl | rfl
      · have hz : z ∈ u2.uses := hz
        rw [uz2] at hz
        exact hz
      · exact hz
      · exact hz
      · have hz : z ∈ u2.uses := hz
        rw [uz2] at hz
        exact hz
      · exact hz
    have ok_1 : (Rw1.ifb u2 [.tell "yes"] [.tell "no"]).Ok := ⟨ok2, d2, ⟨(oks (by simp)).2, trivial⟩, ⟨(oks (by simp)).2, trivial⟩⟩
    have ok_2 : (Rw1.ifb u2 [.tell "a"] []).Ok := ⟨ok2, d2, ⟨(oks (by simp)).2, trivial⟩, trivial⟩
    have dp : deepL [.ifb u2 [.tell "yes"] [.tell "no"], .ifb u2 [.tell "a"] []] ≤ 4 := Nat.le_of_ble_eq_true rfl
    have sz : (innerL [.ifb u2 [.tell "yes"] [.tell "no"], .ifb u2 [.tell "a"] []]).length ≤ 1000 := Nat.le_of_ble_eq_true rfl
    have sz1 : (Rw1.ifb u2 [.tell "yes"] [.tell "no"]).inner.length ≤ 1000 := Nat.le_of_ble_eq_true rfl
    have sz2 : (Rw1.ifb u2 [.tell "a"] []).inner.length ≤ 1000 := Nat.le_of_ble_eq_true rfl
    have l1 : ∀ {r : Rw1}, [r].length ≤ 1000000 := fun {r} => by show 1 ≤ 1000000; decide
    have l2 : ∀ {r q : Rw1}, [r, q].length ≤ 1000000 := fun {r q} => by show 2 ≤ 1000000; decide
    dsimp only [tSeq, tAsg, gName]
    refine OX.run (K := K) (CO := CO) (H0 := H4) (ns := []) notes_nil (Nat.zero_le _) x0 y0 ru (PX.one hP us dp sz (SX.lst (RL.cons (RX.ifb ok_1 sz1 (TX.var rfl ha2) (SX.lst (RL.cons (RX.tell (oks (by simp)).2 (VX.con _)) RL.nil) l1) (SX.lst (RL.cons (RX.tell (oks (by simp)).2 (VX.con _)) RL.nil) l1)) (RL.cons (RX.ifb2 hE ok_2 sz2 (TX.var rfl ha2) (SX.lst (RL.cons (RX.tell (oks (by simp)).2 (VX.con _)) RL.nil) l1)) RL.nil)) l2)) (VX.var rfl) (VX.var rfl) H4 (Same.refl _) _ fun o H5 s5 ho => ?_
    rw [em, en] at ho
    have hms : ∀ z ∈ (if b2 = true then (["yes", "a"] : List Str) else ["no"]), PyData.strOk z = true := by
      intro z hz
      cases b2 with
      | true => exact (oks (by simp at hz ⊢; rcases hz with h | h <;> simp [h])).1
      | false => exact (oks (by simp at hz ⊢; simp [hz])).1
    have shm : SeqAt.shaped (.tuple ((if b2 = true then (["yes", "a"] : List Str) else ["no"]).map .str)) = true := Bool.and_eq_true_iff.mpr ⟨lay_strs hms, decide_eq_true (by show PyData.depthAll _ + 1 ≤ 64; rw [dep_strs]; decide)⟩
    dsimp only [tIfS, tOr]
    refine ne_data (K := K) (H0 := H5) (d := .tuple ((if b2 = true then (["yes", "a"] : List Str) else ["no"]).map .str)) (e := .tuple ((if b2 = true then (["yes", "a"] : List Str) else ["no"]).map .str)) (DX.marks Ou (OX.var rfl ho)) (DX.ite rfl (fun e => ?_) fun e => ?_) shm shm (by show PyData.eqvAll _ _ = true; rw [eqv_strs]; exact decide_eq_true rfl) (Same.refl _) fun H6 s6 => ?_
    · subst e
      exact DX.tup (.cons (DX.con fun _ => .str _) (.cons (DX.con fun _ => .str _) .nil)) (by show 2 ≤ 1000000; decide)
    · subst e
      exact DX.tup (.cons (DX.con fun _ => .str _) .nil) (by show 1 ≤ 1000000; decide)
    rw [if_neg (by decide)]
    refine ne_data (K := K) (H0 := H5) (d := .tuple [.int x, .int y]) (e := .tuple [.int x, .int y]) (DX.rods Ou (OX.var rfl ho)) (DX.two (VX.var rfl) (VX.var rfl)) rfl rfl (by show (x == x && (y == y && true)) = true; simp) s6 fun H7 s7 => ?_
    refine ifF rfl ?_
    exact ⟨s4.trans (s5.trans (s6.trans s7)), _, _, _, rfl⟩
end

namespace Pg
section
variable {K : PySem.W.Frag} {CO : Addr} {σ : L2.St} {H0 : Hp} {t t1 : TE}
theorem VX.asInt {i : Int} (h : VX t σ H0 (.int i)) : VX (tCB (fun xs H Q => ∃ i, xs = [V.int i] ∧ Q (V.int i) H) (tCons t tNil)) σ H0 (.int i) := fun H s R k => h H s _ fun H1 s1 => ⟨i, rfl, k H1 s1⟩
theorem VX.lay {ms : List Str} {x y : Int} {b : Bool} {l : Nat} (Ou : OuT K CO) (h : OX K CO t σ H0 ms x y b l) : VX (tFld K t "layings") σ H0 (.int (l : Nat)) := fun H s R k => h H s _ fun o H1 s1 ⟨dx, m, r, h1, h2, h3⟩ => ⟨o, CO, dx, _, _, rfl, h1, Ou.ins.cl, Ou.no "layings" (by simp), rfl, k H1 s1⟩
theorem rest_le {x y : Int} (y0 : 1 ≤ y) (h : y ≤ x) : y = (y - 1) % x + 1 := by
  rw [Int.emod_eq_of_lt (by omega) (by omega)]
  omega
theorem rest_div {x y : Int} (x0 : 1 ≤ x) : (y - ((y - 1) % x + 1)) / x = (y - 1) / x := by
  have dm := Int.mul_ediv_add_emod (y - 1) x
  rw [show y - ((y - 1) % x + 1) = x * ((y - 1) / x) by omega]
  exact Int.mul_ediv_cancel_left _ (by omega)
end
end Pg
open Pg
section
variable {P : Program} {w : World} {K : PySem.W.Frag} {mg : Str → Option Value} {base : Heap}
theorem ok_until {f IR IC CP CO eT eP eR : Addr} {fd : FuncData} {c : Clz} (F : Fun K "_law_until_right" "_law_until_right" S__law_until_right f fd) (T : Txt K mg) (Hc : Hi K mg c) (Mr : MkR P w K mg base c IR IC) (Mt : MkT P w K mg base c IR) (Mi : MkD P w K mg base CX0 6 c.ifb "If" ["self", "test", "rows", "others"] (calm (sp_if K c IR)) [.ref eT]) (Mp : MkC P w K mg base CX0 25 CP "Program" ["self", "rows", "notes"] (sp_pginit K c CP)) (Mp1 : MkD P w K mg base CX0 25 CP "Program" ["self", "rows", "notes"] (sp_pginit K c CP) [.ref eP]) (hE : ∀ H, SqV K H eT []) (hP : ∀ H, SqV K H eP []) (hR : ∀ H, SqV K H eR []) (Ou : OuT K CO) (C_run : FnC P w K mg base CX0 15 "run" ["program", "first", "second"] (sp_runB K c CP CO)) (C_told : FnC P w K mg base CX0 1 "_law_told" ["_law_outcome"] (sp_told K CO)) : FnOk P w K mg base CX0 27 f fd ["_law_x", "_law_y"] sp_tests := by
  refine F.ok SC__law_until_right (fun vs H Q E h => ?_) (fun cdv A outer s H vs Q E hr h => ?_)
  · obtain ⟨x, y, rfl, _⟩ := h
    rfl
  · obtain ⟨x, y, rfl, hxy, k⟩ := h
    refine ⟨_, (pss_cons (ps_set (i := 2) SC__law_until_right.nd rfl (.inl rfl) (pe_callC C_run (hr.mono (by omega)) rfl (pa_cons (pe_makeD Mp1 (hr.mono (by omega)) rfl (pa_cons (pe_lstN (pa_cons (pe_makeC Mr.untl (hr.mono (by omega)) rfl (pa_cons pe_str (pa_cons (pe_lstN (pa_cons (pe_makeC Mr.tell (hr.mono (by omega)) rfl (pa_cons pe_str pa_nil)) (pa_cons (pe_make0C Mr.lay (hr.mono (by omega)) rfl) pa_nil))) pa_nil))) pa_nil)) pa_nil)) (pa_cons (pv 0) (pa_cons (pv 1) pa_nil)))))
      (pss_cons (ps_par3 (i := 3) (j := 4) (l := 5) (by rfl) SC__law_until_right.nd rfl rfl rfl (by decide) (by decide) (by decide) rfl rfl rfl (pa_cons (pv 0) (pa_cons (pv 1) (pa_cons pe_int pa_nil))) (by rfl))
      (pss_cons (ps_while PassesOwn.never (pt_cmpR op_ne (pv 3) (pv 4) (nomark _)) (pss_cons (ps_par (i := 6) (j := 5) (by rfl) SC__law_until_right.nd rfl rfl (by decide) rfl rfl (pa_cons (pe_op op_sub (pv 3) (pe_op op_mulW (pv 4) (pe_callTy call_intB (by rfl) T.b_int (by decide +kernel) (pa_cons (pe_cmpR op_gt (pv 3) (pv 4) (nomark _)) pa_nil)))) (pa_cons (pe_op op_add (pv 5) pe_int) pa_nil)) (by rfl))
      (pss_one (ps_par (i := 3) (j := 4) (by rfl) SC__law_until_right.nd rfl rfl (by decide) rfl rfl (pa_cons (pv 6) (pa_cons (pe_op op_sub (pv 4) (pe_op op_mulW (pv 3) (pe_callTy call_intB (by rfl) T.b_int (by decide +kernel) (pa_cons (pe_cmpR op_gt (pv 4) (pv 3) (nomark _)) pa_nil)))) pa_nil)) (by rfl)))))
      (pss_cons (ps_if (pt_cmpR (op_neD (Nat.lt_of_succ_lt (hu65 hr))) (pe_callC C_told (hr.mono (by omega)) rfl (pa_cons (pv 2) pa_nil)) (pe_tupN (pa_cons (pe_op op_repTA (pe_tupN (pa_cons pe_str pa_nil)) (pv 5)) (pa_cons (pe_tupN (pa_cons (pv 3) (pa_cons (pv 4) pa_nil))) (pa_cons pe_bl (pa_cons (pv 5) pa_nil))))) (nomark _)) (pss_one (ps_ret pe_bl)) pss_nil)
      (pss_cons (ps_set (i := 2) SC__law_until_right.nd rfl (.inl rfl) (pe_callC C_run (hr.mono (by omega)) rfl (pa_cons (pe_makeD Mp1 (hr.mono (by omega)) rfl (pa_cons (pe_lstN (pa_cons (pe_makeC Mr.untl (hr.mono (by omega)) rfl (pa_cons pe_str (pa_cons (pe_lstN (pa_cons (pe_make0C Mr.lay (hr.mono (by omega)) rfl) pa_nil)) pa_nil))) pa_nil)) pa_nil)) (pa_cons (pv 0) (pa_cons (pv 1) pa_nil)))))
      (pss_cons (ps_set (i := 7) SC__law_until_right.nd rfl (.inl rfl) (pe_ifExp (pt_cmpR op_ge (pv 0) (pv 1) (nomark _)) (pv 1) (pe_op op_add (pe_op op_mod (pe_callTy call_intI (by rfl) T.b_int (by decide +kernel) (pa_cons (pe_op op_sub (pv 1) pe_int) pa_nil)) (pv 0)) pe_int)))
      (pss_cons (ps_set (i := 5) SC__law_until_right.nd rfl (.inl rfl) (pe_op op_fdivW (pe_op op_sub (pv 1) (pv 7)) (pv 0)))
      (pss_cons (ps_if (PW.pt (pw_or (pt_cmpR (op_neD (Nat.lt_of_succ_lt (hu65 hr))) (pe_fld (pv 2) rfl) (pe_tupN (pa_cons (pv 0) (pa_cons (pv 7) pa_nil))) (nomark _)) (pw_or1 (pt_cmpR op_ne (pe_fld (pv 2) rfl) (pv 5) (nomark _))))) (pss_one (ps_ret pe_bl)) pss_nil)
      (pss_cons (ps_set (i := 2) SC__law_until_right.nd rfl (.inl rfl) (pe_callC C_run (hr.mono (by omega)) rfl (pa_cons (pe_makeD Mp1 (hr.mono (by omega)) rfl (pa_cons (pe_lstN (pa_cons (pe_makeC Mr.untl (hr.mono (by omega)) rfl (pa_cons pe_str (pa_cons (pe_lstN (pa_cons (pe_make0C Mr.lay (hr.mono (by omega)) rfl) (pa_cons (pe_makeC Mr.tell (hr.mono (by omega)) rfl (pa_cons pe_str pa_nil)) pa_nil))) pa_nil))) pa_nil)) pa_nil)) (pa_cons (pv 0) (pa_cons (pv 1) pa_nil)))))
      (pss_cons (ps_set (i := 7) SC__law_until_right.nd rfl (.inl rfl) (pe_ifExp (pt_cmpR op_ge (pv 1) (pv 0) (nomark _)) (pv 0) (pe_op op_add (pe_op op_mod (pe_callTy call_intI (by rfl) T.b_int (by decide +kernel) (pa_cons (pe_op op_sub (pv 0) pe_int) pa_nil)) (pv 1)) pe_int)))
      (pss_one (ps_ret (pe_and (pe_cmpR (op_eqD (Nat.lt_of_succ_lt (hu65 hr))) (pe_fld (pv 2) rfl) (pe_tupN (pa_cons (pv 7) (pa_cons (pv 1) pa_nil))) (nomark _)) (pe_one (pe_cmpR (op_eqD (Nat.lt_of_succ_lt (hu65 hr))) (pe_callB call_len_seq (by rfl) T.b_len (by decide +kernel) (pa_cons (pe_fld (pv 2) rfl) pa_nil)) (pe_fld (pv 2) rfl) (nomark _)))))))))))))))), ?_⟩
    obtain ⟨x0, y0, x1, y1⟩ := two_bd hxy
    obtain ⟨kk, z, kk1, eu⟩ := two_euc hxy
    obtain ⟨s0, ru, em, en, eb, el⟩ := runs_G hxy eu kk1
    have okA : PyData.strOk "a" = true := by decide +kernel
    have nkA : nameOk "a" = true := by decide +kernel
    have nkB : nameOk "b" = true := by decide +kernel
    have o1 : (Rw1.untl "alike" [.tell "a", .lay]).Ok := ⟨by decide +kernel, rfl, rfl, nkA, trivial, trivial⟩
    have us1 : UsesOk [] [.untl "alike" [.tell "a", .lay]] := uses_of (by kernel_rfl)
    have l1 : ∀ {r : Rw1}, [r].length ≤ 1000000 := fun {r} => by show 1 ≤ 1000000; decide
    have l2 : ∀ {r q : Rw1}, [r, q].length ≤ 1000000 := fun {r q} => by show 2 ≤ 1000000; decide
    have sub : ∀ a b : Int, a - b * (if decide (b < a) = true then 1 else 0) = if b < a then a - b else a := fun a b => by
      by_cases h : b < a
      · rw [if_pos (decide_eq_true h), if_pos h, Int.mul_one]
      · rw [if_neg (by rw [decide_eq_false h]; decide), if_neg h, Int.mul_zero, Int.sub_zero]
    dsimp only [tSeq, tAsg, gName]
    refine OX.run (K := K) (CO := CO) (H0 := H) (ns := []) notes_nil (Nat.zero_le _) x0 y0 ru (PX.one hP us1 (Nat.le_of_ble_eq_true rfl) (Nat.le_of_ble_eq_true rfl) (SX.lst (RL.cons (RX.untl o1 (Nat.le_of_ble_eq_true rfl) (Nat.le_of_ble_eq_true rfl) (VX.con _) (SX.lst (RL.cons (RX.tell nkA (VX.con _)) (RL.cons RX.ini RL.nil)) l2)) RL.nil) l1)) (VX.var rfl) (VX.var rfl) H (Same.refl _) _ fun o H1 s1 ho => ?_
    rw [em, en, eb, el] at ho
    refine ⟨_, rfl, _, rfl, _, _, _, rfl, ?_⟩
    refine ⟨fun m σ H' => ∃ (a b : Int) (j : Nat) (y6 y7 : Option V), σ = [some (.int x), some (.int y), some (.ref o), some (.int a), some (.int b), some (.int (j : Nat)), y6, y7] ∧ Euc a b m z ∧ j + m = kk ∧ 0 ≤ a ∧ a < 2 ^ 100 ∧ 0 ≤ b ∧ b < 2 ^ 100 ∧ Same H1 H', ⟨kk, x, y, 0, _, _, rfl, eu, Nat.zero_add _, by omega, x1, by omega, y1, Same.refl _⟩, ?_⟩
    rintro m σ H2 ⟨a, b, j, y6, y7, rfl, he, hj, a0, a1, b0, b1, s2⟩
    refine ⟨_, rfl, _, rfl, rfl, _, rfl, ?_⟩
    cases he with
    | done =>
      refine ifF (by simp) ?_
      have ho2 := ho.tk (TK.same s2)
      have hsA : ∀ q ∈ List.replicate kk ("a" : Str), PyData.strOk q = true := fun q hq => by rw [(List.mem_replicate.mp hq).2]; exact okA
      have ej : j = kk := hj
      subst ej
      dsimp only [tNext, tSeq, tAsg, gName, tIfS]
      refine ne_out (K := K) (H0 := H2) (ms := List.replicate j ("a" : Str)) (x := z) (y := z) (b := false) (l := j) hsA (DX.told (OX.var rfl ho2)) (DX.out (DX.rep (k := j) (by omega) (DX.tup (.cons (DX.con fun _ => .str _) .nil) (by show 1 ≤ 1000000; decide)) (VX.var rfl)) (DX.two (VX.var rfl) (VX.var rfl)) (VX.con _) (VX.var rfl)) (Same.refl _) fun H3 s3 => ?_
      refine ifF rfl ?_
      obtain ⟨s4, ru2, en2, el2⟩ := runs_L hxy
      have oL : (Rw1.untl "longer" [.lay]).Ok := ⟨by decide +kernel, rfl, rfl, trivial, trivial⟩
      have usL : UsesOk [] [.untl "longer" [.lay]] := uses_of (by kernel_rfl)
      try dsimp only [tNext, tSeq, tAsg, gName, tIfS]
      refine OX.run (K := K) (CO := CO) (H0 := H3) (ns := []) notes_nil (Nat.zero_le _) x0 y0 ru2 (PX.one hP usL (Nat.le_of_ble_eq_true rfl) (Nat.le_of_ble_eq_true rfl) (SX.lst (RL.cons (RX.untl oL (Nat.le_of_ble_eq_true rfl) (Nat.le_of_ble_eq_true rfl) (VX.con _) (SX.lst (RL.cons RX.ini RL.nil) l1)) RL.nil) l1)) (VX.var rfl) (VX.var rfl) H3 (Same.refl _) _ fun o2 H4 s5 ho4 => ?_
      rw [en2] at ho4
      have dv : CDivW (y - ((y - 1) % x + 1)) x := ⟨by omega, by
        have q : x.natAbs < 2 ^ 100 := by omega
        have := PySem.Flt.log2_lt_of (by decide) q
        omega⟩
      refine VX.ite (b := decide (y ≤ x)) (v := .int ((y - 1) % x + 1)) (VX.op0 (VX.var rfl) (VX.var rfl)) (fun e => (VX.var (v := .int y) rfl).to (congrArg V.int (rest_le y0 (of_decide_eq_true e)))) (fun e => VX.op0 (VX.opI (by omega) (VX.asInt (VX.op0 (VX.var rfl) (VX.con _))) (VX.var rfl)) (VX.con _)) H4 (Same.refl _) _ fun H5 s6 => ?_
      refine VX.opI dv (VX.op0 (VX.var rfl) (VX.var rfl)) (VX.var rfl) H5 (Same.refl _) _ fun H6 s7 => ?_
      have ho6 := ho4.tk (TK.same (s6.trans s7))
      dsimp only [tOr]
      refine ne_data (K := K) (H0 := H6) (d := .tuple [.int x, .int ((y - 1) % x + 1)]) (e := .tuple [.int x, .int ((y - 1) % x + 1)]) (DX.rods Ou (OX.var rfl ho6)) (DX.two (VX.var rfl) (VX.var rfl)) rfl rfl (by show (_ == _ && (_ == _ && true)) = true; simp) (Same.refl _) fun H7 s8 => ?_
      rw [if_neg (by decide)]
      refine VX.ne (VX.lay Ou (OX.var rfl ho6)) (VX.var rfl) H7 s8 _ fun H8 s9 => ⟨_, rfl, ?_⟩
      refine ifF (by rw [rest_div x0, el2]; simp) ?_
      obtain ⟨s10, ru3, en3, em3⟩ := runs_S hxy
      have oS : (Rw1.untl "shorter" [.lay, .tell "b"]).Ok := ⟨by decide +kernel, rfl, rfl, trivial, nkB, trivial⟩
      have usS : UsesOk [] [.untl "shorter" [.lay, .tell "b"]] := uses_of (by kernel_rfl)
      try dsimp only [tNext, tSeq, tAsg, gName, tIfS]
      refine OX.run (K := K) (CO := CO) (H0 := H8) (ns := []) notes_nil (Nat.zero_le _) x0 y0 ru3 (PX.one hP usS (Nat.le_of_ble_eq_true rfl) (Nat.le_of_ble_eq_true rfl) (SX.lst (RL.cons (RX.untl oS (Nat.le_of_ble_eq_true rfl) (Nat.le_of_ble_eq_true rfl) (VX.con _) (SX.lst (RL.cons RX.ini (RL.cons (RX.tell nkB (VX.con _)) RL.nil)) l2)) RL.nil) l1)) (VX.var rfl) (VX.var rfl) H8 (Same.refl _) _ fun o3 H9 s11 ho9 => ?_
      rw [en3] at ho9
      refine VX.ite (b := decide (x ≤ y)) (v := .int ((x - 1) % y + 1)) (VX.op0 (VX.var rfl) (VX.var rfl)) (fun e => (VX.var (v := .int x) rfl).to (congrArg V.int (rest_le x0 (of_decide_eq_true e)))) (fun e => VX.op0 (VX.opI (by omega) (VX.asInt (VX.op0 (VX.var rfl) (VX.con _))) (VX.var rfl)) (VX.con _)) H9 (Same.refl _) _ fun Ha s12 => ?_
      have hoa := ho9.tk (TK.same s12)
      refine eq_data (K := K) (H0 := Ha) (d := .tuple [.int ((x - 1) % y + 1), .int y]) (e := .tuple [.int ((x - 1) % y + 1), .int y]) (DX.rods Ou (OX.var rfl hoa)) (DX.two (VX.var rfl) (VX.var rfl)) rfl rfl (by show (_ == _ && (_ == _ && true)) = true; simp) Ha (Same.refl _) _ fun Hb s13 => ⟨true, rfl, ?_⟩
      rw [if_pos rfl]
      have hob := hoa.tk (TK.same s13)
      refine eq_data (K := K) (H0 := Hb) (d := .int ((marksOf s10.ev).length : Nat)) (e := .int (s10.lay : Nat)) ?_ (DX.int (VX.lay Ou (OX.var rfl hob))) rfl rfl (by show (_ == _) = true; rw [em3]; simp) Hb (Same.refl _) _ fun Hc' s14 => ?_
      · obtain ⟨dx, mm, rr, g1, g2, g3⟩ := id hob
        intro Hd sd R kd
        have hm2 := sqT_tk (TK.same sd) g2
        refine ⟨_, rfl, o3, CO, dx, _, _, rfl, sd _ _ g1, Ou.ins.cl, Ou.no "marks" (by simp), rfl, mm, _, rfl, .inr hm2, ?_⟩
        have e := kd (.int (((marksOf s10.ev).map V.str).length : Nat)) Hd (Same.refl _) (by rw [List.length_map]; exact .int _)
        exact e
      · exact k _ (s1.trans (s2.trans (s3.trans (s5.trans (s6.trans (s7.trans (s8.trans (s9.trans (s11.trans (s12.trans (s13.trans s14)))))))))))
    | @step _ _ _ m ne he =>
      have nv : V.int a ≠ V.int b := fun e => ne (by injection e)
      refine ifT (by rw [decide_eq_false nv]; rfl) ?_
      refine ⟨fun σ H' => ∃ (a b : Int) (j : Nat) (y6 y7 : Option V), σ = [some (.int x), some (.int y), some (.ref o), some (.int a), some (.int b), some (.int (j : Nat)), y6, y7] ∧ Euc a b m z ∧ j + m = kk ∧ 0 ≤ a ∧ a < 2 ^ 100 ∧ 0 ≤ b ∧ b < 2 ^ 100 ∧ Same H1 H', fun σ H'' h => ⟨m, Nat.lt_succ_self m, h⟩, ?_⟩
      dsimp only [tSeq, tPar, tCons, tNil]
      refine VX.op0 (VX.var rfl) (VX.opI (mulW (by omega) ?_) (VX.var rfl) (VX.toInt (VX.op0 (VX.var rfl) (VX.var rfl)))) H2 (Same.refl _) _ fun H3 s3 => ?_
      · split <;> decide
      refine VX.op0 (VX.var rfl) (VX.con _) H3 (Same.refl _) _ fun H4 s4 => ⟨_, _, rfl, ?_⟩
      refine ⟨_, rfl, ?_⟩
      refine VX.op0 (VX.var rfl) (VX.opI (mulW (by omega) ?_) (VX.var rfl) (VX.toInt (VX.op0 (VX.var rfl) (VX.var rfl)))) H4 (Same.refl _) _ fun H5 s5 => ⟨_, _, rfl, ?_⟩
      · split <;> decide
      have e1 := sub a b
      have e2 := sub b a
      rw [← e1, ← e2] at he
      refine ⟨_, _, j + 1, _, _, rfl, he, by omega, ?_, ?_, ?_, ?_, s2.trans (s3.trans (s4.trans s5))⟩
      · rw [e1]; split <;> omega
      · rw [e1]; split <;> omega
      · rw [e2]; split <;> omega
      · rw [e2]; split <;> omega
end

/-! ## the law -/
namespace Pg
def sp_law44 (K : PySem.W.Frag) : Sp := fun vs H Q _ => ∃ (a : Addr) (ns : List Int), vs = [.ref a] ∧ SqL K H a (ns.map V.int) ∧ ns.length ≤ 63 ∧ ∀ H', Q (.bl true) H'
end Pg
open Pg
section
variable {P : Program} {w : World} {K : PySem.W.Frag} {mg : Str → Option Value} {base : Heap}
theorem ok_law {f : Addr} {fd : FuncData} (F : Fun K "law" "law" S_law f fd) (T : Txt K mg) (C_deal : FnC P w K mg base CX0 1 "_law_deal" ["_law_script", "_law_base"] (sp_deal K)) (C_two : FnC P w K mg base CX0 4 "_law_two" ["_law_deal_here"] sp_two) (C_simple : FnC P w K mg base CX0 27 "_law_simple_right" ["_law_deal_here", "_law_x", "_law_y"] sp_simple) (C_tests : FnC P w K mg base CX0 27 "_law_tests_right" ["_law_x", "_law_y"] sp_tests) (C_notes : FnC P w K mg base CX0 27 "_law_notes_right" ["_law_deal_here", "_law_x", "_law_y"] sp_simple) (C_until : FnC P w K mg base CX0 27 "_law_until_right" ["_law_x", "_law_y"] sp_tests) : FnOk P w K mg base CX0 28 f fd ["_law_script"] (sp_law44 K) := by
  refine F.ok SC_law (fun vs H Q E h => ?_) (fun cdv A outer s H vs Q E hr h => ?_)
  · obtain ⟨a, ns, rfl, _⟩ := h
    rfl
  · obtain ⟨a, ns, rfl, ha, hn, k⟩ := h
    refine ⟨_, (pss_cons (ps_set (i := 1) SC_law.nd rfl (.inl rfl) (pe_callC C_deal (hr.mono (by omega)) rfl (pa_cons (pv 0) (pa_cons pe_int pa_nil))))
      (pss_cons (ps_for PassesOwn.never rfl (pi_range1 (by rfl) T.b_range (pa_cons pe_int pa_nil)) (pg_name (i := 2) SC_law.nd rfl (.inl rfl)) (pss_cons (ps_asg (pe_callC C_two (hr.mono (by omega)) rfl (pa_cons (pv 1) pa_nil)) (pg_tup rfl (pgs_cons (pg_name (i := 3) SC_law.nd rfl (.inl rfl)) (pgs_cons (pg_name (i := 4) SC_law.nd rfl (.inl rfl)) pgs_nil))))
      (pss_cons (ps_if (PW.pt (pw_or (pt_not (pt_val (pe_callC C_simple (hr.mono (by omega)) rfl (pa_cons (pv 1) (pa_cons (pv 3) (pa_cons (pv 4) pa_nil)))))) (pw_or1 (pt_not (pt_val (pe_callC C_tests (hr.mono (by omega)) rfl (pa_cons (pv 3) (pa_cons (pv 4) pa_nil)))))))) (pss_one (ps_ret pe_bl)) pss_nil)
      (pss_one (ps_if (PW.pt (pw_or (pt_not (pt_val (pe_callC C_notes (hr.mono (by omega)) rfl (pa_cons (pv 1) (pa_cons (pv 3) (pa_cons (pv 4) pa_nil)))))) (pw_or1 (pt_not (pt_val (pe_callC C_until (hr.mono (by omega)) rfl (pa_cons (pv 3) (pa_cons (pv 4) pa_nil)))))))) (pss_one (ps_ret pe_bl)) pss_nil)))))
      (pss_one (ps_ret pe_bl)))), ?_⟩
    refine ⟨_, rfl, a, ns, 0, rfl, by decide, ha, hn, fun B H1 _ _ s1 hb1 => ?_⟩
    refine ⟨6, rfl, by decide, by decide, ?_⟩
    refine for_range (lo := 0) (fun i σ H' => BoxAt H' B ∧ ∃ y2 y3 y4 : Option V, σ = [some (.ref a), some (.ref B.1), y2, y3, y4]) ⟨hb1, _, _, _, rfl⟩ (fun i σ H' hi m => ?_) (fun σ H' m => ?_)
    · obtain ⟨hb, y2, y3, y4, rfl⟩ := m
      refine ⟨_, rfl, B, rfl, hb, fun x y q H2 hxy hq kp2 hb2 => ?_⟩
      refine ⟨q, _, rfl, SqT.of hq, rfl, ?_⟩
      refine ⟨_, _, rfl, _, _, rfl, rfl, ?_⟩
      refine ⟨_, rfl, _, rfl, _, rfl, B, x, y, rfl, hb2, hxy, fun H3 kp3 hb3 => ⟨true, rfl, ifF rfl ?_⟩⟩
      refine ⟨_, rfl, _, rfl, x, y, rfl, hxy, fun H4 s4 => ⟨true, rfl, ifF rfl ?_⟩⟩
      refine ⟨_, rfl, _, rfl, _, rfl, B, x, y, rfl, hb3.same s4, hxy, fun H5 kp5 hb5 => ⟨true, rfl, ifF rfl ?_⟩⟩
      refine ⟨_, rfl, _, rfl, x, y, rfl, hxy, fun H6 s6 => ⟨true, rfl, ifF rfl ?_⟩⟩
      exact ⟨hb5.same s6, _, _, _, rfl⟩
    · exact k H'
end

namespace Pg
theorem walk_zipS {K : PySem.W.Frag} {z : Str} {b : Addr} {ys : List V} {n : Nat} (hn : n = z.cps.size) (hy : n = ys.length) : Walk (ItzS K z b) n (fun H => SqL K H b ys) (fun i H v H' => ∃ T c y, v = .ref T ∧ H T = none ∧ H' = upd H T (.tup [.str ⟨#[c]⟩, y]) ∧ z.cps[i]? = some c ∧ ys[i]? = some y) :=
  ⟨fun i H hi h => ⟨ys, _, h, by omega, List.getElem?_eq_getElem (by omega)⟩, fun H h => ⟨ys, h, by omega, by omega, .inl hn⟩, fun i H x H' _ h y => by
    obtain ⟨T, c, y', e, hT, e2, f1, f2⟩ := y
    exact ⟨T, c, y', e, hT, e2, f1, f2 ys h⟩⟩
section
variable {K : PySem.W.Frag} {c : Clz} {σ : L2.St} {H0 : Hp} {t : TE} {ta : TA}
def LX (K : PySem.W.Frag) (c : Clz) (t : TE) (σ : L2.St) (H0 : Hp) (rs : List Rw1) : Prop := ∀ H, Same H0 H → ∀ R : VK, (∀ l xs H' H'', Same H H' → H' l = none → Same H' H'' → H'' l = some (.lst xs) → RowsAt K c H'' xs rs → R (.ref l) H'') → t σ H R
theorem LX.lst {rs : List Rw1} (h : RL K c ta σ H0 rs) (n : rs.length ≤ 1000000) : LX K c (tLstN ta) σ H0 rs := fun H s R k => h H s _ fun vs H1 s1 h1 => ⟨by rw [h1.len]; exact n, fun l H2 n2 s2 hl => k l vs H1 H2 s1 n2 s2 hl (h1.tk (TK.same s2))⟩
def IA (ta : TA) (σ : L2.St) (H0 : Hp) (is : List Int) : Prop := ∀ H, Same H0 H → ∀ R : List V → Hp → Prop, (∀ H', Same H H' → R (is.map V.int) H') → ta σ H R
theorem IA.nil : IA tNil σ H0 [] := fun H _ _ k => k H (Same.refl _)
theorem IA.cons {i : Int} {is : List Int} (h : VX t σ H0 (.int i)) (g : IA ta σ H0 is) : IA (tCons t ta) σ H0 (i :: is) := fun H s R k => h H s _ fun H1 s1 => g H1 (s.trans s1) _ fun H2 s2 => k H2 (s1.trans s2)
theorem il_mk {is : List Int} (h : IA ta σ H0 is) (n : is.length ≤ 1000000) (H : Hp) (s : Same H0 H) (R : VK) (k : ∀ l H', Same H H' → H' l = some (.lst (is.map V.int)) → R (.ref l) H') : tLstN ta σ H R := h H s _ fun H1 s1 => ⟨by rw [List.length_map]; exact n, fun l H2 _ s2 hl => k l H2 (s1.trans s2) hl⟩
theorem asInt' {i : Int} (h : VX t σ H0 (.int i)) : VX (tCB (fun xs H Q => ∃ i, xs = [V.int i] ∧ Q (V.int i) H) (tCons t tNil)) σ H0 (.int i) := fun H s R k => h H s _ fun H1 s1 => ⟨i, rfl, k H1 s1⟩
end
/-- the signs beside what is held, those that are asked -/
def prs (h1 h2 h3 : Int) : List (Str × Int) := [("a", 0), ("b", h1), ("c", h2), ("d", h3)]
def flt (a : Int) (ps : List (Str × Int)) : List Str := (ps.map fun p => mk1 (decide (p.2 = a)) p.1).flatten
theorem flt_snoc {a : Int} {ps : List (Str × Int)} {p : Str × Int} : flt a (ps ++ [p]) = flt a ps ++ mk1 (decide (p.2 = a)) p.1 := by
  unfold flt
  simp
theorem flt_len {a : Int} : ∀ {ps : List (Str × Int)}, (flt a ps).length ≤ ps.length
  | [] => Nat.le_refl _
  | p :: ps => by
    show (mk1 (decide (p.2 = a)) p.1 ++ flt a ps).length ≤ ps.length + 1
    have h := flt_len (a := a) (ps := ps)
    rw [List.length_append]
    have : (mk1 (decide (p.2 = a)) p.1).length ≤ 1 := by
      cases decide (p.2 = a)
      · exact Nat.zero_le _
      · exact Nat.le_refl _
    omega
theorem prs_at {h1 h2 h3 : Int} {i c : Nat} {v : V} (hi : i < 4) (hc : ("abcd" : Str).cps[i]? = some c) (hv : ([V.int 0, .int h1, .int h2, .int h3] : List V)[i]? = some v) : ∃ p, (prs h1 h2 h3)[i]? = some p ∧ p.1 = ⟨#[c]⟩ ∧ v = .int p.2 := by
  have e0 : ("abcd" : Str).cps[0]? = some 97 := by decide +kernel
  have e1 : ("abcd" : Str).cps[1]? = some 98 := by decide +kernel
  have e2 : ("abcd" : Str).cps[2]? = some 99 := by decide +kernel
  have e3 : ("abcd" : Str).cps[3]? = some 100 := by decide +kernel
  have hi' : i = 0 ∨ i = 1 ∨ i = 2 ∨ i = 3 := by omega
  rcases hi' with rfl | rfl | rfl | rfl
  · rw [e0] at hc; cases hc; cases hv; exact ⟨_, rfl, (by decide +kernel : ("a" : Str) = ⟨#[97]⟩), rfl⟩
  · rw [e1] at hc; cases hc; cases hv; exact ⟨_, rfl, (by decide +kernel : ("b" : Str) = ⟨#[98]⟩), rfl⟩
  · rw [e2] at hc; cases hc; cases hv; exact ⟨_, rfl, (by decide +kernel : ("c" : Str) = ⟨#[99]⟩), rfl⟩
  · rw [e3] at hc; cases hc; cases hv; exact ⟨_, rfl, (by decide +kernel : ("d" : Str) = ⟨#[100]⟩), rfl⟩
end Pg
open Pg
section
variable {P : Program} {w : World} {K : PySem.W.Frag} {mg : Str → Option Value} {base : Heap}
theorem ok_notes {f IR IC CP CO eT eP eR : Addr} {fd : FuncData} {c : Clz} (F : Fun K "_law_notes_right" "_law_notes_right" S__law_notes_right f fd) (T : Txt K mg) (Hc : Hi K mg c) (Mr : MkR P w K mg base c IR IC) (Mt : MkT P w K mg base c IR) (Mi : MkD P w K mg base CX0 6 c.ifb "If" ["self", "test", "rows", "others"] (calm (sp_if K c IR)) [.ref eT]) (Mp : MkC P w K mg base CX0 25 CP "Program" ["self", "rows", "notes"] (sp_pginit K c CP)) (Mp1 : MkD P w K mg base CX0 25 CP "Program" ["self", "rows", "notes"] (sp_pginit K c CP) [.ref eP]) (hE : ∀ H, SqV K H eT []) (hP : ∀ H, SqV K H eP []) (hR : ∀ H, SqV K H eR []) (Ou : OuT K CO) (C_run : FnC P w K mg base CX0 15 "run" ["program", "first", "second"] (sp_runB K c CP CO)) (C_told : FnC P w K mg base CX0 1 "_law_told" ["_law_outcome"] (sp_told K CO)) (C_draw : FnC P w K mg base CX0 1 "_law_draw" ["_law_deal_here", "_law_many"] sp_draw) (C_num : FnC P w K mg base CX0 3 "_law_number" ["_law_deal_here"] sp_num) : FnOk P w K mg base CX0 27 f fd ["_law_deal_here", "_law_x", "_law_y"] sp_simple := by
  refine F.ok SC__law_notes_right (fun vs H Q E h => ?_) (fun cdv A outer s H vs Q E hr h => ?_)
  · obtain ⟨B, x, y, rfl, _⟩ := h
    rfl
  · obtain ⟨B, x, y, rfl, hb, hxy, k⟩ := h
    refine ⟨_, (pss_cons (ps_asg (pe_tupN (pa_cons (pe_op op_add pe_int (pe_callC C_draw (hr.mono (by omega)) rfl (pa_cons (pv 0) (pa_cons pe_int pa_nil)))) (pa_cons (pe_callC C_num (hr.mono (by omega)) rfl (pa_cons (pv 0) pa_nil)) (pa_cons (pe_callC C_num (hr.mono (by omega)) rfl (pa_cons (pv 0) pa_nil)) (pa_cons (pe_callC C_num (hr.mono (by omega)) rfl (pa_cons (pv 0) pa_nil)) pa_nil))))) (pg_tup rfl (pgs_cons (pg_name (i := 3) SC__law_notes_right.nd rfl (.inr rfl)) (pgs_cons (pg_name (i := 4) SC__law_notes_right.nd rfl (.inl rfl)) (pgs_cons (pg_name (i := 5) SC__law_notes_right.nd rfl (.inl rfl)) (pgs_cons (pg_name (i := 6) SC__law_notes_right.nd rfl (.inr rfl)) pgs_nil))))))
      (pss_cons (ps_set (i := 7) SC__law_notes_right.nd rfl (.inl rfl) (pe_lstN (pa_cons (pe_makeD Mi (hr.mono (by omega)) rfl (pa_cons (pe_makeC Mt.holds (hr.mono (by omega)) rfl (pa_cons pe_str (pa_cons (pv 6) pa_nil))) (pa_cons (pe_lstN (pa_cons (pe_makeC Mr.tell (hr.mono (by omega)) rfl (pa_cons pe_str pa_nil)) pa_nil)) pa_nil))) (pa_cons (pe_makeC Mr.add (hr.mono (by omega)) rfl (pa_cons pe_str (pa_cons (pv 5) pa_nil))) (pa_cons (pe_makeD Mi (hr.mono (by omega)) rfl (pa_cons (pe_makeC Mt.holds (hr.mono (by omega)) rfl (pa_cons pe_str (pa_cons (pv 6) pa_nil))) (pa_cons (pe_lstN (pa_cons (pe_makeC Mr.tell (hr.mono (by omega)) rfl (pa_cons pe_str pa_nil)) pa_nil)) pa_nil))) (pa_cons (pe_makeC Mr.put (hr.mono (by omega)) rfl (pa_cons pe_str (pa_cons (pv 4) pa_nil))) pa_nil))))))
      (pss_cons (ps_expr (pe_bm PySem.F.plainAttrs_list PySem.F.slot_list_extend PySem.F.type_list_extend mt_extend (pv 7) (pa_cons (pe_lstN (pa_cons (pe_makeD Mi (hr.mono (by omega)) rfl (pa_cons (pe_makeC Mt.holds (hr.mono (by omega)) rfl (pa_cons pe_str (pa_cons (pv 6) pa_nil))) (pa_cons (pe_lstN (pa_cons (pe_makeC Mr.tell (hr.mono (by omega)) rfl (pa_cons pe_str pa_nil)) pa_nil)) pa_nil))) (pa_cons (pe_makeC Mr.add (hr.mono (by omega)) rfl (pa_cons pe_str (pa_cons (pv 5) pa_nil))) (pa_cons (pe_makeC Mr.add (hr.mono (by omega)) rfl (pa_cons pe_str (pa_cons pe_int pa_nil))) (pa_cons (pe_makeD Mi (hr.mono (by omega)) rfl (pa_cons (pe_makeC Mt.holds (hr.mono (by omega)) rfl (pa_cons pe_str (pa_cons (pv 6) pa_nil))) (pa_cons (pe_lstN (pa_cons (pe_makeC Mr.tell (hr.mono (by omega)) rfl (pa_cons pe_str pa_nil)) pa_nil)) pa_nil))) pa_nil))))) pa_nil)))
      (pss_cons (ps_set (i := 8) SC__law_notes_right.nd rfl (.inl rfl) (pe_lstN (pa_cons pe_int (pa_cons (pe_op op_mod (pe_callTy call_intI (by rfl) T.b_int (by decide +kernel) (pa_cons (pv 5) pa_nil)) (pv 3)) (pa_cons (pe_op op_mod (pe_callTy call_intI (by rfl) T.b_int (by decide +kernel) (pa_cons (pv 4) pa_nil)) (pv 3)) (pa_cons (pe_op op_mod (pe_callTy call_intI (by rfl) T.b_int (by decide +kernel) (pa_cons (pe_op op_add (pe_op op_add (pv 4) (pv 5)) pe_int) pa_nil)) (pv 3)) pa_nil))))))
      (pss_cons (ps_set (i := 9) SC__law_notes_right.nd rfl (.inl rfl) (pe_callTy call_tuple_of (by rfl) T.b_tuple (by decide +kernel) (pa_cons (pe_lc (own := [("_law_word", 10), ("_law_number_here", 11)])  (by rfl) SC__law_notes_right.nd (pi_zipS (by rfl) T.b_zip (pa_cons pe_str (pa_cons (pv 8) pa_nil))) (blkOk_by (own := [("_law_word", 10), ("_law_number_here", 11)]) (N := N__law_notes_right) (sc := defScope S__law_notes_right) (by decide +kernel)) (fun _ _ _ _ _ => (pg_tupK (K := K) (n := 2) rfl rfl (pgs_cons (pg_name (i := 10) SC__law_notes_right.nd rfl (.inl rfl)) (pgs_cons (pg_name (i := 11) SC__law_notes_right.nd rfl (.inl rfl)) pgs_nil)))) (fun _ _ _ _ _ => pts_one (pt_cmpR op_eq (pv 11) (pe_op op_mod (pe_callTy call_intI (by rfl) T.b_int (by decide +kernel) (pa_cons (pv 6) pa_nil)) (pv 3)) (nomark _))) (fun _ _ _ _ _ => (pv 10))) pa_nil)))
      (pss_one (ps_ret (pe_cmpR (op_eqD (Nat.lt_of_succ_lt (hu65 hr))) (pe_fld (pe_callC C_run (hr.mono (by omega)) rfl (pa_cons (pe_makeC Mp (hr.mono (by omega)) rfl (pa_cons (pv 7) (pa_cons (pe_lstN (pa_cons (pe_tupN (pa_cons pe_str (pa_cons (pv 3) pa_nil))) pa_nil)) pa_nil))) (pa_cons (pv 1) (pa_cons (pv 2) pa_nil)))) rfl) (pv 9) (nomark _))))))))), ?_⟩
    obtain ⟨x0, y0, x1, y1⟩ := two_bd hxy
    have W0 := Hb.start hb
    refine ⟨_, rfl, B, _, rfl, hb, by decide, by decide, fun d H1 d0 d1 kp1 hb1 => ⟨_, _, rfl, rfl, ?_⟩⟩
    refine ⟨_, rfl, B, rfl, hb1, fun first H2 f0 f1 kp2 hb2 => ?_⟩
    refine ⟨_, rfl, B, rfl, hb2, fun more H3 m0 m1 kp3 hb3 => ?_⟩
    refine ⟨_, rfl, B, rfl, hb3, fun asked H4 q0 q1 kp4 hb4 => ?_⟩
    have W4 := (((W0.keep kp1 hb1).keep kp2 hb2).keep kp3 hb3).keep kp4 hb4
    refine ⟨by show 4 ≤ 1000000; decide, W4.nw fun tq H5 _ _ _ W5 => ?_⟩
    refine ⟨tq, _, rfl, SqT.of (W5.get (.head _)), rfl, ?_⟩
    refine ⟨_, _, rfl, _, _, rfl, _, _, rfl, _, _, rfl, rfl, ?_⟩
    have kp5 : Keep B H H5 := W5.tl.kp
    have hb5 : BoxAt H5 B := W5.tl.box
    clear W5 W4 W0
    have nkN : nameOk "n" = true := by decide +kernel
    have hk : ∃ kk : Int, kk = 2 + d ∧ 2 ≤ kk ∧ kk ≤ 4 := ⟨_, rfl, by omega, by omega⟩
    have l1 : ∀ {r : Rw1}, [r].length ≤ 1000000 := fun {r} => by show 1 ≤ 1000000; decide
    have nk : ∀ {z : Str}, z ∈ (["a", "b", "c", "d"] : List Str) → nameOk z = true := fun {z} hz => by
      simp only [List.mem_cons, List.not_mem_nil, or_false] at hz
      rcases hz with rfl | rfl | rfl | rfl <;> decide +kernel
    have okI : ∀ {z : Str}, z ∈ (["a", "b", "c", "d"] : List Str) → (Rw1.ifb (.holds "n" asked) [.tell z] []).Ok := fun {z} hz => ⟨⟨nkN, q0, q1⟩, by show 0 ≤ 2; decide, ⟨nk hz, trivial⟩, trivial⟩
    have szI : ∀ {z : Str}, (Rw1.ifb (.holds "n" asked) [.tell z] []).inner.length ≤ 1000 := fun {z} => by show 2 ≤ 1000; decide
    dsimp only [tSeq, tAsg, gName]
    refine LX.lst (K := K) (c := c) (H0 := H5) (rs := [.ifb (.holds "n" asked) [.tell "a"] [], .add "n" more, .ifb (.holds "n" asked) [.tell "b"] [], .put "n" first]) (RL.cons (RX.ifb2 hE (okI (by simp)) szI (TX.holds nkN q0 q1 (VX.con _) (VX.var rfl)) (SX.lst (RL.cons (RX.tell (nk (by simp)) (VX.con _)) RL.nil) l1)) (RL.cons (RX.add nkN m0 m1 (VX.con _) (VX.var rfl)) (RL.cons (RX.ifb2 hE (okI (by simp)) szI (TX.holds nkN q0 q1 (VX.con _) (VX.var rfl)) (SX.lst (RL.cons (RX.tell (nk (by simp)) (VX.con _)) RL.nil) l1)) (RL.cons (RX.put nkN f0 f1 (VX.con _) (VX.var rfl)) RL.nil)))) (by show 4 ≤ 1000000; decide) H5 (Same.refl _) _ fun l xs H6 H7 s6 n7 s7 hl hr7 => ?_
    have nb1 : l ≠ B.1 := (hb5.same s6).n1 n7
    have nb2 : l ≠ B.2 := (hb5.same s6).n2 n7
    dsimp only [tDrop, tBM]
    refine ⟨_, rfl, .inl ⟨rfl, _, SqL.of hl⟩, ?_⟩
    refine LX.lst (K := K) (c := c) (H0 := H7) (rs := [.ifb (.holds "n" asked) [.tell "c"] [], .add "n" more, .add "n" 1, .ifb (.holds "n" asked) [.tell "d"] []]) (RL.cons (RX.ifb2 hE (okI (by simp)) szI (TX.holds nkN q0 q1 (VX.con _) (VX.var rfl)) (SX.lst (RL.cons (RX.tell (nk (by simp)) (VX.con _)) RL.nil) l1)) (RL.cons (RX.add nkN m0 m1 (VX.con _) (VX.var rfl)) (RL.cons (RX.add nkN (by decide) (by decide) (VX.con _) (VX.con _)) (RL.cons (RX.ifb2 hE (okI (by simp)) szI (TX.holds nkN q0 q1 (VX.con _) (VX.var rfl)) (SX.lst (RL.cons (RX.tell (nk (by simp)) (VX.con _)) RL.nil) l1)) RL.nil)))) (by show 4 ≤ 1000000; decide) H7 (Same.refl _) _ fun l2 zs H8 H9 s8 n9 s9 hl2 hr9 => ?_
    have s79 := s8.trans s9
    have ex : xs.length = 4 := hr7.len
    have ez : zs.length = 4 := hr9.len
    refine ⟨l, l2, xs, zs, rfl, rfl, s79 _ _ hl, hl2, by rw [ex, ez]; show 8 ≤ sizeLine; decide, ?_⟩
    have tu := TK.upd (o := .lst (xs ++ zs)) (s79 _ _ hl) rfl
    have hra := ((hr7.tk (TK.same s79)).app hr9).tk tu
    have hla : (upd H9 l (.lst (xs ++ zs))) l = some (.lst (xs ++ zs)) := upd_same
    have hba : BoxAt (upd H9 l (.lst (xs ++ zs))) B := (hb5.same (s6.trans (s7.trans s79))).keep (fun o e => by rw [upd_ne nb1.symm]; exact e) (fun o e => by rw [upd_ne nb2.symm]; exact e)
    have kpa : Keep B H (upd H9 l (.lst (xs ++ zs))) := fun b o c1 c2 e => by
      have e5 := s6 _ _ (kp5 b o c1 c2 e)
      rw [upd_ne (fun q => by rw [q, n7] at e5; cases e5)]
      exact s79 _ _ (s7 _ _ e5)
    generalize upd H9 l (.lst (xs ++ zs)) = Ha at tu hra hla hba kpa ⊢
    dsimp only [tSeq, tAsg, gName]
    refine il_mk (H0 := Ha) (is := [0, more % (2 + d), first % (2 + d), (first + more + 1) % (2 + d)]) (IA.cons (VX.con _) (IA.cons (VX.opI (by omega) (asInt' (VX.var rfl)) (VX.var rfl)) (IA.cons (VX.opI (by omega) (asInt' (VX.var rfl)) (VX.var rfl)) (IA.cons (VX.opI (by omega) (asInt' (VX.op0 (VX.op0 (VX.var rfl) (VX.var rfl)) (VX.con _))) (VX.var rfl)) IA.nil)))) (by show 4 ≤ 1000000; decide) Ha (Same.refl _) _ fun l3 Hb' sb hl3 => ?_
    refine ⟨_, rfl, "abcd", l3, _, rfl, SqL.of hl3, fun D hD => ?_⟩
    refine lc_it (walk_zipS (ys := [V.int 0, .int (more % (2 + d)), .int (first % (2 + d)), .int ((first + more + 1) % (2 + d))]) (n := 4) (by decide +kernel) rfl) (fun i H' => Hd Hb' H' [(D, .lst ((flt (asked % (2 + d)) ((prs (more % (2 + d)) (first % (2 + d)) ((first + more + 1) % (2 + d))).take i)).map V.str))]) ((Hd.start Hb').new hD _) (fun i H' _ m => SqL.of (m.sm _ _ hl3)) (fun i v H' H'' hi m y => ?_) (fun H' m => ?_)
    · obtain ⟨T', cc, v2, rfl, nT, rfl, hc, hv⟩ := y
      obtain ⟨p, hp, ep, rfl⟩ := prs_at hi hc hv
      have m2 := m.call (Kb.same_upd (o := .tup [.str ⟨#[cc]⟩, .int p.2]) nT)
      have gT : (upd H' T' (.tup [.str ⟨#[cc]⟩, .int p.2])) T' = some (.tup [.str ⟨#[cc]⟩, .int p.2]) := upd_same
      generalize upd H' T' (.tup [.str ⟨#[cc]⟩, .int p.2]) = H2 at m2 gT ⊢
      have e : (prs (more % (2 + d)) (first % (2 + d)) ((first + more + 1) % (2 + d))).take (i + 1) = (prs (more % (2 + d)) (first % (2 + d)) ((first + more + 1) % (2 + d))).take i ++ [p] := by rw [List.take_succ, hp]; rfl
      refine ⟨T', _, rfl, SqT.of gT, rfl, _, _, rfl, _, _, rfl, rfl, rfl, ?_⟩
      refine ⟨_, rfl, _, rfl, _, rfl, _, rfl, _, _, rfl, rfl, by omega, rfl, _, rfl, ?_⟩
      have fl := flt_len (a := asked % (2 + d)) (ps := (prs (more % (2 + d)) (first % (2 + d)) ((first + more + 1) % (2 + d))).take i)
      rw [List.length_take] at fl
      by_cases hb2 : p.2 = asked % (2 + d)
      · refine ifT (decide_eq_true (congrArg V.int hb2)) ⟨_, rfl, _, m2.get (.head _), szs (by rw [List.length_map]; omega), ?_⟩
        rw [e, flt_snoc, decide_eq_true hb2, List.map_append, ep]
        exact m2.set 0 rfl _
      · refine ifF (decide_eq_false fun q => hb2 (by injection q)) ?_
        rw [e, flt_snoc, decide_eq_false hb2]
        simp only [mk1, Bool.false_eq_true, if_false, List.append_nil]
        exact m2
    · have hD := m.get (.head _)
      have e4 : (prs (more % (2 + d)) (first % (2 + d)) ((first + more + 1) % (2 + d))).take 4 = prs (more % (2 + d)) (first % (2 + d)) ((first + more + 1) % (2 + d)) := rfl
      rw [e4] at hD
      refine ⟨D, _, rfl, .inl ⟨SqL.of hD, fun mt nmt => ?_⟩⟩
      have sc := Kb.same_upd (o := .tup ((flt (asked % (2 + d)) (prs (more % (2 + d)) (first % (2 + d)) ((first + more + 1) % (2 + d)))).map V.str)) nmt
      have gM : (upd H' mt (.tup ((flt (asked % (2 + d)) (prs (more % (2 + d)) (first % (2 + d)) ((first + more + 1) % (2 + d)))).map V.str))) mt = some (.tup ((flt (asked % (2 + d)) (prs (more % (2 + d)) (first % (2 + d)) ((first + more + 1) % (2 + d)))).map V.str)) := upd_same
      generalize upd H' mt (.tup ((flt (asked % (2 + d)) (prs (more % (2 + d)) (first % (2 + d)) ((first + more + 1) % (2 + d)))).map V.str)) = Hd2 at sc gM ⊢
      have sac : Same Ha Hd2 := sb.trans (m.sm.trans sc)
      obtain ⟨s0, ru, em⟩ := runs_F (k := 2 + d) (first := first) (more := more) (asked := asked) x0 y0 x1 y1
      have em2 : marksOf s0.ev = flt (asked % (2 + d)) (prs (more % (2 + d)) (first % (2 + d)) ((first + more + 1) % (2 + d))) := by
        have q1 : ((first % (2 + d) + more) % (2 + d) + 1) % (2 + d) = (first + more + 1) % (2 + d) := by
          rw [Int.emod_add_emod, Int.add_assoc, Int.emod_add_emod, Int.add_assoc]
        rw [em, Int.zero_add, q1]
        simp [flt, prs, List.append_assoc]
      have us : UsesOk [("n", 2 + d)] (rowsF first more asked) := uses_of (by kernel_rfl)
      have no : NotesOk [("n", 2 + d)] := ⟨fun q hq => by
        cases List.mem_singleton.mp hq
        exact ⟨nkN, by show 2 ≤ 2 + d; omega, by show 2 + d ≤ 4; omega⟩, by simp⟩
      have hms : ∀ z ∈ marksOf s0.ev, PyData.strOk z = true := by
        have ok1 : ∀ {b : Bool} {q z : Str}, PyData.strOk q = true → z ∈ mk1 b q → PyData.strOk z = true := fun {b q z} h hz => by
          cases b with
          | true => cases List.mem_singleton.mp hz; exact h
          | false => exact absurd hz List.not_mem_nil
        intro z hz
        rw [em] at hz
        simp only [List.mem_append] at hz
        rcases hz with ((hz | hz) | hz) | hz
        · exact ok1 (by decide +kernel) hz
        · exact ok1 (by decide +kernel) hz
        · exact ok1 (by decide +kernel) hz
        · exact ok1 (by decide +kernel) hz
      have shm : SeqAt.shaped (.tuple ((marksOf s0.ev).map .str)) = true := Bool.and_eq_true_iff.mpr ⟨lay_strs hms, decide_eq_true (by show PyData.depthAll _ + 1 ≤ 64; rw [dep_strs]; decide)⟩
      rw [← em2] at gM
      refine eq_data (K := K) (H0 := Hd2) (d := .tuple ((marksOf s0.ev).map .str)) (e := .tuple ((marksOf s0.ev).map .str)) (DX.marks Ou (OX.run (CP := CP) (c := c) (ns := [("n", 2 + d)]) no (by show 1 ≤ 1000; decide) x0 y0 ru (PX.two no us (Nat.le_of_ble_eq_true rfl) (Nat.le_of_ble_eq_true rfl) (by show 1 ≤ 1000; decide) (SX.var rfl (sac _ _ hla) (hra.tk (TK.same sac))) (NX.lst nkN (by omega) (by omega) (VX.con _) (VX.var rfl))) (VX.var rfl) (VX.var rfl))) (DX.var rfl (.tup (SqT.of gM) dp_strs)) shm shm (by show PyData.eqvAll _ _ = true; rw [eqv_strs]; exact decide_eq_true rfl) Hd2 (Same.refl _) _ fun He se => ?_
      exact k He (kpa.trans (Keep.same (sac.trans se))) (hba.same (sac.trans se))
end

/-! ## what the head must show of rows and tests -/
namespace Pg
theorem conB_ok {K : PySem.W.Frag} {C : Addr} {z : Str} (h : conB K C z = true) : ∃ u, Con K C "SORT" (.str z) u := by
  unfold conB at h
  split at h
  · rename_i y t e
    obtain ⟨h1, h2⟩ := He.ba h
    have h1 := of_decide_eq_true h1
    subst h1
    exact ⟨_, e, ⟨t, rfl⟩, of_decide_eq_true h2, by decide +kernel⟩
  · cases h
theorem riB_ok {K : PySem.W.Frag} {c : Clz} {C : Addr} {sort : Str} {ir : Bool} (h : riB K c C sort ir = true) : Ri K c C sort ir := by
  unfold riB at h
  obtain ⟨h1, h⟩ := He.ba h
  obtain ⟨h2, h⟩ := He.ba h
  obtain ⟨h3, h⟩ := He.ba h
  obtain ⟨h4, h⟩ := He.ba h
  obtain ⟨h5, h⟩ := He.ba h
  obtain ⟨h6, h⟩ := He.ba h
  obtain ⟨h7, h8⟩ := He.ba h
  exact ⟨insB_ok h1, fun f hf => of_decide_eq_true (List.all_eq_true.mp h2 f hf), conB_ok h3, of_decide_eq_true h4, of_decide_eq_true h5, of_decide_eq_true h6, of_decide_eq_true h7, of_decide_eq_true h8⟩
theorem test_mem (c : Clz) (t : Tst) : t.cls c ∈ testCs c := by cases t <;> simp [testCs, Tst.cls]
theorem flat_mem (c : Clz) {r : Rw1} (h : r.plain = true) : r.cls c ∈ flatCs c := by cases r <;> first | (cases h; done) | simp [flatCs, Rw1.cls]
theorem idle_mem (c : Clz) {r : Rw1} (h : r.plain = true) (l : r.lays = false) : r.cls c ∈ idleCs c := by cases r <;> first | (cases h; done) | (cases l; done) | simp [idleCs, Rw1.cls]
theorem meB_ok {K : PySem.W.Frag} {m : Str} {f C : Addr} {Cs : List Addr} (h : meB K m f Cs = true) (hC : C ∈ Cs) : Meth K C m f := mtB_ok (List.all_eq_true.mp h C hC)
theorem neB_ok {K : PySem.W.Frag} {C : Addr} {Cs : List Addr} (h : neB K Cs = true) (hC : C ∈ Cs) : PySem.W.findIn K (.ref C) "__ne__" = some (some (.builtin "object.__ne__")) ∧ PySem.W.subIn K (.ref C) (.type "object") = some true := by
  obtain ⟨h1, h2⟩ := He.ba (List.all_eq_true.mp h C hC)
  exact ⟨of_decide_eq_true h1, of_decide_eq_true h2⟩
theorem fmB_ok {K : PySem.W.Frag} {C : Addr} {Cs : List Addr} (h : fmB K Cs = true) (hC : C ∈ Cs) : FmC K C := by
  obtain ⟨h1, h2⟩ := He.ba (List.all_eq_true.mp h C hC)
  exact ⟨of_decide_eq_true h1, of_decide_eq_true h2⟩
theorem chB_ok {K : PySem.W.Frag} {mg : Str → Option Value} {C : Addr} (h : chB K C = true) (hm : mg "Change" = some (.ref C)) : ChT K mg C := by
  unfold chB at h
  obtain ⟨h1, h⟩ := He.ba h
  obtain ⟨h2, h⟩ := He.ba h
  obtain ⟨h3, h⟩ := He.ba h
  obtain ⟨h4, h5⟩ := He.ba h
  have q := neB_ok h5 (.head _)
  exact ⟨insB_ok h1, of_decide_eq_true (p := PySem.W.findIn K (.ref C) "numbers" = some none) h2, of_decide_eq_true (p := PySem.W.findIn K (.ref C) "turn" = some none) h3, hm, h4, q.1, q.2⟩
section
variable {P : Program} {w : World} {K : PySem.W.Frag} {mg : Str → Option Value} {base : Heap} {c : Clz} {f : Addr} {fd : FuncData}
theorem mt_of {C : Addr} {m : Str} {ps : List Str} {k : Nat} {sp : Sp} (M : Meth K C m f) (b : Binds K fd ps []) (h : FnOk P w K mg base CX0 k f fd ps sp) : MtC P w K mg base CX0 k C m ps sp := ⟨f, fd, h, M, b⟩
theorem ht_of (h : FnOk P w K mg base CX0 1 f fd ["self"] (sp_pstr K)) (b : Binds K fd ["self"] []) (mt : meB K "__str__" f (testCs c) = true) (ft : fmB K (testCs c) = true) : Ht P w K mg base c := ⟨fun t => mt_of (meB_ok mt (test_mem c t)) b h, fun t => fmB_ok ft (test_mem c t)⟩
end
end Pg
open Pg
/-! ## defs as the head shows them -/
section
variable {fs : List (PySem.W.Frag → Bool)} {fn : List FY} {P : Program} {K : PySem.W.Frag} {mg : Str → Option Value}
theorem fy_fun (z : SaysY fs fn K) (i : Nat) {d : FY} (h : fn[i]? = some d) (hm : d.mode = 0) (kp : PySem.W.keepIn K (.ref (d.at_ K)) = true) : ∃ kV doc pm an cdv ct, Fun K d.name d.qual d.st (d.at_ K) (PySem.W.fnOf d.name d.qual (defArgs d.st) (defBody d.st) (defScope d.st) .none kV doc pm an cdv ct) := by
  obtain ⟨s, c⟩ := z.at_ i h
  obtain ⟨_, _, _, kV, doc, pm, an, cdv, ct, hl, hc⟩ := fy_ok hm s c
  exact ⟨kV, doc, pm, an, cdv, ct, fun_mk hl hc kp⟩
theorem fy_funS (z : SaysY fs fn K) (i : Nat) {d : FY} (h : fn[i]? = some d) (hm : d.mode = 1) (kp : PySem.W.keepIn K (.ref (d.at_ K)) = true) {D : Addr} (S : SupK P K mg D (d.at_ K) (fyCda K (d.at_ K)) (fyCell K (d.at_ K))) : ∃ fd, FunS P K mg d.name d.qual d.st D [] (d.at_ K) fd := by
  obtain ⟨s, c⟩ := z.at_ i h
  obtain ⟨cl, di, sl, kV, doc, pm, an, ct, hl, hc⟩ := fy_okS hm s c
  exact ⟨_, ⟨cl, di, .none, kV, doc, pm, an, _, _, ct, sl, rfl, hl, hc, S, .inl ⟨rfl, rfl⟩⟩, kp⟩
theorem fy_funE (z : SaysY fs fn K) (i : Nat) {d : FY} (h : fn[i]? = some d) (hm : d.mode = 3) (kp : PySem.W.keepIn K (.ref (d.at_ K)) = true) {D : Addr} (S : SupK P K mg D (d.at_ K) (fyCda K (d.at_ K)) (fyCell K (d.at_ K))) (db : dflB K (d.at_ K) = true) : ∃ fd, FunS P K mg d.name d.qual d.st D [.ref (dfl0 K (d.at_ K))] (d.at_ K) fd := by
  obtain ⟨s, c⟩ := z.at_ i h
  obtain ⟨cl, di, sl, kV, doc, pm, an, ct, hl, hc⟩ := fy_okE hm s c
  exact ⟨_, ⟨cl, di, _, kV, doc, pm, an, _, _, ct, sl, rfl, hl, hc, S, dflB_ok db⟩, kp⟩
theorem fy_funD (z : SaysY fs fn K) (i : Nat) {d : FY} (h : fn[i]? = some d) (hm : d.mode = 2) (kp : PySem.W.keepIn K (.ref (d.at_ K)) = true) (db : dflB K (d.at_ K) = true) : ∃ fd, FunD K d.name d.qual (defArgs d.st) (defBody d.st) (defScope d.st) [.ref (dfl0 K (d.at_ K))] [] (d.at_ K) fd := by
  obtain ⟨s, c⟩ := z.at_ i h
  obtain ⟨cl, di, sl, kV, doc, pm, an, cdv, ct, hl, hc⟩ := fy_okD hm s c
  exact ⟨_, ⟨cl, di, _, kV, doc, pm, an, cdv, ct, sl, rfl, hl, hc, dflB_ok db, .inl rfl⟩, kp⟩
end
theorem funS_bindsN {P : Program} {K : PySem.W.Frag} {mg : Str → Option Value} {x qual : Str} {st : Stmt} {D : Addr} {f : Addr} {fd : FuncData} {ps : List Str} (F : FunS P K mg x qual st D [] f fd)
    (h : ∀ (cc : Addr) (kV doc pm : Value) (an : Option Addr) (cdv ct : Value) (us : List Value), us.length = ps.length → bindArgs (PySem.W.fnX x qual (defArgs st) (defBody st) (defScope st) [("__class__", cc)] .none kV doc pm an cdv ct) ⟨us, []⟩ = pure (ps.zip us)) : Binds K fd ps [] := by
  obtain ⟨oc, od, dV, kV, doc, pm, an, cda, cc, ct, osl, rfl, lk, hcd, _, hD⟩ := F.ex
  rcases hD with ⟨_, rfl⟩ | ⟨e, _⟩
  · exact .all (h cc kV doc pm an _ ct)
  · exact absurd rfl e
theorem gt_strs {K : PySem.W.Frag} {mg : Str → Option Value} {x : Str} {zs : List Str} (h : mg x = some (.ref (He.ga K x))) (t : tupB K (He.ga K x) (isStrs zs) = true) (sz : zs.length ≤ 1000) : GT K mg x (zs.map V.str) := by
  obtain ⟨o, n, s, e, p⟩ := tupB_ok t
  have v := isStrs_ok p
  have l := v.length
  refine gt_of h e rfl rfl ?_ v
  show (tupIt K (He.ga K x)).toArray.size ≤ sizeLine
  rw [List.size_toArray, ← l, List.length_map]
  exact Nat.le_trans sz (by decide)
/-! defaults that are left out or given -/
section
variable {P : Program} {w : World} {K : PySem.W.Frag} {mg : Str → Option Value} {base : Heap} {c : Clz} {f e D : Addr} {fd : FuncData}
theorem pinit_b1 (F : FunD K "__init__" "Part.__init__" (defArgs S_Part__init_) (defBody S_Part__init_) (defScope S_Part__init_) [.ref e] [] f fd) : ∃ ds, Vals [.ref e] ds ∧ Binds K fd ["self", "script", "used"] ds :=
  F.binds1 (ps := ["self", "script", "used"]) 2 0 (by simp) rfl fun _ _ _ _ _ _ _ us its hl hi => match us, its, hl, hi with
    | [_, _], [_], _, _ => ⟨_, rfl, rfl⟩
theorem pinit_b0 (F : FunD K "__init__" "Part.__init__" (defArgs S_Part__init_) (defBody S_Part__init_) (defScope S_Part__init_) [.ref e] [] f fd) : Binds K fd ["self", "script", "used"] [] := by
  obtain ⟨ds, v, b⟩ := F.binds1 (ps := ["self", "script", "used"]) 3 1 (by simp) rfl fun _ _ _ _ _ _ _ us its hl hi => match us, its, hl, hi with
    | [_, _, _], [_], _, _ => ⟨_, rfl, rfl⟩
  cases v
  exact b
theorem sup_1 (F : FunD K "__init__" "Part.__init__" (defArgs S_Part__init_) (defBody S_Part__init_) (defScope S_Part__init_) [.ref e] [] f fd) (T : Txt K mg) (M : SupM K D "__init__" f) : SupC P w K mg base 2 D "__init__" ["self", "script", "used"] (sp_pinit K c) [.ref e] := by
  obtain ⟨ds, v, b⟩ := pinit_b1 F
  exact ⟨f, fd, ds, ok_pinit F T, M, b, v⟩
theorem sup_0 (F : FunD K "__init__" "Part.__init__" (defArgs S_Part__init_) (defBody S_Part__init_) (defScope S_Part__init_) [.ref e] [] f fd) (T : Txt K mg) (M : SupM K D "__init__" f) : SupC P w K mg base 2 D "__init__" ["self", "script", "used"] (sp_pinit K c) [] := ⟨f, fd, [], ok_pinit F T, M, pinit_b0 F, .nil⟩
theorem if_b1 (F : FunS P K mg "__init__" "If.__init__" S_If__init_ D [.ref e] f fd) : ∃ ds, Vals [.ref e] ds ∧ Binds K fd ["self", "test", "rows", "others"] ds :=
  F.binds1 (ps := ["self", "test", "rows", "others"]) 3 0 (by simp) rfl fun _ _ _ _ _ _ _ _ us its hl hi => match us, its, hl, hi with
    | [_, _, _], [_], _, _ => ⟨_, rfl, rfl⟩
theorem if_b0 (F : FunS P K mg "__init__" "If.__init__" S_If__init_ D [.ref e] f fd) : Binds K fd ["self", "test", "rows", "others"] [] := by
  obtain ⟨ds, v, b⟩ := F.binds1 (ps := ["self", "test", "rows", "others"]) 4 1 (by simp) rfl fun _ _ _ _ _ _ _ _ us its hl hi => match us, its, hl, hi with
    | [_, _, _, _], [_], _, _ => ⟨_, rfl, rfl⟩
  cases v
  exact b
theorem mki_of (F : FunS P K mg "__init__" "If.__init__" S_If__init_ D [.ref e] f fd) {sp : Sp} (M : Mk K D f) (hm : mg "If" = some (.ref D)) (h : FnOk P w K mg base CX0 6 f fd ["self", "test", "rows", "others"] sp) : MkD P w K mg base CX0 6 D "If" ["self", "test", "rows", "others"] sp [.ref e] := by
  obtain ⟨ds, v, b⟩ := if_b1 F
  exact ⟨f, fd, ds, h, M, hm, b, v⟩
theorem sqV_e {H : Hp} {ed : Addr} (h : ∃ o n s, K.lookup ed = some ⟨.type "tuple", o, .seq #[] n, s⟩) : SqV K H ed [] := by
  obtain ⟨o, n, s, h⟩ := h
  exact .inr (.inr ⟨_, #[], n, h, rfl, rfl, by decide, .nil⟩)
end

/-! ## what the head must show for runs (behind phead.tmpl) -/
namespace Pg
theorem ki_ok {K : PySem.W.Frag} {Cs : List Addr} (h : kiB K Cs = true) {i j : Nat} (hi : i < Cs.length) (hj : j < Cs.length) : PySem.W.kitOne K (.ref (Cs.getD i 0)) (.ref (Cs.getD j 0)) = some (decide (i = j)) :=
  of_decide_eq_true (List.all_eq_true.mp (List.all_eq_true.mp h i (List.mem_range.mpr hi)) j (List.mem_range.mpr hj))
theorem cls_rk (c : Clz) (r : Rw1) : r.cls c = (rowCs c).getD r.rk 0 := by cases r <;> rfl
theorem rk_lt (r : Rw1) : r.rk < 9 := by cases r <;> exact Nat.le_of_ble_eq_true rfl
theorem cls_tk (c : Clz) (t : Tst) : t.cls c = (testCs c).getD t.rk 0 := by cases t <;> rfl
theorem tk_lt (t : Tst) : t.rk < 5 := by cases t <;> exact Nat.le_of_ble_eq_true rfl
theorem hk_of {K : PySem.W.Frag} {c : Clz} (h1 : kiB K (rowCs c) = true) (h2 : kiB K (testCs c) = true) : Hk K c := by
  have r : ∀ (u : Rw1) (j : Nat), j < 9 → PySem.W.kitOne K (.ref (u.cls c)) (.ref ((rowCs c).getD j 0)) = some (decide (u.rk = j)) := fun u j hj => by
    rw [cls_rk]
    exact ki_ok h1 (rk_lt u) hj
  have t : ∀ (u : Tst) (j : Nat), j < 5 → PySem.W.kitOne K (.ref (u.cls c)) (.ref ((testCs c).getD j 0)) = some (decide (u.rk = j)) := fun u j hj => by
    rw [cls_tk]
    exact ki_ok h2 (tk_lt u) hj
  exact ⟨fun u => r u 0 (by decide), fun u => r u 1 (by decide), fun u => r u 2 (by decide), fun u => r u 3 (by decide), fun u => r u 4 (by decide), fun u => r u 5 (by decide), fun u => r u 6 (by decide), fun u => r u 7 (by decide), fun u => r u 8 (by decide), fun u => t u 0 (by decide), fun u => t u 2 (by decide), fun u => t u 3 (by decide), fun u => t u 4 (by decide)⟩
theorem insNo_ok {K : PySem.W.Frag} {C : Addr} {fs : List Str} (h : insNoB K C fs = true) : C8.InsC K C ∧ ∀ f ∈ fs, PySem.W.findIn K (.ref C) f = some none := by
  obtain ⟨h1, h2⟩ := Bool.and_eq_true_iff.mp h
  exact ⟨insB_ok h1, fun f hf => of_decide_eq_true (List.all_eq_true.mp h2 f hf)⟩
theorem isIs4_ok : ∀ {is : List Int} {vs : List Value}, isIs4 is vs = true → Vals (is.map V.int) vs
  | [], [], _ => .nil
  | i :: is, .int j t :: vs, h => by
    obtain ⟨h1, h2⟩ := Bool.and_eq_true_iff.mp (show (decide (i = j) && isIs4 is vs) = true from h)
    have e := of_decide_eq_true h1
    subst e
    exact .cons ⟨t, rfl⟩ (isIs4_ok h2)
theorem gt_ints {K : PySem.W.Frag} {mg : Str → Option Value} {x : Str} {is : List Int} (h : mg x = some (.ref (He.ga K x))) (t : tupB K (He.ga K x) (isIs4 is) = true) (sz : is.length ≤ 1000) : GT K mg x (is.map V.int) := by
  obtain ⟨o, n, s, e, p⟩ := tupB_ok t
  have v := isIs4_ok p
  have l := v.length
  refine gt_of h e rfl rfl ?_ v
  show (tupIt K (He.ga K x)).toArray.size ≤ sizeLine
  rw [List.size_toArray, ← l, List.length_map]
  exact Nat.le_trans sz (by decide)
theorem tupE_t {K : PySem.W.Frag} {a : Addr} (h : tupB K a isE = true) : ∃ o n s, K.lookup a = some ⟨.type "tuple", o, .seq #[] n, s⟩ := by
  obtain ⟨o, n, s, e, p⟩ := tupB_ok h
  have : tupIt K a = [] := by
    revert p; generalize tupIt K a = l
    intro p
    cases l with
    | nil => rfl
    | cons _ _ => cases p
  rw [this] at e
  exact ⟨o, n, s, e⟩
theorem dfl2B_t0 {K : PySem.W.Frag} {f : Addr} (h : dfl2B K f = true) : ∃ o n s, K.lookup (dfl0 K f) = some ⟨.type "tuple", o, .seq #[] n, s⟩ := tupE_t (Bool.and_eq_true_iff.mp (Bool.and_eq_true_iff.mp h).2).1
theorem dfl2B_t1 {K : PySem.W.Frag} {f : Addr} (h : dfl2B K f = true) : ∃ o n s, K.lookup (dfl1 K f) = some ⟨.type "tuple", o, .seq #[] n, s⟩ := tupE_t (Bool.and_eq_true_iff.mp (Bool.and_eq_true_iff.mp h).2).2
theorem dfl2B_ok {K : PySem.W.Frag} {f : Addr} (h : dfl2B K f = true) : DflV K (.ref (fyDfl K f)) [.ref (dfl0 K f), .ref (dfl1 K f)] := by
  obtain ⟨h, _⟩ := Bool.and_eq_true_iff.mp h
  obtain ⟨o, n, s, e, p⟩ := tupB_ok h
  have : tupIt K (fyDfl K f) = [.ref (dfl0 K f), .ref (dfl1 K f)] := by
    unfold dfl0 dfl1 tupRef
    revert p; generalize tupIt K (fyDfl K f) = l
    intro p
    match l, p with
    | [.ref x, .ref y], _ => rfl
  rw [this] at e
  exact .inr ⟨by simp, fyDfl K f, _, [.ref (dfl0 K f), .ref (dfl1 K f)], n, rfl, e, rfl, .cons rfl (.cons rfl .nil)⟩
section
variable {P : Program} {w : World} {K : PySem.W.Frag} {mg : Str → Option Value} {base : Heap} {c : Clz} {f e1 e2 D : Addr} {fd : FuncData}
theorem pg_b1 (F : FunD K "__init__" "Program.__init__" (defArgs S_Program__init_) (defBody S_Program__init_) (defScope S_Program__init_) [.ref e1, .ref e2] [] f fd) : ∃ ds, Vals [.ref e2] ds ∧ Binds K fd ["self", "rows", "notes"] ds :=
  F.binds1 (ps := ["self", "rows", "notes"]) 2 1 (by simp) rfl fun _ _ _ _ _ _ _ us its hl hi => match us, its, hl, hi with
    | [_, _], [_, _], _, _ => ⟨_, rfl, rfl⟩
theorem pg_b2 (F : FunD K "__init__" "Program.__init__" (defArgs S_Program__init_) (defBody S_Program__init_) (defScope S_Program__init_) [.ref e1, .ref e2] [] f fd) : ∃ ds, Vals [.ref e1, .ref e2] ds ∧ Binds K fd ["self", "rows", "notes"] ds :=
  F.binds1 (ps := ["self", "rows", "notes"]) 1 0 (by simp) rfl fun _ _ _ _ _ _ _ us its hl hi => match us, its, hl, hi with
    | [_], [_, _], _, _ => ⟨_, rfl, rfl⟩
theorem pg_b0 (F : FunD K "__init__" "Program.__init__" (defArgs S_Program__init_) (defBody S_Program__init_) (defScope S_Program__init_) [.ref e1, .ref e2] [] f fd) : Binds K fd ["self", "rows", "notes"] [] := by
  obtain ⟨ds, v, b⟩ := F.binds1 (ps := ["self", "rows", "notes"]) 3 2 (by simp) rfl fun _ _ _ _ _ _ _ us its hl hi => match us, its, hl, hi with
    | [_, _, _], [_, _], _, _ => ⟨_, rfl, rfl⟩
  cases v
  exact b
theorem mkp_0 (F : FunD K "__init__" "Program.__init__" (defArgs S_Program__init_) (defBody S_Program__init_) (defScope S_Program__init_) [.ref e1, .ref e2] [] f fd) {k : Nat} {sp : Sp} (M : Mk K D f) (hm : mg "Program" = some (.ref D)) (h : FnOk P w K mg base CX0 k f fd ["self", "rows", "notes"] sp) : MkC P w K mg base CX0 k D "Program" ["self", "rows", "notes"] sp := ⟨f, fd, h, M, hm, pg_b0 F⟩
theorem mkp_1 (F : FunD K "__init__" "Program.__init__" (defArgs S_Program__init_) (defBody S_Program__init_) (defScope S_Program__init_) [.ref e1, .ref e2] [] f fd) {k : Nat} {sp : Sp} (M : Mk K D f) (hm : mg "Program" = some (.ref D)) (h : FnOk P w K mg base CX0 k f fd ["self", "rows", "notes"] sp) : MkD P w K mg base CX0 k D "Program" ["self", "rows", "notes"] sp [.ref e2] := by
  obtain ⟨ds, v, b⟩ := pg_b1 F
  exact ⟨f, fd, ds, h, M, hm, b, v⟩
theorem mkp_2 (F : FunD K "__init__" "Program.__init__" (defArgs S_Program__init_) (defBody S_Program__init_) (defScope S_Program__init_) [.ref e1, .ref e2] [] f fd) {k : Nat} {sp : Sp} (M : Mk K D f) (hm : mg "Program" = some (.ref D)) (h : FnOk P w K mg base CX0 k f fd ["self", "rows", "notes"] sp) : MkD P w K mg base CX0 k D "Program" ["self", "rows", "notes"] sp [.ref e1, .ref e2] := by
  obtain ⟨ds, v, b⟩ := pg_b2 F
  exact ⟨f, fd, ds, h, M, hm, b, v⟩
--@run
theorem run_calm {CP CO : Addr} (h : FnC P w K mg base (L2.CX P w) 15 "run" ["program", "first", "second"] (sp_run K c CP CO)) : FnC P w K mg base CX0 15 "run" ["program", "first", "second"] (sp_runB K c CP CO) := by
  obtain ⟨f, fd, h, r⟩ := h.calm
  exact ⟨f, fd, h.imp fun vs H Q E q => runB_run (E := E0) q, r⟩
--@*
theorem meth_fn {C g : Addr} {m : Str} (M : Meth K C m g) (h : PySem.W.fnIn K g = true) : ∀ f, Meth K C m f → PySem.W.fnIn K f = true := fun f N => by
  have e := M.at_.symm.trans N.at_
  cases e
  exact h
theorem fy_funD2 {fs : List (PySem.W.Frag → Bool)} {fn : List FY} (z : SaysY fs fn K) (i : Nat) {d : FY} (h : fn[i]? = some d) (hm : d.mode = 2) (kp : PySem.W.keepIn K (.ref (d.at_ K)) = true) (db : dfl2B K (d.at_ K) = true) : ∃ fd, FunD K d.name d.qual (defArgs d.st) (defBody d.st) (defScope d.st) [.ref (dfl0 K (d.at_ K)), .ref (dfl1 K (d.at_ K))] [] (d.at_ K) fd := by
  obtain ⟨s, c⟩ := z.at_ i h
  obtain ⟨cl, di, sl, kV, doc, pm, an, cdv, ct, hl, hc⟩ := fy_okD hm s c
  exact ⟨_, ⟨cl, di, _, kV, doc, pm, an, cdv, ct, sl, rfl, hl, hc, dfl2B_ok db, .inl rfl⟩, kp⟩
end
--@run
theorem gd_of {K : PySem.W.Frag} {w : World} {mg : Str → Option Value} {x : Str} (h : mg x = some (.ref (He.ga K x))) (d : ∃ es n, KDict K w (He.ga K x) es n) (v : dctI K (He.ga K x) goalsI = true) : GD K w mg x :=
  ⟨_, h, dctI_ok d v (q := ("alike", 0)) (.head _), dctI_ok d v (q := ("longer", 1)) (.tail _ (.head _)), dctI_ok d v (q := ("shorter", -1)) (.tail _ (.tail _ (.head _)))⟩
--@*
end Pg
open Pg

--@@LATE
theorem zfacts {w : World} {K : PySem.W.Frag} {h : Heap} {mg : Str → Option Value} {fa : Addr} (X : K.In h) (G : h.Ns mainGlobals mg) (hfa : mg "law" = some (.ref fa)) (cu : SaysU zfs zfn zts w K) :
    ∃ fd : FuncData, (∀ (s : Shared) (v : Value), BindsTo s fd ⟨[v], []⟩ [("_law_script", v)]) ∧ ∀ base : Heap, K.In base → base.Ns mainGlobals mg → FnOk P0 w K mg base CX0 28 fa fd ["_law_script"] (Lw.Pg.sp_law44 K) := by
  have c := cu.d
  have T : Txt K mg := ⟨(PySem.W.mg_none_of X G (freeB_ok (c.fact 0 rfl))), (PySem.W.mg_none_of X G (freeB_ok (c.fact 1 rfl))), (PySem.W.mg_none_of X G (freeB_ok (c.fact 2 rfl))), (PySem.W.mg_none_of X G (freeB_ok (c.fact 3 rfl))), (PySem.W.mg_none_of X G (freeB_ok (c.fact 4 rfl))), (PySem.W.mg_none_of X G (freeB_ok (c.fact 5 rfl))), (PySem.W.mg_none_of X G (freeB_ok (c.fact 6 rfl))), (PySem.W.mg_none_of X G (freeB_ok (c.fact 7 rfl))), (PySem.W.mg_none_of X G (freeB_ok (c.fact 8 rfl))), (PySem.W.mg_none_of X G (freeB_ok (c.fact 9 rfl))), (PySem.W.mg_none_of X G (freeB_ok (c.fact 10 rfl))), (PySem.W.mg_none_of X G (freeB_ok (c.fact 11 rfl))), (PySem.W.mg_none_of X G (freeB_ok (c.fact 12 rfl))), (PySem.W.mg_none_of X G (freeB_ok (c.fact 13 rfl))), (PySem.W.mg_none_of X G (freeB_ok (c.fact 14 rfl))), (PySem.W.mg_none_of X G (freeB_ok (c.fact 15 rfl))), (PySem.W.mg_none_of X G (freeB_ok (c.fact 16 rfl))), (PySem.W.mg_none_of X G (freeB_ok (c.fact 17 rfl))), (PySem.W.mg_none_of X G (freeB_ok (c.fact 18 rfl))), (PySem.W.mg_none_of X G (freeB_ok (c.fact 19 rfl)))⟩
  have hsup : mg "super" = none := (PySem.W.mg_none_of X G (freeB_ok (c.fact 17 rfl)))
  have e := hfa.symm.trans (PySem.W.mg_of X G (gloB_ok (c.fact 20 rfl)))
  cases e
  obtain ⟨kV_law, doc_law, pm_law, an_law, cd_law, ct_law, F_law⟩ := fy_fun (d := ⟨fun K => (He.ga K "law"), "law", "law", S_law, 0⟩) c 0 rfl rfl (c.fact 21 rfl)
  have F_law : Fun K "law" "law" S_law (He.ga K "law") (PySem.W.fnOf "law" "law" (defArgs S_law) (defBody S_law) (defScope S_law) .none kV_law doc_law pm_law an_law cd_law ct_law) := F_law
  have b_law := F_law.binds (ps := ["_law_script"]) fun _ _ _ _ _ _ us hl => match us, hl with | [_], _ => rfl
  refine ⟨PySem.W.fnOf "law" "law" (defArgs S_law) (defBody S_law) (defScope S_law) .none kV_law doc_law pm_law an_law cd_law ct_law, fun s v => .of_eq rfl, fun base _ _ => ?_⟩
  have Hc : Hi K mg (pclz K) := ⟨riB_ok (c.fact 22 rfl), riB_ok (c.fact 23 rfl), riB_ok (c.fact 24 rfl), riB_ok (c.fact 25 rfl), riB_ok (c.fact 26 rfl), riB_ok (c.fact 27 rfl), riB_ok (c.fact 28 rfl), riB_ok (c.fact 29 rfl), riB_ok (c.fact 30 rfl), riB_ok (c.fact 31 rfl), riB_ok (c.fact 32 rfl), riB_ok (c.fact 33 rfl), riB_ok (c.fact 34 rfl), riB_ok (c.fact 35 rfl), (PySem.W.mg_of X G (gloB_ok (c.fact 36 rfl))), (PySem.W.mg_of X G (gloB_ok (c.fact 37 rfl))), (PySem.W.mg_of X G (gloB_ok (c.fact 38 rfl))), (PySem.W.mg_of X G (gloB_ok (c.fact 39 rfl))), of_decide_eq_true (c.fact 40 rfl)⟩
  have Rc : ChT K mg (pclz K).change := chB_ok (c.fact 41 rfl) (PySem.W.mg_of X G (gloB_ok (c.fact 42 rfl)))
  have GL : GS mg "LETTERS" letters := let ⟨t, h⟩ := strB_ok (c.fact 43 rfl); ⟨t, PySem.W.mg_of X G h⟩
  have GM : GI mg "MOST_LETTERS" 4 := let ⟨t, h⟩ := intB_ok (c.fact 44 rfl); ⟨t, PySem.W.mg_of X G h⟩
  have GB : GT K mg "BARRED" [.str "not", .str "is"] := gt_strs (zs := ["not", "is"]) (PySem.W.mg_of X G (gloB_ok (c.fact 45 rfl))) (c.fact 46 rfl) (by decide)
  have mgU := (PySem.W.mg_of X G (gloB_ok (c.fact 47 rfl)))
  have UE : UeC K (He.ga K "UnmarkedError") := ⟨⟨(c.fact 48 rfl), (of_decide_eq_true (c.fact 49 rfl))⟩, (clsB_ok (c.fact 50 rfl))⟩
  obtain ⟨_, _, _, _, _, _, _, _, _, _, _, _, _, _, x_InvalidRow⟩ := errB_ok (c.fact 51 rfl)
  have O_InvalidRow : OexC K (He.ga K "InvalidRow") := ⟨⟨_, _, _, _, _, _, _, _, _, _, _, _, _, _, _, x_InvalidRow, by rfl⟩, (of_decide_eq_true (c.fact 52 rfl)), (of_decide_eq_true (c.fact 53 rfl)), (of_decide_eq_true (c.fact 54 rfl)), (c.fact 55 rfl)⟩
  obtain ⟨kV_InvalidRow__init_, doc_InvalidRow__init_, pm_InvalidRow__init_, an_InvalidRow__init_, cd_InvalidRow__init_, ct_InvalidRow__init_, F_InvalidRow__init_⟩ := fy_fun (d := ⟨fun K => (He.ma K (He.ga K "InvalidRow") "__init__"), "__init__", "InvalidRow.__init__", S_InvalidRow__init_, 0⟩) c 1 rfl rfl (c.fact 56 rfl)
  have F_InvalidRow__init_ : Fun K "__init__" "InvalidRow.__init__" S_InvalidRow__init_ (He.ma K (He.ga K "InvalidRow") "__init__") (PySem.W.fnOf "__init__" "InvalidRow.__init__" (defArgs S_InvalidRow__init_) (defBody S_InvalidRow__init_) (defScope S_InvalidRow__init_) .none kV_InvalidRow__init_ doc_InvalidRow__init_ pm_InvalidRow__init_ an_InvalidRow__init_ cd_InvalidRow__init_ ct_InvalidRow__init_) := F_InvalidRow__init_
  have b_InvalidRow__init_ := F_InvalidRow__init_.binds (ps := ["self", "part"]) fun _ _ _ _ _ _ us hl => match us, hl with | [_, _], _ => rfl
  have E_InvalidRow : Er1 P0 w K mg base "InvalidRow" (He.ga K "InvalidRow") "part" "part" := ⟨_, _, (ok_err_InvalidRow F_InvalidRow__init_ UE mgU O_InvalidRow (of_decide_eq_true (c.fact 59 rfl))).mono (by decide), O_InvalidRow, (of_decide_eq_true (c.fact 57 rfl)), (of_decide_eq_true (c.fact 58 rfl)), (PySem.W.mg_of X G (gloB_ok (c.fact 60 rfl))), b_InvalidRow__init_⟩
  obtain ⟨_, _, _, _, _, _, _, _, _, _, _, _, _, _, x_InvalidChange⟩ := errB_ok (c.fact 61 rfl)
  have O_InvalidChange : OexC K (He.ga K "InvalidChange") := ⟨⟨_, _, _, _, _, _, _, _, _, _, _, _, _, _, _, x_InvalidChange, by rfl⟩, (of_decide_eq_true (c.fact 62 rfl)), (of_decide_eq_true (c.fact 63 rfl)), (of_decide_eq_true (c.fact 64 rfl)), (c.fact 65 rfl)⟩
  obtain ⟨kV_InvalidChange__init_, doc_InvalidChange__init_, pm_InvalidChange__init_, an_InvalidChange__init_, cd_InvalidChange__init_, ct_InvalidChange__init_, F_InvalidChange__init_⟩ := fy_fun (d := ⟨fun K => (He.ma K (He.ga K "InvalidChange") "__init__"), "__init__", "InvalidChange.__init__", S_InvalidChange__init_, 0⟩) c 2 rfl rfl (c.fact 66 rfl)
  have F_InvalidChange__init_ : Fun K "__init__" "InvalidChange.__init__" S_InvalidChange__init_ (He.ma K (He.ga K "InvalidChange") "__init__") (PySem.W.fnOf "__init__" "InvalidChange.__init__" (defArgs S_InvalidChange__init_) (defBody S_InvalidChange__init_) (defScope S_InvalidChange__init_) .none kV_InvalidChange__init_ doc_InvalidChange__init_ pm_InvalidChange__init_ an_InvalidChange__init_ cd_InvalidChange__init_ ct_InvalidChange__init_) := F_InvalidChange__init_
  have b_InvalidChange__init_ := F_InvalidChange__init_.binds (ps := ["self"]) fun _ _ _ _ _ _ us hl => match us, hl with | [_], _ => rfl
  have E_InvalidChange : ErC P0 w K mg base "InvalidChange" (He.ga K "InvalidChange") := ⟨_, _, (ok_err_InvalidChange F_InvalidChange__init_ UE mgU O_InvalidChange).mono (by decide), O_InvalidChange, (of_decide_eq_true (c.fact 67 rfl)), (of_decide_eq_true (c.fact 68 rfl)), (PySem.W.mg_of X G (gloB_ok (c.fact 69 rfl))), b_InvalidChange__init_⟩
  obtain ⟨kV_is_integer, doc_is_integer, pm_is_integer, an_is_integer, cd_is_integer, ct_is_integer, F_is_integer⟩ := fy_fun (d := ⟨fun K => (He.ga K "is_integer"), "is_integer", "is_integer", S_is_integer, 0⟩) c 3 rfl rfl (c.fact 70 rfl)
  have F_is_integer : Fun K "is_integer" "is_integer" S_is_integer (He.ga K "is_integer") (PySem.W.fnOf "is_integer" "is_integer" (defArgs S_is_integer) (defBody S_is_integer) (defScope S_is_integer) .none kV_is_integer doc_is_integer pm_is_integer an_is_integer cd_is_integer ct_is_integer) := F_is_integer
  have b_is_integer := F_is_integer.binds (ps := ["value"]) fun _ _ _ _ _ _ us hl => match us, hl with | [_], _ => rfl
  have C_isint : FnC P0 w K mg base CX0 1 "is_integer" ["value"] (sp_isint K) := ⟨_, _, ok_isint F_is_integer T , (PySem.W.mg_of X G (gloB_ok (c.fact 71 rfl))), (c.fact 70 rfl), b_is_integer⟩
  obtain ⟨kV_is_name, doc_is_name, pm_is_name, an_is_name, cd_is_name, ct_is_name, F_is_name⟩ := fy_fun (d := ⟨fun K => (He.ga K "is_name"), "is_name", "is_name", S_is_name, 0⟩) c 4 rfl rfl (c.fact 72 rfl)
  have F_is_name : Fun K "is_name" "is_name" S_is_name (He.ga K "is_name") (PySem.W.fnOf "is_name" "is_name" (defArgs S_is_name) (defBody S_is_name) (defScope S_is_name) .none kV_is_name doc_is_name pm_is_name an_is_name cd_is_name ct_is_name) := F_is_name
  have b_is_name := F_is_name.binds (ps := ["value"]) fun _ _ _ _ _ _ us hl => match us, hl with | [_], _ => rfl
  have C_isname : FnC P0 w K mg base CX0 1 "is_name" ["value"] (sp_isname K) := ⟨_, _, ok_isname F_is_name T GL GM GB, (PySem.W.mg_of X G (gloB_ok (c.fact 73 rfl))), (c.fact 72 rfl), b_is_name⟩
  obtain ⟨kV_need_name, doc_need_name, pm_need_name, an_need_name, cd_need_name, ct_need_name, F_need_name⟩ := fy_fun (d := ⟨fun K => (He.ga K "need_name"), "need_name", "need_name", S_need_name, 0⟩) c 5 rfl rfl (c.fact 74 rfl)
  have F_need_name : Fun K "need_name" "need_name" S_need_name (He.ga K "need_name") (PySem.W.fnOf "need_name" "need_name" (defArgs S_need_name) (defBody S_need_name) (defScope S_need_name) .none kV_need_name doc_need_name pm_need_name an_need_name cd_need_name ct_need_name) := F_need_name
  have b_need_name := F_need_name.binds (ps := ["value", "part"]) fun _ _ _ _ _ _ us hl => match us, hl with | [_, _], _ => rfl
  have C_ndname : FnC P0 w K mg base (L2.CX P0 w) 4 "need_name" ["value", "part"] (sp_ndname K (He.ga K "InvalidRow")) := ⟨_, _, ok_ndname F_need_name T C_isname E_InvalidRow, (PySem.W.mg_of X G (gloB_ok (c.fact 75 rfl))), (c.fact 74 rfl), b_need_name⟩
  obtain ⟨kV_need_number, doc_need_number, pm_need_number, an_need_number, cd_need_number, ct_need_number, F_need_number⟩ := fy_fun (d := ⟨fun K => (He.ga K "need_number"), "need_number", "need_number", S_need_number, 0⟩) c 6 rfl rfl (c.fact 76 rfl)
  have F_need_number : Fun K "need_number" "need_number" S_need_number (He.ga K "need_number") (PySem.W.fnOf "need_number" "need_number" (defArgs S_need_number) (defBody S_need_number) (defScope S_need_number) .none kV_need_number doc_need_number pm_need_number an_need_number cd_need_number ct_need_number) := F_need_number
  have b_need_number := F_need_number.binds (ps := ["value"]) fun _ _ _ _ _ _ us hl => match us, hl with | [_], _ => rfl
  have C_ndnum : FnC P0 w K mg base (L2.CX P0 w) 4 "need_number" ["value"] (sp_ndnum K (He.ga K "InvalidRow")) := ⟨_, _, ok_ndnum F_need_number T C_isint E_InvalidRow, (PySem.W.mg_of X G (gloB_ok (c.fact 77 rfl))), (c.fact 76 rfl), b_need_number⟩
  obtain ⟨kV_need_test, doc_need_test, pm_need_test, an_need_test, cd_need_test, ct_need_test, F_need_test⟩ := fy_fun (d := ⟨fun K => (He.ga K "need_test"), "need_test", "need_test", S_need_test, 0⟩) c 7 rfl rfl (c.fact 78 rfl)
  have F_need_test : Fun K "need_test" "need_test" S_need_test (He.ga K "need_test") (PySem.W.fnOf "need_test" "need_test" (defArgs S_need_test) (defBody S_need_test) (defScope S_need_test) .none kV_need_test doc_need_test pm_need_test an_need_test cd_need_test ct_need_test) := F_need_test
  have b_need_test := F_need_test.binds (ps := ["value"]) fun _ _ _ _ _ _ us hl => match us, hl with | [_], _ => rfl
  have C_ndtest : FnC P0 w K mg base (L2.CX P0 w) 4 "need_test" ["value"] (sp_ndtest K (pclz K) (He.ga K "InvalidRow")) := ⟨_, _, ok_ndtest F_need_test T Hc E_InvalidRow, (PySem.W.mg_of X G (gloB_ok (c.fact 79 rfl))), (c.fact 78 rfl), b_need_test⟩
  obtain ⟨kV_need_rows, doc_need_rows, pm_need_rows, an_need_rows, cd_need_rows, ct_need_rows, F_need_rows⟩ := fy_fun (d := ⟨fun K => (He.ga K "need_rows"), "need_rows", "need_rows", S_need_rows, 0⟩) c 8 rfl rfl (c.fact 80 rfl)
  have F_need_rows : Fun K "need_rows" "need_rows" S_need_rows (He.ga K "need_rows") (PySem.W.fnOf "need_rows" "need_rows" (defArgs S_need_rows) (defBody S_need_rows) (defScope S_need_rows) .none kV_need_rows doc_need_rows pm_need_rows an_need_rows cd_need_rows ct_need_rows) := F_need_rows
  have b_need_rows := F_need_rows.binds (ps := ["rows"]) fun _ _ _ _ _ _ us hl => match us, hl with | [_], _ => rfl
  have C_ndrows : FnC P0 w K mg base (L2.CX P0 w) 4 "need_rows" ["rows"] (sp_ndrows K (pclz K) (He.ga K "InvalidRow")) := ⟨_, _, ok_ndrows F_need_rows T Hc E_InvalidRow, (PySem.W.mg_of X G (gloB_ok (c.fact 81 rfl))), (c.fact 80 rfl), b_need_rows⟩
  obtain ⟨fd_Part__init_, F_Part__init_⟩ := fy_funD (d := ⟨fun K => (He.ma K (He.ga K "Part") "__init__"), "__init__", "Part.__init__", S_Part__init_, 2⟩) c 9 rfl rfl (c.fact 82 rfl) (c.fact 83 rfl)
  have F_Part__init_ : FunD K "__init__" "Part.__init__" (defArgs S_Part__init_) (defBody S_Part__init_) (defScope S_Part__init_) [.ref (dfl0 K (He.ma K (He.ga K "Part") "__init__"))] [] (He.ma K (He.ga K "Part") "__init__") fd_Part__init_ := F_Part__init_
  have GG : GT K mg "GOALS_rows" [.str "alike", .str "longer", .str "shorter"] := gt_strs (zs := ["alike", "longer", "shorter"]) (PySem.W.mg_of X G (gloB_ok (c.fact 84 rfl))) (c.fact 85 rfl) (by decide)
  obtain ⟨kV_Part__str_, doc_Part__str_, pm_Part__str_, an_Part__str_, cd_Part__str_, ct_Part__str_, F_Part__str_⟩ := fy_fun (d := ⟨fun K => (He.ma K (He.ga K "Part") "__str__"), "__str__", "Part.__str__", S_Part__str_, 0⟩) c 10 rfl rfl (c.fact 86 rfl)
  have F_Part__str_ : Fun K "__str__" "Part.__str__" S_Part__str_ (He.ma K (He.ga K "Part") "__str__") (PySem.W.fnOf "__str__" "Part.__str__" (defArgs S_Part__str_) (defBody S_Part__str_) (defScope S_Part__str_) .none kV_Part__str_ doc_Part__str_ pm_Part__str_ an_Part__str_ cd_Part__str_ ct_Part__str_) := F_Part__str_
  have b_Part__str_ := F_Part__str_.binds (ps := ["self"]) fun _ _ _ _ _ _ us hl => match us, hl with | [_], _ => rfl
  have Hs : Ht P0 w K mg base (pclz K) := ht_of (ok_pstr F_Part__str_ T) b_Part__str_ (c.fact 87 rfl) (c.fact 88 rfl)
  have S_Exchange__init__ := supB_ok (P := P0) (mg := mg) (D := (He.ga K "Exchange")) (f := (He.ma K (He.ga K "Exchange") "__init__")) (by kernel_rfl) hsup (c.fact 90 rfl)
  obtain ⟨fd_Exchange__init_, F_Exchange__init_⟩ := fy_funS (d := ⟨fun K => (He.ma K (He.ga K "Exchange") "__init__"), "__init__", "Exchange.__init__", S_Exchange__init_, 1⟩) c 11 rfl rfl (c.fact 89 rfl) S_Exchange__init__
  have F_Exchange__init_ : FunS P0 K mg "__init__" "Exchange.__init__" S_Exchange__init_ (He.ga K "Exchange") [] (He.ma K (He.ga K "Exchange") "__init__") fd_Exchange__init_ := F_Exchange__init_
  have b_Exchange__init_ := funS_bindsN F_Exchange__init_ (ps := ["self"]) fun _ _ _ _ _ _ _ us hl => match us, hl with | [_], _ => rfl
  have K_exch : MkC P0 w K mg base CX0 4 (pclz K).exch "Exchange" ["self"] (sp_rinit K (pclz K) (pclz K).exch fun H p => RowAt K (pclz K) H p .exch) := ⟨_, _, ok_exchinit (c := pclz K) F_Exchange__init_ T Hc (sup_1 F_Part__init_ T (supMB_ok (c.fact 91 rfl))) (fun H => dflB_sq (c.fact 83 rfl) H), mkB_ok (c.fact 92 rfl), (PySem.W.mg_of X G (gloB_ok (c.fact 93 rfl))), b_Exchange__init_⟩
  have S_Lay__init__ := supB_ok (P := P0) (mg := mg) (D := (He.ga K "Lay")) (f := (He.ma K (He.ga K "Lay") "__init__")) (by kernel_rfl) hsup (c.fact 95 rfl)
  obtain ⟨fd_Lay__init_, F_Lay__init_⟩ := fy_funS (d := ⟨fun K => (He.ma K (He.ga K "Lay") "__init__"), "__init__", "Lay.__init__", S_Lay__init_, 1⟩) c 12 rfl rfl (c.fact 94 rfl) S_Lay__init__
  have F_Lay__init_ : FunS P0 K mg "__init__" "Lay.__init__" S_Lay__init_ (He.ga K "Lay") [] (He.ma K (He.ga K "Lay") "__init__") fd_Lay__init_ := F_Lay__init_
  have b_Lay__init_ := funS_bindsN F_Lay__init_ (ps := ["self"]) fun _ _ _ _ _ _ _ us hl => match us, hl with | [_], _ => rfl
  have K_lay : MkC P0 w K mg base CX0 4 (pclz K).lay "Lay" ["self"] (sp_rinit K (pclz K) (pclz K).lay fun H p => RowAt K (pclz K) H p .lay) := ⟨_, _, ok_layinit (c := pclz K) F_Lay__init_ T Hc (sup_1 F_Part__init_ T (supMB_ok (c.fact 96 rfl))) (fun H => dflB_sq (c.fact 83 rfl) H), mkB_ok (c.fact 97 rfl), (PySem.W.mg_of X G (gloB_ok (c.fact 98 rfl))), b_Lay__init_⟩
  have S_Stop__init__ := supB_ok (P := P0) (mg := mg) (D := (He.ga K "Stop")) (f := (He.ma K (He.ga K "Stop") "__init__")) (by kernel_rfl) hsup (c.fact 100 rfl)
  obtain ⟨fd_Stop__init_, F_Stop__init_⟩ := fy_funS (d := ⟨fun K => (He.ma K (He.ga K "Stop") "__init__"), "__init__", "Stop.__init__", S_Stop__init_, 1⟩) c 13 rfl rfl (c.fact 99 rfl) S_Stop__init__
  have F_Stop__init_ : FunS P0 K mg "__init__" "Stop.__init__" S_Stop__init_ (He.ga K "Stop") [] (He.ma K (He.ga K "Stop") "__init__") fd_Stop__init_ := F_Stop__init_
  have b_Stop__init_ := funS_bindsN F_Stop__init_ (ps := ["self"]) fun _ _ _ _ _ _ _ us hl => match us, hl with | [_], _ => rfl
  have K_stop : MkC P0 w K mg base CX0 4 (pclz K).stop "Stop" ["self"] (sp_rinit K (pclz K) (pclz K).stop fun H p => RowAt K (pclz K) H p .stop) := ⟨_, _, ok_stopinit (c := pclz K) F_Stop__init_ T Hc (sup_1 F_Part__init_ T (supMB_ok (c.fact 101 rfl))) (fun H => dflB_sq (c.fact 83 rfl) H), mkB_ok (c.fact 102 rfl), (PySem.W.mg_of X G (gloB_ok (c.fact 103 rfl))), b_Stop__init_⟩
  have S_Longer__init__ := supB_ok (P := P0) (mg := mg) (D := (He.ga K "Longer")) (f := (He.ma K (He.ga K "Longer") "__init__")) (by kernel_rfl) hsup (c.fact 105 rfl)
  obtain ⟨fd_Longer__init_, F_Longer__init_⟩ := fy_funS (d := ⟨fun K => (He.ma K (He.ga K "Longer") "__init__"), "__init__", "Longer.__init__", S_Longer__init_, 1⟩) c 14 rfl rfl (c.fact 104 rfl) S_Longer__init__
  have F_Longer__init_ : FunS P0 K mg "__init__" "Longer.__init__" S_Longer__init_ (He.ga K "Longer") [] (He.ma K (He.ga K "Longer") "__init__") fd_Longer__init_ := F_Longer__init_
  have b_Longer__init_ := funS_bindsN F_Longer__init_ (ps := ["self"]) fun _ _ _ _ _ _ _ us hl => match us, hl with | [_], _ => rfl
  have K_longer : MkC P0 w K mg base CX0 4 (pclz K).longer "Longer" ["self"] (sp_rinit K (pclz K) (pclz K).longer fun H p => TstAt K (pclz K) H p .longer) := ⟨_, _, ok_longerinit (c := pclz K) F_Longer__init_ T Hc (sup_1 F_Part__init_ T (supMB_ok (c.fact 106 rfl))) (fun H => dflB_sq (c.fact 83 rfl) H), mkB_ok (c.fact 107 rfl), (PySem.W.mg_of X G (gloB_ok (c.fact 108 rfl))), b_Longer__init_⟩
  have S_Shorter__init__ := supB_ok (P := P0) (mg := mg) (D := (He.ga K "Shorter")) (f := (He.ma K (He.ga K "Shorter") "__init__")) (by kernel_rfl) hsup (c.fact 110 rfl)
  obtain ⟨fd_Shorter__init_, F_Shorter__init_⟩ := fy_funS (d := ⟨fun K => (He.ma K (He.ga K "Shorter") "__init__"), "__init__", "Shorter.__init__", S_Shorter__init_, 1⟩) c 15 rfl rfl (c.fact 109 rfl) S_Shorter__init__
  have F_Shorter__init_ : FunS P0 K mg "__init__" "Shorter.__init__" S_Shorter__init_ (He.ga K "Shorter") [] (He.ma K (He.ga K "Shorter") "__init__") fd_Shorter__init_ := F_Shorter__init_
  have b_Shorter__init_ := funS_bindsN F_Shorter__init_ (ps := ["self"]) fun _ _ _ _ _ _ _ us hl => match us, hl with | [_], _ => rfl
  have K_shorter : MkC P0 w K mg base CX0 4 (pclz K).shorter "Shorter" ["self"] (sp_rinit K (pclz K) (pclz K).shorter fun H p => TstAt K (pclz K) H p .shorter) := ⟨_, _, ok_shorterinit (c := pclz K) F_Shorter__init_ T Hc (sup_1 F_Part__init_ T (supMB_ok (c.fact 111 rfl))) (fun H => dflB_sq (c.fact 83 rfl) H), mkB_ok (c.fact 112 rfl), (PySem.W.mg_of X G (gloB_ok (c.fact 113 rfl))), b_Shorter__init_⟩
  have S_Alike__init__ := supB_ok (P := P0) (mg := mg) (D := (He.ga K "Alike")) (f := (He.ma K (He.ga K "Alike") "__init__")) (by kernel_rfl) hsup (c.fact 115 rfl)
  obtain ⟨fd_Alike__init_, F_Alike__init_⟩ := fy_funS (d := ⟨fun K => (He.ma K (He.ga K "Alike") "__init__"), "__init__", "Alike.__init__", S_Alike__init_, 1⟩) c 16 rfl rfl (c.fact 114 rfl) S_Alike__init__
  have F_Alike__init_ : FunS P0 K mg "__init__" "Alike.__init__" S_Alike__init_ (He.ga K "Alike") [] (He.ma K (He.ga K "Alike") "__init__") fd_Alike__init_ := F_Alike__init_
  have b_Alike__init_ := funS_bindsN F_Alike__init_ (ps := ["self"]) fun _ _ _ _ _ _ _ us hl => match us, hl with | [_], _ => rfl
  have K_alike : MkC P0 w K mg base CX0 4 (pclz K).alike "Alike" ["self"] (sp_rinit K (pclz K) (pclz K).alike fun H p => TstAt K (pclz K) H p .alike) := ⟨_, _, ok_alikeinit (c := pclz K) F_Alike__init_ T Hc (sup_1 F_Part__init_ T (supMB_ok (c.fact 116 rfl))) (fun H => dflB_sq (c.fact 83 rfl) H), mkB_ok (c.fact 117 rfl), (PySem.W.mg_of X G (gloB_ok (c.fact 118 rfl))), b_Alike__init_⟩
  have S_Put__init__ := supB_ok (P := P0) (mg := mg) (D := (He.ga K "Put")) (f := (He.ma K (He.ga K "Put") "__init__")) (by kernel_rfl) hsup (c.fact 120 rfl)
  obtain ⟨fd_Put__init_, F_Put__init_⟩ := fy_funS (d := ⟨fun K => (He.ma K (He.ga K "Put") "__init__"), "__init__", "Put.__init__", S_Put__init_, 1⟩) c 17 rfl rfl (c.fact 119 rfl) S_Put__init__
  have F_Put__init_ : FunS P0 K mg "__init__" "Put.__init__" S_Put__init_ (He.ga K "Put") [] (He.ma K (He.ga K "Put") "__init__") fd_Put__init_ := F_Put__init_
  have b_Put__init_ := funS_bindsN F_Put__init_ (ps := ["self", "note", "number"]) fun _ _ _ _ _ _ _ us hl => match us, hl with | [_, _, _], _ => rfl
  have X_put : MkC P0 w K mg base (L2.CX P0 w) 6 (pclz K).put "Put" ["self", "note", "number"] (sp_nn K (He.ga K "InvalidRow") (pclz K).put fun H x z i => RowAt K (pclz K) H x (.put z i)) := ⟨_, _, ok_putinit (c := pclz K) F_Put__init_ T Hc C_ndname C_ndnum (sup_0 F_Part__init_ T (supMB_ok (c.fact 121 rfl))), mkB_ok (c.fact 122 rfl), (PySem.W.mg_of X G (gloB_ok (c.fact 123 rfl))), b_Put__init_⟩
  have S_Add__init__ := supB_ok (P := P0) (mg := mg) (D := (He.ga K "Add")) (f := (He.ma K (He.ga K "Add") "__init__")) (by kernel_rfl) hsup (c.fact 125 rfl)
  obtain ⟨fd_Add__init_, F_Add__init_⟩ := fy_funS (d := ⟨fun K => (He.ma K (He.ga K "Add") "__init__"), "__init__", "Add.__init__", S_Add__init_, 1⟩) c 18 rfl rfl (c.fact 124 rfl) S_Add__init__
  have F_Add__init_ : FunS P0 K mg "__init__" "Add.__init__" S_Add__init_ (He.ga K "Add") [] (He.ma K (He.ga K "Add") "__init__") fd_Add__init_ := F_Add__init_
  have b_Add__init_ := funS_bindsN F_Add__init_ (ps := ["self", "note", "number"]) fun _ _ _ _ _ _ _ us hl => match us, hl with | [_, _, _], _ => rfl
  have X_add : MkC P0 w K mg base (L2.CX P0 w) 6 (pclz K).add "Add" ["self", "note", "number"] (sp_nn K (He.ga K "InvalidRow") (pclz K).add fun H x z i => RowAt K (pclz K) H x (.add z i)) := ⟨_, _, ok_addinit (c := pclz K) F_Add__init_ T Hc C_ndname C_ndnum (sup_0 F_Part__init_ T (supMB_ok (c.fact 126 rfl))), mkB_ok (c.fact 127 rfl), (PySem.W.mg_of X G (gloB_ok (c.fact 128 rfl))), b_Add__init_⟩
  have S_Holds__init__ := supB_ok (P := P0) (mg := mg) (D := (He.ga K "Holds")) (f := (He.ma K (He.ga K "Holds") "__init__")) (by kernel_rfl) hsup (c.fact 130 rfl)
  obtain ⟨fd_Holds__init_, F_Holds__init_⟩ := fy_funS (d := ⟨fun K => (He.ma K (He.ga K "Holds") "__init__"), "__init__", "Holds.__init__", S_Holds__init_, 1⟩) c 19 rfl rfl (c.fact 129 rfl) S_Holds__init__
  have F_Holds__init_ : FunS P0 K mg "__init__" "Holds.__init__" S_Holds__init_ (He.ga K "Holds") [] (He.ma K (He.ga K "Holds") "__init__") fd_Holds__init_ := F_Holds__init_
  have b_Holds__init_ := funS_bindsN F_Holds__init_ (ps := ["self", "note", "number"]) fun _ _ _ _ _ _ _ us hl => match us, hl with | [_, _, _], _ => rfl
  have X_holds : MkC P0 w K mg base (L2.CX P0 w) 6 (pclz K).holds "Holds" ["self", "note", "number"] (sp_nn K (He.ga K "InvalidRow") (pclz K).holds fun H x z i => TstAt K (pclz K) H x (.holds z i)) := ⟨_, _, ok_holdsinit (c := pclz K) F_Holds__init_ T Hc C_ndname C_ndnum (sup_0 F_Part__init_ T (supMB_ok (c.fact 131 rfl))), mkB_ok (c.fact 132 rfl), (PySem.W.mg_of X G (gloB_ok (c.fact 133 rfl))), b_Holds__init_⟩
  have S_Tell__init__ := supB_ok (P := P0) (mg := mg) (D := (He.ga K "Tell")) (f := (He.ma K (He.ga K "Tell") "__init__")) (by kernel_rfl) hsup (c.fact 136 rfl)
  obtain ⟨fd_Tell__init_, F_Tell__init_⟩ := fy_funS (d := ⟨fun K => (He.ma K (He.ga K "Tell") "__init__"), "__init__", "Tell.__init__", S_Tell__init_, 1⟩) c 20 rfl rfl (c.fact 135 rfl) S_Tell__init__
  have F_Tell__init_ : FunS P0 K mg "__init__" "Tell.__init__" S_Tell__init_ (He.ga K "Tell") [] (He.ma K (He.ga K "Tell") "__init__") fd_Tell__init_ := F_Tell__init_
  have b_Tell__init_ := funS_bindsN F_Tell__init_ (ps := ["self", "mark"]) fun _ _ _ _ _ _ _ us hl => match us, hl with | [_, _], _ => rfl
  have X_tell : MkC P0 w K mg base (L2.CX P0 w) 6 (pclz K).tell "Tell" ["self", "mark"] (sp_mark K (pclz K) (He.ga K "InvalidRow")) := ⟨_, _, ok_tellinit (c := pclz K) F_Tell__init_ T Hc C_ndname (sup_1 F_Part__init_ T (supMB_ok (c.fact 134 rfl))) (fun H => dflB_sq (c.fact 83 rfl) H), mkB_ok (c.fact 137 rfl), (PySem.W.mg_of X G (gloB_ok (c.fact 138 rfl))), b_Tell__init_⟩
  have S_Not__init__ := supB_ok (P := P0) (mg := mg) (D := (He.ga K "Not")) (f := (He.ma K (He.ga K "Not") "__init__")) (by kernel_rfl) hsup (c.fact 141 rfl)
  obtain ⟨fd_Not__init_, F_Not__init_⟩ := fy_funS (d := ⟨fun K => (He.ma K (He.ga K "Not") "__init__"), "__init__", "Not.__init__", S_Not__init_, 1⟩) c 21 rfl rfl (c.fact 140 rfl) S_Not__init__
  have F_Not__init_ : FunS P0 K mg "__init__" "Not.__init__" S_Not__init_ (He.ga K "Not") [] (He.ma K (He.ga K "Not") "__init__") fd_Not__init_ := F_Not__init_
  have b_Not__init_ := funS_bindsN F_Not__init_ (ps := ["self", "test"]) fun _ _ _ _ _ _ _ us hl => match us, hl with | [_, _], _ => rfl
  have X_not : MkC P0 w K mg base (L2.CX P0 w) 6 (pclz K).not "Not" ["self", "test"] (sp_not K (pclz K) (He.ga K "InvalidRow")) := ⟨_, _, ok_notinit (c := pclz K) F_Not__init_ T Hc Hs C_ndtest (sup_0 F_Part__init_ T (supMB_ok (c.fact 139 rfl))), mkB_ok (c.fact 142 rfl), (PySem.W.mg_of X G (gloB_ok (c.fact 143 rfl))), b_Not__init_⟩
  obtain ⟨kV_Change__str_, doc_Change__str_, pm_Change__str_, an_Change__str_, cd_Change__str_, ct_Change__str_, F_Change__str_⟩ := fy_fun (d := ⟨fun K => (He.ma K (He.ga K "Change") "__str__"), "__str__", "Change.__str__", S_Change__str_, 0⟩) c 22 rfl rfl (c.fact 144 rfl)
  have F_Change__str_ : Fun K "__str__" "Change.__str__" S_Change__str_ (He.ma K (He.ga K "Change") "__str__") (PySem.W.fnOf "__str__" "Change.__str__" (defArgs S_Change__str_) (defBody S_Change__str_) (defScope S_Change__str_) .none kV_Change__str_ doc_Change__str_ pm_Change__str_ an_Change__str_ cd_Change__str_ ct_Change__str_) := F_Change__str_
  have b_Change__str_ := F_Change__str_.binds (ps := ["self"]) fun _ _ _ _ _ _ us hl => match us, hl with | [_], _ => rfl
  have M_chstr : MtC P0 w K mg base CX0 1 (He.ga K "Change") "__str__" ["self"] (sp_chstr (pclz K).change) := ⟨_, _, ok_chstr F_Change__str_ T Rc, (mtB_ok (c.fact 145 rfl)), b_Change__str_⟩
  have Fc : FmC K (pclz K).change := fmB_ok (c.fact 146 rfl) (.head _)
  have S_Make__init__ := supB_ok (P := P0) (mg := mg) (D := (He.ga K "Make")) (f := (He.ma K (He.ga K "Make") "__init__")) (by kernel_rfl) hsup (c.fact 149 rfl)
  obtain ⟨fd_Make__init_, F_Make__init_⟩ := fy_funS (d := ⟨fun K => (He.ma K (He.ga K "Make") "__init__"), "__init__", "Make.__init__", S_Make__init_, 1⟩) c 23 rfl rfl (c.fact 148 rfl) S_Make__init__
  have F_Make__init_ : FunS P0 K mg "__init__" "Make.__init__" S_Make__init_ (He.ga K "Make") [] (He.ma K (He.ga K "Make") "__init__") fd_Make__init_ := F_Make__init_
  have b_Make__init_ := funS_bindsN F_Make__init_ (ps := ["self", "change"]) fun _ _ _ _ _ _ _ us hl => match us, hl with | [_, _], _ => rfl
  have X_make : MkC P0 w K mg base (L2.CX P0 w) 6 (pclz K).make "Make" ["self", "change"] (sp_make K (pclz K) (He.ga K "InvalidRow")) := ⟨_, _, ok_makeinit (c := pclz K) F_Make__init_ T Hc Rc M_chstr Fc E_InvalidRow (sup_1 F_Part__init_ T (supMB_ok (c.fact 147 rfl))) (fun H => dflB_sq (c.fact 83 rfl) H), mkB_ok (c.fact 150 rfl), (PySem.W.mg_of X G (gloB_ok (c.fact 39 rfl))), b_Make__init_⟩
  obtain ⟨kV_Change__init_, doc_Change__init_, pm_Change__init_, an_Change__init_, cd_Change__init_, ct_Change__init_, F_Change__init_⟩ := fy_fun (d := ⟨fun K => (He.ma K (He.ga K "Change") "__init__"), "__init__", "Change.__init__", S_Change__init_, 0⟩) c 24 rfl rfl (c.fact 151 rfl)
  have F_Change__init_ : Fun K "__init__" "Change.__init__" S_Change__init_ (He.ma K (He.ga K "Change") "__init__") (PySem.W.fnOf "__init__" "Change.__init__" (defArgs S_Change__init_) (defBody S_Change__init_) (defScope S_Change__init_) .none kV_Change__init_ doc_Change__init_ pm_Change__init_ an_Change__init_ cd_Change__init_ ct_Change__init_) := F_Change__init_
  have b_Change__init_ := F_Change__init_.binds (ps := ["self", "a", "b", "c", "d"]) fun _ _ _ _ _ _ us hl => match us, hl with | [_, _, _, _, _], _ => rfl
  have C_changeX : MkC P0 w K mg base (L2.CX P0 w) 4 (He.ga K "Change") "Change" ["self", "a", "b", "c", "d"] (sp_chinit (pclz K).change (He.ga K "InvalidChange") K) := ⟨_, _, ok_chinit F_Change__init_ T Rc E_InvalidChange C_isint, mkB_ok (c.fact 152 rfl), (PySem.W.mg_of X G (gloB_ok (c.fact 42 rfl))), b_Change__init_⟩
  obtain ⟨kV_lines_of, doc_lines_of, pm_lines_of, an_lines_of, cd_lines_of, ct_lines_of, F_lines_of⟩ := fy_fun (d := ⟨fun K => (He.ga K "lines_of"), "lines_of", "lines_of", S_lines_of, 0⟩) c 25 rfl rfl (c.fact 153 rfl)
  have F_lines_of : Fun K "lines_of" "lines_of" S_lines_of (He.ga K "lines_of") (PySem.W.fnOf "lines_of" "lines_of" (defArgs S_lines_of) (defBody S_lines_of) (defScope S_lines_of) .none kV_lines_of doc_lines_of pm_lines_of an_lines_of cd_lines_of ct_lines_of) := F_lines_of
  have b_lines_of := F_lines_of.binds (ps := ["rows"]) fun _ _ _ _ _ _ us hl => match us, hl with | [_], _ => rfl
  have C_lines : FnC P0 w K mg base CX0 2 "lines_of" ["rows"] (sp_lines K (pclz K)) := ⟨_, _, ok_linesof F_lines_of T Hc, (PySem.W.mg_of X G (gloB_ok (c.fact 154 rfl))), (c.fact 153 rfl), b_lines_of⟩
  obtain ⟨kV_Row_inner, doc_Row_inner, pm_Row_inner, an_Row_inner, cd_Row_inner, ct_Row_inner, F_Row_inner⟩ := fy_fun (d := ⟨fun K => (He.ma K (He.ga K "Row") "inner"), "inner", "Row.inner", S_Row_inner, 0⟩) c 26 rfl rfl (c.fact 155 rfl)
  have F_Row_inner : Fun K "inner" "Row.inner" S_Row_inner (He.ma K (He.ga K "Row") "inner") (PySem.W.fnOf "inner" "Row.inner" (defArgs S_Row_inner) (defBody S_Row_inner) (defScope S_Row_inner) .none kV_Row_inner doc_Row_inner pm_Row_inner an_Row_inner cd_Row_inner ct_Row_inner) := F_Row_inner
  have b_Row_inner := F_Row_inner.binds (ps := ["self"]) fun _ _ _ _ _ _ us hl => match us, hl with | [_], _ => rfl
  obtain ⟨kV_If_inner, doc_If_inner, pm_If_inner, an_If_inner, cd_If_inner, ct_If_inner, F_If_inner⟩ := fy_fun (d := ⟨fun K => (He.ma K (He.ga K "If") "inner"), "inner", "If.inner", S_If_inner, 0⟩) c 27 rfl rfl (c.fact 156 rfl)
  have F_If_inner : Fun K "inner" "If.inner" S_If_inner (He.ma K (He.ga K "If") "inner") (PySem.W.fnOf "inner" "If.inner" (defArgs S_If_inner) (defBody S_If_inner) (defScope S_If_inner) .none kV_If_inner doc_If_inner pm_If_inner an_If_inner cd_If_inner ct_If_inner) := F_If_inner
  have b_If_inner := F_If_inner.binds (ps := ["self"]) fun _ _ _ _ _ _ us hl => match us, hl with | [_], _ => rfl
  obtain ⟨kV_Until_inner, doc_Until_inner, pm_Until_inner, an_Until_inner, cd_Until_inner, ct_Until_inner, F_Until_inner⟩ := fy_fun (d := ⟨fun K => (He.ma K (He.ga K "Until") "inner"), "inner", "Until.inner", S_Until_inner, 0⟩) c 28 rfl rfl (c.fact 157 rfl)
  have F_Until_inner : Fun K "inner" "Until.inner" S_Until_inner (He.ma K (He.ga K "Until") "inner") (PySem.W.fnOf "inner" "Until.inner" (defArgs S_Until_inner) (defBody S_Until_inner) (defScope S_Until_inner) .none kV_Until_inner doc_Until_inner pm_Until_inner an_Until_inner cd_Until_inner ct_Until_inner) := F_Until_inner
  have b_Until_inner := F_Until_inner.binds (ps := ["self"]) fun _ _ _ _ _ _ us hl => match us, hl with | [_], _ => rfl
  obtain ⟨kV_inner_rows, doc_inner_rows, pm_inner_rows, an_inner_rows, cd_inner_rows, ct_inner_rows, F_inner_rows⟩ := fy_fun (d := ⟨fun K => (He.ga K "inner_rows"), "inner_rows", "inner_rows", S_inner_rows, 0⟩) c 29 rfl rfl (c.fact 158 rfl)
  have F_inner_rows : Fun K "inner_rows" "inner_rows" S_inner_rows (He.ga K "inner_rows") (PySem.W.fnOf "inner_rows" "inner_rows" (defArgs S_inner_rows) (defBody S_inner_rows) (defScope S_inner_rows) .none kV_inner_rows doc_inner_rows pm_inner_rows an_inner_rows cd_inner_rows ct_inner_rows) := F_inner_rows
  have b_inner_rows := F_inner_rows.binds (ps := ["rows"]) fun _ _ _ _ _ _ us hl => match us, hl with | [_], _ => rfl
  have M_inner := inner_all (P := P0) (w := w) (base := base) T Hc F_Row_inner F_If_inner F_Until_inner F_inner_rows (fun u hu => fun h => mt_of (meB_ok (c.fact 159 rfl) (flat_mem _ hu)) b_Row_inner h) (fun h => mt_of (mtB_ok (c.fact 160 rfl)) b_If_inner h) (fun h => mt_of (mtB_ok (c.fact 161 rfl)) b_Until_inner h) (fun h => ⟨_, _, h, (PySem.W.mg_of X G (gloB_ok (c.fact 162 rfl))), (c.fact 158 rfl), b_inner_rows⟩)
  have C_irowsA := fun d => (fun h => (⟨_, _, h, (PySem.W.mg_of X G (gloB_ok (c.fact 162 rfl))), (c.fact 158 rfl), b_inner_rows⟩ : FnC P0 w K mg base CX0 (2 * d + 2) "inner_rows" ["rows"] (sp_irows K (pclz K) d))) (ok_irows (d := d) F_inner_rows T Hc (M_inner d))
  obtain ⟨kV_Row_is_laying, doc_Row_is_laying, pm_Row_is_laying, an_Row_is_laying, cd_Row_is_laying, ct_Row_is_laying, F_Row_is_laying⟩ := fy_fun (d := ⟨fun K => (He.ma K (He.ga K "Row") "is_laying"), "is_laying", "Row.is_laying", S_Row_is_laying, 0⟩) c 30 rfl rfl (c.fact 163 rfl)
  have F_Row_is_laying : Fun K "is_laying" "Row.is_laying" S_Row_is_laying (He.ma K (He.ga K "Row") "is_laying") (PySem.W.fnOf "is_laying" "Row.is_laying" (defArgs S_Row_is_laying) (defBody S_Row_is_laying) (defScope S_Row_is_laying) .none kV_Row_is_laying doc_Row_is_laying pm_Row_is_laying an_Row_is_laying cd_Row_is_laying ct_Row_is_laying) := F_Row_is_laying
  have b_Row_is_laying := F_Row_is_laying.binds (ps := ["self"]) fun _ _ _ _ _ _ us hl => match us, hl with | [_], _ => rfl
  obtain ⟨kV_Lay_is_laying, doc_Lay_is_laying, pm_Lay_is_laying, an_Lay_is_laying, cd_Lay_is_laying, ct_Lay_is_laying, F_Lay_is_laying⟩ := fy_fun (d := ⟨fun K => (He.ma K (He.ga K "Lay") "is_laying"), "is_laying", "Lay.is_laying", S_Lay_is_laying, 0⟩) c 31 rfl rfl (c.fact 164 rfl)
  have F_Lay_is_laying : Fun K "is_laying" "Lay.is_laying" S_Lay_is_laying (He.ma K (He.ga K "Lay") "is_laying") (PySem.W.fnOf "is_laying" "Lay.is_laying" (defArgs S_Lay_is_laying) (defBody S_Lay_is_laying) (defScope S_Lay_is_laying) .none kV_Lay_is_laying doc_Lay_is_laying pm_Lay_is_laying an_Lay_is_laying cd_Lay_is_laying ct_Lay_is_laying) := F_Lay_is_laying
  have b_Lay_is_laying := F_Lay_is_laying.binds (ps := ["self"]) fun _ _ _ _ _ _ us hl => match us, hl with | [_], _ => rfl
  obtain ⟨kV_Stop_is_laying, doc_Stop_is_laying, pm_Stop_is_laying, an_Stop_is_laying, cd_Stop_is_laying, ct_Stop_is_laying, F_Stop_is_laying⟩ := fy_fun (d := ⟨fun K => (He.ma K (He.ga K "Stop") "is_laying"), "is_laying", "Stop.is_laying", S_Stop_is_laying, 0⟩) c 32 rfl rfl (c.fact 165 rfl)
  have F_Stop_is_laying : Fun K "is_laying" "Stop.is_laying" S_Stop_is_laying (He.ma K (He.ga K "Stop") "is_laying") (PySem.W.fnOf "is_laying" "Stop.is_laying" (defArgs S_Stop_is_laying) (defBody S_Stop_is_laying) (defScope S_Stop_is_laying) .none kV_Stop_is_laying doc_Stop_is_laying pm_Stop_is_laying an_Stop_is_laying cd_Stop_is_laying ct_Stop_is_laying) := F_Stop_is_laying
  have b_Stop_is_laying := F_Stop_is_laying.binds (ps := ["self"]) fun _ _ _ _ _ _ us hl => match us, hl with | [_], _ => rfl
  obtain ⟨kV_If_is_laying, doc_If_is_laying, pm_If_is_laying, an_If_is_laying, cd_If_is_laying, ct_If_is_laying, F_If_is_laying⟩ := fy_fun (d := ⟨fun K => (He.ma K (He.ga K "If") "is_laying"), "is_laying", "If.is_laying", S_If_is_laying, 0⟩) c 33 rfl rfl (c.fact 166 rfl)
  have F_If_is_laying : Fun K "is_laying" "If.is_laying" S_If_is_laying (He.ma K (He.ga K "If") "is_laying") (PySem.W.fnOf "is_laying" "If.is_laying" (defArgs S_If_is_laying) (defBody S_If_is_laying) (defScope S_If_is_laying) .none kV_If_is_laying doc_If_is_laying pm_If_is_laying an_If_is_laying cd_If_is_laying ct_If_is_laying) := F_If_is_laying
  have b_If_is_laying := F_If_is_laying.binds (ps := ["self"]) fun _ _ _ _ _ _ us hl => match us, hl with | [_], _ => rfl
  obtain ⟨kV_Until_is_laying, doc_Until_is_laying, pm_Until_is_laying, an_Until_is_laying, cd_Until_is_laying, ct_Until_is_laying, F_Until_is_laying⟩ := fy_fun (d := ⟨fun K => (He.ma K (He.ga K "Until") "is_laying"), "is_laying", "Until.is_laying", S_Until_is_laying, 0⟩) c 34 rfl rfl (c.fact 167 rfl)
  have F_Until_is_laying : Fun K "is_laying" "Until.is_laying" S_Until_is_laying (He.ma K (He.ga K "Until") "is_laying") (PySem.W.fnOf "is_laying" "Until.is_laying" (defArgs S_Until_is_laying) (defBody S_Until_is_laying) (defScope S_Until_is_laying) .none kV_Until_is_laying doc_Until_is_laying pm_Until_is_laying an_Until_is_laying cd_Until_is_laying ct_Until_is_laying) := F_Until_is_laying
  have b_Until_is_laying := F_Until_is_laying.binds (ps := ["self"]) fun _ _ _ _ _ _ us hl => match us, hl with | [_], _ => rfl
  obtain ⟨kV_has_laying, doc_has_laying, pm_has_laying, an_has_laying, cd_has_laying, ct_has_laying, F_has_laying⟩ := fy_fun (d := ⟨fun K => (He.ga K "has_laying"), "has_laying", "has_laying", S_has_laying, 0⟩) c 35 rfl rfl (c.fact 168 rfl)
  have F_has_laying : Fun K "has_laying" "has_laying" S_has_laying (He.ga K "has_laying") (PySem.W.fnOf "has_laying" "has_laying" (defArgs S_has_laying) (defBody S_has_laying) (defScope S_has_laying) .none kV_has_laying doc_has_laying pm_has_laying an_has_laying cd_has_laying ct_has_laying) := F_has_laying
  have b_has_laying := F_has_laying.binds (ps := ["rows"]) fun _ _ _ _ _ _ us hl => match us, hl with | [_], _ => rfl
  have M_lays := lays_all (P := P0) (w := w) (base := base) T Hc F_Row_is_laying F_Lay_is_laying F_Stop_is_laying F_If_is_laying F_Until_is_laying F_has_laying (fun u hu hl => fun h => mt_of (meB_ok (c.fact 169 rfl) (idle_mem _ hu hl)) b_Row_is_laying h) (fun h => mt_of (mtB_ok (c.fact 170 rfl)) b_Lay_is_laying h) (fun h => mt_of (mtB_ok (c.fact 171 rfl)) b_Stop_is_laying h) (fun h => mt_of (mtB_ok (c.fact 172 rfl)) b_If_is_laying h) (fun h => mt_of (mtB_ok (c.fact 173 rfl)) b_Until_is_laying h) (fun h => ⟨_, _, h, (PySem.W.mg_of X G (gloB_ok (c.fact 174 rfl))), (c.fact 168 rfl), b_has_laying⟩)
  have C_haslA := fun d => (fun h => (⟨_, _, h, (PySem.W.mg_of X G (gloB_ok (c.fact 174 rfl))), (c.fact 168 rfl), b_has_laying⟩ : FnC P0 w K mg base CX0 (2 * d + 2) "has_laying" ["rows"] (sp_haslay K (pclz K) d))) (ok_haslay (d := d) F_has_laying T Hc (M_lays d))
  obtain ⟨kV_has_make, doc_has_make, pm_has_make, an_has_make, cd_has_make, ct_has_make, F_has_make⟩ := fy_fun (d := ⟨fun K => (He.ga K "has_make"), "has_make", "has_make", S_has_make, 0⟩) c 36 rfl rfl (c.fact 175 rfl)
  have F_has_make : Fun K "has_make" "has_make" S_has_make (He.ga K "has_make") (PySem.W.fnOf "has_make" "has_make" (defArgs S_has_make) (defBody S_has_make) (defScope S_has_make) .none kV_has_make doc_has_make pm_has_make an_has_make cd_has_make ct_has_make) := F_has_make
  have b_has_make := F_has_make.binds (ps := ["rows"]) fun _ _ _ _ _ _ us hl => match us, hl with | [_], _ => rfl
  have C_hasmA := fun d => (fun h => (⟨_, _, h, (PySem.W.mg_of X G (gloB_ok (c.fact 176 rfl))), (c.fact 175 rfl), b_has_make⟩ : FnC P0 w K mg base CX0 (2 * d + 3) "has_make" ["rows"] (sp_hasmake K (pclz K) d))) (ok_hasmake (d := d) F_has_make T Hc (C_irowsA d))
  have S_If__init__ := supB_ok (P := P0) (mg := mg) (D := (He.ga K "If")) (f := (He.ma K (He.ga K "If") "__init__")) (by kernel_rfl) hsup (c.fact 178 rfl)
  obtain ⟨fd_If__init_, F_If__init_⟩ := fy_funE (d := ⟨fun K => (He.ma K (He.ga K "If") "__init__"), "__init__", "If.__init__", S_If__init_, 3⟩) c 37 rfl rfl (c.fact 177 rfl) S_If__init__ (c.fact 179 rfl)
  have F_If__init_ : FunS P0 K mg "__init__" "If.__init__" S_If__init_ (He.ga K "If") [.ref (dfl0 K (He.ma K (He.ga K "If") "__init__"))] (He.ma K (He.ga K "If") "__init__") fd_If__init_ := F_If__init_
  have okif := ok_ifinit (c := pclz K) F_If__init_ T Hc Hs C_ndtest C_ndrows C_lines (sup_0 F_Part__init_ T (supMB_ok (c.fact 180 rfl)))
  have X_ifb : MkC P0 w K mg base (L2.CX P0 w) 6 (pclz K).ifb "If" ["self", "test", "rows", "others"] (sp_if K (pclz K) (He.ga K "InvalidRow")) := ⟨_, _, okif, mkB_ok (c.fact 181 rfl), (PySem.W.mg_of X G (gloB_ok (c.fact 182 rfl))), if_b0 F_If__init_⟩
  have Mi : MkD P0 w K mg base CX0 6 (pclz K).ifb "If" ["self", "test", "rows", "others"] (calm (sp_if K (pclz K) (He.ga K "InvalidRow"))) [.ref (dfl0 K (He.ma K (He.ga K "If") "__init__"))] := mki_of F_If__init_ (mkB_ok (c.fact 181 rfl)) (PySem.W.mg_of X G (gloB_ok (c.fact 182 rfl))) (fn_calm okif)
  have hEi : ∀ H, SqV K H (dfl0 K (He.ma K (He.ga K "If") "__init__")) [] := fun H => sqV_e (dflB_tup (c.fact 179 rfl))
  have S_Until__init__ := supB_ok (P := P0) (mg := mg) (D := (He.ga K "Until")) (f := (He.ma K (He.ga K "Until") "__init__")) (by kernel_rfl) hsup (c.fact 184 rfl)
  obtain ⟨fd_Until__init_, F_Until__init_⟩ := fy_funS (d := ⟨fun K => (He.ma K (He.ga K "Until") "__init__"), "__init__", "Until.__init__", S_Until__init_, 1⟩) c 38 rfl rfl (c.fact 183 rfl) S_Until__init__
  have F_Until__init_ : FunS P0 K mg "__init__" "Until.__init__" S_Until__init_ (He.ga K "Until") [] (He.ma K (He.ga K "Until") "__init__") fd_Until__init_ := F_Until__init_
  have b_Until__init_ := funS_bindsN F_Until__init_ (ps := ["self", "goal", "rows"]) fun _ _ _ _ _ _ _ us hl => match us, hl with | [_, _, _], _ => rfl
  have X_untl : MkC P0 w K mg base (L2.CX P0 w) (2 * 4 + 6) (pclz K).untl "Until" ["self", "goal", "rows"] (sp_untl K (pclz K) (He.ga K "InvalidRow") 4) := ⟨_, _, ok_untlinit (c := pclz K) (d := 4) F_Until__init_ T Hc GG C_ndrows C_lines (C_haslA 4) (C_hasmA 4) E_InvalidRow (sup_1 F_Part__init_ T (supMB_ok (c.fact 185 rfl))) (fun H => dflB_sq (c.fact 83 rfl) H), mkB_ok (c.fact 186 rfl), (PySem.W.mg_of X G (gloB_ok (c.fact 187 rfl))), b_Until__init_⟩
  have Mt : MkT P0 w K mg base (pclz K) (He.ga K "InvalidRow") := ⟨K_longer, K_shorter, K_alike, X_holds.calm, X_not.calm⟩
  have Mr : MkR P0 w K mg base (pclz K) (He.ga K "InvalidRow") (He.ga K "InvalidChange") := ⟨X_make.calm, K_exch, K_lay, K_stop, X_put.calm, X_add.calm, X_tell.calm, X_ifb.calm, X_untl.calm, C_changeX.calm⟩
  obtain ⟨kV__law_draw, doc__law_draw, pm__law_draw, an__law_draw, cd__law_draw, ct__law_draw, F__law_draw⟩ := fy_fun (d := ⟨fun K => (He.ga K "_law_draw"), "_law_draw", "_law_draw", S__law_draw, 0⟩) c 39 rfl rfl (c.fact 188 rfl)
  have F__law_draw : Fun K "_law_draw" "_law_draw" S__law_draw (He.ga K "_law_draw") (PySem.W.fnOf "_law_draw" "_law_draw" (defArgs S__law_draw) (defBody S__law_draw) (defScope S__law_draw) .none kV__law_draw doc__law_draw pm__law_draw an__law_draw cd__law_draw ct__law_draw) := F__law_draw
  have b__law_draw := F__law_draw.binds (ps := ["_law_deal_here", "_law_many"]) fun _ _ _ _ _ _ us hl => match us, hl with | [_, _], _ => rfl
  have C_draw : FnC P0 w K mg base CX0 1 "_law_draw" ["_law_deal_here", "_law_many"] sp_draw := ⟨_, _, ok_draw F__law_draw T , (PySem.W.mg_of X G (gloB_ok (c.fact 189 rfl))), (c.fact 188 rfl), b__law_draw⟩
  obtain ⟨kV__law_pick, doc__law_pick, pm__law_pick, an__law_pick, cd__law_pick, ct__law_pick, F__law_pick⟩ := fy_fun (d := ⟨fun K => (He.ga K "_law_pick"), "_law_pick", "_law_pick", S__law_pick, 0⟩) c 40 rfl rfl (c.fact 190 rfl)
  have F__law_pick : Fun K "_law_pick" "_law_pick" S__law_pick (He.ga K "_law_pick") (PySem.W.fnOf "_law_pick" "_law_pick" (defArgs S__law_pick) (defBody S__law_pick) (defScope S__law_pick) .none kV__law_pick doc__law_pick pm__law_pick an__law_pick cd__law_pick ct__law_pick) := F__law_pick
  have b__law_pick := F__law_pick.binds (ps := ["_law_deal_here", "_law_some"]) fun _ _ _ _ _ _ us hl => match us, hl with | [_, _], _ => rfl
  have C_pick : FnC P0 w K mg base CX0 2 "_law_pick" ["_law_deal_here", "_law_some"] (sp_pick K) := ⟨_, _, ok_pick F__law_pick T C_draw, (PySem.W.mg_of X G (gloB_ok (c.fact 191 rfl))), (c.fact 190 rfl), b__law_pick⟩
  obtain ⟨kV__law_deal, doc__law_deal, pm__law_deal, an__law_deal, cd__law_deal, ct__law_deal, F__law_deal⟩ := fy_fun (d := ⟨fun K => (He.ga K "_law_deal"), "_law_deal", "_law_deal", S__law_deal, 0⟩) c 41 rfl rfl (c.fact 192 rfl)
  have F__law_deal : Fun K "_law_deal" "_law_deal" S__law_deal (He.ga K "_law_deal") (PySem.W.fnOf "_law_deal" "_law_deal" (defArgs S__law_deal) (defBody S__law_deal) (defScope S__law_deal) .none kV__law_deal doc__law_deal pm__law_deal an__law_deal cd__law_deal ct__law_deal) := F__law_deal
  have b__law_deal := F__law_deal.binds (ps := ["_law_script", "_law_base"]) fun _ _ _ _ _ _ us hl => match us, hl with | [_, _], _ => rfl
  have C_deal : FnC P0 w K mg base CX0 1 "_law_deal" ["_law_script", "_law_base"] (sp_deal K) := ⟨_, _, ok_deal F__law_deal T , (PySem.W.mg_of X G (gloB_ok (c.fact 193 rfl))), (c.fact 192 rfl), b__law_deal⟩
  obtain ⟨_, _, _, _, _, _, _, _, _, _, _, _, _, _, x_NoNote⟩ := errB_ok (c.fact 194 rfl)
  have O_NoNote : OexC K (He.ga K "NoNote") := ⟨⟨_, _, _, _, _, _, _, _, _, _, _, _, _, _, _, x_NoNote, by rfl⟩, (of_decide_eq_true (c.fact 195 rfl)), (of_decide_eq_true (c.fact 196 rfl)), (of_decide_eq_true (c.fact 197 rfl)), (c.fact 198 rfl)⟩
  obtain ⟨kV_NoNote__init_, doc_NoNote__init_, pm_NoNote__init_, an_NoNote__init_, cd_NoNote__init_, ct_NoNote__init_, F_NoNote__init_⟩ := fy_fun (d := ⟨fun K => (He.ma K (He.ga K "NoNote") "__init__"), "__init__", "NoNote.__init__", S_NoNote__init_, 0⟩) c 42 rfl rfl (c.fact 199 rfl)
  have F_NoNote__init_ : Fun K "__init__" "NoNote.__init__" S_NoNote__init_ (He.ma K (He.ga K "NoNote") "__init__") (PySem.W.fnOf "__init__" "NoNote.__init__" (defArgs S_NoNote__init_) (defBody S_NoNote__init_) (defScope S_NoNote__init_) .none kV_NoNote__init_ doc_NoNote__init_ pm_NoNote__init_ an_NoNote__init_ cd_NoNote__init_ ct_NoNote__init_) := F_NoNote__init_
  have b_NoNote__init_ := F_NoNote__init_.binds (ps := ["self", "name"]) fun _ _ _ _ _ _ us hl => match us, hl with | [_, _], _ => rfl
  have E_NoNote : Er1 P0 w K mg base "NoNote" (He.ga K "NoNote") "name" "name" := ⟨_, _, (ok_err_NoNote F_NoNote__init_ UE mgU O_NoNote (of_decide_eq_true (c.fact 202 rfl))).mono (by decide), O_NoNote, (of_decide_eq_true (c.fact 200 rfl)), (of_decide_eq_true (c.fact 201 rfl)), (PySem.W.mg_of X G (gloB_ok (c.fact 203 rfl))), b_NoNote__init_⟩
  have Hk0 : Hk K (pclz K) := hk_of (c.fact 204 rfl) (c.fact 205 rfl)
  have Hn : Hm mg (pclz K) := ⟨(PySem.W.mg_of X G (gloB_ok (c.fact 93 rfl))), (PySem.W.mg_of X G (gloB_ok (c.fact 98 rfl))), (PySem.W.mg_of X G (gloB_ok (c.fact 123 rfl))), (PySem.W.mg_of X G (gloB_ok (c.fact 128 rfl))), (PySem.W.mg_of X G (gloB_ok (c.fact 138 rfl))), (PySem.W.mg_of X G (gloB_ok (c.fact 103 rfl))), (PySem.W.mg_of X G (gloB_ok (c.fact 182 rfl))), (PySem.W.mg_of X G (gloB_ok (c.fact 187 rfl))), (PySem.W.mg_of X G (gloB_ok (c.fact 108 rfl))), (PySem.W.mg_of X G (gloB_ok (c.fact 118 rfl))), (PySem.W.mg_of X G (gloB_ok (c.fact 133 rfl))), (PySem.W.mg_of X G (gloB_ok (c.fact 143 rfl)))⟩
  have g_do : GS mg "DO" "do" := let ⟨t, h⟩ := strB_ok (c.fact 206 rfl); ⟨t, PySem.W.mg_of X G h⟩
  have g_test : GS mg "TEST" "test" := let ⟨t, h⟩ := strB_ok (c.fact 207 rfl); ⟨t, PySem.W.mg_of X G h⟩
  have g_look : GS mg "LOOK" "look" := let ⟨t, h⟩ := strB_ok (c.fact 208 rfl); ⟨t, PySem.W.mg_of X G h⟩
  have g_go : GS mg "GO" "go" := let ⟨t, h⟩ := strB_ok (c.fact 209 rfl); ⟨t, PySem.W.mg_of X G h⟩
  have Sg : SG mg := ⟨g_do, g_test, g_look, g_go⟩
  have GO : GT K mg "MODULI" [.int 2, .int 3, .int 4] := gt_ints (is := [2, 3, 4]) (PySem.W.mg_of X G (gloB_ok (c.fact 210 rfl))) (c.fact 211 rfl) (by decide)
  have Pt : PgT K (He.ga K "Program") := ⟨(insNo_ok (c.fact 212 rfl)).1, (insNo_ok (c.fact 212 rfl)).2⟩
  obtain ⟨_, _, _, _, _, _, _, _, _, _, _, _, _, _, x_NoPair⟩ := errB_ok (c.fact 213 rfl)
  have O_NoPair : OexC K (He.ga K "NoPair") := ⟨⟨_, _, _, _, _, _, _, _, _, _, _, _, _, _, _, x_NoPair, by rfl⟩, (of_decide_eq_true (c.fact 214 rfl)), (of_decide_eq_true (c.fact 215 rfl)), (of_decide_eq_true (c.fact 216 rfl)), (c.fact 217 rfl)⟩
  obtain ⟨kV_NoPair__init_, doc_NoPair__init_, pm_NoPair__init_, an_NoPair__init_, cd_NoPair__init_, ct_NoPair__init_, F_NoPair__init_⟩ := fy_fun (d := ⟨fun K => (He.ma K (He.ga K "NoPair") "__init__"), "__init__", "NoPair.__init__", S_NoPair__init_, 0⟩) c 43 rfl rfl (c.fact 218 rfl)
  have F_NoPair__init_ : Fun K "__init__" "NoPair.__init__" S_NoPair__init_ (He.ma K (He.ga K "NoPair") "__init__") (PySem.W.fnOf "__init__" "NoPair.__init__" (defArgs S_NoPair__init_) (defBody S_NoPair__init_) (defScope S_NoPair__init_) .none kV_NoPair__init_ doc_NoPair__init_ pm_NoPair__init_ an_NoPair__init_ cd_NoPair__init_ ct_NoPair__init_) := F_NoPair__init_
  have b_NoPair__init_ := F_NoPair__init_.binds (ps := ["self"]) fun _ _ _ _ _ _ us hl => match us, hl with | [_], _ => rfl
  have E_NoPair : ErC P0 w K mg base "NoPair" (He.ga K "NoPair") := ⟨_, _, (ok_err_NoPair F_NoPair__init_ UE mgU O_NoPair).mono (by decide), O_NoPair, (of_decide_eq_true (c.fact 219 rfl)), (of_decide_eq_true (c.fact 220 rfl)), (PySem.W.mg_of X G (gloB_ok (c.fact 221 rfl))), b_NoPair__init_⟩
  have g_mark : GS mg "MARK" "mark" := let ⟨t, h⟩ := strB_ok (c.fact 222 rfl); ⟨t, PySem.W.mg_of X G h⟩
  have g_row : GS mg "ROW" "row" := let ⟨t, h⟩ := strB_ok (c.fact 223 rfl); ⟨t, PySem.W.mg_of X G h⟩
  have g_lo : GI mg "LONGER" 1 := let ⟨t, h⟩ := intB_ok (c.fact 224 rfl); ⟨t, PySem.W.mg_of X G h⟩
  have g_sh : GI mg "SHORTER" (-1) := let ⟨t, h⟩ := intB_ok (c.fact 225 rfl); ⟨t, PySem.W.mg_of X G h⟩
  have g_al : GI mg "ALIKE" 0 := let ⟨t, h⟩ := intB_ok (c.fact 226 rfl); ⟨t, PySem.W.mg_of X G h⟩
  have Si : SI mg := ⟨g_lo, g_sh, g_al⟩
  have Sm : SM mg := ⟨g_mark, g_row⟩
  have GX : GT K mg "EXCHANGE" [.int 0, .int 1, .int 1, .int 0] := gt_ints (is := [0, 1, 1, 0]) (PySem.W.mg_of X G (gloB_ok (c.fact 227 rfl))) (c.fact 228 rfl) (by decide)
  have St : StT K (He.ga K "Stepper") := ⟨(insNo_ok (c.fact 229 rfl)).1, (insNo_ok (c.fact 229 rfl)).2⟩
  have Ou : OuT K (He.ga K "Outcome") := ⟨(insNo_ok (c.fact 230 rfl)).1, (insNo_ok (c.fact 230 rfl)).2⟩
  have Gd : GD K w mg "GOALS_steps" := gd_of (PySem.W.mg_of X G (gloB_ok (c.fact 231 rfl))) (cu.tab 0 rfl) (c.fact 232 rfl)
  obtain ⟨kV_is_note, doc_is_note, pm_is_note, an_is_note, cd_is_note, ct_is_note, F_is_note⟩ := fy_fun (d := ⟨fun K => (He.ga K "is_note"), "is_note", "is_note", S_is_note, 0⟩) c 44 rfl rfl (c.fact 233 rfl)
  have F_is_note : Fun K "is_note" "is_note" S_is_note (He.ga K "is_note") (PySem.W.fnOf "is_note" "is_note" (defArgs S_is_note) (defBody S_is_note) (defScope S_is_note) .none kV_is_note doc_is_note pm_is_note an_is_note cd_is_note ct_is_note) := F_is_note
  have b_is_note := F_is_note.binds (ps := ["value"]) fun _ _ _ _ _ _ us hl => match us, hl with | [_], _ => rfl
  have C_isnote : FnC P0 w K mg base CX0 3 "is_note" ["value"] sp_isnote := ⟨_, _, ok_isnote F_is_note T GO C_isname C_isint, (PySem.W.mg_of X G (gloB_ok (c.fact 234 rfl))), (c.fact 233 rfl), b_is_note⟩
  obtain ⟨kV_need_notes, doc_need_notes, pm_need_notes, an_need_notes, cd_need_notes, ct_need_notes, F_need_notes⟩ := fy_fun (d := ⟨fun K => (He.ga K "need_notes"), "need_notes", "need_notes", S_need_notes, 0⟩) c 45 rfl rfl (c.fact 235 rfl)
  have F_need_notes : Fun K "need_notes" "need_notes" S_need_notes (He.ga K "need_notes") (PySem.W.fnOf "need_notes" "need_notes" (defArgs S_need_notes) (defBody S_need_notes) (defScope S_need_notes) .none kV_need_notes doc_need_notes pm_need_notes an_need_notes cd_need_notes ct_need_notes) := F_need_notes
  have b_need_notes := F_need_notes.binds (ps := ["notes"]) fun _ _ _ _ _ _ us hl => match us, hl with | [_], _ => rfl
  have C_ndnotes : FnC P0 w K mg base (L2.CX P0 w) 4 "need_notes" ["notes"] (sp_ndnotes K) := ⟨_, _, ok_ndnotes F_need_notes T C_isnote E_InvalidRow, (PySem.W.mg_of X G (gloB_ok (c.fact 236 rfl))), (c.fact 235 rfl), b_need_notes⟩
  obtain ⟨kV_laid_out, doc_laid_out, pm_laid_out, an_laid_out, cd_laid_out, ct_laid_out, F_laid_out⟩ := fy_fun (d := ⟨fun K => (He.ga K "laid_out"), "laid_out", "laid_out", S_laid_out, 0⟩) c 46 rfl rfl (c.fact 237 rfl)
  have F_laid_out : Fun K "laid_out" "laid_out" S_laid_out (He.ga K "laid_out") (PySem.W.fnOf "laid_out" "laid_out" (defArgs S_laid_out) (defBody S_laid_out) (defScope S_laid_out) .none kV_laid_out doc_laid_out pm_laid_out an_laid_out cd_laid_out ct_laid_out) := F_laid_out
  have b_laid_out := F_laid_out.binds (ps := ["rows", "at", "spot"]) fun _ _ _ _ _ _ us hl => match us, hl with | [_, _, _], _ => rfl
  obtain ⟨kV_steps_of_row, doc_steps_of_row, pm_steps_of_row, an_steps_of_row, cd_steps_of_row, ct_steps_of_row, F_steps_of_row⟩ := fy_fun (d := ⟨fun K => (He.ga K "steps_of_row"), "steps_of_row", "steps_of_row", S_steps_of_row, 0⟩) c 47 rfl rfl (c.fact 238 rfl)
  have F_steps_of_row : Fun K "steps_of_row" "steps_of_row" S_steps_of_row (He.ga K "steps_of_row") (PySem.W.fnOf "steps_of_row" "steps_of_row" (defArgs S_steps_of_row) (defBody S_steps_of_row) (defScope S_steps_of_row) .none kV_steps_of_row doc_steps_of_row pm_steps_of_row an_steps_of_row cd_steps_of_row ct_steps_of_row) := F_steps_of_row
  have b_steps_of_row := F_steps_of_row.binds (ps := ["row", "at", "spot"]) fun _ _ _ _ _ _ us hl => match us, hl with | [_, _, _], _ => rfl
  have C_laidA := laid_all (P := P0) (w := w) (base := base) T Hc Hk0 Hn Sg F_laid_out F_steps_of_row (M_inner 4) (C_irowsA 4) (fun h => ⟨_, _, h, (PySem.W.mg_of X G (gloB_ok (c.fact 239 rfl))), (c.fact 237 rfl), b_laid_out⟩) (fun h => ⟨_, _, h, (PySem.W.mg_of X G (gloB_ok (c.fact 240 rfl))), (c.fact 238 rfl), b_steps_of_row⟩)
  obtain ⟨kV_steps_of, doc_steps_of, pm_steps_of, an_steps_of, cd_steps_of, ct_steps_of, F_steps_of⟩ := fy_fun (d := ⟨fun K => (He.ga K "steps_of"), "steps_of", "steps_of", S_steps_of, 0⟩) c 48 rfl rfl (c.fact 241 rfl)
  have F_steps_of : Fun K "steps_of" "steps_of" S_steps_of (He.ga K "steps_of") (PySem.W.fnOf "steps_of" "steps_of" (defArgs S_steps_of) (defBody S_steps_of) (defScope S_steps_of) .none kV_steps_of doc_steps_of pm_steps_of an_steps_of cd_steps_of ct_steps_of) := F_steps_of
  have b_steps_of := F_steps_of.binds (ps := ["rows"]) fun _ _ _ _ _ _ us hl => match us, hl with | [_], _ => rfl
  have C_steps : FnC P0 w K mg base CX0 23 "steps_of" ["rows"] (sp_steps K (pclz K)) := ⟨_, _, ok_steps F_steps_of T (C_laidA 5), (PySem.W.mg_of X G (gloB_ok (c.fact 242 rfl))), (c.fact 241 rfl), b_steps_of⟩
  obtain ⟨fd_Program__init_, F_Program__init_⟩ := fy_funD2 (d := ⟨fun K => (He.ma K (He.ga K "Program") "__init__"), "__init__", "Program.__init__", S_Program__init_, 2⟩) c 49 rfl rfl (c.fact 243 rfl) (c.fact 244 rfl)
  have F_Program__init_ : FunD K "__init__" "Program.__init__" (defArgs S_Program__init_) (defBody S_Program__init_) (defScope S_Program__init_) [.ref (dfl0 K (He.ma K (He.ga K "Program") "__init__")), .ref (dfl1 K (He.ma K (He.ga K "Program") "__init__"))] [] (He.ma K (He.ga K "Program") "__init__") fd_Program__init_ := F_Program__init_
  have okp := (fn_calm (ok_pginit (c := (pclz K)) F_Program__init_ T Hc Pt C_ndnotes C_ndrows (C_irowsA 4) C_steps E_NoNote)).mono (show 24 ≤ 25 by decide)
  have Mp : MkC P0 w K mg base CX0 25 (He.ga K "Program") "Program" ["self", "rows", "notes"] (sp_pginit K (pclz K) (He.ga K "Program")) := mkp_0 F_Program__init_ (mkB_ok (c.fact 245 rfl)) (PySem.W.mg_of X G (gloB_ok (c.fact 246 rfl))) okp
  have Mp1 : MkD P0 w K mg base CX0 25 (He.ga K "Program") "Program" ["self", "rows", "notes"] (sp_pginit K (pclz K) (He.ga K "Program")) [.ref (dfl1 K (He.ma K (He.ga K "Program") "__init__"))] := mkp_1 F_Program__init_ (mkB_ok (c.fact 245 rfl)) (PySem.W.mg_of X G (gloB_ok (c.fact 246 rfl))) okp
  have hEp : ∀ H, SqV K H (dfl1 K (He.ma K (He.ga K "Program") "__init__")) [] := fun H => sqV_e (dfl2B_t1 (c.fact 244 rfl))
  have hEr : ∀ H, SqV K H (dfl0 K (He.ma K (He.ga K "Program") "__init__")) [] := fun H => sqV_e (dfl2B_t0 (c.fact 244 rfl))
  have Mp0 : MkD P0 w K mg base CX0 25 (He.ga K "Program") "Program" ["self", "rows", "notes"] (sp_pginit K (pclz K) (He.ga K "Program")) [.ref (dfl0 K (He.ma K (He.ga K "Program") "__init__")), .ref (dfl1 K (He.ma K (He.ga K "Program") "__init__"))] := mkp_2 F_Program__init_ (mkB_ok (c.fact 245 rfl)) (PySem.W.mg_of X G (gloB_ok (c.fact 246 rfl))) okp
  obtain ⟨kV_wants_order, doc_wants_order, pm_wants_order, an_wants_order, cd_wants_order, ct_wants_order, F_wants_order⟩ := fy_fun (d := ⟨fun K => (He.ga K "wants_order"), "wants_order", "wants_order", S_wants_order, 0⟩) c 50 rfl rfl (c.fact 247 rfl)
  have F_wants_order : Fun K "wants_order" "wants_order" S_wants_order (He.ga K "wants_order") (PySem.W.fnOf "wants_order" "wants_order" (defArgs S_wants_order) (defBody S_wants_order) (defScope S_wants_order) .none kV_wants_order doc_wants_order pm_wants_order an_wants_order cd_wants_order ct_wants_order) := F_wants_order
  have b_wants_order := F_wants_order.binds (ps := ["test"]) fun _ _ _ _ _ _ us hl => match us, hl with | [_], _ => rfl
  obtain ⟨kV_Stepper_holds, doc_Stepper_holds, pm_Stepper_holds, an_Stepper_holds, cd_Stepper_holds, ct_Stepper_holds, F_Stepper_holds⟩ := fy_fun (d := ⟨fun K => (He.ma K (He.ga K "Stepper") "holds"), "holds", "Stepper.holds", S_Stepper_holds, 0⟩) c 51 rfl rfl (c.fact 248 rfl)
  have F_Stepper_holds : Fun K "holds" "Stepper.holds" S_Stepper_holds (He.ma K (He.ga K "Stepper") "holds") (PySem.W.fnOf "holds" "Stepper.holds" (defArgs S_Stepper_holds) (defBody S_Stepper_holds) (defScope S_Stepper_holds) .none kV_Stepper_holds doc_Stepper_holds pm_Stepper_holds an_Stepper_holds cd_Stepper_holds ct_Stepper_holds) := F_Stepper_holds
  have b_Stepper_holds := F_Stepper_holds.binds (ps := ["self", "test"]) fun _ _ _ _ _ _ us hl => match us, hl with | [_, _], _ => rfl
  obtain ⟨kV_numbers_joined, doc_numbers_joined, pm_numbers_joined, an_numbers_joined, cd_numbers_joined, ct_numbers_joined, F_numbers_joined⟩ := fy_fun (d := ⟨fun K => (He.ga K "numbers_joined"), "numbers_joined", "numbers_joined", S_numbers_joined, 0⟩) c 52 rfl rfl (c.fact 249 rfl)
  have F_numbers_joined : Fun K "numbers_joined" "numbers_joined" S_numbers_joined (He.ga K "numbers_joined") (PySem.W.fnOf "numbers_joined" "numbers_joined" (defArgs S_numbers_joined) (defBody S_numbers_joined) (defScope S_numbers_joined) .none kV_numbers_joined doc_numbers_joined pm_numbers_joined an_numbers_joined cd_numbers_joined ct_numbers_joined) := F_numbers_joined
  have b_numbers_joined := F_numbers_joined.binds (ps := ["one", "other"]) fun _ _ _ _ _ _ us hl => match us, hl with | [_, _], _ => rfl
  have C_joined : FnC P0 w K mg base CX0 1 "numbers_joined" ["one", "other"] (sp_joined K) := ⟨_, _, ok_joined F_numbers_joined T , (PySem.W.mg_of X G (gloB_ok (c.fact 250 rfl))), (c.fact 249 rfl), b_numbers_joined⟩
  obtain ⟨kV_order_of, doc_order_of, pm_order_of, an_order_of, cd_order_of, ct_order_of, F_order_of⟩ := fy_fun (d := ⟨fun K => (He.ga K "order_of"), "order_of", "order_of", S_order_of, 0⟩) c 53 rfl rfl (c.fact 251 rfl)
  have F_order_of : Fun K "order_of" "order_of" S_order_of (He.ga K "order_of") (PySem.W.fnOf "order_of" "order_of" (defArgs S_order_of) (defBody S_order_of) (defScope S_order_of) .none kV_order_of doc_order_of pm_order_of an_order_of cd_order_of ct_order_of) := F_order_of
  have b_order_of := F_order_of.binds (ps := ["numbers"]) fun _ _ _ _ _ _ us hl => match us, hl with | [_], _ => rfl
  have C_order : FnC P0 w K mg base CX0 1 "order_of" ["numbers"] (sp_order K) := ⟨_, _, ok_order F_order_of T Si, (PySem.W.mg_of X G (gloB_ok (c.fact 252 rfl))), (c.fact 251 rfl), b_order_of⟩
  have C_wants := wants_all (P := P0) (w := w) (base := base) T Hc Hk0 Hn F_wants_order (fun h => ⟨_, _, h, (PySem.W.mg_of X G (gloB_ok (c.fact 253 rfl))), (c.fact 247 rfl), b_wants_order⟩) 10
  obtain ⟨kV_Stepper__init_, doc_Stepper__init_, pm_Stepper__init_, an_Stepper__init_, cd_Stepper__init_, ct_Stepper__init_, F_Stepper__init_⟩ := fy_fun (d := ⟨fun K => (He.ma K (He.ga K "Stepper") "__init__"), "__init__", "Stepper.__init__", S_Stepper__init_, 0⟩) c 54 rfl rfl (c.fact 254 rfl)
  have F_Stepper__init_ : Fun K "__init__" "Stepper.__init__" S_Stepper__init_ (He.ma K (He.ga K "Stepper") "__init__") (PySem.W.fnOf "__init__" "Stepper.__init__" (defArgs S_Stepper__init_) (defBody S_Stepper__init_) (defScope S_Stepper__init_) .none kV_Stepper__init_ doc_Stepper__init_ pm_Stepper__init_ an_Stepper__init_ cd_Stepper__init_ ct_Stepper__init_) := F_Stepper__init_
  have b_Stepper__init_ := F_Stepper__init_.binds (ps := ["self", "program", "spot", "rests", "numbers"]) fun _ _ _ _ _ _ us hl => match us, hl with | [_, _, _, _, _], _ => rfl
  have C_stepper : MkC P0 w K mg base CX0 2 (He.ga K "Stepper") "Stepper" ["self", "program", "spot", "rests", "numbers"] (sp_stinit K (pclz K) (He.ga K "Program") (He.ga K "Stepper")) := ⟨_, _, ok_stinit F_Stepper__init_ T Pt St, mkB_ok (c.fact 255 rfl), (PySem.W.mg_of X G (gloB_ok (c.fact 256 rfl))), b_Stepper__init_⟩
  obtain ⟨kV_Stepper_place_of, doc_Stepper_place_of, pm_Stepper_place_of, an_Stepper_place_of, cd_Stepper_place_of, ct_Stepper_place_of, F_Stepper_place_of⟩ := fy_fun (d := ⟨fun K => (He.ma K (He.ga K "Stepper") "place_of"), "place_of", "Stepper.place_of", S_Stepper_place_of, 0⟩) c 55 rfl rfl (c.fact 257 rfl)
  have F_Stepper_place_of : Fun K "place_of" "Stepper.place_of" S_Stepper_place_of (He.ma K (He.ga K "Stepper") "place_of") (PySem.W.fnOf "place_of" "Stepper.place_of" (defArgs S_Stepper_place_of) (defBody S_Stepper_place_of) (defScope S_Stepper_place_of) .none kV_Stepper_place_of doc_Stepper_place_of pm_Stepper_place_of an_Stepper_place_of cd_Stepper_place_of ct_Stepper_place_of) := F_Stepper_place_of
  have b_Stepper_place_of := F_Stepper_place_of.binds (ps := ["self", "name"]) fun _ _ _ _ _ _ us hl => match us, hl with | [_, _], _ => rfl
  have M_place : MtC P0 w K mg base CX0 2 (He.ga K "Stepper") "place_of" ["self", "name"] (sp_place K (pclz K) (He.ga K "Stepper")) := ⟨_, _, ok_place F_Stepper_place_of T St, (mtB_ok (c.fact 258 rfl)), b_Stepper_place_of⟩
  obtain ⟨kV_Stepper_lay, doc_Stepper_lay, pm_Stepper_lay, an_Stepper_lay, cd_Stepper_lay, ct_Stepper_lay, F_Stepper_lay⟩ := fy_fun (d := ⟨fun K => (He.ma K (He.ga K "Stepper") "lay"), "lay", "Stepper.lay", S_Stepper_lay, 0⟩) c 56 rfl rfl (c.fact 259 rfl)
  have F_Stepper_lay : Fun K "lay" "Stepper.lay" S_Stepper_lay (He.ma K (He.ga K "Stepper") "lay") (PySem.W.fnOf "lay" "Stepper.lay" (defArgs S_Stepper_lay) (defBody S_Stepper_lay) (defScope S_Stepper_lay) .none kV_Stepper_lay doc_Stepper_lay pm_Stepper_lay an_Stepper_lay cd_Stepper_lay ct_Stepper_lay) := F_Stepper_lay
  have b_Stepper_lay := F_Stepper_lay.binds (ps := ["self"]) fun _ _ _ _ _ _ us hl => match us, hl with | [_], _ => rfl
  have M_lay : MtC P0 w K mg base CX0 2 (He.ga K "Stepper") "lay" ["self"] (sp_slay K (He.ga K "Stepper")) := ⟨_, _, ok_lay F_Stepper_lay T St Si C_order, (mtB_ok (c.fact 260 rfl)), b_Stepper_lay⟩
  have M_holds := holds_all (P := P0) (w := w) (base := base) F_Stepper_holds T Hc Hk0 Hn St Si C_order M_place (fun h => mt_of (mtB_ok (c.fact 261 rfl)) b_Stepper_holds h) 10
  obtain ⟨kV_Stepper_is_waiting, doc_Stepper_is_waiting, pm_Stepper_is_waiting, an_Stepper_is_waiting, cd_Stepper_is_waiting, ct_Stepper_is_waiting, F_Stepper_is_waiting⟩ := fy_fun (d := ⟨fun K => (He.ma K (He.ga K "Stepper") "is_waiting"), "is_waiting", "Stepper.is_waiting", S_Stepper_is_waiting, 0⟩) c 57 rfl rfl (c.fact 262 rfl)
  have F_Stepper_is_waiting : Fun K "is_waiting" "Stepper.is_waiting" S_Stepper_is_waiting (He.ma K (He.ga K "Stepper") "is_waiting") (PySem.W.fnOf "is_waiting" "Stepper.is_waiting" (defArgs S_Stepper_is_waiting) (defBody S_Stepper_is_waiting) (defScope S_Stepper_is_waiting) .none kV_Stepper_is_waiting doc_Stepper_is_waiting pm_Stepper_is_waiting an_Stepper_is_waiting cd_Stepper_is_waiting ct_Stepper_is_waiting) := F_Stepper_is_waiting
  have b_Stepper_is_waiting := F_Stepper_is_waiting.binds (ps := ["self"]) fun _ _ _ _ _ _ us hl => match us, hl with | [_], _ => rfl
  have M_waits : MtC P0 w K mg base CX0 12 (He.ga K "Stepper") "is_waiting" ["self"] (sp_waits K (pclz K) (He.ga K "Stepper")) := ⟨_, _, ok_waits F_Stepper_is_waiting T Hc Hk0 Hn St Sg C_order C_wants, (mtB_ok (c.fact 263 rfl)), b_Stepper_is_waiting⟩
  obtain ⟨kV_Stepper_do, doc_Stepper_do, pm_Stepper_do, an_Stepper_do, cd_Stepper_do, ct_Stepper_do, F_Stepper_do⟩ := fy_fun (d := ⟨fun K => (He.ma K (He.ga K "Stepper") "do"), "do", "Stepper.do", S_Stepper_do, 0⟩) c 58 rfl rfl (c.fact 264 rfl)
  have F_Stepper_do : Fun K "do" "Stepper.do" S_Stepper_do (He.ma K (He.ga K "Stepper") "do") (PySem.W.fnOf "do" "Stepper.do" (defArgs S_Stepper_do) (defBody S_Stepper_do) (defScope S_Stepper_do) .none kV_Stepper_do doc_Stepper_do pm_Stepper_do an_Stepper_do cd_Stepper_do ct_Stepper_do) := F_Stepper_do
  have b_Stepper_do := F_Stepper_do.binds (ps := ["self", "row"]) fun _ _ _ _ _ _ us hl => match us, hl with | [_, _], _ => rfl
  have M_do : MtC P0 w K mg base CX0 3 (He.ga K "Stepper") "do" ["self", "row"] (sp_do K (pclz K) (He.ga K "Stepper")) := ⟨_, _, ok_do F_Stepper_do T Hc Rc Hk0 Hn St Sm GX C_joined M_lay M_place, (mtB_ok (c.fact 265 rfl)), b_Stepper_do⟩
  obtain ⟨kV_Stepper_step, doc_Stepper_step, pm_Stepper_step, an_Stepper_step, cd_Stepper_step, ct_Stepper_step, F_Stepper_step⟩ := fy_fun (d := ⟨fun K => (He.ma K (He.ga K "Stepper") "step"), "step", "Stepper.step", S_Stepper_step, 0⟩) c 59 rfl rfl (c.fact 266 rfl)
  have F_Stepper_step : Fun K "step" "Stepper.step" S_Stepper_step (He.ma K (He.ga K "Stepper") "step") (PySem.W.fnOf "step" "Stepper.step" (defArgs S_Stepper_step) (defBody S_Stepper_step) (defScope S_Stepper_step) .none kV_Stepper_step doc_Stepper_step pm_Stepper_step an_Stepper_step cd_Stepper_step ct_Stepper_step) := F_Stepper_step
  have b_Stepper_step := F_Stepper_step.binds (ps := ["self"]) fun _ _ _ _ _ _ us hl => match us, hl with | [_], _ => rfl
  have M_step : MtC P0 w K mg base CX0 13 (He.ga K "Stepper") "step" ["self"] (sp_step K (pclz K) (He.ga K "Stepper")) := ⟨_, _, ok_step F_Stepper_step T Hc St Sg Sm Si Gd C_order M_holds M_do, (mtB_ok (c.fact 267 rfl)), b_Stepper_step⟩
  obtain ⟨kV_Stepper_go, doc_Stepper_go, pm_Stepper_go, an_Stepper_go, cd_Stepper_go, ct_Stepper_go, F_Stepper_go⟩ := fy_fun (d := ⟨fun K => (He.ma K (He.ga K "Stepper") "go"), "go", "Stepper.go", S_Stepper_go, 0⟩) c 60 rfl rfl (c.fact 268 rfl)
  have F_Stepper_go : Fun K "go" "Stepper.go" S_Stepper_go (He.ma K (He.ga K "Stepper") "go") (PySem.W.fnOf "go" "Stepper.go" (defArgs S_Stepper_go) (defBody S_Stepper_go) (defScope S_Stepper_go) .none kV_Stepper_go doc_Stepper_go pm_Stepper_go an_Stepper_go cd_Stepper_go ct_Stepper_go) := F_Stepper_go
  have b_Stepper_go := F_Stepper_go.binds (ps := ["self"]) fun _ _ _ _ _ _ us hl => match us, hl with | [_], _ => rfl
  have M_go : MtC P0 w K mg base CX0 14 (He.ga K "Stepper") "go" ["self"] (sp_go K (pclz K) (He.ga K "Stepper")) := ⟨_, _, ok_go F_Stepper_go T St M_waits M_step, (mtB_ok (c.fact 269 rfl)), b_Stepper_go⟩
  obtain ⟨kV_is_length, doc_is_length, pm_is_length, an_is_length, cd_is_length, ct_is_length, F_is_length⟩ := fy_fun (d := ⟨fun K => (He.ga K "is_length"), "is_length", "is_length", S_is_length, 0⟩) c 61 rfl rfl (c.fact 270 rfl)
  have F_is_length : Fun K "is_length" "is_length" S_is_length (He.ga K "is_length") (PySem.W.fnOf "is_length" "is_length" (defArgs S_is_length) (defBody S_is_length) (defScope S_is_length) .none kV_is_length doc_is_length pm_is_length an_is_length cd_is_length ct_is_length) := F_is_length
  have b_is_length := F_is_length.binds (ps := ["value"]) fun _ _ _ _ _ _ us hl => match us, hl with | [_], _ => rfl
  have C_islen : FnC P0 w K mg base CX0 2 "is_length" ["value"] (sp_islen K) := ⟨_, _, ok_islen F_is_length T C_isint, (PySem.W.mg_of X G (gloB_ok (c.fact 271 rfl))), (c.fact 270 rfl), b_is_length⟩
  obtain ⟨kV_need_lengths, doc_need_lengths, pm_need_lengths, an_need_lengths, cd_need_lengths, ct_need_lengths, F_need_lengths⟩ := fy_fun (d := ⟨fun K => (He.ga K "need_lengths"), "need_lengths", "need_lengths", S_need_lengths, 0⟩) c 62 rfl rfl (c.fact 272 rfl)
  have F_need_lengths : Fun K "need_lengths" "need_lengths" S_need_lengths (He.ga K "need_lengths") (PySem.W.fnOf "need_lengths" "need_lengths" (defArgs S_need_lengths) (defBody S_need_lengths) (defScope S_need_lengths) .none kV_need_lengths doc_need_lengths pm_need_lengths an_need_lengths cd_need_lengths ct_need_lengths) := F_need_lengths
  have b_need_lengths := F_need_lengths.binds (ps := ["first", "second"]) fun _ _ _ _ _ _ us hl => match us, hl with | [_, _], _ => rfl
  have C_ndlen : FnC P0 w K mg base (L2.CX P0 w) 4 "need_lengths" ["first", "second"] sp_ndlen := ⟨_, _, ok_ndlen F_need_lengths T E_NoPair C_islen, (PySem.W.mg_of X G (gloB_ok (c.fact 273 rfl))), (c.fact 272 rfl), b_need_lengths⟩
  obtain ⟨kV_Outcome__init_, doc_Outcome__init_, pm_Outcome__init_, an_Outcome__init_, cd_Outcome__init_, ct_Outcome__init_, F_Outcome__init_⟩ := fy_fun (d := ⟨fun K => (He.ma K (He.ga K "Outcome") "__init__"), "__init__", "Outcome.__init__", S_Outcome__init_, 0⟩) c 63 rfl rfl (c.fact 274 rfl)
  have F_Outcome__init_ : Fun K "__init__" "Outcome.__init__" S_Outcome__init_ (He.ma K (He.ga K "Outcome") "__init__") (PySem.W.fnOf "__init__" "Outcome.__init__" (defArgs S_Outcome__init_) (defBody S_Outcome__init_) (defScope S_Outcome__init_) .none kV_Outcome__init_ doc_Outcome__init_ pm_Outcome__init_ an_Outcome__init_ cd_Outcome__init_ ct_Outcome__init_) := F_Outcome__init_
  have b_Outcome__init_ := F_Outcome__init_.binds (ps := ["self", "marks", "rods", "stopped", "layings"]) fun _ _ _ _ _ _ us hl => match us, hl with | [_, _, _, _, _], _ => rfl
  have C_outcome : MkC P0 w K mg base CX0 2 (He.ga K "Outcome") "Outcome" ["self", "marks", "rods", "stopped", "layings"] (sp_outinit K (He.ga K "Outcome")) := ⟨_, _, ok_outinit F_Outcome__init_ T Ou, mkB_ok (c.fact 275 rfl), (PySem.W.mg_of X G (gloB_ok (c.fact 276 rfl))), b_Outcome__init_⟩
  obtain ⟨kV_run, doc_run, pm_run, an_run, cd_run, ct_run, F_run⟩ := fy_fun (d := ⟨fun K => (He.ga K "run"), "run", "run", S_run, 0⟩) c 64 rfl rfl (c.fact 277 rfl)
  have F_run : Fun K "run" "run" S_run (He.ga K "run") (PySem.W.fnOf "run" "run" (defArgs S_run) (defBody S_run) (defScope S_run) .none kV_run doc_run pm_run an_run cd_run ct_run) := F_run
  have b_run := F_run.binds (ps := ["program", "first", "second"]) fun _ _ _ _ _ _ us hl => match us, hl with | [_, _, _], _ => rfl
  have C_runX : FnC P0 w K mg base (L2.CX P0 w) 15 "run" ["program", "first", "second"] (sp_run K (pclz K) (He.ga K "Program") (He.ga K "Outcome")) := ⟨_, _, ok_run F_run T Pt St Sm C_ndlen C_stepper M_go C_outcome, (PySem.W.mg_of X G (gloB_ok (c.fact 278 rfl))), (c.fact 277 rfl), b_run⟩
  have C_run : FnC P0 w K mg base CX0 15 "run" ["program", "first", "second"] (sp_runB K (pclz K) (He.ga K "Program") (He.ga K "Outcome")) := run_calm C_runX
  obtain ⟨kV_Program__call_, doc_Program__call_, pm_Program__call_, an_Program__call_, cd_Program__call_, ct_Program__call_, F_Program__call_⟩ := fy_fun (d := ⟨fun K => (He.ma K (He.ga K "Program") "__call__"), "__call__", "Program.__call__", S_Program__call_, 0⟩) c 65 rfl rfl (c.fact 279 rfl)
  have F_Program__call_ : Fun K "__call__" "Program.__call__" S_Program__call_ (He.ma K (He.ga K "Program") "__call__") (PySem.W.fnOf "__call__" "Program.__call__" (defArgs S_Program__call_) (defBody S_Program__call_) (defScope S_Program__call_) .none kV_Program__call_ doc_Program__call_ pm_Program__call_ an_Program__call_ cd_Program__call_ ct_Program__call_) := F_Program__call_
  have b_Program__call_ := F_Program__call_.binds (ps := ["self", "first", "second"]) fun _ _ _ _ _ _ us hl => match us, hl with | [_, _, _], _ => rfl
  have M_pcallX : MtC P0 w K mg base (L2.CX P0 w) 16 (He.ga K "Program") "__call__" ["self", "first", "second"] (sp_runB K (pclz K) (He.ga K "Program") (He.ga K "Outcome")) := ⟨_, _, ok_pgcall F_Program__call_ T C_runX, (mtB_ok (c.fact 280 rfl)), b_Program__call_⟩
  have M_pcall : MtC P0 w K mg base CX0 16 (He.ga K "Program") "__call__" ["self", "first", "second"] (sp_runB K (pclz K) (He.ga K "Program") (He.ga K "Outcome")) := M_pcallX.calm
  have hfnc : ∀ f, Meth K (He.ga K "Program") "__call__" f → PySem.W.fnIn K f = true := meth_fn (mtB_ok (c.fact 280 rfl)) (c.fact 281 rfl)
  obtain ⟨kV__law_number, doc__law_number, pm__law_number, an__law_number, cd__law_number, ct__law_number, F__law_number⟩ := fy_fun (d := ⟨fun K => (He.ga K "_law_number"), "_law_number", "_law_number", S__law_number, 0⟩) c 66 rfl rfl (c.fact 282 rfl)
  have F__law_number : Fun K "_law_number" "_law_number" S__law_number (He.ga K "_law_number") (PySem.W.fnOf "_law_number" "_law_number" (defArgs S__law_number) (defBody S__law_number) (defScope S__law_number) .none kV__law_number doc__law_number pm__law_number an__law_number cd__law_number ct__law_number) := F__law_number
  have b__law_number := F__law_number.binds (ps := ["_law_deal_here"]) fun _ _ _ _ _ _ us hl => match us, hl with | [_], _ => rfl
  have C_num : FnC P0 w K mg base CX0 3 "_law_number" ["_law_deal_here"] sp_num := ⟨_, _, ok_num F__law_number T C_draw, (PySem.W.mg_of X G (gloB_ok (c.fact 283 rfl))), (c.fact 282 rfl), b__law_number⟩
  obtain ⟨kV__law_change, doc__law_change, pm__law_change, an__law_change, cd__law_change, ct__law_change, F__law_change⟩ := fy_fun (d := ⟨fun K => (He.ga K "_law_change"), "_law_change", "_law_change", S__law_change, 0⟩) c 67 rfl rfl (c.fact 284 rfl)
  have F__law_change : Fun K "_law_change" "_law_change" S__law_change (He.ga K "_law_change") (PySem.W.fnOf "_law_change" "_law_change" (defArgs S__law_change) (defBody S__law_change) (defScope S__law_change) .none kV__law_change doc__law_change pm__law_change an__law_change cd__law_change ct__law_change) := F__law_change
  have b__law_change := F__law_change.binds (ps := ["_law_deal_here"]) fun _ _ _ _ _ _ us hl => match us, hl with | [_], _ => rfl
  have C_change : FnC P0 w K mg base CX0 3 "_law_change" ["_law_deal_here"] sp_change := ⟨_, _, ok_change F__law_change T C_pick, (PySem.W.mg_of X G (gloB_ok (c.fact 285 rfl))), (c.fact 284 rfl), b__law_change⟩
  obtain ⟨kV__law_two, doc__law_two, pm__law_two, an__law_two, cd__law_two, ct__law_two, F__law_two⟩ := fy_fun (d := ⟨fun K => (He.ga K "_law_two"), "_law_two", "_law_two", S__law_two, 0⟩) c 68 rfl rfl (c.fact 286 rfl)
  have F__law_two : Fun K "_law_two" "_law_two" S__law_two (He.ga K "_law_two") (PySem.W.fnOf "_law_two" "_law_two" (defArgs S__law_two) (defBody S__law_two) (defScope S__law_two) .none kV__law_two doc__law_two pm__law_two an__law_two cd__law_two ct__law_two) := F__law_two
  have b__law_two := F__law_two.binds (ps := ["_law_deal_here"]) fun _ _ _ _ _ _ us hl => match us, hl with | [_], _ => rfl
  have C_two : FnC P0 w K mg base CX0 4 "_law_two" ["_law_deal_here"] sp_two := ⟨_, _, ok_two F__law_two T C_draw C_pick, (PySem.W.mg_of X G (gloB_ok (c.fact 287 rfl))), (c.fact 286 rfl), b__law_two⟩
  obtain ⟨kV__law_told, doc__law_told, pm__law_told, an__law_told, cd__law_told, ct__law_told, F__law_told⟩ := fy_fun (d := ⟨fun K => (He.ga K "_law_told"), "_law_told", "_law_told", S__law_told, 0⟩) c 69 rfl rfl (c.fact 288 rfl)
  have F__law_told : Fun K "_law_told" "_law_told" S__law_told (He.ga K "_law_told") (PySem.W.fnOf "_law_told" "_law_told" (defArgs S__law_told) (defBody S__law_told) (defScope S__law_told) .none kV__law_told doc__law_told pm__law_told an__law_told cd__law_told ct__law_told) := F__law_told
  have b__law_told := F__law_told.binds (ps := ["_law_outcome"]) fun _ _ _ _ _ _ us hl => match us, hl with | [_], _ => rfl
  have C_told : FnC P0 w K mg base CX0 1 "_law_told" ["_law_outcome"] (sp_told K (He.ga K "Outcome")) := ⟨_, _, ok_told F__law_told T Ou, (PySem.W.mg_of X G (gloB_ok (c.fact 289 rfl))), (c.fact 288 rfl), b__law_told⟩
  obtain ⟨kV__law_simple_right, doc__law_simple_right, pm__law_simple_right, an__law_simple_right, cd__law_simple_right, ct__law_simple_right, F__law_simple_right⟩ := fy_fun (d := ⟨fun K => (He.ga K "_law_simple_right"), "_law_simple_right", "_law_simple_right", S__law_simple_right, 0⟩) c 70 rfl rfl (c.fact 290 rfl)
  have F__law_simple_right : Fun K "_law_simple_right" "_law_simple_right" S__law_simple_right (He.ga K "_law_simple_right") (PySem.W.fnOf "_law_simple_right" "_law_simple_right" (defArgs S__law_simple_right) (defBody S__law_simple_right) (defScope S__law_simple_right) .none kV__law_simple_right doc__law_simple_right pm__law_simple_right an__law_simple_right cd__law_simple_right ct__law_simple_right) := F__law_simple_right
  have b__law_simple_right := F__law_simple_right.binds (ps := ["_law_deal_here", "_law_x", "_law_y"]) fun _ _ _ _ _ _ us hl => match us, hl with | [_, _, _], _ => rfl
  have C_simple : FnC P0 w K mg base CX0 27 "_law_simple_right" ["_law_deal_here", "_law_x", "_law_y"] sp_simple := ⟨_, _, ok_simple (IN := 0) (CC := 0) F__law_simple_right T Hc Rc Mr Mp Mp1 Mp0 hEi hEp hEr C_run hfnc M_pcall C_told C_change, (PySem.W.mg_of X G (gloB_ok (c.fact 291 rfl))), (c.fact 290 rfl), b__law_simple_right⟩
  obtain ⟨kV__law_tests_right, doc__law_tests_right, pm__law_tests_right, an__law_tests_right, cd__law_tests_right, ct__law_tests_right, F__law_tests_right⟩ := fy_fun (d := ⟨fun K => (He.ga K "_law_tests_right"), "_law_tests_right", "_law_tests_right", S__law_tests_right, 0⟩) c 71 rfl rfl (c.fact 292 rfl)
  have F__law_tests_right : Fun K "_law_tests_right" "_law_tests_right" S__law_tests_right (He.ga K "_law_tests_right") (PySem.W.fnOf "_law_tests_right" "_law_tests_right" (defArgs S__law_tests_right) (defBody S__law_tests_right) (defScope S__law_tests_right) .none kV__law_tests_right doc__law_tests_right pm__law_tests_right an__law_tests_right cd__law_tests_right ct__law_tests_right) := F__law_tests_right
  have b__law_tests_right := F__law_tests_right.binds (ps := ["_law_x", "_law_y"]) fun _ _ _ _ _ _ us hl => match us, hl with | [_, _], _ => rfl
  have C_tests : FnC P0 w K mg base CX0 27 "_law_tests_right" ["_law_x", "_law_y"] sp_tests := ⟨_, _, ok_tests F__law_tests_right T Hc Mr Mt Mi Mp Mp1 hEi hEp hEr Ou C_run C_told, (PySem.W.mg_of X G (gloB_ok (c.fact 293 rfl))), (c.fact 292 rfl), b__law_tests_right⟩
  obtain ⟨kV__law_notes_right, doc__law_notes_right, pm__law_notes_right, an__law_notes_right, cd__law_notes_right, ct__law_notes_right, F__law_notes_right⟩ := fy_fun (d := ⟨fun K => (He.ga K "_law_notes_right"), "_law_notes_right", "_law_notes_right", S__law_notes_right, 0⟩) c 72 rfl rfl (c.fact 294 rfl)
  have F__law_notes_right : Fun K "_law_notes_right" "_law_notes_right" S__law_notes_right (He.ga K "_law_notes_right") (PySem.W.fnOf "_law_notes_right" "_law_notes_right" (defArgs S__law_notes_right) (defBody S__law_notes_right) (defScope S__law_notes_right) .none kV__law_notes_right doc__law_notes_right pm__law_notes_right an__law_notes_right cd__law_notes_right ct__law_notes_right) := F__law_notes_right
  have b__law_notes_right := F__law_notes_right.binds (ps := ["_law_deal_here", "_law_x", "_law_y"]) fun _ _ _ _ _ _ us hl => match us, hl with | [_, _, _], _ => rfl
  have C_notes : FnC P0 w K mg base CX0 27 "_law_notes_right" ["_law_deal_here", "_law_x", "_law_y"] sp_simple := ⟨_, _, ok_notes F__law_notes_right T Hc Mr Mt Mi Mp Mp1 hEi hEp hEr Ou C_run C_told C_draw C_num, (PySem.W.mg_of X G (gloB_ok (c.fact 295 rfl))), (c.fact 294 rfl), b__law_notes_right⟩
  obtain ⟨kV__law_until_right, doc__law_until_right, pm__law_until_right, an__law_until_right, cd__law_until_right, ct__law_until_right, F__law_until_right⟩ := fy_fun (d := ⟨fun K => (He.ga K "_law_until_right"), "_law_until_right", "_law_until_right", S__law_until_right, 0⟩) c 73 rfl rfl (c.fact 296 rfl)
  have F__law_until_right : Fun K "_law_until_right" "_law_until_right" S__law_until_right (He.ga K "_law_until_right") (PySem.W.fnOf "_law_until_right" "_law_until_right" (defArgs S__law_until_right) (defBody S__law_until_right) (defScope S__law_until_right) .none kV__law_until_right doc__law_until_right pm__law_until_right an__law_until_right cd__law_until_right ct__law_until_right) := F__law_until_right
  have b__law_until_right := F__law_until_right.binds (ps := ["_law_x", "_law_y"]) fun _ _ _ _ _ _ us hl => match us, hl with | [_, _], _ => rfl
  have C_until : FnC P0 w K mg base CX0 27 "_law_until_right" ["_law_x", "_law_y"] sp_tests := ⟨_, _, ok_until F__law_until_right T Hc Mr Mt Mi Mp Mp1 hEi hEp hEr Ou C_run C_told, (PySem.W.mg_of X G (gloB_ok (c.fact 297 rfl))), (c.fact 296 rfl), b__law_until_right⟩
  exact ok_law F_law T C_deal C_two C_simple C_tests C_notes C_until

end Lw
open PySem PySem.W PyProof.Rows in
set_option maxRecDepth 100000 in
set_option maxHeartbeats 0 in
theorem PySem.Challenge.cw_unmarked_k44_runs_of_single_rows_holds : PySem.Challenge.rw_unmarked_k44_runs_of_single_rows.Holds := by
  w_on; o_law
  refine HandSHeadRun.head_any (r := (PySem.W.OpenLaw.row PySem.Challenge.rw_unmarked_k44_runs_of_single_rows)) (q := view (PySem.W.OpenLaw.row PySem.Challenge.rw_unmarked_k44_runs_of_single_rows).prog [109]) (H := Lw.zhk) (ob := Lw.zob) (M := 20000) (loose := Lw.zls) (d := (HandSHeadRun.topDef (PySem.W.OpenLaw.row PySem.Challenge.rw_unmarked_k44_runs_of_single_rows).prog 109)) (kwd := []) Lw.zob_eq
    (by kernel_rfl) (fun s => by kernel_rfl) Lw.zrun (by kernel_rfl) (by kernel_rfl) (by kernel_rfl) (by rfl) (by first | assumption | decide +kernel) (by decide +kernel) ⟨rfl, rfl, rfl, rfl, rfl, by decide +kernel⟩ ?hw ?hc
  case hw => w_witness2
  case hc =>
    refine L2.walk_ofE (l := PySem.Challenge.rw_unmarked_k44_runs_of_single_rows) (n := 63) (k := 28) (x := "_law_script") (CX := L2.CX0) rfl (by decide) (by kernel_rfl) ⟨rfl, by decide, by decide⟩ ?F (fun _ _ _ _ z => z)
    intro w mg fa h Y G hmg0
    obtain ⟨K, KX, c⟩ := Y
    have hmg : mg ("law" : PySem.Str) = some (.ref fa) := by
      have e : (HandSHeadRun.topDef (PySem.W.OpenLaw.row PySem.Challenge.rw_unmarked_k44_runs_of_single_rows).prog 109).name = ("law" : PySem.Str) := by kernel_rfl
      rw [← e]
      exact hmg0
    obtain ⟨fd, hb, hF⟩ := Lw.zfacts (w := w) KX G hmg c
    exact ⟨K, fd, Lw.Pg.sp_law44 K, KX, hb, fun H a ns hl _ hS => ⟨a, ns, rfl, hS, hl, fun _ => rfl⟩, hF⟩
#print axioms PySem.Challenge.cw_unmarked_k44_runs_of_single_rows_holds
